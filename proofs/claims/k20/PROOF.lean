import PyProof.Rows.All
import Wide.All
import OpenK.AllK
import Wide.FinOn
import HandS.ForMost
import HandS.Walk
import HandS.HeadHook2
import HandS.Star
import HandS.IsInst
import HandS.Style
import HandS.Defaults
import HandS.HeadHook4
import HandS.Head0
import HandS.Head1
import HandS.Head2
import HandS.HeadEnd
import HandS.ReplaceLit
import HandS.ReplaceDef
import HandS.ReplaceList
import KE.GoesMore
import HandS.Deep
import HandS.FStr
import HandS.Conv
import HandS.More
import KE.KUnpackStar
import HandS.DictComp
import KE.KRevSl
import PySem.Challenge.RW_keptslot_k20_whole_deeds_there_and_back
/-! DLa -/
set_option Elab.async false
set_option linter.all false
set_option maxRecDepth 100000
set_option maxHeartbeats 4000000
namespace DL
open PySem L2
/-- data: what a value stands for, objects told by what they hold -/
inductive Dt where
  | non | bl (b : Bool) | int (i : Int) | str (s : Str)
  | lst (ds : List Dt) | tup (ds : List Dt)
  | dct (kvs : List (Str × Dt))
  | ins (C : Str) (fs : List (Str × Dt))

def Ex (H H' : Hp) : Prop := ∀ a o, H a = some o → H' a = some o
theorem Ex.refl (H : Hp) : Ex H H := fun _ _ h => h
theorem Ex.trans {H H1 H2 : Hp} (a : Ex H H1) (b : Ex H1 H2) : Ex H H2 := fun x o h => b x o (a x o h)
theorem Ex.new {H : Hp} {p : Addr} {o : HO} (h : H p = none) : Ex H (upd H p o) := fun a u e => by
  rw [upd_ne (ne_of_none e h)]
  exact e
theorem Ex.mut {H H' : Hp} {p : Addr} {o : HO} (e : Ex H H') (h : H p = none) : Ex H (upd H' p o) := fun a u ha => by
  rw [upd_ne (ne_of_none ha h)]
  exact e a u ha
theorem ex_rd {H H' : Hp} {a : Addr} {u : HO} (e : Ex H H') (h : Rd H a u) : Rd H' a u := by
  rcases h with h | ⟨o, h⟩
  · exact Or.inl (e a _ h)
  · exact Or.inr ⟨o, e a _ h⟩
theorem ex_l {K : PySem.W.Frag} {H H' : Hp} {a : Addr} {xs : List V} (e : Ex H H') (h : SqL K H a xs) : SqL K H' a xs := by
  rcases h with h | h
  · exact Or.inl (ex_rd e h)
  · exact Or.inr h
theorem ex_t {K : PySem.W.Frag} {H H' : Hp} {a : Addr} {xs : List V} (e : Ex H H') (h : SqT K H a xs) : SqT K H' a xs := by
  rcases h with h | h
  · exact Or.inl (ex_rd e h)
  · exact Or.inr h
theorem Ex.free {H H' : Hp} {p : Addr} (e : Ex H H') (h : H' p = none) : H p = none := by
  cases h1 : H p with
  | none => rfl
  | some o =>
    rw [e p o h1] at h
    cases h

mutual
inductive Rep (K : PySem.W.Frag) (H : Hp) : V → Dt → Prop
  | non : Rep K H .non .non
  | bl (b : Bool) : Rep K H (.bl b) (.bl b)
  | int (i : Int) : Rep K H (.int i) (.int i)
  | str (s : Str) : Rep K H (.str s) (.str s)
  | lst {a : Addr} {xs : List V} {ds : List Dt} : H a = some (.lst xs) → RepAll K H xs ds → Rep K H (.ref a) (.lst ds)
  | tup {a : Addr} {xs : List V} {ds : List Dt} : SqT K H a xs → RepAll K H xs ds → Rep K H (.ref a) (.tup ds)
  | dct {a : Addr} {kvs : List (Key × V)} {kds : List (Str × Dt)} : H a = some (.dK kvs) → RepKv K H kvs kds → Rep K H (.ref a) (.dct kds)
  | ins {a dx : Addr} {C : Str} {fs : List (Str × V)} {fds : List (Str × Dt)} : H a = some (.ins (He.ga K C) dx fs) → RepFs K H fs fds → Rep K H (.ref a) (.ins C fds)
inductive RepAll (K : PySem.W.Frag) (H : Hp) : List V → List Dt → Prop
  | nil : RepAll K H [] []
  | cons {v : V} {vs : List V} {d : Dt} {ds : List Dt} : Rep K H v d → RepAll K H vs ds → RepAll K H (v :: vs) (d :: ds)
inductive RepKv (K : PySem.W.Frag) (H : Hp) : List (Key × V) → List (Str × Dt) → Prop
  | nil : RepKv K H [] []
  | cons {k : Str} {v : V} {vs : List (Key × V)} {d : Dt} {ds : List (Str × Dt)} : Rep K H v d → RepKv K H vs ds → RepKv K H ((Sum.inr k, v) :: vs) ((k, d) :: ds)
inductive RepFs (K : PySem.W.Frag) (H : Hp) : List (Str × V) → List (Str × Dt) → Prop
  | nil : RepFs K H [] []
  | cons {k : Str} {v : V} {vs : List (Str × V)} {d : Dt} {ds : List (Str × Dt)} : Rep K H v d → RepFs K H vs ds → RepFs K H ((k, v) :: vs) ((k, d) :: ds)
end

section
variable {K : PySem.W.Frag} {H H' : Hp}
mutual
theorem Rep.mono (e : Ex H H') : ∀ (d : Dt) (v : V), Rep K H v d → Rep K H' v d
  | .non, _, h => by cases h; exact .non
  | .bl b, _, h => by cases h; exact .bl b
  | .int i, _, h => by cases h; exact .int i
  | .str s, _, h => by cases h; exact .str s
  | .lst ds, _, h => by
    cases h with
    | lst h1 h2 => exact .lst (e _ _ h1) (RepAll.mono e ds _ h2)
  | .tup ds, _, h => by
    cases h with
    | tup h1 h2 => exact .tup (ex_t e h1) (RepAll.mono e ds _ h2)
  | .dct kds, _, h => by
    cases h with
    | dct h1 h2 => exact .dct (e _ _ h1) (RepKv.mono e kds _ h2)
  | .ins C fds, _, h => by
    cases h with
    | ins h1 h2 => exact .ins (e _ _ h1) (RepFs.mono e fds _ h2)
theorem RepAll.mono (e : Ex H H') : ∀ (ds : List Dt) (vs : List V), RepAll K H vs ds → RepAll K H' vs ds
  | [], _, h => by cases h; exact .nil
  | d :: ds, _, h => by
    cases h with
    | cons h1 h2 => exact .cons (Rep.mono e d _ h1) (RepAll.mono e ds _ h2)
theorem RepKv.mono (e : Ex H H') : ∀ (ds : List (Str × Dt)) (vs : List (Key × V)), RepKv K H vs ds → RepKv K H' vs ds
  | [], _, h => by cases h; exact .nil
  | (k, d) :: ds, _, h => by
    cases h with
    | cons h1 h2 => exact .cons (Rep.mono e d _ h1) (RepKv.mono e ds _ h2)
theorem RepFs.mono (e : Ex H H') : ∀ (ds : List (Str × Dt)) (vs : List (Str × V)), RepFs K H vs ds → RepFs K H' vs ds
  | [], _, h => by cases h; exact .nil
  | (k, d) :: ds, _, h => by
    cases h with
    | cons h1 h2 => exact .cons (Rep.mono e d _ h1) (RepFs.mono e ds _ h2)
end
theorem RepAll.length : ∀ {vs : List V} {ds : List Dt}, RepAll K H vs ds → vs.length = ds.length
  | [], _, h => by cases h; rfl
  | v :: vs, _, h => by
    cases h with
    | cons h1 h2 => rw [List.length_cons, List.length_cons, RepAll.length h2]
theorem RepAll.get : ∀ {vs : List V} {ds : List Dt} {i : Nat} {d : Dt}, RepAll K H vs ds → ds[i]? = some d → ∃ v, vs[i]? = some v ∧ Rep K H v d
  | _, _, i, _, .nil, e => by simp at e
  | _, _, 0, _, .cons r _, e => by simp at e; subst e; exact ⟨_, rfl, r⟩
  | _, _, i + 1, d, .cons _ t, e => by
    obtain ⟨v, h1, h2⟩ := RepAll.get (i := i) (d := d) t (by simpa using e)
    exact ⟨v, by simpa using h1, h2⟩
theorem RepAll.get' : ∀ {vs : List V} {ds : List Dt} {i : Nat} {v : V}, RepAll K H vs ds → vs[i]? = some v → ∃ d, ds[i]? = some d ∧ Rep K H v d
  | _, _, i, _, .nil, e => by simp at e
  | _, _, 0, _, .cons r _, e => by simp at e; subst e; exact ⟨_, rfl, r⟩
  | _, _, i + 1, v, .cons _ t, e => by
    obtain ⟨d, h1, h2⟩ := RepAll.get' (i := i) (v := v) t (by simpa using e)
    exact ⟨d, by simpa using h1, h2⟩
theorem RepAll.append : ∀ {vs us : List V} {ds es : List Dt}, RepAll K H vs ds → RepAll K H us es → RepAll K H (vs ++ us) (ds ++ es)
  | _, _, _, _, .nil, s => s
  | _, _, _, _, .cons r t, s => .cons r (RepAll.append t s)
theorem RepAll.one {v : V} {d : Dt} (h : Rep K H v d) : RepAll K H [v] [d] := .cons h .nil
theorem RepAll.take : ∀ {vs : List V} {ds : List Dt} (n : Nat), RepAll K H vs ds → RepAll K H (vs.take n) (ds.take n)
  | _, _, 0, _ => .nil
  | _, _, _ + 1, .nil => .nil
  | _, _, n + 1, .cons r t => .cons r (RepAll.take n t)
theorem RepAll.drop : ∀ {vs : List V} {ds : List Dt} (n : Nat), RepAll K H vs ds → RepAll K H (vs.drop n) (ds.drop n)
  | _, _, 0, r => r
  | _, _, _ + 1, .nil => .nil
  | _, _, n + 1, .cons _ t => RepAll.drop n t
theorem RepAll.set {v : V} {d : Dt} (r : Rep K H v d) : ∀ {vs : List V} {ds : List Dt} (i : Nat), RepAll K H vs ds → RepAll K H (vs.set i v) (ds.set i d)
  | _, _, _, .nil => .nil
  | _, _, 0, .cons _ t => .cons r t
  | _, _, i + 1, .cons q t => .cons q (RepAll.set r i t)
theorem RepFs.lookup : ∀ {fs : List (Str × V)} {ds : List (Str × Dt)} {f : Str} {d : Dt}, RepFs K H fs ds → ds.lookup f = some d → ∃ v, fs.lookup f = some v ∧ Rep K H v d
  | _, _, _, _, .nil, e => by simp at e
  | _, _, f, d, .cons (k := k) r t, e => by
    rw [List.lookup_cons] at e ⊢
    cases q : (f == k) with
    | true => rw [q] at e; cases e; exact ⟨_, rfl, r⟩
    | false => rw [q] at e; exact RepFs.lookup t e
theorem RepKv.find : ∀ {kvs : List (Key × V)} {ds : List (Str × Dt)} {f : Str} {d : Dt}, RepKv K H kvs ds → ds.lookup f = some d → ∃ v, valV kvs (Sum.inr f) = some v ∧ Rep K H v d
  | _, _, _, _, .nil, e => by simp at e
  | _, _, f, d, .cons (k := k) r t, e => by
    rw [List.lookup_cons] at e
    cases q : (f == k) with
    | true =>
      rw [q] at e; cases e
      have e2 : f = k := eq_of_beq q
      subst e2
      refine ⟨_, ?_, r⟩
      unfold valV
      rw [List.find?_cons_of_pos (by simp)] <;> rfl
    | false =>
      rw [q] at e
      obtain ⟨v, h1, h2⟩ := RepKv.find t e
      refine ⟨v, ?_, h2⟩
      unfold valV at h1 ⊢
      rw [List.find?_cons_of_neg (by
        intro z
        have z2 : (Sum.inr k : Key) = Sum.inr f := of_decide_eq_true z
        have z3 : k = f := Sum.inr.inj z2
        rw [z3] at q
        simp at q)]
      exact h1
theorem Rep.lst_inv {v : V} {ds : List Dt} (h : Rep K H v (.lst ds)) : ∃ a xs, v = .ref a ∧ H a = some (.lst xs) ∧ RepAll K H xs ds := by
  cases h with
  | lst h1 h2 => exact ⟨_, _, rfl, h1, h2⟩
theorem Rep.tup_inv {v : V} {ds : List Dt} (h : Rep K H v (.tup ds)) : ∃ a xs, v = .ref a ∧ SqT K H a xs ∧ RepAll K H xs ds := by
  cases h with
  | tup h1 h2 => exact ⟨_, _, rfl, h1, h2⟩
theorem Rep.dct_inv {v : V} {ds : List (Str × Dt)} (h : Rep K H v (.dct ds)) : ∃ a kvs, v = .ref a ∧ H a = some (.dK kvs) ∧ RepKv K H kvs ds := by
  cases h with
  | dct h1 h2 => exact ⟨_, _, rfl, h1, h2⟩
theorem Rep.ins_inv {v : V} {C : Str} {ds : List (Str × Dt)} (h : Rep K H v (.ins C ds)) : ∃ a dx fs, v = .ref a ∧ H a = some (.ins (He.ga K C) dx fs) ∧ RepFs K H fs ds := by
  cases h with
  | ins h1 h2 => exact ⟨_, _, _, rfl, h1, h2⟩
theorem Rep.int_inv {v : V} {i : Int} (h : Rep K H v (.int i)) : v = .int i := by cases h; rfl
theorem Rep.str_inv {v : V} {s : Str} (h : Rep K H v (.str s)) : v = .str s := by cases h; rfl
theorem Rep.bl_inv {v : V} {b : Bool} (h : Rep K H v (.bl b)) : v = .bl b := by cases h; rfl
theorem Rep.non_inv {v : V} (h : Rep K H v .non) : v = .non := by cases h; rfl
end

def IsBox (o : HO) : Prop := ∃ i j : Int, o = .lst [.int i, .int j]
structure Step (Hs H Hs' H' : Hp) : Prop where
  fz : Ex Hs Hs'
  sub : Ex Hs' H'
  new : ∀ a, H a ≠ none → Hs a = none → Hs' a = none
  keep : ∀ a o, H a = some o → ¬ IsBox o → H' a = some o
  box : ∀ a o, H a = some o → IsBox o → ∃ o', H' a = some o' ∧ IsBox o'
section
variable {Hs H Hs1 H1 Hs2 H2 : Hp}
theorem Step.refl (s : Ex Hs H) : Step Hs H Hs H := ⟨Ex.refl _, s, fun _ _ h => h, fun _ _ h _ => h, fun _ o h b => ⟨o, h, b⟩⟩
theorem Step.there (a : Step Hs H Hs1 H1) {p : Addr} (h : H p ≠ none) : H1 p ≠ none := by
  cases e : H p with
  | none => exact (h e).elim
  | some o =>
    by_cases hb : IsBox o
    · obtain ⟨o', h1, _⟩ := a.box p o e hb
      rw [h1]; exact fun z => nomatch z
    · rw [a.keep p o e hb]; exact fun z => nomatch z
theorem Step.trans (a : Step Hs H Hs1 H1) (b : Step Hs1 H1 Hs2 H2) : Step Hs H Hs2 H2 :=
  ⟨a.fz.trans b.fz, b.sub, fun p h1 h2 => b.new p (a.there h1) (a.new p h1 h2), fun p o h hb => b.keep p o (a.keep p o h hb) hb, fun p o h hb => by
    obtain ⟨o1, h1, hb1⟩ := a.box p o h hb
    exact b.box p o1 h1 hb1⟩
theorem Step.free (a : Step Hs H Hs1 H1) {p : Addr} (h : H1 p = none) : H p = none := by
  cases e : H p with
  | none => rfl
  | some o => exact (a.there (by rw [e]; exact fun z => nomatch z) h).elim
/-- a new object, frozen at once -/
theorem Step.newF (s : Ex Hs H) {p : Addr} {o : HO} (h : H p = none) : Step Hs H (upd Hs p o) (upd H p o) := by
  have hp : Hs p = none := s.free h
  refine ⟨Ex.new hp, fun a u e => ?_, fun a h1 h2 => ?_, fun a u e _ => Ex.new h a u e, fun a u e hb => ⟨u, Ex.new h a u e, hb⟩⟩
  · by_cases ha : a = p
    · subst ha; rw [upd_same] at e ⊢; exact e
    · rw [upd_ne ha] at e ⊢; exact s a u e
  · have ha : a ≠ p := fun z => by subst z; exact h1 h
    rw [upd_ne ha]; exact h2
/-- a new object, not frozen -/
theorem Step.newM (s : Ex Hs H) {p : Addr} {o : HO} (h : H p = none) : Step Hs H Hs (upd H p o) :=
  ⟨Ex.refl _, s.trans (Ex.new h), fun _ _ h2 => h2, fun a u e _ => Ex.new h a u e, fun a u e hb => ⟨u, Ex.new h a u e, hb⟩⟩
/-- what is new since the start is frozen -/
theorem Step.freeze (a : Step Hs H Hs1 H1) {p : Addr} {o : HO} (h : H p = none) (h1 : H1 p = some o) (h2 : Hs1 p = none) : Step Hs H (upd Hs1 p o) H1 :=
  ⟨a.fz.trans (Ex.new h2), fun b u e => by
    by_cases hb : b = p
    · subst hb; rw [upd_same] at e; cases e; exact h1
    · rw [upd_ne hb] at e; exact a.sub b u e, fun b hb hn => by
    have hbp : b ≠ p := fun z => by subst z; exact hb h
    rw [upd_ne hbp]; exact a.new b hb hn, a.keep, a.box⟩
/-- what is new since the start is changed -/
theorem Step.mut (a : Step Hs H Hs1 H1) {p : Addr} {o : HO} (h : H p = none) (h2 : Hs1 p = none) : Step Hs H Hs1 (upd H1 p o) :=
  ⟨a.fz, a.sub.mut h2, a.new, fun b u e hb => by
    rw [upd_ne (ne_of_none e h)]; exact a.keep b u e hb, fun b u e hb => by
    rw [upd_ne (ne_of_none e h)]; exact a.box b u e hb⟩
/-- a box is changed -/
theorem Step.mutB (a : Step Hs H Hs1 H1) {p : Addr} {o o' : HO} (h1 : H1 p = some o) (hb : IsBox o) (hb' : IsBox o') (h2 : Hs1 p = none) : Step Hs H Hs1 (upd H1 p o') :=
  ⟨a.fz, a.sub.mut h2, a.new, fun b u e hn => by
    have hbp : b ≠ p := fun z => by
      subst z
      have q := a.keep b u e hn
      rw [h1] at q; cases q
      exact hn hb
    rw [upd_ne hbp]; exact a.keep b u e hn, fun b u e hn => by
    by_cases hbp : b = p
    · subst hbp; exact ⟨o', upd_same, hb'⟩
    · rw [upd_ne hbp]; exact a.box b u e hn⟩
end

inductive Sl where
  | un
  | dat (d : Dt)
  | ml (ds : List Dt)
  | box
  | scr (ns : List Int)
  | md (kvs : List (Str × Dt))
  | own (p : Addr) (C : Str) (fs : List (Str × Dt))
def notInt : Dt → Bool
  | .int _ => false
  | _ => true
def SlOk (K : PySem.W.Frag) (Hs H : Hp) (v : Option (Option V)) : Sl → Prop
  | .un => True
  | .dat d => ∃ x, v = some (some x) ∧ Rep K Hs x d
  | .ml ds => ∃ p xs, v = some (some (.ref p)) ∧ Hs p = none ∧ H p = some (.lst xs) ∧ RepAll K Hs xs ds ∧ ds.all notInt = true
  | .box => ∃ p o, v = some (some (.ref p)) ∧ Hs p = none ∧ H p = some o ∧ IsBox o
  | .scr ns => ∃ a, v = some (some (.ref a)) ∧ SqL K Hs a (ns.map V.int)
  | .md kds => ∃ p kvs, v = some (some (.ref p)) ∧ Hs p = none ∧ H p = some (.dK kvs) ∧ RepKv K Hs kvs kds
  | .own p C fds => ∃ dx fs, v = some (some (.ref p)) ∧ Hs p = none ∧ H p = some (.ins (He.ga K C) dx fs) ∧ RepFs K Hs fs fds
theorem notBox {K : PySem.W.Frag} {Hs : Hp} {xs : List V} {ds : List Dt} (h : RepAll K Hs xs ds) (hn : ds.all notInt = true) : ¬ IsBox (.lst xs) := by
  rintro ⟨i, j, e⟩
  cases e
  cases h with
  | cons h1 h2 => cases h1; cases hn
structure En (K : PySem.W.Frag) (Hs H : Hp) (σ : St) (ρ : List Sl) : Prop where
  sub : Ex Hs H
  len : σ.length = ρ.length
  sl : ∀ (i : Nat) (s : Sl), ρ[i]? = some s → SlOk K Hs H (σ[i]?) s
  dis : ∀ (i j : Nat) (di dj : List Dt), ρ[i]? = some (.ml di) → ρ[j]? = some (.ml dj) → i ≠ j → σ[i]? ≠ σ[j]?
section
variable {K : PySem.W.Frag} {Hs H Hs' H' : Hp} {σ : St} {ρ : List Sl}
theorem SlOk.step (t : Step Hs H Hs' H') {v : Option (Option V)} : ∀ {s : Sl}, SlOk K Hs H v s → SlOk K Hs' H' v s
  | .un, _ => trivial
  | .dat d, ⟨x, h1, h2⟩ => ⟨x, h1, Rep.mono t.fz d x h2⟩
  | .ml ds, ⟨p, xs, h1, h2, h3, h4, h5⟩ => ⟨p, xs, h1, t.new p (by rw [h3]; exact fun z => nomatch z) h2, t.keep p _ h3 (notBox h4 h5), RepAll.mono t.fz ds xs h4, h5⟩
  | .box, ⟨p, o, h1, h2, h3, h4⟩ => by
    obtain ⟨o', h5, h6⟩ := t.box p o h3 h4
    exact ⟨p, o', h1, t.new p (by rw [h3]; exact fun z => nomatch z) h2, h5, h6⟩
  | .scr ns, ⟨a, h1, h2⟩ => ⟨a, h1, ex_l t.fz h2⟩
  | .md kds, ⟨p, kvs, h1, h2, h3, h4⟩ => ⟨p, kvs, h1, t.new p (by rw [h3]; exact fun z => nomatch z) h2, t.keep p _ h3 (fun ⟨_, _, z⟩ => nomatch z), RepKv.mono t.fz kds kvs h4⟩
  | .own p C fds, ⟨dx, fs, h1, h2, h3, h4⟩ => ⟨dx, fs, h1, t.new p (by rw [h3]; exact fun z => nomatch z) h2, t.keep p _ h3 (fun ⟨_, _, z⟩ => nomatch z), RepFs.mono t.fz fds fs h4⟩
theorem En.step (e : En K Hs H σ ρ) (t : Step Hs H Hs' H') : En K Hs' H' σ ρ := ⟨t.sub, e.len, fun i s h => (e.sl i s h).step t, e.dis⟩
theorem En.dat (e : En K Hs H σ ρ) {i : Nat} {d : Dt} (h : ρ[i]? = some (.dat d)) : ∃ x, σ[i]? = some (some x) ∧ Rep K Hs x d := e.sl i _ h
/-- a name gets data -/
theorem En.setD (e : En K Hs H σ ρ) {i : Nat} {v : V} {d : Dt} (h : Rep K Hs v d) : En K Hs H (σ.set i (some v)) (ρ.set i (.dat d)) := by
  refine ⟨e.sub, by rw [List.length_set, List.length_set, e.len], fun j s hj => ?_, fun j k dj dk h1 h2 hjk => ?_⟩
  · by_cases hji : i = j
    · subst hji
      have hl : i < ρ.length := by
        by_cases q : i < ρ.length
        · exact q
        · rw [List.getElem?_eq_none (by rw [List.length_set]; omega)] at hj; cases hj
      rw [List.getElem?_set_self hl] at hj
      cases hj
      exact ⟨v, List.getElem?_set_self (by rw [e.len]; exact hl), h⟩
    · rw [List.getElem?_set_ne hji] at hj ⊢
      exact e.sl j s hj
  · have a1 : i ≠ j := fun z => by
      subst z
      by_cases q : i < ρ.length
      · rw [List.getElem?_set_self q] at h1; cases h1
      · rw [List.getElem?_eq_none (by rw [List.length_set]; omega)] at h1; cases h1
    have a2 : i ≠ k := fun z => by
      subst z
      by_cases q : i < ρ.length
      · rw [List.getElem?_set_self q] at h2; cases h2
      · rw [List.getElem?_eq_none (by rw [List.length_set]; omega)] at h2; cases h2
    rw [List.getElem?_set_ne a1] at h1 ⊢
    rw [List.getElem?_set_ne a2] at h2 ⊢
    exact e.dis j k dj dk h1 h2 hjk
/-- a name gets a new list that is not in a slot -/
theorem En.setL (e : En K Hs H σ ρ) {i : Nat} {p : Addr} {xs : List V} {ds : List Dt} (hp : Hs p = none) (hH : H p = some (.lst xs)) (h : RepAll K Hs xs ds) (hn : ds.all notInt = true)
    (hf : ∀ (j : Nat) (dj : List Dt) (q : Addr), j ≠ i → ρ[j]? = some (.ml dj) → σ[j]? = some (some (.ref q)) → q ≠ p) : En K Hs H (σ.set i (some (.ref p))) (ρ.set i (.ml ds)) := by
  have key : ∀ (j : Nat) (dj : List Dt), i ≠ j → ρ[j]? = some (.ml dj) → σ[j]? ≠ some (some (.ref p)) := fun j dj hij h1 z => by
    exact hf j dj p (Ne.symm hij) h1 z rfl
  refine ⟨e.sub, by rw [List.length_set, List.length_set, e.len], fun j s hj => ?_, fun j k dj dk h1 h2 hjk => ?_⟩
  · by_cases hji : i = j
    · subst hji
      have hl : i < ρ.length := by
        by_cases q : i < ρ.length
        · exact q
        · rw [List.getElem?_eq_none (by rw [List.length_set]; omega)] at hj; cases hj
      rw [List.getElem?_set_self hl] at hj
      cases hj
      exact ⟨p, xs, List.getElem?_set_self (by rw [e.len]; exact hl), hp, hH, h, hn⟩
    · rw [List.getElem?_set_ne hji] at hj ⊢
      exact e.sl j s hj
  · by_cases hij : i = j
    · subst hij
      have hik : i ≠ k := hjk
      have hl : i < σ.length := by
        rw [e.len]
        by_cases q : i < ρ.length
        · exact q
        · rw [List.getElem?_eq_none (by rw [List.length_set]; omega)] at h1; cases h1
      rw [List.getElem?_set_self hl, List.getElem?_set_ne hik]
      rw [List.getElem?_set_ne hik] at h2
      exact fun z => key k dk hik h2 z.symm
    · by_cases hik : i = k
      · subst hik
        have hl : i < σ.length := by
          rw [e.len]
          by_cases q : i < ρ.length
          · exact q
          · rw [List.getElem?_eq_none (by rw [List.length_set]; omega)] at h2; cases h2
        rw [List.getElem?_set_self hl, List.getElem?_set_ne hij]
        rw [List.getElem?_set_ne hij] at h1
        exact key j dj hij h1
      · rw [List.getElem?_set_ne hij] at h1 ⊢
        rw [List.getElem?_set_ne hik] at h2 ⊢
        exact e.dis j k dj dk h1 h2 hjk
/-- slots forgotten -/
theorem En.weak {ρ' : List Sl} {σ' : St} (e : En K Hs H σ ρ) (hl : ρ'.length = ρ.length) (hs : σ'.length = σ.length) (h : ∀ (i : Nat) (s : Sl), ρ'[i]? = some s → s ≠ .un → ρ[i]? = some s ∧ σ'[i]? = σ[i]?) : En K Hs H σ' ρ' := by
  refine ⟨e.sub, by rw [hl, hs, e.len], fun i s hi => ?_, fun i j di dj h1 h2 hij => ?_⟩
  · cases s with
    | un => trivial
    | dat d => obtain ⟨q, z⟩ := h i _ hi (fun z => nomatch z); rw [z]; exact e.sl i _ q
    | ml d => obtain ⟨q, z⟩ := h i _ hi (fun z => nomatch z); rw [z]; exact e.sl i _ q
    | box => obtain ⟨q, z⟩ := h i _ hi (fun z => nomatch z); rw [z]; exact e.sl i _ q
    | scr ns => obtain ⟨q, z⟩ := h i _ hi (fun z => nomatch z); rw [z]; exact e.sl i _ q
    | md ns => obtain ⟨q, z⟩ := h i _ hi (fun z => nomatch z); rw [z]; exact e.sl i _ q
    | own p C ns => obtain ⟨q, z⟩ := h i _ hi (fun z => nomatch z); rw [z]; exact e.sl i _ q
  · obtain ⟨q1, z1⟩ := h i _ h1 (fun z => nomatch z)
    obtain ⟨q2, z2⟩ := h j _ h2 (fun z => nomatch z)
    rw [z1, z2]
    exact e.dis i j di dj q1 q2 hij
end
end DL
/-! DLb -/
set_option Elab.async false
set_option linter.all false
set_option maxRecDepth 100000
set_option maxHeartbeats 4000000
namespace DL
open PySem PySem.Spec PyProof.Rows L2
section
variable {X : Cx}
def wpE (X : Cx) (e : Expr) : TE := fun σ H Q => ∀ pins s, Inv X pins σ H s → wpAny (model X.prog X.w) X.A (eval e X.env) (EP X pins σ Q) X.xe s
def wpT (X : Cx) (e : Expr) : TT := fun σ H Q => ∀ pins s, Inv X pins σ H s → wpAny (model X.prog X.w) X.A (isTrue e X.env (eval e X.env)) (TP X pins σ Q) X.xe s
def wpA (X : Cx) (es : List Expr) : TA := fun σ H Q => ∀ (pos : Pos) pins s, Inv X pins σ H s → wpAny (model X.prog X.w) X.A (spliced (backTo pos (starEach es X.env))) (AP X pins σ Q) X.xe s
def wpG (X : Cx) (tg : Expr) : TG := fun v σ H Q => ∀ pins s u, Inv X pins σ H s → RelV v u → wpAny (model X.prog X.w) X.A (assign tg X.env u) (fun _ s' => ∃ σ' H', Inv X pins σ' H' s' ∧ Q σ' H') X.xe s
def wpI (X : Cx) (tg iter : Expr) : TI := fun σ H R => ∀ pins s, Inv X pins σ H s → wpAny (model X.prog X.w) X.A (eval iter X.env) (fun v s1 => wpAny (model X.prog X.w) X.A (pyIter v) (PIE X pins σ tg R) X.xe s1) X.xe s
def wpO (X : Cx) (f : Value → Value → Sem Value) : R2 := fun x y H Q => ∀ pins s σ v u, Inv X pins σ H s → RelV x v → RelV y u → wpAny (model X.prog X.w) X.A (f v u) (EP X pins σ Q) X.xe s
theorem pe_wp {e : Expr} : PE X e (wpE X e) := ⟨fun pins s σ H Q I h => h pins s I⟩
theorem pt_wp {e : Expr} : PT X e (wpT X e) := ⟨fun pins s σ H Q I h => h pins s I⟩
theorem pa_wp {es : List Expr} : PA X es (wpA X es) := ⟨fun pos pins s σ H Q I h => h pos pins s I⟩
theorem pg_wp {tg : Expr} : PG X tg (wpG X tg) := ⟨fun pins s σ H v u Q I r h => h pins s u I r⟩
theorem pi_wp {tg iter : Expr} : PI X tg iter (wpI X tg iter) := ⟨fun pins s σ H R I h => h pins s I⟩
theorem op_wp {f : Value → Value → Sem Value} : OpR X f (wpO X f) := fun pins s σ H x y v u Q I rx ry h => h pins s σ v u I rx ry
theorem wpE_of {e : Expr} {t : TE} (h : PE X e t) {σ : L2.St} {H : Hp} {Q : VK} (q : t σ H Q) : wpE X e σ H Q := fun pins s I => h.run pins s σ H Q I q
theorem wpT_of {e : Expr} {t : TT} (h : PT X e t) {σ : L2.St} {H : Hp} {Q : Bool → Hp → Prop} (q : t σ H Q) : wpT X e σ H Q := fun pins s I => h.run pins s σ H Q I q
theorem wpA_of {es : List Expr} {t : TA} (h : PA X es t) {σ : L2.St} {H : Hp} {Q : List V → Hp → Prop} (q : t σ H Q) : wpA X es σ H Q := fun pos pins s I => h.run pos pins s σ H Q I q
theorem wpG_of {tg : Expr} {t : TG} (h : PG X tg t) {v : V} {σ : L2.St} {H : Hp} {Q : L2.St → Hp → Prop} (q : t v σ H Q) : wpG X tg v σ H Q := fun pins s u I r => h.run pins s σ H v u Q I r q
theorem wpI_of {tg iter : Expr} {t : TI} (h : PI X tg iter t) {σ : L2.St} {H : Hp} {R : It → Hp → Prop} (q : t σ H R) : wpI X tg iter σ H R := fun pins s I => h.run pins s σ H R I q
theorem wpO_of {f : Value → Value → Sem Value} {r : R2} (h : OpR X f r) {x y : V} {H : Hp} {Q : VK} (q : r x y H Q) : wpO X f x y H Q := fun pins s σ v u I rx ry => h pins s σ H x y v u Q I rx ry q

/-- a reading gives P, over any slots like ρ -/
def TV (K : PySem.W.Frag) (te : TE) (ρ : List Sl) (P : Hp → V → Hp → Hp → Prop) : Prop :=
  ∀ Hs H σ, En K Hs H σ ρ → ∀ Q : VK, (∀ v Hs' H', Step Hs H Hs' H' → P H v Hs' H' → Q v H') → te σ H Q
/-- data that R holds of -/
def PD (K : PySem.W.Frag) (R : Dt → Prop) : Hp → V → Hp → Hp → Prop := fun _ v Hs' _ => ∃ d, R d ∧ Rep K Hs' v d
/-- a new list of data, not frozen -/
def PL (K : PySem.W.Frag) (R : List Dt → Prop) : Hp → V → Hp → Hp → Prop := fun H v Hs' H' => ∃ p xs ds, v = .ref p ∧ H p = none ∧ Hs' p = none ∧ H' p = some (.lst xs) ∧ RepAll K Hs' xs ds ∧ R ds
def DR (X : Cx) (e : Expr) (ρ : List Sl) (R : Dt → Prop) : Prop := TV X.K (wpE X e) ρ (PD X.K R)
def DL (X : Cx) (e : Expr) (ρ : List Sl) (R : List Dt → Prop) : Prop := TV X.K (wpE X e) ρ (PL X.K R)
abbrev DE (X : Cx) (e : Expr) (ρ : List Sl) (d : Dt) : Prop := DR X e ρ (fun z => z = d)
/-- a test's answer -/
def DQ (X : Cx) (e : Expr) (ρ : List Sl) (B : Bool → Prop) : Prop :=
  ∀ Hs H σ, En X.K Hs H σ ρ → ∀ Q : Bool → Hp → Prop, (∀ b Hs' H', Step Hs H Hs' H' → B b → Q b H') → wpT X e σ H Q
abbrev DT (X : Cx) (e : Expr) (ρ : List Sl) (b : Bool) : Prop := DQ X e ρ (fun z => z = b)
/-- arguments -/
def DA (X : Cx) (es : List Expr) (ρ : List Sl) (R : List Sl → Prop) : Prop :=
  ∀ Hs H σ, En X.K Hs H σ ρ → ∀ Q : List V → Hp → Prop, (∀ vs as Hs' H', Step Hs H Hs' H' → En X.K Hs' H' (vs.map some) as → R as → Q vs H') → wpA X es σ H Q
/-- an operation on data -/
def OD (X : Cx) (f : Value → Value → Sem Value) (d e : Dt) (R : Dt → Prop) : Prop :=
  ∀ Hs H v u, Ex Hs H → Rep X.K Hs v d → Rep X.K Hs u e → ∀ Q : VK, (∀ z Hs' H' g, Step Hs H Hs' H' → Rep X.K Hs' z g → R g → Q z H') → wpO X f v u H Q
variable {e a b c : Expr} {es : List Expr} {ρ : List Sl} {R R1 R2 : Dt → Prop} {pos : Pos}
theorem DR.mono (h : DR X e ρ R) (k : ∀ d, R d → R1 d) : DR X e ρ R1 := fun Hs H σ E Q q => h Hs H σ E Q fun v Hs' H' t ⟨d, r, p⟩ => q v Hs' H' t ⟨d, k d r, p⟩
theorem DE.as {d : Dt} (h : DE X e ρ d) (r : R d) : DR X e ρ R := DR.mono h fun z q => by rw [q]; exact r
theorem DE.eq {d d' : Dt} (h : DE X e ρ d) (q : d = d') : DE X e ρ d' := by rw [← q]; exact h
theorem DQ.mono {B B' : Bool → Prop} (h : DQ X e ρ B) (k : ∀ d, B d → B' d) : DQ X e ρ B' := fun Hs H σ E Q q => h Hs H σ E Q fun v Hs' H' t p => q v Hs' H' t (k v p)
theorem DT.eq {d d' : Bool} (h : DT X e ρ d) (q : d = d') : DT X e ρ d' := by rw [← q]; exact h
/-- a new list is data -/
theorem DL.fz {RL : List Dt → Prop} (h : DL X e ρ RL) : DR X e ρ (fun d => ∃ ds, d = .lst ds ∧ RL ds) := fun Hs H σ E Q q => h Hs H σ E Q fun v Hs' H' t ⟨p, xs, ds, h1, h2, h3, h4, h5, h6⟩ =>
  q v (upd Hs' p (.lst xs)) H' (t.freeze h2 h4 h3) ⟨.lst ds, ⟨ds, rfl, h6⟩, by
    rw [h1]
    exact .lst upd_same (RepAll.mono (Ex.new h3) ds xs h5)⟩
theorem DL.fzE {ds : List Dt} (h : DL X e ρ (fun z => z = ds)) : DE X e ρ (.lst ds) := DR.mono (DL.fz h) fun d ⟨z, h1, h2⟩ => by rw [h1, h2]
theorem DL.mono {RL RL' : List Dt → Prop} (h : DL X e ρ RL) (k : ∀ d, RL d → RL' d) : DL X e ρ RL' := fun Hs H σ E Q q => h Hs H σ E Q fun v Hs' H' t ⟨p, xs, ds, h1, h2, h3, h4, h5, h6⟩ => q v Hs' H' t ⟨p, xs, ds, h1, h2, h3, h4, h5, k _ h6⟩

theorem de_v (i : Nat) {x : Str} {d : Dt} (hd : ρ[i]? = some (.dat d) := by rfl) (hN : X.N[i]? = some x := by rfl) (hv : Vis X.env.scope x := by first | exact Or.inl rfl | exact Or.inr (Or.inl rfl) | exact Or.inr (Or.inr rfl))
    (h1 : (x == ("__debug__" : Str)) = false := by decide) (h2 : (x == ("__classdict__" : Str)) = false := by decide) : DE X (.Name x pos) ρ d := fun Hs H σ E Q q => by
  obtain ⟨v, hv', hr⟩ := E.dat hd
  exact wpE_of (pe_var hN hv h1 h2) ⟨v, hv', q v Hs H (Step.refl E.sub) ⟨d, rfl, hr⟩⟩
theorem de_int {i : Int} {j : Nat} : DE X (.Constant (.int i) j pos) ρ (.int i) := fun Hs H σ E Q q => wpE_of pe_int (q _ Hs H (Step.refl E.sub) ⟨_, rfl, .int i⟩)
theorem de_bl {i : Bool} {j : Nat} : DE X (.Constant (.bool i) j pos) ρ (.bl i) := fun Hs H σ E Q q => wpE_of pe_bl (q _ Hs H (Step.refl E.sub) ⟨_, rfl, .bl i⟩)
theorem de_non {j : Nat} : DE X (.Constant .none j pos) ρ .non := fun Hs H σ E Q q => wpE_of pe_non (q _ Hs H (Step.refl E.sub) ⟨_, rfl, .non⟩)
theorem de_str {i : Str} {j : Nat} : DE X (.Constant (.str i) j pos) ρ (.str i) := fun Hs H σ E Q q => wpE_of pe_str (q _ Hs H (Step.refl E.sub) ⟨_, rfl, .str i⟩)
/-- a module's constant: an int, a text -/
theorem de_gint {x : Str} {i : Int} (h : ∃ t, X.mg x = some (.int i t)) (hg : Gl X x := by rfl) (h1 : (x == ("__debug__" : Str)) = false := by decide) : DE X (.Name x pos) ρ (.int i) := fun Hs H σ E Q q => by
  obtain ⟨t, h⟩ := h
  exact wpE_of (pe_glob (v := .int i) hg h ⟨t, rfl⟩ h1) (q _ Hs H (Step.refl E.sub) ⟨_, rfl, .int i⟩)
theorem de_gstr {x i : Str} (h : ∃ t, X.mg x = some (.str i t)) (hg : Gl X x := by rfl) (h1 : (x == ("__debug__" : Str)) = false := by decide) : DE X (.Name x pos) ρ (.str i) := fun Hs H σ E Q q => by
  obtain ⟨t, h⟩ := h
  exact wpE_of (pe_glob (v := .str i) hg h ⟨t, rfl⟩ h1) (q _ Hs H (Step.refl E.sub) ⟨_, rfl, .str i⟩)
theorem repStrs {K : PySem.W.Frag} {H : Hp} : ∀ zs : List Str, RepAll K H (zs.map V.str) (zs.map Dt.str)
  | [] => .nil
  | z :: zs => .cons (.str z) (repStrs zs)
theorem repInts {K : PySem.W.Frag} {H : Hp} : ∀ zs : List Int, RepAll K H (zs.map V.int) (zs.map Dt.int)
  | [] => .nil
  | z :: zs => .cons (.int z) (repInts zs)
/-- a module's tuple of texts -/
theorem de_gtup {x : Str} {zs : List Str} {a : Addr} (h : X.mg x = some (.ref a)) (ht : ∀ H, SqT X.K H a (zs.map V.str)) (hg : Gl X x := by rfl) (h1 : (x == ("__debug__" : Str)) = false := by decide) : DE X (.Name x pos) ρ (.tup (zs.map Dt.str)) := fun Hs H σ E Q q =>
  wpE_of (pe_glob (v := .ref a) hg h rfl h1) (q _ Hs H (Step.refl E.sub) ⟨_, rfl, .tup (ht Hs) (repStrs zs)⟩)

theorem od_of {f : Value → Value → Sem Value} {r : L2.R2} {d e : Dt} (h : OpR X f r) (k : ∀ Hs H v u, Ex Hs H → Rep X.K Hs v d → Rep X.K Hs u e → ∀ Q : VK, (∀ z Hs' H' g, Step Hs H Hs' H' → Rep X.K Hs' z g → R g → Q z H') → r v u H Q) : OD X f d e R :=
  fun Hs H v u s rv ru Q q => wpO_of h (k Hs H v u s rv ru Q q)
theorem dr_bin {op : Operator} (ha : DR X a ρ R1) (hb : DR X b ρ R2) (ho : ∀ d e, R1 d → R2 e → OD X (binaryOp op) d e R) : DR X (.BinOp a op b pos) ρ R := fun Hs H σ E Q q =>
  wpE_of (pe_op op_wp pe_wp pe_wp) (ha Hs H σ E _ fun v H1s H1 t1 ⟨d, r1, p1⟩ => hb H1s H1 σ (E.step t1) _ fun u H2s H2 t2 ⟨e, r2, p2⟩ =>
    ho d e r1 r2 H2s H2 v u t2.sub (Rep.mono t2.fz d v p1) p2 Q fun z Hs' H' g t3 p3 r3 => q z Hs' H' ((t1.trans t2).trans t3) ⟨g, r3, p3⟩)
theorem de_bin {op : Operator} {d e : Dt} (ha : DE X a ρ d) (hb : DE X b ρ e) (ho : OD X (binaryOp op) d e R) : DR X (.BinOp a op b pos) ρ R := dr_bin ha hb fun _ _ h1 h2 => by rw [h1, h2]; exact ho
/-- ints -/
theorem od_int {f : Value → Value → Sem Value} {C : Int → Int → Prop} {g : Int → Int → V} {i j : Int} {d : Dt} (h : OpR X f (rI C g)) (hc : C i j) (hg : ∀ H, Rep X.K H (g i j) d) : OD X f (.int i) (.int j) (fun z => z = d) :=
  od_of h fun Hs H v u s rv ru Q q => ⟨i, j, rv.int_inv, ru.int_inv, hc, q _ Hs H d (Step.refl s) (hg Hs) rfl⟩
theorem od_int0 {f : Value → Value → Sem Value} {g : Int → Int → V} {i j : Int} {d : Dt} (h : OpR X f (rI0 g)) (hg : ∀ H, Rep X.K H (g i j) d) : OD X f (.int i) (.int j) (fun z => z = d) :=
  od_of h fun Hs H v u s rv ru Q q => ⟨i, j, rv.int_inv, ru.int_inv, q _ Hs H d (Step.refl s) (hg Hs) rfl⟩
theorem od_add {i j : Int} : OD X (binaryOp .Add) (.int i) (.int j) (fun z => z = .int (i + j)) := od_int0 op_add fun _ => .int _
theorem od_sub {i j : Int} : OD X (binaryOp .Sub) (.int i) (.int j) (fun z => z = .int (i - j)) := od_int0 op_sub fun _ => .int _
theorem od_mul {i j : Int} (h : CMul i j) : OD X (binaryOp .Mult) (.int i) (.int j) (fun z => z = .int (i * j)) := od_int op_mul h fun _ => .int _
theorem od_mod {i j : Int} (h : 0 < j) : OD X (binaryOp .Mod) (.int i) (.int j) (fun z => z = .int (i % j)) := od_int op_mod h fun _ => .int _
theorem od_fdiv {i j : Int} (h : CDivN i j) : OD X (binaryOp .FloorDiv) (.int i) (.int j) (fun z => z = .int (i.fdiv j)) := od_int op_fdivN h fun _ => .int _
theorem od_pow {i j : Int} (h : CPow i j) : OD X (binaryOp .Pow) (.int i) (.int j) (fun z => z = .int (i ^ j.toNat)) := od_int op_pow h fun _ => .int _
theorem od_lt {i j : Int} : OD X (compareOp .Lt) (.int i) (.int j) (fun z => z = .bl (decide (i < j))) := od_int0 op_lt fun _ => .bl _
theorem od_le {i j : Int} : OD X (compareOp .LtE) (.int i) (.int j) (fun z => z = .bl (decide (i ≤ j))) := od_int0 op_le fun _ => .bl _
theorem od_gt {i j : Int} : OD X (compareOp .Gt) (.int i) (.int j) (fun z => z = .bl (decide (j < i))) := od_int0 op_gt fun _ => .bl _
theorem od_ge {i j : Int} : OD X (compareOp .GtE) (.int i) (.int j) (fun z => z = .bl (decide (j ≤ i))) := od_int0 op_ge fun _ => .bl _
theorem od_addS {x y : Str} (h : x.length + y.length ≤ sizeLine) : OD X (binaryOp .Add) (.str x) (.str y) (fun z => z = .str (x ++ y)) :=
  od_of op_add_str fun Hs H v u s rv ru Q q => ⟨x, y, rv.str_inv, ru.str_inv, h, q _ Hs H _ (Step.refl s) (.str _) rfl⟩
/-- scalars as values -/
def vOf : Dt → V
  | .non => .non
  | .bl b => .bl b
  | .int i => .int i
  | .str s => .str s
  | _ => .non
def scl : Dt → Bool
  | .non => true
  | .bl _ => true
  | .int _ => true
  | .str _ => true
  | _ => false
theorem Rep.vOf {K : PySem.W.Frag} {H : Hp} {v : V} {d : Dt} (h : Rep K H v d) (s : scl d = true) : v = vOf d := by
  cases h with
  | non => rfl
  | bl b => rfl
  | int b => rfl
  | str b => rfl
  | _ => cases s
theorem od_eq {d e : Dt} (h1 : scl d = true) (h2 : scl e = true) (h : scal (vOf d) (vOf e) = true) : OD X (compareOp .Eq) d e (fun z => z = .bl (decide (vOf d = vOf e))) :=
  od_of op_eq fun Hs H v u s rv ru Q q => by
    rw [rv.vOf h1, ru.vOf h2]
    exact ⟨h, q _ Hs H _ (Step.refl s) (.bl _) rfl⟩
theorem od_ne {d e : Dt} (h1 : scl d = true) (h2 : scl e = true) (h : scal (vOf d) (vOf e) = true) : OD X (compareOp .NotEq) d e (fun z => z = .bl (!decide (vOf d = vOf e))) :=
  od_of op_ne fun Hs H v u s rv ru Q q => by
    rw [rv.vOf h1, ru.vOf h2]
    exact ⟨h, q _ Hs H _ (Step.refl s) (.bl _) rfl⟩
theorem od_eqI {i j : Int} : OD X (compareOp .Eq) (.int i) (.int j) (fun z => z = .bl (decide (i = j))) := od_of op_eq fun Hs H v u s rv ru Q q => by
  rw [rv.int_inv, ru.int_inv]
  refine ⟨rfl, ?_⟩
  rw [show decide (V.int i = V.int j) = decide (i = j) by rw [Bool.eq_iff_iff]; simp]
  exact q _ Hs H _ (Step.refl s) (.bl _) rfl
theorem od_neI {i j : Int} : OD X (compareOp .NotEq) (.int i) (.int j) (fun z => z = .bl (!decide (i = j))) := od_of op_ne fun Hs H v u s rv ru Q q => by
  rw [rv.int_inv, ru.int_inv]
  refine ⟨rfl, ?_⟩
  rw [show decide (V.int i = V.int j) = decide (i = j) by rw [Bool.eq_iff_iff]; simp]
  exact q _ Hs H _ (Step.refl s) (.bl _) rfl
theorem od_eqS {i j : Str} : OD X (compareOp .Eq) (.str i) (.str j) (fun z => z = .bl (decide (i = j))) := od_of op_eq fun Hs H v u s rv ru Q q => by
  rw [rv.str_inv, ru.str_inv]
  refine ⟨rfl, ?_⟩
  rw [show decide (V.str i = V.str j) = decide (i = j) by rw [Bool.eq_iff_iff]; simp]
  exact q _ Hs H _ (Step.refl s) (.bl _) rfl
theorem od_neS {i j : Str} : OD X (compareOp .NotEq) (.str i) (.str j) (fun z => z = .bl (!decide (i = j))) := od_of op_ne fun Hs H v u s rv ru Q q => by
  rw [rv.str_inv, ru.str_inv]
  refine ⟨rfl, ?_⟩
  rw [show decide (V.str i = V.str j) = decide (i = j) by rw [Bool.eq_iff_iff]; simp]
  exact q _ Hs H _ (Step.refl s) (.bl _) rfl
theorem od_eqB {i j : Bool} : OD X (compareOp .Eq) (.bl i) (.bl j) (fun z => z = .bl (i == j)) := od_of op_eq fun Hs H v u s rv ru Q q => by
  rw [rv.bl_inv, ru.bl_inv]
  refine ⟨rfl, ?_⟩
  rw [show decide (V.bl i = V.bl j) = (i == j) by rw [Bool.eq_iff_iff]; simp]
  exact q _ Hs H _ (Step.refl s) (.bl _) rfl
theorem od_neB {i j : Bool} : OD X (compareOp .NotEq) (.bl i) (.bl j) (fun z => z = .bl (i != j)) := od_of op_ne fun Hs H v u s rv ru Q q => by
  rw [rv.bl_inv, ru.bl_inv]
  refine ⟨rfl, ?_⟩
  rw [show (!decide (V.bl i = V.bl j)) = (i != j) by rw [Bool.eq_iff_iff]; simp [bne]]
  exact q _ Hs H _ (Step.refl s) (.bl _) rfl
/-- is None -/
def isNon : Dt → Bool
  | .non => true
  | _ => false
theorem Rep.isNon {K : PySem.W.Frag} {H : Hp} {v : V} {d : Dt} (h : Rep K H v d) : decide (v = .non) = isNon d := by
  cases h <;> first
    | rfl
    | exact decide_eq_false (fun z => nomatch z)
theorem od_isN {d : Dt} : OD X (compareOp .Is) d .non (fun z => z = .bl (isNon d)) := od_of op_isN fun Hs H v u s rv ru Q q => by
  refine ⟨ru.non_inv, ?_⟩
  rw [rv.isNon]
  exact q _ Hs H _ (Step.refl s) (.bl _) rfl
theorem od_notN {d : Dt} : OD X (compareOp .IsNot) d .non (fun z => z = .bl (!isNon d)) := od_of op_notN fun Hs H v u s rv ru Q q => by
  refine ⟨ru.non_inv, ?_⟩
  rw [rv.isNon]
  exact q _ Hs H _ (Step.refl s) (.bl _) rfl
/-- one sign in a text -/
theorem od_inS {c : Nat} {z : Str} : OD X (compareOp .In) (.str ⟨#[c]⟩) (.str z) (fun g => g = .bl (decide (c ∈ z.cps.toList))) :=
  od_of op_in_sign fun Hs H v u s rv ru Q q => ⟨c, z, rv.str_inv, ru.str_inv, q _ Hs H _ (Step.refl s) (.bl _) rfl⟩
theorem od_notInS {c : Nat} {z : Str} : OD X (compareOp .NotIn) (.str ⟨#[c]⟩) (.str z) (fun g => g = .bl (!decide (c ∈ z.cps.toList))) :=
  od_of op_notIn_sign fun Hs H v u s rv ru Q q => ⟨c, z, rv.str_inv, ru.str_inv, q _ Hs H _ (Step.refl s) (.bl _) rfl⟩
/-- a text in a list or tuple of texts -/
theorem strs_inv {K : PySem.W.Frag} {H : Hp} : ∀ {zs : List Str} {xs : List V}, RepAll K H xs (zs.map Dt.str) → xs = zs.map V.str
  | [], _, h => by cases h; rfl
  | z :: zs, _, h => by
    cases h with
    | cons h1 h2 => rw [h1.str_inv, strs_inv h2]; rfl
theorem flat_strs (zs : List Str) : (zs.map V.str).all flatV = true := by
  rw [List.all_map]
  exact List.all_eq_true.mpr fun _ _ => rfl
theorem inV_strs (x : Str) (zs : List Str) : inV (.str x) (zs.map V.str) = decide (x ∈ zs) := by
  unfold inV
  rw [List.any_map, Bool.eq_iff_iff]
  simp only [List.any_eq_true, decide_eq_true_eq]
  constructor
  · rintro ⟨y, hy, e⟩
    have e2 : (y == x) = true := e
    rw [← eq_of_beq e2]; exact hy
  · intro h
    exact ⟨x, h, (show (x == x) = true from beq_self_eq_true x)⟩
theorem od_inT {x : Str} {zs : List Str} : OD X (compareOp .In) (.str x) (.tup (zs.map Dt.str)) (fun g => g = .bl (decide (x ∈ zs))) := od_of op_in_seq fun Hs H v u s rv ru Q q => by
  obtain ⟨a, xs, rfl, h1, h2⟩ := ru.tup_inv
  have e := strs_inv h2
  subst e
  refine ⟨a, _, rfl, Or.inr (ex_t s h1), by rw [rv.str_inv]; rfl, flat_strs zs, ?_⟩
  rw [rv.str_inv]
  show Q (.bl (inV (.str x) (zs.map V.str))) H
  rw [inV_strs]
  exact q _ Hs H _ (Step.refl s) (.bl _) rfl
theorem od_inL {x : Str} {zs : List Str} : OD X (compareOp .In) (.str x) (.lst (zs.map Dt.str)) (fun g => g = .bl (decide (x ∈ zs))) := od_of op_in_seq fun Hs H v u s rv ru Q q => by
  obtain ⟨a, xs, rfl, h1, h2⟩ := ru.lst_inv
  have e := strs_inv h2
  subst e
  refine ⟨a, _, rfl, Or.inl (.inl (.inl (s _ _ h1))), by rw [rv.str_inv]; rfl, flat_strs zs, ?_⟩
  rw [rv.str_inv]
  show Q (.bl (inV (.str x) (zs.map V.str))) H
  rw [inV_strs]
  exact q _ Hs H _ (Step.refl s) (.bl _) rfl
theorem od_notInT {x : Str} {zs : List Str} : OD X (compareOp .NotIn) (.str x) (.tup (zs.map Dt.str)) (fun g => g = .bl (!decide (x ∈ zs))) := od_of op_notIn_seq fun Hs H v u s rv ru Q q => by
  obtain ⟨a, xs, rfl, h1, h2⟩ := ru.tup_inv
  have e := strs_inv h2
  subst e
  refine ⟨a, _, rfl, Or.inr (ex_t s h1), by rw [rv.str_inv]; rfl, flat_strs zs, ?_⟩
  rw [rv.str_inv]
  show Q (.bl (!inV (.str x) (zs.map V.str))) H
  rw [inV_strs]
  exact q _ Hs H _ (Step.refl s) (.bl _) rfl
theorem od_notInL {x : Str} {zs : List Str} : OD X (compareOp .NotIn) (.str x) (.lst (zs.map Dt.str)) (fun g => g = .bl (!decide (x ∈ zs))) := od_of op_notIn_seq fun Hs H v u s rv ru Q q => by
  obtain ⟨a, xs, rfl, h1, h2⟩ := ru.lst_inv
  have e := strs_inv h2
  subst e
  refine ⟨a, _, rfl, Or.inl (.inl (.inl (s _ _ h1))), by rw [rv.str_inv]; rfl, flat_strs zs, ?_⟩
  rw [rv.str_inv]
  show Q (.bl (!inV (.str x) (zs.map V.str))) H
  rw [inV_strs]
  exact q _ Hs H _ (Step.refl s) (.bl _) rfl
/-- list + list; tuple + tuple -/
theorem dl_cat {RA RB RL : List Dt → Prop} (ha : DR X a ρ (fun d => ∃ ds, d = .lst ds ∧ RA ds)) (hb : DR X b ρ (fun d => ∃ ds, d = .lst ds ∧ RB ds)) (hl : ∀ x y, RA x → RB y → x.length + y.length ≤ sizeLine ∧ RL (x ++ y)) : DL X (.BinOp a .Add b pos) ρ RL := fun Hs H σ E Q q =>
  wpE_of (pe_op op_cat pe_wp pe_wp) (ha Hs H σ E _ fun v H1s H1 t1 ⟨d, ⟨x, e1, r1⟩, p1⟩ => hb H1s H1 σ (E.step t1) _ fun u H2s H2 t2 ⟨e, ⟨y, e2, r2⟩, p2⟩ => by
    subst e1 e2
    obtain ⟨l, xs, rfl, h1, h2⟩ := p1.lst_inv
    obtain ⟨m, ys, rfl, h3, h4⟩ := p2.lst_inv
    have h2' := RepAll.mono t2.fz x xs h2
    obtain ⟨hz, hr⟩ := hl x y r1 r2
    refine ⟨l, m, xs, ys, rfl, rfl, t2.sub _ _ (t2.fz _ _ h1), t2.sub _ _ h3, by rw [h2.length, h4.length]; exact hz, fun p hp => ?_⟩
    have t3 : Step H2s H2 H2s (upd H2 p (.lst (xs ++ ys))) := Step.newM t2.sub hp
    exact q _ H2s _ ((t1.trans t2).trans t3) ⟨p, xs ++ ys, x ++ y, rfl, t1.free (t2.free hp), t2.sub.free hp, upd_same, h2'.append h4, hr⟩)
theorem od_catT {xs ys : List Dt} (hx : xs ≠ []) (hl : xs.length + ys.length ≤ sizeLine) : OD X (binaryOp .Add) (.tup xs) (.tup ys) (fun z => z = .tup (xs ++ ys)) := od_of op_catT fun Hs H v u s rv ru Q q => by
  obtain ⟨a, us, rfl, h1, h2⟩ := rv.tup_inv
  obtain ⟨b, ws, rfl, h3, h4⟩ := ru.tup_inv
  refine ⟨a, b, us, ws, rfl, rfl, ex_t s h1, ex_t s h3, ?_, by rw [h2.length, h4.length]; exact hl, fun z => ?_, fun _ p hp => ?_⟩
  · intro z
    subst z
    cases h2
    exact hx rfl
  · subst z
    cases h4
    refine q _ Hs H _ (Step.refl s) ?_ rfl
    rw [List.append_nil]
    exact rv
  · exact q _ _ _ _ (Step.newF s hp) (.tup (Or.inl (Or.inl upd_same)) (RepAll.mono (Ex.new (s.free hp)) _ _ (h2.append h4))) rfl

theorem dr_cmp {op : CmpOp} (ha : DR X a ρ R1) (hb : DR X b ρ R2) (ho : ∀ d e, R1 d → R2 e → OD X (compareOp op) d e R) (hm : behindInMarks op b = false := by first | exact nomark _ | rfl) : DR X (.Compare a [op] [b] pos) ρ R := fun Hs H σ E Q q =>
  wpE_of (pe_cmpR op_wp pe_wp pe_wp hm) (ha Hs H σ E _ fun v H1s H1 t1 ⟨d, r1, p1⟩ => hb H1s H1 σ (E.step t1) _ fun u H2s H2 t2 ⟨e, r2, p2⟩ =>
    ho d e r1 r2 H2s H2 v u t2.sub (Rep.mono t2.fz d v p1) p2 Q fun z Hs' H' g t3 p3 r3 => q z Hs' H' ((t1.trans t2).trans t3) ⟨g, r3, p3⟩)
theorem de_cmp {op : CmpOp} {d e : Dt} (ha : DE X a ρ d) (hb : DE X b ρ e) (ho : OD X (compareOp op) d e R) (hm : behindInMarks op b = false := by first | exact nomark _ | rfl) : DR X (.Compare a [op] [b] pos) ρ R := dr_cmp ha hb (fun _ _ h1 h2 => by rw [h1, h2]; exact ho) hm
theorem dq_cmp {op : CmpOp} {B : Bool → Prop} (ha : DR X a ρ R1) (hb : DR X b ρ R2) (ho : ∀ d e, R1 d → R2 e → OD X (compareOp op) d e (fun z => ∃ k, z = .bl k ∧ B k)) (hm : behindInMarks op b = false := by first | exact nomark _ | rfl) : DQ X (.Compare a [op] [b] pos) ρ B := fun Hs H σ E Q q =>
  wpT_of (pt_cmpR op_wp pe_wp pe_wp hm) (ha Hs H σ E _ fun v H1s H1 t1 ⟨d, r1, p1⟩ => hb H1s H1 σ (E.step t1) _ fun u H2s H2 t2 ⟨e, r2, p2⟩ =>
    ho d e r1 r2 H2s H2 v u t2.sub (Rep.mono t2.fz d v p1) p2 _ fun z Hs' H' g t3 p3 ⟨k, r3, r4⟩ => by
      subst r3
      exact ⟨k, p3.bl_inv, q k Hs' H' ((t1.trans t2).trans t3) r4⟩)
theorem dt_cmp {op : CmpOp} {d e : Dt} {k : Bool} (ha : DE X a ρ d) (hb : DE X b ρ e) (ho : OD X (compareOp op) d e (fun z => z = .bl k)) (hm : behindInMarks op b = false := by first | exact nomark _ | rfl) : DT X (.Compare a [op] [b] pos) ρ k :=
  dq_cmp ha hb (fun _ _ h1 h2 => by
    rw [h1, h2]
    exact fun Hs H v u s rv ru Q q => ho Hs H v u s rv ru Q fun z Hs' H' g t p r => q z Hs' H' g t p ⟨k, r, rfl⟩) hm
/-- a < b < c -/
theorem de_chain {op op' : CmpOp} {d e f : Dt} {p k : Bool} (ha : DE X a ρ d) (hb : DE X b ρ e) (hc : p = true → DE X c ρ f) (h1 : OD X (compareOp op) d e (fun z => z = .bl p)) (h2 : p = true → OD X (compareOp op') e f (fun z => z = .bl k)) (hm : lastMarks [op, op'] [b, c] = false := by with_unfolding_all rfl) : DE X (.Compare a [op, op'] [b, c] pos) ρ (.bl (p && k)) := fun Hs H σ E Q q =>
  wpE_of (pe_chain op_wp op_wp pe_wp pe_wp pe_wp hm) (ha Hs H σ E _ fun v H1s H1 t1 ⟨d', r1, p1⟩ => hb H1s H1 σ (E.step t1) _ fun u H2s H2 t2 ⟨e', r2, p2⟩ => by
    subst r1 r2
    refine h1 H2s H2 v u t2.sub (Rep.mono t2.fz _ v p1) p2 _ fun z H3s H3 g t3 p3 r3 => ?_
    subst r3
    refine ⟨p, p3.bl_inv, ?_⟩
    have t123 := (t1.trans t2).trans t3
    cases p with
    | true =>
      show wpE X c σ H3 _
      refine hc rfl H3s H3 σ (E.step t123) _ fun w H4s H4 t4 ⟨f', r4, p4⟩ => ?_
      subst r4
      exact h2 rfl H4s H4 u w t4.sub (Rep.mono (t3.fz.trans t4.fz) _ u p2) p4 Q fun z Hs' H' g t5 p5 r5 => q z Hs' H' ((t123.trans t4).trans t5) ⟨g, by rw [r5] <;> rfl, p5⟩
    | false =>
      show Q (.bl false) H3
      exact q _ H3s H3 t123 ⟨_, rfl, .bl _⟩)
theorem dt_chain {op op' : CmpOp} {d e f : Dt} {p k : Bool} (ha : DE X a ρ d) (hb : DE X b ρ e) (hc : p = true → DE X c ρ f) (h1 : OD X (compareOp op) d e (fun z => z = .bl p)) (h2 : p = true → OD X (compareOp op') e f (fun z => z = .bl k)) (hm : lastMarks [op, op'] [b, c] = false := by with_unfolding_all rfl) : DT X (.Compare a [op, op'] [b, c] pos) ρ (p && k) := fun Hs H σ E Q q =>
  wpT_of (pt_chain op_wp op_wp pe_wp pe_wp pe_wp hm) (ha Hs H σ E _ fun v H1s H1 t1 ⟨d', r1, p1⟩ => hb H1s H1 σ (E.step t1) _ fun u H2s H2 t2 ⟨e', r2, p2⟩ => by
    subst r1 r2
    refine h1 H2s H2 v u t2.sub (Rep.mono t2.fz _ v p1) p2 _ fun z H3s H3 g t3 p3 r3 => ?_
    subst r3
    refine ⟨p, p3.bl_inv, ?_⟩
    have t123 := (t1.trans t2).trans t3
    cases p with
    | true =>
      show wpE X c σ H3 _
      refine hc rfl H3s H3 σ (E.step t123) _ fun w H4s H4 t4 ⟨f', r4, p4⟩ => ?_
      subst r4
      exact h2 rfl H4s H4 u w t4.sub (Rep.mono (t3.fz.trans t4.fz) _ u p2) p4 _ fun z Hs' H' g t5 p5 r5 => by
        subst r5
        exact ⟨k, p5.bl_inv, q _ Hs' H' ((t123.trans t4).trans t5) rfl⟩
    | false =>
      show ∃ k', V.bl false = .bl k' ∧ Q k' H3
      exact ⟨false, rfl, q _ H3s H3 t123 rfl⟩)

theorem dq_val {B : Bool → Prop} (h : DR X e ρ (fun d => ∃ k, d = .bl k ∧ B k)) (he : ∀ whole, isTrue e X.env whole = (do let v ← whole; standAt e.pos; holding [v] (truthy v)) := by intro _; rfl) : DQ X e ρ B := fun Hs H σ E Q q =>
  wpT_of (pt_val pe_wp he) (h Hs H σ E _ fun v Hs' H' t ⟨d, ⟨k, r1, r2⟩, p⟩ => by
    subst r1
    exact ⟨k, p.bl_inv, q k Hs' H' t r2⟩)
theorem dt_val {k : Bool} (h : DE X e ρ (.bl k)) (he : ∀ whole, isTrue e X.env whole = (do let v ← whole; standAt e.pos; holding [v] (truthy v)) := by intro _; rfl) : DT X e ρ k := dq_val (DR.mono h fun d q => ⟨k, q, rfl⟩) he
theorem dt_not {k : Bool} (h : DT X a ρ k) : DT X (.UnaryOp .Not a pos) ρ (!k) := fun Hs H σ E Q q => wpT_of (pt_not pt_wp) (h Hs H σ E _ fun b Hs' H' t r => by
  subst r
  exact q _ Hs' H' t rfl)
theorem dq_not {B B' : Bool → Prop} (h : DQ X a ρ B) (k : ∀ b, B b → B' (!b)) : DQ X (.UnaryOp .Not a pos) ρ B' := fun Hs H σ E Q q => wpT_of (pt_not pt_wp) (h Hs H σ E _ fun b Hs' H' t r => q _ Hs' H' t (k b r))
/-- and, or as tests: W is the chain's rest -/
def DW (X : Cx) (e : Expr) (ρ : List Sl) (B : Bool → Prop) : Prop :=
  ∀ (whole : Sem Value) Hs H σ, En X.K Hs H σ ρ → ∀ Q : Bool → Hp → Prop, (∀ b Hs' H', Step Hs H Hs' H' → B b → Q b H') → ∀ pins s, Inv X pins σ H s → wpAny (model X.prog X.w) X.A (isTrue e X.env whole) (TP X pins σ Q) X.xe s
theorem DW.q {B : Bool → Prop} (h : DW X e ρ B) : DQ X e ρ B := fun Hs H σ E Q q pins s I => h _ Hs H σ E Q q pins s I
theorem dw_and1 {B : Bool → Prop} (h : DQ X a ρ B) : DW X (.BoolOp .And [a] pos) ρ B := fun wh Hs H σ E Q q pins s I => (pw_and1 pt_wp).run wh pins s σ H Q I (h Hs H σ E Q q)
theorem dw_or1 {B : Bool → Prop} (h : DQ X a ρ B) : DW X (.BoolOp .Or [a] pos) ρ B := fun wh Hs H σ E Q q pins s I => (pw_or1 pt_wp).run wh pins s σ H Q I (h Hs H σ E Q q)
/-- a chain's rest as a reading -/
def wpW (X : Cx) (e : Expr) : TT := fun σ H Q => ∀ (whole : Sem Value) pins s, Inv X pins σ H s → wpAny (model X.prog X.w) X.A (isTrue e X.env whole) (TP X pins σ Q) X.xe s
theorem pw_wp {e : Expr} : PW X e (wpW X e) := ⟨fun wh pins s σ H Q I h => h wh pins s I⟩
theorem dw_and {rest : List Expr} {B B1 B2 : Bool → Prop} (h1 : DQ X a ρ B1) (h2 : B1 true → DW X (.BoolOp .And (b :: rest) pos) ρ B2) (h3 : B1 false → B false) (h4 : ∀ k, B2 k → B k) : DW X (.BoolOp .And (a :: b :: rest) pos) ρ B := fun wh Hs H σ E Q q pins s I =>
  (pw_and pt_wp pw_wp).run wh pins s σ H Q I (h1 Hs H σ E _ fun k Hs' H' t r => by
    cases k with
    | true =>
      show wpW X _ σ H' Q
      exact fun wh2 pins2 s2 I2 => h2 r wh2 Hs' H' σ (E.step t) Q (fun k2 H2s H2 t2 r2 => q k2 H2s H2 (t.trans t2) (h4 k2 r2)) pins2 s2 I2
    | false =>
      show Q false H'
      exact q false Hs' H' t (h3 r))
theorem dw_or {rest : List Expr} {B B1 B2 : Bool → Prop} (h1 : DQ X a ρ B1) (h2 : B1 false → DW X (.BoolOp .Or (b :: rest) pos) ρ B2) (h3 : B1 true → B true) (h4 : ∀ k, B2 k → B k) : DW X (.BoolOp .Or (a :: b :: rest) pos) ρ B := fun wh Hs H σ E Q q pins s I =>
  (pw_or pt_wp pw_wp).run wh pins s σ H Q I (h1 Hs H σ E _ fun k Hs' H' t r => by
    cases k with
    | false =>
      show wpW X _ σ H' Q
      exact fun wh2 pins2 s2 I2 => h2 r wh2 Hs' H' σ (E.step t) Q (fun k2 H2s H2 t2 r2 => q k2 H2s H2 (t.trans t2) (h4 k2 r2)) pins2 s2 I2
    | true =>
      show Q true H'
      exact q true Hs' H' t (h3 r))
theorem wt_and1 {p : Bool} (h : DT X a ρ p) : DW X (.BoolOp .And [a] pos) ρ (fun z => z = p) := dw_and1 h
theorem wt_or1 {p : Bool} (h : DT X a ρ p) : DW X (.BoolOp .Or [a] pos) ρ (fun z => z = p) := dw_or1 h
theorem wt_and {rest : List Expr} {p k : Bool} (h1 : DT X a ρ p) (h2 : p = true → DW X (.BoolOp .And (b :: rest) pos) ρ (fun z => z = k)) : DW X (.BoolOp .And (a :: b :: rest) pos) ρ (fun z => z = (p && k)) :=
  dw_and (B2 := fun z => p = true ∧ z = k) h1 (fun e => fun wh Hs H σ E Q q => h2 e.symm wh Hs H σ E Q fun b Hs' H' t r => q b Hs' H' t ⟨e.symm, r⟩) (fun e => by rw [← e] <;> rfl) (fun z ⟨h, r⟩ => by rw [h, r] <;> rfl)
theorem wt_or {rest : List Expr} {p k : Bool} (h1 : DT X a ρ p) (h2 : p = false → DW X (.BoolOp .Or (b :: rest) pos) ρ (fun z => z = k)) : DW X (.BoolOp .Or (a :: b :: rest) pos) ρ (fun z => z = (p || k)) :=
  dw_or (B2 := fun z => p = false ∧ z = k) h1 (fun e => fun wh Hs H σ E Q q => h2 e.symm wh Hs H σ E Q fun b Hs' H' t r => q b Hs' H' t ⟨e.symm, r⟩) (fun e => by rw [← e] <;> rfl) (fun z ⟨h, r⟩ => by rw [h, r] <;> rfl)
theorem de_one {op : BoolOp} (h : DR X a ρ R) : DR X (.BoolOp op [a] pos) ρ R := fun Hs H σ E Q q => wpE_of (pe_one pe_wp) (h Hs H σ E Q q)
theorem dr_and {rest : List Expr} {B : Bool → Prop} (h1 : DR X a ρ (fun d => ∃ k, d = .bl k ∧ B k)) (h2 : B true → DR X (.BoolOp .And (b :: rest) pos) ρ R) (h3 : B false → R (.bl false)) : DR X (.BoolOp .And (a :: b :: rest) pos) ρ R := fun Hs H σ E Q q =>
  wpE_of (pe_and pe_wp pe_wp) (h1 Hs H σ E _ fun v Hs' H' t ⟨d, ⟨k, r1, r2⟩, p⟩ => by
    subst r1
    refine ⟨k, p.bl_inv, ?_⟩
    cases k with
    | true =>
      show wpE X _ σ H' Q
      exact h2 r2 Hs' H' σ (E.step t) Q fun v2 H2s H2 t2 p2 => q v2 H2s H2 (t.trans t2) p2
    | false =>
      show Q (.bl false) H'
      exact q _ Hs' H' t ⟨_, h3 r2, .bl _⟩)
theorem dr_or {rest : List Expr} {B : Bool → Prop} (h1 : DR X a ρ (fun d => ∃ k, d = .bl k ∧ B k)) (h2 : B false → DR X (.BoolOp .Or (b :: rest) pos) ρ R) (h3 : B true → R (.bl true)) : DR X (.BoolOp .Or (a :: b :: rest) pos) ρ R := fun Hs H σ E Q q =>
  wpE_of (pe_or pe_wp pe_wp) (h1 Hs H σ E _ fun v Hs' H' t ⟨d, ⟨k, r1, r2⟩, p⟩ => by
    subst r1
    refine ⟨k, p.bl_inv, ?_⟩
    cases k with
    | false =>
      show wpE X _ σ H' Q
      exact h2 r2 Hs' H' σ (E.step t) Q fun v2 H2s H2 t2 p2 => q v2 H2s H2 (t.trans t2) p2
    | true =>
      show Q (.bl true) H'
      exact q _ Hs' H' t ⟨_, h3 r2, .bl _⟩)
theorem de_and {rest : List Expr} {p k : Bool} (h1 : DE X a ρ (.bl p)) (h2 : p = true → DE X (.BoolOp .And (b :: rest) pos) ρ (.bl k)) : DE X (.BoolOp .And (a :: b :: rest) pos) ρ (.bl (p && k)) :=
  dr_and (B := fun z => z = p) (DR.mono h1 fun d r => ⟨p, r, rfl⟩) (fun e => DR.mono (h2 e.symm) fun d r => by rw [r, ← e] <;> rfl) (fun e => by rw [← e] <;> rfl)
theorem de_or {rest : List Expr} {p k : Bool} (h1 : DE X a ρ (.bl p)) (h2 : p = false → DE X (.BoolOp .Or (b :: rest) pos) ρ (.bl k)) : DE X (.BoolOp .Or (a :: b :: rest) pos) ρ (.bl (p || k)) :=
  dr_or (B := fun z => z = p) (DR.mono h1 fun d r => ⟨p, r, rfl⟩) (fun e => DR.mono (h2 e.symm) fun d r => by rw [r, ← e] <;> rfl) (fun e => by rw [← e] <;> rfl)
theorem dr_not {B : Bool → Prop} (h1 : DR X a ρ (fun d => ∃ k, d = .bl k ∧ B k)) (h : ∀ k, B k → R (.bl (!k))) : DR X (.UnaryOp .Not a pos) ρ R := fun Hs H σ E Q q => wpE_of (pe_not pe_wp) (h1 Hs H σ E _ fun v Hs' H' t ⟨d, ⟨k, r1, r2⟩, p⟩ => by
  subst r1
  exact ⟨k, p.bl_inv, q _ Hs' H' t ⟨_, h k r2, .bl _⟩⟩)
theorem de_not {p : Bool} (h : DE X a ρ (.bl p)) : DE X (.UnaryOp .Not a pos) ρ (.bl (!p)) := dr_not (B := fun z => z = p) (DR.mono h fun d r => ⟨p, r, rfl⟩) fun k e => by rw [e]
/-- a if t else b -/
theorem dr_if {B : Bool → Prop} (hc : DQ X c ρ B) (ha : B true → DR X a ρ R) (hb : B false → DR X b ρ R) : DR X (.IfExp c a b pos) ρ R := fun Hs H σ E Q q =>
  wpE_of (pe_ifExp pt_wp pe_wp pe_wp) (hc Hs H σ E _ fun k Hs' H' t r => by
    cases k with
    | true =>
      show wpE X a σ H' Q
      exact ha r Hs' H' σ (E.step t) Q fun v2 H2s H2 t2 p2 => q v2 H2s H2 (t.trans t2) p2
    | false =>
      show wpE X b σ H' Q
      exact hb r Hs' H' σ (E.step t) Q fun v2 H2s H2 t2 p2 => q v2 H2s H2 (t.trans t2) p2)
theorem de_if {p : Bool} {d1 d2 : Dt} (hc : DT X c ρ p) (ha : p = true → DE X a ρ d1) (hb : p = false → DE X b ρ d2) : DE X (.IfExp c a b pos) ρ (if p = true then d1 else d2) :=
  dr_if hc (fun e => DR.mono (ha e.symm) fun d r => by rw [← e]; exact r) (fun e => DR.mono (hb e.symm) fun d r => by rw [← e]; exact r)
theorem dr_ifT {p : Bool} (hc : DT X c ρ p) (ha : p = true → DR X a ρ R) (hb : p = false → DR X b ρ R) : DR X (.IfExp c a b pos) ρ R := dr_if hc (fun e => ha e.symm) (fun e => hb e.symm)
theorem dl_if {B : Bool → Prop} {RL : List Dt → Prop} (hc : DQ X c ρ B) (ha : B true → DL X a ρ RL) (hb : B false → DL X b ρ RL) : DL X (.IfExp c a b pos) ρ RL := fun Hs H σ E Q q =>
  wpE_of (pe_ifExp pt_wp pe_wp pe_wp) (hc Hs H σ E _ fun k Hs' H' t r => by
    cases k with
    | true =>
      show wpE X a σ H' Q
      exact ha r Hs' H' σ (E.step t) Q fun v2 H2s H2 t2 ⟨p, xs, ds, h1, h2, h3⟩ => q v2 H2s H2 (t.trans t2) ⟨p, xs, ds, h1, t.free h2, h3⟩
    | false =>
      show wpE X b σ H' Q
      exact hb r Hs' H' σ (E.step t) Q fun v2 H2s H2 t2 ⟨p, xs, ds, h1, h2, h3⟩ => q v2 H2s H2 (t.trans t2) ⟨p, xs, ds, h1, t.free h2, h3⟩)

theorem En.nil {K : PySem.W.Frag} {Hs H : Hp} (s : Ex Hs H) : En K Hs H [] [] := ⟨s, rfl, fun i s h => by simp at h, fun i j di dj h => by simp at h⟩
theorem En.cons {K : PySem.W.Frag} {Hs H : Hp} {v : V} {vs : List V} {s : Sl} {as : List Sl} (e : En K Hs H (vs.map some) as) (h : SlOk K Hs H (some (some v)) s) (hn : ∀ ds, s ≠ .ml ds) : En K Hs H ((v :: vs).map some) (s :: as) := by
  refine ⟨e.sub, by rw [List.map_cons, List.length_cons, List.length_cons, e.len], fun i z hi => ?_, fun i j di dj h1 h2 hij => ?_⟩
  · cases i with
    | zero =>
      have q : s = z := by simpa using hi
      subst q
      simpa using h
    | succ i => simpa using e.sl i z (by simpa using hi)
  · cases i with
    | zero =>
      have q : s = .ml di := by simpa using h1
      exact absurd q (hn di)
    | succ i => cases j with
      | zero =>
        have q : s = .ml dj := by simpa using h2
        exact absurd q (hn dj)
      | succ j => simpa using e.dis i j di dj (by simpa using h1) (by simpa using h2) (by omega)
theorem da_nil : DA X [] ρ (fun z => z = []) := fun Hs H σ E Q q => wpA_of pa_nil (q [] [] Hs H (Step.refl E.sub) (En.nil E.sub) rfl)
theorem dar_cons {S S' : List Sl → Prop} (h : DR X e ρ R) (hr : DA X es ρ S) (k : ∀ d as, R d → S as → S' (.dat d :: as)) (hs : starEach (e :: es) X.env = (false, eval e X.env) :: starEach es X.env := by rfl) : DA X (e :: es) ρ S' := fun Hs H σ E Q q =>
  wpA_of (pa_cons pe_wp pa_wp hs) (h Hs H σ E _ fun v H1s H1 t1 ⟨d, r, p⟩ => hr H1s H1 σ (E.step t1) _ fun vs as H2s H2 t2 E2 r2 =>
    q (v :: vs) (.dat d :: as) H2s H2 (t1.trans t2) (En.cons E2 ⟨v, rfl, Rep.mono t2.fz d v p⟩ (fun _ z => nomatch z)) (k d as r r2))
theorem da_cons {d : Dt} {as : List Sl} (h : DE X e ρ d) (hr : DA X es ρ (fun z => z = as)) (hs : starEach (e :: es) X.env = (false, eval e X.env) :: starEach es X.env := by rfl) : DA X (e :: es) ρ (fun z => z = .dat d :: as) :=
  dar_cons h hr (fun d' as' h1 h2 => by rw [h1, h2]) hs
/-- the box itself, the script itself -/
theorem dar_box (i : Nat) {x : Str} {S S' : List Sl → Prop} (hr : DA X es ρ S) (k : ∀ as, S as → S' (.box :: as)) (hd : ρ[i]? = some .box := by rfl) (hN : X.N[i]? = some x := by rfl) (hv : Vis X.env.scope x := by first | exact Or.inl rfl | exact Or.inr (Or.inl rfl) | exact Or.inr (Or.inr rfl))
    (h1 : (x == ("__debug__" : Str)) = false := by decide) (h2 : (x == ("__classdict__" : Str)) = false := by decide) (hs : starEach (.Name x pos :: es) X.env = (false, eval (.Name x pos) X.env) :: starEach es X.env := by rfl) : DA X (.Name x pos :: es) ρ S' := fun Hs H σ E Q q => by
  obtain ⟨p, o, hv', hp, hH, hb⟩ := E.sl i _ hd
  exact wpA_of (pa_cons (pe_var hN hv h1 h2) pa_wp hs) ⟨.ref p, hv', hr Hs H σ E _ fun vs as H2s H2 t2 E2 r2 =>
    q (.ref p :: vs) (.box :: as) H2s H2 t2 (En.cons E2 (SlOk.step t2 (s := .box) ⟨p, o, rfl, hp, hH, hb⟩) (fun _ z => nomatch z)) (k as r2)⟩
theorem da_box (i : Nat) {x : Str} {as : List Sl} (hr : DA X es ρ (fun z => z = as)) (hd : ρ[i]? = some .box := by rfl) (hN : X.N[i]? = some x := by rfl) (hv : Vis X.env.scope x := by first | exact Or.inl rfl | exact Or.inr (Or.inl rfl) | exact Or.inr (Or.inr rfl))
    (h1 : (x == ("__debug__" : Str)) = false := by decide) (h2 : (x == ("__classdict__" : Str)) = false := by decide) (hs : starEach (.Name x pos :: es) X.env = (false, eval (.Name x pos) X.env) :: starEach es X.env := by rfl) : DA X (.Name x pos :: es) ρ (fun z => z = .box :: as) :=
  dar_box i hr (fun as' h => by rw [h]) hd hN hv h1 h2 hs
theorem da_scr (i : Nat) {x : Str} {as : List Sl} {ns : List Int} (hr : DA X es ρ (fun z => z = as)) (hd : ρ[i]? = some (.scr ns) := by rfl) (hN : X.N[i]? = some x := by rfl) (hv : Vis X.env.scope x := by first | exact Or.inl rfl | exact Or.inr (Or.inl rfl) | exact Or.inr (Or.inr rfl))
    (h1 : (x == ("__debug__" : Str)) = false := by decide) (h2 : (x == ("__classdict__" : Str)) = false := by decide) (hs : starEach (.Name x pos :: es) X.env = (false, eval (.Name x pos) X.env) :: starEach es X.env := by rfl) : DA X (.Name x pos :: es) ρ (fun z => z = .scr ns :: as) := fun Hs H σ E Q q => by
  obtain ⟨p, hv', hp⟩ := E.sl i _ hd
  exact wpA_of (pa_cons (pe_var hN hv h1 h2) pa_wp hs) ⟨.ref p, hv', hr Hs H σ E _ fun vs as H2s H2 t2 E2 r2 =>
    q (.ref p :: vs) (.scr ns :: as) H2s H2 t2 (En.cons E2 (SlOk.step t2 (s := .scr ns) ⟨p, rfl, hp⟩) (fun _ z => nomatch z)) (by rw [r2])⟩
theorem En.appendD {K : PySem.W.Frag} {Hs H : Hp} {as : List Sl} {ws : List V} (e : En K Hs H (ws.map some) as) : ∀ {vs : List V} {ds : List Dt}, RepAll K Hs vs ds → En K Hs H ((vs ++ ws).map some) (ds.map Sl.dat ++ as)
  | [], _, h => by cases h; exact e
  | v :: vs, _, h => by
    cases h with
    | cons h1 h2 => exact En.cons (En.appendD e h2) ⟨v, rfl, h1⟩ (fun _ z => nomatch z)
theorem da_star {ds : List Dt} {as : List Sl} {p : Pos} (h : DR X e ρ (fun z => z = .tup ds ∨ z = .lst ds)) (hr : DA X es ρ (fun z => z = as)) : DA X (.Starred e p :: es) ρ (fun z => z = ds.map Sl.dat ++ as) := fun Hs H σ E Q q =>
  wpA_of (StX.pa_star pe_wp pa_wp) (h Hs H σ E _ fun v H1s H1 t1 ⟨d, r, pr⟩ => by
    have hx : ∃ a xs, v = .ref a ∧ (SqT X.K H1 a xs ∨ SqL X.K H1 a xs) ∧ RepAll X.K H1s xs ds := by
      rcases r with r | r
      · subst r
        obtain ⟨a, xs, h1, h2, h3⟩ := pr.tup_inv
        exact ⟨a, xs, h1, Or.inl (ex_t t1.sub h2), h3⟩
      · subst r
        obtain ⟨a, xs, h1, h2, h3⟩ := pr.lst_inv
        exact ⟨a, xs, h1, Or.inr (Or.inl (Or.inl (t1.sub _ _ h2))), h3⟩
    obtain ⟨a, xs, h1, h2, h3⟩ := hx
    refine ⟨a, xs, h1, h2, hr H1s H1 σ (E.step t1) _ fun vs as' H2s H2 t2 E2 r2 => ?_⟩
    subst r2
    exact q (xs ++ vs) _ H2s H2 (t1.trans t2) (En.appendD E2 (RepAll.mono t2.fz ds xs h3)) rfl)
theorem En.reps {K : PySem.W.Frag} {Hs H : Hp} : ∀ {vs : List V} {ds : List Dt}, En K Hs H (vs.map some) (ds.map Sl.dat) → RepAll K Hs vs ds
  | [], [], _ => .nil
  | [], _ :: _, e => by have := e.len; simp at this
  | _ :: _, [], e => by have := e.len; simp at this
  | v :: vs, d :: ds, e => by
    obtain ⟨x, h1, h2⟩ := e.sl 0 (.dat d) rfl
    have q : v = x := by simpa using h1
    subst q
    refine .cons h2 (En.reps ⟨e.sub, by have := e.len; simpa using this, fun i s hi => by simpa using e.sl (i + 1) s (by simpa using hi), fun i j di dj h3 h4 hij => by simpa using e.dis (i + 1) (j + 1) di dj (by simpa using h3) (by simpa using h4) (by omega)⟩)
theorem dr_tup {x1 : Nat} (h : DA X es ρ (fun as => ∃ ds, as = ds.map Sl.dat ∧ ds.length ≤ 1000 ∧ R (.tup ds))) : DR X (.Tuple es x1 pos) ρ R := fun Hs H σ E Q q =>
  wpE_of (pe_tup pa_wp) (h Hs H σ E _ fun vs as H1s H1 t1 E1 ⟨ds, r1, r2, r3⟩ => by
    subst r1
    have hr := En.reps E1
    refine ⟨Nat.le_trans (by rw [hr.length]; exact r2) (by decide), fun p hp => ?_⟩
    exact q _ _ _ (t1.trans (Step.newF t1.sub hp)) ⟨_, r3, .tup (Or.inl (Or.inl upd_same)) (RepAll.mono (Ex.new (t1.sub.free hp)) ds vs hr)⟩)
theorem dl_lst {RL : List Dt → Prop} (h : DA X es ρ (fun as => ∃ ds, as = ds.map Sl.dat ∧ ds.length ≤ 100000 ∧ RL ds)) : DL X (.List es pos) ρ RL := fun Hs H σ E Q q =>
  wpE_of (pe_lst pa_wp) (h Hs H σ E _ fun vs as H1s H1 t1 E1 ⟨ds, r1, r2, r3⟩ => by
    subst r1
    have hr := En.reps E1
    refine ⟨Nat.le_trans (by rw [hr.length]; exact r2) (by decide), fun p hp => ?_⟩
    exact q _ _ _ (t1.trans (Step.newM t1.sub hp)) ⟨p, vs, ds, rfl, t1.free hp, t1.sub.free hp, upd_same, hr, r3⟩)
theorem DA.mono {S S' : List Sl → Prop} (h : DA X es ρ S) (k : ∀ as, S as → S' as) : DA X es ρ S' := fun Hs H σ E Q q => h Hs H σ E Q fun vs as Hs' H' t e r => q vs as Hs' H' t e (k as r)
theorem de_tup {x1 : Nat} {ds : List Dt} (h : DA X es ρ (fun z => z = ds.map Sl.dat)) (hl : ds.length ≤ 1000 := by decide) : DE X (.Tuple es x1 pos) ρ (.tup ds) := dr_tup (DA.mono h fun as r => ⟨ds, r, hl, rfl⟩)
theorem de_lst {ds : List Dt} (h : DA X es ρ (fun z => z = ds.map Sl.dat)) (hl : ds.length ≤ 100000 := by decide) : DL X (.List es pos) ρ (fun z => z = ds) := dl_lst (DA.mono h fun as r => ⟨ds, r, hl, rfl⟩)
end
end DL
/-! DLc -/
set_option Elab.async false
set_option linter.all false
set_option maxRecDepth 100000
set_option maxHeartbeats 4000000
namespace DL
open PySem PySem.Spec PyProof.Rows L2
section
variable {X : Cx} {e a b c : Expr} {es : List Expr} {ρ : List Sl} {R R1 R2 : Dt → Prop} {pos : Pos}
def wpX (X : Cx) : L2.R2 := fun x y H Q => ∀ value slice pins s σ v u, Inv X pins σ H s → RelV x v → RelV y u → subscripted slice false v u = operate [v, u] (getItem v u) → wpAny (model X.prog X.w) X.A (subscriptTail value slice v u) (EP X pins σ Q) X.xe s
theorem ix_wp : IxR X (wpX X) := fun value slice pins s σ H x y v u Q I rx ry h hs => h value slice pins s σ v u I rx ry hs
theorem wpX_of {r : L2.R2} (h : IxR X r) {x y : V} {H : Hp} {Q : VK} (q : r x y H Q) : wpX X x y H Q := fun value slice pins s σ v u I rx ry hs => h value slice pins s σ H x y v u Q I rx ry q hs
def IX (X : Cx) (d e : Dt) (R : Dt → Prop) : Prop :=
  ∀ Hs H v u, Ex Hs H → Rep X.K Hs v d → Rep X.K Hs u e → ∀ Q : VK, (∀ z Hs' H' g, Step Hs H Hs' H' → Rep X.K Hs' z g → R g → Q z H') → wpX X v u H Q
theorem dr_ix (ha : DR X a ρ R1) (hb : DR X b ρ R2) (ho : ∀ d e, R1 d → R2 e → IX X d e R) (hs : PlainIx b := by exact fun _ _ => rfl) : DR X (.Subscript a b pos) ρ R := fun Hs H σ E Q q =>
  wpE_of (pe_ix ix_wp pe_wp pe_wp hs) (ha Hs H σ E _ fun v H1s H1 t1 ⟨d, r1, p1⟩ => hb H1s H1 σ (E.step t1) _ fun u H2s H2 t2 ⟨e, r2, p2⟩ =>
    ho d e r1 r2 H2s H2 v u t2.sub (Rep.mono t2.fz d v p1) p2 Q fun z Hs' H' g t3 p3 r3 => q z Hs' H' ((t1.trans t2).trans t3) ⟨g, r3, p3⟩)
theorem de_ix {d e : Dt} (ha : DE X a ρ d) (hb : DE X b ρ e) (ho : IX X d e R) (hs : PlainIx b := by exact fun _ _ => rfl) : DR X (.Subscript a b pos) ρ R := dr_ix ha hb (fun _ _ h1 h2 => by rw [h1, h2]; exact ho) hs
theorem id_tup (n : Nat) {ds : List Dt} {i : Int} {g : Dt} (h : ds[n]? = some g := by rfl) (hi : i = (n : Int) := by rfl) : IX X (.tup ds) (.int i) (fun z => z = g) := fun Hs H v u s rv ru Q q => by
  obtain ⟨a, xs, rfl, h1, h2⟩ := rv.tup_inv
  obtain ⟨x, hx, hr⟩ := h2.get h
  rw [ru.int_inv, hi]
  exact wpX_of ix_tup ⟨a, xs, _, x, rfl, rfl, ex_t s h1, atI_nat hx, q x Hs H g (Step.refl s) hr rfl⟩
theorem id_lst (n : Nat) {ds : List Dt} {i : Int} {g : Dt} (h : ds[n]? = some g := by rfl) (hi : i = (n : Int) := by rfl) : IX X (.lst ds) (.int i) (fun z => z = g) := fun Hs H v u s rv ru Q q => by
  obtain ⟨a, xs, rfl, h1, h2⟩ := rv.lst_inv
  obtain ⟨x, hx, hr⟩ := h2.get h
  rw [ru.int_inv, hi]
  exact wpX_of ix_list ⟨a, xs, _, x, rfl, rfl, Or.inl (Or.inl (s _ _ h1)), atI_nat hx, q x Hs H g (Step.refl s) hr rfl⟩
/-- the last item -/
theorem id_last {ds : List Dt} {g : Dt} : IX X (.lst (ds ++ [g])) (.int (-1)) (fun z => z = g) := fun Hs H v u s rv ru Q q => by
  obtain ⟨a, xs, rfl, h1, h2⟩ := rv.lst_inv
  have hl : (ds ++ [g])[ds.length]? = some g := by simp
  obtain ⟨x, hx, hr⟩ := h2.get hl
  have hlen : xs.length = ds.length + 1 := by rw [h2.length]; simp
  have ha : atI xs (-1) = some x := by
    unfold atI ixN
    rw [if_neg (by decide), if_pos (by omega)]
    show xs[(-1 + (xs.length : Int)).toNat]? = some x
    rw [show (-1 + (xs.length : Int)).toNat = ds.length by omega]
    exact hx
  rw [ru.int_inv]
  exact wpX_of ix_list ⟨a, xs, _, x, rfl, rfl, Or.inl (Or.inl (s _ _ h1)), ha, q x Hs H g (Step.refl s) hr rfl⟩
theorem id_str (n : Nat) {z : Str} {i : Int} {c : Nat} (hz : z.length ≤ sizeLine) (h : z.cps.toList[n]? = some c) (hi : i = (n : Int) := by rfl) : IX X (.str z) (.int i) (fun g => g = .str ⟨#[c]⟩) := fun Hs H v u s rv ru Q q => by
  rw [ru.int_inv, rv.str_inv, hi]
  exact wpX_of ix_str ⟨z, _, c, rfl, rfl, hz, atI_nat h, q _ Hs H _ (Step.refl s) (.str _) rfl⟩
/-- an item of a list that is not frozen -/
theorem de_ixml (j n : Nat) {x : Str} {ds : List Dt} {g : Dt} {i : Int} {p2 : Pos} (hb : DE X b ρ (.int i)) (h : ds[n]? = some g) (hi : i = (n : Int)) (hd : ρ[j]? = some (.ml ds) := by rfl) (hN : X.N[j]? = some x := by rfl)
    (hv : Vis X.env.scope x := by first | exact Or.inl rfl | exact Or.inr (Or.inl rfl) | exact Or.inr (Or.inr rfl)) (hs : PlainIx b := by exact fun _ _ => rfl) (h1 : (x == ("__debug__" : Str)) = false := by decide) (h2 : (x == ("__classdict__" : Str)) = false := by decide) : DE X (.Subscript (.Name x p2) b pos) ρ g := fun Hs H σ E Q q => by
  obtain ⟨p, xs, hσ, hp, hH, hr, hn⟩ := E.sl j _ hd
  refine wpE_of (pe_ix ix_wp (pe_var hN hv h1 h2) pe_wp hs) ⟨.ref p, hσ, hb Hs H σ E _ fun u H2s H2 t2 ⟨d, e2, r2⟩ => ?_⟩
  subst e2
  have hr2 := RepAll.mono t2.fz _ _ hr
  obtain ⟨y, hy, hry⟩ := hr2.get h
  rw [r2.int_inv, hi]
  exact wpX_of ix_list ⟨p, xs, _, y, rfl, rfl, Or.inl (Or.inl (t2.keep _ _ hH (notBox hr hn))), atI_nat hy, q y H2s H2 t2 ⟨g, rfl, hry⟩⟩
/-- box[0], box[1]: some int -/
theorem dr_ixbox (j : Nat) {x : Str} {k : Int} {i2 : Nat} {p2 p3 : Pos} (hk : k = 0 ∨ k = 1) (hd : ρ[j]? = some .box := by rfl) (hN : X.N[j]? = some x := by rfl)
    (hv : Vis X.env.scope x := by first | exact Or.inl rfl | exact Or.inr (Or.inl rfl) | exact Or.inr (Or.inr rfl)) (h1 : (x == ("__debug__" : Str)) = false := by decide) (h2 : (x == ("__classdict__" : Str)) = false := by decide) :
    DR X (.Subscript (.Name x p2) (.Constant (.int k) i2 p3) pos) ρ (fun d => ∃ i : Int, d = .int i) := fun Hs H σ E Q q => by
  obtain ⟨p, o, hσ, hp, hH, n0, n1, ho⟩ := E.sl j _ hd
  subst ho
  refine wpE_of (pe_ix ix_list (pe_var hN hv h1 h2) pe_int (fun _ _ => rfl)) ⟨.ref p, hσ, ?_⟩
  rcases hk with rfl | rfl
  · exact ⟨p, _, _, .int n0, rfl, rfl, Or.inl (Or.inl hH), rfl, q _ Hs H (Step.refl E.sub) ⟨_, ⟨n0, rfl⟩, .int _⟩⟩
  · exact ⟨p, _, _, .int n1, rfl, rfl, Or.inl (Or.inl hH), rfl, q _ Hs H (Step.refl E.sub) ⟨_, ⟨n1, rfl⟩, .int _⟩⟩
/-- script[k] -/
theorem de_ixscr (j n : Nat) {x : Str} {ns : List Int} {g i : Int} {p2 : Pos} (hb : DE X b ρ (.int i)) (h : ns[n]? = some g) (hi : i = (n : Int)) (hd : ρ[j]? = some (.scr ns) := by rfl) (hN : X.N[j]? = some x := by rfl)
    (hv : Vis X.env.scope x := by first | exact Or.inl rfl | exact Or.inr (Or.inl rfl) | exact Or.inr (Or.inr rfl)) (hs : PlainIx b := by exact fun _ _ => rfl) (h1 : (x == ("__debug__" : Str)) = false := by decide) (h2 : (x == ("__classdict__" : Str)) = false := by decide) : DE X (.Subscript (.Name x p2) b pos) ρ (.int g) := fun Hs H σ E Q q => by
  obtain ⟨p, hσ, hp⟩ := E.sl j _ hd
  refine wpE_of (pe_ix ix_list (pe_var hN hv h1 h2) pe_wp hs) ⟨.ref p, hσ, hb Hs H σ E _ fun u H2s H2 t2 ⟨d, e2, r2⟩ => ?_⟩
  subst e2
  have hy : (ns.map V.int)[n]? = some (.int g) := by rw [List.getElem?_map, h]; rfl
  rw [r2.int_inv, hi]
  exact ⟨p, _, _, .int g, rfl, rfl, ex_l (t2.fz.trans t2.sub) hp, atI_nat hy, q _ H2s H2 t2 ⟨_, rfl, .int _⟩⟩

def wpP (X : Cx) (e : Option Expr) : TO := fun σ H Q => ∀ pins s, Inv X pins σ H s → wpAny (model X.prog X.w) X.A (evalPart e X.env) (fun u s' => ∃ o H', Inv X pins σ H' s' ∧ IsPart u o ∧ Q o H') X.xe s
theorem po_wp {e : Option Expr} : PO X e (wpP X e) := ⟨fun pins s σ H Q I h => h pins s I⟩
theorem wpP_of {e : Option Expr} {t : TO} (h : PO X e t) {σ : L2.St} {H : Hp} {Q : Option Int → Hp → Prop} (q : t σ H Q) : wpP X e σ H Q := fun pins s I => h.run pins s σ H Q I q
def DP (X : Cx) (e : Option Expr) (ρ : List Sl) (R : Option Int → Prop) : Prop :=
  ∀ Hs H σ, En X.K Hs H σ ρ → ∀ Q : Option Int → Hp → Prop, (∀ o Hs' H', Step Hs H Hs' H' → R o → Q o H') → wpP X e σ H Q
theorem dp_none : DP X none ρ (fun o => o = none) := fun Hs H σ E Q q => wpP_of po_none (q none Hs H (Step.refl E.sub) rfl)
theorem dpr_some {S : Int → Prop} (h : DR X e ρ (fun d => ∃ i, d = .int i ∧ S i)) : DP X (some e) ρ (fun o => ∃ i, o = some i ∧ S i) := fun Hs H σ E Q q => wpP_of (po_some pe_wp) (h Hs H σ E _ fun v Hs' H' t ⟨d, ⟨i, r, r'⟩, p⟩ => by
  subst r
  exact ⟨i, p.int_inv, q (some i) Hs' H' t ⟨i, rfl, r'⟩⟩)
theorem dp_some {i : Int} (h : DE X e ρ (.int i)) : DP X (some e) ρ (fun o => o = some i) := fun Hs H σ E Q q => wpP_of (po_some pe_wp) (h Hs H σ E _ fun v Hs' H' t ⟨d, r, p⟩ => by
  subst r
  exact ⟨i, p.int_inv, q (some i) Hs' H' t rfl⟩)
variable {lo hi : Option Expr} {p2 : Pos} {S1 S2 : Option Int → Prop}
theorem dr_slS {R1 : Str → Prop} (he : DR X e ρ (fun d => ∃ z, d = .str z ∧ R1 z)) (hl : DP X lo ρ S1) (hh : DP X hi ρ S2) (hz : ∀ z, R1 z → z.length ≤ sizeLine) (k : ∀ z l h, R1 z → S1 l → S2 h → R (.str (cutS z l h))) : DR X (.Subscript e (.Slice lo hi none p2) pos) ρ R := fun Hs H σ E Q q =>
  wpE_of (pe_slice sl_str pe_wp po_wp po_wp) (he Hs H σ E _ fun v H1s H1 t1 ⟨d, ⟨z, r1, r1'⟩, p1⟩ => hl H1s H1 σ (E.step t1) _ fun l H2s H2 t2 r2 => hh H2s H2 σ (E.step (t1.trans t2)) _ fun h H3s H3 t3 r3 => by
    subst r1
    exact ⟨z, p1.str_inv, hz z r1', q _ H3s H3 ((t1.trans t2).trans t3) ⟨_, k z l h r1' r2 r3, .str _⟩⟩)
theorem de_slS {z : Str} {l h : Option Int} (he : DE X e ρ (.str z)) (hl : DP X lo ρ (fun o => o = l)) (hh : DP X hi ρ (fun o => o = h)) (hz : z.length ≤ sizeLine) : DE X (.Subscript e (.Slice lo hi none p2) pos) ρ (.str (cutS z l h)) :=
  dr_slS (R1 := fun y => y = z) (DR.mono he fun d r => ⟨z, r, rfl⟩) hl hh (fun y e => by rw [e]; exact hz) (fun y l' h' e1 e2 e3 => by rw [e1, e2, e3])
def cutD (xs : List Dt) (lo hi : Option Int) : List Dt := (xs.drop (HT.sIx xs.length 0 lo)).take (HT.sIx xs.length xs.length hi - HT.sIx xs.length 0 lo)
theorem RepAll.cut {K : PySem.W.Frag} {H : Hp} {vs : List V} {ds : List Dt} (h : RepAll K H vs ds) (l u : Option Int) : RepAll K H (cutV vs l u) (cutD ds l u) := by
  unfold cutV cutD
  rw [h.length]
  exact (h.drop _).take _
theorem cutD_lo (xs : List Dt) (n : Nat) : cutD xs (some (n : Int)) none = xs.drop n := by
  unfold cutD
  rw [HT.sIx_nat, HT.sIx_none, List.take_of_length_le (by rw [List.length_drop]; omega)]
  by_cases h : n ≤ xs.length
  · rw [Nat.min_eq_left h]
  · rw [Nat.min_eq_right (by omega), List.drop_of_length_le (Nat.le_refl _), List.drop_of_length_le (by omega)]
theorem cutD_hi (xs : List Dt) (n : Nat) : cutD xs none (some (n : Int)) = xs.take n := by
  unfold cutD
  rw [HT.sIx_nat, HT.sIx_none, List.drop_zero, Nat.sub_zero]
  by_cases h : n ≤ xs.length
  · rw [Nat.min_eq_left h]
  · rw [Nat.min_eq_right (by omega), List.take_of_length_le (Nat.le_refl _), List.take_of_length_le (by omega)]
theorem dl_slL {R1 RL : List Dt → Prop} (he : DR X e ρ (fun d => ∃ z, d = .lst z ∧ R1 z)) (hl : DP X lo ρ S1) (hh : DP X hi ρ S2) (k : ∀ z l h, R1 z → S1 l → S2 h → RL (cutD z l h)) : DL X (.Subscript e (.Slice lo hi none p2) pos) ρ RL := fun Hs H σ E Q q =>
  wpE_of (pe_slice sl_list pe_wp po_wp po_wp) (he Hs H σ E _ fun v H1s H1 t1 ⟨d, ⟨z, r1, r1'⟩, p1⟩ => hl H1s H1 σ (E.step t1) _ fun l H2s H2 t2 r2 => hh H2s H2 σ (E.step (t1.trans t2)) _ fun h H3s H3 t3 r3 => by
    subst r1
    obtain ⟨a, xs, rfl, h1, h2⟩ := p1.lst_inv
    have t23 := t2.trans t3
    refine ⟨a, xs, rfl, Or.inl (Or.inl (t23.sub _ _ (t23.fz _ _ h1))), fun p hp => ?_⟩
    exact q _ H3s _ ((t1.trans t23).trans (Step.newM t3.sub hp)) ⟨p, _, _, rfl, (t1.trans t23).free hp, t3.sub.free hp, upd_same, (RepAll.mono t23.fz _ _ h2).cut l h, k z l h r1' r2 r3⟩)
theorem de_slT {ds : List Dt} {l h : Option Int} (he : DE X e ρ (.tup ds)) (hl : DP X lo ρ (fun o => o = l)) (hh : DP X hi ρ (fun o => o = h)) (hw : ¬ (HT.sIx ds.length 0 l = 0 ∧ HT.sIx ds.length ds.length h = ds.length)) : DE X (.Subscript e (.Slice lo hi none p2) pos) ρ (.tup (cutD ds l h)) := fun Hs H σ E Q q =>
  wpE_of (pe_slice sl_tup pe_wp po_wp po_wp) (he Hs H σ E _ fun v H1s H1 t1 ⟨d, r1, p1⟩ => hl H1s H1 σ (E.step t1) _ fun l' H2s H2 t2 r2 => hh H2s H2 σ (E.step (t1.trans t2)) _ fun h' H3s H3 t3 r3 => by
    subst r1 r2 r3
    obtain ⟨a, xs, rfl, h1, h2⟩ := p1.tup_inv
    have t23 := t2.trans t3
    refine ⟨a, xs, rfl, ex_t (t23.fz.trans t23.sub) h1, by rw [h2.length]; exact hw, fun p hp => ?_⟩
    exact q _ _ _ ((t1.trans t23).trans (Step.newF t3.sub hp)) ⟨_, rfl, .tup (Or.inl (Or.inl upd_same)) (RepAll.mono (Ex.new (t3.sub.free hp)) _ _ ((RepAll.mono t23.fz _ _ h2).cut _ _))⟩)
/-- script[:k] -/
theorem dl_slscr (j : Nat) {x : Str} {ns : List Int} {n : Nat} {p3 : Pos} (hl : DP X lo ρ (fun o => o = none)) (hh : DP X hi ρ (fun o => o = some (n : Int))) (hd : ρ[j]? = some (.scr ns) := by rfl) (hN : X.N[j]? = some x := by rfl)
    (hv : Vis X.env.scope x := by first | exact Or.inl rfl | exact Or.inr (Or.inl rfl) | exact Or.inr (Or.inr rfl)) (h1 : (x == ("__debug__" : Str)) = false := by decide) (h2 : (x == ("__classdict__" : Str)) = false := by decide) : DL X (.Subscript (.Name x p3) (.Slice lo hi none p2) pos) ρ (fun ds => ds = (ns.take n).map Dt.int) := fun Hs H σ E Q q => by
  obtain ⟨a, hσ, hp⟩ := E.sl j _ hd
  refine wpE_of (pe_slice sl_list (pe_var hN hv h1 h2) po_wp po_wp) ⟨.ref a, hσ, hl Hs H σ E _ fun l H2s H2 t2 r2 => hh H2s H2 σ (E.step t2) _ fun h H3s H3 t3 r3 => ?_⟩
  subst r2 r3
  have t23 := t2.trans t3
  refine ⟨a, _, rfl, ex_l (t23.fz.trans t23.sub) hp, fun p hp2 => ?_⟩
  refine q _ H3s _ (t23.trans (Step.newM t3.sub hp2)) ⟨p, _, _, rfl, t23.free hp2, t3.sub.free hp2, upd_same, ?_, rfl⟩
  have e1 : cutV (ns.map V.int) none (some (n : Int)) = (ns.take n).map V.int := by
    unfold cutV
    rw [HT.sIx_nat, HT.sIx_none, List.drop_zero, Nat.sub_zero, List.map_take, List.length_map]
    by_cases h : n ≤ ns.length
    · rw [Nat.min_eq_left h]
    · rw [Nat.min_eq_right (by omega), List.take_of_length_le (by rw [List.length_map]; omega), List.take_of_length_le (by rw [List.length_map]; omega)]
  rw [e1]
  exact repInts _

theorem de_fld {C f : Str} {fs : List (Str × Dt)} {d : Dt} (he : DE X e ρ (.ins C fs)) (hc : Cls X.K (He.ga X.K C)) (hn : NoAttr X.K (He.ga X.K C) f) (hl : fs.lookup f = some d := by rfl) (hb : attributeBase e f X.env (eval e X.env) = eval e X.env := by rfl) : DE X (.Attribute e f pos) ρ d := fun Hs H σ E Q q =>
  wpE_of (pe_fld pe_wp hb) (he Hs H σ E _ fun v H1s H1 t1 ⟨d', r, p⟩ => by
    subst r
    obtain ⟨a, dx, fs', rfl, h1, h2⟩ := p.ins_inv
    obtain ⟨y, hy, hr⟩ := h2.lookup hl
    exact ⟨a, _, dx, fs', y, rfl, t1.sub _ _ h1, hc, hn, hy, q y H1s H1 t1 ⟨d, rfl, hr⟩⟩)
theorem dr_dget {kvs : List (Str × Dt)} {S : Str → Prop} (hu : X.A.units + 1 < cLine) (he : DE X a ρ (.dct kvs)) (hk : DR X b ρ (fun d => ∃ k, d = .str k ∧ S k)) (hl : ∀ k, S k → ∃ d, kvs.lookup k = some d ∧ R d) (hs : NoSl b := by exact fun _ _ => rfl) : DR X (.Subscript a b pos) ρ R := fun Hs H σ E Q q =>
  wpE_of (pe_dget hu pe_wp pe_wp hs) (he Hs H σ E _ fun v H1s H1 t1 ⟨d', r, p⟩ => hk H1s H1 σ (E.step t1) _ fun u H2s H2 t2 ⟨d2, ⟨k, r2, r2'⟩, p2⟩ => by
    subst r r2
    obtain ⟨a, kv, rfl, h1, h2⟩ := p.dct_inv
    obtain ⟨d, hd, hR⟩ := hl k r2'
    obtain ⟨y, hy, hr⟩ := (RepKv.mono t2.fz _ _ h2).find hd
    refine ⟨a, y, rfl, ?_, q y H2s H2 (t1.trans t2) ⟨d, hR, hr⟩⟩
    rw [p2.str_inv, ← hy]
    exact DGet.k (k := Sum.inr k) (t2.sub _ _ (t2.fz _ _ h1)))
theorem de_dget {kvs : List (Str × Dt)} {k : Str} {d : Dt} (hu : X.A.units + 1 < cLine) (he : DE X a ρ (.dct kvs)) (hk : DE X b ρ (.str k)) (hl : kvs.lookup k = some d := by rfl) (hs : NoSl b := by exact fun _ _ => rfl) : DE X (.Subscript a b pos) ρ d :=
  dr_dget (S := fun z => z = k) hu he (DR.mono hk fun d r => ⟨k, r, rfl⟩) (fun z e => ⟨d, by rw [e]; exact hl, rfl⟩) hs

def wpC (X : Cx) (f : Value) : List V → Hp → VK → Prop := fun xs H Q => ∀ pins s σ us, Inv X pins σ H s → Vals xs us → wpAny (model X.prog X.w) X.A (call f us) (EP X pins σ Q) X.xe s
theorem cb_wp {f : Value} : CallR X f (wpC X f) := fun pins s σ H xs us Q I r h => h pins s σ us I r
theorem wpC_of {f : Value} {r : List V → Hp → VK → Prop} (h : CallR X f r) {xs : List V} {H : Hp} {Q : VK} (q : r xs H Q) : wpC X f xs H Q := fun pins s σ us I rv => h pins s σ H xs us Q I rv q
/-- a call with data gives data -/
def CD (X : Cx) (f : Value) (as : List Sl) (P : Hp → V → Hp → Hp → Prop) : Prop :=
  ∀ Hs H vs, En X.K Hs H (vs.map some) as → ∀ Q : VK, (∀ z Hs' H', Step Hs H Hs' H' → P H z Hs' H' → Q z H') → wpC X f vs H Q
theorem PD.step {K : PySem.W.Frag} {Hs H H1s H1 Hs' H' : Hp} {z : V} (t : Step Hs H H1s H1) (h : PD K R H1 z Hs' H') : PD K R H z Hs' H' := h
theorem PL.step {K : PySem.W.Frag} {RL : List Dt → Prop} {Hs H H1s H1 Hs' H' : Hp} {z : V} (t : Step Hs H H1s H1) (h : PL K RL H1 z Hs' H') : PL K RL H z Hs' H' := by
  obtain ⟨p, xs, ds, h1, h2, h3⟩ := h
  exact ⟨p, xs, ds, h1, t.free h2, h3⟩
theorem tv_cb {f : Value} {e : Expr} {S : List Sl → Prop} {P : Hp → V → Hp → Hp → Prop} (hpe : PE X e (tCB (wpC X f) (wpA X es))) (hP : ∀ {Hs H H1s H1 Hs' H' z}, Step Hs H H1s H1 → P H1 z Hs' H' → P H z Hs' H') (ha : DA X es ρ S) (hc : ∀ as, S as → CD X f as P) : TV X.K (wpE X e) ρ P := fun Hs H σ E Q q =>
  wpE_of hpe (ha Hs H σ E _ fun vs as H1s H1 t1 E1 r1 => hc as r1 H1s H1 vs E1 Q fun z Hs' H' t2 p2 => q z Hs' H' (t1.trans t2) (hP t1 p2))
/-- f(e, ..) by a built-in's name: data comes, a new list comes -/
theorem dr_cb {id : String} {x : Str} {p : Pos} {S : List Sl → Prop} (hm : X.mg x = none) (hv : bootBuiltins x = some (.builtin id)) (ha : DA X (e :: es) ρ S) (hc : ∀ as, S as → CD X (.builtin id) as (PD X.K R)) (hg : Gl X x := by rfl)
    (hn : x ≠ "__name__" := by decide) (hdb : (x == ("__debug__" : Str)) = false := by decide) (he : starEach (e :: es) X.env = (false, eval e X.env) :: starEach es X.env := by rfl) (hpl : (backTo pos (starEach es X.env)).any (·.1) = false := by rfl) : DR X (.Call (.Name x p) (e :: es) [] pos) ρ R :=
  tv_cb (pe_callB cb_wp hg hm hv pa_wp hn hdb he hpl) (fun t h => PD.step t h) ha hc
theorem dr_ct {T : String} {x : Str} {p : Pos} {S : List Sl → Prop} (hm : X.mg x = none) (hv : bootBuiltins x = some (.type T)) (ha : DA X (e :: es) ρ S) (hc : ∀ as, S as → CD X (.type T) as (PD X.K R)) (hg : Gl X x := by rfl)
    (hn : x ≠ "__name__" := by decide) (hdb : (x == ("__debug__" : Str)) = false := by decide) (he : starEach (e :: es) X.env = (false, eval e X.env) :: starEach es X.env := by rfl) (hpl : (backTo pos (starEach es X.env)).any (·.1) = false := by rfl) : DR X (.Call (.Name x p) (e :: es) [] pos) ρ R :=
  tv_cb (pe_callTy cb_wp hg hm hv pa_wp hn hdb he hpl) (fun t h => PD.step t h) ha hc
theorem dl_ct {T : String} {x : Str} {p : Pos} {S : List Sl → Prop} {RL : List Dt → Prop} (hm : X.mg x = none) (hv : bootBuiltins x = some (.type T)) (ha : DA X (e :: es) ρ S) (hc : ∀ as, S as → CD X (.type T) as (PL X.K RL)) (hg : Gl X x := by rfl)
    (hn : x ≠ "__name__" := by decide) (hdb : (x == ("__debug__" : Str)) = false := by decide) (he : starEach (e :: es) X.env = (false, eval e X.env) :: starEach es X.env := by rfl) (hpl : (backTo pos (starEach es X.env)).any (·.1) = false := by rfl) : DL X (.Call (.Name x p) (e :: es) [] pos) ρ RL :=
  tv_cb (pe_callTy cb_wp hg hm hv pa_wp hn hdb he hpl) (fun t h => PL.step t h) ha hc
theorem one_dat {K : PySem.W.Frag} {Hs H : Hp} {vs : List V} {d : Dt} (E : En K Hs H (vs.map some) [.dat d]) : ∃ v, vs = [v] ∧ Rep K Hs v d := by
  have h : RepAll K Hs vs [d] := En.reps (ds := [d]) E
  cases h with
  | cons h1 h2 =>
    cases h2
    exact ⟨_, rfl, h1⟩
theorem two_dat {K : PySem.W.Frag} {Hs H : Hp} {vs : List V} {d g : Dt} (E : En K Hs H (vs.map some) [.dat d, .dat g]) : ∃ v u, vs = [v, u] ∧ Rep K Hs v d ∧ Rep K Hs u g := by
  have h : RepAll K Hs vs [d, g] := En.reps (ds := [d, g]) E
  cases h with
  | cons h1 h2 =>
    cases h2 with
    | cons h2 h3 =>
      cases h3
      exact ⟨_, _, rfl, h1, h2⟩
theorem cd_lenL {ds : List Dt} : CD X (.builtin "len") [.dat (.lst ds)] (PD X.K (fun z => z = .int (ds.length : Int))) := fun Hs H vs E Q q => by
  obtain ⟨v, rfl, h⟩ := one_dat E
  obtain ⟨a, xs, rfl, h1, h2⟩ := h.lst_inv
  refine wpC_of call_len_seq ⟨a, xs, rfl, Or.inl (Or.inl (Or.inl (E.sub _ _ h1))), q _ Hs H (Step.refl E.sub) ⟨_, rfl, ?_⟩⟩
  rw [h2.length]
  exact .int _
theorem cd_lenT {ds : List Dt} : CD X (.builtin "len") [.dat (.tup ds)] (PD X.K (fun z => z = .int (ds.length : Int))) := fun Hs H vs E Q q => by
  obtain ⟨v, rfl, h⟩ := one_dat E
  obtain ⟨a, xs, rfl, h1, h2⟩ := h.tup_inv
  refine wpC_of call_len_seq ⟨a, xs, rfl, Or.inr (ex_t E.sub h1), q _ Hs H (Step.refl E.sub) ⟨_, rfl, ?_⟩⟩
  rw [h2.length]
  exact .int _
theorem cd_lenS {z : Str} (hz : z.length ≤ sizeLine) : CD X (.builtin "len") [.dat (.str z)] (PD X.K (fun g => g = .int (z.length : Int))) := fun Hs H vs E Q q => by
  obtain ⟨v, rfl, h⟩ := one_dat E
  rw [h.str_inv]
  exact wpC_of call_len_str ⟨z, rfl, hz, q _ Hs H (Step.refl E.sub) ⟨_, rfl, .int _⟩⟩
theorem cd_lenScr {ns : List Int} : CD X (.builtin "len") [.scr ns] (PD X.K (fun g => g = .int (ns.length : Int))) := fun Hs H vs E Q q => by
  have hl := E.len
  obtain ⟨a, h1, h2⟩ := E.sl 0 _ rfl
  obtain ⟨v, rfl⟩ : ∃ v, vs = [v] := by
    cases vs with
    | nil => simp at hl
    | cons v r => cases r with
      | nil => exact ⟨v, rfl⟩
      | cons _ _ => simp at hl
  have e : v = .ref a := by simpa using h1
  subst e
  refine wpC_of call_len_seq ⟨a, _, rfl, Or.inl (ex_l E.sub h2), q _ Hs H (Step.refl E.sub) ⟨_, rfl, ?_⟩⟩
  rw [List.length_map]
  exact .int _
theorem cd_abs {i : Int} : CD X (.builtin "abs") [.dat (.int i)] (PD X.K (fun g => g = .int (if i < 0 then -i else i))) := fun Hs H vs E Q q => by
  obtain ⟨v, rfl, h⟩ := one_dat E
  rw [h.int_inv]
  exact wpC_of call_abs ⟨i, rfl, q _ Hs H (Step.refl E.sub) ⟨_, rfl, .int _⟩⟩
theorem cd_max {i j : Int} (hc : X.calm = true := by rfl) : CD X (.builtin "max") [.dat (.int i), .dat (.int j)] (PD X.K (fun g => g = .int (if j > i then j else i))) := fun Hs H vs E Q q => by
  obtain ⟨v, u, rfl, h, h'⟩ := two_dat E
  rw [h.int_inv, h'.int_inv]
  exact wpC_of (call_max2 hc) ⟨i, j, rfl, q _ Hs H (Step.refl E.sub) ⟨_, rfl, .int _⟩⟩
theorem cd_min {i j : Int} (hc : X.calm = true := by rfl) : CD X (.builtin "min") [.dat (.int i), .dat (.int j)] (PD X.K (fun g => g = .int (if j < i then j else i))) := fun Hs H vs E Q q => by
  obtain ⟨v, u, rfl, h, h'⟩ := two_dat E
  rw [h.int_inv, h'.int_inv]
  exact wpC_of (call_min2 hc) ⟨i, j, rfl, q _ Hs H (Step.refl E.sub) ⟨_, rfl, .int _⟩⟩
theorem cd_intI {i : Int} : CD X (.type "int") [.dat (.int i)] (PD X.K (fun g => g = .int i)) := fun Hs H vs E Q q => by
  obtain ⟨v, rfl, h⟩ := one_dat E
  rw [h.int_inv]
  exact wpC_of call_int1 (Or.inl ⟨i, rfl, q _ Hs H (Step.refl E.sub) ⟨_, rfl, .int _⟩⟩)
theorem cd_intB {k : Bool} : CD X (.type "int") [.dat (.bl k)] (PD X.K (fun g => g = .int (if k then 1 else 0))) := fun Hs H vs E Q q => by
  obtain ⟨v, rfl, h⟩ := one_dat E
  rw [h.bl_inv]
  exact wpC_of call_int1 (Or.inr ⟨k, rfl, q _ Hs H (Step.refl E.sub) ⟨_, rfl, .int _⟩⟩)
theorem cd_tupL {ds : List Dt} : CD X (.type "tuple") [.dat (.lst ds)] (PD X.K (fun g => g = .tup ds)) := fun Hs H vs E Q q => by
  obtain ⟨v, rfl, h⟩ := one_dat E
  obtain ⟨a, xs, rfl, h1, h2⟩ := h.lst_inv
  exact wpC_of call_tuple_of ⟨a, xs, rfl, Or.inl ⟨Or.inl (Or.inl (E.sub _ _ h1)), fun l hl => q _ _ _ (Step.newF E.sub hl) ⟨_, rfl, .tup (Or.inl (Or.inl upd_same)) (RepAll.mono (Ex.new (E.sub.free hl)) _ _ h2)⟩⟩⟩
theorem cd_tupT {ds : List Dt} : CD X (.type "tuple") [.dat (.tup ds)] (PD X.K (fun g => g = .tup ds)) := fun Hs H vs E Q q => by
  obtain ⟨v, rfl, h⟩ := one_dat E
  obtain ⟨a, xs, rfl, h1, h2⟩ := id h.tup_inv
  exact wpC_of call_tuple_of ⟨a, xs, rfl, Or.inr ⟨ex_t E.sub h1, q _ Hs H (Step.refl E.sub) ⟨_, rfl, h⟩⟩⟩
theorem cd_lstL {ds : List Dt} : CD X (.type "list") [.dat (.lst ds)] (PL X.K (fun g => g = ds)) := fun Hs H vs E Q q => by
  obtain ⟨v, rfl, h⟩ := one_dat E
  obtain ⟨a, xs, rfl, h1, h2⟩ := h.lst_inv
  exact wpC_of call_list_of ⟨a, xs, rfl, Or.inl (Or.inl (Or.inl (E.sub _ _ h1))), fun l hl => q _ _ _ (Step.newM E.sub hl) ⟨l, xs, ds, rfl, hl, E.sub.free hl, upd_same, h2, rfl⟩⟩
end
end DL
/-! DLd -/
set_option Elab.async false
set_option linter.all false
set_option maxRecDepth 100000
set_option maxHeartbeats 4000000
namespace DL
open PySem PySem.Spec PyProof.Rows L2
def isMut : Sl → Bool
  | .ml _ => true
  | .md _ => true
  | .own _ _ _ => true
  | _ => false
/-- the slots like ρ, since the start S0, H0; what B holds is frozen -/
def At (K : PySem.W.Frag) (S0 H0 B : Hp) (ρ : List Sl) (σ : L2.St) (H : Hp) : Prop :=
  ∃ Hs, Ex B Hs ∧ Step S0 H0 Hs H ∧ En K Hs H σ ρ ∧ ∀ (i : Nat) (s : Sl) (p : Addr), ρ[i]? = some s → isMut s = true → σ[i]? = some (some (.ref p)) → H0 p = none
structure DEnds where
  nx : List Sl → Prop
  rt : Dt → Prop
  fr : Bool := false
  bk : List Sl → Prop := fun _ => False
  ct : List Sl → Prop := fun _ => False
/-- what a def hands back: data, or a new list that is not frozen -/
def Back (K : PySem.W.Frag) (fr : Bool) (H0 Hs H : Hp) (v : V) (d : Dt) : Prop :=
  match fr with
  | true => ∃ p xs ds, v = .ref p ∧ H0 p = none ∧ Hs p = none ∧ H p = some (.lst xs) ∧ RepAll K Hs xs ds ∧ d = .lst ds
  | false => Rep K Hs v d
def DEnds.e (K : PySem.W.Frag) (S0 H0 B : Hp) (D : DEnds) : Ends where
  nx := fun σ H => ∃ ρ, D.nx ρ ∧ At K S0 H0 B ρ σ H
  rt := fun v H => ∃ Hs d, Step S0 H0 Hs H ∧ D.rt d ∧ Back K D.fr H0 Hs H v d
  bk := fun σ H => ∃ ρ, D.bk ρ ∧ At K S0 H0 B ρ σ H
  ct := fun σ H => ∃ ρ, D.ct ρ ∧ At K S0 H0 B ρ σ H
section
variable {X : Cx}
def wpS (X : Cx) (st : Stmt) : TS := fun D σ H => ∀ pins s, Inv X pins σ H s → wpAny (model X.prog X.w) X.A (exec st X.env) (SP X pins D) X.xe s
def wpSs (X : Cx) (st : List Stmt) : TS := fun D σ H => ∀ pins s, Inv X pins σ H s → wpAny (model X.prog X.w) X.A (execs st X.env) (SP X pins D) X.xe s
theorem ps_wp {st : Stmt} : PS X st (wpS X st) := ⟨fun pins s σ H D I h => h pins s I⟩
theorem pss_wp {st : List Stmt} : PSs X st (wpSs X st) := ⟨fun pins s σ H D I h => h pins s I⟩
theorem wpS_of {st : Stmt} {t : TS} (h : PS X st t) {σ : L2.St} {H : Hp} {D : Ends} (q : t D σ H) : wpS X st D σ H := fun pins s I => h.run pins s σ H D I q
theorem wpSs_of {st : List Stmt} {t : TS} (h : PSs X st t) {σ : L2.St} {H : Hp} {D : Ends} (q : t D σ H) : wpSs X st D σ H := fun pins s I => h.run pins s σ H D I q
theorem SP.mono {pins : List (Addr × Obj)} {D D' : Ends} {f : Flow} {s : Shared} (h : SP X pins D f s) (h1 : ∀ σ H, D.nx σ H → D'.nx σ H) (h2 : ∀ v H, D.rt v H → D'.rt v H) (h3 : ∀ σ H, D.bk σ H → D'.bk σ H) (h4 : ∀ σ H, D.ct σ H → D'.ct σ H) : SP X pins D' f s := by
  cases f with
  | next => obtain ⟨σ, H, I, q⟩ := h; exact ⟨σ, H, I, h1 σ H q⟩
  | brk => obtain ⟨σ, H, I, q⟩ := h; exact ⟨σ, H, I, h3 σ H q⟩
  | cont => obtain ⟨σ, H, I, q⟩ := h; exact ⟨σ, H, I, h4 σ H q⟩
  | ret u => obtain ⟨v, σ, H, I, r, q⟩ := h; exact ⟨v, σ, H, I, r, h2 v H q⟩
theorem wpS_mono {st : Stmt} {D D' : Ends} {σ : L2.St} {H : Hp} (h : wpS X st D σ H) (h1 : ∀ σ H, D.nx σ H → D'.nx σ H) (h2 : ∀ v H, D.rt v H → D'.rt v H) (h3 : ∀ σ H, D.bk σ H → D'.bk σ H) (h4 : ∀ σ H, D.ct σ H → D'.ct σ H) : wpS X st D' σ H := fun pins s I =>
  thn (h pins s I) fun f s' q => SP.mono q h1 h2 h3 h4
theorem wpSs_mono {st : List Stmt} {D D' : Ends} {σ : L2.St} {H : Hp} (h : wpSs X st D σ H) (h1 : ∀ σ H, D.nx σ H → D'.nx σ H) (h2 : ∀ v H, D.rt v H → D'.rt v H) (h3 : ∀ σ H, D.bk σ H → D'.bk σ H) (h4 : ∀ σ H, D.ct σ H → D'.ct σ H) : wpSs X st D' σ H := fun pins s I =>
  thn (h pins s I) fun f s' q => SP.mono q h1 h2 h3 h4
variable {S0 H0 : Hp} {ρ : List Sl} {D : DEnds} {e a b c : Expr} {es : List Expr} {st : Stmt} {sts rest : List Stmt} {R : Dt → Prop} {pos : Pos}
def DS (X : Cx) (S0 H0 : Hp) (st : Stmt) (ρ : List Sl) (D : DEnds) : Prop := ∀ B σ H, At X.K S0 H0 B ρ σ H → wpS X st (D.e X.K S0 H0 B) σ H
def DSs (X : Cx) (S0 H0 : Hp) (st : List Stmt) (ρ : List Sl) (D : DEnds) : Prop := ∀ B σ H, At X.K S0 H0 B ρ σ H → wpSs X st (D.e X.K S0 H0 B) σ H
theorem At.en {K : PySem.W.Frag} {B : Hp} {σ : L2.St} {H Hs' H' : Hp} {Hs : Hp} (h1 : Ex B Hs) (h2 : Step S0 H0 Hs H) (h3 : En K Hs H σ ρ) (h4 : ∀ (i : Nat) (s : Sl) (p : Addr), ρ[i]? = some s → isMut s = true → σ[i]? = some (some (.ref p)) → H0 p = none) (t : Step Hs H Hs' H') : At K S0 H0 B ρ σ H' :=
  ⟨Hs', h1.trans t.fz, h2.trans t, h3.step t, h4⟩
theorem getset {α : Type} {l : List α} {i j : Nat} {x y : α} (h : (l.set i x)[j]? = some y) : (i = j ∧ y = x) ∨ (i ≠ j ∧ l[j]? = some y) := by
  by_cases e : i = j
  · subst e
    by_cases q : i < l.length
    · rw [List.getElem?_set_self q] at h; cases h; exact Or.inl ⟨rfl, rfl⟩
    · rw [List.getElem?_eq_none (by rw [List.length_set]; omega)] at h; cases h
  · rw [List.getElem?_set_ne e] at h; exact Or.inr ⟨e, h⟩
theorem dss_nil (h : D.nx ρ) : DSs X S0 H0 [] ρ D := fun B σ H A => wpSs_of pss_nil ⟨ρ, h, A⟩
theorem dss_cons {M : List Sl → Prop} (h1 : DS X S0 H0 st ρ { D with nx := M }) (h2 : ∀ ρ', M ρ' → DSs X S0 H0 rest ρ' D) : DSs X S0 H0 (st :: rest) ρ D := fun B σ H A =>
  wpSs_of (pss_cons ps_wp pss_wp) (wpS_mono (h1 B σ H A) (fun σ' H' ⟨ρ', m, A'⟩ => h2 ρ' m B σ' H' A') (fun _ _ q => q) (fun _ _ q => q) (fun _ _ q => q))
theorem dss_one (h1 : DS X S0 H0 st ρ D) : DSs X S0 H0 [st] ρ D := fun B σ H A => wpSs_of (pss_one ps_wp) (h1 B σ H A)
theorem DS.mono {D' : DEnds} (h : DS X S0 H0 st ρ D) (hf : D.fr = D'.fr) (h1 : ∀ ρ, D.nx ρ → D'.nx ρ) (h2 : ∀ v, D.rt v → D'.rt v) (h3 : ∀ ρ, D.bk ρ → D'.bk ρ) (h4 : ∀ ρ, D.ct ρ → D'.ct ρ) : DS X S0 H0 st ρ D' := fun B σ H A =>
  wpS_mono (h B σ H A) (fun _ _ ⟨ρ', m, A'⟩ => ⟨ρ', h1 _ m, A'⟩) (fun _ _ ⟨Hs, d, t, r, q⟩ => ⟨Hs, d, t, h2 _ r, by rw [← hf]; exact q⟩) (fun _ _ ⟨ρ', m, A'⟩ => ⟨ρ', h3 _ m, A'⟩) (fun _ _ ⟨ρ', m, A'⟩ => ⟨ρ', h4 _ m, A'⟩)
inductive Wk : List Sl → List Sl → Prop
  | nil : Wk [] []
  | eq {s : Sl} {l l' : List Sl} : Wk l l' → Wk (s :: l) (s :: l')
  | un {s : Sl} {l l' : List Sl} : Wk l l' → Wk (.un :: l) (s :: l')
theorem Wk.refl : ∀ l : List Sl, Wk l l
  | [] => .nil
  | _ :: l => .eq (Wk.refl l)
theorem Wk.len {l l' : List Sl} (h : Wk l l') : l.length = l'.length := by
  induction h with
  | nil => rfl
  | eq _ ih => rw [List.length_cons, List.length_cons, ih]
  | un _ ih => rw [List.length_cons, List.length_cons, ih]
theorem Wk.get {l l' : List Sl} (h : Wk l l') : ∀ (i : Nat) (s : Sl), l[i]? = some s → s ≠ .un → l'[i]? = some s := by
  induction h with
  | nil => intro i s h; simp at h
  | eq _ ih =>
    intro i s h hn
    cases i with
    | zero => simpa using h
    | succ i => simpa using ih i s (by simpa using h) hn
  | un _ ih =>
    intro i s h hn
    cases i with
    | zero => exact absurd (by simpa using h.symm) hn
    | succ i => simpa using ih i s (by simpa using h) hn
theorem At.wk {K : PySem.W.Frag} {B : Hp} {ρ' : List Sl} {σ : L2.St} {H : Hp} (h : At K S0 H0 B ρ σ H) (w : Wk ρ' ρ) : At K S0 H0 B ρ' σ H := by
  obtain ⟨Hs, h1, h2, h3, h4⟩ := h
  refine ⟨Hs, h1, h2, h3.weak w.len rfl (fun i s hi hn => ⟨w.get i s hi hn, rfl⟩), fun i s p hi hm => h4 i s p (w.get i s hi (fun z => by rw [z] at hm; cases hm)) hm⟩
theorem dss_wk {ρ' : List Sl} (w : Wk ρ' ρ) (h : DSs X S0 H0 sts ρ' D) : DSs X S0 H0 sts ρ D := fun B σ H A => h B σ H (A.wk w)
theorem ds_ret (h : DR X e ρ D.rt) (hf : D.fr = false := by rfl) : DS X S0 H0 (.Return (some e) pos) ρ D := fun B σ H ⟨Hs, h1, h2, h3, h4⟩ =>
  wpS_of (ps_ret pe_wp) (h Hs H σ h3 _ fun v Hs' H' t ⟨d, r, p⟩ => ⟨Hs', d, h2.trans t, r, by rw [hf]; exact p⟩)
theorem ds_retL (h : DL X e ρ (fun ds => D.rt (.lst ds))) (hf : D.fr = true := by rfl) : DS X S0 H0 (.Return (some e) pos) ρ D := fun B σ H ⟨Hs, h1, h2, h3, h4⟩ =>
  wpS_of (ps_ret pe_wp) (h Hs H σ h3 _ fun v Hs' H' t ⟨p, xs, ds, g1, g2, g3, g4, g5, g6⟩ => ⟨Hs', .lst ds, h2.trans t, g6, by rw [hf]; exact ⟨p, xs, ds, g1, h2.free g2, g3, g4, g5, rfl⟩⟩)
/-- return of a list that this def made -/
theorem ds_retml (i : Nat) {x : Str} {ds : List Dt} {p2 : Pos} (hr : D.rt (.lst ds)) (hd : ρ[i]? = some (.ml ds) := by rfl) (hN : X.N[i]? = some x := by rfl) (hv : Vis X.env.scope x := by first | exact Or.inl rfl | exact Or.inr (Or.inl rfl) | exact Or.inr (Or.inr rfl))
    (h1 : (x == ("__debug__" : Str)) = false := by decide) (h2 : (x == ("__classdict__" : Str)) = false := by decide) : DS X S0 H0 (.Return (some (.Name x p2)) pos) ρ D := fun B σ H ⟨Hs, g1, g2, g3, g4⟩ => by
  obtain ⟨p, xs, hσ, hp, hH, hra, hn⟩ := g3.sl i _ hd
  have hf := g4 i _ p hd rfl hσ
  refine wpS_of (ps_ret (pe_var hN hv h1 h2)) ⟨.ref p, hσ, ?_⟩
  cases hfr : D.fr with
  | true => exact ⟨Hs, .lst ds, g2, hr, by rw [hfr]; exact ⟨p, xs, ds, rfl, hf, hp, hH, hra, rfl⟩⟩
  | false => exact ⟨upd Hs p (.lst xs), .lst ds, g2.freeze hf hH hp, hr, by rw [hfr]; exact .lst upd_same (RepAll.mono (Ex.new hp) _ _ hra)⟩
theorem ds_retmd (i : Nat) {x : Str} {ds : List (Str × Dt)} {p2 : Pos} (hr : D.rt (.dct ds)) (hfr : D.fr = false := by rfl) (hd : ρ[i]? = some (.md ds) := by rfl) (hN : X.N[i]? = some x := by rfl) (hv : Vis X.env.scope x := by first | exact Or.inl rfl | exact Or.inr (Or.inl rfl) | exact Or.inr (Or.inr rfl))
    (h1 : (x == ("__debug__" : Str)) = false := by decide) (h2 : (x == ("__classdict__" : Str)) = false := by decide) : DS X S0 H0 (.Return (some (.Name x p2)) pos) ρ D := fun B σ H ⟨Hs, g1, g2, g3, g4⟩ => by
  obtain ⟨p, xs, hσ, hp, hH, hra⟩ := g3.sl i _ hd
  have hf := g4 i _ p hd rfl hσ
  refine wpS_of (ps_ret (pe_var hN hv h1 h2)) ⟨.ref p, hσ, ?_⟩
  exact ⟨upd Hs p (.dK xs), .dct ds, g2.freeze hf hH hp, hr, by rw [hfr]; exact .dct upd_same (RepKv.mono (Ex.new hp) _ _ hra)⟩
theorem ds_pass (h : D.nx ρ) : DS X S0 H0 (.Pass pos) ρ D := fun B σ H A => wpS_of ps_pass ⟨ρ, h, A⟩
theorem ds_expr (h : DR X e ρ R) (hn : D.nx ρ) (hs : swapsWith e none pos.line X.env = pure false := by rfl) : DS X S0 H0 (.Expr e pos) ρ D := fun B σ H ⟨Hs, h1, h2, h3, h4⟩ =>
  wpS_of (ps_expr pe_wp hs) (h Hs H σ h3 _ fun v Hs' H' t _ => ⟨ρ, hn, At.en h1 h2 h3 h4 t⟩)
theorem ds_never (h : False) : DS X S0 H0 st ρ D := h.elim
theorem dss_never (h : False) : DSs X S0 H0 sts ρ D := h.elim
theorem ds_if {B : Bool → Prop} {p q : List Stmt} (hc : DQ X c ρ B) (ha : B true → DSs X S0 H0 p ρ D) (hb : B false → DSs X S0 H0 q ρ D) : DS X S0 H0 (.If c p q pos) ρ D := fun Bh σ H ⟨Hs, h1, h2, h3, h4⟩ =>
  wpS_of (ps_if pt_wp pss_wp pss_wp) (hc Hs H σ h3 _ fun k Hs' H' t r => by
    cases k with
    | true =>
      show wpSs X p _ σ H'
      exact ha r Bh σ H' (At.en h1 h2 h3 h4 t)
    | false =>
      show wpSs X q _ σ H'
      exact hb r Bh σ H' (At.en h1 h2 h3 h4 t))
theorem ds_ifT {k : Bool} {p q : List Stmt} (hc : DT X c ρ k) (ha : k = true → DSs X S0 H0 p ρ D) (hb : k = false → DSs X S0 H0 q ρ D) : DS X S0 H0 (.If c p q pos) ρ D := ds_if hc (fun e => ha e.symm) (fun e => hb e.symm)
/-- what an assignment may touch: the slots in L, which hold data then -/
structure Asg (L : List Nat) (σ σ' : L2.St) (ρ ρ' : List Sl) : Prop where
  len : σ'.length = σ.length
  out : ∀ j, j ∉ L → σ'[j]? = σ[j]? ∧ ρ'[j]? = ρ[j]?
  inn : ∀ j, j ∈ L → ∀ s, ρ'[j]? = some s → isMut s = false
def DG (X : Cx) (tg : Expr) (d : Dt) (L : List Nat) (ρ : List Sl) (M : List Sl → Prop) : Prop :=
  ∀ Hs H σ v, En X.K Hs H σ ρ → Rep X.K Hs v d → ∀ Q : L2.St → Hp → Prop, (∀ σ' ρ' Hs' H', Step Hs H Hs' H' → En X.K Hs' H' σ' ρ' → Asg L σ σ' ρ ρ' → M ρ' → Q σ' H') → wpG X tg v σ H Q
theorem Asg.set {σ : L2.St} {ρ : List Sl} {i : Nat} {v : V} {d : Dt} : Asg [i] σ (σ.set i (some v)) ρ (ρ.set i (.dat d)) :=
  ⟨List.length_set .., fun j hj => by
    have h : i ≠ j := fun z => hj (by simp [z])
    rw [List.getElem?_set_ne h, List.getElem?_set_ne h]
    exact ⟨rfl, rfl⟩, fun j hj s hs => by
    rcases getset hs with ⟨_, e⟩ | ⟨h, _⟩
    · rw [e]; rfl
    · exact absurd (by simpa using hj : j = i).symm h⟩
theorem Asg.trans {L L' : List Nat} {σ σ' σ'' : L2.St} {ρ ρ' ρ'' : List Sl} (a : Asg L σ σ' ρ ρ') (b : Asg L' σ' σ'' ρ' ρ'') : Asg (L ++ L') σ σ'' ρ ρ'' :=
  ⟨b.len.trans a.len, fun j hj => by
    have h1 : j ∉ L := fun z => hj (by simp [z])
    have h2 : j ∉ L' := fun z => hj (by simp [z])
    exact ⟨(b.out j h2).1.trans (a.out j h1).1, (b.out j h2).2.trans (a.out j h1).2⟩, fun j hj s hs => by
    by_cases h2 : j ∈ L'
    · exact b.inn j h2 s hs
    · have h1 : j ∈ L := by
        rcases List.mem_append.mp hj with z | z
        · exact z
        · exact absurd z h2
      rw [(b.out j h2).2] at hs
      exact a.inn j h1 s hs⟩
theorem Asg.refl (σ : L2.St) (ρ : List Sl) : Asg [] σ σ ρ ρ := ⟨rfl, fun _ _ => ⟨rfl, rfl⟩, fun _ h => nomatch h⟩
theorem dg_name (i : Nat) {x : Str} {d : Dt} {M : List Sl → Prop} (h : M (ρ.set i (.dat d))) (hN : X.N.Nodup) (hi : X.N[i]? = some x := by rfl) (hx : Loc X.env.scope x := by first | exact Or.inl rfl | exact Or.inr rfl) (hf : X.fn x = true ∨ X.env.scope.names.lookup x = some .local := by first | exact .inl rfl | exact .inr rfl) : DG X (.Name x pos) d [i] ρ M := fun Hs H σ v E r Q q =>
  wpG_of (pg_name hN hi hx hf) (q _ _ Hs H (Step.refl E.sub) (E.setD r) Asg.set h)
/-- several targets -/
def wpGs (X : Cx) (ts : List Expr) : TGs := fun vs σ H Q => ∀ pins s us, Inv X pins σ H s → Vals vs us → wpAny (model X.prog X.w) X.A (assignInOrder ((assignEach ts X.env).map (·.2)) us) (fun _ s' => ∃ σ' H', Inv X pins σ' H' s' ∧ Q σ' H') X.xe s
theorem pgs_wp {ts : List Expr} : PGs X ts (wpGs X ts) := ⟨fun pins s σ H vs us Q I r h => h pins s us I r⟩
theorem wpGs_of {ts : List Expr} {t : TGs} (h : PGs X ts t) {vs : List V} {σ : L2.St} {H : Hp} {Q : L2.St → Hp → Prop} (q : t vs σ H Q) : wpGs X ts vs σ H Q := fun pins s us I r => h.run pins s σ H vs us Q I r q
def DGs (X : Cx) (tg : List Expr) (ds : List Dt) (L : List Nat) (ρ : List Sl) (M : List Sl → Prop) : Prop :=
  ∀ Hs H σ vs, En X.K Hs H σ ρ → RepAll X.K Hs vs ds → ∀ Q : L2.St → Hp → Prop, (∀ σ' ρ' Hs' H', Step Hs H Hs' H' → En X.K Hs' H' σ' ρ' → Asg L σ σ' ρ ρ' → M ρ' → Q σ' H') → wpGs X tg vs σ H Q
theorem dgs_nil {M : List Sl → Prop} (h : M ρ) : DGs X [] [] [] ρ M := fun Hs H σ vs E r Q q => by
  cases r
  exact wpGs_of pgs_nil ⟨rfl, q σ ρ Hs H (Step.refl E.sub) E (Asg.refl σ ρ) h⟩
theorem dgs_cons {d : Dt} {ds : List Dt} {L L' : List Nat} {M M' : List Sl → Prop} (h1 : DG X e d L ρ M') (h2 : ∀ ρ', M' ρ' → DGs X es ds L' ρ' M) (hs : (assignEach (e :: es) X.env).map (·.2) = assign e X.env :: (assignEach es X.env).map (·.2) := by rfl) : DGs X (e :: es) (d :: ds) (L ++ L') ρ M := fun Hs H σ vs E r Q q => by
  cases r with
  | cons r1 r2 =>
    exact wpGs_of (pgs_cons pg_wp pgs_wp hs) ⟨_, _, rfl, h1 Hs H σ _ E r1 _ fun σ' ρ' Hs' H' t E' A m => h2 ρ' m Hs' H' σ' _ E' (RepAll.mono t.fz _ _ r2) Q fun σ2 ρ2 H2s H2 t2 E2 A2 m2 => q σ2 ρ2 H2s H2 (t.trans t2) E2 (A.trans A2) m2⟩
theorem dg_tup {ds : List Dt} {L : List Nat} {M : List Sl → Prop} {k n : Nat} (h : DGs X es ds L ρ M) (hl : ds.length = n := by rfl) (hc : X.calm = true := by rfl) (hn : (assignEach es X.env).length = n := by rfl) (hst : (assignEach es X.env).findIdx? (·.1) = none := by rfl) : DG X (.Tuple es k pos) (.tup ds) L ρ M := fun Hs H σ v E r Q q => by
  obtain ⟨a, xs, rfl, h1, h2⟩ := r.tup_inv
  exact wpG_of (pg_tup hc pgs_wp hn hst) ⟨a, xs, rfl, ex_t E.sub h1, by rw [h2.length]; exact hl, h Hs H σ xs E h2 Q q⟩
theorem At.asg {K : PySem.W.Frag} {B : Hp} {σ σ' : L2.St} {ρ' : List Sl} {H Hs' H' Hs : Hp} {L : List Nat} (h1 : Ex B Hs) (h2 : Step S0 H0 Hs H) (h4 : ∀ (i : Nat) (s : Sl) (p : Addr), ρ[i]? = some s → isMut s = true → σ[i]? = some (some (.ref p)) → H0 p = none) (t : Step Hs H Hs' H') (E : En K Hs' H' σ' ρ') (A : Asg L σ σ' ρ ρ') : At K S0 H0 B ρ' σ' H' :=
  ⟨Hs', h1.trans t.fz, h2.trans t, E, fun i s p hi hm hp => by
    by_cases hL : i ∈ L
    · rw [A.inn i hL s hi] at hm; cases hm
    · obtain ⟨a1, a2⟩ := A.out i hL
      rw [a2] at hi
      rw [a1] at hp
      exact h4 i s p hi hm hp⟩
/-- x = e -/
theorem ds_setR (i : Nat) {x : Str} {p2 : Pos} (h : DR X e ρ R) (hn : ∀ d, R d → D.nx (ρ.set i (.dat d))) (hN : X.N.Nodup) (hi : X.N[i]? = some x := by rfl) (hx : Loc X.env.scope x := by first | exact Or.inl rfl | exact Or.inr rfl) (hs : swapsWith e (some (.Name x p2)) pos.line X.env = pure false := by rfl)
    (hf : X.fn x = true ∨ X.env.scope.names.lookup x = some .local := by first | exact .inl rfl | exact .inr rfl) : DS X S0 H0 (.Assign [.Name x p2] e pos) ρ D := fun B σ H ⟨Hs, h1, h2, h3, h4⟩ =>
  wpS_of (ps_set hN hi hx pe_wp hs hf) (h Hs H σ h3 _ fun v Hs' H' t ⟨d, r, p⟩ => ⟨_, hn d r, At.asg h1 h2 h4 t ((h3.step t).setD p) Asg.set⟩)
theorem ds_set (i : Nat) {x : Str} {p2 : Pos} {d : Dt} (h : DE X e ρ d) (hn : D.nx (ρ.set i (.dat d))) (hN : X.N.Nodup) (hi : X.N[i]? = some x := by rfl) (hx : Loc X.env.scope x := by first | exact Or.inl rfl | exact Or.inr rfl) (hs : swapsWith e (some (.Name x p2)) pos.line X.env = pure false := by rfl)
    (hf : X.fn x = true ∨ X.env.scope.names.lookup x = some .local := by first | exact .inl rfl | exact .inr rfl) : DS X S0 H0 (.Assign [.Name x p2] e pos) ρ D := ds_setR i h (fun d' r => by rw [r]; exact hn) hN hi hx hs hf
/-- x = a new list, which is to change -/
theorem At.setL {K : PySem.W.Frag} {B : Hp} {σ : L2.St} {H Hs' H' Hs : Hp} {i : Nat} {p : Addr} {xs : List V} {ds : List Dt} (h1 : Ex B Hs) (h2 : Step S0 H0 Hs H) (h3 : En K Hs H σ ρ) (h4 : ∀ (i : Nat) (s : Sl) (p : Addr), ρ[i]? = some s → isMut s = true → σ[i]? = some (some (.ref p)) → H0 p = none) (t : Step Hs H Hs' H')
    (g2 : H p = none) (g3 : Hs' p = none) (g4 : H' p = some (.lst xs)) (g5 : RepAll K Hs' xs ds) (g6 : ds.all notInt = true) : At K S0 H0 B (ρ.set i (.ml ds)) (σ.set i (some (.ref p))) H' := by
  refine ⟨Hs', h1.trans t.fz, h2.trans t, (h3.step t).setL g3 g4 g5 g6 (fun j dj q hj hr hs z => ?_), fun j s q hj hm hq => ?_⟩
  · subst z
    obtain ⟨q', xs', e1, _, e3, _⟩ := h3.sl j _ hr
    rw [hs] at e1
    have e4 : q = q' := by simpa using e1
    subst e4
    rw [g2] at e3; cases e3
  · rcases getset hj with ⟨e1, e2⟩ | ⟨e1, e2⟩
    · subst e1
      rcases getset hq with ⟨_, e3⟩ | ⟨e3, _⟩
      · have e4 : q = p := by simpa using e3
        rw [e4]; exact h2.free g2
      · exact absurd rfl e3
    · rw [List.getElem?_set_ne e1] at hq
      exact h4 j s q e2 hm hq
theorem ds_setL (i : Nat) {x : Str} {p2 : Pos} {RL : List Dt → Prop} (h : DL X e ρ RL) (hn : ∀ ds, RL ds → ds.all notInt = true ∧ D.nx (ρ.set i (.ml ds))) (hN : X.N.Nodup) (hi : X.N[i]? = some x := by rfl) (hx : Loc X.env.scope x := by first | exact Or.inl rfl | exact Or.inr rfl) (hs : swapsWith e (some (.Name x p2)) pos.line X.env = pure false := by rfl)
    (hf : X.fn x = true ∨ X.env.scope.names.lookup x = some .local := by first | exact .inl rfl | exact .inr rfl) : DS X S0 H0 (.Assign [.Name x p2] e pos) ρ D := fun B σ H ⟨Hs, h1, h2, h3, h4⟩ =>
  wpS_of (ps_set hN hi hx pe_wp hs hf) (h Hs H σ h3 _ fun v Hs' H' t ⟨p, xs, ds, g1, g2, g3, g4, g5, g6⟩ => by
    subst g1
    exact ⟨_, (hn ds g6).2, At.setL h1 h2 h3 h4 t g2 g3 g4 g5 (hn ds g6).1⟩)
/-- (a, b, ..) = e -/
theorem ds_asgR {tg : Expr} {L : List Nat} (h : DR X e ρ R) (hg : ∀ d, R d → DG X tg d L ρ D.nx) (hs : swapsWithSole [tg] e pos.line X.env = pure false := by rfl) (hw : swappedStores [tg] e X.env = pure none := by rfl) (h1 : (assignEach [tg] X.env).map (·.2) = [assign tg X.env] := by rfl) : DS X S0 H0 (.Assign [tg] e pos) ρ D := fun B σ H ⟨Hs, g1, g2, g3, g4⟩ =>
  wpS_of (ps_asg pe_wp pg_wp hs hw h1) (h Hs H σ g3 _ fun v Hs' H' t ⟨d, r, p⟩ => hg d r Hs' H' σ v (g3.step t) p _ fun σ' ρ' H2s H2 t2 E2 A m => ⟨ρ', m, At.asg g1 g2 g4 (t.trans t2) E2 A⟩)
theorem ds_asg {tg : Expr} {L : List Nat} {d : Dt} (h : DE X e ρ d) (hg : DG X tg d L ρ D.nx) (hs : swapsWithSole [tg] e pos.line X.env = pure false := by rfl) (hw : swappedStores [tg] e X.env = pure none := by rfl) (h1 : (assignEach [tg] X.env).map (·.2) = [assign tg X.env] := by rfl) : DS X S0 H0 (.Assign [tg] e pos) ρ D := ds_asgR h (fun d' r => by rw [r]; exact hg) hs hw h1
/-- a, b = x, y by plain locals -/
theorem ds_par (i j : Nat) {x y : Str} {S : List Sl → Prop} {px py pt : Pos} {kt k2 : Nat} {pt2 : Pos} (ha : DA X [a, b] ρ S) (hn : ∀ as, S as → ∃ d g, as = [.dat d, .dat g] ∧ D.nx ((ρ.set i (.dat d)).set j (.dat g))) (hN : X.N.Nodup) (hc : X.calm = true := by rfl) (hi : X.N[i]? = some x := by rfl) (hj : X.N[j]? = some y := by rfl) (hij : i ≠ j := by decide)
    (hx : X.env.scope.names.lookup x = some .local := by rfl) (hy : X.env.scope.names.lookup y = some .local := by rfl) (hw : swappedStores [.Tuple [.Name x px, .Name y py] kt pt] (.Tuple [a, b] k2 pt2) X.env = pure (some [x, y]) := by rfl)
    (hs : swapsWithSole [.Tuple [.Name x px, .Name y py] kt pt] (.Tuple [a, b] k2 pt2) pos.line X.env = pure false := by rfl) : DS X S0 H0 (.Assign [.Tuple [.Name x px, .Name y py] kt pt] (.Tuple [a, b] k2 pt2) pos) ρ D := fun B σ H ⟨Hs, g1, g2, g3, g4⟩ =>
  wpS_of (ps_par hc hN hi hj hij hx hy pa_wp hw hs) (ha Hs H σ g3 _ fun vs as Hs' H' t E r => by
    obtain ⟨d, g, e1, m⟩ := hn as r
    subst e1
    obtain ⟨v, u, e2, r1, r2⟩ := two_dat E
    exact ⟨v, u, e2, _, m, At.asg g1 g2 g4 t (((g3.step t).setD r1).setD r2) (Asg.set.trans Asg.set)⟩)
/-- a, b = a new list that is to change, data -/
theorem ds_parL (i j : Nat) {x y : Str} {ds : List Dt} {px py pt : Pos} {kt k2 : Nat} {pt2 : Pos} (ha : DL X a ρ (fun z => z = ds)) (hb : DR X b ρ R) (hds : ds.all notInt = true := by rfl) (hn : ∀ g, R g → D.nx ((ρ.set i (.ml ds)).set j (.dat g))) (hN : X.N.Nodup) (hc : X.calm = true := by rfl) (hi : X.N[i]? = some x := by rfl) (hj : X.N[j]? = some y := by rfl) (hij : i ≠ j := by decide)
    (hx : X.env.scope.names.lookup x = some .local := by rfl) (hy : X.env.scope.names.lookup y = some .local := by rfl) (hw : swappedStores [.Tuple [.Name x px, .Name y py] kt pt] (.Tuple [a, b] k2 pt2) X.env = pure (some [x, y]) := by rfl)
    (hs : swapsWithSole [.Tuple [.Name x px, .Name y py] kt pt] (.Tuple [a, b] k2 pt2) pos.line X.env = pure false := by rfl) (hs1 : starEach [a, b] X.env = (false, eval a X.env) :: starEach [b] X.env := by rfl) (hs2 : starEach [b] X.env = (false, eval b X.env) :: starEach [] X.env := by rfl) : DS X S0 H0 (.Assign [.Tuple [.Name x px, .Name y py] kt pt] (.Tuple [a, b] k2 pt2) pos) ρ D := fun B σ H ⟨Hs, g1, g2, g3, g4⟩ =>
  wpS_of (ps_par hc hN hi hj hij hx hy (pa_cons pe_wp (pa_cons pe_wp pa_nil hs2) hs1) hw hs) (ha Hs H σ g3 _ fun v H1s H1 t1 ⟨p, xs, ds', f1, f2, f3, f4, f5, f6⟩ => hb H1s H1 σ (g3.step t1) _ fun u H2s H2 t2 ⟨g, r, pr⟩ => by
    subst f1 f6
    have hnb := notBox f5 hds
    have A := At.setL (i := i) g1 g2 g3 g4 (t1.trans t2) f2 (t2.new p (by rw [f4]; exact fun z => nomatch z) f3) (t2.keep p _ f4 hnb) (RepAll.mono t2.fz _ _ f5) hds
    obtain ⟨Hs3, a1, a2, a3, a4⟩ := A
    refine ⟨.ref p, u, rfl, _, hn g r, ?_⟩
    exact ⟨H2s, g1.trans (t1.trans t2).fz, g2.trans (t1.trans t2), (((g3.step (t1.trans t2)).setL (t2.new p (by rw [f4]; exact fun z => nomatch z) f3) (t2.keep p _ f4 hnb) (RepAll.mono t2.fz _ _ f5) hds (fun l dl q hl hr hs' z => by
      subst z
      obtain ⟨q', xs', e1, _, e3, _⟩ := g3.sl l _ hr
      rw [hs'] at e1
      have e4 : q = q' := by simpa using e1
      subst e4
      rw [f2] at e3; cases e3)).setD pr), fun l s q hl hm hq => by
      rcases getset hl with ⟨_, e2⟩ | ⟨e1, e2⟩
      · rw [e2] at hm; cases hm
      · rw [List.getElem?_set_ne e1] at hq
        exact a4 l s q e2 hm hq⟩)
/-- a, b, c = x, y, z by plain locals -/
theorem ds_par3 (i j l : Nat) {x y z : Str} {S : List Sl → Prop} {px py pz pt : Pos} {kt k2 : Nat} {pt2 : Pos} (ha : DA X [a, b, c] ρ S) (hn : ∀ as, S as → ∃ d g f, as = [.dat d, .dat g, .dat f] ∧ D.nx (((ρ.set i (.dat d)).set j (.dat g)).set l (.dat f))) (hN : X.N.Nodup) (hc : X.calm = true := by rfl) (hi : X.N[i]? = some x := by rfl) (hj : X.N[j]? = some y := by rfl) (hl : X.N[l]? = some z := by rfl) (hij : i ≠ j := by decide) (hil : i ≠ l := by decide) (hjl : j ≠ l := by decide)
    (hx : X.env.scope.names.lookup x = some .local := by rfl) (hy : X.env.scope.names.lookup y = some .local := by rfl) (hz : X.env.scope.names.lookup z = some .local := by rfl) (hw : swappedStores [.Tuple [.Name x px, .Name y py, .Name z pz] kt pt] (.Tuple [a, b, c] k2 pt2) X.env = pure (some [x, y, z]) := by rfl)
    (hs : swapsWithSole [.Tuple [.Name x px, .Name y py, .Name z pz] kt pt] (.Tuple [a, b, c] k2 pt2) pos.line X.env = pure false := by rfl) : DS X S0 H0 (.Assign [.Tuple [.Name x px, .Name y py, .Name z pz] kt pt] (.Tuple [a, b, c] k2 pt2) pos) ρ D := fun B σ H ⟨Hs, g1, g2, g3, g4⟩ =>
  wpS_of (ps_par3 hc hN hi hj hl hij hil hjl hx hy hz pa_wp hw hs) (ha Hs H σ g3 _ fun vs as Hs' H' t E r => by
    obtain ⟨d, g, f, e1, m⟩ := hn as r
    subst e1
    have hr : RepAll X.K Hs' vs [d, g, f] := En.reps (ds := [d, g, f]) E
    cases hr with
    | cons r1 hr => cases hr with
      | cons r2 hr => cases hr with
        | cons r3 hr =>
          cases hr
          exact ⟨_, _, _, rfl, _, m, At.asg g1 g2 g4 t ((((g3.step t).setD r1).setD r2).setD r3) ((Asg.set.trans Asg.set).trans Asg.set)⟩)
theorem At.mutL {K : PySem.W.Frag} {B : Hp} {σ : L2.St} {H Hs : Hp} {i : Nat} {p : Addr} {xs' : List V} {ds ds' : List Dt} (h1 : Ex B Hs) (h2 : Step S0 H0 Hs H) (h3 : En K Hs H σ ρ) (h4 : ∀ (i : Nat) (s : Sl) (p : Addr), ρ[i]? = some s → isMut s = true → σ[i]? = some (some (.ref p)) → H0 p = none)
    (hd : ρ[i]? = some (.ml ds)) (hσ : σ[i]? = some (some (.ref p))) (hr : RepAll K Hs xs' ds') (hn : ds'.all notInt = true) : At K S0 H0 B (ρ.set i (.ml ds')) σ (upd H p (.lst xs')) := by
  obtain ⟨p', xs, e1, hp, hH, hra, hni⟩ := h3.sl i _ hd
  have e2 : p = p' := by rw [hσ] at e1; simpa using e1
  subst e2
  have hf := h4 i _ p hd rfl hσ
  have hi : i < ρ.length := (List.getElem?_eq_some_iff.mp hd).1
  have hbx : ¬ IsBox (.lst xs) := notBox hra hni
  refine ⟨Hs, h1, h2.mut hf hp, ⟨h3.sub.mut hp, by rw [List.length_set]; exact h3.len, fun j s hj => ?_, fun j k dj dk hj hk hjk => ?_⟩, fun j s q hj hm hq => ?_⟩
  · rcases getset hj with ⟨a1, e2⟩ | ⟨a1, e2⟩
    · subst a1 e2
      exact ⟨p, xs', hσ, hp, upd_same, hr, hn⟩
    · have z := h3.sl j s e2
      cases s with
      | un => trivial
      | dat d => exact z
      | scr ns => exact z
      | ml dj =>
        obtain ⟨q, ys, z1, z2, z3, z4, z5⟩ := z
        have hqp : q ≠ p := fun w => by
          subst w
          exact h3.dis i j ds dj hd e2 a1 (by rw [hσ, z1])
        exact ⟨q, ys, z1, z2, by rw [upd_ne hqp]; exact z3, z4, z5⟩
      | box =>
        obtain ⟨q, o, z1, z2, z3, z4⟩ := z
        have hqp : q ≠ p := fun w => by
          subst w
          rw [hH] at z3; cases z3
          exact hbx z4
        exact ⟨q, o, z1, z2, by rw [upd_ne hqp]; exact z3, z4⟩
      | md kds =>
        obtain ⟨q, ys, z1, z2, z3, z4⟩ := z
        have hqp : q ≠ p := fun w => by
          subst w
          rw [hH] at z3; cases z3
        exact ⟨q, ys, z1, z2, by rw [upd_ne hqp]; exact z3, z4⟩
      | own q C kds =>
        obtain ⟨dx, ys, z1, z2, z3, z4⟩ := z
        have hqp : q ≠ p := fun w => by
          subst w
          rw [hH] at z3; cases z3
        exact ⟨dx, ys, z1, z2, by rw [upd_ne hqp]; exact z3, z4⟩
  · have k1 : ∃ d1, ρ[j]? = some (.ml d1) := by
      rcases getset hj with ⟨e1, e2⟩ | ⟨e1, e2⟩
      · subst e1; exact ⟨ds, hd⟩
      · exact ⟨dj, e2⟩
    have k2 : ∃ d1, ρ[k]? = some (.ml d1) := by
      rcases getset hk with ⟨e1, e2⟩ | ⟨e1, e2⟩
      · subst e1; exact ⟨ds, hd⟩
      · exact ⟨dk, e2⟩
    obtain ⟨d1, k1⟩ := k1
    obtain ⟨d2, k2⟩ := k2
    exact h3.dis j k d1 d2 k1 k2 hjk
  · rcases getset hj with ⟨e1, e2⟩ | ⟨e1, e2⟩
    · subst e1
      rw [hσ] at hq
      have e3 : p = q := by simpa using hq
      rw [← e3]; exact hf
    · exact h4 j s q e2 hm hq
/-- xs.append(e) -/
theorem ds_append (i : Nat) {x : Str} {ds : List Dt} {p1 p2 cpos : Pos} (h : DR X e ρ R) (hn : ∀ d, R d → notInt d = true ∧ D.nx (ρ.set i (.ml (ds ++ [d])))) (hz : ds.length < 100000) (hni : ds.all notInt = true) (hd : ρ[i]? = some (.ml ds) := by rfl) (hN : X.N[i]? = some x := by rfl)
    (hv : Vis X.env.scope x := by first | exact Or.inl rfl | exact Or.inr (Or.inl rfl) | exact Or.inr (Or.inr rfl)) (hx1 : (x == ("__debug__" : Str)) = false := by decide) (hx2 : (x == ("__classdict__" : Str)) = false := by decide)
    (hbase : attributeBase (.Name x p1) "append" X.env (eval (.Name x p1) X.env) = eval (.Name x p1) X.env := by rfl)
    (hfew : ((backTo cpos (starEach [e] X.env)).all (fun x => !x.1) && (backToKw cpos (keywordEach [] X.env)).all (fun x => x.1.isSome)
      && decide ([e].length + ([] : List Keyword).length + (if ([] : List Keyword).isEmpty then 0 else 1) < 30)) = true := by rfl)
    (hline : (p2.endLine == cpos.line) = true := by rfl) (hst : starEach [e] X.env = (false, eval e X.env) :: starEach [] X.env := by rfl) (hplain : (backTo cpos (starEach [] X.env)).any (·.1) = false := by rfl)
    (hs : swapsWith (.Call (.Attribute (.Name x p1) "append" p2) [e] [] cpos) none pos.line X.env = pure false := by rfl) :
    DS X S0 H0 (.Expr (.Call (.Attribute (.Name x p1) "append" p2) [e] [] cpos) pos) ρ D := fun B σ H ⟨Hs, h1, h2, h3, h4⟩ => by
  obtain ⟨p, xs, e1, hp, hH, hra, _⟩ := h3.sl i _ hd
  have hnb := notBox hra hni
  refine wpS_of (ps_expr (pe_bm PySem.F.plainAttrs_list PySem.F.slot_list_append PySem.F.type_list_append mt_append (pe_var hN hv hx1 hx2) (pa_cons pe_wp pa_nil hst) hbase hfew hline hst hplain) hs) ?_
  refine ⟨.ref p, e1, Or.inl ⟨rfl, xs, Or.inl (Or.inl hH)⟩, h Hs H σ h3 _ fun v Hs' H' t ⟨d, r, pr⟩ => ?_⟩
  obtain ⟨r1, r2⟩ := hn d r
  refine ⟨p, xs, v, rfl, rfl, t.keep _ _ hH hnb, Nat.lt_of_lt_of_le (by rw [hra.length]; exact hz) (by decide), _, r2, ?_⟩
  exact At.mutL (h1.trans t.fz) (h2.trans t) (h3.step t) h4 hd e1 ((RepAll.mono t.fz _ _ hra).append (.one pr)) (by rw [List.all_append, hni]; simp [r1])
/-- xs.extend(e) -/
theorem ds_extend (i : Nat) {x : Str} {ds : List Dt} {p1 p2 cpos : Pos} {RL : List Dt → Prop} (h : DR X e ρ (fun d => ∃ l, d = .lst l ∧ RL l)) (hn : ∀ l, RL l → l.all notInt = true ∧ ds.length + l.length ≤ 100000 ∧ D.nx (ρ.set i (.ml (ds ++ l)))) (hni : ds.all notInt = true) (hd : ρ[i]? = some (.ml ds) := by rfl) (hN : X.N[i]? = some x := by rfl)
    (hv : Vis X.env.scope x := by first | exact Or.inl rfl | exact Or.inr (Or.inl rfl) | exact Or.inr (Or.inr rfl)) (hx1 : (x == ("__debug__" : Str)) = false := by decide) (hx2 : (x == ("__classdict__" : Str)) = false := by decide)
    (hbase : attributeBase (.Name x p1) "extend" X.env (eval (.Name x p1) X.env) = eval (.Name x p1) X.env := by rfl)
    (hfew : ((backTo cpos (starEach [e] X.env)).all (fun x => !x.1) && (backToKw cpos (keywordEach [] X.env)).all (fun x => x.1.isSome)
      && decide ([e].length + ([] : List Keyword).length + (if ([] : List Keyword).isEmpty then 0 else 1) < 30)) = true := by rfl)
    (hline : (p2.endLine == cpos.line) = true := by rfl) (hst : starEach [e] X.env = (false, eval e X.env) :: starEach [] X.env := by rfl) (hplain : (backTo cpos (starEach [] X.env)).any (·.1) = false := by rfl)
    (hs : swapsWith (.Call (.Attribute (.Name x p1) "extend" p2) [e] [] cpos) none pos.line X.env = pure false := by rfl) :
    DS X S0 H0 (.Expr (.Call (.Attribute (.Name x p1) "extend" p2) [e] [] cpos) pos) ρ D := fun B σ H ⟨Hs, h1, h2, h3, h4⟩ => by
  obtain ⟨p, xs, e1, hp, hH, hra, _⟩ := h3.sl i _ hd
  have hnb := notBox hra hni
  refine wpS_of (ps_expr (pe_bm PySem.F.plainAttrs_list PySem.F.slot_list_extend PySem.F.type_list_extend mt_extend (pe_var hN hv hx1 hx2) (pa_cons pe_wp pa_nil hst) hbase hfew hline hst hplain) hs) ?_
  refine ⟨.ref p, e1, Or.inl ⟨rfl, xs, Or.inl (Or.inl hH)⟩, h Hs H σ h3 _ fun v Hs' H' t ⟨d, ⟨l, r0, r⟩, pr⟩ => ?_⟩
  subst r0
  obtain ⟨r1, r2, r3⟩ := hn l r
  obtain ⟨q, ys, e2, hq, hra2⟩ := pr.lst_inv
  subst e2
  refine ⟨p, q, xs, ys, rfl, rfl, t.keep _ _ hH hnb, t.sub _ _ hq, Nat.le_trans (by rw [hra.length, hra2.length]; exact r2) (by decide), _, r3, ?_⟩
  exact At.mutL (h1.trans t.fz) (h2.trans t) (h3.step t) h4 hd e1 ((RepAll.mono t.fz _ _ hra).append hra2) (by rw [List.all_append, hni, r1] <;> rfl)
/-- xs[k] = e -/
theorem ds_setix (i n : Nat) {x : Str} {ds : List Dt} {p1 p2 : Pos} {g : Dt} {k : Int} (h : DE X e ρ g) (hk : DE X b ρ (.int k)) (hkn : k = (n : Int)) (hlt : n < ds.length) (hg : notInt g = true) (hn : D.nx (ρ.set i (.ml (ds.set n g)))) (hni : ds.all notInt = true) (hd : ρ[i]? = some (.ml ds) := by rfl) (hN : X.N[i]? = some x := by rfl)
    (hv : Vis X.env.scope x := by first | exact Or.inl rfl | exact Or.inr (Or.inl rfl) | exact Or.inr (Or.inr rfl)) (hx1 : (x == ("__debug__" : Str)) = false := by decide) (hx2 : (x == ("__classdict__" : Str)) = false := by decide)
    (ha : ∀ v, assign (.Subscript (.Name x p1) b p2) X.env v = (do
      let ov ← holding [v] (eval (.Name x p1) X.env)
      let iv ← holding [v, ov] (eval b X.env)
      standAt p2
      holding [v, ov, iv] (setItem ov iv v)
      release [v, ov, iv] []) := by intro _; rfl)
    (hs : swapsWithSole [.Subscript (.Name x p1) b p2] e pos.line X.env = pure false := by rfl) (hw : swappedStores [.Subscript (.Name x p1) b p2] e X.env = pure none := by rfl)
    (h1' : (assignEach [.Subscript (.Name x p1) b p2] X.env).map (·.2) = [assign (.Subscript (.Name x p1) b p2) X.env] := by rfl) :
    DS X S0 H0 (.Assign [.Subscript (.Name x p1) b p2] e pos) ρ D := fun B σ H ⟨Hs, h1, h2, h3, h4⟩ => by
  obtain ⟨p, xs, e1, hp, hH, hra, _⟩ := h3.sl i _ hd
  have hnb := notBox hra hni
  refine wpS_of (ps_asg pe_wp (pg_sub (pe_var hN hv hx1 hx2) pe_wp set_list ha) hs hw h1') (h Hs H σ h3 _ fun v H1s H1 t1 ⟨d, r, pr⟩ => ?_)
  subst r
  refine ⟨.ref p, e1, hk H1s H1 σ (h3.step t1) _ fun u H2s H2 t2 ⟨d, r, pr2⟩ => ?_⟩
  subst r
  have t := t1.trans t2
  refine ⟨p, xs, k, n, rfl, pr2.int_inv, t.keep _ _ hH hnb, ?_, _, hn, ?_⟩
  · rw [hkn]
    have hl : n < xs.length := by rw [hra.length]; exact hlt
    unfold ixN
    rw [if_pos (by omega), if_pos (by omega)]
    simp
  · refine At.mutL (h1.trans t.fz) (h2.trans t) (h3.step t) h4 hd e1 (RepAll.set (Rep.mono t2.fz _ _ pr) n (RepAll.mono t.fz _ _ hra)) ?_
    rw [List.all_eq_true]
    intro y hy
    rcases List.mem_or_eq_of_mem_set hy with z | z
    · exact List.all_eq_true.mp hni y z
    · rw [z]; exact hg
/-- box[k] = e -/
theorem ds_setbox (i : Nat) {x : Str} {p1 p2 p3 : Pos} {k : Int} {i2 : Nat} (h : DR X e ρ (fun d => ∃ n : Int, d = .int n)) (hk : k = 0 ∨ k = 1) (hn : D.nx ρ) (hd : ρ[i]? = some .box := by rfl) (hN : X.N[i]? = some x := by rfl)
    (hv : Vis X.env.scope x := by first | exact Or.inl rfl | exact Or.inr (Or.inl rfl) | exact Or.inr (Or.inr rfl)) (hx1 : (x == ("__debug__" : Str)) = false := by decide) (hx2 : (x == ("__classdict__" : Str)) = false := by decide)
    (ha : ∀ v, assign (.Subscript (.Name x p1) (.Constant (.int k) i2 p3) p2) X.env v = (do
      let ov ← holding [v] (eval (.Name x p1) X.env)
      let iv ← holding [v, ov] (eval (.Constant (.int k) i2 p3) X.env)
      standAt p2
      holding [v, ov, iv] (setItem ov iv v)
      release [v, ov, iv] []) := by intro _; rfl)
    (hs : swapsWithSole [.Subscript (.Name x p1) (.Constant (.int k) i2 p3) p2] e pos.line X.env = pure false := by rfl) (hw : swappedStores [.Subscript (.Name x p1) (.Constant (.int k) i2 p3) p2] e X.env = pure none := by rfl)
    (h1' : (assignEach [.Subscript (.Name x p1) (.Constant (.int k) i2 p3) p2] X.env).map (·.2) = [assign (.Subscript (.Name x p1) (.Constant (.int k) i2 p3) p2) X.env] := by rfl) :
    DS X S0 H0 (.Assign [.Subscript (.Name x p1) (.Constant (.int k) i2 p3) p2] e pos) ρ D := fun B σ H ⟨Hs, h1, h2, h3, h4⟩ => by
  refine wpS_of (ps_asg pe_wp (pg_sub (pe_var hN hv hx1 hx2) pe_int set_list ha) hs hw h1') (h Hs H σ h3 _ fun v H1s H1 t1 ⟨d, ⟨n, r⟩, pr⟩ => ?_)
  subst r
  obtain ⟨p, o, e1, hp, hH, n0, n1, ho⟩ := (h3.step t1).sl i _ hd
  subst ho
  rw [pr.int_inv]
  have mk : ∀ o', IsBox o' → At X.K S0 H0 B ρ σ (upd H1 p o') := fun o' hb' => by
    refine ⟨H1s, h1.trans t1.fz, (h2.trans t1).mutB hH ⟨n0, n1, rfl⟩ hb' hp, ⟨t1.sub.mut hp, h3.len, fun j s hj => ?_, h3.dis⟩, h4⟩
    have z := (h3.step t1).sl j s hj
    cases s with
    | un => trivial
    | dat d => exact z
    | scr ns => exact z
    | ml dj =>
      obtain ⟨q, ys, z1, z2, z3, z4, z5⟩ := z
      have hqp : q ≠ p := fun w => by
        subst w
        rw [hH] at z3; cases z3
        exact notBox z4 z5 ⟨n0, n1, rfl⟩
      exact ⟨q, ys, z1, z2, by rw [upd_ne hqp]; exact z3, z4, z5⟩
    | box =>
      obtain ⟨q, o, z1, z2, z3, z4⟩ := z
      by_cases hqp : q = p
      · subst hqp; exact ⟨q, o', z1, z2, upd_same, hb'⟩
      · exact ⟨q, o, z1, z2, by rw [upd_ne hqp]; exact z3, z4⟩
    | md kds =>
      obtain ⟨q, ys, z1, z2, z3, z4⟩ := z
      have hqp : q ≠ p := fun w => by
        subst w
        rw [hH] at z3; cases z3
      exact ⟨q, ys, z1, z2, by rw [upd_ne hqp]; exact z3, z4⟩
    | own q C kds =>
      obtain ⟨dx, ys, z1, z2, z3, z4⟩ := z
      have hqp : q ≠ p := fun w => by
        subst w
        rw [hH] at z3; cases z3
      exact ⟨dx, ys, z1, z2, by rw [upd_ne hqp]; exact z3, z4⟩
  rcases hk with rfl | rfl
  · exact ⟨.ref p, e1, p, _, 0, 0, rfl, rfl, hH, rfl, ρ, hn, mk _ ⟨n, n1, rfl⟩⟩
  · exact ⟨.ref p, e1, p, _, 1, 1, rfl, rfl, hH, rfl, ρ, hn, mk _ ⟨n0, n, rfl⟩⟩
/-- a list that will not change any more is data -/
theorem dss_fz (i : Nat) {ds : List Dt} (h : DSs X S0 H0 sts (ρ.set i (.dat (.lst ds))) D) (hd : ρ[i]? = some (.ml ds) := by rfl) : DSs X S0 H0 sts ρ D := fun B σ H ⟨Hs, h1, h2, h3, h4⟩ => by
  obtain ⟨p, xs, e1, hp, hH, hra, hni⟩ := h3.sl i _ hd
  have hf := h4 i _ p hd rfl e1
  have hnb : ¬ IsBox (.lst xs) := notBox hra hni
  refine h B σ H ⟨upd Hs p (.lst xs), h1.trans (Ex.new hp), h2.freeze hf hH hp, ⟨(h2.freeze hf hH hp).sub, by rw [List.length_set]; exact h3.len, fun j s hj => ?_, fun j k dj dk hj hk hjk => ?_⟩, fun j s q hj hm hq => ?_⟩
  · rcases getset hj with ⟨e2, e3⟩ | ⟨e2, e3⟩
    · subst e2 e3
      exact ⟨.ref p, e1, .lst upd_same (RepAll.mono (Ex.new hp) _ _ hra)⟩
    · have z := h3.sl j s e3
      cases s with
      | un => trivial
      | dat d => obtain ⟨y, z1, z2⟩ := z; exact ⟨y, z1, Rep.mono (Ex.new hp) _ _ z2⟩
      | scr ns => obtain ⟨y, z1, z2⟩ := z; exact ⟨y, z1, ex_l (Ex.new hp) z2⟩
      | ml dj =>
        obtain ⟨q, ys, z1, z2, z3, z4, z5⟩ := z
        have hqp : q ≠ p := fun w => by
          subst w
          exact h3.dis i j ds dj hd e3 e2 (by rw [e1, z1])
        exact ⟨q, ys, z1, by rw [upd_ne hqp]; exact z2, z3, RepAll.mono (Ex.new hp) _ _ z4, z5⟩
      | box =>
        obtain ⟨q, o, z1, z2, z3, z4⟩ := z
        have hqp : q ≠ p := fun w => by
          subst w
          rw [hH] at z3; cases z3
          exact hnb z4
        exact ⟨q, o, z1, by rw [upd_ne hqp]; exact z2, z3, z4⟩
      | md kds =>
        obtain ⟨q, ys, z1, z2, z3, z4⟩ := z
        have hqp : q ≠ p := fun w => by
          subst w
          rw [hH] at z3; cases z3
        exact ⟨q, ys, z1, by rw [upd_ne hqp]; exact z2, z3, RepKv.mono (Ex.new hp) _ _ z4⟩
      | own q C kds =>
        obtain ⟨dx, ys, z1, z2, z3, z4⟩ := z
        have hqp : q ≠ p := fun w => by
          subst w
          rw [hH] at z3; cases z3
        exact ⟨dx, ys, z1, by rw [upd_ne hqp]; exact z2, z3, RepFs.mono (Ex.new hp) _ _ z4⟩
  · rcases getset hj with ⟨_, e3⟩ | ⟨e2, e3⟩
    · cases e3
    · rcases getset hk with ⟨_, e5⟩ | ⟨e4, e5⟩
      · cases e5
      · exact h3.dis j k dj dk e3 e5 hjk
  · rcases getset hj with ⟨_, e3⟩ | ⟨e2, e3⟩
    · rw [e3] at hm; cases hm
    · exact h4 j s q e3 hm hq
end
end DL
/-! DLe -/
set_option Elab.async false
set_option linter.all false
set_option maxRecDepth 100000
set_option maxHeartbeats 4000000
namespace DL
open PySem PySem.Spec PyProof.Rows L2
section
variable {X : Cx} {S0 H0 : Hp} {ρ : List Sl} {D : DEnds} {e a b c : Expr} {es : List Expr} {st : Stmt} {sts rest body : List Stmt} {R : Dt → Prop} {pos : Pos} {tg iter : Expr} {RL : List Dt → Prop}
def WkD (K : PySem.W.Frag) (Hs1 : Hp) (J : It) (ds : List Dt) : Prop := ∃ (G : Hp → Prop) (Y : Nat → Hp → V → Hp → Prop), Walk J ds.length G Y ∧ (∀ Hs2 H2, Ex Hs1 Hs2 → Ex Hs2 H2 → G H2) ∧
  ∀ i Hs2 H2 x H3, i < ds.length → Ex Hs1 Hs2 → Ex Hs2 H2 → Y i H2 x H3 → ∃ Hs3 d, Step Hs2 H2 Hs3 H3 ∧ ds[i]? = some d ∧ Rep K Hs3 x d
def DI (X : Cx) (tg iter : Expr) (ρ : List Sl) (RL : List Dt → Prop) : Prop :=
  ∀ Hs H σ, En X.K Hs H σ ρ → ∀ R : It → Hp → Prop, (∀ J Hs' H' ds, Step Hs H Hs' H' → RL ds → WkD X.K Hs' J ds → R J H') → wpI X tg iter σ H R
theorem wk_at {K : PySem.W.Frag} {Hs1 : Hp} {xs : List V} {ds : List Dt} (hr : RepAll K Hs1 xs ds) {i : Nat} {Hs2 H2 : Hp} {x : V} {H3 : Hp} (e1 : Ex Hs1 Hs2) (e2 : Ex Hs2 H2) (y : YAt xs i H2 x H3) : ∃ Hs3 d, Step Hs2 H2 Hs3 H3 ∧ ds[i]? = some d ∧ Rep K Hs3 x d := by
  obtain ⟨h1, h2⟩ := y
  subst h1
  obtain ⟨d, h3, h4⟩ := hr.get' h2
  exact ⟨Hs2, d, Step.refl e2, h3, Rep.mono e1 _ _ h4⟩
theorem di_list (h : DR X iter ρ (fun d => ∃ ds, d = .lst ds ∧ RL ds)) : DI X tg iter ρ RL := fun Hs H σ E Rk q =>
  wpI_of (pi_list pe_wp) (h Hs H σ E _ fun v Hs' H' t ⟨d, ⟨ds, r0, r⟩, p⟩ => by
    subst r0
    obtain ⟨a, xs, rfl, h1, h2⟩ := p.lst_inv
    refine ⟨a, rfl, ⟨xs, Or.inl (Or.inl (t.sub _ _ h1))⟩, q _ Hs' H' ds t r ⟨fun H => SqL X.K H a xs, YAt xs, ?_, fun Hs2 H2 e1 e2 => Or.inl (Or.inl (e2 _ _ (e1 _ _ h1))), fun i Hs2 H2 x H3 _ e1 e2 y => wk_at h2 e1 e2 y⟩⟩
    rw [← h2.length]
    exact walk_list)
theorem di_tup (h : DR X iter ρ (fun d => ∃ ds, d = .tup ds ∧ RL ds)) : DI X tg iter ρ RL := fun Hs H σ E Rk q =>
  wpI_of (pi_tup pe_wp) (h Hs H σ E _ fun v Hs' H' t ⟨d, ⟨ds, r0, r⟩, p⟩ => by
    subst r0
    obtain ⟨a, xs, rfl, h1, h2⟩ := p.tup_inv
    refine ⟨a, rfl, ⟨xs, ex_t t.sub h1⟩, q _ Hs' H' ds t r ⟨fun H => SqT X.K H a xs, YAt xs, ?_, fun Hs2 H2 e1 e2 => ex_t (e1.trans e2) h1, fun i Hs2 H2 x H3 _ e1 e2 y => wk_at h2 e1 e2 y⟩⟩
    rw [← h2.length]
    exact walk_tup)
/-- 0, 1, .. -/
def upTo (n : Nat) : List Dt := (List.range n).map fun i : Nat => Dt.int (i : Int)
theorem upTo_len (n : Nat) : (upTo n).length = n := by unfold upTo; rw [List.length_map, List.length_range]
theorem upTo_get {n i : Nat} (h : i < n) : (upTo n)[i]? = some (.int (i : Int)) := by
  unfold upTo
  rw [List.getElem?_map, List.getElem?_range h] <;> rfl
theorem di_range1 {S : Int → Prop} {p : Pos} (hm : X.mg "range" = none) (ha : DA X [a] ρ (fun as => ∃ n : Int, as = [.dat (.int n)] ∧ S n)) (hb : ∀ n, S n → -100000 ≤ n ∧ n ≤ 100000) (hg : Gl X "range" := by rfl) (hs : starEach [a] X.env = [(false, eval a X.env)] := by rfl) :
    DI X tg (.Call (.Name "range" p) [a] [] pos) ρ (fun ds => ∃ n, S n ∧ ds = upTo n.toNat) := fun Hs H σ E Rk q =>
  wpI_of (pi_range1 hg hm pa_wp hs) (ha Hs H σ E _ fun vs as Hs' H' t E' ⟨n, r1, r2⟩ => by
    subst r1
    obtain ⟨v, rfl, hv⟩ := one_dat E'
    obtain ⟨b1, b2⟩ := hb n r2
    rw [hv.int_inv]
    refine ⟨n, rfl, by omega, by omega, q _ Hs' H' _ t ⟨n, r2, rfl⟩ ⟨fun _ => True, YFn fun i => .int (0 + i), ?_, fun _ _ _ _ => trivial, fun i Hs2 H2 x H3 hi e1 e2 y => ?_⟩⟩
    · rw [upTo_len]; exact walk_range
    · obtain ⟨y1, y2⟩ := y
      subst y1 y2
      rw [upTo_len] at hi
      refine ⟨Hs2, .int (i : Int), Step.refl e2, upTo_get hi, ?_⟩
      show Rep X.K Hs2 (.int (0 + (i : Int))) (.int (i : Int))
      rw [Int.zero_add]
      exact .int _)
theorem di_range {n : Int} {p : Pos} (hm : X.mg "range" = none) (ha : DE X a ρ (.int n)) (hb : -100000 ≤ n ∧ n ≤ 100000) (hg : Gl X "range" := by rfl) (hs : starEach [a] X.env = [(false, eval a X.env)] := by rfl) : DI X tg (.Call (.Name "range" p) [a] [] pos) ρ (fun ds => ds = upTo n.toNat) := fun Hs H σ E Rk q =>
  di_range1 (S := fun z => z = n) hm (DA.mono (da_cons ha da_nil (by rw [hs]; rfl)) fun as r => ⟨n, r, rfl⟩) (fun z e => by rw [e]; exact hb) hg hs Hs H σ E Rk fun J Hs' H' ds t ⟨m, e1, e2⟩ w => q J Hs' H' ds t (by rw [e2, e1]) w
/-- signs of a text -/
def signs (z : Str) : List Dt := z.cps.toList.map fun c => Dt.str ⟨#[c]⟩
theorem di_str {S : Str → Prop} (h : DR X iter ρ (fun d => ∃ z, d = .str z ∧ S z)) : DI X tg iter ρ (fun ds => ∃ z, S z ∧ ds = signs z) := fun Hs H σ E Rk q =>
  wpI_of (pi_str pe_wp) (h Hs H σ E _ fun v Hs' H' t ⟨d, ⟨z, r0, r⟩, p⟩ => by
    subst r0
    refine ⟨z, p.str_inv, q _ Hs' H' _ t ⟨z, r, rfl⟩ ⟨fun _ => True, fun i H v H' => H' = H ∧ ∃ c, z.cps[i]? = some c ∧ v = .str ⟨#[c]⟩, ?_, fun _ _ _ _ => trivial, fun i Hs2 H2 x H3 hi e1 e2 y => ?_⟩⟩
    · have e : (signs z).length = z.cps.size := by unfold signs; rw [List.length_map]; rfl
      rw [e]; exact walk_str
    · obtain ⟨y1, c, y2, y3⟩ := y
      subst y1 y3
      refine ⟨Hs2, .str ⟨#[c]⟩, Step.refl e2, ?_, .str _⟩
      unfold signs
      rw [List.getElem?_map, Array.getElem?_toList, y2] <;> rfl)
def loopEnds (D : DEnds) (M : List Sl → Prop) : DEnds := { nx := fun ρ' => ∃ ρ'', M ρ'' ∧ Wk ρ'' ρ', rt := D.rt, fr := D.fr, bk := D.nx, ct := fun ρ' => ∃ ρ'', M ρ'' ∧ Wk ρ'' ρ' }
theorem At.lo {K : PySem.W.Frag} {B B1 : Hp} {σ : L2.St} {H : Hp} (h : At K S0 H0 B1 ρ σ H) (e : Ex B B1) : At K S0 H0 B ρ σ H := by
  obtain ⟨Hs, h1, h2⟩ := h
  exact ⟨Hs, e.trans h1, h2⟩
theorem ds_for (hit : DI X tg iter ρ RL) (h : ∀ ds, RL ds → ∃ Iv : Nat → List Sl → Prop, (∃ ρ0, Iv 0 ρ0 ∧ Wk ρ0 ρ) ∧
      (∀ (i : Nat) d ρi, ds[i]? = some d → Iv i ρi → ∃ L, DG X tg d L ρi (fun ρ2 => DSs X S0 H0 body ρ2 (loopEnds D (Iv (i + 1))))) ∧ ∀ ρ', Iv ds.length ρ' → D.nx ρ')
    (hc : X.calm = true := by rfl) (hp : PassesOwn (model X.prog X.w) X.A X.env X.xe := by exact PassesOwn.never) (hs : ∀ x, foldedSetIterable iter X.env x = pure x := by intro _; rfl) : DS X S0 H0 (.For tg iter body [] pos) ρ D := fun B σ H ⟨Hs, g1, g2, g3, g4⟩ =>
  wpS_of (ps_for hp hc pi_wp pg_wp pss_wp hs) (hit Hs H σ g3 _ fun J H1s H1 ds t1 r ⟨G, Y, W, hG, hY⟩ => by
    obtain ⟨Iv, ⟨ρ0, i0, w0⟩, hs', hd⟩ := h ds r
    have A0 : At X.K S0 H0 H1s ρ σ H1 := ⟨H1s, Ex.refl _, g2.trans t1, g3.step t1, g4⟩
    have eB : Ex B H1s := g1.trans t1.fz
    refine for_it W (fun i σ' H' => ∃ ρi, Iv i ρi ∧ At X.K S0 H0 H1s ρi σ' H') ⟨ρ0, i0, A0.wk w0⟩ (fun i σ' H' _ ⟨ρi, _, Hs2, k1, k2, k3, _⟩ => hG Hs2 H' k1 k3.sub) (fun i x σ' H2 H3 hi ⟨ρi, vi, Hs2, k1, k2, k3, k4⟩ y => ?_) (fun σ' H' ⟨ρi, vi, A⟩ => ⟨ρi, hd ρi vi, A.lo eB⟩)
    obtain ⟨Hs3, d, t3, hd3, hr3⟩ := hY i Hs2 H2 x H3 hi k1 k3.sub y
    obtain ⟨L, hg⟩ := hs' i d ρi hd3 vi
    refine hg Hs3 H3 σ' x (k3.step t3) hr3 _ fun σ2 ρ2 H4s H4 t4 E4 A4 m => ?_
    have AA : At X.K S0 H0 H1s ρ2 σ2 H4 := At.asg k1 k2 k4 (t3.trans t4) E4 A4
    exact wpSs_mono (m H1s σ2 H4 AA) (fun σ5 H5 ⟨ρ5, ⟨ρ6, m6, w6⟩, A5⟩ => ⟨ρ6, m6, A5.wk w6⟩) (fun _ _ q => q) (fun σ5 H5 ⟨ρ5, m5, A5⟩ => ⟨ρ5, m5, A5.lo eB⟩) (fun σ5 H5 ⟨ρ5, ⟨ρ6, m6, w6⟩, A5⟩ => ⟨ρ6, m6, A5.wk w6⟩))
def wipeS (ρ : List Sl) : List Nat → List Sl
  | [] => ρ
  | v :: vs => (wipeS ρ vs).set v .un
theorem wipeS_len (ρ : List Sl) : ∀ vs, (wipeS ρ vs).length = ρ.length
  | [] => rfl
  | v :: vs => by unfold wipeS; rw [List.length_set, wipeS_len]
theorem wipe_get (σ : L2.St) : ∀ (vs : List Nat) (j : Nat), j ∉ vs → (wipe σ vs)[j]? = σ[j]?
  | [], _, _ => rfl
  | v :: vs, j, h => by
    unfold wipe
    rw [List.getElem?_set_ne (fun z => h (by simp [z])), wipe_get σ vs j (fun z => h (by simp [z]))]
theorem wipe_at (σ : L2.St) : ∀ (vs : List Nat) (j : Nat), j ∈ vs → (wipe σ vs)[j]? = if j < σ.length then some none else none
  | [], _, h => nomatch h
  | v :: vs, j, h => by
    unfold wipe
    by_cases e : v = j
    · subst e
      by_cases q : v < σ.length
      · rw [if_pos q, List.getElem?_set_self (by rw [wipe_length]; exact q)]
      · rw [if_neg q, List.getElem?_eq_none (by rw [List.length_set, wipe_length]; omega)]
    · rw [List.getElem?_set_ne e]
      exact wipe_at σ vs j (by
        rcases List.mem_cons.mp h with z | z
        · exact absurd z.symm e
        · exact z)
theorem wipeS_get : ∀ (vs : List Nat) (j : Nat) (s : Sl), (wipeS ρ vs)[j]? = some s → s ≠ .un → ρ[j]? = some s ∧ j ∉ vs
  | [], _, _, h, _ => ⟨h, fun z => nomatch z⟩
  | v :: vs, j, s, h, hn => by
    unfold wipeS at h
    rcases getset h with ⟨_, e2⟩ | ⟨e1, e2⟩
    · exact absurd e2 hn
    · obtain ⟨h1, h2⟩ := wipeS_get vs j s e2 hn
      exact ⟨h1, fun z => (List.mem_cons.mp z).elim (fun w => e1 w.symm) h2⟩
theorem En.wipe {K : PySem.W.Frag} {Hs H : Hp} {σ : L2.St} (E : En K Hs H σ ρ) (vs : List Nat) : En K Hs H (wipe σ vs) (wipeS ρ vs) :=
  E.weak (wipeS_len ρ vs) (wipe_length σ vs) fun i s h hn => by
    obtain ⟨h1, h2⟩ := wipeS_get vs i s h hn
    exact ⟨h1, wipe_get σ vs i h2⟩
theorem wipe_same {σ σ' : L2.St} {vs L : List Nat} (hL : ∀ j ∈ L, j ∈ vs) (hl : σ'.length = (wipe σ vs).length) (ho : ∀ j, j ∉ L → σ'[j]? = (wipe σ vs)[j]?) : wipe σ' vs = wipe σ vs := by
  apply List.ext_getElem?
  intro j
  by_cases hj : j ∈ vs
  · rw [wipe_at σ' vs j hj, wipe_at σ vs j hj, hl, wipe_length]
  · rw [wipe_get σ' vs j hj]
    exact ho j (fun z => hj (hL j z))
/-- the block of a comprehension -/
abbrev Bk (X : Cx) (scope : Scope) (s : Shared) (H : Hp) (C : Addr) (cl : List (Str × Addr)) (fp : List Addr) : Cx := X.blk s H scope (compEnvC scope cl C X.env) fp
def wpTs (X : Cx) (ifs : List Expr) : TT := fun σ H Q => ∀ pins s, Inv X pins σ H s → wpAny (model X.prog X.w) X.A (forIn ifs true fun c r => if r = true then do let ok ← isTrue c X.env (eval c X.env); pure (ForInStep.yield ok) else pure (ForInStep.yield r)) (TP X pins σ Q) X.xe s
theorem pts_wp {ifs : List Expr} : PTs X ifs (wpTs X ifs) := ⟨fun pins s σ H Q I h => h pins s I⟩
theorem wpTs_of {ifs : List Expr} {t : TT} (h : PTs X ifs t) {σ : L2.St} {H : Hp} {Q : Bool → Hp → Prop} (q : t σ H Q) : wpTs X ifs σ H Q := fun pins s I => h.run pins s σ H Q I q
def DQs (X : Cx) (ifs : List Expr) (ρ : List Sl) (B : Bool → Prop) : Prop :=
  ∀ Hs H σ, En X.K Hs H σ ρ → ∀ Q : Bool → Hp → Prop, (∀ b Hs' H', Step Hs H Hs' H' → B b → Q b H') → wpTs X ifs σ H Q
theorem dqs_nil : DQs X [] ρ (fun z => z = true) := fun Hs H σ E Q q => wpTs_of pts_nil (q true Hs H (Step.refl E.sub) rfl)
theorem dqs_one {B : Bool → Prop} (h : DQ X c ρ B) : DQs X [c] ρ B := fun Hs H σ E Q q => wpTs_of (pts_one pt_wp) (h Hs H σ E Q q)
variable {elt : Expr} {ifs : List Expr} {scope : Scope} {own : List (Str × Nat)}
abbrev gB (X : Cx) (scope : Scope) (tg : Expr) : TG := fun v σ H Q => ∀ s Hb C cl fp, wpG (Bk X scope s Hb C cl fp) tg v σ H Q
abbrev tB' (X : Cx) (scope : Scope) (ifs : List Expr) : TT := fun σ H Q => ∀ s Hb C cl fp, wpTs (Bk X scope s Hb C cl fp) ifs σ H Q
abbrev eB (X : Cx) (scope : Scope) (elt : Expr) : TE := fun σ H Q => ∀ s Hb C cl fp, wpE (Bk X scope s Hb C cl fp) elt σ H Q
/-- what a comprehension's turns give -/
def Lc (X : Cx) (scope : Scope) (tg elt : Expr) (ifs : List Expr) (vs : List Nat) (ρ : List Sl) (RL RL' : List Dt → Prop) : Prop :=
  ∀ ds, RL ds → ∃ out : Nat → List Dt → Prop, out 0 [] ∧ (∀ (i : Nat) l, i ≤ ds.length → out i l → l.length < 100000 ∧ l.all notInt = true) ∧
    (∀ (i : Nat) d l, ds[i]? = some d → out i l → ∃ L ρ2 B, (∀ j ∈ L, j ∈ vs) ∧ (∀ s Hb C cl fp, DG (Bk X scope s Hb C cl fp) tg d L (wipeS ρ vs) (fun z => z = ρ2)) ∧ (∀ s Hb C cl fp, DQs (Bk X scope s Hb C cl fp) ifs ρ2 B) ∧
      (B true → ∃ R, (∀ s Hb C cl fp, DR (Bk X scope s Hb C cl fp) elt ρ2 R) ∧ ∀ r, R r → out (i + 1) (l ++ [r])) ∧ (B false → out (i + 1) l)) ∧ ∀ l, out ds.length l → RL' l
theorem tv_lc {RL' : List Dt → Prop} {vs : List Nat} (hit : DI X tg iter ρ RL) (h : Lc X scope tg elt ifs vs ρ RL RL') : TV X.K (tLc (wpI X tg iter) (gB X scope tg) (tB' X scope ifs) (eB X scope elt) vs) ρ (PL X.K RL') := fun Hs H σ E Q q =>
  hit Hs H σ E _ fun J H1s H1 ds t1 r ⟨G, Y, W, hG, hY⟩ Dl hD => by
    obtain ⟨out, o0, ob, os, od⟩ := h ds r
    have E1 := (E.step t1).wipe vs
    refine lc_it W (fun i H' => i ≤ ds.length ∧ ∃ Hs' xs l, Step H1s H1 Hs' H' ∧ Hs' Dl = none ∧ H' Dl = some (.lst xs) ∧ RepAll X.K Hs' xs l ∧ out i l) ?_ (fun i H' _ ⟨_, Hs', _, _, t, _⟩ => hG Hs' H' t.fz t.sub) (fun i x H2 H3 hi ⟨_, Hs2, xs, l, t2, p1, p2, p3, p4⟩ y => ?_) (fun H' ⟨_, Hs', xs, l, t, p1, p2, p3, p4⟩ => ?_)
    · exact ⟨Nat.zero_le _, H1s, [], [], Step.newM t1.sub hD, t1.sub.free hD, upd_same, .nil, o0⟩
    · obtain ⟨Hs3, d, t3, hd3, hr3⟩ := hY i Hs2 H2 x H3 hi t2.fz t2.sub y
      obtain ⟨L, ρ2, B, hL, hg, hq, hy, hn⟩ := os i d l hd3 p4
      obtain ⟨b1, b2⟩ := ob i l (Nat.le_of_lt hi) p4
      have hnb : ¬ IsBox (.lst xs) := notBox p3 b2
      have E3 := (E1.step t2).step t3
      have key : ∀ {Hs4 H4}, Step Hs2 H2 Hs4 H4 → Step H1s H1 Hs4 H4 ∧ Hs4 Dl = none ∧ H4 Dl = some (.lst xs) ∧ RepAll X.K Hs4 xs l := fun t => ⟨t2.trans t, t.new _ (by rw [p2]; exact fun z => nomatch z) p1, t.keep _ _ p2 hnb, RepAll.mono t.fz _ _ p3⟩
      intro s Hb C cl fp
      refine hg s Hb C cl fp Hs3 H3 (wipe σ vs) x E3 hr3 _ fun σ4 ρ4 Hs4 H4 t4 E4 A4 m4 => ?_
      subst m4
      refine ⟨wipe_same hL A4.len (fun j hj => (A4.out j hj).1), fun s Hb C cl fp => hq s Hb C cl fp Hs4 H4 σ4 E4 _ fun k Hs5 H5 t5 kB => ?_⟩
      cases k with
      | true =>
        obtain ⟨R, hR, hR2⟩ := hy kB
        show eB X scope elt σ4 H5 _
        intro s Hb C cl fp
        refine hR s Hb C cl fp Hs5 H5 σ4 (E4.step t5) _ fun v Hs6 H6 t6 ⟨g, r6, p6⟩ => ?_
        obtain ⟨k1, k2, k3, k4⟩ := key (((t3.trans t4).trans t5).trans t6)
        refine ⟨xs, k3, Nat.lt_of_lt_of_le (by rw [p3.length]; exact b1) (by decide), hi, Hs6, xs ++ [v], l ++ [g], k1.mut hD k2, k2, upd_same, k4.append (.one p6), hR2 g r6⟩
      | false =>
        obtain ⟨k1, k2, k3, k4⟩ := key ((t3.trans t4).trans t5)
        exact ⟨hi, Hs5, xs, l, k1, k2, k3, k4, hn kB⟩
    · exact q (.ref Dl) Hs' H' (t1.trans t) ⟨Dl, xs, l, rfl, t1.free hD, p1, p2, p3, od l p4⟩
theorem dl_lc {RL' : List Dt → Prop} (hit : DI X tg iter ρ RL) (h : Lc X scope tg elt ifs (own.map (·.2)) ρ RL RL') (hN : X.N.Nodup) (ok : BlkOk X.N X.env.scope scope own) (hc : X.calm = true := by rfl) (hs : ∀ x, foldedSetIterable iter X.env x = pure x := by intro _; rfl) : DL X (.ListComp elt [⟨tg, iter, ifs, 0⟩] scope pos) ρ RL' := fun Hs H σ E Q q =>
  wpE_of (pe_lc hc hN pi_wp ok (fun s H C cl fp => ⟨fun pins s' σ H v u Q I r h => h _ _ _ _ _ pins s' u I r⟩) (fun s H C cl fp => ⟨fun pins s' σ H Q I h => h _ _ _ _ _ pins s' I⟩) (fun s H C cl fp => ⟨fun pins s' σ H Q I h => h _ _ _ _ _ pins s' I⟩) hs) (tv_lc hit h Hs H σ E Q q)
/-- y = [..], frozen at once -/
theorem ds_lcF (i : Nat) {y : Str} {py spos : Pos} {RL' : List Dt → Prop} (own : List (Str × Nat)) (hit : DI X tg iter ρ RL) (h : Lc X scope tg elt ifs (own.map (·.2)) ρ RL RL') (hn : ∀ ds, RL' ds → D.nx (ρ.set i (.dat (.lst ds)))) (hN : X.N.Nodup) (ok : BlkOk X.N X.env.scope scope own) (hy : X.N[i]? = some y := by rfl) (hyl : X.env.scope.names.lookup y = some .local := by rfl)
    (hsw : swapsWith (.ListComp elt [⟨tg, iter, ifs, 0⟩] scope pos) (some (.Name y py)) spos.line X.env = pure true := by exact sw_true rfl rfl rfl (by decide +kernel)) (hc : X.calm = true := by rfl) (hs : ∀ x, foldedSetIterable iter X.env x = pure x := by intro _; rfl) :
    DS X S0 H0 (.Assign [.Name y py] (.ListComp elt [⟨tg, iter, ifs, 0⟩] scope pos) spos) ρ D := fun B σ H ⟨Hs, h1, h2, h3, h4⟩ =>
  wpS_of (ps_setLc hc hN hy hyl hsw pi_wp ok (fun s H C cl fp => ⟨fun pins s' σ H v u Q I r h => h _ _ _ _ _ pins s' u I r⟩) (fun s H C cl fp => ⟨fun pins s' σ H Q I h => h _ _ _ _ _ pins s' I⟩) (fun s H C cl fp => ⟨fun pins s' σ H Q I h => h _ _ _ _ _ pins s' I⟩) hs)
    (tv_lc hit h Hs H σ h3 _ fun v Hs' H' t ⟨p, xs, ds, g1, g2, g3, g4, g5, g6⟩ => by
      subst g1
      have t' := t.freeze g2 g4 g3
      exact ⟨_, hn ds g6, At.asg h1 h2 h4 t' ((h3.step t').setD (.lst upd_same (RepAll.mono (Ex.new g3) _ _ g5))) Asg.set⟩)
/-- y = [..], to be changed -/
theorem ds_lcM (i : Nat) {y : Str} {py spos : Pos} {RL' : List Dt → Prop} (own : List (Str × Nat)) (hit : DI X tg iter ρ RL) (h : Lc X scope tg elt ifs (own.map (·.2)) ρ RL RL') (hn : ∀ ds, RL' ds → ds.all notInt = true ∧ D.nx (ρ.set i (.ml ds))) (hN : X.N.Nodup) (ok : BlkOk X.N X.env.scope scope own) (hy : X.N[i]? = some y := by rfl) (hyl : X.env.scope.names.lookup y = some .local := by rfl)
    (hsw : swapsWith (.ListComp elt [⟨tg, iter, ifs, 0⟩] scope pos) (some (.Name y py)) spos.line X.env = pure true := by exact sw_true rfl rfl rfl (by decide +kernel)) (hc : X.calm = true := by rfl) (hs : ∀ x, foldedSetIterable iter X.env x = pure x := by intro _; rfl) :
    DS X S0 H0 (.Assign [.Name y py] (.ListComp elt [⟨tg, iter, ifs, 0⟩] scope pos) spos) ρ D := fun B σ H ⟨Hs, h1, h2, h3, h4⟩ =>
  wpS_of (ps_setLc hc hN hy hyl hsw pi_wp ok (fun s H C cl fp => ⟨fun pins s' σ H v u Q I r h => h _ _ _ _ _ pins s' u I r⟩) (fun s H C cl fp => ⟨fun pins s' σ H Q I h => h _ _ _ _ _ pins s' I⟩) (fun s H C cl fp => ⟨fun pins s' σ H Q I h => h _ _ _ _ _ pins s' I⟩) hs)
    (tv_lc hit h Hs H σ h3 _ fun v Hs' H' t ⟨p, xs, ds, g1, g2, g3, g4, g5, g6⟩ => by
      subst g1
      exact ⟨_, (hn ds g6).2, At.setL h1 h2 h3 h4 t g2 g3 g4 g5 (hn ds g6).1⟩)
/-- the plain case: every item that passes f gives g -/
theorem lc_map {α : Type} (as : List α) (enc : α → Dt) (f : α → Bool) (g : α → Dt) {vs L : List Nat} (hl : as.length < 100000) (hg : ∀ a ∈ as, notInt (g a) = true) (ρ2 : α → List Sl) (hL : ∀ j ∈ L, j ∈ vs)
    (h1 : ∀ a ∈ as, ∀ s Hb C cl fp, DG (Bk X scope s Hb C cl fp) tg (enc a) L (wipeS ρ vs) (fun z => z = ρ2 a)) (h2 : ∀ a ∈ as, ∀ s Hb C cl fp, DQs (Bk X scope s Hb C cl fp) ifs (ρ2 a) (fun z => z = f a))
    (h3 : ∀ a ∈ as, f a = true → ∀ s Hb C cl fp, DE (Bk X scope s Hb C cl fp) elt (ρ2 a) (g a)) : Lc X scope tg elt ifs vs ρ (fun ds => ds = as.map enc) (fun ds => ds = (as.filter f).map g) := fun ds r => by
  subst r
  refine ⟨fun i l => l = ((as.take i).filter f).map g, rfl, fun i l _ e => ?_, fun i d l hd e => ?_, fun l e => ?_⟩
  · subst e
    refine ⟨?_, ?_⟩
    · rw [List.length_map]
      exact Nat.lt_of_le_of_lt (Nat.le_trans (List.length_filter_le ..) (by rw [List.length_take]; omega)) hl
    · rw [List.all_map, List.all_eq_true]
      intro x hx
      exact hg x (List.mem_of_mem_take (List.mem_filter.mp hx).1)
  · rw [List.getElem?_map] at hd
    cases ha : as[i]? with
    | none => rw [ha] at hd; cases hd
    | some x =>
      rw [ha] at hd
      have ed : enc x = d := by simpa using hd
      subst ed
      have hm := List.mem_of_getElem? ha
      have et : as.take (i + 1) = as.take i ++ [x] := by rw [List.take_add_one, ha] <;> rfl
      refine ⟨L, ρ2 x, fun z => z = f x, hL, h1 x hm, h2 x hm, fun hb => ⟨fun z => z = g x, h3 x hm hb.symm, fun r hr => ?_⟩, fun hb => ?_⟩
      · have hb' : true = f x := hb
        have hr' : r = g x := hr
        show l ++ [r] = ((as.take (i + 1)).filter f).map g
        rw [e, hr', et, List.filter_append, List.map_append]
        congr 1
        rw [List.filter_cons_of_pos hb'.symm] <;> rfl
      · have hb' : false = f x := hb
        show l = ((as.take (i + 1)).filter f).map g
        rw [e, et, List.filter_append, List.map_append]
        rw [List.filter_cons_of_neg (by rw [← hb']; exact Bool.false_ne_true)]
        simp
  · rw [e, List.length_map, List.take_length]
theorem lc_all {α : Type} (as : List α) (enc : α → Dt) (g : α → Dt) {vs L : List Nat} (hl : as.length < 100000) (hg : ∀ a ∈ as, notInt (g a) = true) (ρ2 : α → List Sl) (hL : ∀ j ∈ L, j ∈ vs)
    (h1 : ∀ a ∈ as, ∀ s Hb C cl fp, DG (Bk X scope s Hb C cl fp) tg (enc a) L (wipeS ρ vs) (fun z => z = ρ2 a)) (h3 : ∀ a ∈ as, ∀ s Hb C cl fp, DE (Bk X scope s Hb C cl fp) elt (ρ2 a) (g a)) : Lc X scope tg elt [] vs ρ (fun ds => ds = as.map enc) (fun ds => ds = as.map g) := fun ds r => by
  obtain ⟨out, o⟩ := lc_map (ifs := []) as enc (fun _ => true) g hl hg ρ2 hL h1 (fun _ _ _ _ _ _ _ => dqs_nil) (fun a ha _ => h3 a ha) ds r
  refine ⟨out, o.1, o.2.1, o.2.2.1, fun l hl => ?_⟩
  have := o.2.2.2 l hl
  rw [this, List.filter_eq_self.mpr (fun _ _ => rfl)]
/-- a promise over data: S tells, of the arguments, what comes -/
def spS (K : PySem.W.Frag) (S : List Sl → (Dt → Prop) → Prop) : Sp := fun vs H Q _ => ∃ Hs as R, En K Hs H (vs.map some) as ∧ S as R ∧ ∀ v d Hs' H', Step Hs H Hs' H' → Rep K Hs' v d → R d → Q v H'
def spL (K : PySem.W.Frag) (S : List Sl → (List Dt → Prop) → Prop) : Sp := fun vs H Q _ => ∃ Hs as R, En K Hs H (vs.map some) as ∧ S as R ∧ ∀ p xs ds Hs' H', Step Hs H Hs' H' → H p = none → Hs' p = none → H' p = some (.lst xs) → RepAll K Hs' xs ds → R ds → Q (.ref p) H'
structure Fn (P : Program) (w : World) (K : PySem.W.Frag) (mg : Str → Option Value) (base : Heap) (x : Str) (k : Nat) (ps : List Str) (S : List Sl → (Dt → Prop) → Prop) : Prop where
  ok : ∃ fd, FnOk P w K mg base CX0 k (He.ga K x) fd ps (spS K S) ∧ Binds K fd ps []
  kp : PySem.W.keepIn K (.ref (He.ga K x)) = true
  gl : mg x = some (.ref (He.ga K x))
structure FnL (P : Program) (w : World) (K : PySem.W.Frag) (mg : Str → Option Value) (base : Heap) (x : Str) (k : Nat) (ps : List Str) (S : List Sl → (List Dt → Prop) → Prop) : Prop where
  ok : ∃ fd, FnOk P w K mg base CX0 k (He.ga K x) fd ps (spL K S) ∧ Binds K fd ps []
  kp : PySem.W.keepIn K (.ref (He.ga K x)) = true
  gl : mg x = some (.ref (He.ga K x))
theorem dr_call {x : Str} {p : Pos} {k : Nat} {ps : List Str} {S : List Sl → (Dt → Prop) → Prop} {Sa : List Sl → Prop} (F : Fn X.prog X.w X.K X.mg X.base x k ps S) (hr : Room k X.A) (ha : DA X (e :: es) ρ Sa) (hS : ∀ as, Sa as → S as R) (hg : Gl X x := by rfl)
    (hdb : (x == ("__debug__" : Str)) = false := by decide) (he : starEach (e :: es) X.env = (false, eval e X.env) :: starEach es X.env := by rfl) (hpl : (backTo pos (starEach es X.env)).any (·.1) = false := by rfl) : DR X (.Call (.Name x p) (e :: es) [] pos) ρ R := fun Hs H σ E Q q => by
  obtain ⟨fd, F1, B1⟩ := F.ok
  refine wpE_of (pe_call F1 hr hg F.gl F.kp B1 .nil pass0 pa_wp hdb he hpl) (ha Hs H σ E _ fun vs as Hs' H' t E' r => ?_)
  refine ⟨Hs', as, R, by rw [List.append_nil]; exact E', hS as r, fun v d H2s H2 t2 hr2 hR => q v H2s H2 (t.trans t2) ⟨d, hR, hr2⟩⟩
theorem dl_call {x : Str} {p : Pos} {k : Nat} {ps : List Str} {S : List Sl → (List Dt → Prop) → Prop} {Sa : List Sl → Prop} (F : FnL X.prog X.w X.K X.mg X.base x k ps S) (hr : Room k X.A) (ha : DA X (e :: es) ρ Sa) (hS : ∀ as, Sa as → S as RL) (hg : Gl X x := by rfl)
    (hdb : (x == ("__debug__" : Str)) = false := by decide) (he : starEach (e :: es) X.env = (false, eval e X.env) :: starEach es X.env := by rfl) (hpl : (backTo pos (starEach es X.env)).any (·.1) = false := by rfl) : DL X (.Call (.Name x p) (e :: es) [] pos) ρ RL := fun Hs H σ E Q q => by
  obtain ⟨fd, F1, B1⟩ := F.ok
  refine wpE_of (pe_call F1 hr hg F.gl F.kp B1 .nil pass0 pa_wp hdb he hpl) (ha Hs H σ E _ fun vs as Hs' H' t E' r => ?_)
  refine ⟨Hs', as, RL, by rw [List.append_nil]; exact E', hS as r, fun p xs ds H2s H2 t2 g1 g2 g3 g4 g5 => q (.ref p) H2s H2 (t.trans t2) ⟨p, xs, ds, rfl, t.free g1, g2, g3, g4, g5⟩⟩
section
variable {P : Program} {w : World} {K : PySem.W.Frag} {mg : Str → Option Value} {base : Heap} {x qual : Str} {params : Arguments} {scope : Scope} {dvs : List V} {kws : List (Str × V)} {f : Addr} {fd : FuncData} {N ps : List Str} {k : Nat}
theorem start_en {Hs H : Hp} {vs : List V} {as : List Sl} (E : En K Hs H (vs.map some) as) : En K Hs H (L2.start N vs) (as ++ List.replicate (N.length - as.length) .un) := by
  have hl : vs.length = as.length := by have := E.len; simpa using this
  have hu : ∀ (i : Nat) (s : Sl), (as ++ List.replicate (N.length - as.length) .un)[i]? = some s → s ≠ .un → as[i]? = some s ∧ i < as.length := fun i s h hn => by
    by_cases hi : i < as.length
    · rw [List.getElem?_append_left hi] at h; exact ⟨h, hi⟩
    · rw [List.getElem?_append_right (by omega)] at h
      have := List.mem_of_getElem? h
      exact absurd (List.eq_of_mem_replicate this) hn
  have hg : ∀ i, i < as.length → (L2.start N vs)[i]? = (vs.map some)[i]? := fun i hi => by
    unfold L2.start
    rw [List.getElem?_append_left (by rw [List.length_map]; omega)]
  refine ⟨E.sub, ?_, fun i s h => ?_, fun i j di dj h1 h2 hij => ?_⟩
  · unfold L2.start
    rw [List.length_append, List.length_append, List.length_map, List.length_replicate, List.length_replicate, hl]
  · have key : s ≠ .un → SlOk K Hs H ((L2.start N vs)[i]?) s := fun hn => by
      obtain ⟨h1, h2⟩ := hu i s h hn
      rw [hg i h2]
      exact E.sl i s h1
    cases s with
    | un => trivial
    | _ => exact key (fun z => nomatch z)
  · obtain ⟨a1, a2⟩ := hu i _ h1 (fun z => nomatch z)
    obtain ⟨b1, b2⟩ := hu j _ h2 (fun z => nomatch z)
    rw [hg i a2, hg j b2]
    exact E.dis i j di dj a1 b1 hij
/-- a def keeps its promise: its body's walk -/
theorem fn_data {S : List Sl → (Dt → Prop) → Prop} (F : FunD K x qual params body scope dvs kws f fd) (Sc : FnScope N ps scope) (hl : ∀ as R, S as R → as.length = ps.length ∧ ∀ s ∈ as, isMut s = false)
    (hbody : ∀ (cdv : Value) (A : Around) (outer : List Env) (s : Shared) (H S0 : Hp) (E : XK) (as : List Sl) (R : Dt → Prop), Room k (A.deeper (envOfC qual scope s.heap.objs.size f cdv)) → S as R →
      DSs (cxOf CX0 P w K mg base N qual scope f cdv A outer s H E).nox S0 H body (as ++ List.replicate (N.length - as.length) .un) { nx := fun _ => R .non, rt := R }) : FnOk P w K mg base CX0 (k + 1) f fd ps (spS K S) := by
  refine F.ok Sc (fun vs H Q E h => ?_) (fun cdv A outer s H vs Q E hr h => ?_)
  · obtain ⟨Hs, as, R, h1, h2, _⟩ := h
    rw [← (hl as R h2).1]
    have := h1.len
    simpa using this
  · obtain ⟨Hs, as, R, h1, h2, h3⟩ := h
    refine ⟨wpSs (cxOf CX0 P w K mg base N qual scope f cdv A outer s H E).nox body, PSs.nox pss_wp, ?_⟩
    have A0 : At K Hs H Hs (as ++ List.replicate (N.length - as.length) .un) (L2.start N vs) H := ⟨Hs, Ex.refl _, Step.refl h1.sub, start_en h1, fun i z p hz hm hp => by
      have hz2 := List.mem_of_getElem? hz
      rcases List.mem_append.mp hz2 with q | q
      · rw [(hl as R h2).2 z q] at hm; cases hm
      · rw [List.eq_of_mem_replicate q] at hm; cases hm⟩
    exact wpSs_mono (hbody cdv A outer s H Hs E as R hr h2 Hs (L2.start N vs) H A0) (fun σ' H' ⟨ρ', n, Hs', k1, k2, k3, k4⟩ => h3 .non .non Hs' H' k2 .non n) (fun v H' ⟨Hs', d, t, r, q⟩ => h3 v d Hs' H' t q r) (fun _ _ ⟨_, q, _⟩ => q.elim) (fun _ _ ⟨_, q, _⟩ => q.elim)
theorem fn_dataL {S : List Sl → (List Dt → Prop) → Prop} (F : FunD K x qual params body scope dvs kws f fd) (Sc : FnScope N ps scope) (hl : ∀ as R, S as R → as.length = ps.length ∧ ∀ s ∈ as, isMut s = false)
    (hbody : ∀ (cdv : Value) (A : Around) (outer : List Env) (s : Shared) (H S0 : Hp) (E : XK) (as : List Sl) (R : List Dt → Prop), Room k (A.deeper (envOfC qual scope s.heap.objs.size f cdv)) → S as R →
      DSs (cxOf CX0 P w K mg base N qual scope f cdv A outer s H E).nox S0 H body (as ++ List.replicate (N.length - as.length) .un) { nx := fun _ => False, rt := fun d => ∃ ds, d = .lst ds ∧ R ds, fr := true }) : FnOk P w K mg base CX0 (k + 1) f fd ps (spL K S) := by
  refine F.ok Sc (fun vs H Q E h => ?_) (fun cdv A outer s H vs Q E hr h => ?_)
  · obtain ⟨Hs, as, R, h1, h2, _⟩ := h
    rw [← (hl as R h2).1]
    have := h1.len
    simpa using this
  · obtain ⟨Hs, as, R, h1, h2, h3⟩ := h
    refine ⟨wpSs (cxOf CX0 P w K mg base N qual scope f cdv A outer s H E).nox body, PSs.nox pss_wp, ?_⟩
    have A0 : At K Hs H Hs (as ++ List.replicate (N.length - as.length) .un) (L2.start N vs) H := ⟨Hs, Ex.refl _, Step.refl h1.sub, start_en h1, fun i z p hz hm hp => by
      have hz2 := List.mem_of_getElem? hz
      rcases List.mem_append.mp hz2 with q | q
      · rw [(hl as R h2).2 z q] at hm; cases hm
      · rw [List.eq_of_mem_replicate q] at hm; cases hm⟩
    exact wpSs_mono (hbody cdv A outer s H Hs E as R hr h2 Hs (L2.start N vs) H A0) (fun σ' H' ⟨ρ', n, _⟩ => n.elim) (fun v H' ⟨Hs', d, t, ⟨ds, r0, r⟩, q⟩ => by
      obtain ⟨p, xs, ds', g1, g2, g3, g4, g5, g6⟩ := q
      rw [r0] at g6
      cases g6
      rw [g1]
      exact h3 p xs _ Hs' H' t g2 g3 g4 g5 r) (fun _ _ ⟨_, q, _⟩ => q.elim) (fun _ _ ⟨_, q, _⟩ => q.elim)
end
end
end DL
/-! Prog -/
set_option Elab.async false
set_option linter.all false
set_option maxRecDepth 100000
set_option maxHeartbeats 4000000
namespace DL
open PySem L2
def top (i : Nat) : Stmt := PySem.Challenge.pw_keptslot_k20_whole_deeds_there_and_back.main.body.getD i (.Pass ⟨0, 0, 0, 0⟩)
abbrev s_is_integer : Stmt := top 14
abbrev N_is_integer : List Str := ["value"]
abbrev P_is_integer : List Str := ["value"]
theorem sc_is_integer : FnScope N_is_integer P_is_integer (defScope s_is_integer) := ⟨rfl, rfl, rfl, by decide +kernel, rfl, by decide +kernel, by decide +kernel⟩
def d_is_integer : He.DefD := ⟨("is_integer", none), "is_integer", "is_integer", defArgs s_is_integer, defBody s_is_integer, defScope s_is_integer, [], []⟩
abbrev s_is_sequence : Stmt := top 15
abbrev N_is_sequence : List Str := ["value"]
abbrev P_is_sequence : List Str := ["value"]
theorem sc_is_sequence : FnScope N_is_sequence P_is_sequence (defScope s_is_sequence) := ⟨rfl, rfl, rfl, by decide +kernel, rfl, by decide +kernel, by decide +kernel⟩
def d_is_sequence : He.DefD := ⟨("is_sequence", none), "is_sequence", "is_sequence", defArgs s_is_sequence, defBody s_is_sequence, defScope s_is_sequence, [], []⟩
abbrev s_is_word : Stmt := top 16
abbrev N_is_word : List Str := ["value", "some"]
abbrev P_is_word : List Str := ["value", "some"]
theorem sc_is_word : FnScope N_is_word P_is_word (defScope s_is_word) := ⟨rfl, rfl, rfl, by decide +kernel, rfl, by decide +kernel, by decide +kernel⟩
def d_is_word : He.DefD := ⟨("is_word", none), "is_word", "is_word", defArgs s_is_word, defBody s_is_word, defScope s_is_word, [], []⟩
abbrev s_is_test : Stmt := top 17
abbrev N_is_test : List Str := ["value"]
abbrev P_is_test : List Str := ["value"]
theorem sc_is_test : FnScope N_is_test P_is_test (defScope s_is_test) := ⟨rfl, rfl, rfl, by decide +kernel, rfl, by decide +kernel, by decide +kernel⟩
def d_is_test : He.DefD := ⟨("is_test", none), "is_test", "is_test", defArgs s_is_test, defBody s_is_test, defScope s_is_test, [], []⟩
abbrev s_need_words : Stmt := top 18
abbrev N_need_words : List Str := ["words", ".0", "word"]
abbrev P_need_words : List Str := ["words"]
theorem sc_need_words : FnScope N_need_words P_need_words (defScope s_need_words) := ⟨rfl, rfl, rfl, by decide +kernel, rfl, by decide +kernel, by decide +kernel⟩
def d_need_words : He.DefD := ⟨("need_words", none), "need_words", "need_words", defArgs s_need_words, defBody s_need_words, defScope s_need_words, [], []⟩
abbrev s_rows_of : Stmt := top 22
abbrev N_rows_of : List Str := ["word"]
abbrev P_rows_of : List Str := ["word"]
theorem sc_rows_of : FnScope N_rows_of P_rows_of (defScope s_rows_of) := ⟨rfl, rfl, rfl, by decide +kernel, rfl, by decide +kernel, by decide +kernel⟩
def d_rows_of : He.DefD := ⟨("rows_of", none), "rows_of", "rows_of", defArgs s_rows_of, defBody s_rows_of, defScope s_rows_of, [], []⟩
abbrev s_place_of : Stmt := top 23
abbrev N_place_of : List Str := ["word", "letters", "at", "letter"]
abbrev P_place_of : List Str := ["word", "letters"]
theorem sc_place_of : FnScope N_place_of P_place_of (defScope s_place_of) := ⟨rfl, rfl, rfl, by decide +kernel, rfl, by decide +kernel, by decide +kernel⟩
def d_place_of : He.DefD := ⟨("place_of", none), "place_of", "place_of", defArgs s_place_of, defBody s_place_of, defScope s_place_of, [], []⟩
abbrev s_holds : Stmt := top 24
abbrev N_holds : List Str := ["reader", "scene", "test", "words", "slot", "change", "word", "key"]
abbrev P_holds : List Str := ["reader", "scene", "test", "words"]
theorem sc_holds : FnScope N_holds P_holds (defScope s_holds) := ⟨rfl, rfl, rfl, by decide +kernel, rfl, by decide +kernel, by decide +kernel⟩
def d_holds : He.DefD := ⟨("holds", none), "holds", "holds", defArgs s_holds, defBody s_holds, defScope s_holds, [], []⟩
abbrev s_next_slot : Stmt := top 25
abbrev N_next_slot : List Str := ["reader", "slot"]
abbrev P_next_slot : List Str := ["reader", "slot"]
theorem sc_next_slot : FnScope N_next_slot P_next_slot (defScope s_next_slot) := ⟨rfl, rfl, rfl, by decide +kernel, rfl, by decide +kernel, by decide +kernel⟩
def d_next_slot : He.DefD := ⟨("next_slot", none), "next_slot", "next_slot", defArgs s_next_slot, defBody s_next_slot, defScope s_next_slot, [], []⟩
abbrev s_is_possible : Stmt := top 26
abbrev N_is_possible : List Str := ["deed", "scene", "words"]
abbrev P_is_possible : List Str := ["deed", "scene", "words"]
theorem sc_is_possible : FnScope N_is_possible P_is_possible (defScope s_is_possible) := ⟨rfl, rfl, rfl, by decide +kernel, rfl, by decide +kernel, by decide +kernel⟩
def d_is_possible : He.DefD := ⟨("is_possible", none), "is_possible", "is_possible", defArgs s_is_possible, defBody s_is_possible, defScope s_is_possible, [], []⟩
abbrev s_row_led_to : Stmt := top 27
abbrev N_row_led_to : List Str := ["number"]
abbrev P_row_led_to : List Str := ["number"]
theorem sc_row_led_to : FnScope N_row_led_to P_row_led_to (defScope s_row_led_to) := ⟨rfl, rfl, rfl, by decide +kernel, rfl, by decide +kernel, by decide +kernel⟩
def d_row_led_to : He.DefD := ⟨("row_led_to", none), "row_led_to", "row_led_to", defArgs s_row_led_to, defBody s_row_led_to, defScope s_row_led_to, [], []⟩
abbrev s_by_slot : Stmt := top 28
abbrev N_by_slot : List Str := ["reader", "scene", "number"]
abbrev P_by_slot : List Str := ["reader", "scene"]
theorem sc_by_slot : FnScope N_by_slot P_by_slot (defScope s_by_slot) := ⟨rfl, rfl, rfl, by decide +kernel, rfl, by decide +kernel, by decide +kernel⟩
def d_by_slot : He.DefD := ⟨("by_slot", none), "by_slot", "by_slot", defArgs s_by_slot, defBody s_by_slot, defScope s_by_slot, [], []⟩
abbrev s_by_key : Stmt := top 29
abbrev N_by_key : List Str := ["reader", "scene", "word", "key", "many", "first", "behind"]
abbrev P_by_key : List Str := ["reader", "scene"]
theorem sc_by_key : FnScope N_by_key P_by_key (defScope s_by_key) := ⟨rfl, rfl, rfl, by decide +kernel, rfl, by decide +kernel, by decide +kernel⟩
def d_by_key : He.DefD := ⟨("by_key", none), "by_key", "by_key", defArgs s_by_key, defBody s_by_key, defScope s_by_key, [], []⟩
abbrev s_led_to : Stmt := top 30
abbrev N_led_to : List Str := ["reader", "deed", "scene"]
abbrev P_led_to : List Str := ["reader", "deed", "scene"]
theorem sc_led_to : FnScope N_led_to P_led_to (defScope s_led_to) := ⟨rfl, rfl, rfl, by decide +kernel, rfl, by decide +kernel, by decide +kernel⟩
def d_led_to : He.DefD := ⟨("led_to", none), "led_to", "led_to", defArgs s_led_to, defBody s_led_to, defScope s_led_to, [], []⟩
abbrev s_aim_at : Stmt := top 31
abbrev N_aim_at : List Str := ["reader", "scene", "words", "at", "row", ".0", "test"]
abbrev P_aim_at : List Str := ["reader", "scene", "words"]
theorem sc_aim_at : FnScope N_aim_at P_aim_at (defScope s_aim_at) := ⟨rfl, rfl, rfl, by decide +kernel, rfl, by decide +kernel, by decide +kernel⟩
def d_aim_at : He.DefD := ⟨("aim_at", none), "aim_at", "aim_at", defArgs s_aim_at, defBody s_aim_at, defScope s_aim_at, [], []⟩
abbrev s_changes_behind : Stmt := top 32
abbrev N_changes_behind : List Str := ["house", "change"]
abbrev P_changes_behind : List Str := ["house", "change"]
theorem sc_changes_behind : FnScope N_changes_behind P_changes_behind (defScope s_changes_behind) := ⟨rfl, rfl, rfl, by decide +kernel, rfl, by decide +kernel, by decide +kernel⟩
def d_changes_behind : He.DefD := ⟨("changes_behind", none), "changes_behind", "changes_behind", defArgs s_changes_behind, defBody s_changes_behind, defScope s_changes_behind, [], []⟩
abbrev s_any_changes : Stmt := top 33
abbrev N_any_changes : List Str := ["house"]
abbrev P_any_changes : List Str := ["house"]
theorem sc_any_changes : FnScope N_any_changes P_any_changes (defScope s_any_changes) := ⟨rfl, rfl, rfl, by decide +kernel, rfl, by decide +kernel, by decide +kernel⟩
def d_any_changes : He.DefD := ⟨("any_changes", none), "any_changes", "any_changes", defArgs s_any_changes, defBody s_any_changes, defScope s_any_changes, [], []⟩
abbrev s_many_behind : Stmt := top 34
abbrev N_many_behind : List Str := ["house", "many"]
abbrev P_many_behind : List Str := ["house", "many"]
theorem sc_many_behind : FnScope N_many_behind P_many_behind (defScope s_many_behind) := ⟨rfl, rfl, rfl, by decide +kernel, rfl, by decide +kernel, by decide +kernel⟩
def d_many_behind : He.DefD := ⟨("many_behind", none), "many_behind", "many_behind", defArgs s_many_behind, defBody s_many_behind, defScope s_many_behind, [], []⟩
abbrev s_dotted : Stmt := top 35
abbrev N_dotted : List Str := ["letters", "most", "found", "letter", ".0", "word", "many"]
abbrev P_dotted : List Str := ["letters", "most"]
theorem sc_dotted : FnScope N_dotted P_dotted (defScope s_dotted) := ⟨rfl, rfl, rfl, by decide +kernel, rfl, by decide +kernel, by decide +kernel⟩
def d_dotted : He.DefD := ⟨("dotted", none), "dotted", "dotted", defArgs s_dotted, defBody s_dotted, defScope s_dotted, [], []⟩
abbrev s_is_watch_higher : Stmt := top 36
abbrev N_is_watch_higher : List Str := ["reader", "order"]
abbrev P_is_watch_higher : List Str := ["reader", "order"]
theorem sc_is_watch_higher : FnScope N_is_watch_higher P_is_watch_higher (defScope s_is_watch_higher) := ⟨rfl, rfl, rfl, by decide +kernel, rfl, by decide +kernel, by decide +kernel⟩
def d_is_watch_higher : He.DefD := ⟨("is_watch_higher", none), "is_watch_higher", "is_watch_higher", defArgs s_is_watch_higher, defBody s_is_watch_higher, defScope s_is_watch_higher, [], []⟩
abbrev s_are_in_order : Stmt := top 37
abbrev N_are_in_order : List Str := ["reader", "order", "word", "key", "watch", "one", "other"]
abbrev P_are_in_order : List Str := ["reader", "order", "word", "key", "watch"]
theorem sc_are_in_order : FnScope N_are_in_order P_are_in_order (defScope s_are_in_order) := ⟨rfl, rfl, rfl, by decide +kernel, rfl, by decide +kernel, by decide +kernel⟩
def d_are_in_order : He.DefD := ⟨("are_in_order", none), "are_in_order", "are_in_order", defArgs s_are_in_order, defBody s_are_in_order, defScope s_are_in_order, [], []⟩
abbrev s_letters_for : Stmt := top 38
abbrev N_letters_for : List Str := ["order", "has_key", "has_watch", "is_told", "keys", ".0", "letter"]
abbrev P_letters_for : List Str := ["order", "has_key", "has_watch", "is_told"]
theorem sc_letters_for : FnScope N_letters_for P_letters_for (defScope s_letters_for) := ⟨rfl, rfl, rfl, by decide +kernel, rfl, by decide +kernel, by decide +kernel⟩
def d_letters_for : He.DefD := ⟨("letters_for", none), "letters_for", "letters_for", defArgs s_letters_for, defBody s_letters_for, defScope s_letters_for, [], []⟩
abbrev s_pages_that_fit : Stmt := top 39
abbrev N_pages_that_fit : List Str := ["reader", "house", "order", "is_told", "found", "key", "watch", "letters", ".0", "word"]
abbrev P_pages_that_fit : List Str := ["reader", "house", "order", "is_told"]
theorem sc_pages_that_fit : FnScope N_pages_that_fit P_pages_that_fit (defScope s_pages_that_fit) := ⟨rfl, rfl, rfl, by decide +kernel, rfl, by decide +kernel, by decide +kernel⟩
def d_pages_that_fit : He.DefD := ⟨("pages_that_fit", none), "pages_that_fit", "pages_that_fit", defArgs s_pages_that_fit, defBody s_pages_that_fit, defScope s_pages_that_fit, [], []⟩
abbrev s_come_events : Stmt := top 40
abbrev N_come_events : List Str := ["house", "scene", "word", "found", "at", "letter", ".0"]
abbrev P_come_events : List Str := ["house", "scene"]
theorem sc_come_events : FnScope N_come_events P_come_events (defScope s_come_events) := ⟨rfl, rfl, rfl, by decide +kernel, rfl, by decide +kernel, by decide +kernel⟩
def d_come_events : He.DefD := ⟨("come_events", none), "come_events", "come_events", defArgs s_come_events, defBody s_come_events, defScope s_come_events, [], []⟩
abbrev s_split_events : Stmt := top 41
abbrev N_split_events : List Str := ["house", "scene", "word", "found", "at", "kept", "other", "side", "key", "watch"]
abbrev P_split_events : List Str := ["house", "scene"]
theorem sc_split_events : FnScope N_split_events P_split_events (defScope s_split_events) := ⟨rfl, rfl, rfl, by decide +kernel, rfl, by decide +kernel, by decide +kernel⟩
def d_split_events : He.DefD := ⟨("split_events", none), "split_events", "split_events", defArgs s_split_events, defBody s_split_events, defScope s_split_events, [], []⟩
abbrev s_join_events : Stmt := top 42
abbrev N_join_events : List Str := ["reader", "house", "scene", "order", "word", "key", "watch", "side", "found", "has_key", "has_watch", "ends", "letters", "more", "whole"]
abbrev P_join_events : List Str := ["reader", "house", "scene"]
theorem sc_join_events : FnScope N_join_events P_join_events (defScope s_join_events) := ⟨rfl, rfl, rfl, by decide +kernel, rfl, by decide +kernel, by decide +kernel⟩
def d_join_events : He.DefD := ⟨("join_events", none), "join_events", "join_events", defArgs s_join_events, defBody s_join_events, defScope s_join_events, [], []⟩
abbrev s_others : Stmt := top 43
abbrev N_others : List Str := ["reader", "house", "scene", "told", "order", "slot", "change", "many", "word", "key", "watch", "is_used_up", "found", "later", "changes", "page", "one", "event", "ways", ".0", "behind"]
abbrev P_others : List Str := ["reader", "house", "scene"]
theorem sc_others : FnScope N_others P_others (defScope s_others) := ⟨rfl, rfl, rfl, by decide +kernel, rfl, by decide +kernel, by decide +kernel⟩
def d_others : He.DefD := ⟨("others", none), "others", "others", defArgs s_others, defBody s_others, defScope s_others, [], []⟩
abbrev s_behind_told : Stmt := top 44
abbrev N_behind_told : List Str := ["event", "told", "order", "slot", "page"]
abbrev P_behind_told : List Str := ["event", "told", "order", "slot", "page"]
theorem sc_behind_told : FnScope N_behind_told P_behind_told (defScope s_behind_told) := ⟨rfl, rfl, rfl, by decide +kernel, rfl, by decide +kernel, by decide +kernel⟩
def d_behind_told : He.DefD := ⟨("behind_told", none), "behind_told", "behind_told", defArgs s_behind_told, defBody s_behind_told, defScope s_behind_told, [], []⟩
abbrev s_order_behind : Stmt := top 45
abbrev N_order_behind : List Str := ["reader", "word", "watch", "one", "other"]
abbrev P_order_behind : List Str := ["reader", "word", "watch"]
theorem sc_order_behind : FnScope N_order_behind P_order_behind (defScope s_order_behind) := ⟨rfl, rfl, rfl, by decide +kernel, rfl, by decide +kernel, by decide +kernel⟩
def d_order_behind : He.DefD := ⟨("order_behind", none), "order_behind", "order_behind", defArgs s_order_behind, defBody s_order_behind, defScope s_order_behind, [], []⟩
abbrev s_step_within : Stmt := top 46
abbrev N_step_within : List Str := ["reader", "scene", "number", "letters", "word", ".0", "letter"]
abbrev P_step_within : List Str := ["reader", "scene", "number"]
theorem sc_step_within : FnScope N_step_within P_step_within (defScope s_step_within) := ⟨rfl, rfl, rfl, by decide +kernel, rfl, by decide +kernel, by decide +kernel⟩
def d_step_within : He.DefD := ⟨("step_within", none), "step_within", "step_within", defArgs s_step_within, defBody s_step_within, defScope s_step_within, [], []⟩
abbrev s_steps_out : Stmt := top 47
abbrev N_steps_out : List Str := ["reader", "house", "told", "order", "is_first", "found", "word", "key", "watch", "slot"]
abbrev P_steps_out : List Str := ["reader", "house", "told", "order", "is_first"]
theorem sc_steps_out : FnScope N_steps_out P_steps_out (defScope s_steps_out) := ⟨rfl, rfl, rfl, by decide +kernel, rfl, by decide +kernel, by decide +kernel⟩
def d_steps_out : He.DefD := ⟨("steps_out", none), "steps_out", "steps_out", defArgs s_steps_out, defBody s_steps_out, defScope s_steps_out, [], []⟩
abbrev s_step_over : Stmt := top 48
abbrev N_step_over : List Str := ["told"]
abbrev P_step_over : List Str := ["told"]
theorem sc_step_over : FnScope N_step_over P_step_over (defScope s_step_over) := ⟨rfl, rfl, rfl, by decide +kernel, rfl, by decide +kernel, by decide +kernel⟩
def d_step_over : He.DefD := ⟨("step_over", none), "step_over", "step_over", defArgs s_step_over, defBody s_step_over, defScope s_step_over, [], []⟩
abbrev s_steps_ahead : Stmt := top 49
abbrev N_steps_ahead : List Str := ["reader", "house", "told", "is_first"]
abbrev P_steps_ahead : List Str := ["reader", "house", "told", "is_first"]
theorem sc_steps_ahead : FnScope N_steps_ahead P_steps_ahead (defScope s_steps_ahead) := ⟨rfl, rfl, rfl, by decide +kernel, rfl, by decide +kernel, by decide +kernel⟩
def d_steps_ahead : He.DefD := ⟨("steps_ahead", none), "steps_ahead", "steps_ahead", defArgs s_steps_ahead, defBody s_steps_ahead, defScope s_steps_ahead, [], []⟩
abbrev s_steps_beyond : Stmt := top 50
abbrev N_steps_beyond : List Str := ["reader", "house", "told", "is_first"]
abbrev P_steps_beyond : List Str := ["reader", "house", "told", "is_first"]
theorem sc_steps_beyond : FnScope N_steps_beyond P_steps_beyond (defScope s_steps_beyond) := ⟨rfl, rfl, rfl, by decide +kernel, rfl, by decide +kernel, by decide +kernel⟩
def d_steps_beyond : He.DefD := ⟨("steps_beyond", none), "steps_beyond", "steps_beyond", defArgs s_steps_beyond, defBody s_steps_beyond, defScope s_steps_beyond, [], []⟩
abbrev s_steps : Stmt := top 51
abbrev N_steps : List Str := ["reader", "house", "scene", "words", "found", "where", "number", "told", "order", "word", "watch", "is_ahead", "some", "mine", ".0", "triple"]
abbrev P_steps : List Str := ["reader", "house", "scene", "words"]
theorem sc_steps : FnScope N_steps P_steps (defScope s_steps) := ⟨rfl, rfl, rfl, by decide +kernel, rfl, by decide +kernel, by decide +kernel⟩
def d_steps : He.DefD := ⟨("steps", none), "steps", "steps", defArgs s_steps, defBody s_steps, defScope s_steps, [], []⟩
abbrev s_triples : Stmt := top 52
abbrev N_triples : List Str := ["reader", "house", "scene", "words", "found", ".0", "event", "behind"]
abbrev P_triples : List Str := ["reader", "house", "scene", "words"]
theorem sc_triples : FnScope N_triples P_triples (defScope s_triples) := ⟨rfl, rfl, rfl, by decide +kernel, rfl, by decide +kernel, by decide +kernel⟩
def d_triples : He.DefD := ⟨("triples", none), "triples", "triples", defArgs s_triples, defBody s_triples, defScope s_triples, [], []⟩
abbrev s_nexts : Stmt := top 53
abbrev N_nexts : List Str := ["reader", "house", "scene", "words"]
abbrev P_nexts : List Str := ["reader", "house", "scene", "words"]
theorem sc_nexts : FnScope N_nexts P_nexts (defScope s_nexts) := ⟨rfl, rfl, rfl, by decide +kernel, rfl, by decide +kernel, by decide +kernel⟩
def d_nexts : He.DefD := ⟨("nexts", none), "nexts", "nexts", defArgs s_nexts, defBody s_nexts, defScope s_nexts, [], [("words", .glo "WORDS")]⟩
abbrev s_is_between : Stmt := top 60
abbrev N_is_between : List Str := ["value", "most"]
abbrev P_is_between : List Str := ["value", "most"]
theorem sc_is_between : FnScope N_is_between P_is_between (defScope s_is_between) := ⟨rfl, rfl, rfl, by decide +kernel, rfl, by decide +kernel, by decide +kernel⟩
def d_is_between : He.DefD := ⟨("is_between", none), "is_between", "is_between", defArgs s_is_between, defBody s_is_between, defScope s_is_between, [], []⟩
abbrev s_fault_of : Stmt := top 61
abbrev N_fault_of : List Str := ["rows", "keeps", "joins", "again", "stamps", "on", "changes"]
abbrev P_fault_of : List Str := ["rows", "keeps", "joins", "again", "stamps", "on", "changes"]
theorem sc_fault_of : FnScope N_fault_of P_fault_of (defScope s_fault_of) := ⟨rfl, rfl, rfl, by decide +kernel, rfl, by decide +kernel, by decide +kernel⟩
def d_fault_of : He.DefD := ⟨("fault_of", none), "fault_of", "fault_of", defArgs s_fault_of, defBody s_fault_of, defScope s_fault_of, [], []⟩
abbrev s_text_of : Stmt := top 65
abbrev N_text_of : List Str := ["tests", "deed", "told"]
abbrev P_text_of : List Str := ["tests", "deed"]
theorem sc_text_of : FnScope N_text_of P_text_of (defScope s_text_of) := ⟨rfl, rfl, rfl, by decide +kernel, rfl, by decide +kernel, by decide +kernel⟩
def d_text_of : He.DefD := ⟨("text_of", none), "text_of", "text_of", defArgs s_text_of, defBody s_text_of, defScope s_text_of, [], []⟩
abbrev s_reader_text : Stmt := top 69
abbrev N_reader_text : List Str := ["way", "rows", "found", "row"]
abbrev P_reader_text : List Str := ["way", "rows"]
theorem sc_reader_text : FnScope N_reader_text P_reader_text (defScope s_reader_text) := ⟨rfl, rfl, rfl, by decide +kernel, rfl, by decide +kernel, by decide +kernel⟩
def d_reader_text : He.DefD := ⟨("reader_text", none), "reader_text", "reader_text", defArgs s_reader_text, defBody s_reader_text, defScope s_reader_text, [], []⟩
abbrev s__law_box : Stmt := top 71
abbrev N__law_box : List Str := ["_law_script", "_law_k", "_law_own", "_law_cell", "_law_seed", "_law_one"]
abbrev P__law_box : List Str := ["_law_script", "_law_k", "_law_own"]
theorem sc__law_box : FnScope N__law_box P__law_box (defScope s__law_box) := ⟨rfl, rfl, rfl, by decide +kernel, rfl, by decide +kernel, by decide +kernel⟩
def d__law_box : He.DefD := ⟨("_law_box", none), "_law_box", "_law_box", defArgs s__law_box, defBody s__law_box, defScope s__law_box, [], []⟩
abbrev s__law_take : Stmt := top 72
abbrev N__law_take : List Str := ["_law_box_here", "_law_many", "_law_digit"]
abbrev P__law_take : List Str := ["_law_box_here", "_law_many"]
theorem sc__law_take : FnScope N__law_take P__law_take (defScope s__law_take) := ⟨rfl, rfl, rfl, by decide +kernel, rfl, by decide +kernel, by decide +kernel⟩
def d__law_take : He.DefD := ⟨("_law_take", none), "_law_take", "_law_take", defArgs s__law_take, defBody s__law_take, defScope s__law_take, [], []⟩
abbrev s__law_pick : Stmt := top 73
abbrev N__law_pick : List Str := ["_law_box_here", "_law_some"]
abbrev P__law_pick : List Str := ["_law_box_here", "_law_some"]
theorem sc__law_pick : FnScope N__law_pick P__law_pick (defScope s__law_pick) := ⟨rfl, rfl, rfl, by decide +kernel, rfl, by decide +kernel, by decide +kernel⟩
def d__law_pick : He.DefD := ⟨("_law_pick", none), "_law_pick", "_law_pick", defArgs s__law_pick, defBody s__law_pick, defScope s__law_pick, [], []⟩
abbrev s__law_house : Stmt := top 74
abbrev N__law_house : List Str := ["_law_box_here", "_law_most", "_law_rows", "_law_house_here"]
abbrev P__law_house : List Str := ["_law_box_here", "_law_most"]
theorem sc__law_house : FnScope N__law_house P__law_house (defScope s__law_house) := ⟨rfl, rfl, rfl, by decide +kernel, rfl, by decide +kernel, by decide +kernel⟩
def d__law_house : He.DefD := ⟨("_law_house", none), "_law_house", "_law_house", defArgs s__law_house, defBody s__law_house, defScope s__law_house, [], []⟩
abbrev s__law_home : Stmt := top 75
abbrev N__law_home : List Str := ["_law_house_here", "_law_some", ".0", "_law_word"]
abbrev P__law_home : List Str := ["_law_house_here"]
theorem sc__law_home : FnScope N__law_home P__law_home (defScope s__law_home) := ⟨rfl, rfl, rfl, by decide +kernel, rfl, by decide +kernel, by decide +kernel⟩
def d__law_home : He.DefD := ⟨("_law_home", none), "_law_home", "_law_home", defArgs s__law_home, defBody s__law_home, defScope s__law_home, [], []⟩
abbrev s__law_lines : Stmt := top 76
abbrev N__law_lines : List Str := ["_law_box_here", "_law_good", "_law_rows", "_law_tests", "_law_turn", "_law_some", "_law_at", ".0", "_law_step"]
abbrev P__law_lines : List Str := ["_law_box_here"]
theorem sc__law_lines : FnScope N__law_lines P__law_lines (defScope s__law_lines) := ⟨rfl, rfl, rfl, by decide +kernel, rfl, by decide +kernel, by decide +kernel⟩
def d__law_lines : He.DefD := ⟨("_law_lines", none), "_law_lines", "_law_lines", defArgs s__law_lines, defBody s__law_lines, defScope s__law_lines, [], []⟩
abbrev s__law_reader : Stmt := top 77
abbrev N__law_reader : List Str := ["_law_way", "_law_rows", ".0", "_law_tests", "_law_deed"]
abbrev P__law_reader : List Str := ["_law_way", "_law_rows"]
theorem sc__law_reader : FnScope N__law_reader P__law_reader (defScope s__law_reader) := ⟨rfl, rfl, rfl, by decide +kernel, rfl, by decide +kernel, by decide +kernel⟩
def d__law_reader : He.DefD := ⟨("_law_reader", none), "_law_reader", "_law_reader", defArgs s__law_reader, defBody s__law_reader, defScope s__law_reader, [], []⟩
abbrev s__law_rows_in : Stmt := top 78
abbrev N__law_rows_in : List Str := ["_law_word", ".0", "_law_letter"]
abbrev P__law_rows_in : List Str := ["_law_word"]
theorem sc__law_rows_in : FnScope N__law_rows_in P__law_rows_in (defScope s__law_rows_in) := ⟨rfl, rfl, rfl, by decide +kernel, rfl, by decide +kernel, by decide +kernel⟩
def d__law_rows_in : He.DefD := ⟨("_law_rows_in", none), "_law_rows_in", "_law_rows_in", defArgs s__law_rows_in, defBody s__law_rows_in, defScope s__law_rows_in, [], []⟩
abbrev s__law_spot : Stmt := top 79
abbrev N__law_spot : List Str := ["_law_word", "_law_letters", "_law_found", ".0", "_law_at", "_law_letter"]
abbrev P__law_spot : List Str := ["_law_word", "_law_letters"]
theorem sc__law_spot : FnScope N__law_spot P__law_spot (defScope s__law_spot) := ⟨rfl, rfl, rfl, by decide +kernel, rfl, by decide +kernel, by decide +kernel⟩
def d__law_spot : He.DefD := ⟨("_law_spot", none), "_law_spot", "_law_spot", defArgs s__law_spot, defBody s__law_spot, defScope s__law_spot, [], []⟩
abbrev s__law_is_so : Stmt := top 80
abbrev N__law_is_so : List Str := ["_law_way", "_law_test", "_law_scene_here", "_law_kept", "_law_needs", "_law_slot"]
abbrev P__law_is_so : List Str := ["_law_way", "_law_test", "_law_scene_here", "_law_kept"]
theorem sc__law_is_so : FnScope N__law_is_so P__law_is_so (defScope s__law_is_so) := ⟨rfl, rfl, rfl, by decide +kernel, rfl, by decide +kernel, by decide +kernel⟩
def d__law_is_so : He.DefD := ⟨("_law_is_so", none), "_law_is_so", "_law_is_so", defArgs s__law_is_so, defBody s__law_is_so, defScope s__law_is_so, [], []⟩
abbrev s__law_greater : Stmt := top 81
abbrev N__law_greater : List Str := ["_law_way", "_law_scene_here", "_law_word", "_law_key", "_law_many", "_law_ahead", "_law_is_row", "_law_at"]
abbrev P__law_greater : List Str := ["_law_way", "_law_scene_here"]
theorem sc__law_greater : FnScope N__law_greater P__law_greater (defScope s__law_greater) := ⟨rfl, rfl, rfl, by decide +kernel, rfl, by decide +kernel, by decide +kernel⟩
def d__law_greater : He.DefD := ⟨("_law_greater", none), "_law_greater", "_law_greater", defArgs s__law_greater, defBody s__law_greater, defScope s__law_greater, [], []⟩
abbrev s__law_aim : Stmt := top 82
abbrev N__law_aim : List Str := ["_law_way", "_law_rows", "_law_scene_here", "_law_kept", "_law_at", "_law_row", "_law_tests", "_law_deed", "_law_is_there", "_law_can", "_law_wrong", "_law_slot", "_law_some", ".0", "_law_test"]
abbrev P__law_aim : List Str := ["_law_way", "_law_rows", "_law_scene_here", "_law_kept"]
theorem sc__law_aim : FnScope N__law_aim P__law_aim (defScope s__law_aim) := ⟨rfl, rfl, rfl, by decide +kernel, rfl, by decide +kernel, by decide +kernel⟩
def d__law_aim : He.DefD := ⟨("_law_aim", none), "_law_aim", "_law_aim", defArgs s__law_aim, defBody s__law_aim, defScope s__law_aim, [], []⟩
abbrev s__law_all_words : Stmt := top 83
abbrev N__law_all_words : List Str := ["_law_letters", "_law_most", "_law_found", "_law_layer", "_law_turn", "_law_later_here", "_law_word", "_law_more", ".0", "_law_letter", "_law_one"]
abbrev P__law_all_words : List Str := ["_law_letters", "_law_most"]
theorem sc__law_all_words : FnScope N__law_all_words P__law_all_words (defScope s__law_all_words) := ⟨rfl, rfl, rfl, by decide +kernel, rfl, by decide +kernel, by decide +kernel⟩
def d__law_all_words : He.DefD := ⟨("_law_all_words", none), "_law_all_words", "_law_all_words", defArgs s__law_all_words, defBody s__law_all_words, defScope s__law_all_words, [], []⟩
abbrev s__law_fits : Stmt := top 84
abbrev N__law_fits : List Str := ["_law_way", "_law_most", "_law_order", "_law_page", "_law_word", "_law_key", "_law_watch", "_law_one", "_law_keys", "_law_eyes", "_law_sides", "_law_other", ".0"]
abbrev P__law_fits : List Str := ["_law_way", "_law_most", "_law_order", "_law_page"]
theorem sc__law_fits : FnScope N__law_fits P__law_fits (defScope s__law_fits) := ⟨rfl, rfl, rfl, by decide +kernel, rfl, by decide +kernel, by decide +kernel⟩
def d__law_fits : He.DefD := ⟨("_law_fits", none), "_law_fits", "_law_fits", defArgs s__law_fits, defBody s__law_fits, defScope s__law_fits, [], []⟩
abbrev s__law_pages : Stmt := top 85
abbrev N__law_pages : List Str := ["_law_way", "_law_most", "_law_order", "_law_letters", "_law_found", "_law_word", "_law_key", "_law_watch"]
abbrev P__law_pages : List Str := ["_law_way", "_law_most", "_law_order", "_law_letters"]
theorem sc__law_pages : FnScope N__law_pages P__law_pages (defScope s__law_pages) := ⟨rfl, rfl, rfl, by decide +kernel, rfl, by decide +kernel, by decide +kernel⟩
def d__law_pages : He.DefD := ⟨("_law_pages", none), "_law_pages", "_law_pages", defArgs s__law_pages, defBody s__law_pages, defScope s__law_pages, [], []⟩
abbrev s__law_later : Stmt := top 86
abbrev N__law_later : List Str := ["_law_house_here", "_law_change"]
abbrev P__law_later : List Str := ["_law_house_here", "_law_change"]
theorem sc__law_later : FnScope N__law_later P__law_later (defScope s__law_later) := ⟨rfl, rfl, rfl, by decide +kernel, rfl, by decide +kernel, by decide +kernel⟩
def d__law_later : He.DefD := ⟨("_law_later", none), "_law_later", "_law_later", defArgs s__law_later, defBody s__law_later, defScope s__law_later, [], []⟩
abbrev s__law_turned : Stmt := top 87
abbrev N__law_turned : List Str := ["_law_house_here", "_law_way", "_law_scene_here", "_law_order", "_law_found", "_law_most", "_law_word", "_law_key", "_law_watch", "_law_at", "_law_low", "_law_high", "_law_held", "_law_gone", "_law_side", "_law_here", "_law_letter", "_law_letters", "_law_more", "_law_page", ".0", "_law_pair"]
abbrev P__law_turned : List Str := ["_law_house_here", "_law_way", "_law_scene_here"]
theorem sc__law_turned : FnScope N__law_turned P__law_turned (defScope s__law_turned) := ⟨rfl, rfl, rfl, by decide +kernel, rfl, by decide +kernel, by decide +kernel⟩
def d__law_turned : He.DefD := ⟨("_law_turned", none), "_law_turned", "_law_turned", defArgs s__law_turned, defBody s__law_turned, defScope s__law_turned, [], []⟩
abbrev s__law_others : Stmt := top 88
abbrev N__law_others : List Str := ["_law_house_here", "_law_way", "_law_scene_here", "_law_told", "_law_order", "_law_slot", "_law_change", "_law_many", "_law_is_free", "_law_count", "_law_found", "_law_every", "_law_some", "_law_page", "_law_one", "_law_event", ".0"]
abbrev P__law_others : List Str := ["_law_house_here", "_law_way", "_law_scene_here"]
theorem sc__law_others : FnScope N__law_others P__law_others (defScope s__law_others) := ⟨rfl, rfl, rfl, by decide +kernel, rfl, by decide +kernel, by decide +kernel⟩
def d__law_others : He.DefD := ⟨("_law_others", none), "_law_others", "_law_others", defArgs s__law_others, defBody s__law_others, defScope s__law_others, [], []⟩
abbrev s__law_met : Stmt := top 89
abbrev N__law_met : List Str := ["_law_event", "_law_told", "_law_order", "_law_slot", "_law_page"]
abbrev P__law_met : List Str := ["_law_event", "_law_told", "_law_order", "_law_slot", "_law_page"]
theorem sc__law_met : FnScope N__law_met P__law_met (defScope s__law_met) := ⟨rfl, rfl, rfl, by decide +kernel, rfl, by decide +kernel, by decide +kernel⟩
def d__law_met : He.DefD := ⟨("_law_met", none), "_law_met", "_law_met", defArgs s__law_met, defBody s__law_met, defScope s__law_met, [], []⟩
abbrev s__law_far : Stmt := top 90
abbrev N__law_far : List Str := ["_law_house_here", "_law_way", "_law_told", "_law_order", "_law_is_first", "_law_found", "_law_word", "_law_key", "_law_watch", "_law_spot_here"]
abbrev P__law_far : List Str := ["_law_house_here", "_law_way", "_law_told", "_law_order", "_law_is_first"]
theorem sc__law_far : FnScope N__law_far P__law_far (defScope s__law_far) := ⟨rfl, rfl, rfl, by decide +kernel, rfl, by decide +kernel, by decide +kernel⟩
def d__law_far : He.DefD := ⟨("_law_far", none), "_law_far", "_law_far", defArgs s__law_far, defBody s__law_far, defScope s__law_far, [], []⟩
abbrev s__law_near : Stmt := top 91
abbrev N__law_near : List Str := ["_law_way", "_law_scene_here", "_law_number", "_law_told", "_law_watch", "_law_some", "_law_word", "_law_order", "_law_is_more", ".0", "_law_letter"]
abbrev P__law_near : List Str := ["_law_way", "_law_scene_here", "_law_number"]
theorem sc__law_near : FnScope N__law_near P__law_near (defScope s__law_near) := ⟨rfl, rfl, rfl, by decide +kernel, rfl, by decide +kernel, by decide +kernel⟩
def d__law_near : He.DefD := ⟨("_law_near", none), "_law_near", "_law_near", defArgs s__law_near, defBody s__law_near, defScope s__law_near, [], []⟩
abbrev s__law_steps : Stmt := top 92
abbrev N__law_steps : List Str := ["_law_house_here", "_law_way", "_law_rows", "_law_scene_here", "_law_kept", "_law_aimed", "_law_where", "_law_number", "_law_told", "_law_is_first", "_law_is_ahead", "_law_over", "_law_found", "_law_mine", "_law_triple"]
abbrev P__law_steps : List Str := ["_law_house_here", "_law_way", "_law_rows", "_law_scene_here", "_law_kept"]
theorem sc__law_steps : FnScope N__law_steps P__law_steps (defScope s__law_steps) := ⟨rfl, rfl, rfl, by decide +kernel, rfl, by decide +kernel, by decide +kernel⟩
def d__law_steps : He.DefD := ⟨("_law_steps", none), "_law_steps", "_law_steps", defArgs s__law_steps, defBody s__law_steps, defScope s__law_steps, [], []⟩
abbrev s__law_nexts : Stmt := top 93
abbrev N__law_nexts : List Str := ["_law_house_here", "_law_way", "_law_rows", "_law_scene_here", "_law_kept", "_law_found", ".0", "_law_event", "_law_behind_here"]
abbrev P__law_nexts : List Str := ["_law_house_here", "_law_way", "_law_rows", "_law_scene_here", "_law_kept"]
theorem sc__law_nexts : FnScope N__law_nexts P__law_nexts (defScope s__law_nexts) := ⟨rfl, rfl, rfl, by decide +kernel, rfl, by decide +kernel, by decide +kernel⟩
def d__law_nexts : He.DefD := ⟨("_law_nexts", none), "_law_nexts", "_law_nexts", defArgs s__law_nexts, defBody s__law_nexts, defScope s__law_nexts, [], []⟩
abbrev s__law_walk : Stmt := top 94
abbrev N__law_walk : List Str := ["_law_box_here", "_law_house_here", "_law_way", "_law_rows", "_law_kept", "_law_many", "_law_scene_here", "_law_events", "_law_stands", "_law_turn", "_law_some", "_law_paces", "_law_event", "_law_goal", ".0", "_law_triple"]
abbrev P__law_walk : List Str := ["_law_box_here", "_law_house_here", "_law_way", "_law_rows", "_law_kept", "_law_many"]
theorem sc__law_walk : FnScope N__law_walk P__law_walk (defScope s__law_walk) := ⟨rfl, rfl, rfl, by decide +kernel, rfl, by decide +kernel, by decide +kernel⟩
def d__law_walk : He.DefD := ⟨("_law_walk", none), "_law_walk", "_law_walk", defArgs s__law_walk, defBody s__law_walk, defScope s__law_walk, [], []⟩
abbrev s__law_scene : Stmt := top 95
abbrev N__law_scene : List Str := ["_law_box_here", "_law_house_here", "_law_way", "_law_rows", "_law_kept", "_law_many", "_law_events", "_law_stands", "_law_goal", "_law_some", ".0", "_law_scene_here"]
abbrev P__law_scene : List Str := ["_law_box_here", "_law_house_here", "_law_way", "_law_rows", "_law_kept", "_law_many"]
theorem sc__law_scene : FnScope N__law_scene P__law_scene (defScope s__law_scene) := ⟨rfl, rfl, rfl, by decide +kernel, rfl, by decide +kernel, by decide +kernel⟩
def d__law_scene : He.DefD := ⟨("_law_scene", none), "_law_scene", "_law_scene", defArgs s__law_scene, defBody s__law_scene, defScope s__law_scene, [], []⟩
abbrev s__law_behind : Stmt := top 96
abbrev N__law_behind : List Str := ["_law_told", "_law_head", "_law_page", "_law_some", ".0", "_law_event", "_law_goal", "_law_behind_here"]
abbrev P__law_behind : List Str := ["_law_told", "_law_head", "_law_page"]
theorem sc__law_behind : FnScope N__law_behind P__law_behind (defScope s__law_behind) := ⟨rfl, rfl, rfl, by decide +kernel, rfl, by decide +kernel, by decide +kernel⟩
def d__law_behind : He.DefD := ⟨("_law_behind", none), "_law_behind", "_law_behind", defArgs s__law_behind, defBody s__law_behind, defScope s__law_behind, [], []⟩
abbrev s__law_returns : Stmt := top 97
abbrev N__law_returns : List Str := ["_law_reader_here", "_law_home_here", "_law_house_here", "_law_scene_here", "_law_event", "_law_behind_here", "_law_told", "_law_page", "_law_head", ".0", "_law_one", "_law_goal", "_law_later_here"]
abbrev P__law_returns : List Str := ["_law_reader_here", "_law_home_here", "_law_house_here", "_law_scene_here", "_law_event", "_law_behind_here"]
theorem sc__law_returns : FnScope N__law_returns P__law_returns (defScope s__law_returns) := ⟨rfl, rfl, rfl, by decide +kernel, rfl, by decide +kernel, by decide +kernel⟩
def d__law_returns : He.DefD := ⟨("_law_returns", none), "_law_returns", "_law_returns", defArgs s__law_returns, defBody s__law_returns, defScope s__law_returns, [], []⟩
abbrev s_law : Stmt := top 98
abbrev N_law : List Str := ["_law_script", "_law_k", "_law_box_here", "_law_turn", "_law_house_here", "_law_way", "_law_rows", "_law_every", "_law_scene_here", "_law_reader_here", "_law_home_here", "_law_told", "_law_step", "_law_event", "_law_goal", "_law_behind_here", "_law_is_back", "_law_some", "_law_is_free", ".0", "_law_triple", "_law_one", "_law_aim_met", "_law_later_here"]
abbrev P_law : List Str := ["_law_script"]
theorem sc_law : FnScope N_law P_law (defScope s_law) := ⟨rfl, rfl, rfl, by decide +kernel, rfl, by decide +kernel, by decide +kernel⟩
def d_law : He.DefD := ⟨("law", none), "law", "law", defArgs s_law, defBody s_law, defScope s_law, [], []⟩
abbrev s_House_init : Stmt := inClass (top 62) 0
abbrev N_House_init : List Str := ["self", "rows", "keeps", "joins", "again", "stamps", "on", "changes", "fault"]
abbrev P_House_init : List Str := ["self", "rows", "keeps", "joins", "again", "stamps", "on", "changes"]
theorem sc_House_init : FnScope N_House_init P_House_init (defScope s_House_init) := ⟨rfl, rfl, rfl, by decide +kernel, rfl, by decide +kernel, by decide +kernel⟩
def d_House_init : He.DefD := ⟨("House", some "__init__"), "__init__", "House.__init__", defArgs s_House_init, defBody s_House_init, defScope s_House_init, [.int 2, .str "low", .str "left", .bl true, .non, .bl true, .non], []⟩
abbrev s_Row_init : Stmt := inClass (top 64) 0
abbrev N_Row_init : List Str := ["self", "tests", "deed", ".0", "test"]
abbrev P_Row_init : List Str := ["self", "tests", "deed"]
theorem sc_Row_init : FnScope N_Row_init P_Row_init (defScope s_Row_init) := ⟨rfl, rfl, rfl, by decide +kernel, rfl, by decide +kernel, by decide +kernel⟩
def d_Row_init : He.DefD := ⟨("Row", some "__init__"), "__init__", "Row.__init__", defArgs s_Row_init, defBody s_Row_init, defScope s_Row_init, [.adr (He.dflAt ("Row", some "__init__") 0), .str "find"], []⟩
abbrev s_Reader_init : Stmt := inClass (top 68) 0
abbrev N_Reader_init : List Str := ["self", "way", "rows", ".0", "row"]
abbrev P_Reader_init : List Str := ["self", "way", "rows"]
theorem sc_Reader_init : FnScope N_Reader_init P_Reader_init (defScope s_Reader_init) := ⟨rfl, rfl, rfl, by decide +kernel, rfl, by decide +kernel, by decide +kernel⟩
def d_Reader_init : He.DefD := ⟨("Reader", some "__init__"), "__init__", "Reader.__init__", defArgs s_Reader_init, defBody s_Reader_init, defScope s_Reader_init, [.adr (He.dflAt ("Reader", some "__init__") 0)], []⟩
end DL
/-! Facts -/
set_option Elab.async false
set_option linter.all false
set_option maxRecDepth 100000
set_option maxHeartbeats 4000000
namespace DL
open PySem PySem.Spec PyProof.Rows L2
def faL0 : List He.Fa := [.glo "is_integer", .glo "is_sequence", .glo "is_word", .glo "is_test", .glo "need_words", .glo "rows_of", .glo "place_of", .glo "holds", .glo "next_slot", .glo "is_possible", .glo "row_led_to", .glo "by_slot", .glo "by_key", .glo "led_to", .glo "aim_at", .glo "changes_behind", .glo "any_changes", .glo "many_behind", .glo "dotted", .glo "is_watch_higher"]
def faL1 : List He.Fa := [.glo "are_in_order", .glo "letters_for", .glo "pages_that_fit", .glo "come_events", .glo "split_events", .glo "join_events", .glo "others", .glo "behind_told", .glo "order_behind", .glo "step_within", .glo "steps_out", .glo "step_over", .glo "steps_ahead", .glo "steps_beyond", .glo "steps", .glo "triples", .glo "nexts", .glo "is_between", .glo "fault_of", .glo "text_of"]
def faL2 : List He.Fa := [.glo "reader_text", .glo "_law_box", .glo "_law_take", .glo "_law_pick", .glo "_law_house", .glo "_law_home", .glo "_law_lines", .glo "_law_reader", .glo "_law_rows_in", .glo "_law_spot", .glo "_law_is_so", .glo "_law_greater", .glo "_law_aim", .glo "_law_all_words", .glo "_law_fits", .glo "_law_pages", .glo "_law_later", .glo "_law_turned", .glo "_law_others", .glo "_law_met"]
def faL3 : List He.Fa := [.glo "_law_far", .glo "_law_near", .glo "_law_steps", .glo "_law_nexts", .glo "_law_walk", .glo "_law_scene", .glo "_law_behind", .glo "_law_returns", .glo "law", .glo "House", .glo "Row", .glo "Reader", .glo "WORDS", .glo "WAYS", .glo "TESTS", .glo "DEEDS", .glo "PARTS", .glo "JOINS", .glo "BEGIN", .glo "SIDES"]
def faL4 : List He.Fa := [.free "isinstance", .free "int", .free "bool", .free "list", .free "tuple", .free "str", .free "len", .free "all", .free "enumerate", .free "range", .free "abs", .free "max", .free "min", .int "MOST_ROWS" 4, .int "MOST_MODULUS" 6, .int "MOST_CHANGES" 3, .str "NOT" "not ", .cls "House", .mkr "House", .noat "House" "rows"]
def faL5 : List He.Fa := [.noat "House" "keeps", .noat "House" "joins", .noat "House" "again", .noat "House" "stamps", .noat "House" "on", .noat "House" "changes", .cls "Row", .mkr "Row", .noat "Row" "tests", .noat "Row" "deed", .noat "Row" "text", .cls "Reader", .mkr "Reader", .noat "Reader" "way", .noat "Reader" "rows", .noat "Reader" "text"]
def faL : List He.Fa := faL0 ++ (faL1 ++ (faL2 ++ (faL3 ++ (faL4 ++ (faL5)))))
def fnL0 : List He.DefD := [d_is_integer, d_is_sequence, d_is_word, d_is_test, d_need_words, d_rows_of, d_place_of, d_holds, d_next_slot, d_is_possible, d_row_led_to, d_by_slot, d_by_key, d_led_to, d_aim_at, d_changes_behind, d_any_changes, d_many_behind, d_dotted, d_is_watch_higher]
def fnL1 : List He.DefD := [d_are_in_order, d_letters_for, d_pages_that_fit, d_come_events, d_split_events, d_join_events, d_others, d_behind_told, d_order_behind, d_step_within, d_steps_out, d_step_over, d_steps_ahead, d_steps_beyond, d_steps, d_triples, d_nexts, d_is_between, d_fault_of, d_text_of]
def fnL2 : List He.DefD := [d_reader_text, d__law_box, d__law_take, d__law_pick, d__law_house, d__law_home, d__law_lines, d__law_reader, d__law_rows_in, d__law_spot, d__law_is_so, d__law_greater, d__law_aim, d__law_all_words, d__law_fits, d__law_pages, d__law_later, d__law_turned, d__law_others, d__law_met]
def fnL3 : List He.DefD := [d__law_far, d__law_near, d__law_steps, d__law_nexts, d__law_walk, d__law_scene, d__law_behind, d__law_returns, d_law, d_House_init, d_Row_init, d_Reader_init]
def fnL : List He.DefD := fnL0 ++ (fnL1 ++ (fnL2 ++ (fnL3)))
def keysB (K : PySem.W.Frag) (a : Addr) (ks : List Str) : Bool := match K.lookup a with
  | some o => match o.data with
    | .dict es _ => decide (es.toList.map (fun en => match en.key with
      | .str z _ => some z
      | _ => none) = ks.map some)
    | _ => false
  | none => false
def instB (K : PySem.W.Frag) (a : Addr) : Bool := He.eqO (PySem.W.findIn K (.ref a) "__class__") (some (some (.builtin "object.__class__"))) && (He.eqO (PySem.W.specialIn K (.builtin "object.__class__") "__get__") (some (some (.builtin "getset_descriptor.__get__"))) && (decide (PySem.W.takesIn K (.builtin "object.__class__") = some true) && decide (PySem.W.mroIn K a (.type "object") = some true)))
def exB (K : PySem.W.Frag) : Bool := He.tupB K "WORDS" [.str "key", .str "page", .str "slot", .str "stamp"] && (He.tupB K "WAYS" [.str "up", .str "down"] && (He.tupB K "TESTS" [.str "there", .str "same", .str "holds", .str "covers", .str "fits"] && (He.tupB K "DEEDS" [.str "slot", .str "key", .str "find"] && (He.tupB K "PARTS" [.str "low", .str "high"] && (He.tupB K "JOINS" [.str "left", .str "right", .str "none"] && (He.tupB K "BEGIN" [] && ((He.valsB K (He.ga K "SIDES") [("left", .int 0), ("in", .int 1), ("right", .int 2)] && (keysB K (He.ga K "SIDES") ["left", "in", "right"] && instB K (He.ga K "Row"))))))))))
def tsL : List He.Tab := [((fun K => He.ga K "SIDES"), ["left", "in", "right"])]
structure Top (w : World) (K : PySem.W.Frag) (mg : Str → Option Value) : Prop where
  c : He.SaysT faL fnL tsL w K
  ex : exB K = true
  h : ∃ h : Heap, K.In h ∧ h.Ns mainGlobals mg
section
variable {w : World} {K : PySem.W.Frag} {mg : Str → Option Value}
theorem Top.fa (T : Top w K mg) (i : Nat) {f : He.Fa} (e : faL[i]? = some f := by rfl) : f.ok K = true := T.c.d.fact i e
theorem Top.glo (T : Top w K mg) (i : Nat) {x : Str} (e : faL[i]? = some (.glo x) := by rfl) : mg x = some (.ref (He.ga K x)) := by
  obtain ⟨h, X, G⟩ := T.h
  exact He.glo_ok X G (T.fa i e)
theorem Top.free (T : Top w K mg) (i : Nat) {x : Str} (e : faL[i]? = some (.free x) := by rfl) : mg x = none := by
  obtain ⟨h, X, G⟩ := T.h
  exact He.free_ok X G (T.fa i e)
theorem Top.gint (T : Top w K mg) (i : Nat) {x : Str} {n : Int} (e : faL[i]? = some (.int x n) := by rfl) : ∃ t, mg x = some (.int n t) := by
  obtain ⟨h, X, G⟩ := T.h
  exact He.int_ok X G (T.fa i e)
theorem Top.gstr (T : Top w K mg) (i : Nat) {x z : Str} (e : faL[i]? = some (.str x z) := by rfl) : ∃ t, mg x = some (.str z t) := by
  obtain ⟨h, X, G⟩ := T.h
  exact He.str_ok X G (T.fa i e)
theorem Top.cls (T : Top w K mg) (i : Nat) {x : Str} (e : faL[i]? = some (.cls x) := by rfl) : Cls K (He.ga K x) := He.cls_ok (T.fa i e)
theorem Top.mkr (T : Top w K mg) (i : Nat) {x : Str} (e : faL[i]? = some (.mkr x) := by rfl) : Mk K (He.ga K x) (He.ma K (He.ga K x) "__init__") := He.mkr_ok (T.fa i e)
theorem Top.noat (T : Top w K mg) (i : Nat) {x f : Str} (e : faL[i]? = some (.noat x f) := by rfl) : NoAttr K (He.ga K x) f := He.noat_ok (T.fa i e)
theorem Top.fn (T : Top w K mg) (i : Nat) {d : He.DefD} (e : fnL[i]? = some d := by rfl) : ∃ fd, FunD K d.name d.qual d.params d.body d.scope (d.dvs K) (d.kws K) (He.fAd K d.at_) fd := T.c.d.def_ i e
theorem Top.keep (T : Top w K mg) (i : Nat) {d : He.DefD} (e : fnL[i]? = some d := by rfl) : PySem.W.keepIn K (.ref (He.fAd K d.at_)) = true := by
  obtain ⟨fd, F⟩ := T.fn i e
  exact F.kp
theorem Top.g_is_integer (T : Top w K mg) : mg "is_integer" = some (.ref (He.ga K "is_integer")) := T.glo 0
theorem Top.g_is_sequence (T : Top w K mg) : mg "is_sequence" = some (.ref (He.ga K "is_sequence")) := T.glo 1
theorem Top.g_is_word (T : Top w K mg) : mg "is_word" = some (.ref (He.ga K "is_word")) := T.glo 2
theorem Top.g_is_test (T : Top w K mg) : mg "is_test" = some (.ref (He.ga K "is_test")) := T.glo 3
theorem Top.g_need_words (T : Top w K mg) : mg "need_words" = some (.ref (He.ga K "need_words")) := T.glo 4
theorem Top.g_rows_of (T : Top w K mg) : mg "rows_of" = some (.ref (He.ga K "rows_of")) := T.glo 5
theorem Top.g_place_of (T : Top w K mg) : mg "place_of" = some (.ref (He.ga K "place_of")) := T.glo 6
theorem Top.g_holds (T : Top w K mg) : mg "holds" = some (.ref (He.ga K "holds")) := T.glo 7
theorem Top.g_next_slot (T : Top w K mg) : mg "next_slot" = some (.ref (He.ga K "next_slot")) := T.glo 8
theorem Top.g_is_possible (T : Top w K mg) : mg "is_possible" = some (.ref (He.ga K "is_possible")) := T.glo 9
theorem Top.g_row_led_to (T : Top w K mg) : mg "row_led_to" = some (.ref (He.ga K "row_led_to")) := T.glo 10
theorem Top.g_by_slot (T : Top w K mg) : mg "by_slot" = some (.ref (He.ga K "by_slot")) := T.glo 11
theorem Top.g_by_key (T : Top w K mg) : mg "by_key" = some (.ref (He.ga K "by_key")) := T.glo 12
theorem Top.g_led_to (T : Top w K mg) : mg "led_to" = some (.ref (He.ga K "led_to")) := T.glo 13
theorem Top.g_aim_at (T : Top w K mg) : mg "aim_at" = some (.ref (He.ga K "aim_at")) := T.glo 14
theorem Top.g_changes_behind (T : Top w K mg) : mg "changes_behind" = some (.ref (He.ga K "changes_behind")) := T.glo 15
theorem Top.g_any_changes (T : Top w K mg) : mg "any_changes" = some (.ref (He.ga K "any_changes")) := T.glo 16
theorem Top.g_many_behind (T : Top w K mg) : mg "many_behind" = some (.ref (He.ga K "many_behind")) := T.glo 17
theorem Top.g_dotted (T : Top w K mg) : mg "dotted" = some (.ref (He.ga K "dotted")) := T.glo 18
theorem Top.g_is_watch_higher (T : Top w K mg) : mg "is_watch_higher" = some (.ref (He.ga K "is_watch_higher")) := T.glo 19
theorem Top.g_are_in_order (T : Top w K mg) : mg "are_in_order" = some (.ref (He.ga K "are_in_order")) := T.glo 20
theorem Top.g_letters_for (T : Top w K mg) : mg "letters_for" = some (.ref (He.ga K "letters_for")) := T.glo 21
theorem Top.g_pages_that_fit (T : Top w K mg) : mg "pages_that_fit" = some (.ref (He.ga K "pages_that_fit")) := T.glo 22
theorem Top.g_come_events (T : Top w K mg) : mg "come_events" = some (.ref (He.ga K "come_events")) := T.glo 23
theorem Top.g_split_events (T : Top w K mg) : mg "split_events" = some (.ref (He.ga K "split_events")) := T.glo 24
theorem Top.g_join_events (T : Top w K mg) : mg "join_events" = some (.ref (He.ga K "join_events")) := T.glo 25
theorem Top.g_others (T : Top w K mg) : mg "others" = some (.ref (He.ga K "others")) := T.glo 26
theorem Top.g_behind_told (T : Top w K mg) : mg "behind_told" = some (.ref (He.ga K "behind_told")) := T.glo 27
theorem Top.g_order_behind (T : Top w K mg) : mg "order_behind" = some (.ref (He.ga K "order_behind")) := T.glo 28
theorem Top.g_step_within (T : Top w K mg) : mg "step_within" = some (.ref (He.ga K "step_within")) := T.glo 29
theorem Top.g_steps_out (T : Top w K mg) : mg "steps_out" = some (.ref (He.ga K "steps_out")) := T.glo 30
theorem Top.g_step_over (T : Top w K mg) : mg "step_over" = some (.ref (He.ga K "step_over")) := T.glo 31
theorem Top.g_steps_ahead (T : Top w K mg) : mg "steps_ahead" = some (.ref (He.ga K "steps_ahead")) := T.glo 32
theorem Top.g_steps_beyond (T : Top w K mg) : mg "steps_beyond" = some (.ref (He.ga K "steps_beyond")) := T.glo 33
theorem Top.g_steps (T : Top w K mg) : mg "steps" = some (.ref (He.ga K "steps")) := T.glo 34
theorem Top.g_triples (T : Top w K mg) : mg "triples" = some (.ref (He.ga K "triples")) := T.glo 35
theorem Top.g_nexts (T : Top w K mg) : mg "nexts" = some (.ref (He.ga K "nexts")) := T.glo 36
theorem Top.g_is_between (T : Top w K mg) : mg "is_between" = some (.ref (He.ga K "is_between")) := T.glo 37
theorem Top.g_fault_of (T : Top w K mg) : mg "fault_of" = some (.ref (He.ga K "fault_of")) := T.glo 38
theorem Top.g_text_of (T : Top w K mg) : mg "text_of" = some (.ref (He.ga K "text_of")) := T.glo 39
theorem Top.g_reader_text (T : Top w K mg) : mg "reader_text" = some (.ref (He.ga K "reader_text")) := T.glo 40
theorem Top.g__law_box (T : Top w K mg) : mg "_law_box" = some (.ref (He.ga K "_law_box")) := T.glo 41
theorem Top.g__law_take (T : Top w K mg) : mg "_law_take" = some (.ref (He.ga K "_law_take")) := T.glo 42
theorem Top.g__law_pick (T : Top w K mg) : mg "_law_pick" = some (.ref (He.ga K "_law_pick")) := T.glo 43
theorem Top.g__law_house (T : Top w K mg) : mg "_law_house" = some (.ref (He.ga K "_law_house")) := T.glo 44
theorem Top.g__law_home (T : Top w K mg) : mg "_law_home" = some (.ref (He.ga K "_law_home")) := T.glo 45
theorem Top.g__law_lines (T : Top w K mg) : mg "_law_lines" = some (.ref (He.ga K "_law_lines")) := T.glo 46
theorem Top.g__law_reader (T : Top w K mg) : mg "_law_reader" = some (.ref (He.ga K "_law_reader")) := T.glo 47
theorem Top.g__law_rows_in (T : Top w K mg) : mg "_law_rows_in" = some (.ref (He.ga K "_law_rows_in")) := T.glo 48
theorem Top.g__law_spot (T : Top w K mg) : mg "_law_spot" = some (.ref (He.ga K "_law_spot")) := T.glo 49
theorem Top.g__law_is_so (T : Top w K mg) : mg "_law_is_so" = some (.ref (He.ga K "_law_is_so")) := T.glo 50
theorem Top.g__law_greater (T : Top w K mg) : mg "_law_greater" = some (.ref (He.ga K "_law_greater")) := T.glo 51
theorem Top.g__law_aim (T : Top w K mg) : mg "_law_aim" = some (.ref (He.ga K "_law_aim")) := T.glo 52
theorem Top.g__law_all_words (T : Top w K mg) : mg "_law_all_words" = some (.ref (He.ga K "_law_all_words")) := T.glo 53
theorem Top.g__law_fits (T : Top w K mg) : mg "_law_fits" = some (.ref (He.ga K "_law_fits")) := T.glo 54
theorem Top.g__law_pages (T : Top w K mg) : mg "_law_pages" = some (.ref (He.ga K "_law_pages")) := T.glo 55
theorem Top.g__law_later (T : Top w K mg) : mg "_law_later" = some (.ref (He.ga K "_law_later")) := T.glo 56
theorem Top.g__law_turned (T : Top w K mg) : mg "_law_turned" = some (.ref (He.ga K "_law_turned")) := T.glo 57
theorem Top.g__law_others (T : Top w K mg) : mg "_law_others" = some (.ref (He.ga K "_law_others")) := T.glo 58
theorem Top.g__law_met (T : Top w K mg) : mg "_law_met" = some (.ref (He.ga K "_law_met")) := T.glo 59
theorem Top.g__law_far (T : Top w K mg) : mg "_law_far" = some (.ref (He.ga K "_law_far")) := T.glo 60
theorem Top.g__law_near (T : Top w K mg) : mg "_law_near" = some (.ref (He.ga K "_law_near")) := T.glo 61
theorem Top.g__law_steps (T : Top w K mg) : mg "_law_steps" = some (.ref (He.ga K "_law_steps")) := T.glo 62
theorem Top.g__law_nexts (T : Top w K mg) : mg "_law_nexts" = some (.ref (He.ga K "_law_nexts")) := T.glo 63
theorem Top.g__law_walk (T : Top w K mg) : mg "_law_walk" = some (.ref (He.ga K "_law_walk")) := T.glo 64
theorem Top.g__law_scene (T : Top w K mg) : mg "_law_scene" = some (.ref (He.ga K "_law_scene")) := T.glo 65
theorem Top.g__law_behind (T : Top w K mg) : mg "_law_behind" = some (.ref (He.ga K "_law_behind")) := T.glo 66
theorem Top.g__law_returns (T : Top w K mg) : mg "_law_returns" = some (.ref (He.ga K "_law_returns")) := T.glo 67
theorem Top.g_law (T : Top w K mg) : mg "law" = some (.ref (He.ga K "law")) := T.glo 68
theorem Top.g_House (T : Top w K mg) : mg "House" = some (.ref (He.ga K "House")) := T.glo 69
theorem Top.g_Row (T : Top w K mg) : mg "Row" = some (.ref (He.ga K "Row")) := T.glo 70
theorem Top.g_Reader (T : Top w K mg) : mg "Reader" = some (.ref (He.ga K "Reader")) := T.glo 71
theorem Top.g_WORDS (T : Top w K mg) : mg "WORDS" = some (.ref (He.ga K "WORDS")) := T.glo 72
theorem Top.g_WAYS (T : Top w K mg) : mg "WAYS" = some (.ref (He.ga K "WAYS")) := T.glo 73
theorem Top.g_TESTS (T : Top w K mg) : mg "TESTS" = some (.ref (He.ga K "TESTS")) := T.glo 74
theorem Top.g_DEEDS (T : Top w K mg) : mg "DEEDS" = some (.ref (He.ga K "DEEDS")) := T.glo 75
theorem Top.g_PARTS (T : Top w K mg) : mg "PARTS" = some (.ref (He.ga K "PARTS")) := T.glo 76
theorem Top.g_JOINS (T : Top w K mg) : mg "JOINS" = some (.ref (He.ga K "JOINS")) := T.glo 77
theorem Top.g_BEGIN (T : Top w K mg) : mg "BEGIN" = some (.ref (He.ga K "BEGIN")) := T.glo 78
theorem Top.g_SIDES (T : Top w K mg) : mg "SIDES" = some (.ref (He.ga K "SIDES")) := T.glo 79
theorem Top.f_isinstance (T : Top w K mg) : mg "isinstance" = none := T.free 80
theorem Top.f_int (T : Top w K mg) : mg "int" = none := T.free 81
theorem Top.f_bool (T : Top w K mg) : mg "bool" = none := T.free 82
theorem Top.f_list (T : Top w K mg) : mg "list" = none := T.free 83
theorem Top.f_tuple (T : Top w K mg) : mg "tuple" = none := T.free 84
theorem Top.f_str (T : Top w K mg) : mg "str" = none := T.free 85
theorem Top.f_len (T : Top w K mg) : mg "len" = none := T.free 86
theorem Top.f_all (T : Top w K mg) : mg "all" = none := T.free 87
theorem Top.f_enumerate (T : Top w K mg) : mg "enumerate" = none := T.free 88
theorem Top.f_range (T : Top w K mg) : mg "range" = none := T.free 89
theorem Top.f_abs (T : Top w K mg) : mg "abs" = none := T.free 90
theorem Top.f_max (T : Top w K mg) : mg "max" = none := T.free 91
theorem Top.f_min (T : Top w K mg) : mg "min" = none := T.free 92
theorem Top.i_MOST_ROWS (T : Top w K mg) : ∃ t, mg "MOST_ROWS" = some (.int 4 t) := T.gint 93
theorem Top.i_MOST_MODULUS (T : Top w K mg) : ∃ t, mg "MOST_MODULUS" = some (.int 6 t) := T.gint 94
theorem Top.i_MOST_CHANGES (T : Top w K mg) : ∃ t, mg "MOST_CHANGES" = some (.int 3 t) := T.gint 95
theorem Top.z_NOT (T : Top w K mg) : ∃ t, mg "NOT" = some (.str "not " t) := T.gstr 96
theorem Top.c_House (T : Top w K mg) : Cls K (He.ga K "House") := T.cls 97
theorem Top.m_House (T : Top w K mg) : Mk K (He.ga K "House") (He.ma K (He.ga K "House") "__init__") := T.mkr 98
theorem Top.n_House_rows (T : Top w K mg) : NoAttr K (He.ga K "House") "rows" := T.noat 99
theorem Top.n_House_keeps (T : Top w K mg) : NoAttr K (He.ga K "House") "keeps" := T.noat 100
theorem Top.n_House_joins (T : Top w K mg) : NoAttr K (He.ga K "House") "joins" := T.noat 101
theorem Top.n_House_again (T : Top w K mg) : NoAttr K (He.ga K "House") "again" := T.noat 102
theorem Top.n_House_stamps (T : Top w K mg) : NoAttr K (He.ga K "House") "stamps" := T.noat 103
theorem Top.n_House_on (T : Top w K mg) : NoAttr K (He.ga K "House") "on" := T.noat 104
theorem Top.n_House_changes (T : Top w K mg) : NoAttr K (He.ga K "House") "changes" := T.noat 105
theorem Top.c_Row (T : Top w K mg) : Cls K (He.ga K "Row") := T.cls 106
theorem Top.m_Row (T : Top w K mg) : Mk K (He.ga K "Row") (He.ma K (He.ga K "Row") "__init__") := T.mkr 107
theorem Top.n_Row_tests (T : Top w K mg) : NoAttr K (He.ga K "Row") "tests" := T.noat 108
theorem Top.n_Row_deed (T : Top w K mg) : NoAttr K (He.ga K "Row") "deed" := T.noat 109
theorem Top.n_Row_text (T : Top w K mg) : NoAttr K (He.ga K "Row") "text" := T.noat 110
theorem Top.c_Reader (T : Top w K mg) : Cls K (He.ga K "Reader") := T.cls 111
theorem Top.m_Reader (T : Top w K mg) : Mk K (He.ga K "Reader") (He.ma K (He.ga K "Reader") "__init__") := T.mkr 112
theorem Top.n_Reader_way (T : Top w K mg) : NoAttr K (He.ga K "Reader") "way" := T.noat 113
theorem Top.n_Reader_rows (T : Top w K mg) : NoAttr K (He.ga K "Reader") "rows" := T.noat 114
theorem Top.n_Reader_text (T : Top w K mg) : NoAttr K (He.ga K "Reader") "text" := T.noat 115
theorem Top.exs (T : Top w K mg) : He.tupB K "WORDS" [.str "key", .str "page", .str "slot", .str "stamp"] = true ∧ He.tupB K "WAYS" [.str "up", .str "down"] = true ∧ He.tupB K "TESTS" [.str "there", .str "same", .str "holds", .str "covers", .str "fits"] = true ∧ He.tupB K "DEEDS" [.str "slot", .str "key", .str "find"] = true ∧ He.tupB K "PARTS" [.str "low", .str "high"] = true ∧ He.tupB K "JOINS" [.str "left", .str "right", .str "none"] = true ∧ He.tupB K "BEGIN" [] = true ∧ (He.valsB K (He.ga K "SIDES") [("left", .int 0), ("in", .int 1), ("right", .int 2)] = true ∧ (keysB K (He.ga K "SIDES") ["left", "in", "right"] = true ∧ instB K (He.ga K "Row") = true)) := by
  have e := T.ex
  unfold exB at e
  obtain ⟨h0, e⟩ := He.ba e
  obtain ⟨h1, e⟩ := He.ba e
  obtain ⟨h2, e⟩ := He.ba e
  obtain ⟨h3, e⟩ := He.ba e
  obtain ⟨h4, e⟩ := He.ba e
  obtain ⟨h5, e⟩ := He.ba e
  obtain ⟨h6, e⟩ := He.ba e
  exact ⟨h0, h1, h2, h3, h4, h5, h6, (He.ba e).1, He.ba (He.ba e).2⟩
theorem Top.t_WORDS (T : Top w K mg) (H : Hp) : SqT K H (He.ga K "WORDS") ((["key", "page", "slot", "stamp"] : List Str).map V.str) := He.tupB_ok (T.exs.1) H
theorem Top.t_WAYS (T : Top w K mg) (H : Hp) : SqT K H (He.ga K "WAYS") ((["up", "down"] : List Str).map V.str) := He.tupB_ok (T.exs.2.1) H
theorem Top.t_TESTS (T : Top w K mg) (H : Hp) : SqT K H (He.ga K "TESTS") ((["there", "same", "holds", "covers", "fits"] : List Str).map V.str) := He.tupB_ok (T.exs.2.2.1) H
theorem Top.t_DEEDS (T : Top w K mg) (H : Hp) : SqT K H (He.ga K "DEEDS") ((["slot", "key", "find"] : List Str).map V.str) := He.tupB_ok (T.exs.2.2.2.1) H
theorem Top.t_PARTS (T : Top w K mg) (H : Hp) : SqT K H (He.ga K "PARTS") ((["low", "high"] : List Str).map V.str) := He.tupB_ok (T.exs.2.2.2.2.1) H
theorem Top.t_JOINS (T : Top w K mg) (H : Hp) : SqT K H (He.ga K "JOINS") ((["left", "right", "none"] : List Str).map V.str) := He.tupB_ok (T.exs.2.2.2.2.2.1) H
theorem Top.t_BEGIN (T : Top w K mg) (H : Hp) : SqT K H (He.ga K "BEGIN") (([] : List Str).map V.str) := He.tupB_ok (T.exs.2.2.2.2.2.2.1) H
theorem Top.sides (T : Top w K mg) : ∃ es n, KDict K w (He.ga K "SIDES") es n := T.c.tab 0
theorem Top.s_left (T : Top w K mg) : ∃ u, PySem.W.nsIn K (He.ga K "SIDES") "left" = some (some u) ∧ RelV (.int 0) u := He.valsB_ok (T.exs.2.2.2.2.2.2.2.1) (q := ("left", .int 0)) (by simp)
theorem Top.s_inn (T : Top w K mg) : ∃ u, PySem.W.nsIn K (He.ga K "SIDES") "in" = some (some u) ∧ RelV (.int 1) u := He.valsB_ok (T.exs.2.2.2.2.2.2.2.1) (q := ("in", .int 1)) (by simp)
theorem Top.s_right (T : Top w K mg) : ∃ u, PySem.W.nsIn K (He.ga K "SIDES") "right" = some (some u) ∧ RelV (.int 2) u := He.valsB_ok (T.exs.2.2.2.2.2.2.2.1) (q := ("right", .int 2)) (by simp)
theorem Top.s_keys (T : Top w K mg) : keysB K (He.ga K "SIDES") ["left", "in", "right"] = true := T.exs.2.2.2.2.2.2.2.2.1
theorem Top.s_inst (T : Top w K mg) : instB K (He.ga K "Row") = true := T.exs.2.2.2.2.2.2.2.2.2
end
end DL
/-! Hook -/
set_option Elab.async false
set_option linter.all false
set_option maxRecDepth 100000
set_option maxHeartbeats 4000000
namespace DL
open PySem PySem.Spec PyProof.Rows L2
def frLN {β : Type} : List Nat → (List Nat → β) → β
  | [], k => k []
  | a :: r, k => HandSHeadRun.frNat a fun a' => frLN r fun r' => k (a' :: r')
theorem frLN_eq {β : Type} : ∀ (l : List Nat) (k : List Nat → β), frLN l k = k l
  | [], _ => rfl
  | a :: r, k => by
    unfold frLN
    rw [HandSHeadRun.frNat_eq, frLN_eq r]
def frLK {β : Type} (g : Addr → Option Obj) : List Nat → (PySem.W.Frag → β) → β
  | [], k => k []
  | a :: r, k => match g a with
    | some o => frLK g r fun K => k ((a, o) :: K)
    | none => frLK g r k
theorem frLK_eq {β : Type} (g : Addr → Option Obj) : ∀ (l : List Nat) (k : PySem.W.Frag → β), frLK g l k = k (He.frG g l)
  | [], _ => rfl
  | a :: r, k => by
    unfold frLK
    cases h : g a with
    | none =>
      show frLK g r k = _
      rw [frLK_eq g r]
      unfold He.frG
      rw [List.filterMap_cons, h] <;> rfl
    | some o =>
      show frLK g r (fun K => k ((a, o) :: K)) = _
      rw [frLK_eq g r]
      unfold He.frG
      rw [List.filterMap_cons, h] <;> rfl
def nsA (g : Addr → Option Obj) (x : Str) : Addr := match PySem.W.nsIn (He.frG g [mainGlobals]) mainGlobals x with
  | some (some (.ref a)) => a
  | _ => 0
def grow (g : Addr → Option Obj) (as : List Addr) : List Addr := as.flatMap fun a => match g a with
  | some o => He.refsD o
  | none => []
/-- what these names stand for, and what is reached from them -/
def addrs {β : Type} (g : Addr → Option Obj) (names : List Str) (k : List Addr → β) : β :=
  frLN (names.map (nsA g)) fun l1 => frLN (grow g l1) fun l2 => frLN (grow g l2) fun l3 => frLN (grow g l3) fun l4 => k (mainGlobals :: (l1 ++ (l2 ++ (l3 ++ l4))))
theorem addrs_eq {β : Type} (g : Addr → Option Obj) (names : List Str) (k : List Addr → β) : addrs g names k = k (addrs g names id) := by
  unfold addrs
  simp only [frLN_eq, id]
abbrev AlO : Type := He.AlT × Bool
def obsO (fa : List He.Fa) (fn : List He.DefD) (ts : List He.Tab) (ex : PySem.W.Frag → Bool) (names : List Str) (g : Addr → Option Obj) : AlO := addrs g names fun as => frLK g as fun K => (He.obsT fa fn ts K, ex K)
theorem obsO_eq' (fa : List He.Fa) (fn : List He.DefD) (ts : List He.Tab) (ex : PySem.W.Frag → Bool) (names : List Str) (g : Addr → Option Obj) : obsO fa fn ts ex names g = (He.obsT fa fn ts (He.frG g (addrs g names id)), ex (He.frG g (addrs g names id))) := by
  unfold obsO
  rw [addrs_eq, frLK_eq]
def hookO (fa : List He.Fa) (fn : List He.DefD) (ts : List He.Tab) (ex : PySem.W.Frag → Bool) (names : List Str) : PySem.W.Hook where
  α := AlO
  obs := fun s => obsO fa fn ts ex names s.heap.get?
  val := fun w => (He.valT fn ts w, true)
  says := fun w h => ∃ K : PySem.W.Frag, K.In h ∧ He.SaysT fa fn ts w K ∧ ex K = true
  of := fun w s e => ⟨He.frG s.heap.get? (addrs s.heap.get? names id), He.frG_in, by
    rw [obsO_eq'] at e
    exact ⟨congrArg (fun z : AlO => z.1) e, congrArg (fun z : AlO => z.2) e⟩⟩
  keeps := fun _ _ _ ⟨K, hK, c⟩ k => ⟨K, PySem.W.Frag.In.keeps hK k, c⟩
theorem obsO_eq {fa : List He.Fa} {fn : List He.DefD} {ts : List He.Tab} {ex : PySem.W.Frag → Bool} {names : List Str} {g : Addr → Option Obj} {s : Shared} (h : ∀ a, g a = s.heap.get? a) : obsO fa fn ts ex names g = (hookO fa fn ts ex names).obs s := by
  have e : g = s.heap.get? := funext h
  rw [e] <;> rfl
end DL
/-! Head -/
set_option Elab.async false
set_option linter.all false
set_option maxRecDepth 100000
set_option maxHeartbeats 0
namespace DL
open PySem PySem.Spec PyProof.Rows L2
def namesL0 : List PySem.Str := ["_wall", "SlotError", "InvalidRow", "InvalidReader", "InvalidHouse", "InvalidWords", "NoRow", "WORDS", "WAYS", "TESTS", "DEEDS", "NOT", "is_integer", "is_sequence", "is_word", "is_test", "need_words", "BEGIN", "SIDES", "rows_of"]
def namesL1 : List PySem.Str := ["place_of", "holds", "next_slot", "is_possible", "row_led_to", "by_slot", "by_key", "led_to", "aim_at", "changes_behind", "any_changes", "many_behind", "dotted", "is_watch_higher", "are_in_order", "letters_for", "pages_that_fit", "come_events", "split_events", "join_events"]
def namesL2 : List PySem.Str := ["others", "behind_told", "order_behind", "step_within", "steps_out", "step_over", "steps_ahead", "steps_beyond", "steps", "triples", "nexts", "PARTS", "JOINS", "MOST_ROWS", "MOST_MODULUS", "MOST_CHANGES", "is_between", "fault_of", "House", "Row"]
def namesL3 : List PySem.Str := ["text_of", "row_in", "Reader", "reader_text", "_law_box", "_law_take", "_law_pick", "_law_house", "_law_home", "_law_lines", "_law_reader", "_law_rows_in", "_law_spot", "_law_is_so", "_law_greater", "_law_aim", "_law_all_words", "_law_fits", "_law_pages", "_law_later"]
def namesL4 : List PySem.Str := ["_law_turned", "_law_others", "_law_met", "_law_far", "_law_near", "_law_steps", "_law_nexts", "_law_walk", "_law_scene", "_law_behind", "_law_returns"]
def namesL : List PySem.Str := namesL0 ++ (namesL1 ++ (namesL2 ++ (namesL3 ++ (namesL4))))
def glP0 : List Str := ["is_integer", "is_sequence", "is_word", "is_test", "need_words", "rows_of", "place_of", "holds", "next_slot", "is_possible", "row_led_to", "by_slot", "by_key", "led_to", "aim_at", "changes_behind", "any_changes", "many_behind", "dotted", "is_watch_higher"]
def glP1 : List Str := ["are_in_order", "letters_for", "pages_that_fit", "come_events", "split_events", "join_events", "others", "behind_told", "order_behind", "step_within", "steps_out", "step_over", "steps_ahead", "steps_beyond", "steps", "triples", "nexts", "is_between", "fault_of", "text_of"]
def glP2 : List Str := ["reader_text", "_law_box", "_law_take", "_law_pick", "_law_house", "_law_home", "_law_lines", "_law_reader", "_law_rows_in", "_law_spot", "_law_is_so", "_law_greater", "_law_aim", "_law_all_words", "_law_fits", "_law_pages", "_law_later", "_law_turned", "_law_others", "_law_met"]
def glP3 : List Str := ["_law_far", "_law_near", "_law_steps", "_law_nexts", "_law_walk", "_law_scene", "_law_behind", "_law_returns", "law", "House", "Row", "Reader", "WORDS", "WAYS", "TESTS", "DEEDS", "PARTS", "JOINS", "BEGIN", "SIDES"]
def glP : List Str := glP0 ++ (glP1 ++ (glP2 ++ (glP3)))
abbrev RR : PySem.W.OpenRow := PySem.W.OpenLaw.row PySem.Challenge.rw_keptslot_k20_whole_deeds_there_and_back
def glN : List Str := glP
abbrev hk : PySem.W.Hook := hookO faL fnL tsL exB glN
def ob (s : PySem.W.SharedT) : AlO := obsO faL fnL tsL exB glN (HandSHeadRun.getT s)
theorem ob_eq (s : PySem.W.SharedT) : ob s = hk.obs s.abs := obsO_eq (HandSHeadRun.getT_eq s)
theorem run_f (w : World) : HandSHeadRun.RunEq RR (PySem.W.view RR.prog [98]) hk ob 6000 namesL (w.withFollow "special-get-raises" false) := by
  intro os
  kernel_rfl
theorem run_t (w : World) : HandSHeadRun.RunEq RR (PySem.W.view RR.prog [98]) hk ob 6000 namesL (w.withFollow "special-get-raises" true) := by
  intro os
  kernel_rfl
theorem run (w : World) : HandSHeadRun.RunEq RR (PySem.W.view RR.prog [98]) hk ob 6000 namesL w := PySem.W.byRow2 "special-get-raises" (P := fun w => HandSHeadRun.RunEq RR (PySem.W.view RR.prog [98]) hk ob 6000 namesL w) run_f run_t w
end DL
/-! DLf -/
set_option Elab.async false
set_option linter.all false
set_option maxRecDepth 100000
set_option maxHeartbeats 4000000
namespace DL
open PySem PySem.Spec PyProof.Rows L2
/-- the letters of a page: k, b, x, a stranger, the bar -/
inductive Lt where
  | k | b | x | d | r
  deriving DecidableEq
def cd : Lt → Nat
  | .k => 107
  | .b => 98
  | .x => 120
  | .d => 46
  | .r => 124
theorem cd_inj {a b : Lt} (h : cd a = cd b) : a = b := by
  cases a <;> cases b <;> first
    | rfl
    | exact absurd h (by decide)
def enc (w : List Lt) : Str := ⟨(w.map cd).toArray⟩
theorem enc_list (w : List Lt) : (enc w).cps.toList = w.map cd := by unfold enc; simp
theorem map_cd_inj : ∀ {u v : List Lt}, u.map cd = v.map cd → u = v
  | [], [], _ => rfl
  | [], _ :: _, h => by cases h
  | _ :: _, [], h => by cases h
  | a :: u, b :: v, h => by
    rw [List.map_cons, List.map_cons] at h
    injection h with h1 h2
    rw [cd_inj h1, map_cd_inj h2]
theorem enc_inj {u v : List Lt} (h : enc u = enc v) : u = v := by
  apply map_cd_inj
  rw [← enc_list, ← enc_list, h]
theorem enc_eq (u v : List Lt) : decide (enc u = enc v) = decide (u = v) := by
  rw [Bool.eq_iff_iff]
  simp only [decide_eq_true_eq]
  exact ⟨enc_inj, fun h => by rw [h]⟩
theorem enc_len (w : List Lt) : (enc w).length = w.length := by
  show (w.map cd).toArray.size = w.length
  rw [List.size_toArray, List.length_map]
theorem str_ext {a b : Str} (h : a.cps.toList = b.cps.toList) : a = b := by
  cases a
  cases b
  congr 1
  exact Array.ext' h
theorem enc_app (u v : List Lt) : enc u ++ enc v = enc (u ++ v) := by
  apply str_ext
  rw [Str.cps_append, Array.toList_append, enc_list, enc_list, enc_list, List.map_append]
theorem signs_enc (w : List Lt) : signs (enc w) = w.map fun c => Dt.str (enc [c]) := by
  unfold signs
  rw [enc_list, List.map_map]
  rfl
theorem cutS_hi (w : List Lt) (n : Nat) : cutS (enc w) none (some (n : Int)) = enc (w.take n) := by
  apply str_ext
  unfold cutS
  rw [HT.sIx_nat, HT.sIx_none, enc_list, enc_list, enc_len, List.drop_zero, Nat.sub_zero, List.map_take]
  show (List.take (min n w.length) (w.map cd)).toArray.toList = _
  by_cases h : n ≤ w.length
  · rw [Nat.min_eq_left h]
  · rw [Nat.min_eq_right (by omega), List.take_of_length_le (by rw [List.length_map]; omega), List.take_of_length_le (by rw [List.length_map]; omega)]
theorem cutS_lo (w : List Lt) (n : Nat) : cutS (enc w) (some (n : Int)) none = enc (w.drop n) := by
  apply str_ext
  unfold cutS
  rw [HT.sIx_nat, HT.sIx_none, enc_list, enc_list, enc_len, List.map_drop]
  show (List.take (w.length - min n w.length) (List.drop (min n w.length) (w.map cd))).toArray.toList = _
  rw [List.take_of_length_le (by rw [List.length_drop, List.length_map]; omega)]
  by_cases h : n ≤ w.length
  · rw [Nat.min_eq_left h]
  · rw [Nat.min_eq_right (by omega), List.drop_of_length_le (by rw [List.length_map]; omega), List.drop_of_length_le (by rw [List.length_map]; omega)]
inductive Sd where
  | left | inn | right | no
  deriving DecidableEq
def sdS : Sd → Str
  | .left => "left"
  | .inn => "in"
  | .right => "right"
  | .no => ""
theorem sdS_inj {a b : Sd} (h : sdS a = sdS b) : a = b := by
  cases a <;> cases b <;> first
    | rfl
    | exact absurd h (by decide +kernel)
theorem sdS_eq (a b : Sd) : decide (sdS a = sdS b) = decide (a = b) := by
  rw [Bool.eq_iff_iff]
  simp only [decide_eq_true_eq]
  exact ⟨sdS_inj, fun h => by rw [h]⟩
def wayS (up : Bool) : Str := if up then "up" else "down"
theorem wayS_eq (u : Bool) : decide (wayS u = "up") = u := by cases u <;> decide +kernel
def kpS (low : Bool) : Str := if low then "low" else "high"
theorem kpS_eq (u : Bool) : decide (kpS u = "low") = u := by cases u <;> decide +kernel
inductive Jn where
  | left | right | none
  deriving DecidableEq
def jnS : Jn → Str
  | .left => "left"
  | .right => "right"
  | .none => "none"
theorem jnS_inj {a b : Jn} (h : jnS a = jnS b) : a = b := by
  cases a <;> cases b <;> first
    | rfl
    | exact absurd h (by decide +kernel)
theorem jnS_eq (a b : Jn) : decide (jnS a = jnS b) = decide (a = b) := by
  rw [Bool.eq_iff_iff]
  simp only [decide_eq_true_eq]
  exact ⟨jnS_inj, fun h => by rw [h]⟩
section
variable {X : Cx} {e a b c : Expr} {es : List Expr} {ρ : List Sl} {R : Dt → Prop} {pos : Pos}
theorem de_strW {s : Str} {j : Nat} (w : List Lt) (h : s = enc w := by decide +kernel) : DE X (.Constant (.str s) j pos) ρ (.str (enc w)) := DE.eq de_str (by rw [h])
theorem de_strSd {s : Str} {j : Nat} (w : Sd) (h : s = sdS w := by decide +kernel) : DE X (.Constant (.str s) j pos) ρ (.str (sdS w)) := DE.eq de_str (by rw [h])
theorem od_addW {u v : List Lt} (h : u.length + v.length ≤ 100000) : OD X (binaryOp .Add) (.str (enc u)) (.str (enc v)) (fun z => z = .str (enc (u ++ v))) := by
  rw [← enc_app]
  exact od_addS (by rw [enc_len, enc_len]; exact Nat.le_trans h (by decide))
theorem mem_enc (x : Lt) (w : List Lt) : decide (cd x ∈ (enc w).cps.toList) = decide (x ∈ w) := by
  rw [enc_list, Bool.eq_iff_iff]
  simp only [decide_eq_true_eq, List.mem_map]
  constructor
  · rintro ⟨y, hy, he⟩
    rw [← cd_inj he]; exact hy
  · intro h
    exact ⟨x, h, rfl⟩
theorem od_inW {x : Lt} {w : List Lt} : OD X (compareOp .In) (.str (enc [x])) (.str (enc w)) (fun z => z = .bl (decide (x ∈ w))) := by
  have h : OD X (compareOp .In) (.str ⟨#[cd x]⟩) (.str (enc w)) (fun z => z = .bl (decide (cd x ∈ (enc w).cps.toList))) := od_inS
  rw [mem_enc] at h
  exact h
theorem od_notInW {x : Lt} {w : List Lt} : OD X (compareOp .NotIn) (.str (enc [x])) (.str (enc w)) (fun z => z = .bl (!decide (x ∈ w))) := by
  have h : OD X (compareOp .NotIn) (.str ⟨#[cd x]⟩) (.str (enc w)) (fun z => z = .bl (!decide (cd x ∈ (enc w).cps.toList))) := od_notInS
  rw [mem_enc] at h
  exact h
theorem od_eqW {u v : List Lt} : OD X (compareOp .Eq) (.str (enc u)) (.str (enc v)) (fun z => z = .bl (decide (u = v))) := by
  rw [← enc_eq]
  exact od_eqS
theorem od_neW {u v : List Lt} : OD X (compareOp .NotEq) (.str (enc u)) (.str (enc v)) (fun z => z = .bl (!decide (u = v))) := by
  rw [← enc_eq]
  exact od_neS
theorem od_eqSd {u v : Sd} : OD X (compareOp .Eq) (.str (sdS u)) (.str (sdS v)) (fun z => z = .bl (decide (u = v))) := by
  rw [← sdS_eq]
  exact od_eqS
theorem od_neSd {u v : Sd} : OD X (compareOp .NotEq) (.str (sdS u)) (.str (sdS v)) (fun z => z = .bl (!decide (u = v))) := by
  rw [← sdS_eq]
  exact od_neS
theorem od_eqSl {u : Sd} (v : Sd) {l : Str} (h : l = sdS v := by rfl) : OD X (compareOp .Eq) (.str (sdS u)) (.str l) (fun z => z = .bl (decide (u = v))) := by
  rw [h]; exact od_eqSd
theorem od_neSl {u : Sd} (v : Sd) {l : Str} (h : l = sdS v := by rfl) : OD X (compareOp .NotEq) (.str (sdS u)) (.str l) (fun z => z = .bl (!decide (u = v))) := by
  rw [h]; exact od_neSd
theorem od_way {u : Bool} : OD X (compareOp .Eq) (.str (wayS u)) (.str "up") (fun z => z = .bl u) := by
  have h : OD X (compareOp .Eq) (.str (wayS u)) (.str "up") (fun z => z = .bl (decide (wayS u = "up"))) := od_eqS
  rw [wayS_eq] at h
  exact h
theorem od_kp {u : Bool} : OD X (compareOp .Eq) (.str (kpS u)) (.str "low") (fun z => z = .bl u) := by
  have h : OD X (compareOp .Eq) (.str (kpS u)) (.str "low") (fun z => z = .bl (decide (kpS u = "low"))) := od_eqS
  rw [kpS_eq] at h
  exact h
theorem od_eqJl {u : Jn} (v : Jn) {l : Str} (h : l = jnS v := by rfl) : OD X (compareOp .Eq) (.str (jnS u)) (.str l) (fun z => z = .bl (decide (u = v))) := by
  rw [h, ← jnS_eq]; exact od_eqS
theorem od_neJl {u : Jn} (v : Jn) {l : Str} (h : l = jnS v := by rfl) : OD X (compareOp .NotEq) (.str (jnS u)) (.str l) (fun z => z = .bl (!decide (u = v))) := by
  rw [h, ← jnS_eq]; exact od_neS
theorem de_slWhi {w : List Lt} {n : Nat} {i : Int} {p2 : Pos} (he : DE X e ρ (.str (enc w))) (hi : DE X a ρ (.int i)) (hn : i = (n : Int)) (hw : w.length ≤ 100000) : DE X (.Subscript e (.Slice none (some a) none p2) pos) ρ (.str (enc (w.take n))) := by
  rw [← cutS_hi, ← hn]
  exact de_slS he dp_none (dp_some hi) (by rw [enc_len]; exact Nat.le_trans hw (by decide))
theorem de_slWlo {w : List Lt} {n : Nat} {i : Int} {p2 : Pos} (he : DE X e ρ (.str (enc w))) (hi : DE X a ρ (.int i)) (hn : i = (n : Int)) (hw : w.length ≤ 100000) : DE X (.Subscript e (.Slice (some a) none none p2) pos) ρ (.str (enc (w.drop n))) := by
  rw [← cutS_lo, ← hn]
  exact de_slS he (dp_some hi) dp_none (by rw [enc_len]; exact Nat.le_trans hw (by decide))
theorem cd_lenW {w : List Lt} (h : w.length ≤ 100000) : CD X (.builtin "len") [.dat (.str (enc w))] (PD X.K (fun g => g = .int (w.length : Int))) := by
  have q : CD X (.builtin "len") [.dat (.str (enc w))] (PD X.K (fun g => g = .int ((enc w).length : Int))) := cd_lenS (by rw [enc_len]; exact Nat.le_trans h (by decide))
  rw [enc_len] at q
  exact q
theorem di_word {w : List Lt} {tg : Expr} (h : DE X e ρ (.str (enc w))) : DI X tg e ρ (fun ds => ds = w.map fun c => Dt.str (enc [c])) := fun Hs H σ E Rk q =>
  di_str (S := fun z => z = enc w) (DR.mono h fun d r => ⟨_, r, rfl⟩) Hs H σ E Rk fun J Hs' H' ds t ⟨z, e1, e2⟩ wk => q J Hs' H' ds t (by rw [e2, e1, signs_enc]) wk
theorem foldl_app : ∀ (l : List (Array Nat)) (acc : Array Nat), (l.foldl (· ++ ·) acc).toList = acc.toList ++ (l.map Array.toList).flatten
  | [], acc => by simp
  | a :: l, acc => by
    rw [List.foldl_cons, foldl_app l]
    simp
theorem op_mulS : OpR X (binaryOp .Mult) (fun x y H Q => ∃ (z : Str) (n : Nat), x = .str z ∧ y = .int (n : Int) ∧ n ≤ 1000 ∧ z.length ≤ 1000 ∧ Q (.str ⟨((List.replicate n z.cps.toList).flatten).toArray⟩) H) := by
  intro pins s σ H x y v u Q I rx ry h
  obtain ⟨z, n, rfl, rfl, hn, hz, q⟩ := h
  obtain ⟨t, rfl⟩ := rx
  obtain ⟨t', rfl⟩ := ry
  have hzn : z.length * n ≤ 1000 * 1000 := Nat.mul_le_mul hz hn
  have hb63 : decide ((n : Int) < -(2 ^ 63 : Int)) = false ∧ decide ((n : Int) ≥ 2 ^ 63) = false := ⟨decide_eq_false (by omega), decide_eq_false (by omega)⟩
  refine PySem.P.mul_str (by rw [hb63.1, hb63.2] <;> rfl) (fun h1 _ => ?_) (fun h1 _ => ?_) ?_
  · intro hgt
    have h2 : (0 : Int) < (n : Int) := by omega
    have h3 : (z.length : Int) * (n : Int) ≤ 2 ^ 63 - 1 := by
      have : ((z.length * n : Nat) : Int) ≤ 1000 * 1000 := by exact_mod_cast hzn
      rw [Int.natCast_mul] at this
      omega
    have h4 : (z.length : Int) ≤ (2 ^ 63 - 1) / (n : Int) := (Int.le_ediv_iff_mul_le h2).mpr h3
    omega
  · unfold Builtin.Str.tooLong
    refine decide_eq_false ?_
    rw [show ((n : Int)).toNat = n by omega]
    have : (1000 * 1000 : Nat) ≤ sizeLine := by decide
    omega
  · by_cases h0 : (n : Int) < 1
    · have e0 : n = 0 := by omega
      subst e0
      rw [if_pos h0]
      exact ⟨by decide, .str _, H, I.tok _, ⟨_, rfl⟩, q⟩
    · rw [if_neg h0]
      by_cases h1 : ((n : Int) == 1 || z.length == 0) = true
      · rw [if_pos h1]
        have e : (⟨((List.replicate n z.cps.toList).flatten).toArray⟩ : Str) = z := by
          rcases Bool.or_eq_true_iff.mp h1 with h2 | h2
          · have e1 : n = 1 := by have := eq_of_beq h2; omega
            subst e1
            apply str_ext
            simp
          · have e1 : z.length = 0 := eq_of_beq h2
            have e2 : z.cps.toList = [] := by
              apply List.length_eq_zero_iff.mp
              rw [Array.length_toList]
              exact e1
            apply str_ext
            rw [e2]
            simp
        exact ⟨.str z, H, I, ⟨t, rfl⟩, by rw [← e]; exact q⟩
      · rw [if_neg h1]
        have e : (⟨((List.replicate n z.cps.toList).flatten).toArray⟩ : Str) = ⟨(List.replicate ((n : Int)).toNat z.cps).foldl (· ++ ·) #[]⟩ := by
          apply str_ext
          rw [foldl_app, show ((n : Int)).toNat = n by omega, List.map_replicate]
          simp
        refine ⟨?_, .str _, H, I.tok _, ⟨_, rfl⟩, by rw [← e]; exact q⟩
        rw [← e]
        show (((List.replicate n z.cps.toList).flatten).toArray).size ≤ sizeLine
        rw [List.size_toArray, List.length_flatten, List.map_replicate, List.sum_replicate_nat, Array.length_toList]
        have : (1000 * 1000 : Nat) ≤ sizeLine := by decide
        have h5 : n * z.cps.size = z.length * n := Nat.mul_comm _ _
        omega
theorem od_mulS {z : Str} {n : Nat} {i : Int} (hi : i = (n : Int)) (hn : n ≤ 1000) (hz : z.length ≤ 1000) : OD X (binaryOp .Mult) (.str z) (.int i) (fun g => g = .str ⟨((List.replicate n z.cps.toList).flatten).toArray⟩) :=
  od_of op_mulS fun Hs H v u s rv ru Q q => ⟨z, n, rv.str_inv, by rw [ru.int_inv, hi], hn, hz, q _ Hs H _ (Step.refl s) (.str _) rfl⟩
theorem od_mulW {w : List Lt} {n : Nat} {i : Int} (hi : i = (n : Int)) (hn : n ≤ 1000) (hw : w.length ≤ 1000) : OD X (binaryOp .Mult) (.str (enc w)) (.int i) (fun g => g = .str (enc (List.replicate n w).flatten)) := by
  have h : OD X (binaryOp .Mult) (.str (enc w)) (.int i) (fun g => g = .str ⟨((List.replicate n (enc w).cps.toList).flatten).toArray⟩) := od_mulS hi hn (by rw [enc_len]; exact hw)
  have e : (⟨((List.replicate n (enc w).cps.toList).flatten).toArray⟩ : Str) = enc (List.replicate n w).flatten := by
    apply str_ext
    rw [enc_list, enc_list, List.map_flatten, List.map_replicate]
  rw [e] at h
  exact h
def subst1 (y z : Lt) (w : List Lt) : List Lt := w.map fun c => if c = y then z else c
theorem repl_map (y z : Nat) : ∀ l : List Nat, StrLaws.replL [y] [z] l = l.map fun c => if c = y then z else c
  | [] => StrLaws.replL_nil
  | c :: l => by
    by_cases h : c = y
    · rw [StrLaws.replL_hit (by simp) (by rw [h]; rfl), List.map_cons, if_pos h]
      show [z] ++ StrLaws.replL [y] [z] l = _
      rw [repl_map y z l] <;> rfl
    · rw [StrLaws.replL_miss (by simpa using h), List.map_cons, if_neg h, repl_map y z l]
theorem replace_sub (y z : Lt) (w : List Lt) : Txt.replace (enc w) (enc [y]) (enc [z]) = enc (subst1 y z w) := by
  apply str_ext
  rw [StrLaws.replace_list (show 1 ≤ (enc [y]).length by rw [enc_len]; exact Nat.le_refl 1), enc_list, enc_list, enc_list, enc_list]
  show StrLaws.replL [cd y] [cd z] (w.map cd) = _
  rw [repl_map, List.map_map]
  unfold subst1
  rw [List.map_map]
  apply List.map_congr_left
  intro c _
  show (if cd c = cd y then cd z else cd c) = cd (if c = y then z else c)
  by_cases h : c = y
  · rw [if_pos h, if_pos (by rw [h])]
  · rw [if_neg h, if_neg (fun q => h (cd_inj q))]
theorem replace_del (y : Lt) (w : List Lt) : Txt.replace (enc w) (enc [y]) (enc []) = enc (w.filter fun c => decide (c ≠ y)) := by
  apply str_ext
  have h : (Txt.replace (enc w) ⟨#[cd y]⟩ ⟨#[]⟩).cps.toList = (enc w).cps.toList.filter (· != cd y) := replace_strikes (enc w) (cd y)
  rw [enc_list] at h
  refine Eq.trans h ?_
  rw [enc_list, List.filter_map]
  congr 1
  apply List.filter_congr
  intro c _
  show (cd c != cd y) = decide (c ≠ y)
  rw [Bool.eq_iff_iff]
  simp only [bne_iff_ne, ne_eq, decide_eq_true_eq]
  exact ⟨fun h q => h (by rw [q]), fun h q => h (cd_inj q)⟩
/-- the rows' letters -/
def rowsOf (w : List Lt) : List Lt := w.filter fun c => decide (c ≠ .r)
end
end DL
/-! DLg -/
set_option Elab.async false
set_option linter.all false
set_option maxRecDepth 100000
set_option maxHeartbeats 4000000
namespace DL
open PySem PySem.Spec PyProof.Rows L2
section
variable {P : Program} {w : World} {K : PySem.W.Frag} {mg : Str → Option Value} {base : Heap} {k : Nat} {ps : List Str} {S : List Sl → (Dt → Prop) → Prop} {SL : List Sl → (List Dt → Prop) → Prop}
abbrev FD (K : PySem.W.Frag) (x : Str) (st : Stmt) (fd : FuncData) : Prop := FunD K x x (defArgs st) (defBody st) (defScope st) [] [] (He.ga K x) fd
theorem Fn.mk1 {x : Str} {st : Stmt} (T : Top w K mg) (i : Nat) (e : fnL[i]? = some ⟨(x, none), x, x, defArgs st, defBody st, defScope st, [], []⟩) (hg : mg x = some (.ref (He.ga K x))) (ok : ∀ fd, FD K x st fd → FnOk P w K mg base CX0 k (He.ga K x) fd ps (spS K S))
    (hb : ∀ (kV doc pm : Value) (an : Option Addr) (cdv ct : Value) (us : List Value), us.length = ps.length → bindArgs (PySem.W.fnOf x x (defArgs st) (defBody st) (defScope st) .none kV doc pm an cdv ct) ⟨us, []⟩ = pure (ps.zip us)) : Fn P w K mg base x k ps S := by
  obtain ⟨fd, F⟩ := T.fn i e
  exact ⟨⟨fd, ok fd F, FunD.bindsN F hb⟩, F.kp, hg⟩
theorem FnL.mk1 {x : Str} {st : Stmt} (T : Top w K mg) (i : Nat) (e : fnL[i]? = some ⟨(x, none), x, x, defArgs st, defBody st, defScope st, [], []⟩) (hg : mg x = some (.ref (He.ga K x))) (ok : ∀ fd, FD K x st fd → FnOk P w K mg base CX0 k (He.ga K x) fd ps (spL K SL))
    (hb : ∀ (kV doc pm : Value) (an : Option Addr) (cdv ct : Value) (us : List Value), us.length = ps.length → bindArgs (PySem.W.fnOf x x (defArgs st) (defBody st) (defScope st) .none kV doc pm an cdv ct) ⟨us, []⟩ = pure (ps.zip us)) : FnL P w K mg base x k ps SL := by
  obtain ⟨fd, F⟩ := T.fn i e
  exact ⟨⟨fd, ok fd F, FunD.bindsN F hb⟩, F.kp, hg⟩
theorem Fn.mono {x : Str} {j : Nat} (F : Fn P w K mg base x k ps S) (h : k ≤ j) : Fn P w K mg base x j ps S := by
  obtain ⟨fd, F1, B1⟩ := F.ok
  exact ⟨⟨fd, F1.mono h, B1⟩, F.kp, F.gl⟩
def S_rows_of : List Sl → (Dt → Prop) → Prop := fun as R => ∃ u : List Lt, as = [.dat (.str (enc u))] ∧ u.length ≤ 10000 ∧ R = fun d => d = .str (enc (rowsOf u))
theorem ok_rows_of (T : Top w K mg) : Fn P w K mg base "rows_of" 1 P_rows_of S_rows_of := by
  refine Fn.mk1 (st := s_rows_of) T 5 rfl T.g_rows_of (fun fd F => ?_) (fun _ _ _ _ _ _ us hl => match us, hl with | [_], _ => rfl)
  obtain ⟨oc, od, dV, kV, doc, pm, an, cdv, ct, osl, rfl, lk, hcd, _, _⟩ := F.ex
  refine fn_ofT lk hcd sc_rows_of (by decide +kernel) (by decide) (fun vs H Q E h => ?_) fun A outer s H vs Q E hr h => ?_
  · obtain ⟨Hs, as, R, h1, ⟨u, rfl, _, _⟩, _⟩ := h
    have := h1.len
    simpa using this
  · obtain ⟨Hs, as, R, h1, ⟨u, rfl, hu, rfl⟩, h3⟩ := h
    obtain ⟨v, rfl, hv⟩ := one_dat h1
    refine ⟨_, CwR.psst_one (CwR.pst_ret (CwR.pet_replC (pv 0) (by decide +kernel))), ?_⟩
    refine ⟨v, rfl, enc u, hv.str_inv, ?_, ?_⟩
    · rw [enc_len]
      have : (("" : Str)).length = 0 := rfl
      rw [this]
      omega
    · have e : Txt.replace (enc u) "|" "" = enc (rowsOf u) := by
        have e1 : ("|" : Str) = enc [.r] := by decide +kernel
        have e2 : ("" : Str) = enc [] := by decide +kernel
        rw [e1, e2]
        exact replace_del .r u
      rw [e]
      exact h3 _ _ Hs H (Step.refl h1.sub) (.str _) rfl
end
end DL
/-! DLh -/
set_option Elab.async false
set_option linter.all false
set_option maxRecDepth 100000
set_option maxHeartbeats 4000000
namespace DL
open PySem PySem.Spec PyProof.Rows L2
open AutoSeq1 (wpAny_loadPart')
set_option maxHeartbeats 1000000 in
theorem meets_enumT (l : Addr) (items : Array Value) (dct : Option Addr) (n : Nat) (sl : Array (Option Value)) :
    Meets (Builtin.«enumerate.__new__» ⟨[.type "enumerate", .ref l], []⟩) (fun _ R s => s.heap.get? l = some { cls := .type "tuple", dict := dct, data := .seq items n, slots := sl } ∧
      R (.ok (.ret (.ref (s.heap.push { cls := .type "tuple_iterator", data := .fields #[.ref l, .int 0 0] }).objs.size)))
        { s with heap := (s.heap.push { cls := .type "tuple_iterator", data := .fields #[.ref l, .int 0 0] }).push { cls := .type "enumerate", data := .fields #[.none, .bool false, .ref s.heap.objs.size, rawInt 0, .none, .none] } }) :=
  .of_wp fun prog w A R s h => by
    obtain ⟨hp, g, d, tk, os⟩ := s; obtain ⟨hl, h⟩ := h
    have hsub := sub_enumerate
    have hL : Heap.IsTuple (Shared.heap ⟨hp, g, d, tk, os⟩) l items := ⟨_, hl, rfl, n, rfl⟩
    wp_walk using wpAny_loadPart' hl
    refine wpAny_stack_any fun st => wpAny_pure ?_
    split
    · rename_i c _ _ _ _ _
      cases (c == Value.type "enumerate")
      · wp_walk using wpAny_loadPart' hl, wpAny_pyIter_tuple hL
        exact ⟨_, rfl, h⟩
      · wp_walk using wpAny_loadPart' hl, wpAny_pyIter_tuple hL
        exact ⟨_, rfl, h⟩
    · wp_walk using wpAny_loadPart' hl, wpAny_pyIter_tuple hL
      exact ⟨_, rfl, h⟩
section
variable {prog : Program} {w : World} {A : Around} {E : Value → Shared → Prop} {s : Shared}
theorem call_enumT {l : Addr} {items : Array Value} {Q : Value → Shared → Prop} (hL : s.heap.IsTuple l items)
    (h : ∀ h', IsEnum h' (s.heap.objs.size + 1) s.heap.objs.size 0 .none → h'.IsTupleIter s.heap.objs.size l 0 → h'.objs.size = s.heap.objs.size + 2 →
      (∀ b o, s.heap.get? b = some o → h'.get? b = some o) → Q (.ref (s.heap.objs.size + 1)) { s with heap := h' }) :
    wpAny (model prog w) A (call (.type "enumerate") [.ref l]) Q E s := by
  obtain ⟨⟨c, dct, dt, sl⟩, hl, hc, n, hd⟩ := hL
  replace hc : c = .type "tuple" := hc
  replace hd : dt = .seq items n := hd
  subst hc hd
  refine callType_new F.called_enumerate (by decide) (F.typeCall_enumerate_1 _) (F.newCall_enumerate_1 _) (fun obj => F.args_object_init_2 obj _) F.entry_enumerate_new
    (meets_enumT l items dct n sl) ⟨hl, ?_⟩
  have hz : (s.heap.push { cls := .type "tuple_iterator", data := .fields #[.ref l, .int 0 0] }).objs.size = s.heap.objs.size + 1 := Heap.size_push ..
  show _ ∧ _
  rw [hz]
  have he : IsEnum ((s.heap.push { cls := .type "tuple_iterator", data := .fields #[.ref l, .int 0 0] }).push
      { cls := .type "enumerate", data := .fields #[.none, .bool false, .ref s.heap.objs.size, rawInt 0, .none, .none] }) (s.heap.objs.size + 1) s.heap.objs.size 0 .none := by
    have := Heap.get?_push_size (s.heap.push { cls := .type "tuple_iterator", data := .fields #[.ref l, .int 0 0] })
      (o := { cls := .type "enumerate", data := .fields #[.none, .bool false, .ref s.heap.objs.size, rawInt 0, .none, .none] }) rfl
    rw [hz] at this; exact this
  refine ⟨⟨_, he, rfl⟩, h _ he ⟨_, Heap.get?_push_of_some _ (Heap.get?_push_size _ rfl), rfl, rfl⟩ (by rw [Heap.size_push, hz]) fun b o x => Heap.get?_push_of_some _ (Heap.get?_push_of_some _ x)⟩
end
/-- signs of a text, each in a new pair -/
def Ies (x : Str) : It :=
  ⟨fun i _ => i < x.cps.size, fun i H v H' => ∃ T c, v = .ref T ∧ H T = none ∧ H' = upd H T (.tup [.int (i : Nat), .str ⟨#[c]⟩]) ∧ x.cps[i]? = some c, fun i _ => x.cps.size ≤ i⟩
theorem turn_enumS {P : Program} {w : World} {K : PySem.W.Frag} {elts : List Expr} {kk : Nat} {tpos : Pos} (x : Str) (t : Tok) (e it : Addr) :
    Turn P w K (.Tuple elts kk tpos) (Ies x) [e, it] e (fun i h => (∃ old, IsEnum h e it ((i : Nat) : Int) old) ∧ h.IsStrIter it (strIterType x) x t i ∧ e ≠ it) where
  mem := by simp
  obj := fun i h st b hb => by
    obtain ⟨⟨old, he⟩, ⟨o, ho, hc, hd⟩, _⟩ := st
    have e' : b = e ∨ b = it := by simpa using hb
    rcases e' with z | z
    · rw [z]; exact ⟨_, he, fun v q => nomatch q⟩
    · rw [z]; exact ⟨o, ho, fun v q => by rw [hd] at q; cases q⟩
  keep := fun i h h' st k => by
    obtain ⟨⟨old, he⟩, ⟨o, ho, hr⟩, hne⟩ := st
    exact ⟨⟨old, k e (by simp) _ he⟩, ⟨o, k it (by simp) o ho, hr⟩, hne⟩
  item := by
    intro X hP hw hK hc i pins s σ H E I hf st hg
    subst hP hw hK
    obtain ⟨⟨old, he⟩, hit, hne⟩ := st
    have hel : e < s.heap.objs.size := Heap.lt_size he
    have hil : it < s.heap.objs.size := by obtain ⟨_, q, _⟩ := hit; exact Heap.lt_size q
    have D := Draws.text (prog := X.prog) (w := X.w) (A := X.A.in1) (I.ok.hd hc) it x t
    refine wpAny_pyNext_enum_itemD D he hit hg hne (by simpa using hne) fun v h' tk hv ho hit' hT hsz hk => ?_
    obtain ⟨c, u, hcx, rfl⟩ := hv
    refine ⟨_, rfl, wpAny_letOwnedTupleGo_enum (s := { s with heap := h', toks := tk + 1 }) ho fun h'' he' sb => ?_⟩
    have hT2 : h''.get? s.heap.objs.size = some { cls := .type "tuple", data := .seq #[.int i tk, .str ⟨#[c]⟩ u] } := (sb.2 _ (Nat.ne_of_gt hel)).trans hT
    have new : ObjOk X.prog X.w (upd H s.heap.objs.size (.tup [.int (i : Nat), .str ⟨#[c]⟩])) h'' s.heap.objs.size (.tup [.int (i : Nat), .str ⟨#[c]⟩]) :=
      ⟨by show 2 ≤ sizeLine; decide, [.int i tk, .str ⟨#[c]⟩ u], .cons ⟨_, rfl⟩ (.cons ⟨_, rfl⟩ .nil), ⟨_, hT2, rfl, _, rfl⟩⟩
    have I1 : Inv X pins σ (upd H s.heap.objs.size (.tup [.int (i : Nat), .str ⟨#[c]⟩])) { s with heap := h'', toks := tk + 1 } :=
      I.turnedNew (ch := [e, it]) (fun b ob hb q => (sb.2 b (fun z => hb (by simp [z]))).trans (hk b ob (fun z => hb (by simp [z])) (fun z => hb (by simp [z])) q)) hf (Nat.le_refl _) new
    refine ⟨.ref s.heap.objs.size, _, I1, rfl, ⟨_, c, rfl, I.hok.fresh (Nat.le_refl _), rfl, hcx⟩, ⟨⟨.str ⟨#[c]⟩ u, ?_⟩, ?_, hne⟩, fun b hb => ?_⟩
    · have e1 : ((i + 1 : Nat) : Int) = (i : Int) + 1 := by omega
      rw [e1]; exact he'
    · obtain ⟨o, ho, hr⟩ := hit'
      exact ⟨o, (sb.2 it (Ne.symm hne)).trans ho, hr⟩
    · have hb' : b < s.heap.objs.size := by
        have e' : b = e ∨ b = it := by simpa using hb
        rcases e' with z | z
        · rw [z]; exact hel
        · rw [z]; exact hil
      rw [upd_ne (Nat.ne_of_lt hb')]
      exact (hf b hb).1
  done := by
    intro X hP hw hK hc i pins s σ H E I hf st hg
    subst hP hw hK
    obtain ⟨⟨old, he⟩, hit, hne⟩ := st
    obtain ⟨f0, f1, f2, f3, f4, f5⟩ := hf it (by simp)
    have hx : x.cps[i]? = none := Array.getElem?_eq_none hg
    obtain ⟨o, ho, hr⟩ := id hit
    have D : Draws X.prog X.w X.A.in1 it [it] i (fun _ _ => False) (fun j h => j = i ∧ h.IsStrIter it (strIterType x) x t i) := {
      live := fun _ _ st => let ⟨_, o, ho, _⟩ := st; ⟨o, ho⟩
      frame := fun _ _ _ st hk => let ⟨q, o, ho, r⟩ := st; ⟨q, o, hk it (by simp) o ho, r⟩
      item := fun j s Q E hi st hQ => by have := st.1; omega
      done := fun s Q E st hE => by
        obtain ⟨_, st⟩ := st
        cases ha : x.cps.all (· < 128)
        · rw [show strIterType x = "str_iterator" by simp [strIterType, ha]] at st
          exact wpAny_nextOf_wide_end (I.ok.hd hc) st hx hE
        · rw [show strIterType x = "str_ascii_iterator" by simp [strIterType, ha]] at st
          exact wpAny_nextOf_ascii_end (I.ok.hd hc) st hx hE }
    exact wpAny_pyNext_enum_endD D he ⟨rfl, hit⟩ fun h' eb => ⟨rfl, I.turned (t' := s.toks) (fun b o hb q => eb b o hb q) f0 f1 f3 f4 f5⟩
  self := fun A i s Q E st h => let ⟨⟨_, he⟩, _⟩ := st; wpAny_pyIter_enum he h
/-- items of a tuple, each in a new pair -/
def Iet (K : PySem.W.Frag) (a : Addr) : It :=
  ⟨fun i H => ∃ (xs : List V) (x : V), SqT K H a xs ∧ xs[i]? = some x, fun i H v H' => ∃ T x, v = .ref T ∧ H T = none ∧ H' = upd H T (.tup [.int (i : Nat), x]) ∧ ∀ xs, SqT K H a xs → xs[i]? = some x, fun i H => ∃ xs : List V, SqT K H a xs ∧ xs.length ≤ i⟩
theorem turn_enumT {P : Program} {w : World} {K : PySem.W.Frag} {elts : List Expr} {kk : Nat} {tpos : Pos} (a e it : Addr) :
    Turn P w K (.Tuple elts kk tpos) (Iet K a) [e, it] e (fun i h => (∃ old, IsEnum h e it ((i : Nat) : Int) old) ∧ h.IsTupleIter it a i ∧ e ≠ it) where
  mem := by simp
  obj := fun i h st b hb => by
    obtain ⟨⟨old, he⟩, ⟨o, ho, hc, hd⟩, _⟩ := st
    have e' : b = e ∨ b = it := by simpa using hb
    rcases e' with z | z
    · rw [z]; exact ⟨_, he, fun v q => nomatch q⟩
    · rw [z]; exact ⟨o, ho, fun v q => by rw [hd] at q; cases q⟩
  keep := fun i h h' st k => by
    obtain ⟨⟨old, he⟩, ⟨o, ho, hr⟩, hne⟩ := st
    exact ⟨⟨old, k e (by simp) _ he⟩, ⟨o, k it (by simp) o ho, hr⟩, hne⟩
  item := by
    intro X hP hw hK hc i pins s σ H E I hf st hg
    subst hP hw hK
    obtain ⟨⟨old, he⟩, hit, hne⟩ := st
    obtain ⟨xs, x, hq, hx⟩ := hg
    obtain ⟨its, rv, p, hz⟩ := I.tuple hq
    obtain ⟨u, hu, ru⟩ := rv.get hx
    have hel : e < s.heap.objs.size := Heap.lt_size he
    have hil : it < s.heap.objs.size := by obtain ⟨_, q, _⟩ := hit; exact Heap.lt_size q
    have p' : s.heap.IsTuple a its.toArray := p
    have hai : a ≠ it := fun z => by
      subst z
      obtain ⟨o, h1, h2, h3⟩ := hit
      obtain ⟨o2, g1, g2, n, g3⟩ := p'
      rw [h1] at g1; cases g1
      rw [h3] at g3; cases g3
    have hea : e ≠ a := fun z => by
      subst z
      obtain ⟨o2, g1, g2, n, g3⟩ := p'
      rw [he] at g1; cases g1
      cases g3
    have D := Draws.tuple (prog := X.prog) (w := X.w) (A := X.A.in1) (I.ok.hd hc) it a hai its.toArray
    have hlt : i < its.toArray.size := by
      have h1 := (List.getElem?_eq_some_iff.mp hu).1
      simpa using h1
    refine wpAny_pyNext_enum_itemD D he ⟨hit, p'⟩ hlt hne (by simp [hne, hea]) fun v h' tk hv ho hit' hT hsz hk => ?_
    have hvu : v = u := by
      have h1 : its[i]? = some v := by simpa using hv
      rw [hu] at h1; cases h1; rfl
    subst hvu
    refine ⟨_, rfl, wpAny_letOwnedTupleGo_enum (s := { s with heap := h', toks := tk + 1 }) ho fun h'' he' sb => ?_⟩
    have hT2 : h''.get? s.heap.objs.size = some { cls := .type "tuple", data := .seq #[.int i tk, v] } := (sb.2 _ (Nat.ne_of_gt hel)).trans hT
    have new : ObjOk X.prog X.w (upd H s.heap.objs.size (.tup [.int (i : Nat), x])) h'' s.heap.objs.size (.tup [.int (i : Nat), x]) :=
      ⟨by show 2 ≤ sizeLine; decide, [.int i tk, v], .cons ⟨_, rfl⟩ (.cons ru .nil), ⟨_, hT2, rfl, _, rfl⟩⟩
    have I1 : Inv X pins σ (upd H s.heap.objs.size (.tup [.int (i : Nat), x])) { s with heap := h'', toks := tk + 1 } :=
      I.turnedNew (ch := [e, it]) (fun b ob hb q => (sb.2 b (fun z => hb (by simp [z]))).trans (hk b ob (fun z => hb (by simp [z])) (fun z => hb (by simp [z])) q)) hf (Nat.le_refl _) new
    refine ⟨.ref s.heap.objs.size, _, I1, rfl, ⟨_, x, rfl, I.hok.fresh (Nat.le_refl _), rfl, fun ys hy => by rw [I.tuple_inj hy hq]; exact hx⟩, ⟨⟨v, ?_⟩, ?_, hne⟩, fun b hb => ?_⟩
    · have e1 : ((i + 1 : Nat) : Int) = (i : Int) + 1 := by omega
      rw [e1]; exact he'
    · obtain ⟨⟨o, ho, hr⟩, _⟩ := hit'
      exact ⟨o, (sb.2 it (Ne.symm hne)).trans ho, hr⟩
    · have hb' : b < s.heap.objs.size := by
        have e' : b = e ∨ b = it := by simpa using hb
        rcases e' with z | z
        · rw [z]; exact hel
        · rw [z]; exact hil
      rw [upd_ne (Nat.ne_of_lt hb')]
      exact (hf b hb).1
  done := by
    intro X hP hw hK hc i pins s σ H E I hf st hg
    subst hP hw hK
    obtain ⟨⟨old, he⟩, hit, hne⟩ := st
    obtain ⟨xs, hq, hx⟩ := hg
    obtain ⟨its, rv, p, hz⟩ := I.tuple hq
    obtain ⟨f0, f1, f2, f3, f4, f5⟩ := hf it (by simp)
    have p' : s.heap.IsTuple a its.toArray := p
    have hai : a ≠ it := fun z => by
      subst z
      obtain ⟨o, h1, h2, h3⟩ := hit
      obtain ⟨o2, g1, g2, n, g3⟩ := p'
      rw [h1] at g1; cases g1
      rw [h3] at g3; cases g3
    have hl := rv.length
    have hnx : its.toArray[i]? = none := Array.getElem?_eq_none (by simp; omega)
    have D : Draws X.prog X.w X.A.in1 it [it, a] i (fun _ _ => False) (fun j h => j = i ∧ h.IsTupleIter it a i ∧ h.IsTuple a its.toArray) := {
      live := fun _ _ st => let ⟨_, ⟨o, ho, _⟩, _⟩ := st; ⟨o, ho⟩
      frame := fun _ _ _ st hk => ⟨st.1, st.2.1.at fun o e => hk it (by simp) o e, st.2.2.at fun o e => hk a (by simp) o e⟩
      item := fun j s Q E hi st hQ => by have := st.1; omega
      done := fun s Q E st hE => wpAny_nextOf_tuple_end (I.ok.hd hc) st.2.1 st.2.2 hnx hE }
    exact wpAny_pyNext_enum_endD D he ⟨rfl, hit, p'⟩ fun h' eb => ⟨rfl, I.turned (t' := s.toks) (fun b o hb q => eb b o hb q) f0 f1 f3 f4 f5⟩
  self := fun A i s Q E st h => let ⟨⟨_, he⟩, _⟩ := st; wpAny_pyIter_enum he h
section
variable {X : Cx} {e : Expr} {ta : TA} {p pos tpos : Pos} {elts : List Expr} {kk : Nat}
theorem pi_enumS (hg : Gl X "enumerate") (hm : X.mg "enumerate" = none) (ha : PA X [e] ta) (hs : starEach [e] X.env = [(false, eval e X.env)] := by rfl) :
    PI X (.Tuple elts kk tpos) (.Call (.Name "enumerate" p) [e] [] pos) (fun σ H R => ta σ H fun vs H1 => ∃ x, vs = [.str x] ∧ R (Ies x) H1) := by
  refine ⟨fun pins s σ H R I h => ?_⟩
  refine Call_ (ld_blt I hg hm boot_enumerate (PyProof.Rows.callWith_type1 (thn (ha.run pos pins s σ H _ I h) fun us s1 ⟨vs, H1, I1, r1, q1⟩ => ?_) hs rfl))
  obtain ⟨x, ex, q⟩ := q1
  subst ex
  cases r1 with
  | cons r rr =>
    cases rr
    obtain ⟨t, rfl⟩ := r
    refine call_enumerate_str fun h' he hit hsz hk => wpAny_pyIter_enum he ?_
    have I2 : Inv X pins σ H1 { s1 with heap := h' } := I1.kept (t' := s1.toks) hk
    refine ⟨s1.heap.objs.size + 1, [s1.heap.objs.size + 1, s1.heap.objs.size], _, _, H1, rfl, I2, turn_enumS x t (s1.heap.objs.size + 1) s1.heap.objs.size, ⟨⟨.none, he⟩, hit, Nat.succ_ne_self _⟩, fun b hb => ?_, q⟩
    have e' : b = s1.heap.objs.size + 1 ∨ b = s1.heap.objs.size := by simpa using hb
    have hle : s1.heap.objs.size ≤ b := by
      rcases e' with z | z
      · rw [z]; exact Nat.le_add_right _ _
      · rw [z]; exact Nat.le_refl _
    exact I1.fpOk hle (I1.hok.fresh hle)
theorem pi_enumT (hg : Gl X "enumerate") (hm : X.mg "enumerate" = none) (ha : PA X [e] ta) (hs : starEach [e] X.env = [(false, eval e X.env)] := by rfl) :
    PI X (.Tuple elts kk tpos) (.Call (.Name "enumerate" p) [e] [] pos) (fun σ H R => ta σ H fun vs H1 => ∃ a xs, vs = [.ref a] ∧ SqT X.K H1 a xs ∧ R (Iet X.K a) H1) := by
  refine ⟨fun pins s σ H R I h => ?_⟩
  refine Call_ (ld_blt I hg hm boot_enumerate (PyProof.Rows.callWith_type1 (thn (ha.run pos pins s σ H _ I h) fun us s1 ⟨vs, H1, I1, r1, q1⟩ => ?_) hs rfl))
  obtain ⟨a, xs, ex, hq, q⟩ := q1
  subst ex
  cases r1 with
  | cons r rr =>
    cases rr
    cases r
    obtain ⟨its, rv, p', hz⟩ := I1.tuple hq
    refine call_enumT (show s1.heap.IsTuple a its.toArray from p') fun h' he hit hsz hk => wpAny_pyIter_enum he ?_
    have I2 : Inv X pins σ H1 { s1 with heap := h' } := I1.kept (t' := s1.toks) hk
    refine ⟨s1.heap.objs.size + 1, [s1.heap.objs.size + 1, s1.heap.objs.size], _, _, H1, rfl, I2, turn_enumT a (s1.heap.objs.size + 1) s1.heap.objs.size, ⟨⟨.none, he⟩, hit, Nat.succ_ne_self _⟩, fun b hb => ?_, q⟩
    have e' : b = s1.heap.objs.size + 1 ∨ b = s1.heap.objs.size := by simpa using hb
    have hle : s1.heap.objs.size ≤ b := by
      rcases e' with z | z
      · rw [z]; exact Nat.le_add_right _ _
      · rw [z]; exact Nat.le_refl _
    exact I1.fpOk hle (I1.hok.fresh hle)
end
/-- pairs of a number and an item -/
def enumD : Nat → List Dt → List Dt
  | _, [] => []
  | n, d :: ds => .tup [.int (n : Int), d] :: enumD (n + 1) ds
theorem enumD_len : ∀ (n : Nat) (ds : List Dt), (enumD n ds).length = ds.length
  | _, [] => rfl
  | n, d :: ds => by rw [enumD, List.length_cons, List.length_cons, enumD_len]
theorem enumD_get : ∀ (n : Nat) (ds : List Dt) (i : Nat) (d : Dt), ds[i]? = some d → (enumD n ds)[i]? = some (.tup [.int ((n + i : Nat) : Int), d])
  | _, [], i, d, h => by simp at h
  | n, x :: ds, 0, d, h => by
    have e : x = d := by simpa using h
    subst e
    rw [enumD]; rfl
  | n, x :: ds, i + 1, d, h => by
    rw [enumD, List.getElem?_cons_succ, enumD_get (n + 1) ds i d (by simpa using h), show n + 1 + i = n + (i + 1) by omega]
section
variable {X : Cx} {ρ : List Sl} {e : Expr} {p pos tpos : Pos} {elts : List Expr} {kk : Nat}
theorem wk_enum {K : PySem.W.Frag} {Hs1 : Hp} {xs : List V} {ds : List Dt} (hr : RepAll K Hs1 xs ds) {i : Nat} {Hs2 H2 : Hp} {v : V} {H3 : Hp} {T : Addr} {x : V} (e1 : Ex Hs1 Hs2) (e2 : Ex Hs2 H2) (h1 : v = .ref T) (h2 : H2 T = none) (h3 : H3 = upd H2 T (.tup [.int (i : Nat), x])) (h4 : xs[i]? = some x) :
    ∃ Hs3 d, Step Hs2 H2 Hs3 H3 ∧ (enumD 0 ds)[i]? = some d ∧ Rep K Hs3 v d := by
  subst h1 h3
  obtain ⟨d, hd, hx⟩ := hr.get' h4
  refine ⟨upd Hs2 T (.tup [.int (i : Nat), x]), .tup [.int (i : Int), d], Step.newF e2 h2, ?_, ?_⟩
  · rw [enumD_get 0 ds i d hd, Nat.zero_add]
  · exact .tup (Or.inl (Or.inl upd_same)) (.cons (.int _) (.one (Rep.mono (Ex.new (e2.free h2)) _ _ (Rep.mono e1 _ _ hx))))
theorem di_enumS {S : Str → Prop} (hm : X.mg "enumerate" = none) (h : DR X e ρ (fun d => ∃ z, d = .str z ∧ S z)) (hg : Gl X "enumerate" := by rfl) (hs : starEach [e] X.env = [(false, eval e X.env)] := by rfl) :
    DI X (.Tuple elts kk tpos) (.Call (.Name "enumerate" p) [e] [] pos) ρ (fun ds => ∃ z, S z ∧ ds = enumD 0 (signs z)) := fun Hs H σ E Rk q =>
  wpI_of (pi_enumS hg hm pa_wp hs) (dar_cons h da_nil (S' := fun as => ∃ z, as = [.dat (.str z)] ∧ S z) (fun d as ⟨z, e1, e2⟩ e3 => ⟨z, by rw [e1, e3], e2⟩) (by rw [hs]; rfl) Hs H σ E _ fun vs as H1s H1 t1 E1 ⟨z, r0, r⟩ => by
    subst r0
    obtain ⟨v, rfl, hv⟩ := one_dat E1
    rw [hv.str_inv]
    have hl : (enumD 0 (signs z)).length = z.cps.size := by rw [enumD_len]; unfold signs; rw [List.length_map]; rfl
    refine ⟨z, rfl, q _ H1s H1 (enumD 0 (signs z)) t1 ⟨z, r, rfl⟩ ⟨fun _ => True, fun i H v H' => (Ies z).yld i H v H', ⟨fun i H hi _ => by rw [hl] at hi; exact hi, fun H _ => by rw [hl]; exact Nat.le_refl _, fun i H x H' _ _ y => y⟩, fun _ _ _ _ => trivial, fun i Hs2 H2 x H3 hi e1 e2 y => ?_⟩⟩
    obtain ⟨T, c, h1, h2, h3, h4⟩ := y
    subst h1 h3
    refine ⟨upd Hs2 T _, .tup [.int (i : Int), .str ⟨#[c]⟩], Step.newF e2 h2, ?_, .tup (Or.inl (Or.inl upd_same)) (.cons (.int _) (.one (.str _)))⟩
    rw [enumD_get 0 (signs z) i (.str ⟨#[c]⟩), Nat.zero_add]
    unfold signs
    rw [List.getElem?_map, Array.getElem?_toList, h4] <;> rfl)
theorem di_enumT {RL : List Dt → Prop} (hm : X.mg "enumerate" = none) (h : DR X e ρ (fun d => ∃ ds, d = .tup ds ∧ RL ds)) (hg : Gl X "enumerate" := by rfl) (hs : starEach [e] X.env = [(false, eval e X.env)] := by rfl) :
    DI X (.Tuple elts kk tpos) (.Call (.Name "enumerate" p) [e] [] pos) ρ (fun ds => ∃ zs, RL zs ∧ ds = enumD 0 zs) := fun Hs H σ E Rk q =>
  wpI_of (pi_enumT hg hm pa_wp hs) (dar_cons h da_nil (S' := fun as => ∃ z, as = [.dat (.tup z)] ∧ RL z) (fun d as ⟨z, e1, e2⟩ e3 => ⟨z, by rw [e1, e3], e2⟩) (by rw [hs]; rfl) Hs H σ E _ fun vs as H1s H1 t1 E1 ⟨z, r0, r⟩ => by
    subst r0
    obtain ⟨v, rfl, hv⟩ := one_dat E1
    obtain ⟨a, xs, rfl, h1, h2⟩ := hv.tup_inv
    have hl : (enumD 0 z).length = xs.length := by rw [enumD_len, h2.length]
    refine ⟨a, xs, rfl, ex_t E1.sub h1, q _ H1s H1 (enumD 0 z) t1 ⟨z, r, rfl⟩ ⟨fun H => SqT X.K H a xs, fun i H v H' => ∃ T x, v = .ref T ∧ H T = none ∧ H' = upd H T (.tup [.int (i : Nat), x]) ∧ xs[i]? = some x,
      ⟨fun i H hi q => ⟨xs, xs[i]'(by omega), q, by simp [show i < xs.length by omega]⟩, fun H q => ⟨xs, q, by omega⟩, fun i H x H' _ q ⟨T, y, g1, g2, g3, g4⟩ => ⟨T, y, g1, g2, g3, g4 xs q⟩⟩, fun Hs2 H2 e1 e2 => ex_t (e1.trans e2) h1, fun i Hs2 H2 x H3 hi e1 e2 y => ?_⟩⟩
    obtain ⟨T, y, g1, g2, g3, g4⟩ := y
    exact wk_enum h2 e1 e2 g1 g2 g3 g4)
theorem di_enumL {RL : List Dt → Prop} (hm : X.mg "enumerate" = none) (h : DR X e ρ (fun d => ∃ ds, d = .lst ds ∧ RL ds)) (hg : Gl X "enumerate" := by rfl) (hs : starEach [e] X.env = [(false, eval e X.env)] := by rfl) :
    DI X (.Tuple elts kk tpos) (.Call (.Name "enumerate" p) [e] [] pos) ρ (fun ds => ∃ zs, RL zs ∧ ds = enumD 0 zs) := fun Hs H σ E Rk q =>
  wpI_of (pi_enum hg hm pa_wp hs) (dar_cons h da_nil (S' := fun as => ∃ z, as = [.dat (.lst z)] ∧ RL z) (fun d as ⟨z, e1, e2⟩ e3 => ⟨z, by rw [e1, e3], e2⟩) (by rw [hs]; rfl) Hs H σ E _ fun vs as H1s H1 t1 E1 ⟨z, r0, r⟩ => by
    subst r0
    obtain ⟨v, rfl, hv⟩ := one_dat E1
    obtain ⟨a, xs, rfl, h1, h2⟩ := hv.lst_inv
    have hl : (enumD 0 z).length = xs.length := by rw [enumD_len, h2.length]
    refine ⟨a, xs, rfl, Or.inl (Or.inl (E1.sub _ _ h1)), q _ H1s H1 (enumD 0 z) t1 ⟨z, r, rfl⟩ ⟨fun H => SqL X.K H a xs, YPair (fun i => some (.int (i : Nat))) (fun i => xs[i]?), ?_, fun Hs2 H2 e1 e2 => Or.inl (Or.inl (e2 _ _ (e1 _ _ h1))), fun i Hs2 H2 x H3 hi e1 e2 y => ?_⟩⟩
    · rw [hl]; exact walk_enum
    · obtain ⟨T, y1, y2, g1, g2, g3, g4, g5⟩ := y
      have g6 : y1 = .int (i : Nat) := by
        have : some (V.int (i : Nat)) = some y1 := g4
        exact (Option.some.inj this).symm
      subst g6
      exact wk_enum h2 e1 e2 g1 g2 g3 g5)
/-- letters of a word, numbered -/
theorem di_enumW {w : List Lt} (hm : X.mg "enumerate" = none) (h : DE X e ρ (.str (enc w))) (hg : Gl X "enumerate" := by rfl) (hs : starEach [e] X.env = [(false, eval e X.env)] := by rfl) :
    DI X (.Tuple elts kk tpos) (.Call (.Name "enumerate" p) [e] [] pos) ρ (fun ds => ds = enumD 0 (w.map fun c => Dt.str (enc [c]))) := fun Hs H σ E Rk q =>
  di_enumS (S := fun z => z = enc w) hm (DR.mono h fun d r => ⟨_, r, rfl⟩) hg hs Hs H σ E Rk fun J Hs' H' ds t ⟨z, e1, e2⟩ wk => q J Hs' H' ds t (by rw [e2, e1, signs_enc]) wk
end
end DL
/-! Mir -/
set_option Elab.async false
set_option linter.all false
set_option maxRecDepth 100000
set_option maxHeartbeats 4000000
namespace DL
open PySem L2
structure Hs where
  rows : Nat
  low : Bool
  joins : Jn
  again : Bool
  stamps : Option Nat
  on : Bool
  changes : Option Nat
structure HOk (h : Hs) : Prop where
  r1 : 1 ≤ h.rows
  r3 : h.rows ≤ 3
  st : ∀ m, h.stamps = some m → 1 ≤ m ∧ m ≤ 4
  ch : ∀ c, h.changes = some c → 1 ≤ c ∧ c ≤ 2
def optD : Option Nat → Dt
  | none => .non
  | some n => .int (n : Int)
def hsF (h : Hs) : List (Str × Dt) := [("rows", .int (h.rows : Int)), ("keeps", .str (kpS h.low)), ("joins", .str (jnS h.joins)), ("again", .bl h.again), ("stamps", optD h.stamps), ("on", .bl h.on), ("changes", optD h.changes)]
def hsD (h : Hs) : Dt := .ins "House" (hsF h)
def hdF (h : Hs) : List (Str × Dt) := [("rows", .int (h.rows : Int)), ("keeps", .str (kpS h.low)), ("joins", .str (jnS h.joins)), ("again", .bl h.again), ("on", .bl h.on), ("changes", optD h.changes), ("stamps", optD h.stamps)]
def hdD (h : Hs) : Dt := .dct (hdF h)
theorem hs_rows (h : Hs) : (hsF h).lookup ("rows" : Str) = some (.int (h.rows : Int)) := by kernel_rfl
theorem hs_keeps (h : Hs) : (hsF h).lookup ("keeps" : Str) = some (.str (kpS h.low)) := by kernel_rfl
theorem hs_joins (h : Hs) : (hsF h).lookup ("joins" : Str) = some (.str (jnS h.joins)) := by kernel_rfl
theorem hs_again (h : Hs) : (hsF h).lookup ("again" : Str) = some (.bl h.again) := by kernel_rfl
theorem hs_stamps (h : Hs) : (hsF h).lookup ("stamps" : Str) = some (optD h.stamps) := by kernel_rfl
theorem hs_on (h : Hs) : (hsF h).lookup ("on" : Str) = some (.bl h.on) := by kernel_rfl
theorem hs_changes (h : Hs) : (hsF h).lookup ("changes" : Str) = some (optD h.changes) := by kernel_rfl
theorem hd_rows (h : Hs) : (hdF h).lookup ("rows" : Str) = some (.int (h.rows : Int)) := by kernel_rfl
theorem hd_keeps (h : Hs) : (hdF h).lookup ("keeps" : Str) = some (.str (kpS h.low)) := by kernel_rfl
theorem hd_joins (h : Hs) : (hdF h).lookup ("joins" : Str) = some (.str (jnS h.joins)) := by kernel_rfl
theorem hd_again (h : Hs) : (hdF h).lookup ("again" : Str) = some (.bl h.again) := by kernel_rfl
theorem hd_stamps (h : Hs) : (hdF h).lookup ("stamps" : Str) = some (optD h.stamps) := by kernel_rfl
theorem hd_on (h : Hs) : (hdF h).lookup ("on" : Str) = some (.bl h.on) := by kernel_rfl
theorem hd_changes (h : Hs) : (hdF h).lookup ("changes" : Str) = some (optD h.changes) := by kernel_rfl
inductive Tk where
  | there | same | holds | covers | fits
  deriving DecidableEq
def tkS : Tk → Str
  | .there => "there"
  | .same => "same"
  | .holds => "holds"
  | .covers => "covers"
  | .fits => "fits"
structure Tst where
  neg : Bool
  t : Tk
def tstS (t : Tst) : Str := match t.neg, t.t with
  | false, .there => "there"
  | false, .same => "same"
  | false, .holds => "holds"
  | false, .covers => "covers"
  | false, .fits => "fits"
  | true, .there => "not there"
  | true, .same => "not same"
  | true, .holds => "not holds"
  | true, .covers => "not covers"
  | true, .fits => "not fits"
inductive Dd where
  | slot | key | find
  deriving DecidableEq
def ddS : Dd → Str
  | .slot => "slot"
  | .key => "key"
  | .find => "find"
structure Rw where
  tests : List Tst
  deed : Dd
def tsD (ts : List Tst) : List Dt := ts.map fun t => .str (tstS t)
/-- a line of the law; a row of the program -/
def lnD (r : Rw) : Dt := .tup [.lst (tsD r.tests), .str (ddS r.deed)]
def rwF (r : Rw) (t : Str) : List (Str × Dt) := [("tests", .tup (tsD r.tests)), ("deed", .str (ddS r.deed)), ("text", .str t)]
def rwD (r : Rw × Str) : Dt := .ins "Row" (rwF r.1 r.2)
theorem rw_tests (r : Rw) (t : Str) : (rwF r t).lookup ("tests" : Str) = some (.tup (tsD r.tests)) := by kernel_rfl
theorem rw_deed (r : Rw) (t : Str) : (rwF r t).lookup ("deed" : Str) = some (.str (ddS r.deed)) := by kernel_rfl
theorem rw_text (r : Rw) (t : Str) : (rwF r t).lookup ("text" : Str) = some (.str t) := by kernel_rfl
structure Rd' where
  up : Bool
  rows : List (Rw × Str)
  text : Str
def rdF (r : Rd') : List (Str × Dt) := [("way", .str (wayS r.up)), ("rows", .tup (r.rows.map rwD)), ("text", .str r.text)]
def rdD (r : Rd') : Dt := .ins "Reader" (rdF r)
theorem rd_way (r : Rd') : (rdF r).lookup ("way" : Str) = some (.str (wayS r.up)) := by kernel_rfl
theorem rd_rows (r : Rd') : (rdF r).lookup ("rows" : Str) = some (.tup (r.rows.map rwD)) := by kernel_rfl
structure Sc where
  told : Bool
  order : Int
  slot : Int
  change : Int
  many : Int
  word : Option (List Lt)
  key : Sd
  watch : Sd
def woD : Option (List Lt) → Dt
  | none => .non
  | some w => .str (enc w)
def scL (s : Sc) : List Dt := [.bl s.told, .int s.order, .int s.slot, .int s.change, .int s.many, woD s.word, .str (sdS s.key), .str (sdS s.watch)]
def scD (s : Sc) : Dt := .tup (scL s)
abbrev Pg := List Lt × Sd × Sd
def pgL (p : Pg) : List Dt := [.str (enc p.1), .str (sdS p.2.1), .str (sdS p.2.2)]
def pgD (p : Pg) : Dt := .tup (pgL p)
def place (u v : List Lt) : Option Nat := u.findIdx? fun c => decide (c ∈ v)
def chB (h : Hs) (c : Int) : List Int := match h.stamps with
  | some m => [(c + 1) % (m : Int)]
  | none => if c = -1 then [-1, 0] else [1]
def anyC (h : Hs) : List Int := match h.stamps with
  | some m => (List.range m).map fun i : Nat => (i : Int)
  | none => [-1, 0, 1]
def manyB (h : Hs) (m : Int) : Int := match h.changes with
  | none => 0
  | some _ => m + 1
def dots (n : Nat) : List Lt := List.replicate n .d
def dotS (m : Nat) (found : List (List Lt)) (tail : List Lt) : List (List Lt) := found.flatMap fun w => (List.range (m + 1)).map fun n => w ++ dots n ++ tail
def dotted (ls : List Lt) (m : Nat) : List (List Lt) := (dotS m (ls.foldl (fun found l => dotS m found [l]) [[]]) []).filter fun w => decide ((rowsOf w).length ≤ m)
def watchHigher (up : Bool) (o : Int) : Bool := decide (o = -1) == up
def sdN : Sd → Int
  | .left => 0
  | .inn => 1
  | .right => 2
  | .no => 0
def ltO : Option Nat → Option Nat → Bool
  | some a, some b => decide (a < b)
  | _, _ => false
def inOrder (up : Bool) (o : Int) (w : List Lt) (key watch : Sd) : Bool :=
  if o = 0 then decide (key = watch) else if key = .inn ∧ watch = .inn then ltO (place w [.k, .r]) (place w [.x]) == watchHigher up o else if key = watch then true else decide (sdN key < sdN watch) == watchHigher up o
def lettersFor (o : Int) (hk hw told : Bool) : List (List Lt) :=
  if o = 0 then (if hk then [[.b]] else [[]]) else
  if hk && hw then (if told then [.k] else [.k, .r]).map (fun l => [l, .x]) ++ (if told then [.k] else [.k, .r]).map (fun l => [.x, l]) else
  if hk then (if told then [.k] else [.k, .r]).map (fun l => [l]) else if hw then [[.x]] else [[]]
def sides3 : List Sd := [.left, .inn, .right]
def pgsFor (up : Bool) (rows : Nat) (o : Int) (told : Bool) (key watch : Sd) : List Pg :=
  (lettersFor o (decide (key = .inn)) (decide (watch = .inn)) told).flatMap fun ls => if inOrder up o ls key watch then (dotted ls rows).map fun w => (w, key, watch) else []
def pages (up : Bool) (rows : Nat) (o : Int) (told : Bool) : List Pg :=
  (if told then [.inn] else sides3).flatMap fun key => sides3.flatMap fun watch => pgsFor up rows o told key watch
abbrev Ev := List Dt
def comeAt (w : List Lt) (n : Nat) : Ev × List Lt := ([.str "come", .int (n : Int)], w.take n ++ [.d] ++ w.drop n)
def goAt (w : List Lt) (n : Nat) (c : Lt) : List (Ev × List Lt) := if c = .d ∨ c = .k then [([.str "go", .int (n : Int)], w.take n ++ (if c = .d then [] else [.r]) ++ w.drop (n + 1))] else []
def comeEv (rows : Nat) (w : List Lt) : List (Ev × List Lt) :=
  (if (rowsOf w).length < rows then (List.range (w.length + 1)).map (comeAt w) ++ (if .r ∈ w then [([.str "again"], subst1 .r .k w)] else []) else []) ++ w.zipIdx.flatMap fun p => goAt w p.2 p.1
def sideOf (low : Bool) : Sd := if low then .right else .left
def splitAt' (low : Bool) (w : List Lt) (key watch : Sd) (n : Nat) : Ev × Pg :=
  ([.str "split", .int (n : Int)], (if low then w.take n else w.drop n), (if (place (if low then w.drop n else w.take n) [.k, .r, .b]).isSome then sideOf low else key), (if (place (if low then w.drop n else w.take n) [.x, .b]).isSome then sideOf low else watch))
def splitEv (low : Bool) (w : List Lt) (key watch : Sd) : List (Ev × Pg) := (List.range (w.length + 1)).map (splitAt' low w key watch)
def joinSide (j : Jn) : Sd := if j = .left then .right else .left
def joinMore (up : Bool) (j : Jn) (o : Int) (w : List Lt) (key watch : Sd) (more : List Lt) : List (Ev × Pg) :=
  if inOrder up o (if joinSide j = .right then w ++ more else more ++ w) key watch then [([.str "join", .str (enc more)], (if joinSide j = .right then w ++ more else more ++ w), key, watch)] else []
def joinFor (up : Bool) (rows : Nat) (j : Jn) (o : Int) (w : List Lt) (key watch : Sd) (hk hw : Bool) : List (Ev × Pg) :=
  if o ≠ 0 ∨ hk = hw then (lettersFor o hk hw false).flatMap fun ls => (dotted ls (rows - (rowsOf w).length)).flatMap fun more => joinMore up j o w (if hk then .inn else key) (if hw then .inn else watch) more else []
def bools (b : Bool) : List Bool := if b then [false, true] else [false]
def joinEv (up : Bool) (rows : Nat) (j : Jn) (o : Int) (w : List Lt) (key watch : Sd) : List (Ev × Pg) :=
  (bools (decide (key = joinSide j))).flatMap fun hk => (bools (decide (watch = joinSide j))).flatMap fun hw => joinFor up rows j o w key watch hk hw
def usedUp (h : Hs) (many : Int) : Bool := match h.changes with
  | none => false
  | some c => decide ((c : Int) ≤ many)
def ways (h : Hs) (up : Bool) (s : Sc) (w : List Lt) : List (Ev × Pg) :=
  ((comeEv h.rows w).map fun p => (p.1, p.2, s.key, s.watch)) ++ splitEv h.low w s.key s.watch ++ (if h.joins ≠ .none then joinEv up h.rows h.joins s.order w s.key s.watch else [])
def behind (h : Hs) (s : Sc) (one : Int) (p : Pg) : Sc := { s with change := one, many := manyB h s.many, word := some p.1, key := p.2.1, watch := p.2.2 }
def gone (s : Sc) : Sc := { s with word := none, key := .no, watch := .no }
def others (h : Hs) (up : Bool) (s : Sc) : List (Ev × Sc) := match s.word with
  | none => if h.again && !usedUp h s.many then (pages up h.rows s.order false).flatMap fun p => (if h.on then chB h s.change else anyC h).map fun one => (.str "new" :: pgL p ++ [.int one], behind h s one p) else []
  | some w => (if !usedUp h s.many then (ways h up s w).flatMap fun e => (chB h s.change).map fun one => (e.1 ++ [.int one], behind h s one e.2) else []) ++ (if h.joins ≠ .none then [([.str "leave"], gone s)] else [])
def otD (e : Ev × Sc) : Dt := .tup [.tup e.1, scD e.2]
def trD (e : Ev × Sc) : Dt := .tup [.tup e.1, .non, scD e.2]
/-- what is needed of a scene that nothing raises -/
structure WF (h : Hs) (s : Sc) : Prop where
  len : ∀ w, s.word = some w → w.length ≤ 10 ∧ (rowsOf w).length ≤ h.rows
  no : s.word = none → s.key = .no ∧ s.watch = .no
  key : ∀ w, s.word = some w → s.key ≠ .no ∧ (s.key = .inn → if s.order = 0 then .b ∈ w else .k ∈ w ∨ .r ∈ w)
  watch : ∀ w, s.word = some w → s.watch ≠ .no ∧ (s.watch = .inn → if s.order = 0 then .b ∈ w else .x ∈ w)
end DL
/-! DLi -/
set_option Elab.async false
set_option linter.all false
set_option maxRecDepth 100000
set_option maxHeartbeats 4000000
namespace DL
open PySem PySem.Spec PyProof.Rows L2
section
variable {X : Cx} {S0 H0 : Hp} {ρ ρ1 : List Sl} {D : DEnds} {e a b c : Expr} {es : List Expr} {st : Stmt} {sts rest : List Stmt} {R R1 : Dt → Prop} {pos : Pos}
theorem dss_then (h1 : DS X S0 H0 st ρ { D with nx := fun z => z = ρ1 }) (h2 : DSs X S0 H0 rest ρ1 D) : DSs X S0 H0 (st :: rest) ρ D := dss_cons h1 fun _ e => by rw [e]; exact h2
/-- if t: .. return -/
theorem dss_ifr {k : Bool} {p : List Stmt} (hc : DT X c ρ k) (ha : k = true → DSs X S0 H0 p ρ { D with nx := fun _ => False }) (hb : k = false → DSs X S0 H0 rest ρ D) : DSs X S0 H0 (.If c p [] pos :: rest) ρ D :=
  dss_cons (M := fun z => z = ρ ∧ k = false) (ds_ifT hc (fun hk B σ H A => wpSs_mono (ha hk B σ H A) (fun _ _ ⟨_, q, _⟩ => q.elim) (fun _ _ q => q) (fun _ _ q => q) (fun _ _ q => q)) fun hk => dss_nil ⟨rfl, hk⟩) fun _ ⟨e, hk⟩ => by rw [e]; exact hb hk
theorem dss_ifrQ {B : Bool → Prop} {p : List Stmt} (hc : DQ X c ρ B) (ha : B true → DSs X S0 H0 p ρ { D with nx := fun _ => False }) (hb : B false → DSs X S0 H0 rest ρ D) : DSs X S0 H0 (.If c p [] pos :: rest) ρ D :=
  dss_cons (M := fun z => z = ρ ∧ B false) (ds_if hc (fun hk Bh σ H A => wpSs_mono (ha hk Bh σ H A) (fun _ _ ⟨_, q, _⟩ => q.elim) (fun _ _ q => q) (fun _ _ q => q) (fun _ _ q => q)) fun hk => dss_nil ⟨rfl, hk⟩) fun _ ⟨e, hk⟩ => by rw [e]; exact hb hk
/-- a return within -/
theorem ds_retE {d : Dt} (h : DE X e ρ d) (hr : D.rt d) (hf : D.fr = false := by rfl) : DS X S0 H0 (.Return (some e) pos) ρ D := ds_ret (DE.as h hr) hf
theorem ds_retLE {ds : List Dt} (h : DL X e ρ (fun z => z = ds)) (hr : D.rt (.lst ds)) (hf : D.fr = true := by rfl) : DS X S0 H0 (.Return (some e) pos) ρ D := ds_retL (DL.mono h fun _ r => by rw [r]; exact hr) hf
/-- a new list that is data at once -/
theorem ds_setF (i : Nat) {x : Str} {p2 : Pos} {ds : List Dt} (h : DL X e ρ (fun z => z = ds)) (hn : D.nx (ρ.set i (.dat (.lst ds)))) (hN : X.N.Nodup) (hi : X.N[i]? = some x := by rfl) (hx : Loc X.env.scope x := by first | exact Or.inl rfl | exact Or.inr rfl) (hs : swapsWith e (some (.Name x p2)) pos.line X.env = pure false := by rfl)
    (hf : X.fn x = true ∨ X.env.scope.names.lookup x = some .local := by first | exact .inl rfl | exact .inr rfl) : DS X S0 H0 (.Assign [.Name x p2] e pos) ρ D := ds_set i (DL.fzE h) hn hN hi hx hs hf
theorem de_cb {id : String} {x : Str} {p : Pos} {as : List Sl} {d : Dt} (hm : X.mg x = none) (hv : bootBuiltins x = some (.builtin id)) (ha : DA X (e :: es) ρ (fun z => z = as)) (hc : CD X (.builtin id) as (PD X.K (fun z => z = d))) (hg : Gl X x := by rfl)
    (hn : x ≠ "__name__" := by decide) (hdb : (x == ("__debug__" : Str)) = false := by decide) (he : starEach (e :: es) X.env = (false, eval e X.env) :: starEach es X.env := by rfl) (hpl : (backTo pos (starEach es X.env)).any (·.1) = false := by rfl) : DE X (.Call (.Name x p) (e :: es) [] pos) ρ d :=
  dr_cb hm hv ha (fun z r => by rw [r]; exact hc) hg hn hdb he hpl
theorem de_ct {T : String} {x : Str} {p : Pos} {as : List Sl} {d : Dt} (hm : X.mg x = none) (hv : bootBuiltins x = some (.type T)) (ha : DA X (e :: es) ρ (fun z => z = as)) (hc : CD X (.type T) as (PD X.K (fun z => z = d))) (hg : Gl X x := by rfl)
    (hn : x ≠ "__name__" := by decide) (hdb : (x == ("__debug__" : Str)) = false := by decide) (he : starEach (e :: es) X.env = (false, eval e X.env) :: starEach es X.env := by rfl) (hpl : (backTo pos (starEach es X.env)).any (·.1) = false := by rfl) : DE X (.Call (.Name x p) (e :: es) [] pos) ρ d :=
  dr_ct hm hv ha (fun z r => by rw [r]; exact hc) hg hn hdb he hpl
theorem bt_len : bootBuiltins "len" = some (.builtin "len") := by rfl
theorem bt_abs : bootBuiltins "abs" = some (.builtin "abs") := by rfl
theorem bt_max : bootBuiltins "max" = some (.builtin "max") := by rfl
theorem bt_min : bootBuiltins "min" = some (.builtin "min") := by rfl
theorem bt_all : bootBuiltins "all" = some (.builtin "all") := by rfl
theorem bt_isi : bootBuiltins "isinstance" = some (.builtin "isinstance") := by rfl
theorem bt_int : bootBuiltins "int" = some (.type "int") := by rfl
theorem bt_bool : bootBuiltins "bool" = some (.type "bool") := by rfl
theorem bt_list : bootBuiltins "list" = some (.type "list") := by rfl
theorem bt_tuple : bootBuiltins "tuple" = some (.type "tuple") := by rfl
theorem bt_str : bootBuiltins "str" = some (.type "str") := by rfl
theorem bt_range : bootBuiltins "range" = some (.type "range") := by rfl
/-- len of a word, a list, a tuple -/
theorem de_lenW {w : List Lt} {p : Pos} (hm : X.mg "len" = none) (ha : DE X e ρ (.str (enc w))) (hw : w.length ≤ 100000) (hg : Gl X "len" := by rfl) (he : starEach [e] X.env = [(false, eval e X.env)] := by rfl) : DE X (.Call (.Name "len" p) [e] [] pos) ρ (.int (w.length : Int)) :=
  de_cb hm bt_len (da_cons ha da_nil (by rw [he]; rfl)) (cd_lenW hw) hg (by decide) (by decide) (by rw [he]; rfl) rfl
theorem de_lenL {ds : List Dt} {p : Pos} (hm : X.mg "len" = none) (ha : DE X e ρ (.lst ds)) (hg : Gl X "len" := by rfl) (he : starEach [e] X.env = [(false, eval e X.env)] := by rfl) : DE X (.Call (.Name "len" p) [e] [] pos) ρ (.int (ds.length : Int)) :=
  de_cb hm bt_len (da_cons ha da_nil (by rw [he]; rfl)) cd_lenL hg (by decide) (by decide) (by rw [he]; rfl) rfl
theorem de_lenT {ds : List Dt} {p : Pos} (hm : X.mg "len" = none) (ha : DE X e ρ (.tup ds)) (hg : Gl X "len" := by rfl) (he : starEach [e] X.env = [(false, eval e X.env)] := by rfl) : DE X (.Call (.Name "len" p) [e] [] pos) ρ (.int (ds.length : Int)) :=
  de_cb hm bt_len (da_cons ha da_nil (by rw [he]; rfl)) cd_lenT hg (by decide) (by decide) (by rw [he]; rfl) rfl
/-- a def's call that gives one datum -/
theorem de_call {x : Str} {p : Pos} {k : Nat} {ps : List Str} {S : List Sl → (Dt → Prop) → Prop} {as : List Sl} {d : Dt} (F : Fn X.prog X.w X.K X.mg X.base x k ps S) (hr : Room k X.A) (ha : DA X (e :: es) ρ (fun z => z = as)) (hS : S as (fun z => z = d)) (hg : Gl X x := by rfl)
    (hdb : (x == ("__debug__" : Str)) = false := by decide) (he : starEach (e :: es) X.env = (false, eval e X.env) :: starEach es X.env := by rfl) (hpl : (backTo pos (starEach es X.env)).any (·.1) = false := by rfl) : DE X (.Call (.Name x p) (e :: es) [] pos) ρ d :=
  dr_call F hr ha (fun z r => by rw [r]; exact hS) hg hdb he hpl
theorem dr_call1 {x : Str} {p : Pos} {k : Nat} {ps : List Str} {S : List Sl → (Dt → Prop) → Prop} {as : List Sl} (F : Fn X.prog X.w X.K X.mg X.base x k ps S) (hr : Room k X.A) (ha : DA X (e :: es) ρ (fun z => z = as)) (hS : S as R) (hg : Gl X x := by rfl)
    (hdb : (x == ("__debug__" : Str)) = false := by decide) (he : starEach (e :: es) X.env = (false, eval e X.env) :: starEach es X.env := by rfl) (hpl : (backTo pos (starEach es X.env)).any (·.1) = false := by rfl) : DR X (.Call (.Name x p) (e :: es) [] pos) ρ R :=
  dr_call F hr ha (fun z r => by rw [r]; exact hS) hg hdb he hpl
theorem dl_call1 {x : Str} {p : Pos} {k : Nat} {ps : List Str} {S : List Sl → (List Dt → Prop) → Prop} {as : List Sl} {RL : List Dt → Prop} (F : FnL X.prog X.w X.K X.mg X.base x k ps S) (hr : Room k X.A) (ha : DA X (e :: es) ρ (fun z => z = as)) (hS : S as RL) (hg : Gl X x := by rfl)
    (hdb : (x == ("__debug__" : Str)) = false := by decide) (he : starEach (e :: es) X.env = (false, eval e X.env) :: starEach es X.env := by rfl) (hpl : (backTo pos (starEach es X.env)).any (·.1) = false := by rfl) : DL X (.Call (.Name x p) (e :: es) [] pos) ρ RL :=
  dl_call F hr ha (fun z r => by rw [r]; exact hS) hg hdb he hpl
end
section
variable {P : Program} {w : World} {K : PySem.W.Frag} {mg : Str → Option Value} {base : Heap} {N ps : List Str} {k : Nat} {x : Str} {params : Arguments} {body : List Stmt} {scope : Scope} {kws : List (Str × V)} {dvs : List V} {f : Addr} {fd : FuncData} {qual : Str}
/-- a def that gives one datum for one sort of arguments -/
theorem fn_one {S : List Sl → (Dt → Prop) → Prop} (F : FunD K x qual params body scope dvs kws f fd) (Sc : FnScope N ps scope)
    (h : ∀ as R, S as R → (as.length = ps.length ∧ ∀ s ∈ as, isMut s = false) ∧ ∀ (cdv : Value) (A : Around) (outer : List Env) (s : Shared) (H S0 : Hp) (E : XK), Room k (A.deeper (envOfC qual scope s.heap.objs.size f cdv)) →
      DSs (cxOf CX0 P w K mg base N qual scope f cdv A outer s H E).nox S0 H body (as ++ List.replicate (N.length - as.length) .un) { nx := fun _ => R .non, rt := R }) : FnOk P w K mg base CX0 (k + 1) f fd ps (spS K S) :=
  fn_data F Sc (fun as R q => (h as R q).1) fun cdv A outer s H S0 E as R hr q => (h as R q).2 cdv A outer s H S0 E hr
theorem fn_oneL {S : List Sl → (List Dt → Prop) → Prop} (F : FunD K x qual params body scope dvs kws f fd) (Sc : FnScope N ps scope)
    (h : ∀ as R, S as R → (as.length = ps.length ∧ ∀ s ∈ as, isMut s = false) ∧ ∀ (cdv : Value) (A : Around) (outer : List Env) (s : Shared) (H S0 : Hp) (E : XK), Room k (A.deeper (envOfC qual scope s.heap.objs.size f cdv)) →
      DSs (cxOf CX0 P w K mg base N qual scope f cdv A outer s H E).nox S0 H body (as ++ List.replicate (N.length - as.length) .un) { nx := fun _ => False, rt := fun d => ∃ ds, d = .lst ds ∧ R ds, fr := true }) : FnOk P w K mg base CX0 (k + 1) f fd ps (spL K S) :=
  fn_dataL F Sc (fun as R q => (h as R q).1) fun cdv A outer s H S0 E as R hr q => (h as R q).2 cdv A outer s H S0 E hr
end
end DL
/-! DLj -/
set_option Elab.async false
set_option linter.all false
set_option maxRecDepth 100000
set_option maxHeartbeats 4000000
namespace DL
open PySem PySem.Spec PyProof.Rows L2
section
variable {X : Cx} {S0 H0 : Hp} {ρ ρ1 ρA ρB : List Sl} {D : DEnds} {e a b c f : Expr} {es : List Expr} {st : Stmt} {sts rest : List Stmt} {R R1 : Dt → Prop} {pos : Pos}
theorem de_neg {i : Int} (h : DE X a ρ (.int i)) : DE X (.UnaryOp .USub a pos) ρ (.int (-i)) := fun Hs H σ E Q q => wpE_of (pe_un un_neg pe_wp) (h Hs H σ E _ fun v Hs' H' t ⟨d, r, p⟩ => by
  subst r
  exact ⟨i, p.int_inv, q _ Hs' H' t ⟨_, rfl, .int _⟩⟩)
/-- a choice whose sides are of one sort -/
theorem de_ifG {α : Type} (g : α → Dt) {p : Bool} {x y : α} (hc : DT X c ρ p) (ha : p = true → DE X a ρ (g x)) (hb : p = false → DE X b ρ (g y)) : DE X (.IfExp c a b pos) ρ (g (if p = true then x else y)) := DE.eq (de_if hc ha hb) (by split <;> rfl)
/-- an if whose sides go on -/
theorem dss_ift {k : Bool} {p q : List Stmt} (hc : DT X c ρ k) (ha : k = true → DSs X S0 H0 p ρ { D with nx := fun z => z = ρA }) (hb : k = false → DSs X S0 H0 q ρ { D with nx := fun z => z = ρB })
    (ra : k = true → DSs X S0 H0 rest ρA D) (rb : k = false → DSs X S0 H0 rest ρB D) : DSs X S0 H0 (.If c p q pos :: rest) ρ D := by
  cases k with
  | true => exact dss_then (ds_ifT hc ha (fun z => nomatch z)) (ra rfl)
  | false => exact dss_then (ds_ifT hc (fun z => nomatch z) hb) (rb rfl)
theorem dss_ifq {B : Bool → Prop} {MA MB : List Sl → Prop} {p q : List Stmt} (hc : DQ X c ρ B) (ha : B true → DSs X S0 H0 p ρ { D with nx := MA }) (hb : B false → DSs X S0 H0 q ρ { D with nx := MB })
    (ra : B true → ∀ z, MA z → DSs X S0 H0 rest z D) (rb : B false → ∀ z, MB z → DSs X S0 H0 rest z D) : DSs X S0 H0 (.If c p q pos :: rest) ρ D :=
  dss_cons (M := fun z => (B true ∧ MA z) ∨ (B false ∧ MB z))
    (ds_if hc (fun h Bh σ H A => wpSs_mono (ha h Bh σ H A) (fun _ _ ⟨z, m, A'⟩ => ⟨z, Or.inl ⟨h, m⟩, A'⟩) (fun _ _ q => q) (fun _ _ q => q) (fun _ _ q => q))
      fun h Bh σ H A => wpSs_mono (hb h Bh σ H A) (fun _ _ ⟨z, m, A'⟩ => ⟨z, Or.inr ⟨h, m⟩, A'⟩) (fun _ _ q => q) (fun _ _ q => q) (fun _ _ q => q))
    fun z m => by
      rcases m with ⟨h, m⟩ | ⟨h, m⟩
      · exact ra h z m
      · exact rb h z m
theorem dg2 (i j : Nat) {x y : Str} {d g : Dt} {k : Nat} {p1 p2 : Pos} {M : List Sl → Prop} (h : M ((ρ.set i (.dat d)).set j (.dat g))) (hN : X.N.Nodup) (hc : X.calm = true := by rfl) (hi : X.N[i]? = some x := by rfl) (hx : Loc X.env.scope x := by first | exact Or.inl rfl | exact Or.inr rfl) (hfx : X.fn x = true ∨ X.env.scope.names.lookup x = some .local := by first | exact .inl rfl | exact .inr rfl)
    (hj : X.N[j]? = some y := by rfl) (hy : Loc X.env.scope y := by first | exact Or.inl rfl | exact Or.inr rfl) (hfy : X.fn y = true ∨ X.env.scope.names.lookup y = some .local := by first | exact .inl rfl | exact .inr rfl)
    (hn : (assignEach [.Name x p1, .Name y p2] X.env).length = 2 := by rfl) (hst : (assignEach [.Name x p1, .Name y p2] X.env).findIdx? (·.1) = none := by rfl)
    (h1 : (assignEach [.Name x p1, .Name y p2] X.env).map (·.2) = assign (.Name x p1) X.env :: (assignEach [.Name y p2] X.env).map (·.2) := by rfl) (h2 : (assignEach [.Name y p2] X.env).map (·.2) = assign (.Name y p2) X.env :: (assignEach [] X.env).map (·.2) := by rfl) :
    DG X (.Tuple [.Name x p1, .Name y p2] k pos) (.tup [d, g]) [i, j] ρ M :=
  dg_tup (dgs_cons (M' := fun z => z = ρ.set i (.dat d)) (dg_name i rfl hN hi hx hfx) (fun z e => dgs_cons (L' := []) (M' := fun z' => z' = z.set j (.dat g)) (dg_name j rfl hN hj hy hfy) (fun z' e' => dgs_nil (by rw [e', e]; exact h)) h2) h1) rfl hc hn hst
theorem dg3 (i j l : Nat) {x y w : Str} {d g u : Dt} {k : Nat} {p1 p2 p3 : Pos} {M : List Sl → Prop} (h : M (((ρ.set i (.dat d)).set j (.dat g)).set l (.dat u))) (hN : X.N.Nodup) (hc : X.calm = true := by rfl) (hi : X.N[i]? = some x := by rfl) (hx : Loc X.env.scope x := by first | exact Or.inl rfl | exact Or.inr rfl) (hfx : X.fn x = true ∨ X.env.scope.names.lookup x = some .local := by first | exact .inl rfl | exact .inr rfl)
    (hj : X.N[j]? = some y := by rfl) (hy : Loc X.env.scope y := by first | exact Or.inl rfl | exact Or.inr rfl) (hfy : X.fn y = true ∨ X.env.scope.names.lookup y = some .local := by first | exact .inl rfl | exact .inr rfl)
    (hl : X.N[l]? = some w := by rfl) (hw : Loc X.env.scope w := by first | exact Or.inl rfl | exact Or.inr rfl) (hfw : X.fn w = true ∨ X.env.scope.names.lookup w = some .local := by first | exact .inl rfl | exact .inr rfl)
    (hn : (assignEach [.Name x p1, .Name y p2, .Name w p3] X.env).length = 3 := by rfl) (hst : (assignEach [.Name x p1, .Name y p2, .Name w p3] X.env).findIdx? (·.1) = none := by rfl)
    (h1 : (assignEach [.Name x p1, .Name y p2, .Name w p3] X.env).map (·.2) = assign (.Name x p1) X.env :: (assignEach [.Name y p2, .Name w p3] X.env).map (·.2) := by rfl) (h2 : (assignEach [.Name y p2, .Name w p3] X.env).map (·.2) = assign (.Name y p2) X.env :: (assignEach [.Name w p3] X.env).map (·.2) := by rfl)
    (h3 : (assignEach [.Name w p3] X.env).map (·.2) = assign (.Name w p3) X.env :: (assignEach [] X.env).map (·.2) := by rfl) :
    DG X (.Tuple [.Name x p1, .Name y p2, .Name w p3] k pos) (.tup [d, g, u]) [i, j, l] ρ M :=
  dg_tup (dgs_cons (M' := fun z => z = ρ.set i (.dat d)) (dg_name i rfl hN hi hx hfx) (fun z e => dgs_cons (L' := [l]) (M' := fun z' => z' = z.set j (.dat g)) (dg_name j rfl hN hj hy hfy) (fun z' e' => dgs_cons (L' := []) (M' := fun z2 => z2 = z'.set l (.dat u)) (dg_name l rfl hN hl hw hfw) (fun z2 e2 => dgs_nil (by rw [e2, e', e]; exact h)) h3) h2) h1) rfl hc hn hst
theorem de_scw {s : Sc} {w : List Lt} {k : Nat} {p2 : Pos} (h : DE X e ρ (scD s)) (hw : s.word = some w) : DE X (.Subscript e (.Constant (.int 5) k p2) pos) ρ (.str (enc w)) :=
  DE.eq (de_ix (R := fun z => z = woD s.word) h de_int (id_tup 5) (fun _ _ => rfl)) (by rw [hw] <;> rfl)
theorem de_scn {s : Sc} {k : Nat} {p2 : Pos} (h : DE X e ρ (scD s)) (hw : s.word = none) : DE X (.Subscript e (.Constant (.int 5) k p2) pos) ρ .non :=
  DE.eq (de_ix (R := fun z => z = woD s.word) h de_int (id_tup 5) (fun _ _ => rfl)) (by rw [hw] <;> rfl)
theorem de_sc {s : Sc} {k n : Nat} {p2 : Pos} {d : Dt} {i : Int} (h : DE X e ρ (scD s)) (hd : (scL s)[n]? = some d := by rfl) (hi : i = (n : Int) := by rfl) : DE X (.Subscript e (.Constant (.int i) k p2) pos) ρ d := de_ix h de_int (id_tup n hd hi) (fun _ _ => rfl)
theorem od_isNo {n : Option Nat} : OD X (compareOp .Is) (optD n) .non (fun z => z = .bl (decide (n = none))) := by
  have h : OD X (compareOp .Is) (optD n) .non (fun z => z = .bl (isNon (optD n))) := od_isN
  cases n <;> exact h
theorem od_notNo {n : Option Nat} : OD X (compareOp .IsNot) (optD n) .non (fun z => z = .bl (!decide (n = none))) := by
  have h : OD X (compareOp .IsNot) (optD n) .non (fun z => z = .bl (!isNon (optD n))) := od_notN
  cases n <;> exact h
theorem de_sides {k : Sd} {p1 : Pos} (T : Top X.w X.K X.mg) (hk : DE X b ρ (.str (sdS k))) (hn : k ≠ .no) (hg : Gl X "SIDES" := by rfl) (hs : PlainIx b := by exact fun _ _ => rfl) : DE X (.Subscript (.Name "SIDES" p1) b pos) ρ (.int (sdN k)) := fun Hs H σ E Q q =>
  wpE_of (pe_ix ix_kdict (pe_glob (v := .ref (He.ga X.K "SIDES")) hg T.g_SIDES rfl (by decide)) pe_wp hs) (hk Hs H σ E _ fun v H1s H1 t ⟨d, r, p⟩ => by
    subst r
    obtain ⟨es, n, D⟩ := T.sides
    refine ⟨_, sdS k, .int (sdN k), rfl, p.str_inv, ⟨es, n, ?_⟩, q _ H1s H1 t ⟨_, rfl, .int _⟩⟩
    cases k with
    | left => obtain ⟨u, h1, h2⟩ := T.s_left; exact ⟨u, D.at_, D.lit, h1, h2⟩
    | inn => obtain ⟨u, h1, h2⟩ := T.s_inn; exact ⟨u, D.at_, D.lit, h1, h2⟩
    | right => obtain ⟨u, h1, h2⟩ := T.s_right; exact ⟨u, D.at_, D.lit, h1, h2⟩
    | no => exact absurd rfl hn)
theorem de_startswith {x y : Str} {p1 cpos : Pos} (ho : DE X a ρ (.str x)) (h : DE X e ρ (.str y)) 
    (hbase : attributeBase a "startswith" X.env (eval a X.env) = eval a X.env := by rfl)
    (hfew : ((backTo cpos (starEach [e] X.env)).all (fun x => !x.1) && (backToKw cpos (keywordEach [] X.env)).all (fun x => x.1.isSome)
      && decide ([e].length + ([] : List Keyword).length + (if ([] : List Keyword).isEmpty then 0 else 1) < 30)) = true := by rfl)
    (hline : (p1.endLine == cpos.line) = true := by rfl) (hst : starEach [e] X.env = (false, eval e X.env) :: starEach [] X.env := by rfl) (hplain : (backTo cpos (starEach [] X.env)).any (·.1) = false := by rfl) :
    DE X (.Call (.Attribute a "startswith" p1) [e] [] cpos) ρ (.bl (Txt.startswith x y)) := fun Hs H σ E Q q =>
  wpE_of (pe_bm PySem.F.plainAttrs_str PySem.F.slot_str_startswith PySem.F.type_str_startswith mt_startswith pe_wp pa_wp hbase hfew hline hst hplain) (ho Hs H σ E _ fun v H1s H1 t1 ⟨d, r, p⟩ => by
    subst r
    rw [p.str_inv]
    refine ⟨(rfl : ("str" : String) = "str"), da_cons h da_nil hst H1s H1 σ (E.step t1) _ fun vs as H2s H2 t2 E2 r2 => ?_⟩
    subst r2
    obtain ⟨u, rfl, hu⟩ := one_dat E2
    rw [hu.str_inv]
    exact ⟨x, y, rfl, rfl, q _ H2s H2 (t1.trans t2) ⟨_, rfl, .bl _⟩⟩)
end
end DL
/-! DLk -/
set_option Elab.async false
set_option linter.all false
set_option maxRecDepth 100000
set_option maxHeartbeats 4000000
namespace DL
open PySem PySem.Spec PyProof.Rows L2
section
variable {X : Cx} {S0 H0 : Hp} {ρ : List Sl} {D : DEnds} {e a b c f : Expr} {es : List Expr} {R : Dt → Prop} {pos : Pos} {tg iter elt : Expr} {ifs : List Expr} {scope : Scope} {RL : List Dt → Prop}
theorem de_tp {x1 : Nat} {ds : List Dt} (h : DA X es ρ (fun z => z = ds.map Sl.dat)) (hl : ds.length ≤ 1000 := by exact Nat.le_of_ble_eq_true rfl) : DE X (.Tuple es x1 pos) ρ (.tup ds) := de_tup h hl
theorem dl_ls {ds : List Dt} (h : DA X es ρ (fun z => z = ds.map Sl.dat)) (hl : ds.length ≤ 100000 := by exact Nat.le_of_ble_eq_true rfl) : DL X (.List es pos) ρ (fun z => z = ds) := de_lst h hl
/-- every item passes: what comes is of the sort Rr, one for each -/
theorem lc_rel (Rr : Dt → Prop) {vs : List Nat} (hl : ∀ ds, RL ds → ds.length < 100000) (hr : ∀ d, Rr d → notInt d = true) (L : List Nat) (hL : ∀ j ∈ L, j ∈ vs) (ρ2 : Dt → List Sl)
    (h1 : ∀ ds, RL ds → ∀ d ∈ ds, ∀ s Hb C cl fp, DG (Bk X scope s Hb C cl fp) tg d L (wipeS ρ vs) (fun z => z = ρ2 d)) (h3 : ∀ ds, RL ds → ∀ d ∈ ds, ∀ s Hb C cl fp, DR (Bk X scope s Hb C cl fp) elt (ρ2 d) Rr) :
    Lc X scope tg elt [] vs ρ RL (fun l => ∃ ds, RL ds ∧ l.length = ds.length ∧ ∀ d ∈ l, Rr d) := fun ds r => by
  refine ⟨fun i l => l.length = i ∧ ∀ d ∈ l, Rr d, ⟨rfl, fun _ h => nomatch h⟩, fun i l hi ⟨e1, e2⟩ => ?_, fun i d l hd ⟨e1, e2⟩ => ?_, fun l ⟨e1, e2⟩ => ⟨ds, r, e1, e2⟩⟩
  · refine ⟨by have := hl ds r; omega, List.all_eq_true.mpr fun d hd => hr d (e2 d hd)⟩
  · have hm := List.mem_of_getElem? hd
    refine ⟨L, ρ2 d, fun z => z = true, hL, h1 ds r d hm, fun _ _ _ _ _ => dqs_nil, fun _ => ⟨Rr, h3 ds r d hm, fun z hz => ⟨by rw [List.length_append, e1]; rfl, fun x hx => ?_⟩⟩, fun h => nomatch h⟩
    rcases List.mem_append.mp hx with q | q
    · exact e2 x q
    · rw [List.mem_singleton.mp q]; exact hz
/-- some items pass: what comes is of the sort Rr -/
theorem lc_some (Rr : Dt → Prop) {vs : List Nat} (hl : ∀ ds, RL ds → ds.length < 100000) (hr : ∀ d, Rr d → notInt d = true) (L : List Nat) (hL : ∀ j ∈ L, j ∈ vs) (ρ2 : Dt → List Sl) (Bd : Dt → Bool → Prop)
    (h1 : ∀ ds, RL ds → ∀ d ∈ ds, ∀ s Hb C cl fp, DG (Bk X scope s Hb C cl fp) tg d L (wipeS ρ vs) (fun z => z = ρ2 d)) (h2 : ∀ ds, RL ds → ∀ d ∈ ds, ∀ s Hb C cl fp, DQs (Bk X scope s Hb C cl fp) ifs (ρ2 d) (Bd d))
    (h3 : ∀ ds, RL ds → ∀ d ∈ ds, Bd d true → ∀ s Hb C cl fp, DR (Bk X scope s Hb C cl fp) elt (ρ2 d) Rr) :
    Lc X scope tg elt ifs vs ρ RL (fun l => ∃ ds, RL ds ∧ l.length ≤ ds.length ∧ ∀ d ∈ l, Rr d) := fun ds r => by
  refine ⟨fun i l => l.length ≤ i ∧ ∀ d ∈ l, Rr d, ⟨Nat.le_refl 0, fun _ h => nomatch h⟩, fun i l hi ⟨e1, e2⟩ => ?_, fun i d l hd ⟨e1, e2⟩ => ?_, fun l ⟨e1, e2⟩ => ⟨ds, r, e1, e2⟩⟩
  · refine ⟨by have := hl ds r; omega, List.all_eq_true.mpr fun d hd => hr d (e2 d hd)⟩
  · have hm := List.mem_of_getElem? hd
    refine ⟨L, ρ2 d, Bd d, hL, h1 ds r d hm, h2 ds r d hm, fun hb => ⟨Rr, h3 ds r d hm hb, fun z hz => ⟨by rw [List.length_append]; simp; exact e1, fun x hx => ?_⟩⟩, fun h => ⟨by omega, e2⟩⟩
    rcases List.mem_append.mp hx with q | q
    · exact e2 x q
    · rw [List.mem_singleton.mp q]; exact hz
theorem bls_inv {K : PySem.W.Frag} {H : Hp} : ∀ {zs : List Bool} {xs : List V}, RepAll K H xs (zs.map Dt.bl) → xs = zs.map V.bl
  | [], _, h => by cases h; rfl
  | z :: zs, _, h => by
    cases h with
    | cons h1 h2 => rw [h1.bl_inv, bls_inv h2]; rfl
theorem cd_all {bs : List Bool} (hc : X.calm = true := by rfl) : CD X (.builtin "all") [.dat (.lst (bs.map Dt.bl))] (PD X.K (fun z => z = .bl (bs.all id))) := fun Hs H vs E Q q => by
  obtain ⟨v, rfl, h⟩ := one_dat E
  obtain ⟨a, xs, rfl, h1, h2⟩ := h.lst_inv
  have e := bls_inv h2
  subst e
  exact wpC_of (cr_all hc) ⟨a, bs, rfl, Or.inl (Or.inl (E.sub _ _ h1)), q _ Hs H (Step.refl E.sub) ⟨_, rfl, .bl _⟩⟩
theorem bls_of : ∀ (l : List Dt), (∀ d ∈ l, ∃ b, d = Dt.bl b) → ∃ bs : List Bool, l = bs.map Dt.bl ∧ bs.length = l.length
  | [], _ => ⟨[], rfl, rfl⟩
  | d :: l, h => by
    obtain ⟨b, hb⟩ := h d (by simp)
    obtain ⟨bs, e1, e2⟩ := bls_of l fun x hx => h x (by simp [hx])
    exact ⟨b :: bs, by rw [hb, e1]; rfl, by simp [e2]⟩
/-- all([..]) of bools -/
theorem dr_all {p : Pos} (hm : X.mg "all" = none) (ha : DL X e ρ (fun l => ∀ d ∈ l, ∃ b, d = Dt.bl b)) (hc : X.calm = true := by rfl) (hg : Gl X "all" := by rfl) (he : starEach [e] X.env = [(false, eval e X.env)] := by rfl) : DR X (.Call (.Name "all" p) [e] [] pos) ρ (fun d => ∃ b, d = .bl b ∧ True) :=
  dr_cb hm bt_all (dar_cons (DL.fz ha) da_nil (S' := fun as => ∃ bs : List Bool, as = [.dat (.lst (bs.map Dt.bl))]) (fun d as ⟨ds, e1, e2⟩ e3 => by
    obtain ⟨bs, q1, _⟩ := bls_of ds e2
    exact ⟨bs, by rw [e1, e3, q1]⟩) (by rw [he] <;> rfl)) (fun as ⟨bs, r⟩ => by
      rw [r]
      exact fun Hs H vs E Q q => cd_all hc Hs H vs E Q fun z Hs' H' t ⟨d, e1, e2⟩ => q z Hs' H' t ⟨d, ⟨_, e1, trivial⟩, e2⟩) hg (by decide) (by decide) (by rw [he] <;> rfl) rfl
theorem de_all {p : Pos} {bs : List Bool} (hm : X.mg "all" = none) (ha : DL X e ρ (fun l => l = bs.map Dt.bl)) (hc : X.calm = true := by rfl) (hg : Gl X "all" := by rfl) (he : starEach [e] X.env = [(false, eval e X.env)] := by rfl) : DE X (.Call (.Name "all" p) [e] [] pos) ρ (.bl (bs.all id)) :=
  de_cb hm bt_all (da_cons (DL.fzE ha) da_nil (by rw [he] <;> rfl)) (cd_all hc) hg (by decide) (by decide) (by rw [he] <;> rfl) rfl
/-- a range's items as a list -/
theorem rgV_nat (n : Nat) : rgV 0 (n : Int) = (List.range n).map fun i : Nat => V.int (i : Int) := by
  unfold rgV
  rw [Int.sub_zero, Int.toNat_natCast]
  apply List.map_congr_left
  intro i _
  rw [Int.zero_add]
theorem rep_upTo {K : PySem.W.Frag} {H : Hp} (n : Nat) : RepAll K H (rgV 0 (n : Int)) (upTo n) := by
  rw [rgV_nat]
  unfold upTo
  have h := repInts (K := K) (H := H) ((List.range n).map fun i : Nat => (i : Int))
  rw [List.map_map, List.map_map] at h
  exact h
theorem dl_listRg1 {n : Nat} {p p2 pos2 : Pos} (hml : X.mg "list" = none) (hm : X.mg "range" = none) (ha : DE X a ρ (.int (n : Int))) (hn : n ≤ 100000) (hc : X.calm = true := by rfl) (hgl : Gl X "list" := by rfl) (hg : Gl X "range" := by rfl) (hs : starEach [a] X.env = (false, eval a X.env) :: starEach [] X.env := by rfl)
    (hs2 : starEach [.Call (.Name "range" p) [a] [] pos2] X.env = (false, eval (.Call (.Name "range" p) [a] [] pos2) X.env) :: starEach [] X.env := by rfl) : DL X (.Call (.Name "list" p2) [.Call (.Name "range" p) [a] [] pos2] [] pos) ρ (fun z => z = upTo n) := fun Hs H σ E Q q =>
  wpE_of (pe_listRg hc hgl hml (prg_1 hg hm pe_wp hs) hs2) (ha Hs H σ E _ fun v H1s H1 t1 ⟨d, r, p⟩ => by
    subst r
    refine ⟨(n : Int), p.int_inv, RgOk.of_le (by omega) (by omega) (by omega) (by omega), fun l hl => ?_⟩
    exact q _ H1s _ (t1.trans (Step.newM t1.sub hl)) ⟨l, _, _, rfl, t1.free hl, t1.sub.free hl, upd_same, rep_upTo n, rfl⟩)
/-- ints of a range of two bounds -/
def rg2 (a b : Int) : List Dt := (List.range (b - a).toNat).map fun i : Nat => Dt.int (a + (i : Int))
theorem rep_rg2 {K : PySem.W.Frag} {H : Hp} (a b : Int) : RepAll K H (rgV a b) (rg2 a b) := by
  unfold rgV rg2
  have h := repInts (K := K) (H := H) ((List.range (b - a).toNat).map fun i : Nat => a + (i : Int))
  rw [List.map_map, List.map_map] at h
  exact h
theorem dl_listRg2 {i j : Int} {p p2 pos2 : Pos} (hml : X.mg "list" = none) (hm : X.mg "range" = none) (ha : DE X a ρ (.int i)) (hb : DE X b ρ (.int j)) (hi : 0 ≤ i ∧ i ≤ 100000) (hj : 0 ≤ j ∧ j ≤ 100000) (hc : X.calm = true := by rfl) (hgl : Gl X "list" := by rfl) (hg : Gl X "range" := by rfl) (hs : starEach [a, b] X.env = (false, eval a X.env) :: starEach [b] X.env := by rfl)
    (nb : starEach [b] X.env = (false, eval b X.env) :: starEach [] X.env := by rfl) (hp : (backTo pos2 (starEach [b] X.env)).any (·.1) = false := by rfl)
    (hs2 : starEach [.Call (.Name "range" p) [a, b] [] pos2] X.env = (false, eval (.Call (.Name "range" p) [a, b] [] pos2) X.env) :: starEach [] X.env := by rfl) : DL X (.Call (.Name "list" p2) [.Call (.Name "range" p) [a, b] [] pos2] [] pos) ρ (fun z => z = rg2 i j) := fun Hs H σ E Q q =>
  wpE_of (pe_listRg hc hgl hml (prg_2 hg hm pe_wp pe_wp hs nb hp) hs2) (ha Hs H σ E _ fun v H1s H1 t1 ⟨d, r, p⟩ => hb H1s H1 σ (E.step t1) _ fun u H2s H2 t2 ⟨d2, r2, p2⟩ => by
    subst r r2
    refine ⟨i, j, p.int_inv, p2.int_inv, RgOk.of_le (by omega) (by omega) (by omega) (by omega), fun l hl => ?_⟩
    have t := t1.trans t2
    exact q _ H2s _ (t.trans (Step.newM t2.sub hl)) ⟨l, _, _, rfl, t.free hl, t2.sub.free hl, upd_same, rep_rg2 i j, rfl⟩)
theorem RepAll.reverse {K : PySem.W.Frag} {H : Hp} : ∀ {vs : List V} {ds : List Dt}, RepAll K H vs ds → RepAll K H vs.reverse ds.reverse
  | _, _, .nil => .nil
  | _, _, .cons r t => by
    rw [List.reverse_cons, List.reverse_cons]
    exact RepAll.append (RepAll.reverse t) (.one r)
end
end DL
/-! DLl -/
set_option Elab.async false
set_option linter.all false
set_option maxRecDepth 100000
set_option maxHeartbeats 4000000
namespace DL
open PySem PySem.Spec PyProof.Rows L2
def onlyDat : Sl → Bool
  | .un => true
  | .dat _ => true
  | .scr _ => true
  | _ => false
theorem En.any {K : PySem.W.Frag} {Hs H H' : Hp} {σ : L2.St} {ρ : List Sl} (E : En K Hs H σ ρ) (hd : ∀ s ∈ ρ, onlyDat s = true) (h : Ex Hs H') : En K Hs H' σ ρ := by
  refine ⟨h, E.len, fun i s hi => ?_, fun i j di dj h1 => ?_⟩
  · have z := E.sl i s hi
    have q := hd s (List.mem_of_getElem? hi)
    cases s with
    | un => trivial
    | dat d => exact z
    | scr ns => exact z
    | _ => cases q
  · have q := hd _ (List.mem_of_getElem? h1)
    cases q
theorem wipeS_mem {ρ : List Sl} : ∀ (vs : List Nat) (s : Sl), s ∈ wipeS ρ vs → s = .un ∨ s ∈ ρ
  | [], s, h => Or.inr h
  | v :: vs, s, h => by
    unfold wipeS at h
    rcases List.mem_or_eq_of_mem_set h with z | z
    · exact wipeS_mem vs s z
    · exact Or.inl z
/-- the heap but for one place -/
def less (H : Hp) (p : Addr) : Hp := fun a => if a = p then none else H a
theorem less_ne {H : Hp} {p a : Addr} (h : a ≠ p) : less H p a = H a := by unfold less; rw [if_neg h]
theorem less_same {H : Hp} {p : Addr} : less H p p = none := by unfold less; rw [if_pos rfl]
theorem ex_less {Hs H : Hp} {p : Addr} (e : Ex Hs H) (h : Hs p = none) : Ex Hs (less H p) := fun a o ha => by
  have hn : a ≠ p := fun z => by subst z; rw [h] at ha; cases ha
  rw [less_ne hn]; exact e a o ha
theorem Step.less {Hs H Hs1 H1 : Hp} {p : Addr} (t : Step Hs H Hs1 H1) (h : H p = none) (h2 : Hs1 p = none) : Step Hs H Hs1 (less H1 p) := by
  refine ⟨t.fz, ex_less t.sub h2, t.new, fun a o ha hb => ?_, fun a o ha hb => ?_⟩
  · have hn : a ≠ p := fun z => by subst z; rw [h] at ha; cases ha
    rw [less_ne hn]; exact t.keep a o ha hb
  · have hn : a ≠ p := fun z => by subst z; rw [h] at ha; cases ha
    rw [less_ne hn]; exact t.box a o ha hb
theorem Step.back {Hs H : Hp} {p : Addr} (e : Ex Hs H) : Step Hs (DL.less H p) Hs H := by
  refine ⟨Ex.refl _, e, fun a _ h => h, fun a o ha _ => ?_, fun a o ha hb => ⟨o, ?_, hb⟩⟩
  · have hn : a ≠ p := fun z => by subst z; rw [less_same] at ha; cases ha
    rw [less_ne hn] at ha; exact ha
  · have hn : a ≠ p := fun z => by subst z; rw [less_same] at ha; cases ha
    rw [less_ne hn] at ha; exact ha
section
variable {X : Cx} {S0 H0 : Hp} {ρ : List Sl} {D : DEnds} {e a b c : Expr} {es : List Expr} {pos : Pos} {tg iter tg1 iter1 elt : Expr} {scope : Scope} {own : List (Str × Nat)}
abbrev iB (X : Cx) (scope : Scope) (tg iter : Expr) : TI := fun σ H R => ∀ s Hb C cl fp, wpI (Bk X scope s Hb C cl fp) tg iter σ H R
/-- what the turns of two clauses give, exactly -/
structure Lc2 (X : Cx) (scope : Scope) (tg tg1 iter1 elt : Expr) (vs vs1 : List Nat) (ρ : List Sl) {α β : Type} (as : List α) (encA : α → Dt) (bs : α → List β) (encB : β → Dt) (g : α → β → Dt) : Prop where
  len : (as.flatMap fun a => (bs a).map (g a)).length < 100000
  not : ∀ a ∈ as, ∀ b ∈ bs a, notInt (g a b) = true
  ex : ∃ (L L1 : List Nat) (ρ2 : α → List Sl) (ρ3 : α → β → List Sl), (∀ a ∈ as, ∀ s ∈ ρ2 a, onlyDat s = true) ∧ (∀ j ∈ L, j ∈ vs) ∧ (∀ j ∈ L1, j ∈ vs1) ∧
    (∀ a ∈ as, ∀ s Hb C cl fp, DG (Bk X scope s Hb C cl fp) tg (encA a) L (wipeS ρ vs) (fun z => z = ρ2 a)) ∧ (∀ a ∈ as, ∀ s Hb C cl fp, DI (Bk X scope s Hb C cl fp) tg1 iter1 (ρ2 a) (fun ds => ds = (bs a).map encB)) ∧
    (∀ a ∈ as, ∀ b ∈ bs a, ∀ s Hb C cl fp, DG (Bk X scope s Hb C cl fp) tg1 (encB b) L1 (wipeS (ρ2 a) vs1) (fun z => z = ρ3 a b)) ∧ (∀ a ∈ as, ∀ b ∈ bs a, ∀ s Hb C cl fp, DE (Bk X scope s Hb C cl fp) elt (ρ3 a b) (g a b))
theorem flat_take {α : Type} (f : α → List Dt) (as : List α) (i : Nat) (a : α) (h : as[i]? = some a) : (as.take (i + 1)).flatMap f = (as.take i).flatMap f ++ f a := by
  rw [List.take_add_one, h, List.flatMap_append]
  simp
theorem flat_le {α : Type} (f : α → List Dt) (as : List α) (i : Nat) : ((as.take i).flatMap f).length ≤ (as.flatMap f).length := by
  have e : as.flatMap f = (as.take i).flatMap f ++ (as.drop i).flatMap f := by rw [← List.flatMap_append, List.take_append_drop]
  rw [e, List.length_append]
  omega
theorem map_take {β : Type} (g : β → Dt) (bs : List β) (j : Nat) (b : β) (h : bs[j]? = some b) : (bs.take (j + 1)).map g = (bs.take j).map g ++ [g b] := by
  rw [List.take_add_one, h, List.map_append]
  simp
theorem tv_lc2 {α β : Type} {as : List α} {encA : α → Dt} {bs : α → List β} {encB : β → Dt} {g : α → β → Dt} {vs vs1 : List Nat} (hit : DI X tg iter ρ (fun ds => ds = as.map encA)) (h : Lc2 X scope tg tg1 iter1 elt vs vs1 ρ as encA bs encB g) :
    TV X.K (tLc2 (wpI X tg iter) (gB X scope tg) (tB' X scope []) (iB X scope tg1 iter1) (gB X scope tg1) (tB' X scope []) (eB X scope elt) vs vs1) ρ (PL X.K fun z => z = as.flatMap fun a => (bs a).map (g a)) := fun Hs H σ E Q q =>
  hit Hs H σ E _ fun J H1s H1 ds t1 r ⟨G, Y, W, hG, hY⟩ Dl hD => by
    subst r
    obtain ⟨hlen, hnot, L, L1, ρ2, ρ3, hdat, hL, hL1, h1, h2, h3, h4⟩ := h
    rw [List.length_map] at W hY
    have E1 := (E.step t1).wipe vs
    have flat_not : ∀ i, ((as.take i).flatMap fun a => (bs a).map (g a)).all notInt = true := fun i => by
      rw [List.all_eq_true]
      intro x hx
      obtain ⟨a, ha, hx⟩ := List.mem_flatMap.mp hx
      obtain ⟨b, hb, rfl⟩ := List.mem_map.mp hx
      exact hnot a (List.mem_of_mem_take ha) b hb
    let Pv : Nat → Hp → Prop := fun i H' => ∃ Hs' xs l, Step H1s H1 Hs' H' ∧ Hs' Dl = none ∧ H' Dl = some (.lst xs) ∧ RepAll X.K Hs' xs l ∧ l = (as.take i).flatMap fun a => (bs a).map (g a)
    refine ⟨fun i m H' => m = as.length - i ∧ i ≤ as.length ∧ Pv i H', ⟨as.length, by simp, Nat.zero_le _, H1s, [], [], Step.newM t1.sub hD, t1.sub.free hD, upd_same, .nil, rfl⟩, ?_⟩
    rintro i m H2 ⟨rfl, hi, Hs2, xs, l, t2, p1, p2, p3, p4⟩
    by_cases hlt : i < as.length
    · refine .inr ⟨W.goes i H2 hlt (hG Hs2 H2 t2.fz t2.sub), Pv (i + 1), fun H' p' => ⟨as.length - (i + 1), by omega, rfl, hlt, p'⟩, fun x H3 hy => ?_⟩
      obtain ⟨Hs3, d, t3, hd3, hr3⟩ := hY i Hs2 H2 x H3 hlt t2.fz t2.sub (W.yields i H2 x H3 hlt (hG Hs2 H2 t2.fz t2.sub) hy)
      have ha : as[i]? = some as[i] := by simp [hlt]
      have ed : d = encA as[i] := by
        rw [List.getElem?_map, ha] at hd3
        simpa using hd3.symm
      have hm : as[i] ∈ as := List.getElem_mem hlt
      generalize as[i] = av at ha hm ed
      subst ed
      have hnb : ¬ IsBox (.lst xs) := notBox p3 (by rw [p4]; exact flat_not i)
      have E3 := (E1.step t2).step t3
      have key : ∀ {Hs4 H4}, Step Hs2 H2 Hs4 H4 → Step H1s H1 Hs4 H4 ∧ Hs4 Dl = none ∧ H4 Dl = some (.lst xs) ∧ RepAll X.K Hs4 xs l := fun t => ⟨t2.trans t, t.new _ (by rw [p2]; exact fun z => nomatch z) p1, t.keep _ _ p2 hnb, RepAll.mono t.fz _ _ p3⟩
      intro s Hb C cl fp
      refine h1 av hm s Hb C cl fp Hs3 H3 (wipe σ vs) x E3 hr3 _ fun σ4 ρ4 Hs4 H4 t4 E4 A4 m4 => ?_
      subst m4
      refine ⟨wipe_same hL A4.len (fun j hj => (A4.out j hj).1), fun s Hb C cl fp => dqs_nil (X := Bk X scope s Hb C cl fp) (ρ := ρ2 av) Hs4 H4 σ4 E4 _ fun k Hs5 H5 t5 kB => ?_⟩
      subst kB
      show iB X scope tg1 iter1 σ4 H5 _
      intro s Hb C cl fp
      refine h2 av hm s Hb C cl fp Hs5 H5 σ4 (E4.step t5) _ fun J1 H6s H6 ds1 t6 r1 ⟨G1, Y1, W1, hG1, hY1⟩ => ?_
      subst r1
      rw [List.length_map] at W1 hY1
      have T6 : Step Hs2 H2 H6s H6 := ((t3.trans t4).trans t5).trans t6
      have E60 := ((E4.step t5).step t6).wipe vs1
      let Pv1 : Nat → Hp → Prop := fun j H' => ∃ Hs' ys l', Step H6s (less H6 Dl) Hs' H' ∧ Hs' Dl = none ∧ H' Dl = some (.lst ys) ∧ RepAll X.K Hs' ys l' ∧ l' = l ++ ((bs av).take j).map (g av)
      obtain ⟨k1, k2, k3, k4⟩ := key T6
      have E6 := E60.any (fun s hs => by
        rcases wipeS_mem vs1 s hs with z | z
        · rw [z]; rfl
        · exact hdat av hm s z) (ex_less t6.sub k2)
      refine ⟨fun j k H' => k = (bs av).length - j ∧ j ≤ (bs av).length ∧ Pv1 j H', ⟨(bs av).length, by simp, Nat.zero_le _, H6s, xs, l, Step.back t6.sub, k2, k3, k4, by simp⟩, ?_⟩
      rintro j k H7 ⟨rfl, hj, Hs7, ys, l', t7, g1, g2, g3, g4⟩
      by_cases hjl : j < (bs av).length
      · refine .inr ⟨W1.goes j H7 hjl (hG1 Hs7 H7 t7.fz t7.sub), Pv1 (j + 1), fun H' p' => ⟨(bs av).length - (j + 1), by omega, rfl, hjl, p'⟩, fun x1 H8 hy1 => ?_⟩
        obtain ⟨Hs8, d1, t8, hd8, hr8⟩ := hY1 j Hs7 H7 x1 H8 hjl t7.fz t7.sub (W1.yields j H7 x1 H8 hjl (hG1 Hs7 H7 t7.fz t7.sub) hy1)
        have hb : (bs av)[j]? = some (bs av)[j] := by simp [hjl]
        have ed1 : d1 = encB (bs av)[j] := by
          rw [List.getElem?_map, hb] at hd8
          simpa using hd8.symm
        have hmb : (bs av)[j] ∈ bs av := List.getElem_mem hjl
        generalize (bs av)[j] = bv at hb hmb ed1
        subst ed1
        have hall : l'.all notInt = true := by
          rw [g4, List.all_append, p4, flat_not i, Bool.true_and, List.all_eq_true]
          intro x hx
          obtain ⟨b, hb, rfl⟩ := List.mem_map.mp hx
          exact hnot av hm b (List.mem_of_mem_take hb)
        have hlen2 : l'.length < 100000 := by
          have e1 : (l ++ ((bs av).map (g av))).length ≤ (as.flatMap fun a => (bs a).map (g a)).length := by
            rw [p4, ← flat_take (fun a => (bs a).map (g a)) as i av ha]
            exact flat_le _ as (i + 1)
          have e2 : l'.length ≤ (l ++ ((bs av).map (g av))).length := by
            rw [g4, List.length_append, List.length_append, List.length_map, List.length_map, List.length_take]
            omega
          omega
        have hnb1 : ¬ IsBox (.lst ys) := notBox g3 hall
        intro s Hb C cl fp
        refine h3 av hm bv hmb s Hb C cl fp Hs8 H8 (wipe σ4 vs1) x1 ((E6.step t7).step t8) hr8 _ fun σ9 ρ9 Hs9 H9 t9 E9 A9 m9 => ?_
        subst m9
        refine ⟨wipe_same hL1 A9.len (fun j hj => (A9.out j hj).1), fun s Hb C cl fp => dqs_nil (X := Bk X scope s Hb C cl fp) (ρ := ρ3 av bv) Hs9 H9 σ9 E9 _ fun k Hs10 H10 t10 kB => ?_⟩
        subst kB
        show eB X scope elt σ9 H10 _
        intro s Hb C cl fp
        refine h4 av hm bv hmb s Hb C cl fp Hs10 H10 σ9 (E9.step t10) _ fun v Hs11 H11 t11 ⟨gd, r11, p11⟩ => ?_
        subst r11
        have T11 : Step Hs7 H7 Hs11 H11 := ((t8.trans t9).trans t10).trans t11
        have z1 := T11.new _ (by rw [g2]; exact fun z => nomatch z) g1
        have z2 := T11.keep _ _ g2 hnb1
        refine ⟨ys, z2, Nat.lt_of_lt_of_le (by rw [g3.length]; exact hlen2) (by decide), Hs11, ys ++ [v], l' ++ [g av bv], (t7.trans T11).mut less_same z1, z1, upd_same, (RepAll.mono T11.fz _ _ g3).append (.one p11), ?_⟩
        rw [map_take (g av) (bs av) j bv hb, ← List.append_assoc, ← g4]
      · have ej : j = (bs av).length := by omega
        subst ej
        refine .inl ⟨W1.stops H7 (hG1 Hs7 H7 t7.fz t7.sub), Hs7, ys, l', ((t2.trans T6).less hD k2).trans t7, g1, g2, g3, ?_⟩
        rw [g4, List.take_length, p4, flat_take (fun a => (bs a).map (g a)) as i av ha]
    · have ei : i = as.length := by omega
      subst ei
      refine .inl ⟨W.stops H2 (hG Hs2 H2 t2.fz t2.sub), q (.ref Dl) Hs2 H2 (t1.trans t2) ⟨Dl, xs, l, rfl, t1.free hD, p1, p2, p3, ?_⟩⟩
      rw [p4, List.take_length]
theorem ds_lc2F (i : Nat) {y : Str} {py spos : Pos} (own : List (Str × Nat)) {vs1 : List Nat} {α β : Type} {as : List α} {encA : α → Dt} {bs : α → List β} {encB : β → Dt} {g : α → β → Dt} (hit : DI X tg iter ρ (fun ds => ds = as.map encA)) (h : Lc2 X scope tg tg1 iter1 elt (own.map (·.2)) vs1 ρ as encA bs encB g) (hn : D.nx (ρ.set i (.dat (.lst (as.flatMap fun a => (bs a).map (g a)))))) (hN : X.N.Nodup) (ok : BlkOk X.N X.env.scope scope own) (hv : ∀ i ∈ vs1, i ∈ own.map (·.2)) (hy : X.N[i]? = some y := by rfl) (hyl : X.env.scope.names.lookup y = some .local := by rfl)
    (hsw : swapsWith (.ListComp elt [⟨tg, iter, [], 0⟩, ⟨tg1, iter1, [], 0⟩] scope pos) (some (.Name y py)) spos.line X.env = pure true := by exact sw_true rfl rfl rfl (by decide +kernel)) (hc : X.calm = true := by rfl) (hs : ∀ x, foldedSetIterable iter X.env x = pure x := by intro _; rfl) (hs1 : ∀ env x, foldedSetIterable iter1 env x = pure x := by intro _ _; rfl) :
    DS X S0 H0 (.Assign [.Name y py] (.ListComp elt [⟨tg, iter, [], 0⟩, ⟨tg1, iter1, [], 0⟩] scope pos) spos) ρ D := fun B σ H ⟨Hs, h1, h2, h3, h4⟩ =>
  wpS_of (ps_setLc2 hc hN hy hyl hsw pi_wp ok hv (fun s H C cl fp => ⟨fun pins s' σ H v u Q I r h => h _ _ _ _ _ pins s' u I r⟩) (fun s H C cl fp => ⟨fun pins s' σ H Q I h => h _ _ _ _ _ pins s' I⟩)
      (fun s H C cl fp => ⟨fun pins s' σ H R I h => h _ _ _ _ _ pins s' I⟩) (fun s H C cl fp => ⟨fun pins s' σ H v u Q I r h => h _ _ _ _ _ pins s' u I r⟩) (fun s H C cl fp => ⟨fun pins s' σ H Q I h => h _ _ _ _ _ pins s' I⟩) (fun s H C cl fp => ⟨fun pins s' σ H Q I h => h _ _ _ _ _ pins s' I⟩) hs hs1)
    (tv_lc2 hit h Hs H σ h3 _ fun v Hs' H' t ⟨p, xs, ds, g1, g2, g3, g4, g5, g6⟩ => by
      subst g1 g6
      have t' := t.freeze g2 g4 g3
      exact ⟨_, hn, At.asg h1 h2 h4 t' ((h3.step t').setD (.lst upd_same (RepAll.mono (Ex.new g3) _ _ g5))) Asg.set⟩)
end
end DL
/-! DLm -/
set_option Elab.async false
set_option linter.all false
set_option maxRecDepth 100000
set_option maxHeartbeats 4000000
namespace DL
open PySem PySem.Spec PyProof.Rows L2
def Ikd (es : Array DictEntry) : It := ⟨fun i _ => i < es.size, fun i H x H' => H' = H ∧ ∃ en, es[i]? = some en ∧ RelV x en.key, fun i _ => es.size ≤ i⟩
section
variable {X : Cx} {tg : Expr} {d : Addr} {es : Array DictEntry} {n : Nat}
theorem turn_kd (D : KDict X.K X.w d es n) (it : Addr) (hk : ∀ (i : Nat) en, es[i]? = some en → ∃ x, RelV x en.key) : Turn X.prog X.w X.K tg (Ikd es) [it] it (fun i h => h.IsKeyIter it d i es.size n) where
  mem := by simp
  obj := fun i h st b hb => by
    obtain ⟨o, ho, hc, hd⟩ := st
    have e' : b = it := by simpa using hb
    rw [e']; exact ⟨o, ho, fun v q => by rw [hd] at q; cases q⟩
  keep := fun i h h' st k => by
    obtain ⟨o, ho, hr⟩ := st
    exact ⟨o, k it (by simp) o ho, hr⟩
  item := by
    intro X' hP hw hK hc i pins s σ H E I hf st hg
    obtain ⟨f0, f1, f2, f3, f4, f5⟩ := hf it (by simp)
    have hod := I.kIn _ _ (by rw [hK]; exact D.at_)
    have hx : es[i]? = some es[i] := Array.getElem?_eq_getElem hg
    obtain ⟨x, rx⟩ := hk i _ hx
    rw [← hP, ← hw]
    refine next_key_item st hod rfl rfl hx fun h' hit' sb => ?_
    have I1 : Inv X' pins σ H { s with heap := h', toks := s.toks } := I.turned (fun b o hb e => (sb.2 b (by simpa using hb)).trans e) f0 f1 f3 f4 f5
    obtain ⟨oi, e, cc, dd⟩ := id hit'
    exact ⟨_, rfl, go_of (s := { s with heap := h' }) e cc dd (by decide) ⟨x, H, I1, rx, ⟨rfl, _, hx, rx⟩, hit', fun b hb => (hf b hb).1⟩⟩
  done := by
    intro X' hP hw hK hc i pins s σ H E I hf st hg
    obtain ⟨f0, f1, f2, f3, f4, f5⟩ := hf it (by simp)
    have hod := I.kIn _ _ (by rw [hK]; exact D.at_)
    rw [← hP, ← hw]
    exact next_key_end (I.ok.hd hc) st hod rfl rfl hg fun h' eb => ⟨rfl, I.turned (t' := s.toks) (fun b o hb e => eb b o (by simpa using hb) e) f0 f1 f3 f4 f5⟩
  self := fun A i s Q E st h => wpAny_pyIter_keyiter st h
theorem pi_kd {e : Expr} {te : TE} (D : KDict X.K X.w d es n) (hk : ∀ (i : Nat) en, es[i]? = some en → ∃ x, RelV x en.key) (he : PE X e te) : PI X tg e (fun σ H R => te σ H fun v H1 => v = .ref d ∧ R (Ikd es) H1) := by
  refine ⟨fun pins s σ H R I h => ?_⟩
  refine thn (he.run pins s σ H _ I h) fun v s1 ⟨x, H1, I1, r1, ex, q⟩ => ?_
  subst ex
  obtain rfl : v = Value.ref d := r1
  have hod := I1.kIn _ _ D.at_
  refine iter_keys D.low hod ⟨rfl, rfl, rfl⟩ rfl ?_
  refine ⟨s1.heap.objs.size, [s1.heap.objs.size], _, _, H1, rfl, I1.kept (t' := s1.toks) fun b o e => Heap.get?_push_of_some _ e, turn_kd D s1.heap.objs.size hk, ⟨_, Heap.get?_push_size _ rfl, rfl, rfl⟩, fun b hb => ?_, q⟩
  have e' : b = s1.heap.objs.size := by simpa using hb
  subst e'
  exact I1.fpOk (Nat.le_refl _) (I1.hok.fresh (Nat.le_refl _))
end
/-- the keys of SIDES -/
theorem sides_keys {w : World} {K : PySem.W.Frag} {mg : Str → Option Value} (T : Top w K mg) : ∃ es n, KDict K w (He.ga K "SIDES") es n ∧ es.size = 3 ∧ ∀ i : Nat, ∀ en, es[i]? = some en → ∃ k t, sides3[i]? = some k ∧ en.key = .str (sdS k) t := by
  obtain ⟨es, n, D⟩ := T.sides
  refine ⟨es, n, D, ?_⟩
  have h := T.s_keys
  unfold keysB at h
  rw [D.at_] at h
  have h2 := of_decide_eq_true h
  have hl : es.size = 3 := by
    have := congrArg List.length h2
    simpa using this
  refine ⟨hl, fun i en hi => ?_⟩
  have hi' : i < 3 := by
    have := (Array.getElem?_eq_some_iff.mp hi).1
    omega
  have h3 := congrArg (fun l : List (Option Str) => l[i]?) h2
  simp only [List.getElem?_map, Array.getElem?_toList, hi, Option.map_some] at h3
  cases hk : en.key with
  | str y t =>
    rw [hk] at h3
    match i, hi' with
    | 0, _ =>
      have e : some (some y) = some (some ("left" : Str)) := h3
      exact ⟨.left, t, rfl, by cases e; rfl⟩
    | 1, _ =>
      have e : some (some y) = some (some ("in" : Str)) := h3
      exact ⟨.inn, t, rfl, by cases e; rfl⟩
    | 2, _ =>
      have e : some (some y) = some (some ("right" : Str)) := h3
      exact ⟨.right, t, rfl, by cases e; rfl⟩
  | _ =>
    rw [hk] at h3
    match i, hi' with
    | 0, _ => cases h3
    | 1, _ => cases h3
    | 2, _ => cases h3
abbrev sdsD (l : List Sd) : List Dt := l.map fun k => Dt.str (sdS k)
section
variable {X : Cx} {S0 H0 : Hp} {ρ : List Sl} {D : DEnds} {e a b c : Expr} {es : List Expr} {pos : Pos} {tg iter elt : Expr} {body : List Stmt}
theorem di_sides {p1 : Pos} (T : Top X.w X.K X.mg) (hg : Gl X "SIDES" := by rfl) : DI X tg (.Name "SIDES" p1) ρ (fun ds => ds = sdsD sides3) := fun Hs H σ E Rk q => by
  obtain ⟨es, n, Dk, hl, hk⟩ := sides_keys T
  refine wpI_of (pi_kd Dk (fun i en hi => by obtain ⟨k, t, _, e⟩ := hk i en hi; exact ⟨.str (sdS k), t, e⟩) (pe_glob (v := .ref (He.ga X.K "SIDES")) hg T.g_SIDES rfl (by decide))) ⟨rfl, q _ Hs H _ (Step.refl E.sub) rfl ⟨fun _ => True, fun i H x H' => (Ikd es).yld i H x H', ⟨fun i H hi _ => ?_, fun H _ => ?_, fun i H x H' _ _ y => y⟩, fun _ _ _ _ => trivial, fun i Hs2 H2 x H3 hi e1 e2 y => ?_⟩⟩
  · show i < es.size
    rw [hl]; exact hi
  · show es.size ≤ _
    rw [hl]; exact Nat.le_refl _
  · obtain ⟨y1, en, y2, y3⟩ := y
    subst y1
    obtain ⟨k, t, h1, h2⟩ := hk i en y2
    have hx : x = .str (sdS k) := by
      rw [h2] at y3
      cases x with
      | str z => obtain ⟨t', e⟩ := y3; cases e; rfl
      | _ => first
        | (obtain ⟨t', e⟩ := y3; cases e)
        | cases y3
    refine ⟨Hs2, .str (sdS k), Step.refl e2, ?_, by rw [hx]; exact .str _⟩
    rw [List.getElem?_map, h1] <;> rfl
theorem rep_sds {K : PySem.W.Frag} {H : Hp} (l : List Sd) : RepAll K H (l.map fun k => V.str (sdS k)) (sdsD l) := by
  have h := repStrs (K := K) (H := H) (l.map sdS)
  rw [List.map_map, List.map_map] at h
  exact h
/-- loops that gather -/
theorem ds_acc {α : Type} (as : List α) (encA : α → Dt) (f : α → List Dt) (base : List Dt) (mk : List Dt → List Sl) (hit : DI X tg iter ρ (fun ds => ds = as.map encA)) (hρ : ρ = mk base) (hb : base.all notInt = true) (hf : ∀ a ∈ as, (f a).all notInt = true)
    (h : ∀ a ∈ as, ∀ acc : List Dt, acc.all notInt = true → acc.length + (f a).length ≤ base.length + (as.flatMap f).length → ∃ L, DG X tg (encA a) L (mk acc) (fun ρ2 => DSs X S0 H0 body ρ2 (loopEnds D (fun z => z = mk (acc ++ f a)))))
    (hn : (base ++ as.flatMap f).all notInt = true → D.nx (mk (base ++ as.flatMap f)))
    (hc : X.calm = true := by rfl) (hp : PassesOwn (model X.prog X.w) X.A X.env X.xe := by exact PassesOwn.never) (hs : ∀ x, foldedSetIterable iter X.env x = pure x := by intro _; rfl) : DS X S0 H0 (.For tg iter body [] pos) ρ D := by
  have hall : ∀ i, ((as.take i).flatMap f).all notInt = true := fun i => by
    rw [List.all_eq_true]
    intro x hx
    obtain ⟨a, ha, hx⟩ := List.mem_flatMap.mp hx
    exact List.all_eq_true.mp (hf a (List.mem_of_mem_take ha)) x hx
  refine ds_for hit (fun ds r => ⟨fun i z => z = mk (base ++ (as.take i).flatMap f), ⟨_, rfl, by rw [hρ]; simpa using Wk.refl (mk base)⟩, fun i d ρi hd hz => ?_, fun z hz => ?_⟩) hc hp hs
  · subst r hz
    rw [List.getElem?_map] at hd
    cases ha : as[i]? with
    | none => rw [ha] at hd; cases hd
    | some x =>
      rw [ha] at hd
      have ed : encA x = d := by simpa using hd
      subst ed
      have hm := List.mem_of_getElem? ha
      obtain ⟨L, hL⟩ := h x hm (base ++ (as.take i).flatMap f) (by rw [List.all_append, hb, hall i] <;> rfl) (by
        have e1 := flat_le f as (i + 1)
        rw [flat_take f as i x ha, List.length_append] at e1
        rw [List.length_append]; omega)
      refine ⟨L, ?_⟩
      show DG X tg (encA x) L _ fun ρ2 => DSs X S0 H0 body ρ2 (loopEnds D fun z => z = mk (base ++ (as.take (i + 1)).flatMap f))
      rw [flat_take f as i x ha, ← List.append_assoc]
      exact hL
  · subst r hz
    rw [List.length_map, List.take_length]
    exact hn (by rw [List.all_append, hb, Bool.true_and]; simpa using hall as.length)
theorem sjoin_cat : ∀ (ys : List (List Lt)), Str.join "" (ys.map enc) = enc ys.flatten
  | [] => by decide +kernel
  | [x] => by
    show enc x = enc [x].flatten
    simp
  | x :: z :: r => by
    show enc x ++ "" ++ Str.join "" ((z :: r).map enc) = _
    rw [sjoin_cat (z :: r)]
    have e : ("" : Str) = enc [] := by decide +kernel
    rw [e, enc_app, enc_app]
    simp
theorem join_cat (ys : List (List Lt)) : Txt.join "" (ys.map enc) = enc ys.flatten := by
  rw [TL.join_eq]
  exact sjoin_cat ys
theorem encs_sum : ∀ ys : List (List Lt), ((ys.map enc).map (·.length)).sum = ys.flatten.length
  | [] => rfl
  | y :: ys => by
    rw [List.map_cons, List.map_cons, List.sum_cons, encs_sum ys, enc_len, List.flatten_cons, List.length_append]
/-- "".join(a list of words) -/
theorem de_join {ys : List (List Lt)} {p1 cpos p0 : Pos} {k : Nat} (h : DE X e ρ (.lst (ys.map fun y => Dt.str (enc y)))) (hz : ys.flatten.length ≤ 100000)
    (hbase : attributeBase (.Constant (.str "") k p0) "join" X.env (eval (.Constant (.str "") k p0) X.env) = eval (.Constant (.str "") k p0) X.env := by rfl)
    (hfew : ((backTo cpos (starEach [e] X.env)).all (fun x => !x.1) && (backToKw cpos (keywordEach [] X.env)).all (fun x => x.1.isSome)
      && decide ([e].length + ([] : List Keyword).length + (if ([] : List Keyword).isEmpty then 0 else 1) < 30)) = true := by rfl)
    (hline : (p1.endLine == cpos.line) = true := by rfl) (hst : starEach [e] X.env = (false, eval e X.env) :: starEach [] X.env := by rfl) (hplain : (backTo cpos (starEach [] X.env)).any (·.1) = false := by rfl) :
    DE X (.Call (.Attribute (.Constant (.str "") k p0) "join" p1) [e] [] cpos) ρ (.str (enc ys.flatten)) := fun Hs H σ E Q q =>
  wpE_of (pe_bm PySem.F.plainAttrs_str PySem.F.slot_str_join PySem.F.type_str_join mt_join pe_str pa_wp hbase hfew hline hst hplain) (by
    refine ⟨(rfl : ("str" : String) = "str"), da_cons h da_nil hst Hs H σ E _ fun vs as H2s H2 t2 E2 r2 => ?_⟩
    subst r2
    obtain ⟨u, rfl, hu⟩ := one_dat E2
    obtain ⟨a, xs, rfl, h1, h2⟩ := hu.lst_inv
    have e1 : xs = (ys.map enc).map V.str := strs_inv (by rw [List.map_map]; exact h2)
    refine ⟨"", a, ys.map enc, rfl, rfl, Or.inl (by rw [← e1]; exact Or.inl (Or.inl (E2.sub _ _ h1))), ?_, ?_⟩
    · rw [encs_sum]
      have e2 : (("" : Str)).length = 0 := by decide +kernel
      rw [e2]
      omega
    · rw [join_cat]
      exact q _ H2s H2 t2 ⟨_, rfl, .str _⟩)
/-- list(SIDES) -/
theorem dl_listSides {p1 p2 : Pos} (T : Top X.w X.K X.mg) (hc : X.calm = true := by rfl) (hgl : Gl X "list" := by rfl) (hg : Gl X "SIDES" := by rfl) (hs : starEach [.Name "SIDES" p1] X.env = (false, eval (.Name "SIDES" p1) X.env) :: starEach [] X.env := by rfl) : DL X (.Call (.Name "list" p2) [.Name "SIDES" p1] [] pos) ρ (fun z => z = sdsD sides3) := fun Hs H σ E Q q => by
  obtain ⟨es, n, Dk, hl, hk⟩ := sides_keys T
  refine wpE_of (t := fun σ H Q => ∀ l, H l = none → Q (.ref l) (upd H l (.lst (sides3.map fun k => V.str (sdS k))))) ⟨fun pins s σ H Q I h => ?_⟩ fun l hl' => q _ Hs _ (Step.newM E.sub hl') ⟨l, _, _, rfl, hl', E.sub.free hl', upd_same, rep_sds _, rfl⟩
  refine Call_ (ld_blt I hgl T.f_list boot_list (PyProof.Rows.callWith_type1 (one_arg (pe_glob (v := .ref (He.ga X.K "SIDES")) hg T.g_SIDES rfl (by decide)) I (R := fun v H1 => v = .ref (He.ga X.K "SIDES") ∧ H1 = H) ⟨rfl, rfl⟩ (fun v s2 x H2 I2 r q => ?_) hs) hs))
  obtain ⟨rfl, rfl⟩ := q
  obtain rfl : v = Value.ref (He.ga X.K "SIDES") := r
  have hod := I2.kIn _ _ Dk.at_
  refine PySem.W.kdl_call (kdl_raw Dk.low ⟨rfl, rfl, rfl⟩ rfl) (I2.ok.hd hc) hod (by rw [hl]; decide) fun h' tk acc' c' hkeep hS hacc => ?_
  refine ⟨.ref s2.heap.objs.size, upd H2 s2.heap.objs.size (.lst (sides3.map fun k => V.str (sdS k))), I2.laid hkeep (Nat.le_refl _) (show ObjOk X.prog X.w _ _ _ (.lst (sides3.map fun k => V.str (sdS k))) from ⟨by decide, acc'.toList, c', ?_, ?_⟩), rfl, h _ (I2.hok.fresh (Nat.le_refl _))⟩
  · refine vals_of_at ?_ fun j x u h1 h2 => ?_
    · have el : acc'.toList.length = acc'.size := by simp
      rw [List.length_map, el, hacc.1, hl]; rfl
    · obtain ⟨en, he, hu⟩ := hacc.2 j u (by rw [← Array.getElem?_toList]; exact h2)
      obtain ⟨k, t, k1, k2⟩ := hk j en he
      rw [List.getElem?_map, k1] at h1
      have ex : V.str (sdS k) = x := by simpa using h1
      subst ex
      rw [hu, k2]
      exact ⟨t, rfl⟩
  · rw [Array.toArray_toList]; exact hS
end
end DL
/-! DLn -/
set_option Elab.async false
set_option linter.all false
set_option maxRecDepth 100000
set_option maxHeartbeats 4000000
namespace DL
open PySem PySem.Spec PyProof.Rows L2
def Fr (H0 : Hp) (ρ : List Sl) (σ : L2.St) : Prop := ∀ (i : Nat) (s : Sl) (p : Addr), ρ[i]? = some s → isMut s = true → σ[i]? = some (some (.ref p)) → H0 p = none
def isDM : Sl → Bool
  | .dat _ => true
  | .ml _ => true
  | _ => false
theorem setS {K : PySem.W.Frag} {Hs H H0 : Hp} {σ : L2.St} {ρ : List Sl} {i : Nat} {v : V} {s : Sl} (h3 : En K Hs H σ ρ) (h4 : Fr H0 ρ σ) (hv : SlOk K Hs H (some (some v)) s) (hd : isDM s = true)
    (hf : ∀ (ds : List Dt) (p : Addr), s = .ml ds → v = .ref p → H0 p = none ∧ ∀ (j : Nat) (dj : List Dt), j ≠ i → ρ[j]? = some (.ml dj) → σ[j]? ≠ some (some v)) : En K Hs H (σ.set i (some v)) (ρ.set i s) ∧ Fr H0 (ρ.set i s) (σ.set i (some v)) := by
  cases s with
  | dat d =>
    obtain ⟨x, e, r⟩ := hv
    have e' : v = x := by simpa using e
    subst e'
    refine ⟨h3.setD r, fun j s p hj hm hq => ?_⟩
    rcases getset hj with ⟨_, e2⟩ | ⟨e1, e2⟩
    · rw [e2] at hm; cases hm
    · rw [List.getElem?_set_ne e1] at hq
      exact h4 j s p e2 hm hq
  | ml ds =>
    obtain ⟨p, xs, e, g3, g4, g5, g6⟩ := hv
    have e' : v = .ref p := by simpa using e
    subst e'
    obtain ⟨f1, f2⟩ := hf ds p rfl rfl
    refine ⟨h3.setL g3 g4 g5 g6 (fun j dj q hj hr hs z => ?_), fun j s q hj hm hq => ?_⟩
    · subst z
      exact f2 j dj hj hr hs
    · rcases getset hj with ⟨e1, e2⟩ | ⟨e1, e2⟩
      · subst e1
        rcases getset hq with ⟨_, e3⟩ | ⟨e3, _⟩
        · have e4 : q = p := by simpa using e3
          rw [e4]; exact f1
        · exact absurd rfl e3
      · rw [List.getElem?_set_ne e1] at hq
        exact h4 j s q e2 hm hq
  | _ => cases hd
section
variable {X : Cx} {S0 H0 : Hp} {ρ : List Sl} {D : DEnds} {e a b c : Expr} {es : List Expr} {pos : Pos}
def DM (X : Cx) (es : List Expr) (ρ : List Sl) (as : List Sl) : Prop :=
  ∀ Hs H σ, En X.K Hs H σ ρ → ∀ Q : List V → Hp → Prop, (∀ vs Hs' H', Step Hs H Hs' H' → En X.K Hs' H' (vs.map some) as → (∀ (j : Nat) (ds : List Dt) (p : Addr), as[j]? = some (.ml ds) → vs[j]? = some (.ref p) → H p = none) → Q vs H') → wpA X es σ H Q
theorem dm_nil : DM X [] ρ [] := fun Hs H σ E Q q => wpA_of pa_nil (q [] Hs H (Step.refl E.sub) (En.nil E.sub) (fun j ds p h => by simp at h))
theorem dm_dat {d : Dt} {as : List Sl} (h : DE X e ρ d) (hr : DM X es ρ as) (hs : starEach (e :: es) X.env = (false, eval e X.env) :: starEach es X.env := by rfl) : DM X (e :: es) ρ (.dat d :: as) := fun Hs H σ E Q q =>
  wpA_of (pa_cons pe_wp pa_wp hs) (h Hs H σ E _ fun v H1s H1 t1 ⟨d', r, p⟩ => hr H1s H1 σ (E.step t1) _ fun vs H2s H2 t2 E2 f2 => by
    subst r
    refine q (v :: vs) H2s H2 (t1.trans t2) (En.cons E2 ⟨v, rfl, Rep.mono t2.fz _ v p⟩ (fun _ z => nomatch z)) fun j ds p hj hp => ?_
    cases j with
    | zero => cases hj
    | succ j => exact t1.free (f2 j ds p (by simpa using hj) (by simpa using hp)))
theorem dm_lst {ds : List Dt} {as : List Sl} (h : DL X e ρ (fun z => z = ds)) (hn : ds.all notInt = true) (hr : DM X es ρ as) (hs : starEach (e :: es) X.env = (false, eval e X.env) :: starEach es X.env := by rfl) : DM X (e :: es) ρ (.ml ds :: as) := fun Hs H σ E Q q =>
  wpA_of (pa_cons pe_wp pa_wp hs) (h Hs H σ E _ fun v H1s H1 t1 ⟨p, xs, ds', e1, g2, g3, g4, g5, g6⟩ => hr H1s H1 σ (E.step t1) _ fun vs H2s H2 t2 E2 f2 => by
    subst e1 g6
    have hnb := notBox g5 hn
    have k3 : H2s p = none := t2.new p (by rw [g4]; exact fun z => nomatch z) g3
    have k4 := t2.keep p _ g4 hnb
    refine q (.ref p :: vs) H2s H2 (t1.trans t2) ⟨E2.sub, by simpa using E2.len, fun i s hi => ?_, fun i j di dj h1 h2 hij => ?_⟩ fun j dj p' hj hp => ?_
    · cases i with
      | zero =>
        have z : Sl.ml ds' = s := by simpa using hi
        subst z
        exact ⟨p, xs, by simp, k3, k4, RepAll.mono t2.fz _ _ g5, hn⟩
      | succ i => simpa using E2.sl i s (by simpa using hi)
    · have key : ∀ (m : Nat) (dm : List Dt), as[m]? = some (.ml dm) → (vs.map some)[m]? ≠ some (some (V.ref p)) := fun m dm hm z => by
        have z2 : vs[m]? = some (.ref p) := by
          rw [List.getElem?_map] at z
          cases hv : vs[m]? with
          | none => rw [hv] at z; cases z
          | some y => rw [hv] at z; simpa using z
        have := f2 m dm p hm z2
        rw [g4] at this; cases this
      cases i with
      | zero => cases j with
        | zero => exact absurd rfl hij
        | succ j =>
          have := key j dj (by simpa using h2)
          intro z
          exact this (by simpa using z.symm)
      | succ i => cases j with
        | zero =>
          have := key i di (by simpa using h1)
          intro z
          exact this (by simpa using z)
        | succ j => simpa using E2.dis i j di dj (by simpa using h1) (by simpa using h2) (by omega)
    · cases j with
      | zero =>
        have z : p = p' := by simpa using hp
        rw [← z]; exact g2
      | succ j => exact t1.free (f2 j dj p' (by simpa using hj) (by simpa using hp)))
/-- the values go into the slots -/
theorem put1 {K : PySem.W.Frag} {σ : L2.St} {H Hs' H' Hs : Hp} {vs : List V} {as : List Sl} {ρ1 : List Sl} {σ1 : L2.St} {n i : Nat} {v : V} {s : Sl} (h3 : En K Hs H σ ρ) (E : En K Hs' H' (vs.map some) as) (f : ∀ (j : Nat) (ds : List Dt) (p : Addr), as[j]? = some (.ml ds) → vs[j]? = some (.ref p) → H p = none) (t2 : Step S0 H0 Hs H)
    (E1 : En K Hs' H' σ1 ρ1) (F1 : Fr H0 ρ1 σ1) (hv : vs[n]? = some v) (hs : as[n]? = some s) (hd : isDM s = true)
    (old : ∀ (j : Nat) (dj : List Dt), ρ1[j]? = some (.ml dj) → j ≠ i → (ρ[j]? = some (.ml dj) ∧ σ1[j]? = σ[j]?) ∨ ∃ (m : Nat) (dm : List Dt), m ≠ n ∧ as[m]? = some (.ml dm) ∧ σ1[j]? = (vs.map some)[m]?) : En K Hs' H' (σ1.set i (some v)) (ρ1.set i s) ∧ Fr H0 (ρ1.set i s) (σ1.set i (some v)) := by
  have hv2 : (vs.map some)[n]? = some (some v) := by rw [List.getElem?_map, hv] <;> rfl
  refine setS E1 F1 (by rw [← hv2]; exact E.sl n s hs) hd fun ds p e1 e2 => ?_
  subst e1 e2
  have hp := f n ds p hs hv
  refine ⟨t2.free hp, fun j dj hj hr z => ?_⟩
  rcases old j dj hr hj with ⟨o1, o2⟩ | ⟨m, dm, hm, o1, o2⟩
  · rw [o2] at z
    obtain ⟨q, xs, e1, _, e3, _⟩ := h3.sl j _ o1
    rw [z] at e1
    have e4 : p = q := by simpa using e1
    subst e4
    rw [hp] at e3; cases e3
  · rw [o2] at z
    exact E.dis m n dm ds o1 hs hm (by rw [z, hv2])
theorem put2 {K : PySem.W.Frag} {σ : L2.St} {H Hs' H' Hs : Hp} {v u : V} {s1 s2 : Sl} {i j : Nat} (h3 : En K Hs H σ ρ) (h4 : Fr H0 ρ σ) (t2 : Step S0 H0 Hs H) (t : Step Hs H Hs' H') (E : En K Hs' H' ([v, u].map some) [s1, s2]) (f : ∀ (j : Nat) (ds : List Dt) (p : Addr), [s1, s2][j]? = some (.ml ds) → [v, u][j]? = some (.ref p) → H p = none)
    (d1 : isDM s1 = true) (d2 : isDM s2 = true) : En K Hs' H' ((σ.set i (some v)).set j (some u)) ((ρ.set i s1).set j s2) ∧ Fr H0 ((ρ.set i s1).set j s2) ((σ.set i (some v)).set j (some u)) := by
  obtain ⟨E1, F1⟩ := put1 (i := i) (n := 0) h3 E f t2 (h3.step t) h4 rfl rfl d1 (fun _ _ hr _ => Or.inl ⟨hr, rfl⟩)
  refine put1 (i := j) (n := 1) h3 E f t2 E1 F1 rfl rfl d2 fun k dk hk hkj => ?_
  rcases getset hk with ⟨e1, e2⟩ | ⟨e1, e2⟩
  · subst e1 e2
    refine Or.inr ⟨0, dk, by omega, rfl, ?_⟩
    by_cases q : i < σ.length
    · rw [List.getElem?_set_self q] <;> rfl
    · have hl : i < (ρ.set i (.ml dk)).length := (List.getElem?_eq_some_iff.mp hk).1
      rw [List.length_set, ← h3.len] at hl
      exact absurd hl q
  · exact Or.inl ⟨e2, List.getElem?_set_ne e1⟩
theorem put3 {K : PySem.W.Frag} {σ : L2.St} {H Hs' H' Hs : Hp} {v u w : V} {s1 s2 s3 : Sl} {i j k : Nat} (h3 : En K Hs H σ ρ) (h4 : Fr H0 ρ σ) (t2 : Step S0 H0 Hs H) (t : Step Hs H Hs' H') (E : En K Hs' H' ([v, u, w].map some) [s1, s2, s3]) (f : ∀ (j : Nat) (ds : List Dt) (p : Addr), [s1, s2, s3][j]? = some (.ml ds) → [v, u, w][j]? = some (.ref p) → H p = none)
    (d1 : isDM s1 = true) (d2 : isDM s2 = true) (d3 : isDM s3 = true) : En K Hs' H' (((σ.set i (some v)).set j (some u)).set k (some w)) (((ρ.set i s1).set j s2).set k s3) ∧ Fr H0 (((ρ.set i s1).set j s2).set k s3) (((σ.set i (some v)).set j (some u)).set k (some w)) := by
  have inb : ∀ {l : List Sl} {τ : L2.St} {m : Nat} {x : Sl} {y : Sl} {z : V}, l.length = τ.length → (l.set m x)[m]? = some y → (τ.set m (some z))[m]? = some (some z) := fun {l τ m x y z} hl h => by
    have h1 : m < (l.set m x).length := (List.getElem?_eq_some_iff.mp h).1
    rw [List.length_set, hl] at h1
    exact List.getElem?_set_self h1
  obtain ⟨E1, F1⟩ := put1 (i := i) (n := 0) h3 E f t2 (h3.step t) h4 rfl rfl d1 (fun _ _ hr _ => Or.inl ⟨hr, rfl⟩)
  obtain ⟨E2, F2⟩ := put1 (i := j) (n := 1) h3 E f t2 E1 F1 rfl rfl d2 fun m dk hk hkj => by
    rcases getset hk with ⟨e1, e2⟩ | ⟨e1, e2⟩
    · subst e1 e2
      exact Or.inr ⟨0, dk, by omega, rfl, by rw [inb h3.len.symm hk] <;> rfl⟩
    · exact Or.inl ⟨e2, List.getElem?_set_ne e1⟩
  refine put1 (i := k) (n := 2) h3 E f t2 E2 F2 rfl rfl d3 fun m dk hk hkj => ?_
  rcases getset hk with ⟨e1, e2⟩ | ⟨e1, e2⟩
  · subst e1 e2
    exact Or.inr ⟨1, dk, by omega, rfl, by rw [inb (by rw [List.length_set, List.length_set, h3.len]) hk] <;> rfl⟩
  · rcases getset e2 with ⟨g1, g2⟩ | ⟨g1, g2⟩
    · subst g1 g2
      exact Or.inr ⟨0, dk, by omega, rfl, by rw [List.getElem?_set_ne e1, inb h3.len.symm e2] <;> rfl⟩
    · exact Or.inl ⟨g2, by rw [List.getElem?_set_ne e1, List.getElem?_set_ne g1]⟩
theorem vs2 {K : PySem.W.Frag} {Hs H : Hp} {vs : List V} {s1 s2 : Sl} (E : En K Hs H (vs.map some) [s1, s2]) : ∃ v u, vs = [v, u] := by
  have h := E.len
  match vs, h with
  | [v, u], _ => exact ⟨v, u, rfl⟩
theorem vs3 {K : PySem.W.Frag} {Hs H : Hp} {vs : List V} {s1 s2 s3 : Sl} (E : En K Hs H (vs.map some) [s1, s2, s3]) : ∃ v u w, vs = [v, u, w] := by
  have h := E.len
  match vs, h with
  | [v, u, w], _ => exact ⟨v, u, w, rfl⟩
theorem ds_par2M (i j : Nat) {x y : Str} {s1 s2 : Sl} {px py pt : Pos} {kt k2 : Nat} {pt2 : Pos} (ha : DM X [a, b] ρ [s1, s2]) (hn : D.nx ((ρ.set i s1).set j s2)) (hN : X.N.Nodup) (d1 : isDM s1 = true := by rfl) (d2 : isDM s2 = true := by rfl) (hc : X.calm = true := by rfl) (hi : X.N[i]? = some x := by rfl) (hj : X.N[j]? = some y := by rfl) (hij : i ≠ j := by decide)
    (hx : X.env.scope.names.lookup x = some .local := by rfl) (hy : X.env.scope.names.lookup y = some .local := by rfl) (hw : swappedStores [.Tuple [.Name x px, .Name y py] kt pt] (.Tuple [a, b] k2 pt2) X.env = pure (some [x, y]) := by rfl)
    (hs : swapsWithSole [.Tuple [.Name x px, .Name y py] kt pt] (.Tuple [a, b] k2 pt2) pos.line X.env = pure false := by rfl) : DS X S0 H0 (.Assign [.Tuple [.Name x px, .Name y py] kt pt] (.Tuple [a, b] k2 pt2) pos) ρ D := fun B σ H ⟨Hs, g1, g2, g3, g4⟩ =>
  wpS_of (ps_par hc hN hi hj hij hx hy pa_wp hw hs) (ha Hs H σ g3 _ fun vs Hs' H' t E f => by
    obtain ⟨v, u, e2⟩ := vs2 E
    subst e2
    obtain ⟨E2, F2⟩ := put2 (i := i) (j := j) g3 g4 g2 t E f d1 d2
    exact ⟨v, u, rfl, _, hn, Hs', g1.trans t.fz, g2.trans t, E2, F2⟩)
theorem ds_par3M (i j l : Nat) {x y z : Str} {s1 s2 s3 : Sl} {px py pz pt : Pos} {kt k2 : Nat} {pt2 : Pos} (ha : DM X [a, b, c] ρ [s1, s2, s3]) (hn : D.nx (((ρ.set i s1).set j s2).set l s3)) (hN : X.N.Nodup) (d1 : isDM s1 = true := by rfl) (d2 : isDM s2 = true := by rfl) (d3 : isDM s3 = true := by rfl) (hc : X.calm = true := by rfl) (hi : X.N[i]? = some x := by rfl) (hj : X.N[j]? = some y := by rfl) (hl : X.N[l]? = some z := by rfl) (hij : i ≠ j := by decide) (hil : i ≠ l := by decide) (hjl : j ≠ l := by decide)
    (hx : X.env.scope.names.lookup x = some .local := by rfl) (hy : X.env.scope.names.lookup y = some .local := by rfl) (hz : X.env.scope.names.lookup z = some .local := by rfl) (hw : swappedStores [.Tuple [.Name x px, .Name y py, .Name z pz] kt pt] (.Tuple [a, b, c] k2 pt2) X.env = pure (some [x, y, z]) := by rfl)
    (hs : swapsWithSole [.Tuple [.Name x px, .Name y py, .Name z pz] kt pt] (.Tuple [a, b, c] k2 pt2) pos.line X.env = pure false := by rfl) : DS X S0 H0 (.Assign [.Tuple [.Name x px, .Name y py, .Name z pz] kt pt] (.Tuple [a, b, c] k2 pt2) pos) ρ D := fun B σ H ⟨Hs, g1, g2, g3, g4⟩ =>
  wpS_of (ps_par3 hc hN hi hj hl hij hil hjl hx hy hz pa_wp hw hs) (ha Hs H σ g3 _ fun vs Hs' H' t E f => by
    obtain ⟨v, u, w, e2⟩ := vs3 E
    subst e2
    obtain ⟨E2, F2⟩ := put3 (i := i) (j := j) (k := l) g3 g4 g2 t E f d1 d2 d3
    exact ⟨v, u, w, rfl, _, hn, Hs', g1.trans t.fz, g2.trans t, E2, F2⟩)
/-- through a tuple -/
theorem ds_asg2M (i j : Nat) {x y : Str} {s1 s2 : Sl} {px py pt : Pos} {kt k2 : Nat} {pt2 : Pos} (ha : DM X [a, b] ρ [s1, s2]) (hn : D.nx ((ρ.set i s1).set j s2)) (hN : X.N.Nodup) (d1 : isDM s1 = true := by rfl) (d2 : isDM s2 = true := by rfl) (hc : X.calm = true := by rfl) (hi : X.N[i]? = some x := by rfl) (hj : X.N[j]? = some y := by rfl)
    (hx : Loc X.env.scope x := by first | exact Or.inl rfl | exact Or.inr rfl) (hfx : X.fn x = true ∨ X.env.scope.names.lookup x = some .local := by first | exact .inl rfl | exact .inr rfl) (hy : Loc X.env.scope y := by first | exact Or.inl rfl | exact Or.inr rfl) (hfy : X.fn y = true ∨ X.env.scope.names.lookup y = some .local := by first | exact .inl rfl | exact .inr rfl)
    (hs : swapsWithSole [.Tuple [.Name x px, .Name y py] kt pt] (.Tuple [a, b] k2 pt2) pos.line X.env = pure false := by rfl) (hw : swappedStores [.Tuple [.Name x px, .Name y py] kt pt] (.Tuple [a, b] k2 pt2) X.env = pure none := by rfl)
    (h1 : (assignEach [.Tuple [.Name x px, .Name y py] kt pt] X.env).map (·.2) = [assign (.Tuple [.Name x px, .Name y py] kt pt) X.env] := by rfl) (hl : (assignEach [.Name x px, .Name y py] X.env).length = 2 := by rfl) (hst : (assignEach [.Name x px, .Name y py] X.env).findIdx? (·.1) = none := by rfl)
    (a1 : (assignEach [.Name x px, .Name y py] X.env).map (·.2) = assign (.Name x px) X.env :: (assignEach [.Name y py] X.env).map (·.2) := by rfl) (a2 : (assignEach [.Name y py] X.env).map (·.2) = assign (.Name y py) X.env :: (assignEach [] X.env).map (·.2) := by rfl) :
    DS X S0 H0 (.Assign [.Tuple [.Name x px, .Name y py] kt pt] (.Tuple [a, b] k2 pt2) pos) ρ D := fun B σ H ⟨Hs, g1, g2, g3, g4⟩ =>
  wpS_of (ps_asg (pe_tup pa_wp) (pg_tup hc (pgs_cons (pg_name hN hi hx hfx) (pgs_cons (pg_name hN hj hy hfy) pgs_nil a2) a1) hl hst) hs hw h1) (ha Hs H σ g3 _ fun vs Hs' H' t E f => by
    obtain ⟨v, u, e2⟩ := vs2 E
    subst e2
    obtain ⟨E2, F2⟩ := put2 (i := i) (j := j) g3 g4 g2 t E f d1 d2
    refine ⟨by show 2 ≤ sizeLine; decide, fun p hp => ⟨p, [v, u], rfl, Or.inl (Or.inl upd_same), rfl, v, [u], rfl, u, [], rfl, rfl, _, hn, Hs', g1.trans t.fz, (g2.trans t).trans (Step.newM t.sub hp), E2.step (Step.newM t.sub hp), F2⟩⟩)
end
end DL
/-! DLo -/
set_option Elab.async false
set_option linter.all false
set_option maxRecDepth 100000
set_option maxHeartbeats 4000000
namespace DL
open PySem PySem.Spec PyProof.Rows L2
section
variable {X : Cx} {S0 H0 : Hp} {ρ ρ1 : List Sl} {D : DEnds} {e a b c o : Expr} {es : List Expr} {pos : Pos} {te : TE} {st : Stmt} {sts rest : List Stmt}
/-- behind it a token is out -/
def PEU (X : Cx) (e : Expr) (te : TE) : Prop := ∀ (pins : List (Addr × Obj)) (s : Shared) (σ : L2.St) (H : Hp) (Q : VK), Inv X pins σ H s → te σ H Q → wpAny (model X.prog X.w) X.A (eval e X.env) (fun v s' => 1 ≤ s'.toks ∧ EP X pins σ Q v s') X.xe s
def PTU (X : Cx) (e : Expr) (te : TT) : Prop := ∀ (pins : List (Addr × Obj)) (s : Shared) (σ : L2.St) (H : Hp) (Q : Bool → Hp → Prop), Inv X pins σ H s → te σ H Q → wpAny (model X.prog X.w) X.A (isTrue e X.env (eval e X.env)) (fun v s' => 1 ≤ s'.toks ∧ TP X pins σ Q v s') X.xe s
theorem peu_str {z : Str} {j : Nat} : PEU X (.Constant (.str z) j pos) (tC (.str z)) := fun pins s σ H Q I h => Calls.Constant_str ⟨by show 1 ≤ s.toks + 1; omega, .str z, H, I.tok _, ⟨_, rfl⟩, h⟩
theorem peu_tup1 {z : Str} {j k : Nat} {c0 : Pos} (hs : starEach [.Constant (.str z) j c0] X.env = (false, eval (.Constant (.str z) j c0) X.env) :: starEach [] X.env := by rfl) : PEU X (.Tuple [.Constant (.str z) j c0] k pos) (tTup (tCons (tC (.str z)) tNil)) := fun pins s σ H Q I hq => by
  refine wpAny_Tuple_spliced ?_
  rw [hs]
  show wpAny _ _ (spliced ((false, eval (.Constant (.str z) j c0) X.env) :: backTo pos (starEach [] X.env))) _ _ s
  refine Calls.spliced_cons (Calls.Constant_str (Calls.spliced_nil ?_))
  obtain ⟨_, q⟩ := hq
  have I1 := I.tok (s.toks + 1)
  refine ⟨by show 1 ≤ sizeLine; decide, by show 1 ≤ s.toks + 1; omega, .ref s.heap.objs.size, upd H s.heap.objs.size (.tup [.str z]), ?_, rfl, q _ (I.hok.fresh (Nat.le_refl _))⟩
  exact I1.laid (t' := s.toks + 1) (fun b u e => Heap.get?_push_of_some _ e) (Nat.le_refl _) (show ObjOk X.prog X.w _ _ _ (.tup [.str z]) from ⟨by show 1 ≤ sizeLine; decide, [.str z s.toks], .cons ⟨_, rfl⟩ .nil, ⟨_, Heap.get?_push_size _ rfl, rfl, _, rfl⟩⟩)
theorem pa_up {es : List Expr} {ta : TA} (ha : PEU X e te) (hr : PAT X es ta) (hs : starEach (e :: es) X.env = (false, eval e X.env) :: starEach es X.env := by rfl) : PA X (e :: es) (tCons te ta) := ⟨fun pos pins s σ H Q I h => by
  rw [hs]
  show wpAny _ _ (spliced ((false, eval e X.env) :: backTo pos (starEach es X.env))) _ _ s
  refine Calls.spliced_cons (thn (ha pins s σ H _ I h) fun v s1 ⟨hk, x, H1, I1, r1, q1⟩ => ?_)
  exact thn (hr pos pins s1 σ H1 _ hk I1 q1) fun us s2 ⟨xs, H2, I2, r2, q2⟩ => ⟨x :: xs, H2, I2, .cons r1 r2, q2⟩⟩
/-- ((z,), o.replace(x, y)) -/
theorem de_rep2 {z t x y : Str} {j k1 k2 j1 j2 : Nat} {c0 c1 c2 p1 apos pos2 : Pos} (ho : DE X o ρ (.str t)) (hz : t.length + (t.length + 1) * y.length ≤ 16777216) (hyz : (x == y) = false := by decide)
    (hs : starEach [.Constant (.str z) j c0] X.env = (false, eval (.Constant (.str z) j c0) X.env) :: starEach [] X.env := by rfl)
    (hst : starEach [.Constant (.str x) j1 c1, .Constant (.str y) j2 c2] X.env = [(false, eval (.Constant (.str x) j1 c1) X.env), (false, eval (.Constant (.str y) j2 c2) X.env)] := by rfl)
    (hbase : attributeBase o "replace" X.env (eval o X.env) = eval o X.env := by rfl) (hline : (apos.endLine == pos2.line) = true := by rfl)
    (hs1 : starEach [.Tuple [.Constant (.str z) j c0] k1 p1, .Call (.Attribute o "replace" apos) [.Constant (.str x) j1 c1, .Constant (.str y) j2 c2] [] pos2] X.env = (false, eval (.Tuple [.Constant (.str z) j c0] k1 p1) X.env) :: starEach [.Call (.Attribute o "replace" apos) [.Constant (.str x) j1 c1, .Constant (.str y) j2 c2] [] pos2] X.env := by rfl)
    (hs2 : starEach [.Call (.Attribute o "replace" apos) [.Constant (.str x) j1 c1, .Constant (.str y) j2 c2] [] pos2] X.env = (false, eval (.Call (.Attribute o "replace" apos) [.Constant (.str x) j1 c1, .Constant (.str y) j2 c2] [] pos2) X.env) :: starEach [] X.env := by rfl) :
    DE X (.Tuple [.Tuple [.Constant (.str z) j c0] k1 p1, .Call (.Attribute o "replace" apos) [.Constant (.str x) j1 c1, .Constant (.str y) j2 c2] [] pos2] k2 pos) ρ (.tup [.tup [.str z], .str (Txt.replace t x y)]) := fun Hs H σ E Q q =>
  wpE_of (pe_tup (pa_up (peu_tup1 hs) (pat_cons (CwR.pet_replC pe_wp hyz hst hbase hline) pat_nil hs2) hs1)) (by
    refine ⟨by show 1 ≤ sizeLine; decide, fun p hp => ?_⟩
    have t1 : Step Hs H (upd Hs p (.tup [.str z])) (upd H p (.tup [.str z])) := Step.newF E.sub hp
    refine ho _ _ σ (E.step t1) _ fun v H2s H2 t2 ⟨d, r, pr⟩ => ?_
    subst r
    refine ⟨t, pr.str_inv, hz, by show 2 ≤ sizeLine; decide, fun p2 hp2 => ?_⟩
    refine q _ _ _ ((t1.trans t2).trans (Step.newF t2.sub hp2)) ⟨_, rfl, .tup (Or.inl (Or.inl upd_same)) (.cons (.tup (Or.inl (Or.inl ?_)) (.one (.str _))) (.one (.str _)))⟩
    exact Ex.new (t2.sub.free hp2) _ _ (t2.fz _ _ upd_same))
def wpSsT (X : Cx) (st : List Stmt) : TS := fun D σ H => ∀ pins s, 1 ≤ s.toks → Inv X pins σ H s → wpAny (model X.prog X.w) X.A (execs st X.env) (SP X pins D) X.xe s
theorem psst_wp {st : List Stmt} : PSsT X st (wpSsT X st) := fun pins s σ H D h0 I h => h pins s h0 I
theorem wpSsT_of {st : List Stmt} {t : TS} (h : PSsT X st t) {σ : L2.St} {H : Hp} {D : Ends} (q : t D σ H) : wpSsT X st D σ H := fun pins s h0 I => h pins s σ H D h0 I q
def DSsT (X : Cx) (S0 H0 : Hp) (st : List Stmt) (ρ : List Sl) (D : DEnds) : Prop := ∀ B σ H, At X.K S0 H0 B ρ σ H → wpSsT X st (D.e X.K S0 H0 B) σ H
theorem dsst_of (h : DSs X S0 H0 sts ρ D) : DSsT X S0 H0 sts ρ D := fun B σ H A => wpSsT_of (PSsT.of pss_wp) (h B σ H A)
theorem dsst_cons {M : List Sl → Prop} (h1 : DS X S0 H0 st ρ { D with nx := M }) (h2 : ∀ ρ', M ρ' → DSsT X S0 H0 rest ρ' D) : DSsT X S0 H0 (st :: rest) ρ D := fun B σ H A =>
  wpSsT_of (psst_cons (PST.of ps_wp) psst_wp) (wpS_mono (h1 B σ H A) (fun σ' H' ⟨ρ', m, A'⟩ => h2 ρ' m B σ' H' A') (fun _ _ q => q) (fun _ _ q => q) (fun _ _ q => q))
theorem dsst_then (h1 : DS X S0 H0 st ρ { D with nx := fun z => z = ρ1 }) (h2 : DSsT X S0 H0 rest ρ1 D) : DSsT X S0 H0 (st :: rest) ρ D := dsst_cons h1 fun _ e => by rw [e]; exact h2
theorem dsst_ifr {k : Bool} {p : List Stmt} (hc : DT X c ρ k) (ha : k = true → DSs X S0 H0 p ρ { D with nx := fun _ => False }) (hb : k = false → DSsT X S0 H0 rest ρ D) : DSsT X S0 H0 (.If c p [] pos :: rest) ρ D :=
  dsst_cons (M := fun z => z = ρ ∧ k = false) (ds_ifT hc (fun hk B σ H A => wpSs_mono (ha hk B σ H A) (fun _ _ ⟨_, q, _⟩ => q.elim) (fun _ _ q => q) (fun _ _ q => q) (fun _ _ q => q)) fun hk => dss_nil ⟨rfl, hk⟩) fun _ ⟨e, hk⟩ => by rw [e]; exact hb hk
/-- a == "..": behind it a token is out -/
theorem ptu_cmp {op : CmpOp} {r : L2.R2} {z : Str} {j : Nat} {c0 : Pos} {ta : TE} (ho : OpR X (compareOp op) r) (ha : PE X a ta) (hm : behindInMarks op (.Constant (.str z) j c0) = false) : PTU X (.Compare a [op] [.Constant (.str z) j c0] pos) (tTest (tOp r ta (tC (.str z)))) := fun pins s σ H Q I h => by
  refine wpAny_isTrue_Compare1 (thn (ha.run pins s σ H _ I h) fun v s1 ⟨x, H1, I1, r1, q1⟩ => Calls.Constant_str ?_) hm
  refine wpAny_mono (PySem.wpAny_toks (ho pins _ σ H1 x (.str z) v (.str z s1.toks) _ (I1.tok (s1.toks + 1)) r1 ⟨_, rfl⟩ q1)) (fun c s3 q => ?_) fun _ _ z => z.2
  obtain ⟨hk, y, H3, I3, r3, k, e, q3⟩ := q
  subst e
  cases r3
  refine wpAny_truthy_bool ⟨?_, H3, I3, q3⟩
  have : s1.toks + 1 ≤ s3.toks := hk
  omega
theorem dss_ifU {p : List Stmt} {d : Dt} {z : Str} {k : Bool} {j : Nat} {c0 p1 : Pos} {op : CmpOp} (ha : DE X a ρ d) (hop : OD X (compareOp op) d (.str z) (fun g => g = .bl k)) (hp : k = true → DSs X S0 H0 p ρ { D with nx := fun _ => False }) (hr : k = false → DSsT X S0 H0 rest ρ D) (hm : behindInMarks op (.Constant (.str z) j c0) = false := by first | exact nomark _ | rfl) :
    DSs X S0 H0 (.If (.Compare a [op] [.Constant (.str z) j c0] p1) p [] pos :: rest) ρ D := fun B σ H ⟨Hs, g1, g2, g3, g4⟩ pins s I => by
  have ht := ptu_cmp (X := X) (op := op) (a := a) (z := z) (j := j) (c0 := c0) (pos := p1) op_wp pe_wp hm pins s σ H (fun b H' => b = k ∧ ∃ Hs', Step Hs H Hs' H') I (ha Hs H σ g3 _ fun v H1s H1 t1 ⟨d', r, pr⟩ => by
    subst r
    exact hop H1s H1 v (.str z) t1.sub pr (.str z) _ fun y H2s H2 g t2 p2 r2 => by
      subst r2
      exact ⟨k, p2.bl_inv, rfl, H2s, t1.trans t2⟩)
  refine wpAny_execs_cons (wpAny_If (thn ht fun b s1 ⟨hk, H1, I1, e, Hs', t⟩ => ?_))
  subst e
  have A1 : At X.K S0 H0 B ρ σ H1 := At.en g1 g2 g3 g4 t
  cases b with
  | true =>
    refine thn (hp rfl B σ H1 A1 pins s1 I1) fun f s2 q => ?_
    cases f with
    | next => obtain ⟨σ', H', _, _, z, _⟩ := q; exact z.elim
    | ret v => exact q
    | brk => exact q
    | cont => exact q
  | false =>
    show wpAny _ _ (execs [] X.env) _ _ _
    refine wpAny_execs_nil ?_
    exact hr rfl B σ H1 A1 pins s1 hk I1
/-- x = e, e wants a token -/
theorem pst_set {i : Nat} {x : Str} {pos' : Pos} (hN : X.N.Nodup) (hi : X.N[i]? = some x) (hx : Loc X.env.scope x) (he : PET X e te) (hs : swapsWith e (some (.Name x pos')) pos.line X.env = pure false := by rfl) (hf : X.fn x = true ∨ X.env.scope.names.lookup x = some .local := by first | exact .inl rfl | exact .inr rfl | assumption) :
    PST X (.Assign [.Name x pos'] e pos) (tAsg te (gName i)) := fun pins s σ H D h0 I h => by
  refine wpAny_Assign_Name (thn (he pins s σ H _ h0 I h) fun v s1 ⟨y, H1, I1, r1, q1⟩ => ?_) hs
  exact store_ok I1 hN hi hx r1 (fun s2 I2 => ⟨_, H1, I2, q1⟩) hf
def wpET (X : Cx) (e : Expr) : TE := fun σ H Q => ∀ pins s, 1 ≤ s.toks → Inv X pins σ H s → wpAny (model X.prog X.w) X.A (eval e X.env) (EP X pins σ Q) X.xe s
theorem pet_wp {e : Expr} : PET X e (wpET X e) := fun pins s σ H Q h0 I h => h pins s h0 I
theorem wpET_of {e : Expr} {t : TE} (h : PET X e t) {σ : L2.St} {H : Hp} {Q : VK} (q : t σ H Q) : wpET X e σ H Q := fun pins s h0 I => h pins s σ H Q h0 I q
def DET (X : Cx) (e : Expr) (ρ : List Sl) (d : Dt) : Prop := TV X.K (wpET X e) ρ (PD X.K fun z => z = d)
theorem det_of {d : Dt} (h : DE X e ρ d) : DET X e ρ d := fun Hs H σ E Q q => wpET_of (CwR.PET.of pe_wp) (h Hs H σ E Q q)
theorem det_rep {t x y : Str} {j1 j2 : Nat} {c1 c2 apos : Pos} (ho : DET X o ρ (.str t)) (hz : t.length + (t.length + 1) * y.length ≤ 16777216) (hyz : (x == y) = false := by decide)
    (hst : starEach [.Constant (.str x) j1 c1, .Constant (.str y) j2 c2] X.env = [(false, eval (.Constant (.str x) j1 c1) X.env), (false, eval (.Constant (.str y) j2 c2) X.env)] := by rfl)
    (hbase : attributeBase o "replace" X.env (eval o X.env) = eval o X.env := by rfl) (hline : (apos.endLine == pos.line) = true := by rfl) : DET X (.Call (.Attribute o "replace" apos) [.Constant (.str x) j1 c1, .Constant (.str y) j2 c2] [] pos) ρ (.str (Txt.replace t x y)) := fun Hs H σ E Q q =>
  wpET_of (CwR.pet_replT pet_wp hyz hst hbase hline) (ho Hs H σ E _ fun v H1s H1 t1 ⟨d, r, p⟩ => by
    subst r
    exact ⟨t, p.str_inv, hz, q _ H1s H1 t1 ⟨_, rfl, .str _⟩⟩)
theorem dsst_set (i : Nat) {x : Str} {p2 : Pos} {d : Dt} (h : DET X e ρ d) (h2 : DSs X S0 H0 rest (ρ.set i (.dat d)) D) (hN : X.N.Nodup) (hi : X.N[i]? = some x := by rfl) (hx : Loc X.env.scope x := by first | exact Or.inl rfl | exact Or.inr rfl) (hs : swapsWith e (some (.Name x p2)) pos.line X.env = pure false := by rfl)
    (hf : X.fn x = true ∨ X.env.scope.names.lookup x = some .local := by first | exact .inl rfl | exact .inr rfl) : DSsT X S0 H0 (.Assign [.Name x p2] e pos :: rest) ρ D := fun B σ H ⟨Hs, g1, g2, g3, g4⟩ =>
  wpSsT_of (psst_cons (pst_set hN hi hx pet_wp hs hf) (PSsT.of pss_wp)) (h Hs H σ g3 _ fun v Hs' H' t ⟨d', r, p⟩ => by
    subst r
    exact h2 B _ _ (At.asg g1 g2 g4 t ((g3.step t).setD p) Asg.set))
end
end DL
/-! DLp -/
set_option Elab.async false
set_option linter.all false
set_option maxRecDepth 100000
set_option maxHeartbeats 4000000
namespace DL
open PySem PySem.Spec PyProof.Rows L2
section
variable {prog : Program} {w : World} {A : Around} {E : Value → Shared → Prop} {s : Shared}
/-- one item ahead, the rest in a new list -/
theorem star_items {l : Addr} {u0 : Value} {us : List Value} {Q : List Value → Shared → Prop} (hl : IsTup s.heap l (u0 :: us).toArray) (hh : A.handled = none) (hz : us.length ≤ 1000)
    (h : ∀ (h' : Heap) (tk : Tok), (∀ (b : Addr) (o : Obj), s.heap.get? b = some o → h'.get? b = some o) → Q [u0, .ref h'.objs.size] { s with heap := h'.push { cls := .type "list", data := .seq us.toArray }, toks := tk }) : wpAny (model prog w) A (unpackItems (.ref l) 2 (some 1)) Q E s := by
  have hlt : l ≠ s.heap.objs.size := by
    obtain ⟨o, ho, _⟩ := hl
    exact Nat.ne_of_lt (Heap.lt_size ho)
  unfold unpackItems notIterableAtAll
  refine wpAny_bind (wpAny_bind (wpAny_specialOf hl.typeIs slot_tuple_iter.lookup (wpAny_pure ?_)))
  rw [if_neg Bool.false_ne_true]
  refine wpAny_bind (wpAny_holding (iter_tuple hl ?_))
  have hl0 := hl.push { cls := .type "tuple_iterator", data := .fields #[.ref l, .int 0 0] }
  refine wpAny_bind (wpAny_holding (draw_tuple hlt 1 0 _ _ ⟨_, Heap.get?_push_size _ rfl, rfl, rfl⟩ hl0 (by simp) fun h1 it1 s1 => ?_))
  have hl1 : IsTup h1 l (u0 :: us).toArray := hl0.extBut s1.extBut hlt
  have e1 : (((u0 :: us).toArray.toList.drop 0).take 1) = [u0] := by simp
  rw [e1]
  show wpAny _ _ (if [u0].length < 1 then _ else _) _ _ _
  rw [if_neg (by simp)]
  have it1' : IsTupIter h1 s.heap.objs.size l 1 := it1
  obtain ⟨oi, hoi, _⟩ := id it1'
  obtain ⟨ol, hol, _⟩ := id hl1
  refine wpAny_bind (wpAny_holding (PySem.W.kun_collect (s := { s with heap := h1 }) (T := "tuple_iterator") (.inr (.inr (.inr rfl))) (Walks.tuple (A := A.in1) hh s.heap.objs.size l hlt (u0 :: us).toArray) (fun j u st => st.1.typeIs) (k := 1) (by simp) ⟨it1', hl1⟩ (Heap.lt_size hoi) (Heap.lt_size hol) (fun h2 tk hk => ?_) (by rw [sizeLine_eq]; simp; omega)))
  have e2 : ((u0 :: us).toArray.toList.drop 1) = us := by simp
  rw [e2]
  show wpAny _ _ (if us.length < 0 then _ else _) _ _ _
  rw [if_neg (by omega)]
  show wpAny _ _ (newList (us.take us.length) >>= fun d => pure ([u0] ++ [d] ++ us.drop us.length)) _ _ _
  rw [List.take_length, List.drop_length]
  refine wpAny_bind (wpAny_newList (wpAny_pure ?_) ?_)
  · have up : ∀ b o, s.heap.get? b = some o → h2.get? b = some o := fun b o e => by
      have hb : b ≠ s.heap.objs.size := Nat.ne_of_lt (Heap.lt_size e)
      exact hk b o hb (s1.extBut b o hb (Heap.get?_push_of_some _ e))
    exact h h2 tk up
  · rw [sizeLine_eq]; omega
end
section
variable {X : Cx} {ρ : List Sl} {pos : Pos}
def gStar (K : PySem.W.Frag) (i j : Nat) : TG := fun v σ H Q => ∃ a v0 xs, v = .ref a ∧ SqT K H a (v0 :: xs) ∧ xs.length ≤ 1000 ∧ ∀ q, H q = none → Q ((σ.set i (some v0)).set j (some (.ref q))) (upd H q (.lst xs))
theorem pg_star {i j : Nat} {x y : Str} {k : Nat} {p1 p2 p3 : Pos} (hc : X.calm = true) (g1 : PG X (.Name x p1) (gName i)) (g2 : PG X (.Name y p2) (gName j))
    (hn : (assignEach [.Name x p1, .Starred (.Name y p2) p3] X.env).length = 2 := by rfl) (hst : (assignEach [.Name x p1, .Starred (.Name y p2) p3] X.env).findIdx? (·.1) = some 1 := by rfl)
    (hm : (assignEach [.Name x p1, .Starred (.Name y p2) p3] X.env).map (·.2) = [assign (.Name x p1) X.env, assign (.Name y p2) X.env] := by rfl) : PG X (.Tuple [.Name x p1, .Starred (.Name y p2) p3] k pos) (gStar X.K i j) := by
  refine ⟨fun pins s σ H v u Q I r hw => ?_⟩
  obtain ⟨a, v0, xs, e1, hq, hl, hw⟩ := hw
  subst e1
  cases r
  obtain ⟨its, rv, ht, hz⟩ := I.tuple hq
  cases rv with
  | @cons _ u0 _ us r0 rs =>
    rw [assign_Tuple]
    refine wpAny_bind (wpAny_standAt ?_)
    unfold unpack
    rw [hn, hst, hm]
    refine wpAny_bind (wpAny_holding (star_items ht (I.ok.hd hc) (by rw [← rs.length]; exact hl) fun h2 tk up => ?_))
    have I1 : Inv X pins σ H { s with heap := h2, toks := tk } := I.kept up
    have I2 : Inv X pins σ (upd H h2.objs.size (.lst xs)) { s with heap := h2.push { cls := .type "list", data := .seq us.toArray }, toks := tk } :=
      I1.laid (t' := tk) (fun b o e => Heap.get?_push_of_some _ e) (Nat.le_refl _) (show ObjOk X.prog X.w _ _ _ (.lst xs) from ⟨by rw [sizeLine_eq]; omega, us, 0, rs, Heap.get?_push_size _ rfl⟩)
    have hf := I1.hok.fresh (Nat.le_refl h2.objs.size)
    refine assignInOrder_cons (thn (g1.run pins _ σ _ v0 u0 (fun σ' H' => σ' = σ.set i (some v0) ∧ H' = upd H h2.objs.size (.lst xs)) I2 r0 ⟨rfl, rfl⟩) fun _ s2 ⟨σ2, H2, I3, e2, e3⟩ => ?_)
    subst e2 e3
    refine assignInOrder_cons (thn (g2.run pins _ _ _ (.ref h2.objs.size) (.ref h2.objs.size) (fun σ' H' => σ' = (σ.set i (some v0)).set j (some (.ref h2.objs.size)) ∧ H' = upd H h2.objs.size (.lst xs)) I3 rfl ⟨rfl, rfl⟩) fun _ s3 ⟨σ3, H3, I4, e4, e5⟩ => ?_)
    subst e4 e5
    exact assignInOrder_nil ⟨_, _, I4, hw _ hf⟩
theorem dg_star (i j : Nat) {x y : Str} {d : Dt} {ds : List Dt} {k : Nat} {p1 p2 p3 : Pos} {M : List Sl → Prop} (h : M ((ρ.set i (.dat d)).set j (.dat (.lst ds)))) (hl : ds.length ≤ 1000) (hN : X.N.Nodup) (hc : X.calm = true := by rfl) (hi : X.N[i]? = some x := by rfl) (hx : Loc X.env.scope x := by first | exact Or.inl rfl | exact Or.inr rfl) (hfx : X.fn x = true ∨ X.env.scope.names.lookup x = some .local := by first | exact .inl rfl | exact .inr rfl)
    (hj : X.N[j]? = some y := by rfl) (hy : Loc X.env.scope y := by first | exact Or.inl rfl | exact Or.inr rfl) (hfy : X.fn y = true ∨ X.env.scope.names.lookup y = some .local := by first | exact .inl rfl | exact .inr rfl)
    (hn : (assignEach [.Name x p1, .Starred (.Name y p2) p3] X.env).length = 2 := by rfl) (hst : (assignEach [.Name x p1, .Starred (.Name y p2) p3] X.env).findIdx? (·.1) = some 1 := by rfl)
    (hm : (assignEach [.Name x p1, .Starred (.Name y p2) p3] X.env).map (·.2) = [assign (.Name x p1) X.env, assign (.Name y p2) X.env] := by rfl) :
    DG X (.Tuple [.Name x p1, .Starred (.Name y p2) p3] k pos) (.tup (d :: ds)) [i, j] ρ M := fun Hs H σ v E r Q q => by
  obtain ⟨a, xs, rfl, h1, h2⟩ := r.tup_inv
  cases h2 with
  | @cons v0 xs _ _ r0 rs =>
    refine wpG_of (pg_star hc (pg_name hN hi hx hfx) (pg_name hN hj hy hfy) hn hst hm) ⟨a, _, _, rfl, ex_t E.sub h1, by rw [rs.length]; exact hl, fun p hp => ?_⟩
    have t : Step Hs H (upd Hs p (.lst xs)) (upd H p (.lst xs)) := Step.newF E.sub hp
    exact q _ _ _ _ t (((E.step t).setD (Rep.mono t.fz _ _ r0)).setD (.lst upd_same (RepAll.mono t.fz _ _ rs))) (Asg.set.trans Asg.set) h
end
end DL
/-! Pa -/
set_option Elab.async false
set_option linter.all false
set_option maxRecDepth 100000
set_option maxHeartbeats 4000000
namespace DL
open PySem PySem.Spec PyProof.Rows L2
local macro_rules | `(tactic| walk_at "od") => `(tactic| first | exact od_eqS | exact od_neS | exact od_inT | exact od_notInT | exact od_inL | exact od_notInL | exact od_eqB | exact od_neB)
local macro_rules | `(tactic| walk_at "len") => `(tactic| first | omega | (simp only [List.length_append, List.length_cons, List.length_nil, List.length_take, List.length_drop]; omega))
section
variable {P : Program} {w : World} {K : PySem.W.Frag} {mg : Str → Option Value} {base : Heap}
def stepW (up : Bool) (i : Int) : Int := if up then i + 1 else i - 1
def S_next_slot : List Sl → (Dt → Prop) → Prop := fun as R => ∃ (r : Rd') (i : Int), as = [.dat (rdD r), .dat (.int i)] ∧ R = fun d => d = .int (stepW r.up i)
theorem ok_next_slot (T : Top w K mg) : Fn P w K mg base "next_slot" 1 P_next_slot S_next_slot := by
  refine Fn.mk1 (st := s_next_slot) T 8 rfl T.g_next_slot (fun fd F => fn_one F sc_next_slot ?_) (fun _ _ _ _ _ _ us hl => match us, hl with | [_, _], _ => rfl)
  rintro as R ⟨r, i, rfl, rfl⟩
  refine ⟨⟨rfl, by simp [isMut]⟩, fun cdv A outer s H S0 E hr => ?_⟩
  refine dss_one (ds_retE (de_if (dt_cmp (de_fld (de_v 0) T.c_Reader T.n_Reader_way (rd_way r)) de_str od_way) (fun _ => de_bin (de_v 1) de_int od_add) (fun _ => de_bin (de_v 1) de_int od_sub)) ?_)
  show (if r.up = true then _ else _) = Dt.int (stepW r.up i)
  unfold stepW
  split <;> rfl
def S_place_of : List Sl → (Dt → Prop) → Prop := fun as R => ∃ u v : List Lt, as = [.dat (.str (enc u)), .dat (.str (enc v))] ∧ R = fun d => d = optD (place u v)
theorem ok_place_of (T : Top w K mg) : Fn P w K mg base "place_of" 1 P_place_of S_place_of := by
  refine Fn.mk1 (st := s_place_of) T 6 rfl T.g_place_of (fun fd F => fn_one F sc_place_of ?_) (fun _ _ _ _ _ _ us hl => match us, hl with | [_, _], _ => rfl)
  rintro as R ⟨u, v, rfl, rfl⟩
  refine ⟨⟨rfl, by simp [isMut]⟩, fun cdv A outer s H S0 E hr => ?_⟩
  refine dss_cons (M := fun z => z = [.dat (.str (enc u)), .dat (.str (enc v)), .un, .un] ∧ place u v = none) (ds_for (di_enumW T.f_enumerate (de_v 0)) fun ds hds => ⟨fun i z => z = [.dat (.str (enc u)), .dat (.str (enc v)), .un, .un] ∧ ∀ j < i, ∀ c, u[j]? = some c → c ∉ v, ⟨_, ⟨rfl, fun j hj => absurd hj (Nat.not_lt_zero j)⟩, Wk.refl _⟩, ?_, ?_⟩) ?_
  · rintro i d ρi hd ⟨rfl, hi⟩
    subst hds
    have hlt : i < u.length := by
      have := (List.getElem?_eq_some_iff.mp hd).1
      simpa [enumD_len] using this
    have hg : (u.map fun c => Dt.str (enc [c]))[i]? = some (.str (enc [u[i]])) := by simp [hlt]
    have e : d = .tup [.int (i : Int), .str (enc [u[i]])] := by
      have := enumD_get 0 _ i _ hg
      rw [this] at hd
      simpa using hd.symm
    subst e
    refine ⟨[2, 3], dg2 2 3 ?_ sc_place_of.nd⟩
    refine dss_one (ds_ifT (dt_cmp (de_v 3) (de_v 1) od_inW) (fun hc => ?_) (fun hc => ?_))
    · refine dss_one (ds_retE (de_v 2) ?_)
      have hm : u[i] ∈ v := of_decide_eq_true hc
      show Dt.int (i : Int) = optD (place u v)
      have : place u v = some i := by
        unfold place
        rw [List.findIdx?_eq_some_iff_getElem]
        refine ⟨hlt, by simpa using hm, fun j hj => ?_⟩
        have hjl : j < u.length := by omega
        simpa using hi j hj u[j] (by simp [hjl])
      rw [this] <;> rfl
    · refine dss_nil ⟨_, ⟨rfl, fun j hj c hc' => ?_⟩, .eq (.eq (.un (.un .nil)))⟩
      by_cases hji : j = i
      · subst hji
        have : c = u[j] := by simpa [hlt] using hc'.symm
        rw [this]
        exact of_decide_eq_false hc
      · exact hi j (by omega) c hc'
  · rintro z ⟨rfl, hi⟩
    subst hds
    refine ⟨rfl, ?_⟩
    unfold place
    rw [List.findIdx?_eq_none_iff]
    intro c hc
    obtain ⟨j, hj⟩ := List.getElem?_of_mem hc
    have hjl : j < u.length := (List.getElem?_eq_some_iff.mp hj).1
    simpa using hi j (by rw [enumD_len, List.length_map]; exact hjl) c hj
  · rintro z ⟨rfl, hn⟩
    refine dss_one (ds_retE de_non ?_)
    show Dt.non = optD (place u v)
    rw [hn] <;> rfl
end

end DL
/-! DLq -/
set_option Elab.async false
set_option linter.all false
set_option maxRecDepth 100000
set_option maxHeartbeats 4000000
namespace DL
open PySem PySem.Spec PyProof.Rows L2
def py : Nat → Dt → PyData
  | _, .non => .none
  | _, .bl b => .bool b
  | _, .int i => .int i
  | _, .str s => .str s
  | n + 1, .lst ds => .list (ds.map (py n))
  | n + 1, .tup ds => .tuple (ds.map (py n))
  | _, _ => .none
def pln : Nat → Dt → Bool
  | _, .non => true
  | _, .bl _ => true
  | _, .int _ => true
  | _, .str s => PyData.strOk s
  | n + 1, .lst ds => ds.all (pln n)
  | n + 1, .tup ds => ds.all (pln n)
  | _, _ => false
theorem lay_all {ds : List PyData} (h : ∀ d ∈ ds, d.canLay0 = true) : PyData.canLayAll0 ds = true := by
  induction ds with
  | nil => simp [PyData.canLayAll0]
  | cons d ds ih => simp [PyData.canLayAll0, h d (by simp), ih fun x hx => h x (by simp [hx])]
theorem depth_all {ds : List PyData} {n : Nat} (h : ∀ d ∈ ds, d.depth ≤ n) : PyData.depthAll ds ≤ n := by
  induction ds with
  | nil => simp [PyData.depthAll]
  | cons d ds ih =>
    have h1 := h d (by simp)
    have h2 := ih fun x hx => h x (by simp [hx])
    simp only [PyData.depthAll]
    omega
theorem py_lay : ∀ (n : Nat) (d : Dt), pln n d = true → (py n d).canLay0 = true := by
  intro n
  induction n with
  | zero =>
    intro d h
    cases d with
    | str s => simpa [py, PyData.canLay0, pln] using h
    | lst _ => cases h
    | tup _ => cases h
    | dct _ => cases h
    | ins _ _ => cases h
    | _ => simp [py, PyData.canLay0]
  | succ n ih =>
    intro d h
    cases d with
    | str s => simpa [py, PyData.canLay0, pln] using h
    | lst ds =>
      simp only [py, PyData.canLay0]
      exact lay_all fun x hx => by
        obtain ⟨y, hy, rfl⟩ := List.mem_map.mp hx
        exact ih y (List.all_eq_true.mp h y hy)
    | tup ds =>
      simp only [py, PyData.canLay0]
      exact lay_all fun x hx => by
        obtain ⟨y, hy, rfl⟩ := List.mem_map.mp hx
        exact ih y (List.all_eq_true.mp h y hy)
    | dct _ => cases h
    | ins _ _ => cases h
    | _ => simp [py, PyData.canLay0]
theorem py_depth : ∀ (n : Nat) (d : Dt), (py n d).depth ≤ n := by
  intro n
  induction n with
  | zero => intro d; cases d <;> simp [py, PyData.depth]
  | succ n ih =>
    intro d
    cases d with
    | lst ds =>
      simp only [py, PyData.depth]
      have := depth_all (ds := ds.map (py n)) (n := n) fun x hx => by
        obtain ⟨y, hy, rfl⟩ := List.mem_map.mp hx
        exact ih y
      omega
    | tup ds =>
      simp only [py, PyData.depth]
      have := depth_all (ds := ds.map (py n)) (n := n) fun x hx => by
        obtain ⟨y, hy, rfl⟩ := List.mem_map.mp hx
        exact ih y
      omega
    | _ => simp [py, PyData.depth]
theorem shaped_py {d : Dt} {n : Nat} (hp : pln n d = true) (hn : n ≤ 64) : SeqAt.shaped (py n d) = true := by
  show ((py n d).canLay0 && decide ((py n d).depth ≤ 64)) = true
  rw [py_lay n d hp, Bool.true_and]
  exact decide_eq_true (Nat.le_trans (py_depth n d) hn)
section
variable {K : PySem.W.Frag} {Hs H : Hp}
theorem dp_all {f : Dt → PyData} {g : Dt → Bool} : ∀ (ds : List Dt) (vs : List V), ds.all g = true → (∀ d ∈ ds, ∀ v, g d = true → Rep K Hs v d → Dp K H v (f d)) → RepAll K Hs vs ds → DpAll K H vs (ds.map f)
  | [], _, _, _, h => by cases h; exact .nil
  | d :: ds, _, hp, ih, h => by
    cases h with
    | cons h1 h2 =>
      rw [List.all_cons, Bool.and_eq_true] at hp
      exact .cons (ih d (by simp) _ hp.1 h1) (dp_all ds _ hp.2 (fun x hx => ih x (by simp [hx])) h2)
theorem Rep.dp (e : Ex Hs H) : ∀ (n : Nat) (d : Dt) (v : V), pln n d = true → Rep K Hs v d → Dp K H v (py n d) := by
  intro n
  induction n with
  | zero =>
    intro d v hp h
    cases h with
    | non => exact .non
    | bl b => exact .bl b
    | int i => exact .int i
    | str s => exact .str s
    | lst _ _ => cases hp
    | tup _ _ => cases hp
    | dct _ _ => cases hp
    | ins _ _ => cases hp
  | succ n ih =>
    intro d v hp h
    cases h with
    | non => exact .non
    | bl b => exact .bl b
    | int i => exact .int i
    | str s => exact .str s
    | lst h1 h2 => exact .lst (Or.inl (Or.inl (e _ _ h1))) (dp_all _ _ hp (fun d _ v p r => ih d v p r) h2)
    | tup h1 h2 => exact .tup (ex_t e h1) (dp_all _ _ hp (fun d _ v p r => ih d v p r) h2)
    | dct _ _ => cases hp
    | ins _ _ => cases hp
end
abbrev eqD (d e : Dt) : Bool := PyData.eqv (py 8 d) (py 8 e)
section
variable {X : Cx} {ρ : List Sl} {a b c e f o : Expr} {es : List Expr} {R : Dt → Prop} {pos : Pos}
theorem od_eqP {d g : Dt} (hu : X.A.units + 64 < cLine) (p1 : pln 8 d = true) (p2 : pln 8 g = true) : OD X (compareOp .Eq) d g (fun z => z = .bl (eqD d g)) := od_of (op_eqD hu) fun Hs H v u s rv ru Q q =>
  ⟨py 8 d, py 8 g, Rep.dp s 8 d v p1 rv, Rep.dp s 8 g u p2 ru, shaped_py p1 (by decide), shaped_py p2 (by decide), q _ Hs H _ (Step.refl s) (.bl _) rfl⟩
theorem od_neP {d g : Dt} (hu : X.A.units + 64 < cLine) (p1 : pln 8 d = true) (p2 : pln 8 g = true) : OD X (compareOp .NotEq) d g (fun z => z = .bl (!eqD d g)) := od_of (op_neD hu) fun Hs H v u s rv ru Q q =>
  ⟨py 8 d, py 8 g, Rep.dp s 8 d v p1 rv, Rep.dp s 8 g u p2 ru, shaped_py p1 (by decide), shaped_py p2 (by decide), q _ Hs H _ (Step.refl s) (.bl _) rfl⟩
theorem eqD_nil (ds : List Dt) : eqD (.lst ds) (.lst []) = ds.isEmpty := by
  cases ds <;> simp [eqD, py, PyData.eqv, PyData.eqvAll]
theorem eqD_tnil (ds : List Dt) : eqD (.tup ds) (.tup []) = ds.isEmpty := by
  cases ds <;> simp [eqD, py, PyData.eqv, PyData.eqvAll]
/-- ds == [], ds != [] -/
theorem od_eqNil {ds : List Dt} (hu : X.A.units + 64 < cLine) (h : ∀ d ∈ ds, pln 7 d = true) : OD X (compareOp .Eq) (.lst ds) (.lst []) (fun z => z = .bl ds.isEmpty) := by
  rw [← eqD_nil]
  exact od_eqP hu (List.all_eq_true.mpr h) rfl
theorem od_neNil {ds : List Dt} (hu : X.A.units + 64 < cLine) (h : ∀ d ∈ ds, pln 7 d = true) : OD X (compareOp .NotEq) (.lst ds) (.lst []) (fun z => z = .bl (!ds.isEmpty)) := by
  rw [← eqD_nil]
  exact od_neP hu (List.all_eq_true.mpr h) rfl
theorem od_eqTnil {ds : List Dt} (hu : X.A.units + 64 < cLine) (h : ∀ d ∈ ds, pln 7 d = true) : OD X (compareOp .Eq) (.tup ds) (.tup []) (fun z => z = .bl ds.isEmpty) := by
  rw [← eqD_tnil]
  exact od_eqP hu (List.all_eq_true.mpr h) rfl
theorem od_neTnil {ds : List Dt} (hu : X.A.units + 64 < cLine) (h : ∀ d ∈ ds, pln 7 d = true) : OD X (compareOp .NotEq) (.tup ds) (.tup []) (fun z => z = .bl (!ds.isEmpty)) := by
  rw [← eqD_tnil]
  exact od_neP hu (List.all_eq_true.mpr h) rfl
theorem pln_up {n : Nat} : ∀ {d : Dt}, pln n d = true → pln (n + 1) d = true := by
  induction n with
  | zero => intro d h; cases d <;> first | exact h | cases h
  | succ n ih =>
    intro d h
    cases d with
    | lst ds => exact List.all_eq_true.mpr fun x hx => ih (List.all_eq_true.mp h x hx)
    | tup ds => exact List.all_eq_true.mpr fun x hx => ih (List.all_eq_true.mp h x hx)
    | _ => exact h
theorem sd_ok (k : Sd) : PyData.strOk (sdS k) = true := by cases k <;> decide +kernel
theorem enc_ok (u : List Lt) : PyData.strOk (enc u) = true := by
  unfold PyData.strOk
  rw [← Array.all_toList, enc_list, List.all_map, List.all_eq_true]
  intro c _
  cases c <;> decide
/-- scenes are plain -/
theorem sc_plain (s : Sc) {n : Nat} : ∀ d ∈ scL s, pln n d = true := by
  intro d hd
  simp only [scL, List.mem_cons, List.not_mem_nil, or_false] at hd
  have key : ∀ x : Str, PyData.strOk x = true → pln n (.str x) = true := fun x h => by cases n <;> exact h
  rcases hd with h | h | h | h | h | h | h | h <;> subst h
  · cases n <;> rfl
  · cases n <;> rfl
  · cases n <;> rfl
  · cases n <;> rfl
  · cases n <;> rfl
  · cases s.word with
    | none => cases n <;> rfl
    | some u => exact key _ (enc_ok u)
  · exact key _ (sd_ok _)
  · exact key _ (sd_ok _)
theorem sc_plainD (s : Sc) {n : Nat} : pln (n + 1) (scD s) = true := List.all_eq_true.mpr fun d hd => sc_plain s d hd
def swapL : Lt → Lt
  | .k => .d
  | .b => .x
  | c => c
abbrev swK : List (Key × V) := [(Sum.inr ("k" : Str), V.str "."), (Sum.inr ("b" : Str), V.str "x")]
theorem sw_merge : mergeK [] swK = swK := by decide +kernel
theorem sw_get (l : Lt) : (valV swK (Sum.inr (enc [l]))).getD (V.str (enc [l])) = V.str (enc [swapL l]) := by cases l <;> decide +kernel
theorem upd_twice {H : Hp} {p : Addr} {x y : HO} : upd (upd H p x) p y = upd H p y := by
  funext a
  by_cases ha : a = p
  · rw [ha, upd_same, upd_same]
  · rw [upd_ne ha, upd_ne ha, upd_ne ha]
theorem pe_mono {t t' : TE} (h : PE X e t) (k : ∀ σ H Q, t' σ H Q → t σ H Q) : PE X e t' := ⟨fun pins s σ H Q I q => h.run pins s σ H Q I (k σ H Q q)⟩
theorem sw_disp {j1 j2 j3 j4 : Nat} {c1 c2 c3 c4 dp : Pos} : PE X (.Dict [some (.Constant (.str "k") j1 c1), some (.Constant (.str "b") j2 c2)] [.Constant (.str ".") j3 c3, .Constant (.str "x") j4 c4] dp) (fun σ H Q => ∀ p, H p = none → Q (.ref p) (upd H p (.dK swK))) :=
  pe_mono (pe_disp (pps_cons pe_str pe_str (pps_cons pe_str pe_str pps_nil)) rfl rfl (fun z => nomatch z) (Nat.le_of_ble_eq_true rfl)) fun σ H Q hq p hp => by
    refine ⟨upd_same, swK, rfl, Nat.le_of_ble_eq_true rfl, ?_⟩
    rw [sw_merge, upd_twice]
    exact hq p hp
theorem de_getl {l : Lt} {o : Expr} {apos cpos : Pos} (hu : X.A.units + 1 < cLine) (ho : PE X o (fun σ H Q => ∀ p, H p = none → Q (.ref p) (upd H p (.dK swK)))) (he : DE X e ρ (.str (enc [l]))) (hf : DE X f ρ (.str (enc [l]))) (m : M2 X o "get" apos e f cpos) :
    DE X (.Call (.Attribute o "get" apos) [e, f] [] cpos) ρ (.str (enc [swapL l])) := fun Hs H σ E Q q => by
  refine wpE_of (pe_dget2 hu ho pe_wp pe_wp m) fun p hp => ?_
  have t1 : Step Hs H (upd Hs p (.dK swK)) (upd H p (.dK swK)) := Step.newF E.sub hp
  refine ⟨p, rfl, Or.inl ⟨_, Or.inl upd_same⟩, he _ _ σ (E.step t1) _ fun y H2s H2 t2 hy => ?_⟩
  obtain ⟨d, r, hy⟩ := hy
  refine hf H2s H2 σ (E.step (t1.trans t2)) _ fun z H3s H3 t3 hz => ?_
  obtain ⟨d2, r2, hz⟩ := hz
  subst r r2
  have hd : H3 p = some (.dK swK) := (t2.trans t3).sub _ _ ((t2.trans t3).fz _ _ upd_same)
  rw [hy.str_inv, hz.str_inv]
  refine ⟨_, DGet.k (k := Sum.inr (enc [l])) hd, ?_⟩
  rw [sw_get]
  exact q _ H3s H3 ((t1.trans t2).trans t3) ⟨_, rfl, .str _⟩
theorem dar_star {Rl : List Dt → Prop} {S S' : List Sl → Prop} {p : Pos} (h : DR X e ρ (fun z => ∃ ds, (z = .tup ds ∨ z = .lst ds) ∧ Rl ds)) (hr : DA X es ρ S) (k : ∀ ds as, Rl ds → S as → S' (ds.map Sl.dat ++ as)) : DA X (.Starred e p :: es) ρ S' := fun Hs H σ E Q q =>
  wpA_of (StX.pa_star pe_wp pa_wp) (h Hs H σ E _ fun v H1s H1 t1 ⟨d, ⟨ds, r, r'⟩, pr⟩ => by
    have hx : ∃ a xs, v = .ref a ∧ (SqT X.K H1 a xs ∨ SqL X.K H1 a xs) ∧ RepAll X.K H1s xs ds := by
      rcases r with r | r
      · subst r
        obtain ⟨a, xs, h1, h2, h3⟩ := pr.tup_inv
        exact ⟨a, xs, h1, Or.inl (ex_t t1.sub h2), h3⟩
      · subst r
        obtain ⟨a, xs, h1, h2, h3⟩ := pr.lst_inv
        exact ⟨a, xs, h1, Or.inr (Or.inl (Or.inl (t1.sub _ _ h2))), h3⟩
    obtain ⟨a, xs, h1, h2, h3⟩ := hx
    refine ⟨a, xs, h1, h2, hr H1s H1 σ (E.step t1) _ fun vs as' H2s H2 t2 E2 r2 => ?_⟩
    exact q (xs ++ vs) _ H2s H2 (t1.trans t2) (En.appendD E2 (RepAll.mono t2.fz ds xs h3)) (k ds as' r' r2))
end
end DL
/-! Pb -/
set_option Elab.async false
set_option linter.all false
set_option maxRecDepth 100000
set_option maxHeartbeats 4000000
namespace DL
open PySem PySem.Spec PyProof.Rows L2
local macro_rules | `(tactic| walk_at "od") => `(tactic| first | exact od_eqS | exact od_neS | exact od_inT | exact od_notInT | exact od_inL | exact od_notInL | exact od_eqB | exact od_neB)
local macro_rules | `(tactic| walk_at "len") => `(tactic| first | omega | (simp only [List.length_append, List.length_cons, List.length_nil, List.length_take, List.length_drop]; omega))
section
variable {P : Program} {w : World} {K : PySem.W.Frag} {mg : Str → Option Value} {base : Heap}
def ledD : Option Nat → Dt
  | none => .tup [.str "next", .str ""]
  | some n => .tup [.str "row", .int (n : Int)]
def beyD : Dt := .tup [.str "beyond", .str ""]
abbrev W4 : List Str := ["key", "page", "slot", "stamp"]
abbrev W4D : Dt := .tup (W4.map Dt.str)
def S_row_led_to : List Sl → (Dt → Prop) → Prop := fun as R => ∃ n : Option Nat, as = [.dat (optD n)] ∧ R = fun d => d = ledD n
theorem ok_row_led_to (T : Top w K mg) : Fn P w K mg base "row_led_to" 1 P_row_led_to S_row_led_to := by
  refine Fn.mk1 (st := s_row_led_to) T 10 rfl T.g_row_led_to (fun fd F => fn_one F sc_row_led_to ?_) (fun _ _ _ _ _ _ us hl => match us, hl with | [_], _ => rfl)
  rintro as R ⟨n, rfl, rfl⟩
  refine ⟨⟨rfl, by simp [isMut]⟩, fun cdv A outer s H S0 E hr => ?_⟩
  refine dss_one (ds_retE (de_if (dt_cmp (de_v 0) de_non od_isNo) (fun _ => (de_tp (ds := [_, _]) (da_cons de_str (da_cons de_str da_nil)))) (fun _ => (de_tp (ds := [_, _]) (da_cons de_str (da_cons (de_v 0) da_nil))))) ?_)
  cases n <;> rfl
/-- where a row of the page leads -/
def LedOk (w : List Lt) (d : Dt) : Prop := d = ledD none ∨ ∃ n, n < (rowsOf w).length ∧ d = ledD (some n)
def S_by_slot : List Sl → (Dt → Prop) → Prop := fun as R => ∃ (r : Rd') (s : Sc) (w : List Lt), as = [.dat (rdD r), .dat (scD s)] ∧ s.word = some w ∧ w.length ≤ 10000 ∧ R = LedOk w
theorem ok_by_slot (T : Top w K mg) : Fn P w K mg base "by_slot" 2 P_by_slot S_by_slot := by
  refine Fn.mk1 (st := s_by_slot) T 11 rfl T.g_by_slot (fun fd F => fn_one F sc_by_slot ?_) (fun _ _ _ _ _ _ us hl => match us, hl with | [_, _], _ => rfl)
  rintro as R ⟨r, s, w, rfl, hw, hl, rfl⟩
  refine ⟨⟨rfl, by simp [isMut]⟩, fun cdv A outer s' H S0 E hr => ?_⟩
  refine dss_then (ds_set 2 (de_call (ok_next_slot T) hr (da_cons (de_v 0) (da_cons (de_sc (n := 2) (de_v 1)) da_nil)) ⟨_, _, rfl, rfl⟩) rfl sc_by_slot.nd) ?_
  refine dss_one (ds_ret (DR.mono (de_call (ok_row_led_to T) hr (da_cons (DE.eq (de_if (dt_chain de_int (de_v 2) (fun _ => (de_lenW T.f_len (de_call (ok_rows_of T) hr (da_cons (de_scw (de_v 1) hw) da_nil) ⟨_, rfl, by omega, rfl⟩) (by exact Nat.le_trans (List.length_filter_le ..) (by omega)))) od_le (fun _ => od_lt)) (fun _ => (de_v 2)) (fun _ => de_non))
    (d' := optD (if 0 ≤ stepW r.up s.slot ∧ stepW r.up s.slot < ((rowsOf w).length : Int) then some (stepW r.up s.slot).toNat else none)) (by
      by_cases h : 0 ≤ stepW r.up s.slot ∧ stepW r.up s.slot < ((rowsOf w).length : Int)
      · rw [if_pos h, if_pos (by simp [h.1, h.2])]
        show Dt.int _ = Dt.int (((stepW r.up s.slot).toNat : Nat) : Int)
        rw [Int.toNat_of_nonneg h.1]
      · rw [if_neg h, if_neg (by simpa using h)]; rfl)) da_nil) ⟨_, rfl, rfl⟩) ?_))
  intro d hd
  subst hd
  by_cases h : 0 ≤ stepW r.up s.slot ∧ stepW r.up s.slot < ((rowsOf w).length : Int)
  · rw [if_pos h]; exact Or.inr ⟨_, by omega, rfl⟩
  · rw [if_neg h]; exact Or.inl rfl
end

end DL
/-! Pc -/
set_option Elab.async false
set_option linter.all false
set_option maxRecDepth 100000
set_option maxHeartbeats 4000000
namespace DL
open PySem PySem.Spec PyProof.Rows L2
local macro_rules | `(tactic| walk_at "od") => `(tactic| first | exact od_eqS | exact od_neS | exact od_inT | exact od_notInT | exact od_inL | exact od_notInL | exact od_eqB | exact od_neB)
local macro_rules | `(tactic| walk_at "len") => `(tactic| first | omega | (simp only [List.length_append, List.length_cons, List.length_nil, List.length_take, List.length_drop]; omega))
section
variable {P : Program} {w : World} {K : PySem.W.Frag} {mg : Str → Option Value} {base : Heap}
theorem rows_le (u : List Lt) : (rowsOf u).length ≤ u.length := List.length_filter_le ..
theorem rows_take (u : List Lt) (n : Nat) : (rowsOf (u.take n)).length ≤ (rowsOf u).length := by
  unfold rowsOf
  exact ((List.take_sublist n u).filter _).length_le
theorem optI {i : Int} {p : Prop} [Decidable p] (h : p → 0 ≤ i) : (if p then Dt.int i else Dt.non) = optD (if p then some i.toNat else none) := by
  by_cases q : p
  · rw [if_pos q, if_pos q]
    show Dt.int i = Dt.int ((i.toNat : Nat) : Int)
    rw [Int.toNat_of_nonneg (h q)]
  · rw [if_neg q, if_neg q]; rfl
def S_by_key : List Sl → (Dt → Prop) → Prop := fun as R => ∃ (r : Rd') (s : Sc) (u : List Lt), as = [.dat (rdD r), .dat (scD s)] ∧ s.word = some u ∧ u.length ≤ 10000 ∧ (s.key = .inn → (place u [.k, .r, .b]).isSome = true) ∧ R = LedOk u
theorem ok_by_key (T : Top w K mg) : Fn P w K mg base "by_key" 2 P_by_key S_by_key := by
  refine Fn.mk1 (st := s_by_key) T 12 rfl T.g_by_key (fun fd F => fn_one F sc_by_key ?_) (fun _ _ _ _ _ _ us hl => match us, hl with | [_, _], _ => rfl)
  rintro as R ⟨r, s, u, rfl, hu, hl, hkey, rfl⟩
  refine ⟨⟨rfl, by simp [isMut]⟩, fun cdv A outer s' H S0 E hr => ?_⟩
  have hrl := rows_le u
  refine dss_then (ds_par3 2 3 4 (da_cons (de_scw (de_v 1) hu) (da_cons (de_sc (n := 6) (de_v 1)) (da_cons (de_lenW T.f_len (de_call (ok_rows_of T) hr (da_cons (de_scw (de_v 1) hu) da_nil) ⟨_, rfl, by omega, rfl⟩) (by omega)) da_nil))) (fun as e => ⟨_, _, _, e, rfl⟩) sc_by_key.nd) ?_
  refine dss_then (ds_set 5 (de_ifG Dt.int (dt_cmp (de_v 3) (de_strSd .left) od_eqSd) (fun _ => de_int) (fun _ => (de_v 4))) rfl sc_by_key.nd) ?_
  refine dss_then (ds_set 6 (de_v 5) rfl sc_by_key.nd) ?_
  have tail : ∀ f b : Nat, f ≤ (rowsOf u).length → DSs (cxOf CX0 P w K mg base N_by_key "by_key" (defScope s_by_key) (He.ga K "by_key") cdv A outer s' H E).nox S0 H
      (((defBody s_by_key).drop 4)) [.dat (rdD r), .dat (scD s), .dat (.str (enc u)), .dat (.str (sdS s.key)), .dat (.int ((rowsOf u).length : Int)), .dat (.int (f : Int)), .dat (.int (b : Int))] { nx := fun _ => LedOk u .non, rt := LedOk u } := fun f b hf => by
    refine dss_ifr (dt_cmp (de_fld (de_v 0) T.c_Reader T.n_Reader_way (rd_way _)) de_str od_way) (fun hc => ?_) (fun hc => ?_)
    · refine dss_one (ds_ret (DR.mono (de_call (ok_row_led_to T) hr (da_cons (DE.eq (de_if (dt_cmp (de_v 6) (de_v 4) od_lt) (fun _ => (de_v 6)) (fun _ => de_non)) (optI (by omega))) da_nil) ⟨_, rfl, rfl⟩) ?_))
      intro d hd
      subst hd
      split
      · rename_i h
        exact Or.inr ⟨_, by have := of_decide_eq_true h; omega, rfl⟩
      · exact Or.inl rfl
    · refine dss_one (ds_ret (DR.mono (de_call (ok_row_led_to T) hr (da_cons (DE.eq (de_if (dt_cmp (de_v 5) de_int od_gt) (fun _ => (de_bin (de_v 5) de_int od_sub)) (fun _ => de_non)) (optI (fun h => by have := of_decide_eq_true h; omega))) da_nil) ⟨_, rfl, rfl⟩) ?_))
      intro d hd
      subst hd
      split
      · rename_i h
        exact Or.inr ⟨_, by have := of_decide_eq_true h; omega, rfl⟩
      · exact Or.inl rfl
  refine dss_ift (ρA := [.dat (rdD r), .dat (scD s), .dat (.str (enc u)), .dat (.str (sdS s.key)), .dat (.int ((rowsOf u).length : Int)), .dat (.int ((rowsOf (u.take ((place u [.k, .r, .b]).getD 0))).length : Int)), .dat (.int (((if decide (Lt.r ∈ u) = true then (rowsOf (u.take ((place u [.k, .r, .b]).getD 0))).length else (rowsOf (u.take ((place u [.k, .r, .b]).getD 0))).length + 1 : Nat)) : Int))])
    (ρB := [.dat (rdD r), .dat (scD s), .dat (.str (enc u)), .dat (.str (sdS s.key)), .dat (.int ((rowsOf u).length : Int)), .dat (.int (((if decide (s.key = .left) = true then 0 else (rowsOf u).length : Nat)) : Int)), .dat (.int (((if decide (s.key = .left) = true then 0 else (rowsOf u).length : Nat)) : Int))])
    (dt_cmp (de_v 3) (de_strSd .inn) od_eqSd) (fun hc => ?_) (fun hc => dss_nil ?_) (fun hc => ?_) (fun hc => ?_)
  · obtain ⟨n, hn⟩ := Option.isSome_iff_exists.mp (hkey (of_decide_eq_true hc))
    have hg : (place u [.k, .r, .b]).getD 0 = n := by rw [hn]; rfl
    rw [hg]
    refine dss_then (ds_set 5 (de_lenW T.f_len (de_call (ok_rows_of T) hr (da_cons (de_slWhi (n := n) (de_v 2) (DE.eq (de_call (ok_place_of T) hr (da_cons (de_v 2) (da_cons (de_strW [.k, .r, .b]) da_nil)) ⟨_, _, rfl, rfl⟩) (by rw [hn] <;> rfl)) rfl (by omega)) da_nil) ⟨_, rfl, by rw [List.length_take]; omega, rfl⟩) (by have := rows_take u n; omega)) rfl sc_by_key.nd) ?_
    refine dss_one (ds_set 6 (de_ifG Dt.int (dt_cmp (de_strW [.r]) (de_v 2) od_inW) (fun _ => (de_v 5)) (fun _ => (de_bin (de_v 5) de_int od_add))) ?_ sc_by_key.nd)
    by_cases hm : Lt.r ∈ u
    · simp only [hm, decide_true, if_true]; rfl
    · simp only [hm, decide_false, if_false, Bool.false_eq_true]; rfl
  · by_cases hm : s.key = .left
    · simp only [hm, decide_true, if_true]; rfl
    · simp only [hm, decide_false, if_false, Bool.false_eq_true]; rfl
  · exact tail _ _ (rows_take u _)
  · refine tail _ _ ?_
    split <;> omega
end

end DL
/-! Pd -/
set_option Elab.async false
set_option linter.all false
set_option maxRecDepth 100000
set_option maxHeartbeats 4000000
namespace DL
open PySem PySem.Spec PyProof.Rows L2
local macro_rules | `(tactic| walk_at "od") => `(tactic| first | exact od_eqS | exact od_neS | exact od_inT | exact od_notInT | exact od_inL | exact od_notInL | exact od_eqB | exact od_neB)
local macro_rules | `(tactic| walk_at "len") => `(tactic| first | omega | (simp only [List.length_append, List.length_cons, List.length_nil, List.length_take, List.length_drop]; omega))
section
variable {P : Program} {w : World} {K : PySem.W.Frag} {mg : Str → Option Value} {base : Heap}
def S_is_possible : List Sl → (Dt → Prop) → Prop := fun as R => ∃ (d : Dd) (s : Sc), as = [.dat (.str (ddS d)), .dat (scD s), .dat W4D] ∧ R = fun z => z = .bl (decide (d = .find) || s.word.isSome)
theorem ok_is_possible (T : Top w K mg) : Fn P w K mg base "is_possible" 1 P_is_possible S_is_possible := by
  refine Fn.mk1 (st := s_is_possible) T 9 rfl T.g_is_possible (fun fd F => fn_one F sc_is_possible ?_) (fun _ _ _ _ _ _ us hl => match us, hl with | [_, _, _], _ => rfl)
  rintro as R ⟨d, sc, rfl, rfl⟩
  refine ⟨⟨rfl, by simp [isMut]⟩, fun cdv A outer s' H S0 E hr => ?_⟩
  refine dss_ifr (dt_cmp (de_v 0) de_str od_eqS) (fun hc => ?_) (fun hc => ?_)
  · refine dss_one (ds_retE (de_cmp de_str (de_v 2) od_inT) ?_)
    have h : d = .find := by
      cases d with
      | find => rfl
      | slot => exact absurd hc (by decide +kernel)
      | key => exact absurd hc (by decide +kernel)
    subst h
    have q : decide (("key" : Str) ∈ W4) = true := by decide +kernel
    show Dt.bl _ = Dt.bl _
    rw [q]; rfl
  · have hd : decide (d = .find) = false := by
      cases d with
      | find => exact absurd hc (by decide +kernel)
      | slot => rfl
      | key => rfl
    have q : decide (("page" : Str) ∈ W4) = true := by decide +kernel
    have q2 : decide (ddS d ∈ W4) = true := by
      cases d with
      | find => exact absurd hc (by decide +kernel)
      | slot => decide +kernel
      | key => decide +kernel
    cases hw : sc.word with
    | none =>
      refine dss_one (ds_retE (de_and (de_cmp de_str (de_v 2) od_inT) fun _ => (de_and (de_cmp (de_v 0) (de_v 2) od_inT) fun _ => (de_one (de_cmp (de_scn (de_v 1) hw) de_non od_notN)))) ?_)
      show Dt.bl _ = Dt.bl _
      rw [q, q2, hd]; rfl
    | some u =>
      refine dss_one (ds_retE (de_and (de_cmp de_str (de_v 2) od_inT) fun _ => (de_and (de_cmp (de_v 0) (de_v 2) od_inT) fun _ => (de_one (de_cmp (de_scw (de_v 1) hw) de_non od_notN)))) ?_)
      show Dt.bl _ = Dt.bl _
      rw [q, q2, hd]; rfl
/-- what a scene needs to be so that an aim is found -/
structure AOk (s : Sc) : Prop where
  len : ∀ u, s.word = some u → u.length ≤ 10000
  key : s.key = .inn → ∃ u, s.word = some u ∧ (place u [.k, .r, .b]).isSome = true
def AimTo (s : Sc) (d : Dt) : Prop := d = beyD ∨ d = ledD none ∨ ∃ u n, s.word = some u ∧ n < (rowsOf u).length ∧ d = ledD (some n)
theorem LedOk.to {s : Sc} {u : List Lt} {d : Dt} (hw : s.word = some u) (h : LedOk u d) : AimTo s d := by
  rcases h with h | ⟨n, h1, h2⟩
  · exact Or.inr (Or.inl h)
  · exact Or.inr (Or.inr ⟨u, n, hw, h1, h2⟩)
def S_led_to : List Sl → (Dt → Prop) → Prop := fun as R => ∃ (r : Rd') (d : Dd) (s : Sc), as = [.dat (rdD r), .dat (.str (ddS d)), .dat (scD s)] ∧ AOk s ∧ (d ≠ .find → s.word.isSome = true) ∧ R = AimTo s
theorem ok_led_to (T : Top w K mg) : Fn P w K mg base "led_to" 3 P_led_to S_led_to := by
  refine Fn.mk1 (st := s_led_to) T 13 rfl T.g_led_to (fun fd F => fn_one F sc_led_to ?_) (fun _ _ _ _ _ _ us hl => match us, hl with | [_, _, _], _ => rfl)
  rintro as R ⟨r, d, sc, rfl, ha, hd, rfl⟩
  refine ⟨⟨rfl, by simp [isMut]⟩, fun cdv A outer s' H S0 E hr => ?_⟩
  refine dss_ifr (dt_cmp (de_v 1) de_str od_eqS) (fun hc => ?_) (fun hc => ?_)
  · have hf : d ≠ .find := fun z => by subst z; exact absurd hc (by decide +kernel)
    obtain ⟨u, hu⟩ := Option.isSome_iff_exists.mp (hd hf)
    refine dss_one (ds_ret (DR.mono (dr_call1 (ok_by_slot T) hr (da_cons (de_v 0) (da_cons (de_v 2) da_nil)) ⟨_, _, u, rfl, hu, ha.len u hu, rfl⟩) fun z h => LedOk.to hu h))
  · refine dss_ifr (DW.q (wt_and (dt_cmp (de_v 1) de_str od_eqS) fun _ => (wt_and1 (dt_cmp (de_sc (n := 6) (de_v 2)) (de_strSd .inn) od_neSd)))) (fun hc2 => ?_) (fun hc2 => ?_)
    · refine dss_one (ds_retE (de_tp (ds := [_, _]) (da_cons de_str (da_cons de_str da_nil))) ?_)
      exact Or.inl rfl
    · have hw : ∃ u, sc.word = some u := by
        by_cases hf : d = .find
        · subst hf
          have hk : sc.key = .inn := by
            have q : decide (ddS .find = "find") = true := by decide +kernel
            rw [q, Bool.true_and] at hc2
            simpa using hc2
          obtain ⟨u, hu, _⟩ := ha.key hk
          exact ⟨u, hu⟩
        · exact Option.isSome_iff_exists.mp (hd hf)
      obtain ⟨u, hu⟩ := hw
      refine dss_one (ds_ret (DR.mono (dr_call1 (ok_by_key T) hr (da_cons (de_v 0) (da_cons (de_v 2) da_nil)) ⟨_, _, u, rfl, hu, ha.len u hu, fun hk => ?_, rfl⟩) fun z h => LedOk.to hu h))
      obtain ⟨u', hu', hp⟩ := ha.key hk
      rw [hu] at hu'
      cases hu'
      exact hp
end

end DL
/-! Pe -/
set_option Elab.async false
set_option linter.all false
set_option maxRecDepth 100000
set_option maxHeartbeats 4000000
namespace DL
open PySem PySem.Spec PyProof.Rows L2
local macro_rules | `(tactic| walk_at "od") => `(tactic| first | exact od_eqS | exact od_neS | exact od_inT | exact od_notInT | exact od_inL | exact od_notInL | exact od_eqB | exact od_neB)
local macro_rules | `(tactic| walk_at "len") => `(tactic| first | omega | (simp only [List.length_append, List.length_cons, List.length_nil, List.length_take, List.length_drop]; omega))
section
variable {P : Program} {w : World} {K : PySem.W.Frag} {mg : Str → Option Value} {base : Heap}
def isBl (d : Dt) : Prop := ∃ b, d = .bl b
theorem tst_cut (t : Tst) : decide (cutS (tstS t) none (some 4) = "not ") = t.neg := by
  obtain ⟨n, t⟩ := t
  cases n <;> cases t <;> decide +kernel
theorem tst_rest (t : Tk) : cutS (tstS ⟨true, t⟩) (some 4) none = tstS ⟨false, t⟩ := by cases t <;> decide +kernel
theorem tst_len (t : Tst) : (tstS t).length ≤ sizeLine := by
  obtain ⟨n, t⟩ := t
  cases n <;> cases t <;> decide +kernel
theorem holds_tail {r : Rd'} {sc : Sc} {t : Tk} (T : Top w K mg) {j : Nat} {cdv : Value} {A : Around} {outer : List Env} {s' : Shared} {H S0 : Hp} {E : XK} (hr : Room (j + 1) (A.deeper (envOfC "holds" (defScope s_holds) s'.heap.objs.size (He.ga K "holds") cdv))) (ha : AOk sc) :
    DSs (cxOf CX0 P w K mg base N_holds "holds" (defScope s_holds) (He.ga K "holds") cdv A outer s' H E).nox S0 H ((defBody s_holds).drop 1) [.dat (rdD r), .dat (scD sc), .dat (.str (tstS ⟨false, t⟩)), .dat W4D, .un, .un, .un, .un] { nx := fun _ => isBl .non, rt := isBl } := by
  cases hw : sc.word with
  | none =>
    refine dss_then (ds_asg (de_tp (ds := [.int sc.slot, .int sc.change, .non, .str (sdS sc.key)]) (da_cons (de_sc (n := 2) (de_v 1)) (da_cons (de_sc (n := 3) (de_v 1)) (da_cons (de_scn (de_v 1) hw) (da_cons (de_sc (n := 6) (de_v 1)) da_nil)))))
      (dg_tup (dgs_cons (L' := [5, 6, 7]) (M' := fun z => z = _) (dg_name 4 rfl sc_holds.nd) (fun _ e => by subst e; exact dgs_cons (L' := [6, 7]) (M' := fun z => z = _) (dg_name 5 rfl sc_holds.nd) (fun _ e => by subst e; exact dgs_cons (L' := [7]) (M' := fun z => z = _) (dg_name 6 rfl sc_holds.nd) (fun _ e => by subst e; exact dgs_cons (L' := []) (M' := fun z => z = _) (dg_name 7 rfl sc_holds.nd) (fun _ e => by subst e; exact dgs_nil rfl))))))) ?_
    refine dss_ifr (DW.q (wt_or (dt_cmp de_str (de_v 3) od_notInT) fun _ => (wt_or1 (dt_cmp (de_v 6) de_non od_isN)))) (fun hc => ?_) (fun hc => ?_)
    · exact dss_one (ds_retE de_bl ⟨_, rfl⟩)
    · exact absurd hc (by simp [isNon])
  | some u =>
    refine dss_then (ds_asg (de_tp (ds := [.int sc.slot, .int sc.change, .str (enc u), .str (sdS sc.key)]) (da_cons (de_sc (n := 2) (de_v 1)) (da_cons (de_sc (n := 3) (de_v 1)) (da_cons (de_scw (de_v 1) hw) (da_cons (de_sc (n := 6) (de_v 1)) da_nil)))))
      (dg_tup (dgs_cons (L' := [5, 6, 7]) (M' := fun z => z = _) (dg_name 4 rfl sc_holds.nd) (fun _ e => by subst e; exact dgs_cons (L' := [6, 7]) (M' := fun z => z = _) (dg_name 5 rfl sc_holds.nd) (fun _ e => by subst e; exact dgs_cons (L' := [7]) (M' := fun z => z = _) (dg_name 6 rfl sc_holds.nd) (fun _ e => by subst e; exact dgs_cons (L' := []) (M' := fun z => z = _) (dg_name 7 rfl sc_holds.nd) (fun _ e => by subst e; exact dgs_nil rfl))))))) ?_
    have hl := ha.len u hw
    have hrl := rows_le u
    refine dss_ifr (DW.q (wt_or (dt_cmp de_str (de_v 3) od_notInT) fun _ => (wt_or1 (dt_cmp (de_v 6) de_non od_isN)))) (fun hc => dss_one (ds_retE de_bl ⟨_, rfl⟩)) (fun hc => ?_)
    refine dss_ifr (dt_cmp (de_v 2) de_str od_eqS) (fun hc => dss_one (ds_retE de_bl ⟨_, rfl⟩)) (fun hc => ?_)
    refine dss_ifr (dt_cmp (de_v 2) de_str od_eqS) (fun hc => ?_) (fun hc => ?_)
    · exact dss_one (ds_retE (de_and (de_cmp de_str (de_v 3) od_inT) fun _ => (de_one (de_cmp (de_v 5) de_int od_eqI))) ⟨_, rfl⟩)
    refine dss_ifr (dt_cmp (de_v 2) de_str od_eqS) (fun hc => ?_) (fun hc => ?_)
    · exact dss_one (ds_retE (de_and (de_cmp de_str (de_v 3) od_inT) fun _ => (de_one (de_chain de_int (de_call (ok_next_slot T) (hr.mono (by omega)) (da_cons (de_v 0) (da_cons (de_v 4) da_nil)) ⟨_, _, rfl, rfl⟩) (fun _ => (de_lenW T.f_len (de_call (ok_rows_of T) (hr.mono (by omega)) (da_cons (de_v 6) da_nil) ⟨_, rfl, by omega, rfl⟩) (by omega))) od_le (fun _ => od_lt)))) ⟨_, rfl⟩)
    refine dss_ifr (dt_cmp de_str (de_v 3) od_notInT) (fun hc => dss_one (ds_retE de_bl ⟨_, rfl⟩)) (fun hc => ?_)
    exact dss_one (ds_ret (DR.mono (de_ifG Dt.bl (dt_cmp (de_v 2) de_str od_eqS) (fun _ => (de_cmp (de_v 7) (de_strSd .inn) od_eqSd)) (fun _ => (de_or (de_cmp (de_strW [.k]) (de_v 6) od_inW) fun _ => (de_one (de_cmp (de_strW [.b]) (de_v 6) od_inW))))) fun z e => ⟨_, e⟩))
def S_holds0 : List Sl → (Dt → Prop) → Prop := fun as R => ∃ (r : Rd') (s : Sc) (t : Tk), as = [.dat (rdD r), .dat (scD s), .dat (.str (tstS ⟨false, t⟩)), .dat W4D] ∧ AOk s ∧ R = isBl
theorem ok_holds0 (T : Top w K mg) : Fn P w K mg base "holds" 2 P_holds S_holds0 := by
  refine Fn.mk1 (st := s_holds) T 7 rfl T.g_holds (fun fd F => fn_one F sc_holds ?_) (fun _ _ _ _ _ _ us hl => match us, hl with | [_, _, _, _], _ => rfl)
  rintro as R ⟨r, sc, t, rfl, ha, rfl⟩
  refine ⟨⟨rfl, by simp [isMut]⟩, fun cdv A outer s' H S0 E hr => ?_⟩
  refine dss_ifr (dt_cmp (de_slS (de_v 2) dp_none (dp_some de_int) (tst_len _)) de_str od_eqS) (fun hc => ?_) (fun _ => ?_)
  · rw [tst_cut] at hc; cases hc
  · exact holds_tail T hr ha
def S_holds : List Sl → (Dt → Prop) → Prop := fun as R => ∃ (r : Rd') (s : Sc) (t : Tst), as = [.dat (rdD r), .dat (scD s), .dat (.str (tstS t)), .dat W4D] ∧ AOk s ∧ R = isBl
theorem ok_holds (T : Top w K mg) : Fn P w K mg base "holds" 3 P_holds S_holds := by
  refine Fn.mk1 (st := s_holds) T 7 rfl T.g_holds (fun fd F => fn_one F sc_holds ?_) (fun _ _ _ _ _ _ us hl => match us, hl with | [_, _, _, _], _ => rfl)
  rintro as R ⟨r, sc, ⟨n, t⟩, rfl, ha, rfl⟩
  refine ⟨⟨rfl, by simp [isMut]⟩, fun cdv A outer s' H S0 E hr => ?_⟩
  refine dss_ifr (dt_cmp (de_slS (de_v 2) dp_none (dp_some de_int) (tst_len _)) de_str od_eqS) (fun hc => ?_) (fun hc => ?_)
  · rw [tst_cut] at hc
    cases n with
    | false => cases hc
    | true =>
      refine dss_one (ds_ret (dr_not (B := fun _ => True) (DR.mono (dr_call1 (ok_holds0 T) hr (da_cons (de_v 0) (da_cons (de_v 1) (da_cons (DE.eq (de_slS (de_v 2) (dp_some de_int) dp_none (tst_len _)) (congrArg Dt.str (tst_rest t))) (da_cons (de_v 3) da_nil)))) ⟨_, _, _, rfl, ha, rfl⟩) fun d ⟨b, e⟩ => ⟨b, e, trivial⟩) fun k _ => ⟨_, rfl⟩))
  · rw [tst_cut] at hc
    cases n with
    | true => cases hc
    | false => exact holds_tail T hr ha
def S_aim_at : List Sl → (Dt → Prop) → Prop := fun as R => ∃ (r : Rd') (s : Sc), as = [.dat (rdD r), .dat (scD s), .dat W4D] ∧ AOk s ∧ r.rows.length ≤ 1000 ∧ (∀ q ∈ r.rows, q.1.tests.length ≤ 1000) ∧ R = fun d => d = .non ∨ ∃ (i : Int) (z : Dt), d = .tup [.int i, z] ∧ AimTo s z
theorem ok_aim_at (T : Top w K mg) : Fn P w K mg base "aim_at" 4 P_aim_at S_aim_at := by
  refine Fn.mk1 (st := s_aim_at) T 14 rfl T.g_aim_at (fun fd F => fn_one F sc_aim_at ?_) (fun _ _ _ _ _ _ us hl => match us, hl with | [_, _, _], _ => rfl)
  rintro as R ⟨r, sc, rfl, ha, hrows, hts, rfl⟩
  refine ⟨⟨rfl, by simp [isMut]⟩, fun cdv A outer s' H S0 E hr => ?_⟩
  refine dss_cons (M := fun z => z = [.dat (rdD r), .dat (scD sc), .dat W4D, .un, .un, .un, .un]) (ds_for (di_enumT (RL := fun z => z = r.rows.map rwD) T.f_enumerate (DR.mono (de_fld (de_v 0) T.c_Reader T.n_Reader_rows (rd_rows _)) fun d e => ⟨_, e, rfl⟩)) fun ds hds => ⟨fun i z => z = [.dat (rdD r), .dat (scD sc), .dat W4D, .un, .un, .un, .un], ⟨_, rfl, Wk.refl _⟩, ?_, ?_⟩) ?_
  · rintro i d ρi hd rfl
    obtain ⟨zs, rfl, rfl⟩ := hds
    have hlt : i < r.rows.length := by
      have := (List.getElem?_eq_some_iff.mp hd).1
      simpa [enumD_len] using this
    have hg : (r.rows.map rwD)[i]? = some (rwD r.rows[i]) := by simp [hlt]
    have e : d = .tup [.int (i : Int), rwD r.rows[i]] := by
      have := enumD_get 0 _ i _ hg
      rw [this] at hd
      simpa using hd.symm
    subst e
    have hm : r.rows[i] ∈ r.rows := List.getElem_mem hlt
    generalize r.rows[i] = q at hm
    obtain ⟨q, qt⟩ := q
    refine ⟨[3, 4], dg2 3 4 ?_ sc_aim_at.nd⟩
    refine dss_one (ds_if (B := fun k => k = true → q.deed = .find ∨ sc.word.isSome = true) (DW.q (dw_and (B1 := fun _ => True) (B2 := fun k => k = true → q.deed = .find ∨ sc.word.isSome = true) (dq_val (dr_all T.f_all (DL.mono (dl_lc (own := [(".0", 5), ("test", 6)]) (di_tup (RL := fun z => z = tsD q.tests) (DR.mono (de_fld (de_v 4) T.c_Row T.n_Row_tests (rw_tests q qt)) fun d e => ⟨_, e, rfl⟩))
        (lc_rel isBl (fun ds e => by rw [e]; unfold tsD; rw [List.length_map]; have h1 : q.tests.length ≤ 1000 := hts _ hm; omega) (fun d ⟨b, e⟩ => by rw [e]; rfl) [6] (by simp) (fun d => [.dat (rdD r), .dat (scD sc), .dat W4D, .dat (.int (i : Int)), .dat (rwD (q, qt)), .un, .dat d])
          (fun ds e d hd s Hb C cl fp => dg_name 6 rfl sc_aim_at.nd)
          (fun ds e d hd s Hb C cl fp => by
            rw [e] at hd
            obtain ⟨t, ht, rfl⟩ := List.mem_map.mp hd
            exact dr_call1 (ok_holds T) hr (da_cons (de_v 0) (da_cons (de_v 1) (da_cons (de_v 6) (da_cons (de_v 2) da_nil)))) ⟨_, _, _, rfl, ha, rfl⟩)) sc_aim_at.nd (blkOk_by (show blkC N_aim_at (defScope s_aim_at) _ _ = true by decide +kernel)))
      fun l ⟨_, _, _, h⟩ => h))) (fun _ => dw_and1 (DQ.mono (dt_val (de_call (ok_is_possible T) (hr.mono (by decide)) (da_cons (de_fld (de_v 4) T.c_Row T.n_Row_deed (rw_deed q qt)) (da_cons (de_v 1) (da_cons (de_v 2) da_nil))) ⟨_, _, rfl, rfl⟩)) fun k e hk => by
        rw [hk] at e
        rcases Bool.or_eq_true_iff.mp e.symm with z | z
        · exact Or.inl (of_decide_eq_true z)
        · exact Or.inr z)) (fun _ hk => nomatch hk) (fun k h => h))) (fun hB => ?_) (fun hB => ?_))
    · refine dss_one (ds_ret (dr_tup (dar_cons (S := fun as => ∃ z, as = [Sl.dat z] ∧ AimTo sc z) (de_v 3) (dar_cons (dr_call1 (ok_led_to T) hr (da_cons (de_v 0) (da_cons (de_fld (de_v 4) T.c_Row T.n_Row_deed (rw_deed q qt)) (da_cons (de_v 1) da_nil))) ⟨_, _, _, rfl, ha, fun hf => (hB rfl).resolve_left hf, rfl⟩) da_nil fun d as h e => ⟨d, by rw [e], h⟩) fun d as e ⟨z, h1, h2⟩ => ?_)))
      exact ⟨[d, z], by rw [h1]; rfl, by show (2 : Nat) ≤ 1000; omega, Or.inr ⟨_, z, by rw [e], h2⟩⟩
    · exact dss_nil ⟨_, rfl, .eq (.eq (.eq (.un (.un (.eq (.eq .nil))))))⟩
  · rintro z rfl
    rfl
  · rintro z rfl
    exact dss_one (ds_retE de_non (Or.inl rfl))
end

end DL
/-! Pf -/
set_option Elab.async false
set_option linter.all false
set_option maxRecDepth 100000
set_option maxHeartbeats 4000000
namespace DL
open PySem PySem.Spec PyProof.Rows L2
local macro_rules | `(tactic| walk_at "od") => `(tactic| first | exact od_eqS | exact od_neS | exact od_inT | exact od_notInT | exact od_inL | exact od_notInL | exact od_eqB | exact od_neB)
local macro_rules | `(tactic| walk_at "len") => `(tactic| first | omega | (simp only [List.length_append, List.length_cons, List.length_nil, List.length_take, List.length_drop]; omega))
section
variable {P : Program} {w : World} {K : PySem.W.Frag} {mg : Str → Option Value} {base : Heap}
def intsD (l : List Int) : Dt := .lst (l.map Dt.int)
def S_changes_behind : List Sl → (Dt → Prop) → Prop := fun as R => ∃ (h : Hs) (c : Int), as = [.dat (hsD h), .dat (.int c)] ∧ HOk h ∧ R = fun d => d = intsD (chB h c)
theorem ok_changes_behind (T : Top w K mg) : Fn P w K mg base "changes_behind" 1 P_changes_behind S_changes_behind := by
  refine Fn.mk1 (st := s_changes_behind) T 15 rfl T.g_changes_behind (fun fd F => fn_one F sc_changes_behind ?_) (fun _ _ _ _ _ _ us hl => match us, hl with | [_, _], _ => rfl)
  rintro as R ⟨h, c, rfl, ho, rfl⟩
  refine ⟨⟨rfl, by simp [isMut]⟩, fun cdv A outer s' H S0 E hr => ?_⟩
  refine dss_ifr (dt_cmp (de_fld (de_v 0) T.c_House T.n_House_stamps (hs_stamps _)) de_non od_notNo) (fun hc => ?_) (fun hc => ?_)
  · cases hs : h.stamps with
    | none => rw [hs] at hc; cases hc
    | some m =>
      have hm := ho.st m hs
      refine dss_one (ds_retE (DL.fzE (dl_ls (ds := [_]) (da_cons (de_bin (de_ct T.f_int bt_int (da_cons (de_bin (de_v 1) de_int od_add) da_nil) cd_intI) (DE.eq (de_fld (de_v 0) T.c_House T.n_House_stamps (hs_stamps _)) (d' := .int (m : Int)) (by rw [hs]; rfl)) (od_mod (by omega))) da_nil))) ?_)
      show Dt.lst [_] = Dt.lst _
      unfold chB
      rw [hs]; rfl
  · have hs : h.stamps = none := by simpa using hc
    have e : chB h c = if c = -1 then [-1, 0] else [1] := by unfold chB; rw [hs]
    refine dss_one (ds_ret (dr_ifT (dt_cmp (de_v 1) (de_neg de_int) od_eqI) (fun hq => DE.as (DL.fzE (dl_ls (ds := [_, _]) (da_cons (de_neg de_int) (da_cons de_int da_nil)))) ?_) (fun hq => DE.as (DL.fzE (dl_ls (ds := [_]) (da_cons de_int da_nil))) ?_)))
    · show _ = intsD _
      rw [e, if_pos (of_decide_eq_true hq)]; rfl
    · show _ = intsD _
      rw [e, if_neg (of_decide_eq_false hq)]; rfl
def S_any_changes : List Sl → (Dt → Prop) → Prop := fun as R => ∃ (h : Hs), as = [.dat (hsD h)] ∧ HOk h ∧ R = fun d => d = intsD (anyC h)
theorem ok_any_changes (T : Top w K mg) : Fn P w K mg base "any_changes" 1 P_any_changes S_any_changes := by
  refine Fn.mk1 (st := s_any_changes) T 16 rfl T.g_any_changes (fun fd F => fn_one F sc_any_changes ?_) (fun _ _ _ _ _ _ us hl => match us, hl with | [_], _ => rfl)
  rintro as R ⟨h, rfl, ho, rfl⟩
  refine ⟨⟨rfl, by simp [isMut]⟩, fun cdv A outer s' H S0 E hr => ?_⟩
  cases hs : h.stamps with
  | none =>
    have e : anyC h = [-1, 0, 1] := by unfold anyC; rw [hs]
    refine dss_one (ds_ret (dr_ifT (dt_cmp (de_fld (de_v 0) T.c_House T.n_House_stamps (hs_stamps _)) de_non od_isNo) (fun hq => DE.as (DL.fzE (dl_ls (ds := [_, _, _]) (da_cons (de_neg de_int) (da_cons de_int (da_cons de_int da_nil))))) ?_) (fun hq => ?_)))
    · show _ = intsD _
      rw [e]; rfl
    · rw [hs] at hq; cases hq
  | some m =>
    have hm := ho.st m hs
    have e : anyC h = (List.range m).map fun i : Nat => (i : Int) := by unfold anyC; rw [hs]
    refine dss_one (ds_ret (dr_ifT (dt_cmp (de_fld (de_v 0) T.c_House T.n_House_stamps (hs_stamps _)) de_non od_isNo) (fun hq => ?_) (fun hq => DE.as (DL.fzE (dl_listRg1 (n := m) T.f_list T.f_range (DE.eq (de_fld (de_v 0) T.c_House T.n_House_stamps (hs_stamps _)) (by rw [hs]; rfl)) (by omega))) ?_)))
    · rw [hs] at hq; cases hq
    · show _ = intsD _
      rw [e]
      unfold upTo intsD
      rw [List.map_map]; rfl
def S_many_behind : List Sl → (Dt → Prop) → Prop := fun as R => ∃ (h : Hs) (m : Int), as = [.dat (hsD h), .dat (.int m)] ∧ R = fun d => d = .int (manyB h m)
theorem ok_many_behind (T : Top w K mg) : Fn P w K mg base "many_behind" 1 P_many_behind S_many_behind := by
  refine Fn.mk1 (st := s_many_behind) T 17 rfl T.g_many_behind (fun fd F => fn_one F sc_many_behind ?_) (fun _ _ _ _ _ _ us hl => match us, hl with | [_, _], _ => rfl)
  rintro as R ⟨h, m, rfl, rfl⟩
  refine ⟨⟨rfl, by simp [isMut]⟩, fun cdv A outer s' H S0 E hr => ?_⟩
  refine dss_one (ds_retE (de_if (dt_cmp (de_fld (de_v 0) T.c_House T.n_House_changes (hs_changes _)) de_non od_isNo) (fun _ => de_int) (fun _ => (de_bin (de_v 1) de_int od_add))) ?_)
  show _ = Dt.int (manyB h m)
  unfold manyB
  cases h.changes <;> rfl
def S_is_watch_higher : List Sl → (Dt → Prop) → Prop := fun as R => ∃ (r : Rd') (o : Int), as = [.dat (rdD r), .dat (.int o)] ∧ R = fun d => d = .bl (watchHigher r.up o)
theorem ok_is_watch_higher (T : Top w K mg) : Fn P w K mg base "is_watch_higher" 1 P_is_watch_higher S_is_watch_higher := by
  refine Fn.mk1 (st := s_is_watch_higher) T 19 rfl T.g_is_watch_higher (fun fd F => fn_one F sc_is_watch_higher ?_) (fun _ _ _ _ _ _ us hl => match us, hl with | [_, _], _ => rfl)
  rintro as R ⟨r, o, rfl, rfl⟩
  refine ⟨⟨rfl, by simp [isMut]⟩, fun cdv A outer s' H S0 E hr => ?_⟩
  exact dss_one (ds_retE (de_cmp (de_cmp (de_v 1) (de_neg de_int) od_eqI) (de_cmp (de_fld (de_v 0) T.c_Reader T.n_Reader_way (rd_way _)) de_str od_way) od_eqB) rfl)
def OOk (o : Int) (u : List Lt) (key watch : Sd) : Prop := o ≠ 0 → key ≠ .no ∧ watch ≠ .no ∧ (key = .inn → watch = .inn → (place u [.k, .r]).isSome = true ∧ (place u [.x]).isSome = true)
def S_are_in_order : List Sl → (Dt → Prop) → Prop := fun as R => ∃ (r : Rd') (o : Int) (u : List Lt) (key watch : Sd), as = [.dat (rdD r), .dat (.int o), .dat (.str (enc u)), .dat (.str (sdS key)), .dat (.str (sdS watch))] ∧ OOk o u key watch ∧ R = fun d => d = .bl (inOrder r.up o u key watch)
theorem sdN_inj {a b : Sd} (ha : a ≠ .no) (hb : b ≠ .no) : sdN a = sdN b ↔ a = b := by
  cases a <;> cases b <;> simp_all [sdN]
theorem ok_are_in_order (T : Top w K mg) : Fn P w K mg base "are_in_order" 2 P_are_in_order S_are_in_order := by
  refine Fn.mk1 (st := s_are_in_order) T 20 rfl T.g_are_in_order (fun fd F => fn_one F sc_are_in_order ?_) (fun _ _ _ _ _ _ us hl => match us, hl with | [_, _, _, _, _], _ => rfl)
  rintro as R ⟨r, o, u, key, watch, rfl, hok, rfl⟩
  refine ⟨⟨rfl, by simp [isMut]⟩, fun cdv A outer s' H S0 E hr => ?_⟩
  refine dss_ifr (dt_cmp (de_v 1) de_int od_eqI) (fun hc => ?_) (fun hc => ?_)
  · refine dss_one (ds_retE (de_cmp (de_v 3) (de_v 4) od_eqSd) ?_)
    show _ = Dt.bl (inOrder _ _ _ _ _)
    unfold inOrder
    rw [if_pos (of_decide_eq_true hc)]
  · have ho : o ≠ 0 := of_decide_eq_false hc
    obtain ⟨h1, h2, h3⟩ := hok ho
    refine dss_then (ds_par 5 6 (da_cons (de_sides T (de_v 3) h1) (da_cons (de_sides T (de_v 4) h2) da_nil)) (fun as e => ⟨_, _, e, rfl⟩) sc_are_in_order.nd) ?_
    by_cases hb : key = .inn ∧ watch = .inn
    · obtain ⟨p1, p2⟩ := h3 hb.1 hb.2
      obtain ⟨n1, e1⟩ := Option.isSome_iff_exists.mp p1
      obtain ⟨n2, e2⟩ := Option.isSome_iff_exists.mp p2
      refine dss_ift (ρA := [.dat (rdD r), .dat (.int o), .dat (.str (enc u)), .dat (.str (sdS key)), .dat (.str (sdS watch)), .dat (.int (n1 : Int)), .dat (.int (n2 : Int))]) (ρB := []) (DW.q (wt_and (dt_cmp (de_v 3) (de_strSd .inn) od_eqSd) fun _ => (wt_and1 (dt_cmp (de_v 4) (de_strSd .inn) od_eqSd)))) (fun _ => ?_) (fun hq => ?_) (fun _ => ?_) (fun hq => ?_)
      · exact dss_one (ds_par 5 6 (da_cons (DE.eq (de_call (ok_place_of T) hr (da_cons (de_v 2) (da_cons (de_strW [.k, .r]) da_nil)) ⟨_, _, rfl, rfl⟩) (d' := .int (n1 : Int)) (by rw [e1]; rfl)) (da_cons (DE.eq (de_call (ok_place_of T) hr (da_cons (de_v 2) (da_cons (de_strW [.x]) da_nil)) ⟨_, _, rfl, rfl⟩) (d' := .int (n2 : Int)) (by rw [e2]; rfl)) da_nil)) (fun as e => ⟨_, _, e, rfl⟩) sc_are_in_order.nd)
      · rw [hb.1, hb.2] at hq; cases hq
      · refine dss_one (ds_retE (de_cmp (de_cmp (de_v 5) (de_v 6) od_lt) (de_call (ok_is_watch_higher T) hr (da_cons (de_v 0) (da_cons (de_v 1) da_nil)) ⟨_, _, rfl, rfl⟩) od_eqB) ?_)
        show _ = Dt.bl (inOrder _ _ _ _ _)
        unfold inOrder
        rw [if_neg ho, if_pos hb, e1, e2]
        show Dt.bl (decide ((n1 : Int) < (n2 : Int)) == _) = Dt.bl (decide (n1 < n2) == _)
        rw [show decide ((n1 : Int) < (n2 : Int)) = decide (n1 < n2) by rw [Bool.eq_iff_iff]; simp]
      · rw [hb.1, hb.2] at hq; cases hq
    · by_cases hkw : key = watch
      · refine dss_ifq (MA := fun _ => False) (MB := fun _ => False) (DW.q (wt_and (dt_cmp (de_v 3) (de_strSd .inn) od_eqSd) fun _ => (wt_and1 (dt_cmp (de_v 4) (de_strSd .inn) od_eqSd)))) (fun hq => ?_) (fun _ => ?_) (fun _ _ z => z.elim) (fun _ _ z => z.elim)
        · exact absurd hq.symm (by simpa using hb)
        · refine dss_one (ds_ifT (dt_cmp (de_v 5) (de_v 6) od_eqI) (fun hq => ?_) (fun hq => ?_))
          · refine dss_one (ds_retE de_bl ?_)
            show _ = Dt.bl (inOrder _ _ _ _ _)
            unfold inOrder
            rw [if_neg ho, if_neg hb, if_pos hkw]
          · exact absurd ((sdN_inj h1 h2).mpr hkw) (of_decide_eq_false hq)
      · refine dss_ift (ρA := []) (ρB := [.dat (rdD r), .dat (.int o), .dat (.str (enc u)), .dat (.str (sdS key)), .dat (.str (sdS watch)), .dat (.int (sdN key)), .dat (.int (sdN watch))]) (DW.q (wt_and (dt_cmp (de_v 3) (de_strSd .inn) od_eqSd) fun _ => (wt_and1 (dt_cmp (de_v 4) (de_strSd .inn) od_eqSd)))) (fun hq => ?_) (fun _ => ?_) (fun hq => ?_) (fun hq => ?_)
        · exact absurd hq (by simpa using hb)
        · refine dss_one (ds_ifT (dt_cmp (de_v 5) (de_v 6) od_eqI) (fun hq => ?_) (fun hq => dss_nil rfl))
          exact absurd ((sdN_inj h1 h2).mp (of_decide_eq_true hq)) hkw
        · exact absurd hq (by simpa using hb)
        · refine dss_one (ds_retE (de_cmp (de_cmp (de_v 5) (de_v 6) od_lt) (de_call (ok_is_watch_higher T) hr (da_cons (de_v 0) (da_cons (de_v 1) da_nil)) ⟨_, _, rfl, rfl⟩) od_eqB) ?_)
          show _ = Dt.bl (inOrder _ _ _ _ _)
          unfold inOrder
          rw [if_neg ho, if_neg hb, if_neg hkw]
end

end DL
/-! Pg -/
set_option Elab.async false
set_option linter.all false
set_option maxRecDepth 100000
set_option maxHeartbeats 4000000
namespace DL
open PySem PySem.Spec PyProof.Rows L2
local macro_rules | `(tactic| walk_at "od") => `(tactic| first | exact od_eqS | exact od_neS | exact od_inT | exact od_notInT | exact od_inL | exact od_notInL | exact od_eqB | exact od_neB)
local macro_rules | `(tactic| walk_at "len") => `(tactic| first | omega | (simp only [List.length_append, List.length_cons, List.length_nil, List.length_take, List.length_drop]; omega))
section
variable {P : Program} {w : World} {K : PySem.W.Frag} {mg : Str → Option Value} {base : Heap}
abbrev lD (l : Lt) : Dt := .str (enc [l])
abbrev wD (u : List Lt) : Dt := .str (enc u)
abbrev lsD (ls : List Lt) : Dt := .lst (ls.map lD)
abbrev wsD (us : List (List Lt)) : Dt := .lst (us.map wD)
abbrev keyLs (told : Bool) : List Lt := if told then [.k] else [.k, .r]
def S_letters_for : List Sl → (Dt → Prop) → Prop := fun as R => ∃ (o : Int) (hk hw told : Bool), as = [.dat (.int o), .dat (.bl hk), .dat (.bl hw), .dat (.bl told)] ∧ R = fun d => d = .lst ((lettersFor o hk hw told).map lsD)
theorem ok_letters_for (T : Top w K mg) : Fn P w K mg base "letters_for" 1 P_letters_for S_letters_for := by
  refine Fn.mk1 (st := s_letters_for) T 21 rfl T.g_letters_for (fun fd F => fn_one F sc_letters_for ?_) (fun _ _ _ _ _ _ us hl => match us, hl with | [_, _, _, _], _ => rfl)
  rintro as R ⟨o, hk, hw, told, rfl, rfl⟩
  refine ⟨⟨rfl, by simp [isMut]⟩, fun cdv A outer s' H S0 E hr => ?_⟩
  refine dss_ifr (dt_cmp (de_v 0) de_int od_eqI) (fun hc => ?_) (fun hc => ?_)
  · have ho : o = 0 := of_decide_eq_true hc
    refine dss_one (ds_ret (dr_ifT (dt_val (de_v 1)) (fun hq => DE.as (DL.fzE (dl_ls (ds := [lsD [.b]]) (da_cons (DL.fzE (dl_ls (ds := [lD .b]) (da_cons (de_strW [.b]) da_nil))) da_nil))) ?_) (fun hq => DE.as (DL.fzE (dl_ls (ds := [lsD []]) (da_cons (DL.fzE (dl_ls (ds := []) da_nil)) da_nil))) ?_)))
    · show _ = Dt.lst _
      unfold lettersFor
      rw [if_pos ho, hq]; rfl
    · show _ = Dt.lst _
      unfold lettersFor
      rw [if_pos ho, hq]; rfl
  · have ho : o ≠ 0 := of_decide_eq_false hc
    refine dss_then (ρ1 := [.dat (.int o), .dat (.bl hk), .dat (.bl hw), .dat (.bl told), .dat (lsD (keyLs told)), .un, .un]) (ds_set 4 (d := lsD (keyLs told)) (dr_ifT (dt_val (de_v 3)) (fun hq => DE.as (DL.fzE (dl_ls (ds := [lD .k]) (da_cons (de_strW [.k]) da_nil))) (by rw [hq]; rfl)) (fun hq => DE.as (DL.fzE (dl_ls (ds := [lD .k, lD .r]) (da_cons (de_strW [.k]) (da_cons (de_strW [.r]) da_nil)))) (by rw [hq]; rfl))) rfl sc_letters_for.nd) ?_
    have hkl : (keyLs told).length < 100000 := by unfold keyLs; split <;> decide
    refine dss_ifr (DW.q (wt_and (dt_val (de_v 1)) fun _ => (wt_and1 (dt_val (de_v 2))))) (fun hc => ?_) (fun hc => ?_)
    · refine dss_one (ds_retE (d := .lst ((keyLs told).map (fun l => lsD [l, .x]) ++ (keyLs told).map (fun l => lsD [.x, l]))) (DL.fzE (dl_cat (DL.fz (dl_lc (own := [(".0", 5), ("letter", 6)]) (di_list (RL := fun z => z = (keyLs told).map lD) (DR.mono (de_v 4) fun d e => ⟨_, e, rfl⟩))
          (lc_all (keyLs told) lD (fun l => lsD [l, .x]) hkl (fun _ _ => rfl) (fun l => [.dat (.int o), .dat (.bl hk), .dat (.bl hw), .dat (.bl told), .dat (lsD (keyLs told)), .un, .dat (lD l)]) (L := [6]) (by simp) (fun a _ s Hb C cl fp => dg_name 6 rfl sc_letters_for.nd)
            (fun a _ s Hb C cl fp => DL.fzE (dl_ls (ds := [lD a, lD .x]) (da_cons (de_v 6) (da_cons (de_strW [.x]) da_nil))))) sc_letters_for.nd (blkOk_by (show blkC N_letters_for (defScope s_letters_for) _ _ = true by decide +kernel))))
        (DL.fz (dl_lc (own := [(".0", 5), ("letter", 6)]) (di_list (RL := fun z => z = (keyLs told).map lD) (DR.mono (de_v 4) fun d e => ⟨_, e, rfl⟩))
          (lc_all (keyLs told) lD (fun l => lsD [.x, l]) hkl (fun _ _ => rfl) (fun l => [.dat (.int o), .dat (.bl hk), .dat (.bl hw), .dat (.bl told), .dat (lsD (keyLs told)), .un, .dat (lD l)]) (L := [6]) (by simp) (fun a _ s Hb C cl fp => dg_name 6 rfl sc_letters_for.nd)
            (fun a _ s Hb C cl fp => DL.fzE (dl_ls (ds := [lD .x, lD a]) (da_cons (de_strW [.x]) (da_cons (de_v 6) da_nil))))) sc_letters_for.nd (blkOk_by (show blkC N_letters_for (defScope s_letters_for) _ _ = true by decide +kernel))))
        (fun x y h1 h2 => ⟨by rw [h1, h2, List.length_map, List.length_map]; have : (100000 + 100000 : Nat) ≤ sizeLine := (by decide); omega, by rw [h1, h2]⟩))) ?_)
      show _ = Dt.lst _
      unfold lettersFor
      rw [if_neg ho, if_pos hc, List.map_append, List.map_map, List.map_map] <;> rfl
    · refine dss_ifr (dt_val (de_v 1)) (fun hk' => ?_) (fun hk' => ?_)
      · refine dss_one (ds_retE (d := .lst ((keyLs told).map (fun l => lsD [l]))) (DL.fzE (dl_lc (own := [(".0", 5), ("letter", 6)]) (di_list (RL := fun z => z = (keyLs told).map lD) (DR.mono (de_v 4) fun d e => ⟨_, e, rfl⟩))
          (lc_all (keyLs told) lD (fun l => lsD [l]) hkl (fun _ _ => rfl) (fun l => [.dat (.int o), .dat (.bl hk), .dat (.bl hw), .dat (.bl told), .dat (lsD (keyLs told)), .un, .dat (lD l)]) (L := [6]) (by simp) (fun a _ s Hb C cl fp => dg_name 6 rfl sc_letters_for.nd)
            (fun a _ s Hb C cl fp => DL.fzE (dl_ls (ds := [lD a]) (da_cons (de_v 6) da_nil)))) sc_letters_for.nd (blkOk_by (show blkC N_letters_for (defScope s_letters_for) _ _ = true by decide +kernel)))) ?_)
        show _ = Dt.lst _
        unfold lettersFor
        rw [if_neg ho, if_neg (by rw [hc]; exact Bool.false_ne_true), if_pos hk', List.map_map] <;> rfl
      · refine dss_one (ds_ret (dr_ifT (dt_val (de_v 2)) (fun hq => DE.as (DL.fzE (dl_ls (ds := [lsD [.x]]) (da_cons (DL.fzE (dl_ls (ds := [lD .x]) (da_cons (de_strW [.x]) da_nil))) da_nil))) ?_) (fun hq => DE.as (DL.fzE (dl_ls (ds := [lsD []]) (da_cons (DL.fzE (dl_ls (ds := []) da_nil)) da_nil))) ?_)))
        · show _ = Dt.lst _
          unfold lettersFor
          rw [if_neg ho, if_neg (by rw [hc]; exact Bool.false_ne_true), if_neg (by rw [hk']; exact Bool.false_ne_true), if_pos hq] <;> rfl
        · show _ = Dt.lst _
          unfold lettersFor
          rw [if_neg ho, if_neg (by rw [hc]; exact Bool.false_ne_true), if_neg (by rw [hk']; exact Bool.false_ne_true), if_neg (by rw [hq]; exact Bool.false_ne_true)] <;> rfl
theorem flat1 {α : Type} (x : α) : ∀ n : Nat, (List.replicate n [x]).flatten = List.replicate n x
  | 0 => rfl
  | n + 1 => by rw [List.replicate_succ, List.flatten_cons, flat1 x n, List.replicate_succ]; rfl
theorem upTo_succ (m : Nat) : upTo (((m : Int) + 1).toNat) = (List.range (m + 1)).map fun n : Nat => Dt.int (n : Int) := by
  have e : ((m : Int) + 1).toNat = m + 1 := by omega
  rw [e]; rfl
theorem dotS_len (m : Nat) (f : List (List Lt)) (t : List Lt) : (dotS m f t).length = f.length * (m + 1) := by
  unfold dotS
  induction f with
  | nil => simp
  | cons a f ih => rw [List.flatMap_cons, List.length_append, ih, List.length_map, List.length_range, List.length_cons, Nat.succ_mul]; omega
theorem dotS_word {m k : Nat} {f : List (List Lt)} {t : List Lt} (h : ∀ u ∈ f, u.length ≤ k) : ∀ u ∈ dotS m f t, u.length ≤ k + m + t.length := by
  intro u hu
  unfold dotS at hu
  obtain ⟨a, ha, hu⟩ := List.mem_flatMap.mp hu
  obtain ⟨n, hn, rfl⟩ := List.mem_map.mp hu
  have h1 := h a ha
  have h2 := List.mem_range.mp hn
  unfold dots
  rw [List.length_append, List.length_append, List.length_replicate]
  omega
/-- the words behind some letters -/
def dotF (m : Nat) (ls : List Lt) : List (List Lt) := ls.foldl (fun found l => dotS m found [l]) [[]]
theorem dotF_snoc (m : Nat) (ls : List Lt) (l : Lt) : dotF m (ls ++ [l]) = dotS m (dotF m ls) [l] := by
  unfold dotF
  rw [List.foldl_append] <;> rfl
theorem dotG_len (m : Nat) : ∀ (ls : List Lt) (acc : List (List Lt)), (ls.foldl (fun found l => dotS m found [l]) acc).length = acc.length * (m + 1) ^ ls.length
  | [], acc => by simp
  | l :: ls, acc => by
    rw [List.foldl_cons, dotG_len m ls, dotS_len, List.length_cons, Nat.pow_succ, Nat.mul_assoc, Nat.mul_comm (m + 1)]
theorem dotF_len (m : Nat) (ls : List Lt) : (dotF m ls).length = (m + 1) ^ ls.length := by
  unfold dotF
  rw [dotG_len]
  simp
theorem dotG_word (m : Nat) : ∀ (ls : List Lt) (acc : List (List Lt)) (k : Nat), (∀ u ∈ acc, u.length ≤ k) → ∀ u ∈ ls.foldl (fun found l => dotS m found [l]) acc, u.length ≤ k + ls.length * (m + 1)
  | [], acc, k, h => by simpa using h
  | l :: ls, acc, k, h => fun u hu => by
    have := dotG_word m ls (dotS m acc [l]) (k + m + 1) (dotS_word h) u hu
    rw [List.length_cons, Nat.succ_mul]
    omega
theorem dotF_word (m : Nat) (ls : List Lt) : ∀ u ∈ dotF m ls, u.length ≤ ls.length * (m + 1) := fun u hu => by
  have := dotG_word m ls [[]] 0 (by simp) u hu
  omega
theorem pow_le_of {m k : Nat} (hm : m ≤ 4) (hk : k ≤ 3) : (m + 1) ^ k ≤ 125 := by
  have h1 : (m + 1) ^ k ≤ 5 ^ k := Nat.pow_le_pow_left (by omega) k
  have h2 : 5 ^ k ≤ 5 ^ 3 := Nat.pow_le_pow_right (by omega) hk
  omega
end

end DL
/-! Ph -/
set_option Elab.async false
set_option linter.all false
set_option maxRecDepth 100000
set_option maxHeartbeats 4000000
namespace DL
open PySem PySem.Spec PyProof.Rows L2
local macro_rules | `(tactic| walk_at "od") => `(tactic| first | exact od_eqS | exact od_neS | exact od_inT | exact od_notInT | exact od_inL | exact od_notInL | exact od_eqB | exact od_neB)
local macro_rules | `(tactic| walk_at "len") => `(tactic| first | omega | (simp only [List.length_append, List.length_cons, List.length_nil, List.length_take, List.length_drop]; omega))
section
variable {P : Program} {w : World} {K : PySem.W.Frag} {mg : Str → Option Value} {base : Heap}
theorem di_rangeS {X : Cx} {tg a : Expr} {ρ : List Sl} {m : Nat} {p pos : Pos} (hm : X.mg "range" = none) (ha : DE X a ρ (.int ((m : Int) + 1))) (hb : m ≤ 1000) (hg : Gl X "range" := by rfl) (hs : starEach [a] X.env = [(false, eval a X.env)] := by rfl) : DI X tg (.Call (.Name "range" p) [a] [] pos) ρ (fun ds => ds = (List.range (m + 1)).map fun n : Nat => Dt.int (n : Int)) := by
  have h := di_range (tg := tg) (p := p) (pos := pos) hm ha (by omega) hg hs
  rw [upTo_succ] at h
  exact h
def S_dotted : List Sl → (Dt → Prop) → Prop := fun as R => ∃ (ls : List Lt) (m : Nat), as = [.dat (lsD ls), .dat (.int (m : Int))] ∧ ls.length ≤ 2 ∧ m ≤ 4 ∧ R = fun d => d = wsD (dotted ls m)
theorem ok_dotted (T : Top w K mg) : Fn P w K mg base "dotted" 2 P_dotted S_dotted := by
  refine Fn.mk1 (st := s_dotted) T 18 rfl T.g_dotted (fun fd F => fn_one F sc_dotted ?_) (fun _ _ _ _ _ _ us hl => match us, hl with | [_, _], _ => rfl)
  rintro as R ⟨ls, m, rfl, hls, hm, rfl⟩
  refine ⟨⟨rfl, by simp [isMut]⟩, fun cdv A outer s' H S0 E hr => ?_⟩
  refine dss_then (ρ1 := [.dat (lsD ls), .dat (.int (m : Int)), .dat (wsD [[]]), .un, .un, .un, .un]) (ds_set 2 (DL.fzE (dl_ls (ds := [wD []]) (da_cons (de_strW []) da_nil))) rfl sc_dotted.nd) ?_
  refine dss_then (ρ1 := [.dat (lsD ls), .dat (.int (m : Int)), .dat (wsD (dotF m ls)), .un, .un, .un, .un]) (ds_for (di_list (RL := fun z => z = ls.map lD) (DR.mono (de_v 0) fun d e => ⟨_, e, rfl⟩)) fun ds hds => ⟨fun i z => z = [.dat (lsD ls), .dat (.int (m : Int)), .dat (wsD (dotF m (ls.take i))), .un, .un, .un, .un], ⟨_, rfl, Wk.refl _⟩, ?_, ?_⟩) ?_
  · rintro i d ρi hd rfl
    subst hds
    rw [List.getElem?_map] at hd
    cases ha : ls[i]? with
    | none => rw [ha] at hd; cases hd
    | some x =>
      rw [ha] at hd
      have ed : lD x = d := by simpa using hd
      subst ed
      have et : ls.take (i + 1) = ls.take i ++ [x] := by rw [List.take_add_one, ha] <;> rfl
      have hl1 : (ls.take i).length ≤ 2 := by rw [List.length_take]; omega
      have hp := pow_le_of hm (show (ls.take i).length ≤ 3 by omega)
      refine ⟨[3], dg_name 3 ?_ sc_dotted.nd⟩
      refine dss_one (ds_lc2F 2 [(".0", 4), ("word", 5), ("many", 6)] (vs1 := [6]) (as := dotF m (ls.take i)) (encA := wD) (bs := fun _ => List.range (m + 1)) (encB := fun n : Nat => Dt.int (n : Int)) (g := fun u n => wD (u ++ dots n ++ [x])) (di_list (DR.mono (de_v 2) fun d e => ⟨_, e, rfl⟩)) ⟨?_, fun _ _ _ _ => rfl, [5], [6], fun u => [.dat (lsD ls), .dat (.int (m : Int)), .dat (wsD (dotF m (ls.take i))), .dat (lD x), .un, .dat (wD u), .un], fun u n => [.dat (lsD ls), .dat (.int (m : Int)), .dat (wsD (dotF m (ls.take i))), .dat (lD x), .un, .dat (wD u), .dat (.int (n : Int))], ?_, by simp, by simp, fun a _ s Hb C cl fp => dg_name 5 rfl sc_dotted.nd, fun a _ s Hb C cl fp => ?_, fun a _ b _ s Hb C cl fp => dg_name 6 rfl sc_dotted.nd, fun a ha b hb s Hb C cl fp => ?_⟩ ?_ sc_dotted.nd (blkOk_by (show blkC N_dotted (defScope s_dotted) _ _ = true by decide +kernel)) (by simp))
      · have e : ((dotF m (ls.take i)).flatMap fun u => (List.range (m + 1)).map fun n => wD (u ++ dots n ++ [x])).length = (dotS m (dotF m (ls.take i)) [x]).length := by
          unfold dotS
          rw [← List.length_map (f := wD), List.map_flatMap]
          simp only [List.map_map]
          rfl
        rw [e, dotS_len, dotF_len]
        have : (m + 1) ^ (ls.take i).length * (m + 1) ≤ 125 * 5 := Nat.mul_le_mul hp (by omega)
        omega
      · exact fun u _ s hs => List.all_eq_true.mp (show (List.all _ onlyDat) = true from rfl) s hs
      · exact di_rangeS T.f_range (de_bin (de_v 1) de_int od_add) (by omega)
      · have hw := dotF_word m (ls.take i) a ha
        have hb' := List.mem_range.mp hb
        have hmul : (ls.take i).length * (m + 1) ≤ 2 * 5 := Nat.mul_le_mul hl1 (by omega)
        refine DE.eq (de_bin (de_bin (de_v 5) (de_bin (de_strW [.d]) (de_v 6) (od_mulW rfl (by omega) (by simp))) (od_addW ?_)) (de_v 3) (od_addW ?_)) (congrArg (fun z => Dt.str (enc z)) ?_)
        · rw [flat1, List.length_replicate]; omega
        · rw [flat1, List.length_append, List.length_replicate]; simp; omega
        · rw [flat1]; rfl
      · refine ⟨_, rfl, ?_⟩
        rw [et, dotF_snoc]
        have e : ((dotF m (ls.take i)).flatMap fun u => (List.range (m + 1)).map fun n => wD (u ++ dots n ++ [x])) = (dotS m (dotF m (ls.take i)) [x]).map wD := by
          unfold dotS
          rw [List.map_flatMap]
          simp only [List.map_map]
          rfl
        rw [e]
        exact .eq (.eq (.eq (.un (.un (.un (.un .nil))))))
  · rintro z rfl
    subst hds
    rw [List.length_map, List.take_length]
  · have hp := pow_le_of hm (show ls.length ≤ 3 by omega)
    have hmul : ls.length * (m + 1) ≤ 2 * 5 := Nat.mul_le_mul hls (by omega)
    refine dss_then (ρ1 := [.dat (lsD ls), .dat (.int (m : Int)), .dat (wsD (dotS m (dotF m ls) [])), .un, .un, .un, .un]) (ds_lc2F 2 [(".0", 4), ("word", 5), ("many", 6)] (vs1 := [6]) (as := dotF m ls) (encA := wD) (bs := fun _ => List.range (m + 1)) (encB := fun n : Nat => Dt.int (n : Int)) (g := fun u n => wD (u ++ dots n ++ [])) (di_list (DR.mono (de_v 2) fun d e => ⟨_, e, rfl⟩)) ⟨?_, fun _ _ _ _ => rfl, [5], [6], fun u => [.dat (lsD ls), .dat (.int (m : Int)), .dat (wsD (dotF m ls)), .un, .un, .dat (wD u), .un], fun u n => [.dat (lsD ls), .dat (.int (m : Int)), .dat (wsD (dotF m ls)), .un, .un, .dat (wD u), .dat (.int (n : Int))], ?_, by simp, by simp, fun a _ s Hb C cl fp => dg_name 5 rfl sc_dotted.nd, fun a _ s Hb C cl fp => ?_, fun a _ b _ s Hb C cl fp => dg_name 6 rfl sc_dotted.nd, fun a ha b hb s Hb C cl fp => ?_⟩ ?_ sc_dotted.nd (blkOk_by (show blkC N_dotted (defScope s_dotted) _ _ = true by decide +kernel)) (by simp)) ?_
    · have e : ((dotF m ls).flatMap fun u => (List.range (m + 1)).map fun n => wD (u ++ dots n ++ [])).length = (dotS m (dotF m ls) []).length := by
        unfold dotS
        rw [← List.length_map (f := wD), List.map_flatMap]
        simp only [List.map_map]
        rfl
      rw [e, dotS_len, dotF_len]
      have : (m + 1) ^ ls.length * (m + 1) ≤ 125 * 5 := Nat.mul_le_mul hp (by omega)
      omega
    · exact fun u _ s hs => List.all_eq_true.mp (show (List.all _ onlyDat) = true from rfl) s hs
    · exact di_rangeS T.f_range (de_bin (de_v 1) de_int od_add) (by omega)
    · have hw := dotF_word m ls a ha
      have hb' := List.mem_range.mp hb
      refine DE.eq (de_bin (de_v 5) (de_bin (de_strW [.d]) (de_v 6) (od_mulW rfl (by omega) (by simp))) (od_addW ?_)) (congrArg (fun z => Dt.str (enc z)) ?_)
      · rw [flat1, List.length_replicate]; omega
      · rw [flat1, List.append_nil]; rfl
    · have e : ((dotF m ls).flatMap fun u => (List.range (m + 1)).map fun n => wD (u ++ dots n ++ [])) = (dotS m (dotF m ls) []).map wD := by
        unfold dotS
        rw [List.map_flatMap]
        simp only [List.map_map]
        rfl
      rw [e]; rfl
    · have hlen : (dotS m (dotF m ls) []).length < 100000 := by
        rw [dotS_len, dotF_len]
        have : (m + 1) ^ ls.length * (m + 1) ≤ 125 * 5 := Nat.mul_le_mul hp (by omega)
        omega
      have hwd := dotS_word (t := []) (m := m) (dotF_word m ls)
      refine dss_one (ds_retE (DL.fzE (dl_lc (own := [(".0", 4), ("word", 5)]) (di_list (RL := fun z => z = (dotS m (dotF m ls) []).map wD) (DR.mono (de_v 2) fun d e => ⟨_, e, rfl⟩))
        (lc_map (dotS m (dotF m ls) []) wD (fun u => decide ((rowsOf u).length ≤ m)) wD hlen (fun _ _ => rfl) (fun u => [.dat (lsD ls), .dat (.int (m : Int)), .dat (wsD (dotS m (dotF m ls) [])), .un, .un, .dat (wD u), .un]) (L := [5]) (by simp) (fun a _ s Hb C cl fp => dg_name 5 rfl sc_dotted.nd)
          (fun a ha s Hb C cl fp => dqs_one (DT.eq (dt_cmp (de_lenW T.f_len (de_call (ok_rows_of T) hr (da_cons (de_v 5) da_nil) ⟨_, rfl, ?_, rfl⟩) ?_) (de_v 1) od_le) ?_)) (fun a _ _ s Hb C cl fp => de_v 5)) sc_dotted.nd (blkOk_by (show blkC N_dotted (defScope s_dotted) _ _ = true by decide +kernel)))) rfl)
      · have := hwd a ha; simp at this; omega
      · have := hwd a ha; have := rows_le a; simp at *; omega
      · rw [Bool.eq_iff_iff]; simp
end

end DL
/-! Pi -/
set_option Elab.async false
set_option linter.all false
set_option maxRecDepth 100000
set_option maxHeartbeats 4000000
namespace DL
open PySem PySem.Spec PyProof.Rows L2
local macro_rules | `(tactic| walk_at "od") => `(tactic| first | exact od_eqS | exact od_neS | exact od_inT | exact od_notInT | exact od_inL | exact od_notInL | exact od_eqB | exact od_neB)
local macro_rules | `(tactic| walk_at "len") => `(tactic| first | omega | (simp only [List.length_append, List.length_cons, List.length_nil, List.length_take, List.length_drop]; omega))
section
variable {P : Program} {w : World} {K : PySem.W.Frag} {mg : Str → Option Value} {base : Heap}
theorem de_joinL {X : Cx} {ρ : List Sl} {e : Expr} {ls : List Lt} {p1 cpos p0 : Pos} {k : Nat} (h : DE X e ρ (lsD ls)) (hz : ls.length ≤ 100000)
    (hbase : attributeBase (.Constant (.str "") k p0) "join" X.env (eval (.Constant (.str "") k p0) X.env) = eval (.Constant (.str "") k p0) X.env := by rfl)
    (hfew : ((backTo cpos (starEach [e] X.env)).all (fun x => !x.1) && (backToKw cpos (keywordEach [] X.env)).all (fun x => x.1.isSome)
      && decide ([e].length + ([] : List Keyword).length + (if ([] : List Keyword).isEmpty then 0 else 1) < 30)) = true := by rfl)
    (hline : (p1.endLine == cpos.line) = true := by rfl) (hst : starEach [e] X.env = (false, eval e X.env) :: starEach [] X.env := by rfl) (hplain : (backTo cpos (starEach [] X.env)).any (·.1) = false := by rfl) :
    DE X (.Call (.Attribute (.Constant (.str "") k p0) "join" p1) [e] [] cpos) ρ (.str (enc ls)) := by
  have e1 : ∀ ls : List Lt, (ls.map fun l => [l]).flatten = ls := fun ls => by
    induction ls with
    | nil => rfl
    | cons a l ih => rw [List.map_cons, List.flatten_cons, ih] <;> rfl
  have q := de_join (X := X) (ρ := ρ) (e := e) (ys := ls.map fun l => [l]) (p1 := p1) (cpos := cpos) (p0 := p0) (k := k) (DE.eq h (by rw [List.map_map] <;> rfl)) (by rw [e1]; exact hz) hbase hfew hline hst hplain
  rw [e1] at q
  exact q
theorem flen {α β : Type} (f : α → List β) (c : Nat) : ∀ as : List α, (∀ a ∈ as, (f a).length ≤ c) → (as.flatMap f).length ≤ as.length * c
  | [], _ => by simp
  | a :: as, h => by
    have h1 := h a (by simp)
    have h2 := flen f c as fun x hx => h x (by simp [hx])
    rw [List.flatMap_cons, List.length_append, List.length_cons, Nat.succ_mul]
    omega
theorem fnot {α : Type} (f : α → List Dt) (as : List α) (h : ∀ a ∈ as, (f a).all notInt = true) : (as.flatMap f).all notInt = true := by
  rw [List.all_eq_true]
  intro x hx
  obtain ⟨a, ha, hx⟩ := List.mem_flatMap.mp hx
  exact List.all_eq_true.mp (h a ha) x hx
theorem letters_len {o : Int} {hk hw told : Bool} : ∀ ls ∈ lettersFor o hk hw told, ls.length ≤ 2 := by
  unfold lettersFor
  intro ls hls
  by_cases ho : o = 0
  · rw [if_pos ho] at hls
    cases hk <;> simp at hls <;> subst hls <;> decide
  · rw [if_neg ho] at hls
    cases hk <;> cases hw <;> cases told <;> simp at hls <;> (try rcases hls with h | h | h | h | h) <;> (try subst_vars) <;> (try decide) <;> simp_all
theorem letters_many {o : Int} {hk hw told : Bool} : (lettersFor o hk hw told).length ≤ 4 := by
  unfold lettersFor
  by_cases ho : o = 0
  · rw [if_pos ho]; cases hk <;> decide
  · rw [if_neg ho]; cases hk <;> cases hw <;> cases told <;> decide
theorem letters_in {o : Int} {told : Bool} (ho : o ≠ 0) : ∀ ls ∈ lettersFor o true true told, (place ls [.k, .r]).isSome = true ∧ (place ls [.x]).isSome = true := by
  unfold lettersFor
  rw [if_neg ho]
  intro ls hls
  cases told
  · have : ls ∈ [[Lt.k, .x], [.r, .x], [.x, .k], [.x, .r]] := hls
    revert ls
    decide
  · have : ls ∈ [[Lt.k, .x], [.x, .k]] := hls
    revert ls
    decide
theorem dotted_len {ls : List Lt} {m : Nat} (h : ls.length ≤ 2) (hm : m ≤ 4) : (dotted ls m).length ≤ 125 := by
  unfold dotted
  refine Nat.le_trans (List.length_filter_le ..) ?_
  rw [dotS_len]
  have e : (ls.foldl (fun found l => dotS m found [l]) [[]]).length = (m + 1) ^ ls.length := dotF_len m ls
  rw [e, ← Nat.pow_succ]
  exact pow_le_of hm (by omega)
def S_pages_that_fit : List Sl → (Dt → Prop) → Prop := fun as R => ∃ (r : Rd') (h : Hs) (o : Int) (told : Bool), as = [.dat (rdD r), .dat (hsD h), .dat (.int o), .dat (.bl told)] ∧ HOk h ∧ R = fun d => d = .lst ((pages r.up h.rows o told).map pgD)
def F3 (up : Bool) (rows : Nat) (o : Int) (key watch : Sd) (ls : List Lt) : List Dt := (if inOrder up o ls key watch then (dotted ls rows).map fun u => (u, key, watch) else []).map pgD
def F2 (up : Bool) (rows : Nat) (o : Int) (told : Bool) (key watch : Sd) : List Dt := (lettersFor o (decide (key = .inn)) (decide (watch = .inn)) told).flatMap (F3 up rows o key watch)
theorem F3_len {up : Bool} {rows : Nat} {o : Int} {key watch : Sd} {ls : List Lt} (h : ls.length ≤ 2) (hm : rows ≤ 4) : (F3 up rows o key watch ls).length ≤ 125 := by
  unfold F3
  split
  · rw [List.length_map, List.length_map]; exact dotted_len h hm
  · simp
theorem F2_len {up : Bool} {rows : Nat} {o : Int} {told : Bool} {key watch : Sd} (hm : rows ≤ 4) : (F2 up rows o told key watch).length ≤ 500 := by
  unfold F2
  refine Nat.le_trans (flen _ 125 _ fun ls hls => F3_len (letters_len ls hls) hm) ?_
  have := letters_many (o := o) (hk := decide (key = .inn)) (hw := decide (watch = .inn)) (told := told)
  omega
theorem F3_not {up : Bool} {rows : Nat} {o : Int} {key watch : Sd} {ls : List Lt} : (F3 up rows o key watch ls).all notInt = true := by
  unfold F3
  rw [List.all_map, List.all_eq_true]
  intro _ _; rfl
theorem F_all {up : Bool} {rows : Nat} {o : Int} {told : Bool} : ((if told then [Sd.inn] else sides3).flatMap fun key => sides3.flatMap fun watch => F2 up rows o told key watch) = (pages up rows o told).map pgD := by
  unfold pages F2 pgsFor F3
  simp only [List.map_flatMap]
theorem ok_pages_that_fit (T : Top w K mg) : Fn P w K mg base "pages_that_fit" 3 P_pages_that_fit S_pages_that_fit := by
  refine Fn.mk1 (st := s_pages_that_fit) T 22 rfl T.g_pages_that_fit (fun fd F => fn_one F sc_pages_that_fit ?_) (fun _ _ _ _ _ _ us hl => match us, hl with | [_, _, _, _], _ => rfl)
  rintro as R ⟨r, h, o, told, rfl, ho, rfl⟩
  refine ⟨⟨rfl, by simp [isMut]⟩, fun cdv A outer s' H S0 E hr => ?_⟩
  have hrows : h.rows ≤ 4 := by have := ho.r3; omega
  refine dss_then (ρ1 := [.dat (rdD r), .dat (hsD h), .dat (.int o), .dat (.bl told), .ml [], .un, .un, .un, .un, .un]) (ds_setL 4 (dl_ls (ds := []) da_nil) (fun ds e => ⟨by rw [e]; rfl, by rw [e]; rfl⟩) sc_pages_that_fit.nd) ?_
  have hks : ∀ k ∈ (if told then [Sd.inn] else sides3), k ≠ Sd.no := by cases told <;> decide
  refine dss_then (ρ1 := [.dat (rdD r), .dat (hsD h), .dat (.int o), .dat (.bl told), .ml ((pages r.up h.rows o told).map pgD), .un, .un, .un, .un, .un])
    (ds_acc (if told then [Sd.inn] else sides3) (fun k => Dt.str (sdS k)) (fun key => sides3.flatMap fun watch => F2 r.up h.rows o told key watch) [] (fun acc => [.dat (rdD r), .dat (hsD h), .dat (.int o), .dat (.bl told), .ml acc, .un, .un, .un, .un, .un])
      (di_list (RL := fun z => z = sdsD (if told then [Sd.inn] else sides3)) (dr_ifT (dt_val (de_v 3)) (fun hq => DE.as (DL.fzE (dl_ls (ds := [.str (sdS .inn)]) (da_cons (de_strSd .inn) da_nil))) ⟨_, rfl, by rw [hq]; rfl⟩) (fun hq => DE.as (DL.fzE (dl_listSides T)) ⟨_, rfl, by rw [hq]; rfl⟩)))
      rfl rfl (fun a ha => fnot _ _ fun b hb => fnot _ _ fun c hc => F3_not) (fun key hkey acc hacc hlen => ⟨[5], dg_name 5 ?_ sc_pages_that_fit.nd⟩) (fun _ => by rw [List.nil_append, F_all])) ?_
  · refine dss_one (ds_acc sides3 (fun k => Dt.str (sdS k)) (fun watch => F2 r.up h.rows o told key watch) acc (fun acc => [.dat (rdD r), .dat (hsD h), .dat (.int o), .dat (.bl told), .ml acc, .dat (.str (sdS key)), .un, .un, .un, .un])
      (di_sides T) rfl hacc (fun a ha => fnot _ _ fun c hc => F3_not) (fun watch hwatch acc2 hacc2 hlen2 => ⟨[6], dg_name 6 ?_ sc_pages_that_fit.nd⟩) (fun _ => ⟨_, rfl, .eq (.eq (.eq (.eq (.eq (.un (.eq (.eq (.eq (.eq .nil)))))))))⟩))
    have hw0 : watch ≠ .no := by revert hwatch; cases watch <;> decide
    refine dss_one (ds_acc (lettersFor o (decide (key = .inn)) (decide (watch = .inn)) told) lsD (fun ls => F3 r.up h.rows o key watch ls) acc2 (fun acc => [.dat (rdD r), .dat (hsD h), .dat (.int o), .dat (.bl told), .ml acc, .dat (.str (sdS key)), .dat (.str (sdS watch)), .un, .un, .un])
      (di_list (DR.mono (de_call (ok_letters_for T) (hr.mono (by decide)) (da_cons (de_v 2) (da_cons (de_cmp (de_v 5) (de_strSd .inn) od_eqSd) (da_cons (de_cmp (de_v 6) (de_strSd .inn) od_eqSd) (da_cons (de_v 3) da_nil)))) ⟨_, _, _, _, rfl, rfl⟩) fun d e => ⟨_, e, rfl⟩)) rfl hacc2 (fun a ha => F3_not) (fun ls hls acc3 hacc3 hlen3 => ⟨[7], dg_name 7 ?_ sc_pages_that_fit.nd⟩) (fun _ => ⟨_, rfl, .eq (.eq (.eq (.eq (.eq (.eq (.un (.eq (.eq (.eq .nil)))))))))⟩))
    have hl2 := letters_len ls hls
    have hF2 := F2_len (up := r.up) (rows := h.rows) (o := o) (told := told) (key := key) (watch := watch) hrows
    refine dss_one (ds_ifT (dt_val (de_call (ok_are_in_order T) hr (da_cons (de_v 0) (da_cons (de_v 2) (da_cons (de_joinL (de_v 7) (by omega)) (da_cons (de_v 5) (da_cons (de_v 6) da_nil))))) ⟨_, _, _, _, _, rfl, fun h0 => ⟨hks key hkey, hw0, fun h1 h2 => letters_in (told := told) h0 ls (by rw [h1, h2] at hls; exact hls)⟩, rfl⟩)) (fun hc => ?_) (fun hc => ?_))
    · refine dss_one (ds_extend 4 (DL.fz (dl_lc (own := [(".0", 8), ("word", 9)]) (di_list (RL := fun z => z = (dotted ls h.rows).map wD) (DR.mono (de_call (ok_dotted T) hr (da_cons (de_v 7) (da_cons (de_fld (de_v 1) T.c_House T.n_House_rows (hs_rows _)) da_nil)) ⟨_, _, rfl, hl2, hrows, rfl⟩) fun d e => ⟨_, e, rfl⟩))
        (lc_all (dotted ls h.rows) wD (fun u => pgD (u, key, watch)) (by have := dotted_len hl2 hrows; omega) (fun _ _ => rfl) (fun u => [.dat (rdD r), .dat (hsD h), .dat (.int o), .dat (.bl told), .ml acc3, .dat (.str (sdS key)), .dat (.str (sdS watch)), .dat (lsD ls), .un, .dat (wD u)]) (L := [9]) (by simp) (fun a _ s Hb C cl fp => dg_name 9 rfl sc_pages_that_fit.nd)
          (fun a _ s Hb C cl fp => de_tp (ds := pgL (a, key, watch)) (da_cons (de_v 9) (da_cons (de_v 5) (da_cons (de_v 6) da_nil))))) sc_pages_that_fit.nd (blkOk_by (show blkC N_pages_that_fit (defScope s_pages_that_fit) _ _ = true by decide +kernel))))
        (fun l e => ⟨?_, ?_, ⟨_, rfl, ?_⟩⟩) hacc3)
      · rw [e, List.all_map, List.all_eq_true]; intro _ _; rfl
      · rw [e, List.length_map]
        have e2 : (F3 r.up h.rows o key watch ls).length = (dotted ls h.rows).length := by
          unfold F3
          rw [if_pos hc, List.length_map, List.length_map]
        have h3 : acc3.length + (F3 r.up h.rows o key watch ls).length ≤ acc2.length + (F2 r.up h.rows o told key watch).length := hlen3
        have h4 : ((if told then [Sd.inn] else sides3).flatMap fun key => sides3.flatMap fun watch => F2 r.up h.rows o told key watch).length ≤ 3 * (3 * 500) := by
          refine Nat.le_trans (flen _ (3 * 500) _ fun a _ => ?_) (Nat.mul_le_mul_right _ (by cases told <;> decide))
          exact flen (fun watch => F2 r.up h.rows o told a watch) 500 sides3 fun b _ => F2_len hrows
        have h5 : (([] : List Dt)).length = 0 := rfl
        omega
      · have e2 : F3 r.up h.rows o key watch ls = l := by
          unfold F3
          rw [if_pos hc, e, List.map_map]; rfl
        rw [e2]
        exact .eq (.eq (.eq (.eq (.eq (.eq (.eq (.un (.eq (.eq .nil)))))))))
    · refine dss_nil ⟨_, rfl, ?_⟩
      have e2 : F3 r.up h.rows o key watch ls = [] := by
        unfold F3
        rw [if_neg (by rw [hc]; exact Bool.false_ne_true)]; rfl
      rw [e2, List.append_nil]
      exact .eq (.eq (.eq (.eq (.eq (.eq (.eq (.un (.eq (.eq .nil)))))))))
  · exact dss_one (ds_retml 4 rfl)
end

end DL
/-! Pj -/
set_option Elab.async false
set_option linter.all false
set_option maxRecDepth 100000
set_option maxHeartbeats 4000000
namespace DL
open PySem PySem.Spec PyProof.Rows L2
local macro_rules | `(tactic| walk_at "od") => `(tactic| first | exact od_eqS | exact od_neS | exact od_inT | exact od_notInT | exact od_inL | exact od_notInL | exact od_eqB | exact od_neB)
local macro_rules | `(tactic| walk_at "len") => `(tactic| first | omega | (simp only [List.length_append, List.length_cons, List.length_nil, List.length_take, List.length_drop]; omega))
section
variable {P : Program} {w : World} {K : PySem.W.Frag} {mg : Str → Option Value} {base : Heap}
def spD (e : Ev × Pg) : Dt := .tup (.tup e.1 :: pgL e.2)
theorem fm1 {α β : Type} (g : α → β) : ∀ l : List α, (l.flatMap fun a => [g a]) = l.map g
  | [] => rfl
  | a :: l => by rw [List.flatMap_cons, List.map_cons, fm1 g l] <;> rfl
theorem nn_some {α : Type} [DecidableEq α] (o : Option α) : (!decide (o = none)) = o.isSome := by cases o <;> rfl
def S_split_events : List Sl → (Dt → Prop) → Prop := fun as R => ∃ (h : Hs) (s : Sc) (u : List Lt), as = [.dat (hsD h), .dat (scD s)] ∧ s.word = some u ∧ u.length ≤ 1000 ∧ R = fun d => d = .lst ((splitEv h.low u s.key s.watch).map spD)
theorem ok_split_events (T : Top w K mg) : Fn P w K mg base "split_events" 2 P_split_events S_split_events := by
  refine Fn.mk1 (st := s_split_events) T 24 rfl T.g_split_events (fun fd F => fn_one F sc_split_events ?_) (fun _ _ _ _ _ _ us hl => match us, hl with | [_, _], _ => rfl)
  rintro as R ⟨h, s, u, rfl, hu, hl, rfl⟩
  refine ⟨⟨rfl, by simp [isMut]⟩, fun cdv A outer s' H S0 E hr => ?_⟩
  refine dss_then (ρ1 := [.dat (hsD h), .dat (scD s), .dat (wD u), .ml [], .un, .un, .un, .un, .un, .un]) (ds_par2M 2 3 (dm_dat (de_scw (de_v 1) hu) (dm_lst (dl_ls (ds := []) da_nil) rfl dm_nil)) rfl sc_split_events.nd) ?_
  refine dss_then (ρ1 := [.dat (hsD h), .dat (scD s), .dat (wD u), .ml ((splitEv h.low u s.key s.watch).map spD), .un, .un, .un, .un, .un, .un])
    (ds_acc (List.range (u.length + 1)) (fun n : Nat => Dt.int (n : Int)) (fun n => [spD (splitAt' h.low u s.key s.watch n)]) [] (fun acc => [.dat (hsD h), .dat (scD s), .dat (wD u), .ml acc, .un, .un, .un, .un, .un, .un])
      (di_rangeS T.f_range (de_bin (de_lenW T.f_len (de_v 2) (by omega)) de_int od_add) hl) rfl rfl (fun _ _ => rfl) (fun n hn acc hacc hlen => ⟨[4], dg_name 4 ?_ sc_split_events.nd⟩) (fun _ => ?_)) ?_
  · refine dss_then (ds_asg (d := .tup [wD (if h.low then u.take n else u.drop n), wD (if h.low then u.drop n else u.take n)]) (DE.eq (de_if (dt_cmp (de_fld (de_v 0) T.c_House T.n_House_keeps (hs_keeps _)) de_str od_kp) (fun _ => (de_tp (ds := [_, _]) (da_cons (de_slWhi (de_v 2) (de_v 4) rfl (by omega)) (da_cons (de_slWlo (de_v 2) (de_v 4) rfl (by omega)) da_nil)))) (fun _ => (de_tp (ds := [_, _]) (da_cons (de_slWlo (de_v 2) (de_v 4) rfl (by omega)) (da_cons (de_slWhi (de_v 2) (de_v 4) rfl (by omega)) da_nil))))) (by cases h.low <;> rfl))
      (dg2 5 6 rfl sc_split_events.nd)) ?_
    refine dss_then (ds_set 7 (d := .str (sdS (sideOf h.low))) (DE.eq (de_if (dt_cmp (de_fld (de_v 0) T.c_House T.n_House_keeps (hs_keeps _)) de_str od_kp) (fun _ => (de_strSd .right)) (fun _ => (de_strSd .left))) (by cases h.low <;> rfl)) rfl sc_split_events.nd) ?_
    refine dss_then (ds_set 8 (de_ifG (fun k => Dt.str (sdS k)) (dt_cmp (de_call (ok_place_of T) hr (da_cons (de_v 6) (da_cons (de_strW [.k, .r, .b]) da_nil)) ⟨_, _, rfl, rfl⟩) de_non od_notNo) (fun _ => (de_v 7)) (fun _ => (de_sc (n := 6) (de_v 1)))) rfl sc_split_events.nd) ?_
    refine dss_then (ds_set 9 (de_ifG (fun k => Dt.str (sdS k)) (dt_cmp (de_call (ok_place_of T) hr (da_cons (de_v 6) (da_cons (de_strW [.x, .b]) da_nil)) ⟨_, _, rfl, rfl⟩) de_non od_notNo) (fun _ => (de_v 7)) (fun _ => (de_sc (n := 7) (de_v 1)))) rfl sc_split_events.nd) ?_
    refine dss_one (ds_append 3 (R := fun d => d = spD (splitAt' h.low u s.key s.watch n)) (DE.eq (de_tp (ds := [_, _, _, _]) (da_cons (de_tp (ds := [_, _]) (da_cons de_str (da_cons (de_v 4) da_nil))) (da_cons (de_v 5) (da_cons (de_v 8) (da_cons (de_v 9) da_nil))))) ?_) (fun d e => ⟨by rw [e]; rfl, ⟨_, rfl, ?_⟩⟩) ?_ hacc)
    · show Dt.tup _ = Dt.tup _
      unfold splitAt'
      rw [nn_some, nn_some]
      rfl
    · rw [e]
      exact .eq (.eq (.eq (.eq (.un (.un (.un (.un (.un (.un .nil)))))))))
    · have e1 : (([] : List Dt)).length = 0 := rfl
      rw [fm1, List.length_map, List.length_range] at hlen
      have e2 : [spD (splitAt' h.low u s.key s.watch n)].length = 1 := rfl
      omega
  · rw [fm1, List.nil_append]
    show _ = _
    unfold splitEv
    rw [List.map_map] <;> rfl
  · exact dss_one (ds_retml 3 rfl)
end

end DL
/-! Pk -/
set_option Elab.async false
set_option linter.all false
set_option maxRecDepth 100000
set_option maxHeartbeats 4000000
namespace DL
open PySem PySem.Spec PyProof.Rows L2
local macro_rules | `(tactic| walk_at "od") => `(tactic| first | exact od_eqS | exact od_neS | exact od_inT | exact od_notInT | exact od_inL | exact od_notInL | exact od_eqB | exact od_neB)
local macro_rules | `(tactic| walk_at "len") => `(tactic| first | omega | (simp only [List.length_append, List.length_cons, List.length_nil, List.length_take, List.length_drop]; omega))
section
variable {P : Program} {w : World} {K : PySem.W.Frag} {mg : Str → Option Value} {base : Heap}
theorem dotG_mem (m : Nat) : ∀ (ls : List Lt) (acc : List (List Lt)) (Pl : Lt → Prop), (∀ u ∈ acc, ∀ l, Pl l → l ∈ u) → ∀ u ∈ ls.foldl (fun found l => dotS m found [l]) acc, ∀ l, Pl l ∨ l ∈ ls → l ∈ u
  | [], acc, Pl, h => fun u hu l hl => h u hu l (hl.resolve_right (by simp))
  | a :: ls, acc, Pl, h => fun u hu l hl => by
    refine dotG_mem m ls (dotS m acc [a]) (fun l => Pl l ∨ l = a) (fun v hv l hl => ?_) u hu l ?_
    · unfold dotS at hv
      obtain ⟨z, hz, hv⟩ := List.mem_flatMap.mp hv
      obtain ⟨n, _, rfl⟩ := List.mem_map.mp hv
      rcases hl with q | q
      · exact List.mem_append_left _ (List.mem_append_left _ (h z hz l q))
      · rw [q]; simp
    · rcases hl with q | q
      · exact Or.inl (Or.inl q)
      · rcases List.mem_cons.mp q with e | e
        · exact Or.inl (Or.inr e)
        · exact Or.inr e
theorem dotted_mem {ls : List Lt} {m : Nat} {u : List Lt} (h : u ∈ dotted ls m) : ∀ l ∈ ls, l ∈ u := fun l hl => by
  unfold dotted at h
  have h1 := (List.mem_filter.mp h).1
  unfold dotS at h1
  obtain ⟨z, hz, hv⟩ := List.mem_flatMap.mp h1
  obtain ⟨n, _, rfl⟩ := List.mem_map.mp hv
  exact List.mem_append_left _ (List.mem_append_left _ (dotG_mem m ls [[]] (fun _ => False) (fun _ _ _ q => q.elim) z hz l (Or.inr hl)))
theorem dotted_word {ls : List Lt} {m : Nat} {u : List Lt} (h : u ∈ dotted ls m) (hl : ls.length ≤ 2) (hm : m ≤ 4) : u.length ≤ 14 := by
  unfold dotted at h
  have h1 := (List.mem_filter.mp h).1
  have := dotS_word (t := []) (m := m) (dotF_word m ls) u h1
  have hmul : ls.length * (m + 1) ≤ 2 * 5 := Nat.mul_le_mul hl (by omega)
  simp at this
  omega
theorem place_some {u v : List Lt} {c : Lt} (h : c ∈ u) (hc : c ∈ v) : (place u v).isSome = true := by
  unfold place
  rw [List.findIdx?_isSome, List.any_eq_true]
  exact ⟨c, h, by simpa using hc⟩
theorem letters_k {o : Int} {hw told : Bool} (ho : o ≠ 0) : ∀ ls ∈ lettersFor o true hw told, ∃ c ∈ ls, c ∈ [Lt.k, Lt.r] := by
  unfold lettersFor
  rw [if_neg ho]
  cases hw <;> cases told <;> decide
theorem letters_x {o : Int} {hk told : Bool} (ho : o ≠ 0) : ∀ ls ∈ lettersFor o hk true told, Lt.x ∈ ls := by
  unfold lettersFor
  rw [if_neg ho]
  cases hk <;> cases told <;> decide
def S_join_events : List Sl → (Dt → Prop) → Prop := fun as R => ∃ (r : Rd') (h : Hs) (s : Sc) (u : List Lt), as = [.dat (rdD r), .dat (hsD h), .dat (scD s)] ∧ HOk h ∧ WF h s ∧ s.word = some u ∧ R = fun d => d = .lst ((joinEv r.up h.rows h.joins s.order u s.key s.watch).map spD)
theorem joinMore_len {up : Bool} {j : Jn} {o : Int} {u : List Lt} {key watch : Sd} {more : List Lt} : (joinMore up j o u key watch more).length ≤ 1 := by
  have h : ∀ (b : Bool) (x : Ev × Pg), (if b = true then [x] else []).length ≤ 1 := by
    intro b x
    cases b <;> simp
  exact h _ _
theorem joinFor_len {up : Bool} {rows : Nat} {j : Jn} {o : Int} {u : List Lt} {key watch : Sd} {hk hw : Bool} (hr : rows ≤ 4) : (joinFor up rows j o u key watch hk hw).length ≤ 500 := by
  unfold joinFor
  split
  · refine Nat.le_trans (flen _ 125 _ fun ls hls => ?_) (by have := letters_many (o := o) (hk := hk) (hw := hw) (told := false); omega)
    refine Nat.le_trans (flen _ 1 _ fun more _ => joinMore_len) ?_
    have := dotted_len (letters_len ls hls) (show rows - (rowsOf u).length ≤ 4 by omega)
    omega
  · simp
theorem spD_not (l : List (Ev × Pg)) : (l.map spD).all notInt = true := by
  rw [List.all_map, List.all_eq_true]
  intro _ _; rfl
theorem ok_join_events (T : Top w K mg) : Fn P w K mg base "join_events" 3 P_join_events S_join_events := by
  refine Fn.mk1 (st := s_join_events) T 25 rfl T.g_join_events (fun fd F => fn_one F sc_join_events ?_) (fun _ _ _ _ _ _ us hl => match us, hl with | [_, _, _], _ => rfl)
  rintro as R ⟨r, h, s, u, rfl, ho, wf, hu, rfl⟩
  refine ⟨⟨rfl, by simp [isMut]⟩, fun cdv A outer s' H S0 E hr => ?_⟩
  have hrows : h.rows ≤ 4 := by have := ho.r3; omega
  obtain ⟨hul, hur⟩ := wf.len u hu
  obtain ⟨hk0, hk1⟩ := wf.key u hu
  obtain ⟨hw0, hw1⟩ := wf.watch u hu
  have hm4 : h.rows - (rowsOf u).length ≤ 4 := by omega
  refine dss_then (ρ1 := [.dat (rdD r), .dat (hsD h), .dat (scD s), .dat (.int s.order), .dat (wD u), .dat (.str (sdS s.key)), .dat (.str (sdS s.watch)), .un, .un, .un, .un, .un, .un, .un, .un]) (ds_asg (de_tp (ds := [.int s.order, wD u, .str (sdS s.key), .str (sdS s.watch)]) (da_cons (de_sc (n := 1) (de_v 2)) (da_cons (de_scw (de_v 2) hu) (da_cons (de_sc (n := 6) (de_v 2)) (da_cons (de_sc (n := 7) (de_v 2)) da_nil)))))
    (dg_tup (dgs_cons (L' := [4, 5, 6]) (M' := fun z => z = _) (dg_name 3 rfl sc_join_events.nd) (fun _ e => by subst e; exact dgs_cons (L' := [5, 6]) (M' := fun z => z = _) (dg_name 4 rfl sc_join_events.nd) (fun _ e => by subst e; exact dgs_cons (L' := [6]) (M' := fun z => z = _) (dg_name 5 rfl sc_join_events.nd) (fun _ e => by subst e; exact dgs_cons (L' := []) (M' := fun z => z = _) (dg_name 6 rfl sc_join_events.nd) (fun _ e => by subst e; exact dgs_nil rfl))))))) ?_
  refine dss_then (ρ1 := [.dat (rdD r), .dat (hsD h), .dat (scD s), .dat (.int s.order), .dat (wD u), .dat (.str (sdS s.key)), .dat (.str (sdS s.watch)), .dat (.str (sdS (joinSide h.joins))), .un, .un, .un, .un, .un, .un, .un]) (ds_set 7 (d := .str (sdS (joinSide h.joins))) (DE.eq (de_if (dt_cmp (de_fld (de_v 1) T.c_House T.n_House_joins (hs_joins _)) de_str (od_eqJl .left)) (fun _ => (de_strSd .right)) (fun _ => (de_strSd .left))) (by cases h.joins <;> rfl)) rfl sc_join_events.nd) ?_
  refine dss_then (ρ1 := [.dat (rdD r), .dat (hsD h), .dat (scD s), .dat (.int s.order), .dat (wD u), .dat (.str (sdS s.key)), .dat (.str (sdS s.watch)), .dat (.str (sdS (joinSide h.joins))), .ml [], .un, .un, .un, .un, .un, .un]) (ds_setL 8 (dl_ls (ds := []) da_nil) (fun ds e => ⟨by rw [e]; rfl, by rw [e]; rfl⟩) sc_join_events.nd) ?_
  have tot : ((bools (decide (s.key = joinSide h.joins))).flatMap fun hk => (bools (decide (s.watch = joinSide h.joins))).flatMap fun hw => (joinFor r.up h.rows h.joins s.order u s.key s.watch hk hw).map spD).length ≤ 2 * (2 * 500) := by
    have b2 : ∀ b, (bools b).length ≤ 2 := by decide
    refine Nat.le_trans (flen _ (2 * 500) _ fun hk _ => Nat.le_trans (flen _ 500 _ fun hw _ => ?_) (Nat.mul_le_mul_right _ (b2 _))) (Nat.mul_le_mul_right _ (b2 _))
    rw [List.length_map]
    exact joinFor_len hrows
  refine dss_then (ρ1 := [.dat (rdD r), .dat (hsD h), .dat (scD s), .dat (.int s.order), .dat (wD u), .dat (.str (sdS s.key)), .dat (.str (sdS s.watch)), .dat (.str (sdS (joinSide h.joins))), .ml ((joinEv r.up h.rows h.joins s.order u s.key s.watch).map spD), .un, .un, .un, .un, .un, .un])
    (ds_acc (bools (decide (s.key = joinSide h.joins))) Dt.bl (fun hk => (bools (decide (s.watch = joinSide h.joins))).flatMap fun hw => (joinFor r.up h.rows h.joins s.order u s.key s.watch hk hw).map spD) [] (fun acc => [.dat (rdD r), .dat (hsD h), .dat (scD s), .dat (.int s.order), .dat (wD u), .dat (.str (sdS s.key)), .dat (.str (sdS s.watch)), .dat (.str (sdS (joinSide h.joins))), .ml acc, .un, .un, .un, .un, .un, .un])
      (di_list (dr_ifT (dt_cmp (de_v 5) (de_v 7) od_eqSd) (fun hq => DE.as (DL.fzE (dl_ls (ds := [.bl false, .bl true]) (da_cons de_bl (da_cons de_bl da_nil)))) ⟨_, rfl, by rw [hq]; rfl⟩) (fun hq => DE.as (DL.fzE (dl_ls (ds := [.bl false]) (da_cons de_bl da_nil))) ⟨_, rfl, by rw [hq]; rfl⟩)))
      rfl rfl (fun a _ => fnot _ _ fun b _ => spD_not _) (fun hk hhk acc hacc hlen => ⟨[9], dg_name 9 ?_ sc_join_events.nd⟩) (fun _ => ?_)) ?_
  · refine dss_one (ds_acc (bools (decide (s.watch = joinSide h.joins))) Dt.bl (fun hw => (joinFor r.up h.rows h.joins s.order u s.key s.watch hk hw).map spD) acc (fun acc => [.dat (rdD r), .dat (hsD h), .dat (scD s), .dat (.int s.order), .dat (wD u), .dat (.str (sdS s.key)), .dat (.str (sdS s.watch)), .dat (.str (sdS (joinSide h.joins))), .ml acc, .dat (.bl hk), .un, .un, .un, .un, .un])
      (di_list (dr_ifT (dt_cmp (de_v 6) (de_v 7) od_eqSd) (fun hq => DE.as (DL.fzE (dl_ls (ds := [.bl false, .bl true]) (da_cons de_bl (da_cons de_bl da_nil)))) ⟨_, rfl, by rw [hq]; rfl⟩) (fun hq => DE.as (DL.fzE (dl_ls (ds := [.bl false]) (da_cons de_bl da_nil))) ⟨_, rfl, by rw [hq]; rfl⟩)))
      rfl hacc (fun a _ => spD_not _) (fun hw hhw acc2 hacc2 hlen2 => ⟨[10], dg_name 10 ?_ sc_join_events.nd⟩) (fun _ => ⟨_, rfl, .eq (.eq (.eq (.eq (.eq (.eq (.eq (.eq (.eq (.un (.eq (.eq (.eq (.eq (.eq .nil))))))))))))))⟩))
    have jl := joinFor_len (up := r.up) (j := h.joins) (o := s.order) (u := u) (key := s.key) (watch := s.watch) (hk := hk) (hw := hw) hrows
    have hlen1 : acc.length + ((bools (decide (s.watch = joinSide h.joins))).flatMap fun hw => (joinFor r.up h.rows h.joins s.order u s.key s.watch hk hw).map spD).length ≤ 2000 := by
      have e1 : (([] : List Dt)).length = 0 := rfl
      omega
    refine dss_one (ds_ifT (DW.q (wt_or (dt_cmp (de_v 3) de_int od_neI) fun _ => (wt_or1 (dt_cmp (de_v 9) (de_v 10) od_eqB)))) (fun hc => ?_) (fun hc => ?_))
    · have hcond : s.order ≠ 0 ∨ hk = hw := by simpa using hc
      have eJ : (joinFor r.up h.rows h.joins s.order u s.key s.watch hk hw).map spD = (lettersFor s.order hk hw false).flatMap fun ls => (dotted ls (h.rows - (rowsOf u).length)).flatMap fun more => (joinMore r.up h.joins s.order u (if hk then .inn else s.key) (if hw then .inn else s.watch) more).map spD := by
        unfold joinFor
        rw [if_pos hcond]
        simp only [List.map_flatMap]
      rw [eJ] at hlen2
      refine dss_then (ρ1 := [.dat (rdD r), .dat (hsD h), .dat (scD s), .dat (.int s.order), .dat (wD u), .dat (.str (sdS s.key)), .dat (.str (sdS s.watch)), .dat (.str (sdS (joinSide h.joins))), .ml acc2, .dat (.bl hk), .dat (.bl hw), .dat (.tup [.str (sdS (if hk then .inn else s.key)), .str (sdS (if hw then .inn else s.watch))]), .un, .un, .un]) (ds_set 11 (de_tp (ds := [.str (sdS (if hk then .inn else s.key)), .str (sdS (if hw then .inn else s.watch))]) (da_cons (de_ifG (fun k => Dt.str (sdS k)) (dt_val (de_v 9)) (fun _ => (de_strSd .inn)) (fun _ => (de_v 5))) (da_cons (de_ifG (fun k => Dt.str (sdS k)) (dt_val (de_v 10)) (fun _ => (de_strSd .inn)) (fun _ => (de_v 6))) da_nil))) rfl sc_join_events.nd) ?_
      refine dss_one (ds_acc (lettersFor s.order hk hw false) lsD (fun ls => (dotted ls (h.rows - (rowsOf u).length)).flatMap fun more => (joinMore r.up h.joins s.order u (if hk then .inn else s.key) (if hw then .inn else s.watch) more).map spD) acc2 (fun acc => [.dat (rdD r), .dat (hsD h), .dat (scD s), .dat (.int s.order), .dat (wD u), .dat (.str (sdS s.key)), .dat (.str (sdS s.watch)), .dat (.str (sdS (joinSide h.joins))), .ml acc, .dat (.bl hk), .dat (.bl hw), .dat (.tup [.str (sdS (if hk then .inn else s.key)), .str (sdS (if hw then .inn else s.watch))]), .un, .un, .un])
        (di_list (DR.mono (de_call (ok_letters_for T) (hr.mono (by decide)) (da_cons (de_v 3) (da_cons (de_v 9) (da_cons (de_v 10) (da_cons de_bl da_nil)))) ⟨_, _, _, _, rfl, rfl⟩) fun d e => ⟨_, e, rfl⟩)) rfl hacc2 (fun a _ => fnot _ _ fun b _ => spD_not _) (fun ls hls acc3 hacc3 hlen3 => ⟨[12], dg_name 12 ?_ sc_join_events.nd⟩) (fun _ => ?_))
      · have hl2 := letters_len ls hls
        refine dss_one (ds_acc (dotted ls (h.rows - (rowsOf u).length)) wD (fun more => (joinMore r.up h.joins s.order u (if hk then .inn else s.key) (if hw then .inn else s.watch) more).map spD) acc3 (fun acc => [.dat (rdD r), .dat (hsD h), .dat (scD s), .dat (.int s.order), .dat (wD u), .dat (.str (sdS s.key)), .dat (.str (sdS s.watch)), .dat (.str (sdS (joinSide h.joins))), .ml acc, .dat (.bl hk), .dat (.bl hw), .dat (.tup [.str (sdS (if hk then .inn else s.key)), .str (sdS (if hw then .inn else s.watch))]), .dat (lsD ls), .un, .un])
          (di_list (DR.mono (de_call (ok_dotted T) hr (da_cons (de_v 12) (da_cons (DE.eq (de_bin (de_fld (de_v 1) T.c_House T.n_House_rows (hs_rows _)) (de_lenW T.f_len (de_call (ok_rows_of T) (hr.mono (by decide)) (da_cons (de_v 4) da_nil) ⟨_, rfl, by omega, rfl⟩) (by omega)) od_sub) (d' := .int ((h.rows - (rowsOf u).length : Nat) : Int)) (congrArg Dt.int (by omega))) da_nil)) ⟨_, _, rfl, hl2, hm4, rfl⟩) fun d e => ⟨_, e, rfl⟩)) rfl hacc3 (fun a _ => spD_not _) (fun more hmore acc4 hacc4 hlen4 => ⟨[13], dg_name 13 ?_ sc_join_events.nd⟩) (fun _ => ⟨_, rfl, .eq (.eq (.eq (.eq (.eq (.eq (.eq (.eq (.eq (.eq (.eq (.eq (.un (.eq (.eq .nil))))))))))))))⟩))
        have hmw := dotted_word hmore hl2 hm4
        refine dss_then (ds_set 14 (de_ifG wD (dt_cmp (de_v 7) (de_strSd .right) od_eqSd) (fun _ => (de_bin (de_v 4) (de_v 13) (od_addW (by omega)))) (fun _ => (de_bin (de_v 13) (de_v 4) (od_addW (by omega))))) rfl sc_join_events.nd) ?_
        have hmem : ∀ c, c ∈ u ∨ c ∈ more → c ∈ (if decide (joinSide h.joins = Sd.right) = true then u ++ more else more ++ u) := by
          intro c hc
          split
          · exact List.mem_append.mpr hc
          · exact List.mem_append.mpr hc.symm
        refine dss_one (ds_ifT (dt_val (de_call (ok_are_in_order T) hr (da_cons (de_v 0) (da_cons (de_v 3) (da_cons (de_v 14) (da_cons (de_ix (de_v 11) de_int (id_tup 0)) (da_cons (de_ix (de_v 11) de_int (id_tup 1)) da_nil))))) ⟨_, _, _, _, _, rfl, fun h0 => ⟨?_, ?_, fun h1 h2 => ⟨?_, ?_⟩⟩, rfl⟩)) (fun hc => ?_) (fun hc => ?_))
        · cases hk
          · exact hk0
          · exact fun z => nomatch z
        · cases hw
          · exact hw0
          · exact fun z => nomatch z
        · cases hk
          · have h3 := hk1 h1
            rw [if_neg h0] at h3
            rcases h3 with h3 | h3
            · exact place_some (hmem _ (Or.inl h3)) (by decide)
            · exact place_some (hmem _ (Or.inl h3)) (by decide)
          · obtain ⟨c, c1, c2⟩ := letters_k h0 ls hls
            exact place_some (hmem c (Or.inr (dotted_mem hmore c c1))) c2
        · cases hw
          · have h3 := hw1 h2
            rw [if_neg h0] at h3
            exact place_some (hmem _ (Or.inl h3)) (by decide)
          · exact place_some (hmem _ (Or.inr (dotted_mem hmore _ (letters_x h0 ls hls)))) (by decide)
        · have eM : joinMore r.up h.joins s.order u (if hk then .inn else s.key) (if hw then .inn else s.watch) more = [([.str "join", .str (enc more)], (if decide (joinSide h.joins = Sd.right) = true then u ++ more else more ++ u), (if hk then .inn else s.key), (if hw then .inn else s.watch))] := by
            unfold joinMore
            have hc2 : inOrder r.up s.order (if joinSide h.joins = Sd.right then u ++ more else more ++ u) (if hk then .inn else s.key) (if hw then .inn else s.watch) = true := by
              simpa using hc
            rw [if_pos hc2]
            simp
          refine dss_one (ds_append 8 (R := fun d => d = spD ([.str "join", .str (enc more)], (if decide (joinSide h.joins = Sd.right) = true then u ++ more else more ++ u), (if hk then .inn else s.key), (if hw then .inn else s.watch))) (de_tp (ds := [_, _, _, _]) (da_cons (de_tp (ds := [_, _]) (da_cons de_str (da_cons (de_v 13) da_nil))) (da_cons (de_v 14) (da_cons (de_ix (de_v 11) de_int (id_tup 0)) (da_cons (de_ix (de_v 11) de_int (id_tup 1)) da_nil))))) (fun d e => ⟨by rw [e]; rfl, ⟨_, rfl, ?_⟩⟩) ?_ hacc4)
          · rw [eM, e]
            exact .eq (.eq (.eq (.eq (.eq (.eq (.eq (.eq (.eq (.eq (.eq (.eq (.eq (.un (.un .nil))))))))))))))
          · have e5 : ((joinMore r.up h.joins s.order u (if hk then .inn else s.key) (if hw then .inn else s.watch) more).map spD).length = 1 := by rw [eM]; rfl
            omega
        · have eM : joinMore r.up h.joins s.order u (if hk then .inn else s.key) (if hw then .inn else s.watch) more = [] := by
            unfold joinMore
            have hc2 : inOrder r.up s.order (if joinSide h.joins = Sd.right then u ++ more else more ++ u) (if hk then .inn else s.key) (if hw then .inn else s.watch) = false := by
              simpa using hc
            rw [if_neg (by rw [hc2]; exact Bool.false_ne_true)]
          refine dss_nil ⟨_, rfl, ?_⟩
          rw [eM, List.map_nil, List.append_nil]
          exact .eq (.eq (.eq (.eq (.eq (.eq (.eq (.eq (.eq (.eq (.eq (.eq (.eq (.un (.un .nil))))))))))))))
      · rw [← eJ]
        exact ⟨_, rfl, .eq (.eq (.eq (.eq (.eq (.eq (.eq (.eq (.eq (.eq (.un (.un (.eq (.eq (.eq .nil))))))))))))))⟩
    · have hcond : ¬ (s.order ≠ 0 ∨ hk = hw) := by simpa using hc
      refine dss_nil ⟨_, rfl, ?_⟩
      unfold joinFor
      rw [if_neg hcond, List.map_nil, List.append_nil]
      exact .eq (.eq (.eq (.eq (.eq (.eq (.eq (.eq (.eq (.eq (.un (.eq (.eq (.eq (.eq .nil))))))))))))))
  · show _ = _
    unfold joinEv
    simp only [List.map_flatMap, List.nil_append]
  · exact dss_one (ds_retml 8 rfl)
end

end DL
/-! Pl -/
set_option Elab.async false
set_option linter.all false
set_option maxRecDepth 100000
set_option maxHeartbeats 4000000
namespace DL
open PySem PySem.Spec PyProof.Rows L2
local macro_rules | `(tactic| walk_at "od") => `(tactic| first | exact od_eqS | exact od_neS | exact od_inT | exact od_notInT | exact od_inL | exact od_notInL | exact od_eqB | exact od_neB)
local macro_rules | `(tactic| walk_at "len") => `(tactic| first | omega | (simp only [List.length_append, List.length_cons, List.length_nil, List.length_take, List.length_drop]; omega))
section
variable {P : Program} {w : World} {K : PySem.W.Frag} {mg : Str → Option Value} {base : Heap}
def ceD (e : Ev × List Lt) : Dt := .tup [.tup e.1, wD e.2]
theorem repl_rk (u : List Lt) : Txt.replace (enc u) "|" "k" = enc (subst1 .r .k u) := by
  have e1 : ("|" : Str) = enc [.r] := by decide +kernel
  have e2 : ("k" : Str) = enc [.k] := by decide +kernel
  rw [e1, e2]
  exact replace_sub .r .k u
def S_come_events : List Sl → (Dt → Prop) → Prop := fun as R => ∃ (h : Hs) (s : Sc) (u : List Lt), as = [.dat (hsD h), .dat (scD s)] ∧ s.word = some u ∧ u.length ≤ 1000 ∧ R = fun d => d = .lst ((comeEv h.rows u).map ceD)
theorem enum_get {u : List Lt} {i : Nat} {d : Dt} (hd : (enumD 0 (u.map fun c => Dt.str (enc [c])))[i]? = some d) : ∃ c, u[i]? = some c ∧ d = .tup [.int (i : Int), lD c] := by
  have hlt : i < u.length := by
    have := (List.getElem?_eq_some_iff.mp hd).1
    simpa [enumD_len] using this
  refine ⟨u[i], by simp [hlt], ?_⟩
  have hg : (u.map fun c => Dt.str (enc [c]))[i]? = some (.str (enc [u[i]])) := by simp [hlt]
  have := enumD_get 0 _ i _ hg
  rw [this] at hd
  simpa using hd.symm
theorem zip_take (u : List Lt) (i : Nat) (c : Lt) (h : u[i]? = some c) : u.zipIdx.take (i + 1) = u.zipIdx.take i ++ [(c, i)] := by
  rw [List.take_add_one]
  congr 1
  rw [List.getElem?_zipIdx, h]
  simp
def goF (u : List Lt) (p : Lt × Nat) : List Dt := (goAt u p.2 p.1).map ceD
theorem goF_len (u : List Lt) (p : Lt × Nat) : (goF u p).length ≤ 1 := by
  unfold goF goAt
  split <;> simp
theorem ok_come_events (T : Top w K mg) : Fn P w K mg base "come_events" 2 P_come_events S_come_events := by
  refine Fn.mk1 (st := s_come_events) T 23 rfl T.g_come_events (fun fd F => fn_one F sc_come_events ?_) (fun _ _ _ _ _ _ us hl => match us, hl with | [_, _], _ => rfl)
  rintro as R ⟨h, s, u, rfl, hu, hl, rfl⟩
  refine ⟨⟨rfl, by simp [isMut]⟩, fun cdv A outer s' H S0 E hr => ?_⟩
  have hrl := rows_le u
  refine dss_then (ρ1 := [.dat (hsD h), .dat (scD s), .dat (wD u), .ml [], .un, .un, .un]) (ds_asg2M 2 3 (dm_dat (de_scw (de_v 1) hu) (dm_lst (dl_ls (ds := []) da_nil) rfl dm_nil)) rfl sc_come_events.nd) ?_
  have start : ∀ (st : Stmt) (rest : List Stmt), (∀ l : List Dt, l.all notInt = true → l.length ≤ 2000 → l = ((if (rowsOf u).length < h.rows then (List.range (u.length + 1)).map (comeAt u) ++ (if .r ∈ u then [([.str "again"], subst1 .r .k u)] else []) else []).map ceD) →
      DSs (cxOf CX0 P w K mg base N_come_events "come_events" (defScope s_come_events) (He.ga K "come_events") cdv A outer s' H E).nox S0 H rest [.dat (hsD h), .dat (scD s), .dat (wD u), .ml l, .un, .un, .un] { nx := fun _ => Dt.non = .lst ((comeEv h.rows u).map ceD), rt := fun d => d = .lst ((comeEv h.rows u).map ceD) }) →
      (∀ l : List Dt, l = ((if (rowsOf u).length < h.rows then (List.range (u.length + 1)).map (comeAt u) ++ (if .r ∈ u then [([.str "again"], subst1 .r .k u)] else []) else []).map ceD) →
      DS (cxOf CX0 P w K mg base N_come_events "come_events" (defScope s_come_events) (He.ga K "come_events") cdv A outer s' H E).nox S0 H st [.dat (hsD h), .dat (scD s), .dat (wD u), .ml [], .un, .un, .un] { nx := fun z => z = [.dat (hsD h), .dat (scD s), .dat (wD u), .ml l, .un, .un, .un], rt := fun d => d = .lst ((comeEv h.rows u).map ceD) }) →
      DSs (cxOf CX0 P w K mg base N_come_events "come_events" (defScope s_come_events) (He.ga K "come_events") cdv A outer s' H E).nox S0 H (st :: rest) [.dat (hsD h), .dat (scD s), .dat (wD u), .ml [], .un, .un, .un] { nx := fun _ => Dt.non = .lst ((comeEv h.rows u).map ceD), rt := fun d => d = .lst ((comeEv h.rows u).map ceD) } := fun st rest h1 h2 => by
    refine dss_then (h2 _ rfl) (h1 _ ?_ ?_ rfl)
    · rw [List.all_map, List.all_eq_true]; intro _ _; rfl
    · rw [List.length_map]
      split
      · rw [List.length_append, List.length_map, List.length_range]
        have : (if Lt.r ∈ u then [(([.str "again"] : Ev), subst1 .r .k u)] else []).length ≤ 1 := by split <;> simp
        omega
      · simp
  refine start _ _ (fun l hln hll hle => ?_) (fun l hle => ?_)
  · refine dss_then (ρ1 := [.dat (hsD h), .dat (scD s), .dat (wD u), .ml (l ++ u.zipIdx.flatMap (goF u)), .un, .un, .un]) (ds_for (di_enumW T.f_enumerate (de_v 2)) fun ds hds => ⟨fun i z => z = [.dat (hsD h), .dat (scD s), .dat (wD u), .ml (l ++ (u.zipIdx.take i).flatMap (goF u)), .un, .un, .un], ⟨_, rfl, by simpa using Wk.refl _⟩, ?_, ?_⟩) ?_
    · rintro i d ρi hd rfl
      subst hds
      obtain ⟨c, hc, rfl⟩ := enum_get hd
      have hi : i < u.length := (List.getElem?_eq_some_iff.mp hc).1
      have hpre : (l ++ (u.zipIdx.take i).flatMap (goF u)).all notInt = true := by
        rw [List.all_append, hln, Bool.true_and, List.all_eq_true]
        intro x hx
        obtain ⟨a, ha, hx⟩ := List.mem_flatMap.mp hx
        unfold goF at hx
        obtain ⟨b, _, rfl⟩ := List.mem_map.mp hx
        rfl
      have hprl : (l ++ (u.zipIdx.take i).flatMap (goF u)).length ≤ 3000 := by
        rw [List.length_append]
        have h1 := flen (goF u) 1 (u.zipIdx.take i) fun a _ => goF_len u a
        have h2 : (u.zipIdx.take i).length ≤ i := by rw [List.length_take]; omega
        omega
      refine ⟨[4, 5], dg2 4 5 ?_ sc_come_events.nd⟩
      refine dss_one (ds_ifT (dt_cmp (de_v 5) (de_strW [.d, .k]) od_inW) (fun hcc => ?_) (fun hcc => ?_))
      · have hdk : c = .d ∨ c = .k := by simpa using hcc
        have eg : goF u (c, i) = [ceD ([.str "go", .int (i : Int)], u.take i ++ (if c = .d then [] else [.r]) ++ u.drop (i + 1))] := by
          unfold goF goAt
          rw [if_pos hdk] <;> rfl
        refine dss_one (ds_append 3 (R := fun d => d = ceD ([.str "go", .int (i : Int)], u.take i ++ (if c = .d then [] else [.r]) ++ u.drop (i + 1))) (DE.eq (de_tp (ds := [_, _]) (da_cons (de_tp (ds := [_, _]) (da_cons de_str (da_cons (de_v 4) da_nil))) (da_cons (de_bin (de_bin (de_slWhi (n := i) (de_v 2) (de_v 4) rfl (by omega)) (de_ifG wD (dt_cmp (de_v 5) (de_strW [.d]) od_eqW) (fun _ => (de_strW [])) (fun _ => (de_strW [.r]))) (od_addW ?_)) (de_slWlo (n := i + 1) (de_v 2) (de_bin (de_v 4) de_int od_add) rfl (by omega)) (od_addW ?_)) da_nil))) ?_) (fun d e => ⟨by rw [e]; rfl, ⟨_, rfl, ?_⟩⟩) (by omega) hpre)
        · have : (if decide ([c] = [Lt.d]) = true then [] else [Lt.r]).length ≤ 1 := by split <;> simp
          rw [List.length_take]; omega
        · have : (if decide ([c] = [Lt.d]) = true then [] else [Lt.r]).length ≤ 1 := by split <;> simp
          rw [List.length_append, List.length_take, List.length_drop]; omega
        · have e2 : (if decide ([c] = [Lt.d]) = true then ([] : List Lt) else [Lt.r]) = (if c = .d then [] else [.r]) := by simp
          rw [e2]; rfl
        · rw [e, zip_take u i c hc, List.flatMap_append, List.flatMap_cons, List.flatMap_nil, List.append_nil, eg, ← List.append_assoc]
          exact .eq (.eq (.eq (.eq (.un (.un (.eq .nil))))))
      · have eg : goF u (c, i) = [] := by
          unfold goF goAt
          rw [if_neg (by simpa using hcc)] <;> rfl
        refine dss_nil ⟨_, rfl, ?_⟩
        rw [zip_take u i c hc, List.flatMap_append, List.flatMap_cons, List.flatMap_nil, List.append_nil, eg, List.append_nil]
        exact .eq (.eq (.eq (.eq (.un (.un (.eq .nil))))))
    · rintro z rfl
      subst hds
      have e : (enumD 0 (u.map fun c => Dt.str (enc [c]))).length = u.zipIdx.length := by rw [enumD_len, List.length_map, List.length_zipIdx]
      rw [e, List.take_length]
    · refine dss_one (ds_retml 3 ?_)
      show _ = _
      unfold comeEv
      rw [List.map_append, ← hle, List.map_flatMap] <;> rfl
  · by_cases hc : (rowsOf u).length < h.rows
    · refine ds_ifT (dt_cmp (de_lenW T.f_len (de_call (ok_rows_of T) hr (da_cons (de_v 2) da_nil) ⟨_, rfl, by omega, rfl⟩) (by omega)) (de_fld (de_v 0) T.c_House T.n_House_rows (hs_rows _)) od_lt) (fun _ => ?_) (fun hq => ?_)
      · refine dss_then (ρ1 := [.dat (hsD h), .dat (scD s), .dat (wD u), .ml (((List.range (u.length + 1)).map (comeAt u)).map ceD), .un, .un, .un]) (ds_extend 3 (ds := []) (DL.fz (dl_lc (own := [(".0", 6), ("at", 4)]) (di_rangeS T.f_range (de_bin (de_lenW T.f_len (de_v 2) (by omega)) de_int od_add) hl)
          (lc_all (List.range (u.length + 1)) (fun n : Nat => Dt.int (n : Int)) (fun n => ceD (comeAt u n)) (by rw [List.length_range]; omega) (fun _ _ => rfl) (fun n => [.dat (hsD h), .dat (scD s), .dat (wD u), .ml [], .dat (.int (n : Int)), .un, .un]) (L := [4]) (by simp) (fun a _ s Hb C cl fp => dg_name 4 rfl sc_come_events.nd)
            (fun a ha s Hb C cl fp => de_tp (ds := [.tup [.str "come", .int (a : Int)], wD (u.take a ++ [.d] ++ u.drop a)]) (da_cons (de_tp (ds := [_, _]) (da_cons de_str (da_cons (de_v 4) da_nil))) (da_cons (de_bin (de_bin (de_slWhi (n := a) (de_v 2) (de_v 4) rfl (by omega)) (de_strW [.d]) (od_addW (by simp; omega))) (de_slWlo (n := a) (de_v 2) (de_v 4) rfl (by omega)) (od_addW (by simp; omega))) da_nil)))) sc_come_events.nd (blkOk_by (show blkC N_come_events (defScope s_come_events) _ _ = true by decide +kernel))))
          (fun l2 e2 => ⟨by rw [e2, List.all_map, List.all_eq_true]; intro _ _; rfl, by rw [e2, List.length_map, List.length_range]; have e0 : ([] : List Dt).length = 0 := rfl; omega, by rw [e2, List.map_map]; rfl⟩) rfl) ?_
        by_cases hm : Lt.r ∈ u
        · refine dss_one (ds_ifT (dt_cmp (de_strW [.r]) (de_v 2) od_inW) (fun _ => ?_) (fun hq => absurd hm (of_decide_eq_false hq)))
          refine dss_one (ds_append 3 (R := fun d => d = ceD ([.str "again"], subst1 .r .k u)) (DE.eq (de_rep2 (de_v 2) ?_) ?_) (fun d e => ⟨by rw [e]; rfl, ?_⟩) ?_ ?_)
          · rw [enc_len]
            have e : (("k" : Str)).length = 1 := by decide +kernel
            rw [e]; omega
          · rw [repl_rk]; rfl
          · show _ = _
            rw [hle, if_pos hc, if_pos hm, List.map_append, e] <;> rfl
          · rw [List.length_map, List.length_map, List.length_range]; omega
          · rw [List.all_map, List.all_eq_true]; intro _ _; rfl
        · refine dss_one (ds_ifT (dt_cmp (de_strW [.r]) (de_v 2) od_inW) (fun hq => absurd (of_decide_eq_true hq) hm) (fun _ => ?_))
          refine dss_nil ?_
          show _ = _
          rw [hle, if_pos hc, if_neg hm, List.append_nil]
      · have := of_decide_eq_false hq; omega
    · refine ds_ifT (dt_cmp (de_lenW T.f_len (de_call (ok_rows_of T) hr (da_cons (de_v 2) da_nil) ⟨_, rfl, by omega, rfl⟩) (by omega)) (de_fld (de_v 0) T.c_House T.n_House_rows (hs_rows _)) od_lt) (fun hq => ?_) (fun _ => ?_)
      · have := of_decide_eq_true hq; omega
      · refine dss_nil ?_
        show _ = _
        rw [hle, if_neg hc] <;> rfl
end

end DL
/-! Pm -/
set_option Elab.async false
set_option linter.all false
set_option maxRecDepth 100000
set_option maxHeartbeats 4000000
namespace DL
open PySem PySem.Spec PyProof.Rows L2
local macro_rules | `(tactic| walk_at "od") => `(tactic| first | exact od_eqS | exact od_neS | exact od_inT | exact od_notInT | exact od_inL | exact od_notInL | exact od_eqB | exact od_neB)
local macro_rules | `(tactic| walk_at "len") => `(tactic| first | omega | (simp only [List.length_append, List.length_cons, List.length_nil, List.length_take, List.length_drop]; omega))
section
variable {P : Program} {w : World} {K : PySem.W.Frag} {mg : Str → Option Value} {base : Heap}
theorem dss_thenW {X : Cx} {S0 H0 : Hp} {st : Stmt} {rest : List Stmt} {ρ ρ1 : List Sl} {D : DEnds} (h1 : DS X S0 H0 st ρ { D with nx := fun z => Wk ρ1 z }) (h2 : DSs X S0 H0 rest ρ1 D) : DSs X S0 H0 (st :: rest) ρ D := dss_cons h1 fun z w => dss_wk w h2
theorem pages_len {up : Bool} {rows : Nat} {o : Int} {told : Bool} (hr : rows ≤ 4) : (pages up rows o told).length ≤ 4500 := by
  rw [← List.length_map (f := pgD), ← F_all]
  refine Nat.le_trans (flen _ (3 * 500) _ fun a _ => ?_) (Nat.mul_le_mul_right _ (show _ ≤ 3 by cases told <;> decide))
  exact flen (fun watch => F2 up rows o told a watch) 500 sides3 fun b _ => F2_len hr
theorem chB_len (h : Hs) (c : Int) : (chB h c).length ≤ 2 := by
  unfold chB
  split
  · simp
  · split <;> simp
theorem anyC_len {h : Hs} (ho : HOk h) : (anyC h).length ≤ 4 := by
  unfold anyC
  cases hs : h.stamps with
  | none => simp
  | some m => have := ho.st m hs; simp; omega
theorem comeEv_len {rows : Nat} {u : List Lt} (h : u.length ≤ 10) : (comeEv rows u).length ≤ 30 := by
  unfold comeEv
  rw [List.length_append]
  have h1 : (u.zipIdx.flatMap fun p => goAt u p.2 p.1).length ≤ u.zipIdx.length * 1 := flen _ 1 _ fun p _ => by unfold goAt; split <;> simp
  rw [List.length_zipIdx] at h1
  split
  · rw [List.length_append, List.length_map, List.length_range]
    have : (if Lt.r ∈ u then [(([.str "again"] : Ev), subst1 .r .k u)] else []).length ≤ 1 := by split <;> simp
    omega
  · rw [List.length_nil]; omega
theorem joinEv_len {up : Bool} {rows : Nat} {j : Jn} {o : Int} {u : List Lt} {key watch : Sd} (hr : rows ≤ 4) : (joinEv up rows j o u key watch).length ≤ 2000 := by
  unfold joinEv
  have b2 : ∀ b, (bools b).length ≤ 2 := by decide
  exact Nat.le_trans (flen _ (2 * 500) _ fun hk _ => Nat.le_trans (flen _ 500 _ fun hw _ => joinFor_len hr) (Nat.mul_le_mul_right _ (b2 _))) (Nat.mul_le_mul_right _ (b2 _))
theorem splitEv_len {low : Bool} {u : List Lt} {key watch : Sd} (h : u.length ≤ 10) : (splitEv low u key watch).length ≤ 11 := by
  unfold splitEv
  rw [List.length_map, List.length_range]; omega
theorem ways_len {h : Hs} {up : Bool} {s : Sc} {u : List Lt} (hr : h.rows ≤ 4) (hu : u.length ≤ 10) : (ways h up s u).length ≤ 2041 := by
  unfold ways
  rw [List.length_append, List.length_append, List.length_map]
  have h1 := comeEv_len (rows := h.rows) hu
  have h2 := splitEv_len (low := h.low) (key := s.key) (watch := s.watch) hu
  have h3 : (if h.joins ≠ .none then joinEv up h.rows h.joins s.order u s.key s.watch else []).length ≤ 2000 := by
    split
    · exact joinEv_len hr
    · simp
  omega
theorem ways_ev {h : Hs} {up : Bool} {s : Sc} {u : List Lt} : ∀ e ∈ ways h up s u, e.1.length ≤ 2 := by
  intro e he
  unfold ways at he
  rcases List.mem_append.mp he with he | he
  · rcases List.mem_append.mp he with he | he
    · obtain ⟨a, ha, rfl⟩ := List.mem_map.mp he
      unfold comeEv at ha
      rcases List.mem_append.mp ha with ha | ha
      · split at ha
        · rcases List.mem_append.mp ha with ha | ha
          · obtain ⟨n, _, rfl⟩ := List.mem_map.mp ha
            exact Nat.le_refl 2
          · split at ha
            · rw [List.mem_singleton.mp ha]; exact Nat.le_succ 1
            · cases ha
        · cases ha
      · obtain ⟨p, _, ha⟩ := List.mem_flatMap.mp ha
        unfold goAt at ha
        split at ha
        · rw [List.mem_singleton.mp ha]; exact Nat.le_refl 2
        · cases ha
    · unfold splitEv at he
      obtain ⟨n, _, rfl⟩ := List.mem_map.mp he
      exact Nat.le_refl 2
  · split at he
    · unfold joinEv at he
      obtain ⟨hk, _, he⟩ := List.mem_flatMap.mp he
      obtain ⟨hw, _, he⟩ := List.mem_flatMap.mp he
      unfold joinFor at he
      split at he
      · obtain ⟨ls, _, he⟩ := List.mem_flatMap.mp he
        obtain ⟨more, _, he⟩ := List.mem_flatMap.mp he
        unfold joinMore at he
        by_cases q : inOrder up s.order (if joinSide h.joins = .right then u ++ more else more ++ u) (if hk then .inn else s.key) (if hw then .inn else s.watch) = true
        · rw [if_pos q] at he
          rw [List.mem_singleton.mp he]; exact Nat.le_refl 2
        · rw [if_neg q] at he
          cases he
      · cases he
    · cases he
theorem otD_not (l : List (Ev × Sc)) : (l.map otD).all notInt = true := by
  rw [List.all_map, List.all_eq_true]
  intro _ _; rfl
def S_others : List Sl → (Dt → Prop) → Prop := fun as R => ∃ (r : Rd') (h : Hs) (s : Sc), as = [.dat (rdD r), .dat (hsD h), .dat (scD s)] ∧ HOk h ∧ WF h s ∧ R = fun d => d = .lst ((others h r.up s).map otD)
theorem ok_others (T : Top w K mg) : Fn P w K mg base "others" 4 P_others S_others := by
  refine Fn.mk1 (st := s_others) T 26 rfl T.g_others (fun fd F => fn_one F sc_others ?_) (fun _ _ _ _ _ _ us hl => match us, hl with | [_, _, _], _ => rfl)
  rintro as R ⟨r, h, s, rfl, ho, wf, rfl⟩
  refine ⟨⟨rfl, by simp [isMut]⟩, fun cdv A outer s' H S0 E hr => ?_⟩
  have hrows : h.rows ≤ 4 := by have := ho.r3; omega
  refine dss_then (ρ1 := [.dat (rdD r), .dat (hsD h), .dat (scD s), .dat (.bl s.told), .dat (.int s.order), .dat (.int s.slot), .dat (.int s.change), .dat (.int s.many), .dat (woD s.word), .dat (.str (sdS s.key)), .dat (.str (sdS s.watch)), .un, .un, .un, .un, .un, .un, .un, .un, .un, .un]) (ds_asg (de_v 2) (dg_tup (dgs_cons (L' := [4, 5, 6, 7, 8, 9, 10]) (M' := fun z => z = _) (dg_name 3 rfl sc_others.nd) (fun _ e => by subst e; exact dgs_cons (L' := [5, 6, 7, 8, 9, 10]) (M' := fun z => z = _) (dg_name 4 rfl sc_others.nd) (fun _ e => by subst e; exact dgs_cons (L' := [6, 7, 8, 9, 10]) (M' := fun z => z = _) (dg_name 5 rfl sc_others.nd) (fun _ e => by subst e; exact dgs_cons (L' := [7, 8, 9, 10]) (M' := fun z => z = _) (dg_name 6 rfl sc_others.nd) (fun _ e => by subst e; exact dgs_cons (L' := [8, 9, 10]) (M' := fun z => z = _) (dg_name 7 rfl sc_others.nd) (fun _ e => by subst e; exact dgs_cons (L' := [9, 10]) (M' := fun z => z = _) (dg_name 8 rfl sc_others.nd) (fun _ e => by subst e; exact dgs_cons (L' := [10]) (M' := fun z => z = _) (dg_name 9 rfl sc_others.nd) (fun _ e => by subst e; exact dgs_cons (L' := []) (M' := fun z => z = _) (dg_name 10 rfl sc_others.nd) (fun _ e => by subst e; exact dgs_nil rfl))))))))))) ?_
  refine dss_then (ρ1 := [.dat (rdD r), .dat (hsD h), .dat (scD s), .dat (.bl s.told), .dat (.int s.order), .dat (.int s.slot), .dat (.int s.change), .dat (.int s.many), .dat (woD s.word), .dat (.str (sdS s.key)), .dat (.str (sdS s.watch)), .dat (.bl (usedUp h s.many)), .un, .un, .un, .un, .un, .un, .un, .un, .un]) (ds_set 11 (d := .bl (usedUp h s.many)) ?_ rfl sc_others.nd) ?_
  · cases hch : h.changes with
    | none =>
      refine DE.eq (de_and (k := false) (de_cmp (de_fld (de_v 1) T.c_House T.n_House_changes (hs_changes _)) de_non od_notNo) fun hq => ?_) ?_
      · rw [hch] at hq; cases hq
      · unfold usedUp; rw [hch]; rfl
    | some c =>
      refine DE.eq (de_and (de_cmp (de_fld (de_v 1) T.c_House T.n_House_changes (hs_changes _)) de_non od_notNo) fun _ => (de_one (de_cmp (de_v 7) (DE.eq (de_fld (de_v 1) T.c_House T.n_House_changes (hs_changes _)) (d' := .int (c : Int)) (by rw [hch]; rfl)) od_ge))) ?_
      unfold usedUp; rw [hch]; rfl
  · refine dss_then (ρ1 := [.dat (rdD r), .dat (hsD h), .dat (scD s), .dat (.bl s.told), .dat (.int s.order), .dat (.int s.slot), .dat (.int s.change), .dat (.int s.many), .dat (woD s.word), .dat (.str (sdS s.key)), .dat (.str (sdS s.watch)), .dat (.bl (usedUp h s.many)), .ml [], .dat (.int (manyB h s.many)), .un, .un, .un, .un, .un, .un, .un]) (ds_asg2M 12 13 (dm_lst (dl_ls (ds := []) da_nil) rfl (dm_dat (de_call (ok_many_behind T) (hr.mono (by decide)) (da_cons (de_v 1) (da_cons (de_v 7) da_nil)) ⟨_, _, rfl, rfl⟩) dm_nil)) rfl sc_others.nd) ?_
    cases hw : s.word with
    | none =>
      refine dss_ifr (dt_cmp (de_v 8) de_non od_isN) (fun _ => ?_) (fun hc => by rw [show isNon (woD none) = true from rfl] at hc; cases hc)
      refine dss_thenW (ρ1 := [.dat (rdD r), .dat (hsD h), .dat (scD s), .dat (.bl s.told), .dat (.int s.order), .dat (.int s.slot), .dat (.int s.change), .dat (.int s.many), .dat .non, .dat (.str (sdS s.key)), .dat (.str (sdS s.watch)), .dat (.bl (usedUp h s.many)), .ml ((others h r.up s).map otD), .dat (.int (manyB h s.many)), .un, .un, .un, .un, .un, .un, .un])
        (ds_ifT (DW.q (wt_and (dt_val (de_fld (de_v 1) T.c_House T.n_House_again (hs_again _))) fun _ => (wt_and1 (dt_not (dt_val (de_v 11)))))) (fun hc => ?_) (fun hc => ?_)) (dss_one (ds_retml 12 rfl))
      · have eo : (others h r.up s).map otD = (pages r.up h.rows s.order false).flatMap fun p => ((if h.on then chB h s.change else anyC h).map fun one => (.str "new" :: pgL p ++ [.int one], behind h s one p)).map otD := by
          unfold others
          rw [hw]
          show List.map otD (if (h.again && !usedUp h s.many) = true then _ else _) = _
          rw [if_pos hc, List.map_flatMap]
        have hcl : (if h.on then chB h s.change else anyC h).length ≤ 4 := by
          have h1 := chB_len h s.change
          have h2 := anyC_len ho
          split <;> omega
        have htot : ((pages r.up h.rows s.order false).flatMap fun p => ((if h.on then chB h s.change else anyC h).map fun one => ((.str "new" :: pgL p ++ [.int one] : Ev), behind h s one p)).map otD).length ≤ 4500 * 4 := by
          refine Nat.le_trans (flen _ 4 _ fun p _ => ?_) (Nat.mul_le_mul_right _ (pages_len hrows))
          rw [List.length_map, List.length_map]; exact hcl
        refine dss_then (ρ1 := [.dat (rdD r), .dat (hsD h), .dat (scD s), .dat (.bl s.told), .dat (.int s.order), .dat (.int s.slot), .dat (.int s.change), .dat (.int s.many), .dat .non, .dat (.str (sdS s.key)), .dat (.str (sdS s.watch)), .dat (.bl (usedUp h s.many)), .ml [], .dat (.int (manyB h s.many)), .dat (intsD (if h.on then chB h s.change else anyC h)), .un, .un, .un, .un, .un, .un]) (ds_set 14 (de_ifG intsD (dt_val (de_fld (de_v 1) T.c_House T.n_House_on (hs_on _))) (fun _ => (de_call (ok_changes_behind T) (hr.mono (by decide)) (da_cons (de_v 1) (da_cons (de_v 6) da_nil)) ⟨_, _, rfl, ho, rfl⟩)) (fun _ => (de_call (ok_any_changes T) (hr.mono (by decide)) (da_cons (de_v 1) da_nil) ⟨_, rfl, ho, rfl⟩))) rfl sc_others.nd) ?_
        refine dss_one (ds_acc (pages r.up h.rows s.order false) pgD (fun p => ((if h.on then chB h s.change else anyC h).map fun one => ((.str "new" :: pgL p ++ [.int one] : Ev), behind h s one p)).map otD) [] (fun acc => [.dat (rdD r), .dat (hsD h), .dat (scD s), .dat (.bl s.told), .dat (.int s.order), .dat (.int s.slot), .dat (.int s.change), .dat (.int s.many), .dat .non, .dat (.str (sdS s.key)), .dat (.str (sdS s.watch)), .dat (.bl (usedUp h s.many)), .ml acc, .dat (.int (manyB h s.many)), .dat (intsD (if h.on then chB h s.change else anyC h)), .un, .un, .un, .un, .un, .un])
          (di_list (DR.mono (de_call (ok_pages_that_fit T) hr (da_cons (de_v 0) (da_cons (de_v 1) (da_cons (de_v 4) (da_cons de_bl da_nil)))) ⟨_, _, _, _, rfl, ho, rfl⟩) fun d e => ⟨_, e, rfl⟩)) rfl rfl (fun _ _ => otD_not _) (fun p hp acc hacc hlen => ⟨[15], dg_name 15 ?_ sc_others.nd⟩) (fun _ => ?_))
        · refine dss_one (ds_extend 12 (DL.fz (dl_lc (own := [(".0", 19), ("one", 16)]) (di_list (RL := fun z => z = (if h.on then chB h s.change else anyC h).map Dt.int) (DR.mono (de_v 14) fun d e => ⟨_, e, rfl⟩))
            (lc_all (if h.on then chB h s.change else anyC h) Dt.int (fun one => otD ((.str "new" :: pgL p ++ [.int one] : Ev), behind h s one p)) (by omega) (fun _ _ => rfl) (fun one => [.dat (rdD r), .dat (hsD h), .dat (scD s), .dat (.bl s.told), .dat (.int s.order), .dat (.int s.slot), .dat (.int s.change), .dat (.int s.many), .dat .non, .dat (.str (sdS s.key)), .dat (.str (sdS s.watch)), .dat (.bl (usedUp h s.many)), .ml acc, .dat (.int (manyB h s.many)), .dat (intsD (if h.on then chB h s.change else anyC h)), .dat (pgD p), .dat (.int one), .un, .un, .un, .un]) (L := [16]) (by simp) (fun a _ s Hb C cl fp => dg_name 16 rfl sc_others.nd)
              (fun a _ s1 Hb C cl fp => de_tp (ds := [.tup (.str "new" :: pgL p ++ [.int a]), scD (behind h s a p)]) (da_cons (de_tp (ds := .str "new" :: pgL p ++ [.int a]) (da_cons de_str (DA.mono (da_star (ds := pgL p) (DR.mono (de_v 15) fun d e => Or.inl e) (da_cons (de_v 16) da_nil)) (fun as e => by rw [e]; rfl))))
                (da_cons (de_tp (ds := scL (behind h s a p)) (da_cons (de_v 3) (da_cons (de_v 4) (da_cons (de_v 5) (da_cons (de_v 16) (da_cons (de_v 13) (DA.mono (da_star (ds := pgL p) (DR.mono (de_v 15) fun d e => Or.inl e) da_nil) (fun as e => by rw [e]; rfl)))))))) da_nil)))) sc_others.nd (blkOk_by (show blkC N_others (defScope s_others) _ _ = true by decide +kernel))))
            (fun l e => ⟨by rw [e, List.all_map, List.all_eq_true]; intro _ _; rfl, ?_, ⟨_, rfl, ?_⟩⟩) hacc)
          · have e1 : l.length = (((if h.on then chB h s.change else anyC h).map fun one => ((.str "new" :: pgL p ++ [.int one] : Ev), behind h s one p)).map otD).length := by rw [e, List.length_map, List.length_map, List.length_map]
            have e0 : (([] : List Dt)).length = 0 := rfl
            omega
          · have e1 : l = ((if h.on then chB h s.change else anyC h).map fun one => ((.str "new" :: pgL p ++ [.int one] : Ev), behind h s one p)).map otD := by rw [e, List.map_map]; rfl
            rw [e1]
            exact .eq (.eq (.eq (.eq (.eq (.eq (.eq (.eq (.eq (.eq (.eq (.eq (.eq (.eq (.eq (.un (.eq (.eq (.eq (.eq (.eq .nil))))))))))))))))))))
        · rw [List.nil_append, ← eo]
          exact .eq (.eq (.eq (.eq (.eq (.eq (.eq (.eq (.eq (.eq (.eq (.eq (.eq (.eq (.un (.eq (.eq (.eq (.eq (.eq (.eq .nil))))))))))))))))))))
      · have eo : (others h r.up s).map otD = [] := by
          unfold others
          rw [hw]
          show List.map otD (if (h.again && !usedUp h s.many) = true then _ else _) = _
          rw [if_neg (by rw [hc]; exact Bool.false_ne_true)] <;> rfl
        refine dss_nil ?_
        rw [eo]
        exact Wk.refl _
    | some u =>
      obtain ⟨hul, hur⟩ := wf.len u hw
      refine dss_ifr (dt_cmp (de_v 8) de_non od_isN) (fun hc => by rw [show isNon (woD (some u)) = false from rfl] at hc; cases hc) (fun _ => ?_)
      refine dss_thenW (ρ1 := [.dat (rdD r), .dat (hsD h), .dat (scD s), .dat (.bl s.told), .dat (.int s.order), .dat (.int s.slot), .dat (.int s.change), .dat (.int s.many), .dat (wD u), .dat (.str (sdS s.key)), .dat (.str (sdS s.watch)), .dat (.bl (usedUp h s.many)), .ml ((if !usedUp h s.many then (ways h r.up s u).flatMap fun e => (chB h s.change).map fun one => (e.1 ++ [.int one], behind h s one e.2) else []).map otD), .dat (.int (manyB h s.many)), .un, .un, .un, .un, .un, .un, .un])
        (ds_ifT (dt_not (dt_val (de_v 11))) (fun hc => ?_) (fun hc => ?_)) ?_
      · have eW : ((comeEv h.rows u).map fun p => (p.1, p.2, s.key, s.watch)).map spD ++ (splitEv h.low u s.key s.watch).map spD ++ (if h.joins ≠ .none then joinEv r.up h.rows h.joins s.order u s.key s.watch else []).map spD = (ways h r.up s u).map spD := by
          unfold ways
          rw [List.map_append, List.map_append]
        have l1 := comeEv_len (rows := h.rows) hul
        have l2 := splitEv_len (low := h.low) (key := s.key) (watch := s.watch) hul
        have l3 : (if h.joins ≠ .none then joinEv r.up h.rows h.joins s.order u s.key s.watch else []).length ≤ 2000 := by
          split
          · exact joinEv_len hrows
          · simp
        refine dss_then (ρ1 := [.dat (rdD r), .dat (hsD h), .dat (scD s), .dat (.bl s.told), .dat (.int s.order), .dat (.int s.slot), .dat (.int s.change), .dat (.int s.many), .dat (wD u), .dat (.str (sdS s.key)), .dat (.str (sdS s.watch)), .dat (.bl (usedUp h s.many)), .ml [], .dat (.int (manyB h s.many)), .un, .un, .un, .un, .ml (((comeEv h.rows u).map fun p => (p.1, p.2, s.key, s.watch)).map spD), .un, .un]) (ds_lcM 18 [(".0", 19), ("event", 17), ("behind", 20)] (di_list (RL := fun z => z = (comeEv h.rows u).map ceD) (DR.mono (de_call (ok_come_events T) (hr.mono (by decide)) (da_cons (de_v 1) (da_cons (de_v 2) da_nil)) ⟨_, _, u, rfl, hw, by omega, rfl⟩) fun d e => ⟨_, e, rfl⟩))
          (lc_all (comeEv h.rows u) ceD (fun p => spD (p.1, p.2, s.key, s.watch)) (by omega) (fun _ _ => rfl) (fun p => [.dat (rdD r), .dat (hsD h), .dat (scD s), .dat (.bl s.told), .dat (.int s.order), .dat (.int s.slot), .dat (.int s.change), .dat (.int s.many), .dat (wD u), .dat (.str (sdS s.key)), .dat (.str (sdS s.watch)), .dat (.bl (usedUp h s.many)), .ml [], .dat (.int (manyB h s.many)), .un, .un, .un, .dat (.tup p.1), .un, .un, .dat (wD p.2)]) (L := [17, 20]) (by simp) (fun a _ s Hb C cl fp => dg2 17 20 rfl sc_others.nd)
            (fun a _ s1 Hb C cl fp => de_tp (ds := .tup a.1 :: pgL (a.2, s.key, s.watch)) (da_cons (de_v 17) (da_cons (de_v 20) (da_cons (de_v 9) (da_cons (de_v 10) da_nil))))))
          (fun ds e => ⟨by rw [e, List.all_map, List.all_eq_true]; intro _ _; rfl, by rw [e, List.map_map]; rfl⟩) sc_others.nd (blkOk_by (show blkC N_others (defScope s_others) _ _ = true by decide +kernel))) ?_
        refine dss_then (ρ1 := [.dat (rdD r), .dat (hsD h), .dat (scD s), .dat (.bl s.told), .dat (.int s.order), .dat (.int s.slot), .dat (.int s.change), .dat (.int s.many), .dat (wD u), .dat (.str (sdS s.key)), .dat (.str (sdS s.watch)), .dat (.bl (usedUp h s.many)), .ml [], .dat (.int (manyB h s.many)), .un, .un, .un, .un, .ml (((comeEv h.rows u).map fun p => (p.1, p.2, s.key, s.watch)).map spD ++ (splitEv h.low u s.key s.watch).map spD), .un, .un]) (ds_extend 18 (ds := ((comeEv h.rows u).map fun p => (p.1, p.2, s.key, s.watch)).map spD) (RL := fun l => l = (splitEv h.low u s.key s.watch).map spD) (DR.mono (de_call (ok_split_events T) (hr.mono (by decide)) (da_cons (de_v 1) (da_cons (de_v 2) da_nil)) ⟨_, _, u, rfl, hw, by omega, rfl⟩) fun d e => ⟨_, e, rfl⟩) (fun l e => ⟨by rw [e]; exact spD_not _, by rw [e, List.length_map, List.length_map, List.length_map]; omega, by rw [e]; rfl⟩) (spD_not _)) ?_
        refine dss_then (ρ1 := [.dat (rdD r), .dat (hsD h), .dat (scD s), .dat (.bl s.told), .dat (.int s.order), .dat (.int s.slot), .dat (.int s.change), .dat (.int s.many), .dat (wD u), .dat (.str (sdS s.key)), .dat (.str (sdS s.watch)), .dat (.bl (usedUp h s.many)), .ml [], .dat (.int (manyB h s.many)), .un, .un, .un, .un, .ml ((ways h r.up s u).map spD), .un, .un]) (ds_extend 18 (ds := ((comeEv h.rows u).map fun p => (p.1, p.2, s.key, s.watch)).map spD ++ (splitEv h.low u s.key s.watch).map spD) (RL := fun l => l = (if h.joins ≠ .none then joinEv r.up h.rows h.joins s.order u s.key s.watch else []).map spD) (dr_ifT (dt_cmp (de_fld (de_v 1) T.c_House T.n_House_joins (hs_joins _)) de_str (od_neJl .none)) (fun hq => DE.as (de_call (ok_join_events T) hr (da_cons (de_v 0) (da_cons (de_v 1) (da_cons (de_v 2) da_nil))) ⟨_, _, _, u, rfl, ho, wf, hw, rfl⟩) ⟨_, rfl, by rw [if_pos (by simpa using hq)]⟩) (fun hq => DE.as (DL.fzE (dl_ls (ds := []) da_nil)) ⟨_, rfl, by rw [if_neg (by simpa using hq)]; rfl⟩))
          (fun l e => ⟨by rw [e]; exact spD_not _, by rw [e, List.length_append, List.length_map, List.length_map, List.length_map, List.length_map]; omega, by rw [e, eW]; rfl⟩) (by rw [List.all_append, spD_not, spD_not] <;> rfl)) ?_
        refine dss_fz 18 ?_
        have htot : ((ways h r.up s u).flatMap fun e => ((chB h s.change).map fun one => (e.1 ++ [.int one], behind h s one e.2)).map otD).length ≤ 2041 * 2 := by
          refine Nat.le_trans (flen _ 2 _ fun p _ => ?_) (Nat.mul_le_mul_right _ (ways_len hrows hul))
          rw [List.length_map, List.length_map]; exact chB_len _ _
        refine dss_one (ds_acc (ways h r.up s u) spD (fun e => ((chB h s.change).map fun one => (e.1 ++ [.int one], behind h s one e.2)).map otD) [] (fun acc => [.dat (rdD r), .dat (hsD h), .dat (scD s), .dat (.bl s.told), .dat (.int s.order), .dat (.int s.slot), .dat (.int s.change), .dat (.int s.many), .dat (wD u), .dat (.str (sdS s.key)), .dat (.str (sdS s.watch)), .dat (.bl (usedUp h s.many)), .ml acc, .dat (.int (manyB h s.many)), .un, .un, .un, .un, .dat (.lst ((ways h r.up s u).map spD)), .un, .un])
          (di_list (DR.mono (de_v 18) fun d e => ⟨_, e, rfl⟩)) rfl rfl (fun _ _ => otD_not _) (fun e he acc hacc hlen => ⟨[17, 15], dg_star 17 15 ?_ (by show (3 : Nat) ≤ 1000; omega) sc_others.nd⟩) (fun _ => ?_))
        · have he2 := ways_ev e he
          refine dss_one (ds_acc (chB h s.change) Dt.int (fun one => [otD (e.1 ++ [.int one], behind h s one e.2)]) acc (fun acc => [.dat (rdD r), .dat (hsD h), .dat (scD s), .dat (.bl s.told), .dat (.int s.order), .dat (.int s.slot), .dat (.int s.change), .dat (.int s.many), .dat (wD u), .dat (.str (sdS s.key)), .dat (.str (sdS s.watch)), .dat (.bl (usedUp h s.many)), .ml acc, .dat (.int (manyB h s.many)), .un, .dat (.lst (pgL e.2)), .un, .dat (.tup e.1), .dat (.lst ((ways h r.up s u).map spD)), .un, .un])
            (di_list (DR.mono (de_call (ok_changes_behind T) (hr.mono (by decide)) (da_cons (de_v 1) (da_cons (de_v 6) da_nil)) ⟨_, _, rfl, ho, rfl⟩) fun d e => ⟨_, e, rfl⟩)) rfl hacc (fun _ _ => rfl) (fun one hone acc2 hacc2 hlen2 => ⟨[16], dg_name 16 ?_ sc_others.nd⟩) (fun _ => ?_))
          · refine dss_one (ds_append 12 (R := fun d => d = otD (e.1 ++ [.int one], behind h s one e.2)) (de_tp (ds := [.tup (e.1 ++ [.int one]), scD (behind h s one e.2)]) (da_cons (de_tp (ds := e.1 ++ [.int one]) (DA.mono (da_star (ds := e.1) (DR.mono (de_v 17) fun d q => Or.inl q) (da_cons (de_v 16) da_nil)) (fun as q => by rw [q, List.map_append]; rfl)) (by rw [List.length_append]; simp; omega))
              (da_cons (de_tp (ds := scL (behind h s one e.2)) (da_cons (de_v 3) (da_cons (de_v 4) (da_cons (de_v 5) (da_cons (de_v 16) (da_cons (de_v 13) (DA.mono (da_star (ds := pgL e.2) (DR.mono (de_v 15) fun d q => Or.inr q) da_nil) (fun as q => by rw [q]; rfl)))))))) da_nil))) (fun d q => ⟨by rw [q]; rfl, ⟨_, rfl, ?_⟩⟩) ?_ hacc2)
            · rw [q]
              exact .eq (.eq (.eq (.eq (.eq (.eq (.eq (.eq (.eq (.eq (.eq (.eq (.eq (.eq (.eq (.eq (.un (.eq (.eq (.eq (.eq .nil))))))))))))))))))))
            · rw [fm1, List.length_map] at hlen2
              rw [List.length_map, List.length_map] at hlen
              have e0 : (([] : List Dt)).length = 0 := rfl
              have e1 : [otD (e.1 ++ [.int one], behind h s one e.2)].length = 1 := rfl
              omega
          · rw [fm1, List.map_map]
            exact ⟨_, rfl, .eq (.eq (.eq (.eq (.eq (.eq (.eq (.eq (.eq (.eq (.eq (.eq (.eq (.eq (.eq (.un (.eq (.un (.eq (.eq (.eq .nil))))))))))))))))))))⟩
        · rw [List.nil_append, if_pos hc, List.map_flatMap]
          exact .eq (.eq (.eq (.eq (.eq (.eq (.eq (.eq (.eq (.eq (.eq (.eq (.eq (.eq (.eq (.eq (.eq (.eq (.un (.eq (.eq .nil))))))))))))))))))))
      · refine dss_nil ?_
        rw [if_neg (by rw [hc]; exact Bool.false_ne_true)]
        exact Wk.refl _
      · have ef : (others h r.up s).map otD = (if !usedUp h s.many then (ways h r.up s u).flatMap fun e => (chB h s.change).map fun one => (e.1 ++ [.int one], behind h s one e.2) else []).map otD ++ (if h.joins ≠ .none then [(([.str "leave"] : Ev), gone s)] else []).map otD := by
          unfold others
          rw [hw]
          exact List.map_append
        have hlen : ((if !usedUp h s.many then (ways h r.up s u).flatMap fun e => (chB h s.change).map fun one => (e.1 ++ [.int one], behind h s one e.2) else []).map otD).length ≤ 2041 * 2 := by
          rw [List.length_map]
          split
          · refine Nat.le_trans (flen _ 2 _ fun p _ => ?_) (Nat.mul_le_mul_right _ (ways_len hrows hul))
            rw [List.length_map]; exact chB_len _ _
          · simp
        by_cases hj : h.joins = .none
        · refine dss_then (ρ1 := _) (ds_ifT (dt_cmp (de_fld (de_v 1) T.c_House T.n_House_joins (hs_joins _)) de_str (od_neJl .none)) (fun hq => absurd hj (by simpa using hq)) (fun _ => dss_nil rfl)) (dss_one (ds_retml 12 ?_))
          have e3 : (if h.joins ≠ Jn.none then [(([.str "leave"] : Ev), gone s)] else []) = [] := if_neg (fun q => q hj)
          show _ = Dt.lst _
          rw [ef, e3, List.map_nil, List.append_nil]
        · refine dss_then (ρ1 := [.dat (rdD r), .dat (hsD h), .dat (scD s), .dat (.bl s.told), .dat (.int s.order), .dat (.int s.slot), .dat (.int s.change), .dat (.int s.many), .dat (wD u), .dat (.str (sdS s.key)), .dat (.str (sdS s.watch)), .dat (.bl (usedUp h s.many)), .ml ((others h r.up s).map otD), .dat (.int (manyB h s.many)), .un, .un, .un, .un, .un, .un, .un]) (ds_ifT (dt_cmp (de_fld (de_v 1) T.c_House T.n_House_joins (hs_joins _)) de_str (od_neJl .none)) (fun _ => ?_) (fun hq => absurd (by simpa using hq) hj)) (dss_one (ds_retml 12 rfl))
          have e3 : (if h.joins ≠ Jn.none then [(([.str "leave"] : Ev), gone s)] else []) = [([.str "leave"], gone s)] := if_pos hj
          refine dss_one (ds_append 12 (ds := (if !usedUp h s.many then (ways h r.up s u).flatMap fun e => (chB h s.change).map fun one => (e.1 ++ [.int one], behind h s one e.2) else []).map otD) (R := fun d => d = otD ([.str "leave"], gone s)) (de_tp (ds := [.tup [.str "leave"], scD (gone s)]) (da_cons (de_tp (ds := [.str "leave"]) (da_cons de_str da_nil)) (da_cons (de_tp (ds := scL (gone s)) (da_cons (de_v 3) (da_cons (de_v 4) (da_cons (de_v 5) (da_cons (de_v 6) (da_cons (de_v 7) (da_cons de_non (da_cons (de_strSd .no) (da_cons (de_strSd .no) da_nil))))))))) da_nil))) (fun d q => ⟨by rw [q]; rfl, ?_⟩) (by omega) (otD_not _))
          show _ = _
          rw [ef, e3, q] <;> rfl
end

end DL
/-! Pn -/
set_option Elab.async false
set_option linter.all false
set_option maxRecDepth 100000
set_option maxHeartbeats 4000000
namespace DL
open PySem PySem.Spec PyProof.Rows L2
local macro_rules | `(tactic| walk_at "od") => `(tactic| first | exact od_eqS | exact od_neS | exact od_inT | exact od_notInT | exact od_inL | exact od_notInL | exact od_eqB | exact od_neB)
local macro_rules | `(tactic| walk_at "len") => `(tactic| first | omega | (simp only [List.length_append, List.length_cons, List.length_nil, List.length_take, List.length_drop]; omega))
section
variable {P : Program} {w : World} {K : PySem.W.Frag} {mg : Str → Option Value} {base : Heap}
def NxT (d : Dt) : Prop := ∃ rest g b, d = .tup [.tup (.str "next" :: rest), g, b]
def S_behind_told : List Sl → (Dt → Prop) → Prop := fun as R => ∃ (rest : List Dt) (told : Bool) (o : Int) (slot : Dt) (page : List Dt), as = [.dat (.tup (.str "next" :: rest)), .dat (.bl told), .dat (.int o), .dat slot, .dat (.tup page)] ∧ page.length ≤ 10 ∧ R = fun d => ∃ g b, d = .tup [.tup (.str "next" :: rest), g, b]
theorem ok_behind_told (T : Top w K mg) : Fn P w K mg base "behind_told" 1 P_behind_told S_behind_told := by
  refine Fn.mk1 (st := s_behind_told) T 27 rfl T.g_behind_told (fun fd F => fn_one F sc_behind_told ?_) (fun _ _ _ _ _ _ us hl => match us, hl with | [_, _, _, _, _], _ => rfl)
  rintro as R ⟨rest, told, o, slot, page, rfl, hp, rfl⟩
  refine ⟨⟨rfl, by simp [isMut]⟩, fun cdv A outer s' H S0 E hr => ?_⟩
  refine dss_ifr (DW.q (wt_and (dt_cmp (de_v 2) de_int od_eqI) fun _ => (wt_and1 (dt_val (de_v 1))))) (fun hc => ?_) (fun hc => ?_)
  · exact dss_one (ds_retE (de_tp (ds := [_, _, _]) (da_cons (de_v 0) (da_cons de_str (da_cons de_non da_nil)))) ⟨_, _, rfl⟩)
  refine dss_ifr (DW.q (wt_and (dt_cmp (de_v 2) de_int od_eqI) fun _ => (wt_and1 (dt_not (dt_val (de_v 1)))))) (fun hc => ?_) (fun hc => ?_)
  · exact dss_one (ds_retE (de_tp (ds := [_, _, _]) (da_cons (de_v 0) (da_cons de_str (da_cons de_non da_nil)))) ⟨_, _, rfl⟩)
  · refine dss_one (ds_retE (de_tp (ds := [_, _, _]) (da_cons (de_v 0) (da_cons de_non (da_cons (de_tp (ds := .bl (told || decide (o = 0)) :: .int o :: slot :: .int 0 :: .int 0 :: page) (da_cons (de_or (de_v 1) fun _ => (de_one (de_cmp (de_v 2) de_int od_eqI))) (da_cons (de_v 2) (da_cons (de_v 3) (da_cons de_int (da_cons de_int (DA.mono (da_star (ds := page) (DR.mono (de_v 4) fun d e => Or.inl e) da_nil) (fun as e => by rw [e, List.append_nil]))))))) ?_) da_nil)))) ⟨_, _, rfl⟩)
    simp; omega
def S_order_behind : List Sl → (Dt → Prop) → Prop := fun as R => ∃ (r : Rd') (u : List Lt) (k : Sd), as = [.dat (rdD r), .dat (wD u), .dat (.str (sdS k))] ∧ k ≠ .no ∧ (.b ∉ u → k = .inn → .k ∈ u ∧ .x ∈ u) ∧ R = fun d => ∃ i : Int, d = .int i
theorem ok_order_behind (T : Top w K mg) : Fn P w K mg base "order_behind" 2 P_order_behind S_order_behind := by
  refine Fn.mk1 (st := s_order_behind) T 28 rfl T.g_order_behind (fun fd F => fn_one F sc_order_behind ?_) (fun _ _ _ _ _ _ us hl => match us, hl with | [_, _, _], _ => rfl)
  rintro as R ⟨r, u, k, rfl, hk, hx, rfl⟩
  refine ⟨⟨rfl, by simp [isMut]⟩, fun cdv A outer s' H S0 E hr => ?_⟩
  refine dss_ifr (dt_cmp (de_strW [.b]) (de_v 1) od_inW) (fun hc => dss_one (ds_retE de_int ⟨_, rfl⟩)) (fun hc => ?_)
  have hb : .b ∉ u := of_decide_eq_false hc
  refine dss_then (ds_par 3 4 (da_cons (de_sides T (de_strSd .inn) (fun z => nomatch z)) (da_cons (de_sides T (de_v 2) hk) da_nil)) (fun as e => ⟨_, _, e, rfl⟩) sc_order_behind.nd) ?_
  refine dss_ifq (MA := fun z => ∃ i j : Int, z = [.dat (rdD r), .dat (wD u), .dat (.str (sdS k)), .dat (.int i), .dat (.int j)]) (MB := fun z => ∃ i j : Int, z = [.dat (rdD r), .dat (wD u), .dat (.str (sdS k)), .dat (.int i), .dat (.int j)]) (dt_cmp (de_v 2) (de_strSd .inn) od_eqSd) (fun hq => ?_) (fun _ => dss_nil ⟨_, _, rfl⟩) (fun _ z hz => ?_) (fun _ z hz => ?_)
  · obtain ⟨m1, m2⟩ := hx hb (of_decide_eq_true hq.symm)
    obtain ⟨n1, e1⟩ := Option.isSome_iff_exists.mp (place_some m1 (v := [.k]) (by decide))
    obtain ⟨n2, e2⟩ := Option.isSome_iff_exists.mp (place_some m2 (v := [.x]) (by decide))
    exact dss_one (ds_par 3 4 (da_cons (DE.eq (de_call (ok_place_of T) hr (da_cons (de_v 1) (da_cons (de_strW [.k]) da_nil)) ⟨_, _, rfl, rfl⟩) (d' := .int (n1 : Int)) (by rw [e1]; rfl)) (da_cons (DE.eq (de_call (ok_place_of T) hr (da_cons (de_v 1) (da_cons (de_strW [.x]) da_nil)) ⟨_, _, rfl, rfl⟩) (d' := .int (n2 : Int)) (by rw [e2]; rfl)) da_nil)) (fun as e => ⟨_, _, e, ⟨_, _, rfl⟩⟩) sc_order_behind.nd)
  all_goals
    obtain ⟨i, j, rfl⟩ := hz
    exact dss_one (ds_ret (DR.mono (de_ifG Dt.int (dt_cmp (de_cmp (de_v 3) (de_v 4) od_lt) (de_cmp (de_fld (de_v 0) T.c_Reader T.n_Reader_way (rd_way _)) de_str od_way) od_eqB) (fun _ => de_neg de_int) (fun _ => de_int)) fun d e => ⟨_, e⟩))
def S_step_over : List Sl → (Dt → Prop) → Prop := fun as R => ∃ (told : Bool), as = [.dat (.bl told)] ∧ R = NxT
theorem ok_step_over (T : Top w K mg) : Fn P w K mg base "step_over" 1 P_step_over S_step_over := by
  refine Fn.mk1 (st := s_step_over) T 31 rfl T.g_step_over (fun fd F => fn_one F sc_step_over ?_) (fun _ _ _ _ _ _ us hl => match us, hl with | [_], _ => rfl)
  rintro as R ⟨told, rfl, rfl⟩
  refine ⟨⟨rfl, by simp [isMut]⟩, fun cdv A outer s' H S0 E hr => ?_⟩
  exact dss_one (ds_retE (de_tp (ds := [_, _, _]) (da_cons (de_tp (ds := [_, _]) (da_cons de_str (da_cons de_str da_nil))) (da_cons (de_if (dt_val (de_v 0)) (fun _ => de_non) (fun _ => de_str)) (da_cons de_non da_nil)))) ⟨_, _, _, rfl⟩)
end

end DL
/-! Po -/
set_option Elab.async false
set_option linter.all false
set_option maxRecDepth 100000
set_option maxHeartbeats 4000000
namespace DL
open PySem PySem.Spec PyProof.Rows L2
local macro_rules | `(tactic| walk_at "od") => `(tactic| first | exact od_eqS | exact od_neS | exact od_inT | exact od_notInT | exact od_inL | exact od_notInL | exact od_eqB | exact od_neB)
local macro_rules | `(tactic| walk_at "len") => `(tactic| first | omega | (simp only [List.length_append, List.length_cons, List.length_nil, List.length_take, List.length_drop]; omega))
section
variable {P : Program} {w : World} {K : PySem.W.Frag} {mg : Str → Option Value} {base : Heap}
theorem rows_mem {u : List Lt} {c : Lt} (hc : c ≠ .r) (h : c ∈ u) : c ∈ rowsOf u := List.mem_filter.mpr ⟨h, by simpa using hc⟩
theorem set_mem {ls : List Lt} {n : Nat} {v c : Lt} (hn : n < ls.length) (hne : ls[n] ≠ c) (h : c ∈ ls) : c ∈ ls.set n v := by
  obtain ⟨m, hm, rfl⟩ := List.getElem_of_mem h
  have hmn : n ≠ m := fun z => by subst z; exact hne rfl
  have : (ls.set n v)[m]? = some ls[m] := by rw [List.getElem?_set_ne hmn]; simp [hm]
  exact List.mem_of_getElem? this
theorem room1 {k : Nat} {A : Around} (hr : Room k A) : A.units + 1 < cLine := by have := hr.units; omega
theorem da_pre {X : Cx} {ρ : List Sl} {e : Expr} {es : List Expr} {d : Dt} {S S' : List Sl → Prop} (hr : DA X es ρ S) (h : DE X e ρ d) (k : ∀ as, S as → S' (.dat d :: as)) (hs : starEach (e :: es) X.env = (false, eval e X.env) :: starEach es X.env := by rfl) : DA X (e :: es) ρ S' :=
  dar_cons h hr (fun z as e1 e2 => by rw [e1]; exact k as e2) hs
def S_step_within : List Sl → (Dt → Prop) → Prop := fun as R => ∃ (r : Rd') (s : Sc) (u : List Lt) (n : Nat), as = [.dat (rdD r), .dat (scD s), .dat (.int (n : Int))] ∧ s.word = some u ∧ u.length ≤ 1000 ∧ n < (rowsOf u).length ∧ s.watch ≠ .no ∧ (s.watch = .inn → .x ∈ u ∨ .b ∈ u) ∧ R = NxT
theorem ok_step_within (T : Top w K mg) : Fn P w K mg base "step_within" 3 P_step_within S_step_within := by
  refine Fn.mk1 (st := s_step_within) T 29 rfl T.g_step_within (fun fd F => fn_one F sc_step_within ?_) (fun _ _ _ _ _ _ us hl => match us, hl with | [_, _, _], _ => rfl)
  rintro as R ⟨r, s, u, n, rfl, hu, hl, hn, hw, hx, rfl⟩
  refine ⟨⟨rfl, by simp [isMut]⟩, fun cdv A outer s' H S0 E hr => ?_⟩
  have hrl := rows_le u
  obtain ⟨ls, hls⟩ : ∃ ls, (rowsOf u).map swapL = ls := ⟨_, rfl⟩
  have hlm : ls.length = (rowsOf u).length := by rw [← hls, List.length_map]
  have hnl : n < ls.length := by omega
  have hget : (ls.map lD)[n]? = some (lD ls[n]) := by simp [hnl]
  refine dss_then (ρ1 := [.dat (rdD r), .dat (scD s), .dat (.int (n : Int)), .ml (ls.map lD), .un, .un, .un]) (ds_lcM 3 [(".0", 5), ("letter", 6)] (di_word (de_call (ok_rows_of T) (hr.mono (by decide)) (da_cons (de_scw (de_v 1) hu) da_nil) ⟨_, rfl, by omega, rfl⟩))
    (lc_all (rowsOf u) lD (fun c => lD (swapL c)) (by omega) (fun _ _ => rfl) (fun c => [.dat (rdD r), .dat (scD s), .dat (.int (n : Int)), .un, .un, .un, .dat (lD c)]) (L := [6]) (by simp) (fun a _ s Hb C cl fp => dg_name 6 rfl sc_step_within.nd)
      (fun a _ s Hb C cl fp => de_getl (room1 hr) sw_disp (de_v 6) (de_v 6) ⟨rfl, rfl, rfl, rfl⟩))
    (fun ds e => ⟨by rw [e, List.all_map, List.all_eq_true]; intro _ _; rfl, by rw [e, ← hls, List.map_map]; rfl⟩) sc_step_within.nd (blkOk_by (show blkC N_step_within (defScope s_step_within) _ _ = true by decide +kernel))) ?_
  refine dss_then (ρ1 := [.dat (rdD r), .dat (scD s), .dat (.int (n : Int)), .ml ((ls.set n (if decide ([ls[n]] = [Lt.x]) = true then .b else .k)).map lD), .un, .un, .un]) (ds_setix 3 n (ds := ls.map lD) (g := lD (if decide ([ls[n]] = [Lt.x]) = true then .b else .k)) (de_ifG lD (dt_cmp (de_ixml 3 n (de_v 2) hget rfl) (de_strW [.x]) od_eqW) (fun _ => (de_strW [.b])) (fun _ => (de_strW [.k]))) (de_v 2) rfl (by rw [List.length_map]; exact hnl) rfl (by rw [List.map_set]; rfl) (by rw [List.all_map, List.all_eq_true]; intro _ _; rfl)) ?_
  refine dss_fz 3 ?_
  generalize hv : (if decide ([ls[n]] = [Lt.x]) = true then Lt.b else Lt.k) = v
  refine dss_then (ρ1 := [.dat (rdD r), .dat (scD s), .dat (.int (n : Int)), .dat (lsD (ls.set n v)), .dat (wD (ls.set n v)), .un, .un]) (ds_set 4 (de_joinL (de_v 3) (by rw [List.length_set]; omega)) rfl sc_step_within.nd) ?_
  refine dss_one (ds_ret (DR.mono (dr_call (ok_behind_told T) (hr.mono (by decide)) (Sa := fun as => ∃ i : Int, as = [.dat (.tup [.str "next"]), .dat (.bl s.told), .dat (.int i), .dat (.int (n : Int)), .dat (.tup [wD (ls.set n v), .str (sdS .inn), .str (sdS s.watch)])]) ?_
    (fun as ⟨i, e⟩ => ⟨[], _, _, _, _, e, by show (3 : Nat) ≤ 10; omega, rfl⟩)) fun d ⟨g, b, e⟩ => ⟨_, g, b, e⟩))
  refine da_pre (S := fun as => ∃ i : Int, as = [.dat (.bl s.told), .dat (.int i), .dat (.int (n : Int)), .dat (.tup [wD (ls.set n v), .str (sdS .inn), .str (sdS s.watch)])]) ?_ (de_tp (ds := [_]) (da_cons de_str da_nil)) (fun as ⟨i, e⟩ => ⟨i, by rw [e]⟩)
  refine da_pre (S := fun as => ∃ i : Int, as = [.dat (.int i), .dat (.int (n : Int)), .dat (.tup [wD (ls.set n v), .str (sdS .inn), .str (sdS s.watch)])]) ?_ (de_sc (n := 0) (de_v 1)) (fun as ⟨i, e⟩ => ⟨i, by rw [e]⟩)
  refine dar_cons (dr_call1 (ok_order_behind T) hr (da_cons (de_v 0) (da_cons (de_v 4) (da_cons (de_sc (n := 7) (de_v 1)) da_nil))) ⟨_, _, _, rfl, hw, fun hb hk => ?_, rfl⟩) (da_cons (de_v 2) (da_cons (de_tp (ds := [_, _, _]) (da_cons (de_v 4) (da_cons (de_strSd .inn) (da_cons (de_sc (n := 7) (de_v 1)) da_nil)))) da_nil)) (fun d as ⟨i, e1⟩ e2 => ⟨i, by rw [e1, e2]⟩)
  have hnx : ls[n] ≠ .x := fun z => by
    rw [z] at hv
    have hv2 : v = .b := hv.symm
    refine hb ?_
    rw [hv2]
    exact List.mem_of_getElem? (List.getElem?_set_self hnl)
  have hvk : v = .k := by
    rw [if_neg (by simpa using hnx)] at hv
    exact hv.symm
  refine ⟨?_, ?_⟩
  · rw [hvk]
    exact List.mem_of_getElem? (List.getElem?_set_self hnl)
  · refine set_mem hnl hnx ?_
    rw [← hls]
    rcases hx hk with q | q
    · exact List.mem_map.mpr ⟨.x, rows_mem (fun z => nomatch z) q, rfl⟩
    · exact List.mem_map.mpr ⟨.b, rows_mem (fun z => nomatch z) q, rfl⟩
end

end DL
/-! Pq -/
set_option Elab.async false
set_option linter.all false
set_option maxRecDepth 100000
set_option maxHeartbeats 4000000
namespace DL
open PySem PySem.Spec PyProof.Rows L2
local macro_rules | `(tactic| walk_at "od") => `(tactic| first | exact od_eqS | exact od_neS | exact od_inT | exact od_notInT | exact od_inL | exact od_notInL | exact od_eqB | exact od_neB)
local macro_rules | `(tactic| walk_at "len") => `(tactic| first | omega | (simp only [List.length_append, List.length_cons, List.length_nil, List.length_take, List.length_drop]; omega))
section
variable {P : Program} {w : World} {K : PySem.W.Frag} {mg : Str → Option Value} {base : Heap}
/-- a step to a row of some page -/
def NxW (d : Dt) : Prop := ∃ (u : List Lt) (k : Sd) (g b : Dt), d = .tup [.tup [.str "next", wD u, .str (sdS k)], g, b]
theorem NxW.t {d : Dt} (h : NxW d) : NxT d := by
  obtain ⟨u, k, g, b, rfl⟩ := h
  exact ⟨_, g, b, rfl⟩
theorem NxT.ni {d : Dt} (h : NxT d) : notInt d = true := by
  obtain ⟨_, _, _, rfl⟩ := h
  rfl
theorem od_eqNI {X : Cx} {n : Option Nat} {i : Int} : OD X (compareOp .Eq) (optD n) (.int i) (fun z => z = .bl (decide (vOf (optD n) = .int i))) := by
  cases n with
  | none => exact od_eq rfl rfl rfl
  | some m => exact od_eq rfl rfl rfl
def S_steps_out : List Sl → (Dt → Prop) → Prop := fun as R => ∃ (r : Rd') (h : Hs) (told : Bool) (o : Int) (first : Bool), as = [.dat (rdD r), .dat (hsD h), .dat (.bl told), .dat (.int o), .dat (.bl first)] ∧ HOk h ∧ R = fun d => ∃ l, d = .lst l ∧ l.length ≤ 4500 ∧ ∀ t ∈ l, NxW t
theorem dotted_word' {ls : List Lt} {m : Nat} {u : List Lt} (h : u ∈ dotted ls m) (hl : ls.length ≤ 2) (hm : m ≤ 4) : u.length ≤ 14 := dotted_word h hl hm
theorem pages_word {up : Bool} {rows : Nat} {o : Int} {told : Bool} (hr : rows ≤ 4) {p : Pg} (h : p ∈ pages up rows o told) : p.1.length ≤ 14 := by
  unfold pages at h
  obtain ⟨k, _, h⟩ := List.mem_flatMap.mp h
  obtain ⟨w, _, h⟩ := List.mem_flatMap.mp h
  unfold pgsFor at h
  obtain ⟨ls, hls, h⟩ := List.mem_flatMap.mp h
  split at h
  · obtain ⟨u, hu, rfl⟩ := List.mem_map.mp h
    exact dotted_word hu (letters_len ls hls) hr
  · cases h
theorem ok_steps_out (T : Top w K mg) : Fn P w K mg base "steps_out" 4 P_steps_out S_steps_out := by
  refine Fn.mk1 (st := s_steps_out) T 30 rfl T.g_steps_out (fun fd F => fn_one F sc_steps_out ?_) (fun _ _ _ _ _ _ us hl => match us, hl with | [_, _, _, _, _], _ => rfl)
  rintro as R ⟨r, h, told, o, first, rfl, ho, rfl⟩
  refine ⟨⟨rfl, by simp [isMut]⟩, fun cdv A outer s' H S0 E hr => ?_⟩
  have hrows : h.rows ≤ 4 := by have := ho.r3; omega
  refine dss_then (ρ1 := [.dat (rdD r), .dat (hsD h), .dat (.bl told), .dat (.int o), .dat (.bl first), .ml [], .un, .un, .un, .un]) (ds_setL 5 (dl_ls (ds := []) da_nil) (fun ds e => ⟨by rw [e]; rfl, by rw [e]; rfl⟩) sc_steps_out.nd) ?_
  refine dss_cons (M := fun z => ∃ l : List Dt, z = [.dat (rdD r), .dat (hsD h), .dat (.bl told), .dat (.int o), .dat (.bl first), .ml l, .un, .un, .un, .un] ∧ l.length ≤ 4500 ∧ ∀ t ∈ l, NxW t) (ds_for (di_list (RL := fun z => z = (pages r.up h.rows o true).map pgD) (DR.mono (de_call (ok_pages_that_fit T) hr (da_cons (de_v 0) (da_cons (de_v 1) (da_cons (de_v 3) (da_cons de_bl da_nil)))) ⟨_, _, _, _, rfl, ho, rfl⟩) fun d e => ⟨_, e, rfl⟩)) fun ds hds => ⟨fun i z => ∃ l : List Dt, z = [.dat (rdD r), .dat (hsD h), .dat (.bl told), .dat (.int o), .dat (.bl first), .ml l, .un, .un, .un, .un] ∧ l.length ≤ i ∧ ∀ t ∈ l, NxW t, ⟨_, ⟨[], rfl, Nat.le_refl 0, fun _ q => nomatch q⟩, Wk.refl _⟩, ?_, ?_⟩) ?_
  · rintro i d ρi hd ⟨l, rfl, hl, hn⟩
    subst hds
    rw [List.getElem?_map] at hd
    cases hp : (pages r.up h.rows o true)[i]? with
    | none => rw [hp] at hd; cases hd
    | some p =>
      rw [hp] at hd
      have ed : pgD p = d := by simpa using hd
      subst ed
      have hpw := pages_word hrows (List.mem_of_getElem? hp)
      have hil : i < (pages r.up h.rows o true).length := (List.getElem?_eq_some_iff.mp hp).1
      have hpl := pages_len (up := r.up) (o := o) (told := true) hrows
      have hni : l.all notInt = true := List.all_eq_true.mpr fun t ht => (hn t ht).t.ni
      refine ⟨[6, 7, 8], dg3 6 7 8 ?_ sc_steps_out.nd⟩
      refine dss_then (ds_set 9 (de_call (ok_place_of T) (hr.mono (by decide)) (da_cons (de_v 6) (da_cons (de_strW [.k, .b]) da_nil)) ⟨_, _, rfl, rfl⟩) rfl sc_steps_out.nd) ?_
      refine dss_one (ds_ifT (DW.q (wt_or (dt_not (dt_val (de_v 4))) fun _ => (wt_or1 (dt_cmp (de_v 9) (de_ifG Dt.int (dt_cmp (de_fld (de_v 0) T.c_Reader T.n_Reader_way (rd_way _)) de_str od_way) (fun _ => de_int) (fun _ => (de_bin (de_lenW T.f_len (de_v 6) (by omega)) de_int od_sub))) od_eqNI)))) (fun hc => ?_) (fun hc => ?_))
      · refine dss_one (ds_append 5 (R := NxW) (DR.mono (dr_call1 (ok_behind_told T) (hr.mono (by decide)) (da_cons (de_tp (ds := [.str "next", wD p.1, .str (sdS p.2.2)]) (da_cons de_str (da_cons (de_v 6) (da_cons (de_v 8) da_nil)))) (da_cons (de_v 2) (da_cons (de_v 3) (da_cons (de_v 9) (da_cons (de_tp (ds := [_, _, _]) (da_cons (de_v 6) (da_cons (de_v 7) (da_cons (de_v 8) da_nil)))) da_nil))))) ⟨_, _, _, _, _, rfl, by show (3 : Nat) ≤ 10; omega, rfl⟩) fun d ⟨g, b, e⟩ => ⟨_, _, g, b, e⟩) (fun d hd => ⟨hd.t.ni, ⟨_, ⟨l ++ [d], rfl, by rw [List.length_append]; simp; exact hl, fun t ht => ?_⟩, .eq (.eq (.eq (.eq (.eq (.eq (.un (.un (.un (.un .nil)))))))))⟩⟩) (by omega) hni)
        rcases List.mem_append.mp ht with q | q
        · exact hn t q
        · rw [List.mem_singleton.mp q]; exact hd
      · exact dss_nil ⟨_, ⟨l, rfl, by omega, hn⟩, .eq (.eq (.eq (.eq (.eq (.eq (.un (.un (.un (.un .nil)))))))))⟩
  · rintro z ⟨l, rfl, hl, hn⟩
    subst hds
    rw [List.length_map] at hl
    exact ⟨l, rfl, Nat.le_trans hl (pages_len hrows), hn⟩
  · rintro z ⟨l, rfl, hl, hn⟩
    exact dss_one (ds_retml 5 ⟨l, rfl, hl, hn⟩)
def S_steps_ahead : List Sl → (List Dt → Prop) → Prop := fun as R => ∃ (r : Rd') (h : Hs) (told first : Bool), as = [.dat (rdD r), .dat (hsD h), .dat (.bl told), .dat (.bl first)] ∧ HOk h ∧ R = fun l => l.length ≤ 9001 ∧ ∀ t ∈ l, NxW t
theorem ok_steps_ahead (T : Top w K mg) : FnL P w K mg base "steps_ahead" 5 P_steps_ahead S_steps_ahead := by
  refine FnL.mk1 (st := s_steps_ahead) T 32 rfl T.g_steps_ahead (fun fd F => fn_oneL F sc_steps_ahead ?_) (fun _ _ _ _ _ _ us hl => match us, hl with | [_, _, _, _], _ => rfl)
  rintro as R ⟨r, h, told, first, rfl, ho, rfl⟩
  refine ⟨⟨rfl, by simp [isMut]⟩, fun cdv A outer s' H S0 E hr => ?_⟩
  refine dss_one (ds_retL (DL.mono (dl_cat (RA := fun l => l.length ≤ 4500 ∧ ∀ t ∈ l, NxW t) (RB := fun l => l.length ≤ 4500 ∧ ∀ t ∈ l, NxW t) (RL := fun l => l.length ≤ 9001 ∧ ∀ t ∈ l, NxW t) (dr_call1 (ok_steps_out T) hr (da_cons (de_v 0) (da_cons (de_v 1) (da_cons (de_v 2) (da_cons de_int (da_cons (de_v 3) da_nil))))) ⟨_, _, _, _, _, rfl, ho, rfl⟩) (dr_call1 (ok_steps_out T) hr (da_cons (de_v 0) (da_cons (de_v 1) (da_cons (de_v 2) (da_cons (de_neg de_int) (da_cons (de_v 3) da_nil))))) ⟨_, _, _, _, _, rfl, ho, rfl⟩) (fun x y ⟨x1, x2⟩ ⟨y1, y2⟩ => ⟨?_, ?_, fun t ht => ?_⟩)) fun l q => ⟨l, rfl, q⟩))
  · rw [sizeLine_eq]; omega
  · rw [List.length_append]; omega
  · rcases List.mem_append.mp ht with q | q
    · exact x2 t q
    · exact y2 t q
def S_steps_beyond : List Sl → (List Dt → Prop) → Prop := fun as R => ∃ (r : Rd') (h : Hs) (told first : Bool), as = [.dat (rdD r), .dat (hsD h), .dat (.bl told), .dat (.bl first)] ∧ HOk h ∧ R = fun l => l.length ≤ 9001 ∧ ∀ t ∈ l, NxT t
theorem ok_steps_beyond (T : Top w K mg) : FnL P w K mg base "steps_beyond" 5 P_steps_beyond S_steps_beyond := by
  refine FnL.mk1 (st := s_steps_beyond) T 33 rfl T.g_steps_beyond (fun fd F => fn_oneL F sc_steps_beyond ?_) (fun _ _ _ _ _ _ us hl => match us, hl with | [_, _, _, _], _ => rfl)
  rintro as R ⟨r, h, told, first, rfl, ho, rfl⟩
  refine ⟨⟨rfl, by simp [isMut]⟩, fun cdv A outer s' H S0 E hr => ?_⟩
  refine dss_one (ds_retL (dl_lst (RL := fun l => ∃ ds, Dt.lst l = .lst ds ∧ ds.length ≤ 9001 ∧ ∀ t ∈ ds, NxT t) (dar_star (Rl := fun l => l.length ≤ 4500 ∧ ∀ t ∈ l, NxW t) (S := fun as => ∃ d, as = [.dat d] ∧ NxT d) (DR.mono (dr_call1 (ok_steps_out T) hr (da_cons (de_v 0) (da_cons (de_v 1) (da_cons (de_v 2) (da_cons de_int (da_cons (de_v 3) da_nil))))) ⟨_, _, _, _, _, rfl, ho, rfl⟩) fun d ⟨l, e, q⟩ => ⟨l, Or.inr e, q⟩)
    (dar_cons (dr_call1 (ok_step_over T) (hr.mono (by decide)) (da_cons (de_v 2) da_nil) ⟨_, rfl, rfl⟩) da_nil fun d as hd e => ⟨d, by rw [e], hd⟩) (fun ds as ⟨q1, q2⟩ ⟨d, e, hd⟩ => ⟨ds ++ [d], by rw [e, List.map_append]; rfl, by rw [List.length_append]; simp; omega, ⟨_, rfl, by rw [List.length_append]; simp; omega, fun t ht => ?_⟩⟩))))
  rcases List.mem_append.mp ht with q | q
  · exact (q2 t q).t
  · rw [List.mem_singleton.mp q]; exact hd
end

end DL
/-! Pr -/
set_option Elab.async false
set_option linter.all false
set_option maxRecDepth 100000
set_option maxHeartbeats 4000000
namespace DL
open PySem PySem.Spec PyProof.Rows L2
local macro_rules | `(tactic| walk_at "od") => `(tactic| first | exact od_eqS | exact od_neS | exact od_inT | exact od_notInT | exact od_inL | exact od_notInL | exact od_eqB | exact od_neB)
local macro_rules | `(tactic| walk_at "len") => `(tactic| first | omega | (simp only [List.length_append, List.length_cons, List.length_nil, List.length_take, List.length_drop]; omega))
section
variable {P : Program} {w : World} {K : PySem.W.Frag} {mg : Str → Option Value} {base : Heap}
theorem WF.aok {h : Hs} {s : Sc} (wf : WF h s) : AOk s := by
  refine ⟨fun u hu => by have := (wf.len u hu).1; omega, fun hk => ?_⟩
  cases hw : s.word with
  | none => have := (wf.no hw).1; rw [hk] at this; cases this
  | some u =>
    refine ⟨u, rfl, ?_⟩
    have h1 := (wf.key u hw).2 hk
    by_cases ho : s.order = 0
    · rw [if_pos ho] at h1
      exact place_some h1 (by decide)
    · rw [if_neg ho] at h1
      rcases h1 with q | q
      · exact place_some q (by decide)
      · exact place_some q (by decide)
structure RdOk (r : Rd') : Prop where
  rows : r.rows.length ≤ 1000
  tests : ∀ q ∈ r.rows, q.1.tests.length ≤ 1000
theorem OD.eqk {X : Cx} {f : Value → Value → Sem Value} {d e : Dt} {k k' : Bool} (h : OD X f d e (fun z => z = .bl k)) (q : k = k') : OD X f d e (fun z => z = .bl k') := by rw [← q]; exact h
def S_steps : List Sl → (List Dt → Prop) → Prop := fun as R => ∃ (r : Rd') (h : Hs) (s : Sc), as = [.dat (rdD r), .dat (hsD h), .dat (scD s), .dat W4D] ∧ RdOk r ∧ HOk h ∧ WF h s ∧ R = fun l => l.length ≤ 9001 ∧ ∀ t ∈ l, NxT t
theorem room64 {k : Nat} {A : Around} (hr : Room k A) : A.units + 64 < cLine := hr.units
theorem ok_steps (T : Top w K mg) : FnL P w K mg base "steps" 6 P_steps S_steps := by
  refine FnL.mk1 (st := s_steps) T 34 rfl T.g_steps (fun fd F => fn_oneL F sc_steps ?_) (fun _ _ _ _ _ _ us hl => match us, hl with | [_, _, _, _], _ => rfl)
  rintro as R ⟨r, h, s, rfl, hrd, ho, wf, rfl⟩
  refine ⟨⟨rfl, by simp [isMut]⟩, fun cdv A outer s' H S0 E hr => ?_⟩
  have hne : ∀ q, NxT q → notInt q = true := fun q => NxT.ni
  refine dss_ifr (dt_cmp (de_v 2) (de_gtup T.g_BEGIN T.t_BEGIN) (od_eqTnil (ds := scL s) (room64 hr) (sc_plain s))) (fun hc => by cases hc) (fun _ => ?_)
  refine dss_cons (M := fun z => ∃ d, z = [.dat (rdD r), .dat (hsD h), .dat (scD s), .dat W4D, .dat d, .un, .un, .un, .un, .un, .un, .un, .un, .un, .un, .un] ∧ (d = .non ∨ ∃ (i : Int) (z : Dt), d = .tup [.int i, z] ∧ AimTo s z)) (ds_setR 4 (dr_call1 (ok_aim_at T) (hr.mono (by decide)) (da_cons (de_v 0) (da_cons (de_v 2) (da_cons (de_v 3) da_nil))) ⟨_, _, rfl, wf.aok, hrd.rows, hrd.tests, rfl⟩) (fun d hd => ⟨d, rfl, hd⟩) sc_steps.nd) ?_
  rintro z ⟨d, rfl, hd⟩
  rcases hd with rfl | ⟨i, z, rfl, hz⟩
  · refine dss_ifr (dt_cmp (de_v 4) de_non od_isN) (fun _ => ?_) (fun hc => by cases hc)
    refine dss_one (ds_retL (DL.mono (dl_ls (ds := [.tup [.tup [.str "next"], .str "halted", .non]]) (da_cons (de_tp (ds := [_, _, _]) (da_cons (de_tp (ds := [_]) (da_cons de_str da_nil)) (da_cons de_str (da_cons de_non da_nil)))) da_nil)) fun l e => ⟨l, rfl, by rw [e]; simp, fun t ht => ?_⟩))
    rw [e] at ht
    rw [List.mem_singleton.mp ht]
    exact ⟨_, _, _, rfl⟩
  · refine dss_ifr (dt_cmp (de_v 4) de_non od_isN) (fun hc => by cases hc) (fun _ => ?_)
    have four : ∀ wh nu : Dt, DS (cxOf CX0 P w K mg base N_steps "steps" (defScope s_steps) (He.ga K "steps") cdv A outer s' H E).nox S0 H ((defBody s_steps).getD 5 (.Pass ⟨0, 0, 0, 0⟩)) [.dat (rdD r), .dat (hsD h), .dat (scD s), .dat W4D, .dat (.tup [.int i, z]), .dat wh, .dat nu, .un, .un, .un, .un, .un, .un, .un, .un, .un] { nx := fun z' => z' = [.dat (rdD r), .dat (hsD h), .dat (scD s), .dat W4D, .dat (.tup [.int i, z]), .dat wh, .dat nu, .dat (.bl s.told), .dat (.int s.order), .dat (woD s.word), .dat (.str (sdS s.watch)), .un, .un, .un, .un, .un], rt := fun d => ∃ ds, d = .lst ds ∧ ds.length ≤ 9001 ∧ ∀ t ∈ ds, NxT t, fr := true } := fun wh nu =>
      ds_asg (de_tp (ds := [.bl s.told, .int s.order, woD s.word, .str (sdS s.watch)]) (da_cons (de_sc (n := 0) (de_v 2)) (da_cons (de_sc (n := 1) (de_v 2)) (da_cons (de_sc (n := 5) (de_v 2)) (da_cons (de_sc (n := 7) (de_v 2)) da_nil))))) (dg_tup (dgs_cons (L' := [8, 9, 10]) (M' := fun z => z = _) (dg_name 7 rfl sc_steps.nd) (fun _ e => by subst e; exact dgs_cons (L' := [9, 10]) (M' := fun z => z = _) (dg_name 8 rfl sc_steps.nd) (fun _ e => by subst e; exact dgs_cons (L' := [10]) (M' := fun z => z = _) (dg_name 9 rfl sc_steps.nd) (fun _ e => by subst e; exact dgs_cons (L' := []) (M' := fun z => z = _) (dg_name 10 rfl sc_steps.nd) (fun _ e => by subst e; exact dgs_nil rfl))))))
    rcases hz with rfl | rfl | ⟨u, n, hu, hn, rfl⟩
    · refine dss_then (ρ1 := [.dat (rdD r), .dat (hsD h), .dat (scD s), .dat W4D, .dat (.tup [.int i, beyD]), .dat (.str "beyond"), .dat (.str ""), .un, .un, .un, .un, .un, .un, .un, .un, .un]) (ds_asg (d := beyD) (de_ix (de_v 4) de_int (id_tup 1)) (dg2 5 6 rfl sc_steps.nd)) ?_
      refine dss_ifU (k := false) (de_v 5) (OD.eqk od_eqS (by decide +kernel)) (fun hc => by cases hc) (fun _ => ?_)
      refine dsst_then (four _ _) ?_
      refine dsst_ifr (DT.eq (dt_cmp (de_v 5) de_str od_eqS) (d' := false) (by decide +kernel)) (fun hc => by cases hc) (fun _ => ?_)
      refine dsst_ifr (dt_cmp (de_v 8) (de_neg de_int) od_neI) (fun hc => ?_) (fun hc => ?_)
      · exact dss_one (ds_retL (DL.mono (dl_call1 (ok_steps_beyond T) hr (da_cons (de_v 0) (da_cons (de_v 1) (da_cons (de_v 7) (da_cons de_bl da_nil)))) ⟨_, _, _, _, rfl, ho, rfl⟩) fun l q => ⟨l, rfl, q⟩))
      refine dsst_cons (M := fun z' => ∃ l : List Dt, z' = [.dat (rdD r), .dat (hsD h), .dat (scD s), .dat W4D, .dat (.tup [.int i, beyD]), .dat (.str "beyond"), .dat (.str ""), .dat (.bl s.told), .dat (.int s.order), .dat (woD s.word), .dat (.str (sdS s.watch)), .un, .ml l, .un, .un, .un] ∧ l.length ≤ 9001 ∧ ∀ t ∈ l, NxW t) (ds_setL 12 (dl_call1 (ok_steps_ahead T) hr (da_cons (de_v 0) (da_cons (de_v 1) (da_cons (de_v 7) (da_cons de_bl da_nil)))) ⟨_, _, _, _, rfl, ho, rfl⟩) (fun l ⟨q1, q2⟩ => ⟨List.all_eq_true.mpr fun t ht => (q2 t ht).t.ni, ⟨l, rfl, q1, q2⟩⟩) sc_steps.nd) ?_
      rintro z' ⟨l, rfl, q1, q2⟩
      refine dsst_ifr (dt_cmp (de_v 10) (de_strSd .inn) od_neSd) (fun hc => ?_) (fun hc => ?_)
      · exact dss_one (ds_retml 12 ⟨l, rfl, q1, fun t ht => (q2 t ht).t⟩)
      have hin : s.watch = .inn := by simpa using hc
      have hw : ∃ u, s.word = some u := by
        cases hw : s.word with
        | none => have := (wf.no hw).2; rw [hin] at this; cases this
        | some u => exact ⟨u, rfl⟩
      obtain ⟨u, hu⟩ := hw
      have hul := (wf.len u hu).1
      have hrl := rows_le u
      have ex : ("x" : Str) = enc [.x] := by decide +kernel
      have eb : ("b" : Str) = enc [.b] := by decide +kernel
      have ek : ("k" : Str) = enc [.k] := by decide +kernel
      have ed : ("." : Str) = enc [.d] := by decide +kernel
      have e2 : Txt.replace (Txt.replace (enc (rowsOf u)) "x" "b") "k" "." = enc (subst1 .k .d (subst1 .x .b (rowsOf u))) := by
        rw [ex, eb, ek, ed, replace_sub, replace_sub]
      have l1 : (("b" : Str)).length = 1 := by decide +kernel
      have l2 : (("." : Str)).length = 1 := by decide +kernel
      have l3 : (Txt.replace (enc (rowsOf u)) "x" "b").length = (rowsOf u).length := by
        rw [ex, eb, replace_sub, enc_len]
        unfold subst1
        rw [List.length_map]
      refine dsst_set 13 (det_rep (det_rep (det_of (de_call (ok_rows_of T) (hr.mono (by decide)) (da_cons (DE.eq (de_v 9) (d' := .str (enc u)) (by rw [hu]; rfl)) da_nil) ⟨_, rfl, by omega, rfl⟩)) (by rw [enc_len, l1]; omega)) (by rw [l3, l2]; omega)) ?_ sc_steps.nd
      rw [e2]
      refine dss_fz 12 ?_
      refine dss_one (ds_retL (DL.mono (dl_lc (own := [(".0", 14), ("triple", 15)]) (di_list (RL := fun z' => z' = l) (DR.mono (de_v 12) fun d e => ⟨_, e, rfl⟩))
        (lc_some NxT (fun ds e => by rw [e]; omega) hne [15] (by simp) (fun d => [.dat (rdD r), .dat (hsD h), .dat (scD s), .dat W4D, .dat (.tup [.int i, beyD]), .dat (.str "beyond"), .dat (.str ""), .dat (.bl s.told), .dat (.int s.order), .dat (woD s.word), .dat (.str (sdS s.watch)), .un, .dat (.lst l), .dat (wD (subst1 .k .d (subst1 .x .b (rowsOf u)))), .un, .dat d]) (fun _ _ => True)
          (fun ds e d hd s Hb C cl fp => dg_name 15 rfl sc_steps.nd)
          (fun ds e d hd s Hb C cl fp => by
            rw [e] at hd
            obtain ⟨v, k, g, b, rfl⟩ := q2 d hd
            exact dqs_one (DQ.mono (DW.q (wt_or (dt_cmp (de_strW [.b]) (de_ix (de_ix (de_v 15) de_int (id_tup 0)) de_int (id_tup 1)) od_notInW) fun _ => (wt_or1 (dt_cmp (de_ix (de_ix (de_v 15) de_int (id_tup 0)) de_int (id_tup 1)) (de_v 13) od_eqW)))) fun _ _ => trivial))
          (fun ds e d hd _ s Hb C cl fp => by
            rw [e] at hd
            exact DE.as (de_v 15) (q2 d hd).t)) sc_steps.nd (blkOk_by (show blkC N_steps (defScope s_steps) _ _ = true by decide +kernel))) fun l2 ⟨ds, e, h1, h2⟩ => ⟨l2, rfl, by rw [e] at h1; omega, h2⟩))
    · refine dss_then (ρ1 := [.dat (rdD r), .dat (hsD h), .dat (scD s), .dat W4D, .dat (.tup [.int i, ledD none]), .dat (.str "next"), .dat (.str ""), .un, .un, .un, .un, .un, .un, .un, .un, .un]) (ds_asg (d := ledD none) (de_ix (de_v 4) de_int (id_tup 1)) (dg2 5 6 rfl sc_steps.nd)) ?_
      refine dss_ifr (DT.eq (dt_cmp (de_v 5) de_str od_eqS) (d' := false) (by decide +kernel)) (fun hc => by cases hc) (fun _ => ?_)
      refine dss_then (four _ _) ?_
      refine dss_ifr (DT.eq (dt_cmp (de_v 5) de_str od_eqS) (d' := true) (by decide +kernel)) (fun _ => ?_) (fun hc => by cases hc)
      refine dss_then (ds_set 11 (de_cmp (de_v 10) (de_ifG (fun k => Dt.str (sdS k)) (dt_cmp (de_fld (de_v 0) T.c_Reader T.n_Reader_way (rd_way _)) de_str od_way) (fun _ => (de_strSd .right)) (fun _ => (de_strSd .left))) od_eqSd) rfl sc_steps.nd) ?_
      exact dss_one (ds_retL (dl_if (dt_val (de_v 11)) (fun _ => DL.mono (dl_call1 (ok_steps_ahead T) hr (da_cons (de_v 0) (da_cons (de_v 1) (da_cons (de_v 7) (da_cons de_bl da_nil)))) ⟨_, _, _, _, rfl, ho, rfl⟩) fun l q => ⟨l, rfl, q.1, fun t ht => (q.2 t ht).t⟩) (fun _ => DL.mono (dl_call1 (ok_steps_beyond T) hr (da_cons (de_v 0) (da_cons (de_v 1) (da_cons (de_v 7) (da_cons de_bl da_nil)))) ⟨_, _, _, _, rfl, ho, rfl⟩) fun l q => ⟨l, rfl, q⟩)))
    · refine dss_then (ρ1 := [.dat (rdD r), .dat (hsD h), .dat (scD s), .dat W4D, .dat (.tup [.int i, ledD (some n)]), .dat (.str "row"), .dat (.int (n : Int)), .un, .un, .un, .un, .un, .un, .un, .un, .un]) (ds_asg (d := ledD (some n)) (de_ix (de_v 4) de_int (id_tup 1)) (dg2 5 6 rfl sc_steps.nd)) ?_
      refine dss_ifr (DT.eq (dt_cmp (de_v 5) de_str od_eqS) (d' := true) (by decide +kernel)) (fun _ => ?_) (fun hc => by cases hc)
      have hul := (wf.len u hu).1
      have hww := wf.watch u hu
      refine dss_one (ds_retL (dl_lst (RL := fun l => ∃ ds, Dt.lst l = .lst ds ∧ ds.length ≤ 9001 ∧ ∀ t ∈ ds, NxT t) (dar_cons (dr_call1 (ok_step_within T) (hr.mono (by decide)) (da_cons (de_v 0) (da_cons (de_v 2) (da_cons (de_v 6) da_nil))) ⟨_, _, u, n, rfl, hu, by omega, hn, hww.1, fun hi => ?_, rfl⟩) da_nil fun d as hd e => ⟨[d], by rw [e]; rfl, by simp, ⟨_, rfl, by simp, fun t ht => by rw [List.mem_singleton.mp ht]; exact hd⟩⟩)))
      have h3 := hww.2 hi
      by_cases h0 : s.order = 0
      · rw [if_pos h0] at h3; exact Or.inr h3
      · rw [if_neg h0] at h3; exact Or.inl h3
end

end DL
/-! Ps -/
set_option Elab.async false
set_option linter.all false
set_option maxRecDepth 100000
set_option maxHeartbeats 4000000
namespace DL
open PySem PySem.Spec PyProof.Rows L2
local macro_rules | `(tactic| walk_at "od") => `(tactic| first | exact od_eqS | exact od_neS | exact od_inT | exact od_notInT | exact od_inL | exact od_notInL | exact od_eqB | exact od_neB)
local macro_rules | `(tactic| walk_at "len") => `(tactic| first | omega | (simp only [List.length_append, List.length_cons, List.length_nil, List.length_take, List.length_drop]; omega))
section
variable {P : Program} {w : World} {K : PySem.W.Frag} {mg : Str → Option Value} {base : Heap}
theorem others_len {h : Hs} {up : Bool} {s : Sc} (ho : HOk h) (wf : WF h s) : (others h up s).length ≤ 18000 := by
  have hrows : h.rows ≤ 4 := by have := ho.r3; omega
  unfold others
  cases hw : s.word with
  | none =>
    show (if (h.again && !usedUp h s.many) = true then _ else []).length ≤ _
    split
    · refine Nat.le_trans (flen _ 4 _ fun p _ => ?_) (Nat.mul_le_mul_right 4 (pages_len hrows))
      rw [List.length_map]
      have h1 := chB_len h s.change
      have h2 := anyC_len ho
      split <;> omega
    · simp
  | some u =>
    have hul := (wf.len u hw).1
    show (_ ++ _ : List (Ev × Sc)).length ≤ _
    rw [List.length_append]
    have h1 : (if (!usedUp h s.many) = true then (ways h up s u).flatMap fun e => (chB h s.change).map fun one => (e.1 ++ [.int one], behind h s one e.2) else []).length ≤ 2041 * 2 := by
      split
      · refine Nat.le_trans (flen _ 2 _ fun p _ => ?_) (Nat.mul_le_mul_right _ (ways_len hrows hul))
        rw [List.length_map]; exact chB_len _ _
      · simp
    have h2 : (if h.joins ≠ Jn.none then [(([.str "leave"] : Ev), gone s)] else []).length ≤ 1 := by split <;> simp
    omega
def TrOk (h : Hs) (up : Bool) (s : Sc) (l : List Dt) : Prop := ∃ l0, l = l0 ++ (others h up s).map trD ∧ l0.length ≤ 9001 ∧ ∀ t ∈ l0, NxT t
def S_triples : List Sl → (List Dt → Prop) → Prop := fun as R => ∃ (r : Rd') (h : Hs) (s : Sc), as = [.dat (rdD r), .dat (hsD h), .dat (scD s), .dat W4D] ∧ RdOk r ∧ HOk h ∧ WF h s ∧ R = TrOk h r.up s
theorem ok_triples (T : Top w K mg) : FnL P w K mg base "triples" 7 P_triples S_triples := by
  refine FnL.mk1 (st := s_triples) T 35 rfl T.g_triples (fun fd F => fn_oneL F sc_triples ?_) (fun _ _ _ _ _ _ us hl => match us, hl with | [_, _, _, _], _ => rfl)
  rintro as R ⟨r, h, s, rfl, hrd, ho, wf, rfl⟩
  refine ⟨⟨rfl, by simp [isMut]⟩, fun cdv A outer s' H S0 E hr => ?_⟩
  have hol := others_len (up := r.up) ho wf
  refine dss_cons (M := fun z => ∃ l : List Dt, z = [.dat (rdD r), .dat (hsD h), .dat (scD s), .dat W4D, .ml l, .un, .un, .un] ∧ l.length ≤ 9001 ∧ ∀ t ∈ l, NxT t) (ds_setL 4 (dl_call1 (ok_steps T) hr (da_cons (de_v 0) (da_cons (de_v 1) (da_cons (de_v 2) (da_cons (de_v 3) da_nil)))) ⟨_, _, _, rfl, hrd, ho, wf, rfl⟩) (fun l ⟨q1, q2⟩ => ⟨List.all_eq_true.mpr fun t ht => (q2 t ht).ni, ⟨l, rfl, q1, q2⟩⟩) sc_triples.nd) ?_
  rintro z ⟨l, rfl, q1, q2⟩
  have hni : l.all notInt = true := List.all_eq_true.mpr fun t ht => (q2 t ht).ni
  refine dss_then (ρ1 := [.dat (rdD r), .dat (hsD h), .dat (scD s), .dat W4D, .ml (l ++ (others h r.up s).map trD), .un, .un, .un]) (ds_ifT (dt_cmp (de_v 2) (de_gtup T.g_BEGIN T.t_BEGIN) (od_neTnil (ds := scL s) (room64 hr) (sc_plain s))) (fun _ => ?_) (fun hc => by cases hc)) ?_
  · refine dss_one (ds_extend 4 (ds := l) (DL.fz (dl_lc (own := [(".0", 5), ("event", 6), ("behind", 7)]) (di_list (RL := fun z => z = (others h r.up s).map otD) (DR.mono (de_call (ok_others T) (hr.mono (by decide)) (da_cons (de_v 0) (da_cons (de_v 1) (da_cons (de_v 2) da_nil))) ⟨_, _, _, rfl, ho, wf, rfl⟩) fun d e => ⟨_, e, rfl⟩))
      (lc_all (others h r.up s) otD trD (by omega) (fun _ _ => rfl) (fun e => [.dat (rdD r), .dat (hsD h), .dat (scD s), .dat W4D, .ml l, .un, .dat (.tup e.1), .dat (scD e.2)]) (L := [6, 7]) (by simp) (fun a _ s Hb C cl fp => dg2 6 7 rfl sc_triples.nd)
        (fun a _ s1 Hb C cl fp => de_tp (ds := [.tup a.1, .non, scD a.2]) (da_cons (de_v 6) (da_cons de_non (da_cons (de_v 7) da_nil))))) sc_triples.nd (blkOk_by (show blkC N_triples (defScope s_triples) _ _ = true by decide +kernel))))
      (fun l2 e => ⟨by rw [e, List.all_map, List.all_eq_true]; intro _ _; rfl, by rw [e, List.length_map]; omega, by rw [e]; rfl⟩) hni)
  · exact dss_one (ds_retml 4 ⟨_, rfl, ⟨l, rfl, q1, q2⟩⟩)
end

end DL
/-! DLs -/
set_option Elab.async false
set_option linter.all false
set_option maxRecDepth 100000
set_option maxHeartbeats 4000000
namespace DL
open PySem PySem.Spec PyProof.Rows L2
def tyD : Dt → Option String
  | .non => some "NoneType"
  | .bl _ => some "bool"
  | .int _ => some "int"
  | .str _ => some "str"
  | .lst _ => some "list"
  | .tup _ => some "tuple"
  | .dct _ => some "dict"
  | .ins _ _ => none
theorem Rep.ty {K : PySem.W.Frag} {Hs H : Hp} {v : V} {d : Dt} {t : String} (e : Ex Hs H) (h : Rep K Hs v d) (ht : tyD d = some t) : TyX K H v (.type t) := by
  cases h with
  | non => cases ht; exact .base .non
  | bl b => cases ht; exact .base (.bl b)
  | int i => cases ht; exact .base (.int i)
  | str s => cases ht; exact .base (.str s)
  | lst h1 h2 => cases ht; exact .base (.lst (e _ _ h1))
  | tup h1 h2 =>
    cases ht
    rcases ex_t e h1 with q | ⟨o, its, n, q1, q2, _⟩
    · rcases q with q | ⟨o, q⟩
      · exact .base (.tup q)
      · exact .fTuple q
    · exact .kTuple q1 q2
  | dct h1 h2 => cases ht; exact .base (.dK (e _ _ h1))
  | ins h1 h2 => cases ht
section
variable {X : Cx} {S0 H0 : Hp} {ρ ρ1 : List Sl} {D : DEnds} {a b c e f o : Expr} {es : List Expr} {R : Dt → Prop} {pos : Pos}
theorem de_isi {d : Dt} {tn : String} {tx : Str} {t : String} {k : Bool} {p p2 : Pos} (hm : X.mg "isinstance" = none) (he : DE X e ρ d) (hT : X.mg tx = none) (hv : bootBuiltins tx = some (.type tn)) (ht : tyD d = some t) (hk : kitB t tn = some k) (hg : Gl X "isinstance" := by rfl) (hgT : Gl X tx := by rfl) (hnT : tx ≠ "__name__" := by decide) (hdT : (tx == ("__debug__" : Str)) = false := by decide)
    (hs1 : starEach [e, .Name tx p2] X.env = (false, eval e X.env) :: starEach [.Name tx p2] X.env := by rfl) (hs2 : starEach [.Name tx p2] X.env = (false, eval (.Name tx p2) X.env) :: starEach [] X.env := by rfl) (hpl : (backTo pos (starEach [.Name tx p2] X.env)).any (·.1) = false := by rfl) :
    DE X (.Call (.Name "isinstance" p) [e, .Name tx p2] [] pos) ρ (.bl k) := fun Hs H σ E Q q =>
  wpE_of (pe_callB call_isi hg hm bt_isi (pa_cons pe_wp (pa_cons (pe_bltn (v := .ty tn) hgT hT hv rfl hnT hdT) pa_nil hs2) hs1) (by decide) (by decide) hs1 hpl) (he Hs H σ E _ fun v H1s H1 t1 ⟨d', r, p⟩ => by
    subst r
    exact ⟨v, .ty tn, .type t, .type tn, k, rfl, .ty tn, p.ty t1.sub ht, kit_ty hk, q _ H1s H1 t1 ⟨_, rfl, .bl _⟩⟩)
/-- isinstance(x, (list, tuple)) -/
theorem de_isiT {d : Dt} {t1 t2 : String} {x1 x2 : Str} {t : String} {k1 k2 : Bool} {p p2 p3 p4 : Pos} {kt : Nat} (hm : X.mg "isinstance" = none) (he : DE X e ρ d) (hT1 : X.mg x1 = none) (hv1 : bootBuiltins x1 = some (.type t1)) (hT2 : X.mg x2 = none) (hv2 : bootBuiltins x2 = some (.type t2)) (ht : tyD d = some t) (hk1 : kitB t t1 = some k1) (hk2 : kitB t t2 = some k2) (hg : Gl X "isinstance" := by rfl) (hg1 : Gl X x1 := by rfl) (hg2 : Gl X x2 := by rfl) (hn1 : x1 ≠ "__name__" := by decide) (hd1 : (x1 == ("__debug__" : Str)) = false := by decide) (hn2 : x2 ≠ "__name__" := by decide) (hd2 : (x2 == ("__debug__" : Str)) = false := by decide)
    (hs1 : starEach [e, .Tuple [.Name x1 p2, .Name x2 p3] kt p4] X.env = (false, eval e X.env) :: starEach [.Tuple [.Name x1 p2, .Name x2 p3] kt p4] X.env := by rfl) (hs2 : starEach [.Tuple [.Name x1 p2, .Name x2 p3] kt p4] X.env = (false, eval (.Tuple [.Name x1 p2, .Name x2 p3] kt p4) X.env) :: starEach [] X.env := by rfl)
    (hs3 : starEach [.Name x1 p2, .Name x2 p3] X.env = (false, eval (.Name x1 p2) X.env) :: starEach [.Name x2 p3] X.env := by rfl) (hs4 : starEach [.Name x2 p3] X.env = (false, eval (.Name x2 p3) X.env) :: starEach [] X.env := by rfl) (hpl : (backTo pos (starEach [.Tuple [.Name x1 p2, .Name x2 p3] kt p4] X.env)).any (·.1) = false := by rfl) :
    DE X (.Call (.Name "isinstance" p) [e, .Tuple [.Name x1 p2, .Name x2 p3] kt p4] [] pos) ρ (.bl (k1 || k2)) := fun Hs H σ E Q q =>
  wpE_of (pe_callB call_isiT hg hm bt_isi (pa_cons pe_wp (pa_cons (pe_tup (pa_cons (pe_bltn (v := .ty t1) hg1 hT1 hv1 rfl hn1 hd1) (pa_cons (pe_bltn (v := .ty t2) hg2 hT2 hv2 rfl hn2 hd2) pa_nil hs4) hs3)) pa_nil hs2) hs1) (by decide) (by decide) hs1 hpl) (he Hs H σ E _ fun v H1s H1 u1 ⟨d', r, p⟩ => by
    subst r
    refine ⟨by show 2 ≤ sizeLine; decide, fun l hl => ?_⟩
    have u2 : Step H1s H1 H1s (upd H1 l (.tup [.ty t1, .ty t2])) := Step.newM u1.sub hl
    refine ⟨v, l, [.ty t1, .ty t2], .type t, [.type t1, .type t2], k1 || k2, rfl, upd_same, .cons (.ty t1) (.cons (.ty t2) .nil), p.ty u2.sub ht, ?_, q _ H1s _ (u1.trans u2) ⟨_, rfl, .bl _⟩⟩
    refine kitAny_cons (kit_ty hk1) (fun h1 => kitAny_cons (kit_ty hk2) (fun h2 => by rw [h1, h2]; exact kitAny_nil) (fun h2 => by rw [h2, Bool.or_true])) (fun h1 => by rw [h1] <;> rfl))
/-- isinstance(x, Row) -/
theorem de_isiRow {fs : List (Str × Dt)} {p p2 : Pos} (T : Top X.w X.K X.mg) (he : DE X e ρ (.ins "Row" fs)) (hg : Gl X "isinstance" := by rfl) (hgT : Gl X "Row" := by rfl)
    (hs1 : starEach [e, .Name "Row" p2] X.env = (false, eval e X.env) :: starEach [.Name "Row" p2] X.env := by rfl) (hs2 : starEach [.Name "Row" p2] X.env = (false, eval (.Name "Row" p2) X.env) :: starEach [] X.env := by rfl) (hpl : (backTo pos (starEach [.Name "Row" p2] X.env)).any (·.1) = false := by rfl) :
    DE X (.Call (.Name "isinstance" p) [e, .Name "Row" p2] [] pos) ρ (.bl true) := fun Hs H σ E Q q =>
  wpE_of (pe_callB call_isi hg T.f_isinstance bt_isi (pa_cons pe_wp (pa_cons (pe_glob (v := .ref (He.ga X.K "Row")) hgT T.g_Row rfl (by decide)) pa_nil hs2) hs1) (by decide) (by decide) hs1 hpl) (he Hs H σ E _ fun v H1s H1 t1 ⟨d', r, p⟩ => by
    subst r
    obtain ⟨a, dx, fs', rfl, h1, h2⟩ := p.ins_inv
    have hi := T.s_inst
    unfold instB at hi
    obtain ⟨i1, hi⟩ := He.ba hi
    obtain ⟨i2, hi⟩ := He.ba hi
    obtain ⟨i3, i4⟩ := He.ba hi
    refine ⟨.ref a, .ref (He.ga X.K "Row"), .ref (He.ga X.K "Row"), .ref (He.ga X.K "Row"), true, rfl, .own _, .base (.ins (t1.sub _ _ h1) T.c_Row (He.eqO_ok i1) (He.eqO_ok i2) (of_decide_eq_true i3) (of_decide_eq_true i4)), ?_, q _ H1s H1 t1 ⟨_, rfl, .bl _⟩⟩
    unfold PySem.W.kitOne
    rw [if_pos (beq_self_eq_true _)])
def putD (f : Str) (d : Dt) : List (Str × Dt) → List (Str × Dt)
  | [] => [(f, d)]
  | (g, x) :: r => if g = f then (g, d) :: r else (g, x) :: putD f d r
theorem RepFs.put {K : PySem.W.Frag} {H : Hp} {f : Str} {v : V} {d : Dt} (h : Rep K H v d) : ∀ {fs : List (Str × V)} {ds : List (Str × Dt)}, RepFs K H fs ds → RepFs K H (putF f v fs) (putD f d ds)
  | _, _, .nil => .cons h .nil
  | _, _, .cons (k := k) r t => by
    unfold putF putD
    by_cases q : k = f
    · rw [if_pos q, if_pos q]; exact .cons h t
    · rw [if_neg q, if_neg q]; exact .cons r (RepFs.put h t)
theorem RepFs.len {K : PySem.W.Frag} {H : Hp} : ∀ {fs : List (Str × V)} {ds : List (Str × Dt)}, RepFs K H fs ds → fs.length = ds.length
  | _, _, .nil => rfl
  | _, _, .cons _ t => by rw [List.length_cons, List.length_cons, RepFs.len t]
/-- self.f -/
theorem de_own (i : Nat) {p : Addr} {C x f : Str} {fs : List (Str × Dt)} {d : Dt} {p1 : Pos} (hc : Cls X.K (He.ga X.K C)) (hn : NoAttr X.K (He.ga X.K C) f) (hl : fs.lookup f = some d) (hd : ρ[i]? = some (.own p C fs) := by rfl) (hN : X.N[i]? = some x := by rfl)
    (hv : Vis X.env.scope x := by first | exact Or.inl rfl | exact Or.inr (Or.inl rfl) | exact Or.inr (Or.inr rfl)) (h1 : (x == ("__debug__" : Str)) = false := by decide) (h2 : (x == ("__classdict__" : Str)) = false := by decide) (hb : attributeBase (.Name x p1) f X.env (eval (.Name x p1) X.env) = eval (.Name x p1) X.env := by rfl) : DE X (.Attribute (.Name x p1) f pos) ρ d := fun Hs H σ E Q q => by
  obtain ⟨dx, vfs, e1, e2, e3, e4⟩ := E.sl i _ hd
  obtain ⟨y, hy, hr⟩ := e4.lookup hl
  exact wpE_of (pe_fld (pe_var hN hv h1 h2) hb) ⟨.ref p, e1, p, _, dx, vfs, y, rfl, e3, hc, hn, hy, q y Hs H (Step.refl E.sub) ⟨d, rfl, hr⟩⟩
def noOwn : Sl → Bool
  | .own _ _ _ => false
  | _ => true
/-- self.f = e -/
theorem ds_setownR (i : Nat) {p : Addr} {C x f : Str} {fs : List (Str × Dt)} {p1 p2 : Pos} (h : DR X e ρ R) (hc : Cls X.K (He.ga X.K C)) (hna : NoAttr X.K (He.ga X.K C) f) (hn : ∀ d, R d → D.nx (ρ.set i (.own p C (putD f d fs)))) (hlen : fs.length < 1000) (hone : (ρ.set i .un).all noOwn = true := by rfl) (hd : ρ[i]? = some (.own p C fs) := by rfl) (hN : X.N[i]? = some x := by rfl)
    (hv : Vis X.env.scope x := by first | exact Or.inl rfl | exact Or.inr (Or.inl rfl) | exact Or.inr (Or.inr rfl)) (h1' : (x == ("__debug__" : Str)) = false := by decide) (h2' : (x == ("__classdict__" : Str)) = false := by decide) (hs : swapsWith e (some (.Attribute (.Name x p1) f p2)) pos.line X.env = pure false := by rfl) :
    DS X S0 H0 (.Assign [.Attribute (.Name x p1) f p2] e pos) ρ D := fun B σ H ⟨Hs, h1, h2, h3, h4⟩ => by
  refine wpS_of (ps_fld (pe_var hN hv h1' h2') pe_wp hs) (h Hs H σ h3 _ fun v Hs' H' t ⟨d', r, pr⟩ => ?_)
  have E := h3.step t
  obtain ⟨dx, vfs, e1, e2, e3, e4⟩ := E.sl i _ hd
  have hf := h4 i _ p hd rfl e1
  refine ⟨.ref p, e1, p, _, dx, vfs, rfl, e3, hc, hna, by rw [e4.len]; exact hlen, _, hn d' r, Hs', h1.trans t.fz, (h2.trans t).mut hf e2, ⟨E.sub.mut e2, by rw [List.length_set]; exact E.len, fun j s hj => ?_, fun j k dj dk hj hk hjk => ?_⟩, fun j s q hj hm hq => ?_⟩
  · rcases getset hj with ⟨a1, a2⟩ | ⟨a1, a2⟩
    · subst a1 a2
      exact ⟨dx, _, e1, e2, upd_same, RepFs.put pr e4⟩
    · have z := E.sl j s a2
      cases s with
      | un => trivial
      | dat d => exact z
      | scr ns => exact z
      | ml dj =>
        obtain ⟨q, ys, z1, z2, z3, z4, z5⟩ := z
        have hqp : q ≠ p := fun w => by
          subst w
          rw [e3] at z3; cases z3
        exact ⟨q, ys, z1, z2, by rw [upd_ne hqp]; exact z3, z4, z5⟩
      | box =>
        obtain ⟨q, o, z1, z2, z3, z4⟩ := z
        have hqp : q ≠ p := fun w => by
          subst w
          rw [e3] at z3; cases z3
          obtain ⟨_, _, z5⟩ := z4
          cases z5
        exact ⟨q, o, z1, z2, by rw [upd_ne hqp]; exact z3, z4⟩
      | md kds =>
        obtain ⟨q, ys, z1, z2, z3, z4⟩ := z
        have hqp : q ≠ p := fun w => by
          subst w
          rw [e3] at z3; cases z3
        exact ⟨q, ys, z1, z2, by rw [upd_ne hqp]; exact z3, z4⟩
      | own q C' f' =>
        have hm : (ρ.set i .un)[j]? = some (.own q C' f') := by rw [List.getElem?_set_ne a1]; exact a2
        have := List.all_eq_true.mp hone _ (List.mem_of_getElem? hm)
        cases this
  · have k1 : ρ[j]? = some (.ml dj) := by
      rcases getset hj with ⟨_, a2⟩ | ⟨_, a2⟩
      · cases a2
      · exact a2
    have k2 : ρ[k]? = some (.ml dk) := by
      rcases getset hk with ⟨_, a2⟩ | ⟨_, a2⟩
      · cases a2
      · exact a2
    exact E.dis j k dj dk k1 k2 hjk
  · rcases getset hj with ⟨a1, a2⟩ | ⟨a1, a2⟩
    · subst a1
      rw [e1] at hq
      have e5 : p = q := by simpa using hq
      rw [← e5]; exact hf
    · exact h4 j s q a2 hm hq
theorem ds_setown (i : Nat) {p : Addr} {C x f : Str} {fs : List (Str × Dt)} {d : Dt} {p1 p2 : Pos} (h : DE X e ρ d) (hc : Cls X.K (He.ga X.K C)) (hna : NoAttr X.K (He.ga X.K C) f) (hn : D.nx (ρ.set i (.own p C (putD f d fs)))) (hlen : fs.length < 1000) (hone : (ρ.set i .un).all noOwn = true := by rfl) (hd : ρ[i]? = some (.own p C fs) := by rfl) (hN : X.N[i]? = some x := by rfl)
    (hv : Vis X.env.scope x := by first | exact Or.inl rfl | exact Or.inr (Or.inl rfl) | exact Or.inr (Or.inr rfl)) (h1' : (x == ("__debug__" : Str)) = false := by decide) (h2' : (x == ("__classdict__" : Str)) = false := by decide) (hs : swapsWith e (some (.Attribute (.Name x p1) f p2)) pos.line X.env = pure false := by rfl) :
    DS X S0 H0 (.Assign [.Attribute (.Name x p1) f p2] e pos) ρ D := ds_setownR i h hc hna (fun d' r => by rw [r]; exact hn) hlen hone hd hN hv h1' h2' hs
end
end DL
/-! DLt -/
set_option Elab.async false
set_option linter.all false
set_option maxRecDepth 100000
set_option maxHeartbeats 4000000
namespace DL
open PySem PySem.Spec PyProof.Rows L2
theorem En.appendR {K : PySem.W.Frag} {Hs H : Hp} {vs ws : List V} {as : List Sl} {ds : List Dt} (E : En K Hs H (vs.map some) as) (h : RepAll K Hs ws ds) : En K Hs H ((vs ++ ws).map some) (as ++ ds.map Sl.dat) := by
  have hl : vs.length = as.length := by simpa using E.len
  have old : ∀ (i : Nat) (s : Sl), (as ++ ds.map Sl.dat)[i]? = some s → (∀ d, s ≠ .dat d) → as[i]? = some s := fun i s hs hn => by
    by_cases hi : i < as.length
    · rwa [List.getElem?_append_left hi] at hs
    · rw [List.getElem?_append_right (by omega), List.getElem?_map] at hs
      cases hd : ds[i - as.length]? with
      | none => rw [hd] at hs; cases hs
      | some d => rw [hd] at hs; cases hs; exact absurd rfl (hn d)
  have low : ∀ i, i < as.length → ((vs ++ ws).map some)[i]? = (vs.map some)[i]? := fun i hi => by
    rw [List.map_append, List.getElem?_append_left (by rw [List.length_map]; omega)]
  refine ⟨E.sub, by simp [hl, h.length], fun i s hs => ?_, fun i j di dj h1 h2 hij => ?_⟩
  · by_cases hi : i < as.length
    · rw [List.getElem?_append_left hi] at hs
      rw [low i hi]; exact E.sl i s hs
    · rw [List.getElem?_append_right (by omega), List.getElem?_map] at hs
      cases hd : ds[i - as.length]? with
      | none => rw [hd] at hs; cases hs
      | some d =>
        rw [hd] at hs
        cases hs
        obtain ⟨v, hv, hr⟩ := h.get hd
        refine ⟨v, ?_, hr⟩
        rw [List.map_append, List.getElem?_append_right (by rw [List.length_map]; omega), List.getElem?_map, List.length_map, hl, hv] <;> rfl
  · have a1 := old i _ h1 (fun _ z => nomatch z)
    have a2 := old j _ h2 (fun _ z => nomatch z)
    rw [low i (List.getElem?_eq_some_iff.mp a1).1, low j (List.getElem?_eq_some_iff.mp a2).1]
    exact E.dis i j di dj a1 a2 hij
/-- a promise of __init__: what the instance holds then -/
def spI (K : PySem.W.Frag) (C : Str) (S : List Sl → (List (Str × Dt) → Prop) → Prop) : Sp := fun vs H Q _ => ∃ (Hs H00 : Hp) (x dx : Addr) (us : List V) (as : List Sl) (R : List (Str × Dt) → Prop), vs = .ref x :: us ∧ H = upd (upd H00 dx (.own x)) x (.ins (He.ga K C) dx []) ∧ H00 x = none ∧ H00 dx = none ∧ dx ≠ x ∧ En K Hs H00 (us.map some) as ∧ S as R ∧
  ∀ fds Hs' H', R fds → Step Hs H00 Hs' H' → Rep K Hs' (.ref x) (.ins C fds) → Q .non H'
structure FnI (P : Program) (w : World) (K : PySem.W.Frag) (mg : Str → Option Value) (base : Heap) (C : Str) (k : Nat) (ps : List Str) (S : List Sl → (List (Str × Dt) → Prop) → Prop) : Prop where
  ok : ∃ fd f, Mk K (He.ga K C) f ∧ FnOk P w K mg base CX0 k f fd ps (spI K C S) ∧ Binds K fd ps []
  gl : mg C = some (.ref (He.ga K C))
section
variable {P : Program} {w : World} {K : PySem.W.Frag} {mg : Str → Option Value} {base : Heap} {N ps : List Str} {k : Nat} {x qual : Str} {params : Arguments} {body : List Stmt} {scope : Scope} {kws : List (Str × V)} {dvs : List V} {f : Addr} {fd : FuncData}
theorem fn_init {C : Str} {S : List Sl → (List (Str × Dt) → Prop) → Prop} (F : FunD K x qual params body scope dvs kws f fd) (Sc : FnScope N ps scope) (hl : ∀ as R, S as R → as.length + 1 = ps.length ∧ ∀ s ∈ as, isMut s = false)
    (hbody : ∀ (cdv : Value) (A : Around) (outer : List Env) (s : Shared) (H S0 H0 : Hp) (E : XK) (p : Addr) (as : List Sl) (R : List (Str × Dt) → Prop), Room k (A.deeper (envOfC qual scope s.heap.objs.size f cdv)) → S as R →
      DSs (cxOf CX0 P w K mg base N qual scope f cdv A outer s H E).nox S0 H0 body (.own p C [] :: as ++ List.replicate (N.length - (as.length + 1)) .un) { nx := fun z => ∃ fds, z[0]? = some (.own p C fds) ∧ R fds, rt := fun _ => False }) : FnOk P w K mg base CX0 (k + 1) f fd ps (spI K C S) := by
  refine F.ok Sc (fun vs H Q E h => ?_) (fun cdv A outer s H vs Q E hr h => ?_)
  · obtain ⟨Hs, H00, y, dx, us, as, R, rfl, _, _, _, _, h1, h2, _⟩ := h
    rw [← (hl as R h2).1, List.length_cons]
    have := h1.len
    simp at this
    omega
  · obtain ⟨Hs, H00, y, dx, us, as, R, rfl, rfl, f1, f2, f3, h1, h2, h3⟩ := h
    have t1 : Step Hs H00 Hs (upd H00 dx (.own y)) := Step.newM h1.sub f2
    have fy : (upd H00 dx (HO.own y)) y = none := by rw [upd_ne (Ne.symm f3)]; exact f1
    have t2 : Step Hs H00 Hs (upd (upd H00 dx (.own y)) y (.ins (He.ga K C) dx [])) := t1.trans (Step.newM t1.sub fy)
    refine ⟨wpSs (cxOf CX0 P w K mg base N qual scope f cdv A outer s (upd (upd H00 dx (.own y)) y (.ins (He.ga K C) dx [])) E).nox body, PSs.nox pss_wp, ?_⟩
    have E1 : En K Hs (upd (upd H00 dx (.own y)) y (.ins (He.ga K C) dx [])) ((V.ref y :: us).map some) (.own y C [] :: as) := En.cons (h1.step t2) ⟨dx, [], rfl, h1.sub.free f1, upd_same, .nil⟩ (fun _ z => nomatch z)
    have A0 : At K Hs H00 Hs (.own y C [] :: as ++ List.replicate (N.length - (as.length + 1)) .un) (L2.start N (V.ref y :: us)) (upd (upd H00 dx (.own y)) y (.ins (He.ga K C) dx [])) := by
      refine ⟨Hs, Ex.refl _, t2, start_en E1, fun i z p hz hm hp => ?_⟩
      have hz2 := List.mem_of_getElem? hz
      rcases List.mem_append.mp hz2 with q | q
      · rcases List.mem_cons.mp q with q | q
        · subst q
          obtain ⟨_, _, e1, _⟩ := (start_en E1).sl i _ hz
          rw [hp] at e1
          have e2 : p = y := by simpa using e1
          rw [e2]; exact f1
        · rw [(hl as R h2).2 z q] at hm; cases hm
      · rw [List.eq_of_mem_replicate q] at hm; cases hm
    refine wpSs_mono (hbody cdv A outer s _ Hs H00 E y as R hr h2 Hs (L2.start N (V.ref y :: us)) _ A0) (fun σ' H' ⟨ρ', ⟨fds, n, hR⟩, Hs', k1, k2, k3, k4⟩ => ?_) (fun v H' ⟨Hs', d, t, r, q⟩ => r.elim) (fun _ _ ⟨_, q, _⟩ => q.elim) (fun _ _ ⟨_, q, _⟩ => q.elim)
    obtain ⟨dx', vfs, e1, e2, e3, e4⟩ := k3.sl 0 _ n
    exact h3 fds (upd Hs' y (.ins (He.ga K C) dx' vfs)) H' hR (k2.freeze f1 e3 e2) (.ins upd_same (RepFs.mono (Ex.new e2) _ _ e4))
end
section
variable {X : Cx} {ρ : List Sl} {e : Expr} {es : List Expr} {pos p : Pos} {k : Nat} {ps : List Str} {as : List Sl}
/-- C(..) -/
theorem dr_make {C : Str} {S : List Sl → (List (Str × Dt) → Prop) → Prop} {Rf : List (Str × Dt) → Prop} (F : FnI X.prog X.w X.K X.mg X.base C k ps S) (hr : Room (k + 1) X.A) (ha : DA X (e :: es) ρ (fun z => z = as)) (hS : S as Rf) (hg : Gl X C := by rfl)
    (hdb : (C == ("__debug__" : Str)) = false := by decide) (he : starEach (e :: es) X.env = (false, eval e X.env) :: starEach es X.env := by rfl) (hpl : (backTo pos (starEach es X.env)).any (·.1) = false := by rfl) : DR X (.Call (.Name C p) (e :: es) [] pos) ρ (fun d => ∃ fds, d = .ins C fds ∧ Rf fds) := fun Hs H σ E Q q => by
  obtain ⟨fd, f, M, F1, B1⟩ := F.ok
  refine wpE_of (pe_make M F1 hr hg F.gl B1 .nil pass0 pa_wp hdb he hpl) (ha Hs H σ E _ fun vs as' Hs' H' t E' r => fun x dx hx hdx hne => ?_)
  subst r
  refine ⟨Hs', H', x, dx, vs, as', Rf, by rw [List.append_nil], rfl, hx, hdx, hne, E', hS, fun fds H2s H2 hR t2 hr2 => ⟨rfl, q (.ref x) H2s H2 (t.trans t2) ⟨_, ⟨fds, rfl, hR⟩, hr2⟩⟩⟩
/-- a def called without its last, defaulted arguments -/
structure FnD (P : Program) (w : World) (K : PySem.W.Frag) (mg : Str → Option Value) (base : Heap) (x : Str) (k : Nat) (ps : List Str) (dds : List Dt) (S : List Sl → (Dt → Prop) → Prop) : Prop where
  ok : ∃ fd dvs ds, FnOk P w K mg base CX0 k (He.ga K x) fd ps (spS K S) ∧ Binds K fd ps ds ∧ Vals dvs ds ∧ ∀ Hs, RepAll K Hs dvs dds
  kp : PySem.W.keepIn K (.ref (He.ga K x)) = true
  gl : mg x = some (.ref (He.ga K x))
theorem dr_callD {x : Str} {dds : List Dt} {S : List Sl → (Dt → Prop) → Prop} {R : Dt → Prop} (F : FnD X.prog X.w X.K X.mg X.base x k ps dds S) (hr : Room k X.A) (ha : DA X (e :: es) ρ (fun z => z = as)) (hS : S (as ++ dds.map Sl.dat) R) (hg : Gl X x := by rfl)
    (hdb : (x == ("__debug__" : Str)) = false := by decide) (he : starEach (e :: es) X.env = (false, eval e X.env) :: starEach es X.env := by rfl) (hpl : (backTo pos (starEach es X.env)).any (·.1) = false := by rfl) : DR X (.Call (.Name x p) (e :: es) [] pos) ρ R := fun Hs H σ E Q q => by
  obtain ⟨fd, dvs, ds, F1, B1, V1, R1⟩ := F.ok
  refine wpE_of (pe_call F1 hr hg F.gl F.kp B1 V1 pass0 pa_wp hdb he hpl) (ha Hs H σ E _ fun vs as' Hs' H' t E' r => ?_)
  subst r
  exact ⟨Hs', as' ++ dds.map Sl.dat, R, E'.appendR (R1 Hs'), hS, fun v d H2s H2 t2 hr2 hR => q v H2s H2 (t.trans t2) ⟨d, hR, hr2⟩⟩
end
end DL
/-! DLu -/
set_option Elab.async false
set_option linter.all false
set_option maxRecDepth 100000
set_option maxHeartbeats 4000000
namespace DL
open PySem PySem.Spec PyProof.Rows L2
/-- some text, not longer than n -/
def StrLe (n : Nat) (d : Dt) : Prop := ∃ z : Str, d = .str z ∧ z.length ≤ n
theorem sjoin_len (a : Str) : ∀ ys : List Str, (Str.join a ys).length ≤ (ys.map (·.length)).sum + ys.length * a.length
  | [] => Nat.zero_le _
  | [y] => by
    show y.length ≤ _
    simp
  | y :: z :: r => by
    show (y ++ a ++ Str.join a (z :: r)).length ≤ _
    have ih := sjoin_len a (z :: r)
    have e : ∀ u v : Str, (u ++ v).length = u.length + v.length := fun u v => by
      show (u ++ v).cps.size = u.cps.size + v.cps.size
      rw [Str.cps_append, Array.size_append]
    rw [e, e, List.map_cons, List.sum_cons, List.length_cons, Nat.succ_mul]
    omega
section
variable {X : Cx} {ρ : List Sl} {e : Expr} {es : List Expr} {pos : Pos}
inductive DJ (X : Cx) (ρ : List Sl) : List Expr → Nat → Prop
  | nil : DJ X ρ [] 0
  | cons {e : Expr} {es : List Expr} {n m : Nat} (h : DR X e ρ (StrLe n)) (r : DJ X ρ es m) : DJ X ρ (e :: es) (n + m)
theorem DJ.pj {n : Nat} (h : DJ X ρ es n) : PJ X es (es.map (wpE X)) := by
  induction h with
  | nil => exact .nil
  | cons _ _ ih => exact .cons pe_wp ih
theorem str_app_len (u v : Str) : (u ++ v).length = u.length + v.length := by
  show (u ++ v).cps.size = u.cps.size + v.cps.size
  rw [Str.cps_append, Array.size_append]
theorem DJ.run {n : Nat} (h : DJ X ρ es n) : ∀ (acc : Str) (Hs H : Hp) (σ : L2.St), En X.K Hs H σ ρ → acc.length + n ≤ sizeLine → ∀ Q : Str → Hp → Prop, (∀ z Hs' H', Step Hs H Hs' H' → z.length ≤ acc.length + n → Q z H') → tJs (es.map (wpE X)) acc σ H Q := by
  induction h with
  | nil => intro acc Hs H σ E hz Q q; exact q acc Hs H (Step.refl E.sub) (Nat.le_refl _)
  | @cons e es n m h r ih =>
    intro acc Hs H σ E hz Q q
    refine h Hs H σ E _ fun v H1s H1 t1 ⟨d, ⟨z, e1, hl⟩, p⟩ => ?_
    subst e1
    refine ⟨z, p.str_inv, by rw [str_app_len]; omega, ih (acc ++ z) H1s H1 σ (E.step t1) (by rw [str_app_len]; omega) Q fun y Hs' H' t2 hy => q y Hs' H' (t1.trans t2) ?_⟩
    rw [str_app_len] at hy
    omega
theorem dr_joined {e1 e2 : Expr} {rest : List Expr} {n : Nat} (h : DJ X ρ (e1 :: e2 :: rest) n) (hn : n ≤ sizeLine) : DR X (.JoinedStr (e1 :: e2 :: rest) pos) ρ (StrLe n) := fun Hs H σ E Q q =>
  wpE_of (pe_joined h.pj) (h.run Str.empty Hs H σ E (by have : Str.empty.length = 0 := rfl; omega) _ fun z Hs' H' t hz => q _ Hs' H' t ⟨_, ⟨z, rfl, by have : Str.empty.length = 0 := rfl; omega⟩, .str _⟩)
theorem dr_fmt {n : Nat} (h : DR X e ρ (StrLe n)) (hn : n ≤ sizeLine) : DR X (.FormattedValue e (-1) none pos) ρ (StrLe n) := fun Hs H σ E Q q =>
  wpE_of (pe_fmt pe_wp) (h Hs H σ E _ fun v H1s H1 t1 ⟨d, ⟨z, e1, hl⟩, p⟩ => by
    subst e1
    exact Or.inl ⟨z, p.str_inv, Nat.le_trans hl hn, q _ H1s H1 t1 ⟨_, ⟨z, rfl, hl⟩, .str _⟩⟩)
/-- sep.join(a tuple of texts) -/
theorem dr_joinT {a : Str} {ys : List Str} {p1 cpos p0 : Pos} {k n : Nat} (h : DE X e ρ (.tup (ys.map Dt.str))) (hz : (ys.map (·.length)).sum + ys.length * a.length ≤ n) (hn : n ≤ 16777216)
    (hbase : attributeBase (.Constant (.str a) k p0) "join" X.env (eval (.Constant (.str a) k p0) X.env) = eval (.Constant (.str a) k p0) X.env := by rfl)
    (hfew : ((backTo cpos (starEach [e] X.env)).all (fun x => !x.1) && (backToKw cpos (keywordEach [] X.env)).all (fun x => x.1.isSome)
      && decide ([e].length + ([] : List Keyword).length + (if ([] : List Keyword).isEmpty then 0 else 1) < 30)) = true := by rfl)
    (hline : (p1.endLine == cpos.line) = true := by rfl) (hst : starEach [e] X.env = (false, eval e X.env) :: starEach [] X.env := by rfl) (hplain : (backTo cpos (starEach [] X.env)).any (·.1) = false := by rfl) :
    DR X (.Call (.Attribute (.Constant (.str a) k p0) "join" p1) [e] [] cpos) ρ (StrLe n) := fun Hs H σ E Q q =>
  wpE_of (pe_bm PySem.F.plainAttrs_str PySem.F.slot_str_join PySem.F.type_str_join mt_join pe_str pa_wp hbase hfew hline hst hplain) (by
    refine ⟨(rfl : ("str" : String) = "str"), da_cons h da_nil hst Hs H σ E _ fun vs as H2s H2 t2 E2 r2 => ?_⟩
    subst r2
    obtain ⟨u, rfl, hu⟩ := one_dat E2
    obtain ⟨l, xs, rfl, h1, h2⟩ := hu.tup_inv
    have e1 : xs = ys.map V.str := strs_inv h2
    refine ⟨a, l, ys, rfl, rfl, Or.inr (by rw [← e1]; exact ex_t E2.sub h1), Nat.le_trans hz hn, q _ H2s H2 t2 ⟨_, ⟨_, rfl, ?_⟩, .str _⟩⟩
    rw [TL.join_eq]
    exact Nat.le_trans (sjoin_len a ys) hz)
end
end DL
/-! Pt -/
set_option Elab.async false
set_option linter.all false
set_option maxRecDepth 100000
set_option maxHeartbeats 4000000
namespace DL
open PySem PySem.Spec PyProof.Rows L2
local macro_rules | `(tactic| walk_at "od") => `(tactic| first | exact od_eqS | exact od_neS | exact od_inT | exact od_notInT | exact od_inL | exact od_notInL | exact od_eqB | exact od_neB)
local macro_rules | `(tactic| walk_at "len") => `(tactic| first | omega | (simp only [List.length_append, List.length_cons, List.length_nil, List.length_take, List.length_drop]; omega))
section
variable {P : Program} {w : World} {K : PySem.W.Frag} {mg : Str → Option Value} {base : Heap}
def S_is_integer : List Sl → (Dt → Prop) → Prop := fun as R => ∃ i : Int, as = [.dat (.int i)] ∧ R = fun d => d = .bl true
theorem ok_is_integer (T : Top w K mg) : Fn P w K mg base "is_integer" 1 P_is_integer S_is_integer := by
  refine Fn.mk1 (st := s_is_integer) T 0 rfl T.g_is_integer (fun fd F => fn_one F sc_is_integer ?_) (fun _ _ _ _ _ _ us hl => match us, hl with | [_], _ => rfl)
  rintro as R ⟨i, rfl, rfl⟩
  refine ⟨⟨rfl, by simp [isMut]⟩, fun cdv A outer s' H S0 E hr => ?_⟩
  exact dss_one (ds_retE (de_and (de_isi (k := true) T.f_isinstance (de_v 0) T.f_int bt_int rfl (by decide +kernel)) fun _ => (de_one (de_not (de_isi (k := false) T.f_isinstance (de_v 0) T.f_bool bt_bool rfl (by decide +kernel))))) rfl)
def S_is_sequence : List Sl → (Dt → Prop) → Prop := fun as R => ∃ ds, (as = [.dat (.lst ds)] ∨ as = [.dat (.tup ds)]) ∧ R = fun d => d = .bl true
theorem ok_is_sequence (T : Top w K mg) : Fn P w K mg base "is_sequence" 1 P_is_sequence S_is_sequence := by
  refine Fn.mk1 (st := s_is_sequence) T 1 rfl T.g_is_sequence (fun fd F => fn_one F sc_is_sequence ?_) (fun _ _ _ _ _ _ us hl => match us, hl with | [_], _ => rfl)
  rintro as R ⟨ds, h, rfl⟩
  rcases h with rfl | rfl
  · refine ⟨⟨rfl, by simp [isMut]⟩, fun cdv A outer s' H S0 E hr => ?_⟩
    exact dss_one (ds_retE (de_isiT (k1 := true) (k2 := false) T.f_isinstance (de_v 0) T.f_list bt_list T.f_tuple bt_tuple rfl (by decide +kernel) (by decide +kernel)) rfl)
  · refine ⟨⟨rfl, by simp [isMut]⟩, fun cdv A outer s' H S0 E hr => ?_⟩
    exact dss_one (ds_retE (de_isiT (k1 := false) (k2 := true) T.f_isinstance (de_v 0) T.f_list bt_list T.f_tuple bt_tuple rfl (by decide +kernel) (by decide +kernel)) rfl)
def S_is_word : List Sl → (Dt → Prop) → Prop := fun as R => ∃ (x : Str) (zs : List Str), as = [.dat (.str x), .dat (.tup (zs.map Dt.str))] ∧ R = fun d => d = .bl (decide (x ∈ zs))
theorem ok_is_word (T : Top w K mg) : Fn P w K mg base "is_word" 1 P_is_word S_is_word := by
  refine Fn.mk1 (st := s_is_word) T 2 rfl T.g_is_word (fun fd F => fn_one F sc_is_word ?_) (fun _ _ _ _ _ _ us hl => match us, hl with | [_, _], _ => rfl)
  rintro as R ⟨x, zs, rfl, rfl⟩
  refine ⟨⟨rfl, by simp [isMut]⟩, fun cdv A outer s' H S0 E hr => ?_⟩
  exact dss_one (ds_retE (de_and (de_isi (k := true) T.f_isinstance (de_v 0) T.f_str bt_str rfl (by decide +kernel)) fun _ => (de_one (de_cmp (de_v 0) (de_v 1) od_inT))) rfl)
def S_is_test : List Sl → (Dt → Prop) → Prop := fun as R => ∃ t : Tst, as = [.dat (.str (tstS t))] ∧ R = fun d => d = .bl true
theorem ok_is_test (T : Top w K mg) : Fn P w K mg base "is_test" 1 P_is_test S_is_test := by
  refine Fn.mk1 (st := s_is_test) T 3 rfl T.g_is_test (fun fd F => fn_one F sc_is_test ?_) (fun _ _ _ _ _ _ us hl => match us, hl with | [_], _ => rfl)
  rintro as R ⟨t, rfl, rfl⟩
  refine ⟨⟨rfl, by simp [isMut]⟩, fun cdv A outer s' H S0 E hr => ?_⟩
  refine dss_ifr (dt_not (dt_val (de_isi (k := true) T.f_isinstance (de_v 0) T.f_str bt_str rfl (by decide +kernel)))) (fun hc => by cases hc) (fun _ => ?_)
  refine dss_one (ds_retE (de_cmp (de_ifG Dt.str (dt_val (de_startswith (de_v 0) (de_gstr T.z_NOT))) (fun _ => (de_slS (de_v 0) (dp_some (de_cb T.f_len bt_len (da_cons (de_gstr T.z_NOT) da_nil) (cd_lenS (by decide +kernel)))) dp_none (tst_len t))) (fun _ => (de_v 0))) (de_gtup T.g_TESTS T.t_TESTS) od_inT) ?_)
  show Dt.bl _ = Dt.bl true
  congr 1
  obtain ⟨n, t⟩ := t
  cases n <;> cases t <;> decide +kernel
def S_is_between : List Sl → (Dt → Prop) → Prop := fun as R => ∃ i m : Int, as = [.dat (.int i), .dat (.int m)] ∧ R = fun d => d = .bl (decide (1 ≤ i) && decide (i ≤ m))
theorem ok_is_between (T : Top w K mg) : Fn P w K mg base "is_between" 2 P_is_between S_is_between := by
  refine Fn.mk1 (st := s_is_between) T 37 rfl T.g_is_between (fun fd F => fn_one F sc_is_between ?_) (fun _ _ _ _ _ _ us hl => match us, hl with | [_, _], _ => rfl)
  rintro as R ⟨i, m, rfl, rfl⟩
  refine ⟨⟨rfl, by simp [isMut]⟩, fun cdv A outer s' H S0 E hr => ?_⟩
  exact dss_one (ds_retE (de_and (de_call (ok_is_integer T) hr (da_cons (de_v 0) da_nil) ⟨_, rfl, rfl⟩) fun _ => (de_one (de_chain de_int (de_v 0) (fun _ => (de_v 1)) od_le (fun _ => od_le)))) rfl)
abbrev hsA (h : Hs) : List Dt := [.int (h.rows : Int), .str (kpS h.low), .str (jnS h.joins), .bl h.again, optD h.stamps, .bl h.on, optD h.changes]
def S_fault_of : List Sl → (Dt → Prop) → Prop := fun as R => ∃ h : Hs, as = (hsA h).map Sl.dat ∧ HOk h ∧ R = fun d => d = .non
theorem kp_in (b : Bool) : decide (kpS b ∈ (["low", "high"] : List Str)) = true := by cases b <;> decide +kernel
theorem jn_in (j : Jn) : decide (jnS j ∈ (["left", "right", "none"] : List Str)) = true := by cases j <;> decide +kernel
theorem ok_fault_of (T : Top w K mg) : Fn P w K mg base "fault_of" 3 P_fault_of S_fault_of := by
  refine Fn.mk1 (st := s_fault_of) T 38 rfl T.g_fault_of (fun fd F => fn_one F sc_fault_of ?_) (fun _ _ _ _ _ _ us hl => match us, hl with | [_, _, _, _, _, _, _], _ => rfl)
  rintro as R ⟨h, rfl, ho, rfl⟩
  refine ⟨⟨rfl, by simp [hsA, isMut]⟩, fun cdv A outer s' H S0 E hr => ?_⟩
  have r1 := ho.r1
  have r3 := ho.r3
  refine dss_ifr (DT.eq (dt_not (dt_val (de_call (ok_is_between T) hr (da_cons (de_v 0) (da_cons (de_gint T.i_MOST_ROWS) da_nil)) ⟨_, _, rfl, rfl⟩))) (d' := false) (by simp; omega)) (fun hc => by cases hc) (fun _ => ?_)
  refine dss_ifr (DT.eq (DW.q (wt_or (dt_not (dt_val (de_call (ok_is_word T) (hr.mono (by decide)) (da_cons (de_v 1) (da_cons (de_gtup T.g_PARTS T.t_PARTS) da_nil)) ⟨_, _, rfl, rfl⟩))) fun _ => (wt_or1 (dt_not (dt_val (de_call (ok_is_word T) (hr.mono (by decide)) (da_cons (de_v 2) (da_cons (de_gtup T.g_JOINS T.t_JOINS) da_nil)) ⟨_, _, rfl, rfl⟩)))))) (d' := false) (by rw [kp_in, jn_in] <;> rfl)) (fun hc => by cases hc) (fun _ => ?_)
  refine dss_ifr (dt_not (dt_val (de_isi (k := true) T.f_isinstance (de_v 3) T.f_bool bt_bool rfl (by decide +kernel)))) (fun hc => by cases hc) (fun _ => ?_)
  have b4 : DSs (cxOf CX0 P w K mg base N_fault_of "fault_of" (defScope s_fault_of) (He.ga K "fault_of") cdv A outer s' H E).nox S0 H ((defBody s_fault_of).drop 4) ((hsA h).map Sl.dat) { nx := fun _ => Dt.non = .non, rt := fun d => d = .non } := by
    refine dss_ifr (dt_not (dt_val (de_isi (k := true) T.f_isinstance (de_v 5) T.f_bool bt_bool rfl (by decide +kernel)))) (fun hc => by cases hc) (fun _ => ?_)
    cases hch : h.changes with
    | none =>
      refine dss_one (ds_ret (dr_ifT (DW.q (wt_or (k := false) (dt_cmp (de_v 6) de_non od_isNo) fun hq => ?_)) (fun _ => DE.as de_non rfl) (fun hq => ?_)))
      · rw [hch] at hq; cases hq
      · rw [hch] at hq; cases hq
    | some c =>
      have hcc := ho.ch c hch
      refine dss_one (ds_ret (dr_ifT (DW.q (wt_or (dt_cmp (de_v 6) de_non od_isNo) fun hq => (wt_or1 (dt_val (de_call (ok_is_between T) hr (da_cons (DE.eq (de_v 6) (d' := .int (c : Int)) (by rw [hch]; rfl)) (da_cons (de_gint T.i_MOST_CHANGES) da_nil)) ⟨_, _, rfl, rfl⟩))))) (fun _ => DE.as de_non rfl) (fun hq => ?_)))
      simp at hq
      omega
  cases hst : h.stamps with
  | none =>
    refine dss_ifr (DW.q (wt_and (k := false) (dt_cmp (de_v 4) de_non od_notNo) fun hq => ?_)) (fun hc => ?_) (fun _ => b4)
    · rw [hst] at hq; cases hq
    · rw [Bool.and_false] at hc; cases hc
  | some m =>
    have hm := ho.st m hst
    refine dss_ifr (DW.q (wt_and (dt_cmp (de_v 4) de_non od_notNo) fun hq => (wt_and1 (dt_not (dt_val (de_call (ok_is_between T) hr (da_cons (DE.eq (de_v 4) (d' := .int (m : Int)) (by rw [hst]; rfl)) (da_cons (de_gint T.i_MOST_MODULUS) da_nil)) ⟨_, _, rfl, rfl⟩)))))) (fun hc => ?_) (fun _ => b4)
    simp at hc
    omega
end

end DL
/-! Pu -/
set_option Elab.async false
set_option linter.all false
set_option maxRecDepth 100000
set_option maxHeartbeats 4000000
namespace DL
open PySem PySem.Spec PyProof.Rows L2
local macro_rules | `(tactic| walk_at "od") => `(tactic| first | exact od_eqS | exact od_neS | exact od_inT | exact od_notInT | exact od_inL | exact od_notInL | exact od_eqB | exact od_neB)
local macro_rules | `(tactic| walk_at "len") => `(tactic| first | omega | (simp only [List.length_append, List.length_cons, List.length_nil, List.length_take, List.length_drop]; omega))
section
variable {P : Program} {w : World} {K : PySem.W.Frag} {mg : Str → Option Value} {base : Heap}
def S_House : List Sl → (List (Str × Dt) → Prop) → Prop := fun as R => ∃ h : Hs, as = (hsA h).map Sl.dat ∧ HOk h ∧ R = fun fds => fds = hsF h
theorem own_0 (h : Hs) : putD "rows" (.int (h.rows : Int)) ((hsF h).take 0) = (hsF h).take 1 := by kernel_rfl
theorem own_1 (h : Hs) : putD "keeps" (.str (kpS h.low)) ((hsF h).take 1) = (hsF h).take 2 := by kernel_rfl
theorem own_2 (h : Hs) : putD "joins" (.str (jnS h.joins)) ((hsF h).take 2) = (hsF h).take 3 := by kernel_rfl
theorem own_3 (h : Hs) : putD "again" (.bl h.again) ((hsF h).take 3) = (hsF h).take 4 := by kernel_rfl
theorem own_4 (h : Hs) : putD "stamps" (optD h.stamps) ((hsF h).take 4) = (hsF h).take 5 := by kernel_rfl
theorem own_5 (h : Hs) : putD "on" (.bl h.on) ((hsF h).take 5) = (hsF h).take 6 := by kernel_rfl
theorem own_6 (h : Hs) : putD "changes" (optD h.changes) ((hsF h).take 6) = (hsF h).take 7 := by kernel_rfl
theorem ok_House (T : Top w K mg) : FnI P w K mg base "House" 4 P_House_init S_House := by
  obtain ⟨fd, F⟩ := T.fn 69
  have F' : FunD K "__init__" "House.__init__" (defArgs s_House_init) (defBody s_House_init) (defScope s_House_init) (d_House_init.dvs K) (d_House_init.kws K) (He.ma K (He.ga K "House") "__init__") fd := F
  obtain ⟨ds, hv, B⟩ := FunD.binds1 (ps := P_House_init) F' 8 7 (fun z => nomatch z) rfl (fun Tt kV doc pm an cdv ct us its h1 h2 => match us, h1, its, h2 with
    | [_, _, _, _, _, _, _, _], _, [_, _, _, _, _, _, _], _ => ⟨_, rfl, rfl⟩)
  have hds : ds = [] := by
    have hv' : Vals [] ds := hv
    cases hv'
    rfl
  subst hds
  refine ⟨⟨fd, _, T.m_House, fn_init (C := "House") F' sc_House_init (fun as fds ⟨h, e, _, _⟩ => ?_) (fun cdv A outer s' H S0 H0 E p as fds hr ⟨h, e, ho, ef⟩ => ?_), B⟩, T.g_House⟩
  · subst e
    exact ⟨rfl, by simp [hsA, isMut]⟩
  · subst e ef
    refine dss_then (ds_set 8 (de_call (ok_fault_of T) hr (da_cons (de_v 1) (da_cons (de_v 2) (da_cons (de_v 3) (da_cons (de_v 4) (da_cons (de_v 5) (da_cons (de_v 6) (da_cons (de_v 7) da_nil))))))) ⟨h, rfl, ho, rfl⟩) rfl sc_House_init.nd) ?_
    refine dss_ifr (dt_cmp (de_v 8) de_non od_notN) (fun hc => by cases hc) (fun _ => ?_)
    refine dss_then (ρ1 := [.own p "House" ((hsF h).take 1), .dat (.int (h.rows : Int)), .dat (.str (kpS h.low)), .dat (.str (jnS h.joins)), .dat (.bl h.again), .dat (optD h.stamps), .dat (.bl h.on), .dat (optD h.changes), .dat .non]) (ds_setown 0 (fs := (hsF h).take 0) (de_v 1) T.c_House T.n_House_rows (by rw [own_0] <;> rfl) (Nat.lt_of_lt_of_le (Nat.lt_succ_of_le (List.length_take_le 0 _)) (by decide))) ?_
    refine dss_then (ρ1 := [.own p "House" ((hsF h).take 2), .dat (.int (h.rows : Int)), .dat (.str (kpS h.low)), .dat (.str (jnS h.joins)), .dat (.bl h.again), .dat (optD h.stamps), .dat (.bl h.on), .dat (optD h.changes), .dat .non]) (ds_setown 0 (fs := (hsF h).take 1) (de_v 2) T.c_House T.n_House_keeps (by rw [own_1] <;> rfl) (Nat.lt_of_lt_of_le (Nat.lt_succ_of_le (List.length_take_le 1 _)) (by decide))) ?_
    refine dss_then (ρ1 := [.own p "House" ((hsF h).take 3), .dat (.int (h.rows : Int)), .dat (.str (kpS h.low)), .dat (.str (jnS h.joins)), .dat (.bl h.again), .dat (optD h.stamps), .dat (.bl h.on), .dat (optD h.changes), .dat .non]) (ds_setown 0 (fs := (hsF h).take 2) (de_v 3) T.c_House T.n_House_joins (by rw [own_2] <;> rfl) (Nat.lt_of_lt_of_le (Nat.lt_succ_of_le (List.length_take_le 2 _)) (by decide))) ?_
    refine dss_then (ρ1 := [.own p "House" ((hsF h).take 4), .dat (.int (h.rows : Int)), .dat (.str (kpS h.low)), .dat (.str (jnS h.joins)), .dat (.bl h.again), .dat (optD h.stamps), .dat (.bl h.on), .dat (optD h.changes), .dat .non]) (ds_setown 0 (fs := (hsF h).take 3) (de_v 4) T.c_House T.n_House_again (by rw [own_3] <;> rfl) (Nat.lt_of_lt_of_le (Nat.lt_succ_of_le (List.length_take_le 3 _)) (by decide))) ?_
    refine dss_then (ρ1 := [.own p "House" ((hsF h).take 5), .dat (.int (h.rows : Int)), .dat (.str (kpS h.low)), .dat (.str (jnS h.joins)), .dat (.bl h.again), .dat (optD h.stamps), .dat (.bl h.on), .dat (optD h.changes), .dat .non]) (ds_setown 0 (fs := (hsF h).take 4) (de_v 5) T.c_House T.n_House_stamps (by rw [own_4] <;> rfl) (Nat.lt_of_lt_of_le (Nat.lt_succ_of_le (List.length_take_le 4 _)) (by decide))) ?_
    refine dss_then (ρ1 := [.own p "House" ((hsF h).take 6), .dat (.int (h.rows : Int)), .dat (.str (kpS h.low)), .dat (.str (jnS h.joins)), .dat (.bl h.again), .dat (optD h.stamps), .dat (.bl h.on), .dat (optD h.changes), .dat .non]) (ds_setown 0 (fs := (hsF h).take 5) (de_v 6) T.c_House T.n_House_on (by rw [own_5] <;> rfl) (Nat.lt_of_lt_of_le (Nat.lt_succ_of_le (List.length_take_le 5 _)) (by decide))) ?_
    exact dss_one (ds_setown 0 (fs := (hsF h).take 6) (de_v 7) T.c_House T.n_House_changes ⟨_, by rw [own_6] <;> rfl, rfl⟩ (Nat.lt_of_lt_of_le (Nat.lt_succ_of_le (List.length_take_le 6 _)) (by decide)))
end

end DL
/-! Pv -/
set_option Elab.async false
set_option linter.all false
set_option maxRecDepth 100000
set_option maxHeartbeats 4000000
namespace DL
open PySem PySem.Spec PyProof.Rows L2
local macro_rules | `(tactic| walk_at "od") => `(tactic| first | exact od_eqS | exact od_neS | exact od_inT | exact od_notInT | exact od_inL | exact od_notInL | exact od_eqB | exact od_neB)
local macro_rules | `(tactic| walk_at "len") => `(tactic| first | omega | (simp only [List.length_append, List.length_cons, List.length_nil, List.length_take, List.length_drop]; omega))
section
variable {P : Program} {w : World} {K : PySem.W.Frag} {mg : Str → Option Value} {base : Heap}
theorem tst_short (t : Tst) : (tstS t).length ≤ 10 := by
  obtain ⟨n, t⟩ := t
  cases n <;> cases t <;> decide +kernel
theorem dd_short (d : Dd) : (ddS d).length ≤ 10 := by cases d <;> decide +kernel
theorem way_short (u : Bool) : (wayS u).length ≤ 10 := by cases u <;> decide +kernel
theorem tsD_eq (ts : List Tst) : tsD ts = (ts.map tstS).map Dt.str := by
  unfold tsD
  rw [List.map_map] <;> rfl
theorem tst_sum : ∀ ts : List Tst, ((ts.map tstS).map (·.length)).sum ≤ ts.length * 10
  | [] => Nat.zero_le _
  | t :: ts => by
    have h1 := tst_short t
    have h2 := tst_sum ts
    rw [List.map_cons, List.map_cons, List.sum_cons, List.length_cons, Nat.succ_mul]
    omega
def S_text_of : List Sl → (Dt → Prop) → Prop := fun as R => ∃ (ts : List Tst) (d : Dd), as = [.dat (.tup (tsD ts)), .dat (.str (ddS d))] ∧ ts.length ≤ 10 ∧ R = StrLe 200
theorem ok_text_of (T : Top w K mg) : Fn P w K mg base "text_of" 1 P_text_of S_text_of := by
  refine Fn.mk1 (st := s_text_of) T 39 rfl T.g_text_of (fun fd F => fn_one F sc_text_of ?_) (fun _ _ _ _ _ _ us hl => match us, hl with | [_, _], _ => rfl)
  rintro as R ⟨ts, d, rfl, hl, rfl⟩
  refine ⟨⟨rfl, by simp [isMut]⟩, fun cdv A outer s' H S0 E hr => ?_⟩
  have hs : (200 : Nat) ≤ sizeLine := by rw [sizeLine_eq]; decide
  refine dss_ifr (dt_cmp (de_lenT T.f_len (de_v 0)) de_int od_eqI) (fun hc => ?_) (fun hc => ?_)
  · refine dss_one (ds_ret (DR.mono (dr_joined (.cons (DE.as de_str ⟨_, rfl, show _ ≤ 3 by decide +kernel⟩) (.cons (dr_fmt (DE.as (de_v 1) ⟨_, rfl, dd_short d⟩) (by omega)) .nil)) (by omega)) fun z ⟨y, e, h⟩ => ⟨y, e, by omega⟩))
  · refine dss_cons (M := fun z => ∃ t : Str, z = [.dat (.tup (tsD ts)), .dat (.str (ddS d)), .dat (.str t)] ∧ t.length ≤ 150) (ds_setR 2 (dr_joinT (n := 150) (ys := ts.map tstS) (DE.eq (de_v 0) (by rw [tsD_eq])) ?_ (by decide)) (fun z ⟨y, e, h⟩ => ⟨y, by rw [e]; rfl, h⟩) sc_text_of.nd) ?_
    · have h1 := tst_sum ts
      have e : ((" and " : Str)).length = 5 := by decide +kernel
      rw [e, List.length_map]
      omega
    · rintro z ⟨t, rfl, ht⟩
      refine dss_one (ds_ret (DR.mono (dr_joined (.cons (DE.as de_str ⟨_, rfl, show _ ≤ 3 by decide +kernel⟩) (.cons (dr_fmt (DE.as (de_v 2) ⟨_, rfl, ht⟩) (by omega)) (.cons (DE.as de_str ⟨_, rfl, show _ ≤ 4 by decide +kernel⟩) (.cons (dr_fmt (DE.as (de_v 1) ⟨_, rfl, dd_short d⟩) (by omega)) .nil)))) (by omega)) fun z ⟨y, e, h⟩ => ⟨y, e, by omega⟩))
def S_reader_text : List Sl → (Dt → Prop) → Prop := fun as R => ∃ (up : Bool) (rs : List (Rw × Str)), as = [.dat (.str (wayS up)), .dat (.lst (rs.map rwD))] ∧ rs.length ≤ 10 ∧ (∀ q ∈ rs, q.2.length ≤ 200) ∧ R = StrLe 3000
theorem ok_reader_text (T : Top w K mg) : Fn P w K mg base "reader_text" 1 P_reader_text S_reader_text := by
  refine Fn.mk1 (st := s_reader_text) T 40 rfl T.g_reader_text (fun fd F => fn_one F sc_reader_text ?_) (fun _ _ _ _ _ _ us hl => match us, hl with | [_, _], _ => rfl)
  rintro as R ⟨up, rs, rfl, hl, hq, rfl⟩
  refine ⟨⟨rfl, by simp [isMut]⟩, fun cdv A outer s' H S0 E hr => ?_⟩
  have hs : (3000 : Nat) ≤ sizeLine := by rw [sizeLine_eq]; decide
  refine dss_then (ds_set 2 (de_v 0) rfl sc_reader_text.nd) ?_
  refine dss_cons (M := fun z => ∃ t : Str, z = [.dat (.str (wayS up)), .dat (.lst (rs.map rwD)), .dat (.str t), .un] ∧ t.length ≤ 3000) (ds_for (di_list (RL := fun z => z = rs.map rwD) (DR.mono (de_v 1) fun d e => ⟨_, e, rfl⟩)) fun ds hds => ⟨fun i z => ∃ t : Str, z = [.dat (.str (wayS up)), .dat (.lst (rs.map rwD)), .dat (.str t), .un] ∧ t.length ≤ 10 + i * 201, ⟨_, ⟨wayS up, rfl, by have := way_short up; omega⟩, Wk.refl _⟩, ?_, ?_⟩) ?_
  · rintro i d ρi hd ⟨t, rfl, ht⟩
    subst hds
    rw [List.getElem?_map] at hd
    cases ha : rs[i]? with
    | none => rw [ha] at hd; cases hd
    | some q =>
      rw [ha] at hd
      have ed : rwD q = d := by simpa using hd
      subst ed
      have hi : i < rs.length := (List.getElem?_eq_some_iff.mp ha).1
      have hq2 := hq q (List.mem_of_getElem? ha)
      obtain ⟨rw1, rt⟩ := q
      refine ⟨[3], dg_name 3 ?_ sc_reader_text.nd⟩
      refine dss_one (ds_setR 2 (dr_joined (.cons (dr_fmt (DE.as (de_v 2) ⟨_, rfl, ht⟩) (by omega)) (.cons (DE.as de_str ⟨_, rfl, show _ ≤ 1 by decide +kernel⟩) (.cons (dr_fmt (DE.as (de_fld (de_v 3) T.c_Row T.n_Row_text (rw_text rw1 rt)) ⟨_, rfl, hq2⟩) (by omega)) .nil))) (by omega)) (fun z ⟨y, e, h⟩ => ⟨_, ⟨y, rfl, by omega⟩, ?_⟩) sc_reader_text.nd)
      rw [e]
      exact .eq (.eq (.eq (.un .nil)))
  · rintro z ⟨t, rfl, ht⟩
    subst hds
    rw [List.length_map] at ht
    exact ⟨t, rfl, by omega⟩
  · rintro z ⟨t, rfl, ht⟩
    exact dss_one (ds_retE (de_v 2) ⟨t, rfl, ht⟩)
end

end DL
/-! Pw -/
set_option Elab.async false
set_option linter.all false
set_option maxRecDepth 100000
set_option maxHeartbeats 4000000
namespace DL
open PySem PySem.Spec PyProof.Rows L2
local macro_rules | `(tactic| walk_at "od") => `(tactic| first | exact od_eqS | exact od_neS | exact od_inT | exact od_notInT | exact od_inL | exact od_notInL | exact od_eqB | exact od_neB)
local macro_rules | `(tactic| walk_at "len") => `(tactic| first | omega | (simp only [List.length_append, List.length_cons, List.length_nil, List.length_take, List.length_drop]; omega))
section
variable {P : Program} {w : World} {K : PySem.W.Frag} {mg : Str → Option Value} {base : Heap}
def S_Row : List Sl → (List (Str × Dt) → Prop) → Prop := fun as R => ∃ r : Rw, as = [.dat (.lst (tsD r.tests)), .dat (.str (ddS r.deed))] ∧ r.tests.length ≤ 10 ∧ R = fun fds => ∃ t : Str, fds = rwF r t ∧ t.length ≤ 200
theorem dd_in (d : Dd) : decide (ddS d ∈ (["slot", "key", "find"] : List Str)) = true := by cases d <;> decide +kernel
abbrev rowP1 (x : Dt) : List (Str × Dt) := [("tests", x)]
abbrev rowP2 (x y : Dt) : List (Str × Dt) := [("tests", x), ("deed", y)]
abbrev rowP3 (x y z : Dt) : List (Str × Dt) := [("tests", x), ("deed", y), ("text", z)]
theorem row_put2 {x y : Dt} : putD "deed" y (rowP1 x) = rowP2 x y := by kernel_rfl
theorem row_put3 {x y z : Dt} : putD "text" z (rowP2 x y) = rowP3 x y z := by kernel_rfl
theorem row_look {x y : Dt} : (rowP2 x y).lookup ("tests" : Str) = some x := by kernel_rfl
theorem all_true {α : Type} (l : List α) : (l.map fun _ => true).all id = true := by
  rw [List.all_map, List.all_eq_true]
  intro _ _; rfl
theorem ok_Row (T : Top w K mg) : FnI P w K mg base "Row" 3 P_Row_init S_Row := by
  obtain ⟨fd, F⟩ := T.fn 70
  have F' : FunD K "__init__" "Row.__init__" (defArgs s_Row_init) (defBody s_Row_init) (defScope s_Row_init) (d_Row_init.dvs K) (d_Row_init.kws K) (He.ma K (He.ga K "Row") "__init__") fd := F
  obtain ⟨ds, hv, B⟩ := FunD.binds1 (ps := P_Row_init) F' 3 2 (fun z => nomatch z) rfl (fun Tt kV doc pm an cdv ct us its h1 h2 => match us, h1, its, h2 with
    | [_, _, _], _, [_, _], _ => ⟨_, rfl, rfl⟩)
  have hds : ds = [] := by
    have hv' : Vals [] ds := hv
    cases hv'
    rfl
  subst hds
  refine ⟨⟨fd, _, T.m_Row, fn_init (C := "Row") F' sc_Row_init (fun as R ⟨r, e, _, _⟩ => ?_) (fun cdv A outer s' H S0 H0 E p as R hr ⟨r, e, hl, ef⟩ => ?_), B⟩, T.g_Row⟩
  · subst e
    exact ⟨rfl, by simp [isMut]⟩
  · subst e ef
    have hcomp : ∀ b : Bool, b = true → ((!true) || (!b)) = false := by intro b h; rw [h]; rfl
    refine dss_ifr (DT.eq (DW.q (wt_or (dt_not (dt_val (de_call (ok_is_sequence T) (hr.mono (by decide)) (da_cons (de_v 1) da_nil) ⟨_, Or.inl rfl, rfl⟩))) fun _ => (wt_or1 (dt_not (dt_val (de_all (bs := r.tests.map fun _ => true) T.f_all (DL.mono (dl_lc (own := [(".0", 3), ("test", 4)]) (di_list (RL := fun z => z = tsD r.tests) (DR.mono (de_v 1) fun d e => ⟨_, e, rfl⟩))
      (lc_all r.tests (fun t => Dt.str (tstS t)) (fun _ => Dt.bl true) (by omega) (fun _ _ => rfl) (fun t => [.own p "Row" [], .dat (.lst (tsD r.tests)), .dat (.str (ddS r.deed)), .un, .dat (.str (tstS t))]) (L := [4]) (by simp) (fun a _ s Hb C cl fp => dg_name 4 rfl sc_Row_init.nd)
        (fun a _ s Hb C cl fp => de_call (ok_is_test T) (hr.mono (by decide)) (da_cons (de_v 4) da_nil) ⟨a, rfl, rfl⟩)) sc_Row_init.nd (blkOk_by (show blkC N_Row_init (defScope s_Row_init) _ _ = true by decide +kernel))) fun l e => by rw [e, List.map_map]; rfl))))))) (d' := false) (hcomp _ (all_true _))) (fun hc => by cases hc) (fun _ => ?_)
    refine dss_ifr (DT.eq (dt_not (dt_val (de_call (ok_is_word T) (hr.mono (by decide)) (da_cons (de_v 2) (da_cons (de_gtup T.g_DEEDS T.t_DEEDS) da_nil)) ⟨_, _, rfl, rfl⟩))) (d' := false) (by rw [dd_in] <;> rfl)) (fun hc => by cases hc) (fun _ => ?_)
    refine dss_then (ρ1 := [.own p "Row" (rowP1 (.tup (tsD r.tests))), .dat (.lst (tsD r.tests)), .dat (.str (ddS r.deed)), .un, .un]) (ds_setown 0 (fs := []) (de_ct T.f_tuple bt_tuple (da_cons (de_v 1) da_nil) cd_tupL) T.c_Row T.n_Row_tests rfl (by decide)) ?_
    refine dss_then (ρ1 := [.own p "Row" (rowP2 (.tup (tsD r.tests)) (.str (ddS r.deed))), .dat (.lst (tsD r.tests)), .dat (.str (ddS r.deed)), .un, .un]) (ds_setown 0 (fs := rowP1 (.tup (tsD r.tests))) (de_v 2) T.c_Row T.n_Row_deed (by rw [row_put2] <;> rfl) (Nat.lt_of_lt_of_le (show (1 : Nat) < 2 by decide) (by decide))) ?_
    refine dss_one (ds_setownR 0 (fs := rowP2 (.tup (tsD r.tests)) (.str (ddS r.deed))) (dr_call1 (ok_text_of T) (hr.mono (by decide)) (da_cons (de_own 0 T.c_Row T.n_Row_tests row_look) (da_cons (de_v 2) da_nil)) ⟨_, _, rfl, hl, rfl⟩) T.c_Row T.n_Row_text (fun d ⟨t, e, ht⟩ => ⟨rwF r t, by rw [e, row_put3] <;> rfl, t, rfl, ht⟩) (Nat.lt_of_lt_of_le (show (2 : Nat) < 3 by decide) (by decide)))
end

end DL
/-! DLv -/
set_option Elab.async false
set_option linter.all false
set_option maxRecDepth 100000
set_option maxHeartbeats 4000000
namespace DL
open PySem PySem.Spec PyProof.Rows L2
section
variable {X : Cx} {ρ : List Sl} {pos : Pos} {tg iter kx vx : Expr} {R : Dt → Prop}
theorem dc_it {J : It} {n : Nat} {G : Hp → Prop} {Y : Nat → Hp → V → Hp → Prop} (w : Walk J n G Y) {g : TG} {tt : TT} {tk tv : TE} {vs : List Nat} {σ : L2.St} {H1 : Hp} {D : Addr} {Qd : Hp → Prop} (Pv : Nat → Hp → Prop) (h0 : Pv 0 (upd H1 D (.dK []))) (hG : ∀ i H, i ≤ n → Pv i H → G H)
    (hs : ∀ i x H H', i < n → Pv i H → Y i H x H' → g x (L2.wipe σ vs) H' fun σ2 H2 => L2.wipe σ2 vs = L2.wipe σ vs ∧ tt σ2 H2 fun b H3 =>
      if b = true then tk σ2 H3 fun y H4 => tv σ2 H4 fun z H5 => ∃ kvs k, y = kV k ∧ H5 D = some (.dK kvs) ∧ kvs.length < sizeLine ∧ Pv (i + 1) (upd H5 D (.dK (putK kvs k z))) else Pv (i + 1) H3) (hd : ∀ H, Pv n H → Qd H) :
    ∃ W : Nat → Nat → Hp → Prop, (∃ m, W 0 m (upd H1 D (.dK []))) ∧ ∀ i m H, W i m H →
      (J.stop i H ∧ Qd H) ∨ (J.go i H ∧ ∃ Nx : Hp → Prop, (∀ H', Nx H' → ∃ m', m' < m ∧ W (i + 1) m' H') ∧ ∀ x H', J.yld i H x H' → g x (L2.wipe σ vs) H' fun σ2 H2 => L2.wipe σ2 vs = L2.wipe σ vs ∧ tt σ2 H2 fun b H3 =>
        if b = true then tk σ2 H3 fun y H4 => tv σ2 H4 fun z H5 => ∃ kvs k, y = kV k ∧ H5 D = some (.dK kvs) ∧ kvs.length < sizeLine ∧ Nx (upd H5 D (.dK (putK kvs k z))) else Nx H3) := by
  refine ⟨fun i m H => m = n - i ∧ i ≤ n ∧ Pv i H, ⟨n, by simp, Nat.zero_le _, h0⟩, ?_⟩
  rintro i m H ⟨rfl, hi, p⟩
  have q := hG i H hi p
  by_cases hlt : i < n
  · refine .inr ⟨w.goes i H hlt q, Pv (i + 1), fun H' p' => ⟨n - (i + 1), by omega, rfl, hlt, p'⟩, fun x H' y => hs i x H H' hlt p (w.yields i H x H' hlt q y)⟩
  · have e : i = n := by omega
    subst e
    exact .inl ⟨w.stops H q, hd H p⟩
theorem putK_new {kvs : List (Key × V)} {k : Key} {v : V} (h : k ∉ kvs.map (·.1)) : (putK kvs k v).map (·.1) = kvs.map (·.1) ++ [k] := by
  unfold putK
  rw [if_neg (by
    intro z
    obtain ⟨p, hp, e⟩ := List.any_eq_true.mp z
    exact h (List.mem_map.mpr ⟨p, hp, of_decide_eq_true e⟩)), List.map_append]
  rfl
variable {scope : Scope} {own : List (Str × Nat)}
theorem de_lenDC (as : List Str) (ρ2 : Str → List Sl) {L : List Nat} {p p2 : Pos} (hm : X.mg "len" = none) (hit : DI X tg iter ρ (fun ds => ds = as.map Dt.str)) (hnd : as.Nodup) (hlen : as.length < 100000) (hL : ∀ j ∈ L, j ∈ own.map (·.2))
    (hgt : ∀ a ∈ as, ∀ s Hb C cl fp, DG (Bk X scope s Hb C cl fp) tg (.str a) L (wipeS ρ (own.map (·.2))) (fun z => z = ρ2 a))
    (hk : ∀ a ∈ as, ∀ s Hb C cl fp, DE (Bk X scope s Hb C cl fp) kx (ρ2 a) (.str a)) (hv : ∀ a ∈ as, ∀ s Hb C cl fp, DR (Bk X scope s Hb C cl fp) vx (ρ2 a) R)
    (hN : X.N.Nodup) (ok : BlkOk X.N X.env.scope scope own) (hc : X.calm = true := by rfl) (hs : ∀ x, foldedSetIterable iter X.env x = pure x := by intro _; rfl)
    (hg : Gl X "len" := by rfl) (he : starEach [Expr.DictComp kx vx [⟨tg, iter, [], 0⟩] scope pos] X.env = [(false, eval (Expr.DictComp kx vx [⟨tg, iter, [], 0⟩] scope pos) X.env)] := by rfl) :
    DE X (.Call (.Name "len" p) [Expr.DictComp kx vx [⟨tg, iter, [], 0⟩] scope pos] [] p2) ρ (.int (as.length : Int)) := fun Hs H σ E Q q =>
  have PD : PE X (Expr.DictComp kx vx [⟨tg, iter, [], 0⟩] scope pos) (tDc (wpI X tg iter) (gB X scope tg) (tB' X scope []) (eB X scope kx) (eB X scope vx) (own.map (·.2))) :=
    pe_dc hc hN pi_wp ok (fun s H C cl fp => ⟨fun pins s' σ H v u Q I r h => h _ _ _ _ _ pins s' u I r⟩) (fun s H C cl fp => ⟨fun pins s' σ H Q I h => h _ _ _ _ _ pins s' I⟩) (fun s H C cl fp => ⟨fun pins s' σ H Q I h => h _ _ _ _ _ pins s' I⟩) (fun s H C cl fp => ⟨fun pins s' σ H Q I h => h _ _ _ _ _ pins s' I⟩) hs
  wpE_of (pe_callB call_lenD hg hm bt_len (pa_cons PD pa_nil he) (by decide) (by decide) (by rw [he]; rfl) rfl)
    (hit Hs H σ E _ fun J H1s H1 ds t1 r ⟨G, Y, W, hG, hY⟩ Dl hD => by
      subst r
      have E1 := (E.step t1).wipe (own.map (·.2))
      refine dc_it W (fun i H' => ∃ Hs' kvs, Step H1s H1 Hs' H' ∧ Hs' Dl = none ∧ H' Dl = some (.dK kvs) ∧ kvs.map (·.1) = (as.take i).map Sum.inr) ?_ (fun i H' _ ⟨Hs', _, t, _⟩ => hG Hs' H' t.fz t.sub) (fun i x H2 H3 hi ⟨Hs2, kvs, t2, p1, p2, p3⟩ y => ?_) (fun H' ⟨Hs', kvs, t, p1, p2, p3⟩ => ?_)
      · exact ⟨H1s, [], Step.newM t1.sub hD, t1.sub.free hD, upd_same, rfl⟩
      · obtain ⟨Hs3, d, t3, hd3, hr3⟩ := hY i Hs2 H2 x H3 hi t2.fz t2.sub y
        rw [List.getElem?_map] at hd3
        cases ha : as[i]? with
        | none => rw [ha] at hd3; cases hd3
        | some a =>
          rw [ha] at hd3
          have ed : Dt.str a = d := by simpa using hd3
          subst ed
          have hmem := List.mem_of_getElem? ha
          have E3 := (E1.step t2).step t3
          intro s Hb C cl fp
          refine hgt a hmem s Hb C cl fp Hs3 H3 (L2.wipe σ (own.map (·.2))) x E3 hr3 _ fun σ4 ρ4 Hs4 H4 t4 E4 A4 m4 => ?_
          subst m4
          refine ⟨wipe_same hL A4.len (fun j hj => (A4.out j hj).1), fun s Hb C cl fp => (dqs_nil : DQs (Bk X scope s Hb C cl fp) [] (ρ2 a) (fun z => z = true)) Hs4 H4 σ4 E4 _ fun k Hs5 H5 t5 kB => ?_⟩
          subst kB
          show eB X scope kx σ4 H5 _
          intro s Hb C cl fp
          refine hk a hmem s Hb C cl fp Hs5 H5 σ4 (E4.step t5) _ fun v Hs6 H6 t6 ⟨g, r6, p6⟩ => ?_
          show eB X scope vx σ4 H6 _
          intro s Hb C cl fp
          refine hv a hmem s Hb C cl fp Hs6 H6 σ4 ((E4.step t5).step t6) _ fun v2 Hs7 H7 t7 ⟨g2, r7, p7⟩ => ?_
          have tt := ((((t3.trans t4).trans t5).trans t6).trans t7)
          have k1 := t2.trans tt
          have kD := tt.keep _ _ p2 (fun ⟨_, _, z⟩ => nomatch z)
          have kN := tt.new _ (by rw [p2]; exact fun z => nomatch z) p1
          have hkl : kvs.length = (as.take i).length := by
            have := congrArg List.length p3
            simpa using this
          have hnew : (Sum.inr a : Key) ∉ kvs.map (·.1) := by
            rw [p3]
            intro z
            obtain ⟨b, hb, e⟩ := List.mem_map.mp z
            have e' : b = a := Sum.inr.inj e
            subst e'
            obtain ⟨j, hj, hjb⟩ := List.getElem_of_mem hb
            have hjl : j < i := by rw [List.length_take] at hj; omega
            have hil : i < as.length := by
              by_cases q : i < as.length
              · exact q
              · rw [List.getElem?_eq_none (by omega)] at ha; cases ha
            rw [List.getElem?_eq_getElem hil] at ha
            have ha' : as[i] = b := by simpa using ha
            rw [List.getElem_take] at hjb
            exact absurd (hjb.trans ha'.symm) (List.pairwise_iff_getElem.mp hnd j i (by omega) hil hjl)
          have ev : v = .str a := by
            subst r6
            exact p6.str_inv
          refine ⟨kvs, Sum.inr a, ev, kD, ?_, Hs7, _, k1.mut hD kN, kN, upd_same, ?_⟩
          · rw [hkl, List.length_take]
            exact Nat.lt_of_le_of_lt (show min i as.length ≤ 99999 by omega) (by decide)
          · rw [putK_new hnew, p3, List.take_add_one, ha, List.map_append] <;> rfl
      · have hkl : kvs.length = as.length := by
          have := congrArg List.length p3
          simpa using this
        refine ⟨Dl, kvs, rfl, p2, ?_⟩
        rw [hkl]
        exact q _ Hs' H' (t1.trans t) ⟨_, rfl, .int _⟩)
end
end DL
/-! Px -/
set_option Elab.async false
set_option linter.all false
set_option maxRecDepth 100000
set_option maxHeartbeats 4000000
namespace DL
open PySem PySem.Spec PyProof.Rows L2
local macro_rules | `(tactic| walk_at "od") => `(tactic| first | exact od_eqS | exact od_neS | exact od_inT | exact od_notInT | exact od_inL | exact od_notInL | exact od_eqB | exact od_neB)
local macro_rules | `(tactic| walk_at "len") => `(tactic| first | omega | (simp only [List.length_append, List.length_cons, List.length_nil, List.length_take, List.length_drop]; omega))
section
variable {P : Program} {w : World} {K : PySem.W.Frag} {mg : Str → Option Value} {base : Heap}
def S_Reader : List Sl → (List (Str × Dt) → Prop) → Prop := fun as R => ∃ (up : Bool) (rs : List (Rw × Str)), as = [.dat (.str (wayS up)), .dat (.lst (rs.map rwD))] ∧ rs.length ≤ 10 ∧ (∀ q ∈ rs, q.2.length ≤ 200) ∧ R = fun fds => ∃ t : Str, fds = rdF ⟨up, rs, t⟩ ∧ t.length ≤ 3000
theorem way_in (up : Bool) : decide (wayS up ∈ (["up", "down"] : List Str)) = true := by cases up <;> decide +kernel
abbrev rdP1 (x : Dt) : List (Str × Dt) := [("way", x)]
abbrev rdP2 (x y : Dt) : List (Str × Dt) := [("way", x), ("rows", y)]
abbrev rdP3 (x y z : Dt) : List (Str × Dt) := [("way", x), ("rows", y), ("text", z)]
theorem rd_put2 {x y : Dt} : putD "rows" y (rdP1 x) = rdP2 x y := by kernel_rfl
theorem rd_put3 {x y z : Dt} : putD "text" z (rdP2 x y) = rdP3 x y z := by kernel_rfl
theorem ok_Reader (T : Top w K mg) : FnI P w K mg base "Reader" 3 P_Reader_init S_Reader := by
  obtain ⟨fd, F⟩ := T.fn 71
  have F' : FunD K "__init__" "Reader.__init__" (defArgs s_Reader_init) (defBody s_Reader_init) (defScope s_Reader_init) (d_Reader_init.dvs K) (d_Reader_init.kws K) (He.ma K (He.ga K "Reader") "__init__") fd := F
  obtain ⟨ds, hv, B⟩ := FunD.binds1 (ps := P_Reader_init) F' 3 1 (fun z => nomatch z) rfl (fun Tt kV doc pm an cdv ct us its h1 h2 => match us, h1, its, h2 with
    | [_, _, _], _, [_], _ => ⟨_, rfl, rfl⟩)
  have hds : ds = [] := by
    have hv' : Vals [] ds := hv
    cases hv'
    rfl
  subst hds
  refine ⟨⟨fd, _, T.m_Reader, fn_init (C := "Reader") F' sc_Reader_init (fun as R ⟨up, rs, e, _, _, _⟩ => ?_) (fun cdv A outer s' H S0 H0 E p as R hr ⟨up, rs, e, hl, ht, ef⟩ => ?_), B⟩, T.g_Reader⟩
  · subst e
    exact ⟨rfl, by simp [isMut]⟩
  · subst e ef
    have hcomp : ∀ b : Bool, b = true → ((!true) || (!b)) = false := by intro b h; rw [h]; rfl
    refine dss_ifr (DT.eq (dt_not (dt_val (de_call (ok_is_word T) (hr.mono (by decide)) (da_cons (de_v 1) (da_cons (de_gtup T.g_WAYS T.t_WAYS) da_nil)) ⟨_, _, rfl, rfl⟩))) (d' := false) (by rw [way_in] <;> rfl)) (fun hc => by cases hc) (fun _ => ?_)
    refine dss_ifr (DT.eq (DW.q (wt_or (dt_not (dt_val (de_call (ok_is_sequence T) (hr.mono (by decide)) (da_cons (de_v 2) da_nil) ⟨_, Or.inl rfl, rfl⟩))) fun _ => (wt_or1 (dt_not (dt_val (de_all (bs := rs.map fun _ => true) T.f_all (DL.mono (dl_lc (own := [(".0", 3), ("row", 4)]) (di_list (RL := fun z => z = rs.map rwD) (DR.mono (de_v 2) fun d e => ⟨_, e, rfl⟩))
      (lc_all rs (fun t => rwD t) (fun _ => Dt.bl true) (by omega) (fun _ _ => rfl) (fun t => [.own p "Reader" [], .dat (.str (wayS up)), .dat (.lst (rs.map rwD)), .un, .dat (rwD t)]) (L := [4]) (by simp) (fun a _ s Hb C cl fp => dg_name 4 rfl sc_Reader_init.nd)
        (fun a _ s Hb C cl fp => de_isiRow (fs := rwF a.1 a.2) T (de_v 4))) sc_Reader_init.nd (blkOk_by (show blkC N_Reader_init (defScope s_Reader_init) _ _ = true by decide +kernel))) fun l e => by rw [e, List.map_map]; rfl))))))) (d' := false) (hcomp _ (all_true _))) (fun hc => by cases hc) (fun _ => ?_)
    refine dss_then (ρ1 := [.own p "Reader" (rdP1 (.str (wayS up))), .dat (.str (wayS up)), .dat (.lst (rs.map rwD)), .un, .un]) (ds_setown 0 (fs := []) (de_v 1) T.c_Reader T.n_Reader_way rfl (by decide)) ?_
    refine dss_then (ρ1 := [.own p "Reader" (rdP2 (.str (wayS up)) (.tup (rs.map rwD))), .dat (.str (wayS up)), .dat (.lst (rs.map rwD)), .un, .un]) (ds_setown 0 (fs := rdP1 (.str (wayS up))) (de_ct T.f_tuple bt_tuple (da_cons (de_v 2) da_nil) cd_tupL) T.c_Reader T.n_Reader_rows (by rw [rd_put2] <;> rfl) (Nat.lt_of_lt_of_le (show (1 : Nat) < 2 by decide) (by decide))) ?_
    refine dss_one (ds_setownR 0 (fs := rdP2 (.str (wayS up)) (.tup (rs.map rwD))) (dr_call1 (ok_reader_text T) (hr.mono (by decide)) (da_cons (de_v 1) (da_cons (de_v 2) da_nil)) ⟨_, _, rfl, hl, ht, rfl⟩) T.c_Reader T.n_Reader_text (fun d ⟨t, e, ht⟩ => ⟨rdF ⟨up, rs, t⟩, by rw [e, rd_put3] <;> rfl, t, rfl, ht⟩) (Nat.lt_of_lt_of_le (show (2 : Nat) < 3 by decide) (by decide)))
end

end DL
/-! Py -/
set_option Elab.async false
set_option linter.all false
set_option maxRecDepth 100000
set_option maxHeartbeats 4000000
namespace DL
open PySem PySem.Spec PyProof.Rows L2
local macro_rules | `(tactic| walk_at "od") => `(tactic| first | exact od_eqS | exact od_neS | exact od_inT | exact od_notInT | exact od_inL | exact od_notInL | exact od_eqB | exact od_neB)
local macro_rules | `(tactic| walk_at "len") => `(tactic| first | omega | (simp only [List.length_append, List.length_cons, List.length_nil, List.length_take, List.length_drop]; omega))
section
variable {P : Program} {w : World} {K : PySem.W.Frag} {mg : Str → Option Value} {base : Heap}
theorem w4_all : (W4.map fun x => decide (x ∈ W4)).all id = true := by decide +kernel
theorem w4_nd : W4.Nodup := by decide +kernel
theorem w4_eq : W4D = .tup (W4.map Dt.str) := rfl
def S_need_words : List Sl → (Dt → Prop) → Prop := fun as R => as = [.dat W4D] ∧ R = fun d => d = W4D
theorem ok_need_words (T : Top w K mg) : Fn P w K mg base "need_words" 2 P_need_words S_need_words := by
  refine Fn.mk1 (st := s_need_words) T 4 rfl T.g_need_words (fun fd F => fn_one F sc_need_words ?_) (fun _ _ _ _ _ _ us hl => match us, hl with | [_], _ => rfl)
  rintro as R ⟨rfl, rfl⟩
  refine ⟨⟨rfl, by simp [isMut]⟩, fun cdv A outer s' H S0 E hr => ?_⟩
  have hcomp : ∀ b : Bool, b = true → ((!true) || (!b)) = false := by intro b h; rw [h]; rfl
  refine dss_ifr (DT.eq (DW.q (wt_or (dt_not (dt_val (de_call (ok_is_sequence T) hr (da_cons (de_v 0) da_nil) ⟨_, Or.inr rfl, rfl⟩))) fun _ => (wt_or1 (dt_not (dt_val (de_all (bs := W4.map fun x => decide (x ∈ W4)) T.f_all (DL.mono (dl_lc (own := [(".0", 1), ("word", 2)]) (di_tup (RL := fun z => z = W4.map Dt.str) (DR.mono (de_v 0) fun d e => ⟨_, e, rfl⟩))
      (lc_all W4 Dt.str (fun x => Dt.bl (decide (x ∈ W4))) (by decide) (fun _ _ => rfl) (fun t => [.dat W4D, .un, .dat (.str t)]) (L := [2]) (by simp) (fun a _ s Hb C cl fp => dg_name 2 rfl sc_need_words.nd)
        (fun a _ s Hb C cl fp => de_call (ok_is_word T) hr (da_cons (de_v 2) (da_cons (de_gtup T.g_WORDS T.t_WORDS) da_nil)) ⟨_, _, rfl, rfl⟩)) sc_need_words.nd (blkOk_by (show blkC N_need_words (defScope s_need_words) _ _ = true by decide +kernel))) fun l e => by rw [e, List.map_map]; rfl))))))) (d' := false) (hcomp _ w4_all)) (fun hc => by cases hc) (fun _ => ?_)
  refine dss_ifr (DT.eq (dt_cmp (de_lenT T.f_len (de_v 0)) (de_lenDC (own := [(".0", 1), ("word", 2)]) W4 (fun t => [.dat W4D, .un, .dat (.str t)]) (L := [2]) T.f_len (di_tup (RL := fun z => z = W4.map Dt.str) (DR.mono (de_v 0) fun d e => ⟨_, e, rfl⟩)) w4_nd (by decide) (by simp) (fun a _ s Hb C cl fp => dg_name 2 rfl sc_need_words.nd) (fun a _ s Hb C cl fp => de_v 2) (fun a _ s Hb C cl fp => de_bl) sc_need_words.nd (blkOk_by (show blkC N_need_words (defScope s_need_words) _ _ = true by decide +kernel))) od_neI) (d' := false) (by rfl)) (fun hc => by cases hc) (fun _ => ?_)
  exact dss_one (ds_retE (de_ct T.f_tuple bt_tuple (da_cons (de_v 0) da_nil) cd_tupT) rfl)
end

end DL
/-! Pz -/
set_option Elab.async false
set_option linter.all false
set_option maxRecDepth 100000
set_option maxHeartbeats 4000000
namespace DL
open PySem PySem.Spec PyProof.Rows L2
local macro_rules | `(tactic| walk_at "od") => `(tactic| first | exact od_eqS | exact od_neS | exact od_inT | exact od_notInT | exact od_inL | exact od_notInL | exact od_eqB | exact od_neB)
local macro_rules | `(tactic| walk_at "len") => `(tactic| first | omega | (simp only [List.length_append, List.length_cons, List.length_nil, List.length_take, List.length_drop]; omega))
section
variable {P : Program} {w : World} {K : PySem.W.Frag} {mg : Str → Option Value} {base : Heap}
def S_nexts : List Sl → (Dt → Prop) → Prop := fun as R => ∃ (r : Rd') (h : Hs) (s : Sc), as = [.dat (rdD r), .dat (hsD h), .dat (scD s), .dat W4D] ∧ RdOk r ∧ HOk h ∧ WF h s ∧ R = fun d => ∃ l, d = .tup l ∧ TrOk h r.up s l
theorem ok_nexts (T : Top w K mg) : FnD P w K mg base "nexts" 8 P_nexts [W4D] S_nexts := by
  obtain ⟨fd, F⟩ := T.fn 36
  have F' : FunD K "nexts" "nexts" (defArgs s_nexts) (defBody s_nexts) (defScope s_nexts) [] [("words", .ref (He.ga K "WORDS"))] (He.ga K "nexts") fd := F
  obtain ⟨ds, hv, B⟩ := FunD.binds0 (ps := P_nexts) F' 3 (fun z => nomatch z) rfl (fun D doc pm an cdv ct us ks h1 h2 => match us, h1, ks, h2 with
    | [_, _, _], _, [_], _ => ⟨_, _, _, _, _, _, rfl, rfl, rfl⟩)
  refine ⟨⟨fd, _, ds, fn_data F' sc_nexts (fun as R ⟨r, h, s, e, _, _, _, _⟩ => ?_) (fun cdv A outer s' H S0 E as R hr ⟨r, h, s, e, hrd, ho, wf, er⟩ => ?_), B, hv, fun Hs => .cons (.tup (T.t_WORDS Hs) (repStrs _)) .nil⟩, F.kp, T.g_nexts⟩
  · subst e
    exact ⟨rfl, by simp [isMut]⟩
  · subst e er
    refine dss_one (ds_ret (dr_ct (S := fun as => ∃ l, as = [.dat (.lst l)] ∧ TrOk h r.up s l) T.f_tuple bt_tuple (dar_cons (DL.fz (dl_call1 (ok_triples T) hr (da_cons (de_v 0) (da_cons (de_v 1) (da_cons (de_v 2) (da_cons (de_call (ok_need_words T) (hr.mono (by decide)) (da_cons (de_v 3) da_nil) ⟨rfl, rfl⟩) da_nil)))) ⟨_, _, _, rfl, hrd, ho, wf, rfl⟩)) da_nil (fun d as ⟨l, e, q⟩ e2 => ⟨l, by rw [e, e2], q⟩)) (fun as ⟨l, e, q⟩ => ?_)))
    subst e
    intro Hs H vs E Q qq
    exact cd_tupL Hs H vs E Q fun z Hs' H' t ⟨g, e, rr⟩ => qq z Hs' H' t ⟨g, ⟨l, e, q⟩, rr⟩
end

end DL
/-! DLw -/
set_option Elab.async false
set_option linter.all false
set_option maxRecDepth 100000
set_option maxHeartbeats 4000000
namespace DL
open PySem PySem.Spec PyProof.Rows L2
theorem mergeK_nd : ∀ (more acc : List (Key × V)), ((acc ++ more).map (·.1)).Nodup → mergeK acc more = acc ++ more
  | [], acc, _ => by simp [mergeK]
  | p :: r, acc, h => by
    have hn : valV acc p.1 = none := by
      cases q : valV acc p.1 with
      | none => rfl
      | some v =>
        have hm := valV_in q
        rw [List.map_append, List.map_cons] at h
        exact absurd rfl ((List.nodup_append.mp h).2.2 _ hm _ (List.mem_cons_self ..))
    show mergeK (putK acc p.1 p.2) r = _
    rw [L2.putK_new p.2 hn, mergeK_nd r (acc ++ [(p.1, p.2)]) (by simpa using h)]
    simp
theorem RepKv.append {K : PySem.W.Frag} {H : Hp} : ∀ {vs us : List (Key × V)} {ds es : List (Str × Dt)}, RepKv K H vs ds → RepKv K H us es → RepKv K H (vs ++ us) (ds ++ es)
  | _, _, _, _, .nil, s => s
  | _, _, _, _, .cons r t, s => .cons r (RepKv.append t s)
theorem RepKv.keys {K : PySem.W.Frag} {H : Hp} : ∀ {vs : List (Key × V)} {ds : List (Str × Dt)}, RepKv K H vs ds → vs.map (·.1) = ds.map fun p => Sum.inr p.1
  | _, _, .nil => rfl
  | _, _, .cons r t => by rw [List.map_cons, List.map_cons, RepKv.keys t]
theorem keys_nd {ds : List (Str × Dt)} (h : (ds.map (·.1)).Nodup) : (ds.map fun p => (Sum.inr p.1 : Key)).Nodup :=
  List.pairwise_map.mpr ((List.pairwise_map.mp h).imp fun hab z => hab (Sum.inr.inj z))
def putKd (l : List (Str × Dt)) (k : Str) (d : Dt) : List (Str × Dt) := if (l.any fun p => decide (p.1 = k)) = true then l.map (fun p => if p.1 = k then (p.1, d) else p) else l ++ [(k, d)]
theorem RepKv.any {K : PySem.W.Frag} {H : Hp} (k : Str) : ∀ {vs : List (Key × V)} {ds : List (Str × Dt)}, RepKv K H vs ds → (vs.any fun kv => decide (kv.1 = Sum.inr k)) = ds.any fun p => decide (p.1 = k)
  | _, _, .nil => rfl
  | _, _, .cons (k := j) r t => by
    rw [List.any_cons, List.any_cons, RepKv.any k t]
    congr 1
    rw [Bool.eq_iff_iff]; simp
theorem RepKv.repl {K : PySem.W.Frag} {H : Hp} (k : Str) {v : V} {d : Dt} (h : Rep K H v d) : ∀ {vs : List (Key × V)} {ds : List (Str × Dt)}, RepKv K H vs ds → RepKv K H (vs.map fun kv => if kv.1 = Sum.inr k then (kv.1, v) else kv) (ds.map fun p => if p.1 = k then (p.1, d) else p)
  | _, _, .nil => .nil
  | _, _, .cons (k := j) r t => by
    rw [List.map_cons, List.map_cons]
    by_cases e : j = k
    · subst e
      rw [if_pos rfl, if_pos rfl]
      exact .cons h (RepKv.repl j h t)
    · rw [if_neg (fun z => e (Sum.inr.inj z)), if_neg e]
      exact .cons r (RepKv.repl k h t)
theorem RepKv.put {K : PySem.W.Frag} {H : Hp} (k : Str) {v : V} {d : Dt} (h : Rep K H v d) {vs : List (Key × V)} {ds : List (Str × Dt)} (r : RepKv K H vs ds) : RepKv K H (putK vs (Sum.inr k) v) (putKd ds k d) := by
  unfold putK putKd
  rw [r.any k]
  split
  · exact r.repl k h
  · exact r.append (.cons h .nil)
theorem RepKv.length {K : PySem.W.Frag} {H : Hp} : ∀ {vs : List (Key × V)} {ds : List (Str × Dt)}, RepKv K H vs ds → vs.length = ds.length
  | _, _, .nil => rfl
  | _, _, .cons r t => by rw [List.length_cons, List.length_cons, RepKv.length t]
section
variable {X : Cx} {S0 H0 : Hp} {ρ : List Sl} {D : DEnds} {a b c e f o : Expr} {es : List Expr} {R : Dt → Prop} {pos : Pos}
inductive DKs (X : Cx) (ρ : List Sl) : List (Option Expr) → List Expr → Nat → (List (Str × Dt) → Prop) → Prop
  | nil : DKs X ρ [] [] 0 (fun z => z = [])
  | cons {k : Str} {j n : Nat} {p : Pos} {v : Expr} {ks : List (Option Expr)} {vs : List Expr} {R : Dt → Prop} {S S' : List (Str × Dt) → Prop} : DR X v ρ R → DKs X ρ ks vs n S → (∀ d l, R d → S l → S' ((k, d) :: l)) → DKs X ρ (some (.Constant (.str k) j p) :: ks) (v :: vs) (n + 1) S'
def trsOf (X : Cx) : List (Option Expr) → List Expr → List (TE × TE)
  | some k :: ks, v :: vs => (wpE X k, wpE X v) :: trsOf X ks vs
  | _, _ => []
theorem DKs.pps {ks : List (Option Expr)} {vs : List Expr} {n : Nat} {S : List (Str × Dt) → Prop} (h : DKs X ρ ks vs n S) : PPs X pos ks vs (trsOf X ks vs) := by
  induction h with
  | nil => exact pps_nil
  | cons r t k ih => exact pps_cons pe_wp pe_wp ih
theorem DKs.len {ks : List (Option Expr)} {vs : List Expr} {n : Nat} {S : List (Str × Dt) → Prop} (h : DKs X ρ ks vs n S) : ks.length = vs.length ∧ ks.all (·.isSome) = true ∧ ks.length = n := by
  induction h with
  | nil => exact ⟨rfl, rfl, rfl⟩
  | cons r t k ih => exact ⟨by rw [List.length_cons, List.length_cons, ih.1], by rw [List.all_cons, ih.2.1]; rfl, by rw [List.length_cons, ih.2.2]⟩
theorem DKs.run {ks : List (Option Expr)} {vs : List Expr} {n : Nat} {S : List (Str × Dt) → Prop} (h : DKs X ρ ks vs n S) : ∀ (Hs H : Hp) (σ : L2.St), En X.K Hs H σ ρ → ∀ Q : List (V × V) → Hp → Prop, (∀ (kvs : List (Key × V)) l Hs' H', Step Hs H Hs' H' → RepKv X.K Hs' kvs l → kvs.length = ks.length → S l → Q (kvs.map fun kv => (kV kv.1, kv.2)) H') → tPairs (trsOf X ks vs) σ H Q := by
  induction h with
  | nil => exact fun Hs H σ E Q q => q [] [] Hs H (Step.refl E.sub) .nil rfl rfl
  | @cons k j n p v ks vs R S S' r t kk ih =>
    exact fun Hs H σ E Q q => wpE_of pe_str (r Hs H σ E _ fun x H1s H1 t1 ⟨d, r1, p1⟩ => ih H1s H1 σ (E.step t1) _ fun kvs l H2s H2 t2 g1 g2 g3 =>
      q ((Sum.inr k, x) :: kvs) ((k, d) :: l) H2s H2 (t1.trans t2) (.cons (Rep.mono t2.fz d x p1) g1) (by rw [List.length_cons, List.length_cons, g2]) (kk d l r1 g3))
/-- a new dict of data, not frozen -/
def PM (K : PySem.W.Frag) (S : List (Str × Dt) → Prop) : Hp → V → Hp → Hp → Prop := fun H v Hs' H' => ∃ p kvs l, v = .ref p ∧ H p = none ∧ Hs' p = none ∧ H' p = some (.dK kvs) ∧ RepKv K Hs' kvs l ∧ S l
def DDs (X : Cx) (e : Expr) (ρ : List Sl) (S : List (Str × Dt) → Prop) : Prop := TV X.K (wpE X e) ρ (PM X.K S)
theorem dd_disp {ks : List (Option Expr)} {vs : List Expr} {n : Nat} {S : List (Str × Dt) → Prop} (h : DKs X ρ ks vs n S) (hn : ∀ l, S l → (l.map (·.1)).Nodup) (h15 : 0 < n ∧ n ≤ 15) : DDs X (.Dict ks vs pos) ρ S := fun Hs H σ E Q q =>
  wpE_of (pe_disp h.pps h.len.2.1 h.len.1 (fun z => by have := h.len.2.2; rw [z, List.length_nil] at this; omega) (by rw [h.len.2.2]; exact h15.2)) fun p hp => by
    have t0 := Step.newM E.sub (o := .dK []) hp
    refine h.run Hs _ σ (E.step t0) _ fun kvs l Hs' H' t g1 g2 g3 => ?_
    have hsp : Hs p = none := E.sub.free hp
    have k1 : Hs' p = none := t.new p (by rw [upd_same]; exact fun z => nomatch z) hsp
    have k2 := t.keep p _ upd_same (fun ⟨_, _, z⟩ => nomatch z)
    refine ⟨k2, kvs, rfl, by rw [g2, h.len.2.2]; exact h15.2, ?_⟩
    refine q _ Hs' _ ((t0.trans t).mut hp k1) ⟨p, kvs, l, rfl, hp, k1, ?_, g1, g3⟩
    rw [upd_same, mergeK_nd kvs [] (by rw [List.nil_append, g1.keys]; exact keys_nd (hn l g3))] <;> rfl
theorem dk_nil : DKs X ρ [] [] 0 (fun z => z = []) := .nil
theorem dk_cons {k : Str} {j n : Nat} {p : Pos} {v : Expr} {ks : List (Option Expr)} {vs : List Expr} {d : Dt} {l : List (Str × Dt)} (h : DE X v ρ d) (t : DKs X ρ ks vs n (fun z => z = l)) : DKs X ρ (some (.Constant (.str k) j p) :: ks) (v :: vs) (n + 1) (fun z => z = (k, d) :: l) :=
  .cons h t fun d' l' h1 h2 => by rw [h1, h2]
theorem DDs.fz {S : List (Str × Dt) → Prop} (h : DDs X e ρ S) : DR X e ρ (fun d => ∃ l, d = .dct l ∧ S l) := fun Hs H σ E Q q => h Hs H σ E Q fun v Hs' H' t ⟨p, kvs, l, h1, h2, h3, h4, h5, h6⟩ =>
  q v (upd Hs' p (.dK kvs)) H' (t.freeze h2 h4 h3) ⟨.dct l, ⟨l, rfl, h6⟩, by
    rw [h1]
    exact .dct upd_same (RepKv.mono (Ex.new h3) l kvs h5)⟩
theorem DDs.fzE {l : List (Str × Dt)} (h : DDs X e ρ (fun z => z = l)) : DE X e ρ (.dct l) := DR.mono (DDs.fz h) fun d ⟨z, h1, h2⟩ => by rw [h1, h2]
def noMd : Sl → Bool
  | .md _ => false
  | _ => true
theorem At.mutM {K : PySem.W.Frag} {B : Hp} {σ : L2.St} {H Hs : Hp} {i : Nat} {p : Addr} {xs' : List (Key × V)} {ds ds' : List (Str × Dt)} (h1 : Ex B Hs) (h2 : Step S0 H0 Hs H) (h3 : En K Hs H σ ρ) (h4 : Fr H0 ρ σ)
    (hd : ρ[i]? = some (.md ds)) (hone : (ρ.set i .un).all noMd = true) (hσ : σ[i]? = some (some (.ref p))) (hr : RepKv K Hs xs' ds') : At K S0 H0 B (ρ.set i (.md ds')) σ (upd H p (.dK xs')) := by
  obtain ⟨p', xs, e1, hp, hH, hra⟩ := h3.sl i _ hd
  have e2 : p = p' := by rw [hσ] at e1; simpa using e1
  subst e2
  have hf := h4 i _ p hd rfl hσ
  have hi : i < ρ.length := (List.getElem?_eq_some_iff.mp hd).1
  refine ⟨Hs, h1, h2.mut hf hp, ⟨h3.sub.mut hp, by rw [List.length_set]; exact h3.len, fun j s hj => ?_, fun j k dj dk hj hk hjk => ?_⟩, fun j s q hj hm hq => ?_⟩
  · rcases getset hj with ⟨a1, e2⟩ | ⟨a1, e2⟩
    · subst a1 e2
      exact ⟨p, xs', hσ, hp, upd_same, hr⟩
    · have z := h3.sl j s e2
      cases s with
      | un => trivial
      | dat d => exact z
      | scr ns => exact z
      | ml dj =>
        obtain ⟨q, ys, z1, z2, z3, z4, z5⟩ := z
        have hqp : q ≠ p := fun w => by
          subst w
          rw [hH] at z3; cases z3
        exact ⟨q, ys, z1, z2, by rw [upd_ne hqp]; exact z3, z4, z5⟩
      | box =>
        obtain ⟨q, o, z1, z2, z3, z4⟩ := z
        have hqp : q ≠ p := fun w => by
          subst w
          rw [hH] at z3; cases z3
          obtain ⟨_, _, z5⟩ := z4
          cases z5
        exact ⟨q, o, z1, z2, by rw [upd_ne hqp]; exact z3, z4⟩
      | md kds =>
        have hm := List.all_eq_true.mp hone (.md kds) (List.mem_of_getElem? (i := j) (by rw [List.getElem?_set_ne a1]; exact e2))
        cases hm
      | own q C kds =>
        obtain ⟨dx, ys, z1, z2, z3, z4⟩ := z
        have hqp : q ≠ p := fun w => by
          subst w
          rw [hH] at z3; cases z3
        exact ⟨dx, ys, z1, z2, by rw [upd_ne hqp]; exact z3, z4⟩
  · rcases getset hj with ⟨_, e2⟩ | ⟨a1, e2⟩
    · cases e2
    · rcases getset hk with ⟨_, e3⟩ | ⟨b1, e3⟩
      · cases e3
      · exact h3.dis j k dj dk e2 e3 hjk
  · rcases getset hj with ⟨a1, e2⟩ | ⟨a1, e2⟩
    · subst a1
      exact h4 i _ q hd rfl hq
    · exact h4 j s q e2 hm hq
theorem At.setM {K : PySem.W.Frag} {B : Hp} {σ : L2.St} {H Hs' H' Hs : Hp} {i : Nat} {p : Addr} {xs : List (Key × V)} {ds : List (Str × Dt)} (h1 : Ex B Hs) (h2 : Step S0 H0 Hs H) (h3 : En K Hs H σ ρ) (h4 : Fr H0 ρ σ) (t : Step Hs H Hs' H')
    (g2 : H p = none) (g3 : Hs' p = none) (g4 : H' p = some (.dK xs)) (g5 : RepKv K Hs' xs ds) : At K S0 H0 B (ρ.set i (.md ds)) (σ.set i (some (.ref p))) H' := by
  have E := h3.step t
  have hl : ∀ {s : Sl}, (ρ.set i (.md ds))[i]? = some s → i < σ.length := fun {s} h => by
    rw [E.len]
    by_cases q : i < ρ.length
    · exact q
    · rw [List.getElem?_eq_none (by rw [List.length_set]; omega)] at h; cases h
  refine ⟨Hs', h1.trans t.fz, h2.trans t, ⟨E.sub, by rw [List.length_set, List.length_set, E.len], fun j s hj => ?_, fun j k dj dk hj hk hjk => ?_⟩, fun j s q hj hm hq => ?_⟩
  · rcases getset hj with ⟨a1, e2⟩ | ⟨a1, e2⟩
    · subst a1 e2
      exact ⟨p, xs, List.getElem?_set_self (hl hj), g3, g4, g5⟩
    · rw [List.getElem?_set_ne a1]
      exact E.sl j s e2
  · rcases getset hj with ⟨_, e2⟩ | ⟨a1, e2⟩
    · cases e2
    · rcases getset hk with ⟨_, e3⟩ | ⟨b1, e3⟩
      · cases e3
      · rw [List.getElem?_set_ne a1, List.getElem?_set_ne b1]
        exact E.dis j k dj dk e2 e3 hjk
  · rcases getset hj with ⟨a1, e2⟩ | ⟨a1, e2⟩
    · subst a1
      rw [List.getElem?_set_self (hl hj)] at hq
      have e4 : p = q := by simpa using hq
      rw [← e4]
      exact h2.free g2
    · rw [List.getElem?_set_ne a1] at hq
      exact h4 j s q e2 hm hq
/-- x = {..} -/
theorem ds_setM (i : Nat) {x : Str} {p2 : Pos} {S : List (Str × Dt) → Prop} (h : DDs X e ρ S) (hn : ∀ l, S l → D.nx (ρ.set i (.md l))) (hN : X.N.Nodup) (hi : X.N[i]? = some x := by rfl) (hx : Loc X.env.scope x := by first | exact Or.inl rfl | exact Or.inr rfl) (hs : swapsWith e (some (.Name x p2)) pos.line X.env = pure false := by rfl)
    (hf : X.fn x = true ∨ X.env.scope.names.lookup x = some .local := by first | exact .inl rfl | exact .inr rfl) : DS X S0 H0 (.Assign [.Name x p2] e pos) ρ D := fun B σ H ⟨Hs, h1, h2, h3, h4⟩ =>
  wpS_of (ps_set hN hi hx pe_wp hs hf) (h Hs H σ h3 _ fun v Hs' H' t ⟨p, xs, ds, g1, g2, g3, g4, g5, g6⟩ => by
    subst g1
    exact ⟨_, hn ds g6, At.setM h1 h2 h3 h4 t g2 g3 g4 g5⟩)
/-- x["k"] = e -/
theorem ds_putM (i : Nat) {x k : Str} {j : Nat} {p1 p2 p3 : Pos} {ds : List (Str × Dt)} (hu : X.A.units + 1 < cLine) (h : DR X e ρ R) (hn : ∀ d, R d → D.nx (ρ.set i (.md (putKd ds k d)))) (hlen : ds.length < 1000) (hone : (ρ.set i .un).all noMd = true := by rfl) (hd : ρ[i]? = some (.md ds) := by rfl) (hN : X.N[i]? = some x := by rfl)
    (hv : Vis X.env.scope x := by first | exact Or.inl rfl | exact Or.inr (Or.inl rfl) | exact Or.inr (Or.inr rfl)) (hx1 : (x == ("__debug__" : Str)) = false := by decide) (hx2 : (x == ("__classdict__" : Str)) = false := by decide)
    (hs : swapsWith e (some (.Subscript (.Name x p1) (.Constant (.str k) j p3) p2)) pos.line X.env = pure false := by rfl) : DS X S0 H0 (.Assign [.Subscript (.Name x p1) (.Constant (.str k) j p3) p2] e pos) ρ D := fun B σ H ⟨Hs, h1, h2, h3, h4⟩ => by
  refine wpS_of (ps_dput hu (pe_var hN hv hx1 hx2) pe_str pe_wp hs) (h Hs H σ h3 _ fun v Hs' H' t ⟨d, r, pr⟩ => ?_)
  obtain ⟨p, kvs, e1, hp, hH, hra⟩ := (h3.step t).sl i _ hd
  refine ⟨.ref p, e1, p, upd H' p (.dK (putK kvs (Sum.inr k) v)), rfl, DPut.k (k := Sum.inr k) hH (Nat.lt_of_lt_of_le (by rw [hra.length]; exact hlen) (by decide)), _, hn d r, ?_⟩
  exact At.mutM (h1.trans t.fz) (h2.trans t) (h3.step t) h4 hd hone e1 (hra.put k pr)
/-- d.update(e) -/
theorem d_update {pins : List (Addr × Obj)} {σ : L2.St} {H : Hp} {s : Shared} {a b : Addr} {kvs more : List (Key × V)} {A : Around} {E : Value → Shared → Prop} {Q : Value → Shared → Prop} (I : Inv X pins σ H s) (e : H a = some (.dK kvs)) (e2 : Rd H b (.dK more)) (hab : a ≠ b) (hz : kvs.length + more.length ≤ sizeLine)
    (h : ∀ s', Inv X pins σ (upd H a (.dK (mergeK kvs more))) s' → Q .none s') : wpAny (model X.prog X.w) A (call (.builtin "dict.update") [.ref a, .ref b]) Q E s := by
  obtain ⟨z, hd, vs, rel, dd⟩ := dk_of I.hok e
  obtain ⟨z2, hd2, vs2, rel2, dd2⟩ := dk_rd I.hok e2
  refine call_meetsIn PySem.F.slot_dict_update dd.typeIs PySem.F.entry_dict_update (PySem.F.args_dict_update_2 _ _) (meets_dict_update (mixKind X.prog X.w) a b hab hd2) ⟨vs, vs2, dd, dd2, by rw [← rel.length, ← rel2.length]; exact hz, fun h' dd' _ hs => h _ ?_⟩
  have he : ∃ q, h'.get? a = some q := let ⟨q, _, _, hq, _⟩ := dd'; ⟨q, hq⟩
  exact d_write (t' := s.toks) I (by rw [e]; exact True.intro) hs he (dk_new (Nat.le_trans (length_mergeK more kvs) hz) hd (rel2.merge rel) dd')
def tDUpd (td ty : TE) : TE := fun σ H Q => td σ H fun x H1 => ∃ a, x = .ref a ∧ IsD H1 a ∧ ty σ H1 fun y H2 => ∃ b kvs more, y = .ref b ∧ H2 a = some (.dK kvs) ∧ H2 b = some (.dK more) ∧ a ≠ b ∧ kvs.length + more.length ≤ sizeLine ∧ Q .non (upd H2 a (.dK (mergeK kvs more)))
theorem pe_dupd {td ty : TE} {apos cpos : Pos} (ho : PE X o td) (he : PE X e ty) (m : M1 X o "update" apos e cpos) : PE X (.Call (.Attribute o "update" apos) [e] [] cpos) (tDUpd td ty) := by
  refine ⟨fun pins s σ H Q I h => ?_⟩
  refine wpAny_Call_method m.base m.few m.line PySem.F.plainAttrs_dict PySem.F.slot_dict_update PySem.F.type_dict_update (thn (ho.run pins s σ H _ I h) fun u s1 ⟨x, H1, I1, rx, a, ex, d, q1⟩ => ?_)
  subst ex
  obtain rfl : u = Value.ref a := rx
  obtain ⟨t1, t2, _⟩ := isD_at I1 d
  refine ⟨t1, t2, ?_⟩
  rw [m.trees]
  refine Calls.callWith_builtin rfl (Calls.evalArgs_plain (Calls.spliced_cons (thn (he.run pins s1 σ H1 _ I1 q1) fun iv s2 ⟨y, H2, I2, ry, b, kvs, more, ey, ea, eb, hab, hz, q2⟩ => Calls.spliced_nil ?_)))
  subst ey
  obtain rfl : iv = Value.ref b := ry
  exact d_update I2 ea (Or.inl eb) hab hz fun s3 I3 => ⟨.non, _, I3, rfl, q2⟩
/-- x.update(e) of other keys -/
theorem ds_update (i : Nat) {x : Str} {p1 p2 cpos : Pos} {ds : List (Str × Dt)} {S : List (Str × Dt) → Prop} (h : DDs X e ρ S) (hn : ∀ l, S l → ((ds ++ l).map (·.1)).Nodup ∧ l.length ≤ 100 ∧ D.nx (ρ.set i (.md (ds ++ l)))) (hlen : ds.length ≤ 100) (hone : (ρ.set i .un).all noMd = true := by rfl) (hd : ρ[i]? = some (.md ds) := by rfl) (hN : X.N[i]? = some x := by rfl)
    (hv : Vis X.env.scope x := by first | exact Or.inl rfl | exact Or.inr (Or.inl rfl) | exact Or.inr (Or.inr rfl)) (hx1 : (x == ("__debug__" : Str)) = false := by decide) (hx2 : (x == ("__classdict__" : Str)) = false := by decide)
    (m : M1 X (.Name x p1) "update" p2 e cpos := by exact ⟨rfl, rfl, rfl, rfl⟩)
    (hs : swapsWith (.Call (.Attribute (.Name x p1) "update" p2) [e] [] cpos) none pos.line X.env = pure false := by rfl) :
    DS X S0 H0 (.Expr (.Call (.Attribute (.Name x p1) "update" p2) [e] [] cpos) pos) ρ D := fun B σ H ⟨Hs, h1, h2, h3, h4⟩ => by
  obtain ⟨p, kvs, e1, hp, hH, hra⟩ := h3.sl i _ hd
  refine wpS_of (ps_expr (pe_dupd (pe_var hN hv hx1 hx2) pe_wp m) hs) ⟨.ref p, e1, p, rfl, Or.inl ⟨kvs, Or.inl hH⟩, h Hs H σ h3 _ fun v Hs' H' t ⟨b, more, l, g1, g2, g3, g4, g5, g6⟩ => ?_⟩
  subst g1
  obtain ⟨r1, r2, r3⟩ := hn l g6
  have hH' := t.keep p _ hH (fun ⟨_, _, z⟩ => nomatch z)
  have hpb : p ≠ b := fun z => by
    subst z
    rw [hH] at g2; cases g2
  have hra' := RepKv.mono t.fz ds kvs hra
  refine ⟨b, kvs, more, rfl, hH', g4, hpb, Nat.le_trans (by rw [hra.length, g5.length]; omega) (show (200 : Nat) ≤ sizeLine by decide), _, r3, ?_⟩
  rw [mergeK_nd more kvs (by rw [List.map_append, hra.keys, g5.keys, ← List.map_append]; exact keys_nd r1)]
  exact At.mutM (h1.trans t.fz) (h2.trans t) (h3.step t) h4 hd hone e1 (hra'.append g5)
end
end DL
/-! DLx -/
set_option Elab.async false
set_option linter.all false
set_option maxRecDepth 100000
set_option maxHeartbeats 4000000
namespace DL
open PySem PySem.Spec PyProof.Rows L2
section
variable {X : Cx} {S0 H0 : Hp} {ρ : List Sl} {D : DEnds} {a b c e f o : Expr} {es : List Expr} {R : Dt → Prop} {pos : Pos}
/-- e[::-1] -/
def tRevSl (K : PySem.W.Frag) (te tk : TE) : TE := fun σ H Q => te σ H fun x H1 => tk σ H1 fun y H2 => y = .int (-1) ∧ ∃ a xs, x = .ref a ∧ SqL K H2 a xs ∧ ∀ p, H2 p = none → Q (.ref p) (upd H2 p (.lst xs.reverse))
theorem vals_reverse : ∀ {xs : List V} {us : List Value}, Vals xs us → Vals xs.reverse us.reverse := by
  intro xs us h
  induction h with
  | nil => exact .nil
  | cons h t ih =>
    rw [List.reverse_cons, List.reverse_cons]
    exact ih.append (.cons h .nil)
theorem pe_slrev {te tk : TE} {k : Expr} {p2 : Pos} (he : PE X e te) (hk : PE X k tk) : PE X (.Subscript e (.Slice none none (some k) p2) pos) (tRevSl X.K te tk) := by
  refine ⟨fun pins s σ H Q I h => ?_⟩
  refine Subscript_ (thn (he.run pins s σ H _ I h) fun v s1 ⟨x, H1, I1, r1, q1⟩ => ?_)
  refine wpAny_Slice ?_
  rw [evalPart_none]
  refine wpAny_pure (wpAny_pure ?_)
  rw [evalPart_some]
  refine thn (hk.run pins s1 σ H1 _ I1 q1) fun vk s3 ⟨y, H3, I3, rk, q3⟩ => ?_
  obtain ⟨ey, a, xs, ex, hx, q⟩ := q3
  subst ey ex
  cases r1
  obtain ⟨tk', rfl⟩ := rk
  have I4 : Inv X pins σ H3 { s3 with heap := s3.heap.push { cls := .type "slice", data := .fields #[.none, .none, .int (-1) tk'] } } := I3.kept (t' := s3.toks) fun b ob q => Heap.get?_push_of_some _ q
  obtain ⟨its, r, ht, hz⟩ := I4.list hx
  have hlen := r.length
  refine tail_any (ops := [.ref a, .ref s3.heap.objs.size]) ht.isList.typeIs slot_list_getitem.lookup ?_ (by with_unfolding_all rfl)
  refine wpAny_getItem_list_slice ht.isList (Heap.IsSliceOf.new ..) .none .none (.int (-1) tk') (by decide) ?_ (by rw [List.size_toArray] <;> omega)
  rw [PySem.W.krv_pick]
  refine ⟨.ref (s3.heap.push _).objs.size, _, I4.laid (t' := s3.toks) (o := .lst xs.reverse) (fun b ob q => Heap.get?_push_of_some _ q) (Nat.le_refl _) ?_, rfl, q _ (I4.hok.fresh (Nat.le_refl _))⟩
  exact ⟨by rw [List.length_reverse]; exact hz, _, 0, vals_reverse r, Heap.get?_push_size _ rfl⟩
theorem dl_rev {k : Expr} {p2 : Pos} {RL : List Dt → Prop} (h : DL X e ρ RL) (hk : DE X k ρ (.int (-1))) (hnb : ∀ ds, RL ds → True) : DL X (.Subscript e (.Slice none none (some k) p2) pos) ρ (fun l => ∃ ds, RL ds ∧ l = ds.reverse) := fun Hs H σ E Q q =>
  wpE_of (pe_slrev pe_wp pe_wp) (h.fz Hs H σ E _ fun v H1s H1 t1 ⟨d, ⟨ds, r1, r2⟩, p1⟩ => hk H1s H1 σ (E.step t1) _ fun u H2s H2 t2 ⟨d2, e2, p2⟩ => by
    subst r1 e2
    obtain ⟨a, xs, h1, h2, h3⟩ := p1.lst_inv
    refine ⟨p2.int_inv, a, xs, h1, Or.inl (Or.inl (t2.sub _ _ (t2.fz _ _ h2))), fun p hp => ?_⟩
    exact q _ H2s _ ((t1.trans t2).trans (Step.newM t2.sub hp)) ⟨p, _, _, rfl, (t1.trans t2).free hp, t2.sub.free hp, upd_same, (RepAll.mono t2.fz _ _ h3).reverse, ds, r2, rfl⟩)
/-- xs.index(z), texts -/
theorem de_index {zs : List Str} {z : Str} (j : Nat) {apos cpos : Pos} (ho : DE X o ρ (.lst (zs.map Dt.str))) (he : DE X e ρ (.str z)) (hj : zs[j]? = some z) (hno : ∀ m, m < j → zs[m]? ≠ some z)
    (hbase : attributeBase o "index" X.env (eval o X.env) = eval o X.env := by rfl)
    (hfew : ((backTo cpos (starEach [e] X.env)).all (fun x => !x.1) && (backToKw cpos (keywordEach [] X.env)).all (fun x => x.1.isSome)
      && decide ([e].length + ([] : List Keyword).length + (if ([] : List Keyword).isEmpty then 0 else 1) < 30)) = true := by rfl)
    (hline : (apos.endLine == cpos.line) = true := by rfl) (hst : starEach [e] X.env = (false, eval e X.env) :: starEach [] X.env := by rfl) (hplain : (backTo cpos (starEach [] X.env)).any (·.1) = false := by rfl) :
    DE X (.Call (.Attribute o "index" apos) [e] [] cpos) ρ (.int (j : Nat)) := fun Hs H σ E Q q =>
  wpE_of (pe_bm PySem.F.plainAttrs_list PySem.F.slot_list_index PySem.F.type_list_index mt_index pe_wp (pa_cons pe_wp pa_nil hst) hbase hfew hline hst hplain) (ho Hs H σ E _ fun v H1s H1 t1 ⟨d, r, p⟩ => by
    subst r
    obtain ⟨a, xs, h1, h2, h3⟩ := p.lst_inv
    have h4 := strs_inv h3
    subst h1 h4
    refine ⟨Or.inl ⟨rfl, _, Or.inl (Or.inl (t1.sub _ _ h2))⟩, he H1s H1 σ (E.step t1) _ fun u H2s H2 t2 ⟨d2, r2, p2⟩ => ?_⟩
    subst r2
    rw [p2.str_inv]
    refine ⟨a, zs.map V.str, .str z, j, .str z, rfl, rfl, Or.inl (Or.inl (t2.sub _ _ (t2.fz _ _ h2))), rfl, flat_strs zs, by rw [List.getElem?_map, hj]; rfl, by show (z == z) = true; simp, fun m y hm hy => ?_, q _ H2s H2 (t1.trans t2) ⟨_, rfl, .int _⟩⟩
    rw [List.getElem?_map] at hy
    cases hq : zs[m]? with
    | none => rw [hq] at hy; cases hy
    | some y' =>
      rw [hq] at hy
      have e3 : V.str y' = y := by simpa using hy
      subst e3
      show (y' == z) = false
      rw [beq_eq_false_iff_ne]
      exact fun w => hno m hm (by rw [hq, w]))
/-- x = a new box -/
theorem ds_setBox (i : Nat) {x : Str} {p2 : Pos} (h : DL X e ρ (fun ds => ∃ m n : Int, ds = [.int m, .int n])) (hn : D.nx (ρ.set i .box)) (hN : X.N.Nodup) (hi : X.N[i]? = some x := by rfl) (hx : Loc X.env.scope x := by first | exact Or.inl rfl | exact Or.inr rfl) (hs : swapsWith e (some (.Name x p2)) pos.line X.env = pure false := by rfl)
    (hf : X.fn x = true ∨ X.env.scope.names.lookup x = some .local := by first | exact .inl rfl | exact .inr rfl) : DS X S0 H0 (.Assign [.Name x p2] e pos) ρ D := fun B σ H ⟨Hs, h1, h2, h3, h4⟩ =>
  wpS_of (ps_set hN hi hx pe_wp hs hf) (h Hs H σ h3 _ fun v Hs' H' t ⟨p, xs, ds, g1, g2, g3, g4, g5, m, n, g6⟩ => by
    subst g1 g6
    have hb : IsBox (.lst xs) := by
      cases g5 with
      | cons a1 b1 => cases b1 with
        | cons a2 b2 =>
          cases a1; cases a2; cases b2
          exact ⟨m, n, rfl⟩
    have E := h3.step t
    refine ⟨_, hn, Hs', h1.trans t.fz, h2.trans t, ⟨E.sub, by rw [List.length_set, List.length_set, E.len], fun j s hj => ?_, fun j k dj dk hj hk hjk => ?_⟩, fun j s q hj hm hq => ?_⟩
    · rcases getset hj with ⟨a1, e2⟩ | ⟨a1, e2⟩
      · subst a1 e2
        have hl : i < σ.length := by
          rw [E.len]
          by_cases q : i < ρ.length
          · exact q
          · rw [List.getElem?_eq_none (by rw [List.length_set]; omega)] at hj; cases hj
        exact ⟨p, _, List.getElem?_set_self hl, g3, g4, hb⟩
      · rw [List.getElem?_set_ne a1]
        exact E.sl j s e2
    · rcases getset hj with ⟨_, e2⟩ | ⟨a1, e2⟩
      · cases e2
      · rcases getset hk with ⟨_, e3⟩ | ⟨b1, e3⟩
        · cases e3
        · rw [List.getElem?_set_ne a1, List.getElem?_set_ne b1]
          exact E.dis j k dj dk e2 e3 hjk
    · rcases getset hj with ⟨a1, e2⟩ | ⟨a1, e2⟩
      · rw [e2] at hm; cases hm
      · rw [List.getElem?_set_ne a1] at hq
        exact h4 j s q e2 hm hq)
/-- a tuple in a list of tuples -/
theorem od_inD {d : Dt} {ds : List Dt} (hu : X.A.units + 65 < cLine) (p1 : pln 7 d = true) (p2 : ds.all (pln 7) = true) : OD X (compareOp .In) d (.lst ds) (fun z => z = .bl (ds.any fun g => PyData.eqv (py 7 g) (py 7 d))) :=
  od_of (op_inD hu) fun Hs H v u s rv ru Q q => by
    have hp2 : pln 8 (.lst ds) = true := p2
    refine ⟨py 7 d, ds.map (py 7), rv.dp s 7 d v p1, ru.dp s 8 (.lst ds) u hp2, shaped_py p1 (by decide), shaped_py (n := 8) (d := .lst ds) hp2 (by decide), ?_⟩
    rw [List.any_map]
    exact q _ Hs H _ (Step.refl s) (.bl _) rfl
end
end DL
/-! DLy -/
set_option Elab.async false
set_option linter.all false
set_option maxRecDepth 100000
set_option maxHeartbeats 4000000
namespace DL
open PySem PySem.Spec PyProof.Rows L2
theorem Step.thaw {Hs H Hs1 H1 : Hp} {p : Addr} (t : Step Hs H Hs1 H1) (s : Ex Hs H) (h : H p = none) : Step Hs H (DL.less Hs1 p) H1 := by
  have hp : Hs p = none := s.free h
  refine ⟨fun a o e => ?_, fun a o e => ?_, fun a h1 h2 => ?_, t.keep, t.box⟩
  · have ha : a ≠ p := fun z => by subst z; rw [hp] at e; cases e
    rw [less_ne ha]; exact t.fz a o e
  · by_cases ha : a = p
    · subst ha; rw [less_same] at e; cases e
    · rw [less_ne ha] at e; exact t.sub a o e
  · have ha : a ≠ p := fun z => by subst z; exact h1 h
    rw [less_ne ha]; exact t.new a h1 h2
theorem rep_vOf {K : PySem.W.Frag} {H : Hp} {d : Dt} (h : scl d = true) : Rep K H (vOf d) d := by
  cases d with
  | non => exact .non
  | bl b => exact .bl b
  | int b => exact .int b
  | str b => exact .str b
  | _ => cases h
theorem reps_vOf {K : PySem.W.Frag} {H : Hp} : ∀ {ds : List Dt}, ds.all scl = true → RepAll K H (ds.map vOf) ds
  | [], _ => .nil
  | d :: ds, h => by
    rw [List.all_cons, Bool.and_eq_true] at h
    exact .cons (rep_vOf h.1) (reps_vOf h.2)
section
variable {X : Cx} {S0 H0 : Hp} {ρ : List Sl} {D : DEnds} {tg iter elt : Expr} {ifs : List Expr} {scope : Scope} {own : List (Str × Nat)} {RL RL' : List Dt → Prop} {pos : Pos}
def LcI (X : Cx) (scope : Scope) (tg elt : Expr) (ifs : List Expr) (vs : List Nat) (ρ : List Sl) (RL RL' : List Dt → Prop) : Prop :=
  ∀ ds, RL ds → ∃ out : Nat → List Dt → Prop, out 0 [] ∧ (∀ (i : Nat) l, i ≤ ds.length → out i l → l.length < 100000 ∧ l.all scl = true) ∧
    (∀ (i : Nat) d l, ds[i]? = some d → out i l → ∃ L ρ2 B, (∀ j ∈ L, j ∈ vs) ∧ (∀ s Hb C cl fp, DG (Bk X scope s Hb C cl fp) tg d L (wipeS ρ vs) (fun z => z = ρ2)) ∧ (∀ s Hb C cl fp, DQs (Bk X scope s Hb C cl fp) ifs ρ2 B) ∧
      (B true → ∃ R, (∀ s Hb C cl fp, DR (Bk X scope s Hb C cl fp) elt ρ2 R) ∧ ∀ r, R r → scl r = true ∧ out (i + 1) (l ++ [r])) ∧ (B false → out (i + 1) l)) ∧ ∀ l, out ds.length l → RL' l
theorem tv_lcI {vs : List Nat} (hit : DI X tg iter ρ RL) (h : LcI X scope tg elt ifs vs ρ RL RL') : TV X.K (tLc (wpI X tg iter) (gB X scope tg) (tB' X scope ifs) (eB X scope elt) vs) ρ (PL X.K (fun l => l.all scl = true ∧ RL' l)) := fun Hs H σ E Q q =>
  hit Hs H σ E _ fun J H1s H1 ds t1 r ⟨G, Y, W, hG, hY⟩ Dl hD => by
    obtain ⟨out, o0, ob, os, od⟩ := h ds r
    have E1 := (E.step t1).wipe vs
    refine lc_it W (fun i H' => i ≤ ds.length ∧ ∃ Hs' l, Step H1s H1 Hs' H' ∧ Hs' Dl = none ∧ H' Dl = some (.lst (l.map vOf)) ∧ out i l) ?_ (fun i H' _ ⟨_, Hs', _, t, _⟩ => hG Hs' H' t.fz t.sub) (fun i x H2 H3 hi ⟨_, Hs2, l, t2, p1, p2, p4⟩ y => ?_) (fun H' ⟨_, Hs', l, t, p1, p2, p4⟩ => ?_)
    · exact ⟨Nat.zero_le _, H1s, [], Step.newM t1.sub hD, t1.sub.free hD, upd_same, o0⟩
    · have tf : Step H1s H1 (upd Hs2 Dl (.lst (l.map vOf))) H2 := t2.freeze hD p2 p1
      obtain ⟨Hs3, d, t3, hd3, hr3⟩ := hY i _ H2 x H3 hi tf.fz tf.sub y
      obtain ⟨L, ρ2, B, hL, hg, hq, hy, hn⟩ := os i d l hd3 p4
      obtain ⟨b1, b2⟩ := ob i l (Nat.le_of_lt hi) p4
      have E3 := (E1.step tf).step t3
      have key : ∀ {Hs4 H4}, Step (upd Hs2 Dl (.lst (l.map vOf))) H2 Hs4 H4 → Step H1s H1 (less Hs4 Dl) H4 ∧ H4 Dl = some (.lst (l.map vOf)) := fun t => ⟨(tf.trans t).thaw t1.sub hD, t.sub _ _ (t.fz _ _ upd_same)⟩
      intro s Hb C cl fp
      refine hg s Hb C cl fp Hs3 H3 (wipe σ vs) x E3 hr3 _ fun σ4 ρ4 Hs4 H4 t4 E4 A4 m4 => ?_
      subst m4
      refine ⟨wipe_same hL A4.len (fun j hj => (A4.out j hj).1), fun s Hb C cl fp => hq s Hb C cl fp Hs4 H4 σ4 E4 _ fun k Hs5 H5 t5 kB => ?_⟩
      cases k with
      | true =>
        obtain ⟨R, hR, hR2⟩ := hy kB
        show eB X scope elt σ4 H5 _
        intro s Hb C cl fp
        refine hR s Hb C cl fp Hs5 H5 σ4 (E4.step t5) _ fun v Hs6 H6 t6 ⟨g, r6, p6⟩ => ?_
        obtain ⟨k1, k2⟩ := key (((t3.trans t4).trans t5).trans t6)
        obtain ⟨r7, r8⟩ := hR2 g r6
        have ev : l.map vOf ++ [v] = (l ++ [g]).map vOf := by rw [List.map_append, p6.vOf r7] <;> rfl
        refine ⟨l.map vOf, k2, Nat.lt_of_lt_of_le (by rw [List.length_map]; exact b1) (by decide), hi, less Hs6 Dl, l ++ [g], k1.mut hD less_same, less_same, by rw [upd_same, ev], r8⟩
      | false =>
        obtain ⟨k1, k2⟩ := key ((t3.trans t4).trans t5)
        exact ⟨hi, less Hs5 Dl, l, k1, less_same, k2, hn kB⟩
    · obtain ⟨b1, b2⟩ := ob ds.length l (Nat.le_refl _) p4
      exact q (.ref Dl) Hs' H' (t1.trans t) ⟨Dl, _, l, rfl, t1.free hD, p1, p2, reps_vOf b2, b2, od l p4⟩
/-- y = [..] of scalars, frozen at once -/
theorem ds_lcFI (i : Nat) {y : Str} {py spos : Pos} (own : List (Str × Nat)) (hit : DI X tg iter ρ RL) (h : LcI X scope tg elt ifs (own.map (·.2)) ρ RL RL') (hn : ∀ ds, RL' ds → D.nx (ρ.set i (.dat (.lst ds)))) (hN : X.N.Nodup) (ok : BlkOk X.N X.env.scope scope own) (hy : X.N[i]? = some y := by rfl) (hyl : X.env.scope.names.lookup y = some .local := by rfl)
    (hsw : swapsWith (.ListComp elt [⟨tg, iter, ifs, 0⟩] scope pos) (some (.Name y py)) spos.line X.env = pure true := by exact sw_true rfl rfl rfl (by decide +kernel)) (hc : X.calm = true := by rfl) (hs : ∀ x, foldedSetIterable iter X.env x = pure x := by intro _; rfl) :
    DS X S0 H0 (.Assign [.Name y py] (.ListComp elt [⟨tg, iter, ifs, 0⟩] scope pos) spos) ρ D := fun B σ H ⟨Hs, h1, h2, h3, h4⟩ =>
  wpS_of (ps_setLc hc hN hy hyl hsw pi_wp ok (fun s H C cl fp => ⟨fun pins s' σ H v u Q I r h => h _ _ _ _ _ pins s' u I r⟩) (fun s H C cl fp => ⟨fun pins s' σ H Q I h => h _ _ _ _ _ pins s' I⟩) (fun s H C cl fp => ⟨fun pins s' σ H Q I h => h _ _ _ _ _ pins s' I⟩) hs)
    (tv_lcI hit h Hs H σ h3 _ fun v Hs' H' t ⟨p, xs, ds, g1, g2, g3, g4, g5, _, g6⟩ => by
      subst g1
      have t' := t.freeze g2 g4 g3
      exact ⟨_, hn ds g6, At.asg h1 h2 h4 t' ((h3.step t').setD (.lst upd_same (RepAll.mono (Ex.new g3) _ _ g5))) Asg.set⟩)
theorem lcI_map {α : Type} (as : List α) (enc : α → Dt) (f : α → Bool) (g : α → Dt) {vs L : List Nat} (hl : as.length < 100000) (hg : ∀ a ∈ as, scl (g a) = true) (ρ2 : α → List Sl) (hL : ∀ j ∈ L, j ∈ vs)
    (h1 : ∀ a ∈ as, ∀ s Hb C cl fp, DG (Bk X scope s Hb C cl fp) tg (enc a) L (wipeS ρ vs) (fun z => z = ρ2 a)) (h2 : ∀ a ∈ as, ∀ s Hb C cl fp, DQs (Bk X scope s Hb C cl fp) ifs (ρ2 a) (fun z => z = f a))
    (h3 : ∀ a ∈ as, f a = true → ∀ s Hb C cl fp, DE (Bk X scope s Hb C cl fp) elt (ρ2 a) (g a)) : LcI X scope tg elt ifs vs ρ (fun ds => ds = as.map enc) (fun ds => ds = (as.filter f).map g) := fun ds r => by
  subst r
  refine ⟨fun i l => l = ((as.take i).filter f).map g, rfl, fun i l _ e => ?_, fun i d l hd e => ?_, fun l e => ?_⟩
  · subst e
    refine ⟨?_, ?_⟩
    · rw [List.length_map]
      exact Nat.lt_of_le_of_lt (Nat.le_trans (List.length_filter_le ..) (by rw [List.length_take]; omega)) hl
    · rw [List.all_map, List.all_eq_true]
      intro x hx
      exact hg x (List.mem_of_mem_take (List.mem_filter.mp hx).1)
  · rw [List.getElem?_map] at hd
    cases ha : as[i]? with
    | none => rw [ha] at hd; cases hd
    | some x =>
      rw [ha] at hd
      have ed : enc x = d := by simpa using hd
      subst ed
      have hm := List.mem_of_getElem? ha
      have et : as.take (i + 1) = as.take i ++ [x] := by rw [List.take_add_one, ha] <;> rfl
      refine ⟨L, ρ2 x, fun z => z = f x, hL, h1 x hm, h2 x hm, fun hb => ⟨fun z => z = g x, h3 x hm hb.symm, fun r hr => ?_⟩, fun hb => ?_⟩
      · have hb' : true = f x := hb
        have hr' : r = g x := hr
        refine ⟨by rw [hr']; exact hg x hm, ?_⟩
        show l ++ [r] = ((as.take (i + 1)).filter f).map g
        rw [e, hr', et, List.filter_append, List.map_append]
        congr 1
        rw [List.filter_cons_of_pos hb'.symm] <;> rfl
      · have hb' : false = f x := hb
        show l = ((as.take (i + 1)).filter f).map g
        rw [e, et, List.filter_append, List.map_append]
        rw [List.filter_cons_of_neg (by rw [← hb']; exact Bool.false_ne_true)]
        simp
  · rw [e, List.length_map, List.take_length]
end
end DL
/-! DLz -/
set_option Elab.async false
set_option linter.all false
set_option maxRecDepth 100000
set_option maxHeartbeats 4000000
namespace DL
open PySem PySem.Spec PyProof.Rows L2
section
variable {X : Cx} {S0 H0 : Hp} {ρ : List Sl} {D : DEnds} {e a b c : Expr} {es : List Expr} {pos : Pos}
theorem ds_asg3M (i j l : Nat) {x y z : Str} {s1 s2 s3 : Sl} {px py pz pt : Pos} {kt k2 : Nat} {pt2 : Pos} (ha : DM X [a, b, c] ρ [s1, s2, s3]) (hn : D.nx (((ρ.set i s1).set j s2).set l s3)) (hN : X.N.Nodup) (d1 : isDM s1 = true := by rfl) (d2 : isDM s2 = true := by rfl) (d3 : isDM s3 = true := by rfl) (hc : X.calm = true := by rfl) (hi : X.N[i]? = some x := by rfl) (hj : X.N[j]? = some y := by rfl) (hk : X.N[l]? = some z := by rfl)
    (hx : Loc X.env.scope x := by first | exact Or.inl rfl | exact Or.inr rfl) (hfx : X.fn x = true ∨ X.env.scope.names.lookup x = some .local := by first | exact .inl rfl | exact .inr rfl) (hy : Loc X.env.scope y := by first | exact Or.inl rfl | exact Or.inr rfl) (hfy : X.fn y = true ∨ X.env.scope.names.lookup y = some .local := by first | exact .inl rfl | exact .inr rfl)
    (hz : Loc X.env.scope z := by first | exact Or.inl rfl | exact Or.inr rfl) (hfz : X.fn z = true ∨ X.env.scope.names.lookup z = some .local := by first | exact .inl rfl | exact .inr rfl)
    (hs : swapsWithSole [.Tuple [.Name x px, .Name y py, .Name z pz] kt pt] (.Tuple [a, b, c] k2 pt2) pos.line X.env = pure false := by rfl) (hw : swappedStores [.Tuple [.Name x px, .Name y py, .Name z pz] kt pt] (.Tuple [a, b, c] k2 pt2) X.env = pure none := by rfl)
    (h1 : (assignEach [.Tuple [.Name x px, .Name y py, .Name z pz] kt pt] X.env).map (·.2) = [assign (.Tuple [.Name x px, .Name y py, .Name z pz] kt pt) X.env] := by rfl) (hl : (assignEach [.Name x px, .Name y py, .Name z pz] X.env).length = 3 := by rfl) (hst : (assignEach [.Name x px, .Name y py, .Name z pz] X.env).findIdx? (·.1) = none := by rfl)
    (a1 : (assignEach [.Name x px, .Name y py, .Name z pz] X.env).map (·.2) = assign (.Name x px) X.env :: (assignEach [.Name y py, .Name z pz] X.env).map (·.2) := by rfl) (a2 : (assignEach [.Name y py, .Name z pz] X.env).map (·.2) = assign (.Name y py) X.env :: (assignEach [.Name z pz] X.env).map (·.2) := by rfl)
    (a3 : (assignEach [.Name z pz] X.env).map (·.2) = assign (.Name z pz) X.env :: (assignEach [] X.env).map (·.2) := by rfl) :
    DS X S0 H0 (.Assign [.Tuple [.Name x px, .Name y py, .Name z pz] kt pt] (.Tuple [a, b, c] k2 pt2) pos) ρ D := fun B σ H ⟨Hs, g1, g2, g3, g4⟩ =>
  wpS_of (ps_asg (pe_tup pa_wp) (pg_tup hc (pgs_cons (pg_name hN hi hx hfx) (pgs_cons (pg_name hN hj hy hfy) (pgs_cons (pg_name hN hk hz hfz) pgs_nil a3) a2) a1) hl hst) hs hw h1) (ha Hs H σ g3 _ fun vs Hs' H' t E f => by
    obtain ⟨v, u, w, e2⟩ := vs3 E
    subst e2
    obtain ⟨E2, F2⟩ := put3 (i := i) (j := j) (k := l) g3 g4 g2 t E f d1 d2 d3
    refine ⟨by show 3 ≤ sizeLine; decide, fun p hp => ⟨p, [v, u, w], rfl, Or.inl (Or.inl upd_same), rfl, v, [u, w], rfl, u, [w], rfl, w, [], rfl, rfl, _, hn, Hs', g1.trans t.fz, (g2.trans t).trans (Step.newM t.sub hp), E2.step (Step.newM t.sub hp), F2⟩⟩)
end
end DL
/-! MirL -/
set_option Elab.async false
set_option linter.all false
set_option maxRecDepth 100000
set_option maxHeartbeats 4000000
namespace DL
open PySem L2
def ltD (c : Lt) : Dt := .str (enc [c])
def spotI (u v : List Lt) : Int := match place u v with
  | some n => (n : Int)
  | none => -1
/-- all words -/
def stepsW (ls : List Lt) (m : Nat) (w : List Lt) : List (List Lt) :=
  (((ls.filter fun l => !decide (l ∈ w)).map fun l => w ++ [l]) ++ [w ++ [Lt.d]]).filter fun one => decide ((rowsOf one).length ≤ m)
def layerW (ls : List Lt) (m : Nat) : Nat → List (List Lt)
  | 0 => [[]]
  | n + 1 => (layerW ls m n).flatMap (stepsW ls m)
def foundW (ls : List Lt) (m : Nat) : Nat → List (List Lt)
  | 0 => [[]]
  | n + 1 => foundW ls m n ++ layerW ls m (n + 1)
def allW (ls : List Lt) (m : Nat) : List (List Lt) := foundW ls m (m + 2)
def keysL (w : List Lt) : List Lt := w.filter fun c => decide (c ∈ [Lt.k, .r, .b])
def eyesL (w : List Lt) : List Lt := w.filter fun c => decide (c ∈ [Lt.x, .b])
def inI (k : Sd) : Nat := if k = .inn then 1 else 0
def fitsL (up : Bool) (m : Nat) (o : Int) (p : Pg) : Bool :=
  if m < (rowsOf p.1).length ∨ (keysL p.1).length ≠ inI p.2.1 ∨ (eyesL p.1).length ≠ inI p.2.2 then false else
  if o = 0 then decide (p.2.1 = p.2.2) && decide (keysL p.1 = eyesL p.1) else
  if .b ∈ p.1 then false else
  if p.2.1 = .inn ∧ p.2.2 = .inn then
    !decide (spotI p.1 [.k, .r] = spotI p.1 [.x]) && (decide (spotI p.1 [.k, .r] < spotI p.1 [.x]) == (decide (o < 0) == up))
  else (decide (p.2.1 = p.2.2) && !decide (p.2.1 = .inn)) || (!decide (sdN p.2.1 = sdN p.2.2) && (decide (sdN p.2.1 < sdN p.2.2) == (decide (o < 0) == up)))
def sdsOf (w v : List Lt) : List Sd := if (place w v).isSome then [.inn] else [.left, .right]
def pgsAt (up : Bool) (m : Nat) (o : Int) (w : List Lt) : List Pg :=
  (sdsOf w [.k, .r, .b]).flatMap fun key => (sdsOf w [.x, .b]).flatMap fun watch => if fitsL up m o (w, key, watch) then [(w, key, watch)] else []
def pagesL (up : Bool) (m : Nat) (o : Int) (ls : List Lt) : List Pg := (allW ls m).flatMap (pgsAt up m o)
def chBL (h : Hs) (c : Int) : List Int := match h.stamps with
  | some m => [(c + 1) % (m : Int)]
  | none => if 0 ≤ c then [1] else [-1, 0]
/-- a good scene: its page fits -/
structure Good (h : Hs) (up : Bool) (s : Sc) : Prop where
  pg : ∀ w, s.word = some w → s.key ≠ .no ∧ s.watch ≠ .no ∧ fitsL up h.rows s.order (w, s.key, s.watch) = true
  no : s.word = none → s.key = .no ∧ s.watch = .no
  od : s.order = -1 ∨ s.order = 0 ∨ s.order = 1
def metSc (told : Bool) (o slot : Int) (p : Pg) : Sc := ⟨told || decide (o = 0), o, slot, 0, 0, some p.1, p.2.1, p.2.2⟩
def metD (ev : List Dt) (told : Bool) (o slot : Int) (p : Pg) : Dt :=
  if (decide (o = 0) && told || decide (o = 1) && !told) = true then .tup [.tup ev, .str (if o = 0 then "twice" else "skipped"), .non] else .tup [.tup ev, .non, scD (metSc told o slot p)]
/-- a triple of the law's model -/
def TrL (h : Hs) (up : Bool) (d : Dt) : Prop := ∃ (hd : Str) (rest : List Dt) (g b : Dt), d = .tup [.tup (.str hd :: rest), g, b] ∧ (b = .non ∨ ∃ s, b = scD s ∧ Good h up s)
/-- a step at the beginning -/
def TrB (h : Hs) (up : Bool) (d : Dt) : Prop := ∃ (rest : List Dt) (g : Dt) (s : Sc), d = .tup [.tup (.str "next" :: rest), g, scD s] ∧ Good h up s
/-- a step to any page -/
def TrF (h : Hs) (up : Bool) (d : Dt) : Prop := ∃ (w : List Lt) (rest : List Dt) (g b : Dt), d = .tup [.tup (.str "next" :: .str (enc w) :: rest), g, b] ∧ (b = .non ∨ ∃ s, b = scD s ∧ Good h up s)
end DL
/-! La -/
set_option Elab.async false
set_option linter.all false
set_option maxRecDepth 100000
set_option maxHeartbeats 4000000
namespace DL
open PySem PySem.Spec PyProof.Rows L2
local macro_rules | `(tactic| walk_at "od") => `(tactic| first | exact od_eqS | exact od_neS | exact od_inT | exact od_notInT | exact od_inL | exact od_notInL | exact od_eqB | exact od_neB)
local macro_rules | `(tactic| walk_at "len") => `(tactic| first | omega | (simp only [List.length_append, List.length_cons, List.length_nil, List.length_take, List.length_drop]; omega))
section
variable {P : Program} {w : World} {K : PySem.W.Frag} {mg : Str → Option Value} {base : Heap}
def IsI (d : Dt) : Prop := ∃ n : Int, d = .int n
def IsN (n : Nat) (d : Dt) : Prop := ∃ i : Nat, i < n ∧ d = .int (i : Int)
theorem IsN.i {n : Nat} {d : Dt} (h : IsN n d) : IsI d := let ⟨i, _, e⟩ := h; ⟨_, e⟩
section
variable {X : Cx} {ρ : List Sl} {a b e : Expr} {p pos : Pos}
theorem di_int {i : Int} {j : Nat} : DR X (.Constant (.int i) j pos) ρ IsI := DE.as de_int ⟨i, rfl⟩
theorem dr_addI (ha : DR X a ρ IsI) (hb : DR X b ρ IsI) : DR X (.BinOp a .Add b pos) ρ IsI := dr_bin ha hb fun d e ⟨m, h1⟩ ⟨n, h2⟩ => by
  subst h1 h2
  intro Hs H v u s rv ru Q q
  exact od_add Hs H v u s rv ru Q fun z Hs' H' g t p r => q z Hs' H' g t p ⟨_, r⟩
theorem dr_mulI {c : Int} (hc : -(2 ^ 64) < c ∧ c < 2 ^ 64) (ha : DR X a ρ IsI) (hb : DE X b ρ (.int c)) : DR X (.BinOp a .Mult b pos) ρ IsI := dr_bin ha hb fun d e ⟨m, h1⟩ h2 => by
  subst h1 h2
  intro Hs H v u s rv ru Q q
  exact od_mul (Or.inr hc) Hs H v u s rv ru Q fun z Hs' H' g t p r => q z Hs' H' g t p ⟨_, r⟩
theorem dr_mulI' {c : Int} (hc : -(2 ^ 64) < c ∧ c < 2 ^ 64) (ha : DE X a ρ (.int c)) (hb : DR X b ρ IsI) : DR X (.BinOp a .Mult b pos) ρ IsI := dr_bin ha hb fun d e h1 ⟨m, h2⟩ => by
  subst h1 h2
  intro Hs H v u s rv ru Q q
  exact od_mul (Or.inl hc) Hs H v u s rv ru Q fun z Hs' H' g t p r => q z Hs' H' g t p ⟨_, r⟩
theorem dr_fdivI {n : Nat} (h : 0 < n) (h2 : n ≤ 100000) (ha : DR X a ρ IsI) (hb : DE X b ρ (.int (n : Int))) : DR X (.BinOp a .FloorDiv b pos) ρ IsI := dr_bin ha hb fun d e ⟨m, h1⟩ h3 => by
  subst h1 h3
  intro Hs H v u s rv ru Q q
  exact od_fdiv (show CDivN m (n : Int) from ⟨by omega, by omega⟩) Hs H v u s rv ru Q fun z Hs' H' g t p r => q z Hs' H' g t p ⟨_, r⟩
theorem dr_modI {n : Nat} (h : 0 < n) (ha : DR X a ρ IsI) (hb : DE X b ρ (.int (n : Int))) : DR X (.BinOp a .Mod b pos) ρ (IsN n) := dr_bin ha hb fun d e ⟨m, h1⟩ h2 => by
  subst h1 h2
  have hp : (0 : Int) < (n : Int) := by omega
  intro Hs H v u s rv ru Q q
  refine od_mod hp Hs H v u s rv ru Q fun z Hs' H' g t p r => q z Hs' H' g t p ⟨(m % (n : Int)).toNat, ?_, ?_⟩
  · have := Int.emod_lt_of_pos m hp
    have := Int.emod_nonneg m (Int.ne_of_gt hp)
    omega
  · rw [r, Int.toNat_of_nonneg (Int.emod_nonneg m (Int.ne_of_gt hp))]
theorem dq_gtI (ha : DR X a ρ IsI) (hb : DR X b ρ IsI) (hm : behindInMarks .Gt b = false := by first | exact nomark _ | rfl) : DQ X (.Compare a [.Gt] [b] pos) ρ (fun _ => True) := dq_cmp ha hb (fun d e ⟨m, h1⟩ ⟨n, h2⟩ => by
  subst h1 h2
  intro Hs H v u s rv ru Q q
  exact od_gt Hs H v u s rv ru Q fun z Hs' H' g t p r => q z Hs' H' g t p ⟨_, r, trivial⟩) hm
theorem dq_eqI (ha : DR X a ρ IsI) (hb : DR X b ρ IsI) (hm : behindInMarks .Eq b = false := by first | exact nomark _ | rfl) : DQ X (.Compare a [.Eq] [b] pos) ρ (fun _ => True) := dq_cmp ha hb (fun d e ⟨m, h1⟩ ⟨n, h2⟩ => by
  subst h1 h2
  intro Hs H v u s rv ru Q q
  exact od_eqI Hs H v u s rv ru Q fun z Hs' H' g t p r => q z Hs' H' g t p ⟨_, r, trivial⟩) hm
theorem de_gtI (ha : DR X a ρ IsI) (hb : DR X b ρ IsI) (hm : behindInMarks .Gt b = false := by first | exact nomark _ | rfl) : DR X (.Compare a [.Gt] [b] pos) ρ (fun d => ∃ k, d = .bl k) := dr_cmp ha hb (fun d e ⟨m, h1⟩ ⟨n, h2⟩ => by
  subst h1 h2
  intro Hs H v u s rv ru Q q
  exact od_gt Hs H v u s rv ru Q fun z Hs' H' g t p r => q z Hs' H' g t p ⟨_, r⟩) hm
theorem dr_intI (hm : X.mg "int" = none) (h : DR X e ρ IsI) (hg : Gl X "int" := by rfl) (hs : starEach [e] X.env = (false, eval e X.env) :: starEach [] X.env := by rfl) : DR X (.Call (.Name "int" p) [e] [] pos) ρ IsI :=
  dr_ct (S := fun as => ∃ n : Int, as = [.dat (.int n)]) hm bt_int (dar_cons h da_nil (fun d as ⟨n, e1⟩ e2 => ⟨n, by rw [e1, e2]⟩) hs) (fun as ⟨n, e⟩ => by
    subst e
    intro Hs H vs E Q q
    exact cd_intI Hs H vs E Q fun z Hs' H' t ⟨g, r, pr⟩ => q z Hs' H' t ⟨g, ⟨n, r⟩, pr⟩) hg (by decide) (by decide) hs rfl
theorem dr_absI (hm : X.mg "abs" = none) (h : DR X e ρ IsI) (hg : Gl X "abs" := by rfl) (hs : starEach [e] X.env = (false, eval e X.env) :: starEach [] X.env := by rfl) : DR X (.Call (.Name "abs" p) [e] [] pos) ρ IsI :=
  dr_cb (S := fun as => ∃ n : Int, as = [.dat (.int n)]) hm bt_abs (dar_cons h da_nil (fun d as ⟨n, e1⟩ e2 => ⟨n, by rw [e1, e2]⟩) hs) (fun as ⟨n, e⟩ => by
    subst e
    intro Hs H vs E Q q
    exact cd_abs Hs H vs E Q fun z Hs' H' t ⟨g, r, pr⟩ => q z Hs' H' t ⟨g, ⟨_, r⟩, pr⟩) hg (by decide) (by decide) hs rfl
end
def S_take : List Sl → (Dt → Prop) → Prop := fun as R => ∃ n : Nat, as = [.box, .dat (.int (n : Int))] ∧ 0 < n ∧ n ≤ 100000 ∧ R = IsN n
theorem ok__law_take (T : Top w K mg) : Fn P w K mg base "_law_take" 1 P__law_take S_take := by
  refine Fn.mk1 (st := s__law_take) T 42 rfl T.g__law_take (fun fd F => fn_one F sc__law_take ?_) (fun _ _ _ _ _ _ us hl => match us, hl with | [_, _], _ => rfl)
  rintro as R ⟨n, rfl, hn, hn2, rfl⟩
  refine ⟨⟨rfl, by simp [isMut]⟩, fun cdv A outer s H S0 E hr => ?_⟩
  refine dss_ifrQ (dq_gtI (dr_ixbox 0 (Or.inl rfl)) di_int) (fun _ => ?_) (fun _ => ?_)
  · refine dss_cons (M := fun z => ∃ i : Nat, i < n ∧ z = [.box, .dat (.int (n : Int)), .dat (.int (i : Int))]) (ds_setR 2 (dr_modI hn (dr_intI T.f_int (dr_ixbox 0 (Or.inl rfl))) (de_v 1)) (fun d ⟨i, hi, e⟩ => ⟨i, hi, by rw [e] <;> rfl⟩) sc__law_take.nd) ?_
    rintro z ⟨i, hi, rfl⟩
    refine dss_then (ρ1 := [.box, .dat (.int (n : Int)), .dat (.int (i : Int))]) (ds_setbox 0 (dr_fdivI hn hn2 (dr_ixbox 0 (Or.inl rfl)) (de_v 1)) (Or.inl rfl) rfl) ?_
    exact dss_one (ds_retE (de_v 2) ⟨i, hi, rfl⟩)
  · refine dss_then (ρ1 := [.box, .dat (.int (n : Int)), .un]) (ds_setbox 0 (DR.mono (dr_modI (n := 2147483647) (by decide) (dr_intI T.f_int (dr_addI (dr_mulI (by decide) (dr_ixbox 0 (Or.inr rfl)) de_int) di_int)) de_int) (fun d h => h.i)) (Or.inr rfl) rfl) ?_
    exact dss_one (ds_ret (dr_modI hn (dr_intI T.f_int (dr_fdivI (n := 64) (by decide) (by decide) (dr_ixbox 0 (Or.inr rfl)) de_int)) (de_v 1)))
def S_pick : List Sl → (Dt → Prop) → Prop := fun as R => ∃ ds : List Dt, as = [.box, .dat (.lst ds)] ∧ ds ≠ [] ∧ ds.length ≤ 100000 ∧ ∀ d ∈ ds, R d
theorem ok__law_pick (T : Top w K mg) : Fn P w K mg base "_law_pick" 2 P__law_pick S_pick := by
  refine Fn.mk1 (st := s__law_pick) T 43 rfl T.g__law_pick (fun fd F => fn_one F sc__law_pick ?_) (fun _ _ _ _ _ _ us hl => match us, hl with | [_, _], _ => rfl)
  rintro as R ⟨ds, rfl, hne, hl, hR⟩
  refine ⟨⟨rfl, by simp [isMut]⟩, fun cdv A outer s H S0 E hr => ?_⟩
  have hp : 0 < ds.length := List.length_pos_iff.mpr hne
  refine dss_one (ds_ret (dr_ix (de_v 1) (dr_call1 (ok__law_take T) hr (da_box 0 (da_cons (de_lenL T.f_len (de_v 1)) da_nil)) ⟨_, rfl, hp, hl, rfl⟩) (fun d e h1 ⟨i, hi, h2⟩ => ?_)))
  subst h1 h2
  intro Hs H v u s rv ru Q q
  exact id_lst i (g := ds[i]) (by rw [List.getElem?_eq_getElem hi]) rfl Hs H v u s rv ru Q fun z Hs' H' g t p r => q z Hs' H' g t p (by rw [r]; exact hR _ (List.getElem_mem hi))
def IsBx (ds : List Dt) : Prop := ∃ m n : Int, ds = [.int m, .int n]
def S_box : List Sl → (List Dt → Prop) → Prop := fun as R => ∃ (ns : List Int) (k : Nat) (o : Int), as = [.scr ns, .dat (.int (k : Int)), .dat (.int o)] ∧ k < 2 ∧ (-(2 ^ 64) < o ∧ o < 2 ^ 64) ∧ R = IsBx
theorem ok__law_box (T : Top w K mg) : FnL P w K mg base "_law_box" 1 P__law_box S_box := by
  refine FnL.mk1 (st := s__law_box) T 41 rfl T.g__law_box (fun fd F => fn_oneL F sc__law_box ?_) (fun _ _ _ _ _ _ us hl => match us, hl with | [_, _, _], _ => rfl)
  rintro as R ⟨ns, k, o, rfl, hk, ho, rfl⟩
  refine ⟨⟨rfl, by simp [isMut]⟩, fun cdv A outer s H S0 E hr => ?_⟩
  refine dss_cons (M := fun z => ∃ c, IsI c ∧ z = [.scr ns, .dat (.int (k : Int)), .dat (.int o), .dat c, .un, .un]) (ds_setR 3 (R := IsI) (dr_ifT (dt_cmp (de_v 1) (de_cb T.f_len bt_len (da_scr 0 da_nil) cd_lenScr) od_lt) (fun hc => dr_absI T.f_abs (DE.as (de_ixscr 0 k (g := ns.getD k 0) (de_v 1) (by
      have hlt : k < ns.length := by have := of_decide_eq_true hc.symm.symm; omega
      rw [List.getD_eq_getElem?_getD, List.getElem?_eq_getElem hlt] <;> rfl) rfl) ⟨_, rfl⟩)) (fun _ => di_int)) (fun d h => ⟨d, h, rfl⟩) sc__law_box.nd) ?_
  rintro z ⟨c, ⟨c, rfl⟩, rfl⟩
  refine dss_cons (M := fun z => ∃ c2, IsI c2 ∧ z = [.scr ns, .dat (.int (k : Int)), .dat (.int o), .dat (.int c), .dat c2, .un]) (ds_setR 4 (dr_addI (dr_addI (dr_mulI' (by decide) de_int (DE.as (de_v 2) ⟨_, rfl⟩)) (dr_mulI' (by decide) de_int (DE.as (de_v 1) ⟨_, rfl⟩))) di_int) (fun d h => ⟨d, h, rfl⟩) sc__law_box.nd) ?_
  rintro z ⟨c2, hc2, rfl⟩
  refine dss_cons (M := fun z => ∃ c2, IsI c2 ∧ z = [.scr ns, .dat (.int (k : Int)), .dat (.int o), .dat (.int c), .dat c2, .un]) (ds_for (di_list (RL := fun l => ∃ ms : List Int, l = ms.map Dt.int) (DL.fz (DL.mono (dl_slscr 0 (n := 40) dp_none (dp_some de_int)) (fun l e => by rw [e]; exact ⟨_, rfl⟩)))) fun ds hds => ⟨fun _ z => ∃ c2, IsI c2 ∧ z = [.scr ns, .dat (.int (k : Int)), .dat (.int o), .dat (.int c), .dat c2, .un], ⟨_, ⟨c2, hc2, rfl⟩, Wk.refl _⟩, ?_, ?_⟩) ?_
  · rintro i d ρi hd ⟨c3, hc3, rfl⟩
    obtain ⟨ms, rfl⟩ := hds
    obtain ⟨m, _, rfl⟩ := List.mem_map.mp (List.mem_of_getElem? hd)
    refine ⟨[5], dg_name 5 ?_ sc__law_box.nd⟩
    refine dss_one (ds_setR 4 (dr_modI (n := 2147483647) (by decide) (dr_intI T.f_int (dr_addI (dr_addI (dr_mulI (by decide) (DE.as (de_v 4) hc3) de_int) (DR.mono (dr_modI (n := 2147483629) (by decide) (dr_absI T.f_abs (DE.as (de_v 5) ⟨_, rfl⟩)) de_int) (fun d h => h.i))) (DE.as (de_v 1) ⟨_, rfl⟩))) de_int) (fun d h => ⟨_, ⟨d, h.i, rfl⟩, .eq (.eq (.eq (.eq (.eq (.un .nil)))))⟩) sc__law_box.nd)
  · rintro z h
    exact h
  · rintro z ⟨c4, hc4, rfl⟩
    exact dss_one (ds_retL (dl_lst (RL := fun l => ∃ ds, Dt.lst l = .lst ds ∧ IsBx ds) (dar_cons (R := IsI) (S := fun as => ∃ d, as = [Sl.dat d] ∧ IsI d) (dr_ifT (dt_cmp (de_v 3) (DE.as (de_bin de_int de_int (od_pow (show CPow 10 18 from ⟨by decide, by decide, by decide⟩))) rfl) od_ge) (fun _ => DE.as (de_v 3) ⟨_, rfl⟩) (fun _ => di_int)) (dar_cons (dr_addI (DE.as (de_v 4) hc4) di_int) da_nil (fun d as h e => ⟨d, by rw [e], h⟩)) (fun d as ⟨m, h1⟩ ⟨d2, h2, n, h3⟩ => ⟨[d, d2], by rw [h2]; rfl, by simp, _, rfl, m, n, by rw [h1, h3]⟩))))
end

end DL
/-! Lb -/
set_option Elab.async false
set_option linter.all false
set_option maxRecDepth 100000
set_option maxHeartbeats 4000000
namespace DL
open PySem PySem.Spec PyProof.Rows L2
local macro_rules | `(tactic| walk_at "od") => `(tactic| first | exact od_eqS | exact od_neS | exact od_inT | exact od_notInT | exact od_inL | exact od_notInL | exact od_eqB | exact od_neB)
local macro_rules | `(tactic| walk_at "len") => `(tactic| first | omega | (simp only [List.length_append, List.length_cons, List.length_nil, List.length_take, List.length_drop]; omega))
section
variable {P : Program} {w : World} {K : PySem.W.Frag} {mg : Str → Option Value} {base : Heap}
theorem room65 {k : Nat} {A : Around} (hr : Room k A) : A.units + 65 < cLine := by have := hr.un; omega
def S_rows_in : List Sl → (List Dt → Prop) → Prop := fun as R => ∃ u : List Lt, as = [.dat (.str (enc u))] ∧ u.length ≤ 10000 ∧ R = fun l => l = (rowsOf u).map ltD
theorem ok__law_rows_in (T : Top w K mg) : FnL P w K mg base "_law_rows_in" 1 P__law_rows_in S_rows_in := by
  refine FnL.mk1 (st := s__law_rows_in) T 48 rfl T.g__law_rows_in (fun fd F => fn_oneL F sc__law_rows_in ?_) (fun _ _ _ _ _ _ us hl => match us, hl with | [_], _ => rfl)
  rintro as R ⟨u, rfl, hl, rfl⟩
  refine ⟨⟨rfl, by simp [isMut]⟩, fun cdv A outer s H S0 E hr => ?_⟩
  refine dss_one (ds_retL (DL.mono (dl_lc (own := [(".0", 1), ("_law_letter", 2)]) (di_word (de_v 0))
    (lc_map u (fun c => Dt.str (enc [c])) (fun c => !decide ([c] = [Lt.r])) ltD (by omega) (fun _ _ => rfl) (fun c => [.dat (.str (enc u)), .un, .dat (.str (enc [c]))]) (L := [2]) (by simp) (fun a _ s Hb C cl fp => dg_name 2 rfl sc__law_rows_in.nd)
      (fun a _ s Hb C cl fp => dqs_one (dt_cmp (de_v 2) (de_strW [.r]) od_neW)) (fun a _ _ s Hb C cl fp => de_v 2)) sc__law_rows_in.nd (blkOk_by (show blkC N__law_rows_in (defScope s__law_rows_in) _ _ = true by decide +kernel))) fun l e => ⟨l, rfl, ?_⟩))
  rw [e]
  congr 1
  unfold rowsOf
  congr 1
  funext c
  cases c <;> rfl
theorem enumD_zip : ∀ (u : List Lt) (n : Nat), enumD n (u.map fun c => Dt.str (enc [c])) = (u.zipIdx n).map fun p => Dt.tup [.int (p.2 : Int), .str (enc [p.1])]
  | [], n => rfl
  | c :: u, n => by
    rw [List.map_cons, List.zipIdx_cons, List.map_cons, ← enumD_zip u (n + 1)] <;> rfl
theorem zip_place (v : List Lt) : ∀ (u : List Lt) (n : Nat), (((u.zipIdx n).filter fun p => decide (p.1 ∈ v)).map (·.2)).head? = (place u v).map (· + n)
  | [], n => rfl
  | c :: u, n => by
    rw [List.zipIdx_cons]
    unfold place
    rw [List.findIdx?_cons]
    by_cases h : c ∈ v
    · rw [List.filter_cons_of_pos (by simpa using h)]
      simp [h]
    · rw [List.filter_cons_of_neg (by simpa using h), zip_place v u (n + 1)]
      unfold place
      simp only [decide_eq_false h, Bool.false_eq_true, if_false, Option.map_map]
      congr 1
      funext x
      simp; omega
def S_spot : List Sl → (Dt → Prop) → Prop := fun as R => ∃ u v : List Lt, as = [.dat (.str (enc u)), .dat (.str (enc v))] ∧ u.length ≤ 10000 ∧ R = fun d => d = .int (spotI u v)
theorem ok__law_spot (T : Top w K mg) : Fn P w K mg base "_law_spot" 1 P__law_spot S_spot := by
  refine Fn.mk1 (st := s__law_spot) T 49 rfl T.g__law_spot (fun fd F => fn_one F sc__law_spot ?_) (fun _ _ _ _ _ _ us hl => match us, hl with | [_, _], _ => rfl)
  rintro as R ⟨u, v, rfl, hl, rfl⟩
  refine ⟨⟨rfl, by simp [isMut]⟩, fun cdv A outer s H S0 E hr => ?_⟩
  have hz := zip_place v u 0
  generalize hfs : (u.zipIdx 0).filter (fun p => decide (p.1 ∈ v)) = fs at hz
  refine dss_then (ρ1 := [.dat (.str (enc u)), .dat (.str (enc v)), .dat (.lst (fs.map fun p => Dt.int (p.2 : Int))), .un, .un, .un]) (ds_lcFI 2 [(".0", 3), ("_law_at", 4), ("_law_letter", 5)] (RL := fun ds => ds = (u.zipIdx 0).map fun p => Dt.tup [.int (p.2 : Int), .str (enc [p.1])]) (by rw [← enumD_zip]; exact di_enumW T.f_enumerate (de_v 0))
    (lcI_map (u.zipIdx 0) (fun p => Dt.tup [.int (p.2 : Int), .str (enc [p.1])]) (fun p => decide (p.1 ∈ v)) (fun p => Dt.int (p.2 : Int)) (by rw [List.length_zipIdx]; omega) (fun _ _ => rfl) (fun p => [.dat (.str (enc u)), .dat (.str (enc v)), .un, .un, .dat (.int (p.2 : Int)), .dat (.str (enc [p.1]))]) (L := [4, 5]) (by simp) (fun a _ s Hb C cl fp => dg2 4 5 rfl sc__law_spot.nd)
      (fun a _ s Hb C cl fp => dqs_one (dt_cmp (de_v 5) (de_v 1) od_inW)) (fun a _ _ s Hb C cl fp => de_v 4)) (fun ds e => by rw [e, hfs] <;> rfl) sc__law_spot.nd (blkOk_by (show blkC N__law_spot (defScope s__law_spot) _ _ = true by decide +kernel))) ?_
  cases fs with
  | nil =>
    refine dss_one (ds_retE (DE.eq (de_if (d1 := .non) (dt_cmp (de_v 2) (DL.fzE (dl_ls (ds := []) da_nil)) (od_neNil (room64 hr) (fun _ h => by cases h))) (fun hc => by cases hc) (fun _ => de_bin de_int de_int od_sub)) rfl) ?_)
    show _ = Dt.int (spotI u v)
    have : place u v = none := by
      cases hp : place u v with
      | none => rfl
      | some n => rw [hp] at hz; cases hz
    unfold spotI
    rw [this] <;> rfl
  | cons p r =>
    refine dss_one (ds_retE (DE.eq (de_if (d2 := .non) (dt_cmp (de_v 2) (DL.fzE (dl_ls (ds := []) da_nil)) (od_neNil (room64 hr) (fun d h => by obtain ⟨q, _, rfl⟩ := List.mem_map.mp h; rfl))) (fun _ => de_ix (de_v 2) de_int (id_lst 0 (g := .int (p.2 : Int)))) (fun hc => by cases hc)) rfl) ?_)
    show _ = Dt.int (spotI u v)
    have : place u v = some p.2 := by
      cases hp : place u v with
      | none => rw [hp] at hz; cases hz
      | some n => rw [hp] at hz; have := hz.symm; simpa using this
    unfold spotI
    rw [this] <;> rfl
def S_met : List Sl → (Dt → Prop) → Prop := fun as R => ∃ (ev : List Dt) (told : Bool) (o slot : Int) (p : Pg), as = [.dat (.tup ev), .dat (.bl told), .dat (.int o), .dat (.int slot), .dat (pgD p)] ∧ R = fun d => d = metD ev told o slot p
theorem ok__law_met (T : Top w K mg) : Fn P w K mg base "_law_met" 1 P__law_met S_met := by
  refine Fn.mk1 (st := s__law_met) T 59 rfl T.g__law_met (fun fd F => fn_one F sc__law_met ?_) (fun _ _ _ _ _ _ us hl => match us, hl with | [_, _, _, _, _], _ => rfl)
  rintro as R ⟨ev, told, o, slot, p, rfl, rfl⟩
  refine ⟨⟨rfl, by simp [isMut]⟩, fun cdv A outer s H S0 E hr => ?_⟩
  refine dss_ifr (DW.q (wt_or (DW.q (wt_and (dt_cmp (de_v 2) de_int od_eqI) fun _ => (wt_and1 (dt_val (de_v 1))))) fun _ => (wt_or1 (DW.q (wt_and (dt_cmp (de_v 2) de_int od_eqI) fun _ => (wt_and1 (dt_not (dt_val (de_v 1))))))))) (fun hc => ?_) (fun hc => ?_)
  · refine dss_one (ds_retE (de_tp (ds := [_, _, _]) (da_cons (de_v 0) (da_cons (de_ifG Dt.str (dt_cmp (de_v 2) de_int od_eqI) (fun _ => de_str) (fun _ => de_str)) (da_cons de_non da_nil)))) ?_)
    show _ = metD ev told o slot p
    unfold metD
    rw [if_pos hc]
    simp only [decide_eq_true_eq]
  · refine dss_one (ds_retE (de_tp (ds := [_, _, scD (metSc told o slot p)]) (da_cons (de_v 0) (da_cons de_non (da_cons (DE.eq (de_bin (de_tp (ds := [_, _, _, _, _]) (da_cons (de_or (de_v 1) fun _ => (de_one (de_cmp (de_v 2) de_int od_eqI))) (da_cons (de_v 2) (da_cons (de_v 3) (da_cons de_int (da_cons de_int da_nil)))))) (de_v 4) (od_catT (fun z => nomatch z) (by exact (show (8 : Nat) ≤ sizeLine by decide)))) rfl) da_nil)))) ?_)
    show _ = metD ev told o slot p
    unfold metD
    rw [if_neg (by rw [hc]; exact Bool.false_ne_true)]
def S_later : List Sl → (List Dt → Prop) → Prop := fun as R => ∃ (h : Hs) (c : Int), as = [.dat (hdD h), .dat (.int c)] ∧ HOk h ∧ R = fun l => l = (chBL h c).map Dt.int
theorem ok__law_later (T : Top w K mg) : FnL P w K mg base "_law_later" 1 P__law_later S_later := by
  refine FnL.mk1 (st := s__law_later) T 56 rfl T.g__law_later (fun fd F => fn_oneL F sc__law_later ?_) (fun _ _ _ _ _ _ us hl => match us, hl with | [_, _], _ => rfl)
  rintro as R ⟨h, c, rfl, ho, rfl⟩
  refine ⟨⟨rfl, by simp [isMut]⟩, fun cdv A outer s H S0 E hr => ?_⟩
  refine dss_ifr (dt_cmp (de_dget (room1 hr) (de_v 0) de_str (hd_stamps h)) de_non od_notNo) (fun hc => ?_) (fun hc => ?_)
  · cases hs : h.stamps with
    | none => rw [hs] at hc; cases hc
    | some m =>
      have hm := ho.st m hs
      refine dss_one (ds_retLE (dl_ls (ds := [_]) (da_cons (de_bin (de_ct T.f_int bt_int (da_cons (de_bin (de_v 1) de_int od_add) da_nil) cd_intI) (DE.eq (de_dget (room1 hr) (de_v 0) de_str (hd_stamps h)) (d' := .int (m : Int)) (by rw [hs]; rfl)) (od_mod (by omega))) da_nil)) ⟨_, rfl, ?_⟩)
      unfold chBL
      rw [hs] <;> rfl
  · cases hs : h.stamps with
    | some m => rw [hs] at hc; cases hc
    | none =>
      refine dss_one (ds_retL (dl_if (dt_cmp (de_v 1) de_int od_ge) (fun hc => DL.mono (dl_ls (ds := [_]) (da_cons de_int da_nil)) (fun l e => ⟨l, rfl, ?_⟩)) (fun hc => DL.mono (dl_ls (ds := [_, _]) (da_cons (de_bin de_int de_int od_sub) (da_cons de_int da_nil))) (fun l e => ⟨l, rfl, ?_⟩))))
      · have hc' : (0 : Int) ≤ c := of_decide_eq_true hc.symm
        rw [e]; unfold chBL
        rw [hs]
        show _ = (if 0 ≤ c then [1] else [-1, 0] : List Int).map Dt.int
        rw [if_pos hc'] <;> rfl
      · have hc' : ¬ (0 : Int) ≤ c := of_decide_eq_false hc.symm
        rw [e]; unfold chBL
        rw [hs]
        show _ = (if 0 ≤ c then [1] else [-1, 0] : List Int).map Dt.int
        rw [if_neg hc'] <;> rfl
end

end DL
/-! Lc -/
set_option Elab.async false
set_option linter.all false
set_option maxRecDepth 100000
set_option maxHeartbeats 4000000
namespace DL
open PySem PySem.Spec PyProof.Rows L2
local macro_rules | `(tactic| walk_at "od") => `(tactic| first | exact od_eqS | exact od_neS | exact od_inT | exact od_notInT | exact od_inL | exact od_notInL | exact od_eqB | exact od_neB)
local macro_rules | `(tactic| walk_at "len") => `(tactic| first | omega | (simp only [List.length_append, List.length_cons, List.length_nil, List.length_take, List.length_drop]; omega))
section
variable {P : Program} {w : World} {K : PySem.W.Frag} {mg : Str → Option Value} {base : Heap}
abbrev W4L : Dt := .lst (W4.map Dt.str)
abbrev needF : List (Str × Dt) := [("there", .str "page"), ("same", .str "stamp"), ("holds", .str "key"), ("covers", .str "key"), ("fits", .str "slot")]
def needS : Tk → Str
  | .there => "page"
  | .same => "stamp"
  | .holds => "key"
  | .covers => "key"
  | .fits => "slot"
theorem need_look (t : Tk) : needF.lookup (tstS ⟨false, t⟩) = some (.str (needS t)) := by cases t <;> kernel_rfl
theorem need_nd : (needF.map (·.1)).Nodup := by decide +kernel
theorem is_so_tail {up : Bool} {sc : Sc} {t : Tk} (T : Top w K mg) {j : Nat} {cdv : Value} {A : Around} {outer : List Env} {s' : Shared} {H S0 : Hp} {E : XK} (hr : Room (j + 1) (A.deeper (envOfC "_law_is_so" (defScope s__law_is_so) s'.heap.objs.size (He.ga K "_law_is_so") cdv))) (ha : AOk sc) (rest : List Stmt) (er : rest = (defBody s__law_is_so).drop 1) :
    DSs (cxOf CX0 P w K mg base N__law_is_so "_law_is_so" (defScope s__law_is_so) (He.ga K "_law_is_so") cdv A outer s' H E).nox S0 H rest [.dat (.str (wayS up)), .dat (.str (tstS ⟨false, t⟩)), .dat (scD sc), .dat W4L, .un, .un] { nx := fun _ => isBl .non, rt := isBl } := by
  subst er
  refine dss_then (ρ1 := [.dat (.str (wayS up)), .dat (.str (tstS ⟨false, t⟩)), .dat (scD sc), .dat W4L, .dat (.dct needF), .un]) ?_ ?_
  · refine @ds_set _ _ _ _ _ _ _ 4 _ _ (.dct needF) ?_ rfl sc__law_is_so.nd rfl (Or.inl rfl) rfl (.inr rfl)
    refine DDs.fzE ?_
    refine @dd_disp _ _ _ _ _ 5 (fun z => z = needF) ?_ ?_ ?_
    · exact (dk_cons de_str (dk_cons de_str (dk_cons de_str (dk_cons de_str (dk_cons de_str dk_nil)))))
    · exact fun l e => by rw [e]; exact need_nd
    · decide
  cases hw : sc.word with
  | none =>
    refine dss_ifr (DW.q (wt_or (dt_cmp de_str (de_v 3) od_notInL) fun _ => (wt_or (dt_cmp (de_dget (room1 hr) (de_v 4) (de_v 1) (need_look t)) (de_v 3) od_notInL) fun _ => (wt_or1 (dt_cmp (de_scn (de_v 2) hw) de_non od_isN))))) (fun hc => dss_one (ds_retE de_bl ⟨_, rfl⟩)) (fun hc => ?_)
    exact absurd hc (by simp [isNon])
  | some u =>
    have hl := ha.len u hw
    have hrl := rows_le u
    refine dss_ifr (DW.q (wt_or (dt_cmp de_str (de_v 3) od_notInL) fun _ => (wt_or (dt_cmp (de_dget (room1 hr) (de_v 4) (de_v 1) (need_look t)) (de_v 3) od_notInL) fun _ => (wt_or1 (dt_cmp (de_scw (de_v 2) hw) de_non od_isN))))) (fun hc => dss_one (ds_retE de_bl ⟨_, rfl⟩)) (fun hc => ?_)
    refine dss_ifr (dt_cmp (de_v 1) de_str od_eqS) (fun hc => dss_one (ds_retE (de_cmp (de_sc (n := 3) (de_v 2)) de_int od_eqI) ⟨_, rfl⟩)) (fun hc => ?_)
    refine dss_ifr (dt_cmp (de_v 1) de_str od_eqS) (fun hc => dss_one (ds_retE (de_cmp (de_call (ok__law_spot T) (hr.mono (by omega)) (da_cons (de_scw (de_v 2) hw) (da_cons (de_strW [.k, .b]) da_nil)) ⟨_, _, rfl, hl, rfl⟩) de_int od_ge) ⟨_, rfl⟩)) (fun hc => ?_)
    refine dss_ifr (dt_cmp (de_v 1) de_str od_eqS) (fun hc => dss_one (ds_retE (de_cmp (de_sc (n := 6) (de_v 2)) (de_strSd .inn) od_eqSd) ⟨_, rfl⟩)) (fun hc => ?_)
    refine dss_then (ds_set 5 (de_bin (de_sc (n := 2) (de_v 2)) (de_ifG Dt.int (dt_cmp (de_v 0) de_str od_way) (fun _ => de_int) (fun _ => de_bin de_int de_int od_sub)) od_add) rfl sc__law_is_so.nd) ?_
    exact dss_one (ds_retE (de_or (de_cmp (de_v 1) de_str od_eqS) fun _ => (de_one (de_chain de_int (de_v 5) (fun _ => (de_lenL T.f_len (DL.fzE (dl_call1 (ok__law_rows_in T) (hr.mono (by omega)) (da_cons (de_scw (de_v 2) hw) da_nil) ⟨_, rfl, hl, rfl⟩)))) od_le (fun _ => od_lt)))) ⟨_, rfl⟩)
def S_is_so0 : List Sl → (Dt → Prop) → Prop := fun as R => ∃ (up : Bool) (s : Sc) (t : Tk), as = [.dat (.str (wayS up)), .dat (.str (tstS ⟨false, t⟩)), .dat (scD s), .dat W4L] ∧ AOk s ∧ R = isBl
theorem ok__law_is_so0 (T : Top w K mg) : Fn P w K mg base "_law_is_so" 2 P__law_is_so S_is_so0 := by
  refine Fn.mk1 (st := s__law_is_so) T 50 rfl T.g__law_is_so (fun fd F => fn_one F sc__law_is_so ?_) (fun _ _ _ _ _ _ us hl => match us, hl with | [_, _, _, _], _ => rfl)
  rintro as R ⟨up, sc, t, rfl, ha, rfl⟩
  refine ⟨⟨rfl, by simp [isMut]⟩, fun cdv A outer s' H S0 E hr => ?_⟩
  refine dss_ifr (dt_cmp (de_slS (de_v 1) dp_none (dp_some de_int) (tst_len _)) de_str od_eqS) (fun hc => ?_) (fun _ => ?_)
  · rw [tst_cut] at hc; cases hc
  · exact @is_so_tail _ _ _ _ _ _ _ _ T _ _ _ _ _ _ _ _ hr ha _ (by kernel_rfl)
def S_is_so : List Sl → (Dt → Prop) → Prop := fun as R => ∃ (up : Bool) (s : Sc) (t : Tst), as = [.dat (.str (wayS up)), .dat (.str (tstS t)), .dat (scD s), .dat W4L] ∧ AOk s ∧ R = isBl
theorem ok__law_is_so (T : Top w K mg) : Fn P w K mg base "_law_is_so" 3 P__law_is_so S_is_so := by
  refine Fn.mk1 (st := s__law_is_so) T 50 rfl T.g__law_is_so (fun fd F => fn_one F sc__law_is_so ?_) (fun _ _ _ _ _ _ us hl => match us, hl with | [_, _, _, _], _ => rfl)
  rintro as R ⟨up, sc, ⟨n, t⟩, rfl, ha, rfl⟩
  refine ⟨⟨rfl, by simp [isMut]⟩, fun cdv A outer s' H S0 E hr => ?_⟩
  refine dss_ifr (dt_cmp (de_slS (de_v 1) dp_none (dp_some de_int) (tst_len _)) de_str od_eqS) (fun hc => ?_) (fun hc => ?_)
  · rw [tst_cut] at hc
    cases n with
    | false => cases hc
    | true =>
      refine dss_one (ds_ret (dr_not (B := fun _ => True) (DR.mono (dr_call1 (ok__law_is_so0 T) hr (da_cons (de_v 0) (da_cons (DE.eq (de_slS (de_v 1) (dp_some de_int) dp_none (tst_len _)) (congrArg Dt.str (tst_rest t))) (da_cons (de_v 2) (da_cons (de_v 3) da_nil)))) ⟨_, _, _, rfl, ha, rfl⟩) fun d ⟨b, e⟩ => ⟨b, e, trivial⟩) fun k _ => ⟨_, rfl⟩))
  · rw [tst_cut] at hc
    cases n with
    | true => cases hc
    | false => exact @is_so_tail _ _ _ _ _ _ _ _ T _ _ _ _ _ _ _ _ hr ha _ (by kernel_rfl)
def NatsLt (m : Nat) (l : List Dt) : Prop := ∃ ns : List Nat, l = (ns.map fun n : Nat => Dt.int (n : Int)) ∧ (∀ n ∈ ns, n < m) ∧ ns.length ≤ 20000
theorem rg2_nats {a b : Nat} (hb : b ≤ 10000) : NatsLt b (rg2 (a : Int) (b : Int)) := by
  refine ⟨(List.range (b - a)).map fun i => a + i, ?_, fun n hn => ?_, by rw [List.length_map, List.length_range]; omega⟩
  · unfold rg2
    rw [List.map_map]
    have e : ((b : Int) - (a : Int)).toNat = b - a := by omega
    rw [e]
    congr 1
  · obtain ⟨i, hi, rfl⟩ := List.mem_map.mp hn
    have := List.mem_range.mp hi
    omega
theorem upTo_nats {a m : Nat} (h : a ≤ m) (h2 : a ≤ 10000) : NatsLt m (upTo a).reverse := by
  refine ⟨(List.range a).reverse, ?_, fun n hn => ?_, by rw [List.length_reverse, List.length_range]; omega⟩
  · unfold upTo
    rw [List.map_reverse]
  · have := List.mem_range.mp (List.mem_reverse.mp hn)
    omega
def S_greater : List Sl → (List Dt → Prop) → Prop := fun as R => ∃ (up : Bool) (s : Sc) (u : List Lt), as = [.dat (.str (wayS up)), .dat (scD s)] ∧ s.word = some u ∧ AOk s ∧ R = NatsLt (rowsOf u).length
theorem ok__law_greater (T : Top w K mg) : FnL P w K mg base "_law_greater" 2 P__law_greater S_greater := by
  refine FnL.mk1 (st := s__law_greater) T 51 rfl T.g__law_greater (fun fd F => fn_oneL F sc__law_greater ?_) (fun _ _ _ _ _ _ us hl => match us, hl with | [_, _], _ => rfl)
  rintro as R ⟨up, sc, u, rfl, hu, ha, rfl⟩
  refine ⟨⟨rfl, by simp [isMut]⟩, fun cdv A outer s' H S0 E hr => ?_⟩
  have hl := ha.len u hu
  have hrl := rows_le u
  refine dss_then (ρ1 := [.dat (.str (wayS up)), .dat (scD sc), .dat (.str (enc u)), .dat (.str (sdS sc.key)), .dat (.int ((rowsOf u).length : Int)), .un, .un, .un]) (ds_par3 2 3 4 (da_cons (de_scw (de_v 1) hu) (da_cons (de_sc (n := 6) (de_v 1)) (da_cons (DE.eq (de_lenL T.f_len (DL.fzE (dl_call1 (ok__law_rows_in T) hr (da_cons (de_scw (de_v 1) hu) da_nil) ⟨_, rfl, hl, rfl⟩))) (d' := .int ((rowsOf u).length : Int)) (by rw [List.length_map])) da_nil))) (fun as e => ⟨_, _, _, e, rfl⟩) sc__law_greater.nd) ?_
  have tail : ∀ (a b : Nat) (d : Sl), a ≤ (rowsOf u).length → b ≤ 1 → ∀ rest, rest = (defBody s__law_greater).drop 3 → DSs (cxOf CX0 P w K mg base N__law_greater "_law_greater" (defScope s__law_greater) (He.ga K "_law_greater") cdv A outer s' H E).nox S0 H rest [.dat (.str (wayS up)), .dat (scD sc), .dat (.str (enc u)), .dat (.str (sdS sc.key)), .dat (.int ((rowsOf u).length : Int)), .dat (.int (a : Int)), .dat (.int (b : Int)), d] { nx := fun _ => False, rt := fun d => ∃ ds, d = .lst ds ∧ NatsLt (rowsOf u).length ds, fr := true } := fun a b d hab hb rest er => by
    subst er
    refine dss_one (ds_retL (dl_if (dt_cmp (de_v 0) de_str od_way) (fun _ => DL.mono (dl_listRg2 (i := ((a + b : Nat) : Int)) T.f_list T.f_range (DE.eq (de_bin (de_v 5) (de_v 6) od_add) (by rw [Int.natCast_add] <;> rfl)) (de_v 4) ⟨by omega, by omega⟩ ⟨by omega, by omega⟩) (fun l e => ⟨l, rfl, by rw [e]; exact rg2_nats (by omega)⟩)) (fun _ => DL.mono (dl_rev (dl_listRg1 (n := a) T.f_list T.f_range (de_v 5) (by omega)) (DE.eq (de_bin de_int de_int od_sub) rfl) (fun _ _ => trivial)) (fun l ⟨ds, e1, e2⟩ => ⟨l, rfl, by rw [e2, e1]; exact upTo_nats hab (by omega)⟩))))
  refine dss_cons (M := fun z => ∃ a : Nat, a ≤ (rowsOf u).length ∧ z = [.dat (.str (wayS up)), .dat (scD sc), .dat (.str (enc u)), .dat (.str (sdS sc.key)), .dat (.int ((rowsOf u).length : Int)), .dat (.int (a : Int)), .dat (.int ((0 : Nat) : Int)), .un]) (ds_par 5 6 (da_cons (de_ifG (fun n : Nat => Dt.int (n : Int)) (x := 0) (dt_cmp (de_v 3) (de_strSd .left) od_eqSd) (fun _ => de_int) (fun _ => de_v 4)) (da_cons de_int da_nil)) (fun as e => ⟨_, _, e, _, ?_, rfl⟩) sc__law_greater.nd) ?_
  · split <;> omega
  rintro z ⟨a, hab, rfl⟩
  by_cases hk : sc.key = .inn
  · obtain ⟨u2, hu2, hp⟩ := ha.key hk
    have : u2 = u := by rw [hu] at hu2; exact (Option.some.inj hu2).symm
    subst this
    obtain ⟨n, hn⟩ := Option.isSome_iff_exists.mp hp
    have hnl : n < u2.length := by
      have h1 := hn
      unfold place at h1
      obtain ⟨h2, _⟩ := List.findIdx?_eq_some_iff_getElem.mp h1
      exact h2
    have hs : spotI u2 [.k, .r, .b] = (n : Int) := by unfold spotI; rw [hn] <;> rfl
    have hrt := rows_take u2 n
    refine dss_cons (M := fun z => ∃ b : Nat, b ≤ 1 ∧ z = [.dat (.str (wayS up)), .dat (scD sc), .dat (.str (enc u2)), .dat (.str (sdS sc.key)), .dat (.int ((rowsOf u2).length : Int)), .dat (.int ((rowsOf (u2.take n)).length : Int)), .dat (.int (b : Int)), .dat (.int (n : Int))]) (ds_ifT (k := true) (DT.eq (dt_cmp (de_v 3) (de_strSd .inn) od_eqSd) (by simpa using hk)) (fun _ => ?_) (fun hc => by cases hc)) ?_
    · refine dss_then (ρ1 := [.dat (.str (wayS up)), .dat (scD sc), .dat (.str (enc u2)), .dat (.str (sdS sc.key)), .dat (.int ((rowsOf u2).length : Int)), .dat (.int (a : Int)), .dat (.int ((0 : Nat) : Int)), .dat (.int (n : Int))]) (ds_set 7 (DE.eq (de_call (ok__law_spot T) hr (da_cons (de_v 2) (da_cons (de_strW [.k, .r, .b]) da_nil)) ⟨_, _, rfl, hl, rfl⟩) (by rw [hs])) rfl sc__law_greater.nd) ?_
      exact dss_one (ds_par 5 6 (da_cons (DE.eq (de_lenL T.f_len (DL.fzE (dl_call1 (ok__law_rows_in T) hr (da_cons (de_slWhi (n := n) (de_v 2) (de_v 7) rfl (by omega)) da_nil) ⟨_, rfl, by rw [List.length_take]; omega, rfl⟩))) (d' := .int ((rowsOf (u2.take n)).length : Int)) (by rw [List.length_map])) (da_cons (de_ct T.f_int bt_int (da_cons (de_cmp (DE.eq (de_ix (de_v 2) (de_v 7) (id_str n (c := cd u2[n]) (by rw [enc_len, sizeLine_eq]; omega) (by rw [enc_list, List.getElem?_map, List.getElem?_eq_getElem hnl]; rfl))) (d' := .str (enc [u2[n]])) rfl) (de_strW [.r]) od_neW) da_nil) cd_intB) da_nil)) (fun as e => ⟨_, _, e, if decide ([u2[n]] = [Lt.r]) = true then 0 else 1, by split <;> omega, by
        by_cases hd : [u2[n]] = [Lt.r]
        · rw [decide_eq_true hd]; rfl
        · rw [decide_eq_false hd]; rfl⟩) sc__law_greater.nd)
    · rintro z ⟨b, hb, rfl⟩
      exact tail _ b _ hrt hb _ (by kernel_rfl)
  · refine dss_then (ρ1 := [.dat (.str (wayS up)), .dat (scD sc), .dat (.str (enc u)), .dat (.str (sdS sc.key)), .dat (.int ((rowsOf u).length : Int)), .dat (.int (a : Int)), .dat (.int ((0 : Nat) : Int)), .un]) (ds_ifT (k := false) (DT.eq (dt_cmp (de_v 3) (de_strSd .inn) od_eqSd) (by simpa using hk)) (fun hc => by cases hc) (fun _ => dss_nil rfl)) ?_
    exact tail a 0 _ hab (Nat.zero_le _) _ (by kernel_rfl)
def IsTst (d : Dt) : Prop := ∃ t : Tst, d = .str (tstS t)
theorem IsTst.ni {d : Dt} (h : IsTst d) : notInt d = true := let ⟨_, e⟩ := h; by rw [e] <;> rfl
theorem IsTst.pl {d : Dt} (h : IsTst d) : pln 7 d = true := by
  obtain ⟨⟨n, t⟩, rfl⟩ := h
  cases n <;> cases t <;> decide +kernel
def AimR (s : Sc) (d : Dt) : Prop := d = .non ∨ ∃ (i : Int) (z : Dt), d = .tup [.int i, z] ∧ AimTo s z
def lnsD (rs : List Rw) : Dt := .lst (rs.map lnD)
structure LnOk (rs : List Rw) : Prop where
  rows : rs.length ≤ 1000
  tests : ∀ q ∈ rs, q.tests.length ≤ 1000
def S_aim : List Sl → (Dt → Prop) → Prop := fun as R => ∃ (up : Bool) (rs : List Rw) (s : Sc), as = [.dat (.str (wayS up)), .dat (lnsD rs), .dat (scD s), .dat W4L] ∧ AOk s ∧ LnOk rs ∧ R = AimR s
theorem ok__law_aim (T : Top w K mg) : Fn P w K mg base "_law_aim" 4 P__law_aim S_aim := by
  refine Fn.mk1 (st := s__law_aim) T 52 rfl T.g__law_aim (fun fd F => fn_one F sc__law_aim ?_) (fun _ _ _ _ _ _ us hl => match us, hl with | [_, _, _, _], _ => rfl)
  rintro as R ⟨up, rs, sc, rfl, ha, hln, rfl⟩
  refine ⟨⟨rfl, by simp [isMut]⟩, fun cdv A outer s' H S0 E hr => ?_⟩
  refine dss_cons (M := fun z => z = [.dat (.str (wayS up)), .dat (lnsD rs), .dat (scD sc), .dat W4L, .un, .un, .un, .un, .un, .un, .un, .un, .un, .un, .un]) (ds_for (di_enumL (RL := fun z => z = rs.map lnD) T.f_enumerate (DR.mono (de_v 1) fun d e => ⟨_, e, rfl⟩)) fun ds hds => ⟨fun i z => z = [.dat (.str (wayS up)), .dat (lnsD rs), .dat (scD sc), .dat W4L, .un, .un, .un, .un, .un, .un, .un, .un, .un, .un, .un], ⟨_, rfl, Wk.refl _⟩, ?_, ?_⟩) ?_
  · rintro i d ρi hd rfl
    obtain ⟨zs, rfl, rfl⟩ := hds
    have hlt : i < rs.length := by
      have := (List.getElem?_eq_some_iff.mp hd).1
      simpa [enumD_len] using this
    have hg : (rs.map lnD)[i]? = some (lnD rs[i]) := by simp [hlt]
    have e : d = .tup [.int (i : Int), lnD rs[i]] := by
      have := enumD_get 0 _ i _ hg
      rw [this] at hd
      simpa using hd.symm
    subst e
    have hm : rs[i] ∈ rs := List.getElem_mem hlt
    generalize rs[i] = q at hm
    have hqt := hln.tests q hm
    refine ⟨[4, 5], dg2 4 5 ?_ sc__law_aim.nd⟩
    refine dss_then (ρ1 := [.dat (.str (wayS up)), .dat (lnsD rs), .dat (scD sc), .dat W4L, .dat (.int (i : Int)), .dat (lnD q), .dat (.lst (tsD q.tests)), .dat (.str (ddS q.deed)), .un, .un, .un, .un, .un, .un, .un]) (ds_asg (de_v 5) (dg2 6 7 rfl sc__law_aim.nd)) ?_
    refine dss_then (ds_set 8 (de_and (de_cmp de_str (de_v 3) od_inL) fun _ => (de_one (de_cmp (de_sc (n := 5) (de_v 2)) de_non od_notN))) rfl sc__law_aim.nd) ?_
    refine dss_then (ds_set 9 (de_ifG Dt.bl (dt_cmp (de_v 7) de_str od_eqS) (fun _ => de_cmp de_str (de_v 3) od_inL) (fun _ => (de_and (de_v 8) fun _ => (de_one (de_cmp (de_v 7) (de_v 3) od_inL))))) rfl sc__law_aim.nd) ?_
    generalize hcan : (if decide (ddS q.deed = "find") = true then decide (("key" : Str) ∈ W4) else _) = can
    refine dss_cons (M := fun z => ∃ l : List Dt, (∀ d ∈ l, IsTst d) ∧ z = [.dat (.str (wayS up)), .dat (lnsD rs), .dat (scD sc), .dat W4L, .dat (.int (i : Int)), .dat (lnD q), .dat (.lst (tsD q.tests)), .dat (.str (ddS q.deed)), .dat (.bl (decide (("page" : Str) ∈ W4) && !isNon (woD sc.word))), .dat (.bl can), .dat (.lst l), .un, .un, .un, .un]) (ds_lcF 10 [(".0", 13), ("_law_test", 14)] (RL := fun z => z = tsD q.tests) (di_list (DR.mono (de_v 6) fun d e => ⟨_, e, rfl⟩))
      (lc_some IsTst (fun ds e => by rw [e]; unfold tsD; rw [List.length_map]; omega) (fun d h => h.ni) [14] (by simp) (fun d => [.dat (.str (wayS up)), .dat (lnsD rs), .dat (scD sc), .dat W4L, .dat (.int (i : Int)), .dat (lnD q), .dat (.lst (tsD q.tests)), .dat (.str (ddS q.deed)), .dat (.bl (decide (("page" : Str) ∈ W4) && !isNon (woD sc.word))), .dat (.bl can), .un, .un, .un, .un, .dat d]) (fun _ _ => True)
        (fun ds e d hd s Hb C cl fp => dg_name 14 rfl sc__law_aim.nd)
        (fun ds e d hd s Hb C cl fp => by
          rw [e] at hd
          obtain ⟨t, ht, rfl⟩ := List.mem_map.mp hd
          exact dqs_one (dq_not (B := fun _ => True) (dq_val (DR.mono (dr_call1 (ok__law_is_so T) hr (da_cons (de_v 0) (da_cons (de_v 14) (da_cons (de_v 2) (da_cons (de_v 3) da_nil)))) ⟨_, _, _, rfl, ha, rfl⟩) fun d ⟨b, e⟩ => ⟨b, e, trivial⟩)) fun _ _ => trivial))
        (fun ds e d hd _ s Hb C cl fp => by
          rw [e] at hd
          obtain ⟨t, ht, rfl⟩ := List.mem_map.mp hd
          exact DE.as (de_v 14) ⟨_, rfl⟩)) (fun l ⟨ds, _, _, h⟩ => ⟨l, h, rfl⟩) sc__law_aim.nd (blkOk_by (show blkC N__law_aim (defScope s__law_aim) _ _ = true by decide +kernel))) ?_
    rintro z ⟨l, hls, rfl⟩
    refine dss_one (ds_ifT (DW.q (wt_and (dt_val (de_v 9)) fun _ => (wt_and1 (dt_cmp (de_v 10) (DL.fzE (dl_ls (ds := []) da_nil)) (od_eqNil (room64 hr) (fun d hd => (hls d hd).pl)))))) (fun hc => ?_) (fun hc => ?_))
    · have hcan2 : can = true := (Bool.and_eq_true_iff.mp hc).1
      refine dss_ifr (DW.q (wt_and (dt_cmp (de_v 7) de_str od_eqS) fun _ => (wt_and1 (dt_cmp (de_sc (n := 6) (de_v 2)) (de_strSd .inn) od_neSd)))) (fun hc => ?_) (fun hc => ?_)
      · exact dss_one (ds_retE (de_tp (ds := [.int (i : Int), .tup [.str "beyond", .str ""]]) (da_cons (de_v 4) (da_cons (de_tp (ds := [_, _]) (da_cons de_str (da_cons de_str da_nil))) da_nil))) (Or.inr ⟨_, _, rfl, Or.inl rfl⟩))
      have hw : ∃ u, sc.word = some u := by
        by_cases hf : ddS q.deed = "find"
        · rw [decide_eq_true hf, Bool.true_and] at hc
          have hk : sc.key = .inn := by simpa using hc
          obtain ⟨u, hu, _⟩ := ha.key hk
          exact ⟨u, hu⟩
        · rw [if_neg (by simpa using hf)] at hcan
          rw [← hcan] at hcan2
          have h1 := (Bool.and_eq_true_iff.mp (Bool.and_eq_true_iff.mp hcan2).1).2
          cases hw : sc.word with
          | none => rw [hw] at h1; cases h1
          | some u => exact ⟨u, rfl⟩
      obtain ⟨u, hu⟩ := hw
      have hl := ha.len u hu
      have hrl := rows_le u
      refine dss_cons (M := fun z => ∃ j : Int, z = [.dat (.str (wayS up)), .dat (lnsD rs), .dat (scD sc), .dat W4L, .dat (.int (i : Int)), .dat (lnD q), .dat (.lst (tsD q.tests)), .dat (.str (ddS q.deed)), .dat (.bl (decide (("page" : Str) ∈ W4) && !isNon (woD sc.word))), .dat (.bl can), .dat (.lst l), .dat (.int j), .un, .un, .un]) (ds_set 11 (de_bin (de_sc (n := 2) (de_v 2)) (de_ifG Dt.int (dt_cmp (de_v 0) de_str od_way) (fun _ => de_int) (fun _ => de_bin de_int de_int od_sub)) od_add) ⟨_, rfl⟩ sc__law_aim.nd) ?_
      rintro z ⟨j, rfl⟩
      refine dss_cons (M := fun z => ∃ l2 : List Dt, NatsLt (rowsOf u).length l2 ∧ z = [.dat (.str (wayS up)), .dat (lnsD rs), .dat (scD sc), .dat W4L, .dat (.int (i : Int)), .dat (lnD q), .dat (.lst (tsD q.tests)), .dat (.str (ddS q.deed)), .dat (.bl (decide (("page" : Str) ∈ W4) && !isNon (woD sc.word))), .dat (.bl can), .dat (.lst l), .dat (.int j), .dat (.lst l2), .un, .un]) (ds_ifT (dt_cmp (de_v 7) de_str od_eqS) (fun _ => dss_one (ds_setR 12 (DL.fz (RL := NatsLt (rowsOf u).length) (dl_if (dt_chain de_int (de_v 11) (fun _ => (DE.eq (de_lenL T.f_len (DL.fzE (dl_call1 (ok__law_rows_in T) (hr.mono (by decide)) (da_cons (de_scw (de_v 2) hu) da_nil) ⟨_, rfl, hl, rfl⟩))) (d' := .int ((rowsOf u).length : Int)) (by rw [List.length_map]))) od_le (fun _ => od_lt)) (fun hb => DL.mono (dl_ls (ds := [.int j]) (da_cons (de_v 11) da_nil)) fun l e => ?_) (fun _ => DL.mono (dl_ls (ds := []) da_nil) fun l e => ⟨[], by rw [e] <;> rfl, (fun n hn => by cases hn), Nat.zero_le _⟩))) (fun d ⟨l2, e, h⟩ => ⟨l2, h, by rw [e] <;> rfl⟩) sc__law_aim.nd))
        (fun _ => dss_one (ds_setR 12 (DL.fz (dl_call1 (ok__law_greater T) (hr.mono (by decide)) (da_cons (de_v 0) (da_cons (de_v 2) da_nil)) ⟨_, _, _, rfl, hu, ha, rfl⟩)) (fun d ⟨l2, e, h⟩ => ⟨l2, h, by rw [e] <;> rfl⟩) sc__law_aim.nd))) ?_
      · obtain ⟨h1, h2⟩ := Bool.and_eq_true_iff.mp hb.symm
        have h1' : (0 : Int) ≤ j := of_decide_eq_true h1
        have h2' : j < ((rowsOf u).length : Int) := of_decide_eq_true h2
        refine ⟨[j.toNat], by rw [e]; show _ = [Dt.int ((j.toNat : Nat) : Int)]; rw [Int.toNat_of_nonneg h1'], fun n hn => ?_, by simp⟩
        rw [List.mem_singleton.mp hn]; omega
      rintro z ⟨l2, ⟨ns, rfl, hns, _⟩, rfl⟩
      cases ns with
      | nil =>
        exact dss_one (ds_retE (de_tp (ds := [.int (i : Int), ledD none]) (da_cons (de_v 4) (da_cons (DE.eq (de_if (d1 := .non) (dt_cmp (de_v 12) (DL.fzE (dl_ls (ds := []) da_nil)) (od_neNil (room64 hr) (fun _ h => by cases h))) (fun hc => by cases hc) (fun _ => (de_tp (ds := [_, _]) (da_cons de_str (da_cons de_str da_nil))))) rfl) da_nil))) (Or.inr ⟨_, _, rfl, Or.inr (Or.inl rfl)⟩))
      | cons n r =>
        exact dss_one (ds_retE (de_tp (ds := [.int (i : Int), ledD (some n)]) (da_cons (de_v 4) (da_cons (DE.eq (de_if (d2 := .non) (dt_cmp (de_v 12) (DL.fzE (dl_ls (ds := []) da_nil)) (od_neNil (room64 hr) (fun d h => by obtain ⟨q, _, rfl⟩ := List.mem_map.mp h; rfl))) (fun _ => (de_tp (ds := [_, .int (n : Int)]) (da_cons de_str (da_cons (de_ix (de_v 12) de_int (id_lst 0)) da_nil)))) (fun hc => by cases hc)) rfl) da_nil))) (Or.inr ⟨_, _, rfl, Or.inr (Or.inr ⟨u, n, hu, hns n (by simp), rfl⟩)⟩))
    · exact dss_nil ⟨_, rfl, .eq (.eq (.eq (.eq (.un (.un (.un (.un (.un (.un (.un (.eq (.eq (.eq (.eq .nil))))))))))))))⟩
  · rintro z rfl
    rfl
  · rintro z rfl
    exact dss_one (ds_retE de_non (Or.inl rfl))
end

end DL
/-! Ld -/
set_option Elab.async false
set_option linter.all false
set_option maxRecDepth 100000
set_option maxHeartbeats 4000000
namespace DL
open PySem PySem.Spec PyProof.Rows L2
local macro_rules | `(tactic| walk_at "od") => `(tactic| first | exact od_eqS | exact od_neS | exact od_inT | exact od_notInT | exact od_inL | exact od_notInL | exact od_eqB | exact od_neB)
local macro_rules | `(tactic| walk_at "len") => `(tactic| first | omega | (simp only [List.length_append, List.length_cons, List.length_nil, List.length_take, List.length_drop]; omega))
section
variable {P : Program} {w : World} {K : PySem.W.Frag} {mg : Str → Option Value} {base : Heap}
theorem layer_wl {ls : List Lt} {m : Nat} : ∀ i, ∀ u ∈ layerW ls m i, u.length = i
  | 0, u, h => by rw [List.mem_singleton.mp h]; rfl
  | i + 1, u, h => by
    obtain ⟨v, hv, hu⟩ := List.mem_flatMap.mp h
    have hi := layer_wl i v hv
    have hu2 := (List.mem_filter.mp hu).1
    rcases List.mem_append.mp hu2 with q | q
    · obtain ⟨l, _, rfl⟩ := List.mem_map.mp q
      simp [hi]
    · rw [List.mem_singleton.mp q]; simp [hi]
theorem steps_len {ls : List Lt} {m : Nat} (h : ls.length ≤ 4) (u : List Lt) : (stepsW ls m u).length ≤ 5 := by
  unfold stepsW
  refine Nat.le_trans (List.length_filter_le ..) ?_
  rw [List.length_append, List.length_map]
  have := List.length_filter_le (fun l => !decide (l ∈ u)) ls
  simp only [List.length_cons, List.length_nil]
  omega
theorem layer_len {ls : List Lt} {m : Nat} (h : ls.length ≤ 4) : ∀ i, (layerW ls m i).length ≤ 5 ^ i
  | 0 => by simp [layerW]
  | i + 1 => by
    have h1 := flen (stepsW ls m) 5 (layerW ls m i) fun u _ => steps_len h u
    have h2 := layer_len (m := m) h i
    show ((layerW ls m i).flatMap (stepsW ls m)).length ≤ _
    rw [Nat.pow_succ]
    omega
theorem found_len {ls : List Lt} {m : Nat} (h : ls.length ≤ 4) : ∀ i, 4 * (foundW ls m i).length ≤ 5 ^ (i + 1)
  | 0 => by simp [foundW]
  | i + 1 => by
    have h1 := found_len (m := m) h i
    have h2 := layer_len (m := m) h (i + 1)
    show 4 * (foundW ls m i ++ layerW ls m (i + 1)).length ≤ _
    rw [List.length_append]
    have e : 5 ^ (i + 1 + 1) = 5 ^ (i + 1) * 5 := Nat.pow_succ ..
    omega
theorem found_wl {ls : List Lt} {m : Nat} : ∀ i, ∀ u ∈ foundW ls m i, u.length ≤ i
  | 0, u, h => by rw [List.mem_singleton.mp h]; exact Nat.le_refl 0
  | i + 1, u, h => by
    rcases List.mem_append.mp h with q | q
    · have := found_wl i u q; omega
    · have := layer_wl (i + 1) u q; omega
theorem pow_le5 {i : Nat} (h : i ≤ 5) : 5 ^ i ≤ 3125 := Nat.pow_le_pow_right (by decide) h
theorem allW_len {ls : List Lt} {m : Nat} (h : ls.length ≤ 4) (hm : m ≤ 3) : (allW ls m).length ≤ 3906 := by
  have h1 := found_len (m := m) h (m + 2)
  have h2 : 5 ^ (m + 2 + 1) ≤ 5 ^ 6 := Nat.pow_le_pow_right (by decide) (by omega)
  have h3 : 5 ^ 6 = 15625 := by decide
  unfold allW
  omega
theorem allW_wl {ls : List Lt} {m : Nat} (hm : m ≤ 3) : ∀ u ∈ allW ls m, u.length ≤ 5 := fun u hu => by
  have := found_wl (m + 2) u hu; omega
def S_all_words : List Sl → (Dt → Prop) → Prop := fun as R => ∃ (ls : List Lt) (m : Nat), as = [.dat (.str (enc ls)), .dat (.int (m : Int))] ∧ ls.length ≤ 4 ∧ m ≤ 3 ∧ R = fun d => d = wsD (allW ls m)
theorem ok__law_all_words (T : Top w K mg) : Fn P w K mg base "_law_all_words" 2 P__law_all_words S_all_words := by
  refine Fn.mk1 (st := s__law_all_words) T 53 rfl T.g__law_all_words (fun fd F => fn_one F sc__law_all_words ?_) (fun _ _ _ _ _ _ us hl => match us, hl with | [_, _], _ => rfl)
  rintro as R ⟨ls, m, rfl, hls, hm, rfl⟩
  refine ⟨⟨rfl, by simp [isMut]⟩, fun cdv A outer s' H S0 E hr => ?_⟩
  refine dss_then (ρ1 := [.dat (.str (enc ls)), .dat (.int (m : Int)), .dat (wsD [[]]), .dat (wsD [[]]), .un, .un, .un, .un, .un, .un, .un]) (ds_par 2 3 (da_cons (DL.fzE (dl_ls (ds := [wD []]) (da_cons (de_strW []) da_nil))) (da_cons (DL.fzE (dl_ls (ds := [wD []]) (da_cons (de_strW []) da_nil))) da_nil)) (fun as e => ⟨_, _, e, rfl⟩) sc__law_all_words.nd) ?_
  refine dss_cons (M := fun z => ∃ a b c d e f : Sl, z = [.dat (.str (enc ls)), .dat (.int (m : Int)), .dat (wsD (allW ls m)), a, .un, b, c, d, .un, e, f]) (ds_for (di_range (n := ((m + 2 : Nat) : Int)) T.f_range (DE.eq (de_bin (de_v 1) de_int od_add) (by rw [Int.natCast_add] <;> rfl)) ⟨by omega, by omega⟩) fun ds hds => ⟨fun i z => z = [.dat (.str (enc ls)), .dat (.int (m : Int)), .dat (wsD (foundW ls m i)), .dat (wsD (layerW ls m i)), .un, .un, .un, .un, .un, .un, .un], ⟨_, rfl, Wk.refl _⟩, ?_, ?_⟩) ?_
  · rintro i d ρi hd rfl
    have hi : i < m + 2 := by
      have := (List.getElem?_eq_some_iff.mp hd).1
      rw [hds, upTo_len] at this
      omega
    have hll := layer_len (m := m) hls i
    have hp := pow_le5 (i := i) (by omega)
    have hsl : ((layerW ls m i).flatMap (stepsW ls m)).length ≤ 15625 := by
      have := layer_len (m := m) hls (i + 1)
      have h2 : 5 ^ (i + 1) ≤ 5 ^ 6 := Nat.pow_le_pow_right (by decide) (by omega)
      exact Nat.le_trans this (Nat.le_trans h2 (by decide))
    refine ⟨[4], dg_name 4 ?_ sc__law_all_words.nd⟩
    refine dss_then (ρ1 := [.dat (.str (enc ls)), .dat (.int (m : Int)), .dat (wsD (foundW ls m i)), .dat (wsD (layerW ls m i)), .dat d, .ml [], .un, .un, .un, .un, .un]) (ds_setL 5 (dl_ls (ds := []) da_nil) (fun l e => by rw [e]; exact ⟨rfl, rfl⟩) sc__law_all_words.nd) ?_
    refine dss_cons (M := fun z => z = [.dat (.str (enc ls)), .dat (.int (m : Int)), .dat (wsD (foundW ls m i)), .dat (wsD (layerW ls m i)), .dat d, .ml ((layerW ls m (i + 1)).map wD), .un, .un, .un, .un, .un]) (ds_acc (layerW ls m i) wD (fun u => (stepsW ls m u).map wD) [] (fun acc => [.dat (.str (enc ls)), .dat (.int (m : Int)), .dat (wsD (foundW ls m i)), .dat (wsD (layerW ls m i)), .dat d, .ml acc, .un, .un, .un, .un, .un]) (di_list (DR.mono (de_v 3) fun d e => ⟨_, e, rfl⟩)) rfl rfl (fun u _ => by rw [List.all_map, List.all_eq_true]; intro _ _; rfl) (fun u hu acc hacc hlen => ?_) (fun _ => ?_)) ?_
    · have hul := layer_wl i u hu
      have hst := steps_len (m := m) hls u
      have htot : acc.length + (stepsW ls m u).length ≤ 15625 := by
        have e : ((layerW ls m i).flatMap fun u => (stepsW ls m u).map wD).length = ((layerW ls m i).flatMap (stepsW ls m)).length := by
          rw [← List.map_flatMap, List.length_map]
        rw [e, List.length_nil, List.length_map] at hlen
        omega
      refine ⟨[6], dg_name 6 ?_ sc__law_all_words.nd⟩
      have e1 : ((ls.filter fun l => !decide (l ∈ u)).map fun l => wD (u ++ [l])) ++ [wD (u ++ [Lt.d])] = (((ls.filter fun l => !decide (l ∈ u)).map fun l => u ++ [l]) ++ [u ++ [Lt.d]]).map wD := by
        rw [List.map_append, List.map_map] <;> rfl
      generalize hmore : ((ls.filter fun l => !decide (l ∈ u)).map fun l => u ++ [l]) ++ [u ++ [Lt.d]] = more at e1
      have hfl := List.length_filter_le (fun l => !decide (l ∈ u)) ls
      have hml : more.length ≤ 5 := by
        rw [← hmore, List.length_append, List.length_map, List.length_singleton]
        omega
      have hmw : ∀ v ∈ more, v.length ≤ 10 := fun v hv => by
        rw [← hmore] at hv
        rcases List.mem_append.mp hv with q | q
        · obtain ⟨l, _, rfl⟩ := List.mem_map.mp q
          simp; omega
        · rw [List.mem_singleton.mp q]; simp; omega
      refine dss_then (ρ1 := [.dat (.str (enc ls)), .dat (.int (m : Int)), .dat (wsD (foundW ls m i)), .dat (wsD (layerW ls m i)), .dat d, .ml acc, .dat (wD u), .dat (wsD more), .un, .un, .un]) (ds_setF 7 (ds := more.map wD) (dl_cat (RA := fun l => l = (ls.filter fun l => !decide (l ∈ u)).map fun l => wD (u ++ [l])) (RB := fun l => l = [wD (u ++ [Lt.d])]) (DL.fz (dl_lc (own := [(".0", 8), ("_law_letter", 9)]) (di_word (de_v 0))
          (lc_map ls (fun c => Dt.str (enc [c])) (fun l => !decide (l ∈ u)) (fun l => wD (u ++ [l])) (by omega) (fun _ _ => rfl) (fun c => [.dat (.str (enc ls)), .dat (.int (m : Int)), .dat (wsD (foundW ls m i)), .dat (wsD (layerW ls m i)), .dat d, .ml acc, .dat (wD u), .un, .un, .dat (.str (enc [c])), .un]) (L := [9]) (by simp) (fun a _ s Hb C cl fp => dg_name 9 rfl sc__law_all_words.nd)
            (fun a _ s Hb C cl fp => dqs_one (dt_cmp (de_v 9) (de_v 6) od_notInW)) (fun a _ _ s Hb C cl fp => de_bin (de_v 6) (de_v 9) (od_addW (by simp; omega)))) sc__law_all_words.nd (blkOk_by (show blkC N__law_all_words (defScope s__law_all_words) _ _ = true by decide +kernel))))
          (DL.fz (dl_ls (ds := [wD (u ++ [Lt.d])]) (da_cons (de_bin (de_v 6) (de_strW [.d]) (od_addW (by simp; omega))) da_nil))) (fun x y hx hy => ⟨by rw [hx, hy, List.length_map, List.length_singleton, sizeLine_eq]; omega, by rw [hx, hy, e1]⟩)) rfl sc__law_all_words.nd) ?_
      refine dss_one (ds_extend 5 (ds := acc) (DL.fz (dl_lc (own := [(".0", 8), ("_law_one", 10)]) (di_list (RL := fun z => z = more.map wD) (DR.mono (de_v 7) fun d e => ⟨_, e, rfl⟩))
          (lc_map more wD (fun v => decide (((rowsOf v).length : Int) ≤ (m : Int))) wD (by omega) (fun _ _ => rfl) (fun v => [.dat (.str (enc ls)), .dat (.int (m : Int)), .dat (wsD (foundW ls m i)), .dat (wsD (layerW ls m i)), .dat d, .ml acc, .dat (wD u), .dat (wsD more), .un, .un, .dat (wD v)]) (L := [10]) (by simp) (fun a _ s Hb C cl fp => dg_name 10 rfl sc__law_all_words.nd)
            (fun a ha s Hb C cl fp => dqs_one (dt_cmp (DE.eq (de_lenL T.f_len (DL.fzE (dl_call1 (ok__law_rows_in T) hr (da_cons (de_v 10) da_nil) ⟨_, rfl, by have := hmw a ha; omega, rfl⟩))) (d' := .int ((rowsOf a).length : Int)) (by rw [List.length_map])) (de_v 1) od_le)) (fun a _ _ s Hb C cl fp => de_v 10)) sc__law_all_words.nd (blkOk_by (show blkC N__law_all_words (defScope s__law_all_words) _ _ = true by decide +kernel))))
        (fun l e => ?_) hacc)
      have e3 : (more.filter fun v => decide (((rowsOf v).length : Int) ≤ (m : Int))) = stepsW ls m u := by
        unfold stepsW
        rw [hmore]
        congr 1
        funext v
        exact decide_eq_decide.mpr (by omega)
      rw [e3] at e
      exact ⟨by rw [e, List.all_map, List.all_eq_true]; intro _ _; rfl, by rw [e, List.length_map]; omega, ⟨_, rfl, by rw [e]; exact .eq (.eq (.eq (.eq (.eq (.eq (.un (.un (.un (.un (.un .nil))))))))))⟩⟩
    · show _ = _
      rw [List.nil_append, ← List.map_flatMap] <;> rfl
    · rintro z rfl
      refine dss_fz 5 ?_
      refine dss_then (ds_set 3 (de_v 5) rfl sc__law_all_words.nd) ?_
      refine dss_one (ds_setF 2 (ds := (foundW ls m (i + 1)).map wD) (dl_cat (RA := fun l => l = (foundW ls m i).map wD) (RB := fun l => l = (layerW ls m (i + 1)).map wD) (DR.mono (de_v 2) fun d e => ⟨_, e, rfl⟩) (DR.mono (de_v 5) fun d e => ⟨_, e, rfl⟩) (fun x y hx hy => ⟨?_, ?_⟩)) ⟨_, rfl, ?_⟩ sc__law_all_words.nd)
      · have h1 := found_len (m := m) hls (i + 1)
        have h2 : 5 ^ (i + 1 + 1) ≤ 5 ^ 6 := Nat.pow_le_pow_right (by decide) (by omega)
        have h3 : 5 ^ 6 = 15625 := by decide
        have h4 : (foundW ls m (i + 1)).length = (foundW ls m i).length + (layerW ls m (i + 1)).length := by
          show (foundW ls m i ++ layerW ls m (i + 1)).length = _
          rw [List.length_append]
        rw [hx, hy, List.length_map, List.length_map, sizeLine_eq]
        omega
      · rw [hx, hy, ← List.map_append] <;> rfl
      · exact .eq (.eq (.eq (.eq (.un (.un (.un (.un (.un (.un (.un .nil))))))))))
  · rintro z hz
    subst hz
    rw [hds, upTo_len]
    have e : (((m + 2 : Nat) : Int)).toNat = m + 2 := by omega
    rw [e]
    exact ⟨_, _, _, _, _, _, rfl⟩
  · rintro z ⟨_, _, _, _, _, _, rfl⟩
    exact dss_one (ds_retE (de_v 2) rfl)
end

end DL
/-! Le -/
set_option Elab.async false
set_option linter.all false
set_option maxRecDepth 100000
set_option maxHeartbeats 4000000
namespace DL
open PySem PySem.Spec PyProof.Rows L2
local macro_rules | `(tactic| walk_at "od") => `(tactic| first | exact od_eqS | exact od_neS | exact od_inT | exact od_notInT | exact od_inL | exact od_notInL | exact od_eqB | exact od_neB)
local macro_rules | `(tactic| walk_at "len") => `(tactic| first | omega | (simp only [List.length_append, List.length_cons, List.length_nil, List.length_take, List.length_drop]; omega))
section
variable {P : Program} {w : World} {K : PySem.W.Frag} {mg : Str → Option Value} {base : Heap}
theorem spot_ge (u v : List Lt) : decide ((0 : Int) ≤ spotI u v) = (place u v).isSome := by
  unfold spotI
  cases place u v with
  | none => rfl
  | some n => exact decide_eq_true (show (0 : Int) ≤ (n : Int) by omega)
theorem eqv_str (a b : Str) : PyData.eqv (.str a) (.str b) = decide (a = b) := by
  rw [Bool.eq_iff_iff]
  simp [PyData.eqv]
theorem eqD_lts : ∀ u v : List Lt, eqD (.lst (u.map ltD)) (.lst (v.map ltD)) = decide (u = v) := by
  have key : ∀ u v : List Lt, PyData.eqvAll ((u.map ltD).map (py 7)) ((v.map ltD).map (py 7)) = decide (u = v) := by
    intro u
    induction u with
    | nil =>
      intro v
      cases v with
      | nil => rfl
      | cons b v => rfl
    | cons a u ih =>
      intro v
      cases v with
      | nil => rfl
      | cons b v =>
        show (PyData.eqv (.str (enc [a])) (.str (enc [b])) && PyData.eqvAll ((u.map ltD).map (py 7)) ((v.map ltD).map (py 7))) = _
        rw [ih, eqv_str, enc_eq]
        rw [Bool.eq_iff_iff]
        simp
  intro u v
  exact key u v
abbrev sideL : List Str := ["left", "in", "right"]
def sdIx : Sd → Nat
  | .left => 0
  | .inn => 1
  | .right => 2
  | .no => 3
theorem side_at {k : Sd} (h : k ≠ .no) : sideL[sdIx k]? = some (sdS k) := by
  cases k with
  | no => exact absurd rfl h
  | left => kernel_rfl
  | inn => kernel_rfl
  | right => kernel_rfl
theorem side_no {k : Sd} (h : k ≠ .no) : ∀ m, m < sdIx k → sideL[m]? ≠ some (sdS k) := by
  intro m hm
  have h2 : ∀ k : Sd, k ≠ .no → ∀ m < 3, m < sdIx k → decide (sideL[m]? = some (sdS k)) = false := by
    intro k hk
    cases k with
    | no => exact absurd rfl hk
    | left => decide +kernel
    | inn => decide +kernel
    | right => decide +kernel
  have h3 : m < 3 := by
    cases k with
    | no => exact absurd rfl h
    | left => exact absurd hm (Nat.not_lt_zero _)
    | inn => exact Nat.lt_trans hm (by decide)
    | right => exact Nat.lt_trans hm (by decide)
  exact of_decide_eq_false (h2 k h m h3 hm)
theorem sdIx_N {k : Sd} (h : k ≠ .no) : ((sdIx k : Nat) : Int) = sdN k := by
  cases k with
  | no => exact absurd rfl h
  | _ => rfl
def S_fits : List Sl → (Dt → Prop) → Prop := fun as R => ∃ (up : Bool) (m : Nat) (o : Int) (p : Pg), as = [.dat (.str (wayS up)), .dat (.int (m : Int)), .dat (.int o), .dat (pgD p)] ∧ p.1.length ≤ 1000 ∧ p.2.1 ≠ .no ∧ p.2.2 ≠ .no ∧ R = fun d => d = .bl (fitsL up m o p)
theorem ok__law_fits (T : Top w K mg) : Fn P w K mg base "_law_fits" 2 P__law_fits S_fits := by
  refine Fn.mk1 (st := s__law_fits) T 54 rfl T.g__law_fits (fun fd F => fn_one F sc__law_fits ?_) (fun _ _ _ _ _ _ us hl => match us, hl with | [_, _, _, _], _ => rfl)
  rintro as R ⟨up, m, o, ⟨u, key, watch⟩, rfl, hl, hk, hw, rfl⟩
  refine ⟨⟨rfl, by simp [isMut]⟩, fun cdv A outer s' H S0 E hr => ?_⟩
  have hl : u.length ≤ 1000 := hl
  have hk : key ≠ .no := hk
  have hw : watch ≠ .no := hw
  have hrl := rows_le u
  refine dss_then (ρ1 := [.dat (.str (wayS up)), .dat (.int (m : Int)), .dat (.int o), .dat (pgD (u, key, watch)), .dat (wD u), .dat (.str (sdS key)), .dat (.str (sdS watch)), .un, .un, .un, .un, .un, .un]) (ds_asg (d := pgD (u, key, watch)) (de_v 3) (dg3 4 5 6 rfl sc__law_fits.nd)) ?_
  have comp : ∀ (v : List Lt), True := fun _ => trivial
  refine dss_then (ρ1 := [.dat (.str (wayS up)), .dat (.int (m : Int)), .dat (.int o), .dat (pgD (u, key, watch)), .dat (wD u), .dat (.str (sdS key)), .dat (.str (sdS watch)), .un, .dat (.lst ((keysL u).map ltD)), .dat (.lst ((eyesL u).map ltD)), .un, .un, .un]) (ds_par 8 9 (S := fun as => as = [.dat (.lst ((keysL u).map ltD)), .dat (.lst ((eyesL u).map ltD))]) (da_cons (DL.fzE (dl_lc (own := [(".0", 12), ("_law_one", 7)]) (di_word (de_v 4))
      (lc_map u (fun c => Dt.str (enc [c])) (fun c => decide (c ∈ [Lt.k, .r, .b])) ltD (by omega) (fun _ _ => rfl) (fun c => [.dat (.str (wayS up)), .dat (.int (m : Int)), .dat (.int o), .dat (pgD (u, key, watch)), .dat (wD u), .dat (.str (sdS key)), .dat (.str (sdS watch)), .dat (.str (enc [c])), .un, .un, .un, .un, .un]) (L := [7]) (by simp) (fun a _ s Hb C cl fp => dg_name 7 rfl sc__law_fits.nd)
        (fun a _ s Hb C cl fp => dqs_one (dt_cmp (de_v 7) (de_strW [.k, .r, .b]) od_inW)) (fun a _ _ s Hb C cl fp => de_v 7)) sc__law_fits.nd (blkOk_by (show blkC N__law_fits (defScope s__law_fits) _ _ = true by decide +kernel))))
    (da_cons (DL.fzE (dl_lc (own := [(".0", 12), ("_law_one", 7)]) (di_word (de_v 4))
      (lc_map u (fun c => Dt.str (enc [c])) (fun c => decide (c ∈ [Lt.x, .b])) ltD (by omega) (fun _ _ => rfl) (fun c => [.dat (.str (wayS up)), .dat (.int (m : Int)), .dat (.int o), .dat (pgD (u, key, watch)), .dat (wD u), .dat (.str (sdS key)), .dat (.str (sdS watch)), .dat (.str (enc [c])), .un, .un, .un, .un, .un]) (L := [7]) (by simp) (fun a _ s Hb C cl fp => dg_name 7 rfl sc__law_fits.nd)
        (fun a _ s Hb C cl fp => dqs_one (dt_cmp (de_v 7) (de_strW [.x, .b]) od_inW)) (fun a _ _ s Hb C cl fp => de_v 7)) sc__law_fits.nd (blkOk_by (show blkC N__law_fits (defScope s__law_fits) _ _ = true by decide +kernel)))) da_nil)) (fun as e => ⟨_, _, e, rfl⟩) sc__law_fits.nd) ?_
  refine dss_ifr (DW.q (wt_or (dt_cmp (DE.eq (de_lenL T.f_len (DL.fzE (dl_call1 (ok__law_rows_in T) hr (da_cons (de_v 4) da_nil) ⟨_, rfl, by omega, rfl⟩))) (d' := .int ((rowsOf u).length : Int)) (by rw [List.length_map])) (de_v 1) od_gt) fun _ => (wt_or (dt_cmp (DE.eq (de_lenL T.f_len (de_v 8)) (d' := .int ((keysL u).length : Int)) (by rw [List.length_map])) (de_ct T.f_int bt_int (da_cons (de_cmp (de_v 5) (de_strSd .inn) od_eqSd) da_nil) cd_intB) od_neI) fun _ => (wt_or1 (dt_cmp (DE.eq (de_lenL T.f_len (de_v 9)) (d' := .int ((eyesL u).length : Int)) (by rw [List.length_map])) (de_ct T.f_int bt_int (da_cons (de_cmp (de_v 6) (de_strSd .inn) od_eqSd) da_nil) cd_intB) od_neI))))) (fun hc => ?_) (fun hc => ?_)
  · refine dss_one (ds_retE de_bl ?_)
    show Dt.bl false = Dt.bl (fitsL up m o (u, key, watch))
    unfold fitsL
    rw [if_pos]
    simp only [Bool.or_eq_true, decide_eq_true_eq, Bool.not_eq_true', decide_eq_false_iff_not] at hc
    unfold inI
    rcases hc with h | h | h
    · exact Or.inl (show m < (rowsOf u).length by omega)
    · refine Or.inr (Or.inl fun z => h ?_)
      show ((keysL u).length : Int) = _
      rw [z]; split <;> rfl
    · refine Or.inr (Or.inr fun z => h ?_)
      show ((eyesL u).length : Int) = _
      rw [z]; split <;> rfl
  have hn : ¬ (m < (rowsOf u).length ∨ (keysL u).length ≠ inI key ∨ (eyesL u).length ≠ inI watch) := by
    simp only [Bool.or_eq_false_iff, decide_eq_false_iff_not, Bool.not_eq_false', decide_eq_true_eq] at hc
    obtain ⟨h1, h2, h3⟩ := hc
    unfold inI
    rintro (h | h | h)
    · exact h1 (by omega)
    · refine h ?_
      by_cases q : key = .inn
      · rw [if_pos q] at h2 ⊢; omega
      · rw [if_neg q] at h2 ⊢; omega
    · refine h ?_
      by_cases q : watch = .inn
      · rw [if_pos q] at h3 ⊢; omega
      · rw [if_neg q] at h3 ⊢; omega
  have pk : ∀ v : List Lt, pln 8 (.lst (v.map ltD)) = true := fun v => by
    show (v.map ltD).all (pln 7) = true
    rw [List.all_map, List.all_eq_true]
    intro c _
    exact enc_ok [c]
  refine dss_ifr (dt_cmp (de_v 2) de_int od_eqI) (fun hc => ?_) (fun hc => ?_)
  · have ho : o = 0 := of_decide_eq_true hc
    refine dss_one (ds_retE (de_and (de_cmp (de_v 5) (de_v 6) od_eqSd) fun _ => (de_one (de_cmp (de_v 8) (de_v 9) (od_eqP (room64 hr) (pk _) (pk _))))) ?_)
    show _ = Dt.bl (fitsL up m o (u, key, watch))
    unfold fitsL
    rw [if_neg hn, if_pos ho, eqD_lts]
  have ho : ¬ o = 0 := of_decide_eq_false hc
  refine dss_then (ρ1 := [.dat (.str (wayS up)), .dat (.int (m : Int)), .dat (.int o), .dat (pgD (u, key, watch)), .dat (wD u), .dat (.str (sdS key)), .dat (.str (sdS watch)), .un, .dat (.lst ((keysL u).map ltD)), .dat (.lst ((eyesL u).map ltD)), .dat (.lst (sideL.map Dt.str)), .un, .un]) (ds_setF 10 (dl_ls (ds := [_, _, _]) (da_cons de_str (da_cons de_str (da_cons de_str da_nil)))) rfl sc__law_fits.nd) ?_
  refine dss_then (ρ1 := [.dat (.str (wayS up)), .dat (.int (m : Int)), .dat (.int o), .dat (pgD (u, key, watch)), .dat (wD u), .dat (.str (sdS key)), .dat (.str (sdS watch)), .dat (.int (sdN key)), .dat (.lst ((keysL u).map ltD)), .dat (.lst ((eyesL u).map ltD)), .dat (.lst (sideL.map Dt.str)), .dat (.int (sdN watch)), .un]) (ds_par 7 11 (da_cons (DE.eq (de_index (zs := sideL) (sdIx key) (de_v 10) (de_v 5) (side_at hk) (side_no hk)) (congrArg Dt.int (sdIx_N hk))) (da_cons (DE.eq (de_index (zs := sideL) (sdIx watch) (de_v 10) (de_v 6) (side_at hw) (side_no hw)) (congrArg Dt.int (sdIx_N hw))) da_nil)) (fun as e => ⟨_, _, e, rfl⟩) sc__law_fits.nd) ?_
  refine dss_cons (M := fun z => ∃ a b : Int, (if key = .inn ∧ watch = .inn then a = spotI u [.k, .r] ∧ b = spotI u [.x] else a = sdN key ∧ b = sdN watch) ∧ z = [.dat (.str (wayS up)), .dat (.int (m : Int)), .dat (.int o), .dat (pgD (u, key, watch)), .dat (wD u), .dat (.str (sdS key)), .dat (.str (sdS watch)), .dat (.int a), .dat (.lst ((keysL u).map ltD)), .dat (.lst ((eyesL u).map ltD)), .dat (.lst (sideL.map Dt.str)), .dat (.int b), .un]) (ds_ifT (DW.q (wt_and (dt_cmp (de_v 5) (de_strSd .inn) od_eqSd) fun _ => (wt_and1 (dt_cmp (de_v 6) (de_strSd .inn) od_eqSd)))) (fun hc => ?_) (fun hc => ?_)) ?_
  · have hc2 : key = .inn ∧ watch = .inn := by simpa using hc
    exact dss_one (ds_par 7 11 (da_cons (de_call (ok__law_spot T) hr (da_cons (de_v 4) (da_cons (de_strW [.k, .r]) da_nil)) ⟨_, _, rfl, by omega, rfl⟩) (da_cons (de_call (ok__law_spot T) hr (da_cons (de_v 4) (da_cons (de_strW [.x]) da_nil)) ⟨_, _, rfl, by omega, rfl⟩) da_nil)) (fun as e => ⟨_, _, e, _, _, by rw [if_pos hc2]; exact ⟨rfl, rfl⟩, rfl⟩) sc__law_fits.nd)
  · have hc2 : ¬ (key = .inn ∧ watch = .inn) := by
      intro z
      rw [z.1, z.2] at hc; cases hc
    exact dss_nil ⟨_, _, by rw [if_neg hc2]; exact ⟨rfl, rfl⟩, rfl⟩
  rintro z ⟨a, b, hab, rfl⟩
  refine dss_ifr (dt_cmp (de_strW [.b]) (de_v 4) od_inW) (fun hc => ?_) (fun hc => ?_)
  · have hb : Lt.b ∈ u := of_decide_eq_true hc
    refine dss_one (ds_retE de_bl ?_)
    show Dt.bl false = Dt.bl (fitsL up m o (u, key, watch))
    unfold fitsL
    rw [if_neg hn, if_neg ho, if_pos hb]
  · have hb : ¬ Lt.b ∈ u := of_decide_eq_false hc
    refine dss_one (ds_retE (de_or (de_and (de_cmp (de_v 5) (de_v 6) od_eqSd) fun _ => (de_one (de_cmp (de_v 5) (de_strSd .inn) od_neSd))) fun _ => (de_one (de_and (de_cmp (de_v 7) (de_v 11) od_neI) fun _ => (de_one (de_cmp (de_cmp (de_v 7) (de_v 11) od_lt) (de_cmp (de_cmp (de_v 2) de_int od_lt) (de_cmp (de_v 0) de_str od_way) od_eqB) od_eqB))))) ?_)
    show _ = Dt.bl (fitsL up m o (u, key, watch))
    unfold fitsL
    rw [if_neg hn, if_neg ho, if_neg hb]
    by_cases hc2 : key = .inn ∧ watch = .inn
    · rw [if_pos hc2] at hab
      obtain ⟨rfl, rfl⟩ := hab
      rw [if_pos hc2]
      obtain ⟨rfl, rfl⟩ := hc2
      simp
    · rw [if_neg hc2] at hab
      obtain ⟨rfl, rfl⟩ := hab
      rw [if_neg hc2]
end

end DL
/-! Lf -/
set_option Elab.async false
set_option linter.all false
set_option maxRecDepth 100000
set_option maxHeartbeats 4000000
namespace DL
open PySem PySem.Spec PyProof.Rows L2
local macro_rules | `(tactic| walk_at "od") => `(tactic| first | exact od_eqS | exact od_neS | exact od_inT | exact od_notInT | exact od_inL | exact od_notInL | exact od_eqB | exact od_neB)
local macro_rules | `(tactic| walk_at "len") => `(tactic| first | omega | (simp only [List.length_append, List.length_cons, List.length_nil, List.length_take, List.length_drop]; omega))
section
variable {P : Program} {w : World} {K : PySem.W.Frag} {mg : Str → Option Value} {base : Heap}
def gP (up : Bool) (m : Nat) (o : Int) (u : List Lt) (key watch : Sd) : List Dt := if fitsL up m o (u, key, watch) then [pgD (u, key, watch)] else []
def gK (up : Bool) (m : Nat) (o : Int) (u : List Lt) (key : Sd) : List Dt := (sdsOf u [.x, .b]).flatMap (gP up m o u key)
def gW (up : Bool) (m : Nat) (o : Int) (u : List Lt) : List Dt := (sdsOf u [.k, .r, .b]).flatMap (gK up m o u)
theorem gW_eq (up : Bool) (m : Nat) (o : Int) (u : List Lt) : gW up m o u = (pgsAt up m o u).map pgD := by
  unfold gW gK pgsAt
  simp only [List.map_flatMap]
  congr 1
  funext key
  congr 1
  funext watch
  unfold gP
  split <;> rfl
theorem sds_len (u v : List Lt) : (sdsOf u v).length ≤ 2 := by unfold sdsOf; split <;> decide
theorem sds_no (u v : List Lt) : ∀ k ∈ sdsOf u v, k ≠ Sd.no := by unfold sdsOf; split <;> decide
theorem gP_len (up : Bool) (m : Nat) (o : Int) (u : List Lt) (key watch : Sd) : (gP up m o u key watch).length ≤ 1 := by unfold gP; split <;> simp
theorem gK_len (up : Bool) (m : Nat) (o : Int) (u : List Lt) (key : Sd) : (gK up m o u key).length ≤ 2 := by
  have := flen (gP up m o u key) 1 (sdsOf u [.x, .b]) fun a _ => gP_len up m o u key a
  have h2 := sds_len u [.x, .b]
  unfold gK
  omega
theorem gW_len (up : Bool) (m : Nat) (o : Int) (u : List Lt) : (gW up m o u).length ≤ 4 := by
  have := flen (gK up m o u) 2 (sdsOf u [.k, .r, .b]) fun a _ => gK_len up m o u a
  have h2 := sds_len u [.k, .r, .b]
  unfold gW
  omega
theorem gP_not (up : Bool) (m : Nat) (o : Int) (u : List Lt) (key watch : Sd) : (gP up m o u key watch).all notInt = true := by unfold gP; split <;> rfl
theorem gK_not (up : Bool) (m : Nat) (o : Int) (u : List Lt) (key : Sd) : (gK up m o u key).all notInt = true := fnot _ _ fun c _ => gP_not up m o u key c
theorem gW_not (up : Bool) (m : Nat) (o : Int) (u : List Lt) : (gW up m o u).all notInt = true := fnot _ _ fun c _ => gK_not up m o u c
theorem pagesL_len {up : Bool} {m : Nat} {o : Int} {ls : List Lt} (h : ls.length ≤ 4) (hm : m ≤ 3) : (pagesL up m o ls).length ≤ 15624 := by
  have h1 := flen (pgsAt up m o) 4 (allW ls m) fun u _ => by rw [← List.length_map (f := pgD), ← gW_eq]; exact gW_len up m o u
  have h2 := allW_len (m := m) h hm
  unfold pagesL
  omega
theorem di_sds {X : Cx} {ρ : List Sl} {tg c a b : Expr} {u v : List Lt} (hc : DT X c ρ (place u v).isSome) (ha : DL X a ρ (fun z => z = [Dt.str (sdS .inn)])) (hb : DL X b ρ (fun z => z = [Dt.str (sdS .left), Dt.str (sdS .right)])) {pos : Pos} : DI X tg (.IfExp c a b pos) ρ (fun ds => ds = (sdsOf u v).map fun k => Dt.str (sdS k)) :=
  di_list (DL.fz (dl_if hc (fun e => DL.mono ha fun l q => by unfold sdsOf; rw [if_pos e.symm]; exact q) (fun e => DL.mono hb fun l q => by unfold sdsOf; rw [if_neg (by rw [← e]; exact Bool.false_ne_true)]; exact q)))
def S_pages : List Sl → (List Dt → Prop) → Prop := fun as R => ∃ (up : Bool) (m : Nat) (o : Int) (ls : List Lt), as = [.dat (.str (wayS up)), .dat (.int (m : Int)), .dat (.int o), .dat (.str (enc ls))] ∧ ls.length ≤ 4 ∧ m ≤ 3 ∧ R = fun l => l = (pagesL up m o ls).map pgD
theorem ok__law_pages (T : Top w K mg) : FnL P w K mg base "_law_pages" 3 P__law_pages S_pages := by
  refine FnL.mk1 (st := s__law_pages) T 55 rfl T.g__law_pages (fun fd F => fn_oneL F sc__law_pages ?_) (fun _ _ _ _ _ _ us hl => match us, hl with | [_, _, _, _], _ => rfl)
  rintro as R ⟨up, m, o, ls, rfl, hls, hm, rfl⟩
  refine ⟨⟨rfl, by simp [isMut]⟩, fun cdv A outer s' H S0 E hr => ?_⟩
  have hpl := pagesL_len (up := up) (o := o) hls hm
  have etot : (allW ls m).flatMap (gW up m o) = (pagesL up m o ls).map pgD := by
    unfold pagesL
    rw [List.map_flatMap]
    congr 1
    funext u
    exact gW_eq up m o u
  refine dss_then (ρ1 := [.dat (.str (wayS up)), .dat (.int (m : Int)), .dat (.int o), .dat (.str (enc ls)), .ml [], .un, .un, .un]) (ds_setL 4 (dl_ls (ds := []) da_nil) (fun l e => by rw [e]; exact ⟨rfl, rfl⟩) sc__law_pages.nd) ?_
  refine dss_then (ρ1 := [.dat (.str (wayS up)), .dat (.int (m : Int)), .dat (.int o), .dat (.str (enc ls)), .ml ((pagesL up m o ls).map pgD), .un, .un, .un]) (ds_acc (allW ls m) wD (gW up m o) [] (fun acc => [.dat (.str (wayS up)), .dat (.int (m : Int)), .dat (.int o), .dat (.str (enc ls)), .ml acc, .un, .un, .un]) (di_list (DR.mono (de_call (ok__law_all_words T) hr (da_cons (de_v 3) (da_cons (de_v 1) da_nil)) ⟨_, _, rfl, hls, hm, rfl⟩) fun d e => ⟨_, e, rfl⟩)) rfl rfl (fun u _ => gW_not up m o u) (fun u hu acc hacc hlen => ⟨[5], dg_name 5 ?_ sc__law_pages.nd⟩) (fun _ => by rw [List.nil_append, etot])) (dss_one (ds_retml 4 ⟨_, rfl, rfl⟩))
  have hul := allW_wl (ls := ls) hm u hu
  rw [etot, List.length_map, List.length_nil] at hlen
  refine dss_one (ds_acc (sdsOf u [.k, .r, .b]) (fun k => Dt.str (sdS k)) (gK up m o u) acc (fun acc => [.dat (.str (wayS up)), .dat (.int (m : Int)), .dat (.int o), .dat (.str (enc ls)), .ml acc, .dat (wD u), .un, .un])
    (di_sds (DT.eq (dt_cmp (de_call (ok__law_spot T) (hr.mono (by decide)) (da_cons (de_v 5) (da_cons (de_strW [.k, .r, .b]) da_nil)) ⟨_, _, rfl, by omega, rfl⟩) de_int od_ge) (spot_ge _ _)) (dl_ls (ds := [_]) (da_cons (de_strSd .inn) da_nil)) (dl_ls (ds := [_, _]) (da_cons (de_strSd .left) (da_cons (de_strSd .right) da_nil)))) rfl hacc (fun k _ => gK_not up m o u k) (fun key hkey acc2 hacc2 hlen2 => ⟨[6], dg_name 6 ?_ sc__law_pages.nd⟩) (fun _ => ⟨_, rfl, .eq (.eq (.eq (.eq (.eq (.un (.eq (.eq .nil)))))))⟩))
  have hlen2' : acc2.length + (gK up m o u key).length ≤ acc.length + (gW up m o u).length := hlen2
  refine dss_one (ds_acc (sdsOf u [.x, .b]) (fun k => Dt.str (sdS k)) (gP up m o u key) acc2 (fun acc => [.dat (.str (wayS up)), .dat (.int (m : Int)), .dat (.int o), .dat (.str (enc ls)), .ml acc, .dat (wD u), .dat (.str (sdS key)), .un])
    (di_sds (DT.eq (dt_cmp (de_call (ok__law_spot T) (hr.mono (by decide)) (da_cons (de_v 5) (da_cons (de_strW [.x, .b]) da_nil)) ⟨_, _, rfl, by omega, rfl⟩) de_int od_ge) (spot_ge _ _)) (dl_ls (ds := [_]) (da_cons (de_strSd .inn) da_nil)) (dl_ls (ds := [_, _]) (da_cons (de_strSd .left) (da_cons (de_strSd .right) da_nil)))) rfl hacc2 (fun k _ => gP_not up m o u key k) (fun watch hwatch acc3 hacc3 hlen3 => ⟨[7], dg_name 7 ?_ sc__law_pages.nd⟩) (fun _ => ⟨_, rfl, .eq (.eq (.eq (.eq (.eq (.eq (.un (.eq .nil)))))))⟩))
  have hlen3' : acc3.length + (gP up m o u key watch).length ≤ acc2.length + (gK up m o u key).length := hlen3
  refine dss_one (ds_ifT (dt_val (de_call (ok__law_fits T) hr (da_cons (de_v 0) (da_cons (de_v 1) (da_cons (de_v 2) (da_cons (DE.eq (de_tp (ds := [_, _, _]) (da_cons (de_v 5) (da_cons (de_v 6) (da_cons (de_v 7) da_nil)))) (d' := pgD (u, key, watch)) rfl) da_nil)))) ⟨_, _, _, _, rfl, by show u.length ≤ 1000; omega, sds_no _ _ key hkey, sds_no _ _ watch hwatch, rfl⟩)) (fun hc => ?_) (fun hc => ?_))
  · refine dss_one (ds_append 4 (de_tp (ds := [_, _, _]) (da_cons (de_v 5) (da_cons (de_v 6) (da_cons (de_v 7) da_nil)))) (fun d e => ⟨by rw [e] <;> rfl, _, rfl, ?_⟩) (by omega) hacc3)
    rw [e]
    unfold gP
    rw [if_pos hc]
    exact .eq (.eq (.eq (.eq (.eq (.eq (.eq (.un .nil)))))))
  · refine dss_nil ⟨_, rfl, ?_⟩
    unfold gP
    rw [if_neg (by rw [hc]; exact Bool.false_ne_true), List.append_nil]
    exact .eq (.eq (.eq (.eq (.eq (.eq (.eq (.un .nil)))))))
end

end DL
/-! Lg -/
set_option Elab.async false
set_option linter.all false
set_option maxRecDepth 100000
set_option maxHeartbeats 4000000
namespace DL
open PySem PySem.Spec PyProof.Rows L2
local macro_rules | `(tactic| walk_at "od") => `(tactic| first | exact od_eqS | exact od_neS | exact od_inT | exact od_notInT | exact od_inL | exact od_notInL | exact od_eqB | exact od_neB)
local macro_rules | `(tactic| walk_at "len") => `(tactic| first | omega | (simp only [List.length_append, List.length_cons, List.length_nil, List.length_take, List.length_drop]; omega))
section
variable {P : Program} {w : World} {K : PySem.W.Frag} {mg : Str → Option Value} {base : Heap}
theorem len_rk : ∀ u : List Lt, u.length ≤ (rowsOf u).length + (keysL u).length
  | [] => Nat.zero_le _
  | c :: u => by
    have ih := len_rk u
    have e1 : (rowsOf (c :: u)).length = (rowsOf u).length + (if c = .r then 0 else 1) := by
      unfold rowsOf
      rw [List.filter_cons]
      by_cases h : c = .r
      · simp [h]
      · simp [h]
    have e2 : (keysL u).length + (if c = .r then 1 else 0) ≤ (keysL (c :: u)).length := by
      unfold keysL
      rw [List.filter_cons]
      by_cases h : c = .r
      · simp [h]
      · rw [if_neg h]
        split
        · rw [List.length_cons]; omega
        · omega
    rw [List.length_cons, e1]
    by_cases h : c = .r
    · rw [if_pos h] at e2 ⊢; omega
    · rw [if_neg h] at e2 ⊢; omega
theorem fits_base {up : Bool} {m : Nat} {o : Int} {u : List Lt} {k v : Sd} (h : fitsL up m o (u, k, v) = true) : (rowsOf u).length ≤ m ∧ (keysL u).length = inI k ∧ (eyesL u).length = inI v := by
  unfold fitsL at h
  by_cases q : m < (rowsOf u).length ∨ (keysL u).length ≠ inI k ∨ (eyesL u).length ≠ inI v
  · rw [if_pos q] at h; cases h
  · refine ⟨?_, ?_, ?_⟩
    · exact Nat.le_of_not_lt fun z => q (Or.inl z)
    · exact Decidable.byContradiction fun z => q (Or.inr (Or.inl z))
    · exact Decidable.byContradiction fun z => q (Or.inr (Or.inr z))
theorem fits_len {up : Bool} {m : Nat} {o : Int} {u : List Lt} {k v : Sd} (h : fitsL up m o (u, k, v) = true) : u.length ≤ m + 1 := by
  obtain ⟨h1, h2, _⟩ := fits_base h
  have h3 := len_rk u
  have h4 : inI k ≤ 1 := by unfold inI; split <;> omega
  omega
theorem Good.len {h : Hs} {up : Bool} {s : Sc} (g : Good h up s) (ho : HOk h) {u : List Lt} (hu : s.word = some u) : u.length ≤ 4 := by
  have := fits_len (g.pg u hu).2.2
  have := ho.r3
  omega
/-- what others can make, not yet sifted -/
def TuT (d : Dt) : Prop := ∃ (hd : Str) (rest : List Dt) (p : Pg), d = .tup [.tup (.str hd :: rest), pgD p] ∧ p.1.length ≤ 100 ∧ p.2.1 ≠ .no ∧ p.2.2 ≠ .no ∧ rest.length ≤ 2
theorem TuT.ni {d : Dt} (h : TuT d) : notInt d = true := let ⟨_, _, _, e, _⟩ := h; by rw [e] <;> rfl
def TuG (up : Bool) (m : Nat) (o : Int) (d : Dt) : Prop := ∃ (hd : Str) (rest : List Dt) (p : Pg), d = .tup [.tup (.str hd :: rest), pgD p] ∧ p.2.1 ≠ .no ∧ p.2.2 ≠ .no ∧ fitsL up m o p = true ∧ rest.length ≤ 2
theorem TuG.ni {up : Bool} {m : Nat} {o : Int} {d : Dt} (h : TuG up m o d) : notInt d = true := let ⟨_, _, _, e, _⟩ := h; by rw [e] <;> rfl
def S_turned : List Sl → (List Dt → Prop) → Prop := fun as R => ∃ (h : Hs) (up : Bool) (s : Sc) (u : List Lt), as = [.dat (hdD h), .dat (.str (wayS up)), .dat (scD s)] ∧ HOk h ∧ Good h up s ∧ s.word = some u ∧ R = fun l => l.length ≤ 6000 ∧ ∀ d ∈ l, TuG up h.rows s.order d
abbrev ρT (h : Hs) (up : Bool) (s : Sc) (u : List Lt) (l : List Dt) (r : List Sl) : List Sl := .dat (hdD h) :: .dat (.str (wayS up)) :: .dat (scD s) :: .dat (.int s.order) :: .ml l :: .dat (.int (h.rows : Int)) :: .dat (wD u) :: .dat (.str (sdS s.key)) :: .dat (.str (sdS s.watch)) :: r
theorem ok__law_turned (T : Top w K mg) : FnL P w K mg base "_law_turned" 3 P__law_turned S_turned := by
  refine FnL.mk1 (st := s__law_turned) T 57 rfl T.g__law_turned (fun fd F => fn_oneL F sc__law_turned ?_) (fun _ _ _ _ _ _ us hl => match us, hl with | [_, _, _], _ => rfl)
  rintro as R ⟨h, up, s, u, rfl, ho, hg, hu, rfl⟩
  refine ⟨⟨rfl, by simp [isMut]⟩, fun cdv A outer s' H S0 E hr => ?_⟩
  have hul := hg.len ho hu
  obtain ⟨hkn, hwn, hfit⟩ := hg.pg u hu
  have hrows := ho.r3
  refine dss_then (ρ1 := [.dat (hdD h), .dat (.str (wayS up)), .dat (scD s), .dat (.int s.order), .ml [], .dat (.int (h.rows : Int)), .un, .un, .un, .un, .un, .un, .un, .un, .un, .un, .un, .un, .un, .un, .un, .un]) (ds_asg3M 3 4 5 (dm_dat (de_sc (n := 1) (de_v 2)) (dm_lst (dl_ls (ds := []) da_nil) rfl (dm_dat (de_dget (room1 hr) (de_v 0) de_str (hd_rows h)) dm_nil))) rfl sc__law_turned.nd) ?_
  refine dss_then (ρ1 := [.dat (hdD h), .dat (.str (wayS up)), .dat (scD s), .dat (.int s.order), .ml [], .dat (.int (h.rows : Int)), .dat (wD u), .dat (.str (sdS s.key)), .dat (.str (sdS s.watch)), .un, .un, .un, .un, .un, .un, .un, .un, .un, .un, .un, .un, .un]) (ds_asg (d := pgD (u, s.key, s.watch)) (DE.eq (de_slT (l := some ((5 : Nat) : Int)) (h := none) (de_v 2) (dp_some de_int) dp_none (by show ¬ (HT.sIx 8 0 (some ((5 : Nat) : Int)) = 0 ∧ HT.sIx 8 8 none = 8); decide)) (by rw [cutD_lo]; unfold scL; rw [hu]; rfl)) (dg3 6 7 8 rfl sc__law_turned.nd)) ?_
  refine dss_cons (M := fun z => ∃ (l : List Dt), (∀ t ∈ l, TuT t) ∧ l.length ≤ 10 ∧ z = ρT h up s u l [.un, .un, .un, .un, .un, .un, .un, .un, .un, .un, .un, .un, .un]) (ds_for (di_range (n := ((u.length + 1 : Nat) : Int)) T.f_range (DE.eq (de_bin (de_lenW T.f_len (de_v 6) (by omega)) de_int od_add) (by rw [Int.natCast_add] <;> rfl)) ⟨by omega, by omega⟩) fun ds hds => ⟨fun i z => ∃ l : List Dt, (∀ t ∈ l, TuT t) ∧ l.length ≤ 2 * i ∧ z = [.dat (hdD h), .dat (.str (wayS up)), .dat (scD s), .dat (.int s.order), .ml l, .dat (.int (h.rows : Int)), .dat (wD u), .dat (.str (sdS s.key)), .dat (.str (sdS s.watch)), .un, .un, .un, .un, .un, .un, .un, .un, .un, .un, .un, .un, .un], ⟨_, ⟨[], (fun t ht => by cases ht), Nat.zero_le _, rfl⟩, Wk.refl _⟩, ?_, ?_⟩) ?_
  · rintro i d ρi hd ⟨l, hl, hll, rfl⟩
    have hi : i < u.length + 1 := by
      have := (List.getElem?_eq_some_iff.mp hd).1
      rw [hds, upTo_len] at this
      omega
    have ed : d = .int (i : Int) := by
      rw [hds, show (((u.length + 1 : Nat) : Int)).toNat = u.length + 1 by omega, upTo_get hi] at hd
      exact (Option.some.inj hd).symm
    subst ed
    have hni : l.all notInt = true := List.all_eq_true.mpr fun t ht => (hl t ht).ni
    refine ⟨[9], dg_name 9 ?_ sc__law_turned.nd⟩
    refine dss_cons (M := fun z => ∃ l : List Dt, (∀ t ∈ l, TuT t) ∧ l.length ≤ 2 * i + 1 ∧ z = [.dat (hdD h), .dat (.str (wayS up)), .dat (scD s), .dat (.int s.order), .ml l, .dat (.int (h.rows : Int)), .dat (wD u), .dat (.str (sdS s.key)), .dat (.str (sdS s.watch)), .dat (.int (i : Int)), .un, .un, .un, .un, .un, .un, .un, .un, .un, .un, .un, .un]) (ds_append 4 (de_tp (ds := [.tup [.str "come", .int (i : Int)], pgD (u.take i ++ [Lt.d] ++ u.drop i, s.key, s.watch)]) (da_cons (de_tp (ds := [_, _]) (da_cons de_str (da_cons (de_v 9) da_nil))) (da_cons (de_tp (ds := [_, _, _]) (da_cons (de_bin (de_bin (de_slWhi (de_v 6) (de_v 9) rfl (by omega)) (de_strW [.d]) (od_addW (by rw [List.length_take]; simp; omega))) (de_slWlo (de_v 6) (de_v 9) rfl (by omega)) (od_addW (by simp; omega))) (da_cons (de_v 7) (da_cons (de_v 8) da_nil)))) da_nil))) (fun d e => ⟨by rw [e] <;> rfl, _, fun t ht => ?_, ?_, rfl⟩) (by omega) hni) ?_
    · rcases List.mem_append.mp ht with q | q
      · exact hl t q
      · rw [List.mem_singleton.mp q, e]
        exact ⟨_, _, (u.take i ++ [Lt.d] ++ u.drop i, s.key, s.watch), rfl, by simp; omega, hkn, hwn, Nat.le_of_ble_eq_true rfl⟩
    · rw [List.length_append, List.length_singleton]; omega
    rintro z ⟨l2, hl2, hll2, rfl⟩
    have hni2 : l2.all notInt = true := List.all_eq_true.mpr fun t ht => (hl2 t ht).ni
    refine dss_then (ρ1 := [.dat (hdD h), .dat (.str (wayS up)), .dat (scD s), .dat (.int s.order), .ml l2, .dat (.int (h.rows : Int)), .dat (wD u), .dat (.str (sdS s.key)), .dat (.str (sdS s.watch)), .dat (.int (i : Int)), .dat (wD (u.take i)), .dat (wD (u.drop i)), .un, .un, .un, .un, .un, .un, .un, .un, .un, .un]) (ds_par 10 11 (da_cons (de_slWhi (de_v 6) (de_v 9) rfl (by omega)) (da_cons (de_slWlo (de_v 6) (de_v 9) rfl (by omega)) da_nil)) (fun as e => ⟨_, _, e, rfl⟩) sc__law_turned.nd) ?_
    refine dss_cons (M := fun z => ∃ (a b : List Lt) (k : Sd), a.length ≤ 100 ∧ b.length ≤ 100 ∧ k ≠ .no ∧ z = [.dat (hdD h), .dat (.str (wayS up)), .dat (scD s), .dat (.int s.order), .ml l2, .dat (.int (h.rows : Int)), .dat (wD u), .dat (.str (sdS s.key)), .dat (.str (sdS s.watch)), .dat (.int (i : Int)), .dat (wD (u.take i)), .dat (wD (u.drop i)), .dat (wD a), .dat (wD b), .dat (.str (sdS k)), .un, .un, .un, .un, .un, .un, .un]) (ds_asgR (R := fun d => ∃ (a b : List Lt) (k : Sd), a.length ≤ 100 ∧ b.length ≤ 100 ∧ k ≠ .no ∧ d = .tup [wD a, wD b, .str (sdS k)]) (dr_ifT (dt_cmp (de_dget (room1 hr) (de_v 0) de_str (hd_keeps h)) de_str od_kp) (fun _ => DE.as (de_tp (ds := [_, _, _]) (da_cons (de_v 10) (da_cons (de_v 11) (da_cons (de_strSd .right) da_nil)))) ⟨u.take i, u.drop i, .right, by simp; omega, by simp; omega, (fun z => nomatch z), rfl⟩) (fun _ => DE.as (de_tp (ds := [_, _, _]) (da_cons (de_v 11) (da_cons (de_v 10) (da_cons (de_strSd .left) da_nil)))) ⟨u.drop i, u.take i, .left, by simp; omega, by simp; omega, (fun z => nomatch z), rfl⟩))
      (fun d ⟨a, b, k, h1, h2, h3, e⟩ => by rw [e]; exact dg3 12 13 14 ⟨a, b, k, h1, h2, h3, rfl⟩ sc__law_turned.nd)) ?_
    rintro z ⟨a, b, k, hal, hbl, hk, rfl⟩
    refine dss_cons (M := fun z => ∃ k2 : Sd, k2 ≠ .no ∧ z = [.dat (hdD h), .dat (.str (wayS up)), .dat (scD s), .dat (.int s.order), .ml l2, .dat (.int (h.rows : Int)), .dat (wD u), .dat (.str (sdS s.key)), .dat (.str (sdS s.watch)), .dat (.int (i : Int)), .dat (wD (u.take i)), .dat (wD (u.drop i)), .dat (wD a), .dat (wD b), .dat (.str (sdS k)), .dat (.str (sdS k2)), .un, .un, .un, .un, .un, .un]) (ds_setR 15 (R := fun d => ∃ k2 : Sd, k2 ≠ .no ∧ d = .str (sdS k2)) (dr_ifT (dt_cmp (de_call (ok__law_spot T) (hr.mono (by decide)) (da_cons (de_v 13) (da_cons (de_strW [.k, .r, .b]) da_nil)) ⟨_, _, rfl, by omega, rfl⟩) de_int od_ge) (fun _ => DE.as (de_v 14) ⟨k, hk, rfl⟩) (fun _ => DE.as (de_v 7) ⟨s.key, hkn, rfl⟩)) (fun d ⟨k2, h1, e⟩ => ⟨k2, h1, by rw [e] <;> rfl⟩) sc__law_turned.nd) ?_
    rintro z ⟨k2, hk2, rfl⟩
    refine dss_one (ds_append 4 (R := TuT) (dr_tup (dar_cons (S := fun as => ∃ q : Dt, as = [Sl.dat q] ∧ ∃ p : Pg, q = pgD p ∧ p.1.length ≤ 100 ∧ p.2.1 ≠ .no ∧ p.2.2 ≠ .no) (de_tp (ds := [.str "split", .int (i : Int)]) (da_cons de_str (da_cons (de_v 9) da_nil))) (dar_cons (R := fun q => ∃ p : Pg, q = pgD p ∧ p.1.length ≤ 100 ∧ p.2.1 ≠ .no ∧ p.2.2 ≠ .no) (dr_tup (dar_cons (S := fun as => ∃ k3 : Sd, k3 ≠ .no ∧ as = [.dat (.str (sdS k2)), .dat (.str (sdS k3))]) (de_v 12) (dar_cons (S := fun as => ∃ k3 : Sd, k3 ≠ .no ∧ as = [.dat (.str (sdS k3))]) (de_v 15) (dar_cons (R := fun d => ∃ k3 : Sd, k3 ≠ .no ∧ d = .str (sdS k3)) (dr_ifT (dt_cmp (de_call (ok__law_spot T) (hr.mono (by decide)) (da_cons (de_v 13) (da_cons (de_strW [.x, .b]) da_nil)) ⟨_, _, rfl, by omega, rfl⟩) de_int od_ge) (fun _ => DE.as (de_v 14) ⟨k, hk, rfl⟩) (fun _ => DE.as (de_v 8) ⟨s.watch, hwn, rfl⟩)) da_nil (fun d as ⟨k3, h1, e⟩ e2 => ⟨k3, h1, by rw [e, e2]⟩)) (fun d as e ⟨k3, h1, e2⟩ => ⟨k3, h1, by rw [e, e2]⟩)) (fun d as e ⟨k3, h1, e2⟩ => ⟨[wD a, .str (sdS k2), .str (sdS k3)], by rw [e, e2]; rfl, by show (3 : Nat) ≤ 1000; omega, (a, k2, k3), rfl, hal, hk2, h1⟩))) da_nil (fun d as h1 e => ⟨d, by rw [e], h1⟩)) (fun d as e ⟨q, e2, p, e3, h1, h2, h3⟩ => ⟨[d, q], by rw [e2]; rfl, by show (2 : Nat) ≤ 1000; omega, "split", [.int (i : Int)], p, by rw [e, e3], h1, h2, h3, Nat.le_of_ble_eq_true rfl⟩)))
      (fun d hd => ⟨hd.ni, ⟨_, ⟨l2 ++ [d], fun t ht => ?_, ?_, rfl⟩, ?_⟩⟩) (by omega) hni2)
    · rcases List.mem_append.mp ht with q | q
      · exact hl2 t q
      · rw [List.mem_singleton.mp q]; exact hd
    · rw [List.length_append, List.length_singleton]; omega
    · exact .eq (.eq (.eq (.eq (.eq (.eq (.eq (.eq (.eq (.un (.un (.un (.un (.un (.un (.un (.eq (.eq (.eq (.eq (.eq (.eq .nil)))))))))))))))))))))
  · rintro z ⟨l, hl, hll, rfl⟩
    rw [hds, upTo_len] at hll
    exact ⟨l, hl, by omega, rfl⟩
  rintro z ⟨l, hl, hll, rfl⟩
  refine dss_cons (M := fun z => ∃ (l : List Dt), (∀ t ∈ l, TuT t) ∧ l.length ≤ 20 ∧ z = ρT h up s u l [.un, .un, .un, .un, .un, .un, .un, .un, .un, .un, .un, .un, .un]) (ds_for (di_enumW T.f_enumerate (de_v 6)) fun ds hds => ⟨fun i z => ∃ l : List Dt, (∀ t ∈ l, TuT t) ∧ l.length ≤ 10 + 2 * i ∧ z = ρT h up s u l [.un, .un, .un, .un, .un, .un, .un, .un, .un, .un, .un, .un, .un], ⟨_, ⟨l, hl, by omega, rfl⟩, Wk.refl _⟩, ?_, ?_⟩) ?_
  · rintro i d ρi hd ⟨l, hl, hll, rfl⟩
    subst hds
    have hlt : i < u.length := by
      have := (List.getElem?_eq_some_iff.mp hd).1
      simpa [enumD_len] using this
    have hg2 : (u.map fun c => Dt.str (enc [c]))[i]? = some (.str (enc [u[i]])) := by simp [hlt]
    have e : d = .tup [.int (i : Int), .str (enc [u[i]])] := by
      have := enumD_get 0 _ i _ hg2
      rw [this] at hd
      simpa using hd.symm
    subst e
    generalize u[i] = c
    have hni : l.all notInt = true := List.all_eq_true.mpr fun t ht => (hl t ht).ni
    refine ⟨[9, 16], dg2 9 16 ?_ sc__law_turned.nd⟩
    refine dss_cons (M := fun z => ∃ l : List Dt, (∀ t ∈ l, TuT t) ∧ l.length ≤ 11 + 2 * i ∧ z = ρT h up s u l [.dat (.int (i : Int)), .un, .un, .un, .un, .un, .un, .dat (wD [c]), .un, .un, .un, .un, .un]) (ds_ifT (dt_cmp (de_v 16) (de_tp (ds := (["." , "k"] : List Str).map Dt.str) (da_cons de_str (da_cons de_str da_nil))) od_inT) (fun _ => ?_) (fun _ => dss_nil ⟨l, hl, by omega, rfl⟩)) ?_
    · refine dss_one (ds_append 4 (R := TuT) (DR.mono (de_tp (ds := [.tup [.str "go", .int (i : Int)], pgD (u.take i ++ (if decide ([c] = [Lt.d]) = true then [] else [Lt.r]) ++ u.drop (i + 1), s.key, s.watch)]) (da_cons (de_tp (ds := [_, _]) (da_cons de_str (da_cons (de_v 9) da_nil))) (da_cons (de_tp (ds := [_, _, _]) (da_cons (de_bin (de_bin (de_slWhi (de_v 6) (de_v 9) rfl (by omega)) (de_ifG wD (dt_cmp (de_v 16) (de_strW [.d]) od_eqW) (fun _ => de_strW []) (fun _ => de_strW [.r])) (od_addW (by rw [List.length_take]; split <;> simp <;> omega))) (de_slWlo (n := i + 1) (de_v 6) (de_bin (de_v 9) de_int od_add) (by omega) (by omega)) (od_addW (by rw [List.length_append, List.length_take, List.length_drop]; split <;> simp <;> omega))) (da_cons (de_v 7) (da_cons (de_v 8) da_nil)))) da_nil))) fun d e => ⟨"go", [.int (i : Int)], (u.take i ++ (if decide ([c] = [Lt.d]) = true then [] else [Lt.r]) ++ u.drop (i + 1), s.key, s.watch), e, by rw [List.length_append, List.length_append, List.length_take, List.length_drop]; split <;> simp <;> omega, hkn, hwn, Nat.le_of_ble_eq_true rfl⟩) (fun d h1 => ⟨h1.ni, l ++ [d], fun t ht => ?_, by rw [List.length_append, List.length_singleton]; omega, rfl⟩) (by omega) hni)
      rcases List.mem_append.mp ht with q | q
      · exact hl t q
      · rw [List.mem_singleton.mp q]; exact h1
    rintro z ⟨l, hl, hll, rfl⟩
    have hni : l.all notInt = true := List.all_eq_true.mpr fun t ht => (hl t ht).ni
    have wk : ∀ l2 : List Dt, Wk (ρT h up s u l2 [.un, .un, .un, .un, .un, .un, .un, .un, .un, .un, .un, .un, .un]) (ρT h up s u l2 [.dat (.int (i : Int)), .un, .un, .un, .un, .un, .un, .dat (wD [c]), .un, .un, .un, .un, .un]) := fun l2 => .eq (.eq (.eq (.eq (.eq (.eq (.eq (.eq (.eq (.un (.eq (.eq (.eq (.eq (.eq (.eq (.un (.eq (.eq (.eq (.eq (.eq .nil)))))))))))))))))))))
    refine dss_one (ds_ifT (dt_cmp (de_v 16) (de_strW [.r]) od_eqW) (fun _ => ?_) (fun _ => dss_nil ⟨_, ⟨l, hl, by omega, rfl⟩, wk l⟩))
    refine dss_one (ds_append 4 (R := TuT) (DR.mono (de_tp (ds := [.tup [.str "again"], pgD (u.take i ++ [Lt.k] ++ u.drop (i + 1), s.key, s.watch)]) (da_cons (de_tp (ds := [_]) (da_cons de_str da_nil)) (da_cons (de_tp (ds := [_, _, _]) (da_cons (de_bin (de_bin (de_slWhi (de_v 6) (de_v 9) rfl (by omega)) (de_strW [.k]) (od_addW (by rw [List.length_take]; simp; omega))) (de_slWlo (n := i + 1) (de_v 6) (de_bin (de_v 9) de_int od_add) (by omega) (by omega)) (od_addW (by simp; omega))) (da_cons (de_v 7) (da_cons (de_v 8) da_nil)))) da_nil))) fun d e => ⟨"again", [], (u.take i ++ [Lt.k] ++ u.drop (i + 1), s.key, s.watch), e, by simp; omega, hkn, hwn, Nat.le_of_ble_eq_true rfl⟩) (fun d h1 => ⟨h1.ni, _, ⟨l ++ [d], fun t ht => ?_, by rw [List.length_append, List.length_singleton]; omega, rfl⟩, wk _⟩) (by omega) hni)
    rcases List.mem_append.mp ht with q | q
    · exact hl t q
    · rw [List.mem_singleton.mp q]; exact h1
  · rintro z ⟨l, hl, hll, rfl⟩
    subst hds
    rw [enumD_len, List.length_map] at hll
    exact ⟨l, hl, by omega, rfl⟩
  rintro z ⟨l, hl, hll, rfl⟩
  have ifn : (if decide (h.joins = .left) = true then Sd.right else Sd.left) ≠ .no := by
    split
    · exact fun z => nomatch z
    · exact fun z => nomatch z
  refine dss_cons (M := fun z => ∃ k : Sd, k ≠ .no ∧ z = ρT h up s u l [.un, .un, .un, .un, .un, .dat (.str (sdS k)), .un, .un, .un, .un, .un, .un, .un]) (ds_set 14 (de_ifG (fun k => Dt.str (sdS k)) (dt_cmp (de_dget (room1 hr) (de_v 0) de_str (hd_joins h)) de_str (od_eqJl .left)) (fun _ => de_strSd .right) (fun _ => de_strSd .left)) ⟨(if decide (h.joins = .left) = true then Sd.right else Sd.left), ifn, rfl⟩ sc__law_turned.nd) ?_
  rintro z ⟨k, hk, rfl⟩
  have mul : ∀ (b : Bool) (v : List Lt), v.length ≤ 2 → (List.replicate (if b then 1 else 0) v).flatten.length ≤ 2 := fun b v hv => by cases b <;> simp <;> omega
  have m1 := mul (decide (s.key = k)) [Lt.k, .r] (Nat.le_refl _)
  have m2 := mul (decide (s.watch = k)) [Lt.x] (Nat.le_succ _)
  refine dss_cons (M := fun z => ∃ ls : List Lt, ls.length ≤ 4 ∧ z = ρT h up s u l [.un, .un, .un, .un, .un, .dat (.str (sdS k)), .un, .un, .dat (wD ls), .un, .un, .un, .un]) (ds_set 17 (de_bin (de_bin (de_strW [.k, .r]) (DE.eq (de_ct T.f_int bt_int (da_cons (de_cmp (de_v 7) (de_v 14) od_eqSd) da_nil) cd_intB) (d' := .int (((if decide (s.key = k) then 1 else 0 : Nat) : Int))) (by cases decide (s.key = k) <;> rfl)) (od_mulW rfl (by split <;> decide) (by decide))) (de_bin (de_strW [.x]) (DE.eq (de_ct T.f_int bt_int (da_cons (de_cmp (de_v 8) (de_v 14) od_eqSd) da_nil) cd_intB) (d' := .int (((if decide (s.watch = k) then 1 else 0 : Nat) : Int))) (by cases decide (s.watch = k) <;> rfl)) (od_mulW rfl (by split <;> decide) (by decide))) (od_addW (by omega))) ⟨_, by rw [List.length_append]; omega, rfl⟩ sc__law_turned.nd) ?_
  rintro z ⟨ls, hls, rfl⟩
  refine dss_cons (M := fun z => ∃ ls : List Lt, ls.length ≤ 4 ∧ z = ρT h up s u l [.un, .un, .un, .un, .un, .dat (.str (sdS k)), .un, .un, .dat (wD ls), .un, .un, .un, .un]) (ds_set 17 (de_ifG wD (DW.q (wt_and (dt_cmp (de_v 3) de_int od_eqI) fun _ => (wt_and1 (dt_cmp (de_v 17) (de_strW []) od_neW)))) (fun _ => de_strW [.b]) (fun _ => de_v 17)) ⟨_, by split <;> first | exact hls | simp, rfl⟩ sc__law_turned.nd) ?_
  rintro z ⟨ls, hls, rfl⟩
  refine dss_cons (M := fun z => ∃ (l : List Dt), (∀ t ∈ l, TuT t) ∧ l.length ≤ 4000 ∧ z = ρT h up s u l [.un, .un, .un, .un, .un, .dat (.str (sdS k)), .un, .un, .dat (wD ls), .un, .un, .un, .un]) (ds_for (di_list (RL := fun z => ∃ ws : List (List Lt), z = ws.map wD ∧ ws.length ≤ 3906 ∧ ∀ v ∈ ws, v.length ≤ 5) (dr_ifT (dt_cmp (de_dget (room1 hr) (de_v 0) de_str (hd_joins h)) de_str (od_neJl .none)) (fun _ => DE.as (de_call (ok__law_all_words T) hr (da_cons (de_v 17) (da_cons (de_v 5) da_nil)) ⟨_, _, rfl, hls, by omega, rfl⟩) ⟨_, rfl, _, rfl, allW_len hls (by omega), allW_wl (by omega)⟩) (fun _ => DE.as (DL.fzE (dl_ls (ds := []) da_nil)) ⟨_, rfl, [], rfl, Nat.zero_le _, fun v hv => by cases hv⟩))) fun ds ⟨ws, hds, hwl, hws⟩ => ⟨fun i z => ∃ l : List Dt, (∀ t ∈ l, TuT t) ∧ l.length ≤ 20 + i ∧ z = ρT h up s u l [.un, .un, .un, .un, .un, .dat (.str (sdS k)), .un, .un, .dat (wD ls), .un, .un, .un, .un], ⟨_, ⟨l, hl, by omega, rfl⟩, Wk.refl _⟩, ?_, ?_⟩) ?_
  · rintro i d ρi hd ⟨l, hl, hll, rfl⟩
    subst hds
    have hilt : i < ws.length := by
      have := (List.getElem?_eq_some_iff.mp hd).1
      simpa using this
    obtain ⟨v, hv, rfl⟩ := List.mem_map.mp (List.mem_of_getElem? hd)
    have hvl := hws v hv
    have hni : l.all notInt = true := List.all_eq_true.mpr fun t ht => (hl t ht).ni
    refine ⟨[18], dg_name 18 ?_ sc__law_turned.nd⟩
    refine dss_cons (M := fun z => ∃ a : List Lt, a.length ≤ 100 ∧ z = ρT h up s u l [.un, .un, .un, .un, .un, .dat (.str (sdS k)), .un, .un, .dat (wD ls), .dat (wD v), .dat (pgD (a, s.key, s.watch)), .un, .un]) (ds_setR 19 (R := fun d => ∃ a : List Lt, a.length ≤ 100 ∧ d = pgD (a, s.key, s.watch)) (DR.mono (de_tp (ds := [_, .str (sdS s.key), .str (sdS s.watch)]) (da_cons (de_ifG wD (dt_cmp (de_v 14) (de_strSd .right) od_eqSd) (fun _ => de_bin (de_v 6) (de_v 18) (od_addW (by omega))) (fun _ => de_bin (de_v 18) (de_v 6) (od_addW (by omega)))) (da_cons (de_v 7) (da_cons (de_v 8) da_nil)))) fun d e => ⟨if decide (k = .right) = true then u ++ v else v ++ u, by split <;> rw [List.length_append] <;> omega, e⟩) (fun d ⟨a, h1, e⟩ => ⟨a, h1, by rw [e] <;> rfl⟩) sc__law_turned.nd) ?_
    rintro z ⟨a, ha, rfl⟩
    refine dss_cons (M := fun z => ∃ p : Pg, (p.1.length ≤ 100 ∧ p.2.1 ≠ .no ∧ p.2.2 ≠ .no) ∧ z = ρT h up s u l [.un, .un, .un, .un, .un, .dat (.str (sdS k)), .un, .un, .dat (wD ls), .dat (wD v), .dat (pgD p), .un, .un]) (ds_setR 19 (R := fun d => ∃ p : Pg, (p.1.length ≤ 100 ∧ p.2.1 ≠ .no ∧ p.2.2 ≠ .no) ∧ d = pgD p) (DR.mono (de_tp (ds := [wD a, _, _]) (da_cons (de_ix (de_v 19) de_int (id_tup 0)) (da_cons (de_ifG (fun k => Dt.str (sdS k)) (dt_cmp (de_call (ok__law_spot T) (hr.mono (by decide)) (da_cons (de_v 18) (da_cons (de_strW [.k, .r, .b]) da_nil)) ⟨_, _, rfl, by omega, rfl⟩) de_int od_ge) (fun _ => de_strSd .inn) (fun _ => de_v 7)) (da_cons (de_ifG (fun k => Dt.str (sdS k)) (dt_cmp (de_call (ok__law_spot T) (hr.mono (by decide)) (da_cons (de_v 18) (da_cons (de_strW [.x, .b]) da_nil)) ⟨_, _, rfl, by omega, rfl⟩) de_int od_ge) (fun _ => de_strSd .inn) (fun _ => de_v 8)) da_nil)))) fun d e => ⟨(a, _, _), ⟨ha, ?_, ?_⟩, e⟩) (fun d ⟨p, h1, e⟩ => ⟨p, h1, by rw [e] <;> rfl⟩) sc__law_turned.nd) ?_
    · show (if _ then Sd.inn else s.key) ≠ .no
      split
      · exact fun z => nomatch z
      · exact hkn
    · show (if _ then Sd.inn else s.watch) ≠ .no
      split
      · exact fun z => nomatch z
      · exact hwn
    rintro z ⟨p, hp, rfl⟩
    refine dss_one (ds_append 4 (R := TuT) (DR.mono (de_tp (ds := [.tup [.str "join", wD v], pgD p]) (da_cons (de_tp (ds := [_, _]) (da_cons de_str (da_cons (de_v 18) da_nil))) (da_cons (de_v 19) da_nil))) fun d e => ⟨"join", [wD v], p, e, hp.1, hp.2.1, hp.2.2, Nat.le_of_ble_eq_true rfl⟩) (fun d h1 => ⟨h1.ni, _, ⟨l ++ [d], fun t ht => ?_, by rw [List.length_append, List.length_singleton]; omega, rfl⟩, .eq (.eq (.eq (.eq (.eq (.eq (.eq (.eq (.eq (.eq (.eq (.eq (.eq (.eq (.eq (.eq (.eq (.eq (.un (.un (.eq (.eq .nil)))))))))))))))))))))⟩) (by omega) hni)
    rcases List.mem_append.mp ht with q | q
    · exact hl t q
    · rw [List.mem_singleton.mp q]; exact h1
  · rintro z ⟨l, hl, hll, rfl⟩
    subst hds
    rw [List.length_map] at hll
    exact ⟨l, hl, by omega, rfl⟩
  rintro z ⟨l, hl, hll, rfl⟩
  refine dss_fz 4 ?_
  refine dss_one (ds_retL (DL.mono (dl_lc (own := [(".0", 20), ("_law_pair", 21)]) (di_list (RL := fun z => z = l) (DR.mono (de_v 4) fun d e => ⟨_, e, rfl⟩))
    (lc_some (TuG up h.rows s.order) (fun ds e => by rw [e]; omega) (fun d hd => hd.ni) [21] (by simp) (fun d => [.dat (hdD h), .dat (.str (wayS up)), .dat (scD s), .dat (.int s.order), .dat (.lst l), .dat (.int (h.rows : Int)), .dat (wD u), .dat (.str (sdS s.key)), .dat (.str (sdS s.watch)), .un, .un, .un, .un, .un, .dat (.str (sdS k)), .un, .un, .dat (wD ls), .un, .un, .un, .dat d]) (fun d b => b = true → TuG up h.rows s.order d)
      (fun ds e d hd sh Hb C cl fp => dg_name 21 rfl sc__law_turned.nd)
      (fun ds e d hd sh Hb C cl fp => by
        rw [e] at hd
        obtain ⟨hh, rest, p, rfl, h1, h2, h3, h4⟩ := hl d hd
        exact dqs_one (DQ.mono (dt_val (de_call (ok__law_fits T) hr (da_cons (de_v 1) (da_cons (de_v 5) (da_cons (de_v 3) (da_cons (de_ix (de_v 21) de_int (id_tup 1)) da_nil)))) ⟨_, _, _, p, rfl, by omega, h2, h3, rfl⟩)) fun b e2 hb => ⟨hh, rest, p, rfl, h2, h3, by rw [← e2]; exact hb, h4⟩))
      (fun ds e d hd hb sh Hb C cl fp => DE.as (de_v 21) (hb rfl))) sc__law_turned.nd (blkOk_by (show blkC N__law_turned (defScope s__law_turned) _ _ = true by decide +kernel))) fun l2 ⟨ds, e, h1, h2⟩ => ⟨l2, rfl, by rw [e] at h1; omega, h2⟩))
end

end DL
/-! Lh -/
set_option Elab.async false
set_option linter.all false
set_option maxRecDepth 100000
set_option maxHeartbeats 4000000
namespace DL
open PySem PySem.Spec PyProof.Rows L2
local macro_rules | `(tactic| walk_at "od") => `(tactic| first | exact od_eqS | exact od_neS | exact od_inT | exact od_notInT | exact od_inL | exact od_notInL | exact od_eqB | exact od_neB)
local macro_rules | `(tactic| walk_at "len") => `(tactic| first | omega | (simp only [List.length_append, List.length_cons, List.length_nil, List.length_take, List.length_drop]; omega))
section
variable {P : Program} {w : World} {K : PySem.W.Frag} {mg : Str → Option Value} {base : Heap}
theorem fits_of_pages {up : Bool} {m : Nat} {o : Int} {ls : List Lt} : ∀ p ∈ pagesL up m o ls, p.2.1 ≠ .no ∧ p.2.2 ≠ .no ∧ fitsL up m o p = true := fun p hp => by
  obtain ⟨u, _, hp⟩ := List.mem_flatMap.mp hp
  obtain ⟨k, hk, hp⟩ := List.mem_flatMap.mp hp
  obtain ⟨v, hv, hp⟩ := List.mem_flatMap.mp hp
  by_cases h : fitsL up m o (u, k, v) = true
  · rw [if_pos h] at hp
    rw [List.mem_singleton.mp hp]
    exact ⟨sds_no _ _ k hk, sds_no _ _ v hv, h⟩
  · rw [if_neg h] at hp; cases hp
/-- a deed of others in the law's model -/
def OtL (h : Hs) (up : Bool) (d : Dt) : Prop := ∃ (hd : Str) (rest : List Dt) (s : Sc), d = .tup [.tup (.str hd :: rest), scD s] ∧ Good h up s
theorem OtL.ni {h : Hs} {up : Bool} {d : Dt} (q : OtL h up d) : notInt d = true := let ⟨_, _, _, e, _⟩ := q; by rw [e] <;> rfl
theorem chBL_len (h : Hs) (c : Int) : (chBL h c).length ≤ 4 := by
  unfold chBL
  split
  · simp
  · split <;> simp
theorem Good.behind {h : Hs} {up : Bool} {s : Sc} {one many : Int} {p : Pg} (ho : s.order = -1 ∨ s.order = 0 ∨ s.order = 1) (h1 : p.2.1 ≠ .no) (h2 : p.2.2 ≠ .no) (h3 : fitsL up h.rows s.order p = true) : Good h up ⟨s.told, s.order, s.slot, one, many, some p.1, p.2.1, p.2.2⟩ :=
  ⟨fun u hu => by
    have e : p.1 = u := Option.some.inj hu
    subst e
    exact ⟨h1, h2, h3⟩, (fun z => nomatch z), ho⟩
theorem Good.gone {h : Hs} {up : Bool} {s : Sc} (ho : s.order = -1 ∨ s.order = 0 ∨ s.order = 1) : Good h up (gone s) := ⟨(fun u hu => nomatch hu), fun _ => ⟨rfl, rfl⟩, ho⟩
def freeB (h : Hs) (s : Sc) : Bool := match h.changes with
  | none => true
  | some c => decide (s.many < (c : Int))
abbrev ρO (h : Hs) (up : Bool) (s : Sc) (cnt : Int) (r : List Sl) : List Sl := .dat (hdD h) :: .dat (.str (wayS up)) :: .dat (scD s) :: .dat (.bl s.told) :: .dat (.int s.order) :: .dat (.int s.slot) :: .dat (.int s.change) :: .dat (.int s.many) :: .dat (.bl (freeB h s)) :: .dat (.int cnt) :: r
def S_lothers : List Sl → (List Dt → Prop) → Prop := fun as R => ∃ (h : Hs) (up : Bool) (s : Sc), as = [.dat (hdD h), .dat (.str (wayS up)), .dat (scD s)] ∧ HOk h ∧ Good h up s ∧ R = fun l => l.length ≤ 62500 ∧ ∀ d ∈ l, OtL h up d
theorem ok__law_others (T : Top w K mg) : FnL P w K mg base "_law_others" 4 P__law_others S_lothers := by
  refine FnL.mk1 (st := s__law_others) T 58 rfl T.g__law_others (fun fd F => fn_oneL F sc__law_others ?_) (fun _ _ _ _ _ _ us hl => match us, hl with | [_, _, _], _ => rfl)
  rintro as R ⟨h, up, s, rfl, ho, hg, rfl⟩
  refine ⟨⟨rfl, by simp [isMut]⟩, fun cdv A outer s' H S0 E hr => ?_⟩
  have hrows := ho.r3
  refine dss_then (ρ1 := [.dat (hdD h), .dat (.str (wayS up)), .dat (scD s), .dat (.bl s.told), .dat (.int s.order), .dat (.int s.slot), .dat (.int s.change), .dat (.int s.many), .un, .un, .un, .un, .un, .un, .un, .un, .un]) (ds_asg (d := .tup [.bl s.told, .int s.order, .int s.slot, .int s.change, .int s.many]) (DE.eq (de_slT (l := none) (h := some ((5 : Nat) : Int)) (de_v 2) dp_none (dp_some de_int) (by show ¬ (HT.sIx 8 0 none = 0 ∧ HT.sIx 8 8 (some ((5 : Nat) : Int)) = 8); decide)) (by rw [cutD_hi]; rfl)) (dg_tup (dgs_cons (L' := [4, 5, 6, 7]) (M' := fun z => z = _) (dg_name 3 rfl sc__law_others.nd) (fun _ e => by subst e; exact dgs_cons (L' := [5, 6, 7]) (M' := fun z => z = _) (dg_name 4 rfl sc__law_others.nd) (fun _ e => by subst e; exact dgs_cons (L' := [6, 7]) (M' := fun z => z = _) (dg_name 5 rfl sc__law_others.nd) (fun _ e => by subst e; exact dgs_cons (L' := [7]) (M' := fun z => z = _) (dg_name 6 rfl sc__law_others.nd) (fun _ e => by subst e; exact dgs_cons (L' := []) (M' := fun z => z = _) (dg_name 7 rfl sc__law_others.nd) (fun _ e => by subst e; exact dgs_nil rfl)))))))) ?_
  refine dss_then (ρ1 := [.dat (hdD h), .dat (.str (wayS up)), .dat (scD s), .dat (.bl s.told), .dat (.int s.order), .dat (.int s.slot), .dat (.int s.change), .dat (.int s.many), .dat (.bl (freeB h s)), .un, .un, .un, .un, .un, .un, .un, .un]) (ds_set 8 (d := .bl (freeB h s)) ?_ rfl sc__law_others.nd) ?_
  · unfold freeB
    cases hch : h.changes with
    | none => exact DE.eq (de_or (k := false) (DE.eq (de_cmp (de_dget (room1 hr) (de_v 0) de_str (hd_changes h)) de_non od_isNo) (d' := .bl true) (by rw [hch]; rfl)) (fun z => nomatch z)) rfl
    | some c => exact DE.eq (de_or (p := false) (DE.eq (de_cmp (de_dget (room1 hr) (de_v 0) de_str (hd_changes h)) de_non od_isNo) (d' := .bl false) (by rw [hch]; rfl)) (fun _ => de_one (de_cmp (de_v 7) (DE.eq (de_dget (room1 hr) (de_v 0) de_str (hd_changes h)) (d' := .int (c : Int)) (by rw [hch]; rfl)) od_lt))) rfl
  refine dss_cons (M := fun z => ∃ cnt : Int, z = ρO h up s cnt [.ml [], .un, .un, .un, .un, .un, .un]) (ds_asg2M 9 10 (s1 := .dat (.int (if decide (h.changes = none) = true then 0 else s.many + 1))) (s2 := .ml []) (dm_dat (de_ifG Dt.int (dt_cmp (de_dget (room1 hr) (de_v 0) de_str (hd_changes h)) de_non od_isNo) (fun _ => de_int) (fun _ => de_bin (de_v 7) de_int od_add)) (dm_lst (dl_ls (ds := []) da_nil) rfl dm_nil)) ⟨_, rfl⟩ sc__law_others.nd) ?_
  rintro z ⟨cnt, rfl⟩
  cases hw : s.word with
  | none =>
    refine dss_ifr (DT.eq (dt_cmp (de_scn (de_v 2) hw) de_non od_isN) (d' := true) rfl) (fun _ => ?_) (fun hc => by cases hc)
    refine dss_cons (M := fun z => ∃ ns : List Int, ns.length ≤ 4 ∧ z = ρO h up s cnt [.ml [], .dat (.lst (ns.map Dt.int)), .un, .un, .un, .un, .un]) (ds_setR 11 (R := fun d => ∃ ns : List Int, ns.length ≤ 4 ∧ d = .lst (ns.map Dt.int)) (dr_ifT (dt_cmp (de_dget (room1 hr) (de_v 0) de_str (hd_stamps h)) de_non od_isNo) (fun _ => DE.as (DL.fzE (dl_ls (ds := [.int (-1), .int 0, .int 1]) (da_cons (DE.eq (de_bin de_int de_int od_sub) rfl) (da_cons de_int (da_cons de_int da_nil))))) ⟨[-1, 0, 1], by decide, rfl⟩) (fun hs => by
      cases hst : h.stamps with
      | none => rw [hst] at hs; cases hs
      | some m =>
        have hm := ho.st m hst
        exact DE.as (DL.fzE (dl_listRg1 (n := m) T.f_list T.f_range (DE.eq (de_dget (room1 hr) (de_v 0) de_str (hd_stamps h)) (by rw [hst]; rfl)) (by omega))) ⟨(List.range m).map fun i : Nat => (i : Int), by rw [List.length_map, List.length_range]; omega, by unfold upTo; rw [List.map_map]; rfl⟩)) (fun d ⟨ns, h1, e⟩ => ⟨ns, h1, by rw [e] <;> rfl⟩) sc__law_others.nd) ?_
    rintro z ⟨ns0, hns0, rfl⟩
    refine dss_cons (M := fun z => ∃ ns : List Int, ns.length ≤ 4 ∧ z = ρO h up s cnt [.ml [], .dat (.lst (ns0.map Dt.int)), .dat (.lst (ns.map Dt.int)), .un, .un, .un, .un]) (ds_setR 12 (R := fun d => ∃ ns : List Int, ns.length ≤ 4 ∧ d = .lst (ns.map Dt.int)) (dr_ifT (dt_val (de_dget (room1 hr) (de_v 0) de_str (hd_on h))) (fun _ => DE.as (DL.fzE (dl_call1 (ok__law_later T) (hr.mono (by decide)) (da_cons (de_v 0) (da_cons (de_v 6) da_nil)) ⟨_, _, rfl, ho, rfl⟩)) ⟨_, chBL_len _ _, rfl⟩) (fun _ => DE.as (de_v 11) ⟨_, hns0, rfl⟩)) (fun d ⟨ns, h1, e⟩ => ⟨ns, h1, by rw [e] <;> rfl⟩) sc__law_others.nd) ?_
    rintro z ⟨ns, hns, rfl⟩
    refine dss_cons (M := fun z => ∃ l : List Dt, (∀ t ∈ l, OtL h up t) ∧ l.length ≤ 62500 ∧ z = ρO h up s cnt [.ml l, .dat (.lst (ns0.map Dt.int)), .dat (.lst (ns.map Dt.int)), .un, .un, .un, .un]) (ds_for (di_list (RL := fun z => ∃ ps : List Pg, z = ps.map pgD ∧ ps.length ≤ 15624 ∧ ∀ p ∈ ps, p.2.1 ≠ .no ∧ p.2.2 ≠ .no ∧ fitsL up h.rows s.order p = true) (DL.fz (dl_if (DW.q (wt_and (dt_val (de_dget (room1 hr) (de_v 0) de_str (hd_again h))) fun _ => (wt_and1 (dt_val (de_v 8))))) (fun _ => DL.mono (dl_call1 (ok__law_pages T) hr (da_cons (de_v 1) (da_cons (de_dget (room1 hr) (de_v 0) de_str (hd_rows h)) (da_cons (de_v 4) (da_cons (de_strW [.k, .r, .x, .b]) da_nil)))) ⟨_, _, _, _, rfl, by decide, by omega, rfl⟩) fun l e => ⟨_, e, pagesL_len (by decide) (by omega), fits_of_pages⟩) (fun _ => DL.mono (dl_ls (ds := []) da_nil) fun l e => ⟨[], e, Nat.zero_le _, fun v hv => by cases hv⟩)))) fun ds ⟨ps, hds, hpl, hps⟩ => ⟨fun i z => ∃ l : List Dt, (∀ t ∈ l, OtL h up t) ∧ l.length ≤ 4 * i ∧ z = ρO h up s cnt [.ml l, .dat (.lst (ns0.map Dt.int)), .dat (.lst (ns.map Dt.int)), .un, .un, .un, .un], ⟨_, ⟨[], (fun t ht => by cases ht), Nat.zero_le _, rfl⟩, Wk.refl _⟩, ?_, ?_⟩) ?_
    · rintro i d ρi hd ⟨l, hl, hll, rfl⟩
      subst hds
      have hilt : i < ps.length := by
        have := (List.getElem?_eq_some_iff.mp hd).1
        simpa using this
      obtain ⟨p, hp, rfl⟩ := List.mem_map.mp (List.mem_of_getElem? hd)
      obtain ⟨p1, p2, p3⟩ := hps p hp
      have hni : l.all notInt = true := List.all_eq_true.mpr fun t ht => (hl t ht).ni
      refine ⟨[13], dg_name 13 ?_ sc__law_others.nd⟩
      refine dss_one (ds_extend 10 (ds := l) (DL.fz (dl_lc (own := [(".0", 16), ("_law_one", 14)]) (di_list (RL := fun z => z = ns.map Dt.int) (DR.mono (de_v 12) fun d e => ⟨_, e, rfl⟩))
        (lc_rel (OtL h up) (fun ds e => by rw [e, List.length_map]; omega) (fun d hd => hd.ni) [14] (by simp) (fun d => ρO h up s cnt [.ml l, .dat (.lst (ns0.map Dt.int)), .dat (.lst (ns.map Dt.int)), .dat (pgD p), .dat d, .un, .un])
          (fun ds e d hd s Hb C cl fp => dg_name 14 rfl sc__law_others.nd)
          (fun ds e d hd sh Hb C cl fp => by
            rw [e] at hd
            obtain ⟨one, _, rfl⟩ := List.mem_map.mp hd
            exact DE.as (de_tp (ds := [.tup (.str "new" :: pgL p ++ [.int one]), scD ⟨s.told, s.order, s.slot, one, cnt, some p.1, p.2.1, p.2.2⟩]) (da_cons (DE.eq (de_bin (de_bin (de_tp (ds := [_]) (da_cons de_str da_nil)) (de_v 13) (od_catT (fun z => nomatch z) (by exact (show (4 : Nat) ≤ sizeLine by decide)))) (de_tp (ds := [.int one]) (da_cons (de_v 14) da_nil)) (od_catT (fun z => nomatch z) (by exact (show (5 : Nat) ≤ sizeLine by decide)))) rfl) (da_cons (DE.eq (de_bin (de_tp (ds := [_, _, _, .int one, _]) (da_cons (de_v 3) (da_cons (de_v 4) (da_cons (de_v 5) (da_cons (de_v 14) (da_cons (de_v 9) da_nil)))))) (de_v 13) (od_catT (fun z => nomatch z) (by exact (show (8 : Nat) ≤ sizeLine by decide)))) rfl) da_nil))) ⟨"new", _, _, rfl, Good.behind hg.od p1 p2 p3⟩)) sc__law_others.nd (blkOk_by (show blkC N__law_others (defScope s__law_others) _ _ = true by decide +kernel))))
        (fun l2 ⟨ds, e, h1, h2⟩ => ⟨List.all_eq_true.mpr fun t ht => (h2 t ht).ni, by rw [e, List.length_map] at h1; omega, _, ⟨l ++ l2, fun t ht => ?_, by rw [e, List.length_map] at h1; rw [List.length_append]; omega, rfl⟩, .eq (.eq (.eq (.eq (.eq (.eq (.eq (.eq (.eq (.eq (.eq (.eq (.eq (.un (.eq (.eq (.eq .nil))))))))))))))))⟩) hni)
      rcases List.mem_append.mp ht with q | q
      · exact hl t q
      · exact h2 t q
    · rintro z ⟨l, hl, hll, rfl⟩
      subst hds
      rw [List.length_map] at hll
      exact ⟨l, hl, by omega, rfl⟩
    rintro z ⟨l, hl, hll, rfl⟩
    exact dss_one (ds_retml 10 ⟨l, rfl, hll, hl⟩)
  | some u =>
    obtain ⟨hkn, hwn, hfit⟩ := hg.pg u hw
    refine dss_ifr (DT.eq (dt_cmp (de_scw (de_v 2) hw) de_non od_isN) (d' := false) rfl) (fun hc => by cases hc) (fun _ => ?_)
    refine dss_cons (M := fun z => ∃ l : List Dt, (∀ t ∈ l, OtL h up t) ∧ l.length ≤ 24000 ∧ z = ρO h up s cnt [.ml l, .un, .un, .un, .un, .un, .un]) (ds_for (di_list (RL := fun l => l.length ≤ 6000 ∧ ∀ d ∈ l, TuG up h.rows s.order d) (DL.fz (dl_if (dt_val (de_v 8)) (fun _ => dl_call1 (ok__law_turned T) hr (da_cons (de_v 0) (da_cons (de_v 1) (da_cons (de_v 2) da_nil))) ⟨_, _, _, _, rfl, ho, hg, hw, rfl⟩) (fun _ => DL.mono (dl_ls (ds := []) da_nil) fun l e => by rw [e]; exact ⟨Nat.zero_le _, fun v hv => by cases hv⟩)))) fun ds ⟨hdl, hds⟩ => ⟨fun i z => ∃ l : List Dt, (∀ t ∈ l, OtL h up t) ∧ l.length ≤ 4 * i ∧ z = ρO h up s cnt [.ml l, .un, .un, .un, .un, .un, .un], ⟨_, ⟨[], (fun t ht => by cases ht), Nat.zero_le _, rfl⟩, Wk.refl _⟩, ?_, ?_⟩) ?_
    · rintro i d ρi hd ⟨l, hl, hll, rfl⟩
      have hilt : i < ds.length := (List.getElem?_eq_some_iff.mp hd).1
      obtain ⟨hh, rest, p, rfl, p1, p2, p3, p4⟩ := hds d (List.mem_of_getElem? hd)
      refine ⟨[15, 13], dg2 15 13 ?_ sc__law_others.nd⟩
      refine dss_one (ds_for (di_list (RL := fun z => z = (chBL h s.change).map Dt.int) (DL.fz (dl_call1 (ok__law_later T) (hr.mono (by decide)) (da_cons (de_v 0) (da_cons (de_v 6) da_nil)) ⟨_, _, rfl, ho, rfl⟩))) fun ds2 hds2 => ⟨fun j z => ∃ l : List Dt, (∀ t ∈ l, OtL h up t) ∧ l.length ≤ 4 * i + j ∧ z = ρO h up s cnt [.ml l, .un, .un, .dat (pgD p), .un, .dat (.tup (.str hh :: rest)), .un], ⟨_, ⟨l, hl, by omega, rfl⟩, Wk.refl _⟩, ?_, ?_⟩)
      · rintro j d ρj hd ⟨l, hl, hll, rfl⟩
        subst hds2
        have hjl : j < (chBL h s.change).length := by
          have := (List.getElem?_eq_some_iff.mp hd).1
          simpa using this
        have hcl := chBL_len h s.change
        obtain ⟨one, _, rfl⟩ := List.mem_map.mp (List.mem_of_getElem? hd)
        have hni : l.all notInt = true := List.all_eq_true.mpr fun t ht => (hl t ht).ni
        refine ⟨[14], dg_name 14 ?_ sc__law_others.nd⟩
        refine dss_one (ds_append 10 (R := OtL h up) (DR.mono (de_tp (ds := [.tup ((.str hh :: rest) ++ [.int one]), scD ⟨s.told, s.order, s.slot, one, cnt, some p.1, p.2.1, p.2.2⟩]) (da_cons (de_bin (de_v 15) (de_tp (ds := [.int one]) (da_cons (de_v 14) da_nil)) (od_catT (xs := .str hh :: rest) (ys := [.int one]) (fun z => nomatch z) (by rw [List.length_cons, List.length_singleton, sizeLine_eq]; omega))) (da_cons (DE.eq (de_bin (de_tp (ds := [_, _, _, .int one, _]) (da_cons (de_v 3) (da_cons (de_v 4) (da_cons (de_v 5) (da_cons (de_v 14) (da_cons (de_v 9) da_nil)))))) (de_v 13) (od_catT (fun z => nomatch z) (by exact (show (8 : Nat) ≤ sizeLine by decide)))) rfl) da_nil))) fun d e => ⟨hh, _, _, e, Good.behind hg.od p1 p2 p3⟩) (fun d h1 => ⟨h1.ni, _, ⟨l ++ [d], fun t ht => ?_, by rw [List.length_append, List.length_singleton]; omega, rfl⟩, .eq (.eq (.eq (.eq (.eq (.eq (.eq (.eq (.eq (.eq (.eq (.eq (.eq (.eq (.un (.eq (.eq .nil))))))))))))))))⟩) (by omega) hni)
        rcases List.mem_append.mp ht with q | q
        · exact hl t q
        · rw [List.mem_singleton.mp q]; exact h1
      · rintro z ⟨l, hl, hll, rfl⟩
        subst hds2
        rw [List.length_map] at hll
        have hcl := chBL_len h s.change
        exact ⟨_, ⟨l, hl, by omega, rfl⟩, .eq (.eq (.eq (.eq (.eq (.eq (.eq (.eq (.eq (.eq (.eq (.eq (.eq (.un (.eq (.un (.eq .nil))))))))))))))))⟩
    · rintro z ⟨l, hl, hll, rfl⟩
      exact ⟨l, hl, by omega, rfl⟩
    rintro z ⟨l, hl, hll, rfl⟩
    have hni : l.all notInt = true := List.all_eq_true.mpr fun t ht => (hl t ht).ni
    refine dss_cons (M := fun z => ∃ l : List Dt, (∀ t ∈ l, OtL h up t) ∧ l.length ≤ 24001 ∧ z = ρO h up s cnt [.ml l, .un, .un, .un, .un, .un, .un]) (ds_ifT (dt_cmp (de_dget (room1 hr) (de_v 0) de_str (hd_joins h)) de_str (od_neJl .none)) (fun _ => ?_) (fun _ => dss_nil ⟨l, hl, by omega, rfl⟩)) ?_
    · refine dss_one (ds_append 10 (R := OtL h up) (DR.mono (de_tp (ds := [.tup [.str "leave"], scD (gone s)]) (da_cons (de_tp (ds := [_]) (da_cons de_str da_nil)) (da_cons (DE.eq (de_bin (DE.eq (de_slT (l := none) (h := some ((5 : Nat) : Int)) (de_v 2) dp_none (dp_some de_int) (by show ¬ (HT.sIx 8 0 none = 0 ∧ HT.sIx 8 8 (some ((5 : Nat) : Int)) = 8); decide)) (d' := .tup [.bl s.told, .int s.order, .int s.slot, .int s.change, .int s.many]) (by rw [cutD_hi]; rfl)) (de_tp (ds := [.non, .str (sdS .no), .str (sdS .no)]) (da_cons de_non (da_cons (de_strSd .no) (da_cons (de_strSd .no) da_nil)))) (od_catT (fun z => nomatch z) (by exact (show (8 : Nat) ≤ sizeLine by decide)))) rfl) da_nil))) fun d e => ⟨"leave", [], gone s, e, Good.gone hg.od⟩) (fun d h1 => ⟨h1.ni, l ++ [d], fun t ht => ?_, by rw [List.length_append, List.length_singleton]; omega, rfl⟩) (by omega) hni)
      rcases List.mem_append.mp ht with q | q
      · exact hl t q
      · rw [List.mem_singleton.mp q]; exact h1
    rintro z ⟨l, hl, hll, rfl⟩
    exact dss_one (ds_retml 10 ⟨l, rfl, by omega, hl⟩)
end

end DL
/-! Li -/
set_option Elab.async false
set_option linter.all false
set_option maxRecDepth 100000
set_option maxHeartbeats 4000000
namespace DL
open PySem PySem.Spec PyProof.Rows L2
local macro_rules | `(tactic| walk_at "od") => `(tactic| first | exact od_eqS | exact od_neS | exact od_inT | exact od_notInT | exact od_inL | exact od_notInL | exact od_eqB | exact od_neB)
local macro_rules | `(tactic| walk_at "len") => `(tactic| first | omega | (simp only [List.length_append, List.length_cons, List.length_nil, List.length_take, List.length_drop]; omega))
section
variable {P : Program} {w : World} {K : PySem.W.Frag} {mg : Str → Option Value} {base : Heap}
def farC (up first : Bool) (p : Pg) : Bool := decide (p.2.1 = .inn) && (!first || decide (spotI p.1 [.k, .b] = if up then 0 else (p.1.length : Int) - 1))
def farF (up told : Bool) (o : Int) (first : Bool) (p : Pg) : List Dt := if farC up first p then [metD [.str "next", wD p.1, .str (sdS p.2.2)] told o (spotI p.1 [.k, .b]) p] else []
def farL (h : Hs) (up told : Bool) (o : Int) (first : Bool) : List Dt := (pagesL up h.rows o [.k, .x, .b]).flatMap (farF up told o first)
theorem metD_ni (ev : List Dt) (told : Bool) (o slot : Int) (p : Pg) : notInt (metD ev told o slot p) = true := by unfold metD; split <;> rfl
theorem farF_ni (up told : Bool) (o : Int) (first : Bool) (p : Pg) : (farF up told o first p).all notInt = true := by
  unfold farF
  split
  · rw [List.all_cons, metD_ni]; rfl
  · rfl
theorem farL_len {h : Hs} (ho : HOk h) (up told : Bool) (o : Int) (first : Bool) : (farL h up told o first).length ≤ 15624 := by
  have h1 := pagesL_len (up := up) (m := h.rows) (o := o) (ls := [.k, .x, .b]) (by decide) (by have := ho.r3; omega)
  have h2 := flen (farF up told o first) 1 (pagesL up h.rows o [.k, .x, .b]) fun p _ => by unfold farF; split <;> simp
  unfold farL
  omega
theorem pagesL_wl {up : Bool} {m : Nat} {o : Int} {ls : List Lt} (hm : m ≤ 3) : ∀ p ∈ pagesL up m o ls, p.1.length ≤ 5 := fun p hp => by
  obtain ⟨u, hu, hp⟩ := List.mem_flatMap.mp hp
  obtain ⟨k, hk, hp⟩ := List.mem_flatMap.mp hp
  obtain ⟨v, hv, hp⟩ := List.mem_flatMap.mp hp
  split at hp
  · rw [List.mem_singleton.mp hp]; exact allW_wl hm u hu
  · cases hp
def S_far : List Sl → (List Dt → Prop) → Prop := fun as R => ∃ (h : Hs) (up told : Bool) (o : Int) (first : Bool), as = [.dat (hdD h), .dat (.str (wayS up)), .dat (.bl told), .dat (.int o), .dat (.bl first)] ∧ HOk h ∧ R = fun l => l = farL h up told o first
theorem ok__law_far (T : Top w K mg) : FnL P w K mg base "_law_far" 4 P__law_far S_far := by
  refine FnL.mk1 (st := s__law_far) T 60 rfl T.g__law_far (fun fd F => fn_oneL F sc__law_far ?_) (fun _ _ _ _ _ _ us hl => match us, hl with | [_, _, _, _, _], _ => rfl)
  rintro as R ⟨h, up, told, o, first, rfl, ho, rfl⟩
  refine ⟨⟨rfl, by simp [isMut]⟩, fun cdv A outer s' H S0 E hr => ?_⟩
  have hrows := ho.r3
  have hfl := farL_len ho up told o first
  refine dss_then (ρ1 := [.dat (hdD h), .dat (.str (wayS up)), .dat (.bl told), .dat (.int o), .dat (.bl first), .ml [], .un, .un, .un, .un]) (ds_setL 5 (dl_ls (ds := []) da_nil) (fun l e => by rw [e]; exact ⟨rfl, rfl⟩) sc__law_far.nd) ?_
  refine dss_then (ρ1 := [.dat (hdD h), .dat (.str (wayS up)), .dat (.bl told), .dat (.int o), .dat (.bl first), .ml (farL h up told o first), .un, .un, .un, .un]) (ds_acc (pagesL up h.rows o [.k, .x, .b]) pgD (farF up told o first) [] (fun acc => [.dat (hdD h), .dat (.str (wayS up)), .dat (.bl told), .dat (.int o), .dat (.bl first), .ml acc, .un, .un, .un, .un]) (di_list (DL.fz (dl_call1 (ok__law_pages T) hr (da_cons (de_v 1) (da_cons (de_dget (room1 hr) (de_v 0) de_str (hd_rows h)) (da_cons (de_v 3) (da_cons (de_strW [.k, .x, .b]) da_nil)))) ⟨_, _, _, _, rfl, by decide, by omega, rfl⟩))) rfl rfl (fun p _ => farF_ni up told o first p) (fun p hp acc hacc hlen => ⟨[6, 7, 8], dg3 6 7 8 ?_ sc__law_far.nd⟩) (fun _ => by rw [List.nil_append] <;> rfl)) (dss_one (ds_retml 5 ⟨_, rfl, rfl⟩))
  have hlen' : acc.length + (farF up told o first p).length ≤ (farL h up told o first).length := by
    rw [List.length_nil, Nat.zero_add] at hlen; exact hlen
  have hpl := pagesL_wl (by omega) p hp
  refine dss_then (ρ1 := [.dat (hdD h), .dat (.str (wayS up)), .dat (.bl told), .dat (.int o), .dat (.bl first), .ml acc, .dat (wD p.1), .dat (.str (sdS p.2.1)), .dat (.str (sdS p.2.2)), .dat (.int (spotI p.1 [.k, .b]))]) (ds_set 9 (de_call (ok__law_spot T) (hr.mono (by decide)) (da_cons (de_v 6) (da_cons (de_strW [.k, .b]) da_nil)) ⟨_, _, rfl, by omega, rfl⟩) rfl sc__law_far.nd) ?_
  refine dss_one (ds_ifT (k := farC up first p) (DT.eq (DW.q (wt_and (dt_cmp (de_v 7) (de_strSd .inn) od_eqSd) fun _ => (wt_and1 (DW.q (wt_or (dt_not (dt_val (de_v 4))) fun _ => (wt_or1 (dt_cmp (de_v 9) (de_ifG Dt.int (dt_cmp (de_v 1) de_str od_way) (fun _ => de_int) (fun _ => de_bin (de_lenW T.f_len (de_v 6) (by omega)) de_int od_sub)) od_eqI))))))) rfl) (fun hc => ?_) (fun hc => ?_))
  · refine dss_one (ds_append 5 (de_call (ok__law_met T) (hr.mono (by decide)) (da_cons (de_tp (ds := [.str "next", wD p.1, .str (sdS p.2.2)]) (da_cons de_str (da_cons (de_v 6) (da_cons (de_v 8) da_nil)))) (da_cons (de_v 2) (da_cons (de_v 3) (da_cons (de_v 9) (da_cons (DE.eq (de_tp (ds := [_, _, _]) (da_cons (de_v 6) (da_cons (de_v 7) (da_cons (de_v 8) da_nil)))) (d' := pgD p) rfl) da_nil))))) ⟨_, _, _, _, _, rfl, rfl⟩) (fun d e => ⟨by rw [e]; exact metD_ni _ _ _ _ _, _, rfl, ?_⟩) (by omega) hacc)
    rw [e]
    unfold farF
    rw [if_pos hc]
    exact .eq (.eq (.eq (.eq (.eq (.eq (.un (.un (.un (.un .nil)))))))))
  · refine dss_nil ⟨_, rfl, ?_⟩
    unfold farF
    rw [if_neg (by rw [hc]; exact Bool.false_ne_true), List.append_nil]
    exact .eq (.eq (.eq (.eq (.eq (.eq (.un (.un (.un (.un .nil)))))))))
def nearL (u : List Lt) : List Lt := (rowsOf u).map swapL
def nearV (u : List Lt) (n : Nat) : Lt := if decide ([(nearL u).getD n .d] = [Lt.x]) = true then .b else .k
def nearW (u : List Lt) (n : Nat) : List Lt := (nearL u).set n (nearV u n)
def nearM (watch : Sd) (v : List Lt) (n : Nat) : Bool := decide (watch = .right) || (decide (watch = .inn) && decide ((n : Int) < spotI v [.x]))
def nearO (up : Bool) (watch : Sd) (u : List Lt) (n : Nat) : Int := if nearV u n = .k then (if nearM watch (nearW u n) n == up then -1 else 1) else 0
def S_near : List Sl → (Dt → Prop) → Prop := fun as R => ∃ (up : Bool) (s : Sc) (u : List Lt) (n : Nat), as = [.dat (.str (wayS up)), .dat (scD s), .dat (.int (n : Int))] ∧ s.word = some u ∧ u.length ≤ 1000 ∧ n < (rowsOf u).length ∧ R = fun d => d = metD [.str "next"] s.told (nearO up s.watch u n) n (nearW u n, .inn, s.watch)
theorem ok__law_near (T : Top w K mg) : Fn P w K mg base "_law_near" 4 P__law_near S_near := by
  refine Fn.mk1 (st := s__law_near) T 61 rfl T.g__law_near (fun fd F => fn_one F sc__law_near ?_) (fun _ _ _ _ _ _ us hl => match us, hl with | [_, _, _], _ => rfl)
  rintro as R ⟨up, s, u, n, rfl, hu, hl, hn, rfl⟩
  refine ⟨⟨rfl, by simp [isMut]⟩, fun cdv A outer s' H S0 E hr => ?_⟩
  have hrl := rows_le u
  obtain ⟨ls, hls⟩ : ∃ ls, (rowsOf u).map swapL = ls := ⟨_, rfl⟩
  have hlm : ls.length = (rowsOf u).length := by rw [← hls, List.length_map]
  have hnl : n < ls.length := by omega
  have hget : (ls.map lD)[n]? = some (lD ls[n]) := by simp [hnl]
  have hv : (if decide ([ls[n]] = [Lt.x]) = true then Lt.b else Lt.k) = nearV u n := by
    unfold nearV nearL
    rw [hls, List.getD_eq_getElem?_getD, List.getElem?_eq_getElem hnl] <;> rfl
  have hw : ls.set n (nearV u n) = nearW u n := by unfold nearW nearL; rw [hls]
  refine dss_then (ρ1 := [.dat (.str (wayS up)), .dat (scD s), .dat (.int (n : Int)), .dat (.bl s.told), .dat (.str (sdS s.watch)), .un, .un, .un, .un, .un, .un]) (ds_par 3 4 (da_cons (de_sc (n := 0) (de_v 1)) (da_cons (de_sc (n := 7) (de_v 1)) da_nil)) (fun as e => ⟨_, _, e, rfl⟩) sc__law_near.nd) ?_
  refine dss_then (ρ1 := [.dat (.str (wayS up)), .dat (scD s), .dat (.int (n : Int)), .dat (.bl s.told), .dat (.str (sdS s.watch)), .ml (ls.map lD), .un, .un, .un, .un, .un]) (ds_lcM 5 [(".0", 9), ("_law_letter", 10)] (di_list (RL := fun z => z = (rowsOf u).map lD) (DL.fz (dl_call1 (ok__law_rows_in T) (hr.mono (by decide)) (da_cons (de_scw (de_v 1) hu) da_nil) ⟨_, rfl, by omega, rfl⟩)))
    (lc_all (rowsOf u) lD (fun c => lD (swapL c)) (by omega) (fun _ _ => rfl) (fun c => [.dat (.str (wayS up)), .dat (scD s), .dat (.int (n : Int)), .dat (.bl s.told), .dat (.str (sdS s.watch)), .un, .un, .un, .un, .un, .dat (lD c)]) (L := [10]) (by simp) (fun a _ s Hb C cl fp => dg_name 10 rfl sc__law_near.nd)
      (fun a _ s Hb C cl fp => de_getl (room1 hr) sw_disp (de_v 10) (de_v 10) ⟨rfl, rfl, rfl, rfl⟩))
    (fun ds e => ⟨by rw [e, List.all_map, List.all_eq_true]; intro _ _; rfl, by rw [e, ← hls, List.map_map]; rfl⟩) sc__law_near.nd (blkOk_by (show blkC N__law_near (defScope s__law_near) _ _ = true by decide +kernel))) ?_
  refine dss_then (ρ1 := [.dat (.str (wayS up)), .dat (scD s), .dat (.int (n : Int)), .dat (.bl s.told), .dat (.str (sdS s.watch)), .ml ((nearW u n).map lD), .un, .un, .un, .un, .un]) (ds_setix 5 n (ds := ls.map lD) (g := lD (if decide ([ls[n]] = [Lt.x]) = true then .b else .k)) (de_ifG lD (dt_cmp (de_ixml 5 n (de_v 2) hget rfl) (de_strW [.x]) od_eqW) (fun _ => (de_strW [.b])) (fun _ => (de_strW [.k]))) (de_v 2) rfl (by rw [List.length_map]; exact hnl) rfl (by rw [hv, ← List.map_set, hw] <;> rfl) (by rw [List.all_map, List.all_eq_true]; intro _ _; rfl)) ?_
  refine dss_fz 5 ?_
  have hwl : (nearW u n).length ≤ 1000 := by rw [← hw, List.length_set]; omega
  have hwn : (nearW u n)[n]? = some (nearV u n) := by rw [← hw]; exact List.getElem?_set_self hnl
  refine dss_then (ρ1 := [.dat (.str (wayS up)), .dat (scD s), .dat (.int (n : Int)), .dat (.bl s.told), .dat (.str (sdS s.watch)), .dat (lsD (nearW u n)), .dat (wD (nearW u n)), .dat (.int 0), .un, .un, .un]) (ds_par 6 7 (da_cons (de_joinL (de_v 5) (by omega)) (da_cons de_int da_nil)) (fun as e => ⟨_, _, e, rfl⟩) sc__law_near.nd) ?_
  refine dss_cons (M := fun z => ∃ a : Sl, z = [.dat (.str (wayS up)), .dat (scD s), .dat (.int (n : Int)), .dat (.bl s.told), .dat (.str (sdS s.watch)), .dat (lsD (nearW u n)), .dat (wD (nearW u n)), .dat (.int (nearO up s.watch u n)), a, .un, .un]) (ds_ifT (dt_cmp (DE.eq (de_ix (de_v 5) (de_v 2) (id_lst n (g := lD (nearV u n)) (by rw [List.getElem?_map, hwn] <;> rfl) rfl)) rfl) (de_strW [.k]) od_eqW) (fun hc => ?_) (fun hc => ?_)) ?_
  · have hk : nearV u n = .k := by simpa using of_decide_eq_true hc
    refine dss_then (ρ1 := [.dat (.str (wayS up)), .dat (scD s), .dat (.int (n : Int)), .dat (.bl s.told), .dat (.str (sdS s.watch)), .dat (lsD (nearW u n)), .dat (wD (nearW u n)), .dat (.int 0), .dat (.bl (nearM s.watch (nearW u n) n)), .un, .un]) (ds_set 8 (DE.eq (de_or (de_cmp (de_v 4) (de_strSd .right) od_eqSd) fun _ => (de_one (de_and (de_cmp (de_v 4) (de_strSd .inn) od_eqSd) fun _ => (de_one (de_cmp (de_call (ok__law_spot T) (hr.mono (by decide)) (da_cons (de_v 6) (da_cons (de_strW [.x]) da_nil)) ⟨_, _, rfl, by omega, rfl⟩) (de_v 2) od_gt))))) rfl) rfl sc__law_near.nd) ?_
    refine dss_one (ds_set 7 (de_ifG Dt.int (dt_cmp (de_v 8) (de_cmp (de_v 0) de_str od_way) od_eqB) (fun _ => de_bin de_int de_int od_sub) (fun _ => de_int)) ⟨.dat (.bl (nearM s.watch (nearW u n) n)), ?_⟩ sc__law_near.nd)
    unfold nearO
    rw [if_pos hk] <;> rfl
  · have hk : ¬ nearV u n = .k := by simpa using of_decide_eq_false hc
    refine dss_nil ⟨.un, ?_⟩
    unfold nearO
    rw [if_neg hk]
  rintro z ⟨a, rfl⟩
  exact dss_one (ds_retE (de_call (ok__law_met T) (hr.mono (by decide)) (da_cons (de_tp (ds := [.str "next"]) (da_cons de_str da_nil)) (da_cons (de_v 3) (da_cons (de_v 7) (da_cons (de_v 2) (da_cons (DE.eq (de_tp (ds := [_, _, _]) (da_cons (de_v 6) (da_cons (de_strSd .inn) (da_cons (de_v 4) da_nil)))) (d' := pgD (nearW u n, .inn, s.watch)) rfl) da_nil))))) ⟨_, _, _, _, _, rfl, rfl⟩) rfl)
end

end DL
/-! Lj -/
set_option Elab.async false
set_option linter.all false
set_option maxRecDepth 100000
set_option maxHeartbeats 4000000
namespace DL
open PySem PySem.Spec PyProof.Rows L2
local macro_rules | `(tactic| walk_at "od") => `(tactic| first | exact od_eqS | exact od_neS | exact od_inT | exact od_notInT | exact od_inL | exact od_notInL | exact od_eqB | exact od_neB)
local macro_rules | `(tactic| walk_at "len") => `(tactic| first | omega | (simp only [List.length_append, List.length_cons, List.length_nil, List.length_take, List.length_drop]; omega))
section
variable {P : Program} {w : World} {K : PySem.W.Frag} {mg : Str → Option Value} {base : Heap}
def TrN (h : Hs) (up : Bool) (d : Dt) : Prop := ∃ (rest : List Dt) (g b : Dt), d = .tup [.tup (.str "next" :: rest), g, b] ∧ (b = .non ∨ ∃ s, b = scD s ∧ Good h up s)
theorem TrN.l {h : Hs} {up : Bool} {d : Dt} (q : TrN h up d) : TrL h up d := let ⟨r, g, b, e, z⟩ := q; ⟨"next", r, g, b, e, z⟩
theorem TrF.n {h : Hs} {up : Bool} {d : Dt} (q : TrF h up d) : TrN h up d := let ⟨u, r, g, b, e, z⟩ := q; ⟨_, g, b, e, z⟩
theorem TrB.n {h : Hs} {up : Bool} {d : Dt} (q : TrB h up d) : TrN h up d := let ⟨r, g, s, e, z⟩ := q; ⟨_, g, _, e, Or.inr ⟨s, rfl, z⟩⟩
theorem TrN.ni {h : Hs} {up : Bool} {d : Dt} (q : TrN h up d) : notInt d = true := let ⟨_, _, _, e, _⟩ := q; by rw [e] <;> rfl
theorem TrL.ni {h : Hs} {up : Bool} {d : Dt} (q : TrL h up d) : notInt d = true := let ⟨_, _, _, _, e, _⟩ := q; by rw [e] <;> rfl
theorem Good.met {h : Hs} {up : Bool} {told : Bool} {o slot : Int} {p : Pg} (ho : o = -1 ∨ o = 0 ∨ o = 1) (h1 : p.2.1 ≠ .no) (h2 : p.2.2 ≠ .no) (h3 : fitsL up h.rows o p = true) : Good h up (metSc told o slot p) :=
  ⟨fun u hu => by
    have e : p.1 = u := Option.some.inj hu
    subst e
    exact ⟨h1, h2, h3⟩, (fun z => nomatch z), ho⟩
theorem metD_b {h : Hs} {up told : Bool} {o slot : Int} {p : Pg} {ev : List Dt} (g : Good h up (metSc told o slot p)) : ∃ gl b, metD ev told o slot p = .tup [.tup ev, gl, b] ∧ (b = .non ∨ ∃ s, b = scD s ∧ Good h up s) := by
  unfold metD
  split
  · exact ⟨_, _, rfl, Or.inl rfl⟩
  · exact ⟨_, _, rfl, Or.inr ⟨_, rfl, g⟩⟩
theorem farL_mem {h : Hs} {up told : Bool} {o : Int} {first : Bool} : ∀ d ∈ farL h up told o first, ∃ p : Pg, (p.2.1 ≠ .no ∧ p.2.2 ≠ .no ∧ fitsL up h.rows o p = true) ∧ d = metD [.str "next", wD p.1, .str (sdS p.2.2)] told o (spotI p.1 [.k, .b]) p := fun d hd => by
  obtain ⟨p, hp, hd⟩ := List.mem_flatMap.mp hd
  unfold farF at hd
  split at hd
  · exact ⟨p, fits_of_pages p hp, List.mem_singleton.mp hd⟩
  · cases hd
theorem farL_f {h : Hs} {up told : Bool} {o : Int} {first : Bool} (ho : o = -1 ∨ o = 0 ∨ o = 1) : ∀ d ∈ farL h up told o first, TrF h up d := fun d hd => by
  obtain ⟨p, ⟨h1, h2, h3⟩, e⟩ := farL_mem d hd
  obtain ⟨gl, b, e2, z⟩ := metD_b (ev := [.str "next", wD p.1, .str (sdS p.2.2)]) (Good.met (told := told) (slot := spotI p.1 [.k, .b]) ho h1 h2 h3)
  exact ⟨p.1, [.str (sdS p.2.2)], gl, b, by rw [e, e2], z⟩
theorem farL_b {h : Hs} {up : Bool} {o : Int} {first : Bool} (ho : o ≠ 1) (ho2 : o = -1 ∨ o = 0 ∨ o = 1) : ∀ d ∈ farL h up false o first, TrB h up d := fun d hd => by
  obtain ⟨p, ⟨h1, h2, h3⟩, e⟩ := farL_mem d hd
  refine ⟨[wD p.1, .str (sdS p.2.2)], .non, metSc false o (spotI p.1 [.k, .b]) p, ?_, Good.met ho2 h1 h2 h3⟩
  rw [e]
  unfold metD
  rw [if_neg]
  simp [ho]
theorem far_some : ∀ (up first : Bool) (m : Nat), m < 4 → m ≠ 0 → ((pagesL up m (-1) [.k, .x, .b]).any (farC up first)) = true := by decide +kernel
theorem farL_ne {h : Hs} (ho : HOk h) (up told first : Bool) : farL h up told (-1) first ≠ [] := by
  have h1 := far_some up first h.rows (by have := ho.r3; omega) (by have := ho.r1; omega)
  obtain ⟨p, hp, hc⟩ := List.any_eq_true.mp h1
  intro z
  have hm : metD [.str "next", wD p.1, .str (sdS p.2.2)] told (-1) (spotI p.1 [.k, .b]) p ∈ farL h up told (-1) first := List.mem_flatMap.mpr ⟨p, hp, by unfold farF; rw [if_pos hc]; simp⟩
  rw [z] at hm; cases hm
theorem swap_dx {c : Lt} (h : c ≠ .r) : swapL c = .d ∨ swapL c = .x := by cases c <;> first | exact Or.inl rfl | exact Or.inr rfl | exact absurd rfl h
theorem nearL_dx (u : List Lt) : ∀ c ∈ nearL u, c = .d ∨ c = .x := fun c hc => by
  obtain ⟨a, ha, rfl⟩ := List.mem_map.mp hc
  exact swap_dx (by simpa using (List.mem_filter.mp ha).2)
theorem filter_none {v : List Lt} {f : Lt → Bool} (h : ∀ c ∈ v, f c = false) : v.filter f = [] := List.filter_eq_nil_iff.mpr fun c hc => by rw [h c hc]; exact Bool.false_ne_true
theorem eyes_near : ∀ u : List Lt, (eyesL (nearL u)).length = (eyesL u).length
  | [] => rfl
  | c :: u => by
    have ih := eyes_near u
    unfold nearL rowsOf eyesL at ih ⊢
    cases c <;> simpa [swapL] using ih
theorem near_od (up : Bool) (v : Sd) (u : List Lt) (n : Nat) : nearO up v u n = -1 ∨ nearO up v u n = 0 ∨ nearO up v u n = 1 := by
  unfold nearO
  split
  · split
    · exact Or.inl rfl
    · exact Or.inr (Or.inr rfl)
  · exact Or.inr (Or.inl rfl)
theorem near_fits {up : Bool} {m : Nat} {o : Int} {u : List Lt} {k v : Sd} {n : Nat} (hf : fitsL up m o (u, k, v) = true) (hv : v ≠ .no) (hn : n < (rowsOf u).length) : fitsL up m (nearO up v u n) (nearW u n, .inn, v) = true := by
  obtain ⟨b1, b2, b3⟩ := fits_base hf
  have hnl : n < (nearL u).length := by unfold nearL; rw [List.length_map]; exact hn
  have hdx := nearL_dx u
  have hw : nearW u n = (nearL u).take n ++ nearV u n :: (nearL u).drop (n + 1) := by
    unfold nearW
    rw [List.set_eq_take_append_cons_drop, if_pos hnl]
  have hsp : nearL u = (nearL u).take n ++ (nearL u)[n] :: (nearL u).drop (n + 1) := by
    rw [List.getElem_cons_drop, List.take_append_drop]
  have hget : (nearL u).getD n .d = (nearL u)[n] := by rw [List.getD_eq_getElem?_getD, List.getElem?_eq_getElem hnl]; rfl
  have hA : ∀ c ∈ (nearL u).take n, c = .d ∨ c = .x := fun c hc => hdx c (List.mem_of_mem_take hc)
  have hB : ∀ c ∈ (nearL u).drop (n + 1), c = .d ∨ c = .x := fun c hc => hdx c (List.mem_of_mem_drop hc)
  have hC : (nearL u)[n] = .d ∨ (nearL u)[n] = .x := hdx _ (List.getElem_mem hnl)
  have hV : nearV u n = if (nearL u)[n] = .x then .b else .k := by
    unfold nearV
    rw [hget]
    simp
  have hTL : ((nearL u).take n).length = n := by rw [List.length_take]; omega
  have heye := eyes_near u
  generalize hc : (nearL u)[n] = c at hsp hC hV
  generalize hAe : (nearL u).take n = A at *
  generalize hBe : (nearL u).drop (n + 1) = B at *
  generalize hVe : nearV u n = V at *
  have kA : ∀ {D : List Lt}, (∀ c ∈ D, c = .d ∨ c = .x) → keysL D = [] := fun {D} h => filter_none fun c hc => by rcases h c hc with e | e <;> rw [e] <;> rfl
  have rA : ∀ {D : List Lt}, (∀ c ∈ D, c = .d ∨ c = .x) → rowsOf D = D := fun {D} h => List.filter_eq_self.mpr fun c hc => by rcases h c hc with e | e <;> rw [e] <;> rfl
  have hVbk : V = .b ∨ V = .k := by rw [hV]; split <;> first | exact Or.inl rfl | exact Or.inr rfl
  have hkeys : keysL (nearW u n) = [V] := by
    rw [hw]
    unfold keysL
    rw [List.filter_append, List.filter_cons]
    have e1 := kA hA
    have e2 := kA hB
    unfold keysL at e1 e2
    rw [e1, e2]
    rcases hVbk with e | e <;> rw [e] <;> rfl
  have hrows : (rowsOf (nearW u n)).length = (rowsOf u).length := by
    have e : rowsOf (nearW u n) = nearW u n := by
      rw [hw]
      unfold rowsOf
      rw [List.filter_append, List.filter_cons]
      have e1 := rA hA
      have e2 := rA hB
      unfold rowsOf at e1 e2
      rw [e1, e2]
      rcases hVbk with e | e <;> rw [e] <;> rfl
    rw [e]
    unfold nearW nearL
    rw [List.length_set, List.length_map]
  have heyeW : (eyesL (nearW u n)).length = inI v := by
    rw [← b3, ← heye, hsp, hw]
    unfold eyesL
    rw [List.filter_append, List.filter_append, List.length_append, List.length_append, List.filter_cons, List.filter_cons]
    rcases hC with e | e
    · rw [e] at hV ⊢
      rw [hV]
      rfl
    · rw [e] at hV ⊢
      rw [hV]
      rfl
  unfold fitsL
  rw [if_neg (by
    show ¬ (m < (rowsOf (nearW u n)).length ∨ (keysL (nearW u n)).length ≠ inI .inn ∨ (eyesL (nearW u n)).length ≠ inI v)
    rw [hrows, hkeys, heyeW]
    rintro (z | z | z)
    · omega
    · exact z rfl
    · exact z rfl)]
  have hOv : nearO up v u n = if V = .k then (if nearM v (nearW u n) n == up then -1 else 1) else 0 := by unfold nearO; rw [hVe]
  rcases hVbk with e | e
  · -- the watched row is told
    have ho0 : nearO up v u n = 0 := by rw [hOv, e]; rfl
    have hcx : c = .x := by
      rcases hC with q | q
      · rw [q, e] at hV; cases hV
      · exact q
    have hin : v = .inn := by
      have h1 : 1 ≤ (eyesL (nearW u n)).length := by
        have : Lt.b ∈ eyesL (nearW u n) := List.mem_filter.mpr ⟨by rw [hw, e]; simp, rfl⟩
        exact List.length_pos_of_mem this
      rw [heyeW] at h1
      unfold inI at h1
      split at h1
      · assumption
      · omega
    rw [if_pos ho0]
    show (decide (Sd.inn = v) && decide (keysL (nearW u n) = eyesL (nearW u n))) = true
    have heq : eyesL (nearW u n) = [.b] := by
      have h1 : (eyesL (nearW u n)).length = 1 := by rw [heyeW, hin]; rfl
      have hm : Lt.b ∈ eyesL (nearW u n) := List.mem_filter.mpr ⟨by rw [hw, e]; simp, rfl⟩
      match hq : eyesL (nearW u n), h1, hm with
      | [a], _, hm => rw [List.mem_singleton.mp hm]
    rw [hkeys, heq, hin, e]
    rfl
  · have hcd : c = .d := by
      rcases hC with q | q
      · exact q
      · rw [q, e] at hV; cases hV
    have ho1 : nearO up v u n = if nearM v (nearW u n) n == up then -1 else 1 := by rw [hOv, if_pos e]
    have hne : ¬ nearO up v u n = 0 := by rw [ho1]; split <;> omega
    rw [if_neg hne]
    have hnb : ¬ Lt.b ∈ nearW u n := by
      rw [hw, e]
      intro z
      rcases List.mem_append.mp z with z | z
      · rcases hA _ z with q | q <;> cases q
      · rcases List.mem_cons.mp z with z | z
        · cases z
        · rcases hB _ z with q | q <;> cases q
    rw [if_neg hnb]
    have hsign : decide (nearO up v u n < 0) = (nearM v (nearW u n) n == up) := by
      rw [ho1]
      by_cases q : (nearM v (nearW u n) n == up) = true
      · rw [if_pos q, q]; rfl
      · rw [if_neg q]
        have : (nearM v (nearW u n) n == up) = false := by simpa using q
        rw [this]; rfl
    have hcan : ((nearM v (nearW u n) n == up) == up) = nearM v (nearW u n) n := by cases nearM v (nearW u n) n <;> cases up <;> rfl
    by_cases hin : v = .inn
    · rw [if_pos ⟨rfl, hin⟩]
      show (!decide (spotI (nearW u n) [.k, .r] = spotI (nearW u n) [.x]) && (decide (spotI (nearW u n) [.k, .r] < spotI (nearW u n) [.x]) == (decide (nearO up v u n < 0) == up))) = true
      have hspk : spotI (nearW u n) [.k, .r] = (n : Int) := by
        unfold spotI place
        rw [hw, List.findIdx?_append]
        have e1 : A.findIdx? (fun c => decide (c ∈ [Lt.k, .r])) = none := List.findIdx?_eq_none_iff.mpr fun c hc => by rcases hA c hc with q | q <;> rw [q] <;> rfl
        rw [e1, e, List.findIdx?_cons, hTL]
        simp
      have hspx : spotI (nearW u n) [.x] ≠ (n : Int) := by
        unfold spotI place
        cases hp : (nearW u n).findIdx? (fun c => decide (c ∈ [Lt.x])) with
        | none => show (-1 : Int) ≠ n; omega
        | some j =>
          show (j : Int) ≠ n
          intro z
          have hj : j = n := by omega
          subst hj
          obtain ⟨h1, h2, _⟩ := List.findIdx?_eq_some_iff_getElem.mp hp
          have h3 : (nearW u j)[j]? = some V := by
            unfold nearW
            rw [List.getElem?_set_self hnl, hVe]
          rw [List.getElem?_eq_getElem h1] at h3
          rw [Option.some.inj h3, e] at h2
          cases h2
      rw [hsign, hcan, hspk]
      unfold nearM
      rw [hin]
      have hd : decide ((n : Int) = spotI (nearW u n) [.x]) = false := decide_eq_false fun z => hspx z.symm
      rw [hd]
      simp
    · rw [if_neg (fun z => hin z.2)]
      show (decide (Sd.inn = v) && !decide (Sd.inn = .inn) || !decide (sdN .inn = sdN v) && (decide (sdN .inn < sdN v) == (decide (nearO up v u n < 0) == up))) = true
      rw [hsign, hcan]
      unfold nearM
      cases v with
      | no => exact absurd rfl hv
      | inn => exact absurd rfl hin
      | left => rfl
      | right => rfl
end

end DL
/-! Lk -/
set_option Elab.async false
set_option linter.all false
set_option maxRecDepth 100000
set_option maxHeartbeats 4000000
namespace DL
open PySem PySem.Spec PyProof.Rows L2
local macro_rules | `(tactic| walk_at "od") => `(tactic| first | exact od_eqS | exact od_neS | exact od_inT | exact od_notInT | exact od_inL | exact od_notInL | exact od_eqB | exact od_neB)
local macro_rules | `(tactic| walk_at "len") => `(tactic| first | omega | (simp only [List.length_append, List.length_cons, List.length_nil, List.length_take, List.length_drop]; omega))
section
variable {P : Program} {w : World} {K : PySem.W.Frag} {mg : Str → Option Value} {base : Heap}
theorem det_if {X : Cx} {ρ : List Sl} {a b c : Expr} {pos : Pos} {p : Bool} {d : Dt} (hc : DT X c ρ p) (ha : p = true → DET X a ρ d) (hb : p = false → DET X b ρ d) : DET X (.IfExp c a b pos) ρ d := fun Hs H σ E Q q => fun pins s h0 I => by
  refine wpAny_IfExp (wpAny_mono (PySem.wpAny_toks (hc Hs H σ E (fun k H' => k = p ∧ ∃ Hs', Step Hs H Hs' H') (fun k Hs' H' t e => ⟨e, Hs', t⟩) pins s I)) (fun k s1 ⟨hk, H1, I1, e, Hs1, t⟩ => ?_) fun _ _ z => z.2)
  subst e
  cases k with
  | true => exact ha rfl Hs1 H1 σ (E.step t) Q (fun v Hs' H' t2 p2 => q v Hs' H' (t.trans t2) p2) pins s1 (Nat.le_trans h0 hk) I1
  | false => exact hb rfl Hs1 H1 σ (E.step t) Q (fun v Hs' H' t2 p2 => q v Hs' H' (t.trans t2) p2) pins s1 (Nat.le_trans h0 hk) I1
def LsOk (Tr : Dt → Prop) (n : Nat) (l : List Dt) : Prop := l ≠ [] ∧ l.length ≤ n ∧ ∀ t ∈ l, Tr t
theorem LsOk.one {Tr : Dt → Prop} {n : Nat} {t : Dt} (h : Tr t) : LsOk Tr (n + 1) [t] := ⟨(fun z => by cases z), by rw [List.length_singleton]; omega, fun x hx => by rw [List.mem_singleton.mp hx]; exact h⟩
abbrev begD : Dt := .tup []
theorem Good.aok {h : Hs} {up : Bool} {s : Sc} (g : Good h up s) (ho : HOk h) : AOk s := by
  refine ⟨fun u hu => by have := g.len ho hu; omega, fun hk => ?_⟩
  cases hw : s.word with
  | none => have := (g.no hw).1; rw [hk] at this; cases this
  | some u =>
    refine ⟨u, rfl, ?_⟩
    obtain ⟨_, h2, _⟩ := fits_base (g.pg u hw).2.2
    rw [hk] at h2
    have h3 : 0 < (keysL u).length := by rw [h2]; exact Nat.le_refl 1
    obtain ⟨c, hc⟩ := List.exists_mem_of_length_pos h3
    obtain ⟨h4, h5⟩ := List.mem_filter.mp hc
    exact place_some h4 (of_decide_eq_true h5)
def S_lsteps0 : List Sl → (List Dt → Prop) → Prop := fun as R => ∃ (h : Hs) (up : Bool) (rs : List Rw), as = [.dat (hdD h), .dat (.str (wayS up)), .dat (lnsD rs), .dat begD, .dat W4L] ∧ HOk h ∧ LnOk rs ∧ R = LsOk (TrB h up) 31250
def S_lsteps : List Sl → (List Dt → Prop) → Prop := fun as R => ∃ (h : Hs) (up : Bool) (rs : List Rw) (s : Sc), as = [.dat (hdD h), .dat (.str (wayS up)), .dat (lnsD rs), .dat (scD s), .dat W4L] ∧ HOk h ∧ LnOk rs ∧ Good h up s ∧ R = LsOk (TrN h up) 31250
theorem ok__law_steps0 (T : Top w K mg) : FnL P w K mg base "_law_steps" 5 P__law_steps S_lsteps0 := by
  refine FnL.mk1 (st := s__law_steps) T 62 rfl T.g__law_steps (fun fd F => fn_oneL F sc__law_steps ?_) (fun _ _ _ _ _ _ us hl => match us, hl with | [_, _, _, _, _], _ => rfl)
  rintro as R ⟨h, up, rs, rfl, ho, hrs, rfl⟩
  refine ⟨⟨rfl, by simp [isMut]⟩, fun cdv A outer s' H S0 E hr => ?_⟩
  refine dss_ifr (dt_cmp (de_v 3) (de_tp (ds := []) da_nil) (od_eqTnil (ds := []) (room64 hr) (fun _ h => by cases h))) (fun _ => ?_) (fun hc => by cases hc)
  have l1 := farL_len ho up false 0 true
  have l2 := farL_len ho up false (-1) true
  refine dss_one (ds_retL (dl_cat (RA := fun l => l = farL h up false 0 true) (RB := fun l => l = farL h up false (-1) true) (DL.fz (dl_call1 (ok__law_far T) hr (da_cons (de_v 0) (da_cons (de_v 1) (da_cons de_bl (da_cons de_int (da_cons de_bl da_nil))))) ⟨_, _, _, _, _, rfl, ho, rfl⟩)) (DL.fz (dl_call1 (ok__law_far T) hr (da_cons (de_v 0) (da_cons (de_v 1) (da_cons de_bl (da_cons (DE.eq (de_bin de_int de_int od_sub) (d' := .int (-1)) rfl) (da_cons de_bl da_nil))))) ⟨_, _, _, _, _, rfl, ho, rfl⟩)) (fun x y hx hy => ⟨by rw [hx, hy, sizeLine_eq]; omega, _, rfl, ?_, ?_, fun t ht => ?_⟩)))
  · rw [hy]
    intro z
    exact farL_ne ho up false true (List.append_eq_nil_iff.mp z).2
  · rw [hx, hy, List.length_append]; omega
  · rw [hx, hy] at ht
    rcases List.mem_append.mp ht with q | q
    · exact farL_b (by decide) (by decide) t q
    · exact farL_b (by decide) (by decide) t q
theorem ok__law_steps (T : Top w K mg) : FnL P w K mg base "_law_steps" 5 P__law_steps S_lsteps := by
  refine FnL.mk1 (st := s__law_steps) T 62 rfl T.g__law_steps (fun fd F => fn_oneL F sc__law_steps ?_) (fun _ _ _ _ _ _ us hl => match us, hl with | [_, _, _, _, _], _ => rfl)
  rintro as R ⟨h, up, rs, s, rfl, ho, hrs, hg, rfl⟩
  refine ⟨⟨rfl, by simp [isMut]⟩, fun cdv A outer s' H S0 E hr => ?_⟩
  have haok := hg.aok ho
  refine dss_ifr (dt_cmp (de_v 3) (de_tp (ds := []) da_nil) (od_eqTnil (ds := scL s) (room64 hr) (sc_plain s))) (fun hc => by cases hc) (fun _ => ?_)
  refine dss_cons (M := fun z => ∃ d, z = [.dat (hdD h), .dat (.str (wayS up)), .dat (lnsD rs), .dat (scD s), .dat W4L, .dat d, .un, .un, .un, .un, .un, .un, .un, .un, .un] ∧ AimR s d) (ds_setR 5 (dr_call1 (ok__law_aim T) hr (da_cons (de_v 1) (da_cons (de_v 2) (da_cons (de_v 3) (da_cons (de_v 4) da_nil)))) ⟨_, _, _, rfl, haok, hrs, rfl⟩) (fun d hd => ⟨d, rfl, hd⟩) sc__law_steps.nd) ?_
  rintro z ⟨d, rfl, hd⟩
  rcases hd with rfl | ⟨i, z, rfl, hz⟩
  · refine dss_ifr (dt_cmp (de_v 5) de_non od_isN) (fun _ => ?_) (fun hc => by cases hc)
    refine dss_one (ds_retL (DL.mono (dl_ls (ds := [.tup [.tup [.str "next"], .str "halted", .non]]) (da_cons (de_tp (ds := [_, _, _]) (da_cons (de_tp (ds := [_]) (da_cons de_str da_nil)) (da_cons de_str (da_cons de_non da_nil)))) da_nil)) fun l e => ⟨l, rfl, ?_⟩))
    rw [e]
    exact LsOk.one ⟨_, _, _, rfl, Or.inl rfl⟩
  refine dss_ifr (dt_cmp (de_v 5) de_non od_isN) (fun hc => by cases hc) (fun _ => ?_)
  have rest : ∀ (wh : Str) (nu : Dt) (bb : Bool), decide (wh = "row") = false → decide (wh = "next") = bb → ∀ sts, sts = (defBody s__law_steps).drop 4 → DSs (cxOf CX0 P w K mg base N__law_steps "_law_steps" (defScope s__law_steps) (He.ga K "_law_steps") cdv A outer s' H E).nox S0 H sts [.dat (hdD h), .dat (.str (wayS up)), .dat (lnsD rs), .dat (scD s), .dat W4L, .dat (.tup [.int i, z]), .dat (.str wh), .dat nu, .un, .un, .un, .un, .un, .un, .un] { nx := fun _ => False, rt := fun d => ∃ ds, d = .lst ds ∧ LsOk (TrN h up) 31250 ds, fr := true } := fun wh nu bb hrow hbb sts esl => by
    subst esl
    refine dss_ifU (k := false) (de_v 6) (OD.eqk od_eqS hrow) (fun hc => by cases hc) (fun _ => ?_)
    refine dsst_then (ρ1 := [.dat (hdD h), .dat (.str (wayS up)), .dat (lnsD rs), .dat (scD s), .dat W4L, .dat (.tup [.int i, z]), .dat (.str wh), .dat nu, .dat (.bl s.told), .dat (.bl bb), .un, .un, .un, .un, .un]) (ds_par 8 9 (da_cons (de_sc (n := 0) (de_v 3)) (da_cons (DE.eq (de_cmp (de_v 6) de_str od_eqS) (congrArg Dt.bl hbb)) da_nil)) (fun as e => ⟨_, _, e, rfl⟩) sc__law_steps.nd) ?_
    refine dsst_cons (M := fun z' => ∃ ah : Bool, z' = [.dat (hdD h), .dat (.str (wayS up)), .dat (lnsD rs), .dat (scD s), .dat W4L, .dat (.tup [.int i, z]), .dat (.str wh), .dat nu, .dat (.bl s.told), .dat (.bl bb), .dat (.bl ah), .un, .un, .un, .un]) (ds_set 10 (de_ifG Dt.bl (dt_val (de_v 9)) (fun _ => de_cmp (de_sc (n := 7) (de_v 3)) (de_ifG (fun k => Dt.str (sdS k)) (dt_cmp (de_v 1) de_str od_way) (fun _ => de_strSd .right) (fun _ => de_strSd .left)) od_eqSd) (fun _ => de_cmp (de_sc (n := 1) (de_v 3)) (de_bin de_int de_int od_sub) od_eqI)) ⟨_, rfl⟩ sc__law_steps.nd) ?_
    rintro z' ⟨ah, rfl⟩
    refine dsst_ifr (dt_not (dt_val (de_v 10))) (fun _ => ?_) (fun _ => ?_)
    · refine dss_cons (M := fun z' => ∃ g : Dt, z' = [.dat (hdD h), .dat (.str (wayS up)), .dat (lnsD rs), .dat (scD s), .dat W4L, .dat (.tup [.int i, z]), .dat (.str wh), .dat nu, .dat (.bl s.told), .dat (.bl bb), .dat (.bl ah), .dat (.tup [.tup [.str "next", .str "over"], g, .non]), .un, .un, .un]) (ds_set 11 (de_tp (ds := [_, _, _]) (da_cons (de_tp (ds := [_, _]) (da_cons de_str (da_cons de_str da_nil))) (da_cons (de_if (dt_val (de_v 8)) (fun _ => de_non) (fun _ => de_str)) (da_cons de_non da_nil)))) ⟨_, rfl⟩ sc__law_steps.nd) ?_
      rintro z' ⟨g, rfl⟩
      have l1 := farL_len ho up s.told 1 bb
      refine dss_one (ds_retL (dl_cat (RA := fun l => l = farL h up s.told 1 bb) (RB := fun l => l = [.tup [.tup [.str "next", .str "over"], g, .non]]) (DL.fz (dl_call1 (ok__law_far T) hr (da_cons (de_v 0) (da_cons (de_v 1) (da_cons (de_v 8) (da_cons de_int (da_cons (de_v 9) da_nil))))) ⟨_, _, _, _, _, rfl, ho, rfl⟩)) (DL.fz (dl_ls (ds := [_]) (da_cons (de_v 11) da_nil))) (fun x y hx hy => ⟨by rw [hx, hy, List.length_singleton, sizeLine_eq]; omega, _, rfl, ?_, ?_, fun t ht => ?_⟩)))
      · rw [hy]
        intro z
        cases (List.append_eq_nil_iff.mp z).2
      · rw [hx, hy, List.length_append, List.length_singleton]; omega
      · rw [hx, hy] at ht
        rcases List.mem_append.mp ht with q | q
        · exact (farL_f (by decide) t q).n
        · rw [List.mem_singleton.mp q]; exact ⟨_, _, _, rfl, Or.inl rfl⟩
    have l1 := farL_len ho up s.told (-1) bb
    have l2 := farL_len ho up s.told 0 bb
    refine dsst_cons (M := fun z' => z' = [.dat (hdD h), .dat (.str (wayS up)), .dat (lnsD rs), .dat (scD s), .dat W4L, .dat (.tup [.int i, z]), .dat (.str wh), .dat nu, .dat (.bl s.told), .dat (.bl bb), .dat (.bl ah), .un, .ml (farL h up s.told (-1) bb), .un, .un]) (ds_setL 12 (dl_call1 (ok__law_far T) hr (da_cons (de_v 0) (da_cons (de_v 1) (da_cons (de_v 8) (da_cons (DE.eq (de_bin de_int de_int od_sub) (d' := .int (-1)) rfl) (da_cons (de_v 9) da_nil))))) ⟨_, _, _, _, _, rfl, ho, rfl⟩) (fun l e => ⟨by rw [e]; exact List.all_eq_true.mpr fun t ht => (farL_f (by decide) t ht).n.ni, by rw [e] <;> rfl⟩) sc__law_steps.nd) ?_
    rintro z' rfl
    obtain ⟨mine, hmine⟩ : ∃ mine : List Lt, DET (cxOf CX0 P w K mg base N__law_steps "_law_steps" (defScope s__law_steps) (He.ga K "_law_steps") cdv A outer s' H E).nox (match (defBody s__law_steps).getD 9 (.Pass ⟨0, 0, 0, 0⟩) with | .Assign _ e _ => e | _ => .Name "" ⟨0, 0, 0, 0⟩) [.dat (hdD h), .dat (.str (wayS up)), .dat (lnsD rs), .dat (scD s), .dat W4L, .dat (.tup [.int i, z]), .dat (.str wh), .dat nu, .dat (.bl s.told), .dat (.bl bb), .dat (.bl ah), .un, .ml (farL h up s.told (-1) bb), .un, .un] (wD mine) := by
      cases hw : s.word with
      | none => exact ⟨[], det_if (p := true) (dt_cmp (de_scn (de_v 3) hw) de_non od_isN) (fun _ => det_of (de_strW [])) (fun hc => by cases hc)⟩
      | some u =>
        have hul := hg.len ho hw
        have hrl := rows_le u
        have ex : ("x" : Str) = enc [.x] := by decide +kernel
        have eb : ("b" : Str) = enc [.b] := by decide +kernel
        have l1 : (("b" : Str)).length = 1 := by decide +kernel
        have e2 : Txt.replace (enc (rowsOf u)) "x" "b" = enc (subst1 .x .b (rowsOf u)) := by rw [ex, eb, replace_sub]
        refine ⟨subst1 .x .b (rowsOf u), det_if (p := false) (dt_cmp (de_scw (de_v 3) hw) de_non od_isN) (fun hc => by cases hc) (fun _ => ?_)⟩
        show DET _ _ _ (.str (enc (subst1 .x .b (rowsOf u))))
        rw [← e2]
        exact det_rep (det_of (de_joinL (DL.fzE (dl_call1 (ok__law_rows_in T) (hr.mono (by decide)) (da_cons (de_scw (de_v 3) hw) da_nil) ⟨_, rfl, by omega, rfl⟩)) (by omega))) (by rw [enc_len, l1]; omega)
    refine dsst_set 13 hmine ?_ sc__law_steps.nd
    refine dss_cons (M := fun z' => ∃ l : List Dt, LsOk (TrN h up) 31250 l ∧ z' = [.dat (hdD h), .dat (.str (wayS up)), .dat (lnsD rs), .dat (scD s), .dat W4L, .dat (.tup [.int i, z]), .dat (.str wh), .dat nu, .dat (.bl s.told), .dat (.bl bb), .dat (.bl ah), .un, .ml l, .dat (wD mine), .un]) (ds_for (di_list (RL := fun l => l = farL h up s.told 0 bb) (DL.fz (dl_call1 (ok__law_far T) hr (da_cons (de_v 0) (da_cons (de_v 1) (da_cons (de_v 8) (da_cons de_int (da_cons (de_v 9) da_nil))))) ⟨_, _, _, _, _, rfl, ho, rfl⟩))) fun ds hds => ⟨fun j z' => ∃ l : List Dt, l ≠ [] ∧ l.length ≤ 15624 + j ∧ (∀ t ∈ l, TrN h up t) ∧ z' = [.dat (hdD h), .dat (.str (wayS up)), .dat (lnsD rs), .dat (scD s), .dat W4L, .dat (.tup [.int i, z]), .dat (.str wh), .dat nu, .dat (.bl s.told), .dat (.bl bb), .dat (.bl ah), .un, .ml l, .dat (wD mine), .un], ⟨_, ⟨farL h up s.told (-1) bb, farL_ne ho _ _ _, by omega, fun t ht => (farL_f (by decide) t ht).n, rfl⟩, Wk.refl _⟩, ?_, ?_⟩) ?_
    · rintro j d ρj hd ⟨l, hne, hll, hl, rfl⟩
      subst hds
      have hjl : j < (farL h up s.told 0 bb).length := (List.getElem?_eq_some_iff.mp hd).1
      have hdf := farL_f (by decide) d (List.mem_of_getElem? hd)
      have hdn := hdf.n
      obtain ⟨v, rest, g, b, rfl, _⟩ := hdf
      have hni : l.all notInt = true := List.all_eq_true.mpr fun t ht => (hl t ht).ni
      refine ⟨[14], dg_name 14 ?_ sc__law_steps.nd⟩
      have wk : ∀ l : List Dt, Wk [.dat (hdD h), .dat (.str (wayS up)), .dat (lnsD rs), .dat (scD s), .dat W4L, .dat (.tup [.int i, z]), .dat (.str wh), .dat nu, .dat (.bl s.told), .dat (.bl bb), .dat (.bl ah), .un, .ml l, .dat (wD mine), .un] [.dat (hdD h), .dat (.str (wayS up)), .dat (lnsD rs), .dat (scD s), .dat W4L, .dat (.tup [.int i, z]), .dat (.str wh), .dat nu, .dat (.bl s.told), .dat (.bl bb), .dat (.bl ah), .un, .ml l, .dat (wD mine), .dat (.tup [.tup (.str "next" :: .str (enc v) :: rest), g, b])] := fun l => .eq (.eq (.eq (.eq (.eq (.eq (.eq (.eq (.eq (.eq (.eq (.eq (.eq (.eq (.un .nil))))))))))))))
      refine dss_one (ds_ifT (DW.q (wt_or (dt_val (de_v 9)) fun _ => (wt_or (dt_cmp (de_sc (n := 7) (de_v 3)) (de_strSd .inn) od_neSd) fun _ => (wt_or1 (dt_cmp (de_ix (de_ix (de_v 14) de_int (id_tup 0)) de_int (id_tup 1)) (de_v 13) od_eqW))))) (fun _ => ?_) (fun _ => dss_nil ⟨_, ⟨l, hne, by omega, hl, rfl⟩, wk l⟩))
      refine dss_one (ds_append 12 (de_v 14) (fun d e => ⟨by rw [e] <;> rfl, _, ⟨l ++ [.tup [.tup (.str "next" :: .str (enc v) :: rest), g, b]], (fun z => by cases (List.append_eq_nil_iff.mp z).2), by rw [List.length_append, List.length_singleton]; omega, fun t ht => ?_, rfl⟩, by rw [e]; exact wk _⟩) (by omega) hni)
      rcases List.mem_append.mp ht with q | q
      · exact hl t q
      · rw [List.mem_singleton.mp q]; exact hdn
    · rintro z' ⟨l, hne, hll, hl, rfl⟩
      subst hds
      exact ⟨l, ⟨hne, by omega, hl⟩, rfl⟩
    rintro z' ⟨l, hl, rfl⟩
    exact dss_one (ds_retml 12 ⟨l, rfl, hl⟩)
  rcases hz with rfl | rfl | ⟨u, n, hu, hn, rfl⟩
  · refine dss_then (ρ1 := [.dat (hdD h), .dat (.str (wayS up)), .dat (lnsD rs), .dat (scD s), .dat W4L, .dat (.tup [.int i, beyD]), .dat (.str "beyond"), .dat (.str ""), .un, .un, .un, .un, .un, .un, .un]) (ds_asg (d := beyD) (de_ix (de_v 5) de_int (id_tup 1)) (dg2 6 7 rfl sc__law_steps.nd)) ?_
    exact rest _ _ false (by decide +kernel) (by decide +kernel) _ (by kernel_rfl)
  · refine dss_then (ρ1 := [.dat (hdD h), .dat (.str (wayS up)), .dat (lnsD rs), .dat (scD s), .dat W4L, .dat (.tup [.int i, ledD none]), .dat (.str "next"), .dat (.str ""), .un, .un, .un, .un, .un, .un, .un]) (ds_asg (d := ledD none) (de_ix (de_v 5) de_int (id_tup 1)) (dg2 6 7 rfl sc__law_steps.nd)) ?_
    exact rest _ _ true (by decide +kernel) (by decide +kernel) _ (by kernel_rfl)
  · refine dss_then (ρ1 := [.dat (hdD h), .dat (.str (wayS up)), .dat (lnsD rs), .dat (scD s), .dat W4L, .dat (.tup [.int i, ledD (some n)]), .dat (.str "row"), .dat (.int (n : Int)), .un, .un, .un, .un, .un, .un, .un]) (ds_asg (d := ledD (some n)) (de_ix (de_v 5) de_int (id_tup 1)) (dg2 6 7 rfl sc__law_steps.nd)) ?_
    refine dss_ifr (DT.eq (dt_cmp (de_v 6) de_str od_eqS) (d' := true) (by decide +kernel)) (fun _ => ?_) (fun hc => by cases hc)
    have hul := hg.len ho hu
    obtain ⟨q1, q2, q3⟩ := hg.pg u hu
    obtain ⟨gl, b, e2, z2⟩ := metD_b (ev := [.str "next"]) (Good.met (told := s.told) (slot := (n : Int)) (p := (nearW u n, .inn, s.watch)) (near_od _ _ _ _) (fun z => nomatch z) q2 (near_fits q3 q2 hn))
    refine dss_one (ds_retL (DL.mono (dl_ls (ds := [_]) (da_cons (de_call (ok__law_near T) hr (da_cons (de_v 1) (da_cons (de_v 3) (da_cons (de_v 7) da_nil))) ⟨_, _, u, n, rfl, hu, by omega, hn, rfl⟩) da_nil)) fun l e => ⟨l, rfl, ?_⟩))
    rw [e, e2]
    exact LsOk.one ⟨_, _, _, rfl, z2⟩
end

end DL
/-! Ll -/
set_option Elab.async false
set_option linter.all false
set_option maxRecDepth 100000
set_option maxHeartbeats 4000000
namespace DL
open PySem PySem.Spec PyProof.Rows L2
local macro_rules | `(tactic| walk_at "od") => `(tactic| first | exact od_eqS | exact od_neS | exact od_inT | exact od_notInT | exact od_inL | exact od_notInL | exact od_eqB | exact od_neB)
local macro_rules | `(tactic| walk_at "len") => `(tactic| first | omega | (simp only [List.length_append, List.length_cons, List.length_nil, List.length_take, List.length_drop]; omega))
section
variable {P : Program} {w : World} {K : PySem.W.Frag} {mg : Str → Option Value} {base : Heap}
def S_lnexts0 : List Sl → (List Dt → Prop) → Prop := fun as R => ∃ (h : Hs) (up : Bool) (rs : List Rw), as = [.dat (hdD h), .dat (.str (wayS up)), .dat (lnsD rs), .dat begD, .dat W4L] ∧ HOk h ∧ LnOk rs ∧ R = LsOk (TrB h up) 31250
theorem ok__law_nexts0 (T : Top w K mg) : FnL P w K mg base "_law_nexts" 6 P__law_nexts S_lnexts0 := by
  refine FnL.mk1 (st := s__law_nexts) T 63 rfl T.g__law_nexts (fun fd F => fn_oneL F sc__law_nexts ?_) (fun _ _ _ _ _ _ us hl => match us, hl with | [_, _, _, _, _], _ => rfl)
  rintro as R ⟨h, up, rs, rfl, ho, hrs, rfl⟩
  refine ⟨⟨rfl, by simp [isMut]⟩, fun cdv A outer s' H S0 E hr => ?_⟩
  refine dss_cons (M := fun z => ∃ l : List Dt, LsOk (TrB h up) 31250 l ∧ z = [.dat (hdD h), .dat (.str (wayS up)), .dat (lnsD rs), .dat begD, .dat W4L, .dat (.lst l), .un, .un, .un]) (ds_setR 5 (DL.fz (dl_call1 (ok__law_steps0 T) hr (da_cons (de_v 0) (da_cons (de_v 1) (da_cons (de_v 2) (da_cons (de_v 3) (da_cons (de_v 4) da_nil))))) ⟨_, _, _, rfl, ho, hrs, rfl⟩)) (fun d ⟨l, e, hl⟩ => ⟨l, hl, by rw [e] <;> rfl⟩) sc__law_nexts.nd) ?_
  rintro z ⟨l, ⟨hne, hll, hl⟩, rfl⟩
  refine dss_one (ds_retL (dl_cat (RA := fun x => x = l) (RB := fun x => x = []) (DR.mono (de_v 5) fun d e => ⟨_, e, rfl⟩) (DL.fz (DL.mono (dl_lc (own := [(".0", 6), ("_law_event", 7), ("_law_behind_here", 8)]) (di_list (RL := fun z => z = ([] : List Dt).map fun d => d) (DL.fz (dl_if (dt_cmp (de_v 3) (de_tp (ds := []) da_nil) (od_neTnil (ds := []) (room64 hr) (fun _ h => by cases h))) (fun hc => by cases hc) (fun _ => DL.mono (dl_ls (ds := []) da_nil) fun l e => by rw [e] <;> rfl))))
    (lc_all ([] : List Dt) (fun d => d) (fun d => d) (by decide) (fun _ h => by cases h) (fun _ => []) (L := []) (by simp) (fun a ha => by cases ha) (fun a ha => by cases ha)) sc__law_nexts.nd (blkOk_by (show blkC N__law_nexts (defScope s__law_nexts) _ _ = true by decide +kernel))) fun l e => by rw [e] <;> rfl)) (fun x y hx hy => ⟨?_, _, rfl, ?_⟩)))
  · rw [hx, hy, List.length_nil, sizeLine_eq]; omega
  · rw [hx, hy, List.append_nil]; exact ⟨hne, hll, hl⟩
structure NxOk (h : Hs) (up : Bool) (l : List Dt) : Prop where
  some : ∃ t ∈ l, TrN h up t
  len : l.length ≤ 93750
  all : ∀ t ∈ l, TrL h up t
def S_lnexts : List Sl → (List Dt → Prop) → Prop := fun as R => ∃ (h : Hs) (up : Bool) (rs : List Rw) (s : Sc), as = [.dat (hdD h), .dat (.str (wayS up)), .dat (lnsD rs), .dat (scD s), .dat W4L] ∧ HOk h ∧ LnOk rs ∧ Good h up s ∧ R = NxOk h up
theorem ok__law_nexts (T : Top w K mg) : FnL P w K mg base "_law_nexts" 6 P__law_nexts S_lnexts := by
  refine FnL.mk1 (st := s__law_nexts) T 63 rfl T.g__law_nexts (fun fd F => fn_oneL F sc__law_nexts ?_) (fun _ _ _ _ _ _ us hl => match us, hl with | [_, _, _, _, _], _ => rfl)
  rintro as R ⟨h, up, rs, s, rfl, ho, hrs, hg, rfl⟩
  refine ⟨⟨rfl, by simp [isMut]⟩, fun cdv A outer s' H S0 E hr => ?_⟩
  refine dss_cons (M := fun z => ∃ l : List Dt, LsOk (TrN h up) 31250 l ∧ z = [.dat (hdD h), .dat (.str (wayS up)), .dat (lnsD rs), .dat (scD s), .dat W4L, .dat (.lst l), .un, .un, .un]) (ds_setR 5 (DL.fz (dl_call1 (ok__law_steps T) hr (da_cons (de_v 0) (da_cons (de_v 1) (da_cons (de_v 2) (da_cons (de_v 3) (da_cons (de_v 4) da_nil))))) ⟨_, _, _, _, rfl, ho, hrs, hg, rfl⟩)) (fun d ⟨l, e, hl⟩ => ⟨l, hl, by rw [e] <;> rfl⟩) sc__law_nexts.nd) ?_
  rintro z ⟨l, ⟨hne, hll, hl⟩, rfl⟩
  refine dss_one (ds_retL (dl_cat (RA := fun x => x = l) (RB := fun x => x.length ≤ 62500 ∧ ∀ t ∈ x, TrL h up t) (DR.mono (de_v 5) fun d e => ⟨_, e, rfl⟩) (DL.fz (DL.mono (dl_lc (own := [(".0", 6), ("_law_event", 7), ("_law_behind_here", 8)]) (di_list (RL := fun z => z.length ≤ 62500 ∧ ∀ t ∈ z, OtL h up t) (DL.fz (dl_if (dt_cmp (de_v 3) (de_tp (ds := []) da_nil) (od_neTnil (ds := scL s) (room64 hr) (sc_plain s))) (fun _ => dl_call1 (ok__law_others T) (hr.mono (by decide)) (da_cons (de_v 0) (da_cons (de_v 1) (da_cons (de_v 3) da_nil))) ⟨_, _, _, rfl, ho, hg, rfl⟩) (fun hc => by cases hc))))
    (lc_rel (TrL h up) (fun ds e => by have := e.1; omega) (fun d hd => hd.ni) [7, 8] (by simp) (fun d => [.dat (hdD h), .dat (.str (wayS up)), .dat (lnsD rs), .dat (scD s), .dat W4L, .dat (.lst l), .un, .dat (match d with | .tup [a, _] => a | _ => .non), .dat (match d with | .tup [_, b] => b | _ => .non)])
      (fun ds e d hd sh Hb C cl fp => by
        obtain ⟨hh, rest, s2, rfl, _⟩ := e.2 d hd
        exact dg2 7 8 rfl sc__law_nexts.nd)
      (fun ds e d hd sh Hb C cl fp => by
        obtain ⟨hh, rest, s2, rfl, g2⟩ := e.2 d hd
        exact DE.as (de_tp (ds := [_, _, _]) (da_cons (de_v 7) (da_cons de_non (da_cons (de_v 8) da_nil)))) ⟨hh, rest, .non, scD s2, rfl, Or.inr ⟨s2, rfl, g2⟩⟩)) sc__law_nexts.nd (blkOk_by (show blkC N__law_nexts (defScope s__law_nexts) _ _ = true by decide +kernel))) fun l ⟨ds, e, h1, h2⟩ => ⟨by rw [h1]; exact e.1, h2⟩)) (fun x y hx hy => ⟨?_, _, rfl, ⟨?_, ?_, fun t ht => ?_⟩⟩)))
  · rw [hx, sizeLine_eq]; have := hy.1; omega
  · obtain ⟨t, ht⟩ := List.exists_mem_of_ne_nil l hne
    exact ⟨t, by rw [hx]; exact List.mem_append_left _ ht, hl t ht⟩
  · rw [hx, List.length_append]; have := hy.1; omega
  · rw [hx] at ht
    rcases List.mem_append.mp ht with q | q
    · exact (hl t q).l
    · exact hy.2 t q
def isNx : Dt → Bool
  | .tup (.tup (.str z :: _) :: _) => decide (z = "next")
  | _ => false
theorem isNx_n {h : Hs} {up : Bool} {d : Dt} (q : TrN h up d) : isNx d = true := by
  obtain ⟨_, _, _, rfl, _⟩ := q
  exact (decide_eq_true (rfl : ("next" : Str) = "next"))
def StOk (h : Hs) (up : Bool) (d : Dt) : Prop := d = .non ∨ ∃ s, d = scD s ∧ Good h up s
theorem StOk.ni {h : Hs} {up : Bool} {d : Dt} (q : StOk h up d) : notInt d = true := by
  rcases q with rfl | ⟨s, rfl, _⟩ <;> rfl
def WalkR (h : Hs) (up : Bool) (d : Dt) : Prop := ∃ (evs sts : List Dt) (g : Dt), d = .tup [.lst evs, .lst sts, g] ∧ sts.length ≤ 10 ∧ (∀ t ∈ sts, StOk h up t) ∧ ∃ s, scD s ∈ sts
def S_lwalk : List Sl → (Dt → Prop) → Prop := fun as R => ∃ (h : Hs) (up : Bool) (rs : List Rw) (n : Nat), as = [.box, .dat (hdD h), .dat (.str (wayS up)), .dat (lnsD rs), .dat W4L, .dat (.int (n : Int))] ∧ HOk h ∧ LnOk rs ∧ 1 ≤ n ∧ n ≤ 6 ∧ R = WalkR h up
/-- where the walk stands -/
def WkAt (h : Hs) (up : Bool) (i : Nat) (d : Dt) (sts : List Dt) : Prop := (i = 0 ∧ d = begD ∧ sts = []) ∨ ((∃ s, d = scD s ∧ Good h up s) ∧ ∃ s, scD s ∈ sts)
theorem ok__law_walk (T : Top w K mg) : Fn P w K mg base "_law_walk" 7 P__law_walk S_lwalk := by
  refine Fn.mk1 (st := s__law_walk) T 64 rfl T.g__law_walk (fun fd F => fn_one F sc__law_walk ?_) (fun _ _ _ _ _ _ us hl => match us, hl with | [_, _, _, _, _, _], _ => rfl)
  rintro as R ⟨h, up, rs, n, rfl, ho, hrs, hn1, hn6, rfl⟩
  refine ⟨⟨rfl, by simp [isMut]⟩, fun cdv A outer s' H S0 E hr => ?_⟩
  refine dss_then (ρ1 := [.box, .dat (hdD h), .dat (.str (wayS up)), .dat (lnsD rs), .dat W4L, .dat (.int (n : Int)), .dat begD, .ml [], .ml [], .un, .un, .un, .un, .un, .un, .un]) (ds_par3M 6 7 8 (dm_dat (de_tp (ds := []) da_nil) (dm_lst (dl_ls (ds := []) da_nil) rfl (dm_lst (dl_ls (ds := []) da_nil) rfl dm_nil))) rfl sc__law_walk.nd) ?_
  refine dss_cons (M := fun z => ∃ (d : Dt) (evs sts : List Dt), z = [.box, .dat (hdD h), .dat (.str (wayS up)), .dat (lnsD rs), .dat W4L, .dat (.int (n : Int)), .dat d, .ml evs, .ml sts, .un, .un, .un, .un, .un, .un, .un] ∧ sts.length ≤ 10 ∧ (∀ t ∈ sts, StOk h up t) ∧ ∃ s, scD s ∈ sts) (ds_for (di_range T.f_range (de_v 5) ⟨by omega, by omega⟩) fun ds hds => ⟨fun i z => ∃ (d : Dt) (evs sts : List Dt), z = [.box, .dat (hdD h), .dat (.str (wayS up)), .dat (lnsD rs), .dat W4L, .dat (.int (n : Int)), .dat d, .ml evs, .ml sts, .un, .un, .un, .un, .un, .un, .un] ∧ evs.length ≤ i ∧ evs.all notInt = true ∧ sts.length ≤ i ∧ (∀ t ∈ sts, StOk h up t) ∧ WkAt h up i d sts, ⟨_, ⟨begD, [], [], rfl, Nat.le_refl _, rfl, Nat.le_refl _, (fun t ht => by cases ht), Or.inl ⟨rfl, rfl, rfl⟩⟩, Wk.refl _⟩, ?_, ?_⟩) ?_
  · rintro i d ρi hd ⟨sc, evs, sts, rfl, hel, hev, hsl, hst, hat⟩
    have hi : i < n := by
      have := (List.getElem?_eq_some_iff.mp hd).1
      rw [hds, upTo_len] at this
      omega
    have hsni : sts.all notInt = true := List.all_eq_true.mpr fun t ht => (hst t ht).ni
    refine ⟨[9], dg_name 9 ?_ sc__law_walk.nd⟩
    refine dss_cons (M := fun z => ∃ l : List Dt, (NxOk h up l ∧ ((∃ s, scD s ∈ sts) ∨ ∀ t ∈ l, TrB h up t)) ∧ z = [.box, .dat (hdD h), .dat (.str (wayS up)), .dat (lnsD rs), .dat W4L, .dat (.int (n : Int)), .dat sc, .ml evs, .ml sts, .dat d, .dat (.lst l), .un, .un, .un, .un, .un]) (ds_setR 10 (R := fun d => ∃ l : List Dt, d = .lst l ∧ (NxOk h up l ∧ ((∃ s, scD s ∈ sts) ∨ ∀ t ∈ l, TrB h up t))) ?_ (fun d ⟨l, e, hl⟩ => ⟨l, hl, by rw [e] <;> rfl⟩) sc__law_walk.nd) ?_
    · rcases hat with ⟨_, rfl, _⟩ | ⟨⟨s, rfl, hg⟩, hsome⟩
      · refine DR.mono (DL.fz (dl_call1 (ok__law_nexts0 T) hr (da_cons (de_v 1) (da_cons (de_v 2) (da_cons (de_v 3) (da_cons (de_v 6) (da_cons (de_v 4) da_nil))))) ⟨_, _, _, rfl, ho, hrs, rfl⟩)) fun d ⟨l, e, hne, hll, hl⟩ => ⟨l, e, ⟨?_, by omega, fun t ht => (hl t ht).n.l⟩, Or.inr hl⟩
        obtain ⟨t, ht⟩ := List.exists_mem_of_ne_nil l hne
        exact ⟨t, ht, (hl t ht).n⟩
      · exact DR.mono (DL.fz (dl_call1 (ok__law_nexts T) hr (da_cons (de_v 1) (da_cons (de_v 2) (da_cons (de_v 3) (da_cons (de_v 6) (da_cons (de_v 4) da_nil))))) ⟨_, _, _, _, rfl, ho, hrs, hg, rfl⟩)) fun d ⟨l, e, hl⟩ => ⟨l, e, hl, Or.inl hsome⟩
    rintro z ⟨l, ⟨hnx, hbeg⟩, rfl⟩
    have hnl := hnx.len
    refine dss_then (ρ1 := [.box, .dat (hdD h), .dat (.str (wayS up)), .dat (lnsD rs), .dat W4L, .dat (.int (n : Int)), .dat sc, .ml evs, .ml sts, .dat d, .dat (.lst l), .dat (.lst (l.filter isNx)), .un, .un, .un, .un]) (ds_lcF 11 [(".0", 14), ("_law_triple", 15)] (RL := fun z => z = l.map fun d => d) (di_list (DR.mono (de_v 10) fun d e => ⟨_, e, by rw [List.map_id']⟩))
      (lc_map l (fun d => d) isNx (fun d => d) (by omega) (fun t ht => (hnx.all t ht).ni) (fun t => [.box, .dat (hdD h), .dat (.str (wayS up)), .dat (lnsD rs), .dat W4L, .dat (.int (n : Int)), .dat sc, .ml evs, .ml sts, .dat d, .dat (.lst l), .un, .un, .un, .un, .dat t]) (L := [15]) (by simp) (fun a _ s Hb C cl fp => dg_name 15 rfl sc__law_walk.nd)
        (fun a ha s Hb C cl fp => by
          obtain ⟨hh, rest, g, b, rfl, _⟩ := hnx.all a ha
          exact dqs_one (dt_cmp (de_ix (de_ix (de_v 15) de_int (id_tup 0)) de_int (id_tup 0)) de_str od_eqS)) (fun a _ _ s Hb C cl fp => de_v 15)) (fun ds e => by rw [e, List.map_id'] <;> rfl) sc__law_walk.nd (blkOk_by (show blkC N__law_walk (defScope s__law_walk) _ _ = true by decide +kernel))) ?_
    obtain ⟨t0, ht0, htn⟩ := hnx.some
    refine dss_cons (M := fun z => ∃ (ev g b : Dt), notInt ev = true ∧ StOk h up b ∧ ((∃ s, scD s ∈ sts) ∨ b ≠ .non) ∧ z = [.box, .dat (hdD h), .dat (.str (wayS up)), .dat (lnsD rs), .dat W4L, .dat (.int (n : Int)), .dat b, .ml evs, .ml sts, .dat d, .dat (.lst l), .dat (.lst (l.filter isNx)), .dat ev, .dat g, .un, .un]) (ds_asgR (R := fun d => TrL h up d ∧ ((∃ s, scD s ∈ sts) ∨ TrB h up d)) (dr_call (ok__law_pick T) (hr.mono (by decide)) (Sa := fun as => ∃ ds : List Dt, as = [.box, .dat (.lst ds)] ∧ ds ≠ [] ∧ ds.length ≤ 100000 ∧ ∀ d ∈ ds, d ∈ l) (dar_box 0 (S := fun as => ∃ ds : List Dt, as = [.dat (.lst ds)] ∧ ds ≠ [] ∧ ds.length ≤ 100000 ∧ ∀ d ∈ ds, d ∈ l) (dar_cons (R := fun d => ∃ ds : List Dt, d = .lst ds ∧ ds ≠ [] ∧ ds.length ≤ 100000 ∧ ∀ d ∈ ds, d ∈ l) (dr_if (dq_eqI (DR.mono (dr_call1 (ok__law_take T) (hr.mono (by decide)) (da_box 0 (da_cons de_int da_nil)) ⟨3, rfl, by decide, by decide, rfl⟩) (fun d q => q.i)) di_int) (fun _ => DE.as (de_v 11) ⟨_, rfl, (fun z => by have := List.mem_filter.mpr ⟨ht0, isNx_n htn⟩; rw [z] at this; cases this), by have := List.length_filter_le isNx l; omega, fun d hd => (List.mem_filter.mp hd).1⟩) (fun _ => DE.as (de_v 10) ⟨_, rfl, (fun z => by rw [z] at ht0; cases ht0), by omega, fun d hd => hd⟩)) da_nil (fun d as ⟨ds, h1, h2⟩ e => ⟨ds, by rw [h1, e], h2⟩)) (fun as ⟨ds, h1, h2⟩ => ⟨ds, by rw [h1], h2⟩)) (fun as ⟨ds, h1, h2, h3, h4⟩ => ⟨ds, h1, h2, h3, fun d hd => ⟨hnx.all d (h4 d hd), hbeg.imp (fun q => q) (fun q => q d (h4 d hd))⟩⟩))
      (L := [12, 13, 6]) (fun q ⟨h1, h2⟩ => by
        obtain ⟨hh, rest, g, b, rfl, hb⟩ := h1
        refine dg3 12 13 6 ⟨.tup (.str hh :: rest), g, b, rfl, hb, h2.imp (fun q => q) (fun ⟨_, _, s3, e3, _⟩ => ?_), rfl⟩ sc__law_walk.nd
        injection e3 with e3
        injection e3 with _ e3
        injection e3 with _ e3
        injection e3 with e3 _
        rw [e3]
        exact fun z => nomatch z)) ?_
    rintro z ⟨ev, g, b, hevn, hb, hbs, rfl⟩
    refine dss_then (ρ1 := [.box, .dat (hdD h), .dat (.str (wayS up)), .dat (lnsD rs), .dat W4L, .dat (.int (n : Int)), .dat b, .ml (evs ++ [ev]), .ml sts, .dat d, .dat (.lst l), .dat (.lst (l.filter isNx)), .dat ev, .dat g, .un, .un]) (ds_append 7 (de_v 12) (fun d e => ⟨by rw [e]; exact hevn, by rw [e] <;> rfl⟩) (by omega) hev) ?_
    refine dss_then (ρ1 := [.box, .dat (hdD h), .dat (.str (wayS up)), .dat (lnsD rs), .dat W4L, .dat (.int (n : Int)), .dat b, .ml (evs ++ [ev]), .ml (sts ++ [b]), .dat d, .dat (.lst l), .dat (.lst (l.filter isNx)), .dat ev, .dat g, .un, .un]) (ds_append 8 (de_v 6) (fun d e => ⟨by rw [e]; exact hb.ni, by rw [e] <;> rfl⟩) (by omega) hsni) ?_
    have hst2 : ∀ t ∈ sts ++ [b], StOk h up t := fun t ht => by
      rcases List.mem_append.mp ht with q | q
      · exact hst t q
      · rw [List.mem_singleton.mp q]; exact hb
    refine dss_one (ds_ifT (dt_cmp (de_v 6) de_non od_isN) (fun hc => ?_) (fun hc => ?_))
    · have hbn : b = .non := by
        rcases hb with q | ⟨s, rfl, _⟩
        · exact q
        · cases hc
      refine dss_fz 7 (dss_fz 8 ?_)
      refine dss_one (ds_retE (de_tp (ds := [.lst (evs ++ [ev]), .lst (sts ++ [b]), _]) (da_cons (de_v 7) (da_cons (de_v 8) (da_cons (de_v 13) da_nil)))) ⟨_, _, _, rfl, by rw [List.length_append, List.length_singleton]; omega, hst2, ?_⟩)
      rcases hbs with ⟨s, hs⟩ | hs
      · exact ⟨s, List.mem_append_left _ hs⟩
      · exact absurd hbn hs
    · have hbs2 : ∃ s, b = scD s ∧ Good h up s := by
        rcases hb with rfl | q
        · cases hc
        · exact q
      obtain ⟨s, rfl, hg⟩ := hbs2
      refine dss_nil ⟨_, ⟨scD s, evs ++ [ev], sts ++ [scD s], rfl, by rw [List.length_append, List.length_singleton]; omega, by rw [List.all_append, hev]; simp [hevn], by rw [List.length_append, List.length_singleton]; omega, hst2, Or.inr ⟨⟨s, rfl, hg⟩, s, List.mem_append_right _ (List.mem_singleton.mpr rfl)⟩⟩, .eq (.eq (.eq (.eq (.eq (.eq (.eq (.eq (.eq (.un (.un (.un (.un (.un (.eq (.eq .nil)))))))))))))))⟩
  · rintro z ⟨sc, evs, sts, rfl, hel, hev, hsl, hst, hat⟩
    rw [hds, upTo_len] at hsl hat
    refine ⟨sc, evs, sts, rfl, by omega, hst, ?_⟩
    rcases hat with ⟨h0, _, _⟩ | ⟨_, h1⟩
    · omega
    · exact h1
  rintro z ⟨sc, evs, sts, rfl, hsl, hst, hsome⟩
  refine dss_fz 7 (dss_fz 8 ?_)
  exact dss_one (ds_retE (de_tp (ds := [.lst evs, .lst sts, .non]) (da_cons (de_v 7) (da_cons (de_v 8) (da_cons de_non da_nil)))) ⟨_, _, _, rfl, hsl, hst, hsome⟩)
def S_lscene : List Sl → (Dt → Prop) → Prop := fun as R => ∃ (h : Hs) (up : Bool) (rs : List Rw), as = [.box, .dat (hdD h), .dat (.str (wayS up)), .dat (lnsD rs), .dat W4L, .dat (.int 6)] ∧ HOk h ∧ LnOk rs ∧ R = fun d => ∃ s, d = scD s ∧ Good h up s
theorem ok__law_scene (T : Top w K mg) : Fn P w K mg base "_law_scene" 8 P__law_scene S_lscene := by
  refine Fn.mk1 (st := s__law_scene) T 65 rfl T.g__law_scene (fun fd F => fn_one F sc__law_scene ?_) (fun _ _ _ _ _ _ us hl => match us, hl with | [_, _, _, _, _, _], _ => rfl)
  rintro as R ⟨h, up, rs, rfl, ho, hrs, rfl⟩
  refine ⟨⟨rfl, by simp [isMut]⟩, fun cdv A outer s' H S0 E hr => ?_⟩
  refine dss_cons (M := fun z => ∃ (evs sts : List Dt) (g : Dt), z = [.box, .dat (hdD h), .dat (.str (wayS up)), .dat (lnsD rs), .dat W4L, .dat (.int 6), .dat (.lst evs), .dat (.lst sts), .dat g, .un, .un, .un] ∧ sts.length ≤ 10 ∧ (∀ t ∈ sts, StOk h up t) ∧ ∃ s, scD s ∈ sts) (ds_asgR (L := [6, 7, 8]) (R := WalkR h up) (dr_call (ok__law_walk T) hr (Sa := fun as => ∃ n : Nat, as = [.box, .dat (hdD h), .dat (.str (wayS up)), .dat (lnsD rs), .dat W4L, .dat (.int (n : Int))] ∧ 1 ≤ n ∧ n ≤ 6) (dar_box 0 (S := fun as => ∃ n : Nat, as = [.dat (hdD h), .dat (.str (wayS up)), .dat (lnsD rs), .dat W4L, .dat (.int (n : Int))] ∧ 1 ≤ n ∧ n ≤ 6) (da_pre (S := fun as => ∃ n : Nat, as = [.dat (.str (wayS up)), .dat (lnsD rs), .dat W4L, .dat (.int (n : Int))] ∧ 1 ≤ n ∧ n ≤ 6) (da_pre (S := fun as => ∃ n : Nat, as = [.dat (lnsD rs), .dat W4L, .dat (.int (n : Int))] ∧ 1 ≤ n ∧ n ≤ 6) (da_pre (S := fun as => ∃ n : Nat, as = [.dat W4L, .dat (.int (n : Int))] ∧ 1 ≤ n ∧ n ≤ 6) (da_pre (S := fun as => ∃ n : Nat, as = [.dat (.int (n : Int))] ∧ 1 ≤ n ∧ n ≤ 6) (dar_cons (R := fun d => ∃ n : Nat, d = .int (n : Int) ∧ 1 ≤ n ∧ n ≤ 6) (dr_bin (R1 := fun d => d = .int 1) (R2 := IsN 6) de_int (dr_call1 (ok__law_take T) (hr.mono (by decide)) (da_box 0 (da_cons (de_v 5) da_nil)) ⟨6, rfl, by decide, by decide, rfl⟩) (fun d e h1 ⟨i, hi, h2⟩ => by
      subst h1 h2
      intro Hs H v u s rv ru Q q
      exact od_add Hs H v u s rv ru Q fun z Hs' H' g t p r => q z Hs' H' g t p ⟨1 + i, by rw [r, Int.natCast_add] <;> rfl, by omega, by omega⟩)) da_nil (fun d as ⟨n, h1, h2⟩ e => ⟨n, by rw [h1, e], h2⟩)) (de_v 4) (fun as ⟨n, h1, h2⟩ => ⟨n, by rw [h1], h2⟩)) (de_v 3) (fun as ⟨n, h1, h2⟩ => ⟨n, by rw [h1], h2⟩)) (de_v 2) (fun as ⟨n, h1, h2⟩ => ⟨n, by rw [h1], h2⟩)) (de_v 1) (fun as ⟨n, h1, h2⟩ => ⟨n, by rw [h1], h2⟩)) (fun as ⟨n, h1, h2⟩ => ⟨n, by rw [h1], h2⟩)) (fun as ⟨n, h1, h2, h3⟩ => ⟨_, _, _, n, h1, ho, hrs, h2, h3, rfl⟩))
    (fun d ⟨evs, sts, g, e, h1, h2, h3⟩ => by rw [e]; exact dg3 6 7 8 ⟨evs, sts, g, rfl, h1, h2, h3⟩ sc__law_scene.nd)) ?_
  rintro z ⟨evs, sts, g, rfl, hsl, hst, s0, hs0⟩
  refine dss_then (ρ1 := [.box, .dat (hdD h), .dat (.str (wayS up)), .dat (lnsD rs), .dat W4L, .dat (.int 6), .dat (.lst evs), .dat (.lst sts), .dat g, .dat (.lst (sts.filter fun d => !isNon d)), .un, .un]) (ds_lcF 9 [(".0", 10), ("_law_scene_here", 11)] (RL := fun z => z = sts.map fun d => d) (di_list (DR.mono (de_v 7) fun d e => ⟨_, e, by rw [List.map_id']⟩))
      (lc_map sts (fun d => d) (fun d => !isNon d) (fun d => d) (by omega) (fun t ht => (hst t ht).ni) (fun t => [.box, .dat (hdD h), .dat (.str (wayS up)), .dat (lnsD rs), .dat W4L, .dat (.int 6), .dat (.lst evs), .dat (.lst sts), .dat g, .un, .un, .dat t]) (L := [11]) (by simp) (fun a _ s Hb C cl fp => dg_name 11 rfl sc__law_scene.nd)
        (fun a ha s Hb C cl fp => dqs_one (dt_cmp (de_v 11) de_non od_notN)) (fun a _ _ s Hb C cl fp => de_v 11)) (fun ds e => by rw [e, List.map_id'] <;> rfl) sc__law_scene.nd (blkOk_by (show blkC N__law_scene (defScope s__law_scene) _ _ = true by decide +kernel))) ?_
  have hne : sts.filter (fun d => !isNon d) ≠ [] := fun z => by
    have : scD s0 ∈ sts.filter (fun d => !isNon d) := List.mem_filter.mpr ⟨hs0, rfl⟩
    rw [z] at this; cases this
  have hall : ∀ t ∈ sts.filter (fun d => !isNon d), ∃ s, t = scD s ∧ Good h up s := fun t ht => by
    obtain ⟨h1, h2⟩ := List.mem_filter.mp ht
    rcases hst t h1 with q | q
    · rw [q] at h2; cases h2
    · exact q
  generalize sts.filter (fun d => !isNon d) = fs at hne hall
  rcases List.eq_nil_or_concat fs with q | ⟨fi, fl, q⟩
  · exact absurd q hne
  · rw [List.concat_eq_append] at q
    subst q
    exact dss_one (ds_retE (de_ix (de_v 9) (de_neg de_int) id_last) (hall fl (by simp)))
end

end DL
/-! Lm -/
set_option Elab.async false
set_option linter.all false
set_option maxRecDepth 100000
set_option maxHeartbeats 4000000
namespace DL
open PySem PySem.Spec PyProof.Rows L2
local macro_rules | `(tactic| walk_at "od") => `(tactic| first | exact od_eqS | exact od_neS | exact od_inT | exact od_notInT | exact od_inL | exact od_notInL | exact od_eqB | exact od_neB)
local macro_rules | `(tactic| walk_at "len") => `(tactic| first | omega | (simp only [List.length_append, List.length_cons, List.length_nil, List.length_take, List.length_drop]; omega))
section
variable {P : Program} {w : World} {K : PySem.W.Frag} {mg : Str → Option Value} {base : Heap}
theorem jnl_in : ∀ d ∈ ([.str "left", .str "right", .str "none"] : List Dt), ∃ j : Jn, d = .str (jnS j) := fun d hd => by
  rcases List.mem_cons.mp hd with rfl | hd
  · exact ⟨.left, rfl⟩
  rcases List.mem_cons.mp hd with rfl | hd
  · exact ⟨.right, rfl⟩
  rcases List.mem_cons.mp hd with rfl | hd
  · exact ⟨.none, rfl⟩
  cases hd
theorem kpl_in : ∀ d ∈ ([.str "low", .str "high"] : List Dt), ∃ b : Bool, d = .str (kpS b) := fun d hd => by
  rcases List.mem_cons.mp hd with rfl | hd
  · exact ⟨true, rfl⟩
  rcases List.mem_cons.mp hd with rfl | hd
  · exact ⟨false, rfl⟩
  cases hd
def StR (d : Dt) : Prop := ∃ st : Option Nat, d = optD st ∧ ∀ m, st = some m → 1 ≤ m ∧ m ≤ 4
theorem st_in1 : ∀ d ∈ ([.non, .non, .int 1, .int 2, .int 3, .int 4] : List Dt), StR d := fun d hd => by
  have hn : StR .non := ⟨none, rfl, fun _ h => by cases h⟩
  have hi : ∀ n : Nat, 1 ≤ n ∧ n ≤ 4 → StR (.int (n : Int)) := fun n h => ⟨some n, rfl, fun m e => by cases e; exact h⟩
  rcases List.mem_cons.mp hd with rfl | hd
  · exact hn
  rcases List.mem_cons.mp hd with rfl | hd
  · exact hn
  rcases List.mem_cons.mp hd with rfl | hd
  · exact hi 1 (by decide)
  rcases List.mem_cons.mp hd with rfl | hd
  · exact hi 2 (by decide)
  rcases List.mem_cons.mp hd with rfl | hd
  · exact hi 3 (by decide)
  rcases List.mem_cons.mp hd with rfl | hd
  · exact hi 4 (by decide)
  cases hd
theorem st_in2 : ∀ d ∈ ([.non, .non, .int 1, .int 2] : List Dt), StR d := fun d hd => st_in1 d (by
  rcases List.mem_cons.mp hd with rfl | hd
  · simp
  rcases List.mem_cons.mp hd with rfl | hd
  · simp
  rcases List.mem_cons.mp hd with rfl | hd
  · simp
  rcases List.mem_cons.mp hd with rfl | hd
  · simp
  cases hd)
def h1F (r : Nat) (b : Bool) (j : Jn) : List (Str × Dt) := [("rows", .int (r : Int)), ("keeps", .str (kpS b)), ("joins", .str (jnS j))]
def t2F (b : Bool) (j : Jn) : List (Str × Dt) := [("keeps", .str (kpS b)), ("joins", .str (jnS j))]
def t1F (j : Jn) : List (Str × Dt) := [("joins", .str (jnS j))]
def u2F (o : Bool) : List (Str × Dt) := [("on", .bl o), ("changes", .non)]
def u1F : List (Str × Dt) := [("changes", .non)]
def h2F (a o : Bool) : List (Str × Dt) := [("again", .bl a), ("on", .bl o), ("changes", .non)]
theorem h1_nd (r : Nat) (b : Bool) (j : Jn) : ((h1F r b j).map (·.1)).Nodup := by
  show (["rows", "keeps", "joins"] : List Str).Nodup
  decide +kernel
theorem h12_nd (r : Nat) (b : Bool) (j : Jn) (a o : Bool) : ((h1F r b j ++ h2F a o).map (·.1)).Nodup := by
  show (["rows", "keeps", "joins", "again", "on", "changes"] : List Str).Nodup
  decide +kernel
theorem h12_nd2 (a o : Bool) : ((h2F a o).map (·.1)).Nodup := by
  show (["again", "on", "changes"] : List Str).Nodup
  decide +kernel
theorem put_st (r : Nat) (b : Bool) (j : Jn) (a o : Bool) (st : Option Nat) : putKd (h1F r b j ++ h2F a o) "stamps" (optD st) = hdF ⟨r, b, j, a, st, o, none⟩ := by kernel_rfl
theorem put_ch (r : Nat) (b : Bool) (j : Jn) (a o : Bool) (st : Option Nat) (c : Nat) : putKd (hdF ⟨r, b, j, a, st, o, none⟩) "changes" (.int (c : Int)) = hdF ⟨r, b, j, a, st, o, some c⟩ := by kernel_rfl
def S_lhouse : List Sl → (Dt → Prop) → Prop := fun as R => as = [.box, .dat (.int 3)] ∧ R = fun d => ∃ h, d = hdD h ∧ HOk h
theorem ok__law_house (T : Top w K mg) : Fn P w K mg base "_law_house" 3 P__law_house S_lhouse := by
  refine Fn.mk1 (st := s__law_house) T 44 rfl T.g__law_house (fun fd F => fn_one F sc__law_house ?_) (fun _ _ _ _ _ _ us hl => match us, hl with | [_, _], _ => rfl)
  rintro as R ⟨rfl, rfl⟩
  refine ⟨⟨rfl, by simp [isMut]⟩, fun cdv A outer s' H S0 E hr => ?_⟩
  refine dss_cons (M := fun z => ∃ r : Nat, (1 ≤ r ∧ r ≤ 3) ∧ z = [.box, .dat (.int 3), .dat (.int (r : Int)), .un]) (ds_setR 2 (R := fun d => ∃ r : Nat, (1 ≤ r ∧ r ≤ 3) ∧ d = .int (r : Int)) (dr_bin (R1 := fun d => d = .int 1) (R2 := IsN 3) de_int (dr_call1 (ok__law_take T) (hr.mono (by decide)) (da_box 0 (da_cons (de_v 1) da_nil)) ⟨3, rfl, by decide, by decide, rfl⟩) (fun d e h1 ⟨i, hi, h2⟩ => by
      subst h1 h2
      intro Hs H v u s rv ru Q q
      exact od_add Hs H v u s rv ru Q fun z Hs' H' g t p r => q z Hs' H' g t p ⟨1 + i, by omega, by rw [r, Int.natCast_add] <;> rfl⟩)) (fun d ⟨r, h1, e⟩ => ⟨r, h1, by rw [e] <;> rfl⟩) sc__law_house.nd) ?_
  rintro z ⟨r, hr13, rfl⟩
  refine dss_cons (M := fun z => ∃ (b : Bool) (j : Jn), z = [.box, .dat (.int 3), .dat (.int (r : Int)), .md (h1F r b j)]) ?_ ?_
  · refine @ds_setM _ _ _ _ _ _ _ 3 _ _ (fun l => ∃ (b : Bool) (j : Jn), l = h1F r b j) ?_ ?_ sc__law_house.nd rfl (Or.inl rfl) rfl (.inr rfl)
    · refine @dd_disp _ _ _ _ _ 3 (fun l => ∃ (b : Bool) (j : Jn), l = h1F r b j) ?_ ?_ ?_
      · exact .cons (R := fun d => d = .int (r : Int)) (S := fun (l : List (Str × Dt)) => ∃ (b : Bool) (j : Jn), l = t2F b j) (de_v 2) (.cons (R := fun d => ∃ b : Bool, d = .str (kpS b)) (S := fun (l : List (Str × Dt)) => ∃ (j : Jn), l = t1F j) (dr_call1 (ok__law_pick T) hr (da_box 0 (da_cons (DL.fzE (dl_ls (ds := [_, _]) (da_cons de_str (da_cons de_str da_nil)))) da_nil)) ⟨_, rfl, (fun z => by cases z), by exact Nat.le_of_ble_eq_true rfl, kpl_in⟩) (.cons (R := fun d => ∃ j : Jn, d = .str (jnS j)) (S := fun (l : List (Str × Dt)) => l = []) (dr_call1 (ok__law_pick T) hr (da_box 0 (da_cons (DL.fzE (dl_ls (ds := [_, _, _]) (da_cons de_str (da_cons de_str (da_cons de_str da_nil))))) da_nil)) ⟨_, rfl, (fun z => by cases z), by exact Nat.le_of_ble_eq_true rfl, jnl_in⟩) .nil (fun d l ⟨j, e1⟩ e2 => ⟨j, by rw [e1, e2] <;> rfl⟩)) (fun d l ⟨b, e1⟩ ⟨j, e2⟩ => ⟨b, j, by rw [e1, e2] <;> rfl⟩)) (fun d l e1 ⟨b, j, e2⟩ => ⟨b, j, by rw [e1, e2] <;> rfl⟩)
      · rintro l ⟨b, j, rfl⟩
        exact h1_nd r b j
      · decide
    · rintro l ⟨b, j, rfl⟩
      exact ⟨b, j, rfl⟩
  rintro z ⟨b, j, rfl⟩
  refine dss_cons (M := fun z => ∃ (a o : Bool), z = [.box, .dat (.int 3), .dat (.int (r : Int)), .md (h1F r b j ++ h2F a o)]) ?_ ?_
  · refine @ds_update _ _ _ _ _ _ _ 3 _ _ _ _ (h1F r b j) (fun l => ∃ (a o : Bool), l = h2F a o) ?_ ?_ (by exact Nat.le_of_ble_eq_true rfl) rfl rfl rfl (Or.inl rfl) (by decide) (by decide) ⟨rfl, rfl, rfl, rfl⟩ rfl
    · refine @dd_disp _ _ _ _ _ 3 (fun l => ∃ (a o : Bool), l = h2F a o) ?_ ?_ ?_
      · exact .cons (R := fun d => ∃ k, d = .bl k) (S := fun (l : List (Str × Dt)) => ∃ (o : Bool), l = u2F o) (de_gtI (DR.mono (dr_call1 (ok__law_take T) (hr.mono (by decide)) (da_box 0 (da_cons de_int da_nil)) ⟨4, rfl, by decide, by decide, rfl⟩) (fun d q => q.i)) di_int) (.cons (R := fun d => ∃ k, d = .bl k) (S := fun (l : List (Str × Dt)) => l = u1F) (de_gtI (DR.mono (dr_call1 (ok__law_take T) (hr.mono (by decide)) (da_box 0 (da_cons de_int da_nil)) ⟨3, rfl, by decide, by decide, rfl⟩) (fun d q => q.i)) di_int) (dk_cons de_non dk_nil) (fun d l ⟨k, e1⟩ e2 => ⟨k, by rw [e1, e2] <;> rfl⟩)) (fun d l ⟨k, e1⟩ ⟨o, e2⟩ => ⟨k, o, by rw [e1, e2] <;> rfl⟩)
      · rintro l ⟨a, o, rfl⟩
        exact h12_nd2 a o
      · decide
    · rintro l ⟨a, o, rfl⟩
      exact ⟨h12_nd r b j a o, Nat.le_of_ble_eq_true rfl, a, o, rfl⟩
  rintro z ⟨a, o, rfl⟩
  refine dss_cons (M := fun z => ∃ st : Option Nat, (∀ m, st = some m → 1 ≤ m ∧ m ≤ 4) ∧ z = [.box, .dat (.int 3), .dat (.int (r : Int)), .md (hdF ⟨r, b, j, a, st, o, none⟩)]) (ds_putM 3 (ds := h1F r b j ++ h2F a o) (R := StR) (room1 hr) (dr_call (ok__law_pick T) hr (Sa := fun as => ∃ ds : List Dt, as = [.box, .dat (.lst ds)] ∧ ds ≠ [] ∧ ds.length ≤ 100000 ∧ ∀ d ∈ ds, StR d) (dar_box 0 (S := fun as => ∃ ds : List Dt, as = [.dat (.lst ds)] ∧ ds ≠ [] ∧ ds.length ≤ 100000 ∧ ∀ d ∈ ds, StR d) (dar_cons (R := fun d => ∃ ds : List Dt, d = .lst ds ∧ ds ≠ [] ∧ ds.length ≤ 100000 ∧ ∀ d ∈ ds, StR d) (dr_ifT (dt_cmp (de_v 2) de_int od_lt) (fun _ => DE.as (DL.fzE (dl_ls (ds := [_, _, _, _, _, _]) (da_cons de_non (da_cons de_non (da_cons de_int (da_cons de_int (da_cons de_int (da_cons de_int da_nil)))))))) ⟨_, rfl, (fun z => by cases z), by exact Nat.le_of_ble_eq_true rfl, st_in1⟩) (fun _ => DE.as (DL.fzE (dl_ls (ds := [_, _, _, _]) (da_cons de_non (da_cons de_non (da_cons de_int (da_cons de_int da_nil)))))) ⟨_, rfl, (fun z => by cases z), by exact Nat.le_of_ble_eq_true rfl, st_in2⟩)) da_nil (fun d as ⟨ds, h1, h2⟩ e => ⟨ds, by rw [h1, e], h2⟩)) (fun as ⟨ds, h1, h2⟩ => ⟨ds, by rw [h1], h2⟩)) (fun as h => h)) (fun d ⟨st, e, h1⟩ => ⟨st, h1, by rw [e, put_st] <;> rfl⟩) (by exact Nat.le_of_ble_eq_true rfl)) ?_
  rintro z ⟨st, hst, rfl⟩
  refine dss_cons (M := fun z => ∃ h : Hs, HOk h ∧ z = [.box, .dat (.int 3), .dat (.int (r : Int)), .md (hdF h)]) (ds_if (B := fun _ => True) (DW.q (dw_and (B1 := fun _ => True) (B2 := fun _ => True) (DQ.mono (dt_cmp (de_v 2) de_int od_lt) fun _ _ => trivial) (fun _ => dw_and1 (dq_eqI (DR.mono (dr_call1 (ok__law_take T) (hr.mono (by decide)) (da_box 0 (da_cons de_int da_nil)) ⟨4, rfl, by decide, by decide, rfl⟩) (fun d q => q.i)) di_int)) (fun _ => trivial) (fun _ _ => trivial))) (fun _ => ?_) (fun _ => ?_)) ?_
  · refine dss_one (ds_putM 3 (ds := hdF ⟨r, b, j, a, st, o, none⟩) (R := fun d => ∃ c : Nat, (1 ≤ c ∧ c ≤ 2) ∧ d = .int (c : Int)) (room1 hr) (dr_bin (R1 := fun d => d = .int 1) (R2 := IsN 2) de_int (dr_call1 (ok__law_take T) (hr.mono (by decide)) (da_box 0 (da_cons de_int da_nil)) ⟨2, rfl, by decide, by decide, rfl⟩) (fun d e h1 ⟨i, hi, h2⟩ => by
      subst h1 h2
      intro Hs H v u s rv ru Q q
      exact od_add Hs H v u s rv ru Q fun z Hs' H' g t p r => q z Hs' H' g t p ⟨1 + i, by omega, by rw [r, Int.natCast_add] <;> rfl⟩)) (fun d ⟨c, h1, e⟩ => ⟨⟨r, b, j, a, st, o, some c⟩, ⟨hr13.1, hr13.2, hst, fun c2 e2 => by cases e2; exact h1⟩, by rw [e, put_ch] <;> rfl⟩) (by exact Nat.le_of_ble_eq_true rfl))
  · exact dss_nil ⟨⟨r, b, j, a, st, o, none⟩, ⟨hr13.1, hr13.2, hst, fun c2 e2 => by cases e2⟩, rfl⟩
  rintro z ⟨h, ho, rfl⟩
  exact dss_one (ds_retmd 3 ⟨h, rfl, ho⟩)
end

end DL
/-! Lp -/
set_option Elab.async false
set_option linter.all false
set_option maxRecDepth 100000
set_option maxHeartbeats 4000000
namespace DL
open PySem PySem.Spec PyProof.Rows L2
local macro_rules | `(tactic| walk_at "od") => `(tactic| first | exact od_eqS | exact od_neS | exact od_inT | exact od_notInT | exact od_inL | exact od_notInL | exact od_eqB | exact od_neB)
local macro_rules | `(tactic| walk_at "len") => `(tactic| first | omega | (simp only [List.length_append, List.length_cons, List.length_nil, List.length_take, List.length_drop]; omega))
section
variable {P : Program} {w : World} {K : PySem.W.Frag} {mg : Str → Option Value} {base : Heap}
theorem hs_scl (h : Hs) : ∀ p ∈ hsF h, scl p.2 = true := by
  obtain ⟨r, b, j, a, st, o, ch⟩ := h
  have : (hsF ⟨r, b, j, a, st, o, ch⟩).all (fun p => scl p.2) = true := by cases st <;> cases ch <;> rfl
  exact fun p hp => List.all_eq_true.mp this p hp
theorem hs_hd (h : Hs) : ∀ p ∈ hsF h, (hdF h).lookup p.1 = some p.2 := fun p hp => by
  unfold hsF at hp
  rcases List.mem_cons.mp hp with rfl | hp
  · exact hd_rows h
  rcases List.mem_cons.mp hp with rfl | hp
  · exact hd_keeps h
  rcases List.mem_cons.mp hp with rfl | hp
  · exact hd_joins h
  rcases List.mem_cons.mp hp with rfl | hp
  · exact hd_again h
  rcases List.mem_cons.mp hp with rfl | hp
  · exact hd_stamps h
  rcases List.mem_cons.mp hp with rfl | hp
  · exact hd_on h
  rcases List.mem_cons.mp hp with rfl | hp
  · exact hd_changes h
  cases hp
def S_lhome : List Sl → (Dt → Prop) → Prop := fun as R => ∃ h : Hs, as = [.dat (hdD h)] ∧ HOk h ∧ R = fun d => d = hsD h
theorem ok__law_home (T : Top w K mg) : Fn P w K mg base "_law_home" 6 P__law_home S_lhome := by
  refine Fn.mk1 (st := s__law_home) T 45 rfl T.g__law_home (fun fd F => fn_one F sc__law_home ?_) (fun _ _ _ _ _ _ us hl => match us, hl with | [_], _ => rfl)
  rintro as R ⟨h, rfl, ho, rfl⟩
  refine ⟨⟨rfl, by simp [isMut]⟩, fun cdv A outer s' H S0 E hr => ?_⟩
  refine dss_then (ρ1 := [.dat (hdD h), .dat (.lst ((hsF h).map fun p => p.2)), .un, .un]) (ds_lcFI 1 [(".0", 2), ("_law_word", 3)] (RL := fun ds => ds = (hsF h).map fun p => Dt.str p.1) (di_tup (DR.mono (de_tp (ds := [.str "rows", .str "keeps", .str "joins", .str "again", .str "stamps", .str "on", .str "changes"]) (da_cons de_str (da_cons de_str (da_cons de_str (da_cons de_str (da_cons de_str (da_cons de_str (da_cons de_str da_nil)))))))) fun d e => ⟨_, e, rfl⟩))
    (lcI_map (hsF h) (fun p => Dt.str p.1) (fun _ => true) (fun p => p.2) (by exact Nat.le_of_ble_eq_true rfl) (hs_scl h) (fun p => [.dat (hdD h), .un, .un, .dat (.str p.1)]) (L := [3]) (by simp) (fun a _ s Hb C cl fp => dg_name 3 rfl sc__law_home.nd)
      (fun a _ s Hb C cl fp => dqs_nil) (fun a ha _ s Hb C cl fp => de_dget (room1 hr) (de_v 0) (de_v 3) (hs_hd h a ha))) (fun ds e => by rw [e, List.filter_eq_self.mpr (fun _ _ => rfl)] <;> rfl) sc__law_home.nd (blkOk_by (show blkC N__law_home (defScope s__law_home) _ _ = true by decide +kernel))) ?_
  refine dss_one (ds_ret (DR.mono (dr_make (ok_House T) hr (da_cons (de_ix (de_v 1) de_int (id_lst 0)) (da_cons (de_ix (de_v 1) de_int (id_lst 1)) (da_cons (de_ix (de_v 1) de_int (id_lst 2)) (da_cons (de_ix (de_v 1) de_int (id_lst 3)) (da_cons (de_ix (de_v 1) de_int (id_lst 4)) (da_cons (de_ix (de_v 1) de_int (id_lst 5)) (da_cons (de_ix (de_v 1) de_int (id_lst 6)) da_nil))))))) ⟨h, rfl, ho, rfl⟩) fun d ⟨fds, e1, e2⟩ => by rw [e1, e2] <;> rfl))
end

end DL
/-! Lo -/
set_option Elab.async false
set_option linter.all false
set_option maxRecDepth 100000
set_option maxHeartbeats 4000000
namespace DL
open PySem PySem.Spec PyProof.Rows L2
local macro_rules | `(tactic| walk_at "od") => `(tactic| first | exact od_eqS | exact od_neS | exact od_inT | exact od_notInT | exact od_inL | exact od_notInL | exact od_eqB | exact od_neB)
local macro_rules | `(tactic| walk_at "len") => `(tactic| first | omega | (simp only [List.length_append, List.length_cons, List.length_nil, List.length_take, List.length_drop]; omega))
section
variable {P : Program} {w : World} {K : PySem.W.Frag} {mg : Str → Option Value} {base : Heap}
abbrev TT (t : Tk) : Tst := ⟨false, t⟩
abbrev NT (t : Tk) : Tst := ⟨true, t⟩
def g1 : List (List Rw) := [[⟨[TT .same], .slot⟩, ⟨[], .find⟩], [⟨[TT .covers], .key⟩, ⟨[], .find⟩], [⟨[], .slot⟩]]
def g2 : List (List Rw) := [[⟨[TT .same, TT .fits], .slot⟩, ⟨[TT .there], .key⟩, ⟨[], .find⟩], [⟨[], .key⟩, ⟨[], .find⟩]]
def g3 : List (List Rw) := [[⟨[TT .holds], .key⟩, ⟨[NT .same], .find⟩, ⟨[], .slot⟩], [⟨[NT .fits], .find⟩, ⟨[], .slot⟩]]
structure LgOk (n : Nat) (rs : List Rw) : Prop where
  rows : rs.length ≤ n
  tests : ∀ q ∈ rs, q.tests.length ≤ 5
theorem good_ok : ∀ rs ∈ (g1 ++ g2) ++ g3, LgOk 3 rs := by
  have h : ((g1 ++ g2) ++ g3).all (fun rs => decide (rs.length ≤ 3) && rs.all fun q => decide (q.tests.length ≤ 5)) = true := by decide
  intro rs hr
  have := List.all_eq_true.mp h rs hr
  obtain ⟨h1, h2⟩ := Bool.and_eq_true_iff.mp this
  exact ⟨of_decide_eq_true h1, fun q hq => of_decide_eq_true (List.all_eq_true.mp h2 q hq)⟩
section
variable {X : Cx} {ρ : List Sl} {a b : Expr} {es : List Expr} {pos : Pos}
theorem de_eqJ (ha : DR X a ρ IsI) (hb : DR X b ρ IsI) (hm : behindInMarks .Eq b = false := by first | exact nomark _ | rfl) : DR X (.Compare a [.Eq] [b] pos) ρ (fun d => ∃ k, d = .bl k) := dr_cmp ha hb (fun d e ⟨m, h1⟩ ⟨n, h2⟩ => by
  subst h1 h2
  intro Hs H v u s rv ru Q q
  exact od_eqI Hs H v u s rv ru Q fun z Hs' H' g t p r => q z Hs' H' g t p ⟨_, r⟩) hm
theorem de_strT {s : Str} {j : Nat} (t : Tst) (h : s = tstS t := by decide +kernel) : DE X (.Constant (.str s) j pos) ρ (.str (tstS t)) := DE.eq de_str (by rw [h])
theorem de_strD {s : Str} {j : Nat} (t : Dd) (h : s = ddS t := by decide +kernel) : DE X (.Constant (.str s) j pos) ρ (.str (ddS t)) := DE.eq de_str (by rw [h])
structure JE (X : Cx) (e : Expr) (ρ : List Sl) (d : Dt) : Prop where
  run : DE X e ρ d
structure JA (X : Cx) (es : List Expr) (ρ : List Sl) (as : List Sl) : Prop where
  run : DA X es ρ (fun z => z = as)
theorem ja_nil : JA X [] ρ [] := ⟨da_nil⟩
theorem ja_cons {d : Dt} {as : List Sl} (h : JE X a ρ d) (t : JA X es ρ as) (hs : starEach (a :: es) X.env = (false, eval a X.env) :: starEach es X.env) : JA X (a :: es) ρ (.dat d :: as) := ⟨da_cons h.run t.run hs⟩
theorem je_lst {ds : List Dt} (h : JA X es ρ (ds.map Sl.dat)) (hl : ds.length ≤ 100000) : JE X (.List es pos) ρ (.lst ds) := ⟨DL.fzE (dl_ls h.run hl)⟩
theorem je_ln {r : Rw} {k : Nat} (ha : JE X a ρ (.lst (tsD r.tests))) (hb : JE X b ρ (.str (ddS r.deed))) (hs1 : starEach [a, b] X.env = (false, eval a X.env) :: starEach [b] X.env) (hs2 : starEach [b] X.env = (false, eval b X.env) :: starEach [] X.env) : JE X (.Tuple [a, b] k pos) ρ (lnD r) := ⟨de_tp (ds := [_, _]) (da_cons ha.run (da_cons hb.run da_nil hs2) hs1)⟩
theorem je_strT {s : Str} {j : Nat} (t : Tst) (h : s = tstS t) : JE X (.Constant (.str s) j pos) ρ (.str (tstS t)) := ⟨de_strT t h⟩
theorem je_strD {s : Str} {j : Nat} (t : Dd) (h : s = ddS t) : JE X (.Constant (.str s) j pos) ρ (.str (ddS t)) := ⟨de_strD t h⟩
theorem je_cat {x y : List Dt} (ha : JE X a ρ (.lst x)) (hb : JE X b ρ (.lst y)) (hl : x.length + y.length ≤ sizeLine) : JE X (.BinOp a .Add b pos) ρ (.lst (x ++ y)) :=
  ⟨DL.fzE (dl_cat (RA := fun l => l = x) (RB := fun l => l = y) (DR.mono ha.run fun d e => ⟨_, e, rfl⟩) (DR.mono hb.run fun d e => ⟨_, e, rfl⟩) (fun u v hx hy => ⟨by rw [hx, hy]; exact hl, by rw [hx, hy]⟩))⟩
theorem JE.eq {d d' : Dt} (h : JE X a ρ d) (e : d = d') : JE X a ρ d' := ⟨DE.eq h.run e⟩
theorem js_set {S0 H0 : Hp} {D : DEnds} (i : Nat) {x : Str} {p2 : Pos} {d : Dt} (h : JE X a ρ d) (hn : D.nx (ρ.set i (.dat d))) (hN : X.N.Nodup) (hi : X.N[i]? = some x) (hx : Loc X.env.scope x) (hs : swapsWith a (some (.Name x p2)) pos.line X.env = pure false)
    (hf : X.fn x = true ∨ X.env.scope.names.lookup x = some .local) : DS X S0 H0 (.Assign [.Name x p2] a pos) ρ D := ds_set i h.run hn hN hi hx hs hf
end
theorem di_mono {X : Cx} {tg iter : Expr} {ρ : List Sl} {RL RL' : List Dt → Prop} (h : DI X tg iter ρ RL) (k : ∀ ds, RL ds → RL' ds) : DI X tg iter ρ RL' := fun Hs H σ E Rk q => h Hs H σ E Rk fun J Hs' H' ds t r wk => q J Hs' H' ds t (k ds r) wk
theorem tst_of : ∀ l : List Dt, (∀ d ∈ l, IsTst d) → ∃ ts : List Tst, l = tsD ts ∧ ts.length = l.length
  | [], _ => ⟨[], rfl, rfl⟩
  | d :: l, h => by
    obtain ⟨t, rfl⟩ := h d (by simp)
    obtain ⟨ts, h1, h2⟩ := tst_of l fun x hx => h x (by simp [hx])
    exact ⟨t :: ts, by rw [h1] <;> rfl, by rw [List.length_cons, List.length_cons, h2]⟩
theorem tk_in : ∀ d ∈ ([.str "there", .str "same", .str "holds", .str "covers", .str "fits"] : List Dt), ∃ t : Tk, d = .str (tkS t) := fun d hd => by
  rcases List.mem_cons.mp hd with rfl | hd
  · exact ⟨.there, rfl⟩
  rcases List.mem_cons.mp hd with rfl | hd
  · exact ⟨.same, rfl⟩
  rcases List.mem_cons.mp hd with rfl | hd
  · exact ⟨.holds, rfl⟩
  rcases List.mem_cons.mp hd with rfl | hd
  · exact ⟨.covers, rfl⟩
  rcases List.mem_cons.mp hd with rfl | hd
  · exact ⟨.fits, rfl⟩
  cases hd
theorem dd_mem : ∀ d ∈ ([.str "slot", .str "key", .str "find"] : List Dt), ∃ t : Dd, d = .str (ddS t) := fun d hd => by
  rcases List.mem_cons.mp hd with rfl | hd
  · exact ⟨.slot, rfl⟩
  rcases List.mem_cons.mp hd with rfl | hd
  · exact ⟨.key, rfl⟩
  rcases List.mem_cons.mp hd with rfl | hd
  · exact ⟨.find, rfl⟩
  cases hd
theorem not_mul (i : Nat) (hi : i < 2) (t : Tk) : (⟨((List.replicate i ("not " : Str).cps.toList).flatten).toArray⟩ : Str) ++ tkS t = tstS ⟨decide (i = 1), t⟩ := by
  match i, hi with
  | 0, _ => cases t <;> decide +kernel
  | 1, _ => cases t <;> decide +kernel
theorem not_len (i : Nat) (hi : i < 2) (t : Tk) : (⟨((List.replicate i ("not " : Str).cps.toList).flatten).toArray⟩ : Str).length + (tkS t).length ≤ sizeLine := by
  match i, hi with
  | 0, _ => cases t <;> decide +kernel
  | 1, _ => cases t <;> decide +kernel
def tsAll : Dt := .lst [.str "there", .str "same", .str "holds", .str "covers", .str "fits"]
theorem cut_map_hi (rs : List Rw) (n : Nat) : cutD (rs.map lnD) none (some (n : Int)) = (rs.take n).map lnD := by rw [cutD_hi, List.map_take]
theorem cut_map_lo (rs : List Rw) (n : Nat) : cutD (rs.map lnD) (some (n : Int)) none = (rs.drop n).map lnD := by rw [cutD_lo, List.map_drop]
end

end DL
/-! Ln -/
set_option Elab.async false
set_option linter.all false
set_option maxRecDepth 100000
set_option maxHeartbeats 4000000
namespace DL
open PySem PySem.Spec PyProof.Rows L2
local macro_rules | `(tactic| walk_at "od") => `(tactic| first | exact od_eqS | exact od_neS | exact od_inT | exact od_notInT | exact od_inL | exact od_notInL | exact od_eqB | exact od_neB)
local macro_rules | `(tactic| walk_at "len") => `(tactic| first | omega | (simp only [List.length_append, List.length_cons, List.length_nil, List.length_take, List.length_drop]; omega))
section
variable {P : Program} {w : World} {K : PySem.W.Frag} {mg : Str → Option Value} {base : Heap}
def S_llines : List Sl → (Dt → Prop) → Prop := fun as R => as = [.box] ∧ R = fun d => ∃ rs, d = lnsD rs ∧ LgOk 5 rs
theorem ok__law_lines (T : Top w K mg) : Fn P w K mg base "_law_lines" 3 P__law_lines S_llines := by
  refine Fn.mk1 (st := s__law_lines) T 46 rfl T.g__law_lines (fun fd F => fn_one F sc__law_lines ?_) (fun _ _ _ _ _ _ us hl => match us, hl with | [_], _ => rfl)
  rintro as R ⟨rfl, rfl⟩
  refine ⟨⟨rfl, by simp [isMut]⟩, fun cdv A outer s' H S0 E hr => ?_⟩
  refine dss_then (ρ1 := [.box, .dat (.lst (g1.map lnsD)), .un, .un, .un, .un, .un, .un, .un]) ?_ ?_
  · refine @js_set _ _ _ _ _ _ _ 1 _ _ (.lst (g1.map lnsD)) ?_ rfl sc__law_lines.nd rfl (Or.inl rfl) rfl (.inr rfl)
    exact (je_lst (ds := g1.map lnsD) (ja_cons (je_lst (ds := [lnD ⟨[TT .same], .slot⟩, lnD ⟨[], .find⟩]) (ja_cons (je_ln (r := ⟨[TT .same], .slot⟩) (je_lst (ds := tsD [TT .same]) (ja_cons (je_strT (TT .same) (by decide +kernel)) ja_nil rfl) (Nat.le_of_ble_eq_true rfl)) (je_strD .slot (by decide +kernel)) rfl rfl) (ja_cons (je_ln (r := ⟨[], .find⟩) (je_lst (ds := tsD []) ja_nil (Nat.le_of_ble_eq_true rfl)) (je_strD .find (by decide +kernel)) rfl rfl) ja_nil rfl) rfl) (Nat.le_of_ble_eq_true rfl))
      (ja_cons (je_lst (ds := [lnD ⟨[TT .covers], .key⟩, lnD ⟨[], .find⟩]) (ja_cons (je_ln (r := ⟨[TT .covers], .key⟩) (je_lst (ds := tsD [TT .covers]) (ja_cons (je_strT (TT .covers) (by decide +kernel)) ja_nil rfl) (Nat.le_of_ble_eq_true rfl)) (je_strD .key (by decide +kernel)) rfl rfl) (ja_cons (je_ln (r := ⟨[], .find⟩) (je_lst (ds := tsD []) ja_nil (Nat.le_of_ble_eq_true rfl)) (je_strD .find (by decide +kernel)) rfl rfl) ja_nil rfl) rfl) (Nat.le_of_ble_eq_true rfl))
      (ja_cons (je_lst (ds := [lnD ⟨[], .slot⟩]) (ja_cons (je_ln (r := ⟨[], .slot⟩) (je_lst (ds := tsD []) ja_nil (Nat.le_of_ble_eq_true rfl)) (je_strD .slot (by decide +kernel)) rfl rfl) ja_nil rfl) (Nat.le_of_ble_eq_true rfl))
      ja_nil rfl) rfl) rfl) (Nat.le_of_ble_eq_true rfl))
  refine dss_then (ρ1 := [.box, .dat (.lst ((g1 ++ g2).map lnsD)), .un, .un, .un, .un, .un, .un, .un]) ?_ ?_
  · refine @js_set _ _ _ _ _ _ _ 1 _ _ (.lst ((g1 ++ g2).map lnsD)) ?_ rfl sc__law_lines.nd rfl (Or.inl rfl) rfl (.inr rfl)
    refine JE.eq (d := .lst (g1.map lnsD ++ g2.map lnsD)) ?_ (by rw [← List.map_append])
    refine je_cat ⟨de_v 1⟩ ?_ (by rw [List.length_map, List.length_map]; exact (show (5 : Nat) ≤ sizeLine by decide))
    exact (je_lst (ds := g2.map lnsD) (ja_cons (je_lst (ds := [lnD ⟨[TT .same, TT .fits], .slot⟩, lnD ⟨[TT .there], .key⟩, lnD ⟨[], .find⟩]) (ja_cons (je_ln (r := ⟨[TT .same, TT .fits], .slot⟩) (je_lst (ds := tsD [TT .same, TT .fits]) (ja_cons (je_strT (TT .same) (by decide +kernel)) (ja_cons (je_strT (TT .fits) (by decide +kernel)) ja_nil rfl) rfl) (Nat.le_of_ble_eq_true rfl)) (je_strD .slot (by decide +kernel)) rfl rfl) (ja_cons (je_ln (r := ⟨[TT .there], .key⟩) (je_lst (ds := tsD [TT .there]) (ja_cons (je_strT (TT .there) (by decide +kernel)) ja_nil rfl) (Nat.le_of_ble_eq_true rfl)) (je_strD .key (by decide +kernel)) rfl rfl) (ja_cons (je_ln (r := ⟨[], .find⟩) (je_lst (ds := tsD []) ja_nil (Nat.le_of_ble_eq_true rfl)) (je_strD .find (by decide +kernel)) rfl rfl) ja_nil rfl) rfl) rfl) (Nat.le_of_ble_eq_true rfl))
      (ja_cons (je_lst (ds := [lnD ⟨[], .key⟩, lnD ⟨[], .find⟩]) (ja_cons (je_ln (r := ⟨[], .key⟩) (je_lst (ds := tsD []) ja_nil (Nat.le_of_ble_eq_true rfl)) (je_strD .key (by decide +kernel)) rfl rfl) (ja_cons (je_ln (r := ⟨[], .find⟩) (je_lst (ds := tsD []) ja_nil (Nat.le_of_ble_eq_true rfl)) (je_strD .find (by decide +kernel)) rfl rfl) ja_nil rfl) rfl) (Nat.le_of_ble_eq_true rfl))
      ja_nil rfl) rfl) (Nat.le_of_ble_eq_true rfl))
  refine dss_then (ρ1 := [.box, .dat (.lst (((g1 ++ g2) ++ g3).map lnsD)), .un, .un, .un, .un, .un, .un, .un]) ?_ ?_
  · refine @js_set _ _ _ _ _ _ _ 1 _ _ (.lst (((g1 ++ g2) ++ g3).map lnsD)) ?_ rfl sc__law_lines.nd rfl (Or.inl rfl) rfl (.inr rfl)
    refine JE.eq (d := .lst ((g1 ++ g2).map lnsD ++ g3.map lnsD)) ?_ (by rw [← List.map_append])
    refine je_cat ⟨de_v 1⟩ ?_ (by rw [List.length_map, List.length_map]; exact (show (7 : Nat) ≤ sizeLine by decide))
    exact (je_lst (ds := g3.map lnsD) (ja_cons (je_lst (ds := [lnD ⟨[TT .holds], .key⟩, lnD ⟨[NT .same], .find⟩, lnD ⟨[], .slot⟩]) (ja_cons (je_ln (r := ⟨[TT .holds], .key⟩) (je_lst (ds := tsD [TT .holds]) (ja_cons (je_strT (TT .holds) (by decide +kernel)) ja_nil rfl) (Nat.le_of_ble_eq_true rfl)) (je_strD .key (by decide +kernel)) rfl rfl) (ja_cons (je_ln (r := ⟨[NT .same], .find⟩) (je_lst (ds := tsD [NT .same]) (ja_cons (je_strT (NT .same) (by decide +kernel)) ja_nil rfl) (Nat.le_of_ble_eq_true rfl)) (je_strD .find (by decide +kernel)) rfl rfl) (ja_cons (je_ln (r := ⟨[], .slot⟩) (je_lst (ds := tsD []) ja_nil (Nat.le_of_ble_eq_true rfl)) (je_strD .slot (by decide +kernel)) rfl rfl) ja_nil rfl) rfl) rfl) (Nat.le_of_ble_eq_true rfl))
      (ja_cons (je_lst (ds := [lnD ⟨[NT .fits], .find⟩, lnD ⟨[], .slot⟩]) (ja_cons (je_ln (r := ⟨[NT .fits], .find⟩) (je_lst (ds := tsD [NT .fits]) (ja_cons (je_strT (NT .fits) (by decide +kernel)) ja_nil rfl) (Nat.le_of_ble_eq_true rfl)) (je_strD .find (by decide +kernel)) rfl rfl) (ja_cons (je_ln (r := ⟨[], .slot⟩) (je_lst (ds := tsD []) ja_nil (Nat.le_of_ble_eq_true rfl)) (je_strD .slot (by decide +kernel)) rfl rfl) ja_nil rfl) rfl) (Nat.le_of_ble_eq_true rfl))
      ja_nil rfl) rfl) (Nat.le_of_ble_eq_true rfl))
  generalize hgood : (((g1 ++ g2) ++ g3).map lnsD) = gd
  have hgd : ∀ d ∈ gd, ∃ rs, d = lnsD rs ∧ LgOk 3 rs := fun d hd => by
    rw [← hgood] at hd
    obtain ⟨rs, h1, rfl⟩ := List.mem_map.mp hd
    exact ⟨rs, rfl, good_ok rs h1⟩
  have hgne : gd ≠ [] := fun z => by rw [z] at hgood; cases hgood
  have hgl : gd.length ≤ 100000 := by rw [← hgood, List.length_map]; exact Nat.le_of_ble_eq_true rfl
  refine dss_cons (M := fun z => ∃ rs, LgOk 3 rs ∧ z = [.box, .dat (.lst gd), .dat (lnsD rs), .dat tsAll, .un, .un, .un, .un, .un]) ?_ ?_
  · refine @ds_asgR _ _ _ _ _ _ (fun d => ∃ rs, LgOk 3 rs ∧ d = .tup [lnsD rs, tsAll]) _ _ [2, 3] ?_ ?_ rfl rfl rfl
    · refine dr_tup ?_
      refine dar_cons (R := fun d => ∃ ds : List Dt, d = .lst ds ∧ ∃ rs, ds = rs.map lnD ∧ LgOk 3 rs) (S := fun z => z = [.dat tsAll]) ?_ ?_ ?_
      · exact DL.fz (dl_ct (S := fun as => ∃ rs, as = [.dat (lnsD rs)] ∧ LgOk 3 rs) T.f_list bt_list (dar_cons (dr_call1 (ok__law_pick T) hr (da_box 0 (da_cons (de_v 1) da_nil)) ⟨gd, rfl, hgne, hgl, hgd⟩) da_nil (fun d as ⟨rs, h1, h2⟩ e => ⟨rs, by rw [h1, e], h2⟩)) (fun as ⟨rs, h1, h2⟩ => by
          subst h1
          intro Hs H vs E Q q
          exact cd_lstL Hs H vs E Q fun z Hs' H' t ⟨p, xs, ds, e1, e2, e3, e4, e5, e6⟩ => q z Hs' H' t ⟨p, xs, ds, e1, e2, e3, e4, e5, rs, e6, h2⟩))
      · exact da_cons (DL.fzE (dl_ls (ds := [_, _, _, _, _]) (da_cons de_str (da_cons de_str (da_cons de_str (da_cons de_str (da_cons de_str da_nil))))))) da_nil
      · exact fun d as ⟨ds, h1, rs, h2, h3⟩ e => ⟨[lnsD rs, tsAll], by rw [h1, h2, e] <;> rfl, Nat.le_of_ble_eq_true rfl, rs, h3, rfl⟩
    · exact fun d ⟨rs, h1, e⟩ => by rw [e]; exact dg2 2 3 ⟨rs, h1, rfl⟩ sc__law_lines.nd
  rintro z ⟨rs, hrs, rfl⟩
  refine dss_cons (M := fun z => ∃ rs, LgOk 5 rs ∧ z = [.box, .dat (.lst gd), .dat (lnsD rs), .dat tsAll, .un, .un, .un, .un, .un]) (ds_for (di_range1 (S := fun n => ∃ i : Nat, i < 3 ∧ n = (i : Int)) T.f_range (dar_cons (dr_call1 (ok__law_take T) (hr.mono (by decide)) (da_box 0 (da_cons de_int da_nil)) ⟨3, rfl, by decide, by decide, rfl⟩) da_nil (fun d as ⟨i, hi, h1⟩ e => ⟨_, by rw [h1, e], i, hi, rfl⟩)) (fun n ⟨i, hi, e⟩ => by omega)) fun ds ⟨n, ⟨m, hm, hn⟩, hds⟩ => ⟨fun i z => ∃ rs, LgOk (3 + i) rs ∧ z = [.box, .dat (.lst gd), .dat (lnsD rs), .dat tsAll, .un, .un, .un, .un, .un], ⟨_, ⟨rs, hrs, rfl⟩, Wk.refl _⟩, ?_, ?_⟩) ?_
  · rintro i d ρi hd ⟨rs, hrs, rfl⟩
    have hi : i < 3 := by
      have := (List.getElem?_eq_some_iff.mp hd).1
      rw [hds, upTo_len] at this
      omega
    have hrl := hrs.rows
    refine ⟨[4], dg_name 4 ?_ sc__law_lines.nd⟩
    refine dss_cons (M := fun z => ∃ ts : List Tst, ts.length ≤ 3 ∧ z = [.box, .dat (.lst gd), .dat (lnsD rs), .dat tsAll, .dat d, .dat (.lst (tsD ts)), .un, .un, .un]) (ds_lcF 5 [(".0", 7), ("_law_step", 8)] (RL := fun z => z.length ≤ 3) (di_mono (di_range1 (S := fun n => ∃ i : Nat, i < 3 ∧ n = (i : Int)) T.f_range (dar_cons (dr_call1 (ok__law_take T) (hr.mono (by decide)) (da_box 0 (da_cons de_int da_nil)) ⟨3, rfl, by decide, by decide, rfl⟩) da_nil (fun d as ⟨i, hi, h1⟩ e => ⟨_, by rw [h1, e], i, hi, rfl⟩)) (fun n ⟨i, hi, e⟩ => by omega)) fun ds ⟨n, ⟨m, hm, hn⟩, hds⟩ => by rw [hds, upTo_len]; omega)
      (lc_rel IsTst (fun ds e => by omega) (fun d hd => hd.ni) [8] (by simp) (fun d2 => [.box, .dat (.lst gd), .dat (lnsD rs), .dat tsAll, .dat d, .un, .un, .un, .dat d2]) (fun ds e d hd s Hb C cl fp => dg_name 8 rfl sc__law_lines.nd)
        (fun ds e d hd s Hb C cl fp => dr_bin (R1 := fun d => ∃ i : Nat, i < 2 ∧ d = .str ⟨((List.replicate i ("not " : Str).cps.toList).flatten).toArray⟩) (R2 := fun d => ∃ t : Tk, d = .str (tkS t)) (dr_bin (R1 := fun d => d = .str "not ") (R2 := IsN 2) de_str (dr_call1 (ok__law_take T) (hr.mono (by decide)) (da_box 0 (da_cons de_int da_nil)) ⟨2, rfl, by decide, by decide, rfl⟩) (fun d e h1 ⟨i, hi, h2⟩ => by
            subst h1 h2
            intro Hs H v u s rv ru Q q
            exact od_mulS (z := "not ") (n := i) rfl (by omega) (by decide +kernel) Hs H v u s rv ru Q fun z Hs' H' g t p r => q z Hs' H' g t p ⟨i, hi, r⟩)) (dr_call1 (ok__law_pick T) hr (da_box 0 (da_cons (de_v 3) da_nil)) ⟨_, rfl, (fun z => by cases z), by exact Nat.le_of_ble_eq_true rfl, tk_in⟩) (fun d e ⟨i, hi, h1⟩ ⟨t, h2⟩ => by
            subst h1 h2
            intro Hs H v u s rv ru Q q
            exact od_addS (not_len i hi t) Hs H v u s rv ru Q fun z Hs' H' g tt p r => q z Hs' H' g tt p ⟨⟨decide (i = 1), t⟩, by rw [r, not_mul i hi t]⟩))) (fun l ⟨ds, e, h1, h2⟩ => by
        obtain ⟨ts, h3, h4⟩ := tst_of l h2
        exact ⟨ts, by omega, by rw [h3] <;> rfl⟩) sc__law_lines.nd (blkOk_by (show blkC N__law_lines (defScope s__law_lines) _ _ = true by decide +kernel))) ?_
    rintro z ⟨ts, hts, rfl⟩
    refine dss_cons (M := fun z => ∃ a : Nat, z = [.box, .dat (.lst gd), .dat (lnsD rs), .dat tsAll, .dat d, .dat (.lst (tsD ts)), .dat (.int (a : Int)), .un, .un]) (ds_setR 6 (dr_call1 (ok__law_take T) (hr.mono (by decide)) (da_box 0 (da_cons (DE.eq (de_bin (de_lenL T.f_len (de_v 2)) de_int od_add) (d' := .int ((rs.length + 1 : Nat) : Int)) (by rw [List.length_map, Int.natCast_add] <;> rfl)) da_nil)) ⟨rs.length + 1, rfl, by omega, by omega, rfl⟩) (fun d ⟨a, _, e⟩ => ⟨a, by rw [e] <;> rfl⟩) sc__law_lines.nd) ?_
    rintro z ⟨a, rfl⟩
    refine dss_one (ds_setR 2 (DL.fz (RL := fun l => ∃ rs2, l = rs2.map lnD ∧ LgOk (3 + (i + 1)) rs2) (dl_cat (RA := fun l => ∃ dd : Dd, l = (rs.take a ++ [Rw.mk ts dd]).map lnD) (RB := fun l => ∃ b : Nat, l = (rs.drop (a + b)).map lnD) (DL.fz (dl_cat (RA := fun l => l = (rs.take a).map lnD) (RB := fun l => ∃ dd : Dd, l = [lnD ⟨ts, dd⟩]) (DL.fz (DL.mono (dl_slL (R1 := fun l => l = rs.map lnD) (S1 := fun o => o = none) (S2 := fun o => o = some (a : Int)) (RL := fun l => l = (rs.take a).map lnD) (DR.mono (de_v 2) fun d e => ⟨_, e, rfl⟩) dp_none (dp_some (de_v 6)) (fun z l hh e1 e2 e3 => by rw [e1, e2, e3, cut_map_hi])) fun l e => e)) (DL.fz (dl_lst (dar_cons (R := fun d => ∃ dd : Dd, d = lnD ⟨ts, dd⟩) (dr_tup (dar_cons (S := fun as => ∃ dd : Dd, as = [Sl.dat (.str (ddS dd))]) (de_v 5) (dar_cons (dr_call1 (ok__law_pick T) hr (da_box 0 (da_cons (DL.fzE (dl_ls (ds := [_, _, _]) (da_cons de_str (da_cons de_str (da_cons de_str da_nil))))) da_nil)) ⟨_, rfl, (fun z => by cases z), by exact Nat.le_of_ble_eq_true rfl, dd_mem⟩) da_nil (fun d as ⟨t, h1⟩ e => ⟨t, by rw [h1, e]⟩)) (fun d as e ⟨dd, h1⟩ => ⟨[.lst (tsD ts), .str (ddS dd)], by rw [e, h1] <;> rfl, Nat.le_of_ble_eq_true rfl, dd, rfl⟩))) da_nil (fun d as ⟨dd, h1⟩ e => ⟨[d], by rw [e] <;> rfl, Nat.le_of_ble_eq_true rfl, dd, by rw [h1]⟩)))) (fun x y hx ⟨dd, hy⟩ => ⟨by rw [hx, hy, List.length_map, List.length_take, List.length_singleton, sizeLine_eq]; omega, dd, by rw [hx, hy, List.map_append] <;> rfl⟩)))
      (DL.fz (DL.mono (dl_slL (R1 := fun l => l = rs.map lnD) (S1 := fun o => ∃ i : Int, o = some i ∧ ∃ b : Nat, i = ((a + b : Nat) : Int)) (S2 := fun o => o = none) (RL := fun l => ∃ b : Nat, l = (rs.drop (a + b)).map lnD) (DR.mono (de_v 2) fun d e => ⟨_, e, rfl⟩) (dpr_some (S := fun i => ∃ b : Nat, i = ((a + b : Nat) : Int)) (dr_bin (R1 := fun d => d = .int (a : Int)) (R2 := fun d => ∃ b : Nat, d = .int (b : Int)) (de_v 6) (dr_ct (S := fun as => ∃ k : Bool, as = [.dat (.bl k)]) T.f_int bt_int (dar_cons (R := fun d => ∃ k, d = .bl k) (de_eqJ (DR.mono (dr_call1 (ok__law_take T) (hr.mono (by decide)) (da_box 0 (da_cons de_int da_nil)) ⟨4, rfl, by decide, by decide, rfl⟩) (fun d q => q.i)) di_int) da_nil (fun d as ⟨k, h1⟩ e => ⟨k, by rw [h1, e]⟩)) (fun as ⟨k, h1⟩ => by
          subst h1
          intro Hs H vs E Q q
          exact cd_intB Hs H vs E Q fun z Hs' H' t ⟨g, r, pr⟩ => q z Hs' H' t ⟨g, ⟨if k then 1 else 0, by rw [r]; cases k <;> rfl⟩, pr⟩)) (fun d e h1 ⟨b, h2⟩ => by
          subst h1 h2
          intro Hs H v u s rv ru Q q
          exact od_add Hs H v u s rv ru Q fun z Hs' H' g t p r => q z Hs' H' g t p ⟨_, r, b, by rw [Int.natCast_add]⟩))) dp_none (fun z l hh e1 ⟨i2, e2, b, e4⟩ e3 => ⟨b, by rw [e1, e2, e3, e4, cut_map_lo]⟩)) fun l e => e))
      (fun x y ⟨dd, hx⟩ ⟨b, hy⟩ => ⟨by rw [hx, hy, List.length_map, List.length_append, List.length_take, List.length_map, List.length_drop, List.length_singleton, sizeLine_eq]; omega, (rs.take a ++ [Rw.mk ts dd]) ++ rs.drop (a + b), by rw [hx, hy, ← List.map_append], ?_, fun q hq => ?_⟩))) (fun d ⟨l, e, rs2, h1, h2⟩ => ⟨_, ⟨rs2, h2, rfl⟩, by rw [e, h1]; exact .eq (.eq (.eq (.eq (.un (.un (.un (.eq (.eq .nil))))))))⟩) sc__law_lines.nd)
    · rw [List.length_append, List.length_append, List.length_take, List.length_drop, List.length_singleton]; omega
    · rcases List.mem_append.mp hq with hq | hq
      · rcases List.mem_append.mp hq with hq | hq
        · exact hrs.tests q (List.mem_of_mem_take hq)
        · rw [List.mem_singleton.mp hq]; show ts.length ≤ 5; omega
      · exact hrs.tests q (List.mem_of_mem_drop hq)
  · rintro z ⟨rs, hrs, rfl⟩
    have hl := hrs.rows
    rw [hds, upTo_len] at hl
    exact ⟨rs, ⟨by omega, hrs.tests⟩, rfl⟩
  rintro z ⟨rs, hrs, rfl⟩
  exact dss_one (ds_retE (de_v 2) ⟨rs, rfl, hrs⟩)
end

end DL
/-! Lr -/
set_option Elab.async false
set_option linter.all false
set_option maxRecDepth 100000
set_option maxHeartbeats 4000000
namespace DL
open PySem PySem.Spec PyProof.Rows L2
local macro_rules | `(tactic| walk_at "od") => `(tactic| first | exact od_eqS | exact od_neS | exact od_inT | exact od_notInT | exact od_inL | exact od_notInL | exact od_eqB | exact od_neB)
local macro_rules | `(tactic| walk_at "len") => `(tactic| first | omega | (simp only [List.length_append, List.length_cons, List.length_nil, List.length_take, List.length_drop]; omega))
section
variable {P : Program} {w : World} {K : PySem.W.Frag} {mg : Str → Option Value} {base : Heap}
theorem dr_makeR {X : Cx} {ρ : List Sl} {e : Expr} {es : List Expr} {pos p : Pos} {k : Nat} {ps : List Str} {C : Str} {S : List Sl → (List (Str × Dt) → Prop) → Prop} {Sa : List Sl → Prop} {R : Dt → Prop} (F : FnI X.prog X.w X.K X.mg X.base C k ps S) (hr : Room (k + 1) X.A) (ha : DA X (e :: es) ρ Sa) (hS : ∀ as, Sa as → ∃ Rf, S as Rf ∧ ∀ fds, Rf fds → R (.ins C fds)) (hg : Gl X C := by rfl)
    (hdb : (C == ("__debug__" : Str)) = false := by decide) (he : starEach (e :: es) X.env = (false, eval e X.env) :: starEach es X.env := by rfl) (hpl : (backTo pos (starEach es X.env)).any (·.1) = false := by rfl) : DR X (.Call (.Name C p) (e :: es) [] pos) ρ R := fun Hs H σ E Q q => by
  obtain ⟨fd, f, M, F1, B1⟩ := F.ok
  refine wpE_of (pe_make M F1 hr hg F.gl B1 .nil pass0 pa_wp hdb he hpl) (ha Hs H σ E _ fun vs as' Hs' H' t E' r => fun x dx hx hdx hne => ?_)
  obtain ⟨Rf, h1, h2⟩ := hS as' r
  refine ⟨Hs', H', x, dx, vs, as', Rf, by rw [List.append_nil], rfl, hx, hdx, hne, E', h1, fun fds H2s H2 hR t2 hr2 => ⟨rfl, q (.ref x) H2s H2 (t.trans t2) ⟨_, h2 fds hR, hr2⟩⟩⟩
theorem row_of : ∀ l : List Dt, (∀ d ∈ l, ∃ q : Rw × Str, d = rwD q ∧ q.2.length ≤ 200 ∧ q.1.tests.length ≤ 10) → ∃ qs : List (Rw × Str), l = qs.map rwD ∧ qs.length = l.length ∧ ∀ q ∈ qs, q.2.length ≤ 200 ∧ q.1.tests.length ≤ 10
  | [], _ => ⟨[], rfl, rfl, fun q hq => by cases hq⟩
  | d :: l, h => by
    obtain ⟨q, rfl, h1, h2⟩ := h d (by simp)
    obtain ⟨qs, h3, h4, h5⟩ := row_of l fun x hx => h x (by simp [hx])
    refine ⟨q :: qs, by rw [h3] <;> rfl, by rw [List.length_cons, List.length_cons, h4], fun x hx => ?_⟩
    rcases List.mem_cons.mp hx with e | hx
    · rw [e]; exact ⟨h1, h2⟩
    · exact h5 x hx
def S_lreader : List Sl → (Dt → Prop) → Prop := fun as R => ∃ (up : Bool) (rs : List Rw), as = [.dat (.str (wayS up)), .dat (lnsD rs)] ∧ LgOk 5 rs ∧ R = fun d => ∃ r : Rd', d = rdD r ∧ r.up = up ∧ RdOk r
theorem ok__law_reader (T : Top w K mg) : Fn P w K mg base "_law_reader" 6 P__law_reader S_lreader := by
  refine Fn.mk1 (st := s__law_reader) T 47 rfl T.g__law_reader (fun fd F => fn_one F sc__law_reader ?_) (fun _ _ _ _ _ _ us hl => match us, hl with | [_, _], _ => rfl)
  rintro as R ⟨up, rs, rfl, hrs, rfl⟩
  refine ⟨⟨rfl, by simp [isMut]⟩, fun cdv A outer s' H S0 E hr => ?_⟩
  have hrl := hrs.rows
  refine dss_one (ds_ret (dr_makeR (ok_Reader T) (hr.mono (by decide)) (Sa := fun as => ∃ qs : List (Rw × Str), as = [.dat (.str (wayS up)), .dat (.lst (qs.map rwD))] ∧ qs.length ≤ 5 ∧ ∀ q ∈ qs, q.2.length ≤ 200 ∧ q.1.tests.length ≤ 10) (da_pre (S := fun as => ∃ qs : List (Rw × Str), as = [.dat (.lst (qs.map rwD))] ∧ qs.length ≤ 5 ∧ ∀ q ∈ qs, q.2.length ≤ 200 ∧ q.1.tests.length ≤ 10) (dar_cons (R := fun d => ∃ l, d = .lst l ∧ ∃ qs : List (Rw × Str), l = qs.map rwD ∧ qs.length ≤ 5 ∧ ∀ q ∈ qs, q.2.length ≤ 200 ∧ q.1.tests.length ≤ 10) (DL.fz (DL.mono (dl_lc (own := [(".0", 2), ("_law_tests", 3), ("_law_deed", 4)]) (di_list (RL := fun z => z = rs.map lnD) (DR.mono (de_v 1) fun d e => ⟨_, e, rfl⟩))
      (lc_rel (fun d => ∃ q : Rw × Str, d = rwD q ∧ q.2.length ≤ 200 ∧ q.1.tests.length ≤ 10) (fun ds e => by rw [e, List.length_map]; omega) (fun d ⟨q, e, _⟩ => by rw [e] <;> rfl) [3, 4] (by simp) (fun d => [.dat (.str (wayS up)), .dat (lnsD rs), .un, .dat (match d with | .tup [a, _] => a | _ => .non), .dat (match d with | .tup [_, b] => b | _ => .non)])
        (fun ds e d hd s Hb C cl fp => by
          rw [e] at hd
          obtain ⟨q, _, rfl⟩ := List.mem_map.mp hd
          exact dg2 3 4 rfl sc__law_reader.nd)
        (fun ds e d hd s Hb C cl fp => by
          rw [e] at hd
          obtain ⟨q, hq, rfl⟩ := List.mem_map.mp hd
          have hqt := hrs.tests q hq
          exact dr_makeR (ok_Row T) (hr.mono (by decide)) (da_cons (de_v 3) (da_cons (de_v 4) da_nil)) (fun as e2 => ⟨_, ⟨q, e2, by omega, rfl⟩, fun fds ⟨t, e3, ht⟩ => ⟨(q, t), by rw [e3] <;> rfl, ht, by show q.tests.length ≤ 10; omega⟩⟩))) sc__law_reader.nd (blkOk_by (show blkC N__law_reader (defScope s__law_reader) _ _ = true by decide +kernel))) fun l ⟨ds, e, h1, h2⟩ => by
        obtain ⟨qs, h3, h4, h5⟩ := row_of l h2
        exact ⟨qs, h3, by rw [h4, h1, e, List.length_map]; exact hrl, h5⟩)) da_nil (fun d as ⟨l, h1, qs, h2, h3⟩ e => ⟨qs, by rw [h1, h2, e], h3⟩)) (de_v 0) (fun as ⟨qs, h1, h2⟩ => ⟨qs, by rw [h1], h2⟩)) (fun as ⟨qs, h1, h2, h3⟩ => ⟨_, ⟨up, qs, h1, by omega, fun q hq => (h3 q hq).1, rfl⟩, fun fds ⟨t, e, _⟩ => ⟨⟨up, qs, t⟩, by rw [e] <;> rfl, rfl, ⟨by show qs.length ≤ 1000; omega, fun q hq => by have := (h3 q hq).2; omega⟩⟩⟩)))
end

end DL
/-! Lq -/
set_option Elab.async false
set_option linter.all false
set_option maxRecDepth 100000
set_option maxHeartbeats 4000000
namespace DL
open PySem PySem.Spec PyProof.Rows L2
local macro_rules | `(tactic| walk_at "od") => `(tactic| first | exact od_eqS | exact od_neS | exact od_inT | exact od_notInT | exact od_inL | exact od_notInL | exact od_eqB | exact od_neB)
local macro_rules | `(tactic| walk_at "len") => `(tactic| first | omega | (simp only [List.length_append, List.length_cons, List.length_nil, List.length_take, List.length_drop]; omega))
section
def nod (w : List Lt) : List Lt := w.filter fun c => decide (c ≠ .d)
theorem all_d {t : List Lt} (h : ∀ c ∈ t, c = .d) : t = dots t.length := List.eq_replicate_iff.mpr ⟨rfl, h⟩
theorem nod_nil {t : List Lt} (h : nod t = []) : ∀ c ∈ t, c = .d := fun c hc => by
  have := List.filter_eq_nil_iff.mp h c hc
  simpa using this
theorem mem_dotS {m : Nat} {found : List (List Lt)} {tail w0 : List Lt} {n : Nat} (h : w0 ∈ found) (hn : n ≤ m) : w0 ++ dots n ++ tail ∈ dotS m found tail :=
  List.mem_flatMap.mpr ⟨w0, h, List.mem_map.mpr ⟨n, List.mem_range.mpr (by omega), rfl⟩⟩
theorem mem_dot (m : Nat) : ∀ (ls : List Lt) (found : List (List Lt)) (w0 t : List Lt), w0 ∈ found → nod t = ls → t.length ≤ ls.length + m → w0 ++ t ∈ dotS m (ls.foldl (fun f l => dotS m f [l]) found) []
  | [], found, w0, t, h, hn, hl => by
    have e := all_d (nod_nil hn)
    rw [e]
    have := mem_dotS (m := m) (tail := []) (n := t.length) h (by simpa using hl)
    rwa [List.append_nil] at this
  | l :: ls, found, w0, t, h, hn, hl => by
    obtain ⟨t1, t2, rfl, h1, h2, h3⟩ := List.filter_eq_cons_iff.mp hn
    have e1 : t1 = dots t1.length := all_d fun c hc => by simpa using h1 c hc
    have hls : ls.length ≤ t2.length := by
      rw [← h3]; exact List.length_filter_le ..
    rw [List.length_append, List.length_cons, List.length_cons] at hl
    have hm := mem_dotS (m := m) (tail := [l]) (n := t1.length) h (by omega)
    have ih := mem_dot m ls (dotS m found [l]) (w0 ++ dots t1.length ++ [l]) t2 hm h3 (by omega)
    rw [List.foldl_cons]
    have e2 : w0 ++ (t1 ++ l :: t2) = w0 ++ dots t1.length ++ [l] ++ t2 := by
      rw [← e1]; simp
    rw [e2]
    exact ih
theorem of_dot (m : Nat) : ∀ (ls : List Lt) (found : List (List Lt)) (w : List Lt), (∀ l ∈ ls, l ≠ .d) → w ∈ dotS m (ls.foldl (fun f l => dotS m f [l]) found) [] → ∃ w0 ∈ found, nod w = nod w0 ++ ls
  | [], found, w, _, h => by
    obtain ⟨w0, h0, h⟩ := List.mem_flatMap.mp h
    obtain ⟨n, _, rfl⟩ := List.mem_map.mp h
    refine ⟨w0, h0, ?_⟩
    unfold nod dots
    simp
  | l :: ls, found, w, hl, h => by
    rw [List.foldl_cons] at h
    obtain ⟨w1, h1, e1⟩ := of_dot m ls (dotS m found [l]) w (fun x hx => hl x (by simp [hx])) h
    obtain ⟨w0, h0, h2⟩ := List.mem_flatMap.mp h1
    obtain ⟨n, _, rfl⟩ := List.mem_map.mp h2
    refine ⟨w0, h0, ?_⟩
    have hld := hl l (by simp)
    rw [e1]
    unfold nod dots
    simp [hld]
theorem dotted_of {ls : List Lt} {m : Nat} {w : List Lt} (hl : ∀ l ∈ ls, l ≠ .d) (h : w ∈ dotted ls m) : (rowsOf w).length ≤ m ∧ nod w = ls := by
  unfold dotted at h
  obtain ⟨h1, h2⟩ := List.mem_filter.mp h
  obtain ⟨w0, h3, h4⟩ := of_dot m ls [[]] w hl h1
  rw [List.mem_singleton.mp h3] at h4
  exact ⟨of_decide_eq_true h2, h4⟩
theorem nr_len : ∀ w : List Lt, w.length ≤ (rowsOf w).length + (nod w).length
  | [] => Nat.zero_le _
  | c :: w => by
    have ih := nr_len w
    have e1 : (rowsOf (c :: w)).length = (rowsOf w).length + (if c = .r then 0 else 1) := by
      unfold rowsOf
      rw [List.filter_cons]
      by_cases h : c = .r
      · simp [h]
      · simp [h]
    have e2 : (nod (c :: w)).length = (nod w).length + (if c = .d then 0 else 1) := by
      unfold nod
      rw [List.filter_cons]
      by_cases h : c = .d
      · simp [h]
      · simp [h]
    rw [e1, e2, List.length_cons]
    by_cases h : c = .r
    · rw [if_pos h, if_neg (by rw [h]; exact fun z => nomatch z)]; omega
    · rw [if_neg h]; omega
theorem dotted_in {m : Nat} {w : List Lt} (h : (rowsOf w).length ≤ m) : w ∈ dotted (nod w) m := by
  unfold dotted
  refine List.mem_filter.mpr ⟨?_, decide_eq_true h⟩
  have := mem_dot m (nod w) [[]] [] w (by simp) rfl (by have := nr_len w; omega)
  simpa using this
theorem nod_mem {w : List Lt} {c : Lt} (hc : c ≠ .d) : c ∈ w ↔ c ∈ nod w := by
  unfold nod
  rw [List.mem_filter]
  simp [hc]
theorem letters_nd : ∀ (o : Int) (hk hw told : Bool), ∀ ls ∈ lettersFor o hk hw told, ∀ l ∈ ls, l ≠ .d := by
  intro o hk hw told
  unfold lettersFor
  by_cases h : o = 0
  · rw [if_pos h]; revert hk; decide
  · rw [if_neg h]; revert hk hw told; decide
theorem letters_le2 : ∀ (o : Int) (hk hw told : Bool), ∀ ls ∈ lettersFor o hk hw told, ls.length ≤ 2 := by
  intro o hk hw told
  unfold lettersFor
  by_cases h : o = 0
  · rw [if_pos h]; revert hk; decide
  · rw [if_neg h]; revert hk hw told; decide
theorem letters_key {o : Int} (hw told : Bool) : ∀ ls ∈ lettersFor o true hw told, if o = 0 then Lt.b ∈ ls else Lt.k ∈ ls ∨ Lt.r ∈ ls := by
  unfold lettersFor
  by_cases h : o = 0
  · simp only [if_pos h]; decide
  · simp only [if_neg h]; revert hw told; decide
theorem letters_watch {o : Int} (hk told : Bool) (h0 : o = 0 → hk = true) : ∀ ls ∈ lettersFor o hk true told, if o = 0 then Lt.b ∈ ls else Lt.x ∈ ls := by
  unfold lettersFor
  by_cases h : o = 0
  · simp only [if_pos h, h0 h]; decide
  · clear h0; simp only [if_neg h]; revert hk told; decide
theorem one_of {l : List Lt} (h : l.length = 1) : ∃ c, l = [c] := by
  match l, h with
  | [c], _ => exact ⟨c, rfl⟩
theorem fits_key {up : Bool} {m : Nat} {o : Int} {u : List Lt} {v : Sd} (hf : fitsL up m o (u, .inn, v) = true) : if o = 0 then Lt.b ∈ u else Lt.k ∈ u ∨ Lt.r ∈ u := by
  obtain ⟨b1, b2, b3⟩ := fits_base hf
  obtain ⟨c, hc⟩ := one_of b2
  have hcm : c ∈ keysL u := by rw [hc]; simp
  obtain ⟨h1, h2⟩ := List.mem_filter.mp hcm
  have h2 : c ∈ [Lt.k, .r, .b] := of_decide_eq_true h2
  unfold fitsL at hf
  rw [if_neg (by
    show ¬ (m < (rowsOf u).length ∨ (keysL u).length ≠ inI .inn ∨ (eyesL u).length ≠ inI v)
    rintro (z | z | z)
    · omega
    · exact z b2
    · exact z b3)] at hf
  by_cases h : o = 0
  · rw [if_pos h]
    rw [if_pos h] at hf
    have h3 : keysL u = eyesL u := of_decide_eq_true (Bool.and_eq_true_iff.mp hf).2
    rw [h3] at hcm
    have h4 : c ∈ [Lt.x, .b] := of_decide_eq_true (List.mem_filter.mp hcm).2
    have : c = .b := by
      cases c <;> first | rfl | (exact absurd h2 (by decide)) | (exact absurd h4 (by decide))
    rw [← this]; exact h1
  · rw [if_neg h]
    rw [if_neg h] at hf
    by_cases hb : Lt.b ∈ u
    · rw [if_pos hb] at hf; cases hf
    · cases c with
      | k => exact Or.inl h1
      | r => exact Or.inr h1
      | b => exact absurd h1 hb
      | d => exact absurd h2 (by decide)
      | x => exact absurd h2 (by decide)
theorem fits_watch {up : Bool} {m : Nat} {o : Int} {u : List Lt} {k : Sd} (hf : fitsL up m o (u, k, .inn) = true) : if o = 0 then Lt.b ∈ u else Lt.x ∈ u := by
  obtain ⟨b1, b2, b3⟩ := fits_base hf
  obtain ⟨c, hc⟩ := one_of b3
  have hcm : c ∈ eyesL u := by rw [hc]; simp
  obtain ⟨h1, h2⟩ := List.mem_filter.mp hcm
  have h2 : c ∈ [Lt.x, .b] := of_decide_eq_true h2
  unfold fitsL at hf
  rw [if_neg (by
    show ¬ (m < (rowsOf u).length ∨ (keysL u).length ≠ inI k ∨ (eyesL u).length ≠ inI .inn)
    rintro (z | z | z)
    · omega
    · exact z b2
    · exact z b3)] at hf
  by_cases h : o = 0
  · rw [if_pos h]
    rw [if_pos h] at hf
    have h3 : keysL u = eyesL u := of_decide_eq_true (Bool.and_eq_true_iff.mp hf).2
    rw [← h3] at hcm
    have h4 : c ∈ [Lt.k, .r, .b] := of_decide_eq_true (List.mem_filter.mp hcm).2
    have : c = .b := by
      cases c <;> first | rfl | (exact absurd h2 (by decide)) | (exact absurd h4 (by decide))
    rw [← this]; exact h1
  · rw [if_neg h]
    rw [if_neg h] at hf
    by_cases hb : Lt.b ∈ u
    · rw [if_pos hb] at hf; cases hf
    · cases c with
      | x => exact h1
      | b => exact absurd h1 hb
      | k => exact absurd h2 (by decide)
      | d => exact absurd h2 (by decide)
      | r => exact absurd h2 (by decide)
theorem Good.wf {h : Hs} {up : Bool} {s : Sc} (g : Good h up s) (ho : HOk h) : WF h s := by
  refine ⟨fun u hu => ⟨by have := g.len ho hu; omega, (fits_base (g.pg u hu).2.2).1⟩, g.no, fun u hu => ⟨(g.pg u hu).1, fun hk => ?_⟩, fun u hu => ⟨(g.pg u hu).2.1, fun hk => ?_⟩⟩
  · have := (g.pg u hu).2.2
    rw [hk] at this
    exact fits_key this
  · have := (g.pg u hu).2.2
    rw [hk] at this
    exact fits_watch this
end

end DL
/-! Ls -/
set_option Elab.async false
set_option linter.all false
set_option maxRecDepth 100000
set_option maxHeartbeats 4000000
namespace DL
open PySem PySem.Spec PyProof.Rows L2
local macro_rules | `(tactic| walk_at "od") => `(tactic| first | exact od_eqS | exact od_neS | exact od_inT | exact od_notInT | exact od_inL | exact od_notInL | exact od_eqB | exact od_neB)
local macro_rules | `(tactic| walk_at "len") => `(tactic| first | omega | (simp only [List.length_append, List.length_cons, List.length_nil, List.length_take, List.length_drop]; omega))
section
/-- a deed, by sort -/
inductive Wy (h : Hs) (up : Bool) (s : Sc) (u : List Lt) : Ev → Pg → Prop
  | come {n : Nat} : n ≤ u.length → (rowsOf u).length < h.rows → Wy h up s u [.str "come", .int (n : Int)] (u.take n ++ [Lt.d] ++ u.drop n, s.key, s.watch)
  | again : (rowsOf u).length < h.rows → .r ∈ u → Wy h up s u [.str "again"] (subst1 .r .k u, s.key, s.watch)
  | go {n : Nat} {c : Lt} : u[n]? = some c → (c = .d ∨ c = .k) → Wy h up s u [.str "go", .int (n : Int)] (u.take n ++ (if c = .d then [] else [.r]) ++ u.drop (n + 1), s.key, s.watch)
  | split {n : Nat} : n ≤ u.length → Wy h up s u (splitAt' h.low u s.key s.watch n).1 (splitAt' h.low u s.key s.watch n).2
  | join {hk hw : Bool} {ls more : List Lt} : (hk = true → s.key = joinSide h.joins) → (hw = true → s.watch = joinSide h.joins) → (s.order ≠ 0 ∨ hk = hw) → ls ∈ lettersFor s.order hk hw false → more ∈ dotted ls (h.rows - (rowsOf u).length) →
      Wy h up s u [.str "join", .str (enc more)] ((if joinSide h.joins = .right then u ++ more else more ++ u), (if hk then .inn else s.key), (if hw then .inn else s.watch))
theorem bools_of {b k : Bool} (h : k ∈ bools b) : k = true → b = true := by
  intro e
  subst e
  cases b with
  | true => rfl
  | false => revert h; decide
theorem wy_of {h : Hs} {up : Bool} {s : Sc} {u : List Lt} {ev : Ev} {p : Pg} (q : (ev, p) ∈ ways h up s u) : Wy h up s u ev p := by
  unfold ways at q
  rcases List.mem_append.mp q with q | q
  · rcases List.mem_append.mp q with q | q
    · obtain ⟨⟨a1, a2⟩, ha, e⟩ := List.mem_map.mp q
      injection e with e1 e2
      subst e1 e2
      unfold comeEv at ha
      rcases List.mem_append.mp ha with ha | ha
      · split at ha
        · rename_i hr
          rcases List.mem_append.mp ha with ha | ha
          · obtain ⟨n, hn, e⟩ := List.mem_map.mp ha
            unfold comeAt at e
            injection e with e1 e2
            subst e1 e2
            exact .come (by have := List.mem_range.mp hn; omega) hr
          · split at ha
            · rename_i hru
              have e := List.mem_singleton.mp ha
              injection e with e1 e2
              subst e1 e2
              exact .again hr hru
            · cases ha
        · cases ha
      · obtain ⟨⟨c, n⟩, hp, ha⟩ := List.mem_flatMap.mp ha
        unfold goAt at ha
        have hc : u[n]? = some c := by
          have := List.mem_zipIdx_iff_getElem?.mp hp
          exact this
        split at ha
        · rename_i hcc
          have e := List.mem_singleton.mp ha
          injection e with e1 e2
          subst e1 e2
          exact .go hc hcc
        · cases ha
    · unfold splitEv at q
      obtain ⟨n, hn, e⟩ := List.mem_map.mp q
      have e1 : ev = (splitAt' h.low u s.key s.watch n).1 := by rw [e]
      have e2 : p = (splitAt' h.low u s.key s.watch n).2 := by rw [e]
      subst e1 e2
      exact .split (by have := List.mem_range.mp hn; omega)
  · split at q
    · unfold joinEv at q
      obtain ⟨hk, hhk, q⟩ := List.mem_flatMap.mp q
      obtain ⟨hw, hhw, q⟩ := List.mem_flatMap.mp q
      unfold joinFor at q
      split at q
      · rename_i hor
        obtain ⟨ls, hls, q⟩ := List.mem_flatMap.mp q
        obtain ⟨more, hmore, q⟩ := List.mem_flatMap.mp q
        unfold joinMore at q
        by_cases hio : inOrder up s.order (if joinSide h.joins = .right then u ++ more else more ++ u) (if hk then .inn else s.key) (if hw then .inn else s.watch) = true
        · rw [if_pos hio] at q
          have e := List.mem_singleton.mp q
          injection e with e1 e2
          subst e1 e2
          exact .join (fun z => of_decide_eq_true (bools_of hhk z)) (fun z => of_decide_eq_true (bools_of hhw z)) hor hls hmore
        · rw [if_neg hio] at q; cases q
      · cases q
    · cases q
inductive Ot (h : Hs) (up : Bool) (s : Sc) : Ev × Sc → Prop
  | new {p : Pg} {one : Int} : s.word = none → p ∈ pages up h.rows s.order false → Ot h up s (.str "new" :: pgL p ++ [.int one], behind h s one p)
  | way {u : List Lt} {ev : Ev} {p : Pg} {one : Int} : s.word = some u → usedUp h s.many = false → Wy h up s u ev p → Ot h up s (ev ++ [.int one], behind h s one p)
  | leave {u : List Lt} : s.word = some u → Ot h up s ([.str "leave"], gone s)
theorem ot_of {h : Hs} {up : Bool} {s : Sc} {e : Ev × Sc} (q : e ∈ others h up s) : Ot h up s e := by
  unfold others at q
  cases hw : s.word with
  | none =>
    rw [hw] at q
    change e ∈ (if _ then _ else _) at q
    split at q
    · obtain ⟨p, hp, q⟩ := List.mem_flatMap.mp q
      obtain ⟨one, _, rfl⟩ := List.mem_map.mp q
      exact .new hw hp
    · cases q
  | some u =>
    rw [hw] at q
    change e ∈ (if _ then _ else _) ++ (if _ then _ else _) at q
    rcases List.mem_append.mp q with q | q
    · split at q
      · rename_i hu
        obtain ⟨⟨ev, p⟩, hp, q⟩ := List.mem_flatMap.mp q
        obtain ⟨one, _, rfl⟩ := List.mem_map.mp q
        exact .way hw (by simpa using hu) (wy_of hp)
      · cases q
    · split at q
      · rw [List.mem_singleton.mp q]; exact .leave hw
      · cases q
theorem chB_ne (h : Hs) (c : Int) : ∃ one, one ∈ chB h c := by
  unfold chB
  split
  · exact ⟨_, List.mem_singleton.mpr rfl⟩
  · split
    · exact ⟨-1, by simp⟩
    · exact ⟨1, by simp⟩
theorem ways_in {h : Hs} {up : Bool} {s : Sc} {u : List Lt} {ev : Ev} {p : Pg} (hw : s.word = some u) (hu : usedUp h s.many = false) (q : (ev, p) ∈ ways h up s u) : ∃ one, (ev ++ [.int one], behind h s one p) ∈ others h up s := by
  obtain ⟨one, h1⟩ := chB_ne h s.change
  refine ⟨one, ?_⟩
  unfold others
  rw [hw]
  refine List.mem_append_left _ ?_
  rw [hu]
  exact List.mem_flatMap.mpr ⟨(ev, p), q, List.mem_map.mpr ⟨one, h1, rfl⟩⟩
theorem come_in {h : Hs} {up : Bool} {s : Sc} {u : List Lt} {q : Ev × List Lt} (hq : q ∈ comeEv h.rows u) : (q.1, q.2, s.key, s.watch) ∈ ways h up s u :=
  List.mem_append_left _ (List.mem_append_left _ (List.mem_map.mpr ⟨q, hq, rfl⟩))
structure PgOk (h : Hs) (o : Int) (p : Pg) : Prop where
  len : p.1.length ≤ 10 ∧ (rowsOf p.1).length ≤ h.rows
  key : p.2.1 ≠ .no ∧ (p.2.1 = .inn → if o = 0 then .b ∈ p.1 else .k ∈ p.1 ∨ .r ∈ p.1)
  watch : p.2.2 ≠ .no ∧ (p.2.2 = .inn → if o = 0 then .b ∈ p.1 else .x ∈ p.1)
theorem PgOk.wf {h : Hs} {s : Sc} {p : Pg} {one : Int} (q : PgOk h s.order p) : WF h (behind h s one p) := by
  refine ⟨fun u hu => ?_, (fun z => nomatch z), fun u hu => ?_, fun u hu => ?_⟩
  · rw [← (Option.some.inj hu : p.1 = u)]; exact q.len
  · rw [← (Option.some.inj hu : p.1 = u)]; exact q.key
  · rw [← (Option.some.inj hu : p.1 = u)]; exact q.watch
/-- what keeps b, x, and k or r -/
theorem pg_keep {h : Hs} {up : Bool} {s : Sc} {u v : List Lt} (g : Good h up s) (hu : s.word = some u) (hl : v.length ≤ 10 ∧ (rowsOf v).length ≤ h.rows) (hb : .b ∈ u → .b ∈ v) (hx : .x ∈ u → .x ∈ v) (hk : .k ∈ u ∨ .r ∈ u → .k ∈ v ∨ .r ∈ v) : PgOk h s.order (v, s.key, s.watch) := by
  obtain ⟨h1, h2, h3⟩ := g.pg u hu
  refine ⟨hl, ⟨h1, fun e => ?_⟩, ⟨h2, fun e => ?_⟩⟩
  · have e : s.key = .inn := e
    rw [e] at h3
    have := fits_key h3
    by_cases ho : s.order = 0
    · rw [if_pos ho] at this ⊢; exact hb this
    · rw [if_neg ho] at this ⊢; exact hk this
  · have e : s.watch = .inn := e
    rw [e] at h3
    have := fits_watch h3
    by_cases ho : s.order = 0
    · rw [if_pos ho] at this ⊢; exact hb this
    · rw [if_neg ho] at this ⊢; exact hx this
theorem rows_app (a b : List Lt) : rowsOf (a ++ b) = rowsOf a ++ rowsOf b := List.filter_append ..
theorem keys_app (a b : List Lt) : keysL (a ++ b) = keysL a ++ keysL b := List.filter_append ..
theorem eyes_app (a b : List Lt) : eyesL (a ++ b) = eyesL a ++ eyesL b := List.filter_append ..
theorem at_split {u : List Lt} {n : Nat} {c : Lt} (h : u[n]? = some c) : u = u.take n ++ c :: u.drop (n + 1) ∧ n < u.length := by
  obtain ⟨hn, e⟩ := List.getElem?_eq_some_iff.mp h
  refine ⟨?_, hn⟩
  rw [← e, List.getElem_cons_drop, List.take_append_drop]
theorem subst_mem {u : List Lt} {c : Lt} (hc : c ≠ .r) (h : c ∈ u) : c ∈ subst1 .r .k u := by
  unfold subst1
  exact List.mem_map.mpr ⟨c, h, if_neg hc⟩
theorem subst_rows (u : List Lt) : (rowsOf (subst1 .r .k u)).length ≤ u.length := by
  refine Nat.le_trans (List.length_filter_le ..) ?_
  unfold subst1
  rw [List.length_map]; exact Nat.le_refl _
theorem subst_none {v : List Lt} (h : ∀ c ∈ v, c ≠ .r) : subst1 .r .k v = v := by
  unfold subst1
  refine (List.map_congr_left fun c hc => ?_).trans (List.map_id' v)
  rw [if_neg (h c hc)]
theorem subst_app (a b : List Lt) : subst1 .r .k (a ++ b) = subst1 .r .k a ++ subst1 .r .k b := List.map_append ..
theorem keys_none {v : List Lt} (h : keysL v = []) : ∀ c ∈ v, c ≠ .k ∧ c ≠ .r ∧ c ≠ .b := fun c hc => by
  have := List.filter_eq_nil_iff.mp h c hc
  refine ⟨?_, ?_, ?_⟩ <;> (intro z; subst z; exact this (by decide))
theorem keys_split {a b : List Lt} {c : Lt} (hc : c = .k ∨ c = .r) (h : (keysL (a ++ c :: b)).length ≤ 1) : keysL a = [] ∧ keysL b = [] := by
  rw [keys_app] at h
  have e : keysL (c :: b) = c :: keysL b := by
    unfold keysL
    rw [List.filter_cons, if_pos]
    rcases hc with rfl | rfl <;> decide
  rw [e, List.length_append, List.length_cons] at h
  exact ⟨List.length_eq_zero_iff.mp (by omega), List.length_eq_zero_iff.mp (by omega)⟩
theorem fits_keys1 {up : Bool} {m : Nat} {o : Int} {u : List Lt} {k v : Sd} (hf : fitsL up m o (u, k, v) = true) : (keysL u).length ≤ 1 := by
  rw [(fits_base hf).2.1]; unfold inI; split <;> omega
theorem subst_split {a b : List Lt} (h : (keysL (a ++ .r :: b)).length ≤ 1) : subst1 .r .k (a ++ .r :: b) = a ++ .k :: b := by
  obtain ⟨h1, h2⟩ := keys_split (Or.inr rfl) h
  have e : subst1 .r .k (.r :: b) = .k :: subst1 .r .k b := rfl
  rw [subst_app, e, subst_none fun c hc => (keys_none h1 c hc).2.1, subst_none fun c hc => (keys_none h2 c hc).2.1]
theorem place_isSome {u v : List Lt} : (place u v).isSome = true ↔ ∃ c ∈ u, c ∈ v := by
  unfold place
  rw [List.findIdx?_isSome, List.any_eq_true]
  constructor
  · rintro ⟨c, h1, h2⟩; exact ⟨c, h1, of_decide_eq_true h2⟩
  · rintro ⟨c, h1, h2⟩; exact ⟨c, h1, decide_eq_true h2⟩
theorem side_ne (low : Bool) : sideOf low ≠ .inn ∧ sideOf low ≠ .no := by cases low <;> exact ⟨(fun z => nomatch z), (fun z => nomatch z)⟩
theorem jside_ne (j : Jn) : joinSide j ≠ .inn ∧ joinSide j ≠ .no := by cases j <;> exact ⟨(fun z => nomatch z), (fun z => nomatch z)⟩
theorem wy_ok {h : Hs} {up : Bool} {s : Sc} {u : List Lt} {ev : Ev} {p : Pg} (ho : HOk h) (g : Good h up s) (hu : s.word = some u) (q : Wy h up s u ev p) : PgOk h s.order p := by
  have hul := g.len ho hu
  obtain ⟨h1, h2, h3⟩ := g.pg u hu
  obtain ⟨b1, b2, b3⟩ := fits_base h3
  have hr3 := ho.r3
  cases q with
  | @come n hn hr =>
    have hmem : ∀ c, c ∈ u → c ∈ u.take n ++ [Lt.d] ++ u.drop n := fun c hc => by
      rw [← List.take_append_drop n u] at hc
      simp only [List.mem_append] at hc ⊢
      rcases hc with q | q
      · exact Or.inl (Or.inl q)
      · exact Or.inr q
    refine pg_keep g hu ⟨by simp; omega, ?_⟩ (hmem _) (hmem _) (fun z => z.imp (hmem _) (hmem _))
    have e : (rowsOf (u.take n ++ [Lt.d] ++ u.drop n)).length = (rowsOf u).length + 1 := by
      conv => rhs; rw [← List.take_append_drop n u]
      rw [rows_app, rows_app, rows_app, List.length_append, List.length_append, List.length_append]
      show _ + 1 + _ = _
      omega
    omega
  | again hr hru =>
    refine pg_keep g hu ⟨by unfold subst1; rw [List.length_map]; omega, ?_⟩ (subst_mem (by decide)) (subst_mem (by decide)) (fun _ => Or.inl (List.mem_map.mpr ⟨.r, hru, rfl⟩))
    obtain ⟨a, b, rfl⟩ := List.append_of_mem hru
    rw [subst_split (fits_keys1 h3)]
    have e : (rowsOf (a ++ Lt.k :: b)).length = (rowsOf (a ++ Lt.r :: b)).length + 1 := by
      rw [rows_app, rows_app, List.length_append, List.length_append]
      show _ + ((rowsOf b).length + 1) = _ + (rowsOf b).length + 1
      omega
    omega
  | @go n c hc hcc =>
    obtain ⟨e, hn⟩ := at_split hc
    have hmem : ∀ c', c' ≠ .d → c' ≠ .k → c' ∈ u → c' ∈ u.take n ++ (if c = .d then [] else [.r]) ++ u.drop (n + 1) := fun c' n1 n2 hm => by
      rw [e] at hm
      simp only [List.mem_append, List.mem_cons] at hm ⊢
      rcases hm with q | q | q
      · exact Or.inl (Or.inl q)
      · subst q; rcases hcc with z | z
        · exact absurd z n1
        · exact absurd z n2
      · exact Or.inr q
    refine pg_keep g hu ⟨?_, ?_⟩ (hmem _ (by decide) (by decide)) (hmem _ (by decide) (by decide)) (fun z => ?_)
    · rw [List.length_append, List.length_append, List.length_take, List.length_drop]
      split <;> simp <;> omega
    · have e2 : (rowsOf u).length = (rowsOf (u.take n)).length + 1 + (rowsOf (u.drop (n + 1))).length := by
        conv => lhs; rw [e]
        rw [rows_app, List.length_append]
        rcases hcc with rfl | rfl
        · show _ + ((rowsOf (u.drop (n + 1))).length + 1) = _; omega
        · show _ + ((rowsOf (u.drop (n + 1))).length + 1) = _; omega
      rw [rows_app, rows_app, List.length_append, List.length_append]
      have e3 : (rowsOf (if c = .d then [] else [.r])).length = 0 := by split <;> rfl
      omega
    · rcases z with z | z
      · rcases hcc with rfl | rfl
        · refine Or.inl ?_
          rw [e] at z
          simp only [List.mem_append, List.mem_cons] at z ⊢
          rcases z with q | q | q
          · exact Or.inl (Or.inl q)
          · cases q
          · exact Or.inr q
        · refine Or.inr ?_
          simp
      · exact Or.inr (hmem _ (by decide) (by decide) z)
  | @split n hn =>
    obtain ⟨K, O, hKO, hpg⟩ : ∃ K O : List Lt, (∀ c, c ∈ u → c ∈ K ∨ c ∈ O) ∧ (K.length ≤ u.length ∧ (rowsOf K).length ≤ (rowsOf u).length) ∧ (splitAt' h.low u s.key s.watch n).2 = (K, (if (place O [.k, .r, .b]).isSome then sideOf h.low else s.key), (if (place O [.x, .b]).isSome then sideOf h.low else s.watch)) := by
      have e := List.take_append_drop n u
      cases hlow : h.low with
      | true =>
        refine ⟨u.take n, u.drop n, fun c hc => by rw [← e] at hc; exact List.mem_append.mp hc, ⟨by rw [List.length_take]; omega, ?_⟩, rfl⟩
        conv => rhs; rw [← e, rows_app, List.length_append]
        omega
      | false =>
        refine ⟨u.drop n, u.take n, fun c hc => by rw [← e] at hc; exact (List.mem_append.mp hc).symm, ⟨by rw [List.length_drop]; omega, ?_⟩, rfl⟩
        conv => rhs; rw [← e, rows_app, List.length_append]
        omega
    obtain ⟨⟨l1, l2⟩, hpg⟩ := hpg
    rw [hpg]
    refine ⟨⟨by show K.length ≤ 10; omega, by show (rowsOf K).length ≤ _; omega⟩, ⟨?_, fun e => ?_⟩, ⟨?_, fun e => ?_⟩⟩
    · show (if _ then _ else _) ≠ _
      split
      · exact (side_ne _).2
      · exact h1
    · have e : (if (place O [.k, .r, .b]).isSome then sideOf h.low else s.key) = .inn := e
      split at e
      · exact absurd e (side_ne _).1
      · rename_i hno
        rw [e] at h3
        have hkey := fits_key h3
        have hnm : ∀ c ∈ O, c ∉ [Lt.k, .r, .b] := fun c hc hm => hno (place_isSome.mpr ⟨c, hc, hm⟩)
        show if s.order = 0 then .b ∈ K else .k ∈ K ∨ .r ∈ K
        by_cases ho' : s.order = 0
        · rw [if_pos ho'] at hkey ⊢
          exact (hKO _ hkey).resolve_right fun z => hnm _ z (by decide)
        · rw [if_neg ho'] at hkey ⊢
          rcases hkey with z | z
          · exact Or.inl ((hKO _ z).resolve_right fun z => hnm _ z (by decide))
          · exact Or.inr ((hKO _ z).resolve_right fun z => hnm _ z (by decide))
    · show (if _ then _ else _) ≠ _
      split
      · exact (side_ne _).2
      · exact h2
    · have e : (if (place O [.x, .b]).isSome then sideOf h.low else s.watch) = .inn := e
      split at e
      · exact absurd e (side_ne _).1
      · rename_i hno
        rw [e] at h3
        have hkey := fits_watch h3
        have hnm : ∀ c ∈ O, c ∉ [Lt.x, .b] := fun c hc hm => hno (place_isSome.mpr ⟨c, hc, hm⟩)
        show if s.order = 0 then .b ∈ K else .x ∈ K
        by_cases ho' : s.order = 0
        · rw [if_pos ho'] at hkey ⊢
          exact (hKO _ hkey).resolve_right fun z => hnm _ z (by decide)
        · rw [if_neg ho'] at hkey ⊢
          exact (hKO _ hkey).resolve_right fun z => hnm _ z (by decide)
  | @join hk hw ls more hhk hhw hor hls hmore =>
    obtain ⟨d1, d2⟩ := dotted_of (letters_nd _ _ _ _ ls hls) hmore
    have d3 := letters_le2 _ _ _ _ ls hls
    have d4 := nr_len more
    rw [d2] at d4
    have hmem : ∀ c, c ∈ u ∨ c ∈ more → c ∈ (if joinSide h.joins = .right then u ++ more else more ++ u) := fun c hc => by
      split
      · exact List.mem_append.mpr hc
      · exact List.mem_append.mpr hc.symm
    refine ⟨⟨?_, ?_⟩, ⟨?_, fun e => ?_⟩, ⟨?_, fun e => ?_⟩⟩
    · show (if _ then _ else _ : List Lt).length ≤ 10
      split <;> rw [List.length_append] <;> omega
    · show (rowsOf (if _ then _ else _)).length ≤ _
      split <;> rw [rows_app, List.length_append] <;> omega
    · show (if hk = true then Sd.inn else s.key) ≠ .no
      split
      · exact fun z => nomatch z
      · exact h1
    · show if s.order = 0 then _ else _
      have e : (if hk = true then Sd.inn else s.key) = .inn := e
      cases hk with
      | true =>
        have hl := letters_key hw false ls hls
        by_cases ho' : s.order = 0
        · rw [if_pos ho'] at hl ⊢
          exact hmem _ (Or.inr ((nod_mem (by decide)).mpr (by rw [d2]; exact hl)))
        · rw [if_neg ho'] at hl ⊢
          rcases hl with z | z
          · exact Or.inl (hmem _ (Or.inr ((nod_mem (by decide)).mpr (by rw [d2]; exact z))))
          · exact Or.inr (hmem _ (Or.inr ((nod_mem (by decide)).mpr (by rw [d2]; exact z))))
      | false =>
        have e : s.key = .inn := e
        rw [e] at h3
        have hkey := fits_key h3
        by_cases ho' : s.order = 0
        · rw [if_pos ho'] at hkey ⊢
          exact hmem _ (Or.inl hkey)
        · rw [if_neg ho'] at hkey ⊢
          exact hkey.imp (fun z => hmem _ (Or.inl z)) (fun z => hmem _ (Or.inl z))
    · show (if hw = true then Sd.inn else s.watch) ≠ .no
      split
      · exact fun z => nomatch z
      · exact h2
    · show if s.order = 0 then _ else _
      have e : (if hw = true then Sd.inn else s.watch) = .inn := e
      cases hw with
      | true =>
        have hl := letters_watch hk false (fun z => hor.elim (fun y => absurd z y) (fun y => y)) ls hls
        by_cases ho' : s.order = 0
        · rw [if_pos ho'] at hl ⊢
          exact hmem _ (Or.inr ((nod_mem (by decide)).mpr (by rw [d2]; exact hl)))
        · rw [if_neg ho'] at hl ⊢
          exact hmem _ (Or.inr ((nod_mem (by decide)).mpr (by rw [d2]; exact hl)))
      | false =>
        have e : s.watch = .inn := e
        rw [e] at h3
        have hkey := fits_watch h3
        by_cases ho' : s.order = 0
        · rw [if_pos ho'] at hkey ⊢
          exact hmem _ (Or.inl hkey)
        · rw [if_neg ho'] at hkey ⊢
          exact hmem _ (Or.inl hkey)
theorem pages_ok {h : Hs} {up : Bool} {o : Int} (ho : HOk h) : ∀ p ∈ pages up h.rows o false, PgOk h o p := fun p hp => by
  have hr3 := ho.r3
  obtain ⟨key, hkey, hp⟩ := List.mem_flatMap.mp hp
  obtain ⟨watch, hwatch, hp⟩ := List.mem_flatMap.mp hp
  obtain ⟨ls, hls, hp⟩ := List.mem_flatMap.mp hp
  have hk : key ≠ .no := by
    intro z; subst z; revert hkey; decide
  have hw : watch ≠ .no := by
    intro z; subst z; revert hwatch; decide
  split at hp
  · rename_i hin
    obtain ⟨w, hwd, rfl⟩ := List.mem_map.mp hp
    obtain ⟨d1, d2⟩ := dotted_of (letters_nd _ _ _ _ ls hls) hwd
    have d3 := letters_le2 _ _ _ _ ls hls
    have d4 := nr_len w
    rw [d2] at d4
    refine ⟨⟨by show w.length ≤ 10; omega, d1⟩, ⟨hk, fun e => ?_⟩, ⟨hw, fun e => ?_⟩⟩
    · have e : key = .inn := e
      subst e
      have hl := letters_key _ false ls hls
      show if o = 0 then Lt.b ∈ w else Lt.k ∈ w ∨ Lt.r ∈ w
      by_cases ho' : o = 0
      · rw [if_pos ho'] at hl ⊢
        exact (nod_mem (by decide)).mpr (by rw [d2]; exact hl)
      · rw [if_neg ho'] at hl ⊢
        exact hl.imp (fun z => (nod_mem (by decide)).mpr (by rw [d2]; exact z)) (fun z => (nod_mem (by decide)).mpr (by rw [d2]; exact z))
    · have e : watch = .inn := e
      subst e
      have hl := letters_watch (decide (key = .inn)) false (fun z => by
        unfold inOrder at hin
        rw [if_pos z] at hin
        exact hin) ls hls
      show if o = 0 then Lt.b ∈ w else Lt.x ∈ w
      by_cases ho' : o = 0
      · rw [if_pos ho'] at hl ⊢
        exact (nod_mem (by decide)).mpr (by rw [d2]; exact hl)
      · rw [if_neg ho'] at hl ⊢
        exact (nod_mem (by decide)).mpr (by rw [d2]; exact hl)
  · cases hp
theorem ot_wf {h : Hs} {up : Bool} {s : Sc} {e : Ev × Sc} (ho : HOk h) (g : Good h up s) (q : Ot h up s e) : WF h e.2 := by
  cases q with
  | new hw hp => exact (pages_ok ho _ hp).wf
  | way hw hu hy => exact (wy_ok ho g hw hy).wf
  | leave hw => exact ⟨(fun u hu => nomatch hu), fun _ => ⟨rfl, rfl⟩, (fun u hu => nomatch hu), (fun u hu => nomatch hu)⟩
end

end DL
/-! Lt -/
set_option Elab.async false
set_option linter.all false
set_option maxRecDepth 100000
set_option maxHeartbeats 4000000
namespace DL
open PySem PySem.Spec PyProof.Rows L2
local macro_rules | `(tactic| walk_at "od") => `(tactic| first | exact od_eqS | exact od_neS | exact od_inT | exact od_notInT | exact od_inL | exact od_notInL | exact od_eqB | exact od_neB)
local macro_rules | `(tactic| walk_at "len") => `(tactic| first | omega | (simp only [List.length_append, List.length_cons, List.length_nil, List.length_take, List.length_drop]; omega))
section
def Bck (h : Hs) (up : Bool) (b : Sc) (hd : Str) (w : List Lt) (key watch : Sd) : Prop := ∃ rest e, e ∈ others h up b ∧ e.1 = .str hd :: rest ∧ e.2.word = some w ∧ e.2.key = key ∧ e.2.watch = watch
theorem Bck.mk' {h : Hs} {up : Bool} {b : Sc} {v w : List Lt} {hd : Str} {r : List Dt} {key watch : Sd} (hw : b.word = some v) (hu : usedUp h b.many = false) (q : (.str hd :: r, (w, key, watch)) ∈ ways h up b v) : Bck h up b hd w key watch := by
  obtain ⟨one, h1⟩ := ways_in hw hu q
  exact ⟨r ++ [.int one], _, h1, rfl, rfl, rfl, rfl⟩
theorem go_in {rows : Nat} {v : List Lt} {n : Nat} {c : Lt} (hc : v[n]? = some c) (hcc : c = .d ∨ c = .k) : (([.str "go", .int (n : Int)] : Ev), v.take n ++ (if c = .d then [] else [.r]) ++ v.drop (n + 1)) ∈ comeEv rows v :=
  List.mem_append_right _ (List.mem_flatMap.mpr ⟨(c, n), List.mem_zipIdx_iff_getElem?.mpr hc, by unfold goAt; rw [if_pos hcc]; simp⟩)
theorem comeAt_in {rows : Nat} {v : List Lt} {n : Nat} (hn : n ≤ v.length) (hr : (rowsOf v).length < rows) : comeAt v n ∈ comeEv rows v :=
  List.mem_append_left _ (by rw [if_pos hr]; exact List.mem_append_left _ (List.mem_map.mpr ⟨n, List.mem_range.mpr (by omega), rfl⟩))
theorem again_in {rows : Nat} {v : List Lt} (hr : (rowsOf v).length < rows) (h : .r ∈ v) : (([.str "again"] : Ev), subst1 .r .k v) ∈ comeEv rows v :=
  List.mem_append_left _ (by rw [if_pos hr]; exact List.mem_append_right _ (by rw [if_pos h]; simp))
theorem take_mid {A B : List Lt} {c : Lt} {n : Nat} (h : A.length = n) : (A ++ c :: B).take n = A ∧ (A ++ c :: B).drop (n + 1) = B ∧ (A ++ c :: B)[n]? = some c := by
  subst h
  refine ⟨by simp, ?_, by simp⟩
  have : A ++ c :: B = (A ++ [c]) ++ B := by simp
  rw [this]
  have hl : A.length + 1 = (A ++ [c]).length := by simp
  rw [hl]
  simp
theorem fits_order {up : Bool} {m : Nat} {o : Int} {u : List Lt} {k v : Sd} (hod : o = -1 ∨ o = 0 ∨ o = 1) (hf : fitsL up m o (u, k, v) = true) : inOrder up o u k v = true := by
  have hf0 := hf
  obtain ⟨b1, b2, b3⟩ := fits_base hf
  unfold fitsL at hf
  rw [if_neg (by
    show ¬ (m < (rowsOf u).length ∨ (keysL u).length ≠ inI k ∨ (eyesL u).length ≠ inI v)
    rintro (z | z | z)
    · omega
    · exact z b2
    · exact z b3)] at hf
  unfold inOrder
  by_cases h : o = 0
  · rw [if_pos h] at hf ⊢
    exact (Bool.and_eq_true_iff.mp hf).1
  · rw [if_neg h] at hf ⊢
    by_cases hb : Lt.b ∈ u
    · rw [if_pos hb] at hf; cases hf
    · rw [if_neg hb] at hf
      have hwh : watchHigher up o = (decide (o < 0) == up) := by
        unfold watchHigher
        rcases hod with rfl | rfl | rfl
        · rfl
        · exact absurd rfl h
        · rfl
      by_cases hin : k = .inn ∧ v = .inn
      · rw [if_pos hin]
        have hf : (if k = .inn ∧ v = .inn then _ else _) = true := hf
        rw [if_pos hin] at hf
        obtain ⟨rfl, rfl⟩ := hin
        have hk := fits_key hf0
        have hv := fits_watch hf0
        rw [if_neg h] at hk hv
        obtain ⟨n1, e1⟩ : ∃ n, place u [.k, .r] = some n := Option.isSome_iff_exists.mp (place_isSome.mpr (by
          rcases hk with z | z
          · exact ⟨_, z, by decide⟩
          · exact ⟨_, z, by decide⟩))
        obtain ⟨n2, e2⟩ : ∃ n, place u [.x] = some n := Option.isSome_iff_exists.mp (place_isSome.mpr ⟨_, hv, by decide⟩)
        have s1 : spotI u [.k, .r] = (n1 : Int) := by unfold spotI; rw [e1] <;> rfl
        have s2 : spotI u [.x] = (n2 : Int) := by unfold spotI; rw [e2] <;> rfl
        rw [e1, e2, hwh]
        have h5 := (Bool.and_eq_true_iff.mp hf).2
        have h5 : (decide (spotI u [.k, .r] < spotI u [.x]) == (decide (o < 0) == up)) = true := h5
        rw [s1, s2] at h5
        show (decide (n1 < n2) == (decide (o < 0) == up)) = true
        have e3 : decide (n1 < n2) = decide ((n1 : Int) < (n2 : Int)) := decide_eq_decide.mpr (by omega)
        rw [e3]; exact h5
      · rw [if_neg hin]
        have hf : (if k = .inn ∧ v = .inn then _ else _) = true := hf
        rw [if_neg hin] at hf
        by_cases hkv : k = v
        · rw [if_pos hkv]
        · rw [if_neg hkv, hwh]
          have hf : ((decide (k = v) && !decide (k = .inn)) || (!decide (sdN k = sdN v) && (decide (sdN k < sdN v) == (decide (o < 0) == up)))) = true := hf
          rw [decide_eq_false hkv, Bool.false_and, Bool.false_or] at hf
          exact (Bool.and_eq_true_iff.mp hf).2
theorem krx_len : ∀ l : List Lt, (∀ c ∈ l, c = .k ∨ c = .r ∨ c = .x) → l.length = (keysL l).length + (eyesL l).length
  | [], _ => rfl
  | c :: l, h => by
    have ih := krx_len l fun x hx => h x (by simp [hx])
    have hc := h c (by simp)
    unfold keysL eyesL at ih ⊢
    rcases hc with rfl | rfl | rfl <;> simp only [List.length_cons, List.filter_cons] <;> simp <;> simp at ih <;> omega
theorem krx_in {o : Int} (ho : o ≠ 0) (hk hw : Bool) (l : List Lt) (h : ∀ c ∈ l, c = .k ∨ c = .r ∨ c = .x) (h1 : (keysL l).length = if hk then 1 else 0) (h2 : (eyesL l).length = if hw then 1 else 0) : l ∈ lettersFor o hk hw false := by
  have hl := krx_len l h
  unfold lettersFor
  rw [if_neg ho]
  match l, h, h1, h2, hl with
  | [], _, h1, h2, _ =>
    cases hk <;> cases hw <;> first | decide | (exact absurd h1 (by decide)) | (exact absurd h2 (by decide))
  | [a], h, h1, h2, _ =>
    rcases h a (by simp) with rfl | rfl | rfl <;> cases hk <;> cases hw <;> first | decide | (exact absurd h1 (by decide)) | (exact absurd h2 (by decide))
  | [a, b], h, h1, h2, _ =>
    rcases h a (by simp) with rfl | rfl | rfl <;> rcases h b (by simp) with rfl | rfl | rfl <;> cases hk <;> cases hw <;> first | decide | (exact absurd h1 (by decide)) | (exact absurd h2 (by decide))
  | a :: b :: c :: l, h, h1, h2, hl =>
    rw [h1, h2] at hl
    simp only [List.length_cons] at hl
    cases hk <;> cases hw <;> simp at hl <;> omega
theorem keys_nod (O : List Lt) : keysL (nod O) = keysL O := by
  unfold keysL nod
  rw [List.filter_filter]
  congr 1
  funext c
  cases c <;> rfl
theorem eyes_nod (O : List Lt) : eyesL (nod O) = eyesL O := by
  unfold eyesL nod
  rw [List.filter_filter]
  congr 1
  funext c
  cases c <;> rfl
theorem some_len {O v : List Lt} {f : List Lt → List Lt} (hf : f O = O.filter fun c => decide (c ∈ v)) (h : (f O).length ≤ 1) : (f O).length = if (place O v).isSome then 1 else 0 := by
  split
  · rename_i hs
    obtain ⟨c, h1, h2⟩ := place_isSome.mp hs
    have : c ∈ f O := by rw [hf]; exact List.mem_filter.mpr ⟨h1, decide_eq_true h2⟩
    have := List.length_pos_of_mem this
    omega
  · rename_i hs
    have : f O = [] := by
      rw [hf]
      refine List.filter_eq_nil_iff.mpr fun c hc hd => hs (place_isSome.mpr ⟨c, hc, of_decide_eq_true hd⟩)
    rw [this]; rfl
theorem join_back {h : Hs} {up : Bool} {s b : Sc} {u K O : List Lt} (g : Good h up s) (hu : s.word = some u) (hj : h.joins ≠ .none) (hKO : if joinSide h.joins = .right then u = K ++ O else u = O ++ K) (hbo : b.order = s.order)
    (hbk : b.key = if (place O [.k, .r, .b]).isSome then joinSide h.joins else s.key) (hbw : b.watch = if (place O [.x, .b]).isSome then joinSide h.joins else s.watch) : (([.str "join", .str (enc O)] : Ev), (u, s.key, s.watch)) ∈ ways h up b K := by
  obtain ⟨h1, h2, h3⟩ := g.pg u hu
  obtain ⟨b1, b2, b3⟩ := fits_base h3
  have hOu : ∀ c, c ∈ O → c ∈ u := fun c hc => by
    split at hKO
    · rw [hKO]; exact List.mem_append_right _ hc
    · rw [hKO]; exact List.mem_append_left _ hc
  have hkl : (keysL O).length ≤ (keysL u).length ∧ (eyesL O).length ≤ (eyesL u).length ∧ (rowsOf u).length = (rowsOf K).length + (rowsOf O).length := by
    split at hKO
    · rw [hKO, keys_app, eyes_app, rows_app, List.length_append, List.length_append, List.length_append]; omega
    · rw [hKO, keys_app, eyes_app, rows_app, List.length_append, List.length_append, List.length_append]; omega
  obtain ⟨l1, l2, l3⟩ := hkl
  have hi1 : ∀ k : Sd, inI k ≤ 1 := fun k => by unfold inI; split <;> omega
  have k1 := some_len (f := keysL) (O := O) (v := [.k, .r, .b]) rfl (by have := hi1 s.key; omega)
  have k2 := some_len (f := eyesL) (O := O) (v := [.x, .b]) rfl (by have := hi1 s.watch; omega)
  have key_in : (place O [.k, .r, .b]).isSome = true → s.key = .inn := fun z => by
    rw [if_pos z] at k1
    have : inI s.key = 1 := by have := hi1 s.key; omega
    unfold inI at this
    split at this
    · assumption
    · omega
  have watch_in : (place O [.x, .b]).isSome = true → s.watch = .inn := fun z => by
    rw [if_pos z] at k2
    have : inI s.watch = 1 := by have := hi1 s.watch; omega
    unfold inI at this
    split at this
    · assumption
    · omega
  -- orders
  have hzero : s.order = 0 → ∀ c ∈ u, c = .d ∨ c = .b := fun ho c hc => by
    have hf := h3
    unfold fitsL at hf
    rw [if_neg (by
      show ¬ (h.rows < (rowsOf u).length ∨ (keysL u).length ≠ inI s.key ∨ (eyesL u).length ≠ inI s.watch)
      rintro (z | z | z)
      · omega
      · exact z b2
      · exact z b3), if_pos ho] at hf
    have he : keysL u = eyesL u := of_decide_eq_true (Bool.and_eq_true_iff.mp hf).2
    cases c with
    | d => exact Or.inl rfl
    | b => exact Or.inr rfl
    | k =>
      have : Lt.k ∈ keysL u := List.mem_filter.mpr ⟨hc, by decide⟩
      rw [he] at this
      exact absurd (List.mem_filter.mp this).2 (by decide)
    | r =>
      have : Lt.r ∈ keysL u := List.mem_filter.mpr ⟨hc, by decide⟩
      rw [he] at this
      exact absurd (List.mem_filter.mp this).2 (by decide)
    | x =>
      have : Lt.x ∈ eyesL u := List.mem_filter.mpr ⟨hc, by decide⟩
      rw [← he] at this
      exact absurd (List.mem_filter.mp this).2 (by decide)
  have hor : s.order ≠ 0 ∨ (place O [.k, .r, .b]).isSome = (place O [.x, .b]).isSome := by
    by_cases ho : s.order = 0
    · refine Or.inr ?_
      have hz := hzero ho
      rw [Bool.eq_iff_iff, place_isSome, place_isSome]
      constructor
      · rintro ⟨c, c1, c2⟩
        rcases hz c (hOu c c1) with rfl | rfl
        · exact absurd c2 (by decide)
        · exact ⟨.b, c1, by decide⟩
      · rintro ⟨c, c1, c2⟩
        rcases hz c (hOu c c1) with rfl | rfl
        · exact absurd c2 (by decide)
        · exact ⟨.b, c1, by decide⟩
    · exact Or.inl ho
  have hlet : nod O ∈ lettersFor s.order (place O [.k, .r, .b]).isSome (place O [.x, .b]).isSome false := by
    by_cases ho : s.order = 0
    · have hz := hzero ho
      have e : nod O = keysL O := by
        unfold nod keysL
        refine List.filter_congr fun c hc => ?_
        rcases hz c (hOu c hc) with rfl | rfl <;> rfl
      have hall : ∀ c ∈ keysL O, c = .b := fun c hc => by
        obtain ⟨c1, c2⟩ := List.mem_filter.mp hc
        rcases hz c (hOu c c1) with rfl | rfl
        · exact absurd c2 (by decide)
        · rfl
      rw [e]
      unfold lettersFor
      rw [if_pos ho]
      by_cases hs : (place O [.k, .r, .b]).isSome = true
      · rw [if_pos hs] at k1 ⊢
        obtain ⟨c, hc⟩ := one_of k1
        rw [hc, hall c (by rw [hc]; simp)]; simp
      · rw [if_neg hs] at k1 ⊢
        rw [List.length_eq_zero_iff.mp k1]; simp
    · have hnb : ¬ Lt.b ∈ u := fun hb => by
        have hf := h3
        unfold fitsL at hf
        rw [if_neg (by
          show ¬ (h.rows < (rowsOf u).length ∨ (keysL u).length ≠ inI s.key ∨ (eyesL u).length ≠ inI s.watch)
          rintro (z | z | z)
          · omega
          · exact z b2
          · exact z b3), if_neg ho, if_pos hb] at hf
        cases hf
      refine krx_in ho _ _ (nod O) (fun c hc => ?_) (by rw [keys_nod]; exact k1) (by rw [eyes_nod]; exact k2)
      obtain ⟨c1, c2⟩ := List.mem_filter.mp hc
      cases c with
      | k => exact Or.inl rfl
      | r => exact Or.inr (Or.inl rfl)
      | x => exact Or.inr (Or.inr rfl)
      | b => exact absurd (hOu _ c1) hnb
      | d => exact absurd c2 (by decide)
  have hdot : O ∈ dotted (nod O) (h.rows - (rowsOf K).length) := dotted_in (by omega)
  have hbm : ∀ (z : Bool) (p : Prop) [Decidable p], (z = true → p) → z ∈ bools (decide p) := fun z p _ hz => by
    cases z with
    | false => unfold bools; split <;> simp
    | true => rw [decide_eq_true (hz rfl)]; decide
  refine List.mem_append_right _ ?_
  rw [if_pos hj]
  unfold joinEv
  refine List.mem_flatMap.mpr ⟨(place O [.k, .r, .b]).isSome, hbm _ _ (fun z => by rw [hbk, if_pos z]), List.mem_flatMap.mpr ⟨(place O [.x, .b]).isSome, hbm _ _ (fun z => by rw [hbw, if_pos z]), ?_⟩⟩
  unfold joinFor
  rw [hbo, if_pos hor]
  refine List.mem_flatMap.mpr ⟨nod O, hlet, List.mem_flatMap.mpr ⟨O, hdot, ?_⟩⟩
  have e1 : (if joinSide h.joins = .right then K ++ O else O ++ K) = u := by
    split at hKO
    · rename_i hr; rw [if_pos hr]; exact hKO.symm
    · rename_i hr; rw [if_neg hr]; exact hKO.symm
  have e2 : (if (place O [.k, .r, .b]).isSome = true then Sd.inn else b.key) = s.key := by
    split
    · rename_i z; exact (key_in z).symm
    · rename_i z; rw [hbk, if_neg z]
  have e3 : (if (place O [.x, .b]).isSome = true then Sd.inn else b.watch) = s.watch := by
    split
    · rename_i z; exact (watch_in z).symm
    · rename_i z; rw [hbw, if_neg z]
  rw [e2, e3]
  unfold joinMore
  rw [e1, if_pos (fits_order g.od h3)]
  simp
end

end DL
/-! Lu -/
set_option Elab.async false
set_option linter.all false
set_option maxRecDepth 100000
set_option maxHeartbeats 4000000
namespace DL
open PySem PySem.Spec PyProof.Rows L2
local macro_rules | `(tactic| walk_at "od") => `(tactic| first | exact od_eqS | exact od_neS | exact od_inT | exact od_notInT | exact od_inL | exact od_notInL | exact od_eqB | exact od_neB)
local macro_rules | `(tactic| walk_at "len") => `(tactic| first | omega | (simp only [List.length_append, List.length_cons, List.length_nil, List.length_take, List.length_drop]; omega))
section
structure RetOk (h : Hs) (up : Bool) (s : Sc) (e : Ev × Sc) (hd : Str) : Prop where
  come : hd = "come" → ∃ u, s.word = some u ∧ Bck h up e.2 "go" u s.key s.watch
  go : hd = "go" → ∃ u v, s.word = some u ∧ e.2.word = some v ∧ Bck h up e.2 (if v.length = u.length then "again" else "come") u s.key s.watch
  again : hd = "again" → ∃ u, s.word = some u ∧ Bck h up e.2 "go" u s.key s.watch
  split : hd = "split" → (h.low = true ∧ h.joins = .left ∨ h.low = false ∧ h.joins = .right) → ∃ u, s.word = some u ∧ Bck h up e.2 "join" u s.key s.watch
theorem RetOk.no {h : Hs} {up : Bool} {s : Sc} {e : Ev × Sc} {hd : Str} (h1 : decide (hd = "come") = false) (h2 : decide (hd = "go") = false) (h3 : decide (hd = "again") = false) (h4 : decide (hd = "split") = false) : RetOk h up s e hd :=
  ⟨fun z => absurd z (of_decide_eq_false h1), fun z => absurd z (of_decide_eq_false h2), fun z => absurd z (of_decide_eq_false h3), fun z => absurd z (of_decide_eq_false h4)⟩
theorem wy_ret {h : Hs} {up : Bool} {s : Sc} {u : List Lt} {ev : Ev} {p : Pg} {one : Int} (ho : HOk h) (g : Good h up s) (hu : s.word = some u) (q : Wy h up s u ev p) : ∃ hd rest, ev = .str hd :: rest ∧ rest.length ≤ 1 ∧ (usedUp h (behind h s one p).many = false → RetOk h up s (ev ++ [.int one], behind h s one p) hd) := by
  have hul := g.len ho hu
  obtain ⟨h1, h2, h3⟩ := g.pg u hu
  obtain ⟨b1, b2, b3⟩ := fits_base h3
  have hk1 := fits_keys1 h3
  cases q with
  | @come n hn hr =>
    refine ⟨"come", [.int (n : Int)], rfl, Nat.le_refl _, fun hub => ⟨fun _ => ⟨u, hu, ?_⟩, fun z => absurd z (by decide +kernel), fun z => absurd z (by decide +kernel), fun z => absurd z (by decide +kernel)⟩⟩
    have e0 : u.take n ++ [Lt.d] ++ u.drop n = u.take n ++ Lt.d :: u.drop n := by simp
    obtain ⟨t1, t2, t3⟩ := take_mid (A := u.take n) (B := u.drop n) (c := .d) (n := n) (by rw [List.length_take]; omega)
    have hgo := go_in (rows := h.rows) (v := u.take n ++ Lt.d :: u.drop n) t3 (Or.inl rfl)
    rw [t1, t2, if_pos rfl, List.append_nil, List.take_append_drop] at hgo
    refine Bck.mk' (v := u.take n ++ Lt.d :: u.drop n) (by show some _ = some _; rw [e0]) hub (come_in hgo)
  | again hr hru =>
    refine ⟨"again", [], rfl, Nat.zero_le _, fun hub => ⟨fun z => absurd z (by decide +kernel), fun z => absurd z (by decide +kernel), fun _ => ⟨u, hu, ?_⟩, fun z => absurd z (by decide +kernel)⟩⟩
    obtain ⟨A, B, e⟩ := List.append_of_mem hru
    have es : subst1 .r .k u = A ++ .k :: B := by rw [e]; exact subst_split (by rw [← e]; exact hk1)
    obtain ⟨t1, t2, t3⟩ := take_mid (A := A) (B := B) (c := .k) (n := A.length) rfl
    have hgo := go_in (rows := h.rows) (v := A ++ Lt.k :: B) t3 (Or.inr rfl)
    rw [t1, t2, if_neg (by decide)] at hgo
    have e2 : A ++ [Lt.r] ++ B = u := by rw [e]; simp
    rw [e2] at hgo
    refine Bck.mk' (v := A ++ Lt.k :: B) (by show some _ = some _; rw [es]) hub (come_in hgo)
  | @go n c hc hcc =>
    obtain ⟨e, hn⟩ := at_split hc
    have htl : (u.take n).length = n := by rw [List.length_take]; omega
    refine ⟨"go", [.int (n : Int)], rfl, Nat.le_refl _, fun hub => ⟨fun z => absurd z (by decide +kernel), fun _ => ⟨u, _, hu, rfl, ?_⟩, fun z => absurd z (by decide +kernel), fun z => absurd z (by decide +kernel)⟩⟩
    have er : (rowsOf u).length = (rowsOf (u.take n)).length + 1 + (rowsOf (u.drop (n + 1))).length := by
      conv => lhs; rw [e]
      rw [rows_app, List.length_append]
      rcases hcc with rfl | rfl
      · show _ + ((rowsOf (u.drop (n + 1))).length + 1) = _; omega
      · show _ + ((rowsOf (u.drop (n + 1))).length + 1) = _; omega
    rcases hcc with rfl | rfl
    · have ep : (u.take n ++ (if Lt.d = Lt.d then [] else [Lt.r]) ++ u.drop (n + 1)) = u.take n ++ u.drop (n + 1) := by rw [if_pos rfl, List.append_nil]
      have hlen : ¬ (u.take n ++ (if Lt.d = Lt.d then [] else [Lt.r]) ++ u.drop (n + 1)).length = u.length := by
        rw [ep, List.length_append, List.length_take, List.length_drop]; omega
      rw [if_neg hlen]
      have hca := comeAt_in (rows := h.rows) (v := u.take n ++ u.drop (n + 1)) (n := n) (by rw [List.length_append]; omega) (by rw [rows_app, List.length_append]; omega)
      unfold comeAt at hca
      have e3 : (u.take n ++ u.drop (n + 1)).take n = u.take n := by
        rw [List.take_append_of_le_length (by omega), List.take_of_length_le (by omega)]
      have e4 : (u.take n ++ u.drop (n + 1)).drop n = u.drop (n + 1) := by
        have := List.drop_append_of_le_length (l₁ := u.take n) (l₂ := u.drop (n + 1)) (i := n) (by omega)
        rw [this, List.drop_of_length_le (by omega), List.nil_append]
      rw [e3, e4] at hca
      have e5 : u.take n ++ [Lt.d] ++ u.drop (n + 1) = u := by conv => rhs; rw [e]
                                                               simp
      rw [e5] at hca
      refine Bck.mk' (v := u.take n ++ u.drop (n + 1)) (by show some _ = some _; rw [ep]) hub (come_in hca)
    · have ep : (u.take n ++ (if Lt.k = Lt.d then [] else [Lt.r]) ++ u.drop (n + 1)) = u.take n ++ Lt.r :: u.drop (n + 1) := by rw [if_neg (by decide)]; simp
      have hlen : (u.take n ++ (if Lt.k = Lt.d then [] else [Lt.r]) ++ u.drop (n + 1)).length = u.length := by
        rw [ep, List.length_append, List.length_take, List.length_cons, List.length_drop]; omega
      rw [if_pos hlen]
      obtain ⟨n1, n2⟩ := keys_split (a := u.take n) (b := u.drop (n + 1)) (Or.inl rfl) (by rw [← e]; exact hk1)
      have hag := again_in (rows := h.rows) (v := u.take n ++ Lt.r :: u.drop (n + 1)) (by
        rw [rows_app, List.length_append]
        show _ + (rowsOf (u.drop (n + 1))).length < _
        omega) (by simp)
      have es : subst1 .r .k (u.take n ++ Lt.r :: u.drop (n + 1)) = u := by
        have e6 : subst1 .r .k (Lt.r :: u.drop (n + 1)) = .k :: subst1 .r .k (u.drop (n + 1)) := rfl
        rw [subst_app, e6, subst_none fun c hc => (keys_none n1 c hc).2.1, subst_none fun c hc => (keys_none n2 c hc).2.1]
        exact e.symm
      rw [es] at hag
      refine Bck.mk' (v := u.take n ++ Lt.r :: u.drop (n + 1)) (by show some _ = some _; rw [ep]) hub (come_in hag)
  | @split n hn =>
    refine ⟨"split", [.int (n : Int)], rfl, Nat.le_refl _, fun hub => ⟨fun z => absurd z (by decide +kernel), fun z => absurd z (by decide +kernel), fun z => absurd z (by decide +kernel), fun _ hlj => ⟨u, hu, ?_⟩⟩⟩
    rcases hlj with ⟨hlow, hj⟩ | ⟨hlow, hj⟩
    · refine Bck.mk' (v := u.take n) (r := [.str (enc (u.drop n))]) ?_ hub (join_back (K := u.take n) (O := u.drop n) g hu (by rw [hj]; exact fun z => nomatch z) ?_ rfl ?_ ?_)
      · show some _ = some _; unfold splitAt'; rw [hlow]; rfl
      · rw [if_pos (by rw [hj]; rfl), List.take_append_drop]
      · show (splitAt' h.low u s.key s.watch n).2.2.1 = _; unfold splitAt'; rw [hlow, hj]; rfl
      · show (splitAt' h.low u s.key s.watch n).2.2.2 = _; unfold splitAt'; rw [hlow, hj]; rfl
    · refine Bck.mk' (v := u.drop n) (r := [.str (enc (u.take n))]) ?_ hub (join_back (K := u.drop n) (O := u.take n) g hu (by rw [hj]; exact fun z => nomatch z) ?_ rfl ?_ ?_)
      · show some _ = some _; unfold splitAt'; rw [hlow]; rfl
      · rw [if_neg (by rw [hj]; decide), List.take_append_drop]
      · show (splitAt' h.low u s.key s.watch n).2.2.1 = _; unfold splitAt'; rw [hlow, hj]; rfl
      · show (splitAt' h.low u s.key s.watch n).2.2.2 = _; unfold splitAt'; rw [hlow, hj]; rfl
  | @join hk hw ls more hhk hhw hor hls hmore =>
    exact ⟨"join", [.str (enc more)], rfl, Nat.le_refl _, fun _ => RetOk.no (by decide +kernel) (by decide +kernel) (by decide +kernel) (by decide +kernel)⟩
theorem ot_ret {h : Hs} {up : Bool} {s : Sc} {e : Ev × Sc} (ho : HOk h) (g : Good h up s) (q : Ot h up s e) : ∃ hd rest, e.1 = .str hd :: rest ∧ decide (hd = "next") = false ∧ (usedUp h e.2.many = false ∨ e.2.word = none → RetOk h up s e hd) ∧ (hd = "leave" → e.2 = gone s) := by
  cases q with
  | new hw hp => exact ⟨"new", _, rfl, by decide +kernel, fun _ => RetOk.no (by decide +kernel) (by decide +kernel) (by decide +kernel) (by decide +kernel), fun z => absurd z (by decide +kernel)⟩
  | @way u ev p one hw hu hy =>
    obtain ⟨hd, rest, e1, e2, e3⟩ := wy_ret (one := one) ho g hw hy
    refine ⟨hd, rest ++ [.int one], by show ev ++ _ = _; rw [e1] <;> rfl, ?_, fun z => e3 (z.resolve_right (fun y => nomatch y)), fun z => ?_⟩
    · cases hy <;> (injection e1 with e1 _; injection e1 with e1; rw [← e1]; decide +kernel)
    · exfalso
      cases hy <;> (injection e1 with e1 _; injection e1 with e1; rw [← e1] at z; exact absurd z (by decide +kernel))
  | leave hw => exact ⟨"leave", [], rfl, by decide +kernel, fun _ => RetOk.no (by decide +kernel) (by decide +kernel) (by decide +kernel) (by decide +kernel), fun _ => rfl⟩
/-- used up: none but leave -/
theorem used_leave {h : Hs} {up : Bool} {b : Sc} {v : List Lt} (hw : b.word = some v) (hu : usedUp h b.many = true) : ∀ e ∈ others h up b, e.1 = [.str "leave"] := fun e he => by
  cases ot_of he with
  | new h1 _ => rw [hw] at h1; cases h1
  | way h1 h2 _ => rw [hu] at h2; cases h2
  | leave _ => rfl
/-- out of use: new ones -/
theorem gone_new {h : Hs} {up : Bool} {s : Sc} : ∀ e ∈ others h up (gone s), ∃ rest, e.1 = .str "new" :: rest := fun e he => by
  cases ot_of he with
  | new _ _ => exact ⟨_, rfl⟩
  | way h1 _ _ => cases h1
  | leave h1 => cases h1
theorem page0 {up : Bool} {m : Nat} {o : Int} : (([] : List Lt), Sd.left, Sd.left) ∈ pages up m o false := by
  refine List.mem_flatMap.mpr ⟨.left, by decide, List.mem_flatMap.mpr ⟨.left, by decide, ?_⟩⟩
  unfold pgsFor
  refine List.mem_flatMap.mpr ⟨[], ?_, ?_⟩
  · show [] ∈ lettersFor o false false false
    unfold lettersFor
    split <;> decide
  · rw [if_pos]
    · refine List.mem_map.mpr ⟨[], ?_, rfl⟩
      exact dotted_in (w := []) (Nat.zero_le _)
    · unfold inOrder
      by_cases h : o = 0
      · rw [if_pos h]; rfl
      · rw [if_neg h]; rfl
theorem gone_ne {h : Hs} {up : Bool} {s : Sc} (ho : HOk h) : (others h up (gone s)).isEmpty = !(h.again && !usedUp h s.many) := by
  unfold others
  show (if (h.again && !usedUp h s.many) = true then _ else []).isEmpty = _
  by_cases q : (h.again && !usedUp h s.many) = true
  · rw [if_pos q, q]
    have hone : ∃ one, one ∈ (if h.on then chB h s.change else anyC h) := by
      split
      · exact chB_ne _ _
      · unfold anyC
        cases hst : h.stamps with
        | none => exact ⟨0, by simp⟩
        | some m =>
          have := ho.st m hst
          exact ⟨0, List.mem_map.mpr ⟨0, List.mem_range.mpr (by omega), rfl⟩⟩
    obtain ⟨one, h1⟩ := hone
    have hm : (.str "new" :: pgL ([], Sd.left, Sd.left) ++ [.int one], behind h (gone s) one ([], Sd.left, Sd.left)) ∈ (pages up h.rows s.order false).flatMap fun p => (if h.on then chB h s.change else anyC h).map fun one => (((.str "new" :: pgL p ++ [.int one]) : Ev), behind h (gone s) one p) := List.mem_flatMap.mpr ⟨_, page0, List.mem_map.mpr ⟨one, h1, rfl⟩⟩
    show List.isEmpty ((pages up h.rows s.order false).flatMap fun p => (if h.on then chB h s.change else anyC h).map fun one => (((.str "new" :: pgL p ++ [.int one]) : Ev), behind h (gone s) one p)) = false
    cases hl : (pages up h.rows s.order false).flatMap fun p => (if h.on then chB h s.change else anyC h).map fun one => (((.str "new" :: pgL p ++ [.int one]) : Ev), behind h (gone s) one p) with
    | nil => rw [hl] at hm; cases hm
    | cons a l => rfl
  · rw [if_neg q]
    have : (h.again && !usedUp h s.many) = false := by simpa using q
    rw [this]; rfl
end

end DL
/-! Lv -/
set_option Elab.async false
set_option linter.all false
set_option maxRecDepth 100000
set_option maxHeartbeats 4000000
namespace DL
open PySem PySem.Spec PyProof.Rows L2
local macro_rules | `(tactic| walk_at "od") => `(tactic| first | exact od_eqS | exact od_neS | exact od_inT | exact od_notInT | exact od_inL | exact od_notInL | exact od_eqB | exact od_neB)
local macro_rules | `(tactic| walk_at "len") => `(tactic| first | omega | (simp only [List.length_append, List.length_cons, List.length_nil, List.length_take, List.length_drop]; omega))
section
variable {P : Program} {w : World} {K : PySem.W.Frag} {mg : Str → Option Value} {base : Heap}
def hdOf : Dt → Str
  | .tup (.tup (.str z :: _) :: _) => z
  | _ => ""
def thOf : Dt → Dt
  | .tup [_, _, b] => b
  | _ => .non
def evOf : Dt → Dt
  | .tup (e :: _) => e
  | _ => .non
/-- a triple: its head; what stands third, where the head is hd -/
def TbT (hd : Str) (t : Dt) : Prop := ∃ (z : Str) (rest : List Dt) (g b : Dt), t = .tup [.tup (.str z :: rest), g, b] ∧ (decide (z = hd) = true → ∃ s, b = scD s)
theorem ot_hd {h : Hs} {up : Bool} {s : Sc} {e : Ev × Sc} (q : Ot h up s e) : ∃ z rest, e.1 = .str z :: rest ∧ decide (z = "next") = false := by
  cases q with
  | new _ _ => exact ⟨"new", _, rfl, by decide +kernel⟩
  | way _ _ hy => cases hy <;> exact ⟨_, _, rfl, by decide +kernel⟩
  | leave _ => exact ⟨"leave", _, rfl, by decide +kernel⟩
theorem tr_tb {h : Hs} {up : Bool} {b : Sc} {l : List Dt} {hd : Str} (hn : decide (hd = "next") = false) (q : TrOk h up b l) : ∀ t ∈ l, TbT hd t := fun t ht => by
  obtain ⟨l0, rfl, _, h0⟩ := q
  rcases List.mem_append.mp ht with ht | ht
  · obtain ⟨rest, g, b, rfl⟩ := h0 t ht
    exact ⟨"next", rest, g, b, rfl, fun z => absurd (of_decide_eq_true z).symm (of_decide_eq_false hn)⟩
  · obtain ⟨e, he, rfl⟩ := List.mem_map.mp ht
    obtain ⟨z, rest, e1, _⟩ := ot_hd (ot_of he)
    exact ⟨z, rest, .non, scD e.2, by unfold trD; rw [e1], fun _ => ⟨_, rfl⟩⟩
theorem tr_len {h : Hs} {up : Bool} {b : Sc} {l : List Dt} (ho : HOk h) (wf : WF h b) (q : TrOk h up b l) : l.length < 100000 := by
  obtain ⟨l0, rfl, hl, _⟩ := q
  have := others_len (up := up) ho wf
  rw [List.length_append, List.length_map]; omega
theorem eqD_pg (a b c : Str) : eqD (.tup [.str a, .str b, .str c]) (.tup [.str a, .str b, .str c]) = true := by
  show (PyData.eqv (.str a) (.str a) && (PyData.eqv (.str b) (.str b) && (PyData.eqv (.str c) (.str c) && true))) = true
  rw [eqv_str, eqv_str, eqv_str]; simp
def pg5 (page d : Dt) : Bool := match d with
  | .tup (_ :: _ :: _ :: _ :: _ :: r) => eqD (.tup r) page
  | _ => false
def S_lbehind : List Sl → (Dt → Prop) → Prop := fun as R => ∃ (l : List Dt) (hd : Str) (p : Pg), as = [.dat (.tup l), .dat (.str hd), .dat (pgD p)] ∧ l.length < 100000 ∧ (∀ t ∈ l, TbT hd t) ∧ (∃ rest g s, .tup [.tup (.str hd :: rest), g, scD s] ∈ l ∧ s.word = some p.1 ∧ s.key = p.2.1 ∧ s.watch = p.2.2) ∧ R = fun d => d = .bl true
theorem ok__law_behind (T : Top w K mg) : Fn P w K mg base "_law_behind" 1 P__law_behind S_lbehind := by
  refine Fn.mk1 (st := s__law_behind) T 66 rfl T.g__law_behind (fun fd F => fn_one F sc__law_behind ?_) (fun _ _ _ _ _ _ us hl => match us, hl with | [_, _, _], _ => rfl)
  rintro as R ⟨l, hd, p, rfl, hll, hl, hex, rfl⟩
  refine ⟨⟨rfl, by simp [isMut]⟩, fun cdv A outer s' H S0 E hr => ?_⟩
  obtain ⟨fl, hfl⟩ : ∃ fl, (l.filter fun t => decide (hdOf t = hd) && !isNon (thOf t)).map (fun t => if decide (hdOf t = hd) = true then thOf t else .non) = fl := ⟨_, rfl⟩
  have hfs : ∀ d ∈ fl, ∃ s, d = scD s := fun d hd2 => by
    rw [← hfl] at hd2
    obtain ⟨t, ht, rfl⟩ := List.mem_map.mp hd2
    obtain ⟨h1, h2⟩ := List.mem_filter.mp ht
    obtain ⟨z, rest, g, b, rfl, hb⟩ := hl t h1
    have hz : decide (z = hd) = true := (Bool.and_eq_true_iff.mp h2).1
    obtain ⟨s, rfl⟩ := hb hz
    refine ⟨s, ?_⟩
    show (if decide (z = hd) = true then scD s else .non) = scD s
    rw [if_pos hz]
  have hflen : fl.length < 100000 := by
    rw [← hfl, List.length_map]
    exact Nat.lt_of_le_of_lt (List.length_filter_le ..) hll
  refine dss_then (ρ1 := [.dat (.tup l), .dat (.str hd), .dat (pgD p), .dat (.lst fl), .un, .un, .un, .un]) (ds_lcF 3 [(".0", 4), ("_law_event", 5), ("_law_goal", 6), ("_law_behind_here", 7)] (RL := fun z => z = l.map fun d => d) (di_tup (DR.mono (de_v 0) fun d e => ⟨_, e, by rw [List.map_id']⟩))
    (lc_map l (fun d => d) (fun t => decide (hdOf t = hd) && !isNon (thOf t)) (fun t => if decide (hdOf t = hd) = true then thOf t else .non) hll (fun t ht => by
        obtain ⟨z, rest, g, b, rfl, hb⟩ := hl t ht
        show notInt (if decide (z = hd) = true then b else .non) = true
        split
        · rename_i hz
          obtain ⟨s, rfl⟩ := hb hz
          rfl
        · rfl) (fun t => [.dat (.tup l), .dat (.str hd), .dat (pgD p), .un, .un, .dat (evOf t), .dat (match t with | .tup [_, g, _] => g | _ => .non), .dat (thOf t)]) (L := [5, 6, 7]) (by simp)
      (fun t ht s Hb C cl fp => by
        obtain ⟨z, rest, g, b, rfl, hb⟩ := hl t ht
        exact dg3 5 6 7 rfl sc__law_behind.nd)
      (fun t ht s Hb C cl fp => by
        obtain ⟨z, rest, g, b, rfl, hb⟩ := hl t ht
        exact dqs_one (DW.q (wt_and (dt_cmp (de_ix (de_v 5) de_int (id_tup 0)) (de_v 1) od_eqS) fun _ => (wt_and1 (dt_cmp (de_v 7) de_non od_notN)))))
      (fun t ht hf s Hb C cl fp => by
        obtain ⟨z, rest, g, b, rfl, hb⟩ := hl t ht
        have hz : decide (z = hd) = true := (Bool.and_eq_true_iff.mp hf).1
        exact DE.eq (de_v 7) (by
          show b = (if decide (z = hd) = true then b else .non)
          rw [if_pos hz]))) (fun ds e => by rw [e, hfl] <;> rfl) sc__law_behind.nd (blkOk_by (show blkC N__law_behind (defScope s__law_behind) _ _ = true by decide +kernel))) ?_
  refine dss_one (ds_retE (de_cmp (DL.fzE (dl_lc (own := [(".0", 4), ("_law_behind_here", 7)]) (di_list (RL := fun z => z = fl.map fun d => d) (DR.mono (de_v 3) fun d e => ⟨_, e, by rw [List.map_id']⟩))
    (lc_map fl (fun d => d) (pg5 (pgD p)) (fun d => d) hflen (fun t ht => by
        obtain ⟨s, rfl⟩ := hfs t ht
        rfl) (fun t => [.dat (.tup l), .dat (.str hd), .dat (pgD p), .dat (.lst fl), .un, .un, .un, .dat t]) (L := [7]) (by simp) (fun t _ s Hb C cl fp => dg_name 7 rfl sc__law_behind.nd)
      (fun t ht s Hb C cl fp => by
        obtain ⟨s2, rfl⟩ := hfs t ht
        exact dqs_one (dt_cmp (DE.eq (de_slT (l := some ((5 : Nat) : Int)) (h := none) (de_v 7) (dp_some de_int) dp_none (by show ¬ (HT.sIx 8 0 (some ((5 : Nat) : Int)) = 0 ∧ HT.sIx 8 8 none = 8); decide)) (d' := .tup [woD s2.word, .str (sdS s2.key), .str (sdS s2.watch)]) (by rw [cutD_lo]; rfl)) (de_v 2) (od_eqP (d := .tup [woD s2.word, .str (sdS s2.key), .str (sdS s2.watch)]) (g := pgD p) (room64 hr) (by
            show ([woD s2.word, .str (sdS s2.key), .str (sdS s2.watch)] : List Dt).all (pln 7) = true
            refine List.all_eq_true.mpr fun d hd3 => sc_plain s2 d ?_
            unfold scL
            simp only [List.mem_cons] at hd3 ⊢
            rcases hd3 with z | z | z | z
            · simp [z]
            · simp [z]
            · simp [z]
            · cases z) (by
            show ([wD p.1, .str (sdS p.2.1), .str (sdS p.2.2)] : List Dt).all (pln 7) = true
            refine List.all_eq_true.mpr fun d hd3 => ?_
            simp only [List.mem_cons] at hd3
            rcases hd3 with z | z | z | z
            · rw [z]; exact enc_ok _
            · rw [z]; exact sd_ok _
            · rw [z]; exact sd_ok _
            · cases z))))
      (fun t _ _ s Hb C cl fp => de_v 7)) sc__law_behind.nd (blkOk_by (show blkC N__law_behind (defScope s__law_behind) _ _ = true by decide +kernel)))) (DL.fzE (dl_ls (ds := []) da_nil)) (od_neNil (room64 hr) (fun d hd2 => by
        rw [List.map_id'] at hd2
        obtain ⟨s, rfl⟩ := hfs d (List.mem_filter.mp hd2).1
        exact sc_plainD s))) ?_)
  obtain ⟨rest, g, s, hm, e1, e2, e3⟩ := hex
  have hin : scD s ∈ fl := by
    rw [← hfl]
    refine List.mem_map.mpr ⟨_, List.mem_filter.mpr ⟨hm, ?_⟩, ?_⟩
    · show (decide (hd = hd) && !isNon (scD s)) = true
      rw [decide_eq_true rfl]; rfl
    · show (if decide (hd = hd) = true then scD s else .non) = scD s
      rw [if_pos (decide_eq_true rfl)]
  have hne : ((fl.filter (pg5 (pgD p))).map fun d => d).isEmpty = false := by
    rw [List.map_id']
    have : scD s ∈ fl.filter (pg5 (pgD p)) := List.mem_filter.mpr ⟨hin, by
      show eqD (.tup [woD s.word, .str (sdS s.key), .str (sdS s.watch)]) (pgD p) = true
      rw [e1, e2, e3]
      exact eqD_pg _ _ _⟩
    cases hq : fl.filter (pg5 (pgD p)) with
    | nil => rw [hq] at this; cases this
    | cons a r => rfl
  rw [hne] <;> rfl
end

end DL
/-! Lw -/
set_option Elab.async false
set_option linter.all false
set_option maxRecDepth 100000
set_option maxHeartbeats 4000000
namespace DL
open PySem PySem.Spec PyProof.Rows L2
local macro_rules | `(tactic| walk_at "od") => `(tactic| first | exact od_eqS | exact od_neS | exact od_inT | exact od_notInT | exact od_inL | exact od_notInL | exact od_eqB | exact od_neB)
local macro_rules | `(tactic| walk_at "len") => `(tactic| first | omega | (simp only [List.length_append, List.length_cons, List.length_nil, List.length_take, List.length_drop]; omega))
section
variable {P : Program} {w : World} {K : PySem.W.Frag} {mg : Str → Option Value} {base : Heap}
theorem kj_eq : ∀ (low : Bool) (j : Jn), (([.tup [.str "low", .str "left"], .tup [.str "high", .str "right"]] : List Dt).any fun g => PyData.eqv (py 7 g) (py 7 (.tup [.str (kpS low), .str (jnS j)]))) = ((low && decide (j = .left)) || (!low && decide (j = .right))) := by
  intro low j
  cases low <;> cases j <;> decide +kernel
theorem kj_pl : ∀ (low : Bool) (j : Jn), pln 7 (.tup [.str (kpS low), .str (jnS j)]) = true := by
  intro low j
  cases low <;> cases j <;> decide +kernel
/-- in use again -/
def UsdB (h : Hs) (b : Sc) : Bool := usedUp h b.many && !isNon (woD b.word)
theorem bck_ex {h : Hs} {up : Bool} {b : Sc} {l : List Dt} {hd : Str} {u : List Lt} {k v : Sd} (q : TrOk h up b l) (hb : Bck h up b hd u k v) : ∃ rest g s, .tup [.tup (.str hd :: rest), g, scD s] ∈ l ∧ s.word = some (u, k, v).1 ∧ s.key = (u, k, v).2.1 ∧ s.watch = (u, k, v).2.2 := by
  obtain ⟨rest, e, he, e1, e2, e3, e4⟩ := hb
  obtain ⟨l0, rfl, _, _⟩ := q
  refine ⟨rest, .non, e.2, List.mem_append_right _ (List.mem_map.mpr ⟨e, he, by unfold trD; rw [e1]⟩), e2, e3, e4⟩
def S_returns : List Sl → (Dt → Prop) → Prop := fun as R => ∃ (r : Rd') (h : Hs) (s : Sc) (e : Ev × Sc), as = [.dat (rdD r), .dat (hsD h), .dat (hdD h), .dat (scD s), .dat (.tup e.1), .dat (scD e.2)] ∧ RdOk r ∧ HOk h ∧ Good h r.up s ∧ Ot h r.up s e ∧ R = fun d => d = .bl true
theorem ok__law_returns (T : Top w K mg) : Fn P w K mg base "_law_returns" 9 P__law_returns S_returns := by
  refine Fn.mk1 (st := s__law_returns) T 67 rfl T.g__law_returns (fun fd F => fn_one F sc__law_returns ?_) (fun _ _ _ _ _ _ us hl => match us, hl with | [_, _, _, _, _, _], _ => rfl)
  rintro as R ⟨r, h, s, e, rfl, hrd, ho, hg, hot, rfl⟩
  refine ⟨⟨rfl, by simp [isMut]⟩, fun cdv A outer s' H S0 E hr => ?_⟩
  obtain ⟨hd, rest, ev, hnn, hret, _⟩ := ot_ret ho hg hot
  have hwf := ot_wf ho hg hot
  obtain ⟨e1, b⟩ := e
  have ev : e1 = .str hd :: rest := ev
  subst ev
  have hwf : WF h b := hwf
  refine dss_cons (M := fun z => ∃ l : List Dt, TrOk h r.up b l ∧ z = [.dat (rdD r), .dat (hsD h), .dat (hdD h), .dat (scD s), .dat (.tup (.str hd :: rest)), .dat (scD b), .dat (.tup l), .un, .un, .un, .un, .un, .un]) (ds_setR 6 (R := fun d => ∃ l, d = .tup l ∧ TrOk h r.up b l) (dr_callD (ok_nexts T) hr (da_cons (de_v 0) (da_cons (de_v 1) (da_cons (de_v 5) da_nil))) ⟨r, h, b, rfl, hrd, ho, hwf, rfl⟩) (fun d ⟨l, e2, hl⟩ => ⟨l, hl, by rw [e2] <;> rfl⟩) sc__law_returns.nd) ?_
  rintro z ⟨l, hl, rfl⟩
  have hll := tr_len ho hwf hl
  refine dss_then (ρ1 := [.dat (rdD r), .dat (hsD h), .dat (hdD h), .dat (scD s), .dat (.tup (.str hd :: rest)), .dat (scD b), .dat (.tup l), .dat (.tup [woD s.word, .str (sdS s.key), .str (sdS s.watch)]), .dat (.str hd), .un, .un, .un, .un]) (ds_par 7 8 (da_cons (DE.eq (de_slT (l := some ((5 : Nat) : Int)) (h := none) (de_v 3) (dp_some de_int) dp_none (by show ¬ (HT.sIx 8 0 (some ((5 : Nat) : Int)) = 0 ∧ HT.sIx 8 8 none = 8); decide)) (d' := .tup [woD s.word, .str (sdS s.key), .str (sdS s.watch)]) (by rw [cutD_lo]; rfl)) (da_cons (de_ix (de_v 4) de_int (id_tup 0)) da_nil)) (fun as e => ⟨_, _, e, rfl⟩) sc__law_returns.nd) ?_
  refine dss_ifr (k := UsdB h b) ?_ (fun hc => ?_) (fun hc => ?_)
  · unfold UsdB usedUp
    cases hch : h.changes with
    | none => exact DT.eq (DW.q (wt_and (p := false) (k := false) (DT.eq (dt_cmp (de_dget (room1 hr) (de_v 2) de_str (hd_changes h)) de_non od_notNo) (by rw [hch]; rfl)) (fun z => nomatch z))) rfl
    | some c => exact DT.eq (DW.q (wt_and (p := true) (DT.eq (dt_cmp (de_dget (room1 hr) (de_v 2) de_str (hd_changes h)) de_non od_notNo) (by rw [hch]; rfl)) (fun _ => wt_and (dt_cmp (de_sc (n := 4) (de_v 5)) (DE.eq (de_dget (room1 hr) (de_v 2) de_str (hd_changes h)) (d' := .int (c : Int)) (by rw [hch]; rfl)) od_ge) (fun _ => wt_and1 (dt_cmp (de_sc (n := 5) (de_v 5)) de_non od_notN))))) rfl
  · -- used up: only leave
    obtain ⟨hu, hw⟩ := Bool.and_eq_true_iff.mp hc
    have hw2 : ∃ v, b.word = some v := by
      cases hq : b.word with
      | none => rw [hq] at hw; cases hw
      | some v => exact ⟨v, rfl⟩
    obtain ⟨v, hv⟩ := hw2
    have hh : ∀ t ∈ l, ∃ (z : Str) (rest : List Dt) (g b : Dt), t = .tup [.tup (.str z :: rest), g, b] ∧ decide (z ∈ (["next", "leave"] : List Str)) = true := fun t ht => by
      obtain ⟨l0, rfl, _, h0⟩ := hl
      rcases List.mem_append.mp ht with ht | ht
      · obtain ⟨rest, g, b, rfl⟩ := h0 t ht
        exact ⟨"next", rest, g, b, rfl, by decide +kernel⟩
      · obtain ⟨e, he, rfl⟩ := List.mem_map.mp ht
        have := used_leave hv hu e he
        exact ⟨"leave", [], .non, scD e.2, by unfold trD; rw [this], by decide +kernel⟩
    have hempty : l.filter (fun t => !decide (hdOf t ∈ (["next", "leave"] : List Str))) = [] := List.filter_eq_nil_iff.mpr fun t ht => by
      obtain ⟨z, rest, g, b, rfl, hz⟩ := hh t ht
      show ¬ (!decide (z ∈ (["next", "leave"] : List Str))) = true
      rw [hz]; decide
    refine dss_one (ds_retE (DE.eq (de_cmp (DL.fzE (ds := []) (DL.mono (dl_lc (own := [(".0", 9), ("_law_one", 10), ("_law_goal", 11), ("_law_later_here", 12)]) (di_tup (RL := fun z => z = l.map fun d => d) (DR.mono (de_v 6) fun d e => ⟨_, e, by rw [List.map_id']⟩))
      (lc_map l (fun d => d) (fun t => !decide (hdOf t ∈ (["next", "leave"] : List Str))) evOf hll (fun t ht => by
          obtain ⟨z, rest, g, b, rfl, _⟩ := hh t ht
          rfl) (fun t => [.dat (rdD r), .dat (hsD h), .dat (hdD h), .dat (scD s), .dat (.tup (.str hd :: rest)), .dat (scD b), .dat (.tup l), .dat (.tup [woD s.word, .str (sdS s.key), .str (sdS s.watch)]), .dat (.str hd), .un, .dat (evOf t), .dat (match t with | .tup [_, g, _] => g | _ => .non), .dat (thOf t)]) (L := [10, 11, 12]) (by simp)
        (fun t ht s Hb C cl fp => by
          obtain ⟨z, rest, g, b, rfl, _⟩ := hh t ht
          exact dg3 10 11 12 rfl sc__law_returns.nd)
        (fun t ht s Hb C cl fp => by
          obtain ⟨z, rest, g, b, rfl, _⟩ := hh t ht
          exact dqs_one (dt_cmp (de_ix (de_v 10) de_int (id_tup 0)) (de_tp (ds := (["next", "leave"] : List Str).map Dt.str) (da_cons de_str (da_cons de_str da_nil))) od_notInT))
        (fun t ht _ s Hb C cl fp => de_v 10)) sc__law_returns.nd (blkOk_by (show blkC N__law_returns (defScope s__law_returns) _ _ = true by decide +kernel))) fun x e => by rw [e, hempty] <;> rfl)) (DL.fzE (dl_ls (ds := []) da_nil)) (od_eqNil (room64 hr) (fun d hd2 => by cases hd2))) rfl) rfl)
  have hfree : usedUp h b.many = false ∨ b.word = none := by
    unfold UsdB at hc
    cases hq : b.word with
    | none => exact Or.inr rfl
    | some v =>
      rw [hq] at hc
      refine Or.inl ?_
      cases hu : usedUp h b.many with
      | false => rfl
      | true => rw [hu] at hc; cases hc
  have hR := hret hfree
  have call : ∀ (hd2 : Str) (u : List Lt), decide (hd2 = "next") = false → s.word = some u → Bck h r.up b hd2 u s.key s.watch → S_lbehind [.dat (.tup l), .dat (.str hd2), .dat (.tup [woD s.word, .str (sdS s.key), .str (sdS s.watch)])] (fun d => d = .bl true) := fun hd2 u h1 hu hb => ⟨l, hd2, (u, s.key, s.watch), by rw [hu] <;> rfl, hll, tr_tb h1 hl, bck_ex hl hb, rfl⟩
  refine dss_ifr (dt_cmp (de_v 8) de_str od_eqS) (fun hc => ?_) (fun _ => ?_)
  · obtain ⟨u, hu, hb⟩ := hR.come (of_decide_eq_true hc)
    exact dss_one (ds_retE (de_call (ok__law_behind T) (hr.mono (by decide)) (da_cons (de_v 6) (da_cons de_str (da_cons (de_v 7) da_nil))) (call "go" u (by decide +kernel) hu hb)) rfl)
  refine dss_ifr (dt_cmp (de_v 8) de_str od_eqS) (fun hc => ?_) (fun _ => ?_)
  · obtain ⟨u, v, hu, hv, hb⟩ := hR.go (of_decide_eq_true hc)
    have hv : b.word = some v := hv
    have hvl := (hwf.len v hv).1
    have hul := hg.len ho hu
    refine dss_one (ds_retE (de_call (ok__law_behind T) (hr.mono (by decide)) (da_cons (de_v 6) (da_cons (de_ifG Dt.str (x := "again") (y := "come") (dt_cmp (de_lenW T.f_len (de_scw (de_v 5) hv) (by omega)) (de_lenW T.f_len (de_scw (de_v 3) hu) (by omega)) od_eqI) (fun _ => de_str) (fun _ => de_str)) (da_cons (de_v 7) da_nil))) (call _ u ?_ hu ?_)) rfl)
    · split <;> decide +kernel
    · by_cases q : v.length = u.length
      · rw [if_pos q] at hb
        rw [if_pos (decide_eq_true (by omega))]; exact hb
      · rw [if_neg q] at hb
        rw [if_neg (by rw [decide_eq_false (by omega)]; exact Bool.false_ne_true)]; exact hb
  refine dss_ifr (dt_cmp (de_v 8) de_str od_eqS) (fun hc => ?_) (fun _ => ?_)
  · obtain ⟨u, hu, hb⟩ := hR.again (of_decide_eq_true hc)
    exact dss_one (ds_retE (de_call (ok__law_behind T) (hr.mono (by decide)) (da_cons (de_v 6) (da_cons de_str (da_cons (de_v 7) da_nil))) (call "go" u (by decide +kernel) hu hb)) rfl)
  refine dss_ifr (DW.q (wt_and (dt_cmp (de_v 8) de_str od_eqS) fun _ => (wt_and1 (DT.eq (dt_cmp (de_tp (ds := [.str (kpS h.low), .str (jnS h.joins)]) (da_cons (de_dget (room1 hr) (de_v 2) de_str (hd_keeps h)) (da_cons (de_dget (room1 hr) (de_v 2) de_str (hd_joins h)) da_nil))) (DL.fzE (dl_ls (ds := [.tup [.str "low", .str "left"], .tup [.str "high", .str "right"]]) (da_cons (de_tp (ds := [_, _]) (da_cons de_str (da_cons de_str da_nil))) (da_cons (de_tp (ds := [_, _]) (da_cons de_str (da_cons de_str da_nil))) da_nil)))) (od_inD (room65 hr) (kj_pl _ _) (by decide +kernel))) (kj_eq _ _))))) (fun hc => ?_) (fun _ => ?_)
  · obtain ⟨h1, h2⟩ := Bool.and_eq_true_iff.mp hc
    obtain ⟨u, hu, hb⟩ := hR.split (of_decide_eq_true h1) (by
      rcases Bool.or_eq_true_iff.mp h2 with z | z
      · obtain ⟨z1, z2⟩ := Bool.and_eq_true_iff.mp z
        exact Or.inl ⟨z1, of_decide_eq_true z2⟩
      · obtain ⟨z1, z2⟩ := Bool.and_eq_true_iff.mp z
        exact Or.inr ⟨by simpa using z1, of_decide_eq_true z2⟩)
    exact dss_one (ds_retE (de_call (ok__law_behind T) (hr.mono (by decide)) (da_cons (de_v 6) (da_cons de_str (da_cons (de_v 7) da_nil))) (call "join" u (by decide +kernel) hu hb)) rfl)
  exact dss_one (ds_retE de_bl rfl)
end

end DL
/-! Lx -/
set_option Elab.async false
set_option linter.all false
set_option maxRecDepth 100000
set_option maxHeartbeats 4000000
namespace DL
open PySem PySem.Spec PyProof.Rows L2
local macro_rules | `(tactic| walk_at "od") => `(tactic| first | exact od_eqS | exact od_neS | exact od_inT | exact od_notInT | exact od_inL | exact od_notInL | exact od_eqB | exact od_neB)
local macro_rules | `(tactic| walk_at "len") => `(tactic| first | omega | (simp only [List.length_append, List.length_cons, List.length_nil, List.length_take, List.length_drop]; omega))
section
variable {P : Program} {w : World} {K : PySem.W.Frag} {mg : Str → Option Value} {base : Heap}
theorem gone_pl {h : Hs} {up : Bool} {s : Sc} : ∀ e ∈ others h up (gone s), pln 7 (.tup e.1) = true := fun e he => by
  cases ot_of he with
  | new _ hp =>
    show (.str "new" :: pgL _ ++ [.int _] : List Dt).all (pln 6) = true
    rw [List.all_append]
    refine Bool.and_eq_true_iff.mpr ⟨?_, rfl⟩
    refine List.all_eq_true.mpr fun d hd => ?_
    unfold pgL at hd
    simp only [List.mem_cons] at hd
    rcases hd with z | z | z | z | z
    · rw [z]; decide +kernel
    · rw [z]; exact enc_ok _
    · rw [z]; exact sd_ok _
    · rw [z]; exact sd_ok _
    · cases z
  | way h1 _ _ => cases h1
  | leave h1 => cases h1
theorem lgln {rs : List Rw} (h : LgOk 5 rs) : LnOk rs := ⟨by have := h.rows; omega, fun q hq => by have := h.tests q hq; omega⟩
theorem free_not (h : Hs) (s : Sc) : freeB h s = !usedUp h s.many := by
  unfold freeB usedUp
  cases h.changes with
  | none => rfl
  | some c =>
    show decide (s.many < (c : Int)) = !decide ((c : Int) ≤ s.many)
    rw [Bool.eq_iff_iff]; simp
theorem lc_mapR {X : Cx} {scope : Scope} {tg elt : Expr} {ifs : List Expr} {ρ : List Sl} {RL : List Dt → Prop} (f : Dt → Bool) (g : Dt → Dt) {vs L : List Nat} (hl : ∀ l, RL l → l.length < 100000) (hg : ∀ l, RL l → ∀ a ∈ l, notInt (g a) = true) (ρ2 : Dt → List Sl) (hL : ∀ j ∈ L, j ∈ vs)
    (h1 : ∀ l, RL l → ∀ a ∈ l, ∀ s Hb C cl fp, DG (Bk X scope s Hb C cl fp) tg a L (wipeS ρ vs) (fun z => z = ρ2 a)) (h2 : ∀ l, RL l → ∀ a ∈ l, ∀ s Hb C cl fp, DQs (Bk X scope s Hb C cl fp) ifs (ρ2 a) (fun z => z = f a))
    (h3 : ∀ l, RL l → ∀ a ∈ l, f a = true → ∀ s Hb C cl fp, DE (Bk X scope s Hb C cl fp) elt (ρ2 a) (g a)) : Lc X scope tg elt ifs vs ρ RL (fun ds => ∃ l, RL l ∧ ds = (l.filter f).map g) := fun l r => by
  obtain ⟨out, o1, o2, o3, o4⟩ := lc_map l (fun d => d) f g (hl l r) (hg l r) ρ2 hL (h1 l r) (h2 l r) (h3 l r) l (by rw [List.map_id'])
  exact ⟨out, o1, o2, o3, fun l2 q => ⟨l, r, o4 l2 q⟩⟩
theorem tr_filter {h : Hs} {up : Bool} {s : Sc} {l : List Dt} (hl : TrOk h up s l) : l.filter (fun t => !decide (hdOf t = "next")) = (others h up s).map trD := by
  obtain ⟨l0, rfl, _, h0⟩ := hl
  rw [List.filter_append]
  have e0 : l0.filter (fun t => !decide (hdOf t = "next")) = [] := List.filter_eq_nil_iff.mpr fun t ht => by
    obtain ⟨rest, g, b, rfl⟩ := h0 t ht
    show ¬ (!decide (("next" : Str) = "next")) = true
    decide +kernel
  have e1 : ((others h up s).map trD).filter (fun t => !decide (hdOf t = "next")) = (others h up s).map trD := List.filter_eq_self.mpr fun t ht => by
    obtain ⟨e, he, rfl⟩ := List.mem_map.mp ht
    obtain ⟨z, rest, e1, hz⟩ := ot_hd (ot_of he)
    unfold trD
    rw [e1]
    show (!decide (z = "next")) = true
    rw [hz]; rfl
  rw [e0, e1, List.nil_append]
theorem new_filter {h : Hs} {up : Bool} {s : Sc} {l : List Dt} (hl : TrOk h up (gone s) l) : (l.filter (fun t => decide (hdOf t = "new"))).map evOf = (others h up (gone s)).map fun e => .tup e.1 := by
  obtain ⟨l0, rfl, _, h0⟩ := hl
  rw [List.filter_append]
  have e0 : l0.filter (fun t => decide (hdOf t = "new")) = [] := List.filter_eq_nil_iff.mpr fun t ht => by
    obtain ⟨rest, g, b, rfl⟩ := h0 t ht
    show ¬ decide (("next" : Str) = "new") = true
    decide +kernel
  have e1 : ((others h up (gone s)).map trD).filter (fun t => decide (hdOf t = "new")) = (others h up (gone s)).map trD := List.filter_eq_self.mpr fun t ht => by
    obtain ⟨e, he, rfl⟩ := List.mem_map.mp ht
    obtain ⟨rest, e1⟩ := gone_new e he
    unfold trD
    rw [e1]
    show decide (("new" : Str) = "new") = true
    exact decide_eq_true rfl
  rw [e0, e1, List.nil_append, List.map_map]
  rfl
theorem str_pl : ∀ z ∈ (["new", "leave", "come", "again", "go", "split", "join"] : List Str), ∀ n, pln n (.str z) = true := by
  intro z hz n
  have h0 : (["new", "leave", "come", "again", "go", "split", "join"] : List Str).all (fun z => pln 0 (.str z)) = true := by decide +kernel
  have h1 := List.all_eq_true.mp h0 z hz
  induction n with
  | zero => exact h1
  | succ n ih => exact pln_up ih
theorem enc_pl (u : List Lt) (n : Nat) : pln n (.str (enc u)) = true := by
  induction n with
  | zero => exact enc_ok u
  | succ n ih => exact pln_up ih
theorem sd_pl (k : Sd) (n : Nat) : pln n (.str (sdS k)) = true := by
  induction n with
  | zero => exact sd_ok k
  | succ n ih => exact pln_up ih
theorem int_pl (i : Int) (n : Nat) : pln n (.int i) = true := by cases n <;> rfl
theorem two_pl {x y : Dt} (hx : pln 5 x = true) (hy : pln 5 y = true) : ∀ d ∈ [x, y], pln 5 d = true := fun d hd => by
  rcases List.mem_cons.mp hd with z | hd
  · rw [z]; exact hx
  · rw [List.mem_singleton.mp hd]; exact hy
theorem wy_pl {h : Hs} {up : Bool} {s : Sc} {u : List Lt} {ev : Ev} {p : Pg} (hy : Wy h up s u ev p) : ∀ d ∈ ev, pln 5 d = true := by
  cases hy with
  | come _ _ => exact two_pl (str_pl _ (by decide +kernel) _) (int_pl _ _)
  | again _ _ => exact fun d hd => by rw [List.mem_singleton.mp hd]; exact str_pl _ (by decide +kernel) _
  | go _ _ => exact two_pl (str_pl _ (by decide +kernel) _) (int_pl _ _)
  | split _ => exact two_pl (str_pl _ (by decide +kernel) _) (int_pl _ _)
  | join _ _ _ _ _ => exact two_pl (str_pl _ (by decide +kernel) _) (enc_pl _ _)
theorem ot_pl {h : Hs} {up : Bool} {s : Sc} {e : Ev × Sc} (q : Ot h up s e) : pln 6 (.tup e.1) = true := by
  have key : ∀ l : List Dt, (∀ d ∈ l, pln 5 d = true) → pln 6 (.tup l) = true := fun l hl => List.all_eq_true.mpr hl
  refine key _ ?_
  cases q with
  | @new p one _ _ =>
    intro d hd
    rcases List.mem_append.mp hd with hd | hd
    · unfold pgL at hd
      simp only [List.mem_cons] at hd
      rcases hd with z | z | z | z | z
      · rw [z]; exact str_pl _ (by decide +kernel) _
      · rw [z]; exact enc_pl _ _
      · rw [z]; exact sd_pl _ _
      · rw [z]; exact sd_pl _ _
      · cases z
    · rw [List.mem_singleton.mp hd]; exact int_pl _ _
  | @way u ev p one _ _ hy =>
    intro d hd
    rcases List.mem_append.mp hd with hd | hd
    · exact wy_pl hy d hd
    · rw [List.mem_singleton.mp hd]; exact int_pl _ _
  | leave _ =>
    intro d hd
    rw [List.mem_singleton.mp hd]; exact str_pl _ (by decide +kernel) _
theorem tr_pl {h : Hs} {up : Bool} {s : Sc} : ∀ d ∈ (others h up s).map trD, pln 7 d = true := fun d hd => by
  obtain ⟨e, he, rfl⟩ := List.mem_map.mp hd
  show ([.tup e.1, .non, scD e.2] : List Dt).all (pln 6) = true
  refine List.all_eq_true.mpr fun x hx => ?_
  simp only [List.mem_cons] at hx
  rcases hx with z | z | z | z
  · rw [z]; exact ot_pl (ot_of he)
  · rw [z]; rfl
  · rw [z]; exact sc_plainD e.2
  · cases z
theorem ev_ni {h : Hs} {up : Bool} {b : Sc} {l : List Dt} (q : TrOk h up b l) : ∀ t ∈ l, notInt (evOf t) = true := fun t ht => by
  obtain ⟨z, rest, g, b, rfl, _⟩ := tr_tb (hd := "leave") (by decide +kernel) q t ht
  rfl
def S_law : List Sl → (Dt → Prop) → Prop := fun as R => ∃ ns : List Int, as = [.scr ns] ∧ R = fun d => d = .bl true
abbrev ρL (ns : List Int) (k : Nat) (r : List Sl) : List Sl := .scr ns :: .dat (.int (k : Int)) :: .box :: r
abbrev ρM (ns : List Int) (k : Nat) (d : Dt) (h : Hs) (up : Bool) (rs : List Rw) (s : Sc) (r : Rd') (l : List Sl) : List Sl := .scr ns :: .dat (.int (k : Int)) :: .box :: .dat d :: .dat (hdD h) :: .dat (.str (wayS up)) :: .dat (lnsD rs) :: .dat W4L :: .dat (scD s) :: .dat (rdD r) :: .dat (hsD h) :: l
theorem law_fn (T : Top w K mg) {fd : FuncData} (F : FD K "law" s_law fd) : FnOk P w K mg base CX0 11 (He.ga K "law") fd P_law (spS K S_law) := by
  refine fn_one F sc_law ?_
  rintro as R ⟨ns, rfl, rfl⟩
  refine ⟨⟨rfl, by simp [isMut]⟩, fun cdv A outer s' H S0 E hr => ?_⟩
  refine dss_cons (M := fun _ => True) (ds_for (di_mono (di_range1 (S := fun n => n = 1 ∨ n = 2) T.f_range (dar_cons (DE.as (R := fun d => ∃ n : Int, d = .int n ∧ (n = 1 ∨ n = 2)) (de_cb T.f_max bt_max (da_cons de_int (da_cons (de_cb T.f_min bt_min (da_cons de_int (da_cons (de_cb T.f_len bt_len (da_scr 0 da_nil) cd_lenScr) da_nil)) cd_min) da_nil)) cd_max) ⟨_, rfl, by split <;> split at * <;> omega⟩) da_nil (fun d as ⟨n, h1, h2⟩ e => ⟨n, by rw [h1, e], h2⟩)) (fun n h => by omega)) (RL' := fun ds => ∃ n : Nat, n ≤ 2 ∧ ds = upTo n) (fun ds ⟨n, h1, h2⟩ => ⟨n.toNat, by omega, h2⟩)) fun ds ⟨n, hn2, hds⟩ => ⟨fun i z => ∃ k : Sl, ∃ b : Sl, z = [.scr ns, .un, .un, .un, .un, .un, .un, .un, .un, .un, .un, .un, .un, .un, .un, .un, .un, .un, .un, .un, .un, .un, .un, .un], ⟨_, ⟨.un, .un, rfl⟩, Wk.refl _⟩, ?_, fun _ _ => trivial⟩) ?_
  · rintro k d ρi hd ⟨_, _, rfl⟩
    have hk : k < n := by
      have := (List.getElem?_eq_some_iff.mp hd).1
      rw [hds, upTo_len] at this
      exact this
    have ed : d = .int (k : Int) := by
      rw [hds, upTo_get hk] at hd
      exact (Option.some.inj hd).symm
    subst ed
    refine ⟨[1], dg_name 1 ?_ sc_law.nd⟩
    refine dss_then (ρ1 := ρL ns k [.un, .un, .un, .un, .un, .un, .un, .un, .un, .un, .un, .un, .un, .un, .un, .un, .un, .un, .un, .un, .un]) (ds_setBox 2 (dl_call1 (ok__law_box T) (hr.mono (by decide)) (da_scr 0 (da_cons (de_v 1) (da_cons de_int da_nil))) ⟨ns, k, 20, rfl, by omega, by decide, rfl⟩) rfl sc_law.nd) ?_
    refine dss_one (ds_for (di_range (n := 3) T.f_range de_int ⟨by decide, by decide⟩) fun ds2 hds2 => ⟨fun i z => z = ρL ns k [.un, .un, .un, .un, .un, .un, .un, .un, .un, .un, .un, .un, .un, .un, .un, .un, .un, .un, .un, .un, .un], ⟨_, rfl, Wk.refl _⟩, ?_, fun z hz => ⟨_, ⟨.un, .un, rfl⟩, by rw [hz]; exact .eq (.un (.un (.eq (.eq (.eq (.eq (.eq (.eq (.eq (.eq (.eq (.eq (.eq (.eq (.eq (.eq (.eq (.eq (.eq (.eq (.eq (.eq (.eq .nil)))))))))))))))))))))))⟩⟩)
    rintro i d ρj hd rfl
    refine ⟨[3], dg_name 3 ?_ sc_law.nd⟩
    refine dss_cons (M := fun z => ∃ (h : Hs) (up : Bool) (rs : List Rw), HOk h ∧ LgOk 5 rs ∧ z = ρL ns k [.dat d, .dat (hdD h), .dat (.str (wayS up)), .dat (lnsD rs), .un, .un, .un, .un, .un, .un, .un, .un, .un, .un, .un, .un, .un, .un, .un, .un, .un]) (ds_par3 4 5 6 (S := fun as => ∃ (h : Hs) (up : Bool) (rs : List Rw), HOk h ∧ LgOk 5 rs ∧ as = [.dat (hdD h), .dat (.str (wayS up)), .dat (lnsD rs)]) (dar_cons (R := fun d => ∃ h, d = hdD h ∧ HOk h) (S := fun as => ∃ (up : Bool) (rs : List Rw), LgOk 5 rs ∧ as = [.dat (.str (wayS up)), .dat (lnsD rs)]) (dr_call1 (ok__law_house T) (hr.mono (by decide)) (da_box 2 (da_cons de_int da_nil)) ⟨rfl, rfl⟩) (dar_cons (R := fun d => ∃ up : Bool, d = .str (wayS up)) (S := fun as => ∃ (rs : List Rw), LgOk 5 rs ∧ as = [.dat (lnsD rs)]) (dr_call1 (ok__law_pick T) (hr.mono (by decide)) (da_box 2 (da_cons (DL.fzE (dl_ls (ds := [.str "up", .str "down"]) (da_cons de_str (da_cons de_str da_nil)))) da_nil)) ⟨_, rfl, (fun z => by cases z), by exact Nat.le_of_ble_eq_true rfl, fun d hd => by
        rcases List.mem_cons.mp hd with rfl | hd
        · exact ⟨true, rfl⟩
        · rw [List.mem_singleton.mp hd]; exact ⟨false, rfl⟩⟩) (dar_cons (R := fun d => ∃ rs, d = lnsD rs ∧ LgOk 5 rs) (dr_call1 (ok__law_lines T) (hr.mono (by decide)) (da_box 2 da_nil) ⟨rfl, rfl⟩) da_nil (fun d as ⟨rs, h1, h2⟩ e => ⟨rs, h2, by rw [h1, e]⟩)) (fun d as ⟨up, h1⟩ ⟨rs, h2, h3⟩ => ⟨up, rs, h2, by rw [h1, h3]⟩)) (fun d as ⟨h, h1, h2⟩ ⟨up, rs, h3, h4⟩ => ⟨h, up, rs, h2, h3, by rw [h1, h4]⟩)) (fun as ⟨h, up, rs, h1, h2, e⟩ => ⟨_, _, _, e, h, up, rs, h1, h2, rfl⟩) sc_law.nd) ?_
    rintro z ⟨h, up, rs, ho, hrs, rfl⟩
    refine dss_then (ρ1 := ρL ns k [.dat d, .dat (hdD h), .dat (.str (wayS up)), .dat (lnsD rs), .dat W4L, .un, .un, .un, .un, .un, .un, .un, .un, .un, .un, .un, .un, .un, .un, .un, .un]) (ds_setF 7 (dl_ls (ds := W4.map Dt.str) (da_cons de_str (da_cons de_str (da_cons de_str (da_cons de_str da_nil))))) rfl sc_law.nd) ?_
    refine dss_cons (M := fun z => ∃ (s : Sc) (r : Rd'), Good h up s ∧ r.up = up ∧ RdOk r ∧ z = ρM ns k d h up rs s r [.un, .un, .un, .un, .un, .un, .un, .un, .un, .un, .un, .un, .un]) (ds_par3 8 9 10 (S := fun as => ∃ (s : Sc) (r : Rd'), Good h up s ∧ r.up = up ∧ RdOk r ∧ as = [.dat (scD s), .dat (rdD r), .dat (hsD h)]) (dar_cons (R := fun d => ∃ s, d = scD s ∧ Good h up s) (S := fun as => ∃ (r : Rd'), r.up = up ∧ RdOk r ∧ as = [.dat (rdD r), .dat (hsD h)]) (dr_call1 (ok__law_scene T) (hr.mono (by decide)) (da_box 2 (da_cons (de_v 4) (da_cons (de_v 5) (da_cons (de_v 6) (da_cons (de_v 7) (da_cons de_int da_nil)))))) ⟨h, up, rs, rfl, ho, lgln hrs, rfl⟩) (dar_cons (R := fun d => ∃ r : Rd', d = rdD r ∧ r.up = up ∧ RdOk r) (S := fun as => as = [.dat (hsD h)]) (dr_call1 (ok__law_reader T) (hr.mono (by decide)) (da_cons (de_v 5) (da_cons (de_v 6) da_nil)) ⟨up, rs, rfl, hrs, rfl⟩) (da_cons (de_call (ok__law_home T) (hr.mono (by decide)) (da_cons (de_v 4) da_nil) ⟨h, rfl, ho, rfl⟩) da_nil) (fun d as ⟨r, h1, h2, h3⟩ e => ⟨r, h2, h3, by rw [h1, e]⟩)) (fun d as ⟨s, h1, h2⟩ ⟨r, h3, h4, h5⟩ => ⟨s, r, h2, h3, h4, by rw [h1, h5]⟩)) (fun as ⟨s, r, h1, h2, h3, e⟩ => ⟨_, _, _, e, s, r, h1, h2, h3, rfl⟩) sc_law.nd) ?_
    rintro z ⟨s, r, hg, hru, hrd, rfl⟩
    subst hru
    have hwf := hg.wf ho
    have holen := others_len (up := r.up) ho hwf
    refine dss_then (ρ1 := ρM ns k d h r.up rs s r [.dat (.lst ((others h r.up s).map trD)), .un, .un, .un, .un, .un, .un, .un, .un, .un, .un, .un, .un]) (ds_lcF 11 [(".0", 19), ("_law_triple", 20)] (RL := fun z => TrOk h r.up s z) (di_tup (dr_callD (ok_nexts T) (hr.mono (by decide)) (da_cons (de_v 9) (da_cons (de_v 10) (da_cons (de_v 8) da_nil))) ⟨r, h, s, rfl, hrd, ho, hwf, rfl⟩))
      (lc_mapR (fun t => !decide (hdOf t = "next")) (fun d => d) (fun l hl => tr_len ho hwf hl) (fun l hl t ht => by
          obtain ⟨z, rest, g, b, rfl, _⟩ := tr_tb (hd := "leave") (by decide +kernel) hl t ht
          rfl) (fun t => ρM ns k d h r.up rs s r [.un, .un, .un, .un, .un, .un, .un, .un, .un, .dat t, .un, .un, .un]) (L := [20]) (by simp) (fun l hl t _ s Hb C cl fp => dg_name 20 rfl sc_law.nd)
          (fun l hl t ht s Hb C cl fp => by
            obtain ⟨z, rest, g, b, rfl, _⟩ := tr_tb (hd := "leave") (by decide +kernel) hl t ht
            exact dqs_one (dt_cmp (de_ix (de_ix (de_v 20) de_int (id_tup 0)) de_int (id_tup 0)) de_str od_neS)) (fun l hl t _ _ s Hb C cl fp => de_v 20)) (fun l2 ⟨l, hl, e⟩ => by rw [List.map_id', tr_filter hl] at e; rw [e] <;> rfl) sc_law.nd (blkOk_by (show blkC N_law (defScope s_law) _ _ = true by decide +kernel))) ?_
    refine dss_one (ds_for (di_mono (di_range1 (S := fun n => (n = 6 ∧ others h r.up s ≠ []) ∨ n = 0) T.f_range (dar_cons (R := fun d => ∃ n : Int, d = .int n ∧ ((n = 6 ∧ others h r.up s ≠ []) ∨ n = 0)) (dr_ifT (dt_cmp (de_v 11) (DL.fzE (dl_ls (ds := []) da_nil)) (od_neNil (room64 hr) tr_pl)) (fun hq => DE.as de_int ⟨6, rfl, Or.inl ⟨rfl, fun z => by rw [z] at hq; cases hq⟩⟩) (fun _ => DE.as de_int ⟨0, rfl, Or.inr rfl⟩)) da_nil (fun d as ⟨n, h1, h2⟩ e => ⟨n, by rw [h1, e], h2⟩)) (fun n h => by omega)) (RL' := fun ds => ds ≠ [] → others h r.up s ≠ []) (fun ds ⟨n, h1, h2⟩ hne => by
        rcases h1 with ⟨_, q⟩ | q
        · exact q
        · rw [h2, q] at hne; exact absurd rfl hne)) fun ds3 hds3 => ⟨fun i z => z = ρM ns k d h r.up rs s r [.dat (.lst ((others h r.up s).map trD)), .un, .un, .un, .un, .un, .un, .un, .un, .un, .un, .un, .un], ⟨_, rfl, Wk.refl _⟩, ?_, fun z hz => ⟨_, rfl, by rw [hz]; exact .eq (.eq (.eq (.un (.un (.un (.un (.un (.un (.un (.un (.un (.eq (.eq (.eq (.eq (.eq (.eq (.eq (.eq (.eq (.eq (.eq (.eq .nil)))))))))))))))))))))))⟩⟩)
    rintro j d2 ρk hd2 rfl
    have hone : others h r.up s ≠ [] := hds3 fun z => by rw [z] at hd2; cases hd2
    refine ⟨[12], dg_name 12 ?_ sc_law.nd⟩
    refine dss_cons (M := fun z => ∃ e : Ev × Sc, Ot h r.up s e ∧ z = ρM ns k d h r.up rs s r [.dat (.lst ((others h r.up s).map trD)), .dat d2, .dat (.tup e.1), .dat .non, .dat (scD e.2), .un, .un, .un, .un, .un, .un, .un, .un]) (ds_asgR (L := [13, 14, 15]) (R := fun d => ∃ e : Ev × Sc, Ot h r.up s e ∧ d = trD e) (dr_call1 (ok__law_pick T) (hr.mono (by decide)) (da_box 2 (da_cons (de_v 11) da_nil)) ⟨_, rfl, (fun z => hone (List.map_eq_nil_iff.mp z)), by rw [List.length_map]; omega, fun d hd => by
        obtain ⟨e, he, rfl⟩ := List.mem_map.mp hd
        exact ⟨e, ot_of he, rfl⟩⟩) (fun d ⟨e, h1, h2⟩ => by rw [h2]; exact dg3 13 14 15 ⟨e, h1, rfl⟩ sc_law.nd)) ?_
    rintro z ⟨⟨e1, b⟩, hot, rfl⟩
    obtain ⟨hd, rest, ev, hnn, _, hlv⟩ := ot_ret ho hg hot
    have ev : e1 = .str hd :: rest := ev
    subst ev
    refine dss_then (ρ1 := ρM ns k d h r.up rs s r [.dat (.lst ((others h r.up s).map trD)), .dat d2, .dat (.tup (.str hd :: rest)), .dat .non, .dat (scD b), .dat (.bl true), .un, .un, .un, .un, .un, .un, .un]) (ds_set 16 (de_call (ok__law_returns T) (hr.mono (by decide)) (da_cons (de_v 9) (da_cons (de_v 10) (da_cons (de_v 4) (da_cons (de_v 8) (da_cons (de_v 13) (da_cons (de_v 15) da_nil)))))) ⟨r, h, s, _, rfl, hrd, ho, hg, hot, rfl⟩) rfl sc_law.nd) ?_
    refine dss_ifr (DT.eq (DW.q (wt_or (dt_cmp (de_v 14) de_non od_notN) fun _ => (wt_or1 (dt_not (dt_val (de_v 16)))))) (d' := false) rfl) (fun hc => by cases hc) (fun _ => ?_)
    have wk0 : ∀ a1 a2 : Sl, Wk (ρM ns k d h r.up rs s r [.dat (.lst ((others h r.up s).map trD)), .un, .un, .un, .un, .un, .un, .un, .un, .un, .un, .un, .un]) (ρM ns k d h r.up rs s r [.dat (.lst ((others h r.up s).map trD)), .dat d2, .dat (.tup (.str hd :: rest)), .dat .non, .dat (scD b), .dat (.bl true), a1, a2, .un, .un, .un, .un, .un]) := fun a1 a2 => .eq (.eq (.eq (.eq (.eq (.eq (.eq (.eq (.eq (.eq (.eq (.eq (.un (.un (.un (.un (.un (.un (.un (.eq (.eq (.eq (.eq (.eq .nil)))))))))))))))))))))))
    refine dss_one (ds_ifT (dt_cmp (de_ix (de_v 13) de_int (id_tup 0)) de_str od_eqS) (fun hc => ?_) (fun _ => dss_nil ⟨_, rfl, wk0 .un .un⟩))
    have hb : b = gone s := hlv (of_decide_eq_true hc)
    subst hb
    have hwf2 : WF h (gone s) := ot_wf ho hg hot
    refine dss_then (ρ1 := ρM ns k d h r.up rs s r [.dat (.lst ((others h r.up s).map trD)), .dat d2, .dat (.tup (.str hd :: rest)), .dat .non, .dat (scD (gone s)), .dat (.bl true), .dat (.lst ((others h r.up (gone s)).map fun e => .tup e.1)), .un, .un, .un, .un, .un, .un]) (ds_lcF 17 [(".0", 19), ("_law_one", 21), ("_law_aim_met", 22), ("_law_later_here", 23)] (RL := fun z => TrOk h r.up (gone s) z) (di_tup (dr_callD (ok_nexts T) (hr.mono (by decide)) (da_cons (de_v 9) (da_cons (de_v 10) (da_cons (de_v 15) da_nil))) ⟨r, h, gone s, rfl, hrd, ho, hwf2, rfl⟩))
      (lc_mapR (fun t => decide (hdOf t = "new")) evOf (fun l hl => tr_len ho hwf2 hl) (fun l hl => ev_ni hl) (fun t => ρM ns k d h r.up rs s r [.dat (.lst ((others h r.up s).map trD)), .dat d2, .dat (.tup (.str hd :: rest)), .dat .non, .dat (scD (gone s)), .dat (.bl true), .un, .un, .un, .un, .dat (evOf t), .dat (match t with | .tup [_, g, _] => g | _ => .non), .dat (thOf t)]) (L := [21, 22, 23]) (by simp)
          (fun l hl t ht s Hb C cl fp => by
            obtain ⟨z, rest, g, b, rfl, _⟩ := tr_tb (hd := "leave") (by decide +kernel) hl t ht
            exact dg3 21 22 23 rfl sc_law.nd)
          (fun l hl t ht s Hb C cl fp => by
            obtain ⟨z, rest, g, b, rfl, _⟩ := tr_tb (hd := "leave") (by decide +kernel) hl t ht
            exact dqs_one (dt_cmp (de_ix (de_v 21) de_int (id_tup 0)) de_str od_eqS)) (fun l hl t _ _ s Hb C cl fp => de_v 21)) (fun l2 ⟨l, hl, e⟩ => by rw [new_filter hl] at e; rw [e] <;> rfl) sc_law.nd (blkOk_by (show blkC N_law (defScope s_law) _ _ = true by decide +kernel))) ?_
    refine dss_then (ρ1 := ρM ns k d h r.up rs s r [.dat (.lst ((others h r.up s).map trD)), .dat d2, .dat (.tup (.str hd :: rest)), .dat .non, .dat (scD (gone s)), .dat (.bl true), .dat (.lst ((others h r.up (gone s)).map fun e => .tup e.1)), .dat (.bl (freeB h s)), .un, .un, .un, .un, .un]) (ds_set 18 (d := .bl (freeB h s)) ?_ rfl sc_law.nd) ?_
    · unfold freeB
      cases hch : h.changes with
      | none => exact DE.eq (de_or (k := false) (DE.eq (de_cmp (de_dget (room1 hr) (de_v 4) de_str (hd_changes h)) de_non od_isNo) (d' := .bl true) (by rw [hch]; rfl)) (fun z => nomatch z)) rfl
      | some c => exact DE.eq (de_or (p := false) (DE.eq (de_cmp (de_dget (room1 hr) (de_v 4) de_str (hd_changes h)) de_non od_isNo) (d' := .bl false) (by rw [hch]; rfl)) (fun _ => de_one (de_cmp (de_sc (n := 4) (de_v 15)) (DE.eq (de_dget (room1 hr) (de_v 4) de_str (hd_changes h)) (d' := .int (c : Int)) (by rw [hch]; rfl)) od_lt))) rfl
    refine dss_one (ds_ifT (k := false) (DT.eq (dt_cmp (de_cmp (de_v 17) (DL.fzE (dl_ls (ds := []) da_nil)) (od_neNil (room64 hr) (fun d hd4 => by
        obtain ⟨e, he, rfl⟩ := List.mem_map.mp hd4
        exact gone_pl e he))) (de_and (de_dget (room1 hr) (de_v 4) de_str (hd_again h)) fun _ => (de_one (de_v 18))) od_neB) ?_) (fun hc => by cases hc) (fun _ => dss_nil ⟨_, rfl, wk0 _ _⟩))
    have e5 : ((others h r.up (gone s)).map fun e => Dt.tup e.1).isEmpty = (others h r.up (gone s)).isEmpty := by cases others h r.up (gone s) <;> rfl
    rw [e5, gone_ne ho, free_not]
    cases h.again <;> cases usedUp h s.many <;> rfl
  rintro z _
  exact dss_one (ds_retE de_bl rfl)
end

end DL
/-! End -/
set_option Elab.async false
set_option linter.all false
set_option maxRecDepth 100000
set_option maxHeartbeats 0
namespace DL
open PySem PySem.Spec PyProof.Rows L2
theorem law_end {P : Program} {w : World} {K : PySem.W.Frag} {h : Heap} {mg : Str → Option Value} {f : Addr} (X : K.In h) (G : h.Ns mainGlobals mg) (hfa : mg ("law" : Str) = some (.ref f)) (c : He.SaysT faL fnL tsL w K) (ex : exB K = true) :
    ∃ fd : FuncData, (∀ (s : Shared) (v : Value), BindsTo s fd ⟨[v], []⟩ [("_law_script", v)]) ∧ ∀ base : Heap, K.In base → base.Ns mainGlobals mg → FnOk P w K mg base CX0 11 f fd ["_law_script"] (spS K S_law) := by
  have T : Top w K mg := ⟨c, ex, h, X, G⟩
  obtain ⟨fd, F⟩ := T.fn 68 (d := d_law)
  have e := hfa.symm.trans T.g_law
  cases e
  have F' : FD K "law" s_law fd := F
  have b := FunD.bindsA (ps := ["_law_script"]) F' fun _ _ _ _ _ _ us hl => match us, hl with | [_], _ => rfl
  exact ⟨fd, fun s v => b s [v] rfl, fun base _ _ => law_fn T F'⟩
theorem law_sp {K : PySem.W.Frag} {H : Hp} {a : Addr} {ns : List Int} (hS : SqL K H a (ns.map V.int)) : spS K S_law [.ref a] H (fun v _ => v = .bl true) fun _ _ _ => False :=
  ⟨H, [.scr ns], _, En.cons (En.nil (Ex.refl H)) ⟨a, rfl, hS⟩ (fun _ z => nomatch z), ⟨ns, rfl, rfl⟩, fun v d Hs' H' _ r e => by rw [e] at r; exact r.bl_inv⟩
end DL
open PySem PySem.W PySem.Calls PyProof.Rows
theorem PySem.Challenge.cw_keptslot_k20_whole_deeds_there_and_back_holds : PySem.Challenge.rw_keptslot_k20_whole_deeds_there_and_back.Holds := by
  w_on; o_law
  refine HandSHeadRun.head_any (r := OpenLaw.row PySem.Challenge.rw_keptslot_k20_whole_deeds_there_and_back) (q := view (OpenLaw.row PySem.Challenge.rw_keptslot_k20_whole_deeds_there_and_back).prog [98]) (H := DL.hk) (ob := DL.ob) (M := 6000) (loose := DL.namesL) (d := HandSHeadRun.topDef (OpenLaw.row PySem.Challenge.rw_keptslot_k20_whole_deeds_there_and_back).prog 98) (kwd := []) DL.ob_eq
    (by kernel_rfl) (fun s => by kernel_rfl) DL.run (by kernel_rfl) (by kernel_rfl) (by kernel_rfl) (by rfl) (by first | assumption | decide +kernel) (by decide +kernel) ⟨rfl, rfl, rfl, rfl, rfl, by decide +kernel⟩ ?hw ?hc
  case hw => w_witness2
  case hc =>
    refine L2.walk_ofE (l := PySem.Challenge.rw_keptslot_k20_whole_deeds_there_and_back) (n := 63) (k := 11) (x := "_law_script") (CX := L2.CX0) rfl (by decide) (by kernel_rfl) ⟨rfl, by decide, by decide⟩ ?F (fun _ _ _ _ z => z)
    intro w mg fa h Y G hmg0
    obtain ⟨K, KX, c, ex⟩ := Y
    have hmg : mg ("law" : PySem.Str) = some (.ref fa) := by
      have e : (HandSHeadRun.topDef (OpenLaw.row PySem.Challenge.rw_keptslot_k20_whole_deeds_there_and_back).prog 98).name = ("law" : PySem.Str) := by kernel_rfl
      rw [← e]
      exact hmg0
    obtain ⟨fd, hb, hF⟩ := DL.law_end (P := (PySem.Challenge.rw_keptslot_k20_whole_deeds_there_and_back).prog) (w := w) KX G hmg c ex
    exact ⟨K, fd, DL.spS K DL.S_law, KX, hb, fun H a ns hl _ hS => DL.law_sp hS, hF⟩
