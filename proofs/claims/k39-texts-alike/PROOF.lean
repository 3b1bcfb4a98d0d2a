import PyProof.Rows.All
import Wide.All
import OpenK.AllK
import Wide.FinOn
import HandS.ForMost
import HandS.Exc
import HandS.WordsExc
import HandS.Wide
import HandS.IsInst
import HandS.SortInts
import HandS.Conv
import HandS.ExcOwn
import HandS.Defaults
import HandS.DictComp
import HandS.Finally
import HandS.TupLe
import HandS.EndBits
import PySem.Challenge.RW_wrapclues_k39_texts_that_are_alike
set_option Elab.async false
set_option linter.all false
set_option maxRecDepth 100000
/-! DL, part a: deep data D over an immutable ghost heap G, mutable cells M, a frame F; what a state is. -/
namespace DL
open PySem PySem.Spec PyProof.Rows L2

/-- deep data; raw v: a value as it is (an address of a cell, a class, a def) -/
inductive D where
  | non | bl (b : Bool) | int (i : Int) | str (x : Str)
  | lst (xs : List D) | tup (xs : List D) | dic (kvs : List (Key × D)) | ins (C : Addr) (fs : List (Str × D)) | scr (ns : List Int) | raw (v : V)

mutual
inductive Dr (K : PySem.W.Frag) (G : Hp) : V → D → Prop
  | non : Dr K G .non .non
  | bl (b : Bool) : Dr K G (.bl b) (.bl b)
  | int (i : Int) : Dr K G (.int i) (.int i)
  | str (x : Str) : Dr K G (.str x) (.str x)
  | lst {a : Addr} {vs : List V} {ds : List D} : G a = some (.lst vs) → Drs K G vs ds → Dr K G (.ref a) (.lst ds)
  | tup {a : Addr} {vs : List V} {ds : List D} : SqT K G a vs → Drs K G vs ds → Dr K G (.ref a) (.tup ds)
  | dic {a : Addr} {ws : List (Key × V)} {ds : List (Key × D)} : G a = some (.dK ws) → Drk K G ws ds → Dr K G (.ref a) (.dic ds)
  | ins {a C dx : Addr} {ws : List (Str × V)} {ds : List (Str × D)} : G a = some (.ins C dx ws) → G dx = some (.own a) → Drf K G ws ds → Dr K G (.ref a) (.ins C ds)
  | scr {a : Addr} {ns : List Int} : SqL K G a (ns.map V.int) → Dr K G (.ref a) (.scr ns)
  | raw (v : V) : Dr K G v (.raw v)
inductive Drs (K : PySem.W.Frag) (G : Hp) : List V → List D → Prop
  | nil : Drs K G [] []
  | cons {v : V} {vs : List V} {d : D} {ds : List D} : Dr K G v d → Drs K G vs ds → Drs K G (v :: vs) (d :: ds)
inductive Drk (K : PySem.W.Frag) (G : Hp) : List (Key × V) → List (Key × D) → Prop
  | nil : Drk K G [] []
  | cons {k : Key} {v : V} {vs : List (Key × V)} {d : D} {ds : List (Key × D)} : Dr K G v d → Drk K G vs ds → Drk K G ((k, v) :: vs) ((k, d) :: ds)
inductive Drf (K : PySem.W.Frag) (G : Hp) : List (Str × V) → List (Str × D) → Prop
  | nil : Drf K G [] []
  | cons {k : Str} {v : V} {vs : List (Str × V)} {d : D} {ds : List (Str × D)} : Dr K G v d → Drf K G vs ds → Drf K G ((k, v) :: vs) ((k, d) :: ds)
end

theorem sqT_mono {K : PySem.W.Frag} {G G' : Hp} {a : Addr} {vs : List V} (e : Same G G') (h : SqT K G a vs) : SqT K G' a vs := by
  rcases h with (h | ⟨o, h⟩) | h
  · exact .inl (.inl (e _ _ h))
  · exact .inl (.inr ⟨o, e _ _ h⟩)
  · exact .inr h

mutual
theorem Dr.mono {K : PySem.W.Frag} {G G' : Hp} (e : Same G G') : ∀ {v : V} {d : D}, Dr K G v d → Dr K G' v d
  | _, _, .non => .non
  | _, _, .bl b => .bl b
  | _, _, .int i => .int i
  | _, _, .str x => .str x
  | _, _, .lst h t => .lst (e _ _ h) (Drs.mono e t)
  | _, _, .tup h t => .tup (sqT_mono e h) (Drs.mono e t)
  | _, _, .dic h t => .dic (e _ _ h) (Drk.mono e t)
  | _, _, .ins h h2 t => .ins (e _ _ h) (e _ _ h2) (Drf.mono e t)
  | _, _, .scr h => .scr (e.seq h)
  | _, _, .raw v => .raw v
theorem Drs.mono {K : PySem.W.Frag} {G G' : Hp} (e : Same G G') : ∀ {vs : List V} {ds : List D}, Drs K G vs ds → Drs K G' vs ds
  | _, _, .nil => .nil
  | _, _, .cons h t => .cons (Dr.mono e h) (Drs.mono e t)
theorem Drk.mono {K : PySem.W.Frag} {G G' : Hp} (e : Same G G') : ∀ {vs : List (Key × V)} {ds : List (Key × D)}, Drk K G vs ds → Drk K G' vs ds
  | _, _, .nil => .nil
  | _, _, .cons h t => .cons (Dr.mono e h) (Drk.mono e t)
theorem Drf.mono {K : PySem.W.Frag} {G G' : Hp} (e : Same G G') : ∀ {vs : List (Str × V)} {ds : List (Str × D)}, Drf K G vs ds → Drf K G' vs ds
  | _, _, .nil => .nil
  | _, _, .cons h t => .cons (Dr.mono e h) (Drf.mono e t)
end

section
variable {K : PySem.W.Frag} {G : Hp}
theorem Drs.len : ∀ {vs : List V} {ds : List D}, Drs K G vs ds → vs.length = ds.length
  | _, _, .nil => rfl
  | _, _, .cons _ t => congrArg (· + 1) t.len
theorem Drk.len : ∀ {vs : List (Key × V)} {ds : List (Key × D)}, Drk K G vs ds → vs.length = ds.length
  | _, _, .nil => rfl
  | _, _, .cons _ t => congrArg (· + 1) t.len
theorem Drs.app : ∀ {vs ws : List V} {ds es : List D}, Drs K G vs ds → Drs K G ws es → Drs K G (vs ++ ws) (ds ++ es)
  | _, _, _, _, .nil, t => t
  | _, _, _, _, .cons h r, t => .cons h (r.app t)
theorem Drs.get : ∀ {vs : List V} {ds : List D} {i : Nat} {d : D}, Drs K G vs ds → ds[i]? = some d → ∃ v, vs[i]? = some v ∧ Dr K G v d
  | _, _, _, _, .nil, e => by simp at e
  | _, _, 0, _, .cons h _, e => by simp at e; subst e; exact ⟨_, rfl, h⟩
  | _, _, i + 1, d, .cons _ t, e => by
    obtain ⟨v, h1, h2⟩ := t.get (i := i) (by simpa using e)
    exact ⟨v, by simpa using h1, h2⟩
theorem Drs.getV : ∀ {vs : List V} {ds : List D} {i : Nat} {v : V}, Drs K G vs ds → vs[i]? = some v → ∃ d, ds[i]? = some d ∧ Dr K G v d
  | _, _, _, _, .nil, e => by simp at e
  | _, _, 0, _, .cons h _, e => by simp at e; subst e; exact ⟨_, rfl, h⟩
  | _, _, i + 1, d, .cons _ t, e => by
    obtain ⟨v, h1, h2⟩ := t.getV (i := i) (by simpa using e)
    exact ⟨v, by simpa using h1, h2⟩
theorem Drs.set {x : V} {y : D} (r : Dr K G x y) : ∀ {vs : List V} {ds : List D} (i : Nat), Drs K G vs ds → Drs K G (vs.set i x) (ds.set i y)
  | _, _, _, .nil => .nil
  | _, _, 0, .cons _ t => .cons r t
  | _, _, i + 1, .cons q t => .cons q (Drs.set r i t)
theorem Drs.take : ∀ {vs : List V} {ds : List D} (n : Nat), Drs K G vs ds → Drs K G (vs.take n) (ds.take n)
  | _, _, 0, _ => .nil
  | _, _, _ + 1, .nil => .nil
  | _, _, n + 1, .cons h t => .cons h (t.take n)
theorem Drs.drop : ∀ {vs : List V} {ds : List D} (n : Nat), Drs K G vs ds → Drs K G (vs.drop n) (ds.drop n)
  | _, _, 0, h => h
  | _, _, _ + 1, .nil => .nil
  | _, _, n + 1, .cons _ t => t.drop n
theorem Drs.rev : ∀ {vs : List V} {ds : List D}, Drs K G vs ds → Drs K G vs.reverse ds.reverse
  | _, _, .nil => .nil
  | _, _, .cons h t => by
    rw [List.reverse_cons, List.reverse_cons]
    exact t.rev.app (.cons h .nil)
theorem Drs.rep {vs : List V} {ds : List D} (h : Drs K G vs ds) : ∀ k : Nat, Drs K G (List.replicate k vs).flatten (List.replicate k ds).flatten
  | 0 => .nil
  | k + 1 => by
    rw [List.replicate_succ, List.replicate_succ, List.flatten_cons, List.flatten_cons]
    exact h.app (Drs.rep h k)
theorem Drs.nil_iff {vs : List V} {ds : List D} (h : Drs K G vs ds) : vs.isEmpty = ds.isEmpty := by
  cases h <;> rfl
theorem Drk.nil_iff {vs : List (Key × V)} {ds : List (Key × D)} (h : Drk K G vs ds) : vs.isEmpty = ds.isEmpty := by
  cases h <;> rfl
theorem Drs.ints : ∀ {ns : List Int} {vs : List V}, Drs K G vs (ns.map D.int) → vs = ns.map V.int
  | [], _, .nil => rfl
  | n :: ns, _, .cons h t => by
    cases h
    rw [List.map_cons, Drs.ints t]
theorem Drs.of_ints : ∀ ns : List Int, Drs K G (ns.map V.int) (ns.map D.int)
  | [] => .nil
  | n :: ns => .cons (.int n) (Drs.of_ints ns)
theorem Drs.bls : ∀ {ns : List Bool} {vs : List V}, Drs K G vs (ns.map D.bl) → vs = ns.map V.bl
  | [], _, .nil => rfl
  | n :: ns, _, .cons h t => by
    cases h
    rw [List.map_cons, Drs.bls t]
theorem Drs.strs : ∀ {ns : List Str} {vs : List V}, Drs K G vs (ns.map D.str) → vs = ns.map V.str
  | [], _, .nil => rfl
  | n :: ns, _, .cons h t => by
    cases h
    rw [List.map_cons, Drs.strs t]
theorem Drs.of_strs : ∀ ns : List Str, Drs K G (ns.map V.str) (ns.map D.str)
  | [] => .nil
  | n :: ns => .cons (.str n) (Drs.of_strs ns)
end

/-! ### mutable cells -/
structure AbsC where
  ok : PySem.W.Frag → Hp → Addr → Hp → Prop
  mono : ∀ K G G' p h, Same G G' → ok K G p h → ok K G' p h
  top : ∀ K G p h, ok K G p h → h p ≠ none

inductive Cell where
  | lst (ds : List D) | dic (kvs : List (Key × D)) | obj (C : Addr) (fs : List (Str × D)) | abs (A : AbsC)

def Cell.ok (K : PySem.W.Frag) (G : Hp) (p : Addr) (h : Hp) : Cell → Prop
  | .lst ds => ∃ vs, h p = some (.lst vs) ∧ Drs K G vs ds
  | .dic kvs => ∃ ws, h p = some (.dK ws) ∧ Drk K G ws kvs
  | .obj C fs => ∃ dx ws, h p = some (.ins C dx ws) ∧ h dx = some (.own p) ∧ Drf K G ws fs
  | .abs A => A.ok K G p h

theorem Cell.mono {K : PySem.W.Frag} {G G' : Hp} {p : Addr} {h : Hp} (e : Same G G') : ∀ {c : Cell}, c.ok K G p h → c.ok K G' p h
  | .lst _, ⟨vs, h1, h2⟩ => ⟨vs, h1, h2.mono e⟩
  | .dic _, ⟨vs, h1, h2⟩ => ⟨vs, h1, h2.mono e⟩
  | .obj _ _, ⟨dx, vs, h1, h2, h3⟩ => ⟨dx, vs, h1, h2, h3.mono e⟩
  | .abs A, h => A.mono _ _ _ _ _ e h
theorem Cell.top {K : PySem.W.Frag} {G : Hp} {p : Addr} {h : Hp} : ∀ {c : Cell}, c.ok K G p h → h p ≠ none
  | .lst _, ⟨vs, h1, h2⟩ => by rw [h1]; exact nofun
  | .dic _, ⟨vs, h1, h2⟩ => by rw [h1]; exact nofun
  | .obj _ _, ⟨dx, vs, h1, h2, h3⟩ => by rw [h1]; exact nofun
  | .abs A, h => A.top _ _ _ _ h

abbrev MS := Addr → Option Cell
def join (M F : MS) : MS := fun p => match M p with
  | some c => some c
  | none => F p
def updM (M : MS) (p : Addr) (c : Cell) : MS := fun q => if q = p then some c else M q
def remM (M : MS) (p : Addr) : MS := fun q => if q = p then none else M q
def sub (o : Addr → Option Addr) (p : Addr) (H : Hp) : Hp := fun a => if o a = some p then H a else none

theorem updM_same {M : MS} {p : Addr} {c : Cell} : updM M p c p = some c := if_pos rfl
theorem updM_ne {M : MS} {p q : Addr} {c : Cell} (h : q ≠ p) : updM M p c q = M q := if_neg h
theorem remM_same {M : MS} {p : Addr} : remM M p p = none := if_pos rfl
theorem remM_ne {M : MS} {p q : Addr} (h : q ≠ p) : remM M p q = M q := if_neg h
theorem join_l {M F : MS} {p : Addr} {c : Cell} (h : M p = some c) : join M F p = some c := by unfold join; rw [h]
theorem join_r {M F : MS} {p : Addr} (h : M p = none) : join M F p = F p := by unfold join; rw [h]
theorem join_none {M F : MS} {p : Addr} (h : join M F p = none) : M p = none ∧ F p = none := by
  unfold join at h
  cases e : M p with
  | none => rw [e] at h; exact ⟨rfl, h⟩
  | some c => rw [e] at h; cases h
theorem join_upd {M F : MS} {p : Addr} {c : Cell} : join (updM M p c) F = updM (join M F) p c := by
  funext q
  by_cases h : q = p
  · subst h; rw [join_l updM_same, updM_same]
  · rw [updM_ne h]; unfold join; rw [updM_ne h]

/-- the state's heap: what G and the cells of M say holds of H; nothing is owned twice -/
structure Rep (K : PySem.W.Frag) (G : Hp) (M : MS) (H : Hp) : Prop where
  g : Same G H
  own : ∃ o : Addr → Option Addr, (∀ a p, o a = some p → (∃ c, M p = some c) ∧ G a = none ∧ ∃ x, H a = some x) ∧ ∀ p c, M p = some c → c.ok K G p (sub o p H)

section
variable {K : PySem.W.Frag} {G G' H H' : Hp} {M M' : MS} {a p : Addr} {o : HO}
theorem Rep.gfree (R : Rep K G M H) (h : H a = none) : G a = none := R.g.free h
theorem sub_eq {ow : Addr → Option Addr} (h : ∀ b, ow b = some p → H' b = H b) : sub ow p H' = sub ow p H := by
  funext b
  unfold sub
  by_cases e : ow b = some p
  · rw [if_pos e, if_pos e, h b e]
  · rw [if_neg e, if_neg e]
theorem Rep.mfree (R : Rep K G M H) (h : H a = none) : M a = none := by
  obtain ⟨ow, _, h2⟩ := R.own
  cases e : M a with
  | none => rfl
  | some c =>
    have t := Cell.top (h2 a c e)
    unfold sub at t
    by_cases q : ow a = some a
    · rw [if_pos q, h] at t; exact absurd rfl t
    · rw [if_neg q] at t; exact absurd rfl t
theorem same_upd (h : G a = none) : Same G (upd G a o) := fun b x e => by
  rw [upd_ne (ne_of_none e h)]
  exact e
/-- the heap grows beside what is known -/
theorem Rep.grow (R : Rep K G M H) (e : Same H H') : Rep K G M H' := by
  obtain ⟨ow, h1, h2⟩ := R.own
  refine ⟨R.g.trans e, ow, fun b p hb => ?_, fun p c hp => ?_⟩
  · obtain ⟨c, g, x, hx⟩ := h1 b p hb
    exact ⟨c, g, x, e _ _ hx⟩
  · rw [sub_eq (H := H) fun b hb => ?_]
    · exact h2 p c hp
    · obtain ⟨_, _, x, hx⟩ := h1 b p hb
      rw [hx, e _ _ hx]
/-- a new immutable object -/
theorem Rep.imm (R : Rep K G M H) (h : H a = none) : Rep K (upd G a o) M (upd H a o) := by
  obtain ⟨ow, h1, h2⟩ := R.own
  have gn := R.gfree h
  have ne : ∀ b p, ow b = some p → b ≠ a := fun b p hb => by
    obtain ⟨_, _, x, hx⟩ := h1 b p hb
    exact ne_of_none hx h
  refine ⟨fun b x e => ?_, ow, fun b p hb => ?_, fun p c hp => ?_⟩
  · by_cases hb : b = a
    · subst hb
      rw [upd_same] at e ⊢
      exact e
    · rw [upd_ne hb] at e ⊢
      exact R.g _ _ e
  · obtain ⟨c, g, x, hx⟩ := h1 b p hb
    exact ⟨c, by rw [upd_ne (ne b p hb)]; exact g, x, by rw [upd_ne (ne b p hb)]; exact hx⟩
  · rw [sub_eq (H := H) fun b hb => upd_ne (ne b p hb)]
    exact Cell.mono (same_upd gn) (h2 p c hp)
/-- a new cell -/
def addO (ow : Addr → Option Addr) (a : Addr) : Addr → Option Addr := fun b => if b = a then some a else ow b
theorem addO_same {ow : Addr → Option Addr} {a : Addr} : addO ow a a = some a := if_pos rfl
theorem addO_ne {ow : Addr → Option Addr} {a b : Addr} (h : b ≠ a) : addO ow a b = ow b := if_neg h
theorem Rep.cell (R : Rep K G M H) (h : H a = none) {c : Cell} (hc : c.ok K G a (fun b => if b = a then some o else none)) : Rep K G (updM M a c) (upd H a o) := by
  obtain ⟨ow, h1, h2⟩ := R.own
  have mn := R.mfree h
  have ne : ∀ b p, ow b = some p → b ≠ a := fun b p hb => by
    obtain ⟨_, _, x, hx⟩ := h1 b p hb
    exact ne_of_none hx h
  have nep : ∀ b p, ow b = some p → p ≠ a := fun b p hb q => by
    obtain ⟨⟨c, hc⟩, _⟩ := h1 b p hb
    rw [q, mn] at hc
    cases hc
  refine ⟨R.g.trans (same_upd h), addO ow a, fun b p hb => ?_, fun p c' hp => ?_⟩
  · by_cases hba : b = a
    · subst hba
      rw [addO_same] at hb
      cases hb
      exact ⟨⟨c, updM_same⟩, R.gfree h, o, upd_same⟩
    · rw [addO_ne hba] at hb
      obtain ⟨⟨c', hc'⟩, g, x, hx⟩ := h1 b p hb
      exact ⟨⟨c', by rw [updM_ne (nep b p hb)]; exact hc'⟩, g, x, by rw [upd_ne hba]; exact hx⟩
  · by_cases hpa : p = a
    · subst hpa
      rw [updM_same] at hp
      cases hp
      have e : sub (addO ow p) p (upd H p o) = fun b => if b = p then some o else none := by
        funext b
        unfold sub
        by_cases hb : b = p
        · subst hb
          rw [addO_same, if_pos rfl, if_pos rfl, upd_same]
        · rw [addO_ne hb, if_neg hb]
          exact if_neg fun q => nep b p q rfl
      rw [e]
      exact hc
    · rw [updM_ne hpa] at hp
      have e : sub (addO ow a) p (upd H a o) = sub ow p H := by
        funext b
        unfold sub
        by_cases hb : b = a
        · subst hb
          rw [addO_same, if_neg (fun q => hpa (Option.some.inj q).symm), if_neg fun q => ne b p q rfl]
        · rw [addO_ne hb, upd_ne hb]
      rw [e]
      exact h2 p c' hp
/-- a cell of one object is written -/
theorem Rep.put (R : Rep K G M H) {c c' : Cell} (hp : M p = some c) (ho : ∀ h, c.ok K G p h → h p ≠ none) (hc : ∀ h, c.ok K G p h → c'.ok K G p (upd h p o)) : Rep K G (updM M p c') (upd H p o) := by
  obtain ⟨ow, h1, h2⟩ := R.own
  have hcp := h2 p c hp
  have t := ho _ hcp
  have op : ow p = some p := by
    unfold sub at t
    by_cases q : ow p = some p
    · exact q
    · rw [if_neg q] at t; exact absurd rfl t
  obtain ⟨_, gp, x, hx⟩ := h1 p p op
  refine ⟨fun b y e => ?_, ow, fun b q hb => ?_, fun q d hq => ?_⟩
  · have nb : b ≠ p := fun z => by rw [z, gp] at e; cases e
    rw [upd_ne nb]
    exact R.g _ _ e
  · obtain ⟨⟨d, hd⟩, g, y, hy⟩ := h1 b q hb
    refine ⟨?_, g, ?_⟩
    · by_cases hq : q = p
      · exact ⟨c', by rw [hq]; exact updM_same⟩
      · exact ⟨d, by rw [updM_ne hq]; exact hd⟩
    · by_cases hb2 : b = p
      · exact ⟨o, by rw [hb2]; exact upd_same⟩
      · exact ⟨y, by rw [upd_ne hb2]; exact hy⟩
  · by_cases hqp : q = p
    · subst hqp
      rw [updM_same] at hq
      cases hq
      have e : sub ow q (upd H q o) = upd (sub ow q H) q o := by
        funext b
        by_cases hb : b = q
        · subst hb
          rw [upd_same]
          unfold sub
          rw [if_pos op, upd_same]
        · rw [upd_ne hb]
          unfold sub
          rw [upd_ne hb]
      rw [e]
      exact hc _ hcp
    · rw [updM_ne hqp] at hq
      rw [sub_eq (H := H) fun b hb => upd_ne fun z => hqp (by rw [z, op] at hb; exact (Option.some.inj hb).symm)]
      exact h2 q d hq
theorem Rep.lst_at (R : Rep K G M H) {ds : List D} (hp : M p = some (.lst ds)) : ∃ vs, H p = some (.lst vs) ∧ Drs K G vs ds ∧ G p = none := by
  obtain ⟨ow, h1, h2⟩ := R.own
  obtain ⟨vs, e, r⟩ := h2 p _ hp
  unfold sub at e
  by_cases q : ow p = some p
  · rw [if_pos q] at e
    exact ⟨vs, e, r, (h1 p p q).2.1⟩
  · rw [if_neg q] at e; cases e
theorem Rep.dic_at (R : Rep K G M H) {ds : List (Key × D)} (hp : M p = some (.dic ds)) : ∃ vs, H p = some (.dK vs) ∧ Drk K G vs ds ∧ G p = none := by
  obtain ⟨ow, h1, h2⟩ := R.own
  obtain ⟨vs, e, r⟩ := h2 p _ hp
  unfold sub at e
  by_cases q : ow p = some p
  · rw [if_pos q] at e
    exact ⟨vs, e, r, (h1 p p q).2.1⟩
  · rw [if_neg q] at e; cases e
theorem Rep.setL (R : Rep K G M H) {ds ds' : List D} {vs' : List V} (hp : M p = some (.lst ds)) (r : Drs K G vs' ds') : Rep K G (updM M p (.lst ds')) (upd H p (.lst vs')) :=
  R.put hp (fun _ h => Cell.top h) fun _ _ => ⟨vs', upd_same, r⟩
theorem Rep.setD (R : Rep K G M H) {ds ds' : List (Key × D)} {vs' : List (Key × V)} (hp : M p = some (.dic ds)) (r : Drk K G vs' ds') : Rep K G (updM M p (.dic ds')) (upd H p (.dK vs')) :=
  R.put hp (fun _ h => Cell.top h) fun _ _ => ⟨vs', upd_same, r⟩
theorem Rep.newL (R : Rep K G M H) (h : H a = none) {ds : List D} {vs : List V} (r : Drs K G vs ds) : Rep K G (updM M a (.lst ds)) (upd H a (.lst vs)) :=
  R.cell h ⟨vs, if_pos rfl, r⟩
theorem Rep.newD (R : Rep K G M H) (h : H a = none) {ds : List (Key × D)} {vs : List (Key × V)} (r : Drk K G vs ds) : Rep K G (updM M a (.dic ds)) (upd H a (.dK vs)) :=
  R.cell h ⟨vs, if_pos rfl, r⟩
/-- fewer cells are told -/
def keepO (ow : Addr → Option Addr) (M' : MS) : Addr → Option Addr := fun b => (ow b).bind fun p => (M' p).map fun _ => p
theorem keepO_iff {ow : Addr → Option Addr} {M' : MS} {b p : Addr} : keepO ow M' b = some p ↔ ow b = some p ∧ ∃ c, M' p = some c := by
  unfold keepO
  cases q : ow b with
  | none => simp
  | some p' =>
    cases q2 : M' p' with
    | none =>
      simp [q2]
      intro e c hc
      subst e
      rw [q2] at hc
      cases hc
    | some c' =>
      simp [q2]
      intro e
      subst e
      exact ⟨c', q2⟩
theorem Rep.fewer (R : Rep K G M H) (e : ∀ p c, M' p = some c → M p = some c) : Rep K G M' H := by
  obtain ⟨ow, h1, h2⟩ := R.own
  refine ⟨R.g, keepO ow M', fun b p hb => ?_, fun p c hp => ?_⟩
  · obtain ⟨q, c', hc'⟩ := keepO_iff.mp hb
    obtain ⟨_, g, x⟩ := h1 b p q
    exact ⟨⟨c', hc'⟩, g, x⟩
  · have hs : sub (keepO ow M') p H = sub ow p H := by
      funext b
      unfold sub
      by_cases z : ow b = some p
      · rw [if_pos z, if_pos (keepO_iff.mpr ⟨z, c, hp⟩)]
      · rw [if_neg z, if_neg fun y => z (keepO_iff.mp y).1]
    rw [hs]
    exact h2 p c (e p c hp)
/-- a cell becomes immutable -/
theorem Rep.frzAt (R : Rep K G M H) {c : Cell} {o : HO} (hp : M p = some c) (hH : H p = some o) (hG : G p = none) : Rep K (upd G p o) (remM M p) H := by
  have R1 : Rep K G (remM M p) H := R.fewer fun q c h => by
    by_cases hq : q = p
    · rw [hq, remM_same] at h; cases h
    · rw [remM_ne hq] at h; exact h
  obtain ⟨ow, h1, h2⟩ := R.own
  have top : ow p = some p := by
    have t := Cell.top (h2 p c hp)
    unfold sub at t
    by_cases q : ow p = some p
    · exact q
    · rw [if_neg q] at t; exact absurd rfl t
  have sg : Same G (upd G p o) := same_upd hG
  refine ⟨fun b x e => ?_, fun b => if ow b = some p then none else ow b, fun b q hb => ?_, fun q d hq => ?_⟩
  · by_cases hb : b = p
    · subst hb
      rw [upd_same] at e
      rw [hH, e]
    · rw [upd_ne hb] at e
      exact R.g _ _ e
  · by_cases z : ow b = some p
    · simp [z] at hb
    · have hb' : ow b = some q := by simpa [z] using hb
      obtain ⟨⟨d, hd⟩, g, x⟩ := h1 b q hb'
      have hqp : q ≠ p := fun e => z (by rw [hb', e])
      have hbp : b ≠ p := fun e => z (by rw [e]; exact top)
      exact ⟨⟨d, by rw [remM_ne hqp]; exact hd⟩, by rw [upd_ne hbp]; exact g, x⟩
  · have hqp : q ≠ p := fun e => by rw [e, remM_same] at hq; cases hq
    rw [remM_ne hqp] at hq
    have e : sub (fun b => if ow b = some p then none else ow b) q H = sub ow q H := by
      funext b
      unfold sub
      by_cases z : ow b = some p
      · have : ¬ ow b = some q := fun y => hqp (Option.some.inj (y.symm.trans z))
        simp [z, this, Ne.symm hqp]
      · simp [z]
    rw [e]
    exact Cell.mono sg (h2 q d hq)
end

/-! ### the world: cells of the callee's M, a frame F that stays -/
structure Wd (K : PySem.W.Frag) (G : Hp) (M F : MS) (H : Hp) : Prop where
  rep : Rep K G (join M F) H
  dj : ∀ p, M p = none ∨ F p = none

section
variable {K : PySem.W.Frag} {G G' H H' : Hp} {M M' F F' : MS} {a p : Addr} {o : HO}
theorem Wd.gfree (W : Wd K G M F H) (h : H a = none) : G a = none := W.rep.gfree h
theorem Wd.mfree (W : Wd K G M F H) (h : H a = none) : M a = none ∧ F a = none := join_none (W.rep.mfree h)
theorem Wd.imm (W : Wd K G M F H) (h : H a = none) : Wd K (upd G a o) M F (upd H a o) := ⟨W.rep.imm h, W.dj⟩
theorem Wd.grow (W : Wd K G M F H) (e : Same H H') : Wd K G M F H' := ⟨W.rep.grow e, W.dj⟩
theorem Wd.cell (W : Wd K G M F H) (h : H a = none) {c : Cell} (hc : c.ok K G a (fun b => if b = a then some o else none)) : Wd K G (updM M a c) F (upd H a o) := by
  refine ⟨by rw [join_upd]; exact W.rep.cell h hc, fun p => ?_⟩
  by_cases hp : p = a
  · exact .inr (by rw [hp]; exact (W.mfree h).2)
  · rw [updM_ne hp]; exact W.dj p
theorem Wd.setL (W : Wd K G M F H) {ds ds' : List D} {vs' : List V} (hp : M p = some (.lst ds)) (r : Drs K G vs' ds') : Wd K G (updM M p (.lst ds')) F (upd H p (.lst vs')) := by
  refine ⟨by rw [join_upd]; exact W.rep.setL (join_l hp) r, fun q => ?_⟩
  by_cases hq : q = p
  · rcases W.dj p with z | z
    · rw [hp] at z; cases z
    · exact .inr (by rw [hq]; exact z)
  · rw [updM_ne hq]; exact W.dj q
theorem join_updF {M F : MS} {p : Addr} {c : Cell} (h : M p = none) : join M (updM F p c) = updM (join M F) p c := by
  funext q
  by_cases hq : q = p
  · subst hq; rw [join_r h, updM_same, updM_same]
  · rw [updM_ne hq]; unfold join; rw [updM_ne hq]
/-- a new cell in the frame -/
theorem Wd.cellF (W : Wd K G M F H) (h : H a = none) {c : Cell} (hc : c.ok K G a (fun b => if b = a then some o else none)) : Wd K G M (updM F a c) (upd H a o) := by
  refine ⟨by rw [join_updF (W.mfree h).1]; exact W.rep.cell h hc, fun p => ?_⟩
  by_cases hp : p = a
  · exact .inl (by rw [hp]; exact (W.mfree h).1)
  · rw [updM_ne hp]; exact W.dj p
theorem Wd.inM (W : Wd K G M F H) {c : Cell} (hp : F p = some c) : M p = none := by
  rcases W.dj p with z | z
  · exact z
  · rw [hp] at z; cases z
theorem Wd.setLF (W : Wd K G M F H) {ds ds' : List D} {vs' : List V} (hp : F p = some (.lst ds)) (r : Drs K G vs' ds') : Wd K G M (updM F p (.lst ds')) (upd H p (.lst vs')) := by
  have mn := W.inM hp
  refine ⟨by rw [join_updF mn]; exact W.rep.setL (by rw [join_r mn]; exact hp) r, fun q => ?_⟩
  by_cases hq : q = p
  · exact .inl (by rw [hq]; exact mn)
  · rw [updM_ne hq]; exact W.dj q
theorem Wd.setDF (W : Wd K G M F H) {ds ds' : List (Key × D)} {vs' : List (Key × V)} (hp : F p = some (.dic ds)) (r : Drk K G vs' ds') : Wd K G M (updM F p (.dic ds')) (upd H p (.dK vs')) := by
  have mn := W.inM hp
  refine ⟨by rw [join_updF mn]; exact W.rep.setD (by rw [join_r mn]; exact hp) r, fun q => ?_⟩
  by_cases hq : q = p
  · exact .inl (by rw [hq]; exact mn)
  · rw [updM_ne hq]; exact W.dj q
theorem Wd.lst_at (W : Wd K G M F H) {ds : List D} (hp : F p = some (.lst ds)) : ∃ vs, H p = some (.lst vs) ∧ Drs K G vs ds ∧ G p = none :=
  W.rep.lst_at (by rw [join_r (W.inM hp)]; exact hp)
theorem Wd.dic_at (W : Wd K G M F H) {ds : List (Key × D)} (hp : F p = some (.dic ds)) : ∃ vs, H p = some (.dK vs) ∧ Drk K G vs ds ∧ G p = none :=
  W.rep.dic_at (by rw [join_r (W.inM hp)]; exact hp)
theorem Wd.lst_atM (W : Wd K G M F H) {ds : List D} (hp : M p = some (.lst ds)) : ∃ vs, H p = some (.lst vs) ∧ Drs K G vs ds ∧ G p = none :=
  W.rep.lst_at (join_l hp)
theorem join_remF {M F : MS} {p : Addr} (h : M p = none) : join M (remM F p) = remM (join M F) p := by
  funext q
  by_cases hq : q = p
  · subst hq; rw [join_r h, remM_same, remM_same]
  · rw [remM_ne hq]; unfold join; rw [remM_ne hq]
/-- a cell of the frame becomes immutable -/
theorem Wd.frzF (W : Wd K G M F H) {c : Cell} {o : HO} (hp : F p = some c) (hH : H p = some o) (hG : G p = none) : Wd K (upd G p o) M (remM F p) H := by
  have mn := W.inM hp
  refine ⟨by rw [join_remF mn]; exact W.rep.frzAt (by rw [join_r mn]; exact hp) hH hG, fun q => ?_⟩
  by_cases hq : q = p
  · exact .inl (by rw [hq]; exact mn)
  · rw [remM_ne hq]; exact W.dj q
/-- a smaller frame -/
theorem Wd.less (W : Wd K G M F H) (e : ∀ p c, F' p = some c → F p = some c) : Wd K G M F' H := by
  refine ⟨W.rep.fewer fun p c h => ?_, fun p => ?_⟩
  · unfold join at h ⊢
    cases q : M p with
    | some d => rw [q] at h; exact h
    | none =>
      rw [q] at h
      exact e p c h
  · rcases W.dj p with z | z
    · exact .inl z
    · refine .inr ?_
      cases q : F' p with
      | none => rfl
      | some c => rw [e p c q] at z; cases z
end
end DL

/-! DL, part b: states, readings over data, their judgements; names, constants, operators, tests. -/
namespace DL
open PySem PySem.Spec PyProof.Rows L2

/-- a local's slot: unknown, immutable data, an own list, an own dict -/
inductive Slot where
  | no | im (d : D) | ow (ds : List D) | od (kvs : List (Key × D))
def Slot.owned : Slot → Bool
  | .ow _ => true
  | .od _ => true
  | _ => false

structure Sl (K : PySem.W.Frag) (G : Hp) (F F0 : MS) (σ : L2.St) (δ : List Slot) : Prop where
  len : σ.length = δ.length
  im : ∀ (i : Nat) (d : D), δ[i]? = some (Slot.im d) → ∃ v, σ[i]? = some (some v) ∧ Dr K G v d
  ow : ∀ (i : Nat) (ds : List D), δ[i]? = some (Slot.ow ds) → ∃ a, σ[i]? = some (some (.ref a)) ∧ F a = some (.lst ds) ∧ F0 a = none
  od : ∀ (i : Nat) (ds : List (Key × D)), δ[i]? = some (Slot.od ds) → ∃ a, σ[i]? = some (some (.ref a)) ∧ F a = some (.dic ds) ∧ F0 a = none
  inj : ∀ (i j : Nat) (s t : Slot) (a : Addr), δ[i]? = some s → s.owned = true → δ[j]? = some t → t.owned = true → σ[i]? = some (some (V.ref a)) → σ[j]? = some (some (V.ref a)) → i = j

structure St (K : PySem.W.Frag) (G0 : Hp) (F0 : MS) (G : Hp) (M F : MS) (H : Hp) (σ : L2.St) (δ : List Slot) : Prop where
  wd : Wd K G M F H
  g0 : Same G0 G
  f0 : ∀ p c, F0 p = some c → F p = some c
  sl : Sl K G F F0 σ δ

section
variable {K : PySem.W.Frag} {G0 G G' H H' : Hp} {F0 M M' F F' : MS} {a p : Addr} {o : HO} {σ : L2.St} {δ : List Slot} {v : V} {d : D}
theorem St.upd (S : St K G0 F0 G M F H σ δ) (W : Wd K G' M' F H') (e : Same G G') : St K G0 F0 G' M' F H' σ δ :=
  ⟨W, S.g0.trans e, S.f0, S.sl.len, fun i d h => let ⟨v, h1, h2⟩ := S.sl.im i d h; ⟨v, h1, h2.mono e⟩, S.sl.ow, S.sl.od, S.sl.inj⟩
theorem set_some {α : Type} {l : List α} {i j : Nat} {x y : α} (h : (l.set i x)[j]? = some y) : (i = j ∧ x = y ∧ i < l.length) ∨ (i ≠ j ∧ l[j]? = some y) := by
  rw [List.getElem?_set] at h
  by_cases e : i = j
  · subst e
    rw [if_pos rfl] at h
    by_cases q : i < l.length
    · rw [if_pos q] at h
      exact .inl ⟨rfl, Option.some.inj h, q⟩
    · rw [if_neg q] at h; cases h
  · rw [if_neg e] at h
    exact .inr ⟨e, h⟩
/-- a slot takes a value -/
theorem St.set (S : St K G0 F0 G M F H σ δ) (i : Nat) (r : Dr K G v d) : St K G0 F0 G M F H (σ.set i (some v)) (δ.set i (.im d)) := by
  refine ⟨S.wd, S.g0, S.f0, by rw [List.length_set, List.length_set]; exact S.sl.len, fun j e h => ?_, fun j ds h => ?_, fun j ds h => ?_, fun j k s t b h1 h2 h3 h4 h5 h6 => ?_⟩
  · rcases set_some h with ⟨e1, e2, e3⟩ | ⟨e1, e2⟩
    · subst e1; cases e2
      exact ⟨v, by rw [List.getElem?_set_self (by rw [S.sl.len]; exact e3)], r⟩
    · rw [List.getElem?_set_ne e1]
      exact S.sl.im j e e2
  · rcases set_some h with ⟨_, e2, _⟩ | ⟨e1, e2⟩
    · cases e2
    · rw [List.getElem?_set_ne e1]
      exact S.sl.ow j ds e2
  · rcases set_some h with ⟨_, e2, _⟩ | ⟨e1, e2⟩
    · cases e2
    · rw [List.getElem?_set_ne e1]
      exact S.sl.od j ds e2
  · rcases set_some h1 with ⟨_, e2, _⟩ | ⟨e1, e2⟩
    · subst e2; cases h2
    rcases set_some h3 with ⟨_, f2, _⟩ | ⟨f1, f2⟩
    · subst f2; cases h4
    rw [List.getElem?_set_ne e1] at h5
    rw [List.getElem?_set_ne f1] at h6
    exact S.sl.inj j k s t b e2 h2 f2 h4 h5 h6
/-- where an own list stands no other slot's own one does -/
theorem Sl.fat (S : Sl K G F F0 σ δ) {j : Nat} {s : Slot} (h : δ[j]? = some s) (ho : s.owned = true) : ∃ b c, σ[j]? = some (some (.ref b)) ∧ F b = some c := by
  cases s with
  | no => cases ho
  | im d => cases ho
  | ow ds =>
    obtain ⟨b, h1, h2, _⟩ := S.ow j ds h
    exact ⟨b, _, h1, h2⟩
  | od ds =>
    obtain ⟨b, h1, h2, _⟩ := S.od j ds h
    exact ⟨b, _, h1, h2⟩
/-- a slot takes a new own list or dict, at a -/
theorem St.setNew (S : St K G0 F0 G M F H σ δ) (hH : H a = none) {c : Cell} (hc : c.ok K G a (fun b => if b = a then some o else none)) (i : Nat) {s : Slot}
    (hs : (∃ ds, s = .ow ds ∧ c = .lst ds) ∨ ∃ ds, s = .od ds ∧ c = .dic ds) : St K G0 F0 G M (updM F a c) (L2.upd H a o) (σ.set i (some (.ref a))) (δ.set i s) := by
  have hF : F a = none := (S.wd.mfree hH).2
  have h0 : F0 a = none := by
    cases e : F0 a with
    | none => rfl
    | some c => rw [S.f0 a c e] at hF; cases hF
  have hlo : ∀ (j : Nat) (t : Slot) (b : Addr), δ[j]? = some t → t.owned = true → σ[j]? = some (some (V.ref b)) → b ≠ a := fun j t b h1 h2 h3 q => by
    obtain ⟨b', c', e1, e2⟩ := S.sl.fat h1 h2
    rw [h3] at e1
    cases e1
    rw [q, hF] at e2
    cases e2
  refine ⟨S.wd.cellF hH hc, S.g0, fun p d hp => ?_, by rw [List.length_set, List.length_set]; exact S.sl.len, fun j e h => ?_, fun j ds h => ?_, fun j ds h => ?_, fun j k s1 t b h1 h2 h3 h4 h5 h6 => ?_⟩
  · have : p ≠ a := fun q => by rw [q, h0] at hp; cases hp
    rw [updM_ne this]
    exact S.f0 p d hp
  · rcases set_some h with ⟨e1, e2, e3⟩ | ⟨e1, e2⟩
    · rcases hs with ⟨ds, q, _⟩ | ⟨ds, q, _⟩ <;> rw [q] at e2 <;> cases e2
    · rw [List.getElem?_set_ne e1]
      exact S.sl.im j e e2
  · rcases set_some h with ⟨e1, e2, e3⟩ | ⟨e1, e2⟩
    · subst e1
      rcases hs with ⟨ds', q, qc⟩ | ⟨ds', q, qc⟩
      · rw [q] at e2; cases e2
        exact ⟨a, by rw [List.getElem?_set_self (by rw [S.sl.len]; exact e3)], by rw [updM_same, qc], h0⟩
      · rw [q] at e2; cases e2
    · rw [List.getElem?_set_ne e1]
      obtain ⟨b, h1, h2, h3⟩ := S.sl.ow j ds e2
      exact ⟨b, h1, by rw [updM_ne (hlo j _ b e2 rfl h1)]; exact h2, h3⟩
  · rcases set_some h with ⟨e1, e2, e3⟩ | ⟨e1, e2⟩
    · subst e1
      rcases hs with ⟨ds', q, qc⟩ | ⟨ds', q, qc⟩
      · rw [q] at e2; cases e2
      · rw [q] at e2; cases e2
        exact ⟨a, by rw [List.getElem?_set_self (by rw [S.sl.len]; exact e3)], by rw [updM_same, qc], h0⟩
    · rw [List.getElem?_set_ne e1]
      obtain ⟨b, h1, h2, h3⟩ := S.sl.od j ds e2
      exact ⟨b, h1, by rw [updM_ne (hlo j _ b e2 rfl h1)]; exact h2, h3⟩
  · have at_i : ∀ {b' : Addr}, (σ.set i (some (V.ref a)))[i]? = some (some (V.ref b')) → b' = a := fun {b'} z => by
      rcases set_some z with ⟨_, e, _⟩ | ⟨e, _⟩
      · cases e; rfl
      · exact absurd rfl e
    rcases set_some h1 with ⟨e1, e2, e3⟩ | ⟨e1, e2⟩
    · rcases set_some h3 with ⟨f1, f2, f3⟩ | ⟨f1, f2⟩
      · rw [← e1, ← f1]
      · subst e1
        have := at_i h5
        subst this
        rw [List.getElem?_set_ne f1] at h6
        exact absurd rfl (hlo k t _ f2 h4 h6)
    · rw [List.getElem?_set_ne e1] at h5
      rcases set_some h3 with ⟨f1, f2, f3⟩ | ⟨f1, f2⟩
      · subst f1
        have := at_i h6
        subst this
        exact absurd rfl (hlo j s1 _ e2 h2 h5)
      · rw [List.getElem?_set_ne f1] at h6
        exact S.sl.inj j k s1 t b e2 h2 f2 h4 h5 h6
/-- an own list or dict is written in its place -/
theorem St.put (S : St K G0 F0 G M F H σ δ) {i : Nat} {s s' : Slot} {c' : Cell} (hi : δ[i]? = some s) (ho : s.owned = true) (ha : σ[i]? = some (some (.ref a))) (h0 : F0 a = none)
    (W : Wd K G M (updM F a c') H') (hs : (∃ ds, s' = .ow ds ∧ c' = .lst ds) ∨ ∃ ds, s' = .od ds ∧ c' = .dic ds) : St K G0 F0 G M (updM F a c') H' σ (δ.set i s') := by
  have hlen : i < δ.length := (List.getElem?_eq_some_iff.mp hi).1
  have ne : ∀ (j : Nat) (t : Slot) (b : Addr), j ≠ i → δ[j]? = some t → t.owned = true → σ[j]? = some (some (V.ref b)) → b ≠ a := fun j t b hj h1 h2 h3 q => by
    subst q
    exact hj (S.sl.inj j i t s b h1 h2 hi ho h3 ha)
  refine ⟨W, S.g0, fun p c hp => ?_, by rw [List.length_set]; exact S.sl.len, fun j e h => ?_, fun j ds h => ?_, fun j ds h => ?_, fun j k s1 t b h1 h2 h3 h4 h5 h6 => ?_⟩
  · have : p ≠ a := fun q => by rw [q, h0] at hp; cases hp
    rw [updM_ne this]
    exact S.f0 p c hp
  · rcases set_some h with ⟨e1, e2, e3⟩ | ⟨e1, e2⟩
    · rcases hs with ⟨ds, q, _⟩ | ⟨ds, q, _⟩ <;> rw [q] at e2 <;> cases e2
    · exact S.sl.im j e e2
  · rcases set_some h with ⟨e1, e2, e3⟩ | ⟨e1, e2⟩
    · subst e1
      rcases hs with ⟨ds', q, qc⟩ | ⟨ds', q, qc⟩
      · rw [q] at e2; cases e2
        exact ⟨a, ha, by rw [updM_same, qc], h0⟩
      · rw [q] at e2; cases e2
    · obtain ⟨b, h1, h2, h3⟩ := S.sl.ow j ds e2
      exact ⟨b, h1, by rw [updM_ne (ne j _ b (Ne.symm e1) e2 rfl h1)]; exact h2, h3⟩
  · rcases set_some h with ⟨e1, e2, e3⟩ | ⟨e1, e2⟩
    · subst e1
      rcases hs with ⟨ds', q, qc⟩ | ⟨ds', q, qc⟩
      · rw [q] at e2; cases e2
      · rw [q] at e2; cases e2
        exact ⟨a, ha, by rw [updM_same, qc], h0⟩
    · obtain ⟨b, h1, h2, h3⟩ := S.sl.od j ds e2
      exact ⟨b, h1, by rw [updM_ne (ne j _ b (Ne.symm e1) e2 rfl h1)]; exact h2, h3⟩
  · have back : ∀ {j : Nat} {t : Slot}, (δ.set i s')[j]? = some t → t.owned = true → ∃ t', δ[j]? = some t' ∧ t'.owned = true := fun {j t} z zo => by
      rcases set_some z with ⟨e1, _, _⟩ | ⟨_, e2⟩
      · subst e1; exact ⟨s, hi, ho⟩
      · exact ⟨t, e2, zo⟩
    obtain ⟨t1, q1, q2⟩ := back h1 h2
    obtain ⟨t2, q3, q4⟩ := back h3 h4
    exact S.sl.inj j k t1 t2 b q1 q2 q3 q4 h5 h6
/-- an own list becomes immutable data -/
theorem St.frzL (S : St K G0 F0 G M F H σ δ) {i : Nat} {ds : List D} (hi : δ[i]? = some (.ow ds)) : ∃ G' F', St K G0 F0 G' M F' H σ (δ.set i (.im (.lst ds))) ∧ Same G G' := by
  obtain ⟨a, ha, hF, h0⟩ := S.sl.ow i ds hi
  obtain ⟨vs, hH, hr, hG⟩ := S.wd.lst_at hF
  have sg : Same G (L2.upd G a (.lst vs)) := same_upd hG
  have ne : ∀ (j : Nat) (t : Slot) (b : Addr), j ≠ i → δ[j]? = some t → t.owned = true → σ[j]? = some (some (V.ref b)) → b ≠ a := fun j t b hj h1 h2 h3 q => by
    subst q
    exact hj (S.sl.inj j i t _ b h1 h2 hi rfl h3 ha)
  refine ⟨_, remM F a, ⟨S.wd.frzF hF hH hG, S.g0.trans sg, fun p c hp => ?_, by rw [List.length_set]; exact S.sl.len, fun j e h => ?_, fun j es h => ?_, fun j es h => ?_, fun j k s1 t b h1 h2 h3 h4 h5 h6 => ?_⟩, sg⟩
  · have : p ≠ a := fun q => by rw [q, h0] at hp; cases hp
    rw [remM_ne this]
    exact S.f0 p c hp
  · rcases set_some h with ⟨e1, e2, e3⟩ | ⟨e1, e2⟩
    · subst e1; cases e2
      exact ⟨_, ha, .lst upd_same (hr.mono sg)⟩
    · obtain ⟨v, h1, h2⟩ := S.sl.im j e e2
      exact ⟨v, h1, h2.mono sg⟩
  · rcases set_some h with ⟨e1, e2, e3⟩ | ⟨e1, e2⟩
    · cases e2
    · obtain ⟨b, h1, h2, h3⟩ := S.sl.ow j es e2
      exact ⟨b, h1, by rw [remM_ne (ne j _ b (Ne.symm e1) e2 rfl h1)]; exact h2, h3⟩
  · rcases set_some h with ⟨e1, e2, e3⟩ | ⟨e1, e2⟩
    · cases e2
    · obtain ⟨b, h1, h2, h3⟩ := S.sl.od j es e2
      exact ⟨b, h1, by rw [remM_ne (ne j _ b (Ne.symm e1) e2 rfl h1)]; exact h2, h3⟩
  · rcases set_some h1 with ⟨_, e2, _⟩ | ⟨e1, e2⟩
    · subst e2; cases h2
    rcases set_some h3 with ⟨_, f2, _⟩ | ⟨f1, f2⟩
    · subst f2; cases h4
    exact S.sl.inj j k s1 t b e2 h2 f2 h4 h5 h6
theorem St.frzD (S : St K G0 F0 G M F H σ δ) {i : Nat} {ds : List (Key × D)} (hi : δ[i]? = some (.od ds)) : ∃ G' F', St K G0 F0 G' M F' H σ (δ.set i (.im (.dic ds))) ∧ Same G G' := by
  obtain ⟨a, ha, hF, h0⟩ := S.sl.od i ds hi
  obtain ⟨vs, hH, hr, hG⟩ := S.wd.dic_at hF
  have sg : Same G (L2.upd G a (.dK vs)) := same_upd hG
  have ne : ∀ (j : Nat) (t : Slot) (b : Addr), j ≠ i → δ[j]? = some t → t.owned = true → σ[j]? = some (some (V.ref b)) → b ≠ a := fun j t b hj h1 h2 h3 q => by
    subst q
    exact hj (S.sl.inj j i t _ b h1 h2 hi rfl h3 ha)
  refine ⟨_, remM F a, ⟨S.wd.frzF hF hH hG, S.g0.trans sg, fun p c hp => ?_, by rw [List.length_set]; exact S.sl.len, fun j e h => ?_, fun j es h => ?_, fun j es h => ?_, fun j k s1 t b h1 h2 h3 h4 h5 h6 => ?_⟩, sg⟩
  · have : p ≠ a := fun q => by rw [q, h0] at hp; cases hp
    rw [remM_ne this]
    exact S.f0 p c hp
  · rcases set_some h with ⟨e1, e2, e3⟩ | ⟨e1, e2⟩
    · subst e1; cases e2
      exact ⟨_, ha, .dic upd_same (hr.mono sg)⟩
    · obtain ⟨v, h1, h2⟩ := S.sl.im j e e2
      exact ⟨v, h1, h2.mono sg⟩
  · rcases set_some h with ⟨e1, e2, e3⟩ | ⟨e1, e2⟩
    · cases e2
    · obtain ⟨b, h1, h2, h3⟩ := S.sl.ow j es e2
      exact ⟨b, h1, by rw [remM_ne (ne j _ b (Ne.symm e1) e2 rfl h1)]; exact h2, h3⟩
  · rcases set_some h with ⟨e1, e2, e3⟩ | ⟨e1, e2⟩
    · cases e2
    · obtain ⟨b, h1, h2, h3⟩ := S.sl.od j es e2
      exact ⟨b, h1, by rw [remM_ne (ne j _ b (Ne.symm e1) e2 rfl h1)]; exact h2, h3⟩
  · rcases set_some h1 with ⟨_, e2, _⟩ | ⟨e1, e2⟩
    · subst e2; cases h2
    rcases set_some h3 with ⟨_, f2, _⟩ | ⟨f1, f2⟩
    · subst f2; cases h4
    exact S.sl.inj j k s1 t b e2 h2 f2 h4 h5 h6
end

/-! ### values that may be borrowed from the frame -/
def Rf (K : PySem.W.Frag) (G : Hp) (F : MS) (v : V) (d : D) : Prop :=
  Dr K G v d ∨ (∃ a ds, v = .ref a ∧ d = .lst ds ∧ F a = some (.lst ds)) ∨ ∃ a ds, v = .ref a ∧ d = .dic ds ∧ F a = some (.dic ds)
section
variable {K : PySem.W.Frag} {G G' H : Hp} {M F : MS} {v : V} {d : D}
theorem Rf.mono (e : Same G G') (h : Rf K G F v d) : Rf K G' F v d := by
  rcases h with h | h
  · exact .inl (h.mono e)
  · exact .inr h
theorem Rf.int {i : Int} (h : Rf K G F v (.int i)) : v = .int i := by
  rcases h with h | ⟨a, ds, _, q, _⟩ | ⟨a, ds, _, q, _⟩
  · cases h; rfl
  · cases q
  · cases q
theorem Rf.str {i : Str} (h : Rf K G F v (.str i)) : v = .str i := by
  rcases h with h | ⟨a, ds, _, q, _⟩ | ⟨a, ds, _, q, _⟩
  · cases h; rfl
  · cases q
  · cases q
theorem Rf.bl {i : Bool} (h : Rf K G F v (.bl i)) : v = .bl i := by
  rcases h with h | ⟨a, ds, _, q, _⟩ | ⟨a, ds, _, q, _⟩
  · cases h; rfl
  · cases q
  · cases q
theorem Rf.non (h : Rf K G F v .non) : v = .non := by
  rcases h with h | ⟨a, ds, _, q, _⟩ | ⟨a, ds, _, q, _⟩
  · cases h; rfl
  · cases q
  · cases q
theorem Rf.raw {u : V} (h : Rf K G F v (.raw u)) : v = u := by
  rcases h with h | ⟨a, ds, _, q, _⟩ | ⟨a, ds, _, q, _⟩
  · cases h; rfl
  · cases q
  · cases q
theorem Rf.lst {ds : List D} (W : Wd K G M F H) (h : Rf K G F v (.lst ds)) : ∃ a vs, v = .ref a ∧ H a = some (.lst vs) ∧ Drs K G vs ds := by
  rcases h with h | ⟨a, es, e, q, hF⟩ | ⟨a, es, _, q, _⟩
  · cases h with
    | lst h1 h2 => exact ⟨_, _, rfl, W.rep.g _ _ h1, h2⟩
  · cases q
    obtain ⟨vs, h1, h2, _⟩ := W.lst_at hF
    exact ⟨a, vs, e, h1, h2⟩
  · cases q
theorem Rf.dic {ds : List (Key × D)} (W : Wd K G M F H) (h : Rf K G F v (.dic ds)) : ∃ a vs, v = .ref a ∧ H a = some (.dK vs) ∧ Drk K G vs ds := by
  rcases h with h | ⟨a, es, e, q, hF⟩ | ⟨a, es, e, q, hF⟩
  · cases h with
    | dic h1 h2 => exact ⟨_, _, rfl, W.rep.g _ _ h1, h2⟩
  · cases q
  · cases q
    obtain ⟨vs, h1, h2, _⟩ := W.dic_at hF
    exact ⟨a, vs, e, h1, h2⟩
theorem Rf.tup {ds : List D} (W : Wd K G M F H) (h : Rf K G F v (.tup ds)) : ∃ a vs, v = .ref a ∧ SqT K H a vs ∧ SqT K G a vs ∧ Drs K G vs ds := by
  rcases h with h | ⟨a, es, e, q, hF⟩ | ⟨a, es, _, q, _⟩
  · cases h with
    | tup h1 h2 => exact ⟨_, _, rfl, sqT_mono W.rep.g h1, h1, h2⟩
  · cases q
  · cases q
theorem Rf.scr {ns : List Int} (W : Wd K G M F H) (h : Rf K G F v (.scr ns)) : ∃ a, v = .ref a ∧ SqL K H a (ns.map V.int) := by
  rcases h with h | ⟨a, es, e, q, hF⟩ | ⟨a, es, _, q, _⟩
  · cases h with
    | scr h1 => exact ⟨_, rfl, W.rep.g.seq h1⟩
  · cases q
  · cases q
end
inductive Rfs (K : PySem.W.Frag) (G : Hp) (F : MS) : List V → List D → Prop
  | nil : Rfs K G F [] []
  | cons {v : V} {vs : List V} {d : D} {ds : List D} : Rf K G F v d → Rfs K G F vs ds → Rfs K G F (v :: vs) (d :: ds)
theorem Rfs.mono {K : PySem.W.Frag} {G G' : Hp} {F : MS} (e : Same G G') : ∀ {vs : List V} {ds : List D}, Rfs K G F vs ds → Rfs K G' F vs ds
  | _, _, .nil => .nil
  | _, _, .cons h t => .cons (h.mono e) (Rfs.mono e t)
theorem Drs.rfs {K : PySem.W.Frag} {G : Hp} {F : MS} : ∀ {vs : List V} {ds : List D}, Drs K G vs ds → Rfs K G F vs ds
  | _, _, .nil => .nil
  | _, _, .cons h t => .cons (.inl h) t.rfs

/-! ### readings over data -/
abbrev DQ := D → MS → Prop
abbrev DTE := List Slot → MS → DQ → Prop
abbrev DTT := List Slot → MS → (Bool → MS → Prop) → Prop
abbrev DTA := List Slot → MS → (List D → MS → Prop) → Prop

def ConvR (K : PySem.W.Frag) (G : Hp) (F : MS) (Q' : DQ) (Q : VK) : Prop := ∀ d M' v G' H', Q' d M' → Wd K G' M' F H' → Same G G' → Dr K G' v d → Q v H'

def lE (K : PySem.W.Frag) (O : Hp → MS → Prop) (t : DTE) : TE := fun σ H Q => ∃ G0 F0 G M F δ, ∃ Q' : DQ, O G0 F0 ∧ St K G0 F0 G M F H σ δ ∧ t δ M Q' ∧ ∀ d M' v G' H', Q' d M' → St K G0 F0 G' M' F H' σ δ → Same G G' → Dr K G' v d → Q v H'
def lB (K : PySem.W.Frag) (O : Hp → MS → Prop) (t : DTE) : TE := fun σ H Q => ∃ G0 F0 G M F δ, ∃ Q' : DQ, O G0 F0 ∧ St K G0 F0 G M F H σ δ ∧ t δ M Q' ∧ ∀ d M' v G' H', Q' d M' → St K G0 F0 G' M' F H' σ δ → Same G G' → Rf K G' F v d → Q v H'
/-- a new list: not known elsewhere -/
def lF (K : PySem.W.Frag) (O : Hp → MS → Prop) (t : List Slot → MS → (List D → MS → Prop) → Prop) : TE := fun σ H Q => ∃ G0 F0 G M F δ, ∃ Q' : List D → MS → Prop, O G0 F0 ∧ St K G0 F0 G M F H σ δ ∧ t δ M Q' ∧
  ∀ ds M' a vs G' H', Q' ds M' → St K G0 F0 G' M' F H' σ δ → H' a = none → Drs K G' vs ds → Same G G' → Q (.ref a) (upd H' a (.lst vs))
def lT (K : PySem.W.Frag) (O : Hp → MS → Prop) (t : DTT) : TT := fun σ H Q => ∃ G0 F0 G M F δ, ∃ Q' : Bool → MS → Prop, O G0 F0 ∧ St K G0 F0 G M F H σ δ ∧ t δ M Q' ∧ ∀ b M' G' H', Q' b M' → St K G0 F0 G' M' F H' σ δ → Same G G' → Q b H'
def lA (K : PySem.W.Frag) (O : Hp → MS → Prop) (t : DTA) : TA := fun σ H Q => ∃ G0 F0 G M F δ, ∃ Q' : List D → MS → Prop, O G0 F0 ∧ St K G0 F0 G M F H σ δ ∧ t δ M Q' ∧ ∀ ds M' vs G' H', Q' ds M' → St K G0 F0 G' M' F H' σ δ → Same G G' → Drs K G' vs ds → Q vs H'
def lAb (K : PySem.W.Frag) (O : Hp → MS → Prop) (t : DTA) : TA := fun σ H Q => ∃ G0 F0 G M F δ, ∃ Q' : List D → MS → Prop, O G0 F0 ∧ St K G0 F0 G M F H σ δ ∧ t δ M Q' ∧ ∀ ds M' vs G' H', Q' ds M' → St K G0 F0 G' M' F H' σ δ → Same G G' → Rfs K G' F vs ds → Q vs H'

structure DE (X : Cx) (O : Hp → MS → Prop) (e : Expr) (t : DTE) : Prop where
  pe : PE X e (lE X.K O t)
structure DB (X : Cx) (O : Hp → MS → Prop) (e : Expr) (t : DTE) : Prop where
  pe : PE X e (lB X.K O t)
structure DF (X : Cx) (O : Hp → MS → Prop) (e : Expr) (t : List Slot → MS → (List D → MS → Prop) → Prop) : Prop where
  pe : PE X e (lF X.K O t)
structure DT (X : Cx) (O : Hp → MS → Prop) (e : Expr) (t : DTT) : Prop where
  pt : PT X e (lT X.K O t)
structure DW (X : Cx) (O : Hp → MS → Prop) (e : Expr) (t : DTT) : Prop where
  pw : PW X e (lT X.K O t)
structure DA (X : Cx) (O : Hp → MS → Prop) (es : List Expr) (t : DTA) : Prop where
  pa : PA X es (lA X.K O t)
structure DAb (X : Cx) (O : Hp → MS → Prop) (es : List Expr) (t : DTA) : Prop where
  pa : PA X es (lAb X.K O t)

theorem _root_.L2.PE.weak {X : Cx} {e : Expr} {t t' : TE} (h : PE X e t) (w : ∀ σ H Q, t' σ H Q → t σ H Q) : PE X e t' := ⟨fun pins s σ H Q I q => h.run pins s σ H Q I (w σ H Q q)⟩
theorem _root_.L2.PT.weak {X : Cx} {e : Expr} {t t' : TT} (h : PT X e t) (w : ∀ σ H Q, t' σ H Q → t σ H Q) : PT X e t' := ⟨fun pins s σ H Q I q => h.run pins s σ H Q I (w σ H Q q)⟩
theorem _root_.L2.PW.weak {X : Cx} {e : Expr} {t t' : TT} (h : PW X e t) (w : ∀ σ H Q, t' σ H Q → t σ H Q) : PW X e t' := ⟨fun whole pins s σ H Q I q => h.run whole pins s σ H Q I (w σ H Q q)⟩
theorem _root_.L2.PA.weak {X : Cx} {e : List Expr} {t t' : TA} (h : PA X e t) (w : ∀ σ H Q, t' σ H Q → t σ H Q) : PA X e t' := ⟨fun pos pins s σ H Q I q => h.run pos pins s σ H Q I (w σ H Q q)⟩
theorem _root_.L2.PS.weak {X : Cx} {e : Stmt} {t t' : TS} (h : PS X e t) (w : ∀ E σ H, t' E σ H → t E σ H) : PS X e t' := ⟨fun pins s σ H E I q => h.run pins s σ H E I (w E σ H q)⟩
theorem _root_.L2.PSs.weak {X : Cx} {e : List Stmt} {t t' : TS} (h : PSs X e t) (w : ∀ E σ H, t' E σ H → t E σ H) : PSs X e t' := ⟨fun pins s σ H E I q => h.run pins s σ H E I (w E σ H q)⟩

section
variable {X : Cx} {O : Hp → MS → Prop} {e a b c : Expr} {es : List Expr} {t ta tb tc : DTE} {pos : Pos}
theorem DE.toB (h : DE X O e t) : DB X O e t := ⟨h.pe.weak fun σ H Q ⟨G0, F0, G, M, F, δ, Q', xo, S, q, cv⟩ => ⟨G0, F0, G, M, F, δ, Q', xo, S, q, fun d M' v G' H' a b c r => cv d M' v G' H' a b c (.inl r)⟩⟩
/-- a new list as immutable data -/
def dLst (t : List Slot → MS → (List D → MS → Prop) → Prop) : DTE := fun δ M Q => t δ M fun ds M' => Q (.lst ds) M'
theorem DF.toE {tf : List Slot → MS → (List D → MS → Prop) → Prop} (h : DF X O e tf) : DE X O e (dLst tf) := by
  refine ⟨h.pe.weak fun σ H Q ⟨G0, F0, G, M, F, δ, Q', xo, S, q, cv⟩ => ⟨G0, F0, G, M, F, δ, fun ds M' => Q' (.lst ds) M', xo, S, q, fun ds M' a vs G' H' q' S' ha r sg => ?_⟩⟩
  have sa : Same G' (upd G' a (.lst vs)) := same_upd (S'.wd.gfree ha)
  exact cv _ M' _ _ _ q' (S'.upd (S'.wd.imm ha) sa) (sg.trans sa) (.lst upd_same (r.mono sa))
end
end DL

/-! DL, part c: names, constants, operators, comparisons, tests, displays, subscripts. -/
namespace DL
open PySem PySem.Spec PyProof.Rows L2

section
variable {X : Cx} {O : Hp → MS → Prop} {e a b c : Expr} {es : List Expr} {t ta tb tc : DTE} {pos : Pos}
/-! ### names and constants -/
def dVar (i : Nat) : DTE := fun δ M Q => match δ[i]? with
  | some (.im d) => Q d M
  | _ => False
def dVarB (i : Nat) : DTE := fun δ M Q => match δ[i]? with
  | some (.im d) => Q d M
  | some (.ow ds) => Q (.lst ds) M
  | some (.od ds) => Q (.dic ds) M
  | _ => False
theorem de_var (i : Nat) {x : Str} (hN : X.N[i]? = some x := by rfl) (hv : Vis X.env.scope x := by first | exact Or.inl rfl | exact Or.inr (Or.inl rfl) | exact Or.inr (Or.inr rfl)) (hd : (x == ("__debug__" : Str)) = false := by decide)
    (hcd : (x == ("__classdict__" : Str)) = false := by decide) : DE X O (.Name x pos) (dVar i) := by
  refine ⟨(pe_var hN hv hd hcd).weak fun σ H Q ⟨G0, F0, G, M, F, δ, Q', xo, S, q, cv⟩ => ?_⟩
  unfold dVar at q
  split at q
  · rename_i d hδ
    obtain ⟨v, hσ, r⟩ := S.sl.im i d hδ
    exact ⟨v, hσ, cv d M v G H q S (Same.refl _) r⟩
  · exact q.elim
theorem db_var (i : Nat) {x : Str} (hN : X.N[i]? = some x := by rfl) (hv : Vis X.env.scope x := by first | exact Or.inl rfl | exact Or.inr (Or.inl rfl) | exact Or.inr (Or.inr rfl)) (hd : (x == ("__debug__" : Str)) = false := by decide)
    (hcd : (x == ("__classdict__" : Str)) = false := by decide) : DB X O (.Name x pos) (dVarB i) := by
  refine ⟨(pe_var hN hv hd hcd).weak fun σ H Q ⟨G0, F0, G, M, F, δ, Q', xo, S, q, cv⟩ => ?_⟩
  unfold dVarB at q
  split at q
  · rename_i d hδ
    obtain ⟨v, hσ, r⟩ := S.sl.im i d hδ
    exact ⟨v, hσ, cv d M v G H q S (Same.refl _) (.inl r)⟩
  · rename_i ds hδ
    obtain ⟨p, hσ, hF, _⟩ := S.sl.ow i ds hδ
    exact ⟨_, hσ, cv _ M _ G H q S (Same.refl _) (.inr (.inl ⟨p, ds, rfl, rfl, hF⟩))⟩
  · rename_i ds hδ
    obtain ⟨p, hσ, hF, _⟩ := S.sl.od i ds hδ
    exact ⟨_, hσ, cv _ M _ G H q S (Same.refl _) (.inr (.inr ⟨p, ds, rfl, rfl, hF⟩))⟩
  · exact q.elim
def dC (d : D) : DTE := fun _ M Q => Q d M
theorem de_c {v : V} {d : D} (h : PE X e (tC v)) (r : ∀ K G, Dr K G v d) : DE X O e (dC d) :=
  ⟨h.weak fun σ H Q ⟨G0, F0, G, M, F, δ, Q', xo, S, q, cv⟩ => cv d M v G H q S (Same.refl _) (r _ _)⟩
theorem de_int {i : Int} {j} : DE X O (.Constant (.int i) j pos) (dC (.int i)) := de_c pe_int fun _ _ => .int i
theorem de_bl {i : Bool} {j} : DE X O (.Constant (.bool i) j pos) (dC (.bl i)) := de_c pe_bl fun _ _ => .bl i
theorem de_non {j} : DE X O (.Constant .none j pos) (dC .non) := de_c pe_non fun _ _ => .non
theorem de_str {x : Str} {j} : DE X O (.Constant (.str x) j pos) (dC (.str x)) := de_c pe_str fun _ _ => .str x
/-- a module's constant, class or def, as a value -/
theorem de_glob {x : Str} {v : V} {d : D} {u : Value} (hg : Gl X x) (hm : X.mg x = some u) (r : RelV v u) (rd : ∀ K G, Dr K G v d) (hd : (x == ("__debug__" : Str)) = false := by decide) : DE X O (.Name x pos) (dC d) :=
  de_c (pe_glob hg hm r hd) rd
theorem de_bltn {x : Str} {n : String} (hg : Gl X x) (hm : X.mg x = none) (hv : bootBuiltins x = some (.type n)) (hn : x ≠ "__name__" := by decide) (hd : (x == ("__debug__" : Str)) = false := by decide) : DE X O (.Name x pos) (dC (.raw (.ty n))) :=
  de_c (pe_bltn (v := .ty n) hg hm hv rfl hn hd) fun _ _ => .raw _
end

/-! ### operators by values -/
def lR (K : PySem.W.Frag) (k : D → D → MS → DQ → Prop) : R2 := fun x y H Q => ∃ G M F d e, ∃ Q' : DQ, Wd K G M F H ∧ Rf K G F x d ∧ Rf K G F y e ∧ k d e M Q' ∧ ConvR K G F Q' Q
/-- the same, the answer a new list -/
def lRF (K : PySem.W.Frag) (k : D → D → MS → (List D → MS → Prop) → Prop) : R2 := fun x y H Q => ∃ G M F d e, ∃ Q' : List D → MS → Prop, Wd K G M F H ∧ Rf K G F x d ∧ Rf K G F y e ∧ k d e M Q' ∧
  ∀ ds M' p vs G' H', Q' ds M' → Wd K G' M' F H' → H' p = none → Drs K G' vs ds → Same G G' → Q (.ref p) (upd H' p (.lst vs))
def lU (K : PySem.W.Frag) (k : D → MS → DQ → Prop) : V → Hp → VK → Prop := fun x H Q => ∃ G M F d, ∃ Q' : DQ, Wd K G M F H ∧ Rf K G F x d ∧ k d M Q' ∧ ConvR K G F Q' Q
def dOp (k : D → D → MS → DQ → Prop) (ta tb : DTE) : DTE := fun δ M Q => ta δ M fun x M1 => tb δ M1 fun y M2 => k x y M2 Q
def dOpF (k : D → D → MS → (List D → MS → Prop) → Prop) (ta tb : DTE) : List Slot → MS → (List D → MS → Prop) → Prop := fun δ M Q => ta δ M fun x M1 => tb δ M1 fun y M2 => k x y M2 Q
def dUn (k : D → MS → DQ → Prop) (ta : DTE) : DTE := fun δ M Q => ta δ M fun x M1 => k x M1 Q

theorem ConvR.at_ {K : PySem.W.Frag} {G H : Hp} {M F : MS} {Q' : DQ} {Q : VK} {d : D} {v : V} (cv : ConvR K G F Q' Q) (W : Wd K G M F H) (h : Q' d M) (r : Dr K G v d) : Q v H := cv d M v G H h W (Same.refl _) r
theorem ConvR.newL {K : PySem.W.Frag} {G H : Hp} {M F : MS} {Q' : DQ} {Q : VK} {ds : List D} {vs : List V} (cv : ConvR K G F Q' Q) (W : Wd K G M F H) (h : Q' (.lst ds) M) (r : Drs K G vs ds) : ∀ p, H p = none → Q (.ref p) (upd H p (.lst vs)) := fun p hp =>
  have sa : Same G (upd G p (.lst vs)) := same_upd (W.gfree hp)
  cv _ M _ _ _ h (W.imm hp) sa (.lst upd_same (r.mono sa))
theorem ConvR.newT {K : PySem.W.Frag} {G H : Hp} {M F : MS} {Q' : DQ} {Q : VK} {ds : List D} {vs : List V} (cv : ConvR K G F Q' Q) (W : Wd K G M F H) (h : Q' (.tup ds) M) (r : Drs K G vs ds) : ∀ p, H p = none → Q (.ref p) (upd H p (.tup vs)) := fun p hp =>
  have sa : Same G (upd G p (.tup vs)) := same_upd (W.gfree hp)
  cv _ M _ _ _ h (W.imm hp) sa (.tup (SqT.of upd_same) (r.mono sa))

section
variable {X : Cx} {O : Hp → MS → Prop} {e a b c : Expr} {es : List Expr} {t ta tb tc : DTE} {pos : Pos} {k k' : D → D → MS → DQ → Prop}
/-- the operands' readings, then an operation on the values -/
theorem lift2 {K : PySem.W.Frag} {σ : L2.St} {H : Hp} {Q : VK} (h : lE K O (dOp k ta tb) σ H Q) : tOp (lR K k) (lB K O ta) (lB K O tb) σ H Q := by
  obtain ⟨G0, F0, G, M, F, δ, Q', xo, S, q, cv⟩ := h
  refine ⟨G0, F0, G, M, F, δ, fun x M1 => tb δ M1 fun y M2 => k x y M2 Q', xo, S, q, fun x M1 v G1 H1 q1 S1 s1 r1 => ?_⟩
  refine ⟨G0, F0, G1, M1, F, δ, fun y M2 => k x y M2 Q', xo, S1, q1, fun y M2 u G2 H2 q2 S2 s2 r2 => ?_⟩
  exact ⟨G2, M2, F, x, y, Q', S2.wd, r1.mono s2, r2, q2, fun d' M' w G' H' q' W' s' r' => cv d' M' w G' H' q' (S2.upd W' s') (s1.trans (s2.trans s')) r'⟩
theorem lift2F {kf : D → D → MS → (List D → MS → Prop) → Prop} {K : PySem.W.Frag} {σ : L2.St} {H : Hp} {Q : VK} (h : lF K O (dOpF kf ta tb) σ H Q) : tOp (lRF K kf) (lB K O ta) (lB K O tb) σ H Q := by
  obtain ⟨G0, F0, G, M, F, δ, Q', xo, S, q, cv⟩ := h
  refine ⟨G0, F0, G, M, F, δ, fun x M1 => tb δ M1 fun y M2 => kf x y M2 Q', xo, S, q, fun x M1 v G1 H1 q1 S1 s1 r1 => ?_⟩
  refine ⟨G0, F0, G1, M1, F, δ, fun y M2 => kf x y M2 Q', xo, S1, q1, fun y M2 u G2 H2 q2 S2 s2 r2 => ?_⟩
  exact ⟨G2, M2, F, x, y, Q', S2.wd, r1.mono s2, r2, q2, fun ds M' p vs G' H' q' W' hp r' s' => cv ds M' p vs G' H' q' (S2.upd W' s') hp r' (s1.trans (s2.trans s'))⟩
theorem lift1 {ku : D → MS → DQ → Prop} {K : PySem.W.Frag} {σ : L2.St} {H : Hp} {Q : VK} (h : lE K O (dUn ku ta) σ H Q) : tUn (lU K ku) (lB K O ta) σ H Q := by
  obtain ⟨G0, F0, G, M, F, δ, Q', xo, S, q, cv⟩ := h
  refine ⟨G0, F0, G, M, F, δ, fun x M1 => ku x M1 Q', xo, S, q, fun x M1 v G1 H1 q1 S1 s1 r1 => ?_⟩
  exact ⟨G1, M1, F, x, Q', S1.wd, r1, q1, fun d' M' w G' H' q' W' s' r' => cv d' M' w G' H' q' (S1.upd W' s') (s1.trans s') r'⟩
theorem de_op {op : Operator} (ho : OpR X (binaryOp op) (lR X.K k)) (ha : DB X O a ta) (hb : DB X O b tb) : DE X O (.BinOp a op b pos) (dOp k ta tb) := ⟨(pe_op ho ha.pe hb.pe).weak fun _ _ _ h => lift2 h⟩
theorem df_op {op : Operator} {kf : D → D → MS → (List D → MS → Prop) → Prop} (ho : OpR X (binaryOp op) (lRF X.K kf)) (ha : DB X O a ta) (hb : DB X O b tb) : DF X O (.BinOp a op b pos) (dOpF kf ta tb) := ⟨(pe_op ho ha.pe hb.pe).weak fun _ _ _ h => lift2F h⟩
theorem de_un {op : UnaryOp} {ku : D → MS → DQ → Prop} (ho : UnR X (unaryOp op) (lU X.K ku)) (ha : DB X O a ta) : DE X O (.UnaryOp op a pos) (dUn ku ta) := ⟨(pe_un ho ha.pe).weak fun _ _ _ h => lift1 h⟩
theorem de_cmp {op : CmpOp} (ho : OpR X (compareOp op) (lR X.K k)) (ha : DB X O a ta) (hb : DB X O b tb) (hm : behindInMarks op b = false) : DE X O (.Compare a [op] [b] pos) (dOp k ta tb) := ⟨(pe_cmpR ho ha.pe hb.pe hm).weak fun _ _ _ h => lift2 h⟩
/-- a value's reading that must be a bool, as a test -/
def dTest (t : DTE) : DTT := fun δ M Q => t δ M fun x M1 => match x with
  | .bl k => Q k M1
  | _ => False
theorem test_weak {K : PySem.W.Frag} {σ : L2.St} {H : Hp} {Q : Bool → Hp → Prop} (h : lT K O (dTest t) σ H Q) : lE K O t σ H fun x H' => ∃ k, x = .bl k ∧ Q k H' := by
  obtain ⟨G0, F0, G, M, F, δ, Q', xo, S, q, cv⟩ := h
  refine ⟨G0, F0, G, M, F, δ, _, xo, S, q, fun d M' v G' H' q' S' s' r' => ?_⟩
  cases d with
  | bl k => cases r'; exact ⟨k, rfl, cv k M' G' H' q' S' s'⟩
  | _ => exact q'.elim
theorem dt_cmp {op : CmpOp} (ho : OpR X (compareOp op) (lR X.K k)) (ha : DB X O a ta) (hb : DB X O b tb) (hm : behindInMarks op b = false) : DT X O (.Compare a [op] [b] pos) (dTest (dOp k ta tb)) := by
  refine ⟨(pt_cmpR ho ha.pe hb.pe hm).weak fun σ H Q h => ?_⟩
  exact lift2 (test_weak h)
/-- a op b op' c -/
def dChain (k k' : D → D → MS → DQ → Prop) (ta tb tc : DTE) : DTE := fun δ M Q => ta δ M fun x M1 => tb δ M1 fun y M2 => k x y M2 fun z M3 => match z with
  | .bl r => if r = true then tc δ M3 fun w M4 => k' y w M4 Q else Q (.bl false) M3
  | _ => False
theorem lift3 {K : PySem.W.Frag} {σ : L2.St} {H : Hp} {Q : VK} (h : lE K O (dChain k k' ta tb tc) σ H Q) : tChain (lR K k) (lR K k') (lB K O ta) (lB K O tb) (lB K O tc) σ H Q := by
  obtain ⟨G0, F0, G, M, F, δ, Q', xo, S, q, cv⟩ := h
  refine ⟨G0, F0, G, M, F, δ, _, xo, S, q, fun x M1 v G1 H1 q1 S1 s1 r1 => ?_⟩
  refine ⟨G0, F0, G1, M1, F, δ, _, xo, S1, q1, fun y M2 u G2 H2 q2 S2 s2 r2 => ?_⟩
  refine ⟨G2, M2, F, x, y, _, S2.wd, r1.mono s2, r2, q2, fun z M3 w G3 H3 q3 W3 s3 r3 => ?_⟩
  cases z with
  | bl r =>
    cases r3
    refine ⟨r, rfl, ?_⟩
    cases r with
    | true =>
      refine ⟨G0, F0, G3, M3, F, δ, _, xo, S2.upd W3 s3, q3, fun w M4 u4 G4 H4 q4 S4 s4 r4 => ?_⟩
      exact ⟨G4, M4, F, y, w, Q', S4.wd, r2.mono (s3.trans s4), r4, q4, fun d' M' w G' H' q' W' s' r' => cv d' M' w G' H' q' (S4.upd W' s') (s1.trans (s2.trans (s3.trans (s4.trans s')))) r'⟩
    | false => exact cv _ M3 _ G3 H3 q3 (S2.upd W3 s3) (s1.trans (s2.trans s3)) (.bl false)
  | _ => exact q3.elim
theorem de_chain {op op' : CmpOp} (ho : OpR X (compareOp op) (lR X.K k)) (ho' : OpR X (compareOp op') (lR X.K k')) (ha : DB X O a ta) (hb : DB X O b tb) (hc : DB X O c tc) (hm : lastMarks [op, op'] [b, c] = false := by with_unfolding_all rfl) :
    DE X O (.Compare a [op, op'] [b, c] pos) (dChain k k' ta tb tc) := ⟨(pe_chain ho ho' ha.pe hb.pe hc.pe hm).weak fun _ _ _ h => lift3 h⟩
theorem dt_chain {op op' : CmpOp} (ho : OpR X (compareOp op) (lR X.K k)) (ho' : OpR X (compareOp op') (lR X.K k')) (ha : DB X O a ta) (hb : DB X O b tb) (hc : DB X O c tc) (hm : lastMarks [op, op'] [b, c] = false := by with_unfolding_all rfl) :
    DT X O (.Compare a [op, op'] [b, c] pos) (dTest (dChain k k' ta tb tc)) := ⟨(pt_chain ho ho' ha.pe hb.pe hc.pe hm).weak fun σ H Q h => lift3 (test_weak h)⟩
end

/-! ### ints, texts, lists: the operators -/
def mulOk (i j : Int) : Prop := i.natAbs.log2 + j.natAbs.log2 < 100000000
theorem bits_log (x : Int) : Builtin.Int.intBits x ≤ x.natAbs.log2 + 1 := by
  unfold Builtin.Int.intBits
  by_cases h : (x == 0) = true
  · rw [if_pos h]; omega
  · rw [if_neg h]; omega
theorem mulOk.ok {i j : Int} (h : mulOk i j) : IntMulOk i j := fun z => by
  have z1 := (Bool.and_eq_true _ _ ▸ z : _ ∧ Builtin.Int.intTooBig _ = true).2
  have z3 := of_decide_eq_true (p := ((Builtin.Int.intBits i : Int) + (Builtin.Int.intBits j : Int) > (bitsLine : Int))) z1
  have e : (bitsLine : Int) = 134217728 := by decide
  have h3 : i.natAbs.log2 + j.natAbs.log2 < 100000000 := h
  have := bits_log i
  have := bits_log j
  omega
def kAdd (x y : D) (M : MS) (Q : DQ) : Prop := match x, y with
  | .int i, .int j => Q (.int (i + j)) M
  | .int i, .bl j => Q (.int (i + b2i j)) M
  | .str i, .str j => i.length + j.length ≤ sizeLine ∧ Q (.str (i ++ j)) M
  | .lst xs, .lst ys => xs.length + ys.length ≤ sizeLine ∧ Q (.lst (xs ++ ys)) M
  | _, _ => False
def kSub (x y : D) (M : MS) (Q : DQ) : Prop := match x, y with
  | .int i, .int j => Q (.int (i - j)) M
  | _, _ => False
def kMul (x y : D) (M : MS) (Q : DQ) : Prop := match x, y with
  | .int i, .int j => mulOk i j ∧ Q (.int (i * j)) M
  | .lst xs, .int n => -(2 ^ 63) ≤ n ∧ n < 2 ^ 63 ∧ xs.length * n.toNat ≤ sizeLine ∧ Q (.lst (List.replicate n.toNat xs).flatten) M
  | _, _ => False
def kDiv (x y : D) (M : MS) (Q : DQ) : Prop := match x, y with
  | .int i, .int j => 0 < j ∧ j.natAbs.log2 < 9000 ∧ Q (.int (i / j)) M
  | _, _ => False
def kMod (x y : D) (M : MS) (Q : DQ) : Prop := match x, y with
  | .int i, .int j => 0 < j ∧ Q (.int (i % j)) M
  | _, _ => False
def kPow (x y : D) (M : MS) (Q : DQ) : Prop := match x, y with
  | .int i, .int j => 0 ≤ j ∧ (Builtin.Int.intBits i : Int) * j ≤ 2 ^ 27 ∧ Q (.int (i ^ j.toNat)) M
  | _, _ => False
def kCat (x y : D) (M : MS) (Q : List D → MS → Prop) : Prop := match x, y with
  | .lst xs, .lst ys => xs.length + ys.length ≤ sizeLine ∧ Q (xs ++ ys) M
  | _, _ => False
def kRep (x y : D) (M : MS) (Q : List D → MS → Prop) : Prop := match x, y with
  | .lst xs, .int n => -(2 ^ 63) ≤ n ∧ n < 2 ^ 63 ∧ xs.length * n.toNat ≤ sizeLine ∧ Q (List.replicate n.toNat xs).flatten M
  | _, _ => False
section
variable {X : Cx} {O : Hp → MS → Prop}
theorem o_add : OpR X (binaryOp .Add) (lR X.K kAdd) := by
  intro pins s σ H x y v u Q I rx ry ⟨G, M, F, d, e, Q', W, r1, r2, q, cv⟩
  unfold kAdd at q
  split at q
  · cases r1.int; cases r2.int
    exact op_add pins s σ H _ _ v u Q I rx ry ⟨_, _, rfl, rfl, cv.at_ W q (.int _)⟩
  · cases r1.int; cases r2.bl
    exact op_add_ib pins s σ H _ _ v u Q I rx ry ⟨_, _, rfl, rfl, cv.at_ W q (.int _)⟩
  · cases r1.str; cases r2.str
    exact op_add_str pins s σ H _ _ v u Q I rx ry ⟨_, _, rfl, rfl, q.1, cv.at_ W q.2 (.str _)⟩
  · obtain ⟨a, vs, rfl, h1, h2⟩ := r1.lst W
    obtain ⟨b, ws, rfl, h3, h4⟩ := r2.lst W
    exact op_cat pins s σ H _ _ v u Q I rx ry ⟨_, _, _, _, rfl, rfl, h1, h3, by rw [h2.len, h4.len]; exact q.1, cv.newL W q.2 (h2.app h4)⟩
  · exact q.elim
theorem o_sub : OpR X (binaryOp .Sub) (lR X.K kSub) := by
  intro pins s σ H x y v u Q I rx ry ⟨G, M, F, d, e, Q', W, r1, r2, q, cv⟩
  unfold kSub at q
  split at q
  · cases r1.int; cases r2.int
    exact op_sub pins s σ H _ _ v u Q I rx ry ⟨_, _, rfl, rfl, cv.at_ W q (.int _)⟩
  · exact q.elim
theorem op_mulB : OpR X (binaryOp .Mult) (rI mulOk fun i j => .int (i * j)) := opI fun _ _ _ _ _ _ _ hc q => mul_int q hc.ok
theorem op_powB : OpR X (binaryOp .Pow) (rI (fun i j => 0 ≤ j ∧ (Builtin.Int.intBits i : Int) * j ≤ 2 ^ 27) fun i j => .int (i ^ j.toNat)) := opI fun _ _ _ _ _ _ _ hc q => pow_int hc.1 hc.2 q
theorem o_mul : OpR X (binaryOp .Mult) (lR X.K kMul) := by
  intro pins s σ H x y v u Q I rx ry ⟨G, M, F, d, e, Q', W, r1, r2, q, cv⟩
  unfold kMul at q
  split at q
  · cases r1.int; cases r2.int
    exact op_mulB pins s σ H _ _ v u Q I rx ry ⟨_, _, rfl, rfl, q.1, cv.at_ W q.2 (.int _)⟩
  · obtain ⟨a, vs, rfl, h1, h2⟩ := r1.lst W
    cases r2.int
    exact op_rep pins s σ H _ _ v u Q I rx ry ⟨_, _, _, rfl, rfl, h1, q.1, q.2.1, by rw [h2.len]; exact q.2.2.1, cv.newL W q.2.2.2 (h2.rep _)⟩
  · exact q.elim
theorem o_div : OpR X (binaryOp .FloorDiv) (lR X.K kDiv) := by
  intro pins s σ H x y v u Q I rx ry ⟨G, M, F, d, e, Q', W, r1, r2, q, cv⟩
  unfold kDiv at q
  split at q
  · cases r1.int; cases r2.int
    exact op_fdivW pins s σ H _ _ v u Q I rx ry ⟨_, _, rfl, rfl, ⟨q.1, q.2.1⟩, cv.at_ W q.2.2 (.int _)⟩
  · exact q.elim
theorem o_mod : OpR X (binaryOp .Mod) (lR X.K kMod) := by
  intro pins s σ H x y v u Q I rx ry ⟨G, M, F, d, e, Q', W, r1, r2, q, cv⟩
  unfold kMod at q
  split at q
  · cases r1.int; cases r2.int
    exact op_mod pins s σ H _ _ v u Q I rx ry ⟨_, _, rfl, rfl, q.1, cv.at_ W q.2 (.int _)⟩
  · exact q.elim
theorem o_pow : OpR X (binaryOp .Pow) (lR X.K kPow) := by
  intro pins s σ H x y v u Q I rx ry ⟨G, M, F, d, e, Q', W, r1, r2, q, cv⟩
  unfold kPow at q
  split at q
  · cases r1.int; cases r2.int
    exact op_powB pins s σ H _ _ v u Q I rx ry ⟨_, _, rfl, rfl, ⟨q.1, q.2.1⟩, cv.at_ W q.2.2 (.int _)⟩
  · exact q.elim
theorem o_cat : OpR X (binaryOp .Add) (lRF X.K kCat) := by
  intro pins s σ H x y v u Q I rx ry ⟨G, M, F, d, e, Q', W, r1, r2, q, cv⟩
  unfold kCat at q
  split at q
  · obtain ⟨a, vs, rfl, h1, h2⟩ := r1.lst W
    obtain ⟨b, ws, rfl, h3, h4⟩ := r2.lst W
    exact op_cat pins s σ H _ _ v u Q I rx ry ⟨_, _, _, _, rfl, rfl, h1, h3, by rw [h2.len, h4.len]; exact q.1, fun p hp => cv _ _ _ _ _ _ q.2 W hp (h2.app h4) (Same.refl _)⟩
  · exact q.elim
theorem o_rep : OpR X (binaryOp .Mult) (lRF X.K kRep) := by
  intro pins s σ H x y v u Q I rx ry ⟨G, M, F, d, e, Q', W, r1, r2, q, cv⟩
  unfold kRep at q
  split at q
  · obtain ⟨a, vs, rfl, h1, h2⟩ := r1.lst W
    cases r2.int
    exact op_rep pins s σ H _ _ v u Q I rx ry ⟨_, _, _, rfl, rfl, h1, q.1, q.2.1, by rw [h2.len]; exact q.2.2.1, fun p hp => cv _ _ _ _ _ _ q.2.2.2 W hp (h2.rep _) (Same.refl _)⟩
  · exact q.elim
def kNeg (x : D) (M : MS) (Q : DQ) : Prop := match x with
  | .int i => Q (.int (-i)) M
  | _ => False
theorem o_neg : UnR X (unaryOp .USub) (lU X.K kNeg) := by
  intro pins s σ H x v Q I rx ⟨G, M, F, d, Q', W, r1, q, cv⟩
  unfold kNeg at q
  split at q
  · cases r1.int
    exact un_neg pins s σ H _ v Q I rx ⟨_, rfl, cv.at_ W q (.int _)⟩
  · exact q.elim
end

/-! ### comparisons -/
def kLt (x y : D) (M : MS) (Q : DQ) : Prop := match x, y with
  | .int i, .int j => Q (.bl (decide (i < j))) M
  | .str i, .str j => Q (.bl (decide (i.cps.toList < j.cps.toList))) M
  | _, _ => False
def kLe (x y : D) (M : MS) (Q : DQ) : Prop := match x, y with
  | .int i, .int j => Q (.bl (decide (i ≤ j))) M
  | _, _ => False
def kGt (x y : D) (M : MS) (Q : DQ) : Prop := match x, y with
  | .int i, .int j => Q (.bl (decide (j < i))) M
  | _, _ => False
def kGe (x y : D) (M : MS) (Q : DQ) : Prop := match x, y with
  | .int i, .int j => Q (.bl (decide (j ≤ i))) M
  | _, _ => False
/-- is None -/
def isNon : D → Bool
  | .non => true
  | .raw v => decide (v = .non)
  | _ => false
def kIsN (x y : D) (M : MS) (Q : DQ) : Prop := match y with
  | .non => Q (.bl (isNon x)) M
  | _ => False
def kNotN (x y : D) (M : MS) (Q : DQ) : Prop := match y with
  | .non => Q (.bl (!isNon x)) M
  | _ => False
mutual
def toPy : D → Option PyData
  | .non => some .none
  | .bl b => some (.bool b)
  | .int i => some (.int i)
  | .str x => some (.str x)
  | .lst xs => (toPys xs).map .list
  | .tup xs => (toPys xs).map .tuple
  | .scr ns => some (.list (ns.map .int))
  | _ => none
def toPys : List D → Option (List PyData)
  | [] => some []
  | x :: r => match toPy x with
    | some a => (toPys r).map (a :: ·)
    | none => none
end
def kEq (x y : D) (M : MS) (Q : DQ) : Prop := match x, y with
  | .str a, .str b => Q (.bl (decide (a = b))) M
  | x, y => ∃ a b, toPy x = some a ∧ toPy y = some b ∧ SeqAt.shaped a = true ∧ SeqAt.shaped b = true ∧ Q (.bl (PyData.eqv a b)) M
def kNe (x y : D) (M : MS) (Q : DQ) : Prop := match x, y with
  | .str a, .str b => Q (.bl (!decide (a = b))) M
  | x, y => ∃ a b, toPy x = some a ∧ toPy y = some b ∧ SeqAt.shaped a = true ∧ SeqAt.shaped b = true ∧ Q (.bl (!PyData.eqv a b)) M
theorem dec_strV {a b : Str} : decide (V.str a = V.str b) = decide (a = b) := decide_eq_decide.mpr ⟨fun h => V.str.inj h, fun h => congrArg V.str h⟩
theorem dpAll_ints {K : PySem.W.Frag} {H : Hp} : ∀ ns : List Int, DpAll K H (ns.map V.int) (ns.map PyData.int)
  | [] => .nil
  | n :: ns => .cons (.int n) (dpAll_ints ns)
mutual
theorem dp_of {K : PySem.W.Frag} {G H : Hp} (e : Same G H) : ∀ {d : D} {v : V} {p : PyData}, Dr K G v d → toPy d = some p → Dp K H v p
  | .non, _, _, h, q => by cases h; simp only [toPy] at q; cases q; exact .non
  | .bl b, _, _, h, q => by cases h; simp only [toPy] at q; cases q; exact .bl b
  | .int b, _, _, h, q => by cases h; simp only [toPy] at q; cases q; exact .int b
  | .str b, _, _, h, q => by cases h; simp only [toPy] at q; cases q; exact .str b
  | .lst xs, _, _, h, q => by
    cases h with
    | lst h1 h2 =>
      simp only [toPy, Option.map_eq_some_iff] at q
      obtain ⟨ps, q1, rfl⟩ := q
      exact .lst (SqL.of (e _ _ h1)) (dps_of e h2 q1)
  | .tup xs, _, _, h, q => by
    cases h with
    | tup h1 h2 =>
      simp only [toPy, Option.map_eq_some_iff] at q
      obtain ⟨ps, q1, rfl⟩ := q
      exact .tup (sqT_mono e h1) (dps_of e h2 q1)
  | .scr ns, _, _, h, q => by
    cases h with
    | scr h1 => simp only [toPy] at q; cases q; exact .lst (e.seq h1) (dpAll_ints ns)
  | .dic _, _, _, h, q => by simp only [toPy] at q; cases q
  | .ins _ _, _, _, h, q => by simp only [toPy] at q; cases q
  | .raw _, _, _, h, q => by simp only [toPy] at q; cases q
theorem dps_of {K : PySem.W.Frag} {G H : Hp} (e : Same G H) : ∀ {ds : List D} {vs : List V} {ps : List PyData}, Drs K G vs ds → toPys ds = some ps → DpAll K H vs ps
  | [], _, _, h, q => by cases h; simp only [toPys] at q; cases q; exact .nil
  | d :: r, _, _, h, q => by
    cases h with
    | cons h1 h2 =>
      simp only [toPys] at q
      cases z : toPy d with
      | none => rw [z] at q; cases q
      | some a =>
        rw [z] at q
        simp only [Option.map_eq_some_iff] at q
        obtain ⟨ps, q1, rfl⟩ := q
        exact .cons (dp_of e h1 z) (dps_of e h2 q1)
end
theorem Rf.dp {K : PySem.W.Frag} {G H : Hp} {M F : MS} {v : V} {d : D} {p : PyData} (W : Wd K G M F H) (h : Rf K G F v d) (q : toPy d = some p) : Dp K H v p := by
  rcases h with h | ⟨a, ds, rfl, rfl, hF⟩ | ⟨a, ds, rfl, rfl, hF⟩
  · exact dp_of W.rep.g h q
  · obtain ⟨vs, h1, h2, _⟩ := W.lst_at hF
    simp only [toPy, Option.map_eq_some_iff] at q
    obtain ⟨ps, q1, rfl⟩ := q
    exact .lst (SqL.of h1) (dps_of W.rep.g h2 q1)
  · simp only [toPy] at q; cases q
/-! flat items, dict keys -/
def flatD : D → Bool
  | .non => true
  | .bl _ => true
  | .int _ => true
  | .str _ => true
  | _ => false
def flatOf : D → V
  | .non => .non
  | .bl b => .bl b
  | .int i => .int i
  | .str x => .str x
  | _ => .non
theorem flat_of {K : PySem.W.Frag} {G : Hp} {F : MS} {v : V} {d : D} (h : Rf K G F v d) (q : flatD d = true) : v = flatOf d ∧ flatV v = true := by
  cases d with
  | non => cases h.non; exact ⟨rfl, rfl⟩
  | bl b => cases h.bl; exact ⟨rfl, rfl⟩
  | int b => cases h.int; exact ⟨rfl, rfl⟩
  | str b => cases h.str; exact ⟨rfl, rfl⟩
  | _ => cases q
theorem flats_of {K : PySem.W.Frag} {G : Hp} : ∀ {ds : List D} {vs : List V}, Drs K G vs ds → ds.all flatD = true → vs = ds.map flatOf ∧ vs.all flatV = true
  | _, _, .nil, _ => ⟨rfl, rfl⟩
  | d :: ds, v :: vs, .cons h t, q => by
    rw [List.all_cons, Bool.and_eq_true] at q
    obtain ⟨e1, e2⟩ := flat_of (F := fun _ => none) (.inl h) q.1
    obtain ⟨e3, e4⟩ := flats_of t q.2
    rw [e1, e3] at *
    exact ⟨rfl, by rw [List.all_cons, Bool.and_eq_true]; exact ⟨e2, e4⟩⟩
def inD (x : D) (xs : List D) : Bool := inV (flatOf x) (xs.map flatOf)
def keyD : D → Option Key
  | .int i => some (.inl i)
  | .str x => some (.inr x)
  | _ => none
theorem key_of {K : PySem.W.Frag} {G : Hp} {F : MS} {v : V} {d : D} {k : Key} (h : Rf K G F v d) (q : keyD d = some k) : v = kV k := by
  cases d with
  | int i => cases h.int; cases q; rfl
  | str i => cases h.str; cases q; rfl
  | _ => cases q
def valD (kvs : List (Key × D)) (k : Key) : Option D := (kvs.find? fun kv => decide (kv.1 = k)).map (·.2)
def putD (kvs : List (Key × D)) (k : Key) (v : D) : List (Key × D) :=
  if (kvs.any fun kv => decide (kv.1 = k)) = true then kvs.map (fun kv => if kv.1 = k then (kv.1, v) else kv) else kvs ++ [(k, v)]
theorem drk_val {K : PySem.W.Frag} {G : Hp} (k : Key) : ∀ {ws : List (Key × V)} {ds : List (Key × D)}, Drk K G ws ds → (valD ds k = none ∧ valV ws k = none) ∨ ∃ v d, valD ds k = some d ∧ valV ws k = some v ∧ Dr K G v d
  | _, _, .nil => .inl ⟨rfl, rfl⟩
  | (k', v) :: ws, (_, d) :: ds, .cons h t => by
    by_cases e : k' = k
    · subst e
      exact .inr ⟨v, d, by simp [valD], by simp [valV], h⟩
    · have e1 : valD ((k', d) :: ds) k = valD ds k := by simp [valD, List.find?_cons, e]
      have e2 : valV ((k', v) :: ws) k = valV ws k := by simp [valV, List.find?_cons, e]
      rw [e1, e2]
      exact drk_val k t
theorem drk_any {K : PySem.W.Frag} {G : Hp} (k : Key) : ∀ {ws : List (Key × V)} {ds : List (Key × D)}, Drk K G ws ds → (ws.any fun kv => decide (kv.1 = k)) = ds.any fun kv => decide (kv.1 = k)
  | _, _, .nil => rfl
  | (k', v) :: ws, (_, d) :: ds, .cons h t => by rw [List.any_cons, List.any_cons, drk_any k t]
theorem drk_map {K : PySem.W.Frag} {G : Hp} (k : Key) {x : V} {y : D} (r : Dr K G x y) : ∀ {ws : List (Key × V)} {ds : List (Key × D)}, Drk K G ws ds → Drk K G (ws.map fun kv => if kv.1 = k then (kv.1, x) else kv) (ds.map fun kv => if kv.1 = k then (kv.1, y) else kv)
  | _, _, .nil => .nil
  | (k', v) :: ws, (_, d) :: ds, .cons h t => by
    rw [List.map_cons, List.map_cons]
    by_cases e : k' = k
    · rw [if_pos e, if_pos e]
      exact .cons r (drk_map k r t)
    · rw [if_neg e, if_neg e]
      exact .cons h (drk_map k r t)
theorem drk_app {K : PySem.W.Frag} {G : Hp} : ∀ {ws ws' : List (Key × V)} {ds ds' : List (Key × D)}, Drk K G ws ds → Drk K G ws' ds' → Drk K G (ws ++ ws') (ds ++ ds')
  | _, _, _, _, .nil, h => h
  | _, _, _, _, .cons h t, h' => .cons h (drk_app t h')
theorem drk_put {K : PySem.W.Frag} {G : Hp} {ws : List (Key × V)} {ds : List (Key × D)} (h : Drk K G ws ds) (k : Key) {x : V} {y : D} (r : Dr K G x y) : Drk K G (putK ws k x) (putD ds k y) := by
  unfold putK putD
  rw [drk_any k h]
  split
  · exact drk_map k r h
  · exact drk_app h (.cons r .nil)
def kIn (x y : D) (M : MS) (Q : DQ) : Prop := match y with
  | .lst ds => flatD x = true ∧ ds.all flatD = true ∧ Q (.bl (inD x ds)) M
  | .tup ds => flatD x = true ∧ ds.all flatD = true ∧ Q (.bl (inD x ds)) M
  | .dic ds => ∃ k, keyD x = some k ∧ Q (.bl (valD ds k).isSome) M
  | .str z => match x with
    | .str w => Q (.bl (!(Builtin.Str.occurrences z w 0 z.length 1).isEmpty)) M
    | _ => False
  | _ => False
def kNotIn (x y : D) (M : MS) (Q : DQ) : Prop := match y with
  | .lst ds => flatD x = true ∧ ds.all flatD = true ∧ Q (.bl (!inD x ds)) M
  | .tup ds => flatD x = true ∧ ds.all flatD = true ∧ Q (.bl (!inD x ds)) M
  | .dic ds => ∃ k, keyD x = some k ∧ Q (.bl (!(valD ds k).isSome)) M
  | .str z => match x with
    | .str w => Q (.bl (!(!(Builtin.Str.occurrences z w 0 z.length 1).isEmpty))) M
    | _ => False
  | _ => False
section
variable {X : Cx} {O : Hp → MS → Prop}
theorem o_lt : OpR X (compareOp .Lt) (lR X.K kLt) := by
  intro pins s σ H x y v u Q I rx ry ⟨G, M, F, d, e, Q', W, r1, r2, q, cv⟩
  unfold kLt at q
  split at q
  · cases r1.int; cases r2.int
    exact op_lt pins s σ H _ _ v u Q I rx ry ⟨_, _, rfl, rfl, cv.at_ W q (.bl _)⟩
  · cases r1.str; cases r2.str
    exact op_lt_str pins s σ H _ _ v u Q I rx ry ⟨_, _, rfl, rfl, cv.at_ W q (.bl _)⟩
  · exact q.elim
theorem o_le : OpR X (compareOp .LtE) (lR X.K kLe) := by
  intro pins s σ H x y v u Q I rx ry ⟨G, M, F, d, e, Q', W, r1, r2, q, cv⟩
  unfold kLe at q
  split at q
  · cases r1.int; cases r2.int
    exact op_le pins s σ H _ _ v u Q I rx ry ⟨_, _, rfl, rfl, cv.at_ W q (.bl _)⟩
  · exact q.elim
theorem o_gt : OpR X (compareOp .Gt) (lR X.K kGt) := by
  intro pins s σ H x y v u Q I rx ry ⟨G, M, F, d, e, Q', W, r1, r2, q, cv⟩
  unfold kGt at q
  split at q
  · cases r1.int; cases r2.int
    exact op_gt pins s σ H _ _ v u Q I rx ry ⟨_, _, rfl, rfl, cv.at_ W q (.bl _)⟩
  · exact q.elim
theorem o_ge : OpR X (compareOp .GtE) (lR X.K kGe) := by
  intro pins s σ H x y v u Q I rx ry ⟨G, M, F, d, e, Q', W, r1, r2, q, cv⟩
  unfold kGe at q
  split at q
  · cases r1.int; cases r2.int
    exact op_ge pins s σ H _ _ v u Q I rx ry ⟨_, _, rfl, rfl, cv.at_ W q (.bl _)⟩
  · exact q.elim
theorem isNon_of {K : PySem.W.Frag} {G : Hp} {F : MS} {v : V} {d : D} (h : Rf K G F v d) : decide (v = .non) = isNon d := by
  cases d with
  | non => cases h.non; rfl
  | bl b => cases h.bl; rfl
  | int b => cases h.int; rfl
  | str b => cases h.str; rfl
  | raw u => cases h.raw; rfl
  | lst ds => rcases h with h | ⟨a, ds, rfl, _⟩ | ⟨a, ds, rfl, _⟩; · cases h; rfl
              all_goals rfl
  | tup ds => rcases h with h | ⟨a, ds, rfl, _⟩ | ⟨a, ds, rfl, _⟩; · cases h; rfl
              all_goals rfl
  | dic ds => rcases h with h | ⟨a, ds, rfl, _⟩ | ⟨a, ds, rfl, _⟩; · cases h; rfl
              all_goals rfl
  | ins C ds => rcases h with h | ⟨a, ds, rfl, _⟩ | ⟨a, ds, rfl, _⟩; · cases h; rfl
                all_goals rfl
  | scr ds => rcases h with h | ⟨a, ds, rfl, _⟩ | ⟨a, ds, rfl, _⟩; · cases h; rfl
              all_goals rfl
theorem o_isN : OpR X (compareOp .Is) (lR X.K kIsN) := by
  intro pins s σ H x y v u Q I rx ry ⟨G, M, F, d, e, Q', W, r1, r2, q, cv⟩
  unfold kIsN at q
  split at q
  · cases r2.non
    exact op_isN pins s σ H _ _ v u Q I rx ry ⟨rfl, by rw [isNon_of r1]; exact cv.at_ W q (.bl _)⟩
  · exact q.elim
theorem o_notN : OpR X (compareOp .IsNot) (lR X.K kNotN) := by
  intro pins s σ H x y v u Q I rx ry ⟨G, M, F, d, e, Q', W, r1, r2, q, cv⟩
  unfold kNotN at q
  split at q
  · cases r2.non
    exact op_notN pins s σ H _ _ v u Q I rx ry ⟨rfl, by rw [isNon_of r1]; exact cv.at_ W q (.bl _)⟩
  · exact q.elim
theorem o_eq (hu : X.A.units + 64 < cLine) : OpR X (compareOp .Eq) (lR X.K kEq) := by
  intro pins s σ H x y v u Q I rx ry ⟨G, M, F, d, e, Q', W, r1, r2, q, cv⟩
  unfold kEq at q
  split at q
  · cases r1.str; cases r2.str
    exact op_eq pins s σ H _ _ v u Q I rx ry ⟨rfl, by rw [dec_strV]; exact cv.at_ W q (.bl _)⟩
  obtain ⟨a, b, e1, e2, s1, s2, q⟩ := q
  exact op_eqD hu pins s σ H _ _ v u Q I rx ry ⟨a, b, r1.dp W e1, r2.dp W e2, s1, s2, cv.at_ W q (.bl _)⟩
theorem o_ne (hu : X.A.units + 64 < cLine) : OpR X (compareOp .NotEq) (lR X.K kNe) := by
  intro pins s σ H x y v u Q I rx ry ⟨G, M, F, d, e, Q', W, r1, r2, q, cv⟩
  unfold kNe at q
  split at q
  · cases r1.str; cases r2.str
    exact op_ne pins s σ H _ _ v u Q I rx ry ⟨rfl, by rw [dec_strV]; exact cv.at_ W q (.bl _)⟩
  obtain ⟨a, b, e1, e2, s1, s2, q⟩ := q
  exact op_neD hu pins s σ H _ _ v u Q I rx ry ⟨a, b, r1.dp W e1, r2.dp W e2, s1, s2, cv.at_ W q (.bl _)⟩
theorem o_in (hu : X.A.units + 64 < cLine) : OpR X (compareOp .In) (lR X.K kIn) := by
  intro pins s σ H x y v u Q I rx ry ⟨G, M, F, d, e, Q', W, r1, r2, q, cv⟩
  unfold kIn at q
  split at q
  · obtain ⟨p, vs, rfl, h1, h2⟩ := r2.lst W
    obtain ⟨f1, f2⟩ := flat_of r1 q.1
    obtain ⟨f3, f4⟩ := flats_of h2 q.2.1
    refine op_in_seq pins s σ H _ _ v u Q I rx ry ⟨_, _, rfl, .inl (SqL.of h1), f2, f4, ?_⟩
    subst f1 f3
    exact cv.at_ W q.2.2 (.bl _)
  · obtain ⟨p, vs, rfl, h1, _, h2⟩ := r2.tup W
    obtain ⟨f1, f2⟩ := flat_of r1 q.1
    obtain ⟨f3, f4⟩ := flats_of h2 q.2.1
    refine op_in_seq pins s σ H _ _ v u Q I rx ry ⟨_, _, rfl, .inr h1, f2, f4, ?_⟩
    subst f1 f3
    exact cv.at_ W q.2.2 (.bl _)
  · obtain ⟨p, vs, rfl, h1, h2⟩ := r2.dic W
    obtain ⟨k, hk, q⟩ := q
    cases key_of r1 hk
    obtain rfl : u = Value.ref p := ry
    refine d_in (by omega) I (.k h1) rx fun s3 I3 => ⟨.bl _, H, I3, rfl, ?_⟩
    rcases drk_val k h2 with ⟨z1, z2⟩ | ⟨v', d', z1, z2, _⟩
    · rw [z1] at q; rw [z2]; exact cv.at_ W q (.bl _)
    · rw [z1] at q; rw [z2]; exact cv.at_ W q (.bl _)
  · split at q
    · cases r1.str; cases r2.str
      exact op_in_str pins s σ H _ _ v u Q I rx ry ⟨_, _, rfl, rfl, cv.at_ W q (.bl _)⟩
    · exact q.elim
  · exact q.elim
theorem o_notIn (hu : X.A.units + 64 < cLine) : OpR X (compareOp .NotIn) (lR X.K kNotIn) := by
  intro pins s σ H x y v u Q I rx ry ⟨G, M, F, d, e, Q', W, r1, r2, q, cv⟩
  unfold kNotIn at q
  split at q
  · obtain ⟨p, vs, rfl, h1, h2⟩ := r2.lst W
    obtain ⟨f1, f2⟩ := flat_of r1 q.1
    obtain ⟨f3, f4⟩ := flats_of h2 q.2.1
    refine op_notIn_seq pins s σ H _ _ v u Q I rx ry ⟨_, _, rfl, .inl (SqL.of h1), f2, f4, ?_⟩
    subst f1 f3
    exact cv.at_ W q.2.2 (.bl _)
  · obtain ⟨p, vs, rfl, h1, _, h2⟩ := r2.tup W
    obtain ⟨f1, f2⟩ := flat_of r1 q.1
    obtain ⟨f3, f4⟩ := flats_of h2 q.2.1
    refine op_notIn_seq pins s σ H _ _ v u Q I rx ry ⟨_, _, rfl, .inr h1, f2, f4, ?_⟩
    subst f1 f3
    exact cv.at_ W q.2.2 (.bl _)
  · obtain ⟨p, vs, rfl, h1, h2⟩ := r2.dic W
    obtain ⟨k, hk, q⟩ := q
    cases key_of r1 hk
    obtain rfl : u = Value.ref p := ry
    refine d_notIn (by omega) I (.k h1) rx fun s3 I3 => ⟨.bl _, H, I3, rfl, ?_⟩
    rcases drk_val k h2 with ⟨z1, z2⟩ | ⟨v', d', z1, z2, _⟩
    · rw [z1] at q; rw [z2]; exact cv.at_ W q (.bl _)
    · rw [z1] at q; rw [z2]; exact cv.at_ W q (.bl _)
  · split at q
    · cases r1.str; cases r2.str
      exact op_notin_str pins s σ H _ _ v u Q I rx ry ⟨_, _, rfl, rfl, cv.at_ W q (.bl _)⟩
    · exact q.elim
  · exact q.elim
end
end DL

/-! DL, part d: tests, argument lists, displays, subscripts, slices, calls of built-ins, methods of built-in types. -/
namespace DL
open PySem PySem.Spec PyProof.Rows L2

section
variable {X : Cx} {O : Hp → MS → Prop} {e a b c o : Expr} {es rest : List Expr} {t ta tb tc : DTE} {tA tB : DTT} {pos : Pos}
/-! ### and, or, not, if else -/
def dAnd (t u : DTT) : DTT := fun δ M Q => t δ M fun c M1 => if c = true then u δ M1 Q else Q false M1
def dOr (t u : DTT) : DTT := fun δ M Q => t δ M fun c M1 => if c = true then Q true M1 else u δ M1 Q
def dNot (t : DTT) : DTT := fun δ M Q => t δ M fun c M1 => Q (!c) M1
theorem lift_and {K : PySem.W.Frag} {σ : L2.St} {H : Hp} {Q : Bool → Hp → Prop} (h : lT K O (dAnd tA tB) σ H Q) : tAnd (lT K O tA) (lT K O tB) σ H Q := by
  obtain ⟨G0, F0, G, M, F, δ, Q', xo, S, q, cv⟩ := h
  refine ⟨G0, F0, G, M, F, δ, _, xo, S, q, fun c M1 G1 H1 q1 S1 s1 => ?_⟩
  cases c with
  | true => exact ⟨G0, F0, G1, M1, F, δ, Q', xo, S1, q1, fun b M' G' H' q' S' s' => cv b M' G' H' q' S' (s1.trans s')⟩
  | false => exact cv _ _ _ _ q1 S1 s1
theorem lift_or {K : PySem.W.Frag} {σ : L2.St} {H : Hp} {Q : Bool → Hp → Prop} (h : lT K O (dOr tA tB) σ H Q) : tOr (lT K O tA) (lT K O tB) σ H Q := by
  obtain ⟨G0, F0, G, M, F, δ, Q', xo, S, q, cv⟩ := h
  refine ⟨G0, F0, G, M, F, δ, _, xo, S, q, fun c M1 G1 H1 q1 S1 s1 => ?_⟩
  cases c with
  | false => exact ⟨G0, F0, G1, M1, F, δ, Q', xo, S1, q1, fun b M' G' H' q' S' s' => cv b M' G' H' q' S' (s1.trans s')⟩
  | true => exact cv _ _ _ _ q1 S1 s1
theorem DW.pt (h : DW X O e tA) : DT X O e tA := ⟨h.pw.pt⟩
theorem dw_and1 (ha : DT X O a tA) : DW X O (.BoolOp .And [a] pos) tA := ⟨pw_and1 ha.pt⟩
theorem dw_or1 (ha : DT X O a tA) : DW X O (.BoolOp .Or [a] pos) tA := ⟨pw_or1 ha.pt⟩
theorem dw_and (ha : DT X O a tA) (hb : DW X O (.BoolOp .And (b :: rest) pos) tB) : DW X O (.BoolOp .And (a :: b :: rest) pos) (dAnd tA tB) := ⟨(pw_and ha.pt hb.pw).weak fun _ _ _ h => lift_and h⟩
theorem dw_or (ha : DT X O a tA) (hb : DW X O (.BoolOp .Or (b :: rest) pos) tB) : DW X O (.BoolOp .Or (a :: b :: rest) pos) (dOr tA tB) := ⟨(pw_or ha.pt hb.pw).weak fun _ _ _ h => lift_or h⟩
theorem dt_not (ha : DT X O a tA) : DT X O (.UnaryOp .Not a pos) (dNot tA) := by
  refine ⟨(pt_not ha.pt).weak fun σ H Q ⟨G0, F0, G, M, F, δ, Q', xo, S, q, cv⟩ => ?_⟩
  exact ⟨G0, F0, G, M, F, δ, _, xo, S, q, fun c M1 G1 H1 q1 S1 s1 => cv _ _ _ _ q1 S1 s1⟩
/-- truth of data -/
def truD (M : MS) (x : D) (Q : Bool → Prop) : Prop := match x with
  | .bl k => Q k
  | .int i => Q (i != 0)
  | .non => Q false
  | .str z => z.length ≤ sizeLine ∧ Q ((z.length : Int) != 0)
  | .lst ds => Q (!ds.isEmpty)
  | .tup ds => Q (!ds.isEmpty)
  | .dic ds => Q (!ds.isEmpty)
  | .scr ns => Q (!ns.isEmpty)
  | _ => False
def dTru (t : DTE) : DTT := fun δ M Q => t δ M fun x M1 => truD M1 x fun k => Q k M1
theorem tru_of {K : PySem.W.Frag} {G H : Hp} {M F : MS} {v : V} {d : D} {Q : Bool → Prop} (W : Wd K G M F H) (r : Rf K G F v d) (h : truD M d Q) : ∃ k, TruV K v H k ∧ Q k := by
  unfold truD at h
  split at h
  · cases r.bl; exact ⟨_, rfl, h⟩
  · cases r.int; exact ⟨_, rfl, h⟩
  · cases r.non; exact ⟨_, rfl, h⟩
  · cases r.str; exact ⟨_, ⟨h.1, rfl⟩, h.2⟩
  · obtain ⟨p, vs, rfl, h1, h2⟩ := r.lst W
    exact ⟨_, .inl ⟨vs, SqL.of h1, rfl⟩, by rw [h2.nil_iff]; exact h⟩
  · obtain ⟨p, vs, rfl, h1, _, h2⟩ := r.tup W
    exact ⟨_, .inr (.inl ⟨vs, h1, rfl⟩), by rw [h2.nil_iff]; exact h⟩
  · obtain ⟨p, vs, rfl, h1, h2⟩ := r.dic W
    refine ⟨_, .inr (.inr ⟨vs, h1, rfl⟩), ?_⟩
    rw [h2.nil_iff]; exact h
  · obtain ⟨p, rfl, h1⟩ := r.scr W
    exact ⟨_, .inl ⟨_, h1, rfl⟩, by rw [List.isEmpty_map]; exact h⟩
  · exact h.elim
theorem dt_truth (ha : DB X O a ta) (he : ∀ whole, isTrue a X.env whole = (do let v ← whole; standAt a.pos; holding [v] (truthy v)) := by intro _; rfl) : DT X O a (dTru ta) := by
  refine ⟨(pt_truth ha.pe he).weak fun σ H Q ⟨G0, F0, G, M, F, δ, Q', xo, S, q, cv⟩ => ?_⟩
  refine ⟨G0, F0, G, M, F, δ, _, xo, S, q, fun d M' v G' H' q' S' s' r' => ?_⟩
  obtain ⟨k, h1, h2⟩ := tru_of S'.wd r' q'
  exact ⟨k, h1, cv _ _ _ _ h2 S' s'⟩
/-- as values, all but the last a bool -/
def dAndV (ta tb : DTE) : DTE := fun δ M Q => ta δ M fun x M1 => match x with
  | .bl c => if c = true then tb δ M1 Q else Q (.bl false) M1
  | _ => False
def dOrV (ta tb : DTE) : DTE := fun δ M Q => ta δ M fun x M1 => match x with
  | .bl c => if c = true then Q (.bl true) M1 else tb δ M1 Q
  | _ => False
def dNotV (ta : DTE) : DTE := fun δ M Q => ta δ M fun x M1 => match x with
  | .bl c => Q (.bl (!c)) M1
  | _ => False
theorem de_one {op} (h : DE X O a ta) : DE X O (.BoolOp op [a] pos) ta := ⟨pe_one h.pe⟩
theorem de_and (ha : DE X O a ta) (hb : DE X O (.BoolOp .And (b :: rest) pos) tb) : DE X O (.BoolOp .And (a :: b :: rest) pos) (dAndV ta tb) := by
  refine ⟨(pe_and ha.pe hb.pe).weak fun σ H Q ⟨G0, F0, G, M, F, δ, Q', xo, S, q, cv⟩ => ?_⟩
  refine ⟨G0, F0, G, M, F, δ, _, xo, S, q, fun d M1 v G1 H1 q1 S1 s1 r1 => ?_⟩
  cases d with
  | bl c =>
    cases r1
    refine ⟨c, rfl, ?_⟩
    cases c with
    | true => exact ⟨G0, F0, G1, M1, F, δ, Q', xo, S1, q1, fun d M' v G' H' q' S' s' r' => cv d M' v G' H' q' S' (s1.trans s') r'⟩
    | false => exact cv _ _ _ _ _ q1 S1 s1 (.bl false)
  | _ => exact q1.elim
theorem de_or (ha : DE X O a ta) (hb : DE X O (.BoolOp .Or (b :: rest) pos) tb) : DE X O (.BoolOp .Or (a :: b :: rest) pos) (dOrV ta tb) := by
  refine ⟨(pe_or ha.pe hb.pe).weak fun σ H Q ⟨G0, F0, G, M, F, δ, Q', xo, S, q, cv⟩ => ?_⟩
  refine ⟨G0, F0, G, M, F, δ, _, xo, S, q, fun d M1 v G1 H1 q1 S1 s1 r1 => ?_⟩
  cases d with
  | bl c =>
    cases r1
    refine ⟨c, rfl, ?_⟩
    cases c with
    | false => exact ⟨G0, F0, G1, M1, F, δ, Q', xo, S1, q1, fun d M' v G' H' q' S' s' r' => cv d M' v G' H' q' S' (s1.trans s') r'⟩
    | true => exact cv _ _ _ _ _ q1 S1 s1 (.bl true)
  | _ => exact q1.elim
theorem de_not (ha : DE X O a ta) : DE X O (.UnaryOp .Not a pos) (dNotV ta) := by
  refine ⟨(pe_not ha.pe).weak fun σ H Q ⟨G0, F0, G, M, F, δ, Q', xo, S, q, cv⟩ => ?_⟩
  refine ⟨G0, F0, G, M, F, δ, _, xo, S, q, fun d M1 v G1 H1 q1 S1 s1 r1 => ?_⟩
  cases d with
  | bl c => cases r1; exact ⟨c, rfl, cv _ _ _ _ _ q1 S1 s1 (.bl _)⟩
  | _ => exact q1.elim
def dIf (t : DTT) (ta tb : DTE) : DTE := fun δ M Q => t δ M fun c M1 => if c = true then ta δ M1 Q else tb δ M1 Q
theorem de_if (hc : DT X O c tA) (ha : DE X O a ta) (hb : DE X O b tb) : DE X O (.IfExp c a b pos) (dIf tA ta tb) := by
  refine ⟨(pe_ifExp hc.pt ha.pe hb.pe).weak fun σ H Q ⟨G0, F0, G, M, F, δ, Q', xo, S, q, cv⟩ => ?_⟩
  refine ⟨G0, F0, G, M, F, δ, _, xo, S, q, fun c M1 G1 H1 q1 S1 s1 => ?_⟩
  cases c with
  | true => exact ⟨G0, F0, G1, M1, F, δ, Q', xo, S1, q1, fun d M' v G' H' q' S' s' r' => cv d M' v G' H' q' S' (s1.trans s') r'⟩
  | false => exact ⟨G0, F0, G1, M1, F, δ, Q', xo, S1, q1, fun d M' v G' H' q' S' s' r' => cv d M' v G' H' q' S' (s1.trans s') r'⟩

/-! ### argument lists -/
def daNil : DTA := fun _ M Q => Q [] M
def daCons (t : DTE) (r : DTA) : DTA := fun δ M Q => t δ M fun x M1 => r δ M1 fun xs M2 => Q (x :: xs) M2
variable {tr : DTA}
theorem da_nil : DA X O [] daNil := ⟨pa_nil.weak fun σ H Q ⟨G0, F0, G, M, F, δ, Q', xo, S, q, cv⟩ => cv _ _ _ _ _ q S (Same.refl _) .nil⟩
theorem dab_nil : DAb X O [] daNil := ⟨pa_nil.weak fun σ H Q ⟨G0, F0, G, M, F, δ, Q', xo, S, q, cv⟩ => cv _ _ _ _ _ q S (Same.refl _) .nil⟩
theorem da_cons (ha : DE X O e t) (hr : DA X O es tr) (hs : starEach (e :: es) X.env = (false, eval e X.env) :: starEach es X.env := by rfl) : DA X O (e :: es) (daCons t tr) := by
  refine ⟨(pa_cons ha.pe hr.pa hs).weak fun σ H Q ⟨G0, F0, G, M, F, δ, Q', xo, S, q, cv⟩ => ?_⟩
  refine ⟨G0, F0, G, M, F, δ, _, xo, S, q, fun d M1 v G1 H1 q1 S1 s1 r1 => ?_⟩
  exact ⟨G0, F0, G1, M1, F, δ, _, xo, S1, q1, fun ds M' vs G' H' q' S' s' r' => cv _ _ _ _ _ q' S' (s1.trans s') (.cons (r1.mono s') r')⟩
theorem dab_cons (ha : DB X O e t) (hr : DAb X O es tr) (hs : starEach (e :: es) X.env = (false, eval e X.env) :: starEach es X.env := by rfl) : DAb X O (e :: es) (daCons t tr) := by
  refine ⟨(pa_cons ha.pe hr.pa hs).weak fun σ H Q ⟨G0, F0, G, M, F, δ, Q', xo, S, q, cv⟩ => ?_⟩
  refine ⟨G0, F0, G, M, F, δ, _, xo, S, q, fun d M1 v G1 H1 q1 S1 s1 r1 => ?_⟩
  exact ⟨G0, F0, G1, M1, F, δ, _, xo, S1, q1, fun ds M' vs G' H' q' S' s' r' => cv _ _ _ _ _ q' S' (s1.trans s') (.cons (r1.mono s') r')⟩
/-! ### displays -/
def dTup (t : DTA) : DTE := fun δ M Q => t δ M fun ds M1 => ds.length ≤ sizeLine ∧ Q (.tup ds) M1
def dfLst (t : DTA) : List Slot → MS → (List D → MS → Prop) → Prop := fun δ M Q => t δ M fun ds M1 => ds.length ≤ sizeLine ∧ Q ds M1
theorem de_tup {x1} (h : DA X O es tr) : DE X O (.Tuple es x1 pos) (dTup tr) := by
  refine ⟨(pe_tup h.pa).weak fun σ H Q ⟨G0, F0, G, M, F, δ, Q', xo, S, q, cv⟩ => ?_⟩
  refine ⟨G0, F0, G, M, F, δ, _, xo, S, q, fun ds M1 vs G1 H1 q1 S1 s1 r1 => ⟨by rw [r1.len]; exact q1.1, fun p hp => ?_⟩⟩
  have sa : Same G1 (upd G1 p (.tup vs)) := same_upd (S1.wd.gfree hp)
  exact cv _ _ _ _ _ q1.2 (S1.upd (S1.wd.imm hp) sa) (s1.trans sa) (.tup (SqT.of upd_same) (r1.mono sa))
theorem df_lst (h : DA X O es tr) : DF X O (.List es pos) (dfLst tr) := by
  refine ⟨(pe_lst h.pa).weak fun σ H Q ⟨G0, F0, G, M, F, δ, Q', xo, S, q, cv⟩ => ?_⟩
  refine ⟨G0, F0, G, M, F, δ, _, xo, S, q, fun ds M1 vs G1 H1 q1 S1 s1 r1 => ⟨by rw [r1.len]; exact q1.1, fun p hp => ?_⟩⟩
  exact cv _ _ _ _ _ _ q1.2 S1 hp r1 s1
end

/-! ### subscripts -/
theorem atI_drs {K : PySem.W.Frag} {G : Hp} {vs : List V} {ds : List D} {i : Int} {d : D} (h : Drs K G vs ds) (e : atI ds i = some d) : ∃ v, atI vs i = some v ∧ Dr K G v d := by
  unfold atI at e ⊢
  rw [h.len]
  cases z : ixN ds.length i with
  | none => rw [z] at e; cases e
  | some j =>
    rw [z] at e
    obtain ⟨v, h1, h2⟩ := h.get (i := j) e
    exact ⟨v, h1, h2⟩
theorem atI_ints {ns : List Int} {i n : Int} (e : atI ns i = some n) : atI (ns.map V.int) i = some (V.int n) := by
  unfold atI at e ⊢
  rw [List.length_map]
  cases z : ixN ns.length i with
  | none => rw [z] at e; cases e
  | some j =>
    rw [z] at e
    have e' : ns[j]? = some n := e
    show (ns.map V.int)[j]? = some (V.int n)
    rw [List.getElem?_map, e']
    rfl
def kIx (x y : D) (M : MS) (Q : DQ) : Prop := match x with
  | .lst ds => ∃ i d, y = .int i ∧ atI ds i = some d ∧ Q d M
  | .tup ds => ∃ i d, y = .int i ∧ atI ds i = some d ∧ Q d M
  | .scr ns => ∃ i n, y = .int i ∧ atI ns i = some n ∧ Q (.int n) M
  | .str z => ∃ i c, y = .int i ∧ z.length ≤ sizeLine ∧ atI z.cps.toList i = some c ∧ Q (.str ⟨#[c]⟩) M
  | .dic ds => ∃ k d, keyD y = some k ∧ valD ds k = some d ∧ Q d M
  | .raw (.ref p) => ∃ ds i d, y = .int i ∧ M p = some (.lst ds) ∧ atI ds i = some d ∧ Q d M
  | _ => False
section
variable {X : Cx} {O : Hp → MS → Prop} {e a b c o : Expr} {es rest : List Expr} {t ta tb tc : DTE} {pos : Pos}
theorem ix_d (hu : X.A.units + 64 < cLine) : IxR X (lR X.K kIx) := by
  intro value slice pins s σ H x y v u Q I rx ry ⟨G, M, F, d, e, Q', W, r1, r2, q, cv⟩ hs
  unfold kIx at q
  split at q
  · obtain ⟨i, d', rfl, hi, q⟩ := q
    obtain ⟨p, vs, rfl, h1, h2⟩ := r1.lst W
    cases r2.int
    obtain ⟨v', h3, h4⟩ := atI_drs h2 hi
    exact ix_list value slice pins s σ H _ _ v u Q I rx ry ⟨_, _, _, _, rfl, rfl, SqL.of h1, h3, cv.at_ W q h4⟩ hs
  · obtain ⟨i, d', rfl, hi, q⟩ := q
    obtain ⟨p, vs, rfl, h1, _, h2⟩ := r1.tup W
    cases r2.int
    obtain ⟨v', h3, h4⟩ := atI_drs h2 hi
    exact ix_tup value slice pins s σ H _ _ v u Q I rx ry ⟨_, _, _, _, rfl, rfl, h1, h3, cv.at_ W q h4⟩ hs
  · obtain ⟨i, n, rfl, hi, q⟩ := q
    obtain ⟨p, rfl, h1⟩ := r1.scr W
    cases r2.int
    exact ix_list value slice pins s σ H _ _ v u Q I rx ry ⟨_, _, _, _, rfl, rfl, h1, atI_ints hi, cv.at_ W q (.int _)⟩ hs
  · obtain ⟨i, cc, rfl, hz, hi, q⟩ := q
    cases r1.str
    cases r2.int
    exact ix_str value slice pins s σ H _ _ v u Q I rx ry ⟨_, _, _, rfl, rfl, hz, hi, cv.at_ W q (.str _)⟩ hs
  · obtain ⟨k, d', hk, hv, q⟩ := q
    obtain ⟨p, vs, rfl, h1, h2⟩ := r1.dic W
    cases key_of r2 hk
    obtain rfl : v = Value.ref p := rx
    have g : DGet H p (kV k) (valV vs k) := .k h1
    rcases drk_val k h2 with ⟨z1, _⟩ | ⟨v', d2, z1, z2, z3⟩
    · rw [z1] at hv; cases hv
    · rw [z1] at hv; cases hv
      rw [z2] at g
      exact PyProof.Rows.tail_any (dict_typeIs I g) PySem.F.slot_dict_getitem.lookup (d_getItem (by omega) I g ry fun w' s3 I3 rw' => ⟨v', H, I3, rw', cv.at_ W q z3⟩) hs
  · obtain ⟨ds, i, d', rfl, hp, hi, q⟩ := q
    cases r1.raw
    cases r2.int
    obtain ⟨vs, h1, h2, _⟩ := W.lst_atM hp
    obtain ⟨v', h3, h4⟩ := atI_drs h2 hi
    exact ix_list value slice pins s σ H _ _ v u Q I rx ry ⟨_, _, _, _, rfl, rfl, SqL.of h1, h3, cv.at_ W q h4⟩ hs
  · exact q.elim
theorem de_ix (hu : X.A.units + 64 < cLine) (ha : DB X O a ta) (hb : DB X O b tb) (hs : PlainIx b := by intro _ _; rfl) : DE X O (.Subscript a b pos) (dOp kIx ta tb) := ⟨(pe_ix (ix_d hu) ha.pe hb.pe hs).weak fun _ _ _ h => lift2 h⟩

/-! ### slices -/
abbrev DTO := List Slot → MS → (Option Int → MS → Prop) → Prop
def lO (K : PySem.W.Frag) (O : Hp → MS → Prop) (t : DTO) : TO := fun σ H Q => ∃ G0 F0 G M F δ, ∃ Q' : Option Int → MS → Prop, O G0 F0 ∧ St K G0 F0 G M F H σ δ ∧ t δ M Q' ∧ ∀ b M' G' H', Q' b M' → St K G0 F0 G' M' F H' σ δ → Same G G' → Q b H'
structure DO (X : Cx) (O : Hp → MS → Prop) (e : Option Expr) (t : DTO) : Prop where
  po : PO X e (lO X.K O t)
theorem _root_.L2.PO.weak {e : Option Expr} {t t' : TO} (h : PO X e t) (w : ∀ σ H Q, t' σ H Q → t σ H Q) : PO X e t' := ⟨fun pins s σ H Q I q => h.run pins s σ H Q I (w σ H Q q)⟩
def dNoPart : DTO := fun _ M Q => Q none M
def dPart (t : DTE) : DTO := fun δ M Q => t δ M fun x M1 => match x with
  | .int i => Q (some i) M1
  | _ => False
theorem do_none : DO X O none dNoPart := ⟨po_none.weak fun σ H Q ⟨G0, F0, G, M, F, δ, Q', xo, S, q, cv⟩ => cv _ _ _ _ q S (Same.refl _)⟩
theorem do_some (h : DE X O e t) : DO X O (some e) (dPart t) := by
  refine ⟨(po_some h.pe).weak fun σ H Q ⟨G0, F0, G, M, F, δ, Q', xo, S, q, cv⟩ => ?_⟩
  refine ⟨G0, F0, G, M, F, δ, _, xo, S, q, fun d M1 v G1 H1 q1 S1 s1 r1 => ?_⟩
  cases d with
  | int i => cases r1; exact ⟨i, rfl, cv _ _ _ _ q1 S1 s1⟩
  | _ => exact q1.elim
def cutD (xs : List D) (lo hi : Option Int) : List D := (xs.drop (HT.sIx xs.length 0 lo)).take (HT.sIx xs.length xs.length hi - HT.sIx xs.length 0 lo)
theorem cut_drs {K : PySem.W.Frag} {G : Hp} {vs : List V} {ds : List D} (h : Drs K G vs ds) (lo hi : Option Int) : Drs K G (cutV vs lo hi) (cutD ds lo hi) := by
  unfold cutV cutD
  rw [h.len]
  exact (h.drop _).take _
def dfSl (t : DTE) (tl th : DTO) : List Slot → MS → (List D → MS → Prop) → Prop := fun δ M Q => t δ M fun x M1 => tl δ M1 fun lo M2 => th δ M2 fun hi M3 => match x with
  | .lst ds => Q (cutD ds lo hi) M3
  | .raw (.ref p) => ∃ ds, M3 p = some (.lst ds) ∧ Q (cutD ds lo hi) M3
  | _ => False
def dSlS (t : DTE) (tl th : DTO) : DTE := fun δ M Q => t δ M fun x M1 => tl δ M1 fun lo M2 => th δ M2 fun hi M3 => match x with
  | .str z => z.length ≤ sizeLine ∧ Q (.str (cutS z lo hi)) M3
  | _ => False
variable {lo hi : Option Expr} {tl th : DTO} {p2 : Pos}
/-- xs[lo:hi] of a list -/
theorem df_slice (ha : DB X O a ta) (hl : DO X O lo tl) (hh : DO X O hi th) : DF X O (.Subscript a (.Slice lo hi none p2) pos) (dfSl ta tl th) := by
  refine ⟨(pe_slice sl_list ha.pe hl.po hh.po).weak fun σ H Q ⟨G0, F0, G, M, F, δ, Q', xo, S, q, cv⟩ => ?_⟩
  refine ⟨G0, F0, G, M, F, δ, _, xo, S, q, fun d M1 v G1 H1 q1 S1 s1 r1 => ?_⟩
  refine ⟨G0, F0, G1, M1, F, δ, _, xo, S1, q1, fun l M2 G2 H2 q2 S2 s2 => ?_⟩
  refine ⟨G0, F0, G2, M2, F, δ, _, xo, S2, q2, fun h M3 G3 H3 q3 S3 s3 => ?_⟩
  have r3 := r1.mono (s2.trans s3)
  have sg := s1.trans (s2.trans s3)
  cases d with
  | lst ds =>
    obtain ⟨p, vs, rfl, h1, h2⟩ := r3.lst S3.wd
    exact ⟨p, vs, rfl, SqL.of h1, fun p hp => cv _ _ _ _ _ _ q3 S3 hp (cut_drs h2 _ _) sg⟩
  | raw u =>
    cases u with
    | ref p =>
      cases r3.raw
      obtain ⟨ds, h0, q3⟩ := q3
      obtain ⟨vs, h1, h2, _⟩ := S3.wd.lst_atM h0
      exact ⟨p, vs, rfl, SqL.of h1, fun p hp => cv _ _ _ _ _ _ q3 S3 hp (cut_drs h2 _ _) sg⟩
    | _ => exact q3.elim
  | _ => exact q3.elim
theorem de_sliceS (ha : DB X O a ta) (hl : DO X O lo tl) (hh : DO X O hi th) : DE X O (.Subscript a (.Slice lo hi none p2) pos) (dSlS ta tl th) := by
  refine ⟨(pe_slice sl_str ha.pe hl.po hh.po).weak fun σ H Q ⟨G0, F0, G, M, F, δ, Q', xo, S, q, cv⟩ => ?_⟩
  refine ⟨G0, F0, G, M, F, δ, _, xo, S, q, fun d M1 v G1 H1 q1 S1 s1 r1 => ?_⟩
  refine ⟨G0, F0, G1, M1, F, δ, _, xo, S1, q1, fun l M2 G2 H2 q2 S2 s2 => ?_⟩
  refine ⟨G0, F0, G2, M2, F, δ, _, xo, S2, q2, fun h M3 G3 H3 q3 S3 s3 => ?_⟩
  cases d with
  | str z =>
    cases (r1.mono (s2.trans s3)).str
    exact ⟨z, rfl, q3.1, cv _ _ _ _ _ q3.2 S3 (s1.trans (s2.trans s3)) (.str _)⟩
  | _ => exact q3.elim
end

/-! ### built-ins called -/
def lC (K : PySem.W.Frag) (k : List D → MS → DQ → Prop) : List V → Hp → VK → Prop := fun vs H Q => ∃ G M F ds, ∃ Q' : DQ, Wd K G M F H ∧ Rfs K G F vs ds ∧ k ds M Q' ∧ ConvR K G F Q' Q
def lCF (K : PySem.W.Frag) (k : List D → MS → (List D → MS → Prop) → Prop) : List V → Hp → VK → Prop := fun vs H Q => ∃ G M F ds, ∃ Q' : List D → MS → Prop, Wd K G M F H ∧ Rfs K G F vs ds ∧ k ds M Q' ∧
  ∀ ds M' p vs G' H', Q' ds M' → Wd K G' M' F H' → H' p = none → Drs K G' vs ds → Same G G' → Q (.ref p) (upd H' p (.lst vs))
def dCall (k : List D → MS → DQ → Prop) (t : DTA) : DTE := fun δ M Q => t δ M fun ds M1 => k ds M1 Q
def dfCall (k : List D → MS → (List D → MS → Prop) → Prop) (t : DTA) : List Slot → MS → (List D → MS → Prop) → Prop := fun δ M Q => t δ M fun ds M1 => k ds M1 Q
section
variable {X : Cx} {O : Hp → MS → Prop} {e a b c o : Expr} {es rest : List Expr} {t ta tb tc : DTE} {tr : DTA} {pos p : Pos} {x : Str} {k : List D → MS → DQ → Prop} {kf : List D → MS → (List D → MS → Prop) → Prop} {id T : String}
theorem lift_call {K : PySem.W.Frag} {σ : L2.St} {H : Hp} {Q : VK} (h : lE K O (dCall k tr) σ H Q) : tCB (lC K k) (lAb K O tr) σ H Q := by
  obtain ⟨G0, F0, G, M, F, δ, Q', xo, S, q, cv⟩ := h
  refine ⟨G0, F0, G, M, F, δ, _, xo, S, q, fun ds M1 vs G1 H1 q1 S1 s1 r1 => ?_⟩
  exact ⟨G1, M1, F, ds, Q', S1.wd, r1, q1, fun d' M' w G' H' q' W' s' r' => cv d' M' w G' H' q' (S1.upd W' s') (s1.trans s') r'⟩
theorem lift_callF {K : PySem.W.Frag} {σ : L2.St} {H : Hp} {Q : VK} (h : lF K O (dfCall kf tr) σ H Q) : tCB (lCF K kf) (lAb K O tr) σ H Q := by
  obtain ⟨G0, F0, G, M, F, δ, Q', xo, S, q, cv⟩ := h
  refine ⟨G0, F0, G, M, F, δ, _, xo, S, q, fun ds M1 vs G1 H1 q1 S1 s1 r1 => ?_⟩
  exact ⟨G1, M1, F, ds, Q', S1.wd, r1, q1, fun ds M' p vs G' H' q' W' hp r' s' => cv ds M' p vs G' H' q' (S1.upd W' s') hp r' (s1.trans s')⟩
theorem de_callB (hc : CallR X (.builtin id) (lC X.K k)) (hg : Gl X x) (hm : X.mg x = none) (hv : bootBuiltins x = some (.builtin id)) (ha : DAb X O (e :: es) tr) (hn : x ≠ "__name__" := by decide) (hdb : (x == ("__debug__" : Str)) = false := by decide)
    (he : starEach (e :: es) X.env = (false, eval e X.env) :: starEach es X.env := by rfl) (hpl : (backTo pos (starEach es X.env)).any (·.1) = false := by rfl) : DE X O (.Call (.Name x p) (e :: es) [] pos) (dCall k tr) :=
  ⟨(pe_callB hc hg hm hv ha.pa hn hdb he hpl).weak fun _ _ _ h => lift_call h⟩
theorem de_callTy (hc : CallR X (.type T) (lC X.K k)) (hg : Gl X x) (hm : X.mg x = none) (hv : bootBuiltins x = some (.type T)) (ha : DAb X O (e :: es) tr) (hn : x ≠ "__name__" := by decide) (hdb : (x == ("__debug__" : Str)) = false := by decide)
    (he : starEach (e :: es) X.env = (false, eval e X.env) :: starEach es X.env := by rfl) (hpl : (backTo pos (starEach es X.env)).any (·.1) = false := by rfl) : DE X O (.Call (.Name x p) (e :: es) [] pos) (dCall k tr) :=
  ⟨(pe_callTy hc hg hm hv ha.pa hn hdb he hpl).weak fun _ _ _ h => lift_call h⟩
theorem df_callB (hc : CallR X (.builtin id) (lCF X.K kf)) (hg : Gl X x) (hm : X.mg x = none) (hv : bootBuiltins x = some (.builtin id)) (ha : DAb X O (e :: es) tr) (hn : x ≠ "__name__" := by decide) (hdb : (x == ("__debug__" : Str)) = false := by decide)
    (he : starEach (e :: es) X.env = (false, eval e X.env) :: starEach es X.env := by rfl) (hpl : (backTo pos (starEach es X.env)).any (·.1) = false := by rfl) : DF X O (.Call (.Name x p) (e :: es) [] pos) (dfCall kf tr) :=
  ⟨(pe_callB hc hg hm hv ha.pa hn hdb he hpl).weak fun _ _ _ h => lift_callF h⟩
theorem df_callTy (hc : CallR X (.type T) (lCF X.K kf)) (hg : Gl X x) (hm : X.mg x = none) (hv : bootBuiltins x = some (.type T)) (ha : DAb X O (e :: es) tr) (hn : x ≠ "__name__" := by decide) (hdb : (x == ("__debug__" : Str)) = false := by decide)
    (he : starEach (e :: es) X.env = (false, eval e X.env) :: starEach es X.env := by rfl) (hpl : (backTo pos (starEach es X.env)).any (·.1) = false := by rfl) : DF X O (.Call (.Name x p) (e :: es) [] pos) (dfCall kf tr) :=
  ⟨(pe_callTy hc hg hm hv ha.pa hn hdb he hpl).weak fun _ _ _ h => lift_callF h⟩
end
def intsD : List D → Option (List Int)
  | [] => some []
  | .int i :: r => (intsD r).map (i :: ·)
  | _ => none
theorem intsD_iff : ∀ {ds : List D} {ns : List Int}, intsD ds = some ns → ds = ns.map D.int
  | [], ns, h => by cases h; rfl
  | .int i :: r, ns, h => by
    simp only [intsD, Option.map_eq_some_iff] at h
    obtain ⟨ms, h1, rfl⟩ := h
    rw [intsD_iff h1]; rfl
  | .non :: _, _, h => nomatch h
  | .bl _ :: _, _, h => nomatch h
  | .str _ :: _, _, h => nomatch h
  | .lst _ :: _, _, h => nomatch h
  | .tup _ :: _, _, h => nomatch h
  | .dic _ :: _, _, h => nomatch h
  | .ins _ _ :: _, _, h => nomatch h
  | .scr _ :: _, _, h => nomatch h
  | .raw _ :: _, _, h => nomatch h
theorem intsD_map : ∀ ns : List Int, intsD (ns.map D.int) = some ns
  | [] => rfl
  | n :: ns => by rw [List.map_cons]; simp only [intsD, intsD_map ns, Option.map_some]
def blsD : List D → Option (List Bool)
  | [] => some []
  | .bl i :: r => (blsD r).map (i :: ·)
  | _ => none
theorem blsD_iff : ∀ {ds : List D} {ns : List Bool}, blsD ds = some ns → ds = ns.map D.bl
  | [], ns, h => by cases h; rfl
  | .bl i :: r, ns, h => by
    simp only [blsD, Option.map_eq_some_iff] at h
    obtain ⟨ms, h1, rfl⟩ := h
    rw [blsD_iff h1]; rfl
  | .non :: _, _, h => nomatch h
  | .int _ :: _, _, h => nomatch h
  | .str _ :: _, _, h => nomatch h
  | .lst _ :: _, _, h => nomatch h
  | .tup _ :: _, _, h => nomatch h
  | .dic _ :: _, _, h => nomatch h
  | .ins _ _ :: _, _, h => nomatch h
  | .scr _ :: _, _, h => nomatch h
  | .raw _ :: _, _, h => nomatch h
theorem blsD_map : ∀ ns : List Bool, blsD (ns.map D.bl) = some ns
  | [] => rfl
  | n :: ns => by rw [List.map_cons]; simp only [blsD, blsD_map ns, Option.map_some]
def kLen (xs : List D) (M : MS) (Q : DQ) : Prop := match xs with
  | [.lst ds] => Q (.int (ds.length : Nat)) M
  | [.tup ds] => Q (.int (ds.length : Nat)) M
  | [.scr ns] => Q (.int (ns.length : Nat)) M
  | [.str z] => z.length ≤ sizeLine ∧ Q (.int (z.length : Nat)) M
  | [.raw (.ref p)] => ∃ ds, M p = some (.lst ds) ∧ Q (.int (ds.length : Nat)) M
  | _ => False
def kSum (xs : List D) (M : MS) (Q : DQ) : Prop := match xs with
  | [.lst ds] => ∃ ns, intsD ds = some ns ∧ Q (.int ns.sum) M
  | _ => False
def kAll (xs : List D) (M : MS) (Q : DQ) : Prop := match xs with
  | [.lst ds] => ∃ bs, blsD ds = some bs ∧ Q (.bl (bs.all id)) M
  | _ => False
def kAny (xs : List D) (M : MS) (Q : DQ) : Prop := match xs with
  | [.lst ds] => ∃ bs, blsD ds = some bs ∧ Q (.bl (bs.any id)) M
  | _ => False
def kMax (xs : List D) (M : MS) (Q : DQ) : Prop := match xs with
  | [.int i, .int j] => Q (.int (if j > i then j else i)) M
  | [.lst ds] => ∃ ns, intsD ds = some ns ∧ 0 < ns.length ∧ ∀ m, m ∈ ns → (∀ y, y ∈ ns → y ≤ m) → Q (.int m) M
  | _ => False
def kMin (xs : List D) (M : MS) (Q : DQ) : Prop := match xs with
  | [.int i, .int j] => Q (.int (if j < i then j else i)) M
  | [.lst ds] => ∃ ns, intsD ds = some ns ∧ 0 < ns.length ∧ ∀ m, m ∈ ns → (∀ y, y ∈ ns → m ≤ y) → Q (.int m) M
  | _ => False
def kAbs (xs : List D) (M : MS) (Q : DQ) : Prop := match xs with
  | [.int i] => Q (.int (if i < 0 then -i else i)) M
  | _ => False
def kInt (xs : List D) (M : MS) (Q : DQ) : Prop := match xs with
  | [.int i] => Q (.int i) M
  | [.bl k] => Q (.int (if k then 1 else 0)) M
  | [.str z] => ∃ n, PySem.intText? z = some n ∧ z.length ≤ 640 ∧ Q (.int n) M
  | _ => False
def kStr (xs : List D) (M : MS) (Q : DQ) : Prop := match xs with
  | [.int i] => i.natAbs.log2 < 1920 ∧ Q (.str (toString i)) M
  | _ => False
def kList (xs : List D) (M : MS) (Q : List D → MS → Prop) : Prop := match xs with
  | [.lst ds] => Q ds M
  | [.tup ds] => Q ds M
  | _ => False
def kSortedI (xs : List D) (M : MS) (Q : List D → MS → Prop) : Prop := match xs with
  | [.lst ds] => ∃ ns, intsD ds = some ns ∧ ∀ ms : List Int, ms.Perm ns → ms.Pairwise (· ≤ ·) → Q (ms.map .int) M
  | _ => False
section
variable {X : Cx} {O : Hp → MS → Prop} {K : PySem.W.Frag} {G : Hp} {F : MS} {vs : List V} {d e : D}
theorem Rfs.one (r : Rfs K G F vs [d]) : ∃ v, vs = [v] ∧ Rf K G F v d := by
  cases r with
  | cons h t => cases t; exact ⟨_, rfl, h⟩
theorem Rfs.two (r : Rfs K G F vs [d, e]) : ∃ v u, vs = [v, u] ∧ Rf K G F v d ∧ Rf K G F u e := by
  cases r with
  | cons h t => obtain ⟨u, rfl, h2⟩ := t.one; exact ⟨_, _, rfl, h, h2⟩
theorem c_len : CallR X (.builtin "len") (lC X.K kLen) := by
  intro pins s σ H xs us Q I rx ⟨G, M, F, ds, Q', W, rr, q, cv⟩
  unfold kLen at q
  split at q
  · obtain ⟨v, rfl, r⟩ := rr.one
    obtain ⟨p, vs, rfl, h1, h2⟩ := r.lst W
    refine call_len_seq pins s σ H _ us Q I rx ⟨p, vs, rfl, .inl (SqL.of h1), ?_⟩
    rw [h2.len]; exact cv.at_ W q (.int _)
  · obtain ⟨v, rfl, r⟩ := rr.one
    obtain ⟨p, vs, rfl, h1, _, h2⟩ := r.tup W
    refine call_len_seq pins s σ H _ us Q I rx ⟨p, vs, rfl, .inr h1, ?_⟩
    rw [h2.len]; exact cv.at_ W q (.int _)
  · obtain ⟨v, rfl, r⟩ := rr.one
    obtain ⟨p, rfl, h1⟩ := r.scr W
    refine call_len_seq pins s σ H _ us Q I rx ⟨p, _, rfl, .inl h1, ?_⟩
    rw [List.length_map]; exact cv.at_ W q (.int _)
  · obtain ⟨v, rfl, r⟩ := rr.one
    cases r.str
    exact call_len_str pins s σ H _ us Q I rx ⟨_, rfl, q.1, cv.at_ W q.2 (.int _)⟩
  · obtain ⟨v, rfl, r⟩ := rr.one
    cases r.raw
    obtain ⟨ds, h0, q⟩ := q
    obtain ⟨vs, h1, h2, _⟩ := W.lst_atM h0
    refine call_len_seq pins s σ H _ us Q I rx ⟨_, vs, rfl, .inl (SqL.of h1), ?_⟩
    rw [h2.len]; exact cv.at_ W q (.int _)
  · exact q.elim
theorem c_sum (hc : X.calm = true) : CallR X (.builtin "sum") (lC X.K kSum) := by
  intro pins s σ H xs us Q I rx ⟨G, M, F, ds, Q', W, rr, q, cv⟩
  unfold kSum at q
  split at q
  · obtain ⟨v, rfl, r⟩ := rr.one
    obtain ⟨ns, hn, q⟩ := q
    cases intsD_iff hn
    obtain ⟨p, vs, rfl, h1, h2⟩ := r.lst W
    cases h2.ints
    exact cr_sum hc pins s σ H _ us Q I rx ⟨p, ns, rfl, SqL.of h1, cv.at_ W q (.int _)⟩
  · exact q.elim
theorem c_all (hc : X.calm = true) : CallR X (.builtin "all") (lC X.K kAll) := by
  intro pins s σ H xs us Q I rx ⟨G, M, F, ds, Q', W, rr, q, cv⟩
  unfold kAll at q
  split at q
  · obtain ⟨v, rfl, r⟩ := rr.one
    obtain ⟨ns, hn, q⟩ := q
    cases blsD_iff hn
    obtain ⟨p, vs, rfl, h1, h2⟩ := r.lst W
    cases h2.bls
    exact cr_all hc pins s σ H _ us Q I rx ⟨p, ns, rfl, SqL.of h1, cv.at_ W q (.bl _)⟩
  · exact q.elim
theorem c_any (hc : X.calm = true) : CallR X (.builtin "any") (lC X.K kAny) := by
  intro pins s σ H xs us Q I rx ⟨G, M, F, ds, Q', W, rr, q, cv⟩
  unfold kAny at q
  split at q
  · obtain ⟨v, rfl, r⟩ := rr.one
    obtain ⟨ns, hn, q⟩ := q
    cases blsD_iff hn
    obtain ⟨p, vs, rfl, h1, h2⟩ := r.lst W
    cases h2.bls
    exact cr_any hc pins s σ H _ us Q I rx ⟨p, ns, rfl, SqL.of h1, cv.at_ W q (.bl _)⟩
  · exact q.elim
theorem c_max (hc : X.calm = true) : CallR X (.builtin "max") (lC X.K kMax) := by
  intro pins s σ H xs us Q I rx ⟨G, M, F, ds, Q', W, rr, q, cv⟩
  unfold kMax at q
  split at q
  · obtain ⟨v, u, rfl, r1, r2⟩ := rr.two
    cases r1.int; cases r2.int
    exact call_max2 hc pins s σ H _ us Q I rx ⟨_, _, rfl, cv.at_ W q (.int _)⟩
  · obtain ⟨v, rfl, r⟩ := rr.one
    obtain ⟨ns, hn, h0, q⟩ := q
    cases intsD_iff hn
    obtain ⟨p, vs, rfl, h1, h2⟩ := r.lst W
    cases h2.ints
    exact cr_max hc pins s σ H _ us Q I rx ⟨p, ns, rfl, SqL.of h1, h0, fun m h3 h4 => cv.at_ W (q m h3 h4) (.int _)⟩
  · exact q.elim
theorem c_min (hc : X.calm = true) : CallR X (.builtin "min") (lC X.K kMin) := by
  intro pins s σ H xs us Q I rx ⟨G, M, F, ds, Q', W, rr, q, cv⟩
  unfold kMin at q
  split at q
  · obtain ⟨v, u, rfl, r1, r2⟩ := rr.two
    cases r1.int; cases r2.int
    exact call_min2 hc pins s σ H _ us Q I rx ⟨_, _, rfl, cv.at_ W q (.int _)⟩
  · obtain ⟨v, rfl, r⟩ := rr.one
    obtain ⟨ns, hn, h0, q⟩ := q
    cases intsD_iff hn
    obtain ⟨p, vs, rfl, h1, h2⟩ := r.lst W
    cases h2.ints
    exact cr_min hc pins s σ H _ us Q I rx ⟨p, ns, rfl, SqL.of h1, h0, fun m h3 h4 => cv.at_ W (q m h3 h4) (.int _)⟩
  · exact q.elim
theorem c_abs : CallR X (.builtin "abs") (lC X.K kAbs) := by
  intro pins s σ H xs us Q I rx ⟨G, M, F, ds, Q', W, rr, q, cv⟩
  unfold kAbs at q
  split at q
  · obtain ⟨v, rfl, r⟩ := rr.one
    cases r.int
    exact call_abs pins s σ H _ us Q I rx ⟨_, rfl, cv.at_ W q (.int _)⟩
  · exact q.elim
theorem c_int : CallR X (.type "int") (lC X.K kInt) := by
  intro pins s σ H xs us Q I rx ⟨G, M, F, ds, Q', W, rr, q, cv⟩
  unfold kInt at q
  split at q
  · obtain ⟨v, rfl, r⟩ := rr.one
    cases r.int
    exact call_int1 pins s σ H _ us Q I rx (.inl ⟨_, rfl, cv.at_ W q (.int _)⟩)
  · obtain ⟨v, rfl, r⟩ := rr.one
    cases r.bl
    exact call_int1 pins s σ H _ us Q I rx (.inr ⟨_, rfl, cv.at_ W q (.int _)⟩)
  · obtain ⟨v, rfl, r⟩ := rr.one
    obtain ⟨n, h1, h2, q⟩ := q
    cases r.str
    exact call_int_str pins s σ H _ us Q I rx ⟨_, _, rfl, h1, h2, cv.at_ W q (.int _)⟩
  · exact q.elim
theorem c_str : CallR X (.type "str") (lC X.K kStr) := by
  intro pins s σ H xs us Q I rx ⟨G, M, F, ds, Q', W, rr, q, cv⟩
  unfold kStr at q
  split at q
  · obtain ⟨v, rfl, r⟩ := rr.one
    cases r.int
    exact call_str_int pins s σ H _ us Q I rx ⟨_, rfl, q.1, cv.at_ W q.2 (.str _)⟩
  · exact q.elim
theorem c_list : CallR X (.type "list") (lCF X.K kList) := by
  intro pins s σ H xs us Q I rx ⟨G, M, F, ds, Q', W, rr, q, cv⟩
  unfold kList at q
  split at q
  · obtain ⟨v, rfl, r⟩ := rr.one
    obtain ⟨p, vs, rfl, h1, h2⟩ := r.lst W
    exact call_list_of pins s σ H _ us Q I rx ⟨p, vs, rfl, .inl (SqL.of h1), fun l hl => cv _ _ _ _ _ _ q W hl h2 (Same.refl _)⟩
  · obtain ⟨v, rfl, r⟩ := rr.one
    obtain ⟨p, vs, rfl, h1, _, h2⟩ := r.tup W
    exact call_list_of pins s σ H _ us Q I rx ⟨p, vs, rfl, .inr h1, fun l hl => cv _ _ _ _ _ _ q W hl h2 (Same.refl _)⟩
  · exact q.elim
theorem c_sortedI : CallR X (.builtin "sorted") (lCF X.K kSortedI) := by
  intro pins s σ H xs us Q I rx ⟨G, M, F, ds, Q', W, rr, q, cv⟩
  unfold kSortedI at q
  split at q
  · obtain ⟨v, rfl, r⟩ := rr.one
    obtain ⟨ns, hn, q⟩ := q
    cases intsD_iff hn
    obtain ⟨p, vs, rfl, h1, h2⟩ := r.lst W
    cases h2.ints
    exact cr_sortedI pins s σ H _ us Q I rx ⟨p, ns, rfl, SqL.of h1, fun ms p hp h3 h4 => cv _ _ _ _ _ _ (q ms hp h3) W h4 (Drs.of_ints ms) (Same.refl _)⟩
  · exact q.elim
end
/-! ### isinstance of built-in classes -/
def isD (T : String) : D → Option Bool
  | .non => kitB "NoneType" T
  | .bl _ => kitB "bool" T
  | .int _ => kitB "int" T
  | .str _ => kitB "str" T
  | .lst _ => kitB "list" T
  | .tup _ => kitB "tuple" T
  | .dic _ => kitB "dict" T
  | .scr _ => kitB "list" T
  | _ => none
def kIsi (xs : List D) (M : MS) (Q : DQ) : Prop := match xs with
  | [x, .raw (.ty T)] => ∃ b, isD T x = some b ∧ Q (.bl b) M
  | _ => False
section
variable {X : Cx} {O : Hp → MS → Prop} {K : PySem.W.Frag} {G H : Hp} {M F : MS} {v : V} {d : D}
theorem ty_of {T : String} {b : Bool} (W : Wd K G M F H) (r : Rf K G F v d) (h : isD T d = some b) : ∃ t, TyX K H v (.type t) ∧ kitB t T = some b := by
  cases d with
  | non => cases r.non; exact ⟨_, .base .non, h⟩
  | bl k => cases r.bl; exact ⟨_, .base (.bl k), h⟩
  | int k => cases r.int; exact ⟨_, .base (.int k), h⟩
  | str k => cases r.str; exact ⟨_, .base (.str k), h⟩
  | lst ds =>
    obtain ⟨p, vs, rfl, h1, _⟩ := r.lst W
    exact ⟨_, .base (.lst h1), h⟩
  | tup ds =>
    obtain ⟨p, vs, rfl, h1, _, _⟩ := r.tup W
    rcases h1 with (h1 | ⟨o, h1⟩) | ⟨o, its, n, h1, h2, _⟩
    · exact ⟨_, .base (.tup h1), h⟩
    · exact ⟨_, .fTuple h1, h⟩
    · exact ⟨_, .kTuple h1 h2, h⟩
  | dic ds =>
    obtain ⟨p, vs, rfl, h1, _⟩ := r.dic W
    exact ⟨_, .base (.dK h1), h⟩
  | scr ns =>
    obtain ⟨p, rfl, h1⟩ := r.scr W
    rcases h1 with (h1 | ⟨o, h1⟩) | ⟨o, its, n, h1, h2, _⟩
    · exact ⟨_, .base (.lst h1), h⟩
    · exact ⟨_, .base (.frz h1), h⟩
    · exact ⟨_, .kList h1 h2, h⟩
  | ins C fs => cases h
  | raw u => cases h
theorem c_isi : CallR X (.builtin "isinstance") (lC X.K kIsi) := by
  intro pins s σ H xs us Q I rx ⟨G, M, F, ds, Q', W, rr, q, cv⟩
  unfold kIsi at q
  split at q
  · obtain ⟨v, u, rfl, r1, r2⟩ := rr.two
    cases r2.raw
    obtain ⟨b, hb, q⟩ := q
    obtain ⟨t, h1, h2⟩ := ty_of W r1 hb
    exact call_isi pins s σ H _ us Q I rx ⟨_, _, _, _, b, rfl, .ty _, h1, kit_ty h2, cv.at_ W q (.bl _)⟩
  · exact q.elim
end
end DL

/-! DL, part e: statements, targets, loops, comprehensions. -/
namespace DL
open PySem PySem.Spec PyProof.Rows L2

section
variable {K : PySem.W.Frag} {G0 G G' H H' : Hp} {F0 M M' F F' : MS} {a p : Addr} {o : HO} {σ : L2.St} {δ : List Slot} {v : V} {d : D}
/-- no own slot stands at a -/
def NoOwn (σ : L2.St) (δ : List Slot) (a : Addr) : Prop := ∀ (j : Nat) (t : Slot) (b : Addr), δ[j]? = some t → t.owned = true → σ[j]? = some (some (V.ref b)) → b ≠ a
theorem St.noOwn (S : St K G0 F0 G M F H σ δ) (hF : F a = none) : NoOwn σ δ a := fun j t b h1 h2 h3 q => by
  obtain ⟨b', c', e1, e2⟩ := S.sl.fat h1 h2
  rw [h3] at e1
  cases e1
  rw [q, hF] at e2
  cases e2
theorem St.f0none (S : St K G0 F0 G M F H σ δ) (hF : F a = none) : F0 a = none := by
  cases e : F0 a with
  | none => rfl
  | some c => rw [S.f0 a c e] at hF; cases hF
/-- the frame gets a cell that no slot has -/
theorem St.frame (S : St K G0 F0 G M F H σ δ) (hH : H a = none) {c : Cell} (hc : c.ok K G a (fun b => if b = a then some o else none)) : St K G0 F0 G M (updM F a c) (L2.upd H a o) σ δ := by
  have hF : F a = none := (S.wd.mfree hH).2
  have h0 := S.f0none hF
  have hn := S.noOwn hF
  refine ⟨S.wd.cellF hH hc, S.g0, fun p d hp => ?_, S.sl.len, S.sl.im, fun j ds h => ?_, fun j ds h => ?_, S.sl.inj⟩
  · have : p ≠ a := fun q => by rw [q, h0] at hp; cases hp
    rw [updM_ne this]
    exact S.f0 p d hp
  · obtain ⟨b, h1, h2, h3⟩ := S.sl.ow j ds h
    exact ⟨b, h1, by rw [updM_ne (hn j _ b h rfl h1)]; exact h2, h3⟩
  · obtain ⟨b, h1, h2, h3⟩ := S.sl.od j ds h
    exact ⟨b, h1, by rw [updM_ne (hn j _ b h rfl h1)]; exact h2, h3⟩
/-- such a cell is written -/
theorem St.setF (S : St K G0 F0 G M F H σ δ) (h0 : F0 a = none) (hn : NoOwn σ δ a) {c' : Cell} (W : Wd K G M (updM F a c') H') : St K G0 F0 G M (updM F a c') H' σ δ := by
  refine ⟨W, S.g0, fun p d hp => ?_, S.sl.len, S.sl.im, fun j ds h => ?_, fun j ds h => ?_, S.sl.inj⟩
  · have : p ≠ a := fun q => by rw [q, h0] at hp; cases hp
    rw [updM_ne this]
    exact S.f0 p d hp
  · obtain ⟨b, h1, h2, h3⟩ := S.sl.ow j ds h
    exact ⟨b, h1, by rw [updM_ne (hn j _ b h rfl h1)]; exact h2, h3⟩
  · obtain ⟨b, h1, h2, h3⟩ := S.sl.od j ds h
    exact ⟨b, h1, by rw [updM_ne (hn j _ b h rfl h1)]; exact h2, h3⟩
/-- a slot takes such a cell -/
theorem St.adopt (S : St K G0 F0 G M F H σ δ) {c : Cell} (hF : F a = some c) (h0 : F0 a = none) (hn : NoOwn σ δ a) (i : Nat) {s : Slot} (hs : (∃ ds, s = .ow ds ∧ c = .lst ds) ∨ ∃ ds, s = .od ds ∧ c = .dic ds) :
    St K G0 F0 G M F H (σ.set i (some (.ref a))) (δ.set i s) := by
  refine ⟨S.wd, S.g0, S.f0, by rw [List.length_set, List.length_set]; exact S.sl.len, fun j e h => ?_, fun j ds h => ?_, fun j ds h => ?_, fun j k s1 t b h1 h2 h3 h4 h5 h6 => ?_⟩
  · rcases set_some h with ⟨e1, e2, e3⟩ | ⟨e1, e2⟩
    · rcases hs with ⟨ds, q, _⟩ | ⟨ds, q, _⟩ <;> rw [q] at e2 <;> cases e2
    · rw [List.getElem?_set_ne e1]
      exact S.sl.im j e e2
  · rcases set_some h with ⟨e1, e2, e3⟩ | ⟨e1, e2⟩
    · subst e1
      rcases hs with ⟨ds', q, qc⟩ | ⟨ds', q, qc⟩
      · rw [q] at e2; cases e2
        exact ⟨a, by rw [List.getElem?_set_self (by rw [S.sl.len]; exact e3)], by rw [hF, qc], h0⟩
      · rw [q] at e2; cases e2
    · rw [List.getElem?_set_ne e1]
      exact S.sl.ow j ds e2
  · rcases set_some h with ⟨e1, e2, e3⟩ | ⟨e1, e2⟩
    · subst e1
      rcases hs with ⟨ds', q, qc⟩ | ⟨ds', q, qc⟩
      · rw [q] at e2; cases e2
      · rw [q] at e2; cases e2
        exact ⟨a, by rw [List.getElem?_set_self (by rw [S.sl.len]; exact e3)], by rw [hF, qc], h0⟩
    · rw [List.getElem?_set_ne e1]
      exact S.sl.od j ds e2
  · have at_i : ∀ {b' : Addr}, (σ.set i (some (V.ref a)))[i]? = some (some (V.ref b')) → b' = a := fun {b'} z => by
      rcases set_some z with ⟨_, e, _⟩ | ⟨e, _⟩
      · cases e; rfl
      · exact absurd rfl e
    rcases set_some h1 with ⟨e1, e2, e3⟩ | ⟨e1, e2⟩
    · rcases set_some h3 with ⟨f1, f2, f3⟩ | ⟨f1, f2⟩
      · rw [← e1, ← f1]
      · subst e1
        have := at_i h5
        subst this
        rw [List.getElem?_set_ne f1] at h6
        exact absurd rfl (hn k t _ f2 h4 h6)
    · rw [List.getElem?_set_ne e1] at h5
      rcases set_some h3 with ⟨f1, f2, f3⟩ | ⟨f1, f2⟩
      · subst f1
        have := at_i h6
        subst this
        exact absurd rfl (hn j s1 _ e2 h2 h5)
      · rw [List.getElem?_set_ne f1] at h6
        exact S.sl.inj j k s1 t b e2 h2 f2 h4 h5 h6
theorem updM_updM {M : MS} {p : Addr} {c c' : Cell} : updM (updM M p c) p c' = updM M p c' := by
  funext q
  by_cases h : q = p
  · rw [h, updM_same, updM_same]
  · rw [updM_ne h, updM_ne h, updM_ne h]
/-- a cell of the frame is forgotten, its object taken off -/
theorem St.unlay {c : Cell} (S : St K G0 F0 G M (updM F a c) H σ δ) (hM : ∀ {h}, c.ok K G a h → True) (hF : F a = none) (h0 : F0 a = none) (hn : NoOwn σ δ a) (hG : G a = none) : St K G0 F0 G M F (fun b => if b = a then none else H b) σ δ := by
  have mn : M a = none := S.wd.inM updM_same
  obtain ⟨ow, h1, h2⟩ := S.wd.rep.own
  have hj : ∀ p d, join M F p = some d → p ≠ a ∧ join M (updM F a c) p = some d := fun p d h => by
    have : p ≠ a := fun q => by rw [q, join_r mn, hF] at h; cases h
    refine ⟨this, ?_⟩
    unfold join at h ⊢
    rw [updM_ne this]
    exact h
  have oa : ow a = some a := by
    have t := Cell.top (h2 a c (by rw [join_r mn]; exact updM_same))
    unfold sub at t
    by_cases q : ow a = some a
    · exact q
    · rw [if_neg q] at t; exact absurd rfl t
  refine ⟨⟨⟨fun b x e => ?_, fun b => if ow b = some a then none else ow b, fun b p hb => ?_, fun p d hp => ?_⟩, fun p => ?_⟩, S.g0, fun p d hp => ?_, S.sl.len, S.sl.im, fun j ds h => ?_, fun j ds h => ?_, S.sl.inj⟩
  · have : b ≠ a := fun q => by rw [q, hG] at e; cases e
    rw [if_neg this]
    exact S.wd.rep.g _ _ e
  · by_cases z : ow b = some a
    · simp [z] at hb
    · have hb' : ow b = some p := by simpa [z] using hb
      obtain ⟨⟨d, hd⟩, g, x, hx⟩ := h1 b p hb'
      have hba : b ≠ a := fun q => z (by rw [q]; exact oa)
      have hpa : p ≠ a := fun q => z (by rw [hb', q])
      refine ⟨⟨d, ?_⟩, g, x, by rw [if_neg hba]; exact hx⟩
      unfold join at hd ⊢
      rw [updM_ne hpa] at hd
      exact hd
  · obtain ⟨hpa, hp'⟩ := hj p d hp
    have e : sub (fun b => if ow b = some a then none else ow b) p (fun b => if b = a then none else H b) = sub ow p H := by
      funext b
      unfold sub
      by_cases z : ow b = some a
      · have : ¬ ow b = some p := fun y => hpa (Option.some.inj (y.symm.trans z))
        simp [z, Ne.symm hpa]
      · have hba : b ≠ a := fun q => z (by rw [q]; exact oa)
        simp [z, hba]
    rw [e]
    exact h2 p d hp'
  · rcases S.wd.dj p with z | z
    · exact .inl z
    · refine .inr ?_
      by_cases hp : p = a
      · rw [hp]; exact hF
      · rw [updM_ne hp] at z; exact z
  · have := S.f0 p d hp
    have hpa : p ≠ a := fun q => by rw [q, h0] at hp; cases hp
    rw [updM_ne hpa] at this
    exact this
  · obtain ⟨b, h1, h2, h3⟩ := S.sl.ow j ds h
    rw [updM_ne (hn j _ b h rfl h1)] at h2
    exact ⟨b, h1, h2, h3⟩
  · obtain ⟨b, h1, h2, h3⟩ := S.sl.od j ds h
    rw [updM_ne (hn j _ b h rfl h1)] at h2
    exact ⟨b, h1, h2, h3⟩
/-- some slots are forgotten -/
def wipeD (δ : List Slot) : List Nat → List Slot
  | [] => δ
  | v :: vs => (wipeD δ vs).set v .no
theorem St.wipe1 (S : St K G0 F0 G M F H σ δ) (i : Nat) : St K G0 F0 G M F H (σ.set i none) (δ.set i .no) := by
  refine ⟨S.wd, S.g0, S.f0, by rw [List.length_set, List.length_set]; exact S.sl.len, fun j e h => ?_, fun j ds h => ?_, fun j ds h => ?_, fun j k s1 t b h1 h2 h3 h4 h5 h6 => ?_⟩
  · rcases set_some h with ⟨_, e2, _⟩ | ⟨e1, e2⟩
    · cases e2
    · rw [List.getElem?_set_ne e1]; exact S.sl.im j e e2
  · rcases set_some h with ⟨_, e2, _⟩ | ⟨e1, e2⟩
    · cases e2
    · rw [List.getElem?_set_ne e1]; exact S.sl.ow j ds e2
  · rcases set_some h with ⟨_, e2, _⟩ | ⟨e1, e2⟩
    · cases e2
    · rw [List.getElem?_set_ne e1]; exact S.sl.od j ds e2
  · rcases set_some h1 with ⟨_, e2, _⟩ | ⟨e1, e2⟩
    · subst e2; cases h2
    rcases set_some h3 with ⟨_, f2, _⟩ | ⟨f1, f2⟩
    · subst f2; cases h4
    rw [List.getElem?_set_ne e1] at h5
    rw [List.getElem?_set_ne f1] at h6
    exact S.sl.inj j k s1 t b e2 h2 f2 h4 h5 h6
theorem St.wipe (S : St K G0 F0 G M F H σ δ) : ∀ vs : List Nat, St K G0 F0 G M F H (wipe σ vs) (wipeD δ vs)
  | [] => S
  | v :: vs => (St.wipe S vs).wipe1 v
end

/-! ### statements -/
structure DEnds where
  nx : List Slot → MS → Prop
  rt : D → MS → Prop
  bk : List Slot → MS → Prop := fun _ _ => False
  ct : List Slot → MS → Prop := fun _ _ => False
abbrev DTS := DEnds → List Slot → MS → Prop
def To (K : PySem.W.Frag) (G0 : Hp) (F0 : MS) (P' : List Slot → MS → Prop) (P : L2.St → Hp → Prop) : Prop := ∀ σ' δ' G' M' F' H', St K G0 F0 G' M' F' H' σ' δ' → P' δ' M' → P σ' H'
structure CS (K : PySem.W.Frag) (G0 : Hp) (F0 : MS) (E' : DEnds) (E : Ends) : Prop where
  nx : To K G0 F0 E'.nx E.nx
  rt : ∀ v d G' M' H', Wd K G' M' F0 H' → Same G0 G' → Dr K G' v d → E'.rt d M' → E.rt v H'
  bk : To K G0 F0 E'.bk E.bk
  ct : To K G0 F0 E'.ct E.ct
def lS (K : PySem.W.Frag) (G0 : Hp) (F0 : MS) (t : DTS) : TS := fun E σ H => ∃ G M F δ, ∃ E' : DEnds, St K G0 F0 G M F H σ δ ∧ t E' δ M ∧ CS K G0 F0 E' E
structure DS (X : Cx) (O : Hp → MS → Prop) (st : Stmt) (t : DTS) : Prop where
  ps : ∀ G0 F0, O G0 F0 → PS X st (lS X.K G0 F0 t)
structure DSs (X : Cx) (O : Hp → MS → Prop) (st : List Stmt) (t : DTS) : Prop where
  ps : ∀ G0 F0, O G0 F0 → PSs X st (lS X.K G0 F0 t)
/-- what is allowed stays so where more is immutable -/
def Up (O : Hp → MS → Prop) : Prop := ∀ G G' F, Same G G' → O G F → O G' F

section
variable {X : Cx} {O : Hp → MS → Prop} {st : Stmt} {rest sts : List Stmt} {t u : DTS} {e a b c : Expr} {te ta tb : DTE} {tf : List Slot → MS → (List D → MS → Prop) → Prop} {tc : DTT} {pos : Pos}
def dNext : DTS := fun E δ M => E.nx δ M
def dSeq (t u : DTS) : DTS := fun E δ M => t { E with nx := u E } δ M
theorem dss_nil : DSs X O [] dNext := ⟨fun G0 F0 _ => pss_nil.weak fun E σ H ⟨G, M, F, δ, E', S, q, cv⟩ => cv.nx _ _ _ _ _ _ S q⟩
theorem dss_cons (h1 : DS X O st t) (h2 : DSs X O rest u) : DSs X O (st :: rest) (dSeq t u) := by
  refine ⟨fun G0 F0 ok => (pss_cons (h1.ps G0 F0 ok) (h2.ps G0 F0 ok)).weak fun E σ H ⟨G, M, F, δ, E', S, q, cv⟩ => ?_⟩
  exact ⟨G, M, F, δ, _, S, q, ⟨fun σ' δ' G' M' F' H' S' q' => ⟨G', M', F', δ', E', S', q', cv⟩, cv.rt, cv.bk, cv.ct⟩⟩
theorem dss_one (h1 : DS X O st t) : DSs X O [st] t := ⟨fun G0 F0 ok => pss_one (h1.ps G0 F0 ok)⟩
/-- the ways that a statement takes are joined -/
def dCut (t u : DTS) : DTS := fun E δ M => ∃ P : List Slot → MS → Prop, t { E with nx := P } δ M ∧ ∀ δ' M', P δ' M' → u E δ' M'
theorem dss_cut (h1 : DS X O st t) (h2 : DSs X O rest u) : DSs X O (st :: rest) (dCut t u) := by
  refine ⟨fun G0 F0 ok => (pss_cons (h1.ps G0 F0 ok) (h2.ps G0 F0 ok)).weak fun E σ H ⟨G, M, F, δ, E', S, ⟨P, q, k⟩, cv⟩ => ?_⟩
  exact ⟨G, M, F, δ, _, S, q, ⟨fun σ' δ' G' M' F' H' S' q' => ⟨G', M', F', δ', E', S', k _ _ q', cv⟩, cv.rt, cv.bk, cv.ct⟩⟩
/-- an own list becomes immutable ahead of what follows -/
def frz (δ : List Slot) (i : Nat) : List Slot := match δ[i]? with
  | some (.ow ds) => δ.set i (.im (.lst ds))
  | some (.od ds) => δ.set i (.im (.dic ds))
  | _ => δ
def dFrz (i : Nat) (t : DTS) : DTS := fun E δ M => t E (frz δ i) M
theorem St.frz {K : PySem.W.Frag} {G0 G H : Hp} {F0 M F : MS} {σ : L2.St} {δ : List Slot} (S : St K G0 F0 G M F H σ δ) (i : Nat) : ∃ G' F', St K G0 F0 G' M F' H σ (frz δ i) ∧ Same G G' := by
  unfold DL.frz
  split
  · rename_i ds h; exact S.frzL h
  · rename_i ds h; exact S.frzD h
  · exact ⟨G, F, S, Same.refl _⟩
theorem dss_frz (i : Nat) (h : DSs X O sts t) : DSs X O sts (dFrz i t) := by
  refine ⟨fun G0 F0 ok => (h.ps G0 F0 ok).weak fun E σ H ⟨G, M, F, δ, E', S, q, cv⟩ => ?_⟩
  obtain ⟨G', F', S', _⟩ := S.frz i
  exact ⟨G', M, F', _, E', S', q, cv⟩
theorem ds_pass : DS X O (.Pass pos) dNext := ⟨fun G0 F0 _ => ps_pass.weak fun E σ H ⟨G, M, F, δ, E', S, q, cv⟩ => cv.nx _ _ _ _ _ _ S q⟩
def dBreak : DTS := fun E δ M => E.bk δ M
def dCont : DTS := fun E δ M => E.ct δ M
theorem ds_break : DS X O (.Break pos) dBreak := ⟨fun G0 F0 _ => ps_break.weak fun E σ H ⟨G, M, F, δ, E', S, q, cv⟩ => cv.bk _ _ _ _ _ _ S q⟩
theorem ds_continue : DS X O (.Continue pos) dCont := ⟨fun G0 F0 _ => ps_continue.weak fun E σ H ⟨G, M, F, δ, E', S, q, cv⟩ => cv.ct _ _ _ _ _ _ S q⟩
def dNever : DTS := fun _ _ _ => False
theorem ds_never : DS X O st dNever := ⟨fun G0 F0 _ => ps_never.weak fun E σ H ⟨G, M, F, δ, E', S, q, cv⟩ => q⟩
theorem dss_never : DSs X O sts dNever := ⟨fun G0 F0 _ => pss_never.weak fun E σ H ⟨G, M, F, δ, E', S, q, cv⟩ => q⟩
def dDrop (te : DTE) : DTS := fun E δ M => te δ M fun _ M1 => E.nx δ M1
theorem ds_expr (he : DE X O e te) (hs : swapsWith e none pos.line X.env = pure false := by rfl) : DS X O (.Expr e pos) (dDrop te) := by
  refine ⟨fun G0 F0 ok => (ps_expr he.pe hs).weak fun E σ H ⟨G, M, F, δ, E', S, q, cv⟩ => ?_⟩
  exact ⟨G0, F0, G, M, F, δ, _, ok, S, q, fun d M' v G' H' q' S' s' r' => cv.nx _ _ _ _ _ _ S' q'⟩
def dRet (te : DTE) : DTS := fun E δ M => te δ M E.rt
theorem ds_ret (he : DE X O e te) : DS X O (.Return (some e) pos) (dRet te) := by
  refine ⟨fun G0 F0 ok => (ps_ret he.pe).weak fun E σ H ⟨G, M, F, δ, E', S, q, cv⟩ => ?_⟩
  exact ⟨G0, F0, G, M, F, δ, _, ok, S, q, fun d M' v G' H' q' S' s' r' => cv.rt _ _ _ _ _ (S'.wd.less S'.f0) S'.g0 r' q'⟩
def dRetN : DTS := fun E _ M => E.rt .non M
theorem ds_retN : DS X O (.Return none pos) dRetN := ⟨fun G0 F0 _ => ps_retN.weak fun E σ H ⟨G, M, F, δ, E', S, q, cv⟩ => cv.rt _ _ _ _ _ (S.wd.less S.f0) S.g0 .non q⟩
/-- return of a local: an own list is handed out -/
def dRetV (i : Nat) : DTS := fun E δ M => match δ[i]? with
  | some (.im d) => E.rt d M
  | some (.ow ds) => E.rt (.lst ds) M
  | some (.od ds) => E.rt (.dic ds) M
  | _ => False
theorem frz_get {δ : List Slot} {i : Nat} {ds : List D} (h : δ[i]? = some (.ow ds)) : (frz δ i)[i]? = some (.im (.lst ds)) := by
  unfold frz
  rw [h]
  exact List.getElem?_set_self (List.getElem?_eq_some_iff.mp h).1
theorem frz_getD {δ : List Slot} {i : Nat} {ds : List (Key × D)} (h : δ[i]? = some (.od ds)) : (frz δ i)[i]? = some (.im (.dic ds)) := by
  unfold frz
  rw [h]
  exact List.getElem?_set_self (List.getElem?_eq_some_iff.mp h).1
theorem ds_retV (i : Nat) {x : Str} {p2 : Pos} (hN : X.N[i]? = some x := by rfl) (hv : Vis X.env.scope x := by first | exact Or.inl rfl | exact Or.inr (Or.inl rfl) | exact Or.inr (Or.inr rfl)) (hd : (x == ("__debug__" : Str)) = false := by decide)
    (hcd : (x == ("__classdict__" : Str)) = false := by decide) : DS X O (.Return (some (.Name x p2)) pos) (dRetV i) := by
  refine ⟨fun G0 F0 ok => (ps_ret (pe_var hN hv hd hcd)).weak fun E σ H ⟨G, M, F, δ, E', S, q, cv⟩ => ?_⟩
  obtain ⟨G', F', S', sg⟩ := S.frz i
  unfold dRetV at q
  split at q
  · rename_i d hd
    obtain ⟨v, h1, h2⟩ := S.sl.im i d hd
    exact ⟨v, h1, cv.rt _ _ _ _ _ (S.wd.less S.f0) S.g0 h2 q⟩
  · rename_i ds hd
    obtain ⟨v, h1, h2⟩ := S'.sl.im i _ (frz_get hd)
    exact ⟨v, h1, cv.rt _ _ _ _ _ (S'.wd.less S'.f0) S'.g0 h2 q⟩
  · rename_i ds hd
    obtain ⟨v, h1, h2⟩ := S'.sl.im i _ (frz_getD hd)
    exact ⟨v, h1, cv.rt _ _ _ _ _ (S'.wd.less S'.f0) S'.g0 h2 q⟩
  · exact q.elim
def dIfS (c : DTT) (t u : DTS) : DTS := fun E δ M => c δ M fun b M1 => if b = true then t E δ M1 else u E δ M1
theorem ds_if {sa sb : List Stmt} (hc : DT X O c tc) (ha : DSs X O sa t) (hb : DSs X O sb u) : DS X O (.If c sa sb pos) (dIfS tc t u) := by
  refine ⟨fun G0 F0 ok => (ps_if hc.pt (ha.ps G0 F0 ok) (hb.ps G0 F0 ok)).weak fun E σ H ⟨G, M, F, δ, E', S, q, cv⟩ => ?_⟩
  refine ⟨G0, F0, G, M, F, δ, _, ok, S, q, fun r M1 G1 H1 q1 S1 s1 => ?_⟩
  cases r with
  | true => exact ⟨G1, M1, F, δ, E', S1, q1, cv⟩
  | false => exact ⟨G1, M1, F, δ, E', S1, q1, cv⟩

/-! ### targets -/
abbrev DTG := D → List Slot → MS → (List Slot → MS → Prop) → Prop
abbrev DTGs := List D → List Slot → MS → (List Slot → MS → Prop) → Prop
def lG (K : PySem.W.Frag) (O : Hp → MS → Prop) (is : List Nat) (g : DTG) : TG := fun v σ H Q => ∃ G0 F0 G M F δ d, ∃ Q' : List Slot → MS → Prop, O G0 F0 ∧ St K G0 F0 G M F H σ δ ∧ Dr K G v d ∧ g d δ M Q' ∧
  ∀ σ' δ' G' M' H', Q' δ' M' → St K G0 F0 G' M' F H' σ' δ' → Same G G' → σ'.length = σ.length → (∀ j, j ∉ is → σ'[j]? = σ[j]?) → Q σ' H'
def lGs (K : PySem.W.Frag) (O : Hp → MS → Prop) (is : List Nat) (g : DTGs) : TGs := fun vs σ H Q => ∃ G0 F0 G M F δ ds, ∃ Q' : List Slot → MS → Prop, O G0 F0 ∧ St K G0 F0 G M F H σ δ ∧ Drs K G vs ds ∧ g ds δ M Q' ∧
  ∀ σ' δ' G' M' H', Q' δ' M' → St K G0 F0 G' M' F H' σ' δ' → Same G G' → σ'.length = σ.length → (∀ j, j ∉ is → σ'[j]? = σ[j]?) → Q σ' H'
structure DG (X : Cx) (O : Hp → MS → Prop) (tg : Expr) (is : List Nat) (g : DTG) : Prop where
  pg : PG X tg (lG X.K O is g)
structure DGs (X : Cx) (O : Hp → MS → Prop) (tg : List Expr) (is : List Nat) (g : DTGs) : Prop where
  pg : PGs X tg (lGs X.K O is g)
theorem PG.weak {tg : Expr} {g g' : TG} (h : PG X tg g) (w : ∀ v σ H Q, g' v σ H Q → g v σ H Q) : PG X tg g' := ⟨fun pins s σ H v u Q I r q => h.run pins s σ H v u Q I r (w v σ H Q q)⟩
theorem PGs.weak {tg : List Expr} {g g' : TGs} (h : PGs X tg g) (w : ∀ v σ H Q, g' v σ H Q → g v σ H Q) : PGs X tg g' := ⟨fun pins s σ H v u Q I r q => h.run pins s σ H v u Q I r (w v σ H Q q)⟩
def dgName (i : Nat) : DTG := fun d δ M Q => Q (δ.set i (.im d)) M
def dgNil : DTGs := fun ds δ M Q => match ds with
  | [] => Q δ M
  | _ => False
def dgCons (g : DTG) (r : DTGs) : DTGs := fun ds δ M Q => match ds with
  | d :: es => g d δ M fun δ1 M1 => r es δ1 M1 Q
  | _ => False
def dgTup (n : Nat) (g : DTGs) : DTG := fun d δ M Q => match d with
  | .tup ds => ds.length = n ∧ g ds δ M Q
  | _ => False
theorem dg_name {i : Nat} {x : Str} (hN : X.N.Nodup) (hi : X.N[i]? = some x) (hx : Loc X.env.scope x) (hf : X.fn x = true ∨ X.env.scope.names.lookup x = some .local := by first | exact .inl rfl | exact .inr rfl | assumption) : DG X O (.Name x pos) [i] (dgName i) := by
  refine ⟨PG.weak (pg_name hN hi hx hf) fun v σ H Q ⟨G0, F0, G, M, F, δ, d, Q', xo, S, r, q, cv⟩ => ?_⟩
  refine cv _ _ _ _ _ q (S.set i r) (Same.refl _) (List.length_set ..) fun j hj => ?_
  exact List.getElem?_set_ne fun e => hj (by rw [e]; exact List.mem_singleton_self _)
theorem dgs_nil : DGs X O [] [] dgNil := by
  refine ⟨PGs.weak pgs_nil fun vs σ H Q ⟨G0, F0, G, M, F, δ, ds, Q', xo, S, r, q, cv⟩ => ?_⟩
  cases r with
  | nil => exact ⟨rfl, cv _ _ _ _ _ q S (Same.refl _) rfl fun _ _ => rfl⟩
  | cons _ _ => exact q.elim
theorem dgs_cons {es : List Expr} {is js : List Nat} {g : DTG} {r : DTGs} (h1 : DG X O e is g) (h2 : DGs X O es js r)
    (hs : (assignEach (e :: es) X.env).map (·.2) = assign e X.env :: (assignEach es X.env).map (·.2) := by rfl) : DGs X O (e :: es) (is ++ js) (dgCons g r) := by
  refine ⟨PGs.weak (pgs_cons h1.pg h2.pg hs) fun vs σ H Q ⟨G0, F0, G, M, F, δ, ds, Q', xo, S, rr, q, cv⟩ => ?_⟩
  cases rr with
  | nil => exact q.elim
  | cons r1 rt =>
    refine ⟨_, _, rfl, G0, F0, G, M, F, δ, _, _, xo, S, r1, q, fun σ1 δ1 G1 M1 H1 q1 S1 s1 l1 k1 => ?_⟩
    refine ⟨G0, F0, G1, M1, F, δ1, _, _, xo, S1, rt.mono s1, q1, fun σ2 δ2 G2 M2 H2 q2 S2 s2 l2 k2 => ?_⟩
    refine cv _ _ _ _ _ q2 S2 (s1.trans s2) (l2.trans l1) fun j hj => ?_
    rw [k2 j fun h => hj (List.mem_append_right _ h), k1 j fun h => hj (List.mem_append_left _ h)]
theorem dg_tup {es : List Expr} {k n : Nat} {is : List Nat} {g : DTGs} (hc : X.calm = true) (h : DGs X O es is g)
    (hn : (assignEach es X.env).length = n := by rfl) (hst : (assignEach es X.env).findIdx? (·.1) = none := by rfl) : DG X O (.Tuple es k pos) is (dgTup n g) := by
  refine ⟨PG.weak (pg_tup hc h.pg hn hst) fun v σ H Q ⟨G0, F0, G, M, F, δ, d, Q', xo, S, r, q, cv⟩ => ?_⟩
  cases d with
  | tup ds =>
    cases r with
    | tup h1 h2 => exact ⟨_, _, rfl, sqT_mono S.wd.rep.g h1, h2.len.trans q.1, G0, F0, G, M, F, δ, ds, Q', xo, S, h2, q.2, cv⟩
  | _ => exact q.elim
def dAsg (te : DTE) (g : DTG) : DTS := fun E δ M => te δ M fun d M1 => g d δ M1 E.nx
theorem ds_asg {tg : Expr} {is : List Nat} {g : DTG} (he : DE X O e te) (hg : DG X O tg is g) (hs : swapsWithSole [tg] e pos.line X.env = pure false := by rfl) (hw : swappedStores [tg] e X.env = pure none := by rfl)
    (h1 : (assignEach [tg] X.env).map (·.2) = [assign tg X.env] := by rfl) : DS X O (.Assign [tg] e pos) (dAsg te g) := by
  refine ⟨fun G0 F0 ok => (ps_asg he.pe hg.pg hs hw h1).weak fun E σ H ⟨G, M, F, δ, E', S, q, cv⟩ => ?_⟩
  refine ⟨G0, F0, G, M, F, δ, _, ok, S, q, fun d M1 v G1 H1 q1 S1 s1 r1 => ?_⟩
  exact ⟨G0, F0, G1, M1, F, δ, d, _, ok, S1, r1, q1, fun σ' δ' G' M' H' q' S' _ _ _ => cv.nx _ _ _ _ _ _ S' q'⟩
variable {i j : Nat} {x y : Str} {pos' : Pos}
def dSet (te : DTE) (i : Nat) : DTS := fun E δ M => te δ M fun d M1 => E.nx (δ.set i (.im d)) M1
theorem ds_set (hN : X.N.Nodup) (hi : X.N[i]? = some x) (hx : Loc X.env.scope x) (he : DE X O e te) (hs : swapsWith e (some (.Name x pos')) pos.line X.env = pure false := by rfl) (hf : X.fn x = true ∨ X.env.scope.names.lookup x = some .local := by first | exact .inl rfl | exact .inr rfl | assumption) :
    DS X O (.Assign [.Name x pos'] e pos) (dSet te i) := by
  refine ⟨fun G0 F0 ok => (ps_set hN hi hx he.pe hs hf).weak fun E σ H ⟨G, M, F, δ, E', S, q, cv⟩ => ?_⟩
  exact ⟨G0, F0, G, M, F, δ, _, ok, S, q, fun d M1 v G1 H1 q1 S1 s1 r1 => cv.nx _ _ _ _ _ _ (S1.set i r1) q1⟩
/-- x = a new list, x's own -/
def dOwn (tf : List Slot → MS → (List D → MS → Prop) → Prop) (i : Nat) : DTS := fun E δ M => tf δ M fun ds M1 => E.nx (δ.set i (.ow ds)) M1
theorem ds_own (hN : X.N.Nodup) (hi : X.N[i]? = some x) (hx : Loc X.env.scope x) (he : DF X O e tf) (hs : swapsWith e (some (.Name x pos')) pos.line X.env = pure false := by rfl) (hf : X.fn x = true ∨ X.env.scope.names.lookup x = some .local := by first | exact .inl rfl | exact .inr rfl | assumption) :
    DS X O (.Assign [.Name x pos'] e pos) (dOwn tf i) := by
  refine ⟨fun G0 F0 ok => (ps_set hN hi hx he.pe hs hf).weak fun E σ H ⟨G, M, F, δ, E', S, q, cv⟩ => ?_⟩
  exact ⟨G0, F0, G, M, F, δ, _, ok, S, q, fun ds M1 p vs G1 H1 q1 S1 hp r1 s1 => cv.nx _ _ _ _ _ _ (S1.setNew hp (c := .lst ds) ⟨vs, if_pos rfl, r1⟩ i (.inl ⟨ds, rfl, rfl⟩)) q1⟩
/-- x = {} -/
def dOwnD (i : Nat) : DTS := fun E δ M => E.nx (δ.set i (.od [])) M
theorem ds_ownD {p3 : Pos} (hN : X.N.Nodup) (hi : X.N[i]? = some x) (hx : Loc X.env.scope x) (hs : swapsWith (.Dict [] [] p3) (some (.Name x pos')) pos.line X.env = pure false := by rfl) (hf : X.fn x = true ∨ X.env.scope.names.lookup x = some .local := by first | exact .inl rfl | exact .inr rfl | assumption) :
    DS X O (.Assign [.Name x pos'] (.Dict [] [] p3) pos) (dOwnD i) := by
  refine ⟨fun G0 F0 ok => (ps_set hN hi hx pe_dnewK hs hf).weak fun E σ H ⟨G, M, F, δ, E', S, q, cv⟩ => ?_⟩
  intro p hp
  exact cv.nx _ _ _ _ _ _ (S.setNew hp (c := .dic []) ⟨[], if_pos rfl, .nil⟩ i (.inr ⟨[], rfl, rfl⟩)) q
/-- x, y = e1, e2: the first a new list that becomes x's own -/
def dParOI (tf : List Slot → MS → (List D → MS → Prop) → Prop) (te : DTE) (i j : Nat) : DTS := fun E δ M => tf δ M fun ds M1 => te δ M1 fun d M2 => E.nx ((δ.set i (.ow ds)).set j (.im d)) M2
theorem ds_parOI {px py pt : Pos} {kt k2 pt2} (hc : X.calm = true) (hN : X.N.Nodup) (hi : X.N[i]? = some x) (hj : X.N[j]? = some y) (hij : i ≠ j)
    (hx : X.env.scope.names.lookup x = some .local) (hy : X.env.scope.names.lookup y = some .local) (ha : DF X O a tf) (hb : DE X O b te)
    (hw : swappedStores [.Tuple [.Name x px, .Name y py] kt pt] (.Tuple [a, b] k2 pt2) X.env = pure (some [x, y]) := by rfl)
    (hs : swapsWithSole [.Tuple [.Name x px, .Name y py] kt pt] (.Tuple [a, b] k2 pt2) pos.line X.env = pure false := by rfl)
    (hs1 : starEach (a :: [b]) X.env = (false, eval a X.env) :: starEach [b] X.env := by rfl) (hs2 : starEach (b :: []) X.env = (false, eval b X.env) :: starEach [] X.env := by rfl) :
    DS X O (.Assign [.Tuple [.Name x px, .Name y py] kt pt] (.Tuple [a, b] k2 pt2) pos) (dParOI tf te i j) := by
  refine ⟨fun G0 F0 ok => (ps_par hc hN hi hj hij hx hy (pa_cons ha.pe (pa_cons hb.pe pa_nil hs2) hs1) hw hs).weak fun E σ H ⟨G, M, F, δ, E', S, q, cv⟩ => ?_⟩
  refine ⟨G0, F0, G, M, F, δ, _, ok, S, q, fun ds M1 p vs G1 H1 q1 S1 hp r1 s1 => ?_⟩
  have fp := (S1.wd.mfree hp).2
  have f0p := S1.f0none fp
  have S2 := S1.frame hp (c := .lst ds) (o := .lst vs) ⟨vs, if_pos rfl, r1⟩
  refine ⟨G0, F0, G1, M1, updM F p (.lst ds), δ, _, ok, S2, q1, fun d M2 v G2 H2 q2 S3 s2 r2 => ?_⟩
  refine ⟨_, _, rfl, cv.nx _ _ _ _ _ _ ((S3.adopt updM_same f0p (S1.noOwn fp) i (.inl ⟨ds, rfl, rfl⟩)).set j r2) q2⟩
def dParII (ta tb : DTE) (i j : Nat) : DTS := fun E δ M => ta δ M fun d M1 => tb δ M1 fun e M2 => E.nx ((δ.set i (.im d)).set j (.im e)) M2
theorem ds_parII {px py pt : Pos} {kt k2 pt2} (hc : X.calm = true) (hN : X.N.Nodup) (hi : X.N[i]? = some x) (hj : X.N[j]? = some y) (hij : i ≠ j)
    (hx : X.env.scope.names.lookup x = some .local) (hy : X.env.scope.names.lookup y = some .local) (ha : DE X O a ta) (hb : DE X O b tb)
    (hw : swappedStores [.Tuple [.Name x px, .Name y py] kt pt] (.Tuple [a, b] k2 pt2) X.env = pure (some [x, y]) := by rfl)
    (hs : swapsWithSole [.Tuple [.Name x px, .Name y py] kt pt] (.Tuple [a, b] k2 pt2) pos.line X.env = pure false := by rfl)
    (hs1 : starEach (a :: [b]) X.env = (false, eval a X.env) :: starEach [b] X.env := by rfl) (hs2 : starEach (b :: []) X.env = (false, eval b X.env) :: starEach [] X.env := by rfl) :
    DS X O (.Assign [.Tuple [.Name x px, .Name y py] kt pt] (.Tuple [a, b] k2 pt2) pos) (dParII ta tb i j) := by
  refine ⟨fun G0 F0 ok => (ps_par hc hN hi hj hij hx hy (pa_cons ha.pe (pa_cons hb.pe pa_nil hs2) hs1) hw hs).weak fun E σ H ⟨G, M, F, δ, E', S, q, cv⟩ => ?_⟩
  refine ⟨G0, F0, G, M, F, δ, _, ok, S, q, fun d M1 v G1 H1 q1 S1 s1 r1 => ?_⟩
  refine ⟨G0, F0, G1, M1, F, δ, _, ok, S1, q1, fun e M2 u G2 H2 q2 S2 s2 r2 => ?_⟩
  exact ⟨_, _, rfl, cv.nx _ _ _ _ _ _ ((S2.set i (r1.mono s2)).set j r2) q2⟩
/-- x += e, x -= e of ints -/
def dAug (f : Int → Int → Int) (i : Nat) (te : DTE) : DTS := fun E δ M => match δ[i]? with
  | some (.im (.int n)) => te δ M fun d M1 => match d with
    | .int m => E.nx (δ.set i (.im (.int (f n m)))) M1
    | _ => False
  | _ => False
theorem ds_aug {op : Operator} {f : Int → Int → Int} (ho : PIp X op (ipI f)) (hN : X.N.Nodup) (hi : X.N[i]? = some x) (hx : Loc X.env.scope x) (he : DE X O e te) (hf : X.fn x = true ∨ X.env.scope.names.lookup x = some .local := by first | exact .inl rfl | exact .inr rfl | assumption) :
    DS X O (.AugAssign (.Name x pos') op e pos) (dAug f i te) := by
  refine ⟨fun G0 F0 ok => (ps_aug hN hi hx he.pe ho hf).weak fun E σ H ⟨G, M, F, δ, E', S, q, cv⟩ => ?_⟩
  unfold dAug at q
  split at q
  · rename_i n hn
    obtain ⟨v, h1, h2⟩ := S.sl.im i _ hn
    cases h2
    refine ⟨_, h1, G0, F0, G, M, F, δ, _, ok, S, q, fun d M1 v G1 H1 q1 S1 s1 r1 => ?_⟩
    cases d with
    | int m => cases r1; exact ⟨n, m, rfl, rfl, cv.nx _ _ _ _ _ _ (S1.set i (.int _)) q1⟩
    | _ => exact q1.elim
  · exact q.elim
/-- x.append(e), x's own list -/
def dApp (i : Nat) (te : DTE) : DTS := fun E δ M => match δ[i]? with
  | some (.ow ds) => te δ M fun d M1 => ds.length < sizeLine ∧ E.nx (δ.set i (.ow (ds ++ [d]))) M1
  | _ => False
theorem ds_app {apos cpos : Pos} {p1 : Pos} (i : Nat) (he : DE X O e te) (hN : X.N[i]? = some x := by rfl) (hv : Vis X.env.scope x := by first | exact Or.inl rfl | exact Or.inr (Or.inl rfl) | exact Or.inr (Or.inr rfl)) (hd : (x == ("__debug__" : Str)) = false := by decide)
    (hcd : (x == ("__classdict__" : Str)) = false := by decide)
    (hbase : attributeBase (.Name x p1) "append" X.env (eval (.Name x p1) X.env) = eval (.Name x p1) X.env := by rfl)
    (hfew : ((backTo cpos (starEach (e :: []) X.env)).all (fun x => !x.1) && (backToKw cpos (keywordEach [] X.env)).all (fun x => x.1.isSome)
      && decide ((e :: []).length + ([] : List Keyword).length + (if ([] : List Keyword).isEmpty then 0 else 1) < 30)) = true := by rfl)
    (hline : (apos.endLine == cpos.line) = true := by rfl) (hs : starEach (e :: []) X.env = (false, eval e X.env) :: starEach [] X.env := by rfl) (hplain : (backTo cpos (starEach [] X.env)).any (·.1) = false := by rfl)
    (hsw : swapsWith (.Call (.Attribute (.Name x p1) "append" apos) [e] [] cpos) none pos.line X.env = pure false := by rfl) :
    DS X O (.Expr (.Call (.Attribute (.Name x p1) "append" apos) [e] [] cpos) pos) (dApp i te) := by
  refine ⟨fun G0 F0 ok => (ps_expr (pe_bm PySem.F.plainAttrs_list PySem.F.slot_list_append PySem.F.type_list_append mt_append (pe_var hN hv hd hcd) (pa_cons he.pe pa_nil hs) hbase hfew hline hs hplain) hsw).weak fun E σ H ⟨G, M, F, δ, E', S, q, cv⟩ => ?_⟩
  unfold dApp at q
  split at q
  · rename_i ds hδ
    obtain ⟨p, h1, hF, h0⟩ := S.sl.ow i ds hδ
    obtain ⟨vs, hH, _, _⟩ := S.wd.lst_at hF
    refine ⟨_, h1, .inl ⟨rfl, vs, SqL.of hH⟩, G0, F0, G, M, F, δ, _, ok, S, q, fun d M1 v G1 H1 q1 S1 s1 r1 => ?_⟩
    obtain ⟨vs1, hH1, hr1, _⟩ := S1.wd.lst_at hF
    refine ⟨p, vs1, v, rfl, rfl, hH1, by rw [hr1.len]; exact q1.1, ?_⟩
    exact cv.nx _ _ _ _ _ _ (S1.put hδ rfl h1 h0 (S1.wd.setLF hF (hr1.app (.cons r1 .nil))) (.inl ⟨_, rfl, rfl⟩)) q1.2
  · exact q.elim
/-- x[k] = e, x's own list -/
def dPutL (i : Nat) (tk te : DTE) : DTS := fun E δ M => match δ[i]? with
  | some (.ow ds) => te δ M fun d M1 => tk δ M1 fun k M2 => ∃ z j, k = .int z ∧ ixN ds.length z = some j ∧ E.nx (δ.set i (.ow (ds.set j d))) M2
  | _ => False
theorem ds_putL {p1 p2 : Pos} {tk : DTE} (i : Nat) (hk : DE X O c tk) (he : DE X O e te) (hN : X.N[i]? = some x := by rfl) (hv : Vis X.env.scope x := by first | exact Or.inl rfl | exact Or.inr (Or.inl rfl) | exact Or.inr (Or.inr rfl)) (hd : (x == ("__debug__" : Str)) = false := by decide)
    (hcd : (x == ("__classdict__" : Str)) = false := by decide)
    (ha : ∀ v, assign (.Subscript (.Name x p1) c p2) X.env v = (do
      let ov ← holding [v] (eval (.Name x p1) X.env)
      let iv ← holding [v, ov] (eval c X.env)
      standAt p2
      holding [v, ov, iv] (setItem ov iv v)
      release [v, ov, iv] []) := by intro _; rfl)
    (hs : swapsWithSole [.Subscript (.Name x p1) c p2] e pos.line X.env = pure false := by rfl) (hw : swappedStores [.Subscript (.Name x p1) c p2] e X.env = pure none := by rfl)
    (h1 : (assignEach [.Subscript (.Name x p1) c p2] X.env).map (·.2) = [assign (.Subscript (.Name x p1) c p2) X.env] := by rfl) :
    DS X O (.Assign [.Subscript (.Name x p1) c p2] e pos) (dPutL i tk te) := by
  refine ⟨fun G0 F0 ok => (ps_asg he.pe (pg_sub (pe_var hN hv hd hcd) hk.pe set_list ha) hs hw h1).weak fun E σ H ⟨G, M, F, δ, E', S, q, cv⟩ => ?_⟩
  unfold dPutL at q
  split at q
  · rename_i ds hδ
    obtain ⟨p, h1, hF, h0⟩ := S.sl.ow i ds hδ
    refine ⟨G0, F0, G, M, F, δ, _, ok, S, q, fun d M1 v G1 H1 q1 S1 s1 r1 => ?_⟩
    refine ⟨_, h1, G0, F0, G1, M1, F, δ, _, ok, S1, q1, fun k M2 u G2 H2 q2 S2 s2 r2 => ?_⟩
    obtain ⟨z, j, rfl, hj, q2⟩ := q2
    cases r2
    obtain ⟨vs, hH, hr, _⟩ := S2.wd.lst_at hF
    refine ⟨p, vs, z, j, rfl, rfl, hH, by rw [hr.len]; exact hj, ?_⟩
    exact cv.nx _ _ _ _ _ _ (S2.put hδ rfl h1 h0 (S2.wd.setLF hF (hr.set (r1.mono s2) j)) (.inl ⟨_, rfl, rfl⟩)) q2
  · exact q.elim
end
end DL

/-! DL, part f: what is walked, for, while, list comprehensions. -/
namespace DL
open PySem PySem.Spec PyProof.Rows L2

/-- J yields the items ds, as long as what G1 says stands -/
structure Walk (K : PySem.W.Frag) (J : It) (G1 : Hp) (ds : List D) : Prop where
  go : ∀ (i : Nat) (G0 : Hp) (F0 : MS) (σ : L2.St) (δ : List Slot) (G : Hp) (M F : MS) (H : Hp), Same G1 G → St K G0 F0 G M F H σ δ → i < ds.length → J.go i H
  yld : ∀ (i : Nat) (G0 : Hp) (F0 : MS) (σ : L2.St) (δ : List Slot) (G : Hp) (M F : MS) (H : Hp) (x : V) (H' : Hp) (d : D), Same G1 G → St K G0 F0 G M F H σ δ → ds[i]? = some d → J.yld i H x H' → ∃ G', St K G0 F0 G' M F H' σ δ ∧ Same G G' ∧ Dr K G' x d
  stop : ∀ (i : Nat) (G0 : Hp) (F0 : MS) (σ : L2.St) (δ : List Slot) (G : Hp) (M F : MS) (H : Hp), Same G1 G → St K G0 F0 G M F H σ δ → ds.length ≤ i → J.stop i H
abbrev DTI := List Slot → MS → (List D → MS → Prop) → Prop
def lI (K : PySem.W.Frag) (O : Hp → MS → Prop) (t : DTI) : TI := fun σ H R => ∃ G0 F0 G M F δ, ∃ R' : List D → MS → Prop, O G0 F0 ∧ St K G0 F0 G M F H σ δ ∧ t δ M R' ∧ ∀ ds M' J G' H', R' ds M' → St K G0 F0 G' M' F H' σ δ → Same G G' → Walk K J G' ds → R J H'
structure DI (X : Cx) (O : Hp → MS → Prop) (tg iter : Expr) (t : DTI) : Prop where
  pi : PI X tg iter (lI X.K O t)
theorem _root_.L2.PI.weak {X : Cx} {tg iter : Expr} {t t' : TI} (h : PI X tg iter t) (w : ∀ σ H Q, t' σ H Q → t σ H Q) : PI X tg iter t' := ⟨fun pins s σ H R I q => h.run pins s σ H R I (w σ H R q)⟩

theorem getElem?_of_lt {α : Type} {l : List α} {i : Nat} (h : i < l.length) : ∃ x, l[i]? = some x := ⟨l[i], List.getElem?_eq_getElem h⟩
theorem walk_list {K : PySem.W.Frag} {G1 : Hp} {a : Addr} {vs : List V} {ds : List D} (h1 : G1 a = some (.lst vs)) (h2 : Drs K G1 vs ds) : Walk K (Itl K a) G1 ds where
  go := fun i G0 F0 σ δ G M F H e S hi => by
    obtain ⟨x, hx⟩ := getElem?_of_lt (l := vs) (i := i) (by rw [h2.len]; exact hi)
    exact ⟨vs, x, SqL.of (S.wd.rep.g _ _ (e _ _ h1)), hx⟩
  yld := fun i G0 F0 σ δ G M F H x H' d e S hd hy => by
    obtain ⟨rfl, hy⟩ := hy
    obtain ⟨v, h3, h4⟩ := h2.get hd
    have := hy vs (SqL.of (S.wd.rep.g _ _ (e _ _ h1)))
    rw [h3] at this
    cases this
    exact ⟨G, S, Same.refl _, h4.mono e⟩
  stop := fun i G0 F0 σ δ G M F H e S hi => ⟨vs, SqL.of (S.wd.rep.g _ _ (e _ _ h1)), by rw [h2.len]; exact hi⟩
theorem walk_tup {K : PySem.W.Frag} {G1 : Hp} {a : Addr} {vs : List V} {ds : List D} (h1 : SqT K G1 a vs) (h2 : Drs K G1 vs ds) : Walk K (Itt K a) G1 ds where
  go := fun i G0 F0 σ δ G M F H e S hi => by
    obtain ⟨x, hx⟩ := getElem?_of_lt (l := vs) (i := i) (by rw [h2.len]; exact hi)
    exact ⟨vs, x, sqT_mono (e.trans S.wd.rep.g) h1, hx⟩
  yld := fun i G0 F0 σ δ G M F H x H' d e S hd hy => by
    obtain ⟨rfl, hy⟩ := hy
    obtain ⟨v, h3, h4⟩ := h2.get hd
    have := hy vs (sqT_mono (e.trans S.wd.rep.g) h1)
    rw [h3] at this
    cases this
    exact ⟨G, S, Same.refl _, h4.mono e⟩
  stop := fun i G0 F0 σ δ G M F H e S hi => ⟨vs, sqT_mono (e.trans S.wd.rep.g) h1, by rw [h2.len]; exact hi⟩
def rangeD (lo : Int) (n : Nat) : List D := (List.range n).map fun (i : Nat) => D.int (lo + (i : Nat))
theorem rangeD_length {lo : Int} {n : Nat} : (rangeD lo n).length = n := by unfold rangeD; rw [List.length_map, List.length_range]
theorem rangeD_get {lo : Int} {n i : Nat} {d : D} (h : (rangeD lo n)[i]? = some d) : d = .int (lo + (i : Nat)) ∧ i < n := by
  have hi : i < n := by rw [← rangeD_length (lo := lo) (n := n)]; exact (List.getElem?_eq_some_iff.mp h).1
  unfold rangeD at h
  rw [List.getElem?_map, List.getElem?_range hi] at h
  exact ⟨(Option.some.inj h).symm, hi⟩
theorem walk_range {K : PySem.W.Frag} {G1 : Hp} (lo : Int) (n : Nat) : Walk K (Itr lo n) G1 (rangeD lo n) where
  go := fun i G0 F0 σ δ G M F H e S hi => by rw [rangeD_length] at hi; exact hi
  yld := fun i G0 F0 σ δ G M F H x H' d e S hd hy => by
    obtain ⟨rfl, rfl⟩ := hy
    obtain ⟨rfl, _⟩ := rangeD_get hd
    exact ⟨G, S, Same.refl _, .int _⟩
  stop := fun i G0 F0 σ δ G M F H e S hi => by rw [rangeD_length] at hi; exact hi
def rangeC (lo c : Int) (n : Nat) : List D := (List.range n).map fun (i : Nat) => D.int (lo + (i : Nat) * c)
theorem rangeC_length {lo c : Int} {n : Nat} : (rangeC lo c n).length = n := by unfold rangeC; rw [List.length_map, List.length_range]
theorem rangeC_get {lo c : Int} {n i : Nat} {d : D} (h : (rangeC lo c n)[i]? = some d) : d = .int (lo + (i : Nat) * c) ∧ i < n := by
  have hi : i < n := by rw [← rangeC_length (lo := lo) (c := c) (n := n)]; exact (List.getElem?_eq_some_iff.mp h).1
  unfold rangeC at h
  rw [List.getElem?_map, List.getElem?_range hi] at h
  exact ⟨(Option.some.inj h).symm, hi⟩
theorem walk_rangeC {K : PySem.W.Frag} {G1 : Hp} (lo c : Int) (n : Nat) : Walk K (Itc lo c n) G1 (rangeC lo c n) where
  go := fun i G0 F0 σ δ G M F H e S hi => by rw [rangeC_length] at hi; exact hi
  yld := fun i G0 F0 σ δ G M F H x H' d e S hd hy => by
    obtain ⟨rfl, rfl⟩ := hy
    obtain ⟨rfl, _⟩ := rangeC_get hd
    exact ⟨G, S, Same.refl _, .int _⟩
  stop := fun i G0 F0 σ δ G M F H e S hi => by rw [rangeC_length] at hi; exact hi
def signsD (z : Str) : List D := z.cps.toList.map fun c => D.str ⟨#[c]⟩
theorem walk_str {K : PySem.W.Frag} {G1 : Hp} (z : Str) : Walk K (Its z) G1 (signsD z) where
  go := fun i G0 F0 σ δ G M F H e S hi => by
    have : (signsD z).length = z.cps.size := by simp [signsD]
    rw [this] at hi
    exact hi
  yld := fun i G0 F0 σ δ G M F H x H' d e S hd hy => by
    obtain ⟨rfl, c, hc, rfl⟩ := hy
    unfold signsD at hd
    rw [List.getElem?_map, Array.getElem?_toList, hc] at hd
    cases hd
    exact ⟨G, S, Same.refl _, .str _⟩
  stop := fun i G0 F0 σ δ G M F H e S hi => by
    have : (signsD z).length = z.cps.size := by simp [signsD]
    rw [this] at hi
    exact hi
/-- a new tuple, at a turn -/
theorem St.newT {K : PySem.W.Frag} {G0 G H : Hp} {F0 M F : MS} {σ : L2.St} {δ : List Slot} {T : Addr} {vs : List V} {ds : List D} (S : St K G0 F0 G M F H σ δ) (hT : H T = none) (r : Drs K G vs ds) :
    ∃ G', St K G0 F0 G' M F (L2.upd H T (.tup vs)) σ δ ∧ Same G G' ∧ Dr K G' (.ref T) (.tup ds) := by
  have sa : Same G (L2.upd G T (.tup vs)) := same_upd (S.wd.gfree hT)
  exact ⟨_, S.upd (S.wd.imm hT) sa, sa, .tup (SqT.of upd_same) (r.mono sa)⟩
def zipD (xs ys : List D) : List D := (xs.zip ys).map fun p => D.tup [p.1, p.2]
theorem zipD_get {xs ys : List D} {i : Nat} {d : D} (h : (zipD xs ys)[i]? = some d) : ∃ x y, xs[i]? = some x ∧ ys[i]? = some y ∧ d = .tup [x, y] := by
  unfold zipD at h
  rw [List.getElem?_map] at h
  cases e : (xs.zip ys)[i]? with
  | none => rw [e] at h; cases h
  | some p =>
    rw [e] at h
    obtain ⟨h1, h2⟩ := List.getElem?_zip_eq_some.mp e
    exact ⟨p.1, p.2, h1, h2, (Option.some.inj h).symm⟩
theorem zipD_length {xs ys : List D} : (zipD xs ys).length = min xs.length ys.length := by unfold zipD; rw [List.length_map, List.length_zip]
theorem walk_zip {K : PySem.W.Frag} {G1 : Hp} {a b : Addr} {vs ws : List V} {ds es : List D} (h1 : G1 a = some (.lst vs)) (h2 : Drs K G1 vs ds) (h3 : G1 b = some (.lst ws)) (h4 : Drs K G1 ws es) : Walk K (Itz K a b) G1 (zipD ds es) where
  go := fun i G0 F0 σ δ G M F H e S hi => by
    rw [zipD_length] at hi
    obtain ⟨x, hx⟩ := getElem?_of_lt (l := vs) (i := i) (by rw [h2.len]; omega)
    obtain ⟨y, hy⟩ := getElem?_of_lt (l := ws) (i := i) (by rw [h4.len]; omega)
    exact ⟨vs, ws, x, y, SqL.of (S.wd.rep.g _ _ (e _ _ h1)), SqL.of (S.wd.rep.g _ _ (e _ _ h3)), hx, hy⟩
  yld := fun i G0 F0 σ δ G M F H x H' d e S hd hy => by
    obtain ⟨T, y1, y2, rfl, hT, rfl, k1, k2⟩ := hy
    obtain ⟨d1, d2, e1, e2, rfl⟩ := zipD_get hd
    obtain ⟨v1, f1, g1⟩ := h2.get e1
    obtain ⟨v2, f2, g2⟩ := h4.get e2
    have q1 := k1 vs (SqL.of (S.wd.rep.g _ _ (e _ _ h1)))
    have q2 := k2 ws (SqL.of (S.wd.rep.g _ _ (e _ _ h3)))
    rw [f1] at q1
    rw [f2] at q2
    cases q1
    cases q2
    exact S.newT hT (.cons (g1.mono e) (.cons (g2.mono e) .nil))
  stop := fun i G0 F0 σ δ G M F H e S hi => by
    rw [zipD_length] at hi
    refine ⟨vs, ws, SqL.of (S.wd.rep.g _ _ (e _ _ h1)), SqL.of (S.wd.rep.g _ _ (e _ _ h3)), ?_⟩
    rw [h2.len, h4.len]
    omega
def enumD (xs : List D) : List D := (xs.zipIdx).map fun p => D.tup [.int (p.2 : Nat), p.1]
theorem enumD_length {xs : List D} : (enumD xs).length = xs.length := by unfold enumD; rw [List.length_map, List.length_zipIdx]
theorem enumD_get {xs : List D} {i : Nat} {d : D} (h : (enumD xs)[i]? = some d) : ∃ x, xs[i]? = some x ∧ d = .tup [.int (i : Nat), x] := by
  unfold enumD at h
  rw [List.getElem?_map, List.getElem?_zipIdx] at h
  cases e : xs[i]? with
  | none => rw [e] at h; cases h
  | some x =>
    rw [e] at h
    refine ⟨x, rfl, ?_⟩
    have := (Option.some.inj h).symm
    simpa using this
theorem walk_enum {K : PySem.W.Frag} {G1 : Hp} {a : Addr} {vs : List V} {ds : List D} (h1 : G1 a = some (.lst vs)) (h2 : Drs K G1 vs ds) : Walk K (Ite K a) G1 (enumD ds) where
  go := fun i G0 F0 σ δ G M F H e S hi => by
    rw [enumD_length] at hi
    obtain ⟨x, hx⟩ := getElem?_of_lt (l := vs) (i := i) (by rw [h2.len]; omega)
    exact ⟨vs, x, SqL.of (S.wd.rep.g _ _ (e _ _ h1)), hx⟩
  yld := fun i G0 F0 σ δ G M F H x H' d e S hd hy => by
    obtain ⟨T, y1, rfl, hT, rfl, k1⟩ := hy
    obtain ⟨d1, e1, rfl⟩ := enumD_get hd
    obtain ⟨v1, f1, g1⟩ := h2.get e1
    have q1 := k1 vs (SqL.of (S.wd.rep.g _ _ (e _ _ h1)))
    rw [f1] at q1
    cases q1
    exact S.newT hT (.cons (.int _) (.cons (g1.mono e) .nil))
  stop := fun i G0 F0 σ δ G M F H e S hi => by
    rw [enumD_length] at hi
    exact ⟨vs, SqL.of (S.wd.rep.g _ _ (e _ _ h1)), by rw [h2.len]; exact hi⟩

section
variable {X : Cx} {O : Hp → MS → Prop} {st : Stmt} {rest sts : List Stmt} {t u : DTS} {e a b c tg iter : Expr} {te ta tb : DTE} {tr : DTA} {tc tt : DTT} {pos p : Pos}
def dItems (te : DTE) : DTI := fun δ M R => te δ M fun d M1 => match d with
  | .lst ds => R ds M1
  | _ => False
def dItemsT (te : DTE) : DTI := fun δ M R => te δ M fun d M1 => match d with
  | .tup ds => R ds M1
  | _ => False
def dItemsS (te : DTE) : DTI := fun δ M R => te δ M fun d M1 => match d with
  | .str z => R (signsD z) M1
  | _ => False
theorem di_list (h : DE X O e te) : DI X O tg e (dItems te) := by
  refine ⟨(pi_list h.pe).weak fun σ H R ⟨G0, F0, G, M, F, δ, R', xo, S, q, cv⟩ => ?_⟩
  refine ⟨G0, F0, G, M, F, δ, _, xo, S, q, fun d M1 v G1 H1 q1 S1 s1 r1 => ?_⟩
  cases d with
  | lst ds =>
    cases r1 with
    | lst h1 h2 => exact ⟨_, rfl, ⟨_, SqL.of (S1.wd.rep.g _ _ h1)⟩, cv _ _ _ _ _ q1 S1 s1 (walk_list h1 h2)⟩
  | _ => exact q1.elim
theorem di_tup (h : DE X O e te) : DI X O tg e (dItemsT te) := by
  refine ⟨(pi_tup h.pe).weak fun σ H R ⟨G0, F0, G, M, F, δ, R', xo, S, q, cv⟩ => ?_⟩
  refine ⟨G0, F0, G, M, F, δ, _, xo, S, q, fun d M1 v G1 H1 q1 S1 s1 r1 => ?_⟩
  cases d with
  | tup ds =>
    cases r1 with
    | tup h1 h2 => exact ⟨_, rfl, ⟨_, sqT_mono S1.wd.rep.g h1⟩, cv _ _ _ _ _ q1 S1 s1 (walk_tup h1 h2)⟩
  | _ => exact q1.elim
theorem di_str (h : DE X O e te) : DI X O tg e (dItemsS te) := by
  refine ⟨(pi_str h.pe).weak fun σ H R ⟨G0, F0, G, M, F, δ, R', xo, S, q, cv⟩ => ?_⟩
  refine ⟨G0, F0, G, M, F, δ, _, xo, S, q, fun d M1 v G1 H1 q1 S1 s1 r1 => ?_⟩
  cases d with
  | str z => cases r1; exact ⟨z, rfl, cv _ _ _ _ _ q1 S1 s1 (walk_str z)⟩
  | _ => exact q1.elim
def dRange1 (tr : DTA) : DTI := fun δ M R => tr δ M fun ds M1 => match ds with
  | [.int n] => -(2 ^ 62) ≤ n ∧ n < 2 ^ 62 ∧ R (rangeD 0 n.toNat) M1
  | _ => False
def dRange2 (tr : DTA) : DTI := fun δ M R => tr δ M fun ds M1 => match ds with
  | [.int i, .int j] => (-(2 ^ 62) ≤ i ∧ i < 2 ^ 62 ∧ -(2 ^ 62) ≤ j ∧ j < 2 ^ 62) ∧ R (rangeD i (j - i).toNat) M1
  | _ => False
def dRange3 (tr : DTA) : DTI := fun δ M R => tr δ M fun ds M1 => match ds with
  | [.int i, .int j, .int c] => ∃ n, RgC i j c n ∧ R (rangeC i c n) M1
  | _ => False
theorem di_range1 (hg : Gl X "range") (hm : X.mg "range" = none) (ha : DA X O [a] tr) (hs : starEach [a] X.env = [(false, eval a X.env)] := by rfl) : DI X O tg (.Call (.Name "range" p) [a] [] pos) (dRange1 tr) := by
  refine ⟨(pi_range1 hg hm ha.pa hs).weak fun σ H R ⟨G0, F0, G, M, F, δ, R', xo, S, q, cv⟩ => ?_⟩
  refine ⟨G0, F0, G, M, F, δ, _, xo, S, q, fun ds M1 vs G1 H1 q1 S1 s1 r1 => ?_⟩
  split at q1
  · cases r1 with
    | cons r1 rn =>
      cases r1
      cases rn
      exact ⟨_, rfl, q1.1, q1.2.1, cv _ _ _ _ _ q1.2.2 S1 s1 (walk_range _ _)⟩
  · exact q1.elim
theorem di_range2 (hg : Gl X "range") (hm : X.mg "range" = none) (ha : DA X O [a, b] tr) (hs : starEach [a, b] X.env = [(false, eval a X.env), (false, eval b X.env)] := by rfl) (hs2 : starEach [b] X.env = [(false, eval b X.env)] := by rfl) :
    DI X O tg (.Call (.Name "range" p) [a, b] [] pos) (dRange2 tr) := by
  refine ⟨(pi_range2 hg hm ha.pa hs hs2).weak fun σ H R ⟨G0, F0, G, M, F, δ, R', xo, S, q, cv⟩ => ?_⟩
  refine ⟨G0, F0, G, M, F, δ, _, xo, S, q, fun ds M1 vs G1 H1 q1 S1 s1 r1 => ?_⟩
  split at q1
  · cases r1 with
    | cons r1 rn =>
      cases r1
      cases rn with
      | cons r2 rn =>
        cases r2
        cases rn
        exact ⟨_, _, rfl, q1.1, cv _ _ _ _ _ q1.2 S1 s1 (walk_range _ _)⟩
  · exact q1.elim
theorem di_range3 (hg : Gl X "range") (hm : X.mg "range" = none) (ha : DA X O [a, b, c] tr)
    (hs : starEach [a, b, c] X.env = (false, eval a X.env) :: starEach [b, c] X.env := by rfl) (hpl : (backTo pos (starEach [b, c] X.env)).any (·.1) = false := by rfl) :
    DI X O tg (.Call (.Name "range" p) [a, b, c] [] pos) (dRange3 tr) := by
  refine ⟨(pi_range3 hg hm ha.pa hs hpl).weak fun σ H R ⟨G0, F0, G, M, F, δ, R', xo, S, q, cv⟩ => ?_⟩
  refine ⟨G0, F0, G, M, F, δ, _, xo, S, q, fun ds M1 vs G1 H1 q1 S1 s1 r1 => ?_⟩
  split at q1
  · cases r1 with
    | cons r1 rn =>
      cases r1
      cases rn with
      | cons r2 rn =>
        cases r2
        cases rn with
        | cons r3 rn =>
          cases r3
          cases rn
          obtain ⟨n, h1, q1⟩ := q1
          exact ⟨_, _, _, n, rfl, h1, cv _ _ _ _ _ q1 S1 s1 (walk_rangeC _ _ _)⟩
  · exact q1.elim
def dZip (tr : DTA) : DTI := fun δ M R => tr δ M fun ds M1 => match ds with
  | [.lst xs, .lst ys] => R (zipD xs ys) M1
  | _ => False
variable {elts : List Expr} {kk : Nat} {tpos : Pos}
theorem di_zip (hg : Gl X "zip") (hm : X.mg "zip" = none) (ha : DA X O [a, b] tr)
    (hs : starEach [a, b] X.env = (false, eval a X.env) :: starEach [b] X.env := by rfl) (hpl : (backTo pos (starEach [b] X.env)).any (·.1) = false := by rfl) : DI X O (.Tuple elts kk tpos) (.Call (.Name "zip" p) [a, b] [] pos) (dZip tr) := by
  refine ⟨(pi_zip hg hm ha.pa hs hpl).weak fun σ H R ⟨G0, F0, G, M, F, δ, R', xo, S, q, cv⟩ => ?_⟩
  refine ⟨G0, F0, G, M, F, δ, _, xo, S, q, fun ds M1 vs G1 H1 q1 S1 s1 r1 => ?_⟩
  split at q1
  · cases r1 with
    | cons r1 rn =>
      cases rn with
      | cons r2 rn =>
        cases rn
        cases r1 with
        | lst h1 h2 =>
          cases r2 with
          | lst h3 h4 => exact ⟨_, _, _, _, rfl, SqL.of (S1.wd.rep.g _ _ h1), SqL.of (S1.wd.rep.g _ _ h3), cv _ _ _ _ _ q1 S1 s1 (walk_zip h1 h2 h3 h4)⟩
  · exact q1.elim
def dEnum (tr : DTA) : DTI := fun δ M R => tr δ M fun ds M1 => match ds with
  | [.lst xs] => R (enumD xs) M1
  | _ => False
theorem di_enum (hg : Gl X "enumerate") (hm : X.mg "enumerate" = none) (ha : DA X O [a] tr) (hs : starEach [a] X.env = [(false, eval a X.env)] := by rfl) : DI X O (.Tuple elts kk tpos) (.Call (.Name "enumerate" p) [a] [] pos) (dEnum tr) := by
  refine ⟨(pi_enum hg hm ha.pa hs).weak fun σ H R ⟨G0, F0, G, M, F, δ, R', xo, S, q, cv⟩ => ?_⟩
  refine ⟨G0, F0, G, M, F, δ, _, xo, S, q, fun ds M1 vs G1 H1 q1 S1 s1 r1 => ?_⟩
  split at q1
  · cases r1 with
    | cons r1 rn =>
      cases rn
      cases r1 with
      | lst h1 h2 => exact ⟨_, _, rfl, SqL.of (S1.wd.rep.g _ _ h1), cv _ _ _ _ _ q1 S1 s1 (walk_enum h1 h2)⟩
  · exact q1.elim

/-! ### for -/
def dFor (wi : DTI) (g : DTG) (b : DTS) : DTS := fun E δ M => wi δ M fun ds M1 => ∃ P : Nat → List Slot → MS → Prop, P 0 δ M1 ∧
  (∀ (i : Nat) (d : D) δ M, ds[i]? = some d → P i δ M → g d δ M fun δ1 M2 => b { E with nx := P (i + 1), ct := P (i + 1), bk := E.nx } δ1 M2) ∧ ∀ δ M, P ds.length δ M → E.nx δ M
theorem To.up {K : PySem.W.Frag} {G0 G1 : Hp} {F0 : MS} {P' : List Slot → MS → Prop} {P : L2.St → Hp → Prop} (h : To K G0 F0 P' P) (e : Same G0 G1) : To K G1 F0 P' P := fun σ' δ' G' M' F' H' S q => h σ' δ' G' M' F' H' ⟨S.wd, e.trans S.g0, S.f0, S.sl⟩ q
theorem CS.up {K : PySem.W.Frag} {G0 G1 : Hp} {F0 : MS} {E' : DEnds} {E : Ends} (h : CS K G0 F0 E' E) (e : Same G0 G1) : CS K G1 F0 E' E := ⟨h.nx.up e, fun v d G' M' H' W s r q => h.rt v d G' M' H' W (e.trans s) r q, h.bk.up e, h.ct.up e⟩
theorem St.up {K : PySem.W.Frag} {G0 G H : Hp} {F0 M F : MS} {σ : L2.St} {δ : List Slot} (S : St K G0 F0 G M F H σ δ) : St K G F0 G M F H σ δ := ⟨S.wd, Same.refl _, S.f0, S.sl⟩
theorem ds_for {body : List Stmt} {wi : DTI} {is : List Nat} {g : DTG} {tb : DTS} (up : Up O) (hp : PassesOwn (model X.prog X.w) X.A X.env X.xe) (hc : X.calm = true) (hi : DI X O tg iter wi) (hg : DG X O tg is g) (hb : DSs X O body tb)
    (hs : ∀ x, foldedSetIterable iter X.env x = pure x := by intro _; rfl) : DS X O (.For tg iter body [] pos) (dFor wi g tb) := by
  refine ⟨fun G0 F0 ok => ?_⟩
  -- the loop's own start decides the ghost heap under which its body is read
  have hB : PSs X body (fun E σ H => ∃ G1, Same G0 G1 ∧ lS X.K G1 F0 tb E σ H) := ⟨fun pins s σ H E I ⟨G1, e, h⟩ => (hb.ps G1 F0 (up _ _ _ e ok)).run pins s σ H E I h⟩
  refine (ps_for hp hc hi.pi hg.pg hB hs).weak fun E σ H ⟨G, M, F, δ, E', S, q, cv⟩ => ?_
  refine ⟨G0, F0, G, M, F, δ, _, ok, S, q, fun ds M1 J G1 H1 q1 S1 s1 wk => ?_⟩
  obtain ⟨P, p0, ps, pe⟩ := q1
  have s01 : Same G0 G1 := S1.g0
  refine ⟨fun i m σ' H' => m = ds.length - i ∧ i ≤ ds.length ∧ ∃ G' M' F' δ', St X.K G1 F0 G' M' F' H' σ' δ' ∧ P i δ' M', ⟨ds.length, rfl, Nat.zero_le _, G1, M1, F, δ, S1.up, p0⟩, ?_⟩
  rintro i m σ' H' ⟨rfl, hi, G', M', F', δ', S', p'⟩
  by_cases hlt : i < ds.length
  · refine .inr ⟨wk.go i _ _ _ _ _ _ _ _ S'.g0 S' hlt, fun σ2 H2 => i + 1 ≤ ds.length ∧ ∃ G' M' F' δ', St X.K G1 F0 G' M' F' H2 σ2 δ' ∧ P (i + 1) δ' M', fun σ2 H2 ⟨h1, h2⟩ => ⟨ds.length - (i + 1), by omega, rfl, h1, h2⟩, fun x H2 hy => ?_⟩
    obtain ⟨d, hd⟩ := getElem?_of_lt hlt
    obtain ⟨G2, S2, s2, r2⟩ := wk.yld i _ _ _ _ _ _ _ _ x H2 d S'.g0 S' hd hy
    refine ⟨G1, F0, G2, M', F', δ', d, _, up _ _ _ s01 ok, S2, r2, ps i d δ' M' hd p', fun σ3 δ3 G3 M3 H3 q3 S3 s3 _ _ => ?_⟩
    refine ⟨G1, s01, G3, M3, F', δ3, _, S3, q3, ⟨fun σ4 δ4 G4 M4 F4 H4 S4 q4 => ⟨hlt, G4, M4, F4, δ4, S4, q4⟩, (cv.up s01).rt, (cv.up s01).nx, fun σ4 δ4 G4 M4 F4 H4 S4 q4 => ⟨hlt, G4, M4, F4, δ4, S4, q4⟩⟩⟩
  · have e : i = ds.length := by omega
    subst e
    exact .inl ⟨wk.stop _ _ _ _ _ _ _ _ _ S'.g0 S' (Nat.le_refl _), (cv.up s01).nx _ _ _ _ _ _ S' (pe _ _ p')⟩

/-! ### while -/
def dWhile (c : DTT) (b : DTS) : DTS := fun E δ M => ∃ P : Nat → List Slot → MS → Prop, (∃ m, P m δ M) ∧ ∀ m δ M, P m δ M →
  c δ M fun r M1 => if r = true then b { E with nx := fun δ' M' => ∃ m', m' < m ∧ P m' δ' M', ct := fun δ' M' => ∃ m', m' < m ∧ P m' δ' M', bk := E.nx } δ M1 else E.nx δ M1
theorem ds_while {body : List Stmt} {tb : DTS} (hp : PassesOwn (model X.prog X.w) X.A X.env X.xe) (hc : DT X O c tc) (hb : DSs X O body tb) : DS X O (.While c body [] pos) (dWhile tc tb) := by
  refine ⟨fun G0 F0 ok => (ps_while hp hc.pt (hb.ps G0 F0 ok)).weak fun E σ H ⟨G, M, F, δ, E', S, ⟨P, ⟨m, p0⟩, ps⟩, cv⟩ => ?_⟩
  refine ⟨fun m σ' H' => ∃ G' M' F' δ', St X.K G0 F0 G' M' F' H' σ' δ' ∧ P m δ' M', ⟨m, G, M, F, δ, S, p0⟩, ?_⟩
  rintro m σ' H' ⟨G', M', F', δ', S', p'⟩
  refine ⟨G0, F0, G', M', F', δ', _, ok, S', ps m δ' M' p', fun r M1 G1 H1 q1 S1 s1 => ?_⟩
  cases r with
  | true =>
    have st : To X.K G0 F0 (fun δ' M' => ∃ m', m' < m ∧ P m' δ' M') (fun σ2 H2 => ∃ m', m' < m ∧ ∃ G' M' F' δ', St X.K G0 F0 G' M' F' H2 σ2 δ' ∧ P m' δ' M') := fun σ4 δ4 G4 M4 F4 H4 S4 ⟨m', h1, h2⟩ => ⟨m', h1, G4, M4, F4, δ4, S4, h2⟩
    exact ⟨_, fun σ2 H2 h => h, G1, M1, F', δ', _, S1, q1, ⟨st, cv.rt, cv.nx, st⟩⟩
  | false => exact cv.nx _ _ _ _ _ _ S1 q1
end

/-! ### list comprehensions -/
section
variable {X : Cx} {O : Hp → MS → Prop} {elt tg iter : Expr} {ifs : List Expr} {scope : Scope} {own : List (Str × Nat)} {pos spos py : Pos} {wi : DTI} {g : DTG} {tt : DTT} {te : DTE} {is : List Nat}
/-- what holds everywhere: for blocks that raise nothing -/
abbrev OT : Hp → MS → Prop := fun _ _ => True
structure DTs (X : Cx) (O : Hp → MS → Prop) (ifs : List Expr) (t : DTT) : Prop where
  pt : PTs X ifs (lT X.K O t)
def dYes : DTT := fun _ M Q => Q true M
theorem _root_.L2.PTs.weak {t t' : TT} (h : PTs X ifs t) (w : ∀ σ H Q, t' σ H Q → t σ H Q) : PTs X ifs t' := ⟨fun pins s σ H Q I q => h.run pins s σ H Q I (w σ H Q q)⟩
theorem dts_nil : DTs X O [] dYes := ⟨pts_nil.weak fun σ H Q ⟨G0, F0, G, M, F, δ, Q', xo, S, q, cv⟩ => cv _ _ _ _ q S (Same.refl _)⟩
theorem dts_one {c : Expr} {t : DTT} (h : DT X O c t) : DTs X O [c] t := ⟨pts_one h.pt⟩
def dLc (wi : DTI) (g : DTG) (tt : DTT) (te : DTE) (vs : List Nat) : List Slot → MS → (List D → MS → Prop) → Prop := fun δ M Q => wi δ M fun ds M1 => ∃ P : Nat → List D → MS → Prop, P 0 [] M1 ∧
  (∀ (i : Nat) (d : D) acc M, ds[i]? = some d → P i acc M → g d (wipeD δ vs) M fun δ2 M2 => tt δ2 M2 fun b M3 => if b = true then te δ2 M3 fun y M4 => acc.length < sizeLine ∧ P (i + 1) (acc ++ [y]) M4 else P (i + 1) acc M3) ∧ ∀ acc M, P ds.length acc M → Q acc M
theorem wipe_get {σ : L2.St} {vs : List Nat} {j : Nat} : (wipe σ vs)[j]? = if j ∈ vs ∧ j < σ.length then some none else σ[j]? := by
  induction vs with
  | nil => simp [wipe]
  | cons v vs ih =>
    unfold wipe
    rw [List.getElem?_set, wipe_length]
    by_cases e : v = j
    · subst e
      by_cases h : v < σ.length
      · simp [h]
      · have hn : σ[v]? = none := List.getElem?_eq_none (by omega)
        simp [h, hn]
    · rw [if_neg e, ih]
      have : j ≠ v := fun q => e q.symm
      simp [this]
theorem wipe_same {σ σ2 : L2.St} {vs is : List Nat} (hl : σ2.length = (wipe σ vs).length) (hk : ∀ j, j ∉ is → σ2[j]? = (wipe σ vs)[j]?) (hi : ∀ j ∈ is, j ∈ vs) : wipe σ2 vs = wipe σ vs := by
  have hl' : σ2.length = σ.length := by rw [hl, wipe_length]
  refine List.ext_getElem? fun j => ?_
  rw [wipe_get, wipe_get, hl']
  by_cases h : j ∈ vs ∧ j < σ.length
  · rw [if_pos h, if_pos h]
  · rw [if_neg h, if_neg h]
    by_cases hj : j ∈ is
    · have : ¬ j < σ.length := fun q => h ⟨hi j hj, q⟩
      rw [List.getElem?_eq_none (by omega), List.getElem?_eq_none (by omega)]
    · rw [hk j hj, wipe_get, if_neg h]
theorem lift_lc {K : PySem.W.Frag} {vs : List Nat} (hvs : ∀ j ∈ is, j ∈ vs) {σ : L2.St} {H : Hp} {Q : VK} (h : lF K O (dLc wi g tt te vs) σ H Q) : tLc (lI K O wi) (lG K OT is g) (lT K OT tt) (lE K OT te) vs σ H Q := by
  obtain ⟨G0, F0, G, M, F, δ, Q', xo, S, q, cv⟩ := h
  refine ⟨G0, F0, G, M, F, δ, _, xo, S, q, fun ds M1 J G1 H1 q1 S1 s1 wk => ?_⟩
  obtain ⟨P, p0, ps, pe⟩ := q1
  intro L hL
  have fL := (S1.wd.mfree hL).2
  have f0L := S1.f0none fL
  have nL := S1.noOwn fL
  refine ⟨fun i m H' => m = ds.length - i ∧ i ≤ ds.length ∧ ∃ G' M' acc, St K G0 F0 G' M' (updM F L (.lst acc)) H' σ δ ∧ Same G1 G' ∧ P i acc M',
    ⟨ds.length, rfl, Nat.zero_le _, G1, M1, [], S1.frame hL (c := .lst []) ⟨[], if_pos rfl, .nil⟩, Same.refl _, p0⟩, ?_⟩
  rintro i m H' ⟨rfl, hi, G', M', acc, S', sg', p'⟩
  by_cases hlt : i < ds.length
  · refine .inr ⟨wk.go i _ _ _ _ _ _ _ _ sg' S' hlt, fun H2 => i + 1 ≤ ds.length ∧ ∃ G' M' acc, St K G0 F0 G' M' (updM F L (.lst acc)) H2 σ δ ∧ Same G1 G' ∧ P (i + 1) acc M', fun H2 ⟨h1, h2⟩ => ⟨ds.length - (i + 1), by omega, rfl, h1, h2⟩, fun x H2 hy => ?_⟩
    obtain ⟨d, hd⟩ := getElem?_of_lt hlt
    obtain ⟨G2, S2, s2, r2⟩ := wk.yld i _ _ _ _ _ _ _ _ x H2 d sg' S' hd hy
    refine ⟨G0, F0, G2, M', _, _, d, _, trivial, S2.wipe vs, r2, ps i d acc M' hd p', fun σ3 δ3 G3 M3 H3 q3 S3 s3 l3 k3 => ⟨wipe_same l3 k3 hvs, ?_⟩⟩
    refine ⟨G0, F0, G3, M3, _, δ3, _, trivial, S3, q3, fun b M4 G4 H4 q4 S4 s4 => ?_⟩
    have sg4 : Same G' G4 := s2.trans (s3.trans s4)
    cases b with
    | true =>
      refine ⟨G0, F0, G4, M4, _, δ3, _, trivial, S4, q4, fun y M5 v G5 H5 q5 S5 s5 r5 => ?_⟩
      obtain ⟨ws, hws, hr, _⟩ := S5.wd.lst_at (p := L) updM_same
      have sg5 : Same G' G5 := sg4.trans s5
      refine ⟨ws, hws, by rw [hr.len]; exact q5.1, hlt, G5, M5, acc ++ [y], ?_, sg'.trans sg5, q5.2⟩
      have S6 := (S'.upd S5.wd sg5)
      have W7 := S5.wd.setLF updM_same (hr.app (.cons r5 .nil))
      have S7 := S6.setF (c' := .lst (acc ++ [y])) f0L nL W7
      rw [updM_updM] at S7
      exact S7
    | false =>
      exact ⟨hlt, G4, M4, acc, S'.upd S4.wd sg4, sg'.trans sg4, q4⟩
  · have e : i = ds.length := by omega
    subst e
    obtain ⟨ws, hws, hr, hG⟩ := S'.wd.lst_at (p := L) updM_same
    refine .inl ⟨wk.stop _ _ _ _ _ _ _ _ _ sg' S' (Nat.le_refl _), ?_⟩
    have S8 := S'.unlay (fun _ => trivial) fL f0L nL hG
    have eH : L2.upd (fun b => if b = L then none else H' b) L (.lst ws) = H' := by
      funext b
      by_cases hb : b = L
      · rw [hb, upd_same, hws]
      · rw [upd_ne hb, if_neg hb]
    have := cv acc M' L ws G' _ (pe acc M' p') S8 (if_pos rfl) hr (s1.trans sg')
    rw [eH] at this
    exact this
theorem df_lc (hc : X.calm = true) (hN : X.N.Nodup) (hi : DI X O tg iter wi) (ok : BlkOk X.N X.env.scope scope own)
    (hg : ∀ (s : Shared) (H : Hp) (C : Addr) (cl : List (Str × Addr)) (fp : List Addr), DG (X.blk s H scope (compEnvC scope cl C X.env) fp) OT tg is g) (ht : ∀ (s : Shared) (H : Hp) (C : Addr) (cl : List (Str × Addr)) (fp : List Addr), DTs (X.blk s H scope (compEnvC scope cl C X.env) fp) OT ifs tt)
    (he : ∀ (s : Shared) (H : Hp) (C : Addr) (cl : List (Str × Addr)) (fp : List Addr), DE (X.blk s H scope (compEnvC scope cl C X.env) fp) OT elt te) (hv : ∀ j ∈ is, j ∈ own.map (·.2) := by decide) (hs : ∀ x, foldedSetIterable iter X.env x = pure x := by intro _; rfl) :
    DF X O (.ListComp elt [⟨tg, iter, ifs, 0⟩] scope pos) (dLc wi g tt te (own.map (·.2))) :=
  ⟨(pe_lc hc hN hi.pi ok (fun s H C cl fp => (hg s H C cl fp).pg) (fun s H C cl fp => (ht s H C cl fp).pt) (fun s H C cl fp => (he s H C cl fp).pe) hs).weak fun _ _ _ h => lift_lc hv h⟩
/-- x = [..] : as data; as x's own list -/
theorem ds_setLc {i : Nat} {y : Str} (hc : X.calm = true) (hN : X.N.Nodup) (hy : X.N[i]? = some y) (hyl : X.env.scope.names.lookup y = some .local)
    (hsw : swapsWith (.ListComp elt [⟨tg, iter, ifs, 0⟩] scope pos) (some (.Name y py)) spos.line X.env = pure true) (hi : DI X O tg iter wi) (ok : BlkOk X.N X.env.scope scope own)
    (hg : ∀ (s : Shared) (H : Hp) (C : Addr) (cl : List (Str × Addr)) (fp : List Addr), DG (X.blk s H scope (compEnvC scope cl C X.env) fp) OT tg is g) (ht : ∀ (s : Shared) (H : Hp) (C : Addr) (cl : List (Str × Addr)) (fp : List Addr), DTs (X.blk s H scope (compEnvC scope cl C X.env) fp) OT ifs tt)
    (he : ∀ (s : Shared) (H : Hp) (C : Addr) (cl : List (Str × Addr)) (fp : List Addr), DE (X.blk s H scope (compEnvC scope cl C X.env) fp) OT elt te) (hv : ∀ j ∈ is, j ∈ own.map (·.2) := by decide) (hs : ∀ x, foldedSetIterable iter X.env x = pure x := by intro _; rfl) :
    DS X O (.Assign [.Name y py] (.ListComp elt [⟨tg, iter, ifs, 0⟩] scope pos) spos) (dSet (dLst (dLc wi g tt te (own.map (·.2)))) i) := by
  refine ⟨fun G0 F0 xo => (ps_setLc (te := lE X.K OT te) (tt := lT X.K OT tt) (g := lG X.K OT is g) hc hN hy hyl hsw hi.pi ok (fun s H C cl fp => (hg s H C cl fp).pg) (fun s H C cl fp => (ht s H C cl fp).pt) (fun s H C cl fp => (he s H C cl fp).pe) hs).weak fun E σ H ⟨G, M, F, δ, E', S, q, cv⟩ => ?_⟩
  refine lift_lc (O := O) hv ⟨G0, F0, G, M, F, δ, _, xo, S, q, fun ds M1 p vs G1 H1 q1 S1 hp r1 s1 => ?_⟩
  have sa : Same G1 (L2.upd G1 p (.lst vs)) := same_upd (S1.wd.gfree hp)
  exact cv.nx _ _ _ _ _ _ ((S1.upd (S1.wd.imm hp) sa).set i (.lst upd_same (r1.mono sa))) q1
theorem ds_ownLc {i : Nat} {y : Str} (hc : X.calm = true) (hN : X.N.Nodup) (hy : X.N[i]? = some y) (hyl : X.env.scope.names.lookup y = some .local)
    (hsw : swapsWith (.ListComp elt [⟨tg, iter, ifs, 0⟩] scope pos) (some (.Name y py)) spos.line X.env = pure true) (hi : DI X O tg iter wi) (ok : BlkOk X.N X.env.scope scope own)
    (hg : ∀ (s : Shared) (H : Hp) (C : Addr) (cl : List (Str × Addr)) (fp : List Addr), DG (X.blk s H scope (compEnvC scope cl C X.env) fp) OT tg is g) (ht : ∀ (s : Shared) (H : Hp) (C : Addr) (cl : List (Str × Addr)) (fp : List Addr), DTs (X.blk s H scope (compEnvC scope cl C X.env) fp) OT ifs tt)
    (he : ∀ (s : Shared) (H : Hp) (C : Addr) (cl : List (Str × Addr)) (fp : List Addr), DE (X.blk s H scope (compEnvC scope cl C X.env) fp) OT elt te) (hv : ∀ j ∈ is, j ∈ own.map (·.2) := by decide) (hs : ∀ x, foldedSetIterable iter X.env x = pure x := by intro _; rfl) :
    DS X O (.Assign [.Name y py] (.ListComp elt [⟨tg, iter, ifs, 0⟩] scope pos) spos) (dOwn (dLc wi g tt te (own.map (·.2))) i) := by
  refine ⟨fun G0 F0 xo => (ps_setLc (te := lE X.K OT te) (tt := lT X.K OT tt) (g := lG X.K OT is g) hc hN hy hyl hsw hi.pi ok (fun s H C cl fp => (hg s H C cl fp).pg) (fun s H C cl fp => (ht s H C cl fp).pt) (fun s H C cl fp => (he s H C cl fp).pe) hs).weak fun E σ H ⟨G, M, F, δ, E', S, q, cv⟩ => ?_⟩
  refine lift_lc (O := O) hv ⟨G0, F0, G, M, F, δ, _, xo, S, q, fun ds M1 p vs G1 H1 q1 S1 hp r1 s1 => ?_⟩
  exact cv.nx _ _ _ _ _ _ (S1.setNew hp (c := .lst ds) ⟨vs, if_pos rfl, r1⟩ i (.inl ⟨ds, rfl, rfl⟩)) q1
end
end DL

/-! DL, part g: defs and their promises over data, calls, raise. -/
namespace DL
open PySem PySem.Spec PyProof.Rows L2

/-- what is wanted of an exception: its class, its own fields (where its class has an __init__ of its own) -/
abbrev DXK := Value → Option (List (Str × D)) → MS → Prop
abbrev DSp := List D → MS → DQ → DXK → Prop
def FldR (K : PySem.W.Frag) (G : Hp) (od : Option Addr) (fs : Option (List (Str × D))) : Prop := match od, fs with
  | none, none => True
  | some d, some fs => ∃ ws, G d = some (.xd ws) ∧ Drf K G ws fs
  | _, _ => False
theorem FldR.mono {K : PySem.W.Frag} {G G' : Hp} {od : Option Addr} {fs : Option (List (Str × D))} (e : Same G G') (h : FldR K G od fs) : FldR K G' od fs := by
  cases od with
  | none => cases fs with
    | none => trivial
    | some _ => exact h.elim
  | some d => cases fs with
    | none => exact h.elim
    | some fs => obtain ⟨ws, h1, h2⟩ := h; exact ⟨ws, e _ _ h1, h2.mono e⟩
def ConvX (K : PySem.W.Frag) (G : Hp) (F0 : MS) (X' : DXK) (E : XK) : Prop := ∀ cls od fs M' G' H', X' cls fs M' → Wd K G' M' F0 H' → Same G G' → FldR K G' od fs → E cls od H'
def liftSp (K : PySem.W.Frag) (Fd : DSp) : Sp := fun vs H Q E => ∃ G M F0 ds, ∃ (Q' : DQ) (X' : DXK), Wd K G M F0 H ∧ Drs K G vs ds ∧ Fd ds M Q' X' ∧ ConvR K G F0 Q' Q ∧ ConvX K G F0 X' E

/-- a def keeps its promise, where no object is being shown (repr) -/
structure GFn (P : Program) (w : World) (K : PySem.W.Frag) (mg : Str → Option Value) (base : Heap) (k : Nat) (f : Addr) (fd : FuncData) (ps : List Str) (sp : Sp) : Prop where
  len : ∀ vs H Q E, sp vs H Q E → vs.length = ps.length
  run : ∀ (A : Around) (outer : List Env) (s : Shared) (H : Hp) (args : Args) (us : List Value) (vs : List V) (Q : VK) (E : XK), Room k A → A.guards = some [] → Env0 P w K mg base A outer s H → BindsTo s fd args (ps.zip us) → Vals vs us → sp vs H Q E →
    codeAny (model P w) A (.call (.ref f) args) (CR (L2.CX P w) outer P w H s Q E) s
theorem GFn.up {P : Program} {w : World} {K : PySem.W.Frag} {mg : Str → Option Value} {base : Heap} {j k : Nat} {f : Addr} {fd : FuncData} {ps : List Str} {sp : Sp} (F : GFn P w K mg base j f fd ps sp) (h : j ≤ k) : GFn P w K mg base k f fd ps sp :=
  ⟨F.len, fun A outer s H args us vs Q E hr => F.run A outer s H args us vs Q E (hr.mono h)⟩
/-- a promise that follows -/
theorem GFn.imp {P : Program} {w : World} {K : PySem.W.Frag} {mg : Str → Option Value} {base : Heap} {k : Nat} {f : Addr} {fd : FuncData} {ps : List Str} {sp sp' : Sp} (F : GFn P w K mg base k f fd ps sp) (h : ∀ vs H Q E, sp' vs H Q E → sp vs H Q E) : GFn P w K mg base k f fd ps sp' :=
  ⟨fun vs H Q E q => F.len vs H Q E (h _ _ _ _ q), fun A outer s H args us vs Q E hr hg e0 hb r q => F.run A outer s H args us vs Q E hr hg e0 hb r (h _ _ _ _ q)⟩
theorem liftSp.imp {K : PySem.W.Frag} {Fd Fd' : DSp} (h : ∀ ds M Q X, Fd' ds M Q X → Fd ds M Q X) : ∀ vs H Q E, liftSp K Fd' vs H Q E → liftSp K Fd vs H Q E :=
  fun vs H Q E ⟨G, M, F0, ds, Q', X', W, r, q, c1, c2⟩ => ⟨G, M, F0, ds, Q', X', W, r, h _ _ _ _ q, c1, c2⟩

section
variable {P : Program} {w : World} {K : PySem.W.Frag} {mg : Str → Option Value} {base : Heap}
/-- a def by its body -/
theorem gfn_of {x qual : Str} {params : Arguments} {body : List Stmt} {scope : Scope} {dvs : List V} {kws : List (Str × V)} {f : Addr} {fd : FuncData} {N ps : List Str} {k : Nat} {sp : Sp} (F : FunD K x qual params body scope dvs kws f fd) (S : FnScope N ps scope)
    (len : ∀ vs H Q E, sp vs H Q E → vs.length = ps.length)
    (hbody : ∀ (cdv : Value) (A : Around) (outer : List Env) (s : Shared) (H : Hp) (vs : List V) (Q : VK) (E : XK), Room k (A.deeper (envOfC qual scope s.heap.objs.size f cdv)) → A.guards = some [] → sp vs H Q E →
      ∃ t, PSs (cxOf (L2.CX P w) P w K mg base N qual scope f cdv A outer s H E) body t ∧ t { nx := fun _ H' => Q .non H', rt := Q } (L2.start N vs) H) : GFn P w K mg base (k + 1) f fd ps sp := by
  obtain ⟨oc, od, dV, kV, doc, pm, an, cdv, ct, osl, rfl, lk, hcd, _, _⟩ := F.ex
  refine ⟨len, fun A outer s H args us vs Q E hr hgd e0 hb r q => ?_⟩
  have inK : K.In s.heap := e0.mod.kin.keeps (fun b o e => (e0.bs b o e).1)
  have lim : s.heap.NoLimit := e0.mod.nolimit.keeps (fun b o e => (e0.bs b o e).1)
  have kinds : ∀ y ∈ ps.zip us, scope.names.lookup y.1 = some .local ∨ (scope.names.lookup y.1 = some .cell ∧ ((cellsFrom (s.heap.objs.size + 1) scope.names []).lookup y.1).isSome = true) := by
    rintro ⟨n, v⟩ hy
    exact (S.par n (List.of_mem_zip hy).1).imp id fun z => ⟨z, PySem.W.cellsFrom_some _ _ _ (.inl z)⟩
  refine codeAny_call_function hr.depth (inK _ _ lk) rfl S.co S.gen rfl (PySem.W.codeRec_of inK hcd) (hb _ _ _ _ ?_)
  refine wpAny_newFunctionEnv_cells S.kind kinds (fun env he s1 x => ?_)
  subst he
  refine ⟨lim.keeps x.toInCall.keep, codeAny_func ?_⟩
  obtain ⟨t, ht, hq⟩ := hbody cdv A outer s H vs Q E (hr.deeper _) hgd q
  have I := inv_start (CX := L2.CX P w) (E := E) S hr.hd e0 (len _ _ _ _ q) r x
  refine wpAny_mono (ht.run [] s1 (L2.start N vs) H _ I hq) (fun fl s' hs => ?_) (fun e s' hs => hs)
  cases fl with
  | ret u => obtain ⟨v, σ', H', J, rv, z⟩ := hs; exact ⟨v, H', J.os, J.bare, J.base, J.hok, rv, z⟩
  | next => obtain ⟨σ', H', J, z⟩ := hs; exact ⟨V.non, H', J.os, J.bare, J.base, J.hok, rfl, z⟩
  | brk => exact hs.elim fun _ h => h.elim fun _ h => h.2.elim
  | cont => exact hs.elim fun _ h => h.elim fun _ h => h.2.elim
end

/-! ### what is wanted of exceptions in a context -/
structure XW (X : Cx) (O : Hp → MS → Prop) (W : WX) (X' : DXK) : Prop where
  tk : Takes X W
  w : ∀ G0 F0 G' M' F H' σ δ cls od fs, O G0 F0 → X' cls fs M' → St X.K G0 F0 G' M' F H' σ δ → FldR X.K G' od fs → W cls od σ H'
/-- nothing is let out -/
def X0 : DXK := fun _ _ _ => False
theorem xw0 {X : Cx} : XW X OT (fun _ _ _ _ => False) X0 := ⟨takes0, fun _ _ _ _ _ _ _ _ _ _ _ _ h => h.elim⟩
theorem upT : Up OT := fun _ _ _ _ _ => trivial

def startD (N : List Str) (ds : List D) : List Slot := ds.map Slot.im ++ List.replicate (N.length - ds.length) Slot.no
theorem st_start {K : PySem.W.Frag} {G H : Hp} {M F0 : MS} {N : List Str} {vs : List V} {ds : List D} (W : Wd K G M F0 H) (r : Drs K G vs ds) : St K G F0 G M F0 H (L2.start N vs) (startD N ds) := by
  have at_ : ∀ (i : Nat) (t : Slot), (startD N ds)[i]? = some t → t = .no ∨ ∃ d, ds[i]? = some d ∧ t = .im d := fun i t h => by
    unfold startD at h
    rw [List.getElem?_append] at h
    split at h
    · rw [List.getElem?_map] at h
      cases e : ds[i]? with
      | none => rw [e] at h; cases h
      | some d => rw [e] at h; exact .inr ⟨d, rfl, (Option.some.inj h).symm⟩
    · rw [List.getElem?_replicate] at h
      split at h
      · exact .inl (Option.some.inj h).symm
      · cases h
  refine ⟨W, Same.refl _, fun _ _ h => h, ?_, fun i d h => ?_, fun i d h => ?_, fun i d h => ?_, fun i j s t a h1 h2 => ?_⟩
  · unfold L2.start startD
    rw [List.length_append, List.length_append, List.length_map, List.length_map, List.length_replicate, List.length_replicate, r.len]
  · rcases at_ i _ h with e | ⟨d', h1, e⟩
    · cases e
    · cases e
      obtain ⟨v, h2, h3⟩ := r.get h1
      refine ⟨v, ?_, h3⟩
      unfold L2.start
      rw [List.getElem?_append_left (by rw [List.length_map]; exact (List.getElem?_eq_some_iff.mp h2).1), List.getElem?_map, h2]
      rfl
  · rcases at_ i _ h with e | ⟨d', h1, e⟩ <;> cases e
  · rcases at_ i _ h with e | ⟨d', h1, e⟩ <;> cases e
  · rcases at_ i _ h1 with e | ⟨d', _, e⟩ <;> rw [e] at h2 <;> cases h2

section
variable {P : Program} {w : World} {K : PySem.W.Frag} {mg : Str → Option Value} {base : Heap}
/-- THE RULE for a def over data: t, its body's reading for every wish about exceptions -/
theorem dfn_of {x qual : Str} {params : Arguments} {body : List Stmt} {scope : Scope} {dvs : List V} {kws : List (Str × V)} {f : Addr} {fd : FuncData} {N ps : List Str} {k : Nat} {Fd : DSp} (F : FunD K x qual params body scope dvs kws f fd) (S : FnScope N ps scope)
    (len : ∀ ds M Q X', Fd ds M Q X' → ds.length = ps.length) (t : DXK → DTS)
    (hbody : ∀ (cdv : Value) (A : Around) (outer : List Env) (s : Shared) (H : Hp) (E : XK) (O : Hp → MS → Prop) (X' : DXK), Up O → XW (cxOf (L2.CX P w) P w K mg base N qual scope f cdv A outer s H E) O (fun cls d _ H => E cls d H) X' →
      Room k (A.deeper (envOfC qual scope s.heap.objs.size f cdv)) → A.guards = some [] → DSs (cxOf (L2.CX P w) P w K mg base N qual scope f cdv A outer s H E) O body (t X'))
    (pure : ∀ ds M Q X', Fd ds M Q X' → t X' { nx := fun _ M' => Q .non M', rt := Q } (startD N ds) M) : GFn P w K mg base (k + 1) f fd ps (liftSp K Fd) := by
  refine gfn_of F S (fun vs H Q E ⟨G, M, F0, ds, Q', X', W, r, q, _⟩ => r.len.trans (len _ _ _ _ q)) fun cdv A outer s H vs Q E hr hgd ⟨G, M, F0, ds, Q', X', W, r, q, c1, c2⟩ => ?_
  have xw : XW (cxOf (L2.CX P w) P w K mg base N qual scope f cdv A outer s H E) (fun G1 F1 => F1 = F0 ∧ ConvX K G1 F0 X' E) (fun cls d _ H => E cls d H) X' := by
    refine ⟨takes_of rfl rfl rfl rfl, fun G0 F1 G' M' F H' σ δ cls od fs ⟨e1, e2⟩ h S fr => ?_⟩
    subst e1
    exact e2 cls od fs M' G' H' h (S.wd.less S.f0) S.g0 fr
  have up : Up (fun G1 F1 => F1 = F0 ∧ ConvX K G1 F0 X' E) := fun G1 G2 F1 e ⟨e1, e2⟩ => ⟨e1, fun cls od fs M' G' H' h W s fr => e2 cls od fs M' G' H' h W (e.trans s) fr⟩
  refine ⟨_, (hbody cdv A outer s H E _ X' up xw hr hgd).ps G F0 ⟨rfl, c2⟩, G, M, F0, startD N ds, _, st_start W r, pure ds M Q' X' q, ?_⟩
  refine ⟨fun σ' δ' G' M' F' H' S q => c1 _ _ _ _ _ q (S.wd.less S.f0) S.g0 .non, fun v d G' M' H' W' s r q => c1 _ _ _ _ _ q W' s r, fun σ' δ' G' M' F' H' S q => q.elim, fun σ' δ' G' M' F' H' S q => q.elim⟩
end

/-! ### calls of defs -/
section
variable {X : Cx} {O : Hp → MS → Prop} {W : WX} {X' : DXK} {k j : Nat} {f : Addr} {fd : FuncData} {ps : List Str} {Fd : DSp} {dvs : List V} {ds : List Value} {dds : List D} {x : Str} {p pos : Pos} {e : Expr} {es : List Expr} {tr tkr : DTA}
def dFn (Fd : DSp) (dds : List D) (X' : DXK) (t : DTA) : DTE := fun δ M Q => t δ M fun xs M1 => Fd (xs ++ dds) M1 Q X'
theorem run_gfn {sp : Sp} {pins : List (Addr × Obj)} {σ : L2.St} {H : Hp} {s : Shared} {Q : VK} {us ws : List Value} {kw : List (Str × Value)} {vs : List V} (F : GFn X.prog X.w X.K X.mg X.base k f fd ps sp) (hr : Room k X.A) (hgd : X.A.guards = some [])
    (hb : BindsTo s fd ⟨us, kw⟩ (ps.zip ws)) (tk : Takes X W) (I : Inv X pins σ H s) (r : Vals vs ws) (h : sp vs H Q (fun cls od H' => W cls od σ H')) :
    wpAny (model X.prog X.w) X.A (call (.ref f) us kw) (EP X pins σ Q) X.xe s := by
  refine wpAny_call (codeAny_mono (F.run X.A X.stack s H ⟨us, kw⟩ ws vs Q _ hr hgd I.env0 hb r h) fun r s' hq => ?_)
  cases r with
  | error e => exact tk e s' (XE.of_call I (fun _ _ _ z => z) hq)
  | ok fl => cases fl with
    | ret u => exact I.after hq
    | next => exact hq.elim
    | brk => exact hq.elim
    | cont => exact hq.elim
/-- a def's promise at a call, from the reading -/
theorem sp_of {K : PySem.W.Frag} {G0 G H : Hp} {F0 M F : MS} {σ : L2.St} {δ : List Slot} {Q' : DQ} {Q : VK} {vs : List V} {xs : List D} {E : XK} (S : St K G0 F0 G M F H σ δ) (r : Drs K G vs xs) (q : Fd xs M Q' X')
    (cv : ∀ d M' v G' H', Q' d M' → St K G0 F0 G' M' F H' σ δ → Same G G' → Dr K G' v d → Q v H')
    (hE : ∀ cls od fs G' M' H', X' cls fs M' → St K G0 F0 G' M' F H' σ δ → FldR K G' od fs → E cls od H') : liftSp K Fd vs H Q E :=
  ⟨G, M, F, xs, Q', X', S.wd, r, q, fun d M' v G' H' q' W' s' r' => cv d M' v G' H' q' (S.upd W' s') s' r', fun cls od fs M' G' H' h W' s' fr => hE cls od fs G' M' H' h (S.upd W' s') fr⟩
theorem de_fn (F : GFn X.prog X.w X.K X.mg X.base k f fd ps (liftSp X.K Fd)) (hr : Room k X.A) (hgd : X.A.guards = some []) (hg : Gl X x) (hm : X.mg x = some (.ref f)) (hk : PySem.W.keepIn X.K (.ref f) = true) (hb : Binds X.K fd ps ds) (hd : Vals dvs ds) (hdd : ∀ G, Drs X.K G dvs dds) (xw : XW X O W X')
    (ha : DA X O (e :: es) tr) (hdb : (x == ("__debug__" : Str)) = false := by decide) (he : starEach (e :: es) X.env = (false, eval e X.env) :: starEach es X.env := by rfl) (hpl : (backTo pos (starEach es X.env)).any (·.1) = false := by rfl) :
    DE X O (.Call (.Name x p) (e :: es) [] pos) (dFn Fd dds X' tr) := by
  refine ⟨⟨fun pins s σ H Q I ⟨G0, F0, G, M, Fr, δ, Q', xo, S, q, cv⟩ => ?_⟩⟩
  refine wpAny_Call_Name_kw (ld_glob I hg hm ?_ hdb)
  refine PySem.W.callWith_K (h₀ := X.base) I.ok.mod.kin hk (thn (ha.pa.run pos pins s σ H (fun vs H1 => liftSp X.K Fd (vs ++ dvs) H1 Q fun cls od H' => W cls od σ H') I ?_) fun us s1 ⟨vs, H1, I1, r, q1⟩ => ⟨I1.kIn, ?_⟩) he hpl
  · refine ⟨G0, F0, G, M, Fr, δ, _, xo, S, q, fun xs M1 vs G1 H1 q1 S1 s1 r1 => sp_of S1 (r1.app (hdd G1)) q1 (fun d M' v G' H' q' S' s' r' => cv d M' v G' H' q' S' (s1.trans s') r') fun cls od fs G' M' H' h S' fr => xw.w _ _ _ _ _ _ _ _ _ _ _ xo h S' fr⟩
  · have r2 := r.append hd
    exact run_gfn F hr hgd (hb s1 us I1.kIn (r2.length.symm.trans (F.len _ _ _ _ q1))) xw.tk I1 r2 q1
/-- f() -/
theorem de_fn0 (F : GFn X.prog X.w X.K X.mg X.base k f fd ps (liftSp X.K Fd)) (hr : Room k X.A) (hgd : X.A.guards = some []) (hg : Gl X x) (hm : X.mg x = some (.ref f)) (hk : PySem.W.keepIn X.K (.ref f) = true) (hb : Binds X.K fd ps ds) (hd : Vals dvs ds) (hdd : ∀ G, Drs X.K G dvs dds) (xw : XW X O W X')
    (hdb : (x == ("__debug__" : Str)) = false := by decide) : DE X O (.Call (.Name x p) [] [] pos) (dFn Fd dds X' daNil) := by
  refine ⟨⟨fun pins s σ H Q I ⟨G0, F0, G, M, Fr, δ, Q', xo, S, q, cv⟩ => ?_⟩⟩
  have q1 : liftSp X.K Fd dvs H Q fun cls od H' => W cls od σ H' := sp_of S (hdd G) q cv fun cls od fs G' M' H' h S' fr => xw.w _ _ _ _ _ _ _ _ _ _ _ xo h S' fr
  refine wpAny_Call_Name_kw (ld_glob I hg hm ?_ hdb)
  exact PySem.W.callWith_K0 I.kIn hk (run_gfn (us := []) F hr hgd (hb s [] I.kIn (hd.length.symm.trans (F.len _ _ _ _ q1))) xw.tk I hd q1)
/-! keywords -/
def lK (K : PySem.W.Frag) (O : Hp → MS → Prop) (t : DTA) : TA := lA K O t
structure DK (X : Cx) (O : Hp → MS → Prop) (kws : List Keyword) (t : DTA) : Prop where
  pk : PK X kws (lA X.K O t)
theorem _root_.L2.PK.weak {kws : List Keyword} {t t' : TA} (h : PK X kws t) (w : ∀ σ H Q, t' σ H Q → t σ H Q) : PK X kws t' := ⟨fun pos pins s σ H Q I q => h.run pos pins s σ H Q I (w σ H Q q)⟩
variable {kws : List Keyword} {nm : Option Str} {kpos : Pos} {te : DTE}
theorem dk_nil : DK X O [] daNil := ⟨pk_nil.weak fun σ H Q ⟨G0, F0, G, M, F, δ, Q', xo, S, q, cv⟩ => cv _ _ _ _ _ q S (Same.refl _) .nil⟩
theorem dk_cons (ha : DE X O e te) (hr : DK X O kws tkr) : DK X O (⟨nm, e, kpos⟩ :: kws) (daCons te tkr) := by
  refine ⟨(pk_cons ha.pe hr.pk).weak fun σ H Q ⟨G0, F0, G, M, F, δ, Q', xo, S, q, cv⟩ => ?_⟩
  refine ⟨G0, F0, G, M, F, δ, _, xo, S, q, fun d M1 v G1 H1 q1 S1 s1 r1 => ?_⟩
  exact ⟨G0, F0, G1, M1, F, δ, _, xo, S1, q1, fun ds M' vs G' H' q' S' s' r' => cv _ _ _ _ _ q' S' (s1.trans s') (.cons (r1.mono s') r')⟩
/-- how positional values us and keywords' values ws (names ks) come to the parameters -/
structure KwB (K : PySem.W.Frag) (fd : FuncData) (ps ks : List Str) (g : List Value → List Value → List Value) (gD : List D → List D → List D) : Prop where
  to : ∀ (s : Shared) (us ws : List Value), K.In s.heap → (g us ws).length = ps.length → BindsTo s fd ⟨us, ks.zip ws⟩ (ps.zip (g us ws))
  rel : ∀ {vs : List V} {us : List Value} {zs : List V} {ws : List Value}, Vals vs us → Vals zs ws → ∃ vs', Vals vs' (g us ws) ∧ ∀ {G : Hp} {ds es : List D}, Drs K G vs ds → Drs K G zs es → Drs K G vs' (gD ds es)
def dFnK (Fd : DSp) (gD : List D → List D → List D) (X' : DXK) (t tk : DTA) : DTE := fun δ M Q => t δ M fun xs M1 => tk δ M1 fun ys M2 => Fd (gD xs ys) M2 Q X'
variable {ks : List Str} {g : List Value → List Value → List Value} {gD : List D → List D → List D}
theorem de_fnK (F : GFn X.prog X.w X.K X.mg X.base k f fd ps (liftSp X.K Fd)) (hr : Room k X.A) (hgd : X.A.guards = some []) (hg : Gl X x) (hm : X.mg x = some (.ref f)) (hk : PySem.W.keepIn X.K (.ref f) = true) (hb : KwB X.K fd ps ks g gD) (xw : XW X O W X')
    (ha : DA X O (e :: es) tr) (hkw : DK X O kws tkr) (hall : (backToKw pos (keywordEach kws X.env)).all (·.1.isSome) = true := by rfl) (hks : (backToKw pos (keywordEach kws X.env)).filterMap (·.1) = ks := by rfl)
    (hdb : (x == ("__debug__" : Str)) = false := by decide) (he : starEach (e :: es) X.env = (false, eval e X.env) :: starEach es X.env := by rfl)
    (hpl : ((backTo pos (starEach (e :: es) X.env)).any (·.1) || (backToKw pos (keywordEach kws X.env)).any (·.1.isNone)) = false := by rfl) :
    DE X O (.Call (.Name x p) (e :: es) kws pos) (dFnK Fd gD X' tr tkr) := by
  refine ⟨⟨fun pins s σ H Q I ⟨G0, F0, G, M, Fr, δ, Q', xo, S, q, cv⟩ => ?_⟩⟩
  refine wpAny_Call_Name_kw (ld_glob I hg hm ?_ hdb)
  refine PySem.W.callWith_KW (h₀ := X.base) I.ok.mod.kin hk hall (thn (ha.pa.run pos pins s σ H (fun vs H1 => lA X.K O tkr σ H1 fun zs H2 => ∃ G2, ∃ xs ys, Drs X.K G2 vs xs ∧ Drs X.K G2 zs ys ∧ ∀ vs', Drs X.K G2 vs' (gD xs ys) → liftSp X.K Fd vs' H2 Q fun cls od H' => W cls od σ H') I ?_) fun us s1 ⟨vs, H1, I1, r, q1⟩ => ?_) hpl he
  · refine ⟨G0, F0, G, M, Fr, δ, _, xo, S, q, fun xs M1 vs G1 H1 q1 S1 s1 r1 => ?_⟩
    refine ⟨G0, F0, G1, M1, Fr, δ, _, xo, S1, q1, fun ys M2 zs G2 H2 q2 S2 s2 r2 => ⟨G2, xs, ys, r1.mono s2, r2, fun vs' r' => sp_of S2 r' q2 (fun d M' v G' H' q' S' s' r' => cv d M' v G' H' q' S' (s1.trans (s2.trans s')) r') fun cls od fs G' M' H' h S' fr => xw.w _ _ _ _ _ _ _ _ _ _ _ xo h S' fr⟩⟩
  · refine thn (hkw.pk.run pos pins s1 σ H1 _ I1 q1) fun ws s2 ⟨zs, H2, I2, rz, G2, xs, ys, d1, d2, q2⟩ => ⟨I2.kIn, ?_⟩
    rw [hks]
    obtain ⟨vs', r3, r4⟩ := hb.rel r rz
    have q3 := q2 vs' (r4 d1 d2)
    exact run_gfn F hr hgd (hb.to s2 us ws I2.kIn (r3.length.symm.trans (F.len _ _ _ _ q3))) xw.tk I2 r3 q3
theorem de_fnK0 (F : GFn X.prog X.w X.K X.mg X.base k f fd ps (liftSp X.K Fd)) (hr : Room k X.A) (hgd : X.A.guards = some []) (hg : Gl X x) (hm : X.mg x = some (.ref f)) (hk : PySem.W.keepIn X.K (.ref f) = true) (hb : KwB X.K fd ps ks g gD) (xw : XW X O W X')
    (hkw : DK X O kws tkr) (hall : (backToKw pos (keywordEach kws X.env)).all (·.1.isSome) = true := by rfl) (hks : (backToKw pos (keywordEach kws X.env)).filterMap (·.1) = ks := by rfl)
    (hdb : (x == ("__debug__" : Str)) = false := by decide)
    (hpl : ((backTo pos (starEach [] X.env)).any (·.1) || (backToKw pos (keywordEach kws X.env)).any (·.1.isNone)) = false := by rfl) :
    DE X O (.Call (.Name x p) [] kws pos) (dFnK Fd gD X' daNil tkr) := by
  refine ⟨⟨fun pins s σ H Q I ⟨G0, F0, G, M, Fr, δ, Q', xo, S, q, cv⟩ => ?_⟩⟩
  refine wpAny_Call_Name_kw (ld_glob I hg hm ?_ hdb)
  refine PySem.W.callWith_KW0 (h₀ := X.base) I.ok.mod.kin hk hall ?_ hpl
  have q1 : lA X.K O tkr σ H fun zs H2 => ∃ G2, ∃ ys, Drs X.K G2 zs ys ∧ ∀ vs', Drs X.K G2 vs' (gD [] ys) → liftSp X.K Fd vs' H2 Q fun cls od H' => W cls od σ H' := by
    refine ⟨G0, F0, G, M, Fr, δ, _, xo, S, q, fun ys M2 zs G2 H2 q2 S2 s2 r2 => ⟨G2, ys, r2, fun vs' r' => sp_of S2 r' q2 (fun d M' v G' H' q' S' s' r' => cv d M' v G' H' q' S' (s2.trans s') r') fun cls od fs G' M' H' h S' fr => xw.w _ _ _ _ _ _ _ _ _ _ _ xo h S' fr⟩⟩
  refine thn (hkw.pk.run pos pins s σ H _ I q1) fun ws s2 ⟨zs, H2, I2, rz, G2, ys, d2, q2⟩ => ⟨I2.kIn, ?_⟩
  rw [hks]
  obtain ⟨vs', r3, r4⟩ := hb.rel (Paired.nil : Vals [] []) rz
  have q3 := q2 vs' (r4 .nil d2)
  exact run_gfn (us := []) F hr hgd (hb.to s2 [] ws I2.kIn (r3.length.symm.trans (F.len _ _ _ _ q3))) xw.tk I2 r3 q3
end
end DL

/-! DL, part h: how loops and comprehensions are answered. -/
namespace DL
open PySem PySem.Spec PyProof.Rows L2

theorem for_inv {wi : DTI} {g : DTG} {b : DTS} {E : DEnds} {δ : List Slot} {M : MS} {ds : List D} (hi : ∀ R : List D → MS → Prop, R ds M → wi δ M R) (P : Nat → List Slot → MS → Prop) (h0 : P 0 δ M)
    (hs : ∀ (i : Nat) (d : D) δ M, ds[i]? = some d → P i δ M → g d δ M fun δ1 M2 => b { E with nx := P (i + 1), ct := P (i + 1), bk := E.nx } δ1 M2) (he : ∀ δ M, P ds.length δ M → E.nx δ M) : dFor wi g b E δ M :=
  hi _ ⟨P, h0, hs, he⟩
/-- turn by turn -/
def forL (g : DTG) (b : DTS) : List D → DEnds → List Slot → MS → Prop
  | [], E, δ, M => E.nx δ M
  | d :: r, E, δ, M => g d δ M fun δ1 M2 => b { E with nx := fun δ' M' => forL g b r E δ' M', ct := fun δ' M' => forL g b r E δ' M', bk := E.nx } δ1 M2
theorem for_unroll {wi : DTI} {g : DTG} {b : DTS} {E : DEnds} {δ : List Slot} {M : MS} {ds : List D} (hi : ∀ R : List D → MS → Prop, R ds M → wi δ M R) (h : forL g b ds E δ M) : dFor wi g b E δ M := by
  refine for_inv hi (fun i δ M => forL g b (ds.drop i) E δ M) h (fun i d δ M hd p => ?_) (fun δ M p => ?_)
  · have e : ds.drop i = d :: ds.drop (i + 1) := by
      obtain ⟨hlt, hget⟩ := List.getElem?_eq_some_iff.mp hd
      rw [List.drop_eq_getElem_cons hlt, hget]
    rw [e] at p
    exact p
  · rw [List.drop_length] at p
    exact p
theorem while_inv {c : DTT} {b : DTS} {E : DEnds} {δ : List Slot} {M : MS} (P : Nat → List Slot → MS → Prop) (m : Nat) (h0 : P m δ M)
    (hs : ∀ m δ M, P m δ M → c δ M fun r M1 => if r = true then b { E with nx := fun δ' M' => ∃ m', m' < m ∧ P m' δ' M', ct := fun δ' M' => ∃ m', m' < m ∧ P m' δ' M', bk := E.nx } δ M1 else E.nx δ M1) : dWhile c b E δ M :=
  ⟨P, ⟨m, h0⟩, hs⟩
theorem lc_inv {wi : DTI} {g : DTG} {tt : DTT} {te : DTE} {vs : List Nat} {δ : List Slot} {M : MS} {Q : List D → MS → Prop} {ds : List D} (hi : ∀ R : List D → MS → Prop, R ds M → wi δ M R) (P : Nat → List D → MS → Prop) (h0 : P 0 [] M)
    (hs : ∀ (i : Nat) (d : D) acc M, ds[i]? = some d → P i acc M → g d (wipeD δ vs) M fun δ2 M2 => tt δ2 M2 fun b M3 => if b = true then te δ2 M3 fun y M4 => acc.length < sizeLine ∧ P (i + 1) (acc ++ [y]) M4 else P (i + 1) acc M3)
    (he : ∀ acc M, P ds.length acc M → Q acc M) : dLc wi g tt te vs δ M Q := hi _ ⟨P, h0, hs, he⟩
theorem take_next {α : Type} : ∀ {l : List α} {i : Nat} {x : α}, l[i]? = some x → l.take (i + 1) = l.take i ++ [x]
  | [], i, x, h => by simp at h
  | a :: l, 0, x, h => by simp at h; subst h; simp
  | a :: l, i + 1, x, h => by
    have ih := take_next (l := l) (i := i) (x := x) (by simpa using h)
    rw [List.take_succ_cons, ih, List.take_succ_cons, List.cons_append]
theorem lc_map {wi : DTI} {g : DTG} {te : DTE} {vs : List Nat} {δ : List Slot} {M : MS} {Q : List D → MS → Prop} {ds : List D} (f : D → D) (hi : ∀ R : List D → MS → Prop, R ds M → wi δ M R) (hl : ds.length ≤ sizeLine)
    (he : ∀ d ∈ ds, ∀ Z : DQ, Z (f d) M → g d (wipeD δ vs) M fun δ2 M2 => te δ2 M2 Z) (q : Q (ds.map f) M) : dLc wi g dYes te vs δ M Q := by
  refine lc_inv hi (fun i acc M' => acc = (ds.take i).map f ∧ M' = M) ⟨by simp, rfl⟩ (fun i d acc M' hd ⟨h1, h2⟩ => ?_) (fun acc M' ⟨h1, h2⟩ => ?_)
  · subst h1
    rw [h2]
    have hlt := (List.getElem?_eq_some_iff.mp hd).1
    refine he d (List.mem_of_getElem? hd) _ ⟨?_, ?_, rfl⟩
    · rw [List.length_map, List.length_take]; omega
    · rw [take_next hd, List.map_append]; rfl
  · rw [h1, h2, List.take_length]
    exact q
theorem dYes_app {δ : List Slot} {M : MS} {Q : Bool → MS → Prop} : dYes δ M Q = Q true M := rfl
/-- with a test: c tells which items are kept -/
theorem lc_filter {wi : DTI} {g : DTG} {tt : DTT} {te : DTE} {vs : List Nat} {δ : List Slot} {M : MS} {Q : List D → MS → Prop} {ds : List D} (c : D → Bool) (f : D → D) (hi : ∀ R : List D → MS → Prop, R ds M → wi δ M R) (hl : ds.length ≤ sizeLine)
    (he : ∀ d ∈ ds, ∀ (Z : DQ) (N : MS → Prop), (c d = true → Z (f d) M) → (c d = false → N M) → g d (wipeD δ vs) M fun δ2 M2 => tt δ2 M2 fun b M3 => if b = true then te δ2 M3 Z else N M3) (q : Q ((ds.filter c).map f) M) : dLc wi g tt te vs δ M Q := by
  refine lc_inv hi (fun i acc M' => acc = ((ds.take i).filter c).map f ∧ M' = M) ⟨by simp, rfl⟩ (fun i d acc M' hd ⟨h1, h2⟩ => ?_) (fun acc M' ⟨h1, h2⟩ => ?_)
  · subst h1
    rw [h2]
    have hlt := (List.getElem?_eq_some_iff.mp hd).1
    refine he d (List.mem_of_getElem? hd) _ (fun M3 => _ ∧ M3 = M) (fun hc => ⟨?_, ?_, rfl⟩) (fun hc => ⟨?_, rfl⟩)
    · have := List.length_filter_le c (ds.take i)
      rw [List.length_take] at this
      rw [List.length_map]; omega
    · rw [take_next hd, List.filter_append, List.map_append]
      simp [hc]
    · rw [take_next hd, List.filter_append, List.map_append]
      simp [hc]
  · rw [h1, h2, List.take_length]
    exact q
theorem map_get {α β : Type} {f : α → β} {l : List α} {i : Nat} {d : β} (h : (l.map f)[i]? = some d) : ∃ n, l[i]? = some n ∧ d = f n := by
  rw [List.getElem?_map] at h
  cases e : l[i]? with
  | none => rw [e] at h; cases h
  | some n => rw [e] at h; exact ⟨n, rfl, (Option.some.inj h).symm⟩
theorem size_small {n : Nat} (h : n ≤ 100000) : n ≤ sizeLine := Nat.le_trans h (by decide)
theorem size_lt {n : Nat} (h : n < 100000) : n < sizeLine := Nat.lt_of_lt_of_le h (by decide)
end DL

/-! DL, part i: exceptions of the program's own classes raised. -/
namespace DL
open PySem PySem.Spec PyProof.Rows L2

/-- where the program's error classes stand -/
class Cls where
  (WrapCluesError InvalidText InvalidWidth InvalidNumber InvalidScreens ScreensClash InvalidPosition NotFitting InvalidLengths InvalidRange InvalidIndex NothingToUndo ParseError InvalidCommand NoScreens : Addr)
  (Line Album Reader Console : Addr)

abbrev excTail : List Value := [.type "ValueError", .type "Exception", .type "BaseException", .type "object"]
/-- a class over ValueError without an __init__ of its own -/
structure ExcT (K : PySem.W.Frag) (mg : Str → Option Value) (x : Str) (C : Addr) : Prop where
  g : mg x = some (.ref C)
  q : PySem.W.excIn K C excTail "ValueError.__new__" = true
  k : PySem.W.keepIn K (.ref C) = true
  s : PySem.W.subIn K (.ref C) (.type "BaseException") = some true
  t : PySem.W.typeIn K (.ref C) = some (.type "type")

section
variable {X : Cx} {O : Hp → MS → Prop} {W : WX} {X' : DXK} {x m : Str} {C : Addr} {j : Nat} {p p2 pos pos2 : Pos}
def dRaise (X' : DXK) (C : Addr) : DTS := fun _ _ M => X' (.ref C) none M
theorem ds_raise (hc : X.calm = true) (xw : XW X O W X') (e : ExcT X.K X.mg x C) (hg : Gl X x := by rfl) (hdb : (x == ("__debug__" : Str)) = false := by decide) :
    DS X O (.Raise (some (.Call (.Name x p) [.Constant (.str m) j p2] [] pos)) none pos2) (dRaise X' C) := by
  refine ⟨fun G0 F0 ok => (ps_raise hc xw.tk (pmk_own PySem.F.excBase_ValueError e.q e.g e.k (raises_own e.s e.t) hg hdb)).weak fun E σ H ⟨G, M, F, δ, E', S, q, cv⟩ => ?_⟩
  exact xw.w G0 F0 G M F H σ δ (.ref C) none none ok q S trivial
end
end DL

/-! DL, part j: repr, sorted of a dict, list(range), stores, dict comprehensions, update. -/
namespace DL
open PySem PySem.Spec PyProof.Rows L2

/-! ### repr -/
def Shows (x : D) (t : Str) : Prop := ∃ p, toPy x = some p ∧ isDisplay p = true ∧ p.showable = true ∧ p.hasDict = false ∧ p.depth ≤ 60 ∧ p.shown.length ≤ sizeLine ∧ p.shown = t
def kRepr (xs : List D) (M : MS) (Q : DQ) : Prop := match xs with
  | [x] => ∃ t, Shows x t ∧ Q (.str t) M
  | _ => False
/-! ### sorted of a dict's keys -/
def keysD : List (Key × D) → Option (List Int)
  | [] => some []
  | (.inl i, _) :: r => (keysD r).map (i :: ·)
  | _ => none
theorem keysD_iff : ∀ {ds : List (Key × D)} {ns : List Int}, keysD ds = some ns → ds.map (·.1) = ns.map Sum.inl
  | [], ns, h => by cases h; rfl
  | (.inl i, _) :: r, ns, h => by
    simp only [keysD, Option.map_eq_some_iff] at h
    obtain ⟨ms, h1, rfl⟩ := h
    rw [List.map_cons, List.map_cons, keysD_iff h1]
  | (.inr _, _) :: _, _, h => nomatch h
theorem Drk.keys {K : PySem.W.Frag} {G : Hp} : ∀ {ws : List (Key × V)} {ds : List (Key × D)}, Drk K G ws ds → ws.map (·.1) = ds.map (·.1)
  | _, _, .nil => rfl
  | _, _, .cons _ t => by rw [List.map_cons, List.map_cons, t.keys]
def kSortedD (xs : List D) (M : MS) (Q : List D → MS → Prop) : Prop := match xs with
  | [.dic ds] => ∃ ns, keysD ds = some ns ∧ ∀ ms : List Int, ms.Perm ns → ms.Pairwise (· ≤ ·) → Q (ms.map .int) M
  | _ => False
section
variable {X : Cx} {O : Hp → MS → Prop} {K : PySem.W.Frag} {G : Hp} {F : MS} {vs : List V} {d e : D}
theorem c_repr (hg : X.A.guards = some []) (hu : X.A.units + 64 < cLine) : CallR X (.builtin "repr") (lC X.K kRepr) := by
  intro pins s σ H xs us Q I rx ⟨G, M, F, ds, Q', W, rr, q, cv⟩
  unfold kRepr at q
  split at q
  · obtain ⟨v, rfl, r⟩ := rr.one
    obtain ⟨t, ⟨p, h1, h2, h3, h4, h5, h6, rfl⟩, q⟩ := q
    obtain ⟨u, eu, rv⟩ := vals1 rx
    subst eu
    obtain ⟨as, r1⟩ := Dp.reads I p v u (r.dp W h1) rv
    obtain ⟨a, rfl⟩ := isRef_of_reads r1 h2
    refine repr_of_reads' r1 h3 (PyData.noDict_hsm h4) hg (by omega) (fun _ _ z => z) (fun h' u tk hk => ?_) h6
    exact ⟨.str p.shown, H, I.kept hk, ⟨u, rfl⟩, cv.at_ W q (.str _)⟩
  · exact q.elim
theorem call_sortedDk (hcalm : X.calm = true) : CallR X (.builtin "sorted") (fun xs H Q => ∃ (a : Addr) (kvs : List (Key × V)) (ks : List Int), xs = [.ref a] ∧ H a = some (.dK kvs) ∧ kvs.map (·.1) = ks.map Sum.inl ∧
    ∀ (ys : List Int) (p : Addr), ys.Perm ks → ys.Pairwise (· ≤ ·) → H p = none → Q (.ref p) (upd H p (.lst (ys.map V.int)))) := by
  intro pins s σ H xs us Q I r ⟨a, kvs, ks, ex, hd0, hks, q⟩
  subst ex
  obtain ⟨u, eu, rx⟩ := vals1 r
  subst eu
  cases rx
  obtain ⟨z, lo, vs, rel, dd⟩ := dk_of I.hok hd0
  obtain ⟨ep, hat⟩ := dd.dictAt
  have hkeys : vs.map (·.1) = ks.map Sum.inl := rel.keys.symm.trans hks
  have hl : vs.length = ks.length := by
    have e := congrArg List.length hkeys
    rw [List.length_map, List.length_map] at e
    exact e
  have h16 : vs.length ≤ sizeLine := by rw [← rel.length]; exact z
  refine Calls.call_function_entry PyProof.Rows.kind_sorted PyProof.Rows.plain_sorted PyProof.Rows.entry_sorted (PyProof.Rows.args_sorted1 _) ?_
  unfold Builtin.«sorted»
  refine wpAny_bind (m := checkCount "sorted" 1 1 _) (wpAny_pure ?_)
  refine wpAny_bind (PySem.W.kdu_collect (A := X.A.in1) (PySem.W.kdl_dict (knd := mixKind X.prog X.w) (kvs := vs) (ep := ep) lo) (I.ok.hd hcalm) hat h16 fun h' tk acc hk hacc => ?_)
  have hal : acc.toList.length = ks.length := by rw [Array.length_toList, hacc.1, hl]
  have hS : IntsAre acc.toList ks := ints_each hal fun j v e => by
    obtain ⟨k, x, e1, e2⟩ := hacc.2 j v (by rw [← Array.getElem?_toList]; exact e)
    have e3 : (vs.map (·.1))[j]? = some k := by rw [List.getElem?_map, e1]; rfl
    rw [hkeys, List.getElem?_map] at e3
    cases e4 : ks[j]? with
    | none => rw [e4] at e3; cases e3
    | some y =>
      rw [e4] at e3
      have e5 : Sum.inl y = k := Option.some.inj e3
      subst e5
      rcases keyIs_shape (show keyIs (Sum.inl y) v = true from e2) with ⟨i, t, ek, ev⟩ | ⟨z, t, ek, ev⟩
      · cases ek
        exact ⟨y, t, rfl, ev⟩
      · cases ek
  have I1 : Inv X pins σ H { s with heap := h', toks := tk } := I.kept hk
  have hals : acc.toList.length ≤ sizeLine := by rw [hal, ← hl]; exact h16
  refine wpAny_bind (wpAny_newList ?_ (by rw [hal, ← hl]; omega))
  have hoL : (h'.push (seqObj "list" acc.toList.toArray 0)).get? h'.objs.size = some (seqObj "list" acc.toList.toArray 0) := Heap.get?_push_size _ rfl
  show wpAny _ _ _ _ _ { s with heap := h'.push (seqObj "list" acc.toList.toArray 0), toks := tk }
  refine wpAny_bind (wpAny_holding (wpAny_call_entry PyProof.Rows.slot_list_sort ⟨_, hoL, rfl⟩ PyProof.Rows.entry_list_sort
    (SrtO.list_sort_ord (s := { s with heap := h'.push (seqObj "list" acc.toList.toArray 0), toks := tk }) SrtO.swo_int hoL hals (fun h2 => SrtO.ints_sortable hS h2) fun out h1 h2 => ⟨_, rfl, ?_⟩) (PyProof.Rows.args_list_sort _)))
  obtain ⟨k1, k2, k3⟩ := SrtO.ints_out hS h1 h2
  obtain ⟨e', he'⟩ := PyProof.Rows.sortedHeap_at (vs := acc.toList) (out := out.toArray) hoL
  have hlen : ((out.map SrtO.iv).map V.int).length ≤ sizeLine := by
    rw [List.length_map, k2.length_eq, ← hal]
    exact hals
  refine wpAny_pure ⟨_, rfl, .ref h'.objs.size, upd H h'.objs.size (.lst ((out.map SrtO.iv).map V.int)), I1.laid (t' := tk) (fun b u e => ?_) (Nat.le_refl _)
    (show ObjOk X.prog X.w _ _ _ (.lst ((out.map SrtO.iv).map V.int)) from ⟨hlen, out, e', vals_of_ints k1, he'⟩), rfl, q _ _ k2 k3 (I1.hok.fresh (Nat.le_refl _))⟩
  have hb : b < h'.objs.size := Heap.lt_size e
  rw [PyProof.Rows.sortedHeap_old (Nat.ne_of_lt hb) (by rw [size_push']; exact Nat.lt_succ_of_lt hb)]
  exact Heap.get?_push_of_some _ e
theorem c_sortedD (hc : X.calm = true) : CallR X (.builtin "sorted") (lCF X.K kSortedD) := by
  intro pins s σ H xs us Q I rx ⟨G, M, F, ds, Q', W, rr, q, cv⟩
  unfold kSortedD at q
  split at q
  · obtain ⟨v, rfl, r⟩ := rr.one
    obtain ⟨ns, hn, q⟩ := q
    obtain ⟨p, vs, rfl, h1, h2⟩ := r.dic W
    exact call_sortedDk hc pins s σ H _ us Q I rx ⟨p, vs, ns, rfl, h1, by rw [h2.keys]; exact keysD_iff hn, fun ms p hp h3 h4 => cv _ _ _ _ _ _ (q ms hp h3) W h4 (Drs.of_ints ms) (Same.refl _)⟩
  · exact q.elim
end
section
variable {X : Cx} {O : Hp → MS → Prop} {a b c e : Expr} {ta tb tk te tv : DTE} {pos p p1 p2 p3 p4 : Pos}
/-- list(range(a, b)) -/
def dfRg2 (ta tb : DTE) : List Slot → MS → (List D → MS → Prop) → Prop := fun δ M Q => ta δ M fun x M1 => tb δ M1 fun y M2 => match x, y with
  | .int i, .int j => RgOk i j ∧ Q (rangeD i (j - i).toNat) M2
  | _, _ => False
theorem rg_drs {K : PySem.W.Frag} {G : Hp} (i j : Int) : Drs K G (rgV i j) (rangeD i (j - i).toNat) := by
  unfold rgV rangeD
  generalize (j - i).toNat = n
  induction List.range n with
  | nil => exact .nil
  | cons x l ih => exact .cons (.int _) ih
theorem df_rg2 (hg : Gl X "list") (hc : X.calm = true) (hm : X.mg "list" = none) (hg2 : Gl X "range") (hm2 : X.mg "range" = none) (ha : DE X O a ta) (hb : DE X O b tb)
    (na : starEach [a, b] X.env = (false, eval a X.env) :: starEach [b] X.env := by rfl) (nb : starEach [b] X.env = (false, eval b X.env) :: starEach [] X.env := by rfl) (hp : (backTo p3 (starEach [b] X.env)).any (·.1) = false := by rfl)
    (nr : starEach [.Call (.Name "range" p2) [a, b] [] p3] X.env = (false, eval (.Call (.Name "range" p2) [a, b] [] p3) X.env) :: starEach [] X.env := by rfl) :
    DF X O (.Call (.Name "list" p1) [.Call (.Name "range" p2) [a, b] [] p3] [] p4) (dfRg2 ta tb) := by
  refine ⟨(pe_listRg hc hg hm (prg_2 hg2 hm2 ha.pe hb.pe na nb hp) nr).weak fun σ H Q ⟨G0, F0, G, M, F, δ, Q', xo, S, q, cv⟩ => ?_⟩
  refine ⟨G0, F0, G, M, F, δ, _, xo, S, q, fun d M1 v G1 H1 q1 S1 s1 r1 => ?_⟩
  refine ⟨G0, F0, G1, M1, F, δ, _, xo, S1, q1, fun d2 M2 v2 G2 H2 q2 S2 s2 r2 => ?_⟩
  split at q2
  · cases r1; cases r2
    exact ⟨_, _, rfl, rfl, q2.1, fun l hl => cv _ _ _ _ _ _ q2.2 S2 hl (rg_drs _ _) (s1.trans s2)⟩
  · exact q2.elim
/-- a store into a mutable list of M -/
def dPutM (to tk te : DTE) : DTS := fun E δ M => te δ M fun d M1 => to δ M1 fun o M2 => tk δ M2 fun k M3 => match o, k with
  | .raw (.ref p), .int z => ∃ ds j, M3 p = some (.lst ds) ∧ ixN ds.length z = some j ∧ E.nx δ (updM M3 p (.lst (ds.set j d)))
  | _, _ => False
theorem ds_putM {to : DTE} (ho : DE X O b to) (hk : DE X O c tk) (he : DE X O e te)
    (ha : ∀ v, assign (.Subscript b c p2) X.env v = (do
      let ov ← holding [v] (eval b X.env)
      let iv ← holding [v, ov] (eval c X.env)
      standAt p2
      holding [v, ov, iv] (setItem ov iv v)
      release [v, ov, iv] []) := by intro _; rfl)
    (hs : swapsWithSole [.Subscript b c p2] e pos.line X.env = pure false := by rfl) (hw : swappedStores [.Subscript b c p2] e X.env = pure none := by rfl)
    (h1 : (assignEach [.Subscript b c p2] X.env).map (·.2) = [assign (.Subscript b c p2) X.env] := by rfl) :
    DS X O (.Assign [.Subscript b c p2] e pos) (dPutM to tk te) := by
  refine ⟨fun G0 F0 ok => (ps_asg he.pe (pg_sub ho.pe hk.pe set_list ha) hs hw h1).weak fun E σ H ⟨G, M, F, δ, E', S, q, cv⟩ => ?_⟩
  refine ⟨G0, F0, G, M, F, δ, _, ok, S, q, fun d M1 v G1 H1 q1 S1 s1 r1 => ?_⟩
  refine ⟨G0, F0, G1, M1, F, δ, _, ok, S1, q1, fun o M2 u G2 H2 q2 S2 s2 r2 => ?_⟩
  refine ⟨G0, F0, G2, M2, F, δ, _, ok, S2, q2, fun k M3 w G3 H3 q3 S3 s3 r3 => ?_⟩
  split at q3
  · obtain ⟨ds, j, hp, hj, q3⟩ := q3
    cases r2; cases r3
    obtain ⟨vs, hH, hr, _⟩ := S3.wd.lst_atM hp
    refine ⟨_, vs, _, j, rfl, rfl, hH, by rw [hr.len]; exact hj, ?_⟩
    exact cv.nx _ _ _ _ _ _ (S3.upd (S3.wd.setL hp (hr.set (r1.mono (s2.trans s3)) j)) (Same.refl _)) q3
  · exact q3.elim
end
end DL

/-! DL, part k: a store into a slice, dict comprehensions, update, d[k] = v. -/
namespace DL
open PySem PySem.Spec PyProof.Rows L2

section
variable {X : Cx} {O : Hp → MS → Prop} {lo hi o e : Expr} {to te : TE} {tl th : TO} {pos p5 p2 : Pos} {x : Str} {i : Nat}
/-- xs[lo:hi] = .., by values -/
def gPutS (to : TE) (tl th : TO) : TG := fun v σ H Q => to σ H fun x H1 => tl σ H1 fun lo H2 => th σ H2 fun hi H3 => ∃ l b xs ys a c, x = .ref l ∧ v = .ref b ∧ lo = some a ∧ hi = some c ∧ H3 l = some (.lst xs) ∧ H3 b = some (.lst ys) ∧ l ≠ b ∧
  0 ≤ a ∧ a ≤ c ∧ c ≤ (xs.length : Nat) ∧ xs.length + ys.length ≤ sizeLine ∧ Q σ (L2.upd H3 l (.lst (xs.take a.toNat ++ ys ++ xs.drop c.toNat)))
theorem pg_putS (ho : PE X o to) (hl : PO X (some lo) tl) (hh : PO X (some hi) th)
    (ha : ∀ v, assign (.Subscript o (.Slice (some lo) (some hi) none p5) p2) X.env v = (do
      let ov ← holding [v] (eval o X.env)
      let iv ← holding [v, ov] (eval (.Slice (some lo) (some hi) none p5) X.env)
      standAt p2
      holding [v, ov, iv] (setItem ov iv v)
      release [iv, v, ov] [])) : PG X (.Subscript o (.Slice (some lo) (some hi) none p5) p2) (gPutS to tl th) := by
  refine ⟨fun pins s σ H v u Q I r h => ?_⟩
  rw [ha]
  refine wpAny_bind (wpAny_holding (thn (ho.run pins s σ H _ I h) fun ov s1 ⟨x, H1, I1, r1, q1⟩ => ?_))
  refine wpAny_bind (wpAny_holding ?_)
  refine wpAny_Slice (thn (hl.run pins s1 σ H1 _ I1 q1) fun vl s2 ⟨l, H2, I2, pl, q2⟩ => thn (hh.run pins s2 σ H2 _ I2 q2) fun vu s3 ⟨u', H3, I3, pu, q3⟩ => ?_)
  rw [evalPart_none]
  refine wpAny_pure ?_
  have I4 : Inv X pins σ H3 { s3 with heap := s3.heap.push { cls := .type "slice", data := .fields #[vl, vu, .none] } } := I3.kept (t' := s3.toks) fun b ob q => Heap.get?_push_of_some _ q
  obtain ⟨l', b, xs, ys, a, c, rfl, rfl, rfl, rfl, h1, h2, hne, h0, hac, hc, hz, q⟩ := q3
  cases r1
  cases r
  have ra : RelV (.int a) vl := by cases pl with | int i t => exact ⟨t, rfl⟩
  have rc : RelV (.int c) vu := by cases pu with | int i t => exact ⟨t, rfl⟩
  refine wpAny_bind (wpAny_standAt (wpAny_bind (wpAny_holding ?_)))
  refine set_slice (s := { s3 with heap := s3.heap.push { cls := .type "slice", data := .fields #[vl, vu, .none] } }) I4 h1 h2 hne (Heap.IsSliceOf.new ..) ra rc h0 hac hc hz fun s5 I5 => ?_
  exact wpAny_release ⟨σ, _, I5, q⟩
end
section
variable {X : Cx} {O : Hp → MS → Prop} {lo hi e c : Expr} {te tk : DTE} {tl th : DTO} {tf : List Slot → MS → (List D → MS → Prop) → Prop} {pos p1 p2 p5 : Pos} {x : Str}
def dPutS (i : Nat) (tl th : DTO) (tf : List Slot → MS → (List D → MS → Prop) → Prop) : DTS := fun E δ M => match δ[i]? with
  | some (.ow ds) => tf δ M fun es M1 => tl δ M1 fun x M2 => th δ M2 fun y M3 => ∃ a c, x = some a ∧ y = some c ∧ 0 ≤ a ∧ a ≤ c ∧ c ≤ (ds.length : Nat) ∧ ds.length + es.length ≤ sizeLine ∧ E.nx (δ.set i (.ow (ds.take a.toNat ++ es ++ ds.drop c.toNat))) M3
  | _ => False
theorem Drs.splice {K : PySem.W.Frag} {G : Hp} {vs ws : List V} {ds es : List D} (h : Drs K G vs ds) (h2 : Drs K G ws es) (a c : Nat) : Drs K G (vs.take a ++ ws ++ vs.drop c) (ds.take a ++ es ++ ds.drop c) := ((h.take a).app h2).app (h.drop c)
theorem ds_putS (i : Nat) (hl : DO X O (some lo) tl) (hh : DO X O (some hi) th) (he : DF X O e tf) (hN : X.N[i]? = some x := by rfl) (hv : Vis X.env.scope x := by first | exact Or.inl rfl | exact Or.inr (Or.inl rfl) | exact Or.inr (Or.inr rfl)) (hd : (x == ("__debug__" : Str)) = false := by decide)
    (hcd : (x == ("__classdict__" : Str)) = false := by decide)
    (ha : ∀ v, assign (.Subscript (.Name x p1) (.Slice (some lo) (some hi) none p5) p2) X.env v = (do
      let ov ← holding [v] (eval (.Name x p1) X.env)
      let iv ← holding [v, ov] (eval (.Slice (some lo) (some hi) none p5) X.env)
      standAt p2
      holding [v, ov, iv] (setItem ov iv v)
      release [iv, v, ov] []) := by intro _; rfl)
    (hs : swapsWithSole [.Subscript (.Name x p1) (.Slice (some lo) (some hi) none p5) p2] e pos.line X.env = pure false := by rfl) (hw : swappedStores [.Subscript (.Name x p1) (.Slice (some lo) (some hi) none p5) p2] e X.env = pure none := by rfl)
    (h1 : (assignEach [.Subscript (.Name x p1) (.Slice (some lo) (some hi) none p5) p2] X.env).map (·.2) = [assign (.Subscript (.Name x p1) (.Slice (some lo) (some hi) none p5) p2) X.env] := by rfl) :
    DS X O (.Assign [.Subscript (.Name x p1) (.Slice (some lo) (some hi) none p5) p2] e pos) (dPutS i tl th tf) := by
  refine ⟨fun G0 F0 ok => (ps_asg he.pe (pg_putS (pe_var hN hv hd hcd) hl.po hh.po ha) hs hw h1).weak fun E σ H ⟨G, M, F, δ, E', S, q, cv⟩ => ?_⟩
  unfold dPutS at q
  split at q
  · rename_i ds hδ
    obtain ⟨l, h1, hF, h0⟩ := S.sl.ow i ds hδ
    refine ⟨G0, F0, G, M, F, δ, _, ok, S, q, fun es M1 p ws G1 H1 q1 S1 hp r1 s1 => ?_⟩
    have hlp : l ≠ p := fun z => by
      obtain ⟨vs, hH, _, _⟩ := S1.wd.lst_at hF
      rw [z, hp] at hH
      cases hH
    have fp := (S1.wd.mfree hp).2
    have S2 := S1.frame hp (c := .lst es) (o := .lst ws) ⟨ws, if_pos rfl, r1⟩
    refine ⟨_, h1, G0, F0, G1, M1, updM F p (.lst es), δ, _, ok, S2, q1, fun lo M2 G2 H2 q2 S3 s2 => ?_⟩
    refine ⟨G0, F0, G2, M2, updM F p (.lst es), δ, _, ok, S3, q2, fun hi M3 G3 H3 q3 S4 s3 => ?_⟩
    obtain ⟨a, c, rfl, rfl, h3, h4, h5, h6, q3⟩ := q3
    have hF4 : updM F p (.lst es) l = some (.lst ds) := by rw [updM_ne hlp]; exact hF
    obtain ⟨vs, hH, hr, _⟩ := S4.wd.lst_at hF4
    obtain ⟨ws', hH', hr', _⟩ := S4.wd.lst_at (p := p) updM_same
    refine ⟨l, p, vs, ws', a, c, rfl, rfl, rfl, rfl, hH, hH', hlp, h3, h4, by rw [hr.len]; exact h5, by rw [hr.len, hr'.len]; exact h6, ?_⟩
    exact cv.nx _ _ _ _ _ _ (S4.put hδ rfl h1 h0 (S4.wd.setLF hF4 (hr.splice hr' a.toNat c.toNat)) (.inl ⟨_, rfl, rfl⟩)) q3
  · exact q.elim
end
/-! ### dict comprehensions -/
section
variable {X : Cx} {O : Hp → MS → Prop} {kx vx tg iter : Expr} {ifs : List Expr} {scope : Scope} {own : List (Str × Nat)} {pos spos py : Pos} {wi : DTI} {g : DTG} {tt : DTT} {tk te : DTE} {is : List Nat}
def dDc (wi : DTI) (g : DTG) (tt : DTT) (tk te : DTE) (vs : List Nat) : DTE := fun δ M Q => wi δ M fun ds M1 => ∃ P : Nat → List (Key × D) → MS → Prop, P 0 [] M1 ∧
  (∀ (i : Nat) (d : D) acc M, ds[i]? = some d → P i acc M → g d (wipeD δ vs) M fun δ2 M2 => tt δ2 M2 fun b M3 => if b = true then tk δ2 M3 fun y M4 => te δ2 M4 fun z M5 => ∃ k, keyD y = some k ∧ acc.length < sizeLine ∧ P (i + 1) (putD acc k z) M5 else P (i + 1) acc M3) ∧ ∀ acc M, P ds.length acc M → Q (.dic acc) M
theorem lift_dc {K : PySem.W.Frag} {vs : List Nat} (hvs : ∀ j ∈ is, j ∈ vs) {σ : L2.St} {H : Hp} {Q : VK} (h : lE K O (dDc wi g tt tk te vs) σ H Q) : tDc (lI K O wi) (lG K OT is g) (lT K OT tt) (lE K OT tk) (lE K OT te) vs σ H Q := by
  obtain ⟨G0, F0, G, M, F, δ, Q', xo, S, q, cv⟩ := h
  refine ⟨G0, F0, G, M, F, δ, _, xo, S, q, fun ds M1 J G1 H1 q1 S1 s1 wk => ?_⟩
  obtain ⟨P, p0, ps, pe⟩ := q1
  intro L hL
  have fL := (S1.wd.mfree hL).2
  have f0L := S1.f0none fL
  have nL := S1.noOwn fL
  refine ⟨fun i m H' => m = ds.length - i ∧ i ≤ ds.length ∧ ∃ G' M' acc, St K G0 F0 G' M' (updM F L (.dic acc)) H' σ δ ∧ Same G1 G' ∧ P i acc M',
    ⟨ds.length, rfl, Nat.zero_le _, G1, M1, [], S1.frame hL (c := .dic []) ⟨[], if_pos rfl, .nil⟩, Same.refl _, p0⟩, ?_⟩
  rintro i m H' ⟨rfl, hi, G', M', acc, S', sg', p'⟩
  by_cases hlt : i < ds.length
  · refine .inr ⟨wk.go i _ _ _ _ _ _ _ _ sg' S' hlt, fun H2 => i + 1 ≤ ds.length ∧ ∃ G' M' acc, St K G0 F0 G' M' (updM F L (.dic acc)) H2 σ δ ∧ Same G1 G' ∧ P (i + 1) acc M', fun H2 ⟨h1, h2⟩ => ⟨ds.length - (i + 1), by omega, rfl, h1, h2⟩, fun x H2 hy => ?_⟩
    obtain ⟨d, hd⟩ := getElem?_of_lt hlt
    obtain ⟨G2, S2, s2, r2⟩ := wk.yld i _ _ _ _ _ _ _ _ x H2 d sg' S' hd hy
    refine ⟨G0, F0, G2, M', _, _, d, _, trivial, S2.wipe vs, r2, ps i d acc M' hd p', fun σ3 δ3 G3 M3 H3 q3 S3 s3 l3 k3 => ⟨wipe_same l3 k3 hvs, ?_⟩⟩
    refine ⟨G0, F0, G3, M3, _, δ3, _, trivial, S3, q3, fun b M4 G4 H4 q4 S4 s4 => ?_⟩
    have sg4 : Same G' G4 := s2.trans (s3.trans s4)
    cases b with
    | true =>
      refine ⟨G0, F0, G4, M4, _, δ3, _, trivial, S4, q4, fun y M5 u G5 H5 q5 S5 s5 r5 => ?_⟩
      refine ⟨G0, F0, G5, M5, _, δ3, _, trivial, S5, q5, fun z M6 v G6 H6 q6 S6 s6 r6 => ?_⟩
      obtain ⟨k, hk, hz, q6⟩ := q6
      obtain ⟨ws, hws, hr, _⟩ := S6.wd.dic_at (p := L) updM_same
      have sg6 : Same G' G6 := sg4.trans (s5.trans s6)
      refine ⟨ws, k, key_of (F := fun _ => none) (.inl r5) hk, hws, by rw [hr.len]; exact hz, hlt, G6, M6, putD acc k z, ?_, sg'.trans sg6, q6⟩
      have S7 := (S'.upd S6.wd sg6)
      have W7 := S6.wd.setDF updM_same (drk_put hr k r6)
      have S8 := S7.setF (c' := .dic (putD acc k z)) f0L nL W7
      rw [updM_updM] at S8
      exact S8
    | false =>
      exact ⟨hlt, G4, M4, acc, S'.upd S4.wd sg4, sg'.trans sg4, q4⟩
  · have e : i = ds.length := by omega
    subst e
    obtain ⟨ws, hws, hr, hG⟩ := S'.wd.dic_at (p := L) updM_same
    refine .inl ⟨wk.stop _ _ _ _ _ _ _ _ _ sg' S' (Nat.le_refl _), ?_⟩
    have S8 := S'.unlay (fun _ => trivial) fL f0L nL hG
    have eH : L2.upd (fun b => if b = L then none else H' b) L (.dK ws) = H' := by
      funext b
      by_cases hb : b = L
      · rw [hb, upd_same, hws]
      · rw [upd_ne hb, if_neg hb]
    have sa : Same G' (L2.upd G' L (.dK ws)) := same_upd hG
    have := cv (.dic acc) M' (.ref L) _ _ (pe acc M' p') (S8.upd (S8.wd.imm (o := .dK ws) (if_pos rfl)) sa) ((s1.trans sg').trans sa) (.dic upd_same (hr.mono sa))
    rw [eH] at this
    exact this
theorem de_dc (hc : X.calm = true) (hN : X.N.Nodup) (hi : DI X O tg iter wi) (ok : BlkOk X.N X.env.scope scope own)
    (hg : ∀ (s : Shared) (H : Hp) (C : Addr) (cl : List (Str × Addr)) (fp : List Addr), DG (X.blk s H scope (compEnvC scope cl C X.env) fp) OT tg is g) (ht : ∀ (s : Shared) (H : Hp) (C : Addr) (cl : List (Str × Addr)) (fp : List Addr), DTs (X.blk s H scope (compEnvC scope cl C X.env) fp) OT ifs tt)
    (hk : ∀ (s : Shared) (H : Hp) (C : Addr) (cl : List (Str × Addr)) (fp : List Addr), DE (X.blk s H scope (compEnvC scope cl C X.env) fp) OT kx tk)
    (he : ∀ (s : Shared) (H : Hp) (C : Addr) (cl : List (Str × Addr)) (fp : List Addr), DE (X.blk s H scope (compEnvC scope cl C X.env) fp) OT vx te) (hv : ∀ j ∈ is, j ∈ own.map (·.2) := by decide) (hs : ∀ x, foldedSetIterable iter X.env x = pure x := by intro _; rfl) :
    DE X O (.DictComp kx vx [⟨tg, iter, ifs, 0⟩] scope pos) (dDc wi g tt tk te (own.map (·.2))) :=
  ⟨(pe_dc hc hN hi.pi ok (fun s H C cl fp => (hg s H C cl fp).pg) (fun s H C cl fp => (ht s H C cl fp).pt) (fun s H C cl fp => (hk s H C cl fp).pe) (fun s H C cl fp => (he s H C cl fp).pe) hs).weak fun _ _ _ h => lift_dc hv h⟩
end
/-! ### update -/
def rDUpd : V → List V → Hp → VK → Prop := fun x vs H Q => ∃ (a b : Addr) (kvs more : List (Key × V)), x = .ref a ∧ vs = [.ref b] ∧ a ≠ b ∧ H a = some (.dK kvs) ∧ H b = some (.dK more) ∧ kvs.length + more.length ≤ sizeLine ∧
  Q .non (L2.upd H a (.dK (more.foldl (fun acc kv => putK acc kv.1 kv.2) kvs)))
theorem kv_merged : ∀ {more : List (Key × V)} {ms : List (Key × Value)} {kvs : List (Key × V)} {vs : List (Key × Value)}, KV more ms → KV kvs vs → KV (more.foldl (fun acc kv => putK acc kv.1 kv.2) kvs) (merged vs ms) := by
  intro more ms kvs vs h
  unfold merged
  unfold KV at h
  induction h generalizing kvs vs with
  | nil => exact fun r => r
  | @cons p q ps qs h t ih =>
    intro r
    rw [List.foldl_cons, List.foldl_cons]
    refine ih ?_
    obtain ⟨h1, h2⟩ := h
    rw [← h1]
    exact r.put _ h2
theorem foldl_put_le {more : List (Key × V)} : ∀ {kvs : List (Key × V)}, (more.foldl (fun acc kv => putK acc kv.1 kv.2) kvs).length ≤ kvs.length + more.length := by
  induction more with
  | nil => intro kvs; exact Nat.le_refl _
  | cons p ps ih =>
    intro kvs
    rw [List.foldl_cons, List.length_cons]
    have := @ih (putK kvs p.1 p.2)
    have := length_putK kvs p.1 p.2
    omega
theorem mtd_update {X : Cx} : MtR X "dict.update" rDUpd := by
  intro pins s σ H x vs v us Q I rx rv ⟨a, b, kvs, more, ex, ev, hne, ha, hb, hz, q⟩
  subst ex
  subst ev
  obtain rfl : v = Value.ref a := rx
  obtain ⟨u, eu, rb⟩ := vals1 rv
  subst eu
  obtain rfl : u = Value.ref b := rb
  obtain ⟨z, hd, vs, rel, dd⟩ := dk_of I.hok ha
  obtain ⟨z2, hd2, ms, rel2, dd2⟩ := dk_of I.hok hb
  refine call_meetsIn PySem.F.slot_dict_update dd.typeIs PySem.F.entry_dict_update (PySem.F.args_dict_update_2 _ _) (meets_dict_update (mixKind X.prog X.w) a b hne hd2) ⟨vs, ms, dd, dd2, by rw [← rel.length, ← rel2.length]; exact hz, fun h' dd' _ hs => ?_⟩
  have he : ∃ q, h'.get? a = some q := let ⟨q, _, _, hq, _⟩ := dd'; ⟨q, hq⟩
  exact ⟨.non, _, d_write (t' := s.toks) I (by rw [ha]; exact True.intro) hs he (dk_new (Nat.le_trans foldl_put_le hz) hd (kv_merged rel2 rel) dd'), rfl, q⟩
def mergeD (kvs more : List (Key × D)) : List (Key × D) := more.foldl (fun acc kv => putD acc kv.1 kv.2) kvs
theorem drk_merge {K : PySem.W.Frag} {G : Hp} : ∀ {ms : List (Key × V)} {es : List (Key × D)}, Drk K G ms es → ∀ {ws : List (Key × V)} {ds : List (Key × D)}, Drk K G ws ds → Drk K G (ms.foldl (fun acc kv => putK acc kv.1 kv.2) ws) (mergeD ds es)
  | _, _, .nil, _, _, h => h
  | _, _, .cons r t, _, _, h => drk_merge t (drk_put h _ r)
section
variable {X : Cx} {O : Hp → MS → Prop} {e c : Expr} {te tk : DTE} {pos : Pos} {x : Str}
def dUpd (i : Nat) (te : DTE) : DTS := fun E δ M => match δ[i]? with
  | some (.od kvs) => te δ M fun d M1 => match d with
    | .dic more => kvs.length + more.length ≤ sizeLine ∧ E.nx (δ.set i (.od (mergeD kvs more))) M1
    | _ => False
  | _ => False
theorem ds_upd {apos cpos : Pos} {p1 : Pos} (i : Nat) (he : DE X O e te) (hN : X.N[i]? = some x := by rfl) (hv : Vis X.env.scope x := by first | exact Or.inl rfl | exact Or.inr (Or.inl rfl) | exact Or.inr (Or.inr rfl)) (hd : (x == ("__debug__" : Str)) = false := by decide)
    (hcd : (x == ("__classdict__" : Str)) = false := by decide)
    (hbase : attributeBase (.Name x p1) "update" X.env (eval (.Name x p1) X.env) = eval (.Name x p1) X.env := by rfl)
    (hfew : ((backTo cpos (starEach (e :: []) X.env)).all (fun x => !x.1) && (backToKw cpos (keywordEach [] X.env)).all (fun x => x.1.isSome)
      && decide ((e :: []).length + ([] : List Keyword).length + (if ([] : List Keyword).isEmpty then 0 else 1) < 30)) = true := by rfl)
    (hline : (apos.endLine == cpos.line) = true := by rfl) (hs : starEach (e :: []) X.env = (false, eval e X.env) :: starEach [] X.env := by rfl) (hplain : (backTo cpos (starEach [] X.env)).any (·.1) = false := by rfl)
    (hsw : swapsWith (.Call (.Attribute (.Name x p1) "update" apos) [e] [] cpos) none pos.line X.env = pure false := by rfl) :
    DS X O (.Expr (.Call (.Attribute (.Name x p1) "update" apos) [e] [] cpos) pos) (dUpd i te) := by
  refine ⟨fun G0 F0 ok => (ps_expr (pe_bm PySem.F.plainAttrs_dict PySem.F.slot_dict_update PySem.F.type_dict_update mtd_update (pe_var hN hv hd hcd) (pa_cons he.pe pa_nil hs) hbase hfew hline hs hplain) hsw).weak fun E σ H ⟨G, M, F, δ, E', S, q, cv⟩ => ?_⟩
  unfold dUpd at q
  split at q
  · rename_i ds hδ
    obtain ⟨p, h1, hF, h0⟩ := S.sl.od i ds hδ
    obtain ⟨vs, hH, _, _⟩ := S.wd.dic_at hF
    refine ⟨_, h1, ?_, G0, F0, G, M, F, δ, _, ok, S, q, fun d M1 v G1 H1 q1 S1 s1 r1 => ?_⟩
    · exact .inr (.inr (.inl ⟨rfl, .inl ⟨vs, hH⟩⟩))
    obtain ⟨vs1, hH1, hr1, hG1⟩ := S1.wd.dic_at hF
    split at q1
    · cases r1 with
      | @dic b ws _ h2 h3 =>
      have hb := S1.wd.rep.g _ _ h2
      have hne : p ≠ b := fun z => by rw [z, h2] at hG1; cases hG1
      refine ⟨p, b, vs1, ws, rfl, rfl, hne, hH1, hb, by rw [hr1.len, h3.len]; exact q1.1, ?_⟩
      exact cv.nx _ _ _ _ _ _ (S1.put hδ rfl h1 h0 (S1.wd.setDF hF (drk_merge h3 hr1)) (.inr ⟨_, rfl, rfl⟩)) q1.2
    · exact q1.elim
  · exact q.elim
end
end DL

/-! DL, part l: keyword calls by places; what the top has left of a def. -/
namespace DL
open PySem PySem.Spec PyProof.Rows L2

def pick {α : Type} (ix : List Nat) (l : List α) : List α := ix.filterMap fun i => l[i]?
def kwG {α : Type} (n m : Nat) (ix : List Nat) (us ws : List α) : List α := if us.length = n ∧ ws.length = m then pick ix (us ++ ws) else []
theorem vals_get {vs : List V} {us : List Value} (h : Vals vs us) (i : Nat) : (vs[i]? = none ∧ us[i]? = none) ∨ ∃ v u, vs[i]? = some v ∧ us[i]? = some u ∧ RelV v u := by
  induction h generalizing i with
  | nil => exact .inl ⟨rfl, rfl⟩
  | cons r t ih =>
    cases i with
    | zero => exact .inr ⟨_, _, rfl, rfl, r⟩
    | succ i => simpa using ih i
theorem vals_pick {vs : List V} {us : List Value} (h : Vals vs us) : ∀ ix : List Nat, Vals (pick ix vs) (pick ix us)
  | [] => .nil
  | i :: r => by
    have t := vals_pick h r
    unfold pick at t ⊢
    rcases vals_get h i with ⟨h1, h2⟩ | ⟨v, u, h1, h2, h3⟩
    · rw [List.filterMap_cons_none h1, List.filterMap_cons_none h2]; exact t
    · rw [List.filterMap_cons_some h1, List.filterMap_cons_some h2]; exact .cons h3 t
theorem drs_pick {K : PySem.W.Frag} {G : Hp} {vs : List V} {ds : List D} (h : Drs K G vs ds) : ∀ ix : List Nat, Drs K G (pick ix vs) (pick ix ds)
  | [] => .nil
  | i :: r => by
    have t := drs_pick h r
    unfold pick at t ⊢
    cases hd : ds[i]? with
    | none =>
      have hv : vs[i]? = none := by
        rw [List.getElem?_eq_none_iff] at hd ⊢
        rw [h.len]; exact hd
      rw [List.filterMap_cons_none hv, List.filterMap_cons_none hd]; exact t
    | some d =>
      obtain ⟨v, h1, h2⟩ := h.get hd
      rw [List.filterMap_cons_some h1, List.filterMap_cons_some hd]; exact .cons h2 t
theorem kwb_mk {K : PySem.W.Frag} {fd : FuncData} {ps ks : List Str} {n m : Nat} {ix : List Nat} (hps : ps.length ≠ 0)
    (h : ∀ (s : Shared) (us ws : List Value), K.In s.heap → us.length = n → ws.length = m → BindsTo s fd ⟨us, ks.zip ws⟩ (ps.zip (pick ix (us ++ ws)))) : KwB K fd ps ks (kwG n m ix) (kwG n m ix) := by
  refine ⟨fun s us ws X hl => ?_, fun {vs us zs ws} r1 r2 => ?_⟩
  · unfold kwG at hl ⊢
    by_cases e : us.length = n ∧ ws.length = m
    · rw [if_pos e]
      exact h s us ws X e.1 e.2
    · rw [if_neg e] at hl
      exact absurd hl.symm hps
  · unfold kwG
    have l1 := r1.length
    have l2 := r2.length
    by_cases e : us.length = n ∧ ws.length = m
    · rw [if_pos e]
      refine ⟨pick ix (vs ++ zs), vals_pick (r1.append r2) ix, fun {G ds es} d1 d2 => ?_⟩
      have l3 := d1.len
      have l4 := d2.len
      rw [if_pos ⟨by rw [← l3, l1]; exact e.1, by rw [← l4, l2]; exact e.2⟩]
      exact drs_pick (d1.app d2) ix
    · rw [if_neg e]
      refine ⟨[], .nil, fun {G ds es} d1 d2 => ?_⟩
      have l3 := d1.len
      have l4 := d2.len
      rw [if_neg (fun z => e ⟨by rw [← l1, l3]; exact z.1, by rw [← l2, l4]; exact z.2⟩)]
      exact .nil
section
variable {K : PySem.W.Frag} {x qual : Str} {params : Arguments} {body : List Stmt} {scope : Scope} {f T : Addr} {fd : FuncData} {ps : List Str}
theorem fund_mk {oc : Value} {od an : Option Addr} {osl : Array (Option Value)} {kV doc pm cdv ct : Value} (l : K.lookup f = some ⟨oc, od, .func (PySem.W.fnOf x qual params body scope .none kV doc pm an cdv ct), osl⟩)
    (c : PySem.W.codeIn K cdv qual = true) (k : PySem.W.keepIn K (.ref f) = true) : FunD K x qual params body scope [] [] f (PySem.W.fnOf x qual params body scope .none kV doc pm an cdv ct) :=
  ⟨⟨oc, od, .none, kV, doc, pm, an, cdv, ct, osl, rfl, l, c, .inl ⟨rfl, rfl⟩, .inl rfl⟩, k⟩
theorem fund_mkD {oc : Value} {od an : Option Addr} {osl : Array (Option Value)} {kV doc pm cdv ct : Value} {o : Obj} {its : List Value} {n : Nat} {dvs : List V} (l : K.lookup f = some ⟨oc, od, .func (PySem.W.fnOf x qual params body scope (.ref T) kV doc pm an cdv ct), osl⟩)
    (c : PySem.W.codeIn K cdv qual = true) (k : PySem.W.keepIn K (.ref f) = true) (lT : K.lookup T = some o) (oT : o.data = .seq its.toArray n) (r : Vals dvs its) (hd : dvs ≠ []) : FunD K x qual params body scope dvs [] f (PySem.W.fnOf x qual params body scope (.ref T) kV doc pm an cdv ct) :=
  ⟨⟨oc, od, .ref T, kV, doc, pm, an, cdv, ct, osl, rfl, l, c, .inr ⟨hd, T, o, its, n, rfl, lT, oT, r⟩, .inl rfl⟩, k⟩
theorem bind_full {dvs : List V} (h : ∃ ds, Vals (dvs.drop dvs.length) ds ∧ Binds K fd ps ds) : Binds K fd ps [] := by
  obtain ⟨ds, h1, h2⟩ := h
  rw [List.drop_length] at h1
  cases h1
  exact h2
end
theorem gfn_none {P : Program} {w : World} {K : PySem.W.Frag} {mg : Str → Option Value} {base : Heap} {k : Nat} {f : Addr} {fd : FuncData} {ps : List Str} {Fd : DSp} (h : ∀ ds M Q X', ¬ Fd ds M Q X') (len : ∀ ds M Q X', Fd ds M Q X' → ds.length = ps.length) : GFn P w K mg base k f fd ps (liftSp K Fd) :=
  ⟨fun vs H Q E ⟨G, M, F0, ds, Q', X', W, r, q, _⟩ => (h _ _ _ _ q).elim, fun A outer s H args us vs Q E hr hg e0 hb r ⟨G, M, F0, ds, Q', X', W, rr, q, _⟩ => (h _ _ _ _ q).elim⟩
/-! a new list handed out as a mutable cell -/
def dRetM (tf : List Slot → MS → (List D → MS → Prop) → Prop) : DTS := fun E δ M => tf δ M fun ds M1 => ∀ p, M1 p = none → E.rt (.raw (.ref p)) (updM M1 p (.lst ds))
theorem ds_retM {X : Cx} {O : Hp → MS → Prop} {e : Expr} {pos : Pos} {tf : List Slot → MS → (List D → MS → Prop) → Prop} (he : DF X O e tf) : DS X O (.Return (some e) pos) (dRetM tf) := by
  refine ⟨fun G0 F0 ok => (ps_ret he.pe).weak fun E σ H ⟨G, M, F, δ, E', S, q, cv⟩ => ?_⟩
  refine ⟨G0, F0, G, M, F, δ, _, ok, S, q, fun ds M1 p vs G1 H1 q1 S1 hp r1 s1 => ?_⟩
  exact cv.rt _ _ _ _ _ ((S1.wd.less S1.f0).cell hp (c := .lst ds) (o := .lst vs) ⟨vs, if_pos rfl, r1⟩) S1.g0 (.raw _) (q1 p (S1.wd.mfree hp).1)
/-! is True, is False -/
def kIsB (x y : D) (M : MS) (Q : DQ) : Prop := match x, y with
  | .bl a, .bl b => Q (.bl (decide (a = b))) M
  | _, _ => False
theorem o_isB {X : Cx} : OpR X (compareOp .Is) (lR X.K kIsB) := by
  intro pins s σ H x y v u Q I rx ry ⟨G, M, F, d, e, Q', W, r1, r2, q, cv⟩
  unfold kIsB at q
  split at q
  · cases r1.bl; cases r2.bl
    exact op_is_bl pins s σ H _ _ v u Q I rx ry ⟨_, _, rfl, rfl, cv.at_ W q (.bl _)⟩
  · exact q.elim
end DL

/-! DL, part z: the end of a law's row. -/
namespace DL
open PySem PySem.Spec PyProof.Rows L2

/-- the script alone is tracked, as a locked list -/
def scrH (a : Addr) (vs : List Value) (ns : List Int) : Hp := fun b => if b = a then some (.frz { cls := .type "list", data := .seq vs.toArray } (.lst (ns.map V.int))) else none
theorem scrH_at {a : Addr} {vs : List Value} {ns : List Int} : scrH a vs ns a = some (.frz { cls := .type "list", data := .seq vs.toArray } (.lst (ns.map V.int))) := if_pos rfl
theorem scrH_ne {a b : Addr} {vs : List Value} {ns : List Int} (h : b ≠ a) : scrH a vs ns b = none := if_neg h
/-- a law's call at the top of the stack -/
theorem law_end {P : Program} {w : World} {K : PySem.W.Frag} {mg mb : Str → Option Value} {k : Nat} {fa a : Addr} {fd : FuncData} {x : Str} {Fd : DSp} {s₁ : Shared} {vs : List Value} {ns : List Int}
    (KX : K.In s₁.heap) (hns : s₁.heap.Ns mainGlobals mg) (hb : s₁.heap.Ns builtinsNs mb) (hbb : ∀ x : Str, x ≠ "__name__" → mb x = bootBuiltins x) (hlim : s₁.heap.NoLimit) (hg : s₁.gens = #[])
    (ha : s₁.heap.get? a = some { cls := .type "list", data := .seq vs.toArray }) (hi : IntsAre vs ns) (hl : ns.length ≤ sizeLine) (hr : Room k callerA)
    (F : ∀ base : Heap, K.In base → base.Ns mainGlobals mg → GFn P w K mg base k fa fd [x] (liftSp K Fd)) (hbind : ∀ (s : Shared) (u : Value), BindsTo s fd ⟨[u], []⟩ [(x, u)])
    (hFd : ∀ Q : DQ, (∀ M, Q (.bl true) M) → Fd [.scr ns] (fun _ => none) Q X0) :
    codeAny (model P w) callerA (.call (.ref fa) ⟨[.ref a], []⟩) (fun r s' => r = .ok (.ret (.bool true)) ∧ PySem.OldK s₁.heap s'.heap ∧ s'.os = s₁.os ∧ AllBare s'.gens) s₁ := by
  have rv := vals_ints hi
  -- H: the script (or nothing) is tracked
  have core : ∀ H : Hp, (∀ b, H b ≠ none → b = a ∧ H b = some (.frz { cls := .type "list", data := .seq vs.toArray } (.lst (ns.map V.int)))) → SqL K H a (ns.map V.int) → HOk P w H s₁.heap → (H a ≠ none → K.lookup a = none) →
      codeAny (model P w) callerA (.call (.ref fa) ⟨[.ref a], []⟩) (fun r s' => r = .ok (.ret (.bool true)) ∧ PySem.OldK s₁.heap s'.heap ∧ s'.os = s₁.os ∧ AllBare s'.gens) s₁ := by
    intro H hA hS hok hK
    have isA : ∀ {b u}, H b = some u → b = a := fun {b u} q => (hA b (by rw [q]; exact nofun)).1
    have noD : ∀ {b : Addr} {o : Obj} {es : Array DictEntry} {ep : Nat}, s₁.heap.get? b = some o → o.data = .dict es ep → H b = none := fun {b o es ep} e d => by
      cases q : H b with
      | none => rfl
      | some u =>
        rw [isA q, ha] at e
        cases e
        cases d
    have ns_of : ∀ {b : Addr} {m : Str → Option Value}, s₁.heap.Ns b m → (hidT s₁.heap H).Ns b m := fun {b m} ⟨o, es, ep, e, d, r⟩ => ⟨o, es, ep, hidT_get e (noD e d), d, r⟩
    have kb : K.In (hidT s₁.heap H) := fun b o e => hidT_get (KX b o e) (by
      cases q : H b with
      | none => rfl
      | some u =>
        have := hK (by rw [← isA q, q]; exact nofun)
        rw [isA q, this] at e
        cases e)
    have e0 : Env0 P w K mg (hidT s₁.heap H) callerA [] s₁ H :=
      ⟨rfl, ⟨kb, ns_of hns, ⟨mb, ns_of hb, hbb⟩, let ⟨mc, h1, h2⟩ := hlim; ⟨mc, ns_of h1, h2⟩⟩, fun b o e => of_hidT e, Nat.le_of_eq (hidT_size _ _), trivial, fun b z => absurd (show b ∈ ([] : List Addr) from z) (by simp), hok, .of_eq hg⟩
    have W : Wd K H (fun _ => none) (fun _ => none) H := ⟨⟨Same.refl _, fun _ => none, (fun b p z => (by cases z)), (fun p c z => (by cases (show (none : Option Cell) = some c from z)))⟩, fun _ => .inl rfl⟩
    have sp : liftSp K Fd [.ref a] H (fun v _ => v = .bl true) fun _ _ _ => False :=
      ⟨H, _, _, [.scr ns], fun d _ => d = .bl true, X0, W, .cons (.scr hS) .nil, hFd _ fun _ => rfl, fun d M' v G' H' q _ _ r => by subst q; cases r; rfl, fun cls od fs M' G' H' q => q.elim⟩
    refine codeAny_mono ((F _ kb (ns_of hns)).run callerA [] s₁ H ⟨[.ref a], []⟩ [.ref a] [.ref a] _ _ hr rfl e0 (hbind s₁ (.ref a)) (.cons rfl .nil) sp) fun r s' h => ?_
    cases r with
    | error e =>
      obtain ⟨_, _, _, _, _, _, _, _, _, _, _, _, z⟩ := (show L2.CX P w [] H s₁ (fun _ _ _ => False) e s' from h)
      exact z.elim
    | ok fl => cases fl with
      | next => exact h.elim
      | brk => exact h.elim
      | cont => exact h.elim
      | ret u =>
        obtain ⟨v, H', os, bare, un, hok', r', q⟩ := h
        subst q
        cases r'
        refine ⟨rfl, PySem.OldK.of_keep fun b o e => ?_, os, bare⟩
        cases q : H b with
        | none => exact un.keep b o e q (by intro z; exact absurd (show b ∈ ([] : List Addr) from z) (by simp)) (by simp)
        | some u =>
          obtain ⟨_, q2⟩ := hA b (by rw [q]; exact nofun)
          obtain ⟨e1, _⟩ := hok b _ q2
          obtain ⟨e2, _⟩ := hok' b _ (un.frzs b _ _ q2)
          rw [e] at e1
          rw [e1]
          exact e2
  cases hk : K.lookup a with
  | some o =>
    have e := KX a o hk
    rw [ha] at e
    cases e
    exact core (fun _ => none) (fun b z => absurd rfl z) (.inr ⟨_, vs.toArray, _, hk, rfl, rfl, rfl, by rw [List.size_toArray, hi.length]; exact hl, by simpa using rv⟩) (fun b u z => nomatch z) fun z => absurd rfl z
  | none =>
    refine core (scrH a vs ns) (fun b z => ?_) (.inl (.inr ⟨_, scrH_at⟩)) (fun b u z => ?_) fun _ => hk
    · by_cases e : b = a
      · exact ⟨e, by rw [e]; exact scrH_at⟩
      · exact absurd (scrH_ne e) z
    · by_cases e : b = a
      · subst e
        rw [scrH_at] at z
        cases z
        exact ⟨ha, by rw [List.length_map]; exact hl, vs, _, rv, ha⟩
      · rw [scrH_ne e] at z
        cases z
theorem walk_end {l : PySem.W.OpenLaw} {n k : Nat} {q : Program} {loose : List Str} {XP : (Str → Option Value) → Heap → Prop} {YP : World → Heap → Prop} {d : DefRec} {K : Params → PySem.W.Frag} {Fd : DSp} {x : Str}
    (hn : l.most = some n) (hn2 : n ≤ sizeLine) (hdf : d.params.defaults = []) (hr : Room k callerA) (hY : ∀ (w : World) (h : Heap), YP w h → (K w.params).In h)
    (F : ∀ (w : World) (mg : Str → Option Value) (fa : Addr) (h : Heap), (K w.params).In h → h.Ns mainGlobals mg → mg d.name = some (.ref fa) →
      ∃ fd : FuncData, (∀ (s : Shared) (u : Value), BindsTo s fd ⟨[u], []⟩ [(x, u)]) ∧ ∀ base : Heap, (K w.params).In base → base.Ns mainGlobals mg → ∃ Fd' : DSp, GFn l.prog w (K w.params) mg base k fa fd [x] (liftSp (K w.params) Fd') ∧ ∀ ds M Q X, Fd ds M Q X → Fd' ds M Q X)
    (hFd : ∀ (ns : List Int) (Q : DQ), ns.length ≤ n → (∀ z ∈ ns, Builtin.Int.intBits z ≤ 1048576) → (∀ M, Q (.bl true) M) → Fd [.scr ns] (fun _ => none) Q X0) :
    PySem.W.WalkO q loose XP YP l.row.toRowW d [] (fun f vs => PySem.call f vs) := by
  refine Att.attach_callB hn hdf fun w s₀ s₁ mg mb fa o pm cd doc a vs ns G Y ho hd hcd hmg hobj hints hlen hbits hg => ?_
  have inK := hY w _ Y
  obtain ⟨fd, hb, hF⟩ := F w mg fa _ inK G.T.g hmg
  refine law_end (Fd := Fd) inK G.T.g G.T.b G.T.builtins G.T.nolimit hg hobj hints (Nat.le_trans hlen hn2) hr (fun base h1 h2 => ?_) hb (fun Q h => hFd ns Q hlen hbits h)
  obtain ⟨Fd', h3, h4⟩ := hF base h1 h2
  exact h3.imp (liftSp.imp h4)
end DL

/-! MX, part a: the mirror of module texts, over lists of ints. -/
namespace MX
def endsFrom (p : Int) : List Int → List Int
  | [] => []
  | l :: r => (p + (1 + l)) :: endsFrom (p + (1 + l)) r
def endsOf (ns : List Int) : List Int := endsFrom (-1) ns
def startsOf (es : List Int) : List Int := 0 :: es.dropLast.map (· + 1)
def lengthsOf (es : List Int) : List Int := List.zipWith (fun s e => e - s) (startsOf es) es
def wrapGo (w start : Int) : List Int → List Int
  | [] => []
  | [s] => [s]
  | s :: t :: r => if t > start + w then s :: wrapGo w (s + 1) (t :: r) else wrapGo w start (t :: r)
def wrapOf (ns : List Int) (w : Int) : List Int := lengthsOf (wrapGo w 0 (endsOf ns))
def totalOf (ns : List Int) : Int := ns.sum + ns.length - 1
/-- a text -/
structure IsText (ns : List Int) : Prop where
  ne : ns ≠ []
  pos : ∀ n ∈ ns, 1 ≤ n
  le : totalOf ns ≤ 600
theorem sum_ge : ∀ {ns : List Int}, (∀ n ∈ ns, 1 ≤ n) → (ns.length : Int) ≤ ns.sum
  | [], _ => by simp
  | n :: r, h => by
    have h1 := h n List.mem_cons_self
    have h2 := sum_ge (ns := r) fun m hm => h m (List.mem_cons_of_mem _ hm)
    rw [List.sum_cons, List.length_cons]
    omega
theorem IsText.len {ns : List Int} (h : IsText ns) : ns.length ≤ 300 := by
  have h1 := sum_ge h.pos
  have h2 := h.le
  unfold totalOf at h2
  omega
theorem endsFrom_length : ∀ (ns : List Int) (p : Int), (endsFrom p ns).length = ns.length
  | [], _ => rfl
  | n :: r, p => by unfold endsFrom; rw [List.length_cons, endsFrom_length r, List.length_cons]
theorem endsOf_length (ns : List Int) : (endsOf ns).length = ns.length := endsFrom_length ns _
theorem wrapGo_length (w : Int) : ∀ (ss : List Int) (start : Int), (wrapGo w start ss).length ≤ ss.length
  | [], _ => Nat.le_refl _
  | [s], _ => Nat.le_refl _
  | s :: t :: r, start => by
    unfold wrapGo
    split
    · have := wrapGo_length w (t :: r) (s + 1)
      rw [List.length_cons, List.length_cons]; omega
    · have := wrapGo_length w (t :: r) start
      rw [List.length_cons]; omega
theorem lengthsOf_length (es : List Int) : (lengthsOf es).length ≤ es.length := by
  unfold lengthsOf
  rw [List.length_zipWith]
  omega
theorem endsFrom_append : ∀ (a b : List Int) (p : Int), endsFrom p (a ++ b) = endsFrom p a ++ endsFrom (p + a.sum + a.length) b
  | [], b, p => by simp [endsFrom]
  | x :: a, b, p => by
    have e : p + (1 + x) + a.sum + (a.length : Int) = p + (x :: a).sum + ((x :: a).length : Nat) := by
      rw [List.sum_cons, List.length_cons]
      omega
    simp only [List.cons_append, endsFrom]
    rw [endsFrom_append a b, e]
theorem endsOf_snoc (a : List Int) (n : Int) : endsOf (a ++ [n]) = endsOf a ++ [-1 + a.sum + a.length + (1 + n)] := by
  unfold endsOf
  rw [endsFrom_append]
  rfl
end MX

/-! MX, part b: ends and lengths, greedy lines, cores. -/
namespace MX
def lenFrom (s : Int) : List Int → List Int
  | [] => []
  | e :: r => (e - s) :: lenFrom (e + 1) r
theorem lengthsOf_eq (es : List Int) : lengthsOf es = lenFrom 0 es := by
  have : ∀ (es : List Int) (s : Int), List.zipWith (fun s e => e - s) (s :: es.dropLast.map (· + 1)) es = lenFrom s es := by
    intro es
    induction es with
    | nil => intro s; rfl
    | cons e r ih =>
      intro s
      cases r with
      | nil => rfl
      | cons e2 r2 =>
        have := ih (e + 1)
        rw [List.dropLast_cons_of_ne_nil (by simp), List.map_cons, List.zipWith_cons_cons, this]
        rfl
  exact this es 0
theorem endsFrom_lenFrom : ∀ (es : List Int) (p : Int), endsFrom p (lenFrom (p + 1) es) = es
  | [], _ => rfl
  | e :: r, p => by
    have e1 : p + (1 + (e - (p + 1))) = e := by omega
    unfold lenFrom endsFrom
    rw [e1, endsFrom_lenFrom r e]
theorem endsOf_lengthsOf (es : List Int) : endsOf (lengthsOf es) = es := by
  rw [lengthsOf_eq]
  exact endsFrom_lenFrom es (-1)
theorem lengthsOf_inj {a b : List Int} (h : lengthsOf a = lengthsOf b) : a = b := by
  rw [← endsOf_lengthsOf a, ← endsOf_lengthsOf b, h]
/-! ends ascend -/
theorem endsFrom_gt : ∀ (ns : List Int) (p : Int), (∀ n ∈ ns, 1 ≤ n) → ∀ e ∈ endsFrom p ns, p < e
  | [], _, _, e, he => by cases he
  | n :: r, p, h, e, he => by
    have h1 := h n List.mem_cons_self
    unfold endsFrom at he
    rcases List.mem_cons.mp he with q | q
    · omega
    · have := endsFrom_gt r (p + (1 + n)) (fun m hm => h m (List.mem_cons_of_mem _ hm)) e q
      omega
theorem endsFrom_asc : ∀ (ns : List Int) (p : Int), (∀ n ∈ ns, 1 ≤ n) → (endsFrom p ns).Pairwise (· < ·)
  | [], _, _ => List.Pairwise.nil
  | n :: r, p, h => by
    have h' := fun m hm => h m (List.mem_cons_of_mem _ hm)
    unfold endsFrom
    exact List.Pairwise.cons (endsFrom_gt r _ h') (endsFrom_asc r _ h')
theorem endsOf_asc {ns : List Int} (h : ∀ n ∈ ns, 1 ≤ n) : (endsOf ns).Pairwise (· < ·) := endsFrom_asc ns _ h
theorem endsFrom_last : ∀ (ns : List Int) (p : Int), ns ≠ [] → (endsFrom p ns).getLast? = some (p + ns.sum + ns.length)
  | [], _, h => absurd rfl h
  | [n], p, _ => by simp [endsFrom]; omega
  | n :: m :: r, p, _ => by
    have := endsFrom_last (m :: r) (p + (1 + n)) (by simp)
    unfold endsFrom
    rw [List.getLast?_cons, this]
    simp
    omega
theorem endsOf_last {ns : List Int} (h : ns ≠ []) : (endsOf ns).getLast? = some (totalOf ns) := by
  rw [endsOf, endsFrom_last ns _ h]
  congr 1
  unfold totalOf
  omega
/-! greedy lines -/
theorem wrapGo_sub (w : Int) : ∀ (ss : List Int) (s : Int), (wrapGo w s ss).Sublist ss
  | [], _ => List.Sublist.slnil
  | [x], _ => List.Sublist.refl _
  | x :: t :: r, s => by
    unfold wrapGo
    split
    · exact (wrapGo_sub w (t :: r) (x + 1)).cons_cons x
    · exact (wrapGo_sub w (t :: r) s).cons x
theorem wrapGo_last (w : Int) : ∀ (ss : List Int) (s : Int), (wrapGo w s ss).getLast? = ss.getLast?
  | [], _ => rfl
  | [x], _ => rfl
  | x :: t :: r, s => by
    unfold wrapGo
    split
    · rw [List.getLast?_cons, wrapGo_last w (t :: r) (x + 1)]
      simp [List.getLast?_cons]
    · rw [wrapGo_last w (t :: r) s]
      simp [List.getLast?_cons]
theorem wrapGo_ne {w : Int} {ss : List Int} {s : Int} (h : ss ≠ []) : wrapGo w s ss ≠ [] := fun z => by
  have := wrapGo_last w ss s
  rw [z] at this
  exact h (List.getLast?_eq_none_iff.mp this.symm)
theorem wrapGo_wide {w : Int} : ∀ {ss : List Int} {s : Int}, (∀ e ∈ ss, e ≤ s + w) → (wrapGo w s ss).dropLast = []
  | [], _, _ => rfl
  | [x], _, _ => rfl
  | x :: t :: r, s, h => by
    unfold wrapGo
    rw [if_neg (by have := h t (by simp); omega)]
    exact wrapGo_wide fun e he => h e (List.mem_cons_of_mem _ he)
theorem wrapGo_head {w s : Int} : ∀ {r : List Int} {t : Int}, t ≤ s + w → ∃ y rest, wrapGo w s (t :: r) = y :: rest ∧ y ≤ s + w
  | [], t, h => ⟨t, [], rfl, h⟩
  | u :: r, t, h => by
    unfold wrapGo
    by_cases c : u > s + w
    · rw [if_pos c]
      exact ⟨t, _, rfl, h⟩
    · rw [if_neg c]
      exact wrapGo_head (by omega)
/-- stops that no line ends at may be left out -/
theorem wrapGo_filter {w : Int} {p : Int → Bool} : ∀ {ss : List Int} {s : Int}, ss.Pairwise (· < ·) → (∀ e ∈ wrapGo w s ss, p e = true) → wrapGo w s (ss.filter p) = wrapGo w s ss
  | [], _, _, _ => rfl
  | [x], s, _, h => by
    have := h x (by simp [wrapGo])
    rw [List.filter_cons_of_pos this]
    rfl
  | x :: t :: r, s, ha, h => by
    have ha' : (t :: r).Pairwise (· < ·) := List.Pairwise.of_cons ha
    have key : ∀ s', (∀ e ∈ wrapGo w s' (t :: r), p e = true) → ∃ t' r', (t :: r).filter p = t' :: r' ∧ t ≤ t' := fun s' h' => by
      cases hf : (t :: r).filter p with
      | nil =>
        have hn := wrapGo_ne (w := w) (s := s') (show t :: r ≠ [] by simp)
        obtain ⟨y, hy⟩ := List.exists_mem_of_ne_nil _ hn
        have : y ∈ (t :: r).filter p := List.mem_filter.mpr ⟨(wrapGo_sub w _ _).subset hy, h' y hy⟩
        rw [hf] at this
        cases this
      | cons t' r' =>
        refine ⟨t', r', rfl, ?_⟩
        have : t' ∈ (t :: r).filter p := by rw [hf]; exact List.mem_cons_self
        rcases List.mem_cons.mp (List.mem_filter.mp this).1 with q | q
        · omega
        · have := List.rel_of_pairwise_cons ha' q
          omega
    unfold wrapGo at h
    by_cases c : t > s + w
    · rw [if_pos c] at h
      have hx := h x List.mem_cons_self
      have h' := fun e he => h e (List.mem_cons_of_mem _ he)
      obtain ⟨t', r', hf, ht⟩ := key _ h'
      have ih := wrapGo_filter ha' h'
      rw [List.filter_cons_of_pos hx, hf]
      rw [hf] at ih
      unfold wrapGo
      rw [if_pos (show t' > s + w by omega), if_pos c, ih]
    · rw [if_neg c] at h
      obtain ⟨t', r', hf, ht⟩ := key _ h
      have ih := wrapGo_filter ha' h
      have e0 : wrapGo w s (x :: t :: r) = wrapGo w s (t :: r) := by
        conv => lhs; unfold wrapGo
        rw [if_neg c]
      rw [e0]
      by_cases hx : p x = true
      · rw [List.filter_cons_of_pos hx, hf]
        rw [hf] at ih
        obtain ⟨y, rest, hy, hle⟩ := wrapGo_head (w := w) (s := s) (r := r) (t := t) (by omega)
        have hym : y ∈ (t :: r).filter p := List.mem_filter.mpr ⟨(wrapGo_sub w _ _).subset (by rw [hy]; exact List.mem_cons_self), h y (by rw [hy]; exact List.mem_cons_self)⟩
        have hty : t' ≤ y := by
          have hs : ((t :: r).filter p).Pairwise (· < ·) := ha'.filter p
          rw [hf] at hym hs
          rcases List.mem_cons.mp hym with q | q
          · omega
          · have := List.rel_of_pairwise_cons hs q
            omega
        conv => lhs; unfold wrapGo
        rw [if_neg (show ¬ t' > s + w by omega)]
        exact ih
      · rw [List.filter_cons_of_neg hx]
        exact ih
/-! lists that ascend -/
theorem asc_ext : ∀ {l m : List Int}, l.Pairwise (· < ·) → m.Pairwise (· < ·) → (∀ e, e ∈ l ↔ e ∈ m) → l = m
  | [], [], _, _, _ => rfl
  | [], y :: m, _, _, h => by have := (h y).mpr List.mem_cons_self; cases this
  | x :: l, [], _, _, h => by have := (h x).mp List.mem_cons_self; cases this
  | x :: l, y :: m, h1, h2, h => by
    have hxy : x = y := by
      rcases List.mem_cons.mp ((h x).mp List.mem_cons_self) with q | q
      · exact q
      · rcases List.mem_cons.mp ((h y).mpr List.mem_cons_self) with z | z
        · exact z.symm
        · have a := List.rel_of_pairwise_cons h2 q
          have b := List.rel_of_pairwise_cons h1 z
          omega
    subst hxy
    have : l = m := asc_ext (List.Pairwise.of_cons h1) (List.Pairwise.of_cons h2) fun e => by
      constructor
      · intro he
        rcases List.mem_cons.mp ((h e).mp (List.mem_cons_of_mem _ he)) with q | q
        · have := List.rel_of_pairwise_cons h1 he; omega
        · exact q
      · intro he
        rcases List.mem_cons.mp ((h e).mpr (List.mem_cons_of_mem _ he)) with q | q
        · have := List.rel_of_pairwise_cons h2 he; omega
        · exact q
    rw [this]
theorem mem_dropLast {l : List Int} {T e : Int} (ha : l.Pairwise (· < ·)) (hl : l.getLast? = some T) : e ∈ l.dropLast ↔ e ∈ l ∧ e < T := by
  obtain ⟨l', rfl⟩ : ∃ l', l = l' ++ [T] := by
    obtain ⟨hne, hT⟩ := List.getLast?_eq_some_iff.mp hl
    exact ⟨_, hT⟩
  rw [List.dropLast_concat]
  have hp := (List.pairwise_append.mp ha).2.2
  constructor
  · intro h
    exact ⟨List.mem_append_left _ h, hp e h T (by simp)⟩
  · rintro ⟨h1, h2⟩
    rcases List.mem_append.mp h1 with q | q
    · exact q
    · rw [List.mem_singleton] at q; omega
/-! visible spaces, cores -/
def Vis (ns : List Int) (lo hi e : Int) : Prop := ∃ w, lo ≤ w ∧ w ≤ hi ∧ e ∈ (wrapGo w 0 (endsOf ns)).dropLast
open Classical in
noncomputable def visOf (ns : List Int) (lo hi : Int) : List Int := (endsOf ns).filter fun e => decide (Vis ns lo hi e)
theorem Vis.mem {ns : List Int} {lo hi e : Int} (h : Vis ns lo hi e) : e ∈ endsOf ns := by
  obtain ⟨w, _, _, h⟩ := h
  exact (wrapGo_sub _ _ _).subset (List.dropLast_subset _ h)
theorem mem_visOf {ns : List Int} {lo hi e : Int} : e ∈ visOf ns lo hi ↔ Vis ns lo hi e := by
  unfold visOf
  rw [List.mem_filter]
  simp only [decide_eq_true_eq]
  exact ⟨fun h => h.2, fun h => ⟨h.mem, h⟩⟩
theorem visOf_asc {ns : List Int} {lo hi : Int} (h : ∀ n ∈ ns, 1 ≤ n) : (visOf ns lo hi).Pairwise (· < ·) := (endsOf_asc h).filter _
theorem ends_le {ns : List Int} (hne : ns ≠ []) (h : ∀ n ∈ ns, 1 ≤ n) {e : Int} (he : e ∈ endsOf ns) : e ≤ totalOf ns := by
  obtain ⟨hn, hT⟩ := List.getLast?_eq_some_iff.mp (endsOf_last hne)
  have ha := endsOf_asc h
  rw [hT] at he ha
  rcases List.mem_append.mp he with q | q
  · have := (List.pairwise_append.mp ha).2.2 e q (totalOf ns) (by simp)
    omega
  · rw [List.mem_singleton] at q; omega
theorem vis_lt {ns : List Int} (hne : ns ≠ []) (h : ∀ n ∈ ns, 1 ≤ n) {lo hi e : Int} (hv : Vis ns lo hi e) : e < totalOf ns := by
  obtain ⟨w, _, _, q⟩ := hv
  exact ((mem_dropLast ((endsOf_asc h).sublist (wrapGo_sub _ _ _)) ((wrapGo_last _ _ _).trans (endsOf_last hne))).mp q).2
/-- the widths beyond the number of characters show nothing -/
theorem vis_cut {ns : List Int} (hne : ns ≠ []) (h : ∀ n ∈ ns, 1 ≤ n) {lo hi e : Int} (hlh : lo ≤ hi) : Vis ns (min lo (totalOf ns)) (min hi (totalOf ns)) e ↔ Vis ns lo hi e := by
  have wide : ∀ w, totalOf ns ≤ w → ¬ e ∈ (wrapGo w 0 (endsOf ns)).dropLast := fun w hw q => by
    rw [wrapGo_wide fun x hx => by have := ends_le hne h hx; omega] at q
    cases q
  constructor
  · rintro ⟨w, h1, h2, q⟩
    by_cases c : totalOf ns ≤ w
    · exact absurd q (wide w c)
    · exact ⟨w, by omega, by omega, q⟩
  · rintro ⟨w, h1, h2, q⟩
    by_cases c : totalOf ns ≤ w
    · exact absurd q (wide w c)
    · exact ⟨w, by omega, by omega, q⟩
noncomputable def coreOf (ns : List Int) (lo hi : Int) : List Int := lengthsOf (visOf ns lo hi ++ [totalOf ns])
theorem wrapGo_core {ns : List Int} (hne : ns ≠ []) (h : ∀ n ∈ ns, 1 ≤ n) {lo hi w : Int} (h1 : lo ≤ w) (h2 : w ≤ hi) : wrapGo w 0 (visOf ns lo hi ++ [totalOf ns]) = wrapGo w 0 (endsOf ns) := by
  have ha := endsOf_asc h
  have hl := endsOf_last hne
  have key : visOf ns lo hi ++ [totalOf ns] = (endsOf ns).filter fun e => decide (e ∈ visOf ns lo hi ∨ e = totalOf ns) := by
    refine asc_ext ?_ (ha.filter _) fun e => ?_
    · refine List.pairwise_append.mpr ⟨visOf_asc h, List.pairwise_singleton _ _, fun a ha b hb => ?_⟩
      rw [List.mem_singleton] at hb
      rw [hb]
      exact vis_lt hne h (mem_visOf.mp ha)
    · rw [List.mem_append, List.mem_singleton, List.mem_filter]
      simp only [decide_eq_true_eq]
      constructor
      · rintro (q | q)
        · exact ⟨(mem_visOf.mp q).mem, .inl q⟩
        · refine ⟨?_, .inr q⟩
          rw [q]
          exact List.mem_of_getLast? hl
      · rintro ⟨_, q⟩; exact q
  rw [key]
  refine wrapGo_filter ha fun e he => ?_
  rw [decide_eq_true_eq]
  have hle := ends_le hne h ((wrapGo_sub _ _ _).subset he)
  by_cases c : e = totalOf ns
  · exact .inr c
  · exact .inl (mem_visOf.mpr ⟨w, h1, h2, (mem_dropLast (ha.sublist (wrapGo_sub _ _ _)) ((wrapGo_last _ _ _).trans hl)).mpr ⟨he, by omega⟩⟩)
theorem wrapOf_inj {a b : List Int} {w : Int} (h : wrapOf a w = wrapOf b w) : wrapGo w 0 (endsOf a) = wrapGo w 0 (endsOf b) := lengthsOf_inj h
theorem cores_iff {a b : List Int} (ha : a ≠ []) (ha1 : ∀ n ∈ a, 1 ≤ n) (hb : b ≠ []) (hb1 : ∀ n ∈ b, 1 ≤ n) {lo hi : Int} (hlh : lo ≤ hi) : coreOf a lo hi = coreOf b lo hi ↔ ∀ w, lo ≤ w → w ≤ hi → wrapOf a w = wrapOf b w := by
  constructor
  · intro h w h1 h2
    have e := lengthsOf_inj h
    unfold wrapOf
    rw [← wrapGo_core ha ha1 h1 h2, ← wrapGo_core hb hb1 h1 h2, e]
  · intro h
    have hT : totalOf a = totalOf b := by
      have e := congrArg List.getLast? (wrapOf_inj (h lo (Int.le_refl _) hlh))
      rw [wrapGo_last, wrapGo_last, endsOf_last ha, endsOf_last hb] at e
      exact Option.some.inj e
    unfold coreOf
    rw [hT]
    congr 2
    refine asc_ext (visOf_asc ha1) (visOf_asc hb1) fun e => ?_
    rw [mem_visOf, mem_visOf]
    constructor
    · rintro ⟨w, h1, h2, q⟩
      exact ⟨w, h1, h2, by rw [← wrapOf_inj (h w h1 h2)]; exact q⟩
    · rintro ⟨w, h1, h2, q⟩
      exact ⟨w, h1, h2, by rw [wrapOf_inj (h w h1 h2)]; exact q⟩
/-! the law's own wrap -/
def lawGo (w now : Int) : List Int → List Int
  | [] => [now]
  | x :: r => if 0 < now ∧ now + 1 + x ≤ w then lawGo w (now + 1 + x) r else (if 0 < now then [now] else []) ++ lawGo w x r
theorem lawGo_eq (w : Int) : ∀ (r : List Int) (s now : Int), 0 < now → (∀ n ∈ r, 1 ≤ n) → lawGo w now r = lenFrom s (wrapGo w s ((s + now) :: endsFrom (s + now) r))
  | [], s, now, _, _ => by
    show [now] = [s + now - s]
    rw [show s + now - s = now by omega]
  | x :: r, s, now, h0, h => by
    have hx := h x List.mem_cons_self
    have h' := fun m hm => h m (List.mem_cons_of_mem _ hm)
    unfold lawGo endsFrom
    by_cases c : now + 1 + x ≤ w
    · rw [if_pos ⟨h0, c⟩]
      conv => rhs; unfold wrapGo
      rw [if_neg (show ¬ s + now + (1 + x) > s + w by omega), lawGo_eq w r s (now + 1 + x) (by omega) h']
      rw [show s + (now + 1 + x) = s + now + (1 + x) by omega]
    · rw [if_neg (fun z => c z.2), if_pos h0]
      conv => rhs; unfold wrapGo
      rw [if_pos (show s + now + (1 + x) > s + w by omega)]
      conv => rhs; unfold lenFrom
      rw [lawGo_eq w r (s + now + 1) x (by omega) h', show s + now + 1 + x = s + now + (1 + x) by omega, show s + now - s = now by omega]
      rfl
def lawWrap (ns : List Int) (w : Int) : List Int := lawGo w 0 ns
theorem lawWrap_eq {ns : List Int} {w : Int} (hne : ns ≠ []) (h : ∀ n ∈ ns, 1 ≤ n) : lawWrap ns w = wrapOf ns w := by
  cases ns with
  | nil => exact absurd rfl hne
  | cons x r =>
    have hx := h x List.mem_cons_self
    unfold lawWrap lawGo wrapOf
    rw [if_neg (by simp), if_neg (by simp), lengthsOf_eq, List.nil_append, lawGo_eq w r 0 x (by omega) fun m hm => h m (List.mem_cons_of_mem _ hm)]
    unfold endsOf
    conv => rhs; unfold endsFrom
    rw [show (-1 : Int) + (1 + x) = 0 + x by omega]
/-! the least width that tells two texts apart -/
def widthsIn (lo hi : Int) : List Int := (List.range (hi - lo + 1).toNat).map fun (i : Nat) => lo + (i : Nat)
def sepOf (a b : List Int) (lo hi : Int) : Option Int := (widthsIn lo hi).find? fun w => decide (wrapOf a w ≠ wrapOf b w)
theorem mem_widthsIn {lo hi w : Int} : w ∈ widthsIn lo hi ↔ lo ≤ w ∧ w ≤ hi := by
  unfold widthsIn
  rw [List.mem_map]
  constructor
  · rintro ⟨i, h1, rfl⟩
    rw [List.mem_range] at h1
    omega
  · rintro ⟨h1, h2⟩
    exact ⟨(w - lo).toNat, List.mem_range.mpr (by omega), by omega⟩
theorem sepOf_none {a b : List Int} {lo hi : Int} : sepOf a b lo hi = none ↔ ∀ w, lo ≤ w → w ≤ hi → wrapOf a w = wrapOf b w := by
  unfold sepOf
  rw [List.find?_eq_none]
  constructor
  · intro h w h1 h2
    have := h w (mem_widthsIn.mpr ⟨h1, h2⟩)
    simpa using this
  · intro h w hw
    obtain ⟨h1, h2⟩ := mem_widthsIn.mp hw
    simpa using h w h1 h2
theorem widthsIn_cons {lo hi : Int} (h : lo ≤ hi) : widthsIn lo hi = lo :: widthsIn (lo + 1) hi := by
  unfold widthsIn
  have e : (hi - lo + 1).toNat = (hi - (lo + 1) + 1).toNat + 1 := by omega
  rw [e, List.range_succ_eq_map, List.map_cons, List.map_map]
  congr 1
  · omega
  · refine List.map_congr_left fun i _ => ?_
    simp only [Function.comp]
    omega
theorem widthsIn_nil {lo hi : Int} (h : hi < lo) : widthsIn lo hi = [] := by
  unfold widthsIn
  rw [show (hi - lo + 1).toNat = 0 by omega]
  rfl
theorem sepOf_step {a b : List Int} {lo hi : Int} (h : lo ≤ hi) : sepOf a b lo hi = if wrapOf a lo ≠ wrapOf b lo then some lo else sepOf a b (lo + 1) hi := by
  unfold sepOf
  rw [widthsIn_cons h, List.find?_cons]
  by_cases c : wrapOf a lo ≠ wrapOf b lo
  · rw [if_pos c, decide_eq_true c]
  · rw [if_neg c, decide_eq_false c]
theorem sepOf_nil {a b : List Int} {lo hi : Int} (h : hi < lo) : sepOf a b lo hi = none := by
  unfold sepOf
  rw [widthsIn_nil h]
  rfl
/-- beyond both texts' characters nothing new tells them apart -/
theorem sepOf_cut {a b : List Int} (ha : a ≠ []) (ha1 : ∀ n ∈ a, 1 ≤ n) (hb : b ≠ []) (hb1 : ∀ n ∈ b, 1 ≤ n) {lo m : Int} (hm1 : totalOf a ≤ m) (hm2 : totalOf b ≤ m) (hlo : lo ≤ m) : ∀ (k : Nat), sepOf a b lo (m + k) = sepOf a b lo m := by
  have one : ∀ {c : List Int}, c ≠ [] → (∀ n ∈ c, 1 ≤ n) → ∀ w, totalOf c ≤ w → wrapGo w 0 (endsOf c) = [totalOf c] := fun {c} hc hc1 w hw => by
    have h1 : (wrapGo w 0 (endsOf c)).dropLast = [] := wrapGo_wide fun x hx => by have := ends_le hc hc1 hx; omega
    obtain ⟨hn, hT⟩ := List.getLast?_eq_some_iff.mp ((wrapGo_last w (endsOf c) 0).trans (endsOf_last hc))
    rw [hT, List.dropLast_concat] at h1
    rw [hT, h1]
    rfl
  intro k
  by_cases hT : totalOf a = totalOf b
  · -- at the widths beyond, no difference
    have split : widthsIn lo (m + k) = widthsIn lo m ++ widthsIn (m + 1) (m + k) := by
      refine asc_ext ?_ ?_ fun e => ?_
      · unfold widthsIn
        exact List.pairwise_map.mpr (List.pairwise_lt_range.imp fun {x y} h => by omega)
      · refine List.pairwise_append.mpr ⟨?_, ?_, fun x hx y hy => ?_⟩
        · unfold widthsIn
          exact List.pairwise_map.mpr (List.pairwise_lt_range.imp fun {x y} h => by omega)
        · unfold widthsIn
          exact List.pairwise_map.mpr (List.pairwise_lt_range.imp fun {x y} h => by omega)
        · rw [mem_widthsIn] at hx hy; omega
      · rw [List.mem_append, mem_widthsIn, mem_widthsIn, mem_widthsIn]; omega
    unfold sepOf
    rw [split, List.find?_append]
    have hn : (widthsIn (m + 1) (m + k)).find? (fun w => decide (wrapOf a w ≠ wrapOf b w)) = none := by
      rw [List.find?_eq_none]
      intro w hw
      rw [mem_widthsIn] at hw
      have : wrapOf a w = wrapOf b w := by
        unfold wrapOf
        rw [one ha ha1 w (by omega), one hb hb1 w (by omega), hT]
      simp [this]
    rw [hn, Option.or_none]
  · -- the first width tells
    have hd : wrapOf a lo ≠ wrapOf b lo := fun z => by
      have e := congrArg List.getLast? (wrapOf_inj z)
      rw [wrapGo_last, wrapGo_last, endsOf_last ha, endsOf_last hb] at e
      exact hT (Option.some.inj e)
    rw [sepOf_step (by omega), sepOf_step hlo, if_pos hd, if_pos hd]
end MX

/-! SP, part a: promises of module texts over data, and their proofs by the readings. -/
namespace DL
open PySem PySem.Spec PyProof.Rows L2 MX
variable [Cls]
/-- a def's body keeps its promise -/
abbrev Keeps (Fd : DSp) (t : DXK → DTS) (N : List Str) : Prop := ∀ ds M Q X', Fd ds M Q X' → t X' { nx := fun _ M' => Q .non M', rt := Q } (startD N ds) M
abbrev dInts (ns : List Int) : D := .lst (ns.map .int)
theorem kit_int_int : kitB "int" "int" = some true := by decide +kernel
theorem kit_bool_int : kitB "bool" "int" = some true := by decide +kernel
theorem kit_int_bool : kitB "int" "bool" = some false := by decide +kernel
theorem kit_bool_bool : kitB "bool" "bool" = some true := by decide +kernel
theorem kit_none_int : kitB "NoneType" "int" = some false := by decide +kernel
theorem kit_str_int : kitB "str" "int" = some false := by decide +kernel
theorem kit_list_int : kitB "list" "int" = some false := by decide +kernel
theorem kit_tuple_int : kitB "tuple" "int" = some false := by decide +kernel
theorem kit_dict_int : kitB "dict" "int" = some false := by decide +kernel
theorem kit_list_list : kitB "list" "list" = some true := by decide +kernel
theorem kit_none_list : kitB "NoneType" "list" = some false := by decide +kernel
theorem kit_bool_list : kitB "bool" "list" = some false := by decide +kernel
theorem kit_int_list : kitB "int" "list" = some false := by decide +kernel
theorem kit_str_list : kitB "str" "list" = some false := by decide +kernel
theorem kit_tuple_list : kitB "tuple" "list" = some false := by decide +kernel
theorem kit_dict_list : kitB "dict" "list" = some false := by decide +kernel
/-! is_integer -/
def isInteger (v : D) (lo : Int) (hi : Option Int) : Bool := match v with
  | .int i => decide (lo ≤ i) && (match hi with
    | none => true
    | some h => decide (i ≤ h))
  | _ => false
def optD : Option Int → D
  | none => .non
  | some h => .int h
/-- a value whose kind isinstance can tell here -/
def plainD : D → Bool
  | .raw _ => false
  | .ins _ _ => false
  | .scr _ => false
  | _ => true
def F_is_integer : DSp := fun ds M Q X => ∃ v lo hi, ds = [v, .int lo, optD hi] ∧ plainD v = true ∧ Q (.bl (isInteger v lo hi)) M
def N_is_integer : List Str := ["value", "low", "high"]
def t_is_integer (X' : DXK) : DTS := (dSeq (dIfS (dOr (dNot (dTru (dCall kIsi (daCons (dVarB 0) (daCons (dC (.raw (.ty "int"))) daNil))))) (dTru (dCall kIsi (daCons (dVarB 0) (daCons (dC (.raw (.ty "bool"))) daNil))))) (dRet (dC (.bl false))) dNext)
    (dRet (dAndV (dOp kLe (dVarB 1) (dVarB 0)) (dOrV (dOp kIsN (dVarB 2) (dC .non)) (dOp kLe (dVarB 0) (dVarB 2))))))
theorem pure_is_integer : Keeps F_is_integer t_is_integer N_is_integer := by
  rintro _ M Q X' ⟨v, lo, hi, rfl, hv, q⟩
  show t_is_integer X' _ [.im v, .im (.int lo), .im (optD hi)] M
  cases v with
  | int i =>
    cases hi with
    | none =>
      simp only [t_is_integer, ↓dSeq, ↓dNext, ↓dIfS, ↓dRet, ↓dRetV, ↓dRetN, ↓dRetM, ↓dSet, ↓dAsg, ↓dOwn, ↓dOwnD, ↓dParOI, ↓dParII, ↓dAug, ↓dApp, ↓dPutL, ↓dPutS, ↓dPutM, ↓dUpd, ↓dfRg2, ↓kRepr, ↓kSortedD, ↓dDrop, ↓dNever, ↓dFrz, ↓frz, ↓dgName, ↓dgNil, ↓dgCons, ↓dgTup, ↓dVar, ↓dVarB, ↓dC, ↓dOp, ↓dOpF, ↓dUn, ↓dTest, ↓dChain, ↓dAnd, ↓dOr, ↓dNot, ↓dTru, ↓truD, ↓dAndV, ↓dOrV, ↓dNotV, ↓dIf, ↓daNil, ↓daCons, ↓dTup, ↓dfLst, ↓dLst, ↓dNoPart, ↓dPart, ↓dfSl, ↓dSlS, ↓dCall, ↓dfCall, ↓dFn, ↓dFnK, ↓dYes, ↓kAdd, ↓kSub, ↓kMul, ↓kDiv, ↓kMod, ↓kPow, ↓kCat, ↓kRep, ↓kNeg, ↓kLt, ↓kLe, ↓kGt, ↓kGe, ↓kIsN, ↓kNotN, ↓kIsB, ↓isNon, ↓kIx, ↓kLen, ↓kSum, ↓kAll, ↓kAny, ↓kMax, ↓kMin, ↓kAbs, ↓kInt, ↓kStr, ↓kList, ↓kSortedI, ↓kIsi, isD, kit_int_int, kit_bool_int, kit_int_bool, kit_bool_bool, List.getElem?_cons_zero, List.getElem?_cons_succ, List.set_cons_zero, List.set_cons_succ, List.nil_append, List.cons_append, List.append_nil, Option.some.injEq, exists_eq_left', exists_eq_left, exists_and_left, exists_eq_right, Bool.not_true, Bool.not_false, Bool.false_eq_true, if_true, if_false, and_true, true_and, D.int.injEq, D.lst.injEq, D.bl.injEq, D.str.injEq, D.raw.injEq, D.tup.injEq, ite_true, ite_false, reduceIte, optD]
      simp only [isInteger, Bool.and_true] at q
      split <;> rename_i h <;> simp only [h] at q
      · exact q
      · simpa [h] using q
    | some h =>
      simp only [t_is_integer, ↓dSeq, ↓dNext, ↓dIfS, ↓dRet, ↓dRetV, ↓dRetN, ↓dRetM, ↓dSet, ↓dAsg, ↓dOwn, ↓dOwnD, ↓dParOI, ↓dParII, ↓dAug, ↓dApp, ↓dPutL, ↓dPutS, ↓dPutM, ↓dUpd, ↓dfRg2, ↓kRepr, ↓kSortedD, ↓dDrop, ↓dNever, ↓dFrz, ↓frz, ↓dgName, ↓dgNil, ↓dgCons, ↓dgTup, ↓dVar, ↓dVarB, ↓dC, ↓dOp, ↓dOpF, ↓dUn, ↓dTest, ↓dChain, ↓dAnd, ↓dOr, ↓dNot, ↓dTru, ↓truD, ↓dAndV, ↓dOrV, ↓dNotV, ↓dIf, ↓daNil, ↓daCons, ↓dTup, ↓dfLst, ↓dLst, ↓dNoPart, ↓dPart, ↓dfSl, ↓dSlS, ↓dCall, ↓dfCall, ↓dFn, ↓dFnK, ↓dYes, ↓kAdd, ↓kSub, ↓kMul, ↓kDiv, ↓kMod, ↓kPow, ↓kCat, ↓kRep, ↓kNeg, ↓kLt, ↓kLe, ↓kGt, ↓kGe, ↓kIsN, ↓kNotN, ↓kIsB, ↓isNon, ↓kIx, ↓kLen, ↓kSum, ↓kAll, ↓kAny, ↓kMax, ↓kMin, ↓kAbs, ↓kInt, ↓kStr, ↓kList, ↓kSortedI, ↓kIsi, isD, kit_int_int, kit_bool_int, kit_int_bool, kit_bool_bool, List.getElem?_cons_zero, List.getElem?_cons_succ, List.set_cons_zero, List.set_cons_succ, List.nil_append, List.cons_append, List.append_nil, Option.some.injEq, exists_eq_left', exists_eq_left, exists_and_left, exists_eq_right, Bool.not_true, Bool.not_false, Bool.false_eq_true, if_true, if_false, and_true, true_and, D.int.injEq, D.lst.injEq, D.bl.injEq, D.str.injEq, D.raw.injEq, D.tup.injEq, ite_true, ite_false, reduceIte, optD]
      simp only [isInteger] at q
      split <;> rename_i h <;> simpa [h] using q
  | raw _ => cases hv
  | ins _ _ => cases hv
  | scr _ => cases hv
  | _ =>
    simp only [t_is_integer, ↓dSeq, ↓dNext, ↓dIfS, ↓dRet, ↓dRetV, ↓dRetN, ↓dRetM, ↓dSet, ↓dAsg, ↓dOwn, ↓dOwnD, ↓dParOI, ↓dParII, ↓dAug, ↓dApp, ↓dPutL, ↓dPutS, ↓dPutM, ↓dUpd, ↓dfRg2, ↓kRepr, ↓kSortedD, ↓dDrop, ↓dNever, ↓dFrz, ↓frz, ↓dgName, ↓dgNil, ↓dgCons, ↓dgTup, ↓dVar, ↓dVarB, ↓dC, ↓dOp, ↓dOpF, ↓dUn, ↓dTest, ↓dChain, ↓dAnd, ↓dOr, ↓dNot, ↓dTru, ↓truD, ↓dAndV, ↓dOrV, ↓dNotV, ↓dIf, ↓daNil, ↓daCons, ↓dTup, ↓dfLst, ↓dLst, ↓dNoPart, ↓dPart, ↓dfSl, ↓dSlS, ↓dCall, ↓dfCall, ↓dFn, ↓dFnK, ↓dYes, ↓kAdd, ↓kSub, ↓kMul, ↓kDiv, ↓kMod, ↓kPow, ↓kCat, ↓kRep, ↓kNeg, ↓kLt, ↓kLe, ↓kGt, ↓kGe, ↓kIsN, ↓kNotN, ↓kIsB, ↓isNon, ↓kIx, ↓kLen, ↓kSum, ↓kAll, ↓kAny, ↓kMax, ↓kMin, ↓kAbs, ↓kInt, ↓kStr, ↓kList, ↓kSortedI, ↓kIsi, isD, kit_int_int, kit_bool_int, kit_int_bool, kit_bool_bool, List.getElem?_cons_zero, List.getElem?_cons_succ, List.set_cons_zero, List.set_cons_succ, List.nil_append, List.cons_append, List.append_nil, Option.some.injEq, exists_eq_left', exists_eq_left, exists_and_left, exists_eq_right, Bool.not_true, Bool.not_false, Bool.false_eq_true, if_true, if_false, and_true, true_and, D.int.injEq, D.lst.injEq, D.bl.injEq, D.str.injEq, D.raw.injEq, D.tup.injEq, ite_true, ite_false, reduceIte, kit_none_int, kit_str_int, kit_list_int, kit_tuple_int, kit_dict_int]
    exact q
def F_is_width : DSp := fun ds M Q X => ∃ v, ds = [v] ∧ plainD v = true ∧ Q (.bl (isInteger v 1 (some 1000))) M
def N_is_width : List Str := ["value"]
def t_is_width (X' : DXK) : DTS := (dRet (dFn F_is_integer [] X' (daCons (dVar 0) (daCons (dC (.int 1)) (daCons (dC (.int 1000)) daNil)))))
theorem pure_is_width : Keeps F_is_width t_is_width N_is_width := by
  rintro _ M Q X' ⟨v, rfl, hv, q⟩
  exact ⟨v, 1, some 1000, rfl, hv, q⟩
def F_total_of : DSp := fun ds M Q X => ∃ ns, ds = [dInts ns] ∧ Q (.int (totalOf ns)) M
def N_total_of : List Str := ["lengths"]
def t_total_of (X' : DXK) : DTS := (dRet (dOp kSub (dOp kAdd (dCall kSum (daCons (dVarB 0) daNil)) (dCall kLen (daCons (dVarB 0) daNil))) (dC (.int 1))))
theorem pure_total_of : Keeps F_total_of t_total_of N_total_of := by
  rintro _ M Q X' ⟨ns, rfl, q⟩
  show t_total_of X' _ [.im (dInts ns)] M
  simp only [t_total_of, ↓dSeq, ↓dNext, ↓dIfS, ↓dRet, ↓dRetV, ↓dRetN, ↓dRetM, ↓dSet, ↓dAsg, ↓dOwn, ↓dOwnD, ↓dParOI, ↓dParII, ↓dAug, ↓dApp, ↓dPutL, ↓dPutS, ↓dPutM, ↓dUpd, ↓dfRg2, ↓kRepr, ↓kSortedD, ↓dDrop, ↓dNever, ↓dFrz, ↓frz, ↓dgName, ↓dgNil, ↓dgCons, ↓dgTup, ↓dVar, ↓dVarB, ↓dC, ↓dOp, ↓dOpF, ↓dUn, ↓dTest, ↓dChain, ↓dAnd, ↓dOr, ↓dNot, ↓dTru, ↓truD, ↓dAndV, ↓dOrV, ↓dNotV, ↓dIf, ↓daNil, ↓daCons, ↓dTup, ↓dfLst, ↓dLst, ↓dNoPart, ↓dPart, ↓dfSl, ↓dSlS, ↓dCall, ↓dfCall, ↓dFn, ↓dFnK, ↓dYes, ↓kAdd, ↓kSub, ↓kMul, ↓kDiv, ↓kMod, ↓kPow, ↓kCat, ↓kRep, ↓kNeg, ↓kLt, ↓kLe, ↓kGt, ↓kGe, ↓kIsN, ↓kNotN, ↓kIsB, ↓isNon, ↓kIx, ↓kLen, ↓kSum, ↓kAll, ↓kAny, ↓kMax, ↓kMin, ↓kAbs, ↓kInt, ↓kStr, ↓kList, ↓kSortedI, ↓kIsi, isD, kit_int_int, kit_bool_int, kit_int_bool, kit_bool_bool, List.getElem?_cons_zero, List.getElem?_cons_succ, List.set_cons_zero, List.set_cons_succ, List.nil_append, List.cons_append, List.append_nil, Option.some.injEq, exists_eq_left', exists_eq_left, exists_and_left, exists_eq_right, Bool.not_true, Bool.not_false, Bool.false_eq_true, if_true, if_false, and_true, true_and, D.int.injEq, D.lst.injEq, D.bl.injEq, D.str.injEq, D.raw.injEq, D.tup.injEq, ite_true, ite_false, reduceIte]
  refine ⟨ns, intsD_map ns, ?_⟩
  rw [List.length_map]
  exact q
/-! are_lengths -/
/-- a value that may be asked whether it is a list of lengths: where it is a list, its items are plain, and it can be compared -/
def GoodL (v : D) : Prop := plainD v = true ∧ ∀ ds, v = .lst ds → (∀ d ∈ ds, plainD d = true) ∧ ds.length ≤ sizeLine ∧ ∃ p, toPy v = some p ∧ SeqAt.shaped p = true
def isLengths (v : D) : Bool := match v with
  | .lst ds => !ds.isEmpty && ds.all (fun d => isInteger d 1 none) && (match intsD ds with
    | some ns => decide (totalOf ns ≤ 600)
    | none => false)
  | _ => false
theorem ints_of_all : ∀ {ds : List D}, ds.all (fun d => isInteger d 1 none) = true → ∃ ns, intsD ds = some ns ∧ ∀ n ∈ ns, 1 ≤ n
  | [], _ => ⟨[], rfl, by simp⟩
  | d :: r, h => by
    rw [List.all_cons, Bool.and_eq_true] at h
    obtain ⟨ns, h1, h2⟩ := ints_of_all h.2
    cases d with
    | int i =>
      refine ⟨i :: ns, by simp only [intsD, h1, Option.map_some], fun n hn => ?_⟩
      rcases List.mem_cons.mp hn with e | e
      · subst e
        simpa [isInteger] using h.1
      · exact h2 n e
    | _ => simp [isInteger] at h
theorem toPys_ne {ds : List D} {p : PyData} (h : toPy (.lst ds) = some p) : PyData.eqv p (.list []) = ds.isEmpty := by
  simp only [toPy, Option.map_eq_some_iff] at h
  obtain ⟨ps, h1, rfl⟩ := h
  cases ds with
  | nil => simp only [toPys, Option.some.injEq] at h1; subst h1; rfl
  | cons d r =>
    simp only [toPys] at h1
    cases e : toPy d with
    | none => rw [e] at h1; cases h1
    | some a =>
      rw [e] at h1
      simp only [Option.map_eq_some_iff] at h1
      obtain ⟨qs, _, rfl⟩ := h1
      rfl
def F_are_lengths : DSp := fun ds M Q X => ∃ v, ds = [v] ∧ GoodL v ∧ Q (.bl (isLengths v)) M
def N_are_lengths : List Str := ["value", "length"]
def t_are_lengths (X' : DXK) : DTS := (dSeq (dIfS (dOr (dNot (dTru (dCall kIsi (daCons (dVarB 0) (daCons (dC (.raw (.ty "list"))) daNil))))) (dOr (dTest (dOp kEq (dVarB 0) (dLst (dfLst daNil)))) (dNot (dTru (dCall kAll (daCons (dLst (dLc (dItems (dVar 0)) (dgName 1) dYes (dFn F_is_integer [.non] X0 (daCons (dVar 1) (daCons (dC (.int 1)) daNil))) [1])) daNil)))))) (dRet (dC (.bl false))) dNext)
    (dRet (dOp kLe (dFn F_total_of [] X' (daCons (dVar 0) daNil)) (dC (.int 600)))))
theorem pure_are_lengths : Keeps F_are_lengths t_are_lengths N_are_lengths := by
  rintro _ M Q X' ⟨v, rfl, hv, q⟩
  show t_are_lengths X' _ [.im v, .no] M
  cases v with
  | lst ds =>
    obtain ⟨h1, hz, p, h2, h3⟩ := hv.2 ds rfl
    simp only [t_are_lengths, ↓dSeq, ↓dNext, ↓dIfS, ↓dRet, ↓dRetV, ↓dRetN, ↓dRetM, ↓dSet, ↓dAsg, ↓dOwn, ↓dOwnD, ↓dParOI, ↓dParII, ↓dAug, ↓dApp, ↓dPutL, ↓dPutS, ↓dPutM, ↓dUpd, ↓dfRg2, ↓kRepr, ↓kSortedD, ↓dDrop, ↓dNever, ↓dFrz, ↓frz, ↓dgName, ↓dgNil, ↓dgCons, ↓dgTup, ↓dVar, ↓dVarB, ↓dC, ↓dOp, ↓dOpF, ↓dUn, ↓dTest, ↓dChain, ↓dAnd, ↓dOr, ↓dNot, ↓dTru, ↓truD, ↓dAndV, ↓dOrV, ↓dNotV, ↓dIf, ↓daNil, ↓daCons, ↓dTup, ↓dfLst, ↓dLst, ↓dNoPart, ↓dPart, ↓dfSl, ↓dSlS, ↓dCall, ↓dfCall, ↓dFn, ↓dFnK, ↓dYes, ↓kAdd, ↓kSub, ↓kMul, ↓kDiv, ↓kMod, ↓kPow, ↓kCat, ↓kRep, ↓kNeg, ↓kLt, ↓kLe, ↓kGt, ↓kGe, ↓kIsN, ↓kNotN, ↓kIsB, ↓isNon, ↓kIx, ↓kLen, ↓kSum, ↓kAll, ↓kAny, ↓kMax, ↓kMin, ↓kAbs, ↓kInt, ↓kStr, ↓kList, ↓kSortedI, ↓kIsi, isD, kit_int_int, kit_bool_int, kit_int_bool, kit_bool_bool, List.getElem?_cons_zero, List.getElem?_cons_succ, List.set_cons_zero, List.set_cons_succ, List.nil_append, List.cons_append, List.append_nil, Option.some.injEq, exists_eq_left', exists_eq_left, exists_and_left, exists_eq_right, Bool.not_true, Bool.not_false, Bool.false_eq_true, if_true, if_false, and_true, true_and, D.int.injEq, D.lst.injEq, D.bl.injEq, D.str.injEq, D.raw.injEq, D.tup.injEq, ite_true, ite_false, reduceIte, kit_list_list]
    refine ⟨Nat.zero_le _, p, .list [], h2, by simp [toPy, toPys], h3, by decide, ?_⟩
    rw [toPys_ne h2]
    cases he : ds.isEmpty with
    | true =>
      simp only [isLengths, he] at q
      simpa using q
    | false =>
      simp only [Bool.false_eq_true, if_false]
      refine lc_map (fun d => .bl (isInteger d 1 none)) (ds := ds) (fun R h => h) hz (fun d hd Z z => ⟨d, 1, none, rfl, h1 d hd, z⟩) ?_
      have e : ds.map (fun d => D.bl (isInteger d 1 none)) = (ds.map fun d => isInteger d 1 none).map D.bl := by rw [List.map_map]; rfl
      refine ⟨ds.map fun d => isInteger d 1 none, by rw [e]; exact blsD_map _, ?_⟩
      have e2 : (ds.map fun d => isInteger d 1 none).all id = ds.all fun d => isInteger d 1 none := by rw [List.all_map]; rfl
      rw [e2]
      cases ha : ds.all fun d => isInteger d 1 none with
      | false =>
        simp only [isLengths, he, ha] at q
        simpa using q
      | true =>
        obtain ⟨ns, h4, h5⟩ := ints_of_all ha
        have e3 := intsD_iff h4
        simp only [isLengths, he, ha, h4] at q
        simp only [Bool.not_true, Bool.false_eq_true, if_false]
        exact ⟨ns, by rw [e3], by simpa using q⟩
  | raw _ => exact absurd hv.1 (by simp [plainD])
  | ins _ _ => exact absurd hv.1 (by simp [plainD])
  | scr _ => exact absurd hv.1 (by simp [plainD])
  | _ =>
    simp only [t_are_lengths, ↓dSeq, ↓dNext, ↓dIfS, ↓dRet, ↓dRetV, ↓dRetN, ↓dRetM, ↓dSet, ↓dAsg, ↓dOwn, ↓dOwnD, ↓dParOI, ↓dParII, ↓dAug, ↓dApp, ↓dPutL, ↓dPutS, ↓dPutM, ↓dUpd, ↓dfRg2, ↓kRepr, ↓kSortedD, ↓dDrop, ↓dNever, ↓dFrz, ↓frz, ↓dgName, ↓dgNil, ↓dgCons, ↓dgTup, ↓dVar, ↓dVarB, ↓dC, ↓dOp, ↓dOpF, ↓dUn, ↓dTest, ↓dChain, ↓dAnd, ↓dOr, ↓dNot, ↓dTru, ↓truD, ↓dAndV, ↓dOrV, ↓dNotV, ↓dIf, ↓daNil, ↓daCons, ↓dTup, ↓dfLst, ↓dLst, ↓dNoPart, ↓dPart, ↓dfSl, ↓dSlS, ↓dCall, ↓dfCall, ↓dFn, ↓dFnK, ↓dYes, ↓kAdd, ↓kSub, ↓kMul, ↓kDiv, ↓kMod, ↓kPow, ↓kCat, ↓kRep, ↓kNeg, ↓kLt, ↓kLe, ↓kGt, ↓kGe, ↓kIsN, ↓kNotN, ↓kIsB, ↓isNon, ↓kIx, ↓kLen, ↓kSum, ↓kAll, ↓kAny, ↓kMax, ↓kMin, ↓kAbs, ↓kInt, ↓kStr, ↓kList, ↓kSortedI, ↓kIsi, isD, kit_int_int, kit_bool_int, kit_int_bool, kit_bool_bool, List.getElem?_cons_zero, List.getElem?_cons_succ, List.set_cons_zero, List.set_cons_succ, List.nil_append, List.cons_append, List.append_nil, Option.some.injEq, exists_eq_left', exists_eq_left, exists_and_left, exists_eq_right, Bool.not_true, Bool.not_false, Bool.false_eq_true, if_true, if_false, and_true, true_and, D.int.injEq, D.lst.injEq, D.bl.injEq, D.str.injEq, D.raw.injEq, D.tup.injEq, ite_true, ite_false, reduceIte, kit_none_list, kit_bool_list, kit_int_list, kit_str_list, kit_tuple_list, kit_dict_list]
    exact q
theorem isLengths_ints {ns : List Int} : isLengths (dInts ns) = true ↔ IsText ns := by
  have e : (ns.map D.int).all (fun d => isInteger d 1 none) = ns.all fun n => decide (1 ≤ n) := by
    rw [List.all_map]
    congr 1
    funext n
    simp [isInteger]
  simp only [isLengths, intsD_map, e, Bool.and_eq_true, List.all_eq_true, decide_eq_true_eq]
  constructor
  · rintro ⟨⟨h1, h2⟩, h3⟩
    refine ⟨fun z => ?_, h2, h3⟩
    subst z
    simp at h1
  · rintro ⟨h1, h2, h3⟩
    refine ⟨⟨?_, h2⟩, h3⟩
    cases ns with
    | nil => exact absurd rfl h1
    | cons _ _ => rfl
theorem toPys_ints : ∀ ns : List Int, toPys (ns.map D.int) = some (ns.map PyData.int)
  | [] => rfl
  | n :: ns => by rw [List.map_cons]; simp only [toPys, toPy, toPys_ints ns, Option.map_some, List.map_cons]
theorem toPy_ints (ns : List Int) : toPy (dInts ns) = some (.list (ns.map PyData.int)) := by simp only [toPy, toPys_ints, Option.map_some]
theorem canLay_ints : ∀ ns : List Int, PyData.canLayAll0 (ns.map PyData.int) = true
  | [] => rfl
  | n :: ns => by rw [List.map_cons]; simp only [PyData.canLayAll0, PyData.canLay0, canLay_ints ns, Bool.and_self]
theorem depth_ints : ∀ ns : List Int, PyData.depthAll (ns.map PyData.int) = 0
  | [] => rfl
  | n :: ns => by rw [List.map_cons]; simp only [PyData.depthAll, PyData.depth, depth_ints ns, Nat.max_self]
theorem shaped_ints (ns : List Int) : SeqAt.shaped (.list (ns.map PyData.int)) = true := by
  simp only [SeqAt.shaped, PyData.canLay0, canLay_ints, PyData.depth, depth_ints, Bool.true_and]
  decide
theorem goodL_ints {ns : List Int} (h : ns.length ≤ sizeLine) : GoodL (dInts ns) := by
  refine ⟨rfl, fun ds e => ?_⟩
  cases e
  refine ⟨fun d hd => ?_, by rw [List.length_map]; exact h, _, toPy_ints ns, shaped_ints ns⟩
  obtain ⟨n, _, rfl⟩ := List.mem_map.mp hd
  rfl
def F_is_text : DSp := fun ds M Q X => ∃ v, ds = [v] ∧ GoodL v ∧ Q (.bl (isLengths v)) M
def N_is_text : List Str := ["value"]
def t_is_text (X' : DXK) : DTS := (dRet (dFn F_are_lengths [] X' (daCons (dVar 0) daNil)))
theorem pure_is_text : Keeps F_is_text t_is_text N_is_text := by
  rintro _ M Q X' ⟨v, rfl, hv, q⟩
  exact ⟨v, rfl, hv, q⟩
def F_require_text : DSp := fun ds M Q X => ∃ v, ds = [v] ∧ GoodL v ∧ (isLengths v = true → Q .non M) ∧ (isLengths v = false → X (.ref Cls.InvalidText) none M)
def N_require_text : List Str := ["text"]
def t_require_text (X' : DXK) : DTS := (dIfS (dNot (dTru (dFn F_is_text [] X' (daCons (dVar 0) daNil)))) (dRaise X' Cls.InvalidText) dNext)
theorem pure_require_text : Keeps F_require_text t_require_text N_require_text := by
  rintro _ M Q X' ⟨v, rfl, hv, q1, q2⟩
  show t_require_text X' _ [.im v] M
  simp only [t_require_text, ↓dSeq, ↓dNext, ↓dIfS, ↓dRet, ↓dRetV, ↓dRetN, ↓dRetM, ↓dSet, ↓dAsg, ↓dOwn, ↓dOwnD, ↓dParOI, ↓dParII, ↓dAug, ↓dApp, ↓dPutL, ↓dPutS, ↓dPutM, ↓dUpd, ↓dfRg2, ↓kRepr, ↓kSortedD, ↓dDrop, ↓dNever, ↓dFrz, ↓frz, ↓dgName, ↓dgNil, ↓dgCons, ↓dgTup, ↓dVar, ↓dVarB, ↓dC, ↓dOp, ↓dOpF, ↓dUn, ↓dTest, ↓dChain, ↓dAnd, ↓dOr, ↓dNot, ↓dTru, ↓truD, ↓dAndV, ↓dOrV, ↓dNotV, ↓dIf, ↓daNil, ↓daCons, ↓dTup, ↓dfLst, ↓dLst, ↓dNoPart, ↓dPart, ↓dfSl, ↓dSlS, ↓dCall, ↓dfCall, ↓dFn, ↓dFnK, ↓dYes, ↓kAdd, ↓kSub, ↓kMul, ↓kDiv, ↓kMod, ↓kPow, ↓kCat, ↓kRep, ↓kNeg, ↓kLt, ↓kLe, ↓kGt, ↓kGe, ↓kIsN, ↓kNotN, ↓kIsB, ↓isNon, ↓kIx, ↓kLen, ↓kSum, ↓kAll, ↓kAny, ↓kMax, ↓kMin, ↓kAbs, ↓kInt, ↓kStr, ↓kList, ↓kSortedI, ↓kIsi, isD, kit_int_int, kit_bool_int, kit_int_bool, kit_bool_bool, List.getElem?_cons_zero, List.getElem?_cons_succ, List.set_cons_zero, List.set_cons_succ, List.nil_append, List.cons_append, List.append_nil, Option.some.injEq, exists_eq_left', exists_eq_left, exists_and_left, exists_eq_right, Bool.not_true, Bool.not_false, Bool.false_eq_true, if_true, if_false, and_true, true_and, D.int.injEq, D.lst.injEq, D.bl.injEq, D.str.injEq, D.raw.injEq, D.tup.injEq, ite_true, ite_false, reduceIte, dRaise]
  refine ⟨v, rfl, hv, ?_⟩
  cases h : isLengths v with
  | true => simpa using q1 h
  | false => simpa using q2 h
def F_require_width : DSp := fun ds M Q X => ∃ v, ds = [v] ∧ plainD v = true ∧ (isInteger v 1 (some 1000) = true → Q .non M) ∧ (isInteger v 1 (some 1000) = false → X (.ref Cls.InvalidWidth) none M)
def N_require_width : List Str := ["width"]
def t_require_width (X' : DXK) : DTS := (dIfS (dNot (dTru (dFn F_is_width [] X' (daCons (dVar 0) daNil)))) (dRaise X' Cls.InvalidWidth) dNext)
theorem pure_require_width : Keeps F_require_width t_require_width N_require_width := by
  rintro _ M Q X' ⟨v, rfl, hv, q1, q2⟩
  show t_require_width X' _ [.im v] M
  simp only [t_require_width, ↓dSeq, ↓dNext, ↓dIfS, ↓dRet, ↓dRetV, ↓dRetN, ↓dRetM, ↓dSet, ↓dAsg, ↓dOwn, ↓dOwnD, ↓dParOI, ↓dParII, ↓dAug, ↓dApp, ↓dPutL, ↓dPutS, ↓dPutM, ↓dUpd, ↓dfRg2, ↓kRepr, ↓kSortedD, ↓dDrop, ↓dNever, ↓dFrz, ↓frz, ↓dgName, ↓dgNil, ↓dgCons, ↓dgTup, ↓dVar, ↓dVarB, ↓dC, ↓dOp, ↓dOpF, ↓dUn, ↓dTest, ↓dChain, ↓dAnd, ↓dOr, ↓dNot, ↓dTru, ↓truD, ↓dAndV, ↓dOrV, ↓dNotV, ↓dIf, ↓daNil, ↓daCons, ↓dTup, ↓dfLst, ↓dLst, ↓dNoPart, ↓dPart, ↓dfSl, ↓dSlS, ↓dCall, ↓dfCall, ↓dFn, ↓dFnK, ↓dYes, ↓kAdd, ↓kSub, ↓kMul, ↓kDiv, ↓kMod, ↓kPow, ↓kCat, ↓kRep, ↓kNeg, ↓kLt, ↓kLe, ↓kGt, ↓kGe, ↓kIsN, ↓kNotN, ↓kIsB, ↓isNon, ↓kIx, ↓kLen, ↓kSum, ↓kAll, ↓kAny, ↓kMax, ↓kMin, ↓kAbs, ↓kInt, ↓kStr, ↓kList, ↓kSortedI, ↓kIsi, isD, kit_int_int, kit_bool_int, kit_int_bool, kit_bool_bool, List.getElem?_cons_zero, List.getElem?_cons_succ, List.set_cons_zero, List.set_cons_succ, List.nil_append, List.cons_append, List.append_nil, Option.some.injEq, exists_eq_left', exists_eq_left, exists_and_left, exists_eq_right, Bool.not_true, Bool.not_false, Bool.false_eq_true, if_true, if_false, and_true, true_and, D.int.injEq, D.lst.injEq, D.bl.injEq, D.str.injEq, D.raw.injEq, D.tup.injEq, ite_true, ite_false, reduceIte, dRaise]
  refine ⟨v, rfl, hv, ?_⟩
  cases h : isInteger v 1 (some 1000) with
  | true => simpa using q1 h
  | false => simpa using q2 h
/-! ends_of, starts_of, lengths_of, wrapped_ends, wrap_of -/
def F_ends_of : DSp := fun ds M Q X => ∃ ns, ds = [dInts ns] ∧ ns.length ≤ 100000 ∧ Q (dInts (endsOf ns)) M
def N_ends_of : List Str := ["lengths", "found", "position", "length"]
def t_ends_of (X' : DXK) : DTS := (dSeq (dParOI (dfLst daNil) (dUn kNeg (dC (.int 1))) 1 2)
    (dSeq (dFor (dItems (dVar 0)) (dgName 3) (dSeq (dAug (· + ·) 2 (dOp kAdd (dC (.int 1)) (dVarB 3)))
    (dApp 1 (dVar 2))))
    (dRetV 1)))
theorem pure_ends_of : Keeps F_ends_of t_ends_of N_ends_of := by
  rintro _ M Q X' ⟨ns, rfl, hl, q⟩
  show t_ends_of X' _ [.im (dInts ns), .no, .no, .no] M
  simp only [t_ends_of, ↓dSeq, ↓dNext, ↓dIfS, ↓dRet, ↓dRetV, ↓dRetN, ↓dRetM, ↓dSet, ↓dAsg, ↓dOwn, ↓dOwnD, ↓dParOI, ↓dParII, ↓dAug, ↓dApp, ↓dPutL, ↓dPutS, ↓dPutM, ↓dUpd, ↓dfRg2, ↓kRepr, ↓kSortedD, ↓dDrop, ↓dNever, ↓dFrz, ↓frz, ↓dgName, ↓dgNil, ↓dgCons, ↓dgTup, ↓dVar, ↓dVarB, ↓dC, ↓dOp, ↓dOpF, ↓dUn, ↓dTest, ↓dChain, ↓dAnd, ↓dOr, ↓dNot, ↓dTru, ↓truD, ↓dAndV, ↓dOrV, ↓dNotV, ↓dIf, ↓daNil, ↓daCons, ↓dTup, ↓dfLst, ↓dLst, ↓dNoPart, ↓dPart, ↓dfSl, ↓dSlS, ↓dCall, ↓dfCall, ↓dFn, ↓dFnK, ↓dYes, ↓kAdd, ↓kSub, ↓kMul, ↓kDiv, ↓kMod, ↓kPow, ↓kCat, ↓kRep, ↓kNeg, ↓kLt, ↓kLe, ↓kGt, ↓kGe, ↓kIsN, ↓kNotN, ↓kIsB, ↓isNon, ↓kIx, ↓kLen, ↓kSum, ↓kAll, ↓kAny, ↓kMax, ↓kMin, ↓kAbs, ↓kInt, ↓kStr, ↓kList, ↓kSortedI, ↓kIsi, isD, kit_int_int, kit_bool_int, kit_int_bool, kit_bool_bool, List.getElem?_cons_zero, List.getElem?_cons_succ, List.set_cons_zero, List.set_cons_succ, List.nil_append, List.cons_append, List.append_nil, Option.some.injEq, exists_eq_left', exists_eq_left, exists_and_left, exists_eq_right, Bool.not_true, Bool.not_false, Bool.false_eq_true, if_true, if_false, and_true, true_and, D.int.injEq, D.lst.injEq, D.bl.injEq, D.str.injEq, D.raw.injEq, D.tup.injEq, ite_true, ite_false, reduceIte]
  refine ⟨Nat.zero_le _, for_inv (fun R h => h) (fun i δ M' => M' = M ∧ ∃ p w, δ = [.im (dInts ns), .ow ((endsOf (ns.take i)).map .int), .im (.int p), w] ∧ p = -1 + (ns.take i).sum + ((ns.take i).length : Nat)) ⟨rfl, _, _, rfl, by simp⟩ ?_ ?_⟩
  · rintro i d δ M' hd ⟨rfl, p, w, rfl, hp⟩
    obtain ⟨n, hn, rfl⟩ := map_get hd
    have hlt := (List.getElem?_eq_some_iff.mp hn).1
    simp only [↓dSeq, ↓dNext, ↓dIfS, ↓dRet, ↓dRetV, ↓dRetN, ↓dRetM, ↓dSet, ↓dAsg, ↓dOwn, ↓dOwnD, ↓dParOI, ↓dParII, ↓dAug, ↓dApp, ↓dPutL, ↓dPutS, ↓dPutM, ↓dUpd, ↓dfRg2, ↓kRepr, ↓kSortedD, ↓dDrop, ↓dNever, ↓dFrz, ↓frz, ↓dgName, ↓dgNil, ↓dgCons, ↓dgTup, ↓dVar, ↓dVarB, ↓dC, ↓dOp, ↓dOpF, ↓dUn, ↓dTest, ↓dChain, ↓dAnd, ↓dOr, ↓dNot, ↓dTru, ↓truD, ↓dAndV, ↓dOrV, ↓dNotV, ↓dIf, ↓daNil, ↓daCons, ↓dTup, ↓dfLst, ↓dLst, ↓dNoPart, ↓dPart, ↓dfSl, ↓dSlS, ↓dCall, ↓dfCall, ↓dFn, ↓dFnK, ↓dYes, ↓kAdd, ↓kSub, ↓kMul, ↓kDiv, ↓kMod, ↓kPow, ↓kCat, ↓kRep, ↓kNeg, ↓kLt, ↓kLe, ↓kGt, ↓kGe, ↓kIsN, ↓kNotN, ↓kIsB, ↓isNon, ↓kIx, ↓kLen, ↓kSum, ↓kAll, ↓kAny, ↓kMax, ↓kMin, ↓kAbs, ↓kInt, ↓kStr, ↓kList, ↓kSortedI, ↓kIsi, isD, kit_int_int, kit_bool_int, kit_int_bool, kit_bool_bool, List.getElem?_cons_zero, List.getElem?_cons_succ, List.set_cons_zero, List.set_cons_succ, List.nil_append, List.cons_append, List.append_nil, Option.some.injEq, exists_eq_left', exists_eq_left, exists_and_left, exists_eq_right, Bool.not_true, Bool.not_false, Bool.false_eq_true, if_true, if_false, and_true, true_and, D.int.injEq, D.lst.injEq, D.bl.injEq, D.str.injEq, D.raw.injEq, D.tup.injEq, ite_true, ite_false, reduceIte]
    have e : endsOf (ns.take (i + 1)) = endsOf (ns.take i) ++ [p + (1 + n)] := by rw [take_next hn, endsOf_snoc, hp]
    refine ⟨?_, p + (1 + n), .im (.int n), ?_, ?_⟩
    · rw [List.length_map, endsOf_length, List.length_take]
      exact size_lt (by omega)
    · rw [e, List.map_append]
      rfl
    · rw [take_next hn, hp, List.sum_append, List.length_append]
      simp
      omega
  · rintro δ M' ⟨rfl, p, w, rfl, hp⟩
    rw [List.length_map, List.take_length]
    exact q
def F_starts_of : DSp := fun ds M Q X => ∃ es, ds = [dInts es] ∧ es.length ≤ 100000 ∧ Q (dInts (startsOf es)) M
def N_starts_of : List Str := ["ends", "end"]
def t_starts_of (X' : DXK) : DTS := (dRet (dOp kAdd (dLst (dfLst (daCons (dC (.int 0)) daNil))) (dLst (dLc (dItems (dLst (dfSl (dVarB 0) dNoPart (dPart (dUn kNeg (dC (.int 1))))))) (dgName 1) dYes (dOp kAdd (dVarB 1) (dC (.int 1))) [1]))))
theorem cutD_init (ds : List D) : cutD ds none (some (-1)) = ds.dropLast := by
  unfold cutD
  rw [HT.sIx_none]
  have e : HT.sIx ds.length ds.length (some (-1)) = ds.length - 1 := by
    unfold HT.sIx
    simp
    omega
  rw [e, List.drop_zero, Nat.sub_zero, List.dropLast_eq_take]
theorem cutD_tail (ds : List D) : cutD ds (some 1) none = ds.drop 1 := by
  unfold cutD
  rw [HT.sIx_none]
  have e : HT.sIx ds.length 0 (some 1) = min 1 ds.length := by
    unfold HT.sIx
    simp
  rw [e]
  cases ds with
  | nil => rfl
  | cons d r => simp
theorem cutD_last (ds : List D) : cutD ds (some (-1)) none = ds.drop (ds.length - 1) := by
  unfold cutD
  rw [HT.sIx_none]
  have e : HT.sIx ds.length 0 (some (-1)) = ds.length - 1 := by
    unfold HT.sIx
    simp
    omega
  rw [e, List.take_of_length_le]
  rw [List.length_drop]
  exact Nat.le_refl _
theorem pure_starts_of : Keeps F_starts_of t_starts_of N_starts_of := by
  rintro _ M Q X' ⟨es, rfl, hl, q⟩
  show t_starts_of X' _ [.im (dInts es), .no] M
  simp only [t_starts_of, ↓dSeq, ↓dNext, ↓dIfS, ↓dRet, ↓dRetV, ↓dRetN, ↓dRetM, ↓dSet, ↓dAsg, ↓dOwn, ↓dOwnD, ↓dParOI, ↓dParII, ↓dAug, ↓dApp, ↓dPutL, ↓dPutS, ↓dPutM, ↓dUpd, ↓dfRg2, ↓kRepr, ↓kSortedD, ↓dDrop, ↓dNever, ↓dFrz, ↓frz, ↓dgName, ↓dgNil, ↓dgCons, ↓dgTup, ↓dVar, ↓dVarB, ↓dC, ↓dOp, ↓dOpF, ↓dUn, ↓dTest, ↓dChain, ↓dAnd, ↓dOr, ↓dNot, ↓dTru, ↓truD, ↓dAndV, ↓dOrV, ↓dNotV, ↓dIf, ↓daNil, ↓daCons, ↓dTup, ↓dfLst, ↓dLst, ↓dNoPart, ↓dPart, ↓dfSl, ↓dSlS, ↓dCall, ↓dfCall, ↓dFn, ↓dFnK, ↓dYes, ↓kAdd, ↓kSub, ↓kMul, ↓kDiv, ↓kMod, ↓kPow, ↓kCat, ↓kRep, ↓kNeg, ↓kLt, ↓kLe, ↓kGt, ↓kGe, ↓kIsN, ↓kNotN, ↓kIsB, ↓isNon, ↓kIx, ↓kLen, ↓kSum, ↓kAll, ↓kAny, ↓kMax, ↓kMin, ↓kAbs, ↓kInt, ↓kStr, ↓kList, ↓kSortedI, ↓kIsi, isD, kit_int_int, kit_bool_int, kit_int_bool, kit_bool_bool, List.getElem?_cons_zero, List.getElem?_cons_succ, List.set_cons_zero, List.set_cons_succ, List.nil_append, List.cons_append, List.append_nil, Option.some.injEq, exists_eq_left', exists_eq_left, exists_and_left, exists_eq_right, Bool.not_true, Bool.not_false, Bool.false_eq_true, if_true, if_false, and_true, true_and, D.int.injEq, D.lst.injEq, D.bl.injEq, D.str.injEq, D.raw.injEq, D.tup.injEq, ite_true, ite_false, reduceIte]
  refine ⟨by decide, ?_⟩
  refine lc_map (ds := (es.dropLast).map .int) (fun d => match d with
    | .int n => .int (n + 1)
    | d => d) (fun R h => ?_) ?_ (fun d hd Z z => ?_) ?_
  · show R (cutD (es.map .int) none (some (-1))) M
    rw [cutD_init, ← List.map_dropLast]
    exact h
  · rw [List.length_map, List.length_dropLast]
    exact size_small (by omega)
  · obtain ⟨n, _, rfl⟩ := List.mem_map.mp hd
    exact z
  · rw [List.map_map]
    refine ⟨?_, ?_⟩
    · simp only [List.length_cons, List.length_nil, List.length_map, List.length_dropLast]
      exact size_small (by omega)
    · have e : dInts (startsOf es) = .lst (D.int 0 :: List.map ((fun d => match d with
          | .int n => .int (n + 1)
          | d => d) ∘ D.int) es.dropLast) := by
        simp only [dInts, startsOf, List.map_cons, List.map_map]
        rfl
      rw [e] at q
      exact q
def F_lengths_of : DSp := fun ds M Q X => ∃ es, ds = [dInts es] ∧ es.length ≤ 100000 ∧ Q (dInts (lengthsOf es)) M
def N_lengths_of : List Str := ["ends", "start", "end"]
def t_lengths_of (X' : DXK) : DTS := (dRet (dLst (dLc (dZip (daCons (dFn F_starts_of [] X' (daCons (dVar 0) daNil)) (daCons (dVar 0) daNil))) (dgTup 2 (dgCons (dgName 1) (dgCons (dgName 2) dgNil))) dYes (dOp kSub (dVarB 2) (dVarB 1)) [1, 2])))
theorem zipD_ints (a b : List Int) : zipD (a.map .int) (b.map .int) = (a.zip b).map fun p => D.tup [.int p.1, .int p.2] := by
  unfold zipD
  rw [List.zip_map, List.map_map]
  rfl
theorem startsOf_length {es : List Int} (h : es ≠ []) : (startsOf es).length = es.length := by
  unfold startsOf
  rw [List.length_cons, List.length_map, List.length_dropLast]
  have := List.length_pos_iff.mpr h
  omega
theorem pure_lengths_of : Keeps F_lengths_of t_lengths_of N_lengths_of := by
  rintro _ M Q X' ⟨es, rfl, hl, q⟩
  show t_lengths_of X' _ [.im (dInts es), .no, .no] M
  simp only [t_lengths_of, ↓dSeq, ↓dNext, ↓dIfS, ↓dRet, ↓dRetV, ↓dRetN, ↓dRetM, ↓dSet, ↓dAsg, ↓dOwn, ↓dOwnD, ↓dParOI, ↓dParII, ↓dAug, ↓dApp, ↓dPutL, ↓dPutS, ↓dPutM, ↓dUpd, ↓dfRg2, ↓kRepr, ↓kSortedD, ↓dDrop, ↓dNever, ↓dFrz, ↓frz, ↓dgName, ↓dgNil, ↓dgCons, ↓dgTup, ↓dVar, ↓dVarB, ↓dC, ↓dOp, ↓dOpF, ↓dUn, ↓dTest, ↓dChain, ↓dAnd, ↓dOr, ↓dNot, ↓dTru, ↓truD, ↓dAndV, ↓dOrV, ↓dNotV, ↓dIf, ↓daNil, ↓daCons, ↓dTup, ↓dfLst, ↓dLst, ↓dNoPart, ↓dPart, ↓dfSl, ↓dSlS, ↓dCall, ↓dfCall, ↓dFn, ↓dFnK, ↓dYes, ↓kAdd, ↓kSub, ↓kMul, ↓kDiv, ↓kMod, ↓kPow, ↓kCat, ↓kRep, ↓kNeg, ↓kLt, ↓kLe, ↓kGt, ↓kGe, ↓kIsN, ↓kNotN, ↓kIsB, ↓isNon, ↓kIx, ↓kLen, ↓kSum, ↓kAll, ↓kAny, ↓kMax, ↓kMin, ↓kAbs, ↓kInt, ↓kStr, ↓kList, ↓kSortedI, ↓kIsi, isD, kit_int_int, kit_bool_int, kit_int_bool, kit_bool_bool, List.getElem?_cons_zero, List.getElem?_cons_succ, List.set_cons_zero, List.set_cons_succ, List.nil_append, List.cons_append, List.append_nil, Option.some.injEq, exists_eq_left', exists_eq_left, exists_and_left, exists_eq_right, Bool.not_true, Bool.not_false, Bool.false_eq_true, if_true, if_false, and_true, true_and, D.int.injEq, D.lst.injEq, D.bl.injEq, D.str.injEq, D.raw.injEq, D.tup.injEq, ite_true, ite_false, reduceIte]
  refine lc_map (ds := ((startsOf es).zip es).map fun p => D.tup [.int p.1, .int p.2]) (fun d => match d with
    | .tup [.int a, .int b] => .int (b - a)
    | d => d) (fun R h => ?_) ?_ (fun d hd Z z => ?_) ?_
  · simp only [dZip, ↓dSeq, ↓dNext, ↓dIfS, ↓dRet, ↓dRetV, ↓dRetN, ↓dRetM, ↓dSet, ↓dAsg, ↓dOwn, ↓dOwnD, ↓dParOI, ↓dParII, ↓dAug, ↓dApp, ↓dPutL, ↓dPutS, ↓dPutM, ↓dUpd, ↓dfRg2, ↓kRepr, ↓kSortedD, ↓dDrop, ↓dNever, ↓dFrz, ↓frz, ↓dgName, ↓dgNil, ↓dgCons, ↓dgTup, ↓dVar, ↓dVarB, ↓dC, ↓dOp, ↓dOpF, ↓dUn, ↓dTest, ↓dChain, ↓dAnd, ↓dOr, ↓dNot, ↓dTru, ↓truD, ↓dAndV, ↓dOrV, ↓dNotV, ↓dIf, ↓daNil, ↓daCons, ↓dTup, ↓dfLst, ↓dLst, ↓dNoPart, ↓dPart, ↓dfSl, ↓dSlS, ↓dCall, ↓dfCall, ↓dFn, ↓dFnK, ↓dYes, ↓kAdd, ↓kSub, ↓kMul, ↓kDiv, ↓kMod, ↓kPow, ↓kCat, ↓kRep, ↓kNeg, ↓kLt, ↓kLe, ↓kGt, ↓kGe, ↓kIsN, ↓kNotN, ↓kIsB, ↓isNon, ↓kIx, ↓kLen, ↓kSum, ↓kAll, ↓kAny, ↓kMax, ↓kMin, ↓kAbs, ↓kInt, ↓kStr, ↓kList, ↓kSortedI, ↓kIsi, isD, kit_int_int, kit_bool_int, kit_int_bool, kit_bool_bool, List.getElem?_cons_zero, List.getElem?_cons_succ, List.set_cons_zero, List.set_cons_succ, List.nil_append, List.cons_append, List.append_nil, Option.some.injEq, exists_eq_left', exists_eq_left, exists_and_left, exists_eq_right, Bool.not_true, Bool.not_false, Bool.false_eq_true, if_true, if_false, and_true, true_and, D.int.injEq, D.lst.injEq, D.bl.injEq, D.str.injEq, D.raw.injEq, D.tup.injEq, ite_true, ite_false, reduceIte]
    rw [← zipD_ints] at h
    exact ⟨es, rfl, hl, h⟩
  · rw [List.length_map, List.length_zip]
    exact size_small (by omega)
  · obtain ⟨p, _, rfl⟩ := List.mem_map.mp hd
    exact ⟨rfl, z⟩
  · rw [List.map_map]
    have e : dInts (lengthsOf es) = .lst (((startsOf es).zip es).map ((fun d => match d with
        | .tup [.int a, .int b] => .int (b - a)
        | d => d) ∘ fun p => D.tup [.int p.1, .int p.2])) := by
      simp only [dInts, lengthsOf, List.zip, List.map_zipWith]
      rfl
    rw [e] at q
    exact q
def F_wrapped_ends : DSp := fun ds M Q X => ∃ ss w, ds = [dInts ss, .int w] ∧ ss.length ≤ 100000 ∧ Q (dInts (wrapGo w 0 ss)) M
def N_wrapped_ends : List Str := ["stops", "width", "found", "start", "stop", "following"]
def t_wrapped_ends (X' : DXK) : DTS := (dSeq (dParOI (dfLst daNil) (dC (.int 0)) 2 3)
    (dSeq (dFor (dZip (daCons (dVar 0) (daCons (dLst (dfSl (dVarB 0) (dPart (dC (.int 1))) dNoPart)) daNil))) (dgTup 2 (dgCons (dgName 4) (dgCons (dgName 5) dgNil))) (dIfS (dTest (dOp kGt (dVarB 5) (dOp kAdd (dVarB 3) (dVarB 1)))) (dSeq (dApp 2 (dVar 4))
    (dSet (dOp kAdd (dVarB 4) (dC (.int 1))) 3)) dNext))
    (dRet (dOp kAdd (dVarB 2) (dLst (dfSl (dVarB 0) (dPart (dUn kNeg (dC (.int 1)))) dNoPart))))))
theorem wrapGo_step {w start s t : Int} {ss : List Int} {i : Nat} (h1 : ss[i]? = some s) (h2 : ss[i + 1]? = some t) : wrapGo w start (ss.drop i) = if t > start + w then s :: wrapGo w (s + 1) (ss.drop (i + 1)) else wrapGo w start (ss.drop (i + 1)) := by
  have e1 : ss.drop i = s :: ss.drop (i + 1) := by
    obtain ⟨hlt, hget⟩ := List.getElem?_eq_some_iff.mp h1
    rw [List.drop_eq_getElem_cons hlt, hget]
  have e2 : ss.drop (i + 1) = t :: ss.drop (i + 2) := by
    obtain ⟨hlt, hget⟩ := List.getElem?_eq_some_iff.mp h2
    rw [List.drop_eq_getElem_cons hlt, hget]
  rw [e1, e2]
  rfl
theorem pure_wrapped_ends : Keeps F_wrapped_ends t_wrapped_ends N_wrapped_ends := by
  rintro _ M Q X' ⟨ss, w, rfl, hl, q⟩
  show t_wrapped_ends X' _ [.im (dInts ss), .im (.int w), .no, .no, .no, .no] M
  simp only [t_wrapped_ends, ↓dSeq, ↓dNext, ↓dIfS, ↓dRet, ↓dRetV, ↓dRetN, ↓dRetM, ↓dSet, ↓dAsg, ↓dOwn, ↓dOwnD, ↓dParOI, ↓dParII, ↓dAug, ↓dApp, ↓dPutL, ↓dPutS, ↓dPutM, ↓dUpd, ↓dfRg2, ↓kRepr, ↓kSortedD, ↓dDrop, ↓dNever, ↓dFrz, ↓frz, ↓dgName, ↓dgNil, ↓dgCons, ↓dgTup, ↓dVar, ↓dVarB, ↓dC, ↓dOp, ↓dOpF, ↓dUn, ↓dTest, ↓dChain, ↓dAnd, ↓dOr, ↓dNot, ↓dTru, ↓truD, ↓dAndV, ↓dOrV, ↓dNotV, ↓dIf, ↓daNil, ↓daCons, ↓dTup, ↓dfLst, ↓dLst, ↓dNoPart, ↓dPart, ↓dfSl, ↓dSlS, ↓dCall, ↓dfCall, ↓dFn, ↓dFnK, ↓dYes, ↓kAdd, ↓kSub, ↓kMul, ↓kDiv, ↓kMod, ↓kPow, ↓kCat, ↓kRep, ↓kNeg, ↓kLt, ↓kLe, ↓kGt, ↓kGe, ↓kIsN, ↓kNotN, ↓kIsB, ↓isNon, ↓kIx, ↓kLen, ↓kSum, ↓kAll, ↓kAny, ↓kMax, ↓kMin, ↓kAbs, ↓kInt, ↓kStr, ↓kList, ↓kSortedI, ↓kIsi, isD, kit_int_int, kit_bool_int, kit_int_bool, kit_bool_bool, List.getElem?_cons_zero, List.getElem?_cons_succ, List.set_cons_zero, List.set_cons_succ, List.nil_append, List.cons_append, List.append_nil, Option.some.injEq, exists_eq_left', exists_eq_left, exists_and_left, exists_eq_right, Bool.not_true, Bool.not_false, Bool.false_eq_true, if_true, if_false, and_true, true_and, D.int.injEq, D.lst.injEq, D.bl.injEq, D.str.injEq, D.raw.injEq, D.tup.injEq, ite_true, ite_false, reduceIte]
  refine ⟨Nat.zero_le _, for_inv (ds := (ss.zip (ss.drop 1)).map fun p => D.tup [.int p.1, .int p.2]) (fun R h => ?_) (fun i δ M' => M' = M ∧ ∃ acc start a b, δ = [.im (dInts ss), .im (.int w), .ow (acc.map .int), .im (.int start), a, b] ∧ acc ++ wrapGo w start (ss.drop i) = wrapGo w 0 ss ∧ acc.length ≤ i) ⟨rfl, [], 0, _, _, rfl, rfl, Nat.zero_le _⟩ ?_ ?_⟩
  · show R (zipD (ss.map .int) (cutD (ss.map .int) (some 1) none)) M
    rw [cutD_tail, ← List.map_drop, zipD_ints]
    exact h
  · rintro i d δ M' hd ⟨rfl, acc, start, a, b, rfl, hw, hi⟩
    obtain ⟨p, hp, rfl⟩ := map_get hd
    obtain ⟨h1, h2⟩ := List.getElem?_zip_eq_some.mp hp
    rw [List.getElem?_drop, Nat.add_comm] at h2
    have hlt := (List.getElem?_eq_some_iff.mp h1).1
    rw [wrapGo_step h1 h2] at hw
    simp only [↓dSeq, ↓dNext, ↓dIfS, ↓dRet, ↓dRetV, ↓dRetN, ↓dRetM, ↓dSet, ↓dAsg, ↓dOwn, ↓dOwnD, ↓dParOI, ↓dParII, ↓dAug, ↓dApp, ↓dPutL, ↓dPutS, ↓dPutM, ↓dUpd, ↓dfRg2, ↓kRepr, ↓kSortedD, ↓dDrop, ↓dNever, ↓dFrz, ↓frz, ↓dgName, ↓dgNil, ↓dgCons, ↓dgTup, ↓dVar, ↓dVarB, ↓dC, ↓dOp, ↓dOpF, ↓dUn, ↓dTest, ↓dChain, ↓dAnd, ↓dOr, ↓dNot, ↓dTru, ↓truD, ↓dAndV, ↓dOrV, ↓dNotV, ↓dIf, ↓daNil, ↓daCons, ↓dTup, ↓dfLst, ↓dLst, ↓dNoPart, ↓dPart, ↓dfSl, ↓dSlS, ↓dCall, ↓dfCall, ↓dFn, ↓dFnK, ↓dYes, ↓kAdd, ↓kSub, ↓kMul, ↓kDiv, ↓kMod, ↓kPow, ↓kCat, ↓kRep, ↓kNeg, ↓kLt, ↓kLe, ↓kGt, ↓kGe, ↓kIsN, ↓kNotN, ↓kIsB, ↓isNon, ↓kIx, ↓kLen, ↓kSum, ↓kAll, ↓kAny, ↓kMax, ↓kMin, ↓kAbs, ↓kInt, ↓kStr, ↓kList, ↓kSortedI, ↓kIsi, isD, kit_int_int, kit_bool_int, kit_int_bool, kit_bool_bool, List.getElem?_cons_zero, List.getElem?_cons_succ, List.set_cons_zero, List.set_cons_succ, List.nil_append, List.cons_append, List.append_nil, Option.some.injEq, exists_eq_left', exists_eq_left, exists_and_left, exists_eq_right, Bool.not_true, Bool.not_false, Bool.false_eq_true, if_true, if_false, and_true, true_and, D.int.injEq, D.lst.injEq, D.bl.injEq, D.str.injEq, D.raw.injEq, D.tup.injEq, ite_true, ite_false, reduceIte, List.length_cons, List.length_nil]
    by_cases c : start + w < p.2
    · rw [if_pos (show p.2 > start + w from c)] at hw
      rw [if_pos (decide_eq_true c)]
      refine ⟨?_, acc ++ [p.1], p.1 + 1, .im (.int p.1), .im (.int p.2), ?_, ?_, ?_⟩
      · rw [List.length_map]
        exact size_lt (by omega)
      · rw [List.map_append]
        rfl
      · rw [List.append_assoc]
        exact hw
      · rw [List.length_append]
        exact Nat.succ_le_succ hi
    · rw [if_neg (show ¬ p.2 > start + w from c)] at hw
      rw [if_neg (by simpa using c)]
      exact ⟨acc, start, .im (.int p.1), .im (.int p.2), rfl, hw, by omega⟩
  · rintro δ M' ⟨rfl, acc, start, a, b, rfl, hw, hi⟩
    simp only [↓dSeq, ↓dNext, ↓dIfS, ↓dRet, ↓dRetV, ↓dRetN, ↓dRetM, ↓dSet, ↓dAsg, ↓dOwn, ↓dOwnD, ↓dParOI, ↓dParII, ↓dAug, ↓dApp, ↓dPutL, ↓dPutS, ↓dPutM, ↓dUpd, ↓dfRg2, ↓kRepr, ↓kSortedD, ↓dDrop, ↓dNever, ↓dFrz, ↓frz, ↓dgName, ↓dgNil, ↓dgCons, ↓dgTup, ↓dVar, ↓dVarB, ↓dC, ↓dOp, ↓dOpF, ↓dUn, ↓dTest, ↓dChain, ↓dAnd, ↓dOr, ↓dNot, ↓dTru, ↓truD, ↓dAndV, ↓dOrV, ↓dNotV, ↓dIf, ↓daNil, ↓daCons, ↓dTup, ↓dfLst, ↓dLst, ↓dNoPart, ↓dPart, ↓dfSl, ↓dSlS, ↓dCall, ↓dfCall, ↓dFn, ↓dFnK, ↓dYes, ↓kAdd, ↓kSub, ↓kMul, ↓kDiv, ↓kMod, ↓kPow, ↓kCat, ↓kRep, ↓kNeg, ↓kLt, ↓kLe, ↓kGt, ↓kGe, ↓kIsN, ↓kNotN, ↓kIsB, ↓isNon, ↓kIx, ↓kLen, ↓kSum, ↓kAll, ↓kAny, ↓kMax, ↓kMin, ↓kAbs, ↓kInt, ↓kStr, ↓kList, ↓kSortedI, ↓kIsi, isD, kit_int_int, kit_bool_int, kit_int_bool, kit_bool_bool, List.getElem?_cons_zero, List.getElem?_cons_succ, List.set_cons_zero, List.set_cons_succ, List.nil_append, List.cons_append, List.append_nil, Option.some.injEq, exists_eq_left', exists_eq_left, exists_and_left, exists_eq_right, Bool.not_true, Bool.not_false, Bool.false_eq_true, if_true, if_false, and_true, true_and, D.int.injEq, D.lst.injEq, D.bl.injEq, D.str.injEq, D.raw.injEq, D.tup.injEq, ite_true, ite_false, reduceIte]
    rw [List.length_map, List.length_zip, List.length_drop] at hw hi
    have e : cutD (ss.map D.int) (some (-1)) none = (wrapGo w start (ss.drop (min ss.length (ss.length - 1)))).map .int := by
      rw [cutD_last, List.length_map, ← List.map_drop, Nat.min_eq_right (by omega)]
      cases h : ss.drop (ss.length - 1) with
      | nil => rfl
      | cons x r =>
        have := congrArg List.length h
        rw [List.length_drop, List.length_cons] at this
        have hr : r = [] := List.eq_nil_of_length_eq_zero (by omega)
        subst hr
        rfl
    have e1 : cutD (ss.map D.int) (some (Int.neg 1)) none = cutD (ss.map D.int) (some (-1)) none := rfl
    refine ⟨?_, ?_⟩
    · show (acc.map D.int).length + (cutD (ss.map D.int) (some (-1)) none).length ≤ sizeLine
      rw [e, List.length_map, List.length_map]
      have := wrapGo_length w (ss.drop (min ss.length (ss.length - 1))) start
      rw [List.length_drop] at this
      exact size_small (by omega)
    · have e2 : (acc.map D.int) ++ cutD (ss.map D.int) (some (-1)) none = (wrapGo w 0 ss).map .int := by
        rw [e, ← List.map_append, hw]
      have q' := q
      unfold dInts at q'
      rw [← e2] at q'
      exact q'
def F_wrap_of : DSp := fun ds M Q X => ∃ ns w, ds = [dInts ns, .int w] ∧ ns.length ≤ 100000 ∧ Q (dInts (wrapOf ns w)) M
def N_wrap_of : List Str := ["text", "width"]
def t_wrap_of (X' : DXK) : DTS := (dRet (dFn F_lengths_of [] X' (daCons (dFn F_wrapped_ends [] X' (daCons (dFn F_ends_of [] X' (daCons (dVar 0) daNil)) (daCons (dVar 1) daNil))) daNil)))
theorem pure_wrap_of : Keeps F_wrap_of t_wrap_of N_wrap_of := by
  rintro _ M Q X' ⟨ns, w, rfl, hl, q⟩
  show t_wrap_of X' _ [.im (dInts ns), .im (.int w)] M
  simp only [t_wrap_of, ↓dSeq, ↓dNext, ↓dIfS, ↓dRet, ↓dRetV, ↓dRetN, ↓dRetM, ↓dSet, ↓dAsg, ↓dOwn, ↓dOwnD, ↓dParOI, ↓dParII, ↓dAug, ↓dApp, ↓dPutL, ↓dPutS, ↓dPutM, ↓dUpd, ↓dfRg2, ↓kRepr, ↓kSortedD, ↓dDrop, ↓dNever, ↓dFrz, ↓frz, ↓dgName, ↓dgNil, ↓dgCons, ↓dgTup, ↓dVar, ↓dVarB, ↓dC, ↓dOp, ↓dOpF, ↓dUn, ↓dTest, ↓dChain, ↓dAnd, ↓dOr, ↓dNot, ↓dTru, ↓truD, ↓dAndV, ↓dOrV, ↓dNotV, ↓dIf, ↓daNil, ↓daCons, ↓dTup, ↓dfLst, ↓dLst, ↓dNoPart, ↓dPart, ↓dfSl, ↓dSlS, ↓dCall, ↓dfCall, ↓dFn, ↓dFnK, ↓dYes, ↓kAdd, ↓kSub, ↓kMul, ↓kDiv, ↓kMod, ↓kPow, ↓kCat, ↓kRep, ↓kNeg, ↓kLt, ↓kLe, ↓kGt, ↓kGe, ↓kIsN, ↓kNotN, ↓kIsB, ↓isNon, ↓kIx, ↓kLen, ↓kSum, ↓kAll, ↓kAny, ↓kMax, ↓kMin, ↓kAbs, ↓kInt, ↓kStr, ↓kList, ↓kSortedI, ↓kIsi, isD, kit_int_int, kit_bool_int, kit_int_bool, kit_bool_bool, List.getElem?_cons_zero, List.getElem?_cons_succ, List.set_cons_zero, List.set_cons_succ, List.nil_append, List.cons_append, List.append_nil, Option.some.injEq, exists_eq_left', exists_eq_left, exists_and_left, exists_eq_right, Bool.not_true, Bool.not_false, Bool.false_eq_true, if_true, if_false, and_true, true_and, D.int.injEq, D.lst.injEq, D.bl.injEq, D.str.injEq, D.raw.injEq, D.tup.injEq, ite_true, ite_false, reduceIte]
  refine ⟨ns, rfl, hl, endsOf ns, w, rfl, by rw [endsOf_length]; exact hl, _, rfl, ?_, q⟩
  have := wrapGo_length w (endsOf ns) 0
  rw [endsOf_length] at this
  omega
end DL

/-! SP, part b: the module of cores. -/
namespace DL
open PySem PySem.Spec PyProof.Rows L2 MX
variable [Cls]
def okRange (a b : D) : Bool := match a, b with
  | .int i, .int j => decide (1 ≤ i) && decide (i ≤ 1000) && decide (1 ≤ j) && decide (j ≤ 1000) && decide (i ≤ j)
  | _, _ => false
theorem okRange_iff {i j : Int} : okRange (.int i) (.int j) = true ↔ 1 ≤ i ∧ i ≤ j ∧ j ≤ 1000 := by
  simp only [okRange, Bool.and_eq_true, decide_eq_true_eq]
  omega
def F_require_range : DSp := fun ds M Q X => ∃ a b, ds = [a, b] ∧ plainD a = true ∧ plainD b = true ∧ (okRange a b = true → Q .non M) ∧ (okRange a b = false → X (.ref Cls.InvalidRange) none M)
def N_require_range : List Str := ["low", "high"]
def t_require_range (X' : DXK) : DTS := (dIfS (dOr (dNot (dTru (dFn F_is_width [] X' (daCons (dVar 0) daNil)))) (dOr (dNot (dTru (dFn F_is_width [] X' (daCons (dVar 1) daNil)))) (dTest (dOp kGt (dVarB 0) (dVarB 1))))) (dRaise X' Cls.InvalidRange) dNext)
theorem isWidth_int {a : D} (h : isInteger a 1 (some 1000) = true) : ∃ i, a = .int i ∧ 1 ≤ i ∧ i ≤ 1000 := by
  cases a with
  | int i => simp only [isInteger, Bool.and_eq_true, decide_eq_true_eq] at h; exact ⟨i, rfl, h⟩
  | _ => simp [isInteger] at h
theorem pure_require_range : Keeps F_require_range t_require_range N_require_range := by
  rintro _ M Q X' ⟨a, b, rfl, ha, hb, q1, q2⟩
  show t_require_range X' _ [.im a, .im b] M
  simp only [t_require_range, ↓dSeq, ↓dNext, ↓dIfS, ↓dRet, ↓dRetV, ↓dRetN, ↓dRetM, ↓dSet, ↓dAsg, ↓dOwn, ↓dOwnD, ↓dParOI, ↓dParII, ↓dAug, ↓dApp, ↓dPutL, ↓dPutS, ↓dPutM, ↓dUpd, ↓dfRg2, ↓kRepr, ↓kSortedD, ↓dDrop, ↓dNever, ↓dFrz, ↓frz, ↓dgName, ↓dgNil, ↓dgCons, ↓dgTup, ↓dVar, ↓dVarB, ↓dC, ↓dOp, ↓dOpF, ↓dUn, ↓dTest, ↓dChain, ↓dAnd, ↓dOr, ↓dNot, ↓dTru, ↓truD, ↓dAndV, ↓dOrV, ↓dNotV, ↓dIf, ↓daNil, ↓daCons, ↓dTup, ↓dfLst, ↓dLst, ↓dNoPart, ↓dPart, ↓dfSl, ↓dSlS, ↓dCall, ↓dfCall, ↓dFn, ↓dFnK, ↓dYes, ↓kAdd, ↓kSub, ↓kMul, ↓kDiv, ↓kMod, ↓kPow, ↓kCat, ↓kRep, ↓kNeg, ↓kLt, ↓kLe, ↓kGt, ↓kGe, ↓kIsN, ↓kNotN, ↓kIsB, ↓isNon, ↓kIx, ↓kLen, ↓kSum, ↓kAll, ↓kAny, ↓kMax, ↓kMin, ↓kAbs, ↓kInt, ↓kStr, ↓kList, ↓kSortedI, ↓kIsi, isD, kit_int_int, kit_bool_int, kit_int_bool, kit_bool_bool, List.getElem?_cons_zero, List.getElem?_cons_succ, List.set_cons_zero, List.set_cons_succ, List.nil_append, List.cons_append, List.append_nil, Option.some.injEq, exists_eq_left', exists_eq_left, exists_and_left, exists_eq_right, Bool.not_true, Bool.not_false, Bool.false_eq_true, if_true, if_false, and_true, true_and, D.int.injEq, D.lst.injEq, D.bl.injEq, D.str.injEq, D.raw.injEq, D.tup.injEq, ite_true, ite_false, reduceIte, dRaise]
  refine ⟨a, rfl, ha, ?_⟩
  cases h1 : isInteger a 1 (some 1000) with
  | false =>
    refine q2 ?_
    cases a with
    | int i => cases b with
      | int j => simp only [isInteger, Bool.and_eq_false_iff, decide_eq_false_iff_not] at h1; simp only [okRange, Bool.and_eq_false_iff, decide_eq_false_iff_not]; omega
      | _ => rfl
    | _ => rfl
  | true =>
    obtain ⟨i, rfl, i1, i2⟩ := isWidth_int h1
    simp only [Bool.not_true, Bool.false_eq_true, if_false]
    refine ⟨b, rfl, hb, ?_⟩
    cases h2 : isInteger b 1 (some 1000) with
    | false =>
      refine q2 ?_
      cases b with
      | int j => simp only [isInteger, Bool.and_eq_false_iff, decide_eq_false_iff_not] at h2; simp only [okRange, Bool.and_eq_false_iff, decide_eq_false_iff_not]; omega
      | _ => rfl
    | true =>
      obtain ⟨j, rfl, j1, j2⟩ := isWidth_int h2
      simp only [Bool.not_true, Bool.false_eq_true, if_false]
      by_cases c : j < i
      · rw [if_pos (decide_eq_true c)]
        refine q2 ?_
        simp only [okRange, Bool.and_eq_false_iff, decide_eq_false_iff_not]
        omega
      · rw [if_neg (by simpa using c)]
        exact q1 (okRange_iff.mpr ⟨i1, by omega, j2⟩)
def F_widths_of : DSp := fun ds M Q X => ∃ ns lo hi, ds = [dInts ns, .int lo, .int hi] ∧ IsText ns ∧ 1 ≤ lo ∧ lo ≤ hi ∧ hi ≤ 1000 ∧ Q (dInts (widthsIn (min lo (totalOf ns)) (min hi (totalOf ns)))) M
def N_widths_of : List Str := ["text", "low", "high", "size"]
def t_widths_of (X' : DXK) : DTS := (dSeq (dSet (dFn F_total_of [] X' (daCons (dVar 0) daNil)) 3)
    (dRet (dLst (dfRg2 (dCall kMin (daCons (dVarB 1) (daCons (dVarB 3) daNil))) (dOp kAdd (dCall kMin (daCons (dVarB 2) (daCons (dVarB 3) daNil))) (dC (.int 1)))))))
theorem total_pos {ns : List Int} (h : IsText ns) : 1 ≤ totalOf ns := by
  have h1 := sum_ge h.pos
  have h2 := List.length_pos_iff.mpr h.ne
  unfold totalOf
  omega
theorem rangeD_ints (lo : Int) (n : Nat) : rangeD lo n = ((List.range n).map fun (i : Nat) => lo + (i : Nat)).map .int := by
  unfold rangeD
  rw [List.map_map]
  rfl
theorem if_min (a b : Int) : (if b < a then b else a) = min a b := by
  by_cases h : b < a
  · rw [if_pos h]; omega
  · rw [if_neg h]; omega
theorem if_max (a b : Int) : (if b > a then b else a) = max a b := by
  by_cases h : b > a
  · rw [if_pos h]; omega
  · rw [if_neg h]; omega
theorem pure_widths_of : Keeps F_widths_of t_widths_of N_widths_of := by
  rintro _ M Q X' ⟨ns, lo, hi, rfl, ht, h1, h2, h3, q⟩
  show t_widths_of X' _ [.im (dInts ns), .im (.int lo), .im (.int hi), .no] M
  simp only [t_widths_of, ↓dSeq, ↓dNext, ↓dIfS, ↓dRet, ↓dRetV, ↓dRetN, ↓dRetM, ↓dSet, ↓dAsg, ↓dOwn, ↓dOwnD, ↓dParOI, ↓dParII, ↓dAug, ↓dApp, ↓dPutL, ↓dPutS, ↓dPutM, ↓dUpd, ↓dfRg2, ↓kRepr, ↓kSortedD, ↓dDrop, ↓dNever, ↓dFrz, ↓frz, ↓dgName, ↓dgNil, ↓dgCons, ↓dgTup, ↓dVar, ↓dVarB, ↓dC, ↓dOp, ↓dOpF, ↓dUn, ↓dTest, ↓dChain, ↓dAnd, ↓dOr, ↓dNot, ↓dTru, ↓truD, ↓dAndV, ↓dOrV, ↓dNotV, ↓dIf, ↓daNil, ↓daCons, ↓dTup, ↓dfLst, ↓dLst, ↓dNoPart, ↓dPart, ↓dfSl, ↓dSlS, ↓dCall, ↓dfCall, ↓dFn, ↓dFnK, ↓dYes, ↓kAdd, ↓kSub, ↓kMul, ↓kDiv, ↓kMod, ↓kPow, ↓kCat, ↓kRep, ↓kNeg, ↓kLt, ↓kLe, ↓kGt, ↓kGe, ↓kIsN, ↓kNotN, ↓kIsB, ↓isNon, ↓kIx, ↓kLen, ↓kSum, ↓kAll, ↓kAny, ↓kMax, ↓kMin, ↓kAbs, ↓kInt, ↓kStr, ↓kList, ↓kSortedI, ↓kIsi, isD, kit_int_int, kit_bool_int, kit_int_bool, kit_bool_bool, List.getElem?_cons_zero, List.getElem?_cons_succ, List.set_cons_zero, List.set_cons_succ, List.nil_append, List.cons_append, List.append_nil, Option.some.injEq, exists_eq_left', exists_eq_left, exists_and_left, exists_eq_right, Bool.not_true, Bool.not_false, Bool.false_eq_true, if_true, if_false, and_true, true_and, D.int.injEq, D.lst.injEq, D.bl.injEq, D.str.injEq, D.raw.injEq, D.tup.injEq, ite_true, ite_false, reduceIte]
  refine ⟨ns, rfl, ?_⟩
  have hp := total_pos ht
  have hle := ht.le
  simp only [if_min]
  refine ⟨RgOk.of_le (by omega) (by omega) (by omega) (by omega), ?_⟩
  rw [rangeD_ints]
  have e : (min hi (totalOf ns) + 1 - min lo (totalOf ns)).toNat = (min hi (totalOf ns) - min lo (totalOf ns) + 1).toNat := by omega
  rw [e]
  exact q
/-! dicts' keys -/
theorem keysD_any {k : Int} : ∀ {acc : List (Key × D)} {ks : List Int}, keysD acc = some ks → (acc.any fun kv => decide (kv.1 = .inl k)) = decide (k ∈ ks)
  | [], ks, h => by cases h; simp
  | (.inl i, d) :: r, ks, h => by
    simp only [keysD, Option.map_eq_some_iff] at h
    obtain ⟨ms, h1, rfl⟩ := h
    have ih := keysD_any (k := k) h1
    rw [List.any_cons, ih]
    have e : decide ((Sum.inl i : Key) = .inl k) = decide (i = k) := by
      by_cases c : i = k
      · simp [c]
      · simp [c]
    show (decide ((Sum.inl i : Key) = .inl k) || _) = _
    rw [e]
    by_cases c : k = i
    · simp [c]
    · have c' : ¬ i = k := fun z => c z.symm
      simp [c, c']
  | (.inr _, _) :: _, _, h => nomatch h
theorem keysD_map {k : Key} {z : D} : ∀ {acc : List (Key × D)}, keysD (acc.map fun kv => if kv.1 = k then (kv.1, z) else kv) = keysD acc
  | [] => rfl
  | (.inl i, d) :: r => by
    rw [List.map_cons]
    by_cases c : (Sum.inl i : Key) = k
    · rw [if_pos c]; simp only [keysD, keysD_map]
    · rw [if_neg c]; simp only [keysD, keysD_map]
  | (.inr i, d) :: r => by
    rw [List.map_cons]
    by_cases c : (Sum.inr i : Key) = k
    · rw [if_pos c]; simp only [keysD]
    · rw [if_neg c]; simp only [keysD]
theorem keysD_snoc {k : Int} {z : D} : ∀ {acc : List (Key × D)} {ks : List Int}, keysD acc = some ks → keysD (acc ++ [(.inl k, z)]) = some (ks ++ [k])
  | [], ks, h => by cases h; rfl
  | (.inl i, d) :: r, ks, h => by
    simp only [keysD, Option.map_eq_some_iff] at h
    obtain ⟨ms, h1, rfl⟩ := h
    rw [List.cons_append]
    simp only [keysD, keysD_snoc h1, Option.map_some, List.cons_append]
  | (.inr _, _) :: _, _, h => nomatch h
theorem keysD_put {k : Int} {z : D} {acc : List (Key × D)} {ks : List Int} (h : keysD acc = some ks) : keysD (putD acc (.inl k) z) = some (if k ∈ ks then ks else ks ++ [k]) := by
  unfold putD
  rw [keysD_any h]
  by_cases c : k ∈ ks
  · rw [if_pos (decide_eq_true c), if_pos c, keysD_map, h]
  · rw [if_neg (by simpa using c), if_neg c, keysD_snoc h]
theorem putD_length {k : Key} {z : D} {acc : List (Key × D)} : (putD acc k z).length ≤ acc.length + 1 := by
  unfold putD
  split
  · rw [List.length_map]; omega
  · rw [List.length_append]; exact Nat.le_refl _
theorem mergeD_keys : ∀ {more : List (Key × D)} {ms : List Int} {acc : List (Key × D)} {ks : List Int}, keysD more = some ms → keysD acc = some ks →
    ∃ ks', keysD (mergeD acc more) = some ks' ∧ (ks.Nodup → ks'.Nodup) ∧ (∀ e, e ∈ ks' ↔ e ∈ ks ∨ e ∈ ms) ∧ (mergeD acc more).length ≤ acc.length + more.length
  | [], ms, acc, ks, h1, h2 => by cases h1; exact ⟨ks, h2, id, fun e => by simp, Nat.le_refl _⟩
  | (.inl i, d) :: r, ms, acc, ks, h1, h2 => by
    simp only [keysD, Option.map_eq_some_iff] at h1
    obtain ⟨ms', h1, rfl⟩ := h1
    obtain ⟨ks', k1, k2, k3, k4⟩ := mergeD_keys h1 (keysD_put (k := i) (z := d) h2)
    refine ⟨ks', k1, fun hn => k2 ?_, fun e => ?_, Nat.le_trans k4 ?_⟩
    · by_cases c : i ∈ ks
      · rw [if_pos c]; exact hn
      · rw [if_neg c]
        exact List.nodup_append.mpr ⟨hn, by simp, fun a ha b hb => by rw [List.mem_singleton] at hb; rw [hb]; exact fun z => c (z ▸ ha)⟩
    · rw [k3]
      by_cases c : i ∈ ks
      · rw [if_pos c, List.mem_cons]
        exact ⟨fun z => z.imp id .inr, fun z => z.elim .inl fun z => z.elim (fun z => .inl (z ▸ c)) .inr⟩
      · rw [if_neg c, List.mem_append, List.mem_singleton, List.mem_cons]
        exact or_assoc
    · have := putD_length (k := .inl i) (z := d) (acc := acc)
      rw [List.length_cons]
      omega
  | (.inr _, _) :: _, _, _, _, h, _ => nomatch h
noncomputable def F_visible_in : DSp := fun ds M Q X => ∃ ns lo hi, ds = [dInts ns, .int lo, .int hi] ∧ IsText ns ∧ 1 ≤ lo ∧ lo ≤ hi ∧ hi ≤ 1000 ∧ Q (dInts (visOf ns lo hi)) M
def N_visible_in : List Str := ["text", "low", "high", "found", "width", "end"]
def t_visible_in (X' : DXK) : DTS := (dSeq (dOwnD 3)
    (dSeq (dFor (dItems (dFn F_widths_of [] X' (daCons (dVar 0) (daCons (dVar 1) (daCons (dVar 2) daNil))))) (dgName 4) (dUpd 3 (dDc (dItems (dLst (dfSl (dFn F_ends_of [] X' (daCons (dFn F_wrap_of [] X' (daCons (dVar 0) (daCons (dVar 4) daNil))) daNil)) dNoPart (dPart (dUn kNeg (dC (.int 1))))))) (dgName 5) dYes (dVar 5) (dC (.bl true)) [5])))
    (dRet (dLst (dfCall kSortedD (daCons (dVarB 3) daNil))))))
theorem dc_ints {wi : DTI} {vs : List Nat} {i : Nat} {δ : List Slot} {M : MS} {Q : DQ} {ns : List Int} (hi : ∀ R : List D → MS → Prop, R (ns.map .int) M → wi δ M R) (hl : ns.length ≤ 100000) (hv : i < (wipeD δ vs).length)
    (q : ∀ acc ks, keysD acc = some ks → (∀ e, e ∈ ks ↔ e ∈ ns) → acc.length ≤ ns.length → Q (.dic acc) M) : dDc wi (dgName i) dYes (dVar i) (dC (.bl true)) vs δ M Q := by
  refine hi _ ⟨fun j acc M' => M' = M ∧ acc.length ≤ j ∧ ∃ ks, keysD acc = some ks ∧ ∀ e, e ∈ ks ↔ e ∈ ns.take j, ⟨rfl, Nat.le_refl _, [], rfl, fun e => by simp⟩, fun j d acc M' hd ⟨e1, h1, ks, h2, h3⟩ => ?_, fun acc M' ⟨e1, h1, ks, h2, h3⟩ => ?_⟩
  · obtain ⟨n, hn, rfl⟩ := map_get hd
    have hlt := (List.getElem?_eq_some_iff.mp hn).1
    subst e1
    simp only [dgName, dYes, if_true, dVar, List.getElem?_set_self hv, dC]
    refine ⟨.inl n, rfl, size_lt (by omega), trivial, Nat.le_trans putD_length (by omega), _, keysD_put h2, fun e => ?_⟩
    rw [take_next hn, List.mem_append, List.mem_singleton]
    by_cases c : n ∈ ks
    · rw [if_pos c, h3]
      exact ⟨.inl, fun z => z.elim id fun z => by rw [z, ← h3]; exact c⟩
    · rw [if_neg c, List.mem_append, List.mem_singleton, h3]
  · subst e1
    rw [List.length_map] at h1 h3
    rw [List.take_length] at h3
    exact q acc ks h2 h3 h1
theorem pure_visible_in : Keeps F_visible_in t_visible_in N_visible_in := by
  rintro _ M Q X' ⟨ns, lo, hi, rfl, ht, h1, h2, h3, q⟩
  show t_visible_in X' _ [.im (dInts ns), .im (.int lo), .im (.int hi), .no, .no, .no] M
  simp only [t_visible_in, ↓dSeq, ↓dNext, ↓dIfS, ↓dRet, ↓dRetV, ↓dRetN, ↓dRetM, ↓dSet, ↓dAsg, ↓dOwn, ↓dOwnD, ↓dParOI, ↓dParII, ↓dAug, ↓dApp, ↓dPutL, ↓dPutS, ↓dPutM, ↓dUpd, ↓dfRg2, ↓kRepr, ↓kSortedD, ↓dDrop, ↓dNever, ↓dFrz, ↓frz, ↓dgName, ↓dgNil, ↓dgCons, ↓dgTup, ↓dVar, ↓dVarB, ↓dC, ↓dOp, ↓dOpF, ↓dUn, ↓dTest, ↓dChain, ↓dAnd, ↓dOr, ↓dNot, ↓dTru, ↓truD, ↓dAndV, ↓dOrV, ↓dNotV, ↓dIf, ↓daNil, ↓daCons, ↓dTup, ↓dfLst, ↓dLst, ↓dNoPart, ↓dPart, ↓dfSl, ↓dSlS, ↓dCall, ↓dfCall, ↓dFn, ↓dFnK, ↓dYes, ↓kAdd, ↓kSub, ↓kMul, ↓kDiv, ↓kMod, ↓kPow, ↓kCat, ↓kRep, ↓kNeg, ↓kLt, ↓kLe, ↓kGt, ↓kGe, ↓kIsN, ↓kNotN, ↓kIsB, ↓isNon, ↓kIx, ↓kLen, ↓kSum, ↓kAll, ↓kAny, ↓kMax, ↓kMin, ↓kAbs, ↓kInt, ↓kStr, ↓kList, ↓kSortedI, ↓kIsi, isD, kit_int_int, kit_bool_int, kit_int_bool, kit_bool_bool, List.getElem?_cons_zero, List.getElem?_cons_succ, List.set_cons_zero, List.set_cons_succ, List.nil_append, List.cons_append, List.append_nil, Option.some.injEq, exists_eq_left', exists_eq_left, exists_and_left, exists_eq_right, Bool.not_true, Bool.not_false, Bool.false_eq_true, if_true, if_false, and_true, true_and, D.int.injEq, D.lst.injEq, D.bl.injEq, D.str.injEq, D.raw.injEq, D.tup.injEq, ite_true, ite_false, reduceIte]
  have hlen := ht.len
  have hws : (widthsIn (min lo (totalOf ns)) (min hi (totalOf ns))).length ≤ 1000 := by
    unfold widthsIn
    rw [List.length_map, List.length_range]
    have := total_pos ht
    omega
  generalize hW : widthsIn (min lo (totalOf ns)) (min hi (totalOf ns)) = ws at hws
  refine for_inv (ds := ws.map .int) (fun R h => ?_) (fun i δ M' => M' = M ∧ ∃ acc ks w, δ = [.im (dInts ns), .im (.int lo), .im (.int hi), .od acc, w, .no] ∧ keysD acc = some ks ∧ ks.Nodup ∧ (∀ e, e ∈ ks ↔ ∃ x ∈ ws.take i, e ∈ (wrapGo x 0 (endsOf ns)).dropLast) ∧ acc.length ≤ i * 300) ⟨rfl, [], [], .no, rfl, rfl, List.nodup_nil, fun e => by simp, by simp⟩ ?_ ?_
  · simp only [dItems, ↓dSeq, ↓dNext, ↓dIfS, ↓dRet, ↓dRetV, ↓dRetN, ↓dRetM, ↓dSet, ↓dAsg, ↓dOwn, ↓dOwnD, ↓dParOI, ↓dParII, ↓dAug, ↓dApp, ↓dPutL, ↓dPutS, ↓dPutM, ↓dUpd, ↓dfRg2, ↓kRepr, ↓kSortedD, ↓dDrop, ↓dNever, ↓dFrz, ↓frz, ↓dgName, ↓dgNil, ↓dgCons, ↓dgTup, ↓dVar, ↓dVarB, ↓dC, ↓dOp, ↓dOpF, ↓dUn, ↓dTest, ↓dChain, ↓dAnd, ↓dOr, ↓dNot, ↓dTru, ↓truD, ↓dAndV, ↓dOrV, ↓dNotV, ↓dIf, ↓daNil, ↓daCons, ↓dTup, ↓dfLst, ↓dLst, ↓dNoPart, ↓dPart, ↓dfSl, ↓dSlS, ↓dCall, ↓dfCall, ↓dFn, ↓dFnK, ↓dYes, ↓kAdd, ↓kSub, ↓kMul, ↓kDiv, ↓kMod, ↓kPow, ↓kCat, ↓kRep, ↓kNeg, ↓kLt, ↓kLe, ↓kGt, ↓kGe, ↓kIsN, ↓kNotN, ↓kIsB, ↓isNon, ↓kIx, ↓kLen, ↓kSum, ↓kAll, ↓kAny, ↓kMax, ↓kMin, ↓kAbs, ↓kInt, ↓kStr, ↓kList, ↓kSortedI, ↓kIsi, isD, kit_int_int, kit_bool_int, kit_int_bool, kit_bool_bool, List.getElem?_cons_zero, List.getElem?_cons_succ, List.set_cons_zero, List.set_cons_succ, List.nil_append, List.cons_append, List.append_nil, Option.some.injEq, exists_eq_left', exists_eq_left, exists_and_left, exists_eq_right, Bool.not_true, Bool.not_false, Bool.false_eq_true, if_true, if_false, and_true, true_and, D.int.injEq, D.lst.injEq, D.bl.injEq, D.str.injEq, D.raw.injEq, D.tup.injEq, ite_true, ite_false, reduceIte]
    exact ⟨ns, lo, hi, rfl, ht, h1, h2, h3, by rw [hW]; exact h⟩
  · rintro i d δ M' hd ⟨rfl, acc, ks, w, rfl, k1, k2, k3, k4⟩
    obtain ⟨x, hx, rfl⟩ := map_get hd
    have hlt := (List.getElem?_eq_some_iff.mp hx).1
    simp only [↓dSeq, ↓dNext, ↓dIfS, ↓dRet, ↓dRetV, ↓dRetN, ↓dRetM, ↓dSet, ↓dAsg, ↓dOwn, ↓dOwnD, ↓dParOI, ↓dParII, ↓dAug, ↓dApp, ↓dPutL, ↓dPutS, ↓dPutM, ↓dUpd, ↓dfRg2, ↓kRepr, ↓kSortedD, ↓dDrop, ↓dNever, ↓dFrz, ↓frz, ↓dgName, ↓dgNil, ↓dgCons, ↓dgTup, ↓dVar, ↓dVarB, ↓dC, ↓dOp, ↓dOpF, ↓dUn, ↓dTest, ↓dChain, ↓dAnd, ↓dOr, ↓dNot, ↓dTru, ↓truD, ↓dAndV, ↓dOrV, ↓dNotV, ↓dIf, ↓daNil, ↓daCons, ↓dTup, ↓dfLst, ↓dLst, ↓dNoPart, ↓dPart, ↓dfSl, ↓dSlS, ↓dCall, ↓dfCall, ↓dFn, ↓dFnK, ↓dYes, ↓kAdd, ↓kSub, ↓kMul, ↓kDiv, ↓kMod, ↓kPow, ↓kCat, ↓kRep, ↓kNeg, ↓kLt, ↓kLe, ↓kGt, ↓kGe, ↓kIsN, ↓kNotN, ↓kIsB, ↓isNon, ↓kIx, ↓kLen, ↓kSum, ↓kAll, ↓kAny, ↓kMax, ↓kMin, ↓kAbs, ↓kInt, ↓kStr, ↓kList, ↓kSortedI, ↓kIsi, isD, kit_int_int, kit_bool_int, kit_int_bool, kit_bool_bool, List.getElem?_cons_zero, List.getElem?_cons_succ, List.set_cons_zero, List.set_cons_succ, List.nil_append, List.cons_append, List.append_nil, Option.some.injEq, exists_eq_left', exists_eq_left, exists_and_left, exists_eq_right, Bool.not_true, Bool.not_false, Bool.false_eq_true, if_true, if_false, and_true, true_and, D.int.injEq, D.lst.injEq, D.bl.injEq, D.str.injEq, D.raw.injEq, D.tup.injEq, ite_true, ite_false, reduceIte]
    have hwl := wrapGo_length x (endsOf ns) 0
    rw [endsOf_length] at hwl
    refine dc_ints (ns := (wrapGo x 0 (endsOf ns)).dropLast) (fun R h => ?_) (by rw [List.length_dropLast]; omega) ?_ fun more ms m1 m2 m3 => ?_
    · simp only [dItems, ↓dSeq, ↓dNext, ↓dIfS, ↓dRet, ↓dRetV, ↓dRetN, ↓dRetM, ↓dSet, ↓dAsg, ↓dOwn, ↓dOwnD, ↓dParOI, ↓dParII, ↓dAug, ↓dApp, ↓dPutL, ↓dPutS, ↓dPutM, ↓dUpd, ↓dfRg2, ↓kRepr, ↓kSortedD, ↓dDrop, ↓dNever, ↓dFrz, ↓frz, ↓dgName, ↓dgNil, ↓dgCons, ↓dgTup, ↓dVar, ↓dVarB, ↓dC, ↓dOp, ↓dOpF, ↓dUn, ↓dTest, ↓dChain, ↓dAnd, ↓dOr, ↓dNot, ↓dTru, ↓truD, ↓dAndV, ↓dOrV, ↓dNotV, ↓dIf, ↓daNil, ↓daCons, ↓dTup, ↓dfLst, ↓dLst, ↓dNoPart, ↓dPart, ↓dfSl, ↓dSlS, ↓dCall, ↓dfCall, ↓dFn, ↓dFnK, ↓dYes, ↓kAdd, ↓kSub, ↓kMul, ↓kDiv, ↓kMod, ↓kPow, ↓kCat, ↓kRep, ↓kNeg, ↓kLt, ↓kLe, ↓kGt, ↓kGe, ↓kIsN, ↓kNotN, ↓kIsB, ↓isNon, ↓kIx, ↓kLen, ↓kSum, ↓kAll, ↓kAny, ↓kMax, ↓kMin, ↓kAbs, ↓kInt, ↓kStr, ↓kList, ↓kSortedI, ↓kIsi, isD, kit_int_int, kit_bool_int, kit_int_bool, kit_bool_bool, List.getElem?_cons_zero, List.getElem?_cons_succ, List.set_cons_zero, List.set_cons_succ, List.nil_append, List.cons_append, List.append_nil, Option.some.injEq, exists_eq_left', exists_eq_left, exists_and_left, exists_eq_right, Bool.not_true, Bool.not_false, Bool.false_eq_true, if_true, if_false, and_true, true_and, D.int.injEq, D.lst.injEq, D.bl.injEq, D.str.injEq, D.raw.injEq, D.tup.injEq, ite_true, ite_false, reduceIte]
      refine ⟨ns, x, rfl, by omega, wrapOf ns x, rfl, ?_, ?_⟩
      · have := lengthsOf_length (wrapGo x 0 (endsOf ns))
        unfold wrapOf
        omega
      · show R (cutD ((endsOf (wrapOf ns x)).map .int) none (some (-1))) M'
        rw [cutD_init, ← List.map_dropLast]
        unfold wrapOf
        rw [endsOf_lengthsOf]
        exact h
    · show 5 < 6
      decide
    · rw [List.length_dropLast] at m3
      obtain ⟨ks', n1, n2, n3, n4⟩ := mergeD_keys m1 k1
      refine ⟨?_, rfl, mergeD acc more, ks', .im (.int x), rfl, n1, n2 k2, fun e => ?_, ?_⟩
      · have : i * 300 ≤ 1000 * 300 := Nat.mul_le_mul_right _ (by omega)
        exact Nat.le_trans (show acc.length + more.length ≤ 1000000 by omega) (by decide)
      · rw [n3, k3, m2, take_next hx]
        constructor
        · rintro (⟨y, hy, z⟩ | z)
          · exact ⟨y, List.mem_append_left _ hy, z⟩
          · exact ⟨x, List.mem_append_right _ (by simp), z⟩
        · rintro ⟨y, hy, z⟩
          rcases List.mem_append.mp hy with hy | hy
          · exact .inl ⟨y, hy, z⟩
          · rw [List.mem_singleton] at hy
            exact .inr (hy ▸ z)
      · rw [Nat.add_mul]
        omega
  · rintro δ M' ⟨rfl, acc, ks, w, rfl, k1, k2, k3, k4⟩
    simp only [↓dSeq, ↓dNext, ↓dIfS, ↓dRet, ↓dRetV, ↓dRetN, ↓dRetM, ↓dSet, ↓dAsg, ↓dOwn, ↓dOwnD, ↓dParOI, ↓dParII, ↓dAug, ↓dApp, ↓dPutL, ↓dPutS, ↓dPutM, ↓dUpd, ↓dfRg2, ↓kRepr, ↓kSortedD, ↓dDrop, ↓dNever, ↓dFrz, ↓frz, ↓dgName, ↓dgNil, ↓dgCons, ↓dgTup, ↓dVar, ↓dVarB, ↓dC, ↓dOp, ↓dOpF, ↓dUn, ↓dTest, ↓dChain, ↓dAnd, ↓dOr, ↓dNot, ↓dTru, ↓truD, ↓dAndV, ↓dOrV, ↓dNotV, ↓dIf, ↓daNil, ↓daCons, ↓dTup, ↓dfLst, ↓dLst, ↓dNoPart, ↓dPart, ↓dfSl, ↓dSlS, ↓dCall, ↓dfCall, ↓dFn, ↓dFnK, ↓dYes, ↓kAdd, ↓kSub, ↓kMul, ↓kDiv, ↓kMod, ↓kPow, ↓kCat, ↓kRep, ↓kNeg, ↓kLt, ↓kLe, ↓kGt, ↓kGe, ↓kIsN, ↓kNotN, ↓kIsB, ↓isNon, ↓kIx, ↓kLen, ↓kSum, ↓kAll, ↓kAny, ↓kMax, ↓kMin, ↓kAbs, ↓kInt, ↓kStr, ↓kList, ↓kSortedI, ↓kIsi, isD, kit_int_int, kit_bool_int, kit_int_bool, kit_bool_bool, List.getElem?_cons_zero, List.getElem?_cons_succ, List.set_cons_zero, List.set_cons_succ, List.nil_append, List.cons_append, List.append_nil, Option.some.injEq, exists_eq_left', exists_eq_left, exists_and_left, exists_eq_right, Bool.not_true, Bool.not_false, Bool.false_eq_true, if_true, if_false, and_true, true_and, D.int.injEq, D.lst.injEq, D.bl.injEq, D.str.injEq, D.raw.injEq, D.tup.injEq, ite_true, ite_false, reduceIte]
    rw [List.length_map, List.take_length] at k3
    refine ⟨ks, k1, fun ms p1 p2 => ?_⟩
    have e : ms = visOf ns lo hi := by
      refine asc_ext ?_ (visOf_asc ht.pos) fun e => ?_
      · have hn : ms.Nodup := p1.nodup_iff.mpr k2
        refine (p2.and hn).imp fun {a b} h => ?_
        have := h.2
        have := h.1
        omega
      · rw [p1.mem_iff, k3, mem_visOf, ← vis_cut ht.ne ht.pos h2]
        constructor
        · rintro ⟨x, hx, z⟩
          rw [← hW, mem_widthsIn] at hx
          exact ⟨x, hx.1, hx.2, z⟩
        · rintro ⟨x, x1, x2, z⟩
          exact ⟨x, by rw [← hW, mem_widthsIn]; exact ⟨x1, x2⟩, z⟩
    rw [e]
    exact q
noncomputable def F_core_in : DSp := fun ds M Q X => ∃ ns lo hi, ds = [dInts ns, .int lo, .int hi] ∧ IsText ns ∧ 1 ≤ lo ∧ lo ≤ hi ∧ hi ≤ 1000 ∧ Q (dInts (coreOf ns lo hi)) M
def N_core_in : List Str := ["text", "low", "high"]
def t_core_in (X' : DXK) : DTS := (dRet (dFn F_lengths_of [] X' (daCons (dOp kAdd (dFn F_visible_in [] X' (daCons (dVar 0) (daCons (dVar 1) (daCons (dVar 2) daNil)))) (dLst (dfLst (daCons (dFn F_total_of [] X' (daCons (dVar 0) daNil)) daNil)))) daNil)))
theorem visOf_length {ns : List Int} {lo hi : Int} : (visOf ns lo hi).length ≤ ns.length := by
  unfold visOf
  have := List.length_filter_le (p := fun e => @decide (Vis ns lo hi e) (Classical.propDecidable _)) (endsOf ns)
  rw [endsOf_length] at this
  exact this
theorem pure_core_in : Keeps F_core_in t_core_in N_core_in := by
  rintro _ M Q X' ⟨ns, lo, hi, rfl, ht, h1, h2, h3, q⟩
  show t_core_in X' _ [.im (dInts ns), .im (.int lo), .im (.int hi)] M
  simp only [t_core_in, ↓dSeq, ↓dNext, ↓dIfS, ↓dRet, ↓dRetV, ↓dRetN, ↓dRetM, ↓dSet, ↓dAsg, ↓dOwn, ↓dOwnD, ↓dParOI, ↓dParII, ↓dAug, ↓dApp, ↓dPutL, ↓dPutS, ↓dPutM, ↓dUpd, ↓dfRg2, ↓kRepr, ↓kSortedD, ↓dDrop, ↓dNever, ↓dFrz, ↓frz, ↓dgName, ↓dgNil, ↓dgCons, ↓dgTup, ↓dVar, ↓dVarB, ↓dC, ↓dOp, ↓dOpF, ↓dUn, ↓dTest, ↓dChain, ↓dAnd, ↓dOr, ↓dNot, ↓dTru, ↓truD, ↓dAndV, ↓dOrV, ↓dNotV, ↓dIf, ↓daNil, ↓daCons, ↓dTup, ↓dfLst, ↓dLst, ↓dNoPart, ↓dPart, ↓dfSl, ↓dSlS, ↓dCall, ↓dfCall, ↓dFn, ↓dFnK, ↓dYes, ↓kAdd, ↓kSub, ↓kMul, ↓kDiv, ↓kMod, ↓kPow, ↓kCat, ↓kRep, ↓kNeg, ↓kLt, ↓kLe, ↓kGt, ↓kGe, ↓kIsN, ↓kNotN, ↓kIsB, ↓isNon, ↓kIx, ↓kLen, ↓kSum, ↓kAll, ↓kAny, ↓kMax, ↓kMin, ↓kAbs, ↓kInt, ↓kStr, ↓kList, ↓kSortedI, ↓kIsi, isD, kit_int_int, kit_bool_int, kit_int_bool, kit_bool_bool, List.getElem?_cons_zero, List.getElem?_cons_succ, List.set_cons_zero, List.set_cons_succ, List.nil_append, List.cons_append, List.append_nil, Option.some.injEq, exists_eq_left', exists_eq_left, exists_and_left, exists_eq_right, Bool.not_true, Bool.not_false, Bool.false_eq_true, if_true, if_false, and_true, true_and, D.int.injEq, D.lst.injEq, D.bl.injEq, D.str.injEq, D.raw.injEq, D.tup.injEq, ite_true, ite_false, reduceIte]
  have hl := visOf_length (ns := ns) (lo := lo) (hi := hi)
  have hlen := ht.len
  refine ⟨ns, lo, hi, rfl, ht, h1, h2, h3, ns, rfl, ?_⟩
  refine ⟨Nat.le_trans (by decide : 1 ≤ 100) (size_small (by decide)), ?_, visOf ns lo hi ++ [totalOf ns], ?_, ?_, q⟩
  · rw [List.length_map]
    exact size_small (by simp; omega)
  · rw [dInts, List.map_append]
    rfl
  · rw [List.length_append]
    simp
    omega
def F_require_pair : DSp := fun ds M Q X => ∃ a b lo hi, ds = [a, b, lo, hi] ∧ GoodL a ∧ GoodL b ∧ plainD lo = true ∧ plainD hi = true ∧
  (isLengths a = true → isLengths b = true → okRange lo hi = true → Q .non M) ∧ ((isLengths a && isLengths b) = false → X (.ref Cls.InvalidText) none M) ∧ ((isLengths a && isLengths b) = true → okRange lo hi = false → X (.ref Cls.InvalidRange) none M)
def N_require_pair : List Str := ["text", "other", "low", "high"]
def t_require_pair (X' : DXK) : DTS := (dSeq (dDrop (dFn F_require_text [] X' (daCons (dVar 0) daNil)))
    (dSeq (dDrop (dFn F_require_text [] X' (daCons (dVar 1) daNil)))
    (dDrop (dFn F_require_range [] X' (daCons (dVar 2) (daCons (dVar 3) daNil))))))
theorem pure_require_pair : Keeps F_require_pair t_require_pair N_require_pair := by
  rintro _ M Q X' ⟨a, b, lo, hi, rfl, g1, g2, p1, p2, q1, q2, q3⟩
  show t_require_pair X' _ [.im a, .im b, .im lo, .im hi] M
  simp only [t_require_pair, ↓dSeq, ↓dNext, ↓dIfS, ↓dRet, ↓dRetV, ↓dRetN, ↓dRetM, ↓dSet, ↓dAsg, ↓dOwn, ↓dOwnD, ↓dParOI, ↓dParII, ↓dAug, ↓dApp, ↓dPutL, ↓dPutS, ↓dPutM, ↓dUpd, ↓dfRg2, ↓kRepr, ↓kSortedD, ↓dDrop, ↓dNever, ↓dFrz, ↓frz, ↓dgName, ↓dgNil, ↓dgCons, ↓dgTup, ↓dVar, ↓dVarB, ↓dC, ↓dOp, ↓dOpF, ↓dUn, ↓dTest, ↓dChain, ↓dAnd, ↓dOr, ↓dNot, ↓dTru, ↓truD, ↓dAndV, ↓dOrV, ↓dNotV, ↓dIf, ↓daNil, ↓daCons, ↓dTup, ↓dfLst, ↓dLst, ↓dNoPart, ↓dPart, ↓dfSl, ↓dSlS, ↓dCall, ↓dfCall, ↓dFn, ↓dFnK, ↓dYes, ↓kAdd, ↓kSub, ↓kMul, ↓kDiv, ↓kMod, ↓kPow, ↓kCat, ↓kRep, ↓kNeg, ↓kLt, ↓kLe, ↓kGt, ↓kGe, ↓kIsN, ↓kNotN, ↓kIsB, ↓isNon, ↓kIx, ↓kLen, ↓kSum, ↓kAll, ↓kAny, ↓kMax, ↓kMin, ↓kAbs, ↓kInt, ↓kStr, ↓kList, ↓kSortedI, ↓kIsi, isD, kit_int_int, kit_bool_int, kit_int_bool, kit_bool_bool, List.getElem?_cons_zero, List.getElem?_cons_succ, List.set_cons_zero, List.set_cons_succ, List.nil_append, List.cons_append, List.append_nil, Option.some.injEq, exists_eq_left', exists_eq_left, exists_and_left, exists_eq_right, Bool.not_true, Bool.not_false, Bool.false_eq_true, if_true, if_false, and_true, true_and, D.int.injEq, D.lst.injEq, D.bl.injEq, D.str.injEq, D.raw.injEq, D.tup.injEq, ite_true, ite_false, reduceIte]
  refine ⟨a, rfl, g1, fun a1 => ⟨b, rfl, g2, fun b1 => ⟨lo, hi, rfl, p1, p2, fun r => q1 a1 b1 r, fun r => q3 (by rw [a1, b1]; rfl) r⟩, fun b0 => q2 (by rw [b0, Bool.and_false])⟩, fun a0 => q2 (by rw [a0, Bool.false_and])⟩
/-- both texts, the range valid -/
structure OkPair (a b : List Int) (lo hi : Int) : Prop where
  ta : IsText a
  tb : IsText b
  l1 : 1 ≤ lo
  le : lo ≤ hi
  l2 : hi ≤ 1000
theorem OkPair.req {a b : List Int} {lo hi : Int} (h : OkPair a b lo hi) {M : MS} {Q : DQ} {X : DXK} (q : Q .non M) : F_require_pair [dInts a, dInts b, .int lo, .int hi] M Q X := by
  have ta := isLengths_ints.mpr h.ta
  have tb := isLengths_ints.mpr h.tb
  have la := h.ta.len
  have lb := h.tb.len
  have r := okRange_iff.mpr ⟨h.l1, h.le, h.l2⟩
  refine ⟨_, _, _, _, rfl, goodL_ints (size_small (by omega)), goodL_ints (size_small (by omega)), rfl, rfl, fun _ _ _ => q, fun z => ?_, fun _ z => ?_⟩
  · rw [ta, tb] at z; cases z
  · rw [r] at z; cases z
theorem eqv_ints : ∀ (a b : List Int), PyData.eqv (.list (a.map .int)) (.list (b.map .int)) = decide (a = b) := by
  have go : ∀ (a b : List Int), PyData.eqvAll (a.map .int) (b.map .int) = decide (a = b) := by
    intro a
    induction a with
    | nil => intro b; cases b <;> simp [PyData.eqvAll]
    | cons x r ih =>
      intro b
      cases b with
      | nil => simp [PyData.eqvAll]
      | cons y s =>
        simp only [List.map_cons, PyData.eqvAll, PyData.eqv, ih s]
        by_cases c : x = y
        · simp [c]
        · simp [c]
  intro a b
  simp only [PyData.eqv, go]
theorem kEq_ints {a b : List Int} {M : MS} {Q : DQ} (q : Q (.bl (decide (a = b))) M) : kEq (dInts a) (dInts b) M Q := ⟨_, _, toPy_ints a, toPy_ints b, shaped_ints a, shaped_ints b, by rw [eqv_ints]; exact q⟩
theorem kNe_ints {a b : List Int} {M : MS} {Q : DQ} (q : Q (.bl (!decide (a = b))) M) : kNe (dInts a) (dInts b) M Q := ⟨_, _, toPy_ints a, toPy_ints b, shaped_ints a, shaped_ints b, by rw [eqv_ints]; exact q⟩
noncomputable def F_are_alike : DSp := fun ds M Q X => ∃ a b lo hi, ds = [dInts a, dInts b, .int lo, .int hi] ∧ OkPair a b lo hi ∧ Q (.bl (decide (sepOf a b lo hi = none))) M
def N_are_alike : List Str := ["text", "other", "low", "high"]
def t_are_alike (X' : DXK) : DTS := (dSeq (dDrop (dFn F_require_pair [] X' (daCons (dVar 0) (daCons (dVar 1) (daCons (dVar 2) (daCons (dVar 3) daNil))))))
    (dRet (dOp kEq (dFn F_core_in [] X' (daCons (dVar 0) (daCons (dVar 2) (daCons (dVar 3) daNil)))) (dFn F_core_in [] X' (daCons (dVar 1) (daCons (dVar 2) (daCons (dVar 3) daNil)))))))
theorem pure_are_alike : Keeps F_are_alike t_are_alike N_are_alike := by
  rintro _ M Q X' ⟨a, b, lo, hi, rfl, h, q⟩
  show t_are_alike X' _ [.im (dInts a), .im (dInts b), .im (.int lo), .im (.int hi)] M
  simp only [t_are_alike, ↓dSeq, ↓dNext, ↓dIfS, ↓dRet, ↓dRetV, ↓dRetN, ↓dRetM, ↓dSet, ↓dAsg, ↓dOwn, ↓dOwnD, ↓dParOI, ↓dParII, ↓dAug, ↓dApp, ↓dPutL, ↓dPutS, ↓dPutM, ↓dUpd, ↓dfRg2, ↓kRepr, ↓kSortedD, ↓dDrop, ↓dNever, ↓dFrz, ↓frz, ↓dgName, ↓dgNil, ↓dgCons, ↓dgTup, ↓dVar, ↓dVarB, ↓dC, ↓dOp, ↓dOpF, ↓dUn, ↓dTest, ↓dChain, ↓dAnd, ↓dOr, ↓dNot, ↓dTru, ↓truD, ↓dAndV, ↓dOrV, ↓dNotV, ↓dIf, ↓daNil, ↓daCons, ↓dTup, ↓dfLst, ↓dLst, ↓dNoPart, ↓dPart, ↓dfSl, ↓dSlS, ↓dCall, ↓dfCall, ↓dFn, ↓dFnK, ↓dYes, ↓kAdd, ↓kSub, ↓kMul, ↓kDiv, ↓kMod, ↓kPow, ↓kCat, ↓kRep, ↓kNeg, ↓kLt, ↓kLe, ↓kGt, ↓kGe, ↓kIsN, ↓kNotN, ↓kIsB, ↓isNon, ↓kIx, ↓kLen, ↓kSum, ↓kAll, ↓kAny, ↓kMax, ↓kMin, ↓kAbs, ↓kInt, ↓kStr, ↓kList, ↓kSortedI, ↓kIsi, isD, kit_int_int, kit_bool_int, kit_int_bool, kit_bool_bool, List.getElem?_cons_zero, List.getElem?_cons_succ, List.set_cons_zero, List.set_cons_succ, List.nil_append, List.cons_append, List.append_nil, Option.some.injEq, exists_eq_left', exists_eq_left, exists_and_left, exists_eq_right, Bool.not_true, Bool.not_false, Bool.false_eq_true, if_true, if_false, and_true, true_and, D.int.injEq, D.lst.injEq, D.bl.injEq, D.str.injEq, D.raw.injEq, D.tup.injEq, ite_true, ite_false, reduceIte]
  refine h.req ⟨a, lo, hi, rfl, h.ta, h.l1, h.le, h.l2, b, lo, hi, rfl, h.tb, h.l1, h.le, h.l2, kEq_ints ?_⟩
  have e : decide (coreOf a lo hi = coreOf b lo hi) = decide (sepOf a b lo hi = none) := decide_eq_decide.mpr ((cores_iff h.ta.ne h.ta.pos h.tb.ne h.tb.pos h.le).trans sepOf_none.symm)
  rw [e]
  exact q
def F_separating_width : DSp := fun ds M Q X => ∃ a b lo hi, ds = [dInts a, dInts b, .int lo, .int hi] ∧ OkPair a b lo hi ∧ Q (optD (sepOf a b lo hi)) M
def N_separating_width : List Str := ["text", "other", "low", "high", "width"]
def t_separating_width (X' : DXK) : DTS := (dSeq (dDrop (dFn F_require_pair [] X' (daCons (dVar 0) (daCons (dVar 1) (daCons (dVar 2) (daCons (dVar 3) daNil))))))
    (dSeq (dFor (dRange2 (daCons (dVar 2) (daCons (dOp kAdd (dVarB 3) (dC (.int 1))) daNil))) (dgName 4) (dIfS (dTest (dOp kNe (dFn F_wrap_of [] X' (daCons (dVar 0) (daCons (dVar 4) daNil))) (dFn F_wrap_of [] X' (daCons (dVar 1) (daCons (dVar 4) daNil))))) (dRetV 4) dNext))
    (dRet (dC .non))))
theorem pure_separating_width : Keeps F_separating_width t_separating_width N_separating_width := by
  rintro _ M Q X' ⟨a, b, lo, hi, rfl, h, q⟩
  show t_separating_width X' _ [.im (dInts a), .im (dInts b), .im (.int lo), .im (.int hi), .no] M
  simp only [t_separating_width, ↓dSeq, ↓dNext, ↓dIfS, ↓dRet, ↓dRetV, ↓dRetN, ↓dRetM, ↓dSet, ↓dAsg, ↓dOwn, ↓dOwnD, ↓dParOI, ↓dParII, ↓dAug, ↓dApp, ↓dPutL, ↓dPutS, ↓dPutM, ↓dUpd, ↓dfRg2, ↓kRepr, ↓kSortedD, ↓dDrop, ↓dNever, ↓dFrz, ↓frz, ↓dgName, ↓dgNil, ↓dgCons, ↓dgTup, ↓dVar, ↓dVarB, ↓dC, ↓dOp, ↓dOpF, ↓dUn, ↓dTest, ↓dChain, ↓dAnd, ↓dOr, ↓dNot, ↓dTru, ↓truD, ↓dAndV, ↓dOrV, ↓dNotV, ↓dIf, ↓daNil, ↓daCons, ↓dTup, ↓dfLst, ↓dLst, ↓dNoPart, ↓dPart, ↓dfSl, ↓dSlS, ↓dCall, ↓dfCall, ↓dFn, ↓dFnK, ↓dYes, ↓kAdd, ↓kSub, ↓kMul, ↓kDiv, ↓kMod, ↓kPow, ↓kCat, ↓kRep, ↓kNeg, ↓kLt, ↓kLe, ↓kGt, ↓kGe, ↓kIsN, ↓kNotN, ↓kIsB, ↓isNon, ↓kIx, ↓kLen, ↓kSum, ↓kAll, ↓kAny, ↓kMax, ↓kMin, ↓kAbs, ↓kInt, ↓kStr, ↓kList, ↓kSortedI, ↓kIsi, isD, kit_int_int, kit_bool_int, kit_int_bool, kit_bool_bool, List.getElem?_cons_zero, List.getElem?_cons_succ, List.set_cons_zero, List.set_cons_succ, List.nil_append, List.cons_append, List.append_nil, Option.some.injEq, exists_eq_left', exists_eq_left, exists_and_left, exists_eq_right, Bool.not_true, Bool.not_false, Bool.false_eq_true, if_true, if_false, and_true, true_and, D.int.injEq, D.lst.injEq, D.bl.injEq, D.str.injEq, D.raw.injEq, D.tup.injEq, ite_true, ite_false, reduceIte]
  have la := h.ta.len
  have lb := h.tb.len
  refine h.req (for_inv (ds := rangeD lo (hi + 1 - lo).toNat) (fun R r => ?_) (fun i δ M' => M' = M ∧ lo + i ≤ hi + 1 ∧ sepOf a b (lo + i) hi = sepOf a b lo hi ∧ ∃ w, δ = [.im (dInts a), .im (dInts b), .im (.int lo), .im (.int hi), w]) ⟨rfl, by have := h.le; omega, by simp, .no, rfl⟩ ?_ ?_)
  · have h1 := h.l1
    have h2 := h.le
    have h3 := h.l2
    simp only [dRange2, ↓dSeq, ↓dNext, ↓dIfS, ↓dRet, ↓dRetV, ↓dRetN, ↓dRetM, ↓dSet, ↓dAsg, ↓dOwn, ↓dOwnD, ↓dParOI, ↓dParII, ↓dAug, ↓dApp, ↓dPutL, ↓dPutS, ↓dPutM, ↓dUpd, ↓dfRg2, ↓kRepr, ↓kSortedD, ↓dDrop, ↓dNever, ↓dFrz, ↓frz, ↓dgName, ↓dgNil, ↓dgCons, ↓dgTup, ↓dVar, ↓dVarB, ↓dC, ↓dOp, ↓dOpF, ↓dUn, ↓dTest, ↓dChain, ↓dAnd, ↓dOr, ↓dNot, ↓dTru, ↓truD, ↓dAndV, ↓dOrV, ↓dNotV, ↓dIf, ↓daNil, ↓daCons, ↓dTup, ↓dfLst, ↓dLst, ↓dNoPart, ↓dPart, ↓dfSl, ↓dSlS, ↓dCall, ↓dfCall, ↓dFn, ↓dFnK, ↓dYes, ↓kAdd, ↓kSub, ↓kMul, ↓kDiv, ↓kMod, ↓kPow, ↓kCat, ↓kRep, ↓kNeg, ↓kLt, ↓kLe, ↓kGt, ↓kGe, ↓kIsN, ↓kNotN, ↓kIsB, ↓isNon, ↓kIx, ↓kLen, ↓kSum, ↓kAll, ↓kAny, ↓kMax, ↓kMin, ↓kAbs, ↓kInt, ↓kStr, ↓kList, ↓kSortedI, ↓kIsi, isD, kit_int_int, kit_bool_int, kit_int_bool, kit_bool_bool, List.getElem?_cons_zero, List.getElem?_cons_succ, List.set_cons_zero, List.set_cons_succ, List.nil_append, List.cons_append, List.append_nil, Option.some.injEq, exists_eq_left', exists_eq_left, exists_and_left, exists_eq_right, Bool.not_true, Bool.not_false, Bool.false_eq_true, if_true, if_false, and_true, true_and, D.int.injEq, D.lst.injEq, D.bl.injEq, D.str.injEq, D.raw.injEq, D.tup.injEq, ite_true, ite_false, reduceIte]
    exact ⟨by omega, r⟩
  · rintro i d δ M' hd ⟨rfl, hle, hs, w, rfl⟩
    obtain ⟨rfl, hlt⟩ := rangeD_get hd
    simp only [↓dSeq, ↓dNext, ↓dIfS, ↓dRet, ↓dRetV, ↓dRetN, ↓dRetM, ↓dSet, ↓dAsg, ↓dOwn, ↓dOwnD, ↓dParOI, ↓dParII, ↓dAug, ↓dApp, ↓dPutL, ↓dPutS, ↓dPutM, ↓dUpd, ↓dfRg2, ↓kRepr, ↓kSortedD, ↓dDrop, ↓dNever, ↓dFrz, ↓frz, ↓dgName, ↓dgNil, ↓dgCons, ↓dgTup, ↓dVar, ↓dVarB, ↓dC, ↓dOp, ↓dOpF, ↓dUn, ↓dTest, ↓dChain, ↓dAnd, ↓dOr, ↓dNot, ↓dTru, ↓truD, ↓dAndV, ↓dOrV, ↓dNotV, ↓dIf, ↓daNil, ↓daCons, ↓dTup, ↓dfLst, ↓dLst, ↓dNoPart, ↓dPart, ↓dfSl, ↓dSlS, ↓dCall, ↓dfCall, ↓dFn, ↓dFnK, ↓dYes, ↓kAdd, ↓kSub, ↓kMul, ↓kDiv, ↓kMod, ↓kPow, ↓kCat, ↓kRep, ↓kNeg, ↓kLt, ↓kLe, ↓kGt, ↓kGe, ↓kIsN, ↓kNotN, ↓kIsB, ↓isNon, ↓kIx, ↓kLen, ↓kSum, ↓kAll, ↓kAny, ↓kMax, ↓kMin, ↓kAbs, ↓kInt, ↓kStr, ↓kList, ↓kSortedI, ↓kIsi, isD, kit_int_int, kit_bool_int, kit_int_bool, kit_bool_bool, List.getElem?_cons_zero, List.getElem?_cons_succ, List.set_cons_zero, List.set_cons_succ, List.nil_append, List.cons_append, List.append_nil, Option.some.injEq, exists_eq_left', exists_eq_left, exists_and_left, exists_eq_right, Bool.not_true, Bool.not_false, Bool.false_eq_true, if_true, if_false, and_true, true_and, D.int.injEq, D.lst.injEq, D.bl.injEq, D.str.injEq, D.raw.injEq, D.tup.injEq, ite_true, ite_false, reduceIte]
    refine ⟨a, lo + i, rfl, by omega, b, lo + i, rfl, by omega, kNe_ints ?_⟩
    rw [sepOf_step (by omega)] at hs
    by_cases c : wrapOf a (lo + i) = wrapOf b (lo + i)
    · rw [if_neg (fun z => z c)] at hs
      rw [decide_eq_true c]
      simp only [Bool.not_true, Bool.false_eq_true, if_false]
      refine ⟨trivial, by omega, ?_, .im (.int (lo + i)), rfl⟩
      rw [← hs, show lo + ((i + 1 : Nat) : Int) = lo + (i : Int) + 1 by omega]
    · rw [if_pos c] at hs
      rw [decide_eq_false c]
      simp only [Bool.not_false, if_true]
      rw [← hs] at q
      exact q
  · rintro δ M' ⟨rfl, hle, hs, w, rfl⟩
    rw [rangeD_length] at hle hs
    simp only [↓dSeq, ↓dNext, ↓dIfS, ↓dRet, ↓dRetV, ↓dRetN, ↓dRetM, ↓dSet, ↓dAsg, ↓dOwn, ↓dOwnD, ↓dParOI, ↓dParII, ↓dAug, ↓dApp, ↓dPutL, ↓dPutS, ↓dPutM, ↓dUpd, ↓dfRg2, ↓kRepr, ↓kSortedD, ↓dDrop, ↓dNever, ↓dFrz, ↓frz, ↓dgName, ↓dgNil, ↓dgCons, ↓dgTup, ↓dVar, ↓dVarB, ↓dC, ↓dOp, ↓dOpF, ↓dUn, ↓dTest, ↓dChain, ↓dAnd, ↓dOr, ↓dNot, ↓dTru, ↓truD, ↓dAndV, ↓dOrV, ↓dNotV, ↓dIf, ↓daNil, ↓daCons, ↓dTup, ↓dfLst, ↓dLst, ↓dNoPart, ↓dPart, ↓dfSl, ↓dSlS, ↓dCall, ↓dfCall, ↓dFn, ↓dFnK, ↓dYes, ↓kAdd, ↓kSub, ↓kMul, ↓kDiv, ↓kMod, ↓kPow, ↓kCat, ↓kRep, ↓kNeg, ↓kLt, ↓kLe, ↓kGt, ↓kGe, ↓kIsN, ↓kNotN, ↓kIsB, ↓isNon, ↓kIx, ↓kLen, ↓kSum, ↓kAll, ↓kAny, ↓kMax, ↓kMin, ↓kAbs, ↓kInt, ↓kStr, ↓kList, ↓kSortedI, ↓kIsi, isD, kit_int_int, kit_bool_int, kit_int_bool, kit_bool_bool, List.getElem?_cons_zero, List.getElem?_cons_succ, List.set_cons_zero, List.set_cons_succ, List.nil_append, List.cons_append, List.append_nil, Option.some.injEq, exists_eq_left', exists_eq_left, exists_and_left, exists_eq_right, Bool.not_true, Bool.not_false, Bool.false_eq_true, if_true, if_false, and_true, true_and, D.int.injEq, D.lst.injEq, D.bl.injEq, D.str.injEq, D.raw.injEq, D.tup.injEq, ite_true, ite_false, reduceIte]
    have hle' := h.le
    rw [sepOf_nil (by omega)] at hs
    rw [← hs] at q
    exact q
end DL

/-! LW, part a: what laws share: drawn digits, words, wraps; texts of data. -/
namespace DL
open PySem PySem.Spec PyProof.Rows L2 MX
variable [Cls]
/-! repr's length -/
mutual
def sizeP : PyData → Nat
  | .none => 8
  | .bool _ => 8
  | .int i => i.natAbs.log2 + 3
  | .str x => (reprText x).length
  | .list xs => 2 + sizePs xs
  | .tuple xs => 3 + sizePs xs
  | .dict _ => 0
def sizePs : List PyData → Nat
  | [] => 0
  | x :: r => sizeP x + 2 + sizePs r
end
theorem textFrom_le : ∀ (ts : List Str) (k : Nat) (acc : Str), (textFrom k acc ts).length ≤ acc.length + piled ts
  | [], k, acc => Nat.le_add_right _ _
  | t :: r, k, acc => by
    have h := textFrom_le r (k + 1) (acc ++ (if k > 0 then ", " else "" : String) ++ t)
    have e : (acc ++ (if k > 0 then ", " else "" : String) ++ t).length ≤ acc.length + 2 + t.length := by
      rw [Str.length_append, Str.length_append]
      split
      · exact Nat.le_refl _
      · exact Nat.add_le_add_right (Nat.le_add_right _ _) _
    have e2 : piled (t :: r) = t.length + 2 + piled r := by simp [piled]
    rw [e2]
    show (textFrom (k + 1) _ r).length ≤ _
    omega
mutual
theorem shown_le : ∀ p : PyData, p.hasDict = false → p.shown.length ≤ sizeP p
  | .none, _ => by show Str.length ("None" : Str) ≤ 8; decide
  | .bool b, _ => by
    cases b
    · show Str.length ("False" : Str) ≤ 8; decide
    · show Str.length ("True" : Str) ≤ 8; decide
  | .int i, _ => by
    have h1 := int_text_length_le (a := i) (k := i.natAbs.log2 + 1) (by omega) (by omega)
    have e : (PyData.int i).shown = Str.ofString (toString i) := by simp only [PyData.shown]
    rw [e, PySem.ofString_length]
    simp only [sizeP]
    omega
  | .str x, _ => Nat.le_refl _
  | .list xs, h => by
    have ih := shownAll_le xs (by simpa [PyData.hasDict] using h)
    simp only [PyData.shown, sizeP, listText]
    rw [Str.length_append]
    have := textFrom_le (PyData.shownAll xs) 0 "["
    have e1 : Str.length ("[" : Str) = 1 := rfl
    have e2 : Str.length ("]" : Str) = 1 := rfl
    omega
  | .tuple xs, h => by
    have ih := shownAll_le xs (by simpa [PyData.hasDict] using h)
    simp only [PyData.shown, sizeP, tupleText]
    rw [Str.length_append, Str.length_append]
    have e1 : Str.length ("(" : Str) = 1 := rfl
    have e2 : Str.length (if (PyData.shownAll xs).length == 1 then ",)" else ")" : String) ≤ 2 := by split <;> decide
    have e3 : (Str.join ", " (PyData.shownAll xs)).length ≤ piled (PyData.shownAll xs) := by
      cases hx : PyData.shownAll xs with
      | nil => exact Nat.le_refl _
      | cons t r => have := join_length_add (t :: r) (by simp); omega
    omega
  | .dict _, h => by simp [PyData.hasDict] at h
theorem shownAll_le : ∀ xs : List PyData, PyData.hasDictAll xs = false → piled (PyData.shownAll xs) ≤ sizePs xs
  | [], _ => Nat.le_refl _
  | x :: r, h => by
    simp only [PyData.hasDictAll, Bool.or_eq_false_iff] at h
    have h1 := shown_le x h.1
    have h2 := shownAll_le r h.2
    have e : piled (PyData.shownAll (x :: r)) = x.shown.length + 2 + piled (PyData.shownAll r) := by simp [PyData.shownAll, piled]
    rw [e]
    simp only [sizePs]
    omega
end
theorem shows_of {x : D} {p : PyData} (h : toPy x = some p) (hd : isDisplay p = true) (hl : p.canLay0 = true) (hs : p.showable = true) (hdp : p.depth ≤ 60) (hz : sizeP p ≤ 1000000) : Shows x p.shown := by
  have hn := PyData.hasDict_of_canLay p hl
  exact ⟨p, h, hd, hs, hn, hdp, Nat.le_trans (Nat.le_trans (shown_le p hn) hz) (by decide), rfl⟩
theorem one_small {α : Type} {x : α} : [x].length ≤ sizeLine := size_small (show 1 ≤ 100000 by decide)
theorem shaped_int (i : Int) : SeqAt.shaped (.int i) = true := by simp [SeqAt.shaped, PyData.canLay0, PyData.depth]
theorem kEq_int {i j : Int} {M : MS} {Q : DQ} (q : Q (.bl (decide (i = j))) M) : kEq (.int i) (.int j) M Q := by
  refine ⟨.int i, .int j, rfl, rfl, shaped_int i, shaped_int j, ?_⟩
  have e : PyData.eqv (.int i) (.int j) = decide (i = j) := by
    simp only [PyData.eqv]
    by_cases h : i = j <;> simp [h]
  rw [e]; exact q
theorem shaped_bl (b : Bool) : SeqAt.shaped (.bool b) = true := by cases b <;> decide
theorem kEq_bl {i j : Bool} {M : MS} {Q : DQ} (q : Q (.bl (decide (i = j))) M) : kEq (.bl i) (.bl j) M Q := by
  refine ⟨.bool i, .bool j, rfl, rfl, shaped_bl i, shaped_bl j, ?_⟩
  have e : PyData.eqv (.bool i) (.bool j) = decide (i = j) := by cases i <;> cases j <;> rfl
  rw [e]; exact q
theorem kNe_bl {i j : Bool} {M : MS} {Q : DQ} (q : Q (.bl (!decide (i = j))) M) : kNe (.bl i) (.bl j) M Q := by
  refine ⟨.bool i, .bool j, rfl, rfl, shaped_bl i, shaped_bl j, ?_⟩
  have e : PyData.eqv (.bool i) (.bool j) = decide (i = j) := by cases i <;> cases j <;> rfl
  rw [e]; exact q
theorem kNe_same {b : Bool} {M : MS} {Q : DQ} (q : Q (.bl false) M) : kNe (.bl b) (.bl b) M Q := kNe_bl (by simpa using q)
theorem eq_int {i j : Int} {M : MS} {Q : DQ} : kEq (.int i) (.int j) M Q = Q (.bl (decide (i = j))) M := by
  refine propext ⟨?_, kEq_int⟩
  rintro ⟨a, b, e1, e2, _, _, q⟩
  cases e1; cases e2
  have e : PyData.eqv (.int i) (.int j) = decide (i = j) := by
    simp only [PyData.eqv]
    by_cases h : i = j <;> simp [h]
  rw [e] at q; exact q
theorem ne_int {i j : Int} {M : MS} {Q : DQ} : kNe (.int i) (.int j) M Q = Q (.bl (!decide (i = j))) M := by
  have e : PyData.eqv (.int i) (.int j) = decide (i = j) := by
    simp only [PyData.eqv]
    by_cases h : i = j <;> simp [h]
  refine propext ⟨?_, fun q => ⟨.int i, .int j, rfl, rfl, shaped_int i, shaped_int j, by rw [e]; exact q⟩⟩
  rintro ⟨a, b, e1, e2, _, _, q⟩
  cases e1; cases e2
  rw [e] at q; exact q
theorem eq_bl {i j : Bool} {M : MS} {Q : DQ} : kEq (.bl i) (.bl j) M Q = Q (.bl (decide (i = j))) M := by
  refine propext ⟨?_, kEq_bl⟩
  rintro ⟨a, b, e1, e2, _, _, q⟩
  cases e1; cases e2
  have e : PyData.eqv (.bool i) (.bool j) = decide (i = j) := by cases i <;> cases j <;> rfl
  rw [e] at q; exact q
theorem ne_bl {i j : Bool} {M : MS} {Q : DQ} : kNe (.bl i) (.bl j) M Q = Q (.bl (!decide (i = j))) M := by
  refine propext ⟨?_, kNe_bl⟩
  rintro ⟨a, b, e1, e2, _, _, q⟩
  cases e1; cases e2
  have e : PyData.eqv (.bool i) (.bool j) = decide (i = j) := by cases i <;> cases j <;> rfl
  rw [e] at q; exact q
theorem eq_ints {a b : List Int} {M : MS} {Q : DQ} : kEq (.lst (a.map .int)) (.lst (b.map .int)) M Q = Q (.bl (decide (a = b))) M := by
  refine propext ⟨?_, kEq_ints⟩
  rintro ⟨x, y, e1, e2, _, _, q⟩
  rw [toPy_ints] at e1 e2
  cases e1; cases e2
  rw [eqv_ints] at q; exact q
theorem ne_ints {a b : List Int} {M : MS} {Q : DQ} : kNe (.lst (a.map .int)) (.lst (b.map .int)) M Q = Q (.bl (!decide (a = b))) M := by
  refine propext ⟨?_, kNe_ints⟩
  rintro ⟨x, y, e1, e2, _, _, q⟩
  rw [toPy_ints] at e1 e2
  cases e1; cases e2
  rw [eqv_ints] at q; exact q
theorem atI_map {ns : List Int} {i : Int} : atI (ns.map D.int) i = (atI ns i).map .int := by
  unfold atI
  rw [List.length_map]
  cases ixN ns.length i with
  | none => rfl
  | some j => exact List.getElem?_map
theorem ix_ints {ns : List Int} {i : Int} {M : MS} {Q : DQ} : kIx (.lst (ns.map .int)) (.int i) M Q = ∃ n, atI ns i = some n ∧ Q (.int n) M := by
  refine propext ⟨?_, ?_⟩
  · rintro ⟨j, d, e, h, q⟩
    cases e
    rw [atI_map] at h
    obtain ⟨n, hn, rfl⟩ := Option.map_eq_some_iff.mp h
    exact ⟨n, hn, q⟩
  · rintro ⟨n, hn, q⟩
    exact ⟨i, .int n, rfl, by rw [atI_map, hn]; rfl, q⟩
theorem ix_lit0 {d : D} {ds : List D} {i : Int} {M : MS} {Q : DQ} : kIx (.lst (d :: ds)) (.int i) M Q = ∃ x, atI (d :: ds) i = some x ∧ Q x M := by
  refine propext ⟨?_, ?_⟩
  · rintro ⟨j, x, e, h, q⟩
    cases e
    exact ⟨x, h, q⟩
  · rintro ⟨x, h, q⟩
    exact ⟨i, x, rfl, h, q⟩
theorem sum_ints {ns : List Int} {M : MS} {Q : DQ} : kSum [.lst (ns.map .int)] M Q = Q (.int ns.sum) M := by
  refine propext ⟨?_, fun q => ⟨ns, intsD_map ns, q⟩⟩
  rintro ⟨m, h, q⟩
  rw [intsD_map] at h
  cases h
  exact q
theorem kEq_strs {a : Str} {M : MS} {Q : DQ} (q : Q (.bl true) M) : kEq (.str a) (.str a) M Q := by
  show Q (.bl (decide (a = a))) M
  rw [decide_eq_true rfl]; exact q
/-- ints of less than 2^60 -/
def small (ns : List Int) : Prop := ∀ n ∈ ns, n.natAbs < 2 ^ 60
theorem log_small {i : Int} {k : Nat} (h : i.natAbs < 2 ^ k) (hk : 0 < k) : i.natAbs.log2 < k := by
  by_cases c : i.natAbs = 0
  · rw [c]; exact hk
  · exact (Nat.log2_lt c).mpr h
theorem showable_ints : ∀ {ns : List Int}, small ns → PyData.showableAll (ns.map .int) = true
  | [], _ => rfl
  | n :: ns, h => by
    have h1 := log_small (h n List.mem_cons_self) (by decide)
    have h2 := showable_ints fun m hm => h m (List.mem_cons_of_mem _ hm)
    rw [List.map_cons]
    simp only [PyData.showableAll, PyData.showable, h2, Bool.and_true, decide_eq_true_eq]
    omega
theorem sizeP_ints : ∀ {ns : List Int}, small ns → sizePs (ns.map .int) ≤ 65 * ns.length
  | [], _ => Nat.le_refl _
  | n :: ns, h => by
    have h1 := log_small (h n List.mem_cons_self) (by decide)
    have h2 := sizeP_ints fun m hm => h m (List.mem_cons_of_mem _ hm)
    rw [List.map_cons, List.length_cons]
    simp only [sizePs, sizeP]
    omega
theorem small_sum {l : List Int} (h : ∀ m ∈ l, 1 ≤ m) {n : Int} (hn : n ∈ l) : n + l.length ≤ l.sum + 1 := by
  induction l with
  | nil => cases hn
  | cons x r ih =>
    rw [List.sum_cons, List.length_cons]
    have hr := fun m hm => h m (List.mem_cons_of_mem _ hm)
    have hx := h x List.mem_cons_self
    rcases List.mem_cons.mp hn with e | e
    · have := sum_ge hr
      omega
    · have := ih hr e
      omega
theorem small_text {ns : List Int} (h : IsText ns) : small ns := by
  intro n hn
  have h1 := h.pos n hn
  have h2 := h.le
  have : ∀ {l : List Int}, (∀ m ∈ l, 1 ≤ m) → ∀ n ∈ l, n ≤ l.sum := by
    intro l
    induction l with
    | nil => intro _ n hn; cases hn
    | cons x r ih =>
      intro hp n hn
      rw [List.sum_cons]
      have hr := fun m hm => hp m (List.mem_cons_of_mem _ hm)
      have hx := hp x List.mem_cons_self
      rcases List.mem_cons.mp hn with e | e
      · have := sum_ge hr
        omega
      · have := ih hr n e
        omega
  have h3 := this h.pos n hn
  have h4 := List.length_pos_iff.mpr h.ne
  unfold totalOf at h2
  have h5 : n ≤ 600 := by omega
  have : n.natAbs ≤ 600 := by omega
  exact Nat.lt_of_le_of_lt this (by decide)
/-- what repr([a, b]) gives -/
def pairP (a b : List Int) : PyData := .list [.list (a.map .int), .list (b.map .int)]
theorem shows_pair {a b : List Int} (ha : IsText a) (hb : IsText b) : Shows (.lst [dInts a, dInts b]) (pairP a b).shown := by
  have la := ha.len
  have lb := hb.len
  refine shows_of (by simp only [toPy, toPys, toPys_ints, Option.map_some, pairP]) rfl ?_ ?_ ?_ ?_
  · simp only [pairP, PyData.canLay0, PyData.canLayAll0, canLay_ints, Bool.and_self]
  · simp only [pairP, PyData.showable, PyData.showableAll, showable_ints (small_text ha), showable_ints (small_text hb), Bool.and_self]
  · simp only [pairP, PyData.depth, PyData.depthAll, depth_ints]
    decide
  · have := sizeP_ints (small_text ha)
    have := sizeP_ints (small_text hb)
    simp only [pairP, sizeP, sizePs]
    omega
/-! drawn digits -/
def DigAt (M : MS) (p : Addr) (n : Int) : Prop := ∃ a b c : Int, M p = some (.lst [.int a, .int b, .int c]) ∧ 0 ≤ a ∧ 0 ≤ b ∧ b < 10 ^ 39 ∧ 0 ≤ c ∧ c ≤ n
theorem DigAt.mono {M : MS} {p : Addr} {n m : Int} (h : DigAt M p n) (e : n ≤ m) : DigAt M p m := by
  obtain ⟨a, b, c, h0, h1, h2, h3, h4, h5⟩ := h
  exact ⟨a, b, c, h0, h1, h2, h3, h4, by omega⟩
/-- all but p stays -/
def But (p : Addr) (M M' : MS) : Prop := ∀ q, q ≠ p → M' q = M q
theorem But.refl (p : Addr) (M : MS) : But p M M := fun _ _ => rfl
theorem But.trans {p : Addr} {M M' M'' : MS} (h : But p M M') (h' : But p M' M'') : But p M M'' := fun q hq => (h' q hq).trans (h q hq)
theorem But.upd {p : Addr} {M : MS} {c : Cell} : But p M (updM M p c) := fun q hq => updM_ne hq
theorem kIx_raw {p : Addr} {i : Int} {ds : List D} {d : D} {M : MS} {Q : DQ} (h : M p = some (.lst ds)) (hi : atI ds i = some d) (q : Q d M) : kIx (.raw (.ref p)) (.int i) M Q := ⟨ds, i, d, rfl, h, hi, q⟩
def F__law_digits : DSp := fun ds M Q X => ∃ ns k, ds = [.scr ns, .int k] ∧ 0 ≤ k ∧ k ≤ 1000 ∧ (∀ z ∈ ns, Builtin.Int.intBits z ≤ 1048576) ∧ ∀ p M', M p = none → DigAt M' p 0 → But p M M' → Q (.raw (.ref p)) M'
def N__law_digits : List Str := ["script", "k", "cell"]
def t__law_digits (X' : DXK) : DTS := (dSeq (dSet (dIf (dTest (dOp kLt (dVarB 1) (dCall kLen (daCons (dVarB 0) daNil)))) (dOp kIx (dVarB 0) (dVarB 1)) (dC (.int 0))) 2)
    (dRetM (dfLst (daCons (dCall kMax (daCons (dC (.int 0)) (daCons (dOp kSub (dCall kAbs (daCons (dVarB 2) daNil)) (dOp kPow (dC (.int 10)) (dC (.int 18)))) daNil))) (daCons (dOp kMod (dOp kAdd (dOp kAdd (dOp kMul (dVarB 2) (dC (.int 71))) (dOp kMul (dC (.int 29)) (dVarB 1))) (dC (.int 3))) (dOp kAdd (dOp kPow (dC (.int 10)) (dC (.int 38))) (dC (.int 133)))) (daCons (dC (.int 0)) daNil))))))
theorem log_bits {x : Int} {k : Nat} (h : Builtin.Int.intBits x ≤ k) : x.natAbs.log2 ≤ k := by
  unfold Builtin.Int.intBits at h
  by_cases c : (x == 0) = true
  · have : x = 0 := by simpa using c
    subst this
    exact Nat.zero_le _
  · rw [if_neg c] at h
    omega
theorem atI_mem {α : Type} {l : List α} {i : Int} {x : α} (h : atI l i = some x) : x ∈ l := by
  unfold atI at h
  cases z : ixN l.length i with
  | none => rw [z] at h; cases h
  | some j => rw [z] at h; exact List.mem_of_getElem? h
theorem atI_get {α : Type} {l : List α} {i : Int} (h0 : 0 ≤ i) (h : i < l.length) : ∃ x, atI l i = some x ∧ l[i.toNat]? = some x := by
  have hlt : i.toNat < l.length := by omega
  refine ⟨l[i.toNat], ?_, List.getElem?_eq_getElem hlt⟩
  unfold atI ixN
  simp [h0, h, hlt]
theorem pure__law_digits : Keeps F__law_digits t__law_digits N__law_digits := by
  rintro _ M Q X' ⟨ns, k, rfl, h0, h1, hb, q⟩
  show t__law_digits X' _ [.im (.scr ns), .im (.int k), .no] M
  have fin : ∀ x : Int, x.natAbs.log2 ≤ 1048576 → 0 ≤ (18 : Int) ∧ ((Builtin.Int.intBits 10 : Nat) : Int) * 18 ≤ 2 ^ 27 ∧ mulOk x 71 ∧ mulOk 29 k ∧ 0 ≤ (38 : Int) ∧ ((Builtin.Int.intBits 10 : Nat) : Int) * 38 ≤ 2 ^ 27 ∧ (0 : Int) < 10 ^ Int.toNat 38 + 133 ∧
      ([D.int (if (if x < 0 then -x else x) - 10 ^ Int.toNat 18 > 0 then (if x < 0 then -x else x) - 10 ^ Int.toNat 18 else 0), D.int ((x * 71 + 29 * k + 3) % (10 ^ Int.toNat 38 + 133)), D.int 0].length ≤ sizeLine) ∧
      ∀ (p : Addr), M p = none → Q (D.raw (V.ref p)) (updM M p (Cell.lst [D.int (if (if x < 0 then -x else x) - 10 ^ Int.toNat 18 > 0 then (if x < 0 then -x else x) - 10 ^ Int.toNat 18 else 0), D.int ((x * 71 + 29 * k + 3) % (10 ^ Int.toNat 38 + 133)), D.int 0])) := fun x hx => by
    have hk : k.natAbs.log2 < 60 := log_small (k := 60) (by omega) (by decide)
    refine ⟨by decide, by decide, ?_, ?_, by decide, by decide, by decide, size_small (by show 3 ≤ 100000; decide), fun p hp => q p _ hp ⟨_, _, _, updM_same, ?_, ?_, ?_, Int.le_refl _, Int.le_refl _⟩ But.upd⟩
    · show x.natAbs.log2 + Nat.log2 71 < 100000000
      have : Nat.log2 71 ≤ 10 := by decide
      omega
    · show Nat.log2 29 + k.natAbs.log2 < 100000000
      have : Nat.log2 29 ≤ 10 := by decide
      omega
    · split <;> omega
    · exact Int.emod_nonneg _ (by decide)
    · exact Int.lt_of_lt_of_le (Int.emod_lt_of_pos _ (by decide)) (by decide)
  simp only [t__law_digits, ↓dSeq, ↓dNext, ↓dIfS, ↓dRet, ↓dRetV, ↓dRetN, ↓dRetM, ↓dSet, ↓dAsg, ↓dOwn, ↓dOwnD, ↓dParOI, ↓dParII, ↓dAug, ↓dApp, ↓dPutL, ↓dPutS, ↓dPutM, ↓dUpd, ↓dfRg2, ↓kRepr, ↓kSortedD, ↓dDrop, ↓dNever, ↓dFrz, ↓frz, ↓dgName, ↓dgNil, ↓dgCons, ↓dgTup, ↓dVar, ↓dVarB, ↓dC, ↓dOp, ↓dOpF, ↓dUn, ↓dTest, ↓dChain, ↓dAnd, ↓dOr, ↓dNot, ↓dTru, ↓truD, ↓dAndV, ↓dOrV, ↓dNotV, ↓dIf, ↓daNil, ↓daCons, ↓dTup, ↓dfLst, ↓dLst, ↓dNoPart, ↓dPart, ↓dfSl, ↓dSlS, ↓dCall, ↓dfCall, ↓dFn, ↓dFnK, ↓dYes, ↓kAdd, ↓kSub, ↓kMul, ↓kDiv, ↓kMod, ↓kPow, ↓kCat, ↓kRep, ↓kNeg, ↓kLt, ↓kLe, ↓kGt, ↓kGe, ↓kIsN, ↓kNotN, ↓kIsB, ↓isNon, ↓kIx, ↓kLen, ↓kSum, ↓kAll, ↓kAny, ↓kMax, ↓kMin, ↓kAbs, ↓kInt, ↓kStr, ↓kList, ↓kSortedI, ↓kIsi, isD, kit_int_int, kit_bool_int, kit_int_bool, kit_bool_bool, List.getElem?_cons_zero, List.getElem?_cons_succ, List.set_cons_zero, List.set_cons_succ, List.nil_append, List.cons_append, List.append_nil, Option.some.injEq, exists_eq_left', exists_eq_left, exists_and_left, exists_eq_right, Bool.not_true, Bool.not_false, Bool.false_eq_true, if_true, if_false, and_true, true_and, D.int.injEq, D.lst.injEq, D.bl.injEq, D.str.injEq, D.raw.injEq, D.tup.injEq, ite_true, ite_false, reduceIte]
  by_cases c : k < (ns.length : Int)
  · rw [if_pos (decide_eq_true c)]
    obtain ⟨x, hx, _⟩ := atI_get h0 c
    exact ⟨x, hx, fin x (log_bits (hb x (atI_mem hx)))⟩
  · rw [if_neg (by simpa using c)]
    exact fin 0 (by decide)
theorem atI3_0 {a b c : D} : atI [a, b, c] 0 = some a := rfl
theorem atI3_1 {a b c : D} : atI [a, b, c] 1 = some b := rfl
theorem atI3_2 {a b c : D} : atI [a, b, c] 2 = some c := rfl
theorem ixN3_0 {a b c : D} : ixN [a, b, c].length 0 = some 0 := rfl
theorem ixN3_2 {a b c : D} : ixN [a, b, c].length 2 = some 2 := rfl
def F__law_cut : DSp := fun ds M Q X => ∃ p b n, ds = [.raw (.ref p), .int b] ∧ 0 < b ∧ b.natAbs.log2 < 9000 ∧ DigAt M p n ∧ n ≤ 10 ^ 9 ∧ ∀ c M', 0 ≤ c → c < b → DigAt M' p (n + 1) → But p M M' → Q (.int c) M'
def N__law_cut : List Str := ["digits", "bound", "digit", "mixed"]
def t__law_cut (X' : DXK) : DTS := (dSeq (dIfS (dTest (dOp kGt (dOp kIx (dVarB 0) (dC (.int 0))) (dC (.int 0)))) (dSeq (dSet (dOp kMod (dOp kIx (dVarB 0) (dC (.int 0))) (dVarB 1)) 2)
    (dSeq (dPutM (dVar 0) (dC (.int 0)) (dOp kDiv (dOp kIx (dVarB 0) (dC (.int 0))) (dVarB 1)))
    (dRetV 2))) dNext)
    (dSeq (dPutM (dVar 0) (dC (.int 2)) (dOp kAdd (dOp kIx (dVarB 0) (dC (.int 2))) (dC (.int 1))))
    (dSeq (dSet (dOp kMod (dOp kPow (dOp kAdd (dOp kIx (dVarB 0) (dC (.int 1))) (dOp kMul (dC (.int 86028121)) (dOp kIx (dVarB 0) (dC (.int 2))))) (dC (.int 3))) (dOp kAdd (dOp kPow (dC (.int 10)) (dC (.int 41))) (dC (.int 37)))) 3)
    (dSeq (dSet (dOp kMod (dOp kPow (dOp kAdd (dVarB 3) (dOp kMul (dC (.int 49979687)) (dOp kIx (dVarB 0) (dC (.int 2))))) (dC (.int 2))) (dOp kAdd (dOp kPow (dC (.int 10)) (dC (.int 40))) (dC (.int 121)))) 3)
    (dRet (dOp kMod (dOp kDiv (dVarB 3) (dOp kPow (dC (.int 10)) (dC (.int 5)))) (dVarB 1)))))))
theorem bits3 {x k : Int} (h0 : 0 ≤ x) (h : x < 2 ^ 200) (hk : 0 ≤ k ∧ k ≤ 1000) : ((Builtin.Int.intBits x : Nat) : Int) * k ≤ 2 ^ 27 := by
  have h1 : x.natAbs < 2 ^ 200 := by
    have : ((x.natAbs : Nat) : Int) < ((2 ^ 200 : Nat) : Int) := by
      rw [Int.natAbs_of_nonneg h0]
      exact h
    exact Int.ofNat_lt.mp this
  have h2 := log_small h1 (by decide)
  have h3 : Builtin.Int.intBits x ≤ 200 := by
    unfold Builtin.Int.intBits
    split <;> omega
  have h4 : ((Builtin.Int.intBits x : Nat) : Int) * k ≤ 200 * 1000 := Int.mul_le_mul (by omega) hk.2 hk.1 (by decide)
  exact Int.le_trans h4 (by decide)
theorem pure__law_cut : Keeps F__law_cut t__law_cut N__law_cut := by
  rintro _ M Q X' ⟨p, b, n, rfl, hb, hb2, ⟨d0, d1, d2, hM, h0, h1, h2, h3, h4⟩, hn, q⟩
  show t__law_cut X' _ [.im (.raw (.ref p)), .im (.int b), .no, .no] M
  simp only [t__law_cut, ↓dSeq, ↓dNext, ↓dIfS, ↓dRet, ↓dRetV, ↓dRetN, ↓dRetM, ↓dSet, ↓dAsg, ↓dOwn, ↓dOwnD, ↓dParOI, ↓dParII, ↓dAug, ↓dApp, ↓dPutL, ↓dPutS, ↓dPutM, ↓dUpd, ↓dfRg2, ↓kRepr, ↓kSortedD, ↓dDrop, ↓dNever, ↓dFrz, ↓frz, ↓dgName, ↓dgNil, ↓dgCons, ↓dgTup, ↓dVar, ↓dVarB, ↓dC, ↓dOp, ↓dOpF, ↓dUn, ↓dTest, ↓dChain, ↓dAnd, ↓dOr, ↓dNot, ↓dTru, ↓truD, ↓dAndV, ↓dOrV, ↓dNotV, ↓dIf, ↓daNil, ↓daCons, ↓dTup, ↓dfLst, ↓dLst, ↓dNoPart, ↓dPart, ↓dfSl, ↓dSlS, ↓dCall, ↓dfCall, ↓dFn, ↓dFnK, ↓dYes, ↓kAdd, ↓kSub, ↓kMul, ↓kDiv, ↓kMod, ↓kPow, ↓kCat, ↓kRep, ↓kNeg, ↓kLt, ↓kLe, ↓kGt, ↓kGe, ↓kIsN, ↓kNotN, ↓kIsB, ↓isNon, ↓kIx, ↓kLen, ↓kSum, ↓kAll, ↓kAny, ↓kMax, ↓kMin, ↓kAbs, ↓kInt, ↓kStr, ↓kList, ↓kSortedI, ↓kIsi, isD, kit_int_int, kit_bool_int, kit_int_bool, kit_bool_bool, List.getElem?_cons_zero, List.getElem?_cons_succ, List.set_cons_zero, List.set_cons_succ, List.nil_append, List.cons_append, List.append_nil, Option.some.injEq, exists_eq_left', exists_eq_left, exists_and_left, exists_eq_right, Bool.not_true, Bool.not_false, Bool.false_eq_true, if_true, if_false, and_true, true_and, D.int.injEq, D.lst.injEq, D.bl.injEq, D.str.injEq, D.raw.injEq, D.tup.injEq, ite_true, ite_false, reduceIte, hM, updM_same, Cell.lst.injEq, atI3_0, atI3_1, atI3_2, ixN3_0, ixN3_2]
  by_cases c : 0 < d0
  · rw [if_pos (decide_eq_true c)]
    refine ⟨hb, hb, hb2, q _ _ (Int.emod_nonneg _ (by omega)) (Int.emod_lt_of_pos _ hb) ⟨_, _, _, updM_same, Int.ediv_nonneg h0 (by omega), h1, h2, h3, by omega⟩ But.upd⟩
  · rw [if_neg (by simpa using c)]
    have e0 : 0 ≤ d2 + 1 := by omega
    have e1 : d2 + 1 ≤ 1000000001 := by omega
    generalize he : d2 + 1 = e at e0 e1
    have elog : e.natAbs.log2 < 60 := log_small (k := 60) (by omega) (by decide)
    have hx : 0 ≤ d1 + 86028121 * e ∧ d1 + 86028121 * e < 2 ^ 200 := ⟨by omega, Int.lt_of_lt_of_le (show d1 + 86028121 * e < 10 ^ 39 + 86028121 * 1000000002 by omega) (by decide)⟩
    have hy : ∀ z : Int, 0 ≤ z % (10 ^ Int.toNat 41 + 37) + 49979687 * e ∧ z % (10 ^ Int.toNat 41 + 37) + 49979687 * e < 2 ^ 200 := fun z => by
      have z1 := Int.emod_nonneg z (show (10 ^ Int.toNat 41 + 37 : Int) ≠ 0 by decide)
      have z2 := Int.emod_lt_of_pos z (show (0 : Int) < 10 ^ Int.toNat 41 + 37 by decide)
      have z3 : (10 ^ Int.toNat 41 + 37 : Int) + 49979687 * 1000000002 ≤ 2 ^ 200 := by decide
      generalize z % (10 ^ Int.toNat 41 + 37) = u at z1 z2 ⊢
      generalize (10 ^ Int.toNat 41 + 37 : Int) = m at z2 z3
      generalize (2 ^ 200 : Int) = t at z3 ⊢
      exact ⟨by omega, by omega⟩
    refine ⟨?_, by decide, bits3 hx.1 hx.2 (by decide), by decide, by decide, by decide, ?_, by decide, bits3 (hy _).1 (hy _).2 (by decide), by decide, by decide, by decide, by decide, by decide, by decide, by decide, hb, ?_⟩
    · show Nat.log2 86028121 + e.natAbs.log2 < 100000000
      have : Nat.log2 86028121 ≤ 30 := by decide
      omega
    · show Nat.log2 49979687 + e.natAbs.log2 < 100000000
      have : Nat.log2 49979687 ≤ 30 := by decide
      omega
    · exact q _ _ (Int.emod_nonneg _ (by omega)) (Int.emod_lt_of_pos _ hb) ⟨_, _, _, updM_same, h0, h1, h2, by omega, by omega⟩ But.upd
def Cut (p : Addr) (b : Int) (M : MS) (R : Int → MS → Prop) : Prop := ∃ n, 0 < b ∧ b.natAbs.log2 < 9000 ∧ DigAt M p n ∧ n ≤ 10 ^ 9 ∧ ∀ c M', 0 ≤ c → c < b → DigAt M' p (n + 1) → But p M M' → R c M'
theorem cut_call {p : Addr} {b : Int} {M : MS} {Q : DQ} {X : DXK} : F__law_cut [.raw (.ref p), .int b] M Q X = Cut p b M fun c M' => Q (.int c) M' := by
  refine propext ⟨?_, ?_⟩
  · rintro ⟨p', b', n, e, h⟩
    simp only [List.cons.injEq, D.raw.injEq, V.ref.injEq, D.int.injEq, and_true] at e
    obtain ⟨rfl, rfl⟩ := e
    exact ⟨n, h⟩
  · rintro ⟨n, h⟩
    exact ⟨p, b, n, rfl, h⟩
theorem Cut.of {p : Addr} {b n : Int} {M : MS} {R : Int → MS → Prop} (hd : DigAt M p n) (hn : n ≤ 10 ^ 9) (h0 : 0 < b) (h1 : b < 2 ^ 60) (h : ∀ c M', 0 ≤ c → c < b → DigAt M' p (n + 1) → But p M M' → R c M') : Cut p b M R := by
  refine ⟨n, h0, ?_, hd, hn, h⟩
  have : b.natAbs.log2 < 60 := log_small (k := 60) (by omega) (by decide)
  omega
/-! the law's wrap and words -/
def F__law_wrap : DSp := fun ds M Q X => ∃ ns w, ds = [dInts ns, .int w] ∧ ns.length ≤ 10000 ∧ Q (dInts (lawWrap ns w)) M
def N__law_wrap : List Str := ["words", "most", "found", "now", "word"]
def t__law_wrap (X' : DXK) : DTS := (dSeq (dParII (dLst (dfLst daNil)) (dC (.int 0)) 2 3)
    (dSeq (dFor (dItems (dVar 0)) (dgName 4) (dIfS (dAnd (dTest (dOp kGt (dVarB 3) (dC (.int 0)))) (dTest (dOp kLe (dOp kAdd (dOp kAdd (dVarB 3) (dC (.int 1))) (dVarB 4)) (dVarB 1)))) (dSet (dOp kAdd (dOp kAdd (dVarB 3) (dC (.int 1))) (dVarB 4)) 3) (dSeq (dSet (dOp kAdd (dVarB 2) (dOp kMul (dLst (dfLst (daCons (dVar 3) daNil))) (dCall kInt (daCons (dOp kGt (dVarB 3) (dC (.int 0))) daNil)))) 2)
    (dSet (dVar 4) 3))))
    (dRet (dOp kAdd (dVarB 2) (dLst (dfLst (daCons (dVar 3) daNil)))))))
theorem b2i_pos (x : Int) : (if decide (0 < x) = true then (1 : Int) else 0) = if 0 < x then 1 else 0 := by
  by_cases h : 0 < x <;> simp [h]
theorem lawGo_length (w : Int) : ∀ (r : List Int) (now : Int), (lawGo w now r).length ≤ r.length + 1
  | [], _ => Nat.le_refl _
  | x :: r, now => by
    unfold lawGo
    split
    · have := lawGo_length w r (now + 1 + x)
      rw [List.length_cons]; omega
    · have := lawGo_length w r x
      rw [List.length_append, List.length_cons]
      split <;> simp <;> omega
theorem pure__law_wrap : Keeps F__law_wrap t__law_wrap N__law_wrap := by
  rintro _ M Q X' ⟨ns, w, rfl, hl, q⟩
  show t__law_wrap X' _ [.im (dInts ns), .im (.int w), .no, .no, .no] M
  simp only [t__law_wrap, ↓dSeq, ↓dNext, ↓dIfS, ↓dRet, ↓dRetV, ↓dRetN, ↓dRetM, ↓dSet, ↓dAsg, ↓dOwn, ↓dOwnD, ↓dParOI, ↓dParII, ↓dAug, ↓dApp, ↓dPutL, ↓dPutS, ↓dPutM, ↓dUpd, ↓dfRg2, ↓kRepr, ↓kSortedD, ↓dDrop, ↓dNever, ↓dFrz, ↓frz, ↓dgName, ↓dgNil, ↓dgCons, ↓dgTup, ↓dVar, ↓dVarB, ↓dC, ↓dOp, ↓dOpF, ↓dUn, ↓dTest, ↓dChain, ↓dAnd, ↓dOr, ↓dNot, ↓dTru, ↓truD, ↓dAndV, ↓dOrV, ↓dNotV, ↓dIf, ↓daNil, ↓daCons, ↓dTup, ↓dfLst, ↓dLst, ↓dNoPart, ↓dPart, ↓dfSl, ↓dSlS, ↓dCall, ↓dfCall, ↓dFn, ↓dFnK, ↓dYes, ↓kAdd, ↓kSub, ↓kMul, ↓kDiv, ↓kMod, ↓kPow, ↓kCat, ↓kRep, ↓kNeg, ↓kLt, ↓kLe, ↓kGt, ↓kGe, ↓kIsN, ↓kNotN, ↓kIsB, ↓isNon, ↓kIx, ↓kLen, ↓kSum, ↓kAll, ↓kAny, ↓kMax, ↓kMin, ↓kAbs, ↓kInt, ↓kStr, ↓kList, ↓kSortedI, ↓kIsi, isD, kit_int_int, kit_bool_int, kit_int_bool, kit_bool_bool, List.getElem?_cons_zero, List.getElem?_cons_succ, List.set_cons_zero, List.set_cons_succ, List.nil_append, List.cons_append, List.append_nil, Option.some.injEq, exists_eq_left', exists_eq_left, exists_and_left, exists_eq_right, Bool.not_true, Bool.not_false, Bool.false_eq_true, if_true, if_false, and_true, true_and, D.int.injEq, D.lst.injEq, D.bl.injEq, D.str.injEq, D.raw.injEq, D.tup.injEq, ite_true, ite_false, reduceIte]
  refine ⟨Nat.zero_le _, for_inv (ds := ns.map .int) (fun R h => by simp only [dItems, ↓dSeq, ↓dNext, ↓dIfS, ↓dRet, ↓dRetV, ↓dRetN, ↓dRetM, ↓dSet, ↓dAsg, ↓dOwn, ↓dOwnD, ↓dParOI, ↓dParII, ↓dAug, ↓dApp, ↓dPutL, ↓dPutS, ↓dPutM, ↓dUpd, ↓dfRg2, ↓kRepr, ↓kSortedD, ↓dDrop, ↓dNever, ↓dFrz, ↓frz, ↓dgName, ↓dgNil, ↓dgCons, ↓dgTup, ↓dVar, ↓dVarB, ↓dC, ↓dOp, ↓dOpF, ↓dUn, ↓dTest, ↓dChain, ↓dAnd, ↓dOr, ↓dNot, ↓dTru, ↓truD, ↓dAndV, ↓dOrV, ↓dNotV, ↓dIf, ↓daNil, ↓daCons, ↓dTup, ↓dfLst, ↓dLst, ↓dNoPart, ↓dPart, ↓dfSl, ↓dSlS, ↓dCall, ↓dfCall, ↓dFn, ↓dFnK, ↓dYes, ↓kAdd, ↓kSub, ↓kMul, ↓kDiv, ↓kMod, ↓kPow, ↓kCat, ↓kRep, ↓kNeg, ↓kLt, ↓kLe, ↓kGt, ↓kGe, ↓kIsN, ↓kNotN, ↓kIsB, ↓isNon, ↓kIx, ↓kLen, ↓kSum, ↓kAll, ↓kAny, ↓kMax, ↓kMin, ↓kAbs, ↓kInt, ↓kStr, ↓kList, ↓kSortedI, ↓kIsi, isD, kit_int_int, kit_bool_int, kit_int_bool, kit_bool_bool, List.getElem?_cons_zero, List.getElem?_cons_succ, List.set_cons_zero, List.set_cons_succ, List.nil_append, List.cons_append, List.append_nil, Option.some.injEq, exists_eq_left', exists_eq_left, exists_and_left, exists_eq_right, Bool.not_true, Bool.not_false, Bool.false_eq_true, if_true, if_false, and_true, true_and, D.int.injEq, D.lst.injEq, D.bl.injEq, D.str.injEq, D.raw.injEq, D.tup.injEq, ite_true, ite_false, reduceIte]; exact h) (fun i δ M' => M' = M ∧ ∃ acc now z, δ = [.im (dInts ns), .im (.int w), .im (.lst (acc.map .int)), .im (.int now), z] ∧ acc ++ lawGo w now (ns.drop i) = lawWrap ns w ∧ acc.length ≤ i) ⟨rfl, [], 0, .no, rfl, by simp [lawWrap], Nat.zero_le _⟩ ?_ ?_⟩
  · rintro i d δ M' hd ⟨rfl, acc, now, z, rfl, ha, hi⟩
    obtain ⟨n, hn, rfl⟩ := map_get hd
    have hlt := (List.getElem?_eq_some_iff.mp hn).1
    have e : ns.drop i = n :: ns.drop (i + 1) := by
      obtain ⟨hlt, hget⟩ := List.getElem?_eq_some_iff.mp hn
      rw [List.drop_eq_getElem_cons hlt, hget]
    rw [e] at ha
    unfold lawGo at ha
    simp only [↓dSeq, ↓dNext, ↓dIfS, ↓dRet, ↓dRetV, ↓dRetN, ↓dRetM, ↓dSet, ↓dAsg, ↓dOwn, ↓dOwnD, ↓dParOI, ↓dParII, ↓dAug, ↓dApp, ↓dPutL, ↓dPutS, ↓dPutM, ↓dUpd, ↓dfRg2, ↓kRepr, ↓kSortedD, ↓dDrop, ↓dNever, ↓dFrz, ↓frz, ↓dgName, ↓dgNil, ↓dgCons, ↓dgTup, ↓dVar, ↓dVarB, ↓dC, ↓dOp, ↓dOpF, ↓dUn, ↓dTest, ↓dChain, ↓dAnd, ↓dOr, ↓dNot, ↓dTru, ↓truD, ↓dAndV, ↓dOrV, ↓dNotV, ↓dIf, ↓daNil, ↓daCons, ↓dTup, ↓dfLst, ↓dLst, ↓dNoPart, ↓dPart, ↓dfSl, ↓dSlS, ↓dCall, ↓dfCall, ↓dFn, ↓dFnK, ↓dYes, ↓kAdd, ↓kSub, ↓kMul, ↓kDiv, ↓kMod, ↓kPow, ↓kCat, ↓kRep, ↓kNeg, ↓kLt, ↓kLe, ↓kGt, ↓kGe, ↓kIsN, ↓kNotN, ↓kIsB, ↓isNon, ↓kIx, ↓kLen, ↓kSum, ↓kAll, ↓kAny, ↓kMax, ↓kMin, ↓kAbs, ↓kInt, ↓kStr, ↓kList, ↓kSortedI, ↓kIsi, isD, kit_int_int, kit_bool_int, kit_int_bool, kit_bool_bool, List.getElem?_cons_zero, List.getElem?_cons_succ, List.set_cons_zero, List.set_cons_succ, List.nil_append, List.cons_append, List.append_nil, Option.some.injEq, exists_eq_left', exists_eq_left, exists_and_left, exists_eq_right, Bool.not_true, Bool.not_false, Bool.false_eq_true, if_true, if_false, and_true, true_and, D.int.injEq, D.lst.injEq, D.bl.injEq, D.str.injEq, D.raw.injEq, D.tup.injEq, ite_true, ite_false, reduceIte]
    by_cases c : 0 < now
    · rw [if_pos (decide_eq_true c)]
      by_cases c2 : now + 1 + n ≤ w
      · rw [if_pos (decide_eq_true c2)]
        rw [if_pos ⟨c, c2⟩] at ha
        exact ⟨acc, now + 1 + n, _, rfl, ha, by omega⟩
      · rw [if_neg (by simpa using c2)]
        rw [if_neg (fun z => c2 z.2), if_pos c] at ha
        simp only [decide_eq_true c, if_true]
        refine ⟨one_small, by decide, by decide, size_small (by show 1 * 1 ≤ 100000; decide), ?_, acc ++ [now], n, .im (.int n), ?_, by rw [List.append_assoc]; exact ha, by rw [List.length_append]; exact Nat.succ_le_succ hi⟩
        · rw [List.length_map]
          exact size_small (by show acc.length + 1 ≤ 100000; omega)
        · rw [List.map_append]
          rfl
    · rw [if_neg (by simpa using c)]
      rw [if_neg (fun z => c z.1), if_neg c, List.nil_append] at ha
      simp only [decide_eq_false c, Bool.false_eq_true, if_false]
      refine ⟨one_small, by decide, by decide, size_small (by show 1 * 0 ≤ 100000; decide), ?_, acc, n, .im (.int n), ?_, ha, by omega⟩
      · rw [List.length_map]
        exact size_small (by show acc.length + 0 ≤ 100000; omega)
      · show [Slot.im (dInts ns), .im (.int w), .im (.lst (acc.map .int ++ [])), _, _] = _
        rw [List.append_nil]
  · rintro δ M' ⟨rfl, acc, now, z, rfl, ha, hi⟩
    simp only [↓dSeq, ↓dNext, ↓dIfS, ↓dRet, ↓dRetV, ↓dRetN, ↓dRetM, ↓dSet, ↓dAsg, ↓dOwn, ↓dOwnD, ↓dParOI, ↓dParII, ↓dAug, ↓dApp, ↓dPutL, ↓dPutS, ↓dPutM, ↓dUpd, ↓dfRg2, ↓kRepr, ↓kSortedD, ↓dDrop, ↓dNever, ↓dFrz, ↓frz, ↓dgName, ↓dgNil, ↓dgCons, ↓dgTup, ↓dVar, ↓dVarB, ↓dC, ↓dOp, ↓dOpF, ↓dUn, ↓dTest, ↓dChain, ↓dAnd, ↓dOr, ↓dNot, ↓dTru, ↓truD, ↓dAndV, ↓dOrV, ↓dNotV, ↓dIf, ↓daNil, ↓daCons, ↓dTup, ↓dfLst, ↓dLst, ↓dNoPart, ↓dPart, ↓dfSl, ↓dSlS, ↓dCall, ↓dfCall, ↓dFn, ↓dFnK, ↓dYes, ↓kAdd, ↓kSub, ↓kMul, ↓kDiv, ↓kMod, ↓kPow, ↓kCat, ↓kRep, ↓kNeg, ↓kLt, ↓kLe, ↓kGt, ↓kGe, ↓kIsN, ↓kNotN, ↓kIsB, ↓isNon, ↓kIx, ↓kLen, ↓kSum, ↓kAll, ↓kAny, ↓kMax, ↓kMin, ↓kAbs, ↓kInt, ↓kStr, ↓kList, ↓kSortedI, ↓kIsi, isD, kit_int_int, kit_bool_int, kit_int_bool, kit_bool_bool, List.getElem?_cons_zero, List.getElem?_cons_succ, List.set_cons_zero, List.set_cons_succ, List.nil_append, List.cons_append, List.append_nil, Option.some.injEq, exists_eq_left', exists_eq_left, exists_and_left, exists_eq_right, Bool.not_true, Bool.not_false, Bool.false_eq_true, if_true, if_false, and_true, true_and, D.int.injEq, D.lst.injEq, D.bl.injEq, D.str.injEq, D.raw.injEq, D.tup.injEq, ite_true, ite_false, reduceIte]
    rw [List.length_map] at ha hi
    rw [List.drop_length] at ha
    refine ⟨one_small, ?_, ?_⟩
    · rw [List.length_map]
      exact size_small (by show acc.length + 1 ≤ 100000; omega)
    · have e : acc.map D.int ++ [.int now] = (lawWrap ns w).map .int := by
        rw [← ha, List.map_append]
        rfl
      rw [e]
      exact q
/-- a text of so many characters -/
structure TextOf (ns : List Int) (size : Int) : Prop where
  ne : ns ≠ []
  pos : ∀ n ∈ ns, 1 ≤ n
  tot : totalOf ns = size
theorem TextOf.text {ns : List Int} {size : Int} (h : TextOf ns size) (hs : size ≤ 600) : IsText ns := ⟨h.ne, h.pos, by rw [h.tot]; exact hs⟩
theorem TextOf.len {ns : List Int} {size : Int} (h : TextOf ns size) : (ns.length : Int) ≤ size := by
  have h1 := sum_ge h.pos
  have h2 := List.length_pos_iff.mpr h.ne
  have h3 := h.tot
  unfold totalOf at h3
  omega
def F__law_words : DSp := fun ds M Q X => ∃ p size wide n, ds = [.raw (.ref p), .int size, .int wide] ∧ 1 ≤ size ∧ size ≤ 10000 ∧ 1 ≤ wide ∧ DigAt M p n ∧ n ≤ 10 ^ 8 ∧ ∀ ws M', TextOf ws size → (∀ x ∈ ws, x ≤ wide + 1) → DigAt M' p (n + size) → But p M M' → Q (dInts ws) M'
def N__law_words : List Str := ["digits", "size", "wide", "found", "left", "word"]
def t__law_words (X' : DXK) : DTS := (dSeq (dParOI (dfLst daNil) (dVar 1) 3 4)
    (dSeq (dWhile (dTest (dOp kGt (dVarB 4) (dC (.int 2)))) (dSeq (dSet (dOp kAdd (dC (.int 1)) (dFn F__law_cut [] X' (daCons (dVar 0) (daCons (dCall kMin (daCons (dVarB 4) (daCons (dVarB 2) daNil))) daNil)))) 5)
    (dSeq (dIfS (dTest (dOp kGt (dVarB 5) (dOp kSub (dVarB 4) (dC (.int 2))))) (dSet (dVar 4) 5) dNext)
    (dSeq (dApp 3 (dVar 5))
    (dSet (dOp kSub (dOp kSub (dVarB 4) (dVarB 5)) (dC (.int 1))) 4)))))
    (dRet (dOp kAdd (dVarB 3) (dOp kMul (dLst (dfLst (daCons (dVar 4) daNil))) (dCall kInt (daCons (dOp kGt (dVarB 4) (dC (.int 0))) daNil)))))))
theorem pure__law_words : Keeps F__law_words t__law_words N__law_words := by
  rintro _ M Q X' ⟨p, size, wide, n, rfl, h1, h2, h3, hd, hn, q⟩
  show t__law_words X' _ [.im (.raw (.ref p)), .im (.int size), .im (.int wide), .no, .no, .no] M
  simp only [t__law_words, ↓dSeq, ↓dNext, ↓dIfS, ↓dRet, ↓dRetV, ↓dRetN, ↓dRetM, ↓dSet, ↓dAsg, ↓dOwn, ↓dOwnD, ↓dParOI, ↓dParII, ↓dAug, ↓dApp, ↓dPutL, ↓dPutS, ↓dPutM, ↓dUpd, ↓dfRg2, ↓kRepr, ↓kSortedD, ↓dDrop, ↓dNever, ↓dFrz, ↓frz, ↓dgName, ↓dgNil, ↓dgCons, ↓dgTup, ↓dVar, ↓dVarB, ↓dC, ↓dOp, ↓dOpF, ↓dUn, ↓dTest, ↓dChain, ↓dAnd, ↓dOr, ↓dNot, ↓dTru, ↓truD, ↓dAndV, ↓dOrV, ↓dNotV, ↓dIf, ↓daNil, ↓daCons, ↓dTup, ↓dfLst, ↓dLst, ↓dNoPart, ↓dPart, ↓dfSl, ↓dSlS, ↓dCall, ↓dfCall, ↓dFn, ↓dFnK, ↓dYes, ↓kAdd, ↓kSub, ↓kMul, ↓kDiv, ↓kMod, ↓kPow, ↓kCat, ↓kRep, ↓kNeg, ↓kLt, ↓kLe, ↓kGt, ↓kGe, ↓kIsN, ↓kNotN, ↓kIsB, ↓isNon, ↓kIx, ↓kLen, ↓kSum, ↓kAll, ↓kAny, ↓kMax, ↓kMin, ↓kAbs, ↓kInt, ↓kStr, ↓kList, ↓kSortedI, ↓kIsi, isD, kit_int_int, kit_bool_int, kit_int_bool, kit_bool_bool, List.getElem?_cons_zero, List.getElem?_cons_succ, List.set_cons_zero, List.set_cons_succ, List.nil_append, List.cons_append, List.append_nil, Option.some.injEq, exists_eq_left', exists_eq_left, exists_and_left, exists_eq_right, Bool.not_true, Bool.not_false, Bool.false_eq_true, if_true, if_false, and_true, true_and, D.int.injEq, D.lst.injEq, D.bl.injEq, D.str.injEq, D.raw.injEq, D.tup.injEq, ite_true, ite_false, reduceIte]
  refine ⟨Nat.zero_le _, while_inv (fun m δ M' => But p M M' ∧ ∃ (acc : List Int) (left : Int) (z : Slot), δ = [.im (.raw (.ref p)), .im (.int size), .im (.int wide), .ow (acc.map .int), .im (.int left), z] ∧ (∀ x ∈ acc, 1 ≤ x ∧ x ≤ wide + 1) ∧ left = size - acc.sum - acc.length ∧ -1 ≤ left ∧ left ≠ 0 ∧ (left = -1 → acc ≠ []) ∧ DigAt M' p (n + acc.length) ∧ m = (left + 1).toNat) (size + 1).toNat ⟨But.refl _ _, [], size, .no, rfl, by simp, by simp, by omega, by omega, by omega, by simpa using hd, rfl⟩ ?_⟩
  rintro m δ M' ⟨hbut, acc, left, z, rfl, ha, hl, hl1, hl0, hne, hd', rfl⟩
  have hsum := sum_ge fun x hx => (ha x hx).1
  simp only [↓dSeq, ↓dNext, ↓dIfS, ↓dRet, ↓dRetV, ↓dRetN, ↓dRetM, ↓dSet, ↓dAsg, ↓dOwn, ↓dOwnD, ↓dParOI, ↓dParII, ↓dAug, ↓dApp, ↓dPutL, ↓dPutS, ↓dPutM, ↓dUpd, ↓dfRg2, ↓kRepr, ↓kSortedD, ↓dDrop, ↓dNever, ↓dFrz, ↓frz, ↓dgName, ↓dgNil, ↓dgCons, ↓dgTup, ↓dVar, ↓dVarB, ↓dC, ↓dOp, ↓dOpF, ↓dUn, ↓dTest, ↓dChain, ↓dAnd, ↓dOr, ↓dNot, ↓dTru, ↓truD, ↓dAndV, ↓dOrV, ↓dNotV, ↓dIf, ↓daNil, ↓daCons, ↓dTup, ↓dfLst, ↓dLst, ↓dNoPart, ↓dPart, ↓dfSl, ↓dSlS, ↓dCall, ↓dfCall, ↓dFn, ↓dFnK, ↓dYes, ↓kAdd, ↓kSub, ↓kMul, ↓kDiv, ↓kMod, ↓kPow, ↓kCat, ↓kRep, ↓kNeg, ↓kLt, ↓kLe, ↓kGt, ↓kGe, ↓kIsN, ↓kNotN, ↓kIsB, ↓isNon, ↓kIx, ↓kLen, ↓kSum, ↓kAll, ↓kAny, ↓kMax, ↓kMin, ↓kAbs, ↓kInt, ↓kStr, ↓kList, ↓kSortedI, ↓kIsi, isD, kit_int_int, kit_bool_int, kit_int_bool, kit_bool_bool, List.getElem?_cons_zero, List.getElem?_cons_succ, List.set_cons_zero, List.set_cons_succ, List.nil_append, List.cons_append, List.append_nil, Option.some.injEq, exists_eq_left', exists_eq_left, exists_and_left, exists_eq_right, Bool.not_true, Bool.not_false, Bool.false_eq_true, if_true, if_false, and_true, true_and, D.int.injEq, D.lst.injEq, D.bl.injEq, D.str.injEq, D.raw.injEq, D.tup.injEq, ite_true, ite_false, reduceIte]
  by_cases c : 2 < left
  · rw [if_pos (decide_eq_true c)]
    simp only [if_min]
    refine ⟨p, min left wide, n + acc.length, rfl, by omega, ?_, hd', by omega, fun cc M2 c0 c1 hd2 hb2 => ?_⟩
    · have : (min left wide).natAbs.log2 < 60 := log_small (k := 60) (by omega) (by decide)
      omega
    · simp only [↓dSeq, ↓dNext, ↓dIfS, ↓dRet, ↓dRetV, ↓dRetN, ↓dRetM, ↓dSet, ↓dAsg, ↓dOwn, ↓dOwnD, ↓dParOI, ↓dParII, ↓dAug, ↓dApp, ↓dPutL, ↓dPutS, ↓dPutM, ↓dUpd, ↓dfRg2, ↓kRepr, ↓kSortedD, ↓dDrop, ↓dNever, ↓dFrz, ↓frz, ↓dgName, ↓dgNil, ↓dgCons, ↓dgTup, ↓dVar, ↓dVarB, ↓dC, ↓dOp, ↓dOpF, ↓dUn, ↓dTest, ↓dChain, ↓dAnd, ↓dOr, ↓dNot, ↓dTru, ↓truD, ↓dAndV, ↓dOrV, ↓dNotV, ↓dIf, ↓daNil, ↓daCons, ↓dTup, ↓dfLst, ↓dLst, ↓dNoPart, ↓dPart, ↓dfSl, ↓dSlS, ↓dCall, ↓dfCall, ↓dFn, ↓dFnK, ↓dYes, ↓kAdd, ↓kSub, ↓kMul, ↓kDiv, ↓kMod, ↓kPow, ↓kCat, ↓kRep, ↓kNeg, ↓kLt, ↓kLe, ↓kGt, ↓kGe, ↓kIsN, ↓kNotN, ↓kIsB, ↓isNon, ↓kIx, ↓kLen, ↓kSum, ↓kAll, ↓kAny, ↓kMax, ↓kMin, ↓kAbs, ↓kInt, ↓kStr, ↓kList, ↓kSortedI, ↓kIsi, isD, kit_int_int, kit_bool_int, kit_int_bool, kit_bool_bool, List.getElem?_cons_zero, List.getElem?_cons_succ, List.set_cons_zero, List.set_cons_succ, List.nil_append, List.cons_append, List.append_nil, Option.some.injEq, exists_eq_left', exists_eq_left, exists_and_left, exists_eq_right, Bool.not_true, Bool.not_false, Bool.false_eq_true, if_true, if_false, and_true, true_and, D.int.injEq, D.lst.injEq, D.bl.injEq, D.str.injEq, D.raw.injEq, D.tup.injEq, ite_true, ite_false, reduceIte]
      have fin : ∀ word : Int, 1 ≤ word → word ≤ wide + 1 → (word = left ∨ word ≤ left - 2) → (acc.map D.int).length < sizeLine ∧ ∃ m', m' < (left + 1).toNat ∧ But p M M2 ∧ ∃ (acc' : List Int) (left' : Int) (z : Slot), ([.im (.raw (.ref p)), .im (.int size), .im (.int wide), .ow (acc.map .int ++ [.int word]), .im (.int (left - word - 1)), .im (.int word)] : List Slot) = [.im (.raw (.ref p)), .im (.int size), .im (.int wide), .ow (acc'.map .int), .im (.int left'), z] ∧ (∀ x ∈ acc', 1 ≤ x ∧ x ≤ wide + 1) ∧ left' = size - acc'.sum - acc'.length ∧ -1 ≤ left' ∧ left' ≠ 0 ∧ (left' = -1 → acc' ≠ []) ∧ DigAt M2 p (n + acc'.length) ∧ m' = (left' + 1).toNat := fun word w1 w3 w2 => by
        refine ⟨?_, (left - word - 1 + 1).toNat, by omega, hbut.trans hb2, acc ++ [word], left - word - 1, .im (.int word), ?_, ?_, ?_, by omega, by omega, by simp, ?_, rfl⟩
        · rw [List.length_map]
          exact size_lt (by omega)
        · rw [List.map_append]
          rfl
        · intro x hx
          rcases List.mem_append.mp hx with hx | hx
          · exact ha x hx
          · rw [List.mem_singleton] at hx; omega
        · rw [List.sum_append, List.length_append]
          simp
          omega
        · rw [List.length_append]
          have e : n + ((acc.length + [word].length : Nat) : Int) = n + acc.length + 1 := by simp; omega
          rw [e]
          exact hd2
      by_cases c2 : left - 2 < 1 + cc
      · rw [if_pos (decide_eq_true c2)]
        exact fin left (by omega) (by omega) (.inl rfl)
      · rw [if_neg (by simpa using c2)]
        exact fin (1 + cc) (by omega) (by omega) (.inr (by omega))
  · rw [if_neg (by simpa using c)]
    have hlen : (acc.length : Int) ≤ size := by omega
    by_cases c2 : 0 < left
    · simp only [decide_eq_true c2, if_true]
      refine ⟨one_small, by decide, by decide, size_small (by show 1 * 1 ≤ 100000; decide), ?_, ?_⟩
      · rw [List.length_map]
        exact size_small (by show acc.length + 1 ≤ 100000; omega)
      · have e : acc.map D.int ++ (List.replicate (Int.toNat 1) [D.int left]).flatten = (acc ++ [left]).map .int := by
          rw [List.map_append]
          rfl
        rw [e]
        have hall : ∀ x ∈ acc ++ [left], 1 ≤ x ∧ x ≤ wide + 1 := by
          intro x hx
          rcases List.mem_append.mp hx with hx | hx
          · exact ha x hx
          · rw [List.mem_singleton] at hx; omega
        refine q _ _ ⟨by simp, fun x hx => (hall x hx).1, ?_⟩ (fun x hx => (hall x hx).2) (hd'.mono (by omega)) hbut
        unfold totalOf
        rw [List.sum_append, List.length_append]
        simp
        omega
    · simp only [decide_eq_false c2, Bool.false_eq_true, if_false]
      refine ⟨one_small, by decide, by decide, size_small (by show 1 * 0 ≤ 100000; decide), ?_, ?_⟩
      · rw [List.length_map]
        exact size_small (by show acc.length + 0 ≤ 100000; omega)
      · have e : acc.map D.int ++ (List.replicate (Int.toNat 0) [D.int left]).flatten = acc.map .int := List.append_nil _
        rw [e]
        refine q _ _ ⟨hne (by omega), fun x hx => (ha x hx).1, ?_⟩ (fun x hx => (ha x hx).2) (hd'.mono (by omega)) hbut
        unfold totalOf
        omega
/-! _law_same, asked of equal data -/
theorem kit_list_tuple : kitB "list" "tuple" = some false := by decide +kernel
theorem kit_int_tuple : kitB "int" "tuple" = some false := by decide +kernel
theorem kit_bool_tuple : kitB "bool" "tuple" = some false := by decide +kernel
theorem kit_str_tuple : kitB "str" "tuple" = some false := by decide +kernel
theorem kit_none_tuple : kitB "NoneType" "tuple" = some false := by decide +kernel
theorem kit_int_str : kitB "int" "str" = some false := by decide +kernel
theorem kit_bool_str : kitB "bool" "str" = some false := by decide +kernel
theorem kit_str_str : kitB "str" "str" = some true := by decide +kernel
theorem kit_str_bool : kitB "str" "bool" = some false := by decide +kernel
def goodS : Nat → D → Bool
  | 0, _ => false
  | n + 1, .lst xs => xs.all (goodS n) && decide (xs.length ≤ 100000)
  | _ + 1, .non => true
  | _ + 1, .bl _ => true
  | _ + 1, .int _ => true
  | _ + 1, .str _ => true
  | _ + 1, _ => false
def F__law_same (n : Nat) : DSp := fun ds M Q X => ∃ x, ds = [x, x] ∧ goodS n x = true ∧ Q (.bl true) M
def N__law_same : List Str := ["found", "due", "one", "two"]
def t__law_same (R : DSp) (X' : DXK) : DTS := (dSeq (dIfS (dOr (dTru (dCall kIsi (daCons (dVarB 1) (daCons (dC (.raw (.ty "list"))) daNil)))) (dTru (dCall kIsi (daCons (dVarB 1) (daCons (dC (.raw (.ty "tuple"))) daNil))))) (dSeq (dIfS (dOr (dTest (dOp kNe (dCall kIsi (daCons (dVarB 0) (daCons (dC (.raw (.ty "list"))) daNil))) (dCall kIsi (daCons (dVarB 1) (daCons (dC (.raw (.ty "list"))) daNil))))) (dTest (dOp kNe (dCall kIsi (daCons (dVarB 0) (daCons (dC (.raw (.ty "tuple"))) daNil))) (dCall kIsi (daCons (dVarB 1) (daCons (dC (.raw (.ty "tuple"))) daNil)))))) (dRet (dC (.bl false))) dNext)
    (dRet (dAndV (dOp kEq (dCall kLen (daCons (dVarB 0) daNil)) (dCall kLen (daCons (dVarB 1) daNil))) (dCall kAll (daCons (dLst (dLc (dZip (daCons (dVar 0) (daCons (dVar 1) daNil))) (dgTup 2 (dgCons (dgName 2) (dgCons (dgName 3) dgNil))) dYes (dFn R [] X0 (daCons (dVar 2) (daCons (dVar 3) daNil))) [2, 3])) daNil))))) dNext)
    (dSeq (dIfS (dOr (dTest (dOp kIsN (dVarB 1) (dC .non))) (dTest (dOp kIsN (dVarB 0) (dC .non)))) (dRet (dAndV (dOp kIsN (dVarB 1) (dC .non)) (dOp kIsN (dVarB 0) (dC .non)))) dNext)
    (dSeq (dIfS (dOr (dTest (dOp kNe (dCall kIsi (daCons (dVarB 1) (daCons (dC (.raw (.ty "bool"))) daNil))) (dCall kIsi (daCons (dVarB 0) (daCons (dC (.raw (.ty "bool"))) daNil))))) (dTest (dOp kNe (dCall kIsi (daCons (dVarB 1) (daCons (dC (.raw (.ty "str"))) daNil))) (dCall kIsi (daCons (dVarB 0) (daCons (dC (.raw (.ty "str"))) daNil)))))) (dRet (dC (.bl false))) dNext)
    (dRet (dOp kEq (dVarB 0) (dVarB 1))))))
theorem none__law_same : ∀ ds M Q X', ¬ F__law_same 0 ds M Q X' := by
  rintro _ M Q X' ⟨x, _, h, _⟩
  cases h
theorem len__law_same : ∀ n ds M Q X', F__law_same n ds M Q X' → ds.length = 2 := by
  rintro n _ M Q X' ⟨x, rfl, _⟩
  rfl
theorem pure__law_same (n : Nat) : ∀ ds M Q X', F__law_same (n + 1) ds M Q X' → t__law_same (F__law_same n) X' { nx := fun _ M' => Q .non M', rt := Q } (startD N__law_same ds) M := by
  rintro _ M Q X' ⟨x, rfl, h, q⟩
  show t__law_same (F__law_same n) X' _ [.im x, .im x, .no, .no] M
  cases x with
  | lst xs =>
    simp only [goodS, Bool.and_eq_true, decide_eq_true_eq, List.all_eq_true] at h
    simp only [t__law_same, ↓dSeq, ↓dNext, ↓dIfS, ↓dRet, ↓dRetV, ↓dRetN, ↓dRetM, ↓dSet, ↓dAsg, ↓dOwn, ↓dOwnD, ↓dParOI, ↓dParII, ↓dAug, ↓dApp, ↓dPutL, ↓dPutS, ↓dPutM, ↓dUpd, ↓dfRg2, ↓kRepr, ↓kSortedD, ↓dDrop, ↓dNever, ↓dFrz, ↓frz, ↓dgName, ↓dgNil, ↓dgCons, ↓dgTup, ↓dVar, ↓dVarB, ↓dC, ↓dOp, ↓dOpF, ↓dUn, ↓dTest, ↓dChain, ↓dAnd, ↓dOr, ↓dNot, ↓dTru, ↓truD, ↓dAndV, ↓dOrV, ↓dNotV, ↓dIf, ↓daNil, ↓daCons, ↓dTup, ↓dfLst, ↓dLst, ↓dNoPart, ↓dPart, ↓dfSl, ↓dSlS, ↓dCall, ↓dfCall, ↓dFn, ↓dFnK, ↓dYes, ↓kAdd, ↓kSub, ↓kMul, ↓kDiv, ↓kMod, ↓kPow, ↓kCat, ↓kRep, ↓kNeg, ↓kLt, ↓kLe, ↓kGt, ↓kGe, ↓kIsN, ↓kNotN, ↓kIsB, ↓isNon, ↓kIx, ↓kLen, ↓kSum, ↓kAll, ↓kAny, ↓kMax, ↓kMin, ↓kAbs, ↓kInt, ↓kStr, ↓kList, ↓kSortedI, ↓kIsi, isD, kit_int_int, kit_bool_int, kit_int_bool, kit_bool_bool, List.getElem?_cons_zero, List.getElem?_cons_succ, List.set_cons_zero, List.set_cons_succ, List.nil_append, List.cons_append, List.append_nil, Option.some.injEq, exists_eq_left', exists_eq_left, exists_and_left, exists_eq_right, Bool.not_true, Bool.not_false, Bool.false_eq_true, if_true, if_false, and_true, true_and, D.int.injEq, D.lst.injEq, D.bl.injEq, D.str.injEq, D.raw.injEq, D.tup.injEq, ite_true, ite_false, reduceIte, kit_list_list]
    refine kNe_same ?_
    simp only [Bool.false_eq_true, if_false, kit_list_tuple, Option.some.injEq, exists_eq_left']
    refine kNe_same ?_
    simp only [Bool.false_eq_true, if_false]
    refine kEq_int ?_
    simp only [decide_true, if_true]
    refine lc_map (ds := xs.map fun x => D.tup [x, x]) (fun _ => .bl true) (fun R r => ?_) (by rw [List.length_map]; exact size_small h.2) (fun d hd Z z => ?_) ?_
    · simp only [dZip, ↓dSeq, ↓dNext, ↓dIfS, ↓dRet, ↓dRetV, ↓dRetN, ↓dRetM, ↓dSet, ↓dAsg, ↓dOwn, ↓dOwnD, ↓dParOI, ↓dParII, ↓dAug, ↓dApp, ↓dPutL, ↓dPutS, ↓dPutM, ↓dUpd, ↓dfRg2, ↓kRepr, ↓kSortedD, ↓dDrop, ↓dNever, ↓dFrz, ↓frz, ↓dgName, ↓dgNil, ↓dgCons, ↓dgTup, ↓dVar, ↓dVarB, ↓dC, ↓dOp, ↓dOpF, ↓dUn, ↓dTest, ↓dChain, ↓dAnd, ↓dOr, ↓dNot, ↓dTru, ↓truD, ↓dAndV, ↓dOrV, ↓dNotV, ↓dIf, ↓daNil, ↓daCons, ↓dTup, ↓dfLst, ↓dLst, ↓dNoPart, ↓dPart, ↓dfSl, ↓dSlS, ↓dCall, ↓dfCall, ↓dFn, ↓dFnK, ↓dYes, ↓kAdd, ↓kSub, ↓kMul, ↓kDiv, ↓kMod, ↓kPow, ↓kCat, ↓kRep, ↓kNeg, ↓kLt, ↓kLe, ↓kGt, ↓kGe, ↓kIsN, ↓kNotN, ↓kIsB, ↓isNon, ↓kIx, ↓kLen, ↓kSum, ↓kAll, ↓kAny, ↓kMax, ↓kMin, ↓kAbs, ↓kInt, ↓kStr, ↓kList, ↓kSortedI, ↓kIsi, isD, kit_int_int, kit_bool_int, kit_int_bool, kit_bool_bool, List.getElem?_cons_zero, List.getElem?_cons_succ, List.set_cons_zero, List.set_cons_succ, List.nil_append, List.cons_append, List.append_nil, Option.some.injEq, exists_eq_left', exists_eq_left, exists_and_left, exists_eq_right, Bool.not_true, Bool.not_false, Bool.false_eq_true, if_true, if_false, and_true, true_and, D.int.injEq, D.lst.injEq, D.bl.injEq, D.str.injEq, D.raw.injEq, D.tup.injEq, ite_true, ite_false, reduceIte]
      have e : zipD xs xs = xs.map fun x => D.tup [x, x] := by
        unfold zipD
        have ez : ∀ l : List D, l.zip l = l.map fun x => (x, x) := fun l => by
          induction l with
          | nil => rfl
          | cons a r ih => rw [List.zip_cons_cons, ih]; rfl
        rw [ez, List.map_map]
        rfl
      rw [e]
      exact r
    · obtain ⟨x, hx, rfl⟩ := List.mem_map.mp hd
      exact ⟨rfl, x, rfl, h.1 x hx, z⟩
    · rw [List.map_map]
      have e : ∀ l : List D, blsD (l.map ((fun _ => D.bl true) ∘ fun x => D.tup [x, x])) = some (l.map fun _ => true) := fun l => by
        induction l with
        | nil => rfl
        | cons a r ih => simp only [List.map_cons, Function.comp, blsD]; rw [ih]; rfl
      refine ⟨_, e xs, ?_⟩
      have e2 : (xs.map fun _ => true).all id = true := by simp
      rw [e2]
      exact q
  | int i =>
    simp only [t__law_same, ↓dSeq, ↓dNext, ↓dIfS, ↓dRet, ↓dRetV, ↓dRetN, ↓dRetM, ↓dSet, ↓dAsg, ↓dOwn, ↓dOwnD, ↓dParOI, ↓dParII, ↓dAug, ↓dApp, ↓dPutL, ↓dPutS, ↓dPutM, ↓dUpd, ↓dfRg2, ↓kRepr, ↓kSortedD, ↓dDrop, ↓dNever, ↓dFrz, ↓frz, ↓dgName, ↓dgNil, ↓dgCons, ↓dgTup, ↓dVar, ↓dVarB, ↓dC, ↓dOp, ↓dOpF, ↓dUn, ↓dTest, ↓dChain, ↓dAnd, ↓dOr, ↓dNot, ↓dTru, ↓truD, ↓dAndV, ↓dOrV, ↓dNotV, ↓dIf, ↓daNil, ↓daCons, ↓dTup, ↓dfLst, ↓dLst, ↓dNoPart, ↓dPart, ↓dfSl, ↓dSlS, ↓dCall, ↓dfCall, ↓dFn, ↓dFnK, ↓dYes, ↓kAdd, ↓kSub, ↓kMul, ↓kDiv, ↓kMod, ↓kPow, ↓kCat, ↓kRep, ↓kNeg, ↓kLt, ↓kLe, ↓kGt, ↓kGe, ↓kIsN, ↓kNotN, ↓kIsB, ↓isNon, ↓kIx, ↓kLen, ↓kSum, ↓kAll, ↓kAny, ↓kMax, ↓kMin, ↓kAbs, ↓kInt, ↓kStr, ↓kList, ↓kSortedI, ↓kIsi, isD, kit_int_int, kit_bool_int, kit_int_bool, kit_bool_bool, List.getElem?_cons_zero, List.getElem?_cons_succ, List.set_cons_zero, List.set_cons_succ, List.nil_append, List.cons_append, List.append_nil, Option.some.injEq, exists_eq_left', exists_eq_left, exists_and_left, exists_eq_right, Bool.not_true, Bool.not_false, Bool.false_eq_true, if_true, if_false, and_true, true_and, D.int.injEq, D.lst.injEq, D.bl.injEq, D.str.injEq, D.raw.injEq, D.tup.injEq, ite_true, ite_false, reduceIte, kit_int_list, kit_int_tuple]
    refine kNe_same ?_
    simp only [Bool.false_eq_true, if_false, kit_int_str, Option.some.injEq, exists_eq_left']
    refine kNe_same ?_
    simp only [Bool.false_eq_true, if_false]
    exact kEq_int (by simpa using q)
  | bl b =>
    simp only [t__law_same, ↓dSeq, ↓dNext, ↓dIfS, ↓dRet, ↓dRetV, ↓dRetN, ↓dRetM, ↓dSet, ↓dAsg, ↓dOwn, ↓dOwnD, ↓dParOI, ↓dParII, ↓dAug, ↓dApp, ↓dPutL, ↓dPutS, ↓dPutM, ↓dUpd, ↓dfRg2, ↓kRepr, ↓kSortedD, ↓dDrop, ↓dNever, ↓dFrz, ↓frz, ↓dgName, ↓dgNil, ↓dgCons, ↓dgTup, ↓dVar, ↓dVarB, ↓dC, ↓dOp, ↓dOpF, ↓dUn, ↓dTest, ↓dChain, ↓dAnd, ↓dOr, ↓dNot, ↓dTru, ↓truD, ↓dAndV, ↓dOrV, ↓dNotV, ↓dIf, ↓daNil, ↓daCons, ↓dTup, ↓dfLst, ↓dLst, ↓dNoPart, ↓dPart, ↓dfSl, ↓dSlS, ↓dCall, ↓dfCall, ↓dFn, ↓dFnK, ↓dYes, ↓kAdd, ↓kSub, ↓kMul, ↓kDiv, ↓kMod, ↓kPow, ↓kCat, ↓kRep, ↓kNeg, ↓kLt, ↓kLe, ↓kGt, ↓kGe, ↓kIsN, ↓kNotN, ↓kIsB, ↓isNon, ↓kIx, ↓kLen, ↓kSum, ↓kAll, ↓kAny, ↓kMax, ↓kMin, ↓kAbs, ↓kInt, ↓kStr, ↓kList, ↓kSortedI, ↓kIsi, isD, kit_int_int, kit_bool_int, kit_int_bool, kit_bool_bool, List.getElem?_cons_zero, List.getElem?_cons_succ, List.set_cons_zero, List.set_cons_succ, List.nil_append, List.cons_append, List.append_nil, Option.some.injEq, exists_eq_left', exists_eq_left, exists_and_left, exists_eq_right, Bool.not_true, Bool.not_false, Bool.false_eq_true, if_true, if_false, and_true, true_and, D.int.injEq, D.lst.injEq, D.bl.injEq, D.str.injEq, D.raw.injEq, D.tup.injEq, ite_true, ite_false, reduceIte, kit_bool_list, kit_bool_tuple]
    refine kNe_same ?_
    simp only [Bool.false_eq_true, if_false, kit_bool_str, Option.some.injEq, exists_eq_left']
    refine kNe_same ?_
    simp only [Bool.false_eq_true, if_false]
    exact kEq_bl (by simpa using q)
  | non =>
    simp only [t__law_same, ↓dSeq, ↓dNext, ↓dIfS, ↓dRet, ↓dRetV, ↓dRetN, ↓dRetM, ↓dSet, ↓dAsg, ↓dOwn, ↓dOwnD, ↓dParOI, ↓dParII, ↓dAug, ↓dApp, ↓dPutL, ↓dPutS, ↓dPutM, ↓dUpd, ↓dfRg2, ↓kRepr, ↓kSortedD, ↓dDrop, ↓dNever, ↓dFrz, ↓frz, ↓dgName, ↓dgNil, ↓dgCons, ↓dgTup, ↓dVar, ↓dVarB, ↓dC, ↓dOp, ↓dOpF, ↓dUn, ↓dTest, ↓dChain, ↓dAnd, ↓dOr, ↓dNot, ↓dTru, ↓truD, ↓dAndV, ↓dOrV, ↓dNotV, ↓dIf, ↓daNil, ↓daCons, ↓dTup, ↓dfLst, ↓dLst, ↓dNoPart, ↓dPart, ↓dfSl, ↓dSlS, ↓dCall, ↓dfCall, ↓dFn, ↓dFnK, ↓dYes, ↓kAdd, ↓kSub, ↓kMul, ↓kDiv, ↓kMod, ↓kPow, ↓kCat, ↓kRep, ↓kNeg, ↓kLt, ↓kLe, ↓kGt, ↓kGe, ↓kIsN, ↓kNotN, ↓kIsB, ↓isNon, ↓kIx, ↓kLen, ↓kSum, ↓kAll, ↓kAny, ↓kMax, ↓kMin, ↓kAbs, ↓kInt, ↓kStr, ↓kList, ↓kSortedI, ↓kIsi, isD, kit_int_int, kit_bool_int, kit_int_bool, kit_bool_bool, List.getElem?_cons_zero, List.getElem?_cons_succ, List.set_cons_zero, List.set_cons_succ, List.nil_append, List.cons_append, List.append_nil, Option.some.injEq, exists_eq_left', exists_eq_left, exists_and_left, exists_eq_right, Bool.not_true, Bool.not_false, Bool.false_eq_true, if_true, if_false, and_true, true_and, D.int.injEq, D.lst.injEq, D.bl.injEq, D.str.injEq, D.raw.injEq, D.tup.injEq, ite_true, ite_false, reduceIte, kit_none_list, kit_none_tuple]
    exact q
  | str z =>
    simp only [t__law_same, ↓dSeq, ↓dNext, ↓dIfS, ↓dRet, ↓dRetV, ↓dRetN, ↓dRetM, ↓dSet, ↓dAsg, ↓dOwn, ↓dOwnD, ↓dParOI, ↓dParII, ↓dAug, ↓dApp, ↓dPutL, ↓dPutS, ↓dPutM, ↓dUpd, ↓dfRg2, ↓kRepr, ↓kSortedD, ↓dDrop, ↓dNever, ↓dFrz, ↓frz, ↓dgName, ↓dgNil, ↓dgCons, ↓dgTup, ↓dVar, ↓dVarB, ↓dC, ↓dOp, ↓dOpF, ↓dUn, ↓dTest, ↓dChain, ↓dAnd, ↓dOr, ↓dNot, ↓dTru, ↓truD, ↓dAndV, ↓dOrV, ↓dNotV, ↓dIf, ↓daNil, ↓daCons, ↓dTup, ↓dfLst, ↓dLst, ↓dNoPart, ↓dPart, ↓dfSl, ↓dSlS, ↓dCall, ↓dfCall, ↓dFn, ↓dFnK, ↓dYes, ↓kAdd, ↓kSub, ↓kMul, ↓kDiv, ↓kMod, ↓kPow, ↓kCat, ↓kRep, ↓kNeg, ↓kLt, ↓kLe, ↓kGt, ↓kGe, ↓kIsN, ↓kNotN, ↓kIsB, ↓isNon, ↓kIx, ↓kLen, ↓kSum, ↓kAll, ↓kAny, ↓kMax, ↓kMin, ↓kAbs, ↓kInt, ↓kStr, ↓kList, ↓kSortedI, ↓kIsi, isD, kit_int_int, kit_bool_int, kit_int_bool, kit_bool_bool, List.getElem?_cons_zero, List.getElem?_cons_succ, List.set_cons_zero, List.set_cons_succ, List.nil_append, List.cons_append, List.append_nil, Option.some.injEq, exists_eq_left', exists_eq_left, exists_and_left, exists_eq_right, Bool.not_true, Bool.not_false, Bool.false_eq_true, if_true, if_false, and_true, true_and, D.int.injEq, D.lst.injEq, D.bl.injEq, D.str.injEq, D.raw.injEq, D.tup.injEq, ite_true, ite_false, reduceIte, kit_str_list, kit_str_tuple, kit_str_bool]
    refine kNe_same ?_
    simp only [Bool.false_eq_true, if_false, kit_str_str, Option.some.injEq, exists_eq_left']
    refine kNe_same ?_
    simp only [Bool.false_eq_true, if_false]
    exact kEq_strs q
  | _ => cases h
def F__law_changed : DSp := fun ds M Q X => ∃ p ws size n, ds = [.raw (.ref p), dInts ws] ∧ TextOf ws size ∧ size ≤ 10000 ∧ DigAt M p n ∧ n ≤ 10 ^ 8 ∧ ∀ vs M' size', size' = size ∨ size' = size + 1 → TextOf vs size' → DigAt M' p (n + 20) → But p M M' → Q (dInts vs) M'
def N__law_changed : List Str := ["digits", "words", "found", "turn", "at", "by"]
def t__law_changed (X' : DXK) : DTS := (dSeq (dOwn (dfCall kList (daCons (dVarB 1) daNil)) 2)
    (dSeq (dFor (dRange1 (daCons (dOp kAdd (dC (.int 1)) (dFn F__law_cut [] X' (daCons (dVar 0) (daCons (dC (.int 3)) daNil)))) daNil)) (dgName 3) (dSeq (dSet (dFn F__law_cut [] X' (daCons (dVar 0) (daCons (dCall kLen (daCons (dVarB 2) daNil)) daNil))) 4)
    (dIfS (dAnd (dTest (dOp kEq (dFn F__law_cut [] X' (daCons (dVar 0) (daCons (dC (.int 2)) daNil))) (dC (.int 0)))) (dTest (dOp kLt (dOp kAdd (dVarB 4) (dC (.int 1))) (dCall kLen (daCons (dVarB 2) daNil))))) (dPutS 2 (dPart (dVar 4)) (dPart (dOp kAdd (dVarB 4) (dC (.int 2)))) (dfLst (daCons (dOp kAdd (dOp kAdd (dOp kIx (dVarB 2) (dVarB 4)) (dC (.int 1))) (dOp kIx (dVarB 2) (dOp kAdd (dVarB 4) (dC (.int 1))))) daNil))) (dIfS (dTest (dOp kGt (dOp kIx (dVarB 2) (dVarB 4)) (dC (.int 2)))) (dSeq (dSet (dOp kAdd (dC (.int 1)) (dFn F__law_cut [] X' (daCons (dVar 0) (daCons (dOp kSub (dOp kIx (dVarB 2) (dVarB 4)) (dC (.int 2))) daNil)))) 5)
    (dPutS 2 (dPart (dVar 4)) (dPart (dOp kAdd (dVarB 4) (dC (.int 1)))) (dfLst (daCons (dVar 5) (daCons (dOp kSub (dOp kSub (dOp kIx (dVarB 2) (dVarB 4)) (dVarB 5)) (dC (.int 1))) daNil))))) dNext))))
    (dSeq (dIfS (dTest (dOp kEq (dFn F__law_cut [] X' (daCons (dVar 0) (daCons (dC (.int 8)) daNil))) (dC (.int 0)))) (dPutL 2 (dUn kNeg (dC (.int 1))) (dOp kAdd (dOp kIx (dVarB 2) (dUn kNeg (dC (.int 1)))) (dC (.int 1)))) dNext)
    (dRetV 2))))
theorem atI_int {vs : List Int} {i : Int} {a : Int} (h0 : 0 ≤ i) (h : vs[i.toNat]? = some a) : atI (vs.map D.int) i = some (.int a) := by
  have hlt := (List.getElem?_eq_some_iff.mp h).1
  unfold atI ixN
  rw [List.length_map]
  simp only [h0, show i < (vs.length : Int) by omega, if_true, and_self]
  show (vs.map D.int)[i.toNat]? = some (.int a)
  rw [List.getElem?_map, h]
  rfl
theorem cut_at {vs : List Int} {k : Nat} {a : Int} (h : vs[k]? = some a) : vs = vs.take k ++ a :: vs.drop (k + 1) := by
  obtain ⟨hlt, hget⟩ := List.getElem?_eq_some_iff.mp h
  rw [← hget, ← List.drop_eq_getElem_cons hlt, List.take_append_drop]
theorem atI_last {vs : List Int} (h : vs ≠ []) : ∃ v, vs = vs.take (vs.length - 1) ++ [v] ∧ atI vs (-1) = some v ∧ ixN vs.length (-1) = some (vs.length - 1) := by
  have hl := List.length_pos_iff.mpr h
  have hlt : vs.length - 1 < vs.length := by omega
  have hix : ixN vs.length (-1) = some (vs.length - 1) := by
    unfold ixN
    rw [if_neg (by omega), if_pos (by omega)]
    congr 1
    omega
  refine ⟨vs[vs.length - 1], ?_, ?_, hix⟩
  · have e := cut_at (List.getElem?_eq_getElem hlt)
    rw [List.drop_eq_nil_of_le (show vs.length ≤ vs.length - 1 + 1 by omega)] at e
    exact e
  · unfold atI
    rw [hix]
    exact List.getElem?_eq_getElem hlt
theorem text_put {vs : List Int} {size : Int} {l r old new : List Int} (e : vs = l ++ old ++ r) (h : TextOf vs size) (hn : new ≠ []) (hp : ∀ x ∈ new, 1 ≤ x) (d : Int) (hs : new.sum + new.length = old.sum + old.length + d) : TextOf (l ++ new ++ r) (size + d) := by
  refine ⟨by simp [hn], fun x hx => ?_, ?_⟩
  · simp only [List.mem_append] at hx
    rcases hx with (hx | hx) | hx
    · exact h.pos x (by rw [e]; simp [hx])
    · exact hp x hx
    · exact h.pos x (by rw [e]; simp [hx])
  · have ht := h.tot
    rw [e] at ht
    unfold totalOf at ht ⊢
    simp only [List.sum_append, List.length_append] at ht ⊢
    omega
def ForI (g : DTG) (b : DTS) (E : DEnds) (δ : List Slot) (M : MS) (ds : List D) : Prop := ∃ P : Nat → List Slot → MS → Prop, P 0 δ M ∧ (∀ (i : Nat) (d : D) δ M, ds[i]? = some d → P i δ M → g d δ M fun δ1 M2 => b { E with nx := P (i + 1), ct := P (i + 1), bk := E.nx } δ1 M2) ∧ ∀ δ M, P ds.length δ M → E.nx δ M
theorem for_inv2 {wi : DTI} {g : DTG} {b : DTS} {E : DEnds} {δ : List Slot} {M : MS} (h : wi δ M fun ds M1 => ForI g b E δ M1 ds) : dFor wi g b E δ M := h
theorem pure__law_changed : Keeps F__law_changed t__law_changed N__law_changed := by
  rintro _ M Q X' ⟨p, ws, size, n, rfl, ht, hs, hd, hn, q⟩
  show t__law_changed X' _ [.im (.raw (.ref p)), .im (dInts ws), .no, .no, .no, .no] M
  simp only [↓t__law_changed, ↓dSeq, ↓dNext, ↓dIfS, ↓dRet, ↓dRetV, ↓dRetN, ↓dRetM, ↓dSet, ↓dAsg, ↓dOwn, ↓dOwnD, ↓dParOI, ↓dParII, ↓dAug, ↓dApp, ↓dPutL, ↓dPutS, ↓dPutM, ↓dUpd, ↓dfRg2, ↓kRepr, ↓kSortedD, ↓dDrop, ↓dNever, ↓dFrz, ↓frz, ↓dgName, ↓dgNil, ↓dgCons, ↓dgTup, ↓dVar, ↓dVarB, ↓dC, ↓dOp, ↓dOpF, ↓dUn, ↓dTest, ↓dChain, ↓dAnd, ↓dOr, ↓dNot, ↓dTru, ↓truD, ↓dAndV, ↓dOrV, ↓dNotV, ↓dIf, ↓daNil, ↓daCons, ↓dTup, ↓dfLst, ↓dLst, ↓dNoPart, ↓dPart, ↓dfSl, ↓dSlS, ↓dCall, ↓dfCall, ↓dFn, ↓dFnK, ↓dYes, ↓kAdd, ↓kSub, ↓kMul, ↓kDiv, ↓kMod, ↓kPow, ↓kCat, ↓kRep, ↓kNeg, ↓kLt, ↓kLe, ↓kGt, ↓kGe, ↓kIsN, ↓kNotN, ↓kIsB, ↓isNon, ↓kIx, ↓kLen, ↓kSum, ↓kAll, ↓kAny, ↓kMax, ↓kMin, ↓kAbs, ↓kInt, ↓kStr, ↓kList, ↓kSortedI, ↓kIsi, isD, kit_int_int, kit_bool_int, kit_int_bool, kit_bool_bool, List.getElem?_cons_zero, List.getElem?_cons_succ, List.set_cons_zero, List.set_cons_succ, List.nil_append, List.cons_append, List.append_nil, Option.some.injEq, exists_eq_left', exists_eq_left, exists_and_left, exists_eq_right, Bool.not_true, Bool.not_false, Bool.false_eq_true, if_true, if_false, and_true, true_and, D.int.injEq, D.lst.injEq, D.bl.injEq, D.str.injEq, D.raw.injEq, D.tup.injEq, ite_true, ite_false, reduceIte]
  refine for_inv2 ?_
  simp only [↓dRange1, ↓cut_call, ↓dSeq, ↓dNext, ↓dIfS, ↓dRet, ↓dRetV, ↓dRetN, ↓dRetM, ↓dSet, ↓dAsg, ↓dOwn, ↓dOwnD, ↓dParOI, ↓dParII, ↓dAug, ↓dApp, ↓dPutL, ↓dPutS, ↓dPutM, ↓dUpd, ↓dfRg2, ↓kRepr, ↓kSortedD, ↓dDrop, ↓dNever, ↓dFrz, ↓frz, ↓dgName, ↓dgNil, ↓dgCons, ↓dgTup, ↓dVar, ↓dVarB, ↓dC, ↓dOp, ↓dOpF, ↓dUn, ↓dTest, ↓dChain, ↓dAnd, ↓dOr, ↓dNot, ↓dTru, ↓truD, ↓dAndV, ↓dOrV, ↓dNotV, ↓dIf, ↓daNil, ↓daCons, ↓dTup, ↓dfLst, ↓dLst, ↓dNoPart, ↓dPart, ↓dfSl, ↓dSlS, ↓dCall, ↓dfCall, ↓dFn, ↓dFnK, ↓dYes, ↓kAdd, ↓kSub, ↓kMul, ↓kDiv, ↓kMod, ↓kPow, ↓kCat, ↓kRep, ↓kNeg, ↓kLt, ↓kLe, ↓kGt, ↓kGe, ↓kIsN, ↓kNotN, ↓kIsB, ↓isNon, ↓kIx, ↓kLen, ↓kSum, ↓kAll, ↓kAny, ↓kMax, ↓kMin, ↓kAbs, ↓kInt, ↓kStr, ↓kList, ↓kSortedI, ↓kIsi, isD, kit_int_int, kit_bool_int, kit_int_bool, kit_bool_bool, List.getElem?_cons_zero, List.getElem?_cons_succ, List.set_cons_zero, List.set_cons_succ, List.nil_append, List.cons_append, List.append_nil, Option.some.injEq, exists_eq_left', exists_eq_left, exists_and_left, exists_eq_right, Bool.not_true, Bool.not_false, Bool.false_eq_true, if_true, if_false, and_true, true_and, D.int.injEq, D.lst.injEq, D.bl.injEq, D.str.injEq, D.raw.injEq, D.tup.injEq, ite_true, ite_false, reduceIte]
  refine Cut.of hd (by omega) (by decide) (by decide) fun c M1 c0 c1 hd1 hb1 => ⟨by omega, by omega, ?_⟩
  refine ⟨fun i δ M' => But p M M' ∧ DigAt M' p (n + 1 + 3 * i) ∧ ∃ (vs : List Int) (x y z : Slot), δ = [.im (.raw (.ref p)), .im (dInts ws), .ow (vs.map .int), x, y, z] ∧ TextOf vs size, ⟨hb1, by simpa using hd1, ws, .no, .no, .no, rfl, ht⟩, ?_, ?_⟩
  · rintro i d δ M' hi ⟨hb2, hd2, vs, x, y, z, rfl, hv⟩
    obtain ⟨rfl, hlt⟩ := rangeD_get hi
    have hvl := hv.len
    have hvp := List.length_pos_iff.mpr hv.ne
    simp only [↓dSeq, ↓dNext, ↓dIfS, ↓dRet, ↓dRetV, ↓dRetN, ↓dRetM, ↓dSet, ↓dAsg, ↓dOwn, ↓dOwnD, ↓dParOI, ↓dParII, ↓dAug, ↓dApp, ↓dPutL, ↓dPutS, ↓dPutM, ↓dUpd, ↓dfRg2, ↓kRepr, ↓kSortedD, ↓dDrop, ↓dNever, ↓dFrz, ↓frz, ↓dgName, ↓dgNil, ↓dgCons, ↓dgTup, ↓dVar, ↓dVarB, ↓dC, ↓dOp, ↓dOpF, ↓dUn, ↓dTest, ↓dChain, ↓dAnd, ↓dOr, ↓dNot, ↓dTru, ↓truD, ↓dAndV, ↓dOrV, ↓dNotV, ↓dIf, ↓daNil, ↓daCons, ↓dTup, ↓dfLst, ↓dLst, ↓dNoPart, ↓dPart, ↓dfSl, ↓dSlS, ↓dCall, ↓dfCall, ↓dFn, ↓dFnK, ↓dYes, ↓kAdd, ↓kSub, ↓kMul, ↓kDiv, ↓kMod, ↓kPow, ↓kCat, ↓kRep, ↓kNeg, ↓kLt, ↓kLe, ↓kGt, ↓kGe, ↓kIsN, ↓kNotN, ↓kIsB, ↓isNon, ↓kLen, ↓kAll, ↓kAny, ↓kMax, ↓kMin, ↓kAbs, ↓kInt, ↓kStr, ↓kList, ↓kSortedI, ↓kIsi, isD, kit_int_int, kit_bool_int, kit_int_bool, kit_bool_bool, List.getElem?_cons_zero, List.getElem?_cons_succ, List.set_cons_zero, List.set_cons_succ, List.nil_append, List.cons_append, List.append_nil, Option.some.injEq, exists_eq_left', exists_eq_left, exists_and_left, exists_eq_right, Bool.not_true, Bool.not_false, Bool.false_eq_true, if_true, if_false, and_true, true_and, D.int.injEq, D.lst.injEq, D.bl.injEq, D.str.injEq, D.raw.injEq, D.tup.injEq, ite_true, ite_false, reduceIte, ↓ix_ints, ↓eq_int, ↓ne_int, ↓eq_bl, ↓ne_bl, ↓eq_ints, ↓ne_ints, ↓sum_ints, ↓cut_call, List.length_map]
    refine Cut.of hd2 (by omega) (by omega) (by omega) fun at_ M2 a0 a1 hd3 hb3 => ?_
    refine Cut.of hd3 (by omega) (by decide) (by decide) fun c2 M3 d0 d1 hd4 hb4 => ?_
    obtain ⟨a, ha, ha'⟩ := atI_get a0 a1
    have hap := hv.pos a (atI_mem ha)
    have hcut := cut_at ha'
    have hb5 := (hb2.trans hb3).trans hb4
    have split : ∃ n_1, atI vs at_ = some n_1 ∧ if decide (2 < n_1) = true then ∃ n_2, atI vs at_ = some n_2 ∧ Cut p (n_2 - 2) M3 fun c_2 M' => ∃ n_3, atI vs at_ = some n_3 ∧
        [D.int (1 + c_2), D.int (n_3 - (1 + c_2) - 1)].length ≤ sizeLine ∧ 0 ≤ at_ ∧ at_ ≤ at_ + 1 ∧ at_ + 1 ≤ (vs.length : Int) ∧ vs.length + [D.int (1 + c_2), D.int (n_3 - (1 + c_2) - 1)].length ≤ sizeLine ∧
        But p M M' ∧ DigAt M' p (n + 1 + 3 * ((i + 1 : Nat) : Int)) ∧ ∃ (vs_1 : List Int) (x y z' : Slot), ([.im (.raw (.ref p)), .im (dInts ws), .ow (List.take at_.toNat (vs.map .int) ++ [D.int (1 + c_2), D.int (n_3 - (1 + c_2) - 1)] ++ List.drop (at_ + 1).toNat (vs.map .int)), .im (.int (0 + i)), .im (.int at_), .im (.int (1 + c_2))] : List Slot) = [.im (.raw (.ref p)), .im (dInts ws), .ow (vs_1.map .int), x, y, z'] ∧ TextOf vs_1 size
        else But p M M3 ∧ DigAt M3 p (n + 1 + 3 * ((i + 1 : Nat) : Int)) ∧ ∃ (vs_1 : List Int) (x y z' : Slot), ([.im (.raw (.ref p)), .im (dInts ws), .ow (vs.map .int), .im (.int (0 + i)), .im (.int at_), z] : List Slot) = [.im (.raw (.ref p)), .im (dInts ws), .ow (vs_1.map .int), x, y, z'] ∧ TextOf vs_1 size := by
      refine ⟨a, ha, ?_⟩
      by_cases c2 : 2 < a
      · rw [if_pos (decide_eq_true c2)]
        have hal : a ≤ 10000 := by
          have := small_sum hv.pos (atI_mem ha)
          have := hv.tot
          unfold totalOf at this
          omega
        refine ⟨a, ha, Cut.of hd4 (by omega) (by omega) (by omega) fun by_ M4 b0 b1 hd5 hb6 => ⟨a, ha, size_small (show 2 ≤ 100000 by decide), a0, by omega, by omega, size_small (show vs.length + 2 ≤ 100000 by omega), hb5.trans hb6, hd5.mono (by omega), vs.take at_.toNat ++ [1 + by_, a - (1 + by_) - 1] ++ vs.drop (at_.toNat + 1), .im (.int (0 + i)), .im (.int at_), .im (.int (1 + by_)), ?_, ?_⟩⟩
        · rw [List.map_append, List.map_append, List.map_take, List.map_drop, show (at_ + 1).toNat = at_.toNat + 1 by omega]
          rfl
        · have := text_put (l := vs.take at_.toNat) (old := [a]) (r := vs.drop (at_.toNat + 1)) (new := [1 + by_, a - (1 + by_) - 1]) (by rw [List.append_assoc]; exact hcut) hv (by simp) (by intro x hx; simp at hx; omega) 0 (by simp; omega)
          simpa using this
      · rw [if_neg (by simpa using c2)]
        exact ⟨hb5, hd4.mono (by omega), vs, .im (.int (0 + i)), .im (.int at_), z, rfl, hv⟩
    by_cases c3 : c2 = 0
    · rw [if_pos (decide_eq_true c3)]
      by_cases c4 : at_ + 1 < (vs.length : Int)
      · rw [if_pos (decide_eq_true c4)]
        obtain ⟨b, hb, hb'⟩ := atI_get (l := vs) (i := at_ + 1) (by omega) c4
        have hbp := hv.pos b (atI_mem hb)
        refine ⟨a, ha, b, hb, one_small, a0, by omega, by omega, size_small (show vs.length + 1 ≤ 100000 by omega), hb5, hd4.mono (by omega), vs.take at_.toNat ++ [a + 1 + b] ++ vs.drop (at_.toNat + 2), .im (.int (0 + i)), .im (.int at_), z, ?_, ?_⟩
        · rw [List.map_append, List.map_append, List.map_take, List.map_drop, show (at_ + 2).toNat = at_.toNat + 2 by omega]
          rfl
        · have e : vs.drop (at_.toNat + 1) = b :: vs.drop (at_.toNat + 2) := by
            rw [show (at_ + 1).toNat = at_.toNat + 1 by omega] at hb'
            obtain ⟨hlt, hget⟩ := List.getElem?_eq_some_iff.mp hb'
            rw [List.drop_eq_getElem_cons hlt, hget]
          have := text_put (l := vs.take at_.toNat) (old := [a, b]) (r := vs.drop (at_.toNat + 2)) (new := [a + 1 + b]) (by rw [e] at hcut; rw [List.append_assoc]; exact hcut) hv (by simp) (by intro x hx; simp at hx; omega) 0 (by simp; omega)
          simpa using this
      · rw [if_neg (by simpa using c4)]
        exact split
    · rw [if_neg (by simpa using c3)]
      exact split
  · rintro δ M' ⟨hb2, hd2, vs, x, y, z, rfl, hv⟩
    rw [rangeD_length] at hd2
    have hvl := hv.len
    have hvp := List.length_pos_iff.mpr hv.ne
    simp only [↓dSeq, ↓dNext, ↓dIfS, ↓dRet, ↓dRetV, ↓dRetN, ↓dRetM, ↓dSet, ↓dAsg, ↓dOwn, ↓dOwnD, ↓dParOI, ↓dParII, ↓dAug, ↓dApp, ↓dPutL, ↓dPutS, ↓dPutM, ↓dUpd, ↓dfRg2, ↓kRepr, ↓kSortedD, ↓dDrop, ↓dNever, ↓dFrz, ↓frz, ↓dgName, ↓dgNil, ↓dgCons, ↓dgTup, ↓dVar, ↓dVarB, ↓dC, ↓dOp, ↓dOpF, ↓dUn, ↓dTest, ↓dChain, ↓dAnd, ↓dOr, ↓dNot, ↓dTru, ↓truD, ↓dAndV, ↓dOrV, ↓dNotV, ↓dIf, ↓daNil, ↓daCons, ↓dTup, ↓dfLst, ↓dLst, ↓dNoPart, ↓dPart, ↓dfSl, ↓dSlS, ↓dCall, ↓dfCall, ↓dFn, ↓dFnK, ↓dYes, ↓kAdd, ↓kSub, ↓kMul, ↓kDiv, ↓kMod, ↓kPow, ↓kCat, ↓kRep, ↓kNeg, ↓kLt, ↓kLe, ↓kGt, ↓kGe, ↓kIsN, ↓kNotN, ↓kIsB, ↓isNon, ↓kLen, ↓kAll, ↓kAny, ↓kMax, ↓kMin, ↓kAbs, ↓kInt, ↓kStr, ↓kList, ↓kSortedI, ↓kIsi, isD, kit_int_int, kit_bool_int, kit_int_bool, kit_bool_bool, List.getElem?_cons_zero, List.getElem?_cons_succ, List.set_cons_zero, List.set_cons_succ, List.nil_append, List.cons_append, List.append_nil, Option.some.injEq, exists_eq_left', exists_eq_left, exists_and_left, exists_eq_right, Bool.not_true, Bool.not_false, Bool.false_eq_true, if_true, if_false, and_true, true_and, D.int.injEq, D.lst.injEq, D.bl.injEq, D.str.injEq, D.raw.injEq, D.tup.injEq, ite_true, ite_false, reduceIte, ↓ix_ints, ↓eq_int, ↓ne_int, ↓eq_bl, ↓ne_bl, ↓eq_ints, ↓ne_ints, ↓sum_ints, ↓cut_call, List.length_map]
    refine Cut.of hd2 (by omega) (by decide) (by decide) fun c2 M2 d0 d1 hd3 hb3 => ?_
    by_cases c3 : c2 = 0
    · rw [if_pos (decide_eq_true c3)]
      obtain ⟨v, e, k1, k2⟩ := atI_last (vs := vs) (by intro z; rw [z] at hvp; exact absurd hvp (by decide))
      have hvp' := hv.pos v (atI_mem k1)
      refine ⟨v, k1, vs.length - 1, k2, ?_⟩
      have e2 : (vs.map D.int).set (vs.length - 1) (.int (v + 1)) = (vs.take (vs.length - 1) ++ [v + 1] ++ []).map .int := by
        generalize hk : vs.length - 1 = k at e
        have hl : (vs.take k).length = k := by rw [List.length_take]; omega
        rw [List.append_nil]
        conv => lhs; rw [e]
        rw [List.map_append, List.set_append_right _ _ (by rw [List.length_map, hl]; exact Nat.le_refl _), List.map_append, List.length_map, hl, Nat.sub_self]
        rfl
      rw [e2]
      refine q _ _ (size + 1) (.inr rfl) ?_ (hd3.mono (by omega)) (hb2.trans hb3)
      exact text_put (l := vs.take (vs.length - 1)) (old := [v]) (r := []) (by rw [List.append_nil]; exact e) hv (by simp) (by intro x hx; simp at hx; omega) 1 (by simp <;> omega)
    · rw [if_neg (by simpa using c3)]
      exact q vs _ _ (.inl rfl) hv (hd3.mono (by omega)) (hb2.trans hb3)
/-! calls in short -/
theorem ints_inj {a b : List Int} (h : a.map D.int = b.map D.int) : a = b := by
  have e := congrArg intsD h
  rw [intsD_map, intsD_map] at e
  exact Option.some.inj e
def Words (p : Addr) (size wide : Int) (M : MS) (R : List Int → MS → Prop) : Prop := ∃ n, 1 ≤ size ∧ size ≤ 10000 ∧ 1 ≤ wide ∧ DigAt M p n ∧ n ≤ 10 ^ 8 ∧ ∀ ws M', TextOf ws size → (∀ x ∈ ws, x ≤ wide + 1) → DigAt M' p (n + size) → But p M M' → R ws M'
theorem words_call {p : Addr} {a b : Int} {M : MS} {Q : DQ} {X : DXK} : F__law_words [.raw (.ref p), .int a, .int b] M Q X = Words p a b M fun ws M' => Q (.lst (ws.map .int)) M' := by
  refine propext ⟨?_, ?_⟩
  · rintro ⟨p', a', b', n, e, h⟩
    simp only [List.cons.injEq, D.raw.injEq, V.ref.injEq, D.int.injEq, and_true] at e
    obtain ⟨rfl, rfl, rfl⟩ := e
    exact ⟨n, h⟩
  · rintro ⟨n, h⟩
    exact ⟨p, a, b, n, rfl, h⟩
def Changed (p : Addr) (ws : List Int) (M : MS) (R : List Int → MS → Prop) : Prop := ∃ size n, TextOf ws size ∧ size ≤ 10000 ∧ DigAt M p n ∧ n ≤ 10 ^ 8 ∧ ∀ vs M' size', size' = size ∨ size' = size + 1 → TextOf vs size' → DigAt M' p (n + 20) → But p M M' → R vs M'
theorem changed_call {p : Addr} {ws : List Int} {M : MS} {Q : DQ} {X : DXK} : F__law_changed [.raw (.ref p), .lst (ws.map .int)] M Q X = Changed p ws M fun vs M' => Q (.lst (vs.map .int)) M' := by
  refine propext ⟨?_, ?_⟩
  · rintro ⟨p', ws', size, n, e, h⟩
    simp only [List.cons.injEq, D.raw.injEq, V.ref.injEq, D.lst.injEq, and_true] at e
    obtain ⟨rfl, e⟩ := e
    cases ints_inj e
    exact ⟨size, n, h⟩
  · rintro ⟨size, n, h⟩
    exact ⟨p, ws, size, n, rfl, h⟩
def Digits (ns : List Int) (k : Int) (M : MS) (R : Addr → MS → Prop) : Prop := 0 ≤ k ∧ k ≤ 1000 ∧ (∀ z ∈ ns, Builtin.Int.intBits z ≤ 1048576) ∧ ∀ p M', M p = none → DigAt M' p 0 → But p M M' → R p M'
theorem digits_call {ns : List Int} {k : Int} {M : MS} {Q : DQ} {X : DXK} : F__law_digits [.scr ns, .int k] M Q X = Digits ns k M fun p M' => Q (.raw (.ref p)) M' := by
  refine propext ⟨?_, ?_⟩
  · rintro ⟨ns', k', e, h⟩
    simp only [List.cons.injEq, D.scr.injEq, D.int.injEq, and_true] at e
    obtain ⟨rfl, rfl⟩ := e
    exact h
  · intro h
    exact ⟨ns, k, rfl, h⟩
theorem ix_any {ds : List D} {i : Int} {M : MS} {Q : DQ} : kIx (.lst ds) (.int i) M Q = ∃ x, atI ds i = some x ∧ Q x M := by
  refine propext ⟨?_, ?_⟩
  · rintro ⟨j, x, e, h, q⟩
    cases e
    exact ⟨x, h, q⟩
  · rintro ⟨x, h, q⟩
    exact ⟨i, x, rfl, h, q⟩
theorem ix_i2 {a b i : Int} {M : MS} {Q : DQ} : kIx (.lst [.int a, .int b]) (.int i) M Q = ∃ n, atI [a, b] i = some n ∧ Q (.int n) M := ix_ints (ns := [a, b])
theorem ix_i3 {a b c i : Int} {M : MS} {Q : DQ} : kIx (.lst [.int a, .int b, .int c]) (.int i) M Q = ∃ n, atI [a, b, c] i = some n ∧ Q (.int n) M := ix_ints (ns := [a, b, c])
theorem ix_i4 {a b c d i : Int} {M : MS} {Q : DQ} : kIx (.lst [.int a, .int b, .int c, .int d]) (.int i) M Q = ∃ n, atI [a, b, c, d] i = some n ∧ Q (.int n) M := ix_ints (ns := [a, b, c, d])
theorem atI_mapf {α : Type} {f : α → D} {l : List α} {i : Int} : atI (l.map f) i = (atI l i).map f := by
  unfold atI
  rw [List.length_map]
  cases ixN l.length i with
  | none => rfl
  | some j => exact List.getElem?_map
theorem ix_mapf {α : Type} {f : α → D} {l : List α} {i : Int} {M : MS} {Q : DQ} : kIx (.lst (l.map f)) (.int i) M Q = ∃ n, atI l i = some n ∧ Q (f n) M := by
  rw [ix_any]
  refine propext ⟨?_, ?_⟩
  · rintro ⟨x, h, q⟩
    rw [atI_mapf] at h
    obtain ⟨n, hn, rfl⟩ := Option.map_eq_some_iff.mp h
    exact ⟨n, hn, q⟩
  · rintro ⟨n, hn, q⟩
    exact ⟨f n, by rw [atI_mapf, hn]; rfl, q⟩
theorem ix_l2 {a b : List Int} {i : Int} {M : MS} {Q : DQ} : kIx (.lst [.lst (a.map .int), .lst (b.map .int)]) (.int i) M Q = ∃ n, atI [a, b] i = some n ∧ Q (.lst (n.map .int)) M := ix_mapf (f := dInts) (l := [a, b])
theorem ix_l3 {a b c : List Int} {i : Int} {M : MS} {Q : DQ} : kIx (.lst [.lst (a.map .int), .lst (b.map .int), .lst (c.map .int)]) (.int i) M Q = ∃ n, atI [a, b, c] i = some n ∧ Q (.lst (n.map .int)) M := ix_mapf (f := dInts) (l := [a, b, c])
/-- what is drawn of a list -/
theorem drawn {α : Type} {l : List α} {i : Int} (h0 : 0 ≤ i) (h : i < l.length) : ∃ x, atI l i = some x ∧ x ∈ l := by
  obtain ⟨x, h1, _⟩ := atI_get h0 h
  exact ⟨x, h1, atI_mem h1⟩
/-- what is read later -/
def later (u : DTS) : DTS := u
end DL

/-! L39: what the law k39 asks of its own defs. -/
namespace DL
open PySem PySem.Spec PyProof.Rows L2 MX
variable [Cls]
abbrev kw_are_alike_0_high_low_other_text {α : Type} : List α → List α → List α := kwG 0 4 [3, 2, 1, 0]
abbrev kw_separating_width_0_high_low_other_text {α : Type} : List α → List α → List α := kwG 0 4 [3, 2, 1, 0]
theorem wrap_call {ns : List Int} {w : Int} {M : MS} {Q : DQ} {X : DXK} (h : ns.length ≤ 10000) (q : Q (dInts (lawWrap ns w)) M) : F__law_wrap [.lst (ns.map .int), .int w] M Q X := ⟨ns, w, rfl, h, q⟩
noncomputable def F__law_right : DSp := fun ds M Q X => ∃ a b lo hi, ds = [dInts a, dInts b, .int lo, .int hi] ∧ OkPair a b lo hi ∧ Q (.bl true) M
def N__law_right : List Str := ["words", "mate", "bottom", "top", "kept", "different", "last", "most", "told", "due"]
def t__law_right (X' : DXK) : DTS := (dSeq (dParII (dCall kRepr (daCons (dLst (dfLst (daCons (dVar 0) (daCons (dVar 1) daNil)))) daNil)) (dC .non) 4 5)
    (dSeq (dSet (dCall kMax (daCons (dOp kAdd (dCall kSum (daCons (dVarB 0) daNil)) (dCall kLen (daCons (dVarB 0) daNil))) (daCons (dOp kAdd (dCall kSum (daCons (dVarB 1) daNil)) (dCall kLen (daCons (dVarB 1) daNil))) daNil))) 6)
    (dSeq (dFor (dRange3 (daCons (dCall kMin (daCons (dVarB 3) (daCons (dCall kMax (daCons (dVarB 2) (daCons (dVarB 6) daNil))) daNil))) (daCons (dOp kSub (dVarB 2) (dC (.int 1))) (daCons (dUn kNeg (dC (.int 1))) daNil)))) (dgName 7) (dIfS (dTest (dOp kNe (dFn F__law_wrap [] X' (daCons (dVar 0) (daCons (dVar 7) daNil))) (dFn F__law_wrap [] X' (daCons (dVar 1) (daCons (dVar 7) daNil))))) (dSet (dVar 7) 5) dNext))
    (dSeq (dSet (dLst (dfLst (daCons (dFn F_are_alike [] X' (daCons (dVar 0) (daCons (dVar 1) (daCons (dVar 2) (daCons (dVar 3) daNil))))) (daCons (dFnK F_are_alike kw_are_alike_0_high_low_other_text X' daNil (daCons (dVar 3) (daCons (dVar 2) (daCons (dVar 1) (daCons (dVar 0) daNil))))) daNil)))) 8)
    (dSeq (dSet (dOp kAdd (dVarB 8) (dLst (dfLst (daCons (dFn F_separating_width [] X' (daCons (dVar 0) (daCons (dVar 1) (daCons (dVar 2) (daCons (dVar 3) daNil))))) daNil)))) 8)
    (dSeq (dSet (dOp kAdd (dVarB 8) (dLst (dfLst (daCons (dFnK F_separating_width kw_separating_width_0_high_low_other_text X' daNil (daCons (dVar 3) (daCons (dVar 2) (daCons (dVar 1) (daCons (dVar 0) daNil))))) daNil)))) 8)
    (dSeq (dSet (dLst (dfLst (daCons (dOp kIsN (dVarB 5) (dC .non)) (daCons (dOp kIsN (dVarB 5) (dC .non)) (daCons (dVar 5) (daCons (dVar 5) daNil)))))) 9)
    (dRet (dAndV (dFn (F__law_same 9) [] X' (daCons (dVar 8) (daCons (dVar 9) daNil))) (dOp kEq (dCall kRepr (daCons (dLst (dfLst (daCons (dVar 0) (daCons (dVar 1) daNil)))) daNil)) (dVarB 4)))))))))))
theorem pure__law_right : Keeps F__law_right t__law_right N__law_right := by
  rintro _ M Q X' ⟨a, b, lo, hi, rfl, h, q⟩
  show t__law_right X' _ [.im (dInts a), .im (dInts b), .im (.int lo), .im (.int hi), .no, .no, .no, .no, .no, .no] M
  simp only [↓t__law_right, ↓dSeq, ↓dNext, ↓dIfS, ↓dRet, ↓dRetV, ↓dRetN, ↓dRetM, ↓dSet, ↓dAsg, ↓dOwn, ↓dOwnD, ↓dParOI, ↓dParII, ↓dAug, ↓dApp, ↓dPutL, ↓dPutS, ↓dPutM, ↓dUpd, ↓dfRg2, ↓kRepr, ↓kSortedD, ↓dDrop, ↓dNever, ↓dFrz, ↓frz, ↓dgName, ↓dgNil, ↓dgCons, ↓dgTup, ↓dVar, ↓dVarB, ↓dC, ↓dOp, ↓dOpF, ↓dUn, ↓dTest, ↓dChain, ↓dAnd, ↓dOr, ↓dNot, ↓dTru, ↓truD, ↓dAndV, ↓dOrV, ↓dNotV, ↓dIf, ↓daNil, ↓daCons, ↓dTup, ↓dfLst, ↓dLst, ↓dNoPart, ↓dPart, ↓dfSl, ↓dSlS, ↓dCall, ↓dfCall, ↓dFn, ↓dFnK, ↓dYes, ↓kAdd, ↓kSub, ↓kMul, ↓kDiv, ↓kMod, ↓kPow, ↓kCat, ↓kRep, ↓kNeg, ↓kLt, ↓kLe, ↓kGt, ↓kGe, ↓kIsN, ↓kNotN, ↓kIsB, ↓isNon, ↓kLen, ↓kAll, ↓kAny, ↓kMax, ↓kMin, ↓kAbs, ↓kInt, ↓kStr, ↓kList, ↓kSortedI, ↓kIsi, isD, kit_int_int, kit_bool_int, kit_int_bool, kit_bool_bool, List.getElem?_cons_zero, List.getElem?_cons_succ, List.set_cons_zero, List.set_cons_succ, List.nil_append, List.cons_append, List.append_nil, Option.some.injEq, exists_eq_left', exists_eq_left, exists_and_left, exists_eq_right, Bool.not_true, Bool.not_false, Bool.false_eq_true, if_true, if_false, and_true, true_and, D.int.injEq, D.lst.injEq, D.bl.injEq, D.str.injEq, D.raw.injEq, D.tup.injEq, ite_true, ite_false, reduceIte, ↓ix_ints, ↓ix_i2, ↓ix_i3, ↓ix_i4, ↓ix_l2, ↓ix_l3, ↓words_call, ↓changed_call, ↓digits_call, ↓eq_int, ↓ne_int, ↓eq_bl, ↓ne_bl, ↓eq_ints, ↓ne_ints, ↓sum_ints, ↓cut_call, List.length_map, if_max]
  have la := h.ta.len
  have lb := h.tb.len
  have h1 := h.l1
  have h2 := h.le
  have h3 := h.l2
  refine ⟨size_small (show 2 ≤ 100000 by decide), _, shows_pair h.ta h.tb, ?_⟩
  generalize hlast : max (a.sum + (a.length : Int)) (b.sum + (b.length : Int)) = last
  have l1 : totalOf a ≤ last := by unfold totalOf; omega
  have l2 : totalOf b ≤ last := by unfold totalOf; omega
  generalize hhiw : min hi (max lo last) = hiw
  refine for_inv2 ?_
  simp only [↓dRange3, ↓dSeq, ↓dNext, ↓dIfS, ↓dRet, ↓dRetV, ↓dRetN, ↓dRetM, ↓dSet, ↓dAsg, ↓dOwn, ↓dOwnD, ↓dParOI, ↓dParII, ↓dAug, ↓dApp, ↓dPutL, ↓dPutS, ↓dPutM, ↓dUpd, ↓dfRg2, ↓kRepr, ↓kSortedD, ↓dDrop, ↓dNever, ↓dFrz, ↓frz, ↓dgName, ↓dgNil, ↓dgCons, ↓dgTup, ↓dVar, ↓dVarB, ↓dC, ↓dOp, ↓dOpF, ↓dUn, ↓dTest, ↓dChain, ↓dAnd, ↓dOr, ↓dNot, ↓dTru, ↓truD, ↓dAndV, ↓dOrV, ↓dNotV, ↓dIf, ↓daNil, ↓daCons, ↓dTup, ↓dfLst, ↓dLst, ↓dNoPart, ↓dPart, ↓dfSl, ↓dSlS, ↓dCall, ↓dfCall, ↓dFn, ↓dFnK, ↓dYes, ↓kAdd, ↓kSub, ↓kMul, ↓kDiv, ↓kMod, ↓kPow, ↓kCat, ↓kRep, ↓kNeg, ↓kLt, ↓kLe, ↓kGt, ↓kGe, ↓kIsN, ↓kNotN, ↓kIsB, ↓isNon, ↓kLen, ↓kAll, ↓kAny, ↓kMax, ↓kMin, ↓kAbs, ↓kInt, ↓kStr, ↓kList, ↓kSortedI, ↓kIsi, isD, kit_int_int, kit_bool_int, kit_int_bool, kit_bool_bool, List.getElem?_cons_zero, List.getElem?_cons_succ, List.set_cons_zero, List.set_cons_succ, List.nil_append, List.cons_append, List.append_nil, Option.some.injEq, exists_eq_left', exists_eq_left, exists_and_left, exists_eq_right, Bool.not_true, Bool.not_false, Bool.false_eq_true, if_true, if_false, and_true, true_and, D.int.injEq, D.lst.injEq, D.bl.injEq, D.str.injEq, D.raw.injEq, D.tup.injEq, ite_true, ite_false, reduceIte, ↓ix_ints, ↓ix_i2, ↓ix_i3, ↓ix_i4, ↓ix_l2, ↓ix_l3, ↓words_call, ↓changed_call, ↓digits_call, ↓eq_int, ↓ne_int, ↓eq_bl, ↓ne_bl, ↓eq_ints, ↓ne_ints, ↓sum_ints, ↓cut_call, List.length_map, if_max, if_min, hhiw]
  have hge : lo ≤ hiw := by omega
  refine ⟨(hiw - lo + 1).toNat, ?_, fun i δ M' => M' = M ∧ i ≤ (hiw - lo + 1).toNat ∧ ∃ z, δ = [.im (dInts a), .im (dInts b), .im (.int lo), .im (.int hi), .im (.str (pairP a b).shown), .im (optD (sepOf a b (hiw - i + 1) hiw)), .im (.int last), z, .no, .no], ⟨rfl, Nat.zero_le _, .no, by rw [sepOf_nil (by omega)]; rfl⟩, ?_, ?_⟩
  · have := RgC.neg (i := hiw) (j := lo - 1) (by omega) (by omega) (by omega) (by omega)
    rw [show (hiw - (lo - 1)).toNat = (hiw - lo + 1).toNat by omega] at this
    exact this
  · rintro i d δ M' hd ⟨rfl, hi', z, rfl⟩
    obtain ⟨rfl, hlt⟩ := rangeC_get hd
    simp only [↓dSeq, ↓dNext, ↓dIfS, ↓dRet, ↓dRetV, ↓dRetN, ↓dRetM, ↓dSet, ↓dAsg, ↓dOwn, ↓dOwnD, ↓dParOI, ↓dParII, ↓dAug, ↓dApp, ↓dPutL, ↓dPutS, ↓dPutM, ↓dUpd, ↓dfRg2, ↓kRepr, ↓kSortedD, ↓dDrop, ↓dNever, ↓dFrz, ↓frz, ↓dgName, ↓dgNil, ↓dgCons, ↓dgTup, ↓dVar, ↓dVarB, ↓dC, ↓dOp, ↓dOpF, ↓dUn, ↓dTest, ↓dChain, ↓dAnd, ↓dOr, ↓dNot, ↓dTru, ↓truD, ↓dAndV, ↓dOrV, ↓dNotV, ↓dIf, ↓daNil, ↓daCons, ↓dTup, ↓dfLst, ↓dLst, ↓dNoPart, ↓dPart, ↓dfSl, ↓dSlS, ↓dCall, ↓dfCall, ↓dFn, ↓dFnK, ↓dYes, ↓kAdd, ↓kSub, ↓kMul, ↓kDiv, ↓kMod, ↓kPow, ↓kCat, ↓kRep, ↓kNeg, ↓kLt, ↓kLe, ↓kGt, ↓kGe, ↓kIsN, ↓kNotN, ↓kIsB, ↓isNon, ↓kLen, ↓kAll, ↓kAny, ↓kMax, ↓kMin, ↓kAbs, ↓kInt, ↓kStr, ↓kList, ↓kSortedI, ↓kIsi, isD, kit_int_int, kit_bool_int, kit_int_bool, kit_bool_bool, List.getElem?_cons_zero, List.getElem?_cons_succ, List.set_cons_zero, List.set_cons_succ, List.nil_append, List.cons_append, List.append_nil, Option.some.injEq, exists_eq_left', exists_eq_left, exists_and_left, exists_eq_right, Bool.not_true, Bool.not_false, Bool.false_eq_true, if_true, if_false, and_true, true_and, D.int.injEq, D.lst.injEq, D.bl.injEq, D.str.injEq, D.raw.injEq, D.tup.injEq, ite_true, ite_false, reduceIte, ↓ix_ints, ↓ix_i2, ↓ix_i3, ↓ix_i4, ↓ix_l2, ↓ix_l3, ↓words_call, ↓changed_call, ↓digits_call, ↓eq_int, ↓ne_int, ↓eq_bl, ↓ne_bl, ↓eq_ints, ↓ne_ints, ↓sum_ints, ↓cut_call, List.length_map]
    refine wrap_call (by omega) (wrap_call (by omega) ?_)
    rw [lawWrap_eq h.ta.ne h.ta.pos, lawWrap_eq h.tb.ne h.tb.pos]
    simp only [↓dSeq, ↓dNext, ↓dIfS, ↓dRet, ↓dRetV, ↓dRetN, ↓dRetM, ↓dSet, ↓dAsg, ↓dOwn, ↓dOwnD, ↓dParOI, ↓dParII, ↓dAug, ↓dApp, ↓dPutL, ↓dPutS, ↓dPutM, ↓dUpd, ↓dfRg2, ↓kRepr, ↓kSortedD, ↓dDrop, ↓dNever, ↓dFrz, ↓frz, ↓dgName, ↓dgNil, ↓dgCons, ↓dgTup, ↓dVar, ↓dVarB, ↓dC, ↓dOp, ↓dOpF, ↓dUn, ↓dTest, ↓dChain, ↓dAnd, ↓dOr, ↓dNot, ↓dTru, ↓truD, ↓dAndV, ↓dOrV, ↓dNotV, ↓dIf, ↓daNil, ↓daCons, ↓dTup, ↓dfLst, ↓dLst, ↓dNoPart, ↓dPart, ↓dfSl, ↓dSlS, ↓dCall, ↓dfCall, ↓dFn, ↓dFnK, ↓dYes, ↓kAdd, ↓kSub, ↓kMul, ↓kDiv, ↓kMod, ↓kPow, ↓kCat, ↓kRep, ↓kNeg, ↓kLt, ↓kLe, ↓kGt, ↓kGe, ↓kIsN, ↓kNotN, ↓kIsB, ↓isNon, ↓kLen, ↓kAll, ↓kAny, ↓kMax, ↓kMin, ↓kAbs, ↓kInt, ↓kStr, ↓kList, ↓kSortedI, ↓kIsi, isD, kit_int_int, kit_bool_int, kit_int_bool, kit_bool_bool, List.getElem?_cons_zero, List.getElem?_cons_succ, List.set_cons_zero, List.set_cons_succ, List.nil_append, List.cons_append, List.append_nil, Option.some.injEq, exists_eq_left', exists_eq_left, exists_and_left, exists_eq_right, Bool.not_true, Bool.not_false, Bool.false_eq_true, if_true, if_false, and_true, true_and, D.int.injEq, D.lst.injEq, D.bl.injEq, D.str.injEq, D.raw.injEq, D.tup.injEq, ite_true, ite_false, reduceIte, ↓ix_ints, ↓ix_i2, ↓ix_i3, ↓ix_i4, ↓ix_l2, ↓ix_l3, ↓words_call, ↓changed_call, ↓digits_call, ↓eq_int, ↓ne_int, ↓eq_bl, ↓ne_bl, ↓eq_ints, ↓ne_ints, ↓sum_ints, ↓cut_call, List.length_map]
    have e : hiw + (i : Int) * -1 = hiw - i := by omega
    rw [e]
    have st := sepOf_step (a := a) (b := b) (lo := hiw - i) (hi := hiw) (by omega)
    have e2 : hiw - ((i + 1 : Nat) : Int) + 1 = hiw - i := by omega
    by_cases c : wrapOf a (hiw - i) = wrapOf b (hiw - i)
    · rw [if_neg (fun z => z c)] at st
      rw [decide_eq_true c]
      simp only [Bool.not_true, Bool.false_eq_true, if_false]
      exact ⟨by omega, .im (.int (hiw - i)), by rw [e2, st]⟩
    · rw [if_pos c] at st
      rw [decide_eq_false c]
      simp only [Bool.not_false, if_true]
      exact ⟨by omega, .im (.int (hiw - i)), by rw [e2, st]; rfl⟩
  · rintro δ M' ⟨rfl, hi', z, rfl⟩
    rw [rangeC_length]
    have e : hiw - (((hiw - lo + 1).toNat : Nat) : Int) + 1 = lo := by omega
    rw [e]
    have e2 : sepOf a b lo hiw = sepOf a b lo hi := by
      by_cases c : hi ≤ max lo last
      · rw [show hiw = hi by omega]
      · have := sepOf_cut h.ta.ne h.ta.pos h.tb.ne h.tb.pos (lo := lo) (m := hiw) (by omega) (by omega) hge (hi - hiw).toNat
        rw [← this, show hiw + (((hi - hiw).toNat : Nat) : Int) = hi by omega]
    rw [e2]
    simp only [↓dSeq, ↓dNext, ↓dIfS, ↓dRet, ↓dRetV, ↓dRetN, ↓dRetM, ↓dSet, ↓dAsg, ↓dOwn, ↓dOwnD, ↓dParOI, ↓dParII, ↓dAug, ↓dApp, ↓dPutL, ↓dPutS, ↓dPutM, ↓dUpd, ↓dfRg2, ↓kRepr, ↓kSortedD, ↓dDrop, ↓dNever, ↓dFrz, ↓frz, ↓dgName, ↓dgNil, ↓dgCons, ↓dgTup, ↓dVar, ↓dVarB, ↓dC, ↓dOp, ↓dOpF, ↓dUn, ↓dTest, ↓dChain, ↓dAnd, ↓dOr, ↓dNot, ↓dTru, ↓truD, ↓dAndV, ↓dOrV, ↓dNotV, ↓dIf, ↓daNil, ↓daCons, ↓dTup, ↓dfLst, ↓dLst, ↓dNoPart, ↓dPart, ↓dfSl, ↓dSlS, ↓dCall, ↓dfCall, ↓dFn, ↓dFnK, ↓dYes, ↓kAdd, ↓kSub, ↓kMul, ↓kDiv, ↓kMod, ↓kPow, ↓kCat, ↓kRep, ↓kNeg, ↓kLt, ↓kLe, ↓kGt, ↓kGe, ↓kIsN, ↓kNotN, ↓kIsB, ↓isNon, ↓kLen, ↓kAll, ↓kAny, ↓kMax, ↓kMin, ↓kAbs, ↓kInt, ↓kStr, ↓kList, ↓kSortedI, ↓kIsi, isD, kit_int_int, kit_bool_int, kit_int_bool, kit_bool_bool, List.getElem?_cons_zero, List.getElem?_cons_succ, List.set_cons_zero, List.set_cons_succ, List.nil_append, List.cons_append, List.append_nil, Option.some.injEq, exists_eq_left', exists_eq_left, exists_and_left, exists_eq_right, Bool.not_true, Bool.not_false, Bool.false_eq_true, if_true, if_false, and_true, true_and, D.int.injEq, D.lst.injEq, D.bl.injEq, D.str.injEq, D.raw.injEq, D.tup.injEq, ite_true, ite_false, reduceIte, ↓ix_ints, ↓ix_i2, ↓ix_i3, ↓ix_i4, ↓ix_l2, ↓ix_l3, ↓words_call, ↓changed_call, ↓digits_call, ↓eq_int, ↓ne_int, ↓eq_bl, ↓ne_bl, ↓eq_ints, ↓ne_ints, ↓sum_ints, ↓cut_call, List.length_map, kwG, pick]
    refine ⟨a, b, lo, hi, rfl, h, a, b, lo, hi, rfl, h, size_small (show 2 ≤ 100000 by decide), a, b, lo, hi, rfl, h, one_small, size_small (show 3 ≤ 100000 by decide), a, b, lo, hi, rfl, h, one_small, size_small (show 4 ≤ 100000 by decide), size_small (show 4 ≤ 100000 by decide), ?_⟩
    have fin : ∀ x y : D, x = y → goodS 9 x = true → F__law_same 9 [x, y] M' (fun x M1 => match x with
        | .bl c => if c = true then [dInts a, dInts b].length ≤ sizeLine ∧ ∃ t, Shows (.lst [dInts a, dInts b]) t ∧ kEq (.str t) (.str (pairP a b).shown) M1 Q else Q (.bl false) M1
        | _ => False) X' := fun x y e hg => by
      subst e
      exact ⟨x, rfl, hg, size_small (show 2 ≤ 100000 by decide), _, shows_pair h.ta h.tb, kEq_strs q⟩
    cases hs : sepOf a b lo hi with
    | none => exact fin _ _ rfl (by rfl)
    | some w => exact fin _ _ rfl (by rfl)
def RightD (x y u v : D) (R : Prop) : Prop := ∃ a b lo hi, x = dInts a ∧ y = dInts b ∧ u = .int lo ∧ v = .int hi ∧ OkPair a b lo hi ∧ R
theorem right_call {x y u v : D} {M : MS} {Q : DQ} {X : DXK} : F__law_right [x, y, u, v] M Q X = RightD x y u v (Q (.bl true) M) := by
  refine propext ⟨?_, ?_⟩
  · rintro ⟨a, b, lo, hi, e, h⟩
    simp only [List.cons.injEq, and_true] at e
    obtain ⟨rfl, rfl, rfl, rfl⟩ := e
    exact ⟨a, b, lo, hi, rfl, rfl, rfl, rfl, h⟩
  · rintro ⟨a, b, lo, hi, rfl, rfl, rfl, rfl, h⟩
    exact ⟨a, b, lo, hi, rfl, h⟩
def SepD (x y u v : D) (R : Option Int → Prop) : Prop := ∃ a b lo hi, x = dInts a ∧ y = dInts b ∧ u = .int lo ∧ v = .int hi ∧ OkPair a b lo hi ∧ R (sepOf a b lo hi)
theorem sep_call {x y u v : D} {M : MS} {Q : DQ} {X : DXK} : F_separating_width [x, y, u, v] M Q X = SepD x y u v fun o => Q (optD o) M := by
  refine propext ⟨?_, ?_⟩
  · rintro ⟨a, b, lo, hi, e, h⟩
    simp only [List.cons.injEq, and_true] at e
    obtain ⟨rfl, rfl, rfl, rfl⟩ := e
    exact ⟨a, b, lo, hi, rfl, rfl, rfl, rfl, h⟩
  · rintro ⟨a, b, lo, hi, rfl, rfl, rfl, rfl, h⟩
    exact ⟨a, b, lo, hi, rfl, h⟩
def AlikeD (x y u v : D) (R : Bool → Prop) : Prop := ∃ a b lo hi, x = dInts a ∧ y = dInts b ∧ u = .int lo ∧ v = .int hi ∧ OkPair a b lo hi ∧ R (decide (sepOf a b lo hi = none))
theorem alike_call {x y u v : D} {M : MS} {Q : DQ} {X : DXK} : F_are_alike [x, y, u, v] M Q X = AlikeD x y u v fun o => Q (.bl o) M := by
  refine propext ⟨?_, ?_⟩
  · rintro ⟨a, b, lo, hi, e, h⟩
    simp only [List.cons.injEq, and_true] at e
    obtain ⟨rfl, rfl, rfl, rfl⟩ := e
    exact ⟨a, b, lo, hi, rfl, rfl, rfl, rfl, h⟩
  · rintro ⟨a, b, lo, hi, rfl, rfl, rfl, rfl, h⟩
    exact ⟨a, b, lo, hi, rfl, h⟩
def F_law : DSp := fun ds M Q X => ∃ ns, ds = [.scr ns] ∧ ns.length ≤ 63 ∧ (∀ z ∈ ns, Builtin.Int.intBits z ≤ 1048576) ∧ ∀ M', Q (.bl true) M'
def N_law : List Str := ["script", "k", "digits", "turn", "size", "words", "mate", "bottom", "top", "one", "two", "at", "longer"]
def t_law (X' : DXK) : DTS := (dSeq (dFor (dRange1 (daCons (dCall kMax (daCons (dC (.int 1)) (daCons (dCall kMin (daCons (dC (.int 8)) (daCons (dCall kLen (daCons (dVarB 0) daNil)) daNil))) daNil))) daNil)) (dgName 1) (dSeq (dSet (dFn F__law_digits [] X' (daCons (dVar 0) (daCons (dVar 1) daNil))) 2)
    (dFor (dRange1 (daCons (dC (.int 6)) daNil)) (dgName 3) (dSeq (dSet (dOp kAdd (dC (.int 1)) (dFn F__law_cut [] X' (daCons (dVar 2) (daCons (dC (.int 60)) daNil)))) 4)
    (dSeq (dSet (dFn F__law_words [] X' (daCons (dVar 2) (daCons (dVar 4) (daCons (dOp kIx (dLst (dfLst (daCons (dC (.int 3)) (daCons (dC (.int 9)) (daCons (dC (.int 30)) daNil))))) (dFn F__law_cut [] X' (daCons (dVar 2) (daCons (dC (.int 3)) daNil)))) daNil)))) 5)
    (dSeq (dSet (dOp kIx (dLst (dfLst (daCons (dFn F__law_changed [] X' (daCons (dVar 2) (daCons (dVar 5) daNil))) (daCons (dFn F__law_words [] X' (daCons (dVar 2) (daCons (dVar 4) (daCons (dC (.int 9)) daNil)))) daNil)))) (dOp kDiv (dFn F__law_cut [] X' (daCons (dVar 2) (daCons (dC (.int 4)) daNil))) (dC (.int 3)))) 6)
    (dSeq (dSet (dOp kAdd (dC (.int 1)) (dFn F__law_cut [] X' (daCons (dVar 2) (daCons (dOp kIx (dLst (dfLst (daCons (dC (.int 10)) (daCons (dC (.int 64)) daNil)))) (dFn F__law_cut [] X' (daCons (dVar 2) (daCons (dC (.int 2)) daNil)))) daNil)))) 7)
    (dSeq (dSet (dOp kAdd (dVarB 7) (dOp kIx (dLst (dfLst (daCons (dC (.int 0)) (daCons (dFn F__law_cut [] X' (daCons (dVar 2) (daCons (dC (.int 12)) daNil))) (daCons (dFn F__law_cut [] X' (daCons (dVar 2) (daCons (dOp kSub (dC (.int 1001)) (dVarB 7)) daNil))) daNil))))) (dFn F__law_cut [] X' (daCons (dVar 2) (daCons (dC (.int 3)) daNil))))) 8)
    (dFor (dItems (dLst (dfLst (daCons (dTup (daCons (dVar 5) (daCons (dVar 6) daNil))) (daCons (dTup (daCons (dVar 6) (daCons (dVar 5) daNil))) (daCons (dTup (daCons (dVar 5) (daCons (dLst (dfCall kList (daCons (dVarB 5) daNil))) daNil))) (daCons (dTup (daCons (dVar 5) (daCons (dVar 5) daNil))) daNil))))))) (dgTup 2 (dgCons (dgName 9) (dgCons (dgName 10) dgNil))) (dIfS (dNot (dTru (dFn F__law_right [] X' (daCons (dVar 9) (daCons (dVar 10) (daCons (dVar 7) (daCons (dVar 8) daNil))))))) (dRet (dC (.bl false))) dNext))))))))))
    (dSeq (dSet (dFn F__law_digits [] X' (daCons (dVar 0) (daCons (dC (.int 0)) daNil))) 2)
    (dSeq (dSet (dFn F__law_words [] X' (daCons (dVar 2) (daCons (dC (.int 600)) (daCons (dC (.int 12)) daNil)))) 5)
    (dSeq (dSet (dFn F__law_cut [] X' (daCons (dVar 2) (daCons (dOp kSub (dCall kLen (daCons (dVarB 5) daNil)) (dC (.int 1))) daNil))) 11)
    (dSeq (dSet (dOp kAdd (dOp kAdd (dOp kIx (dVarB 5) (dVarB 11)) (dC (.int 1))) (dOp kIx (dVarB 5) (dOp kAdd (dVarB 11) (dC (.int 1))))) 12)
    (dSeq (dSet (dOp kAdd (dOp kAdd (dLst (dfSl (dVarB 5) dNoPart (dPart (dVar 11)))) (dLst (dfLst (daCons (dVar 12) daNil)))) (dLst (dfSl (dVarB 5) (dPart (dOp kAdd (dVarB 11) (dC (.int 2)))) dNoPart))) 6)
    (later (dSeq (dSet (dOp kAdd (dC (.int 1)) (dFn F__law_cut [] X' (daCons (dVar 2) (daCons (dC (.int 60)) daNil)))) 7)
    (dSeq (dIfS (dNot (dTru (dFn F__law_right [] X' (daCons (dVar 5) (daCons (dVar 6) (daCons (dVar 7) (daCons (dOp kAdd (dVarB 7) (dC (.int 11))) daNil))))))) (dRet (dC (.bl false))) dNext)
    (dSeq (dIfS (dNot (dTru (dFn F__law_right [] X' (daCons (dVar 6) (daCons (dVar 5) (daCons (dVar 7) (daCons (dVar 7) daNil))))))) (dRet (dC (.bl false))) dNext)
    (later (dRet (dAndV (dOp kEq (dFn F_separating_width [] X' (daCons (dLst (dfLst (daCons (dC (.int 1)) (daCons (dC (.int 1)) (daCons (dC (.int 1)) (daCons (dC (.int 1)) (daCons (dC (.int 1)) daNil))))))) (daCons (dLst (dfLst (daCons (dC (.int 3)) (daCons (dC (.int 1)) (daCons (dC (.int 1)) (daCons (dC (.int 1)) daNil)))))) (daCons (dC (.int 2)) (daCons (dC (.int 9)) daNil))))) (dC (.int 2))) (dOp kIsB (dFn F_are_alike [] X' (daCons (dLst (dfLst (daCons (dC (.int 600)) daNil))) (daCons (dLst (dfLst (daCons (dC (.int 600)) daNil))) (daCons (dC (.int 1)) (daCons (dC (.int 1000)) daNil))))) (dC (.bl true))))))))))))))))
theorem pure_law : Keeps F_law t_law N_law := by
  rintro _ M Q X' ⟨ns, rfl, hl, hb, q⟩
  show t_law X' _ [.im (.scr ns), .no, .no, .no, .no, .no, .no, .no, .no, .no, .no, .no, .no] M
  simp only [↓t_law, ↓dSeq, ↓dNext, ↓dIfS, ↓dRet, ↓dRetV, ↓dRetN, ↓dRetM, ↓dSet, ↓dAsg, ↓dOwn, ↓dOwnD, ↓dParOI, ↓dParII, ↓dAug, ↓dApp, ↓dPutL, ↓dPutS, ↓dPutM, ↓dUpd, ↓dfRg2, ↓kRepr, ↓kSortedD, ↓dDrop, ↓dNever, ↓dFrz, ↓frz, ↓dgName, ↓dgNil, ↓dgCons, ↓dgTup, ↓dVar, ↓dVarB, ↓dC, ↓dOp, ↓dOpF, ↓dUn, ↓dTest, ↓dChain, ↓dAnd, ↓dOr, ↓dNot, ↓dTru, ↓truD, ↓dAndV, ↓dOrV, ↓dNotV, ↓dIf, ↓daNil, ↓daCons, ↓dTup, ↓dfLst, ↓dLst, ↓dNoPart, ↓dPart, ↓dfSl, ↓dSlS, ↓dCall, ↓dfCall, ↓dFn, ↓dFnK, ↓dYes, ↓kAdd, ↓kSub, ↓kMul, ↓kDiv, ↓kMod, ↓kPow, ↓kCat, ↓kRep, ↓kNeg, ↓kLt, ↓kLe, ↓kGt, ↓kGe, ↓kIsN, ↓kNotN, ↓kIsB, ↓isNon, ↓kLen, ↓kAll, ↓kAny, ↓kMax, ↓kMin, ↓kAbs, ↓kInt, ↓kStr, ↓kList, ↓kSortedI, ↓kIsi, isD, kit_int_int, kit_bool_int, kit_int_bool, kit_bool_bool, List.getElem?_cons_zero, List.getElem?_cons_succ, List.set_cons_zero, List.set_cons_succ, List.nil_append, List.cons_append, List.append_nil, Option.some.injEq, exists_eq_left', exists_eq_left, exists_and_left, exists_eq_right, Bool.not_true, Bool.not_false, Bool.false_eq_true, if_true, if_false, and_true, true_and, D.int.injEq, D.lst.injEq, D.bl.injEq, D.str.injEq, D.raw.injEq, D.tup.injEq, ite_true, ite_false, reduceIte, ↓ix_ints, ↓ix_i2, ↓ix_i3, ↓ix_i4, ↓ix_l2, ↓ix_l3, ↓words_call, ↓changed_call, ↓digits_call, ↓eq_int, ↓ne_int, ↓eq_bl, ↓ne_bl, ↓eq_ints, ↓ne_ints, ↓sum_ints, ↓cut_call, List.length_map]
  refine for_inv2 ?_
  simp only [↓dRange1, ↓dSeq, ↓dNext, ↓dIfS, ↓dRet, ↓dRetV, ↓dRetN, ↓dRetM, ↓dSet, ↓dAsg, ↓dOwn, ↓dOwnD, ↓dParOI, ↓dParII, ↓dAug, ↓dApp, ↓dPutL, ↓dPutS, ↓dPutM, ↓dUpd, ↓dfRg2, ↓kRepr, ↓kSortedD, ↓dDrop, ↓dNever, ↓dFrz, ↓frz, ↓dgName, ↓dgNil, ↓dgCons, ↓dgTup, ↓dVar, ↓dVarB, ↓dC, ↓dOp, ↓dOpF, ↓dUn, ↓dTest, ↓dChain, ↓dAnd, ↓dOr, ↓dNot, ↓dTru, ↓truD, ↓dAndV, ↓dOrV, ↓dNotV, ↓dIf, ↓daNil, ↓daCons, ↓dTup, ↓dfLst, ↓dLst, ↓dNoPart, ↓dPart, ↓dfSl, ↓dSlS, ↓dCall, ↓dfCall, ↓dFn, ↓dFnK, ↓dYes, ↓kAdd, ↓kSub, ↓kMul, ↓kDiv, ↓kMod, ↓kPow, ↓kCat, ↓kRep, ↓kNeg, ↓kLt, ↓kLe, ↓kGt, ↓kGe, ↓kIsN, ↓kNotN, ↓kIsB, ↓isNon, ↓kLen, ↓kAll, ↓kAny, ↓kMax, ↓kMin, ↓kAbs, ↓kInt, ↓kStr, ↓kList, ↓kSortedI, ↓kIsi, isD, kit_int_int, kit_bool_int, kit_int_bool, kit_bool_bool, List.getElem?_cons_zero, List.getElem?_cons_succ, List.set_cons_zero, List.set_cons_succ, List.nil_append, List.cons_append, List.append_nil, Option.some.injEq, exists_eq_left', exists_eq_left, exists_and_left, exists_eq_right, Bool.not_true, Bool.not_false, Bool.false_eq_true, if_true, if_false, and_true, true_and, D.int.injEq, D.lst.injEq, D.bl.injEq, D.str.injEq, D.raw.injEq, D.tup.injEq, ite_true, ite_false, reduceIte, ↓ix_ints, ↓ix_i2, ↓ix_i3, ↓ix_i4, ↓ix_l2, ↓ix_l3, ↓words_call, ↓changed_call, ↓digits_call, ↓eq_int, ↓ne_int, ↓eq_bl, ↓ne_bl, ↓eq_ints, ↓ne_ints, ↓sum_ints, ↓cut_call, List.length_map, if_max, if_min]
  refine ⟨by omega, by omega, fun i δ M' => ∃ (x1 x2 x3 x4 x5 x6 x7 x8 x9 x10 x11 x12 : Slot), δ = [.im (.scr ns), x1, x2, x3, x4, x5, x6, x7, x8, x9, x10, x11, x12], ⟨_, _, _, _, _, _, _, _, _, _, _, _, rfl⟩, ?_, ?_⟩
  · rintro i d δ M1 hd ⟨x1, x2, x3, x4, x5, x6, x7, x8, x9, x10, x11, x12, rfl⟩
    obtain ⟨rfl, hlt⟩ := rangeD_get hd
    simp only [↓dSeq, ↓dNext, ↓dIfS, ↓dRet, ↓dRetV, ↓dRetN, ↓dRetM, ↓dSet, ↓dAsg, ↓dOwn, ↓dOwnD, ↓dParOI, ↓dParII, ↓dAug, ↓dApp, ↓dPutL, ↓dPutS, ↓dPutM, ↓dUpd, ↓dfRg2, ↓kRepr, ↓kSortedD, ↓dDrop, ↓dNever, ↓dFrz, ↓frz, ↓dgName, ↓dgNil, ↓dgCons, ↓dgTup, ↓dVar, ↓dVarB, ↓dC, ↓dOp, ↓dOpF, ↓dUn, ↓dTest, ↓dChain, ↓dAnd, ↓dOr, ↓dNot, ↓dTru, ↓truD, ↓dAndV, ↓dOrV, ↓dNotV, ↓dIf, ↓daNil, ↓daCons, ↓dTup, ↓dfLst, ↓dLst, ↓dNoPart, ↓dPart, ↓dfSl, ↓dSlS, ↓dCall, ↓dfCall, ↓dFn, ↓dFnK, ↓dYes, ↓kAdd, ↓kSub, ↓kMul, ↓kDiv, ↓kMod, ↓kPow, ↓kCat, ↓kRep, ↓kNeg, ↓kLt, ↓kLe, ↓kGt, ↓kGe, ↓kIsN, ↓kNotN, ↓kIsB, ↓isNon, ↓kLen, ↓kAll, ↓kAny, ↓kMax, ↓kMin, ↓kAbs, ↓kInt, ↓kStr, ↓kList, ↓kSortedI, ↓kIsi, isD, kit_int_int, kit_bool_int, kit_int_bool, kit_bool_bool, List.getElem?_cons_zero, List.getElem?_cons_succ, List.set_cons_zero, List.set_cons_succ, List.nil_append, List.cons_append, List.append_nil, Option.some.injEq, exists_eq_left', exists_eq_left, exists_and_left, exists_eq_right, Bool.not_true, Bool.not_false, Bool.false_eq_true, if_true, if_false, and_true, true_and, D.int.injEq, D.lst.injEq, D.bl.injEq, D.str.injEq, D.raw.injEq, D.tup.injEq, ite_true, ite_false, reduceIte, ↓ix_ints, ↓ix_i2, ↓ix_i3, ↓ix_i4, ↓ix_l2, ↓ix_l3, ↓words_call, ↓changed_call, ↓digits_call, ↓eq_int, ↓ne_int, ↓eq_bl, ↓ne_bl, ↓eq_ints, ↓ne_ints, ↓sum_ints, ↓cut_call, List.length_map]
    refine ⟨by omega, by omega, hb, fun p M2 _ hdig _ => ?_⟩
    refine for_inv2 ?_
    simp only [↓dRange1, ↓dSeq, ↓dNext, ↓dIfS, ↓dRet, ↓dRetV, ↓dRetN, ↓dRetM, ↓dSet, ↓dAsg, ↓dOwn, ↓dOwnD, ↓dParOI, ↓dParII, ↓dAug, ↓dApp, ↓dPutL, ↓dPutS, ↓dPutM, ↓dUpd, ↓dfRg2, ↓kRepr, ↓kSortedD, ↓dDrop, ↓dNever, ↓dFrz, ↓frz, ↓dgName, ↓dgNil, ↓dgCons, ↓dgTup, ↓dVar, ↓dVarB, ↓dC, ↓dOp, ↓dOpF, ↓dUn, ↓dTest, ↓dChain, ↓dAnd, ↓dOr, ↓dNot, ↓dTru, ↓truD, ↓dAndV, ↓dOrV, ↓dNotV, ↓dIf, ↓daNil, ↓daCons, ↓dTup, ↓dfLst, ↓dLst, ↓dNoPart, ↓dPart, ↓dfSl, ↓dSlS, ↓dCall, ↓dfCall, ↓dFn, ↓dFnK, ↓dYes, ↓kAdd, ↓kSub, ↓kMul, ↓kDiv, ↓kMod, ↓kPow, ↓kCat, ↓kRep, ↓kNeg, ↓kLt, ↓kLe, ↓kGt, ↓kGe, ↓kIsN, ↓kNotN, ↓kIsB, ↓isNon, ↓kLen, ↓kAll, ↓kAny, ↓kMax, ↓kMin, ↓kAbs, ↓kInt, ↓kStr, ↓kList, ↓kSortedI, ↓kIsi, isD, kit_int_int, kit_bool_int, kit_int_bool, kit_bool_bool, List.getElem?_cons_zero, List.getElem?_cons_succ, List.set_cons_zero, List.set_cons_succ, List.nil_append, List.cons_append, List.append_nil, Option.some.injEq, exists_eq_left', exists_eq_left, exists_and_left, exists_eq_right, Bool.not_true, Bool.not_false, Bool.false_eq_true, if_true, if_false, and_true, true_and, D.int.injEq, D.lst.injEq, D.bl.injEq, D.str.injEq, D.raw.injEq, D.tup.injEq, ite_true, ite_false, reduceIte, ↓ix_ints, ↓ix_i2, ↓ix_i3, ↓ix_i4, ↓ix_l2, ↓ix_l3, ↓words_call, ↓changed_call, ↓digits_call, ↓eq_int, ↓ne_int, ↓eq_bl, ↓ne_bl, ↓eq_ints, ↓ne_ints, ↓sum_ints, ↓cut_call, List.length_map]
    refine ⟨by decide, by decide, fun j δ M' => ∃ (x3 x4 x5 x6 x7 x8 x9 x10 x11 x12 : Slot), δ = [.im (.scr ns), .im (.int (0 + i)), .im (.raw (.ref p)), x3, x4, x5, x6, x7, x8, x9, x10, x11, x12] ∧ DigAt M' p (1000 * j), ⟨x3, x4, x5, x6, x7, x8, x9, x10, x11, x12, rfl, by simpa using hdig⟩, ?_, ?_⟩
    · rintro j d δ M3 hd ⟨x3, x4, x5, x6, x7, x8, x9, x10, x11, x12, rfl, hdig⟩
      obtain ⟨rfl, hlt⟩ := rangeD_get hd
      simp only [↓dSeq, ↓dNext, ↓dIfS, ↓dRet, ↓dRetV, ↓dRetN, ↓dRetM, ↓dSet, ↓dAsg, ↓dOwn, ↓dOwnD, ↓dParOI, ↓dParII, ↓dAug, ↓dApp, ↓dPutL, ↓dPutS, ↓dPutM, ↓dUpd, ↓dfRg2, ↓kRepr, ↓kSortedD, ↓dDrop, ↓dNever, ↓dFrz, ↓frz, ↓dgName, ↓dgNil, ↓dgCons, ↓dgTup, ↓dVar, ↓dVarB, ↓dC, ↓dOp, ↓dOpF, ↓dUn, ↓dTest, ↓dChain, ↓dAnd, ↓dOr, ↓dNot, ↓dTru, ↓truD, ↓dAndV, ↓dOrV, ↓dNotV, ↓dIf, ↓daNil, ↓daCons, ↓dTup, ↓dfLst, ↓dLst, ↓dNoPart, ↓dPart, ↓dfSl, ↓dSlS, ↓dCall, ↓dfCall, ↓dFn, ↓dFnK, ↓dYes, ↓kAdd, ↓kSub, ↓kMul, ↓kDiv, ↓kMod, ↓kPow, ↓kCat, ↓kRep, ↓kNeg, ↓kLt, ↓kLe, ↓kGt, ↓kGe, ↓kIsN, ↓kNotN, ↓kIsB, ↓isNon, ↓kLen, ↓kAll, ↓kAny, ↓kMax, ↓kMin, ↓kAbs, ↓kInt, ↓kStr, ↓kList, ↓kSortedI, ↓kIsi, isD, kit_int_int, kit_bool_int, kit_int_bool, kit_bool_bool, List.getElem?_cons_zero, List.getElem?_cons_succ, List.set_cons_zero, List.set_cons_succ, List.nil_append, List.cons_append, List.append_nil, Option.some.injEq, exists_eq_left', exists_eq_left, exists_and_left, exists_eq_right, Bool.not_true, Bool.not_false, Bool.false_eq_true, if_true, if_false, and_true, true_and, D.int.injEq, D.lst.injEq, D.bl.injEq, D.str.injEq, D.raw.injEq, D.tup.injEq, ite_true, ite_false, reduceIte, ↓ix_ints, ↓ix_i2, ↓ix_i3, ↓ix_i4, ↓ix_l2, ↓ix_l3, ↓words_call, ↓changed_call, ↓digits_call, ↓eq_int, ↓ne_int, ↓eq_bl, ↓ne_bl, ↓eq_ints, ↓ne_ints, ↓sum_ints, ↓cut_call, List.length_map]
      refine Cut.of hdig (by omega) (by decide) (by decide) fun c1 M4 c10 c11 g1 _ => ⟨size_small (show 3 ≤ 100000 by decide), ?_⟩
      refine Cut.of g1 (by omega) (by decide) (by decide) fun c2 M5 c20 c21 g2 _ => ?_
      obtain ⟨wd, e1, m1⟩ := drawn (l := [(3 : Int), 9, 30]) c20 c21
      have hwd : 1 ≤ wd := by simp at m1; omega
      refine ⟨wd, e1, _, by omega, by omega, hwd, g2, by omega, fun ws M6 hw _ g3 _ => ?_⟩
      refine ⟨1 + c1, _, hw, by omega, g3, by omega, fun vs M7 sz hsz hv g4 _ => ?_⟩
      refine ⟨_, by omega, by omega, by decide, g4, by omega, fun us M8 hu _ g5 _ => ⟨size_small (show 2 ≤ 100000 by decide), ?_⟩⟩
      refine Cut.of g5 (by omega) (by decide) (by decide) fun c3 M9 c30 c31 g6 _ => ⟨by decide, by decide, ?_⟩
      obtain ⟨mate, e2, m2⟩ := drawn (l := [vs, us]) (i := c3 / 3) (by omega) (by show c3 / 3 < 2; omega)
      have hm : ∃ sz', sz' ≤ 62 ∧ TextOf mate sz' := by
        simp only [List.mem_cons, List.mem_nil_iff, or_false] at m2
        rcases m2 with rfl | rfl
        · exact ⟨sz, by omega, hv⟩
        · exact ⟨1 + c1, by omega, hu⟩
      obtain ⟨sz', hsz', hm⟩ := hm
      refine ⟨mate, e2, size_small (show 2 ≤ 100000 by decide), ?_⟩
      refine Cut.of g6 (by omega) (by decide) (by decide) fun c4 M10 c40 c41 g7 _ => ?_
      obtain ⟨b1, e3, m3⟩ := drawn (l := [(10 : Int), 64]) c40 c41
      have hb1 : 1 ≤ b1 ∧ b1 ≤ 64 := by simp at m3; omega
      refine ⟨b1, e3, ?_⟩
      refine Cut.of g7 (by omega) (by omega) (by omega) fun c5 M11 c50 c51 g8 _ => ?_
      refine Cut.of g8 (by omega) (by decide) (by decide) fun c6 M12 c60 c61 g9 _ => ?_
      refine Cut.of g9 (by omega) (by omega) (by omega) fun c7 M13 c70 c71 g10 _ => ⟨size_small (show 3 ≤ 100000 by decide), ?_⟩
      refine Cut.of g10 (by omega) (by decide) (by decide) fun c8 M14 c80 c81 g11 _ => ?_
      obtain ⟨b2, e4, m4⟩ := drawn (l := [(0 : Int), c6, c7]) c80 c81
      have hb2 : 0 ≤ b2 ∧ b2 ≤ 1000 - (1 + c5) := by simp at m4; omega
      refine ⟨b2, e4, ?_⟩
      have tw : IsText ws := hw.text (by omega)
      have tm : IsText mate := hm.text (by omega)
      have lw := tw.len
      refine for_inv2 ?_
      simp only [↓dItems, ↓dSeq, ↓dNext, ↓dIfS, ↓dRet, ↓dRetV, ↓dRetN, ↓dRetM, ↓dSet, ↓dAsg, ↓dOwn, ↓dOwnD, ↓dParOI, ↓dParII, ↓dAug, ↓dApp, ↓dPutL, ↓dPutS, ↓dPutM, ↓dUpd, ↓dfRg2, ↓kRepr, ↓kSortedD, ↓dDrop, ↓dNever, ↓dFrz, ↓frz, ↓dgName, ↓dgNil, ↓dgCons, ↓dgTup, ↓dVar, ↓dVarB, ↓dC, ↓dOp, ↓dOpF, ↓dUn, ↓dTest, ↓dChain, ↓dAnd, ↓dOr, ↓dNot, ↓dTru, ↓truD, ↓dAndV, ↓dOrV, ↓dNotV, ↓dIf, ↓daNil, ↓daCons, ↓dTup, ↓dfLst, ↓dLst, ↓dNoPart, ↓dPart, ↓dfSl, ↓dSlS, ↓dCall, ↓dfCall, ↓dFn, ↓dFnK, ↓dYes, ↓kAdd, ↓kSub, ↓kMul, ↓kDiv, ↓kMod, ↓kPow, ↓kCat, ↓kRep, ↓kNeg, ↓kLt, ↓kLe, ↓kGt, ↓kGe, ↓kIsN, ↓kNotN, ↓kIsB, ↓isNon, ↓kLen, ↓kAll, ↓kAny, ↓kMax, ↓kMin, ↓kAbs, ↓kInt, ↓kStr, ↓kList, ↓kSortedI, ↓kIsi, isD, kit_int_int, kit_bool_int, kit_int_bool, kit_bool_bool, List.getElem?_cons_zero, List.getElem?_cons_succ, List.set_cons_zero, List.set_cons_succ, List.nil_append, List.cons_append, List.append_nil, Option.some.injEq, exists_eq_left', exists_eq_left, exists_and_left, exists_eq_right, Bool.not_true, Bool.not_false, Bool.false_eq_true, if_true, if_false, and_true, true_and, D.int.injEq, D.lst.injEq, D.bl.injEq, D.str.injEq, D.raw.injEq, D.tup.injEq, ite_true, ite_false, reduceIte, ↓ix_ints, ↓ix_i2, ↓ix_i3, ↓ix_i4, ↓ix_l2, ↓ix_l3, ↓words_call, ↓changed_call, ↓digits_call, ↓eq_int, ↓ne_int, ↓eq_bl, ↓ne_bl, ↓eq_ints, ↓ne_ints, ↓sum_ints, ↓cut_call, List.length_map]
      refine ⟨size_small (show 2 ≤ 100000 by decide), size_small (show 2 ≤ 100000 by decide), size_small (show 2 ≤ 100000 by decide), size_small (show 2 ≤ 100000 by decide), size_small (show 4 ≤ 100000 by decide), ?_⟩
      have hds : ∀ (k : Nat) (d : D), ([.tup [dInts ws, dInts mate], .tup [dInts mate, dInts ws], .tup [dInts ws, dInts ws], .tup [dInts ws, dInts ws]] : List D)[k]? = some d → ∃ a b, d = .tup [dInts a, dInts b] ∧ IsText a ∧ IsText b := fun k d h => by
        have := List.mem_of_getElem? h
        simp only [List.mem_cons, List.mem_nil_iff, or_false] at this
        rcases this with rfl | rfl | rfl | rfl
        · exact ⟨_, _, rfl, tw, tm⟩
        · exact ⟨_, _, rfl, tm, tw⟩
        · exact ⟨_, _, rfl, tw, tw⟩
        · exact ⟨_, _, rfl, tw, tw⟩
      refine ⟨fun k δ M' => M' = M14 ∧ ∃ (x9 x10 : Slot), δ = [.im (.scr ns), .im (.int (0 + i)), .im (.raw (.ref p)), .im (.int (0 + j)), .im (.int (1 + c1)), .im (dInts ws), .im (dInts mate), .im (.int (1 + c5)), .im (.int (1 + c5 + b2)), x9, x10, x11, x12], ⟨rfl, x9, x10, rfl⟩, ?_, ?_⟩
      · rintro k d δ M15 hd ⟨rfl, x9, x10, rfl⟩
        obtain ⟨a, b, rfl, ta, tb⟩ := hds k d hd
        simp only [↓dSeq, ↓dNext, ↓dIfS, ↓dRet, ↓dRetV, ↓dRetN, ↓dRetM, ↓dSet, ↓dAsg, ↓dOwn, ↓dOwnD, ↓dParOI, ↓dParII, ↓dAug, ↓dApp, ↓dPutL, ↓dPutS, ↓dPutM, ↓dUpd, ↓dfRg2, ↓kRepr, ↓kSortedD, ↓dDrop, ↓dNever, ↓dFrz, ↓frz, ↓dgName, ↓dgNil, ↓dgCons, ↓dgTup, ↓dVar, ↓dVarB, ↓dC, ↓dOp, ↓dOpF, ↓dUn, ↓dTest, ↓dChain, ↓dAnd, ↓dOr, ↓dNot, ↓dTru, ↓truD, ↓dAndV, ↓dOrV, ↓dNotV, ↓dIf, ↓daNil, ↓daCons, ↓dTup, ↓dfLst, ↓dLst, ↓dNoPart, ↓dPart, ↓dfSl, ↓dSlS, ↓dCall, ↓dfCall, ↓dFn, ↓dFnK, ↓dYes, ↓kAdd, ↓kSub, ↓kMul, ↓kDiv, ↓kMod, ↓kPow, ↓kCat, ↓kRep, ↓kNeg, ↓kLt, ↓kLe, ↓kGt, ↓kGe, ↓kIsN, ↓kNotN, ↓kIsB, ↓isNon, ↓kLen, ↓kAll, ↓kAny, ↓kMax, ↓kMin, ↓kAbs, ↓kInt, ↓kStr, ↓kList, ↓kSortedI, ↓kIsi, isD, kit_int_int, kit_bool_int, kit_int_bool, kit_bool_bool, List.getElem?_cons_zero, List.getElem?_cons_succ, List.set_cons_zero, List.set_cons_succ, List.nil_append, List.cons_append, List.append_nil, Option.some.injEq, exists_eq_left', exists_eq_left, exists_and_left, exists_eq_right, Bool.not_true, Bool.not_false, Bool.false_eq_true, if_true, if_false, and_true, true_and, D.int.injEq, D.lst.injEq, D.bl.injEq, D.str.injEq, D.raw.injEq, D.tup.injEq, ite_true, ite_false, reduceIte, ↓ix_ints, ↓ix_i2, ↓ix_i3, ↓ix_i4, ↓ix_l2, ↓ix_l3, ↓words_call, ↓changed_call, ↓digits_call, ↓eq_int, ↓ne_int, ↓eq_bl, ↓ne_bl, ↓eq_ints, ↓ne_ints, ↓sum_ints, ↓cut_call, List.length_map, ↓right_call]
        exact ⟨rfl, a, b, _, _, rfl, rfl, rfl, rfl, ⟨ta, tb, by omega, by omega, by omega⟩, _, _, rfl⟩
      · rintro δ M15 ⟨rfl, x9, x10, rfl⟩
        exact ⟨_, _, _, _, _, _, _, _, _, _, rfl, g11.mono (by omega)⟩
    · rintro δ M3 ⟨x3, x4, x5, x6, x7, x8, x9, x10, x11, x12, rfl, hdig⟩
      exact ⟨_, _, _, _, _, _, _, _, _, _, _, _, rfl⟩
  · rintro δ M1 ⟨x1, x2, x3, x4, x5, x6, x7, x8, x9, x10, x11, x12, rfl⟩
    simp only [↓dSeq, ↓dNext, ↓dIfS, ↓dRet, ↓dRetV, ↓dRetN, ↓dRetM, ↓dSet, ↓dAsg, ↓dOwn, ↓dOwnD, ↓dParOI, ↓dParII, ↓dAug, ↓dApp, ↓dPutL, ↓dPutS, ↓dPutM, ↓dUpd, ↓dfRg2, ↓kRepr, ↓kSortedD, ↓dDrop, ↓dNever, ↓dFrz, ↓frz, ↓dgName, ↓dgNil, ↓dgCons, ↓dgTup, ↓dVar, ↓dVarB, ↓dC, ↓dOp, ↓dOpF, ↓dUn, ↓dTest, ↓dChain, ↓dAnd, ↓dOr, ↓dNot, ↓dTru, ↓truD, ↓dAndV, ↓dOrV, ↓dNotV, ↓dIf, ↓daNil, ↓daCons, ↓dTup, ↓dfLst, ↓dLst, ↓dNoPart, ↓dPart, ↓dfSl, ↓dSlS, ↓dCall, ↓dfCall, ↓dFn, ↓dFnK, ↓dYes, ↓kAdd, ↓kSub, ↓kMul, ↓kDiv, ↓kMod, ↓kPow, ↓kCat, ↓kRep, ↓kNeg, ↓kLt, ↓kLe, ↓kGt, ↓kGe, ↓kIsN, ↓kNotN, ↓kIsB, ↓isNon, ↓kLen, ↓kAll, ↓kAny, ↓kMax, ↓kMin, ↓kAbs, ↓kInt, ↓kStr, ↓kList, ↓kSortedI, ↓kIsi, isD, kit_int_int, kit_bool_int, kit_int_bool, kit_bool_bool, List.getElem?_cons_zero, List.getElem?_cons_succ, List.set_cons_zero, List.set_cons_succ, List.nil_append, List.cons_append, List.append_nil, Option.some.injEq, exists_eq_left', exists_eq_left, exists_and_left, exists_eq_right, Bool.not_true, Bool.not_false, Bool.false_eq_true, if_true, if_false, and_true, true_and, D.int.injEq, D.lst.injEq, D.bl.injEq, D.str.injEq, D.raw.injEq, D.tup.injEq, ite_true, ite_false, reduceIte, ↓ix_ints, ↓ix_i2, ↓ix_i3, ↓ix_i4, ↓ix_l2, ↓ix_l3, ↓words_call, ↓changed_call, ↓digits_call, ↓eq_int, ↓ne_int, ↓eq_bl, ↓ne_bl, ↓eq_ints, ↓ne_ints, ↓sum_ints, ↓cut_call, List.length_map, ↓right_call, ↓sep_call, ↓alike_call]
    refine ⟨by decide, by decide, hb, fun p M2 _ hdig _ => ?_⟩
    refine ⟨0, by decide, by decide, by decide, hdig, by decide, fun ws M3 hw hx g1 _ => ?_⟩
    have tw := hw.text (Int.le_refl _)
    have lw := tw.len
    have lw2 : 2 ≤ ws.length := by
      have h1 := List.length_pos_iff.mpr hw.ne
      have h2 := hw.tot
      match ws, h1, h2, hx with
      | [x], _, h2, hx =>
        have := hx x (by simp)
        simp [totalOf] at h2
        omega
      | _ :: _ :: _, _, _, _ => simp
    refine Cut.of g1 (by omega) (by omega) (by omega) fun at_ M4 a0 a1 g2 _ => ?_
    obtain ⟨a, ha, ha'⟩ := atI_get (l := ws) (i := at_) a0 (by omega)
    obtain ⟨b, hb2, hb'⟩ := atI_get (l := ws) (i := at_ + 1) (by omega) (by omega)
    have hap := hw.pos a (atI_mem ha)
    have hbp := hw.pos b (atI_mem hb2)
    have hcut := cut_at ha'
    have e : ws.drop (at_.toNat + 1) = b :: ws.drop (at_.toNat + 2) := by
      rw [show (at_ + 1).toNat = at_.toNat + 1 by omega] at hb'
      obtain ⟨hlt, hget⟩ := List.getElem?_eq_some_iff.mp hb'
      rw [List.drop_eq_getElem_cons hlt, hget]
    have hmate : TextOf (ws.take at_.toNat ++ [a + 1 + b] ++ ws.drop (at_.toNat + 2)) 600 := by
      have := text_put (l := ws.take at_.toNat) (old := [a, b]) (r := ws.drop (at_.toNat + 2)) (new := [a + 1 + b]) (by rw [e] at hcut; rw [List.append_assoc]; exact hcut) hw (by simp) (by intro x hx; simp at hx; omega) 0 (by simp; omega)
      simpa using this
    have e1 : cutD (ws.map D.int) none (some at_) = (ws.take at_.toNat).map .int := by
      unfold cutD
      rw [HT.sIx_none, List.length_map]
      have : HT.sIx ws.length ws.length (some at_) = at_.toNat := by simp only [HT.sIx]; rw [if_neg (by omega)]; omega
      rw [this, List.drop_zero, Nat.sub_zero, List.map_take]
    have e2 : cutD (ws.map D.int) (some (at_ + 2)) none = (ws.drop (at_.toNat + 2)).map .int := by
      unfold cutD
      rw [HT.sIx_none, List.length_map]
      have : HT.sIx ws.length 0 (some (at_ + 2)) = at_.toNat + 2 := by simp only [HT.sIx]; rw [if_neg (by omega)]; omega
      rw [this, List.take_of_length_le (by rw [List.length_drop, List.length_map]; exact Nat.le_refl _), List.map_drop]
    rw [e1, e2]
    refine ⟨a, ha, b, hb2, one_small, ?_, ?_, ?_⟩
    · rw [List.length_map, List.length_take]
      exact size_small (show min at_.toNat ws.length + 1 ≤ 100000 by omega)
    · rw [List.length_append, List.length_map, List.length_map, List.length_take, List.length_drop]
      exact size_small (show min at_.toNat ws.length + 1 + (ws.length - (at_.toNat + 2)) ≤ 100000 by omega)
    have e3 : (ws.take at_.toNat).map D.int ++ [.int (a + 1 + b)] ++ (ws.drop (at_.toNat + 2)).map .int = (ws.take at_.toNat ++ [a + 1 + b] ++ ws.drop (at_.toNat + 2)).map .int := by simp
    rw [e3]
    generalize ws.take at_.toNat ++ [a + 1 + b] ++ ws.drop (at_.toNat + 2) = mate at hmate
    have tm := hmate.text (Int.le_refl _)
    simp only [↓later, ↓dSeq, ↓dNext, ↓dIfS, ↓dRet, ↓dRetV, ↓dRetN, ↓dRetM, ↓dSet, ↓dAsg, ↓dOwn, ↓dOwnD, ↓dParOI, ↓dParII, ↓dAug, ↓dApp, ↓dPutL, ↓dPutS, ↓dPutM, ↓dUpd, ↓dfRg2, ↓kRepr, ↓kSortedD, ↓dDrop, ↓dNever, ↓dFrz, ↓frz, ↓dgName, ↓dgNil, ↓dgCons, ↓dgTup, ↓dVar, ↓dVarB, ↓dC, ↓dOp, ↓dOpF, ↓dUn, ↓dTest, ↓dChain, ↓dAnd, ↓dOr, ↓dNot, ↓dTru, ↓truD, ↓dAndV, ↓dOrV, ↓dNotV, ↓dIf, ↓daNil, ↓daCons, ↓dTup, ↓dfLst, ↓dLst, ↓dNoPart, ↓dPart, ↓dfSl, ↓dSlS, ↓dCall, ↓dfCall, ↓dFn, ↓dFnK, ↓dYes, ↓kAdd, ↓kSub, ↓kMul, ↓kDiv, ↓kMod, ↓kPow, ↓kCat, ↓kRep, ↓kNeg, ↓kLt, ↓kLe, ↓kGt, ↓kGe, ↓kIsN, ↓kNotN, ↓kIsB, ↓isNon, ↓kLen, ↓kAll, ↓kAny, ↓kMax, ↓kMin, ↓kAbs, ↓kInt, ↓kStr, ↓kList, ↓kSortedI, ↓kIsi, isD, kit_int_int, kit_bool_int, kit_int_bool, kit_bool_bool, List.getElem?_cons_zero, List.getElem?_cons_succ, List.set_cons_zero, List.set_cons_succ, List.nil_append, List.cons_append, List.append_nil, Option.some.injEq, exists_eq_left', exists_eq_left, exists_and_left, exists_eq_right, Bool.not_true, Bool.not_false, Bool.false_eq_true, if_true, if_false, and_true, true_and, D.int.injEq, D.lst.injEq, D.bl.injEq, D.str.injEq, D.raw.injEq, D.tup.injEq, ite_true, ite_false, reduceIte, ↓ix_ints, ↓ix_i2, ↓ix_i3, ↓ix_i4, ↓ix_l2, ↓ix_l3, ↓words_call, ↓changed_call, ↓digits_call, ↓eq_int, ↓ne_int, ↓eq_bl, ↓ne_bl, ↓eq_ints, ↓ne_ints, ↓sum_ints, ↓cut_call, List.length_map, ↓right_call, ↓sep_call, ↓alike_call]
    refine Cut.of g2 (by omega) (by decide) (by decide) fun c M5 c0 c1 g3 _ => ?_
    refine ⟨ws, mate, _, _, rfl, rfl, rfl, rfl, ⟨tw, tm, by omega, by omega, by omega⟩, mate, ws, _, _, rfl, rfl, rfl, rfl, ⟨tm, tw, by omega, by omega, by omega⟩, size_small (show 5 ≤ 100000 by decide), size_small (show 4 ≤ 100000 by decide), ?_⟩
    have s1 : sepOf [1, 1, 1, 1, 1] [3, 1, 1, 1] 2 9 = some 2 := by decide +kernel
    refine ⟨[1, 1, 1, 1, 1], [3, 1, 1, 1], 2, 9, rfl, rfl, rfl, rfl, ⟨⟨by decide, by decide, by decide⟩, ⟨by decide, by decide, by decide⟩, by decide, by decide, by decide⟩, ?_⟩
    rw [s1]
    refine kEq_int ?_
    simp only [decide_true, if_true]
    refine ⟨one_small, one_small, [600], [600], 1, 1000, rfl, rfl, rfl, rfl, ⟨⟨by decide, by decide, by decide⟩, ⟨by decide, by decide, by decide⟩, by decide, by decide, by decide⟩, ?_⟩
    have s2 : sepOf [600] [600] 1 1000 = none := sepOf_none.mpr fun _ _ _ => rfl
    rw [s2]
    exact q M5
end DL

/-! the joining text of k39: where each def stands, its promise kept, what the top has left, the end. -/
namespace DL
open PySem PySem.Spec PyProof.Rows L2
variable [Cls]
def topS (i : Nat) : Stmt := PySem.Challenge.pw_wrapclues_k39_texts_that_are_alike.main.body.getD i (.Pass ⟨0, 0, 0, 0⟩)
abbrev st_is_integer : Stmt := topS 7
abbrev st_total_of : Stmt := topS 9
abbrev st_ends_of : Stmt := topS 13
abbrev st_starts_of : Stmt := topS 14
abbrev st_wrapped_ends : Stmt := topS 16
abbrev st__law_digits : Stmt := topS 27
abbrev st__law_cut : Stmt := topS 28
abbrev st__law_wrap : Stmt := topS 29
abbrev st_is_width : Stmt := topS 8
abbrev st_are_lengths : Stmt := topS 10
abbrev st_lengths_of : Stmt := topS 15
abbrev st_widths_of : Stmt := topS 20
abbrev st__law_words : Stmt := topS 30
abbrev st__law_changed : Stmt := topS 32
abbrev st_is_text : Stmt := topS 11
abbrev st_wrap_of : Stmt := topS 17
abbrev st_require_range : Stmt := topS 19
abbrev st_require_text : Stmt := topS 12
abbrev st_visible_in : Stmt := topS 21
abbrev st_core_in : Stmt := topS 22
abbrev st_require_pair : Stmt := topS 23
abbrev st_are_alike : Stmt := topS 24
abbrev st_separating_width : Stmt := topS 25
abbrev st__law_same : Stmt := topS 31
abbrev st__law_right : Stmt := topS 33
abbrev st_law : Stmt := topS 34
theorem len_is_integer : ∀ ds M Q X', F_is_integer ds M Q X' → ds.length = 3 := by
  intro ds M Q X' h
  unfold F_is_integer at h
  repeat first | (obtain ⟨h0, _⟩ := h; subst h0; rfl) | (obtain ⟨_, h⟩ := h)
theorem sc_is_integer : FnScope N_is_integer ["value", "low", "high"] (defScope st_is_integer) := ⟨rfl, rfl, rfl, by decide +kernel, rfl, by decide +kernel, by decide +kernel⟩
theorem len_total_of : ∀ ds M Q X', F_total_of ds M Q X' → ds.length = 1 := by
  intro ds M Q X' h
  unfold F_total_of at h
  repeat first | (obtain ⟨h0, _⟩ := h; subst h0; rfl) | (obtain ⟨_, h⟩ := h)
theorem sc_total_of : FnScope N_total_of ["lengths"] (defScope st_total_of) := ⟨rfl, rfl, rfl, by decide +kernel, rfl, by decide +kernel, by decide +kernel⟩
theorem len_ends_of : ∀ ds M Q X', F_ends_of ds M Q X' → ds.length = 1 := by
  intro ds M Q X' h
  unfold F_ends_of at h
  repeat first | (obtain ⟨h0, _⟩ := h; subst h0; rfl) | (obtain ⟨_, h⟩ := h)
theorem sc_ends_of : FnScope N_ends_of ["lengths"] (defScope st_ends_of) := ⟨rfl, rfl, rfl, by decide +kernel, rfl, by decide +kernel, by decide +kernel⟩
theorem len_starts_of : ∀ ds M Q X', F_starts_of ds M Q X' → ds.length = 1 := by
  intro ds M Q X' h
  unfold F_starts_of at h
  repeat first | (obtain ⟨h0, _⟩ := h; subst h0; rfl) | (obtain ⟨_, h⟩ := h)
theorem sc_starts_of : FnScope N_starts_of ["ends"] (defScope st_starts_of) := ⟨rfl, rfl, rfl, by decide +kernel, rfl, by decide +kernel, by decide +kernel⟩
theorem len_wrapped_ends : ∀ ds M Q X', F_wrapped_ends ds M Q X' → ds.length = 2 := by
  intro ds M Q X' h
  unfold F_wrapped_ends at h
  repeat first | (obtain ⟨h0, _⟩ := h; subst h0; rfl) | (obtain ⟨_, h⟩ := h)
theorem sc_wrapped_ends : FnScope N_wrapped_ends ["stops", "width"] (defScope st_wrapped_ends) := ⟨rfl, rfl, rfl, by decide +kernel, rfl, by decide +kernel, by decide +kernel⟩
theorem len__law_digits : ∀ ds M Q X', F__law_digits ds M Q X' → ds.length = 2 := by
  intro ds M Q X' h
  unfold F__law_digits at h
  repeat first | (obtain ⟨h0, _⟩ := h; subst h0; rfl) | (obtain ⟨_, h⟩ := h)
theorem sc__law_digits : FnScope N__law_digits ["script", "k"] (defScope st__law_digits) := ⟨rfl, rfl, rfl, by decide +kernel, rfl, by decide +kernel, by decide +kernel⟩
theorem len__law_cut : ∀ ds M Q X', F__law_cut ds M Q X' → ds.length = 2 := by
  intro ds M Q X' h
  unfold F__law_cut at h
  repeat first | (obtain ⟨h0, _⟩ := h; subst h0; rfl) | (obtain ⟨_, h⟩ := h)
theorem sc__law_cut : FnScope N__law_cut ["digits", "bound"] (defScope st__law_cut) := ⟨rfl, rfl, rfl, by decide +kernel, rfl, by decide +kernel, by decide +kernel⟩
theorem len__law_wrap : ∀ ds M Q X', F__law_wrap ds M Q X' → ds.length = 2 := by
  intro ds M Q X' h
  unfold F__law_wrap at h
  repeat first | (obtain ⟨h0, _⟩ := h; subst h0; rfl) | (obtain ⟨_, h⟩ := h)
theorem sc__law_wrap : FnScope N__law_wrap ["words", "most"] (defScope st__law_wrap) := ⟨rfl, rfl, rfl, by decide +kernel, rfl, by decide +kernel, by decide +kernel⟩
theorem len_is_width : ∀ ds M Q X', F_is_width ds M Q X' → ds.length = 1 := by
  intro ds M Q X' h
  unfold F_is_width at h
  repeat first | (obtain ⟨h0, _⟩ := h; subst h0; rfl) | (obtain ⟨_, h⟩ := h)
theorem sc_is_width : FnScope N_is_width ["value"] (defScope st_is_width) := ⟨rfl, rfl, rfl, by decide +kernel, rfl, by decide +kernel, by decide +kernel⟩
theorem len_are_lengths : ∀ ds M Q X', F_are_lengths ds M Q X' → ds.length = 1 := by
  intro ds M Q X' h
  unfold F_are_lengths at h
  repeat first | (obtain ⟨h0, _⟩ := h; subst h0; rfl) | (obtain ⟨_, h⟩ := h)
theorem sc_are_lengths : FnScope N_are_lengths ["value"] (defScope st_are_lengths) := ⟨rfl, rfl, rfl, by decide +kernel, rfl, by decide +kernel, by decide +kernel⟩
theorem len_lengths_of : ∀ ds M Q X', F_lengths_of ds M Q X' → ds.length = 1 := by
  intro ds M Q X' h
  unfold F_lengths_of at h
  repeat first | (obtain ⟨h0, _⟩ := h; subst h0; rfl) | (obtain ⟨_, h⟩ := h)
theorem sc_lengths_of : FnScope N_lengths_of ["ends"] (defScope st_lengths_of) := ⟨rfl, rfl, rfl, by decide +kernel, rfl, by decide +kernel, by decide +kernel⟩
theorem len_widths_of : ∀ ds M Q X', F_widths_of ds M Q X' → ds.length = 3 := by
  intro ds M Q X' h
  unfold F_widths_of at h
  repeat first | (obtain ⟨h0, _⟩ := h; subst h0; rfl) | (obtain ⟨_, h⟩ := h)
theorem sc_widths_of : FnScope N_widths_of ["text", "low", "high"] (defScope st_widths_of) := ⟨rfl, rfl, rfl, by decide +kernel, rfl, by decide +kernel, by decide +kernel⟩
theorem len__law_words : ∀ ds M Q X', F__law_words ds M Q X' → ds.length = 3 := by
  intro ds M Q X' h
  unfold F__law_words at h
  repeat first | (obtain ⟨h0, _⟩ := h; subst h0; rfl) | (obtain ⟨_, h⟩ := h)
theorem sc__law_words : FnScope N__law_words ["digits", "size", "wide"] (defScope st__law_words) := ⟨rfl, rfl, rfl, by decide +kernel, rfl, by decide +kernel, by decide +kernel⟩
theorem len__law_changed : ∀ ds M Q X', F__law_changed ds M Q X' → ds.length = 2 := by
  intro ds M Q X' h
  unfold F__law_changed at h
  repeat first | (obtain ⟨h0, _⟩ := h; subst h0; rfl) | (obtain ⟨_, h⟩ := h)
theorem sc__law_changed : FnScope N__law_changed ["digits", "words"] (defScope st__law_changed) := ⟨rfl, rfl, rfl, by decide +kernel, rfl, by decide +kernel, by decide +kernel⟩
theorem len_is_text : ∀ ds M Q X', F_is_text ds M Q X' → ds.length = 1 := by
  intro ds M Q X' h
  unfold F_is_text at h
  repeat first | (obtain ⟨h0, _⟩ := h; subst h0; rfl) | (obtain ⟨_, h⟩ := h)
theorem sc_is_text : FnScope N_is_text ["value"] (defScope st_is_text) := ⟨rfl, rfl, rfl, by decide +kernel, rfl, by decide +kernel, by decide +kernel⟩
theorem len_wrap_of : ∀ ds M Q X', F_wrap_of ds M Q X' → ds.length = 2 := by
  intro ds M Q X' h
  unfold F_wrap_of at h
  repeat first | (obtain ⟨h0, _⟩ := h; subst h0; rfl) | (obtain ⟨_, h⟩ := h)
theorem sc_wrap_of : FnScope N_wrap_of ["text", "width"] (defScope st_wrap_of) := ⟨rfl, rfl, rfl, by decide +kernel, rfl, by decide +kernel, by decide +kernel⟩
theorem len_require_range : ∀ ds M Q X', F_require_range ds M Q X' → ds.length = 2 := by
  intro ds M Q X' h
  unfold F_require_range at h
  repeat first | (obtain ⟨h0, _⟩ := h; subst h0; rfl) | (obtain ⟨_, h⟩ := h)
theorem sc_require_range : FnScope N_require_range ["low", "high"] (defScope st_require_range) := ⟨rfl, rfl, rfl, by decide +kernel, rfl, by decide +kernel, by decide +kernel⟩
theorem len_require_text : ∀ ds M Q X', F_require_text ds M Q X' → ds.length = 1 := by
  intro ds M Q X' h
  unfold F_require_text at h
  repeat first | (obtain ⟨h0, _⟩ := h; subst h0; rfl) | (obtain ⟨_, h⟩ := h)
theorem sc_require_text : FnScope N_require_text ["text"] (defScope st_require_text) := ⟨rfl, rfl, rfl, by decide +kernel, rfl, by decide +kernel, by decide +kernel⟩
theorem len_visible_in : ∀ ds M Q X', F_visible_in ds M Q X' → ds.length = 3 := by
  intro ds M Q X' h
  unfold F_visible_in at h
  repeat first | (obtain ⟨h0, _⟩ := h; subst h0; rfl) | (obtain ⟨_, h⟩ := h)
theorem sc_visible_in : FnScope N_visible_in ["text", "low", "high"] (defScope st_visible_in) := ⟨rfl, rfl, rfl, by decide +kernel, rfl, by decide +kernel, by decide +kernel⟩
theorem len_core_in : ∀ ds M Q X', F_core_in ds M Q X' → ds.length = 3 := by
  intro ds M Q X' h
  unfold F_core_in at h
  repeat first | (obtain ⟨h0, _⟩ := h; subst h0; rfl) | (obtain ⟨_, h⟩ := h)
theorem sc_core_in : FnScope N_core_in ["text", "low", "high"] (defScope st_core_in) := ⟨rfl, rfl, rfl, by decide +kernel, rfl, by decide +kernel, by decide +kernel⟩
theorem len_require_pair : ∀ ds M Q X', F_require_pair ds M Q X' → ds.length = 4 := by
  intro ds M Q X' h
  unfold F_require_pair at h
  repeat first | (obtain ⟨h0, _⟩ := h; subst h0; rfl) | (obtain ⟨_, h⟩ := h)
theorem sc_require_pair : FnScope N_require_pair ["text", "other", "low", "high"] (defScope st_require_pair) := ⟨rfl, rfl, rfl, by decide +kernel, rfl, by decide +kernel, by decide +kernel⟩
theorem len_are_alike : ∀ ds M Q X', F_are_alike ds M Q X' → ds.length = 4 := by
  intro ds M Q X' h
  unfold F_are_alike at h
  repeat first | (obtain ⟨h0, _⟩ := h; subst h0; rfl) | (obtain ⟨_, h⟩ := h)
theorem sc_are_alike : FnScope N_are_alike ["text", "other", "low", "high"] (defScope st_are_alike) := ⟨rfl, rfl, rfl, by decide +kernel, rfl, by decide +kernel, by decide +kernel⟩
theorem len_separating_width : ∀ ds M Q X', F_separating_width ds M Q X' → ds.length = 4 := by
  intro ds M Q X' h
  unfold F_separating_width at h
  repeat first | (obtain ⟨h0, _⟩ := h; subst h0; rfl) | (obtain ⟨_, h⟩ := h)
theorem sc_separating_width : FnScope N_separating_width ["text", "other", "low", "high"] (defScope st_separating_width) := ⟨rfl, rfl, rfl, by decide +kernel, rfl, by decide +kernel, by decide +kernel⟩
theorem sc__law_same : FnScope N__law_same ["found", "due"] (defScope st__law_same) := ⟨rfl, rfl, rfl, by decide +kernel, rfl, by decide +kernel, by decide +kernel⟩
theorem len__law_right : ∀ ds M Q X', F__law_right ds M Q X' → ds.length = 4 := by
  intro ds M Q X' h
  unfold F__law_right at h
  repeat first | (obtain ⟨h0, _⟩ := h; subst h0; rfl) | (obtain ⟨_, h⟩ := h)
theorem sc__law_right : FnScope N__law_right ["words", "mate", "bottom", "top"] (defScope st__law_right) := ⟨rfl, rfl, rfl, by decide +kernel, rfl, by decide +kernel, by decide +kernel⟩
theorem len_law : ∀ ds M Q X', F_law ds M Q X' → ds.length = 1 := by
  intro ds M Q X' h
  unfold F_law at h
  repeat first | (obtain ⟨h0, _⟩ := h; subst h0; rfl) | (obtain ⟨_, h⟩ := h)
theorem sc_law : FnScope N_law ["script"] (defScope st_law) := ⟨rfl, rfl, rfl, by decide +kernel, rfl, by decide +kernel, by decide +kernel⟩
structure Txt (K : PySem.W.Frag) (mg : Str → Option Value) where
  a_is_integer : Addr
  fd_is_integer : FuncData
  f_is_integer : FunD K "is_integer" "is_integer" (defArgs st_is_integer) (defBody st_is_integer) (defScope st_is_integer) [V.non] [] a_is_integer fd_is_integer
  m_is_integer : mg "is_integer" = some (.ref a_is_integer)
  k_is_integer : PySem.W.keepIn K (.ref a_is_integer) = true
  b_is_integer : Binds K fd_is_integer ["value", "low", "high"] []
  b_2_is_integer : ∃ ds, Vals [V.non] ds ∧ Binds K fd_is_integer ["value", "low", "high"] ds
  a_total_of : Addr
  fd_total_of : FuncData
  f_total_of : FunD K "total_of" "total_of" (defArgs st_total_of) (defBody st_total_of) (defScope st_total_of) [] [] a_total_of fd_total_of
  m_total_of : mg "total_of" = some (.ref a_total_of)
  k_total_of : PySem.W.keepIn K (.ref a_total_of) = true
  b_total_of : Binds K fd_total_of ["lengths"] []
  a_ends_of : Addr
  fd_ends_of : FuncData
  f_ends_of : FunD K "ends_of" "ends_of" (defArgs st_ends_of) (defBody st_ends_of) (defScope st_ends_of) [] [] a_ends_of fd_ends_of
  m_ends_of : mg "ends_of" = some (.ref a_ends_of)
  k_ends_of : PySem.W.keepIn K (.ref a_ends_of) = true
  b_ends_of : Binds K fd_ends_of ["lengths"] []
  a_starts_of : Addr
  fd_starts_of : FuncData
  f_starts_of : FunD K "starts_of" "starts_of" (defArgs st_starts_of) (defBody st_starts_of) (defScope st_starts_of) [] [] a_starts_of fd_starts_of
  m_starts_of : mg "starts_of" = some (.ref a_starts_of)
  k_starts_of : PySem.W.keepIn K (.ref a_starts_of) = true
  b_starts_of : Binds K fd_starts_of ["ends"] []
  a_wrapped_ends : Addr
  fd_wrapped_ends : FuncData
  f_wrapped_ends : FunD K "wrapped_ends" "wrapped_ends" (defArgs st_wrapped_ends) (defBody st_wrapped_ends) (defScope st_wrapped_ends) [] [] a_wrapped_ends fd_wrapped_ends
  m_wrapped_ends : mg "wrapped_ends" = some (.ref a_wrapped_ends)
  k_wrapped_ends : PySem.W.keepIn K (.ref a_wrapped_ends) = true
  b_wrapped_ends : Binds K fd_wrapped_ends ["stops", "width"] []
  a__law_digits : Addr
  fd__law_digits : FuncData
  f__law_digits : FunD K "_law_digits" "_law_digits" (defArgs st__law_digits) (defBody st__law_digits) (defScope st__law_digits) [] [] a__law_digits fd__law_digits
  m__law_digits : mg "_law_digits" = some (.ref a__law_digits)
  k__law_digits : PySem.W.keepIn K (.ref a__law_digits) = true
  b__law_digits : Binds K fd__law_digits ["script", "k"] []
  a__law_cut : Addr
  fd__law_cut : FuncData
  f__law_cut : FunD K "_law_cut" "_law_cut" (defArgs st__law_cut) (defBody st__law_cut) (defScope st__law_cut) [] [] a__law_cut fd__law_cut
  m__law_cut : mg "_law_cut" = some (.ref a__law_cut)
  k__law_cut : PySem.W.keepIn K (.ref a__law_cut) = true
  b__law_cut : Binds K fd__law_cut ["digits", "bound"] []
  a__law_wrap : Addr
  fd__law_wrap : FuncData
  f__law_wrap : FunD K "_law_wrap" "_law_wrap" (defArgs st__law_wrap) (defBody st__law_wrap) (defScope st__law_wrap) [] [] a__law_wrap fd__law_wrap
  m__law_wrap : mg "_law_wrap" = some (.ref a__law_wrap)
  k__law_wrap : PySem.W.keepIn K (.ref a__law_wrap) = true
  b__law_wrap : Binds K fd__law_wrap ["words", "most"] []
  a_is_width : Addr
  fd_is_width : FuncData
  f_is_width : FunD K "is_width" "is_width" (defArgs st_is_width) (defBody st_is_width) (defScope st_is_width) [] [] a_is_width fd_is_width
  m_is_width : mg "is_width" = some (.ref a_is_width)
  k_is_width : PySem.W.keepIn K (.ref a_is_width) = true
  b_is_width : Binds K fd_is_width ["value"] []
  a_are_lengths : Addr
  fd_are_lengths : FuncData
  f_are_lengths : FunD K "are_lengths" "are_lengths" (defArgs st_are_lengths) (defBody st_are_lengths) (defScope st_are_lengths) [] [] a_are_lengths fd_are_lengths
  m_are_lengths : mg "are_lengths" = some (.ref a_are_lengths)
  k_are_lengths : PySem.W.keepIn K (.ref a_are_lengths) = true
  b_are_lengths : Binds K fd_are_lengths ["value"] []
  a_lengths_of : Addr
  fd_lengths_of : FuncData
  f_lengths_of : FunD K "lengths_of" "lengths_of" (defArgs st_lengths_of) (defBody st_lengths_of) (defScope st_lengths_of) [] [] a_lengths_of fd_lengths_of
  m_lengths_of : mg "lengths_of" = some (.ref a_lengths_of)
  k_lengths_of : PySem.W.keepIn K (.ref a_lengths_of) = true
  b_lengths_of : Binds K fd_lengths_of ["ends"] []
  a_widths_of : Addr
  fd_widths_of : FuncData
  f_widths_of : FunD K "widths_of" "widths_of" (defArgs st_widths_of) (defBody st_widths_of) (defScope st_widths_of) [] [] a_widths_of fd_widths_of
  m_widths_of : mg "widths_of" = some (.ref a_widths_of)
  k_widths_of : PySem.W.keepIn K (.ref a_widths_of) = true
  b_widths_of : Binds K fd_widths_of ["text", "low", "high"] []
  a__law_words : Addr
  fd__law_words : FuncData
  f__law_words : FunD K "_law_words" "_law_words" (defArgs st__law_words) (defBody st__law_words) (defScope st__law_words) [] [] a__law_words fd__law_words
  m__law_words : mg "_law_words" = some (.ref a__law_words)
  k__law_words : PySem.W.keepIn K (.ref a__law_words) = true
  b__law_words : Binds K fd__law_words ["digits", "size", "wide"] []
  a__law_changed : Addr
  fd__law_changed : FuncData
  f__law_changed : FunD K "_law_changed" "_law_changed" (defArgs st__law_changed) (defBody st__law_changed) (defScope st__law_changed) [] [] a__law_changed fd__law_changed
  m__law_changed : mg "_law_changed" = some (.ref a__law_changed)
  k__law_changed : PySem.W.keepIn K (.ref a__law_changed) = true
  b__law_changed : Binds K fd__law_changed ["digits", "words"] []
  a_is_text : Addr
  fd_is_text : FuncData
  f_is_text : FunD K "is_text" "is_text" (defArgs st_is_text) (defBody st_is_text) (defScope st_is_text) [] [] a_is_text fd_is_text
  m_is_text : mg "is_text" = some (.ref a_is_text)
  k_is_text : PySem.W.keepIn K (.ref a_is_text) = true
  b_is_text : Binds K fd_is_text ["value"] []
  a_wrap_of : Addr
  fd_wrap_of : FuncData
  f_wrap_of : FunD K "wrap_of" "wrap_of" (defArgs st_wrap_of) (defBody st_wrap_of) (defScope st_wrap_of) [] [] a_wrap_of fd_wrap_of
  m_wrap_of : mg "wrap_of" = some (.ref a_wrap_of)
  k_wrap_of : PySem.W.keepIn K (.ref a_wrap_of) = true
  b_wrap_of : Binds K fd_wrap_of ["text", "width"] []
  a_require_range : Addr
  fd_require_range : FuncData
  f_require_range : FunD K "require_range" "require_range" (defArgs st_require_range) (defBody st_require_range) (defScope st_require_range) [] [] a_require_range fd_require_range
  m_require_range : mg "require_range" = some (.ref a_require_range)
  k_require_range : PySem.W.keepIn K (.ref a_require_range) = true
  b_require_range : Binds K fd_require_range ["low", "high"] []
  a_require_text : Addr
  fd_require_text : FuncData
  f_require_text : FunD K "require_text" "require_text" (defArgs st_require_text) (defBody st_require_text) (defScope st_require_text) [] [] a_require_text fd_require_text
  m_require_text : mg "require_text" = some (.ref a_require_text)
  k_require_text : PySem.W.keepIn K (.ref a_require_text) = true
  b_require_text : Binds K fd_require_text ["text"] []
  a_visible_in : Addr
  fd_visible_in : FuncData
  f_visible_in : FunD K "visible_in" "visible_in" (defArgs st_visible_in) (defBody st_visible_in) (defScope st_visible_in) [] [] a_visible_in fd_visible_in
  m_visible_in : mg "visible_in" = some (.ref a_visible_in)
  k_visible_in : PySem.W.keepIn K (.ref a_visible_in) = true
  b_visible_in : Binds K fd_visible_in ["text", "low", "high"] []
  a_core_in : Addr
  fd_core_in : FuncData
  f_core_in : FunD K "core_in" "core_in" (defArgs st_core_in) (defBody st_core_in) (defScope st_core_in) [] [] a_core_in fd_core_in
  m_core_in : mg "core_in" = some (.ref a_core_in)
  k_core_in : PySem.W.keepIn K (.ref a_core_in) = true
  b_core_in : Binds K fd_core_in ["text", "low", "high"] []
  a_require_pair : Addr
  fd_require_pair : FuncData
  f_require_pair : FunD K "require_pair" "require_pair" (defArgs st_require_pair) (defBody st_require_pair) (defScope st_require_pair) [] [] a_require_pair fd_require_pair
  m_require_pair : mg "require_pair" = some (.ref a_require_pair)
  k_require_pair : PySem.W.keepIn K (.ref a_require_pair) = true
  b_require_pair : Binds K fd_require_pair ["text", "other", "low", "high"] []
  a_are_alike : Addr
  fd_are_alike : FuncData
  f_are_alike : FunD K "are_alike" "are_alike" (defArgs st_are_alike) (defBody st_are_alike) (defScope st_are_alike) [] [] a_are_alike fd_are_alike
  m_are_alike : mg "are_alike" = some (.ref a_are_alike)
  k_are_alike : PySem.W.keepIn K (.ref a_are_alike) = true
  b_are_alike : Binds K fd_are_alike ["text", "other", "low", "high"] []
  a_separating_width : Addr
  fd_separating_width : FuncData
  f_separating_width : FunD K "separating_width" "separating_width" (defArgs st_separating_width) (defBody st_separating_width) (defScope st_separating_width) [] [] a_separating_width fd_separating_width
  m_separating_width : mg "separating_width" = some (.ref a_separating_width)
  k_separating_width : PySem.W.keepIn K (.ref a_separating_width) = true
  b_separating_width : Binds K fd_separating_width ["text", "other", "low", "high"] []
  a__law_same : Addr
  fd__law_same : FuncData
  f__law_same : FunD K "_law_same" "_law_same" (defArgs st__law_same) (defBody st__law_same) (defScope st__law_same) [] [] a__law_same fd__law_same
  m__law_same : mg "_law_same" = some (.ref a__law_same)
  k__law_same : PySem.W.keepIn K (.ref a__law_same) = true
  b__law_same : Binds K fd__law_same ["found", "due"] []
  a__law_right : Addr
  fd__law_right : FuncData
  f__law_right : FunD K "_law_right" "_law_right" (defArgs st__law_right) (defBody st__law_right) (defScope st__law_right) [] [] a__law_right fd__law_right
  m__law_right : mg "_law_right" = some (.ref a__law_right)
  k__law_right : PySem.W.keepIn K (.ref a__law_right) = true
  b__law_right : Binds K fd__law_right ["words", "mate", "bottom", "top"] []
  a_law : Addr
  fd_law : FuncData
  f_law : FunD K "law" "law" (defArgs st_law) (defBody st_law) (defScope st_law) [] [] a_law fd_law
  m_law : mg "law" = some (.ref a_law)
  k_law : PySem.W.keepIn K (.ref a_law) = true
  b_law : Binds K fd_law ["script"] []
  kw_are_alike_0_high_low_other_text : KwB K fd_are_alike ["text", "other", "low", "high"] ["high", "low", "other", "text"] kw_are_alike_0_high_low_other_text kw_are_alike_0_high_low_other_text
  kw_separating_width_0_high_low_other_text : KwB K fd_separating_width ["text", "other", "low", "high"] ["high", "low", "other", "text"] kw_separating_width_0_high_low_other_text kw_separating_width_0_high_low_other_text
  c_MAX_CHARACTERS : ∃ t, mg "MAX_CHARACTERS" = some (.int 600 t)
  c_MAX_WIDTH : ∃ t, mg "MAX_WIDTH" = some (.int 1000 t)
  b_len : mg "len" = none
  b_sum : mg "sum" = none
  b_all : mg "all" = none
  b_max : mg "max" = none
  b_min : mg "min" = none
  b_abs : mg "abs" = none
  b_sorted : mg "sorted" = none
  b_range : mg "range" = none
  b_zip : mg "zip" = none
  b_isinstance : mg "isinstance" = none
  b_int : mg "int" = none
  b_bool : mg "bool" = none
  b_str : mg "str" = none
  b_list : mg "list" = none
  b_tuple : mg "tuple" = none
  b_repr : mg "repr" = none
  e_InvalidText : ExcT K mg "InvalidText" Cls.InvalidText
  e_InvalidRange : ExcT K mg "InvalidRange" Cls.InvalidRange
section
variable {P : Program} {w : World} {K : PySem.W.Frag} {mg : Str → Option Value} {base : Heap}
theorem ok_is_integer (T : Txt K mg) : GFn P w K mg base 1 T.a_is_integer T.fd_is_integer ["value", "low", "high"] (liftSp K F_is_integer) :=
  dfn_of T.f_is_integer sc_is_integer len_is_integer t_is_integer (fun cdv A outer s H E O X' up xw hr hgd =>
    (dss_cons (ds_if (DW.pt (dw_or (dt_not (dt_truth (DE.toB (de_callB c_isi rfl T.b_isinstance (by decide +kernel) (dab_cons (db_var 0) (dab_cons (DE.toB (de_bltn rfl T.b_int (by decide +kernel))) dab_nil)))))) (dw_or1 (dt_truth (DE.toB (de_callB c_isi rfl T.b_isinstance (by decide +kernel) (dab_cons (db_var 0) (dab_cons (DE.toB (de_bltn rfl T.b_bool (by decide +kernel))) dab_nil)))))))) (dss_one (ds_ret de_bl)) dss_nil)
    (dss_one (ds_ret (de_and (de_cmp o_le (db_var 1) (db_var 0) (nomark _)) (de_one (de_or (de_cmp o_isN (db_var 2) (DE.toB de_non) (nomark _)) (de_one (de_cmp o_le (db_var 0) (db_var 2) (nomark _)))))))))) pure_is_integer
theorem ok_total_of (T : Txt K mg) : GFn P w K mg base 1 T.a_total_of T.fd_total_of ["lengths"] (liftSp K F_total_of) :=
  dfn_of T.f_total_of sc_total_of len_total_of t_total_of (fun cdv A outer s H E O X' up xw hr hgd =>
    (dss_one (ds_ret (de_op o_sub (DE.toB (de_op o_add (DE.toB (de_callB (c_sum rfl) rfl T.b_sum (by decide +kernel) (dab_cons (db_var 0) dab_nil))) (DE.toB (de_callB c_len rfl T.b_len (by decide +kernel) (dab_cons (db_var 0) dab_nil))))) (DE.toB de_int))))) pure_total_of
theorem ok_ends_of (T : Txt K mg) : GFn P w K mg base 1 T.a_ends_of T.fd_ends_of ["lengths"] (liftSp K F_ends_of) :=
  dfn_of T.f_ends_of sc_ends_of len_ends_of t_ends_of (fun cdv A outer s H E O X' up xw hr hgd =>
    (dss_cons (ds_parOI (i := 1) (j := 2) rfl sc_ends_of.nd rfl rfl (by decide) rfl rfl (df_lst da_nil) (de_un o_neg (DE.toB de_int)))
    (dss_cons (ds_for up (passes_of rfl) rfl (di_list (de_var 0)) (dg_name (i := 3) sc_ends_of.nd rfl (by first | exact .inl rfl | exact .inr rfl)) (dss_cons (ds_aug (i := 2) ip_add sc_ends_of.nd rfl (by first | exact .inl rfl | exact .inr rfl) (de_op o_add (DE.toB de_int) (db_var 3)))
    (dss_one (ds_app 1 (de_var 2)))))
    (dss_one (ds_retV 1))))) pure_ends_of
theorem ok_starts_of (T : Txt K mg) : GFn P w K mg base 1 T.a_starts_of T.fd_starts_of ["ends"] (liftSp K F_starts_of) :=
  dfn_of T.f_starts_of sc_starts_of len_starts_of t_starts_of (fun cdv A outer s H E O X' up xw hr hgd =>
    (dss_one (ds_ret (de_op o_add (DE.toB (DF.toE (df_lst (da_cons de_int da_nil)))) (DE.toB (DF.toE (df_lc (own := [("end", 1)]) rfl sc_starts_of.nd (di_list (DF.toE (df_slice (db_var 0) do_none (do_some (de_un o_neg (DE.toB de_int)))))) (blkOk_by (own := [("end", 1)]) (N := N_starts_of) (sc := defScope st_starts_of) (by decide +kernel)) (fun _ _ _ _ _ => (dg_name (i := 1) sc_starts_of.nd rfl (by first | exact .inl rfl | exact .inr rfl))) (fun _ _ _ _ _ => dts_nil) (fun _ _ _ _ _ => (de_op o_add (db_var 1) (DE.toB de_int)))))))))) pure_starts_of
theorem ok_wrapped_ends (T : Txt K mg) : GFn P w K mg base 1 T.a_wrapped_ends T.fd_wrapped_ends ["stops", "width"] (liftSp K F_wrapped_ends) :=
  dfn_of T.f_wrapped_ends sc_wrapped_ends len_wrapped_ends t_wrapped_ends (fun cdv A outer s H E O X' up xw hr hgd =>
    (dss_cons (ds_parOI (i := 2) (j := 3) rfl sc_wrapped_ends.nd rfl rfl (by decide) rfl rfl (df_lst da_nil) de_int)
    (dss_cons (ds_for up (passes_of rfl) rfl (di_zip rfl T.b_zip (da_cons (de_var 0) (da_cons (DF.toE (df_slice (db_var 0) (do_some de_int) do_none)) da_nil))) (dg_tup rfl (dgs_cons (dg_name (i := 4) sc_wrapped_ends.nd rfl (by first | exact .inl rfl | exact .inr rfl)) (dgs_cons (dg_name (i := 5) sc_wrapped_ends.nd rfl (by first | exact .inl rfl | exact .inr rfl)) dgs_nil))) (dss_one (ds_if (dt_cmp o_gt (db_var 5) (DE.toB (de_op o_add (db_var 3) (db_var 1))) (nomark _)) (dss_cons (ds_app 2 (de_var 4))
    (dss_one (ds_set (i := 3) sc_wrapped_ends.nd rfl (by first | exact .inl rfl | exact .inr rfl) (de_op o_add (db_var 4) (DE.toB de_int))))) dss_nil)))
    (dss_one (ds_ret (de_op o_add (db_var 2) (DE.toB (DF.toE (df_slice (db_var 0) (do_some (de_un o_neg (DE.toB de_int))) do_none))))))))) pure_wrapped_ends
theorem ok__law_digits (T : Txt K mg) : GFn P w K mg base 1 T.a__law_digits T.fd__law_digits ["script", "k"] (liftSp K F__law_digits) :=
  dfn_of T.f__law_digits sc__law_digits len__law_digits t__law_digits (fun cdv A outer s H E O X' up xw hr hgd =>
    (dss_cons (ds_set (i := 2) sc__law_digits.nd rfl (by first | exact .inl rfl | exact .inr rfl) (de_if (dt_cmp o_lt (db_var 1) (DE.toB (de_callB c_len rfl T.b_len (by decide +kernel) (dab_cons (db_var 0) dab_nil))) (nomark _)) (de_ix hr.units (db_var 0) (db_var 1)) de_int))
    (dss_one (ds_retM (df_lst (da_cons (de_callB (c_max rfl) rfl T.b_max (by decide +kernel) (dab_cons (DE.toB de_int) (dab_cons (DE.toB (de_op o_sub (DE.toB (de_callB c_abs rfl T.b_abs (by decide +kernel) (dab_cons (db_var 2) dab_nil))) (DE.toB (de_op o_pow (DE.toB de_int) (DE.toB de_int))))) dab_nil))) (da_cons (de_op o_mod (DE.toB (de_op o_add (DE.toB (de_op o_add (DE.toB (de_op o_mul (db_var 2) (DE.toB de_int))) (DE.toB (de_op o_mul (DE.toB de_int) (db_var 1))))) (DE.toB de_int))) (DE.toB (de_op o_add (DE.toB (de_op o_pow (DE.toB de_int) (DE.toB de_int))) (DE.toB de_int)))) (da_cons de_int da_nil)))))))) pure__law_digits
theorem ok__law_cut (T : Txt K mg) : GFn P w K mg base 1 T.a__law_cut T.fd__law_cut ["digits", "bound"] (liftSp K F__law_cut) :=
  dfn_of T.f__law_cut sc__law_cut len__law_cut t__law_cut (fun cdv A outer s H E O X' up xw hr hgd =>
    (dss_cons (ds_if (dt_cmp o_gt (DE.toB (de_ix hr.units (db_var 0) (DE.toB de_int))) (DE.toB de_int) (nomark _)) (dss_cons (ds_set (i := 2) sc__law_cut.nd rfl (by first | exact .inl rfl | exact .inr rfl) (de_op o_mod (DE.toB (de_ix hr.units (db_var 0) (DE.toB de_int))) (db_var 1)))
    (dss_cons (ds_putM (de_var 0) de_int (de_op o_div (DE.toB (de_ix hr.units (db_var 0) (DE.toB de_int))) (db_var 1)))
    (dss_one (ds_retV 2)))) dss_nil)
    (dss_cons (ds_putM (de_var 0) de_int (de_op o_add (DE.toB (de_ix hr.units (db_var 0) (DE.toB de_int))) (DE.toB de_int)))
    (dss_cons (ds_set (i := 3) sc__law_cut.nd rfl (by first | exact .inl rfl | exact .inr rfl) (de_op o_mod (DE.toB (de_op o_pow (DE.toB (de_op o_add (DE.toB (de_ix hr.units (db_var 0) (DE.toB de_int))) (DE.toB (de_op o_mul (DE.toB de_int) (DE.toB (de_ix hr.units (db_var 0) (DE.toB de_int))))))) (DE.toB de_int))) (DE.toB (de_op o_add (DE.toB (de_op o_pow (DE.toB de_int) (DE.toB de_int))) (DE.toB de_int)))))
    (dss_cons (ds_set (i := 3) sc__law_cut.nd rfl (by first | exact .inl rfl | exact .inr rfl) (de_op o_mod (DE.toB (de_op o_pow (DE.toB (de_op o_add (db_var 3) (DE.toB (de_op o_mul (DE.toB de_int) (DE.toB (de_ix hr.units (db_var 0) (DE.toB de_int))))))) (DE.toB de_int))) (DE.toB (de_op o_add (DE.toB (de_op o_pow (DE.toB de_int) (DE.toB de_int))) (DE.toB de_int)))))
    (dss_one (ds_ret (de_op o_mod (DE.toB (de_op o_div (db_var 3) (DE.toB (de_op o_pow (DE.toB de_int) (DE.toB de_int))))) (db_var 1))))))))) pure__law_cut
theorem ok__law_wrap (T : Txt K mg) : GFn P w K mg base 1 T.a__law_wrap T.fd__law_wrap ["words", "most"] (liftSp K F__law_wrap) :=
  dfn_of T.f__law_wrap sc__law_wrap len__law_wrap t__law_wrap (fun cdv A outer s H E O X' up xw hr hgd =>
    (dss_cons (ds_parII (i := 2) (j := 3) rfl sc__law_wrap.nd rfl rfl (by decide) rfl rfl (DF.toE (df_lst da_nil)) de_int)
    (dss_cons (ds_for up (passes_of rfl) rfl (di_list (de_var 0)) (dg_name (i := 4) sc__law_wrap.nd rfl (by first | exact .inl rfl | exact .inr rfl)) (dss_one (ds_if (DW.pt (dw_and (dt_cmp o_gt (db_var 3) (DE.toB de_int) (nomark _)) (dw_and1 (dt_cmp o_le (DE.toB (de_op o_add (DE.toB (de_op o_add (db_var 3) (DE.toB de_int))) (db_var 4))) (db_var 1) (nomark _))))) (dss_one (ds_set (i := 3) sc__law_wrap.nd rfl (by first | exact .inl rfl | exact .inr rfl) (de_op o_add (DE.toB (de_op o_add (db_var 3) (DE.toB de_int))) (db_var 4)))) (dss_cons (ds_set (i := 2) sc__law_wrap.nd rfl (by first | exact .inl rfl | exact .inr rfl) (de_op o_add (db_var 2) (DE.toB (de_op o_mul (DE.toB (DF.toE (df_lst (da_cons (de_var 3) da_nil)))) (DE.toB (de_callTy c_int rfl T.b_int (by decide +kernel) (dab_cons (DE.toB (de_cmp o_gt (db_var 3) (DE.toB de_int) (nomark _))) dab_nil)))))))
    (dss_one (ds_set (i := 3) sc__law_wrap.nd rfl (by first | exact .inl rfl | exact .inr rfl) (de_var 4)))))))
    (dss_one (ds_ret (de_op o_add (db_var 2) (DE.toB (DF.toE (df_lst (da_cons (de_var 3) da_nil)))))))))) pure__law_wrap
theorem ok_is_width (T : Txt K mg) : GFn P w K mg base 2 T.a_is_width T.fd_is_width ["value"] (liftSp K F_is_width) :=
  dfn_of T.f_is_width sc_is_width len_is_width t_is_width (fun cdv A outer s H E O X' up xw hr hgd =>
    (dss_one (ds_ret (de_fn (ok_is_integer T) (hr.mono (by decide)) hgd rfl T.m_is_integer T.k_is_integer T.b_is_integer .nil (fun _ => .nil) xw (da_cons (de_var 0) (da_cons de_int (da_cons (de_glob (v := .int 1000) rfl T.c_MAX_WIDTH.choose_spec ⟨_, rfl⟩ fun _ _ => .int _) da_nil))))))) pure_is_width
theorem ok_are_lengths (T : Txt K mg) : GFn P w K mg base 2 T.a_are_lengths T.fd_are_lengths ["value"] (liftSp K F_are_lengths) :=
  dfn_of T.f_are_lengths sc_are_lengths len_are_lengths t_are_lengths (fun cdv A outer s H E O X' up xw hr hgd =>
    (dss_cons (ds_if (DW.pt (dw_or (dt_not (dt_truth (DE.toB (de_callB c_isi rfl T.b_isinstance (by decide +kernel) (dab_cons (db_var 0) (dab_cons (DE.toB (de_bltn rfl T.b_list (by decide +kernel))) dab_nil)))))) (dw_or (dt_cmp (o_eq hr.units) (db_var 0) (DE.toB (DF.toE (df_lst da_nil))) (nomark _)) (dw_or1 (dt_not (dt_truth (DE.toB (de_callB (c_all rfl) rfl T.b_all (by decide +kernel) (dab_cons (DE.toB (DF.toE (df_lc (own := [("length", 1)]) rfl sc_are_lengths.nd (di_list (de_var 0)) (blkOk_by (own := [("length", 1)]) (N := N_are_lengths) (sc := defScope st_are_lengths) (by decide +kernel)) (fun _ _ _ _ _ => (dg_name (i := 1) sc_are_lengths.nd rfl (by first | exact .inl rfl | exact .inr rfl))) (fun _ _ _ _ _ => dts_nil) (fun _ _ _ _ _ => (de_fn (ok_is_integer T) (hr.mono (by decide)) hgd rfl T.m_is_integer T.k_is_integer (T.b_2_is_integer).choose_spec.2 (T.b_2_is_integer).choose_spec.1 (fun _ => (.cons .non .nil)) xw0 (da_cons (de_var 1) (da_cons de_int da_nil))))))) dab_nil))))))))) (dss_one (ds_ret de_bl)) dss_nil)
    (dss_one (ds_ret (de_cmp o_le (DE.toB (de_fn (ok_total_of T) (hr.mono (by decide)) hgd rfl T.m_total_of T.k_total_of T.b_total_of .nil (fun _ => .nil) xw (da_cons (de_var 0) da_nil))) (DE.toB (de_glob (v := .int 600) rfl T.c_MAX_CHARACTERS.choose_spec ⟨_, rfl⟩ fun _ _ => .int _)) (nomark _)))))) pure_are_lengths
theorem ok_lengths_of (T : Txt K mg) : GFn P w K mg base 2 T.a_lengths_of T.fd_lengths_of ["ends"] (liftSp K F_lengths_of) :=
  dfn_of T.f_lengths_of sc_lengths_of len_lengths_of t_lengths_of (fun cdv A outer s H E O X' up xw hr hgd =>
    (dss_one (ds_ret (DF.toE (df_lc (own := [("start", 1), ("end", 2)]) rfl sc_lengths_of.nd (di_zip rfl T.b_zip (da_cons (de_fn (ok_starts_of T) (hr.mono (by decide)) hgd rfl T.m_starts_of T.k_starts_of T.b_starts_of .nil (fun _ => .nil) xw (da_cons (de_var 0) da_nil)) (da_cons (de_var 0) da_nil))) (blkOk_by (own := [("start", 1), ("end", 2)]) (N := N_lengths_of) (sc := defScope st_lengths_of) (by decide +kernel)) (fun _ _ _ _ _ => (dg_tup rfl (dgs_cons (dg_name (i := 1) sc_lengths_of.nd rfl (by first | exact .inl rfl | exact .inr rfl)) (dgs_cons (dg_name (i := 2) sc_lengths_of.nd rfl (by first | exact .inl rfl | exact .inr rfl)) dgs_nil)))) (fun _ _ _ _ _ => dts_nil) (fun _ _ _ _ _ => (de_op o_sub (db_var 2) (db_var 1)))))))) pure_lengths_of
theorem ok_widths_of (T : Txt K mg) : GFn P w K mg base 2 T.a_widths_of T.fd_widths_of ["text", "low", "high"] (liftSp K F_widths_of) :=
  dfn_of T.f_widths_of sc_widths_of len_widths_of t_widths_of (fun cdv A outer s H E O X' up xw hr hgd =>
    (dss_cons (ds_set (i := 3) sc_widths_of.nd rfl (by first | exact .inl rfl | exact .inr rfl) (de_fn (ok_total_of T) (hr.mono (by decide)) hgd rfl T.m_total_of T.k_total_of T.b_total_of .nil (fun _ => .nil) xw (da_cons (de_var 0) da_nil)))
    (dss_one (ds_ret (DF.toE (df_rg2 rfl rfl T.b_list rfl T.b_range (de_callB (c_min rfl) rfl T.b_min (by decide +kernel) (dab_cons (db_var 1) (dab_cons (db_var 3) dab_nil))) (de_op o_add (DE.toB (de_callB (c_min rfl) rfl T.b_min (by decide +kernel) (dab_cons (db_var 2) (dab_cons (db_var 3) dab_nil)))) (DE.toB de_int)))))))) pure_widths_of
theorem ok__law_words (T : Txt K mg) : GFn P w K mg base 2 T.a__law_words T.fd__law_words ["digits", "size", "wide"] (liftSp K F__law_words) :=
  dfn_of T.f__law_words sc__law_words len__law_words t__law_words (fun cdv A outer s H E O X' up xw hr hgd =>
    (dss_cons (ds_parOI (i := 3) (j := 4) rfl sc__law_words.nd rfl rfl (by decide) rfl rfl (df_lst da_nil) (de_var 1))
    (dss_cons (ds_while (passes_of rfl) (dt_cmp o_gt (db_var 4) (DE.toB de_int) (nomark _)) (dss_cons (ds_set (i := 5) sc__law_words.nd rfl (by first | exact .inl rfl | exact .inr rfl) (de_op o_add (DE.toB de_int) (DE.toB (de_fn (ok__law_cut T) (hr.mono (by decide)) hgd rfl T.m__law_cut T.k__law_cut T.b__law_cut .nil (fun _ => .nil) xw (da_cons (de_var 0) (da_cons (de_callB (c_min rfl) rfl T.b_min (by decide +kernel) (dab_cons (db_var 4) (dab_cons (db_var 2) dab_nil))) da_nil))))))
    (dss_cons (ds_if (dt_cmp o_gt (db_var 5) (DE.toB (de_op o_sub (db_var 4) (DE.toB de_int))) (nomark _)) (dss_one (ds_set (i := 5) sc__law_words.nd rfl (by first | exact .inl rfl | exact .inr rfl) (de_var 4))) dss_nil)
    (dss_cons (ds_app 3 (de_var 5))
    (dss_one (ds_set (i := 4) sc__law_words.nd rfl (by first | exact .inl rfl | exact .inr rfl) (de_op o_sub (DE.toB (de_op o_sub (db_var 4) (db_var 5))) (DE.toB de_int))))))))
    (dss_one (ds_ret (de_op o_add (db_var 3) (DE.toB (de_op o_mul (DE.toB (DF.toE (df_lst (da_cons (de_var 4) da_nil)))) (DE.toB (de_callTy c_int rfl T.b_int (by decide +kernel) (dab_cons (DE.toB (de_cmp o_gt (db_var 4) (DE.toB de_int) (nomark _))) dab_nil))))))))))) pure__law_words
theorem ok__law_changed (T : Txt K mg) : GFn P w K mg base 2 T.a__law_changed T.fd__law_changed ["digits", "words"] (liftSp K F__law_changed) :=
  dfn_of T.f__law_changed sc__law_changed len__law_changed t__law_changed (fun cdv A outer s H E O X' up xw hr hgd =>
    (dss_cons (ds_own (i := 2) sc__law_changed.nd rfl (by first | exact .inl rfl | exact .inr rfl) (df_callTy c_list rfl T.b_list (by decide +kernel) (dab_cons (db_var 1) dab_nil)))
    (dss_cons (ds_for up (passes_of rfl) rfl (di_range1 rfl T.b_range (da_cons (de_op o_add (DE.toB de_int) (DE.toB (de_fn (ok__law_cut T) (hr.mono (by decide)) hgd rfl T.m__law_cut T.k__law_cut T.b__law_cut .nil (fun _ => .nil) xw (da_cons (de_var 0) (da_cons de_int da_nil))))) da_nil)) (dg_name (i := 3) sc__law_changed.nd rfl (by first | exact .inl rfl | exact .inr rfl)) (dss_cons (ds_set (i := 4) sc__law_changed.nd rfl (by first | exact .inl rfl | exact .inr rfl) (de_fn (ok__law_cut T) (hr.mono (by decide)) hgd rfl T.m__law_cut T.k__law_cut T.b__law_cut .nil (fun _ => .nil) xw (da_cons (de_var 0) (da_cons (de_callB c_len rfl T.b_len (by decide +kernel) (dab_cons (db_var 2) dab_nil)) da_nil))))
    (dss_one (ds_if (DW.pt (dw_and (dt_cmp (o_eq hr.units) (DE.toB (de_fn (ok__law_cut T) (hr.mono (by decide)) hgd rfl T.m__law_cut T.k__law_cut T.b__law_cut .nil (fun _ => .nil) xw (da_cons (de_var 0) (da_cons de_int da_nil)))) (DE.toB de_int) (nomark _)) (dw_and1 (dt_cmp o_lt (DE.toB (de_op o_add (db_var 4) (DE.toB de_int))) (DE.toB (de_callB c_len rfl T.b_len (by decide +kernel) (dab_cons (db_var 2) dab_nil))) (nomark _))))) (dss_one (ds_putS 2 (do_some (de_var 4)) (do_some (de_op o_add (db_var 4) (DE.toB de_int))) (df_lst (da_cons (de_op o_add (DE.toB (de_op o_add (DE.toB (de_ix hr.units (db_var 2) (db_var 4))) (DE.toB de_int))) (DE.toB (de_ix hr.units (db_var 2) (DE.toB (de_op o_add (db_var 4) (DE.toB de_int)))))) da_nil)))) (dss_one (ds_if (dt_cmp o_gt (DE.toB (de_ix hr.units (db_var 2) (db_var 4))) (DE.toB de_int) (nomark _)) (dss_cons (ds_set (i := 5) sc__law_changed.nd rfl (by first | exact .inl rfl | exact .inr rfl) (de_op o_add (DE.toB de_int) (DE.toB (de_fn (ok__law_cut T) (hr.mono (by decide)) hgd rfl T.m__law_cut T.k__law_cut T.b__law_cut .nil (fun _ => .nil) xw (da_cons (de_var 0) (da_cons (de_op o_sub (DE.toB (de_ix hr.units (db_var 2) (db_var 4))) (DE.toB de_int)) da_nil))))))
    (dss_one (ds_putS 2 (do_some (de_var 4)) (do_some (de_op o_add (db_var 4) (DE.toB de_int))) (df_lst (da_cons (de_var 5) (da_cons (de_op o_sub (DE.toB (de_op o_sub (DE.toB (de_ix hr.units (db_var 2) (db_var 4))) (db_var 5))) (DE.toB de_int)) da_nil)))))) dss_nil))))))
    (dss_cons (ds_if (dt_cmp (o_eq hr.units) (DE.toB (de_fn (ok__law_cut T) (hr.mono (by decide)) hgd rfl T.m__law_cut T.k__law_cut T.b__law_cut .nil (fun _ => .nil) xw (da_cons (de_var 0) (da_cons de_int da_nil)))) (DE.toB de_int) (nomark _)) (dss_one (ds_putL 2 (de_un o_neg (DE.toB de_int)) (de_op o_add (DE.toB (de_ix hr.units (db_var 2) (DE.toB (de_un o_neg (DE.toB de_int))))) (DE.toB de_int)))) dss_nil)
    (dss_one (ds_retV 2)))))) pure__law_changed
theorem ok_is_text (T : Txt K mg) : GFn P w K mg base 3 T.a_is_text T.fd_is_text ["value"] (liftSp K F_is_text) :=
  dfn_of T.f_is_text sc_is_text len_is_text t_is_text (fun cdv A outer s H E O X' up xw hr hgd =>
    (dss_one (ds_ret (de_fn (ok_are_lengths T) (hr.mono (by decide)) hgd rfl T.m_are_lengths T.k_are_lengths T.b_are_lengths .nil (fun _ => .nil) xw (da_cons (de_var 0) da_nil))))) pure_is_text
theorem ok_wrap_of (T : Txt K mg) : GFn P w K mg base 3 T.a_wrap_of T.fd_wrap_of ["text", "width"] (liftSp K F_wrap_of) :=
  dfn_of T.f_wrap_of sc_wrap_of len_wrap_of t_wrap_of (fun cdv A outer s H E O X' up xw hr hgd =>
    (dss_one (ds_ret (de_fn (ok_lengths_of T) (hr.mono (by decide)) hgd rfl T.m_lengths_of T.k_lengths_of T.b_lengths_of .nil (fun _ => .nil) xw (da_cons (de_fn (ok_wrapped_ends T) (hr.mono (by decide)) hgd rfl T.m_wrapped_ends T.k_wrapped_ends T.b_wrapped_ends .nil (fun _ => .nil) xw (da_cons (de_fn (ok_ends_of T) (hr.mono (by decide)) hgd rfl T.m_ends_of T.k_ends_of T.b_ends_of .nil (fun _ => .nil) xw (da_cons (de_var 0) da_nil)) (da_cons (de_var 1) da_nil))) da_nil))))) pure_wrap_of
theorem ok_require_range (T : Txt K mg) : GFn P w K mg base 3 T.a_require_range T.fd_require_range ["low", "high"] (liftSp K F_require_range) :=
  dfn_of T.f_require_range sc_require_range len_require_range t_require_range (fun cdv A outer s H E O X' up xw hr hgd =>
    (dss_one (ds_if (DW.pt (dw_or (dt_not (dt_truth (DE.toB (de_fn (ok_is_width T) (hr.mono (by decide)) hgd rfl T.m_is_width T.k_is_width T.b_is_width .nil (fun _ => .nil) xw (da_cons (de_var 0) da_nil))))) (dw_or (dt_not (dt_truth (DE.toB (de_fn (ok_is_width T) (hr.mono (by decide)) hgd rfl T.m_is_width T.k_is_width T.b_is_width .nil (fun _ => .nil) xw (da_cons (de_var 1) da_nil))))) (dw_or1 (dt_cmp o_gt (db_var 0) (db_var 1) (nomark _)))))) (dss_one (ds_raise rfl xw T.e_InvalidRange)) dss_nil))) pure_require_range
theorem ok_require_text (T : Txt K mg) : GFn P w K mg base 4 T.a_require_text T.fd_require_text ["text"] (liftSp K F_require_text) :=
  dfn_of T.f_require_text sc_require_text len_require_text t_require_text (fun cdv A outer s H E O X' up xw hr hgd =>
    (dss_one (ds_if (dt_not (dt_truth (DE.toB (de_fn (ok_is_text T) (hr.mono (by decide)) hgd rfl T.m_is_text T.k_is_text T.b_is_text .nil (fun _ => .nil) xw (da_cons (de_var 0) da_nil))))) (dss_one (ds_raise rfl xw T.e_InvalidText)) dss_nil))) pure_require_text
theorem ok_visible_in (T : Txt K mg) : GFn P w K mg base 4 T.a_visible_in T.fd_visible_in ["text", "low", "high"] (liftSp K F_visible_in) :=
  dfn_of T.f_visible_in sc_visible_in len_visible_in t_visible_in (fun cdv A outer s H E O X' up xw hr hgd =>
    (dss_cons (ds_ownD (i := 3) sc_visible_in.nd rfl (by first | exact .inl rfl | exact .inr rfl))
    (dss_cons (ds_for up (passes_of rfl) rfl (di_list (de_fn (ok_widths_of T) (hr.mono (by decide)) hgd rfl T.m_widths_of T.k_widths_of T.b_widths_of .nil (fun _ => .nil) xw (da_cons (de_var 0) (da_cons (de_var 1) (da_cons (de_var 2) da_nil))))) (dg_name (i := 4) sc_visible_in.nd rfl (by first | exact .inl rfl | exact .inr rfl)) (dss_one (ds_upd 3 (de_dc (own := [("end", 5)]) rfl sc_visible_in.nd (di_list (DF.toE (df_slice (DE.toB (de_fn (ok_ends_of T) (hr.mono (by decide)) hgd rfl T.m_ends_of T.k_ends_of T.b_ends_of .nil (fun _ => .nil) xw (da_cons (de_fn (ok_wrap_of T) (hr.mono (by decide)) hgd rfl T.m_wrap_of T.k_wrap_of T.b_wrap_of .nil (fun _ => .nil) xw (da_cons (de_var 0) (da_cons (de_var 4) da_nil))) da_nil))) do_none (do_some (de_un o_neg (DE.toB de_int)))))) (blkOk_by (own := [("end", 5)]) (N := N_visible_in) (sc := defScope st_visible_in) (by decide +kernel)) (fun _ _ _ _ _ => (dg_name (i := 5) sc_visible_in.nd rfl (by first | exact .inl rfl | exact .inr rfl))) (fun _ _ _ _ _ => dts_nil) (fun _ _ _ _ _ => (de_var 5)) (fun _ _ _ _ _ => de_bl)))))
    (dss_one (ds_ret (DF.toE (df_callB (c_sortedD rfl) rfl T.b_sorted (by decide +kernel) (dab_cons (db_var 3) dab_nil)))))))) pure_visible_in
theorem ok_core_in (T : Txt K mg) : GFn P w K mg base 5 T.a_core_in T.fd_core_in ["text", "low", "high"] (liftSp K F_core_in) :=
  dfn_of T.f_core_in sc_core_in len_core_in t_core_in (fun cdv A outer s H E O X' up xw hr hgd =>
    (dss_one (ds_ret (de_fn (ok_lengths_of T) (hr.mono (by decide)) hgd rfl T.m_lengths_of T.k_lengths_of T.b_lengths_of .nil (fun _ => .nil) xw (da_cons (de_op o_add (DE.toB (de_fn (ok_visible_in T) (hr.mono (by decide)) hgd rfl T.m_visible_in T.k_visible_in T.b_visible_in .nil (fun _ => .nil) xw (da_cons (de_var 0) (da_cons (de_var 1) (da_cons (de_var 2) da_nil))))) (DE.toB (DF.toE (df_lst (da_cons (de_fn (ok_total_of T) (hr.mono (by decide)) hgd rfl T.m_total_of T.k_total_of T.b_total_of .nil (fun _ => .nil) xw (da_cons (de_var 0) da_nil)) da_nil))))) da_nil))))) pure_core_in
theorem ok_require_pair (T : Txt K mg) : GFn P w K mg base 5 T.a_require_pair T.fd_require_pair ["text", "other", "low", "high"] (liftSp K F_require_pair) :=
  dfn_of T.f_require_pair sc_require_pair len_require_pair t_require_pair (fun cdv A outer s H E O X' up xw hr hgd =>
    (dss_cons (ds_expr (de_fn (ok_require_text T) (hr.mono (by decide)) hgd rfl T.m_require_text T.k_require_text T.b_require_text .nil (fun _ => .nil) xw (da_cons (de_var 0) da_nil)))
    (dss_cons (ds_expr (de_fn (ok_require_text T) (hr.mono (by decide)) hgd rfl T.m_require_text T.k_require_text T.b_require_text .nil (fun _ => .nil) xw (da_cons (de_var 1) da_nil)))
    (dss_one (ds_expr (de_fn (ok_require_range T) (hr.mono (by decide)) hgd rfl T.m_require_range T.k_require_range T.b_require_range .nil (fun _ => .nil) xw (da_cons (de_var 2) (da_cons (de_var 3) da_nil)))))))) pure_require_pair
theorem ok_are_alike (T : Txt K mg) : GFn P w K mg base 6 T.a_are_alike T.fd_are_alike ["text", "other", "low", "high"] (liftSp K F_are_alike) :=
  dfn_of T.f_are_alike sc_are_alike len_are_alike t_are_alike (fun cdv A outer s H E O X' up xw hr hgd =>
    (dss_cons (ds_expr (de_fn (ok_require_pair T) (hr.mono (by decide)) hgd rfl T.m_require_pair T.k_require_pair T.b_require_pair .nil (fun _ => .nil) xw (da_cons (de_var 0) (da_cons (de_var 1) (da_cons (de_var 2) (da_cons (de_var 3) da_nil))))))
    (dss_one (ds_ret (de_cmp (o_eq hr.units) (DE.toB (de_fn (ok_core_in T) (hr.mono (by decide)) hgd rfl T.m_core_in T.k_core_in T.b_core_in .nil (fun _ => .nil) xw (da_cons (de_var 0) (da_cons (de_var 2) (da_cons (de_var 3) da_nil))))) (DE.toB (de_fn (ok_core_in T) (hr.mono (by decide)) hgd rfl T.m_core_in T.k_core_in T.b_core_in .nil (fun _ => .nil) xw (da_cons (de_var 1) (da_cons (de_var 2) (da_cons (de_var 3) da_nil))))) (nomark _)))))) pure_are_alike
theorem ok_separating_width (T : Txt K mg) : GFn P w K mg base 6 T.a_separating_width T.fd_separating_width ["text", "other", "low", "high"] (liftSp K F_separating_width) :=
  dfn_of T.f_separating_width sc_separating_width len_separating_width t_separating_width (fun cdv A outer s H E O X' up xw hr hgd =>
    (dss_cons (ds_expr (de_fn (ok_require_pair T) (hr.mono (by decide)) hgd rfl T.m_require_pair T.k_require_pair T.b_require_pair .nil (fun _ => .nil) xw (da_cons (de_var 0) (da_cons (de_var 1) (da_cons (de_var 2) (da_cons (de_var 3) da_nil))))))
    (dss_cons (ds_for up (passes_of rfl) rfl (di_range2 rfl T.b_range (da_cons (de_var 2) (da_cons (de_op o_add (db_var 3) (DE.toB de_int)) da_nil))) (dg_name (i := 4) sc_separating_width.nd rfl (by first | exact .inl rfl | exact .inr rfl)) (dss_one (ds_if (dt_cmp (o_ne hr.units) (DE.toB (de_fn (ok_wrap_of T) (hr.mono (by decide)) hgd rfl T.m_wrap_of T.k_wrap_of T.b_wrap_of .nil (fun _ => .nil) xw (da_cons (de_var 0) (da_cons (de_var 4) da_nil)))) (DE.toB (de_fn (ok_wrap_of T) (hr.mono (by decide)) hgd rfl T.m_wrap_of T.k_wrap_of T.b_wrap_of .nil (fun _ => .nil) xw (da_cons (de_var 1) (da_cons (de_var 4) da_nil)))) (nomark _)) (dss_one (ds_retV 4)) dss_nil)))
    (dss_one (ds_ret de_non))))) pure_separating_width
theorem ok__law_same (T : Txt K mg) : ∀ n, GFn P w K mg base n T.a__law_same T.fd__law_same ["found", "due"] (liftSp K (F__law_same n))
  | 0 => gfn_none (none__law_same) (len__law_same 0)
  | n + 1 => by
    have ih := ok__law_same T n
    exact dfn_of T.f__law_same sc__law_same (len__law_same (n + 1)) (t__law_same (F__law_same n)) (fun cdv A outer s H E O X' up xw hr hgd =>
    (dss_cons (ds_if (DW.pt (dw_or (dt_truth (DE.toB (de_callB c_isi rfl T.b_isinstance (by decide +kernel) (dab_cons (db_var 1) (dab_cons (DE.toB (de_bltn rfl T.b_list (by decide +kernel))) dab_nil))))) (dw_or1 (dt_truth (DE.toB (de_callB c_isi rfl T.b_isinstance (by decide +kernel) (dab_cons (db_var 1) (dab_cons (DE.toB (de_bltn rfl T.b_tuple (by decide +kernel))) dab_nil)))))))) (dss_cons (ds_if (DW.pt (dw_or (dt_cmp (o_ne hr.units) (DE.toB (de_callB c_isi rfl T.b_isinstance (by decide +kernel) (dab_cons (db_var 0) (dab_cons (DE.toB (de_bltn rfl T.b_list (by decide +kernel))) dab_nil)))) (DE.toB (de_callB c_isi rfl T.b_isinstance (by decide +kernel) (dab_cons (db_var 1) (dab_cons (DE.toB (de_bltn rfl T.b_list (by decide +kernel))) dab_nil)))) (nomark _)) (dw_or1 (dt_cmp (o_ne hr.units) (DE.toB (de_callB c_isi rfl T.b_isinstance (by decide +kernel) (dab_cons (db_var 0) (dab_cons (DE.toB (de_bltn rfl T.b_tuple (by decide +kernel))) dab_nil)))) (DE.toB (de_callB c_isi rfl T.b_isinstance (by decide +kernel) (dab_cons (db_var 1) (dab_cons (DE.toB (de_bltn rfl T.b_tuple (by decide +kernel))) dab_nil)))) (nomark _))))) (dss_one (ds_ret de_bl)) dss_nil)
    (dss_one (ds_ret (de_and (de_cmp (o_eq hr.units) (DE.toB (de_callB c_len rfl T.b_len (by decide +kernel) (dab_cons (db_var 0) dab_nil))) (DE.toB (de_callB c_len rfl T.b_len (by decide +kernel) (dab_cons (db_var 1) dab_nil))) (nomark _)) (de_one (de_callB (c_all rfl) rfl T.b_all (by decide +kernel) (dab_cons (DE.toB (DF.toE (df_lc (own := [("one", 2), ("two", 3)]) rfl sc__law_same.nd (di_zip rfl T.b_zip (da_cons (de_var 0) (da_cons (de_var 1) da_nil))) (blkOk_by (own := [("one", 2), ("two", 3)]) (N := N__law_same) (sc := defScope st__law_same) (by decide +kernel)) (fun _ _ _ _ _ => (dg_tup rfl (dgs_cons (dg_name (i := 2) sc__law_same.nd rfl (by first | exact .inl rfl | exact .inr rfl)) (dgs_cons (dg_name (i := 3) sc__law_same.nd rfl (by first | exact .inl rfl | exact .inr rfl)) dgs_nil)))) (fun _ _ _ _ _ => dts_nil) (fun _ _ _ _ _ => (de_fn ih (hr.mono (Nat.le_refl _)) hgd rfl T.m__law_same T.k__law_same T.b__law_same .nil (fun _ => .nil) xw0 (da_cons (de_var 2) (da_cons (de_var 3) da_nil))))))) dab_nil))))))) dss_nil)
    (dss_cons (ds_if (DW.pt (dw_or (dt_cmp o_isN (db_var 1) (DE.toB de_non) (nomark _)) (dw_or1 (dt_cmp o_isN (db_var 0) (DE.toB de_non) (nomark _))))) (dss_one (ds_ret (de_and (de_cmp o_isN (db_var 1) (DE.toB de_non) (nomark _)) (de_one (de_cmp o_isN (db_var 0) (DE.toB de_non) (nomark _)))))) dss_nil)
    (dss_cons (ds_if (DW.pt (dw_or (dt_cmp (o_ne hr.units) (DE.toB (de_callB c_isi rfl T.b_isinstance (by decide +kernel) (dab_cons (db_var 1) (dab_cons (DE.toB (de_bltn rfl T.b_bool (by decide +kernel))) dab_nil)))) (DE.toB (de_callB c_isi rfl T.b_isinstance (by decide +kernel) (dab_cons (db_var 0) (dab_cons (DE.toB (de_bltn rfl T.b_bool (by decide +kernel))) dab_nil)))) (nomark _)) (dw_or1 (dt_cmp (o_ne hr.units) (DE.toB (de_callB c_isi rfl T.b_isinstance (by decide +kernel) (dab_cons (db_var 1) (dab_cons (DE.toB (de_bltn rfl T.b_str (by decide +kernel))) dab_nil)))) (DE.toB (de_callB c_isi rfl T.b_isinstance (by decide +kernel) (dab_cons (db_var 0) (dab_cons (DE.toB (de_bltn rfl T.b_str (by decide +kernel))) dab_nil)))) (nomark _))))) (dss_one (ds_ret de_bl)) dss_nil)
    (dss_one (ds_ret (de_cmp (o_eq hr.units) (db_var 0) (db_var 1) (nomark _)))))))) (pure__law_same n)
theorem ok__law_right (T : Txt K mg) : GFn P w K mg base 10 T.a__law_right T.fd__law_right ["words", "mate", "bottom", "top"] (liftSp K F__law_right) :=
  dfn_of T.f__law_right sc__law_right len__law_right t__law_right (fun cdv A outer s H E O X' up xw hr hgd =>
    (dss_cons (ds_parII (i := 4) (j := 5) rfl sc__law_right.nd rfl rfl (by decide) rfl rfl (de_callB (c_repr hgd hr.units) rfl T.b_repr (by decide +kernel) (dab_cons (DE.toB (DF.toE (df_lst (da_cons (de_var 0) (da_cons (de_var 1) da_nil))))) dab_nil)) de_non)
    (dss_cons (ds_set (i := 6) sc__law_right.nd rfl (by first | exact .inl rfl | exact .inr rfl) (de_callB (c_max rfl) rfl T.b_max (by decide +kernel) (dab_cons (DE.toB (de_op o_add (DE.toB (de_callB (c_sum rfl) rfl T.b_sum (by decide +kernel) (dab_cons (db_var 0) dab_nil))) (DE.toB (de_callB c_len rfl T.b_len (by decide +kernel) (dab_cons (db_var 0) dab_nil))))) (dab_cons (DE.toB (de_op o_add (DE.toB (de_callB (c_sum rfl) rfl T.b_sum (by decide +kernel) (dab_cons (db_var 1) dab_nil))) (DE.toB (de_callB c_len rfl T.b_len (by decide +kernel) (dab_cons (db_var 1) dab_nil))))) dab_nil))))
    (dss_cons (ds_for up (passes_of rfl) rfl (di_range3 rfl T.b_range (da_cons (de_callB (c_min rfl) rfl T.b_min (by decide +kernel) (dab_cons (db_var 3) (dab_cons (DE.toB (de_callB (c_max rfl) rfl T.b_max (by decide +kernel) (dab_cons (db_var 2) (dab_cons (db_var 6) dab_nil)))) dab_nil))) (da_cons (de_op o_sub (db_var 2) (DE.toB de_int)) (da_cons (de_un o_neg (DE.toB de_int)) da_nil)))) (dg_name (i := 7) sc__law_right.nd rfl (by first | exact .inl rfl | exact .inr rfl)) (dss_one (ds_if (dt_cmp (o_ne hr.units) (DE.toB (de_fn (ok__law_wrap T) (hr.mono (by decide)) hgd rfl T.m__law_wrap T.k__law_wrap T.b__law_wrap .nil (fun _ => .nil) xw (da_cons (de_var 0) (da_cons (de_var 7) da_nil)))) (DE.toB (de_fn (ok__law_wrap T) (hr.mono (by decide)) hgd rfl T.m__law_wrap T.k__law_wrap T.b__law_wrap .nil (fun _ => .nil) xw (da_cons (de_var 1) (da_cons (de_var 7) da_nil)))) (nomark _)) (dss_one (ds_set (i := 5) sc__law_right.nd rfl (by first | exact .inl rfl | exact .inr rfl) (de_var 7))) dss_nil)))
    (dss_cons (ds_set (i := 8) sc__law_right.nd rfl (by first | exact .inl rfl | exact .inr rfl) (DF.toE (df_lst (da_cons (de_fn (ok_are_alike T) (hr.mono (by decide)) hgd rfl T.m_are_alike T.k_are_alike T.b_are_alike .nil (fun _ => .nil) xw (da_cons (de_var 0) (da_cons (de_var 1) (da_cons (de_var 2) (da_cons (de_var 3) da_nil))))) (da_cons (de_fnK0 (ok_are_alike T) (hr.mono (by decide)) hgd rfl T.m_are_alike T.k_are_alike T.kw_are_alike_0_high_low_other_text xw (dk_cons (de_var 3) (dk_cons (de_var 2) (dk_cons (de_var 1) (dk_cons (de_var 0) dk_nil))))) da_nil)))))
    (dss_cons (ds_set (i := 8) sc__law_right.nd rfl (by first | exact .inl rfl | exact .inr rfl) (de_op o_add (db_var 8) (DE.toB (DF.toE (df_lst (da_cons (de_fn (ok_separating_width T) (hr.mono (by decide)) hgd rfl T.m_separating_width T.k_separating_width T.b_separating_width .nil (fun _ => .nil) xw (da_cons (de_var 0) (da_cons (de_var 1) (da_cons (de_var 2) (da_cons (de_var 3) da_nil))))) da_nil))))))
    (dss_cons (ds_set (i := 8) sc__law_right.nd rfl (by first | exact .inl rfl | exact .inr rfl) (de_op o_add (db_var 8) (DE.toB (DF.toE (df_lst (da_cons (de_fnK0 (ok_separating_width T) (hr.mono (by decide)) hgd rfl T.m_separating_width T.k_separating_width T.kw_separating_width_0_high_low_other_text xw (dk_cons (de_var 3) (dk_cons (de_var 2) (dk_cons (de_var 1) (dk_cons (de_var 0) dk_nil))))) da_nil))))))
    (dss_cons (ds_set (i := 9) sc__law_right.nd rfl (by first | exact .inl rfl | exact .inr rfl) (DF.toE (df_lst (da_cons (de_cmp o_isN (db_var 5) (DE.toB de_non) (nomark _)) (da_cons (de_cmp o_isN (db_var 5) (DE.toB de_non) (nomark _)) (da_cons (de_var 5) (da_cons (de_var 5) da_nil)))))))
    (dss_one (ds_ret (de_and (de_fn (ok__law_same T 9) (hr.mono (by decide)) hgd rfl T.m__law_same T.k__law_same T.b__law_same .nil (fun _ => .nil) xw (da_cons (de_var 8) (da_cons (de_var 9) da_nil))) (de_one (de_cmp (o_eq hr.units) (DE.toB (de_callB (c_repr hgd hr.units) rfl T.b_repr (by decide +kernel) (dab_cons (DE.toB (DF.toE (df_lst (da_cons (de_var 0) (da_cons (de_var 1) da_nil))))) dab_nil))) (db_var 4) (nomark _)))))))))))))) pure__law_right
theorem ok_law (T : Txt K mg) : GFn P w K mg base 11 T.a_law T.fd_law ["script"] (liftSp K F_law) :=
  dfn_of T.f_law sc_law len_law t_law (fun cdv A outer s H E O X' up xw hr hgd =>
    (dss_cons (ds_for up (passes_of rfl) rfl (di_range1 rfl T.b_range (da_cons (de_callB (c_max rfl) rfl T.b_max (by decide +kernel) (dab_cons (DE.toB de_int) (dab_cons (DE.toB (de_callB (c_min rfl) rfl T.b_min (by decide +kernel) (dab_cons (DE.toB de_int) (dab_cons (DE.toB (de_callB c_len rfl T.b_len (by decide +kernel) (dab_cons (db_var 0) dab_nil))) dab_nil)))) dab_nil))) da_nil)) (dg_name (i := 1) sc_law.nd rfl (by first | exact .inl rfl | exact .inr rfl)) (dss_cons (ds_set (i := 2) sc_law.nd rfl (by first | exact .inl rfl | exact .inr rfl) (de_fn (ok__law_digits T) (hr.mono (by decide)) hgd rfl T.m__law_digits T.k__law_digits T.b__law_digits .nil (fun _ => .nil) xw (da_cons (de_var 0) (da_cons (de_var 1) da_nil))))
    (dss_one (ds_for up (passes_of rfl) rfl (di_range1 rfl T.b_range (da_cons de_int da_nil)) (dg_name (i := 3) sc_law.nd rfl (by first | exact .inl rfl | exact .inr rfl)) (dss_cons (ds_set (i := 4) sc_law.nd rfl (by first | exact .inl rfl | exact .inr rfl) (de_op o_add (DE.toB de_int) (DE.toB (de_fn (ok__law_cut T) (hr.mono (by decide)) hgd rfl T.m__law_cut T.k__law_cut T.b__law_cut .nil (fun _ => .nil) xw (da_cons (de_var 2) (da_cons de_int da_nil))))))
    (dss_cons (ds_set (i := 5) sc_law.nd rfl (by first | exact .inl rfl | exact .inr rfl) (de_fn (ok__law_words T) (hr.mono (by decide)) hgd rfl T.m__law_words T.k__law_words T.b__law_words .nil (fun _ => .nil) xw (da_cons (de_var 2) (da_cons (de_var 4) (da_cons (de_ix hr.units (DE.toB (DF.toE (df_lst (da_cons de_int (da_cons de_int (da_cons de_int da_nil)))))) (DE.toB (de_fn (ok__law_cut T) (hr.mono (by decide)) hgd rfl T.m__law_cut T.k__law_cut T.b__law_cut .nil (fun _ => .nil) xw (da_cons (de_var 2) (da_cons de_int da_nil))))) da_nil)))))
    (dss_cons (ds_set (i := 6) sc_law.nd rfl (by first | exact .inl rfl | exact .inr rfl) (de_ix hr.units (DE.toB (DF.toE (df_lst (da_cons (de_fn (ok__law_changed T) (hr.mono (by decide)) hgd rfl T.m__law_changed T.k__law_changed T.b__law_changed .nil (fun _ => .nil) xw (da_cons (de_var 2) (da_cons (de_var 5) da_nil))) (da_cons (de_fn (ok__law_words T) (hr.mono (by decide)) hgd rfl T.m__law_words T.k__law_words T.b__law_words .nil (fun _ => .nil) xw (da_cons (de_var 2) (da_cons (de_var 4) (da_cons de_int da_nil)))) da_nil))))) (DE.toB (de_op o_div (DE.toB (de_fn (ok__law_cut T) (hr.mono (by decide)) hgd rfl T.m__law_cut T.k__law_cut T.b__law_cut .nil (fun _ => .nil) xw (da_cons (de_var 2) (da_cons de_int da_nil)))) (DE.toB de_int)))))
    (dss_cons (ds_set (i := 7) sc_law.nd rfl (by first | exact .inl rfl | exact .inr rfl) (de_op o_add (DE.toB de_int) (DE.toB (de_fn (ok__law_cut T) (hr.mono (by decide)) hgd rfl T.m__law_cut T.k__law_cut T.b__law_cut .nil (fun _ => .nil) xw (da_cons (de_var 2) (da_cons (de_ix hr.units (DE.toB (DF.toE (df_lst (da_cons de_int (da_cons de_int da_nil))))) (DE.toB (de_fn (ok__law_cut T) (hr.mono (by decide)) hgd rfl T.m__law_cut T.k__law_cut T.b__law_cut .nil (fun _ => .nil) xw (da_cons (de_var 2) (da_cons de_int da_nil))))) da_nil))))))
    (dss_cons (ds_set (i := 8) sc_law.nd rfl (by first | exact .inl rfl | exact .inr rfl) (de_op o_add (db_var 7) (DE.toB (de_ix hr.units (DE.toB (DF.toE (df_lst (da_cons de_int (da_cons (de_fn (ok__law_cut T) (hr.mono (by decide)) hgd rfl T.m__law_cut T.k__law_cut T.b__law_cut .nil (fun _ => .nil) xw (da_cons (de_var 2) (da_cons de_int da_nil))) (da_cons (de_fn (ok__law_cut T) (hr.mono (by decide)) hgd rfl T.m__law_cut T.k__law_cut T.b__law_cut .nil (fun _ => .nil) xw (da_cons (de_var 2) (da_cons (de_op o_sub (DE.toB de_int) (db_var 7)) da_nil))) da_nil)))))) (DE.toB (de_fn (ok__law_cut T) (hr.mono (by decide)) hgd rfl T.m__law_cut T.k__law_cut T.b__law_cut .nil (fun _ => .nil) xw (da_cons (de_var 2) (da_cons de_int da_nil))))))))
    (dss_one (ds_for up (passes_of rfl) rfl (di_list (DF.toE (df_lst (da_cons (de_tup (da_cons (de_var 5) (da_cons (de_var 6) da_nil))) (da_cons (de_tup (da_cons (de_var 6) (da_cons (de_var 5) da_nil))) (da_cons (de_tup (da_cons (de_var 5) (da_cons (DF.toE (df_callTy c_list rfl T.b_list (by decide +kernel) (dab_cons (db_var 5) dab_nil))) da_nil))) (da_cons (de_tup (da_cons (de_var 5) (da_cons (de_var 5) da_nil))) da_nil))))))) (dg_tup rfl (dgs_cons (dg_name (i := 9) sc_law.nd rfl (by first | exact .inl rfl | exact .inr rfl)) (dgs_cons (dg_name (i := 10) sc_law.nd rfl (by first | exact .inl rfl | exact .inr rfl)) dgs_nil))) (dss_one (ds_if (dt_not (dt_truth (DE.toB (de_fn (ok__law_right T) (hr.mono (by decide)) hgd rfl T.m__law_right T.k__law_right T.b__law_right .nil (fun _ => .nil) xw (da_cons (de_var 9) (da_cons (de_var 10) (da_cons (de_var 7) (da_cons (de_var 8) da_nil)))))))) (dss_one (ds_ret de_bl)) dss_nil)))))))))))))
    (dss_cons (ds_set (i := 2) sc_law.nd rfl (by first | exact .inl rfl | exact .inr rfl) (de_fn (ok__law_digits T) (hr.mono (by decide)) hgd rfl T.m__law_digits T.k__law_digits T.b__law_digits .nil (fun _ => .nil) xw (da_cons (de_var 0) (da_cons de_int da_nil))))
    (dss_cons (ds_set (i := 5) sc_law.nd rfl (by first | exact .inl rfl | exact .inr rfl) (de_fn (ok__law_words T) (hr.mono (by decide)) hgd rfl T.m__law_words T.k__law_words T.b__law_words .nil (fun _ => .nil) xw (da_cons (de_var 2) (da_cons de_int (da_cons de_int da_nil)))))
    (dss_cons (ds_set (i := 11) sc_law.nd rfl (by first | exact .inl rfl | exact .inr rfl) (de_fn (ok__law_cut T) (hr.mono (by decide)) hgd rfl T.m__law_cut T.k__law_cut T.b__law_cut .nil (fun _ => .nil) xw (da_cons (de_var 2) (da_cons (de_op o_sub (DE.toB (de_callB c_len rfl T.b_len (by decide +kernel) (dab_cons (db_var 5) dab_nil))) (DE.toB de_int)) da_nil))))
    (dss_cons (ds_set (i := 12) sc_law.nd rfl (by first | exact .inl rfl | exact .inr rfl) (de_op o_add (DE.toB (de_op o_add (DE.toB (de_ix hr.units (db_var 5) (db_var 11))) (DE.toB de_int))) (DE.toB (de_ix hr.units (db_var 5) (DE.toB (de_op o_add (db_var 11) (DE.toB de_int)))))))
    (dss_cons (ds_set (i := 6) sc_law.nd rfl (by first | exact .inl rfl | exact .inr rfl) (de_op o_add (DE.toB (de_op o_add (DE.toB (DF.toE (df_slice (db_var 5) do_none (do_some (de_var 11))))) (DE.toB (DF.toE (df_lst (da_cons (de_var 12) da_nil)))))) (DE.toB (DF.toE (df_slice (db_var 5) (do_some (de_op o_add (db_var 11) (DE.toB de_int))) do_none)))))
    (dss_cons (ds_set (i := 7) sc_law.nd rfl (by first | exact .inl rfl | exact .inr rfl) (de_op o_add (DE.toB de_int) (DE.toB (de_fn (ok__law_cut T) (hr.mono (by decide)) hgd rfl T.m__law_cut T.k__law_cut T.b__law_cut .nil (fun _ => .nil) xw (da_cons (de_var 2) (da_cons de_int da_nil))))))
    (dss_cons (ds_if (dt_not (dt_truth (DE.toB (de_fn (ok__law_right T) (hr.mono (by decide)) hgd rfl T.m__law_right T.k__law_right T.b__law_right .nil (fun _ => .nil) xw (da_cons (de_var 5) (da_cons (de_var 6) (da_cons (de_var 7) (da_cons (de_op o_add (db_var 7) (DE.toB de_int)) da_nil)))))))) (dss_one (ds_ret de_bl)) dss_nil)
    (dss_cons (ds_if (dt_not (dt_truth (DE.toB (de_fn (ok__law_right T) (hr.mono (by decide)) hgd rfl T.m__law_right T.k__law_right T.b__law_right .nil (fun _ => .nil) xw (da_cons (de_var 6) (da_cons (de_var 5) (da_cons (de_var 7) (da_cons (de_var 7) da_nil)))))))) (dss_one (ds_ret de_bl)) dss_nil)
    (dss_one (ds_ret (de_and (de_cmp (o_eq hr.units) (DE.toB (de_fn (ok_separating_width T) (hr.mono (by decide)) hgd rfl T.m_separating_width T.k_separating_width T.b_separating_width .nil (fun _ => .nil) xw (da_cons (DF.toE (df_lst (da_cons de_int (da_cons de_int (da_cons de_int (da_cons de_int (da_cons de_int da_nil))))))) (da_cons (DF.toE (df_lst (da_cons de_int (da_cons de_int (da_cons de_int (da_cons de_int da_nil)))))) (da_cons de_int (da_cons de_int da_nil)))))) (DE.toB de_int) (nomark _)) (de_one (de_cmp o_isB (DE.toB (de_fn (ok_are_alike T) (hr.mono (by decide)) hgd rfl T.m_are_alike T.k_are_alike T.b_are_alike .nil (fun _ => .nil) xw (da_cons (DF.toE (df_lst (da_cons de_int da_nil))) (da_cons (DF.toE (df_lst (da_cons de_int da_nil))) (da_cons de_int (da_cons de_int da_nil)))))) (DE.toB de_bl) (nomark _)))))))))))))))) pure_law
end
end DL
namespace DL
open PySem PySem.Spec PyProof.Rows L2
set_option maxHeartbeats 0 in
theorem all_mk {l : PySem.W.OpenLaw} {w : World} {K : PySem.W.Frag} {h : Heap} {mg : Str → Option Value} {fa f_is_integer f_total_of f_ends_of f_starts_of f_wrapped_ends f__law_digits f__law_cut f__law_wrap f_is_width f_are_lengths f_lengths_of f_widths_of f__law_words f__law_changed f_is_text f_wrap_of f_require_range f_require_text f_visible_in f_core_in f_require_pair f_are_alike f_separating_width f__law_same f__law_right f_law C_InvalidRange C_InvalidText T_is_integer : Addr} (X : K.In h) (G : h.Ns mainGlobals mg) (hfa : mg "law" = some (.ref fa))
    {od_is_integer an_is_integer od_total_of an_total_of od_ends_of an_ends_of od_starts_of an_starts_of od_wrapped_ends an_wrapped_ends od__law_digits an__law_digits od__law_cut an__law_cut od__law_wrap an__law_wrap od_is_width an_is_width od_are_lengths an_are_lengths od_lengths_of an_lengths_of od_widths_of an_widths_of od__law_words an__law_words od__law_changed an__law_changed od_is_text an_is_text od_wrap_of an_wrap_of od_require_range an_require_range od_require_text an_require_text od_visible_in an_visible_in od_core_in an_core_in od_require_pair an_require_pair od_are_alike an_are_alike od_separating_width an_separating_width od__law_same an__law_same od__law_right an__law_right od_law an_law : Option Addr} {sl_is_integer sl_total_of sl_ends_of sl_starts_of sl_wrapped_ends sl__law_digits sl__law_cut sl__law_wrap sl_is_width sl_are_lengths sl_lengths_of sl_widths_of sl__law_words sl__law_changed sl_is_text sl_wrap_of sl_require_range sl_require_text sl_visible_in sl_core_in sl_require_pair sl_are_alike sl_separating_width sl__law_same sl__law_right sl_law : Array (Option Value)} {oc_is_integer kV_is_integer dc_is_integer pm_is_integer cd_is_integer ct_is_integer oc_total_of kV_total_of dc_total_of pm_total_of cd_total_of ct_total_of oc_ends_of kV_ends_of dc_ends_of pm_ends_of cd_ends_of ct_ends_of oc_starts_of kV_starts_of dc_starts_of pm_starts_of cd_starts_of ct_starts_of oc_wrapped_ends kV_wrapped_ends dc_wrapped_ends pm_wrapped_ends cd_wrapped_ends ct_wrapped_ends oc__law_digits kV__law_digits dc__law_digits pm__law_digits cd__law_digits ct__law_digits oc__law_cut kV__law_cut dc__law_cut pm__law_cut cd__law_cut ct__law_cut oc__law_wrap kV__law_wrap dc__law_wrap pm__law_wrap cd__law_wrap ct__law_wrap oc_is_width kV_is_width dc_is_width pm_is_width cd_is_width ct_is_width oc_are_lengths kV_are_lengths dc_are_lengths pm_are_lengths cd_are_lengths ct_are_lengths oc_lengths_of kV_lengths_of dc_lengths_of pm_lengths_of cd_lengths_of ct_lengths_of oc_widths_of kV_widths_of dc_widths_of pm_widths_of cd_widths_of ct_widths_of oc__law_words kV__law_words dc__law_words pm__law_words cd__law_words ct__law_words oc__law_changed kV__law_changed dc__law_changed pm__law_changed cd__law_changed ct__law_changed oc_is_text kV_is_text dc_is_text pm_is_text cd_is_text ct_is_text oc_wrap_of kV_wrap_of dc_wrap_of pm_wrap_of cd_wrap_of ct_wrap_of oc_require_range kV_require_range dc_require_range pm_require_range cd_require_range ct_require_range oc_require_text kV_require_text dc_require_text pm_require_text cd_require_text ct_require_text oc_visible_in kV_visible_in dc_visible_in pm_visible_in cd_visible_in ct_visible_in oc_core_in kV_core_in dc_core_in pm_core_in cd_core_in ct_core_in oc_require_pair kV_require_pair dc_require_pair pm_require_pair cd_require_pair ct_require_pair oc_are_alike kV_are_alike dc_are_alike pm_are_alike cd_are_alike ct_are_alike oc_separating_width kV_separating_width dc_separating_width pm_separating_width cd_separating_width ct_separating_width oc__law_same kV__law_same dc__law_same pm__law_same cd__law_same ct__law_same oc__law_right kV__law_right dc__law_right pm__law_right cd__law_right ct__law_right oc_law kV_law dc_law pm_law cd_law ct_law : Value}
    {oT_is_integer : Value} {dT_is_integer : Option Addr} {nT_is_integer : Nat} {sT_is_integer : Array (Option Value)}
    {tk_MAX_CHARACTERS tk_MAX_WIDTH : Tok}
    (a_is_integer : PySem.W.nsIn K mainGlobals "is_integer" = some (some (.ref f_is_integer)))
    (l_is_integer : K.lookup f_is_integer = some ⟨oc_is_integer, od_is_integer, .func (PySem.W.fnOf "is_integer" "is_integer" (defArgs st_is_integer) (defBody st_is_integer) (defScope st_is_integer) (.ref T_is_integer) kV_is_integer dc_is_integer pm_is_integer an_is_integer cd_is_integer ct_is_integer), sl_is_integer⟩)
    (c_is_integer : PySem.W.codeIn K cd_is_integer "is_integer" = true)
    (k_is_integer : PySem.W.keepIn K (.ref f_is_integer) = true)
    (t_is_integer : K.lookup T_is_integer = some ⟨oT_is_integer, dT_is_integer, .seq (List.toArray [.none]) nT_is_integer, sT_is_integer⟩)
    (a_total_of : PySem.W.nsIn K mainGlobals "total_of" = some (some (.ref f_total_of)))
    (l_total_of : K.lookup f_total_of = some ⟨oc_total_of, od_total_of, .func (PySem.W.fnOf "total_of" "total_of" (defArgs st_total_of) (defBody st_total_of) (defScope st_total_of) .none kV_total_of dc_total_of pm_total_of an_total_of cd_total_of ct_total_of), sl_total_of⟩)
    (c_total_of : PySem.W.codeIn K cd_total_of "total_of" = true)
    (k_total_of : PySem.W.keepIn K (.ref f_total_of) = true)
    (a_ends_of : PySem.W.nsIn K mainGlobals "ends_of" = some (some (.ref f_ends_of)))
    (l_ends_of : K.lookup f_ends_of = some ⟨oc_ends_of, od_ends_of, .func (PySem.W.fnOf "ends_of" "ends_of" (defArgs st_ends_of) (defBody st_ends_of) (defScope st_ends_of) .none kV_ends_of dc_ends_of pm_ends_of an_ends_of cd_ends_of ct_ends_of), sl_ends_of⟩)
    (c_ends_of : PySem.W.codeIn K cd_ends_of "ends_of" = true)
    (k_ends_of : PySem.W.keepIn K (.ref f_ends_of) = true)
    (a_starts_of : PySem.W.nsIn K mainGlobals "starts_of" = some (some (.ref f_starts_of)))
    (l_starts_of : K.lookup f_starts_of = some ⟨oc_starts_of, od_starts_of, .func (PySem.W.fnOf "starts_of" "starts_of" (defArgs st_starts_of) (defBody st_starts_of) (defScope st_starts_of) .none kV_starts_of dc_starts_of pm_starts_of an_starts_of cd_starts_of ct_starts_of), sl_starts_of⟩)
    (c_starts_of : PySem.W.codeIn K cd_starts_of "starts_of" = true)
    (k_starts_of : PySem.W.keepIn K (.ref f_starts_of) = true)
    (a_wrapped_ends : PySem.W.nsIn K mainGlobals "wrapped_ends" = some (some (.ref f_wrapped_ends)))
    (l_wrapped_ends : K.lookup f_wrapped_ends = some ⟨oc_wrapped_ends, od_wrapped_ends, .func (PySem.W.fnOf "wrapped_ends" "wrapped_ends" (defArgs st_wrapped_ends) (defBody st_wrapped_ends) (defScope st_wrapped_ends) .none kV_wrapped_ends dc_wrapped_ends pm_wrapped_ends an_wrapped_ends cd_wrapped_ends ct_wrapped_ends), sl_wrapped_ends⟩)
    (c_wrapped_ends : PySem.W.codeIn K cd_wrapped_ends "wrapped_ends" = true)
    (k_wrapped_ends : PySem.W.keepIn K (.ref f_wrapped_ends) = true)
    (a__law_digits : PySem.W.nsIn K mainGlobals "_law_digits" = some (some (.ref f__law_digits)))
    (l__law_digits : K.lookup f__law_digits = some ⟨oc__law_digits, od__law_digits, .func (PySem.W.fnOf "_law_digits" "_law_digits" (defArgs st__law_digits) (defBody st__law_digits) (defScope st__law_digits) .none kV__law_digits dc__law_digits pm__law_digits an__law_digits cd__law_digits ct__law_digits), sl__law_digits⟩)
    (c__law_digits : PySem.W.codeIn K cd__law_digits "_law_digits" = true)
    (k__law_digits : PySem.W.keepIn K (.ref f__law_digits) = true)
    (a__law_cut : PySem.W.nsIn K mainGlobals "_law_cut" = some (some (.ref f__law_cut)))
    (l__law_cut : K.lookup f__law_cut = some ⟨oc__law_cut, od__law_cut, .func (PySem.W.fnOf "_law_cut" "_law_cut" (defArgs st__law_cut) (defBody st__law_cut) (defScope st__law_cut) .none kV__law_cut dc__law_cut pm__law_cut an__law_cut cd__law_cut ct__law_cut), sl__law_cut⟩)
    (c__law_cut : PySem.W.codeIn K cd__law_cut "_law_cut" = true)
    (k__law_cut : PySem.W.keepIn K (.ref f__law_cut) = true)
    (a__law_wrap : PySem.W.nsIn K mainGlobals "_law_wrap" = some (some (.ref f__law_wrap)))
    (l__law_wrap : K.lookup f__law_wrap = some ⟨oc__law_wrap, od__law_wrap, .func (PySem.W.fnOf "_law_wrap" "_law_wrap" (defArgs st__law_wrap) (defBody st__law_wrap) (defScope st__law_wrap) .none kV__law_wrap dc__law_wrap pm__law_wrap an__law_wrap cd__law_wrap ct__law_wrap), sl__law_wrap⟩)
    (c__law_wrap : PySem.W.codeIn K cd__law_wrap "_law_wrap" = true)
    (k__law_wrap : PySem.W.keepIn K (.ref f__law_wrap) = true)
    (a_is_width : PySem.W.nsIn K mainGlobals "is_width" = some (some (.ref f_is_width)))
    (l_is_width : K.lookup f_is_width = some ⟨oc_is_width, od_is_width, .func (PySem.W.fnOf "is_width" "is_width" (defArgs st_is_width) (defBody st_is_width) (defScope st_is_width) .none kV_is_width dc_is_width pm_is_width an_is_width cd_is_width ct_is_width), sl_is_width⟩)
    (c_is_width : PySem.W.codeIn K cd_is_width "is_width" = true)
    (k_is_width : PySem.W.keepIn K (.ref f_is_width) = true)
    (a_are_lengths : PySem.W.nsIn K mainGlobals "are_lengths" = some (some (.ref f_are_lengths)))
    (l_are_lengths : K.lookup f_are_lengths = some ⟨oc_are_lengths, od_are_lengths, .func (PySem.W.fnOf "are_lengths" "are_lengths" (defArgs st_are_lengths) (defBody st_are_lengths) (defScope st_are_lengths) .none kV_are_lengths dc_are_lengths pm_are_lengths an_are_lengths cd_are_lengths ct_are_lengths), sl_are_lengths⟩)
    (c_are_lengths : PySem.W.codeIn K cd_are_lengths "are_lengths" = true)
    (k_are_lengths : PySem.W.keepIn K (.ref f_are_lengths) = true)
    (a_lengths_of : PySem.W.nsIn K mainGlobals "lengths_of" = some (some (.ref f_lengths_of)))
    (l_lengths_of : K.lookup f_lengths_of = some ⟨oc_lengths_of, od_lengths_of, .func (PySem.W.fnOf "lengths_of" "lengths_of" (defArgs st_lengths_of) (defBody st_lengths_of) (defScope st_lengths_of) .none kV_lengths_of dc_lengths_of pm_lengths_of an_lengths_of cd_lengths_of ct_lengths_of), sl_lengths_of⟩)
    (c_lengths_of : PySem.W.codeIn K cd_lengths_of "lengths_of" = true)
    (k_lengths_of : PySem.W.keepIn K (.ref f_lengths_of) = true)
    (a_widths_of : PySem.W.nsIn K mainGlobals "widths_of" = some (some (.ref f_widths_of)))
    (l_widths_of : K.lookup f_widths_of = some ⟨oc_widths_of, od_widths_of, .func (PySem.W.fnOf "widths_of" "widths_of" (defArgs st_widths_of) (defBody st_widths_of) (defScope st_widths_of) .none kV_widths_of dc_widths_of pm_widths_of an_widths_of cd_widths_of ct_widths_of), sl_widths_of⟩)
    (c_widths_of : PySem.W.codeIn K cd_widths_of "widths_of" = true)
    (k_widths_of : PySem.W.keepIn K (.ref f_widths_of) = true)
    (a__law_words : PySem.W.nsIn K mainGlobals "_law_words" = some (some (.ref f__law_words)))
    (l__law_words : K.lookup f__law_words = some ⟨oc__law_words, od__law_words, .func (PySem.W.fnOf "_law_words" "_law_words" (defArgs st__law_words) (defBody st__law_words) (defScope st__law_words) .none kV__law_words dc__law_words pm__law_words an__law_words cd__law_words ct__law_words), sl__law_words⟩)
    (c__law_words : PySem.W.codeIn K cd__law_words "_law_words" = true)
    (k__law_words : PySem.W.keepIn K (.ref f__law_words) = true)
    (a__law_changed : PySem.W.nsIn K mainGlobals "_law_changed" = some (some (.ref f__law_changed)))
    (l__law_changed : K.lookup f__law_changed = some ⟨oc__law_changed, od__law_changed, .func (PySem.W.fnOf "_law_changed" "_law_changed" (defArgs st__law_changed) (defBody st__law_changed) (defScope st__law_changed) .none kV__law_changed dc__law_changed pm__law_changed an__law_changed cd__law_changed ct__law_changed), sl__law_changed⟩)
    (c__law_changed : PySem.W.codeIn K cd__law_changed "_law_changed" = true)
    (k__law_changed : PySem.W.keepIn K (.ref f__law_changed) = true)
    (a_is_text : PySem.W.nsIn K mainGlobals "is_text" = some (some (.ref f_is_text)))
    (l_is_text : K.lookup f_is_text = some ⟨oc_is_text, od_is_text, .func (PySem.W.fnOf "is_text" "is_text" (defArgs st_is_text) (defBody st_is_text) (defScope st_is_text) .none kV_is_text dc_is_text pm_is_text an_is_text cd_is_text ct_is_text), sl_is_text⟩)
    (c_is_text : PySem.W.codeIn K cd_is_text "is_text" = true)
    (k_is_text : PySem.W.keepIn K (.ref f_is_text) = true)
    (a_wrap_of : PySem.W.nsIn K mainGlobals "wrap_of" = some (some (.ref f_wrap_of)))
    (l_wrap_of : K.lookup f_wrap_of = some ⟨oc_wrap_of, od_wrap_of, .func (PySem.W.fnOf "wrap_of" "wrap_of" (defArgs st_wrap_of) (defBody st_wrap_of) (defScope st_wrap_of) .none kV_wrap_of dc_wrap_of pm_wrap_of an_wrap_of cd_wrap_of ct_wrap_of), sl_wrap_of⟩)
    (c_wrap_of : PySem.W.codeIn K cd_wrap_of "wrap_of" = true)
    (k_wrap_of : PySem.W.keepIn K (.ref f_wrap_of) = true)
    (a_require_range : PySem.W.nsIn K mainGlobals "require_range" = some (some (.ref f_require_range)))
    (l_require_range : K.lookup f_require_range = some ⟨oc_require_range, od_require_range, .func (PySem.W.fnOf "require_range" "require_range" (defArgs st_require_range) (defBody st_require_range) (defScope st_require_range) .none kV_require_range dc_require_range pm_require_range an_require_range cd_require_range ct_require_range), sl_require_range⟩)
    (c_require_range : PySem.W.codeIn K cd_require_range "require_range" = true)
    (k_require_range : PySem.W.keepIn K (.ref f_require_range) = true)
    (a_require_text : PySem.W.nsIn K mainGlobals "require_text" = some (some (.ref f_require_text)))
    (l_require_text : K.lookup f_require_text = some ⟨oc_require_text, od_require_text, .func (PySem.W.fnOf "require_text" "require_text" (defArgs st_require_text) (defBody st_require_text) (defScope st_require_text) .none kV_require_text dc_require_text pm_require_text an_require_text cd_require_text ct_require_text), sl_require_text⟩)
    (c_require_text : PySem.W.codeIn K cd_require_text "require_text" = true)
    (k_require_text : PySem.W.keepIn K (.ref f_require_text) = true)
    (a_visible_in : PySem.W.nsIn K mainGlobals "visible_in" = some (some (.ref f_visible_in)))
    (l_visible_in : K.lookup f_visible_in = some ⟨oc_visible_in, od_visible_in, .func (PySem.W.fnOf "visible_in" "visible_in" (defArgs st_visible_in) (defBody st_visible_in) (defScope st_visible_in) .none kV_visible_in dc_visible_in pm_visible_in an_visible_in cd_visible_in ct_visible_in), sl_visible_in⟩)
    (c_visible_in : PySem.W.codeIn K cd_visible_in "visible_in" = true)
    (k_visible_in : PySem.W.keepIn K (.ref f_visible_in) = true)
    (a_core_in : PySem.W.nsIn K mainGlobals "core_in" = some (some (.ref f_core_in)))
    (l_core_in : K.lookup f_core_in = some ⟨oc_core_in, od_core_in, .func (PySem.W.fnOf "core_in" "core_in" (defArgs st_core_in) (defBody st_core_in) (defScope st_core_in) .none kV_core_in dc_core_in pm_core_in an_core_in cd_core_in ct_core_in), sl_core_in⟩)
    (c_core_in : PySem.W.codeIn K cd_core_in "core_in" = true)
    (k_core_in : PySem.W.keepIn K (.ref f_core_in) = true)
    (a_require_pair : PySem.W.nsIn K mainGlobals "require_pair" = some (some (.ref f_require_pair)))
    (l_require_pair : K.lookup f_require_pair = some ⟨oc_require_pair, od_require_pair, .func (PySem.W.fnOf "require_pair" "require_pair" (defArgs st_require_pair) (defBody st_require_pair) (defScope st_require_pair) .none kV_require_pair dc_require_pair pm_require_pair an_require_pair cd_require_pair ct_require_pair), sl_require_pair⟩)
    (c_require_pair : PySem.W.codeIn K cd_require_pair "require_pair" = true)
    (k_require_pair : PySem.W.keepIn K (.ref f_require_pair) = true)
    (a_are_alike : PySem.W.nsIn K mainGlobals "are_alike" = some (some (.ref f_are_alike)))
    (l_are_alike : K.lookup f_are_alike = some ⟨oc_are_alike, od_are_alike, .func (PySem.W.fnOf "are_alike" "are_alike" (defArgs st_are_alike) (defBody st_are_alike) (defScope st_are_alike) .none kV_are_alike dc_are_alike pm_are_alike an_are_alike cd_are_alike ct_are_alike), sl_are_alike⟩)
    (c_are_alike : PySem.W.codeIn K cd_are_alike "are_alike" = true)
    (k_are_alike : PySem.W.keepIn K (.ref f_are_alike) = true)
    (a_separating_width : PySem.W.nsIn K mainGlobals "separating_width" = some (some (.ref f_separating_width)))
    (l_separating_width : K.lookup f_separating_width = some ⟨oc_separating_width, od_separating_width, .func (PySem.W.fnOf "separating_width" "separating_width" (defArgs st_separating_width) (defBody st_separating_width) (defScope st_separating_width) .none kV_separating_width dc_separating_width pm_separating_width an_separating_width cd_separating_width ct_separating_width), sl_separating_width⟩)
    (c_separating_width : PySem.W.codeIn K cd_separating_width "separating_width" = true)
    (k_separating_width : PySem.W.keepIn K (.ref f_separating_width) = true)
    (a__law_same : PySem.W.nsIn K mainGlobals "_law_same" = some (some (.ref f__law_same)))
    (l__law_same : K.lookup f__law_same = some ⟨oc__law_same, od__law_same, .func (PySem.W.fnOf "_law_same" "_law_same" (defArgs st__law_same) (defBody st__law_same) (defScope st__law_same) .none kV__law_same dc__law_same pm__law_same an__law_same cd__law_same ct__law_same), sl__law_same⟩)
    (c__law_same : PySem.W.codeIn K cd__law_same "_law_same" = true)
    (k__law_same : PySem.W.keepIn K (.ref f__law_same) = true)
    (a__law_right : PySem.W.nsIn K mainGlobals "_law_right" = some (some (.ref f__law_right)))
    (l__law_right : K.lookup f__law_right = some ⟨oc__law_right, od__law_right, .func (PySem.W.fnOf "_law_right" "_law_right" (defArgs st__law_right) (defBody st__law_right) (defScope st__law_right) .none kV__law_right dc__law_right pm__law_right an__law_right cd__law_right ct__law_right), sl__law_right⟩)
    (c__law_right : PySem.W.codeIn K cd__law_right "_law_right" = true)
    (k__law_right : PySem.W.keepIn K (.ref f__law_right) = true)
    (a_law : PySem.W.nsIn K mainGlobals "law" = some (some (.ref f_law)))
    (l_law : K.lookup f_law = some ⟨oc_law, od_law, .func (PySem.W.fnOf "law" "law" (defArgs st_law) (defBody st_law) (defScope st_law) .none kV_law dc_law pm_law an_law cd_law ct_law), sl_law⟩)
    (c_law : PySem.W.codeIn K cd_law "law" = true)
    (k_law : PySem.W.keepIn K (.ref f_law) = true)
    (v_MAX_CHARACTERS : PySem.W.nsIn K mainGlobals "MAX_CHARACTERS" = some (some (.int 600 tk_MAX_CHARACTERS)))
    (v_MAX_WIDTH : PySem.W.nsIn K mainGlobals "MAX_WIDTH" = some (some (.int 1000 tk_MAX_WIDTH)))
    (z_len : PySem.W.nsIn K mainGlobals "len" = some none)
    (z_sum : PySem.W.nsIn K mainGlobals "sum" = some none)
    (z_all : PySem.W.nsIn K mainGlobals "all" = some none)
    (z_max : PySem.W.nsIn K mainGlobals "max" = some none)
    (z_min : PySem.W.nsIn K mainGlobals "min" = some none)
    (z_abs : PySem.W.nsIn K mainGlobals "abs" = some none)
    (z_sorted : PySem.W.nsIn K mainGlobals "sorted" = some none)
    (z_range : PySem.W.nsIn K mainGlobals "range" = some none)
    (z_zip : PySem.W.nsIn K mainGlobals "zip" = some none)
    (z_isinstance : PySem.W.nsIn K mainGlobals "isinstance" = some none)
    (z_int : PySem.W.nsIn K mainGlobals "int" = some none)
    (z_bool : PySem.W.nsIn K mainGlobals "bool" = some none)
    (z_str : PySem.W.nsIn K mainGlobals "str" = some none)
    (z_list : PySem.W.nsIn K mainGlobals "list" = some none)
    (z_tuple : PySem.W.nsIn K mainGlobals "tuple" = some none)
    (z_repr : PySem.W.nsIn K mainGlobals "repr" = some none)
    (g_InvalidRange : PySem.W.nsIn K mainGlobals "InvalidRange" = some (some (.ref C_InvalidRange)))
    (q_InvalidRange : PySem.W.excIn K C_InvalidRange excTail "ValueError.__new__" = true)
    (w_InvalidRange : PySem.W.keepIn K (.ref C_InvalidRange) = true)
    (s_InvalidRange : PySem.W.subIn K (.ref C_InvalidRange) (.type "BaseException") = some true)
    (y_InvalidRange : PySem.W.typeIn K (.ref C_InvalidRange) = some (.type "type"))
    (g_InvalidText : PySem.W.nsIn K mainGlobals "InvalidText" = some (some (.ref C_InvalidText)))
    (q_InvalidText : PySem.W.excIn K C_InvalidText excTail "ValueError.__new__" = true)
    (w_InvalidText : PySem.W.keepIn K (.ref C_InvalidText) = true)
    (s_InvalidText : PySem.W.subIn K (.ref C_InvalidText) (.type "BaseException") = some true)
    (y_InvalidText : PySem.W.typeIn K (.ref C_InvalidText) = some (.type "type"))
    : ∃ fd : FuncData, (∀ (s : Shared) (v : Value), BindsTo s fd ⟨[v], []⟩ [("script", v)]) ∧ ∀ base : Heap, K.In base → base.Ns mainGlobals mg → ∃ Fd' : DSp, GFn l.prog w K mg base 11 fa fd ["script"] (liftSp K Fd') ∧ ∀ ds M Q X, F_law ds M Q X → Fd' ds M Q X := by
  letI : Cls := ⟨fa, C_InvalidText, fa, fa, fa, fa, fa, fa, fa, C_InvalidRange, fa, fa, fa, fa, fa, fa, fa, fa, fa⟩
  have e : fa = f_law := by
    have e := hfa.symm.trans (PySem.W.mg_of X G a_law)
    simpa using e
  have FF_is_integer : FunD K "is_integer" "is_integer" (defArgs st_is_integer) (defBody st_is_integer) (defScope st_is_integer) [V.non] [] _ _ := fund_mkD l_is_integer c_is_integer k_is_integer t_is_integer rfl (.cons rfl .nil) (by simp)
  have FF_total_of : FunD K "total_of" "total_of" (defArgs st_total_of) (defBody st_total_of) (defScope st_total_of) [] [] _ _ := fund_mk l_total_of c_total_of k_total_of
  have FF_ends_of : FunD K "ends_of" "ends_of" (defArgs st_ends_of) (defBody st_ends_of) (defScope st_ends_of) [] [] _ _ := fund_mk l_ends_of c_ends_of k_ends_of
  have FF_starts_of : FunD K "starts_of" "starts_of" (defArgs st_starts_of) (defBody st_starts_of) (defScope st_starts_of) [] [] _ _ := fund_mk l_starts_of c_starts_of k_starts_of
  have FF_wrapped_ends : FunD K "wrapped_ends" "wrapped_ends" (defArgs st_wrapped_ends) (defBody st_wrapped_ends) (defScope st_wrapped_ends) [] [] _ _ := fund_mk l_wrapped_ends c_wrapped_ends k_wrapped_ends
  have FF__law_digits : FunD K "_law_digits" "_law_digits" (defArgs st__law_digits) (defBody st__law_digits) (defScope st__law_digits) [] [] _ _ := fund_mk l__law_digits c__law_digits k__law_digits
  have FF__law_cut : FunD K "_law_cut" "_law_cut" (defArgs st__law_cut) (defBody st__law_cut) (defScope st__law_cut) [] [] _ _ := fund_mk l__law_cut c__law_cut k__law_cut
  have FF__law_wrap : FunD K "_law_wrap" "_law_wrap" (defArgs st__law_wrap) (defBody st__law_wrap) (defScope st__law_wrap) [] [] _ _ := fund_mk l__law_wrap c__law_wrap k__law_wrap
  have FF_is_width : FunD K "is_width" "is_width" (defArgs st_is_width) (defBody st_is_width) (defScope st_is_width) [] [] _ _ := fund_mk l_is_width c_is_width k_is_width
  have FF_are_lengths : FunD K "are_lengths" "are_lengths" (defArgs st_are_lengths) (defBody st_are_lengths) (defScope st_are_lengths) [] [] _ _ := fund_mk l_are_lengths c_are_lengths k_are_lengths
  have FF_lengths_of : FunD K "lengths_of" "lengths_of" (defArgs st_lengths_of) (defBody st_lengths_of) (defScope st_lengths_of) [] [] _ _ := fund_mk l_lengths_of c_lengths_of k_lengths_of
  have FF_widths_of : FunD K "widths_of" "widths_of" (defArgs st_widths_of) (defBody st_widths_of) (defScope st_widths_of) [] [] _ _ := fund_mk l_widths_of c_widths_of k_widths_of
  have FF__law_words : FunD K "_law_words" "_law_words" (defArgs st__law_words) (defBody st__law_words) (defScope st__law_words) [] [] _ _ := fund_mk l__law_words c__law_words k__law_words
  have FF__law_changed : FunD K "_law_changed" "_law_changed" (defArgs st__law_changed) (defBody st__law_changed) (defScope st__law_changed) [] [] _ _ := fund_mk l__law_changed c__law_changed k__law_changed
  have FF_is_text : FunD K "is_text" "is_text" (defArgs st_is_text) (defBody st_is_text) (defScope st_is_text) [] [] _ _ := fund_mk l_is_text c_is_text k_is_text
  have FF_wrap_of : FunD K "wrap_of" "wrap_of" (defArgs st_wrap_of) (defBody st_wrap_of) (defScope st_wrap_of) [] [] _ _ := fund_mk l_wrap_of c_wrap_of k_wrap_of
  have FF_require_range : FunD K "require_range" "require_range" (defArgs st_require_range) (defBody st_require_range) (defScope st_require_range) [] [] _ _ := fund_mk l_require_range c_require_range k_require_range
  have FF_require_text : FunD K "require_text" "require_text" (defArgs st_require_text) (defBody st_require_text) (defScope st_require_text) [] [] _ _ := fund_mk l_require_text c_require_text k_require_text
  have FF_visible_in : FunD K "visible_in" "visible_in" (defArgs st_visible_in) (defBody st_visible_in) (defScope st_visible_in) [] [] _ _ := fund_mk l_visible_in c_visible_in k_visible_in
  have FF_core_in : FunD K "core_in" "core_in" (defArgs st_core_in) (defBody st_core_in) (defScope st_core_in) [] [] _ _ := fund_mk l_core_in c_core_in k_core_in
  have FF_require_pair : FunD K "require_pair" "require_pair" (defArgs st_require_pair) (defBody st_require_pair) (defScope st_require_pair) [] [] _ _ := fund_mk l_require_pair c_require_pair k_require_pair
  have FF_are_alike : FunD K "are_alike" "are_alike" (defArgs st_are_alike) (defBody st_are_alike) (defScope st_are_alike) [] [] _ _ := fund_mk l_are_alike c_are_alike k_are_alike
  have FF_separating_width : FunD K "separating_width" "separating_width" (defArgs st_separating_width) (defBody st_separating_width) (defScope st_separating_width) [] [] _ _ := fund_mk l_separating_width c_separating_width k_separating_width
  have FF__law_same : FunD K "_law_same" "_law_same" (defArgs st__law_same) (defBody st__law_same) (defScope st__law_same) [] [] _ _ := fund_mk l__law_same c__law_same k__law_same
  have FF__law_right : FunD K "_law_right" "_law_right" (defArgs st__law_right) (defBody st__law_right) (defScope st__law_right) [] [] _ _ := fund_mk l__law_right c__law_right k__law_right
  have FF_law : FunD K "law" "law" (defArgs st_law) (defBody st_law) (defScope st_law) [] [] _ _ := fund_mk l_law c_law k_law
  have hB : ∀ (s : Shared) (v : Value), BindsTo s _ ⟨[v], []⟩ [("script", v)] := fun s v => FF_law.bindsA (ps := ["script"]) (fun _ _ _ _ _ _ us hl => match us, hl with | [_], _ => rfl) s [v] rfl
  let T : Txt K mg := {
    a_is_integer := f_is_integer, fd_is_integer := _, f_is_integer := FF_is_integer, m_is_integer := PySem.W.mg_of X G a_is_integer, k_is_integer := k_is_integer,
    b_is_integer := bind_full (dvs := [V.non]) (FF_is_integer.binds1 3 1 (by simp) rfl fun T kV doc pm an cdv ct us its h1 h2 => match us, its, h1, h2 with | [_, _, _], [_], _, _ => ⟨_, rfl, rfl⟩),
    b_2_is_integer := FF_is_integer.binds1 2 0 (by simp) rfl fun T kV doc pm an cdv ct us its h1 h2 => match us, its, h1, h2 with | [_, _], [_], _, _ => ⟨_, rfl, rfl⟩,
    a_total_of := f_total_of, fd_total_of := _, f_total_of := FF_total_of, m_total_of := PySem.W.mg_of X G a_total_of, k_total_of := k_total_of,
    b_total_of := FF_total_of.bindsN fun _ _ _ _ _ _ us hl => match us, hl with | [_], _ => rfl,
    a_ends_of := f_ends_of, fd_ends_of := _, f_ends_of := FF_ends_of, m_ends_of := PySem.W.mg_of X G a_ends_of, k_ends_of := k_ends_of,
    b_ends_of := FF_ends_of.bindsN fun _ _ _ _ _ _ us hl => match us, hl with | [_], _ => rfl,
    a_starts_of := f_starts_of, fd_starts_of := _, f_starts_of := FF_starts_of, m_starts_of := PySem.W.mg_of X G a_starts_of, k_starts_of := k_starts_of,
    b_starts_of := FF_starts_of.bindsN fun _ _ _ _ _ _ us hl => match us, hl with | [_], _ => rfl,
    a_wrapped_ends := f_wrapped_ends, fd_wrapped_ends := _, f_wrapped_ends := FF_wrapped_ends, m_wrapped_ends := PySem.W.mg_of X G a_wrapped_ends, k_wrapped_ends := k_wrapped_ends,
    b_wrapped_ends := FF_wrapped_ends.bindsN fun _ _ _ _ _ _ us hl => match us, hl with | [_, _], _ => rfl,
    a__law_digits := f__law_digits, fd__law_digits := _, f__law_digits := FF__law_digits, m__law_digits := PySem.W.mg_of X G a__law_digits, k__law_digits := k__law_digits,
    b__law_digits := FF__law_digits.bindsN fun _ _ _ _ _ _ us hl => match us, hl with | [_, _], _ => rfl,
    a__law_cut := f__law_cut, fd__law_cut := _, f__law_cut := FF__law_cut, m__law_cut := PySem.W.mg_of X G a__law_cut, k__law_cut := k__law_cut,
    b__law_cut := FF__law_cut.bindsN fun _ _ _ _ _ _ us hl => match us, hl with | [_, _], _ => rfl,
    a__law_wrap := f__law_wrap, fd__law_wrap := _, f__law_wrap := FF__law_wrap, m__law_wrap := PySem.W.mg_of X G a__law_wrap, k__law_wrap := k__law_wrap,
    b__law_wrap := FF__law_wrap.bindsN fun _ _ _ _ _ _ us hl => match us, hl with | [_, _], _ => rfl,
    a_is_width := f_is_width, fd_is_width := _, f_is_width := FF_is_width, m_is_width := PySem.W.mg_of X G a_is_width, k_is_width := k_is_width,
    b_is_width := FF_is_width.bindsN fun _ _ _ _ _ _ us hl => match us, hl with | [_], _ => rfl,
    a_are_lengths := f_are_lengths, fd_are_lengths := _, f_are_lengths := FF_are_lengths, m_are_lengths := PySem.W.mg_of X G a_are_lengths, k_are_lengths := k_are_lengths,
    b_are_lengths := FF_are_lengths.bindsN fun _ _ _ _ _ _ us hl => match us, hl with | [_], _ => rfl,
    a_lengths_of := f_lengths_of, fd_lengths_of := _, f_lengths_of := FF_lengths_of, m_lengths_of := PySem.W.mg_of X G a_lengths_of, k_lengths_of := k_lengths_of,
    b_lengths_of := FF_lengths_of.bindsN fun _ _ _ _ _ _ us hl => match us, hl with | [_], _ => rfl,
    a_widths_of := f_widths_of, fd_widths_of := _, f_widths_of := FF_widths_of, m_widths_of := PySem.W.mg_of X G a_widths_of, k_widths_of := k_widths_of,
    b_widths_of := FF_widths_of.bindsN fun _ _ _ _ _ _ us hl => match us, hl with | [_, _, _], _ => rfl,
    a__law_words := f__law_words, fd__law_words := _, f__law_words := FF__law_words, m__law_words := PySem.W.mg_of X G a__law_words, k__law_words := k__law_words,
    b__law_words := FF__law_words.bindsN fun _ _ _ _ _ _ us hl => match us, hl with | [_, _, _], _ => rfl,
    a__law_changed := f__law_changed, fd__law_changed := _, f__law_changed := FF__law_changed, m__law_changed := PySem.W.mg_of X G a__law_changed, k__law_changed := k__law_changed,
    b__law_changed := FF__law_changed.bindsN fun _ _ _ _ _ _ us hl => match us, hl with | [_, _], _ => rfl,
    a_is_text := f_is_text, fd_is_text := _, f_is_text := FF_is_text, m_is_text := PySem.W.mg_of X G a_is_text, k_is_text := k_is_text,
    b_is_text := FF_is_text.bindsN fun _ _ _ _ _ _ us hl => match us, hl with | [_], _ => rfl,
    a_wrap_of := f_wrap_of, fd_wrap_of := _, f_wrap_of := FF_wrap_of, m_wrap_of := PySem.W.mg_of X G a_wrap_of, k_wrap_of := k_wrap_of,
    b_wrap_of := FF_wrap_of.bindsN fun _ _ _ _ _ _ us hl => match us, hl with | [_, _], _ => rfl,
    a_require_range := f_require_range, fd_require_range := _, f_require_range := FF_require_range, m_require_range := PySem.W.mg_of X G a_require_range, k_require_range := k_require_range,
    b_require_range := FF_require_range.bindsN fun _ _ _ _ _ _ us hl => match us, hl with | [_, _], _ => rfl,
    a_require_text := f_require_text, fd_require_text := _, f_require_text := FF_require_text, m_require_text := PySem.W.mg_of X G a_require_text, k_require_text := k_require_text,
    b_require_text := FF_require_text.bindsN fun _ _ _ _ _ _ us hl => match us, hl with | [_], _ => rfl,
    a_visible_in := f_visible_in, fd_visible_in := _, f_visible_in := FF_visible_in, m_visible_in := PySem.W.mg_of X G a_visible_in, k_visible_in := k_visible_in,
    b_visible_in := FF_visible_in.bindsN fun _ _ _ _ _ _ us hl => match us, hl with | [_, _, _], _ => rfl,
    a_core_in := f_core_in, fd_core_in := _, f_core_in := FF_core_in, m_core_in := PySem.W.mg_of X G a_core_in, k_core_in := k_core_in,
    b_core_in := FF_core_in.bindsN fun _ _ _ _ _ _ us hl => match us, hl with | [_, _, _], _ => rfl,
    a_require_pair := f_require_pair, fd_require_pair := _, f_require_pair := FF_require_pair, m_require_pair := PySem.W.mg_of X G a_require_pair, k_require_pair := k_require_pair,
    b_require_pair := FF_require_pair.bindsN fun _ _ _ _ _ _ us hl => match us, hl with | [_, _, _, _], _ => rfl,
    a_are_alike := f_are_alike, fd_are_alike := _, f_are_alike := FF_are_alike, m_are_alike := PySem.W.mg_of X G a_are_alike, k_are_alike := k_are_alike,
    b_are_alike := FF_are_alike.bindsN fun _ _ _ _ _ _ us hl => match us, hl with | [_, _, _, _], _ => rfl,
    a_separating_width := f_separating_width, fd_separating_width := _, f_separating_width := FF_separating_width, m_separating_width := PySem.W.mg_of X G a_separating_width, k_separating_width := k_separating_width,
    b_separating_width := FF_separating_width.bindsN fun _ _ _ _ _ _ us hl => match us, hl with | [_, _, _, _], _ => rfl,
    a__law_same := f__law_same, fd__law_same := _, f__law_same := FF__law_same, m__law_same := PySem.W.mg_of X G a__law_same, k__law_same := k__law_same,
    b__law_same := FF__law_same.bindsN fun _ _ _ _ _ _ us hl => match us, hl with | [_, _], _ => rfl,
    a__law_right := f__law_right, fd__law_right := _, f__law_right := FF__law_right, m__law_right := PySem.W.mg_of X G a__law_right, k__law_right := k__law_right,
    b__law_right := FF__law_right.bindsN fun _ _ _ _ _ _ us hl => match us, hl with | [_, _, _, _], _ => rfl,
    a_law := f_law, fd_law := _, f_law := FF_law, m_law := PySem.W.mg_of X G a_law, k_law := k_law,
    b_law := FF_law.bindsN fun _ _ _ _ _ _ us hl => match us, hl with | [_], _ => rfl,
    kw_are_alike_0_high_low_other_text := kwb_mk (by decide) fun s us ws _ h1 h2 => match us, ws, h1, h2 with | [], [_, _, _, _], _, _ => BindsTo.of_eq rfl,
    kw_separating_width_0_high_low_other_text := kwb_mk (by decide) fun s us ws _ h1 h2 => match us, ws, h1, h2 with | [], [_, _, _, _], _, _ => BindsTo.of_eq rfl,
    c_MAX_CHARACTERS := ⟨_, PySem.W.mg_of X G v_MAX_CHARACTERS⟩,
    c_MAX_WIDTH := ⟨_, PySem.W.mg_of X G v_MAX_WIDTH⟩,
    b_len := PySem.W.mg_none_of X G z_len,
    b_sum := PySem.W.mg_none_of X G z_sum,
    b_all := PySem.W.mg_none_of X G z_all,
    b_max := PySem.W.mg_none_of X G z_max,
    b_min := PySem.W.mg_none_of X G z_min,
    b_abs := PySem.W.mg_none_of X G z_abs,
    b_sorted := PySem.W.mg_none_of X G z_sorted,
    b_range := PySem.W.mg_none_of X G z_range,
    b_zip := PySem.W.mg_none_of X G z_zip,
    b_isinstance := PySem.W.mg_none_of X G z_isinstance,
    b_int := PySem.W.mg_none_of X G z_int,
    b_bool := PySem.W.mg_none_of X G z_bool,
    b_str := PySem.W.mg_none_of X G z_str,
    b_list := PySem.W.mg_none_of X G z_list,
    b_tuple := PySem.W.mg_none_of X G z_tuple,
    b_repr := PySem.W.mg_none_of X G z_repr,
    e_InvalidText := ⟨PySem.W.mg_of X G g_InvalidText, q_InvalidText, w_InvalidText, s_InvalidText, y_InvalidText⟩,
    e_InvalidRange := ⟨PySem.W.mg_of X G g_InvalidRange, q_InvalidRange, w_InvalidRange, s_InvalidRange, y_InvalidRange⟩ }
  rw [e]
  exact ⟨_, hB, fun base _ _ => ⟨F_law, ok_law T, fun _ _ _ _ h => h⟩⟩
end DL
open PySem PySem.W PyProof.Rows in
set_option maxRecDepth 100000 in
set_option maxHeartbeats 0 in
theorem PySem.Challenge.cw_wrapclues_k39_texts_that_are_alike_holds : PySem.Challenge.rw_wrapclues_k39_texts_that_are_alike.Holds := by
  w_on; o_law; k_head; (case hw => w_witness2)
  k_fill
  refine DL.walk_end (l := PySem.Challenge.rw_wrapclues_k39_texts_that_are_alike) (k := 11) (x := "script") (Fd := DL.F_law) rfl (by decide) rfl ⟨rfl, by decide, by decide⟩ (fun w h Y => PySem.W.kIn_of Y) ?F fun ns Q h1 h2 h3 => ⟨ns, rfl, h1, h2, h3⟩
  case F =>
    intro w mg fa h KX G hmg
    refine' DL.all_mk KX G hmg ?a_is_integer ?l_is_integer ?c_is_integer ?k_is_integer ?t_is_integer ?a_total_of ?l_total_of ?c_total_of ?k_total_of ?a_ends_of ?l_ends_of ?c_ends_of ?k_ends_of ?a_starts_of ?l_starts_of ?c_starts_of ?k_starts_of ?a_wrapped_ends ?l_wrapped_ends ?c_wrapped_ends ?k_wrapped_ends ?a__law_digits ?l__law_digits ?c__law_digits ?k__law_digits ?a__law_cut ?l__law_cut ?c__law_cut ?k__law_cut ?a__law_wrap ?l__law_wrap ?c__law_wrap ?k__law_wrap ?a_is_width ?l_is_width ?c_is_width ?k_is_width ?a_are_lengths ?l_are_lengths ?c_are_lengths ?k_are_lengths ?a_lengths_of ?l_lengths_of ?c_lengths_of ?k_lengths_of ?a_widths_of ?l_widths_of ?c_widths_of ?k_widths_of ?a__law_words ?l__law_words ?c__law_words ?k__law_words ?a__law_changed ?l__law_changed ?c__law_changed ?k__law_changed ?a_is_text ?l_is_text ?c_is_text ?k_is_text ?a_wrap_of ?l_wrap_of ?c_wrap_of ?k_wrap_of ?a_require_range ?l_require_range ?c_require_range ?k_require_range ?a_require_text ?l_require_text ?c_require_text ?k_require_text ?a_visible_in ?l_visible_in ?c_visible_in ?k_visible_in ?a_core_in ?l_core_in ?c_core_in ?k_core_in ?a_require_pair ?l_require_pair ?c_require_pair ?k_require_pair ?a_are_alike ?l_are_alike ?c_are_alike ?k_are_alike ?a_separating_width ?l_separating_width ?c_separating_width ?k_separating_width ?a__law_same ?l__law_same ?c__law_same ?k__law_same ?a__law_right ?l__law_right ?c__law_right ?k__law_right ?a_law ?l_law ?c_law ?k_law ?v_MAX_CHARACTERS ?v_MAX_WIDTH ?z_len ?z_sum ?z_all ?z_max ?z_min ?z_abs ?z_sorted ?z_range ?z_zip ?z_isinstance ?z_int ?z_bool ?z_str ?z_list ?z_tuple ?z_repr ?g_InvalidRange ?q_InvalidRange ?w_InvalidRange ?s_InvalidRange ?y_InvalidRange ?g_InvalidText ?q_InvalidText ?w_InvalidText ?s_InvalidText ?y_InvalidText
    (case a_is_integer => k_is)
    (case l_is_integer => k_is)
    (case c_is_integer => k_is)
    (case k_is_integer => k_is)
    (case t_is_integer => k_is)
    (case a_total_of => k_is)
    (case l_total_of => k_is)
    (case c_total_of => k_is)
    (case k_total_of => k_is)
    (case a_ends_of => k_is)
    (case l_ends_of => k_is)
    (case c_ends_of => k_is)
    (case k_ends_of => k_is)
    (case a_starts_of => k_is)
    (case l_starts_of => k_is)
    (case c_starts_of => k_is)
    (case k_starts_of => k_is)
    (case a_wrapped_ends => k_is)
    (case l_wrapped_ends => k_is)
    (case c_wrapped_ends => k_is)
    (case k_wrapped_ends => k_is)
    (case a__law_digits => k_is)
    (case l__law_digits => k_is)
    (case c__law_digits => k_is)
    (case k__law_digits => k_is)
    (case a__law_cut => k_is)
    (case l__law_cut => k_is)
    (case c__law_cut => k_is)
    (case k__law_cut => k_is)
    (case a__law_wrap => k_is)
    (case l__law_wrap => k_is)
    (case c__law_wrap => k_is)
    (case k__law_wrap => k_is)
    (case a_is_width => k_is)
    (case l_is_width => k_is)
    (case c_is_width => k_is)
    (case k_is_width => k_is)
    (case a_are_lengths => k_is)
    (case l_are_lengths => k_is)
    (case c_are_lengths => k_is)
    (case k_are_lengths => k_is)
    (case a_lengths_of => k_is)
    (case l_lengths_of => k_is)
    (case c_lengths_of => k_is)
    (case k_lengths_of => k_is)
    (case a_widths_of => k_is)
    (case l_widths_of => k_is)
    (case c_widths_of => k_is)
    (case k_widths_of => k_is)
    (case a__law_words => k_is)
    (case l__law_words => k_is)
    (case c__law_words => k_is)
    (case k__law_words => k_is)
    (case a__law_changed => k_is)
    (case l__law_changed => k_is)
    (case c__law_changed => k_is)
    (case k__law_changed => k_is)
    (case a_is_text => k_is)
    (case l_is_text => k_is)
    (case c_is_text => k_is)
    (case k_is_text => k_is)
    (case a_wrap_of => k_is)
    (case l_wrap_of => k_is)
    (case c_wrap_of => k_is)
    (case k_wrap_of => k_is)
    (case a_require_range => k_is)
    (case l_require_range => k_is)
    (case c_require_range => k_is)
    (case k_require_range => k_is)
    (case a_require_text => k_is)
    (case l_require_text => k_is)
    (case c_require_text => k_is)
    (case k_require_text => k_is)
    (case a_visible_in => k_is)
    (case l_visible_in => k_is)
    (case c_visible_in => k_is)
    (case k_visible_in => k_is)
    (case a_core_in => k_is)
    (case l_core_in => k_is)
    (case c_core_in => k_is)
    (case k_core_in => k_is)
    (case a_require_pair => k_is)
    (case l_require_pair => k_is)
    (case c_require_pair => k_is)
    (case k_require_pair => k_is)
    (case a_are_alike => k_is)
    (case l_are_alike => k_is)
    (case c_are_alike => k_is)
    (case k_are_alike => k_is)
    (case a_separating_width => k_is)
    (case l_separating_width => k_is)
    (case c_separating_width => k_is)
    (case k_separating_width => k_is)
    (case a__law_same => k_is)
    (case l__law_same => k_is)
    (case c__law_same => k_is)
    (case k__law_same => k_is)
    (case a__law_right => k_is)
    (case l__law_right => k_is)
    (case c__law_right => k_is)
    (case k__law_right => k_is)
    (case a_law => k_is)
    (case l_law => k_is)
    (case c_law => k_is)
    (case k_law => k_is)
    (case v_MAX_CHARACTERS => k_is)
    (case v_MAX_WIDTH => k_is)
    (case z_len => k_is)
    (case z_sum => k_is)
    (case z_all => k_is)
    (case z_max => k_is)
    (case z_min => k_is)
    (case z_abs => k_is)
    (case z_sorted => k_is)
    (case z_range => k_is)
    (case z_zip => k_is)
    (case z_isinstance => k_is)
    (case z_int => k_is)
    (case z_bool => k_is)
    (case z_str => k_is)
    (case z_list => k_is)
    (case z_tuple => k_is)
    (case z_repr => k_is)
    (case g_InvalidRange => k_is)
    (case q_InvalidRange => k_exc)
    (case w_InvalidRange => k_is)
    (case s_InvalidRange => k_is)
    (case y_InvalidRange => k_is)
    (case g_InvalidText => k_is)
    (case q_InvalidText => k_exc)
    (case w_InvalidText => k_is)
    (case s_InvalidText => k_is)
    (case y_InvalidText => k_is)
#print axioms PySem.Challenge.cw_wrapclues_k39_texts_that_are_alike_holds
