import PyProof.Rows.All
import Wide.All
import OpenK.AllK
import Wide.FinOn
import HandS.ForMost
import HandS.ForExc
import HandS.Wide
import HandS.NoneIn
import HandS.IsInst
import HandS.ExcIs
import HandS.EndBits
import HandS.TryOnly
import HandS.Style
import HandS.ExcOwn
import HandS.More
import HandS.Text
import HandS.Codes
import HandS.StrMore
import PySem.Challenge.RW_solidyard_k89_numbers_read
set_option Elab.async false
set_option linter.all false
set_option maxRecDepth 100000
set_option maxHeartbeats 4000000
set_option exponentiation.threshold 20000

/-! The data layer: what a piece of the text does, told over data in the place of addresses. -/
namespace SY
open PySem PySem.Spec PyProof.Rows L2

/-- data; scr: the script; ptr: a thing that may be changed, at its address -/
inductive D where
  | non | bl (b : Bool) | int (i : Int) | str (s : Str) | tup (ds : List D) | lst (ds : List D) | scr (ns : List Int) | ptr (a : Addr)

mutual
inductive Rp (K : PySem.W.Frag) (G : Hp) : V → D → Prop
  | non : Rp K G .non .non
  | bl (b : Bool) : Rp K G (.bl b) (.bl b)
  | int (i : Int) : Rp K G (.int i) (.int i)
  | str (s : Str) : Rp K G (.str s) (.str s)
  | tup {a : Addr} {xs : List V} {ds : List D} : SqT K G a xs → RpA K G xs ds → Rp K G (.ref a) (.tup ds)
  | lst {a : Addr} {xs : List V} {ds : List D} : G a = some (.lst xs) → RpA K G xs ds → Rp K G (.ref a) (.lst ds)
  | scr {a : Addr} {ns : List Int} : SqL K G a (ns.map V.int) → Rp K G (.ref a) (.scr ns)
  | ptr (a : Addr) : Rp K G (.ref a) (.ptr a)
inductive RpA (K : PySem.W.Frag) (G : Hp) : List V → List D → Prop
  | nil : RpA K G [] []
  | cons {v : V} {vs : List V} {d : D} {ds : List D} : Rp K G v d → RpA K G vs ds → RpA K G (v :: vs) (d :: ds)
end

section
variable {K : PySem.W.Frag} {G G' H H' : Hp}
theorem Same.seqT {a : Addr} {xs : List V} (e : Same G G') (h : SqT K G a xs) : SqT K G' a xs := by
  rcases h with (h | ⟨o, h⟩) | h
  · exact .inl (.inl (e _ _ h))
  · exact .inl (.inr ⟨o, e _ _ h⟩)
  · exact .inr h
mutual
theorem Rp.mono (e : Same G G') : ∀ (d : D) (v : V), Rp K G v d → Rp K G' v d
  | .non, _, h => by cases h; exact .non
  | .bl b, _, h => by cases h; exact .bl _
  | .int i, _, h => by cases h; exact .int _
  | .str s, _, h => by cases h; exact .str _
  | .tup ds, _, h => by
    cases h with
    | tup h1 h2 => exact .tup (Same.seqT e h1) (RpA.mono e ds _ h2)
  | .lst ds, _, h => by
    cases h with
    | lst h1 h2 => exact .lst (e _ _ h1) (RpA.mono e ds _ h2)
  | .scr ns, _, h => by
    cases h with
    | scr h1 => exact .scr (e.seq h1)
  | .ptr a, _, h => by cases h; exact .ptr _
theorem RpA.mono (e : Same G G') : ∀ (ds : List D) (vs : List V), RpA K G vs ds → RpA K G' vs ds
  | [], _, h => by cases h; exact .nil
  | d :: ds, _, h => by
    cases h with
    | cons h1 h2 => exact .cons (Rp.mono e d _ h1) (RpA.mono e ds _ h2)
end
theorem Rp.up {d : D} {v : V} (h : Rp K G v d) (e : Same G G') : Rp K G' v d := Rp.mono e d v h
theorem RpA.up {ds : List D} {vs : List V} (h : RpA K G vs ds) (e : Same G G') : RpA K G' vs ds := RpA.mono e ds vs h
theorem RpA.length : ∀ {ds : List D} {vs : List V}, RpA K G vs ds → vs.length = ds.length
  | [], _, h => by cases h; rfl
  | d :: ds, _, h => by
    cases h with
    | cons h1 h2 => simp [RpA.length h2]
theorem RpA.get : ∀ {ds : List D} {vs : List V} {i : Nat} {d : D}, RpA K G vs ds → ds[i]? = some d → ∃ v, vs[i]? = some v ∧ Rp K G v d
  | [], _, _, _, _, e => by simp at e
  | d :: ds, _, 0, _, h, e => by
    cases h with
    | cons h1 h2 => simp at e; subst e; exact ⟨_, rfl, h1⟩
  | d :: ds, _, i + 1, x, h, e => by
    cases h with
    | cons h1 h2 =>
      obtain ⟨u, q1, q2⟩ := RpA.get (i := i) (d := x) h2 (by simpa using e)
      exact ⟨u, by simpa using q1, q2⟩
theorem RpA.getV : ∀ {ds : List D} {vs : List V} {i : Nat} {v : V}, RpA K G vs ds → vs[i]? = some v → ∃ d, ds[i]? = some d ∧ Rp K G v d
  | [], _, _, _, h, e => by cases h; simp at e
  | d :: ds, _, 0, _, h, e => by
    cases h with
    | cons h1 h2 => simp at e; subst e; exact ⟨_, rfl, h1⟩
  | d :: ds, _, i + 1, x, h, e => by
    cases h with
    | cons h1 h2 =>
      obtain ⟨u, q1, q2⟩ := RpA.getV (i := i) (v := x) h2 (by simpa using e)
      exact ⟨u, by simpa using q1, q2⟩
theorem RpA.append : ∀ {ds es : List D} {vs us : List V}, RpA K G vs ds → RpA K G us es → RpA K G (vs ++ us) (ds ++ es)
  | [], _, _, _, h, q => by cases h; exact q
  | d :: ds, _, _, _, h, q => by
    cases h with
    | cons h1 h2 => exact .cons h1 (RpA.append h2 q)
theorem RpA.drop : ∀ (n : Nat) {ds : List D} {vs : List V}, RpA K G vs ds → RpA K G (vs.drop n) (ds.drop n)
  | 0, _, _, h => h
  | n + 1, [], _, h => by cases h; exact .nil
  | n + 1, d :: ds, _, h => by
    cases h with
    | cons h1 h2 => exact RpA.drop n h2
theorem RpA.take : ∀ (n : Nat) {ds : List D} {vs : List V}, RpA K G vs ds → RpA K G (vs.take n) (ds.take n)
  | 0, _, _, h => .nil
  | n + 1, [], _, h => by cases h; exact .nil
  | n + 1, d :: ds, _, h => by
    cases h with
    | cons h1 h2 => exact .cons h1 (RpA.take n h2)
theorem RpA.set {x : V} {e : D} (r : Rp K G x e) : ∀ {ds : List D} {vs : List V} (i : Nat), RpA K G vs ds → RpA K G (vs.set i x) (ds.set i e)
  | [], _, _, h => by cases h; exact .nil
  | d :: ds, _, 0, h => by
    cases h with
    | cons h1 h2 => exact .cons r h2
  | d :: ds, _, i + 1, h => by
    cases h with
    | cons h1 h2 => exact .cons h1 (RpA.set r i h2)
theorem RpA.eraseIdx : ∀ {ds : List D} {vs : List V} (i : Nat), RpA K G vs ds → RpA K G (vs.eraseIdx i) (ds.eraseIdx i)
  | [], _, _, h => by cases h; exact .nil
  | d :: ds, _, 0, h => by
    cases h with
    | cons h1 h2 => exact h2
  | d :: ds, _, i + 1, h => by
    cases h with
    | cons h1 h2 => exact .cons h1 (RpA.eraseIdx i h2)
theorem RpA.ints : ∀ (ns : List Int), RpA K G (ns.map V.int) (ns.map D.int)
  | [] => .nil
  | n :: ns => .cons (.int n) (RpA.ints ns)
theorem RpA.ints_inv : ∀ {ns : List Int} {vs : List V}, RpA K G vs (ns.map D.int) → vs = ns.map V.int
  | [], _, h => by cases h; rfl
  | n :: ns, _, h => by
    cases h with
    | cons h1 h2 =>
      cases h1
      rw [RpA.ints_inv h2]
      rfl
end

/-- a thing that may be changed: the law's row of draws (some list of at most 63 numbers, none below 0), or a list -/
inductive MO where
  | row
  | lst (ds : List D)
abbrev Sto := Addr → Option MO
def updT (T : Sto) (a : Addr) (m : MO) : Sto := fun b => if b = a then some m else T b
def offT (T : Sto) (a : Addr) : Sto := fun b => if b = a then none else T b
theorem updT_same {T : Sto} {a : Addr} {m : MO} : updT T a m a = some m := by unfold updT; rw [if_pos rfl]
theorem updT_ne {T : Sto} {a b : Addr} {m : MO} (h : b ≠ a) : updT T a m b = T b := by unfold updT; rw [if_neg h]
theorem updT_updT {T : Sto} {a : Addr} {m n : MO} : updT (updT T a m) a n = updT T a n := by
  funext b; unfold updT; split <;> rfl
theorem updT_id {T : Sto} {a : Addr} {m : MO} (h : T a = some m) : updT T a m = T := by
  funext b; unfold updT; split
  · rename_i e; subst e; exact h.symm
  · rfl
theorem offT_updT {T : Sto} {a : Addr} {m : MO} (h : T a = none) : offT (updT T a m) a = T := by
  funext b; unfold offT updT; split
  · rename_i e; subst e; exact h.symm
  · rfl
def MOk (K : PySem.W.Frag) (G H : Hp) (a : Addr) : MO → Prop
  | .row => ∃ ns : List Int, H a = some (.lst (ns.map V.int)) ∧ (∀ n ∈ ns, 0 ≤ n) ∧ ns.length ≤ 63
  | .lst ds => ∃ vs : List V, H a = some (.lst vs) ∧ RpA K G vs ds
structure Ctx (K : PySem.W.Frag) (T : Sto) (G H : Hp) : Prop where
  sub : Same G H
  own : ∀ a m, T a = some m → G a = none ∧ MOk K G H a m
/-- from one state to a later one -/
structure Gro (K : PySem.W.Frag) (T : Sto) (G H : Hp) (T' : Sto) (G' H' : Hp) : Prop where
  ctx : Ctx K T' G' H'
  sub : Same G G'
  keep : ∀ a o, T a = none → H a = some o → H' a = some o
  fresh : ∀ a, (G' a ≠ none ∨ T' a ≠ none) → G a ≠ none ∨ T a ≠ none ∨ H a = none
section
variable {K : PySem.W.Frag} {T T1 T2 : Sto} {G G1 G2 H H1 H2 : Hp}
theorem MOk.there {a : Addr} {m : MO} (h : MOk K G H a m) : H a ≠ none := by
  cases m with
  | row => obtain ⟨ns, e, _⟩ := h; rw [e]; exact fun z => by cases z
  | lst ds => obtain ⟨vs, e, _⟩ := h; rw [e]; exact fun z => by cases z
theorem MOk.up {a : Addr} {m : MO} (h : MOk K G H a m) (s : Same G G1) (e : H1 a = H a) : MOk K G1 H1 a m := by
  cases m with
  | row => obtain ⟨ns, q, r⟩ := h; exact ⟨ns, e.trans q, r⟩
  | lst ds => obtain ⟨vs, q, r⟩ := h; exact ⟨vs, e.trans q, r.up s⟩
theorem Gro.refl (c : Ctx K T G H) : Gro K T G H T G H := ⟨c, Same.refl _, fun _ _ _ h => h, fun _ h => h.elim .inl fun z => .inr (.inl z)⟩
theorem Gro.trans (a : Gro K T G H T1 G1 H1) (b : Gro K T1 G1 H1 T2 G2 H2) : Gro K T G H T2 G2 H2 := by
  refine ⟨b.ctx, a.sub.trans b.sub, fun x o ht hh => ?_, fun x hx => ?_⟩
  · refine b.keep x o ?_ (a.keep x o ht hh)
    cases q : T1 x with
    | none => rfl
    | some m =>
      have g1 := (a.ctx.own x m q).1
      rcases a.fresh x (.inr (by rw [q]; exact fun z => by cases z)) with h | h | h
      · cases q2 : G x with
        | none => exact absurd q2 h
        | some o2 => rw [a.sub x o2 q2] at g1; cases g1
      · exact absurd ht h
      · rw [h] at hh; cases hh
  · rcases b.fresh x hx with h | h | h
    · exact a.fresh x (.inl h)
    · exact a.fresh x (.inr h)
    · cases q : T x with
      | some m => exact .inr (.inl (by exact fun z => by cases z))
      | none =>
        cases q2 : H x with
        | none => exact .inr (.inr rfl)
        | some o => rw [a.keep x o q q2] at h; cases h
/-- a new thing that stays as it is -/
theorem Ctx.new (c : Ctx K T G H) {p : Addr} {o : HO} (n : H p = none) : Gro K T G H T (upd G p o) (upd H p o) := by
  have gp : G p = none := by
    cases q : G p with
    | none => rfl
    | some o2 => rw [c.sub p o2 q] at n; cases n
  have sg : Same G (upd G p o) := fun b x e => by
    rw [upd_ne (ne_of_none e gp)]
    exact e
  refine ⟨⟨fun b x e => ?_, fun a m e => ?_⟩, sg, fun a x _ e => ?_, fun a h => ?_⟩
  · by_cases hb : b = p
    · subst hb; rw [upd_same] at e ⊢; exact e
    · rw [upd_ne hb] at e ⊢; exact c.sub b x e
  · obtain ⟨g, m1⟩ := c.own a m e
    have ne : a ≠ p := fun z => by subst z; exact m1.there n
    refine ⟨by rw [upd_ne ne]; exact g, m1.up sg (by rw [upd_ne ne])⟩
  · rw [upd_ne (ne_of_none e n)]; exact e
  · by_cases hb : a = p
    · subst hb; exact .inr (.inr n)
    · rcases h with h | h
      · rw [upd_ne hb] at h; exact .inl h
      · exact .inr (.inl h)
/-- a new list that may be changed -/
theorem Ctx.newM (c : Ctx K T G H) {p : Addr} {vs : List V} {ds : List D} (n : H p = none) (r : RpA K G vs ds) : Gro K T G H (updT T p (.lst ds)) G (upd H p (.lst vs)) := by
  have gp : G p = none := by
    cases q : G p with
    | none => rfl
    | some o2 => rw [c.sub p o2 q] at n; cases n
  refine ⟨⟨fun b x e => ?_, fun a m e => ?_⟩, Same.refl _, fun a x _ e => ?_, fun a h => ?_⟩
  · rw [upd_ne (ne_of_none e gp)]; exact c.sub b x e
  · by_cases hb : a = p
    · subst hb
      rw [updT_same] at e
      cases e
      exact ⟨gp, vs, upd_same, r⟩
    · rw [updT_ne hb] at e
      obtain ⟨g, m1⟩ := c.own a m e
      exact ⟨g, m1.up (Same.refl _) (by rw [upd_ne hb])⟩
  · rw [upd_ne (ne_of_none e n)]; exact e
  · by_cases hb : a = p
    · subst hb; exact .inr (.inr n)
    · rcases h with h | h
      · exact .inl h
      · rw [updT_ne hb] at h; exact .inr (.inl h)
/-- a thing that is changed -/
theorem Ctx.put (c : Ctx K T G H) {p : Addr} {m : MO} {o : HO} {m' : MO} (t : T p = some m) (ok : MOk K G (upd H p o) p m') : Gro K T G H (updT T p m') G (upd H p o) := by
  have gp : G p = none := (c.own p m t).1
  refine ⟨⟨fun b x e => ?_, fun a m2 e => ?_⟩, Same.refl _, fun a x ht e => ?_, fun a h => ?_⟩
  · rw [upd_ne (ne_of_none e gp)]; exact c.sub b x e
  · by_cases hb : a = p
    · subst hb
      rw [updT_same] at e
      cases e
      exact ⟨gp, ok⟩
    · rw [updT_ne hb] at e
      obtain ⟨g, m1⟩ := c.own a m2 e
      exact ⟨g, m1.up (Same.refl _) (by rw [upd_ne hb])⟩
  · have hb : a ≠ p := fun z => by subst z; rw [t] at ht; cases ht
    rw [upd_ne hb]; exact e
  · by_cases hb : a = p
    · subst hb; exact .inr (.inl (by rw [t]; exact fun z => by cases z))
    · rcases h with h | h
      · exact .inl h
      · rw [updT_ne hb] at h; exact .inr (.inl h)
/-- what may be changed is changed no more -/
theorem Ctx.freeze (c : Ctx K T G H) {p : Addr} {ds : List D} (t : T p = some (.lst ds)) : ∃ G', Gro K T G H (offT T p) G' H ∧ Rp K G' (.ref p) (.lst ds) := by
  obtain ⟨gp, vs, hp, r⟩ := c.own p _ t
  have sg : Same G (upd G p (.lst vs)) := fun b x e => by
    rw [upd_ne (ne_of_none e gp)]
    exact e
  refine ⟨upd G p (.lst vs), ⟨⟨fun b x e => ?_, fun a m e => ?_⟩, sg, fun _ _ _ h => h, fun a h => ?_⟩, .lst upd_same (r.up sg)⟩
  · by_cases hb : b = p
    · subst hb; rw [upd_same] at e; rw [hp]; exact e
    · rw [upd_ne hb] at e; exact c.sub b x e
  · by_cases hb : a = p
    · subst hb; unfold offT at e; rw [if_pos rfl] at e; cases e
    · unfold offT at e; rw [if_neg hb] at e
      obtain ⟨g, m1⟩ := c.own a m e
      exact ⟨by rw [upd_ne hb]; exact g, m1.up sg rfl⟩
  · by_cases hb : a = p
    · subst hb; exact .inr (.inl (by rw [t]; exact fun z => by cases z))
    · rcases h with h | h
      · rw [upd_ne hb] at h; exact .inl h
      · unfold offT at h; rw [if_neg hb] at h; exact .inr (.inl h)
/-- less is told of what may be changed -/
theorem Ctx.less (c : Ctx K T G H) (h : ∀ a m, T1 a = some m → ∃ m0, T a = some m0 ∧ (MOk K G H a m0 → MOk K G H a m)) : Gro K T G H T1 G H := by
  refine ⟨⟨c.sub, fun a m e => ?_⟩, Same.refl _, fun _ _ _ h => h, fun a q => ?_⟩
  · obtain ⟨m0, e0, i⟩ := h a m e
    obtain ⟨g, m1⟩ := c.own a m0 e0
    exact ⟨g, i m1⟩
  · rcases q with q | q
    · exact .inl q
    · cases e : T1 a with
      | none => exact absurd e q
      | some m =>
        obtain ⟨m0, e0, _⟩ := h a m e
        exact .inr (.inl (by rw [e0]; exact fun z => by cases z))
end

abbrev Env := List (Option D)
def EnvOk (K : PySem.W.Frag) (G : Hp) (σ : L2.St) (ρ : Env) : Prop := σ.length = ρ.length ∧ ∀ (i : Nat) (d : D), ρ[i]? = some (some d) → ∃ v, σ[i]? = some (some v) ∧ Rp K G v d
section
variable {K : PySem.W.Frag} {G G1 : Hp} {σ : L2.St} {ρ : Env}
theorem EnvOk.up (h : EnvOk K G σ ρ) (s : Same G G1) : EnvOk K G1 σ ρ := ⟨h.1, fun i d e => by
  obtain ⟨v, e1, r⟩ := h.2 i d e
  exact ⟨v, e1, r.up s⟩⟩
theorem EnvOk.set (h : EnvOk K G σ ρ) {i : Nat} {v : V} {d : D} (r : Rp K G v d) : EnvOk K G (σ.set i (some v)) (ρ.set i (some d)) := by
  refine ⟨by rw [List.length_set, List.length_set]; exact h.1, fun j e q => ?_⟩
  rw [List.getElem?_set] at q ⊢
  by_cases hj : i = j
  · subst hj
    rw [if_pos rfl] at q ⊢
    by_cases hl : i < ρ.length
    · rw [if_pos hl] at q
      rw [if_pos (by rw [h.1]; exact hl)]
      cases q
      exact ⟨v, rfl, r⟩
    · rw [if_neg hl] at q; cases q
  · rw [if_neg hj] at q ⊢
    exact h.2 j e q
theorem EnvOk.unset (h : EnvOk K G σ ρ) (i : Nat) (x : Option V) : EnvOk K G (σ.set i x) (ρ.set i none) := by
  refine ⟨by rw [List.length_set, List.length_set]; exact h.1, fun j e q => ?_⟩
  rw [List.getElem?_set] at q ⊢
  by_cases hj : i = j
  · subst hj
    rw [if_pos rfl] at q
    by_cases hl : i < ρ.length
    · rw [if_pos hl] at q; cases q
    · rw [if_neg hl] at q; cases q
  · rw [if_neg hj] at q ⊢
    exact h.2 j e q
theorem EnvOk.wipe (h : EnvOk K G σ ρ) : ∀ vs : List Nat, EnvOk K G (L2.wipe σ vs) (vs.foldr (fun v r => r.set v none) ρ)
  | [] => h
  | v :: vs => (EnvOk.wipe h vs).unset v none
end
end SY

namespace SY
open PySem PySem.Spec PyProof.Rows L2

/-- an exception, told by its class's name -/
abbrev Xc := Str
/-- the class that a name of the text stands for -/
def clsA (K : PySem.W.Frag) (x : Str) : Value := match PySem.W.nsIn K mainGlobals x with
  | some (some v) => v
  | _ => .none
abbrev DE := Env → Sto → (D → Sto → Prop) → (Xc → Sto → Prop) → Prop
abbrev DA := Env → Sto → (List D → Sto → Prop) → (Xc → Sto → Prop) → Prop
abbrev DT := Env → Sto → (Bool → Sto → Prop) → (Xc → Sto → Prop) → Prop
abbrev DSp := List D → Sto → (D → Sto → Prop) → (Xc → Sto → Prop) → Prop

/-- what is raised goes where it is waited for -/
def LkX (K : PySem.W.Frag) (W : WX) (T : Sto) (G H : Hp) (σ : L2.St) (X : Xc → Sto → Prop) : Prop :=
  ∀ x T' G' H', X x T' → Gro K T G H T' G' H' → W (clsA K x) none σ H'
def LkV (K : PySem.W.Frag) (T : Sto) (G H : Hp) (P : D → Sto → Prop) (Q : VK) : Prop :=
  ∀ d T' v G' H', P d T' → Gro K T G H T' G' H' → Rp K G' v d → Q v H'
def LkA (K : PySem.W.Frag) (T : Sto) (G H : Hp) (P : List D → Sto → Prop) (Q : List V → Hp → Prop) : Prop :=
  ∀ ds T' vs G' H', P ds T' → Gro K T G H T' G' H' → RpA K G' vs ds → Q vs H'
def LkT (K : PySem.W.Frag) (T : Sto) (G H : Hp) (P : Bool → Sto → Prop) (Q : Bool → Hp → Prop) : Prop :=
  ∀ b T' G' H', P b T' → Gro K T G H T' G' H' → Q b H'
section
variable {K : PySem.W.Frag} {W : WX} {T T1 : Sto} {G G1 H H1 : Hp} {σ : L2.St} {X : Xc → Sto → Prop}
theorem LkX.up (h : LkX K W T G H σ X) (g : Gro K T G H T1 G1 H1) : LkX K W T1 G1 H1 σ X := fun x T' G' H' hx g' => h x T' G' H' hx (g.trans g')
theorem LkV.up {P : D → Sto → Prop} {Q : VK} (h : LkV K T G H P Q) (g : Gro K T G H T1 G1 H1) : LkV K T1 G1 H1 P Q := fun d T' v G' H' hx g' r => h d T' v G' H' hx (g.trans g') r
theorem LkT.up {P : Bool → Sto → Prop} {Q : Bool → Hp → Prop} (h : LkT K T G H P Q) (g : Gro K T G H T1 G1 H1) : LkT K T1 G1 H1 P Q := fun b T' G' H' hx g' => h b T' G' H' hx (g.trans g')
end

def can (K : PySem.W.Frag) (W : WX) (de : DE) : TE := fun σ H Q => ∃ T G ρ P X, Ctx K T G H ∧ EnvOk K G σ ρ ∧ de ρ T P X ∧ LkV K T G H P Q ∧ LkX K W T G H σ X
def canA (K : PySem.W.Frag) (W : WX) (da : DA) : TA := fun σ H Q => ∃ T G ρ P X, Ctx K T G H ∧ EnvOk K G σ ρ ∧ da ρ T P X ∧ LkA K T G H P Q ∧ LkX K W T G H σ X
def canT (K : PySem.W.Frag) (W : WX) (dt : DT) : TT := fun σ H Q => ∃ T G ρ P X, Ctx K T G H ∧ EnvOk K G σ ρ ∧ dt ρ T P X ∧ LkT K T G H P Q ∧ LkX K W T G H σ X

theorem PE.imp {X : Cx} {e : Expr} {t t' : TE} (h : PE X e t) (i : ∀ σ H Q, t' σ H Q → t σ H Q) : PE X e t' := ⟨fun pins s σ H Q I q => h.run pins s σ H Q I (i σ H Q q)⟩
theorem PT.imp {X : Cx} {e : Expr} {t t' : TT} (h : PT X e t) (i : ∀ σ H Q, t' σ H Q → t σ H Q) : PT X e t' := ⟨fun pins s σ H Q I q => h.run pins s σ H Q I (i σ H Q q)⟩
theorem PW.imp {X : Cx} {e : Expr} {t t' : TT} (h : PW X e t) (i : ∀ σ H Q, t' σ H Q → t σ H Q) : PW X e t' := ⟨fun whole pins s σ H Q I q => h.run whole pins s σ H Q I (i σ H Q q)⟩
theorem PA.imp {X : Cx} {e : List Expr} {t t' : TA} (h : PA X e t) (i : ∀ σ H Q, t' σ H Q → t σ H Q) : PA X e t' := ⟨fun pos pins s σ H Q I q => h.run pos pins s σ H Q I (i σ H Q q)⟩
theorem PS.imp {X : Cx} {e : Stmt} {t t' : TS} (h : PS X e t) (i : ∀ D σ H, t' D σ H → t D σ H) : PS X e t' := ⟨fun pins s σ H D I q => h.run pins s σ H D I (i D σ H q)⟩
theorem PSs.imp {X : Cx} {e : List Stmt} {t t' : TS} (h : PSs X e t) (i : ∀ D σ H, t' D σ H → t D σ H) : PSs X e t' := ⟨fun pins s σ H D I q => h.run pins s σ H D I (i D σ H q)⟩

/-! ### data -/
def mlst : Option MO → Option (List D)
  | some (.lst ds) => some ds
  | _ => none
def lstOf (T : Sto) : D → Option (List D)
  | .lst ds => some ds
  | .scr ns => some (ns.map .int)
  | .ptr a => mlst (T a)
  | _ => none
theorem mlst.of {o : Option MO} {ds : List D} (h : mlst o = some ds) : o = some (.lst ds) := by
  cases o with
  | none => cases h
  | some m => cases m with
    | row => cases h
    | lst d => cases h; rfl
def seqOf (T : Sto) : D → Option (List D)
  | .tup ds => some ds
  | .lst ds => some ds
  | .scr ns => some (ns.map .int)
  | .ptr a => mlst (T a)
  | _ => none
section
variable {K : PySem.W.Frag} {T : Sto} {G H : Hp}
theorem lst_rd (c : Ctx K T G H) {d : D} {v : V} {ds : List D} (r : Rp K G v d) (e : lstOf T d = some ds) : ∃ a vs, v = .ref a ∧ SqL K H a vs ∧ RpA K G vs ds := by
  cases r with
  | lst h1 h2 => cases e; exact ⟨_, _, rfl, .of (c.sub _ _ h1), h2⟩
  | scr h1 => cases e; exact ⟨_, _, rfl, c.sub.seq h1, RpA.ints _⟩
  | ptr a =>
    obtain ⟨_, vs, hv, hr⟩ := c.own a _ (mlst.of e)
    exact ⟨a, vs, rfl, .of hv, hr⟩
  | _ => cases e
theorem seq_rd (c : Ctx K T G H) {d : D} {v : V} {ds : List D} (r : Rp K G v d) (e : seqOf T d = some ds) : ∃ a vs, v = .ref a ∧ (SqL K H a vs ∨ SqT K H a vs) ∧ RpA K G vs ds := by
  cases r with
  | tup h1 h2 => cases e; exact ⟨_, _, rfl, .inr (Same.seqT c.sub h1), h2⟩
  | lst h1 h2 => cases e; exact ⟨_, _, rfl, .inl (.of (c.sub _ _ h1)), h2⟩
  | scr h1 => cases e; exact ⟨_, _, rfl, .inl (c.sub.seq h1), RpA.ints _⟩
  | ptr a =>
    obtain ⟨_, vs, hv, hr⟩ := c.own a _ (mlst.of e)
    exact ⟨a, vs, rfl, .inl (.of hv), hr⟩
  | _ => cases e
end
theorem atI_of {α β : Type} {xs : List α} {ys : List β} (h : xs.length = ys.length) (i : Int) {R : α → β → Prop} (r : ∀ (j : Nat) (y : β), ys[j]? = some y → ∃ x, xs[j]? = some x ∧ R x y) {y : β} (e : atI ys i = some y) : ∃ x, atI xs i = some x ∧ R x y := by
  unfold atI at e ⊢
  rw [h]
  cases q : ixN ys.length i with
  | none => rw [q] at e; cases e
  | some j =>
    rw [q] at e
    exact r j y e

/-! ### expressions -/
section
variable {X : Cx} {W : WX} {a b e : Expr} {da db de : DE} {pos : Pos}
def dC (d : D) : DE := fun _ T P _ => P d T
theorem pd_int {i j} : PE X (.Constant (.int i) j pos) (can X.K W (dC (.int i))) := PE.imp pe_int fun σ H Q ⟨T, G, ρ, P, _, c, _, h, k, _⟩ => k _ _ _ _ _ h (.refl c) (.int i)
theorem pd_bl {i j} : PE X (.Constant (.bool i) j pos) (can X.K W (dC (.bl i))) := PE.imp pe_bl fun σ H Q ⟨T, G, ρ, P, _, c, _, h, k, _⟩ => k _ _ _ _ _ h (.refl c) (.bl i)
theorem pd_str {i j} : PE X (.Constant (.str i) j pos) (can X.K W (dC (.str i))) := PE.imp pe_str fun σ H Q ⟨T, G, ρ, P, _, c, _, h, k, _⟩ => k _ _ _ _ _ h (.refl c) (.str i)
theorem pd_non {j} : PE X (.Constant .none j pos) (can X.K W (dC .non)) := PE.imp pe_non fun σ H Q ⟨T, G, ρ, P, _, c, _, h, k, _⟩ => k _ _ _ _ _ h (.refl c) .non

def someOf (o : Option D) (k : D → Prop) : Prop := match o with | some d => k d | none => False
theorem someOf.of {o : Option D} {k : D → Prop} (h : someOf o k) : ∃ d, o = some d ∧ k d := by
  cases o with
  | none => exact h.elim
  | some d => exact ⟨d, rfl, h⟩
def dVar (i : Nat) : DE := fun ρ T P _ => someOf (ρ.getD i none) fun d => P d T
theorem getD_some {ρ : Env} {i : Nat} {d : D} (h : ρ.getD i none = some d) : ρ[i]? = some (some d) := by
  rw [List.getD_eq_getElem?_getD] at h
  cases q : ρ[i]? with
  | none => rw [q] at h; cases h
  | some o => rw [q] at h; exact congrArg some h
theorem pd_var (i : Nat) {x : Str} (hN : X.N[i]? = some x := by rfl) (hv : Vis X.env.scope x := by first | exact Or.inl rfl | exact Or.inr (Or.inl rfl) | exact Or.inr (Or.inr rfl)) (hd : (x == ("__debug__" : Str)) = false := by decide)
    (hcd : (x == ("__classdict__" : Str)) = false := by decide) : PE X (.Name x pos) (can X.K W (dVar i)) := PE.imp (pe_var hN hv hd hcd) fun σ H Q ⟨T, G, ρ, P, _, c, ok, h, k, _⟩ => by
  obtain ⟨d, e, h⟩ := someOf.of h
  obtain ⟨v, e1, r⟩ := ok.2 i d (getD_some e)
  exact ⟨v, e1, k _ _ _ _ _ h (.refl c) r⟩

/-- two values, then what an operator makes of them -/
theorem op2 {K : PySem.W.Frag} {r : R2} {f : D → D → Sto → (D → Sto → Prop) → Prop}
    (hr : ∀ T G H x y v u P Q, Ctx K T G H → Rp K G v x → Rp K G u y → f x y T P → LkV K T G H P Q → r v u H Q) :
    ∀ σ H Q, can K W (fun ρ T P X => da ρ T (fun x T1 => db ρ T1 (fun y T2 => f x y T2 P) X) X) σ H Q → tOp r (can K W da) (can K W db) σ H Q := by
  intro σ H Q ⟨T, G, ρ, P, X, c, ok, h, k, kx⟩
  refine ⟨T, G, ρ, _, X, c, ok, h, fun x T1 v G1 H1 h1 g1 r1 => ?_, kx⟩
  refine ⟨T1, G1, ρ, _, X, g1.ctx, ok.up g1.sub, h1, fun y T2 u G2 H2 h2 g2 r2 => ?_, kx.up g1⟩
  exact hr T2 G2 H2 x y v u P Q g2.ctx (r1.up g2.sub) r2 h2 (k.up (g1.trans g2))
theorem op1 {K : PySem.W.Frag} {r : V → Hp → VK → Prop} {f : D → Sto → (D → Sto → Prop) → Prop}
    (hr : ∀ T G H x v P Q, Ctx K T G H → Rp K G v x → f x T P → LkV K T G H P Q → r v H Q) :
    ∀ σ H Q, can K W (fun ρ T P X => da ρ T (fun x T1 => f x T1 P) X) σ H Q → tUn r (can K W da) σ H Q := by
  intro σ H Q ⟨T, G, ρ, P, X, c, ok, h, k, kx⟩
  refine ⟨T, G, ρ, _, X, c, ok, h, fun x T1 v G1 H1 h1 g1 r1 => ?_, kx⟩
  exact hr T1 G1 H1 x v P Q g1.ctx r1 h1 (k.up g1)

def int2 (x y : D) (k : Int → Int → Prop) : Prop := match x, y with
  | .int i, .int j => k i j
  | _, _ => False
theorem int2.of {x y : D} {k : Int → Int → Prop} (h : int2 x y k) : ∃ i j, x = .int i ∧ y = .int j ∧ k i j := by
  cases x <;> cases y <;> first | exact h.elim | exact ⟨_, _, rfl, rfl, h⟩
def dI (C : Int → Int → Prop) (g : Int → Int → D) (a b : DE) : DE := fun ρ T P X => a ρ T (fun x T1 => b ρ T1 (fun y T2 => int2 x y fun i j => C i j ∧ P (g i j) T2) X) X
def dI0 (g : Int → Int → D) (a b : DE) : DE := fun ρ T P X => a ρ T (fun x T1 => b ρ T1 (fun y T2 => int2 x y fun i j => P (g i j) T2) X) X
theorem pd_I {op : Operator} {C : Int → Int → Prop} {g : Int → Int → V} {g' : Int → Int → D} (ho : OpR X (binaryOp op) (rI C g)) (hg : ∀ K G i j, Rp K G (g i j) (g' i j)) (ha : PE X a (can X.K W da)) (hb : PE X b (can X.K W db)) :
    PE X (.BinOp a op b pos) (can X.K W (dI C g' da db)) := PE.imp (pe_op ho ha hb) (op2 fun T G H x y v u P Q c r1 r2 h k => by
  obtain ⟨i, j, rfl, rfl, hc, h⟩ := int2.of h
  cases r1; cases r2
  exact ⟨i, j, rfl, rfl, hc, k _ _ _ _ _ h (.refl c) (hg _ _ i j)⟩)
theorem pd_C {op : CmpOp} {g : Int → Int → V} {g' : Int → Int → D} (ho : OpR X (compareOp op) (rI0 g)) (hg : ∀ K G i j, Rp K G (g i j) (g' i j)) (ha : PE X a (can X.K W da)) (hb : PE X b (can X.K W db)) (hm : behindInMarks op b = false) :
    PE X (.Compare a [op] [b] pos) (can X.K W (dI0 g' da db)) := PE.imp (pe_cmpR ho ha hb hm) (op2 fun T G H x y v u P Q c r1 r2 h k => by
  obtain ⟨i, j, rfl, rfl, h⟩ := int2.of h
  cases r1; cases r2
  exact ⟨i, j, rfl, rfl, k _ _ _ _ _ h (.refl c) (hg _ _ i j)⟩)
structure MulOk (i j : Int) : Prop where
  ok : IntMulOk i j
theorem op_mulO : OpR X (binaryOp .Mult) (rI MulOk fun i j => .int (i * j)) := opI fun _ _ _ _ _ _ _ hc q => mul_int q hc.ok
def dMul : DE → DE → DE := dI MulOk fun i j => .int (i * j)
def dDiv : DE → DE → DE := dI CDivW fun i j => .int (i / j)
def dMod : DE → DE → DE := dI (fun _ j => 0 < j) fun i j => .int (i % j)
def dPow : DE → DE → DE := dI CPow fun i j => .int (i ^ j.toNat)
def dSub : DE → DE → DE := dI0 fun i j => .int (i - j)
def dLt : DE → DE → DE := dI0 fun i j => .bl (decide (i < j))
def dLe : DE → DE → DE := dI0 fun i j => .bl (decide (i ≤ j))
def dGt : DE → DE → DE := dI0 fun i j => .bl (decide (j < i))
def dGe : DE → DE → DE := dI0 fun i j => .bl (decide (j ≤ i))
theorem pd_mul (ha : PE X a (can X.K W da)) (hb : PE X b (can X.K W db)) : PE X (.BinOp a .Mult b pos) (can X.K W (dMul da db)) := pd_I op_mulO (fun _ _ _ _ => .int _) ha hb
theorem pd_div (ha : PE X a (can X.K W da)) (hb : PE X b (can X.K W db)) : PE X (.BinOp a .FloorDiv b pos) (can X.K W (dDiv da db)) := pd_I op_fdivW (fun _ _ _ _ => .int _) ha hb
theorem pd_mod (ha : PE X a (can X.K W da)) (hb : PE X b (can X.K W db)) : PE X (.BinOp a .Mod b pos) (can X.K W (dMod da db)) := pd_I op_mod (fun _ _ _ _ => .int _) ha hb
theorem pd_pow (ha : PE X a (can X.K W da)) (hb : PE X b (can X.K W db)) : PE X (.BinOp a .Pow b pos) (can X.K W (dPow da db)) := pd_I op_pow (fun _ _ _ _ => .int _) ha hb
theorem pd_sub (ha : PE X a (can X.K W da)) (hb : PE X b (can X.K W db)) : PE X (.BinOp a .Sub b pos) (can X.K W (dSub da db)) := PE.imp (pe_op op_sub ha hb) (op2 fun T G H x y v u P Q c r1 r2 h k => by
  obtain ⟨i, j, rfl, rfl, h⟩ := int2.of h
  cases r1; cases r2
  exact ⟨i, j, rfl, rfl, k _ _ _ _ _ h (.refl c) (.int _)⟩)
theorem pd_lt (ha : PE X a (can X.K W da)) (hb : PE X b (can X.K W db)) : PE X (.Compare a [.Lt] [b] pos) (can X.K W (dLt da db)) := pd_C op_lt (fun _ _ _ _ => .bl _) ha hb (nomark _)
theorem pd_le (ha : PE X a (can X.K W da)) (hb : PE X b (can X.K W db)) : PE X (.Compare a [.LtE] [b] pos) (can X.K W (dLe da db)) := pd_C op_le (fun _ _ _ _ => .bl _) ha hb (nomark _)
theorem pd_gt (ha : PE X a (can X.K W da)) (hb : PE X b (can X.K W db)) : PE X (.Compare a [.Gt] [b] pos) (can X.K W (dGt da db)) := pd_C op_gt (fun _ _ _ _ => .bl _) ha hb (nomark _)
theorem pd_ge (ha : PE X a (can X.K W da)) (hb : PE X b (can X.K W db)) : PE X (.Compare a [.GtE] [b] pos) (can X.K W (dGe da db)) := pd_C op_ge (fun _ _ _ _ => .bl _) ha hb (nomark _)
/-- -a -/
def int1 (x : D) (k : Int → Prop) : Prop := match x with
  | .int i => k i
  | _ => False
theorem int1.of {x : D} {k : Int → Prop} (h : int1 x k) : ∃ i, x = .int i ∧ k i := by
  cases x <;> first | exact h.elim | exact ⟨_, rfl, h⟩
def dNeg (a : DE) : DE := fun ρ T P X => a ρ T (fun x T1 => int1 x fun i => P (.int (-i)) T1) X
theorem pd_neg (ha : PE X a (can X.K W da)) : PE X (.UnaryOp .USub a pos) (can X.K W (dNeg da)) := PE.imp (pe_un un_neg ha) (op1 (f := fun x T P => int1 x fun i => P (.int (-i)) T) fun T G H x v P Q c r1 h k => by
  obtain ⟨i, rfl, h⟩ := int1.of h
  cases r1
  exact ⟨i, rfl, k _ _ _ _ _ h (.refl c) (.int _)⟩)
/-- a + b: numbers, texts, lists, tuples -/
def plst (T : Sto) : D → Option (List D)
  | .lst ds => some ds
  | .ptr a => mlst (T a)
  | _ => none
theorem plst.rd {K : PySem.W.Frag} {T : Sto} {G H : Hp} (c : Ctx K T G H) {d : D} {v : V} {ds : List D} (r : Rp K G v d) (e : plst T d = some ds) : ∃ a vs, v = .ref a ∧ H a = some (.lst vs) ∧ RpA K G vs ds := by
  cases r with
  | lst h1 h2 => cases e; exact ⟨_, _, rfl, c.sub _ _ h1, h2⟩
  | ptr a =>
    obtain ⟨_, vs, hv, hr⟩ := c.own a _ (mlst.of e)
    exact ⟨a, vs, rfl, hv, hr⟩
  | _ => cases e
def addL (x y : D) (T : Sto) (P : D → Sto → Prop) : Prop := match plst T x, plst T y with
  | some xs, some ys => xs.length + ys.length ≤ 1000000 ∧ P (.lst (xs ++ ys)) T
  | _, _ => False
def addD (x y : D) (T : Sto) (P : D → Sto → Prop) : Prop := match x, y with
  | .int i, .int j => P (.int (i + j)) T
  | .tup xs, .tup ys => (xs ≠ [] ∧ ys ≠ [] ∧ xs.length + ys.length ≤ 1000000) ∧ P (.tup (xs ++ ys)) T
  | .str x, .str y => x.length + y.length ≤ 1000000 ∧ P (.str (x ++ y)) T
  | .lst xs, y => addL (.lst xs) y T P
  | .ptr a, y => addL (.ptr a) y T P
  | _, _ => False
def dAdd (a b : DE) : DE := fun ρ T P X => a ρ T (fun x T1 => b ρ T1 (fun y T2 => addD x y T2 P) X) X
theorem size_le {n : Nat} (h : n ≤ 1000000) : n ≤ sizeLine := Nat.le_trans h (by decide)
theorem op_addA : OpR X (binaryOp .Add) (fun x y H Q => (rI0 fun i j => .int (i + j)) x y H Q ∨ rCat x y H Q ∨ rCatT X.K x y H Q ∨ (∃ i j, x = .str i ∧ y = .str j ∧ i.length + j.length ≤ sizeLine ∧ Q (.str (i ++ j)) H)) := OpR.or op_add (OpR.or op_cat (OpR.or op_catT op_add_str))
theorem addL.of {K : PySem.W.Frag} {T : Sto} {G H : Hp} {x y : D} {v u : V} {P : D → Sto → Prop} {Q : VK} (c : Ctx K T G H) (r1 : Rp K G v x) (r2 : Rp K G u y) (h : addL x y T P) (k : LkV K T G H P Q) : rCat v u H Q := by
  unfold addL at h
  cases q1 : plst T x with
  | none => rw [q1] at h; exact h.elim
  | some xs => cases q2 : plst T y with
    | none => rw [q1, q2] at h; exact h.elim
    | some ys =>
      rw [q1, q2] at h
      obtain ⟨a, vs, rfl, h1, h2⟩ := plst.rd c r1 q1
      obtain ⟨b, us, rfl, h3, h4⟩ := plst.rd c r2 q2
      exact ⟨_, _, _, _, rfl, rfl, h1, h3, size_le (by rw [h2.length, h4.length]; exact h.1), fun p hp => k _ _ _ _ _ h.2 (c.new hp) (.lst upd_same ((h2.append h4).up (c.new hp).sub))⟩
theorem pd_add (ha : PE X a (can X.K W da)) (hb : PE X b (can X.K W db)) : PE X (.BinOp a .Add b pos) (can X.K W (dAdd da db)) := PE.imp (pe_op op_addA ha hb) (op2 fun T G H x y v u P Q c r1 r2 h k => by
  cases r1 with
  | int i => cases r2 with
    | int j => exact .inl ⟨i, j, rfl, rfl, k _ _ _ _ _ h (.refl c) (.int _)⟩
    | _ => exact False.elim h
  | lst h1 h2 => exact .inr (.inl (addL.of c (.lst h1 h2) r2 h k))
  | ptr a => exact .inr (.inl (addL.of c (.ptr a) r2 h k))
  | tup h1 h2 => cases r2 with
    | tup h3 h4 =>
      obtain ⟨⟨n1, n2, hz⟩, h⟩ := h
      refine .inr (.inr (.inl ⟨_, _, _, _, rfl, rfl, Same.seqT c.sub h1, Same.seqT c.sub h3, fun e => ?_, size_le (by rw [h2.length, h4.length]; exact hz), fun e => ?_, fun _ p hp => k _ _ _ _ _ h (c.new hp) (.tup (.of upd_same) ((h2.append h4).up (c.new hp).sub))⟩))
      · subst e; cases h2; exact n1 rfl
      · subst e; cases h4; exact absurd rfl n2
    | _ => exact False.elim h
  | str s => cases r2 with
    | str t => exact .inr (.inr (.inr ⟨s, t, rfl, rfl, size_le h.1, k _ _ _ _ _ h.2 (.refl c) (.str _)⟩))
    | _ => exact False.elim h
  | _ => exact False.elim h)
/-- a[i] -/
def ixD (x y : D) (T : Sto) (P : D → Sto → Prop) : Prop := match seqOf T x, y with
  | some ds, .int i => someOf (atI ds i) fun d => P d T
  | _, _ => False
def dIx (a b : DE) : DE := fun ρ T P X => a ρ T (fun x T1 => b ρ T1 (fun y T2 => ixD x y T2 P) X) X
theorem pd_ix (ha : PE X a (can X.K W da)) (hb : PE X b (can X.K W db)) (hs : PlainIx b) : PE X (.Subscript a b pos) (can X.K W (dIx da db)) := PE.imp (pe_ix ix_seq ha hb hs) (op2 fun T G H x y v u P Q c r1 r2 h k => by
  unfold ixD at h
  cases q : seqOf T x with
  | none => rw [q] at h; exact h.elim
  | some ds =>
    rw [q] at h
    cases r2 with
    | int i =>
      obtain ⟨d, e, h⟩ := someOf.of h
      obtain ⟨p, vs, rfl, hs, hr⟩ := seq_rd c r1 q
      obtain ⟨w, hw, rw'⟩ := atI_of (R := fun a b => Rp X.K G a b) hr.length i (fun j y hy => hr.get hy) e
      rcases hs with hs | hs
      · exact .inl ⟨p, vs, i, w, rfl, rfl, hs, hw, k _ _ _ _ _ h (.refl c) rw'⟩
      · exact .inr (.inl ⟨p, vs, i, w, rfl, rfl, hs, hw, k _ _ _ _ _ h (.refl c) rw'⟩)
    | _ => exact h.elim)
/-! arguments -/
def dNil : DA := fun _ T P _ => P [] T
def dCons (a : DE) (b : DA) : DA := fun ρ T P X => a ρ T (fun x T1 => b ρ T1 (fun xs T2 => P (x :: xs) T2) X) X
theorem pda_nil : PA X [] (canA X.K W dNil) := PA.imp pa_nil fun σ H Q ⟨T, G, ρ, P, _, c, _, h, k, _⟩ => k _ _ _ _ _ h (.refl c) .nil
theorem can_cons {K : PySem.W.Frag} {db : DA} : ∀ σ H Q, canA K W (dCons da db) σ H Q → tCons (can K W da) (canA K W db) σ H Q := by
  intro σ H Q ⟨T, G, ρ, P, X, c, ok, h, k, kx⟩
  refine ⟨T, G, ρ, _, X, c, ok, h, fun x T1 v G1 H1 h1 g1 r1 => ?_, kx⟩
  refine ⟨T1, G1, ρ, _, X, g1.ctx, ok.up g1.sub, h1, fun ys T2 us G2 H2 h2 g2 r2 => ?_, kx.up g1⟩
  exact k _ _ _ _ _ h2 (g1.trans g2) (.cons (r1.up g2.sub) r2)
theorem pda_cons {es : List Expr} {db : DA} (ha : PE X e (can X.K W da)) (hr : PA X es (canA X.K W db)) (hs : starEach (e :: es) X.env = (false, eval e X.env) :: starEach es X.env := by rfl) : PA X (e :: es) (canA X.K W (dCons da db)) := PA.imp (pa_cons ha hr hs) can_cons
/-- (a, b), [a, b] -/
def dTup (a : DA) : DE := fun ρ T P X => a ρ T (fun xs T1 => xs.length ≤ 1000000 ∧ P (.tup xs) T1) X
def dLst (a : DA) : DE := fun ρ T P X => a ρ T (fun xs T1 => xs.length ≤ 1000000 ∧ P (.lst xs) T1) X
def dLstM (a : DA) : DE := fun ρ T P X => a ρ T (fun xs T1 => xs.length ≤ 1000000 ∧ ∀ p, T1 p = none → P (.ptr p) (updT T1 p (.lst xs))) X
theorem none_of_new {K : PySem.W.Frag} {T : Sto} {G H : Hp} (c : Ctx K T G H) {p : Addr} (h : H p = none) : T p = none := by
  cases q : T p with
  | none => rfl
  | some m => exact absurd h (c.own p m q).2.there
theorem pd_tup {es : List Expr} {dd : DA} {x1} (h : PA X es (canA X.K W dd)) : PE X (.Tuple es x1 pos) (can X.K W (dTup dd)) := PE.imp (pe_tup h) fun σ H Q ⟨T, G, ρ, P, Xp, c, ok, h, k, kx⟩ =>
  ⟨T, G, ρ, _, Xp, c, ok, h, fun ds T1 vs G1 H1 h1 g1 r1 => ⟨size_le (by rw [r1.length]; exact h1.1), fun p hp => k _ _ _ _ _ h1.2 (g1.trans (g1.ctx.new hp)) (.tup (.of upd_same) (r1.up (g1.ctx.new hp).sub))⟩, kx⟩
theorem pd_lst {es : List Expr} {dd : DA} (h : PA X es (canA X.K W dd)) : PE X (.List es pos) (can X.K W (dLst dd)) := PE.imp (pe_lst h) fun σ H Q ⟨T, G, ρ, P, Xp, c, ok, h, k, kx⟩ =>
  ⟨T, G, ρ, _, Xp, c, ok, h, fun ds T1 vs G1 H1 h1 g1 r1 => ⟨size_le (by rw [r1.length]; exact h1.1), fun p hp => k _ _ _ _ _ h1.2 (g1.trans (g1.ctx.new hp)) (.lst upd_same (r1.up (g1.ctx.new hp).sub))⟩, kx⟩
theorem pd_lstM {es : List Expr} {dd : DA} (h : PA X es (canA X.K W dd)) : PE X (.List es pos) (can X.K W (dLstM dd)) := PE.imp (pe_lst h) fun σ H Q ⟨T, G, ρ, P, Xp, c, ok, h, k, kx⟩ =>
  ⟨T, G, ρ, _, Xp, c, ok, h, fun ds T1 vs G1 H1 h1 g1 r1 => ⟨size_le (by rw [r1.length]; exact h1.1), fun p hp => k _ _ _ _ _ (h1.2 p (none_of_new g1.ctx hp)) (g1.trans (g1.ctx.newM hp r1)) (.ptr p)⟩, kx⟩
/-- a def is called -/
def lift (K : PySem.W.Frag) (sp : DSp) : Sp := fun vs H Q E => ∃ T G us P X, Ctx K T G H ∧ RpA K G vs us ∧ sp us T P X ∧ LkV K T G H P Q ∧ ∀ x T' G' H', X x T' → Gro K T G H T' G' H' → E (clsA K x) none H'
def dCall (sp : DSp) (a : DA) : DE := fun ρ T P X => a ρ T (fun us T1 => sp us T1 P X) X
theorem pd_call {sp : DSp} {k : Nat} {f : Addr} {fd : FuncData} {ps : List Str} {x : Str} {p : Pos} {es : List Expr} {dd : DA}
    (F : FnOk X.prog X.w X.K X.mg X.base (L2.CX X.prog X.w) k f fd ps (lift X.K sp)) (tk : Takes X W) (hr : Room k X.A) (hg : Gl X x) (hm : X.mg x = some (.ref f)) (hk : PySem.W.keepIn X.K (.ref f) = true) (hb : Binds X.K fd ps [])
    (ha : PA X (e :: es) (canA X.K W dd)) (hdb : (x == ("__debug__" : Str)) = false := by decide) (he : starEach (e :: es) X.env = (false, eval e X.env) :: starEach es X.env := by rfl) (hpl : (backTo pos (starEach es X.env)).any (·.1) = false := by rfl) :
    PE X (.Call (.Name x p) (e :: es) [] pos) (can X.K W (dCall sp dd)) := PE.imp (pe_callS F hr hg hm hk hb (fun σ => passAt tk σ) ha hdb he hpl) fun σ H Q ⟨T, G, ρ, P, Xp, c, ok, h, k, kx⟩ =>
  ⟨T, G, ρ, _, Xp, c, ok, h, fun us T1 vs G1 H1 h1 g1 r1 => ⟨T1, G1, us, P, Xp, g1.ctx, r1, h1, k.up g1, fun x T' G' H' hx g => kx x T' G' H' hx (g1.trans g)⟩, kx⟩
/-- a built-in is called by its name -/
theorem can_cb {K : PySem.W.Frag} {r : List V → Hp → VK → Prop} {dd : DA} {f : List D → Sto → (D → Sto → Prop) → Prop}
    (hr : ∀ T G H xs vs P Q, Ctx K T G H → RpA K G vs xs → f xs T P → LkV K T G H P Q → r vs H Q) :
    ∀ σ H Q, can K W (fun ρ T P X => dd ρ T (fun xs T1 => f xs T1 P) X) σ H Q → tCB r (canA K W dd) σ H Q := by
  intro σ H Q ⟨T, G, ρ, P, X, c, ok, h, k, kx⟩
  refine ⟨T, G, ρ, _, X, c, ok, h, fun xs T1 vs G1 H1 h1 g1 r1 => ?_, kx⟩
  exact hr T1 G1 H1 xs vs P Q g1.ctx r1 h1 (k.up g1)
end
end SY

namespace SY
open PySem PySem.Spec PyProof.Rows L2

/-! ### equality -/
mutual
def py : D → PyData
  | .non => .none
  | .bl b => .bool b
  | .int i => .int i
  | .str s => .str s
  | .tup ds => .tuple (pys ds)
  | .lst ds => .list (pys ds)
  | .scr _ => .none
  | .ptr _ => .none
def pys : List D → List PyData
  | [] => []
  | d :: ds => py d :: pys ds
end
mutual
def plainD : D → Bool
  | .tup ds => plainDs ds
  | .lst ds => plainDs ds
  | .scr _ => false
  | .ptr _ => false
  | _ => true
def plainDs : List D → Bool
  | [] => true
  | d :: ds => plainD d && plainDs ds
end
section
variable {K : PySem.W.Frag} {G H : Hp}
mutual
theorem Rp.dp (s : Same G H) : ∀ (d : D) (v : V), plainD d = true → Rp K G v d → Dp K H v (py d)
  | .non, _, _, h => by cases h; exact .non
  | .bl b, _, _, h => by cases h; exact .bl _
  | .int i, _, _, h => by cases h; exact .int _
  | .str x, _, _, h => by cases h; exact .str _
  | .tup ds, _, p, h => by
    cases h with
    | tup h1 h2 => exact .tup (Same.seqT s h1) (RpA.dp s ds _ p h2)
  | .lst ds, _, p, h => by
    cases h with
    | lst h1 h2 => exact .lst (.of (s _ _ h1)) (RpA.dp s ds _ p h2)
  | .scr ns, _, p, h => by cases p
  | .ptr a, _, p, h => by cases p
theorem RpA.dp (s : Same G H) : ∀ (ds : List D) (vs : List V), plainDs ds = true → RpA K G vs ds → DpAll K H vs (pys ds)
  | [], _, _, h => by cases h; exact .nil
  | d :: ds, _, p, h => by
    cases h with
    | cons h1 h2 =>
      have p2 : (plainD d && plainDs ds) = true := p
      rw [Bool.and_eq_true] at p2
      exact .cons (Rp.dp s d _ p2.1 h1) (RpA.dp s ds _ p2.2 h2)
end
end
def eqOk (x : D) : Bool := plainD x && SeqAt.shaped (py x)
def eqvD (x y : D) : Bool := PyData.eqv (py x) (py y)
def bl1 (x : D) (k : Bool → Prop) : Prop := match x with
  | .bl b => k b
  | _ => False
theorem bl1.of {x : D} {k : Bool → Prop} (h : bl1 x k) : ∃ i, x = .bl i ∧ k i := by
  cases x <;> first | exact h.elim | exact ⟨_, rfl, h⟩

section
variable {X : Cx} {W : WX} {a b e : Expr} {da db de : DE} {pos : Pos}
def dTst (de : DE) : DT := fun ρ T P X => de ρ T (fun x T1 => bl1 x fun b => P b T1) X
theorem canT_tst {K : PySem.W.Frag} {σ : L2.St} {H : Hp} {Q : Bool → Hp → Prop} (h : canT K W (dTst de) σ H Q) : can K W de σ H (fun x H' => ∃ k, x = .bl k ∧ Q k H') := by
  obtain ⟨T, G, ρ, P, X, c, ok, h, k, kx⟩ := h
  refine ⟨T, G, ρ, _, X, c, ok, h, fun x T1 v G1 H1 h1 g1 r1 => ?_, kx⟩
  obtain ⟨b, rfl, h1⟩ := bl1.of h1
  cases r1
  exact ⟨b, rfl, k b T1 G1 H1 h1 g1⟩
theorem pdt_C {op : CmpOp} {r : R2} (ho : OpR X (compareOp op) r) (ha : PE X a (can X.K W da)) (hb : PE X b (can X.K W db)) (hm : behindInMarks op b = false) (le : ∀ σ H Q, can X.K W de σ H Q → tOp r (can X.K W da) (can X.K W db) σ H Q) :
    PT X (.Compare a [op] [b] pos) (canT X.K W (dTst de)) := PT.imp (pt_cmpR ho ha hb hm) fun σ H Q h => le σ H _ (canT_tst h)
theorem le_I0 {K : PySem.W.Frag} {g : Int → Int → V} {g' : Int → Int → D} (hg : ∀ K G i j, Rp K G (g i j) (g' i j)) : ∀ σ H Q, can K W (dI0 g' da db) σ H Q → tOp (rI0 g) (can K W da) (can K W db) σ H Q := op2 fun T G H x y v u P Q c r1 r2 h k => by
  obtain ⟨i, j, rfl, rfl, h⟩ := int2.of h
  cases r1; cases r2
  exact ⟨i, j, rfl, rfl, k _ _ _ _ _ h (.refl c) (hg _ _ i j)⟩
theorem pdt_lt (ha : PE X a (can X.K W da)) (hb : PE X b (can X.K W db)) : PT X (.Compare a [.Lt] [b] pos) (canT X.K W (dTst (dLt da db))) := pdt_C op_lt ha hb (nomark _) (le_I0 fun _ _ _ _ => .bl _)
theorem pdt_le (ha : PE X a (can X.K W da)) (hb : PE X b (can X.K W db)) : PT X (.Compare a [.LtE] [b] pos) (canT X.K W (dTst (dLe da db))) := pdt_C op_le ha hb (nomark _) (le_I0 fun _ _ _ _ => .bl _)
theorem pdt_gt (ha : PE X a (can X.K W da)) (hb : PE X b (can X.K W db)) : PT X (.Compare a [.Gt] [b] pos) (canT X.K W (dTst (dGt da db))) := pdt_C op_gt ha hb (nomark _) (le_I0 fun _ _ _ _ => .bl _)
theorem pdt_ge (ha : PE X a (can X.K W da)) (hb : PE X b (can X.K W db)) : PT X (.Compare a [.GtE] [b] pos) (canT X.K W (dTst (dGe da db))) := pdt_C op_ge ha hb (nomark _) (le_I0 fun _ _ _ _ => .bl _)
def dEq (a b : DE) : DE := fun ρ T P X => a ρ T (fun x T1 => b ρ T1 (fun y T2 => (eqOk x = true ∧ eqOk y = true) ∧ P (.bl (eqvD x y)) T2) X) X
def dNe (a b : DE) : DE := fun ρ T P X => a ρ T (fun x T1 => b ρ T1 (fun y T2 => (eqOk x = true ∧ eqOk y = true) ∧ P (.bl (!eqvD x y)) T2) X) X
theorem le_eq {K : PySem.W.Frag} : ∀ σ H Q, can K W (dEq da db) σ H Q → tOp (rEqD K) (can K W da) (can K W db) σ H Q := op2 fun T G H x y v u P Q c r1 r2 h k => by
  obtain ⟨⟨o1, o2⟩, h⟩ := h
  unfold eqOk at o1 o2
  rw [Bool.and_eq_true] at o1 o2
  exact ⟨py x, py y, Rp.dp c.sub x v o1.1 r1, Rp.dp c.sub y u o2.1 r2, o1.2, o2.2, k _ _ _ _ _ h (.refl c) (.bl _)⟩
theorem le_ne {K : PySem.W.Frag} : ∀ σ H Q, can K W (dNe da db) σ H Q → tOp (rNeD K) (can K W da) (can K W db) σ H Q := op2 fun T G H x y v u P Q c r1 r2 h k => by
  obtain ⟨⟨o1, o2⟩, h⟩ := h
  unfold eqOk at o1 o2
  rw [Bool.and_eq_true] at o1 o2
  exact ⟨py x, py y, Rp.dp c.sub x v o1.1 r1, Rp.dp c.sub y u o2.1 r2, o1.2, o2.2, k _ _ _ _ _ h (.refl c) (.bl _)⟩
theorem pd_eq (hu : X.A.units + 64 < cLine) (ha : PE X a (can X.K W da)) (hb : PE X b (can X.K W db)) : PE X (.Compare a [.Eq] [b] pos) (can X.K W (dEq da db)) := PE.imp (pe_cmpR (op_eqD hu) ha hb (nomark _)) le_eq
theorem pd_ne (hu : X.A.units + 64 < cLine) (ha : PE X a (can X.K W da)) (hb : PE X b (can X.K W db)) : PE X (.Compare a [.NotEq] [b] pos) (can X.K W (dNe da db)) := PE.imp (pe_cmpR (op_neD hu) ha hb (nomark _)) le_ne
theorem pdt_eq (hu : X.A.units + 64 < cLine) (ha : PE X a (can X.K W da)) (hb : PE X b (can X.K W db)) : PT X (.Compare a [.Eq] [b] pos) (canT X.K W (dTst (dEq da db))) := pdt_C (op_eqD hu) ha hb (nomark _) le_eq
theorem pdt_ne (hu : X.A.units + 64 < cLine) (ha : PE X a (can X.K W da)) (hb : PE X b (can X.K W db)) : PT X (.Compare a [.NotEq] [b] pos) (canT X.K W (dTst (dNe da db))) := pdt_C (op_neD hu) ha hb (nomark _) le_ne
/-- x is None -/
def isNon : D → Bool
  | .non => true
  | _ => false
theorem isNon_of {K : PySem.W.Frag} {G : Hp} {v : V} {d : D} (r : Rp K G v d) : decide (v = .non) = isNon d := by
  cases r <;> first | rfl | exact decide_eq_false (fun z => by cases z)
def dIsN (a : DE) : DE := fun ρ T P X => a ρ T (fun x T1 => P (.bl (isNon x)) T1) X
def dNotN (a : DE) : DE := fun ρ T P X => a ρ T (fun x T1 => P (.bl (!isNon x)) T1) X
theorem le_isN {K : PySem.W.Frag} : ∀ σ H Q, can K W (dIsN da) σ H Q → tOp (fun x y H Q => y = .non ∧ Q (.bl (decide (x = .non))) H) (can K W da) (tC .non) σ H Q := by
  intro σ H Q ⟨T, G, ρ, P, X, c, ok, h, k, kx⟩
  refine ⟨T, G, ρ, _, X, c, ok, h, fun x T1 v G1 H1 h1 g1 r1 => ⟨rfl, ?_⟩, kx⟩
  rw [isNon_of r1]
  exact k _ _ _ _ _ h1 g1 (.bl _)
theorem le_notN {K : PySem.W.Frag} : ∀ σ H Q, can K W (dNotN da) σ H Q → tOp (fun x y H Q => y = .non ∧ Q (.bl (!decide (x = .non))) H) (can K W da) (tC .non) σ H Q := by
  intro σ H Q ⟨T, G, ρ, P, X, c, ok, h, k, kx⟩
  refine ⟨T, G, ρ, _, X, c, ok, h, fun x T1 v G1 H1 h1 g1 r1 => ⟨rfl, ?_⟩, kx⟩
  rw [isNon_of r1]
  exact k _ _ _ _ _ h1 g1 (.bl _)
theorem pd_isN {j} {p' : Pos} (ha : PE X a (can X.K W da)) : PE X (.Compare a [.Is] [.Constant .none j p'] pos) (can X.K W (dIsN da)) := PE.imp (pe_cmpR op_isN ha pe_non (nomark _)) le_isN
theorem pd_notN {j} {p' : Pos} (ha : PE X a (can X.K W da)) : PE X (.Compare a [.IsNot] [.Constant .none j p'] pos) (can X.K W (dNotN da)) := PE.imp (pe_cmpR op_notN ha pe_non (nomark _)) le_notN
theorem pdt_isN {j} {p' : Pos} (ha : PE X a (can X.K W da)) : PT X (.Compare a [.Is] [.Constant .none j p'] pos) (canT X.K W (dTst (dIsN da))) := PT.imp (pt_cmpR op_isN ha pe_non (nomark _)) fun σ H Q h => le_isN σ H _ (canT_tst h)
theorem pdt_notN {j} {p' : Pos} (ha : PE X a (can X.K W da)) : PT X (.Compare a [.IsNot] [.Constant .none j p'] pos) (canT X.K W (dTst (dNotN da))) := PT.imp (pt_cmpR op_notN ha pe_non (nomark _)) fun σ H Q h => le_notN σ H _ (canT_tst h)
/-! and, or, not -/
theorem pdt_val (h : PE X e (can X.K W de)) (he : ∀ whole, isTrue e X.env whole = (do let v ← whole; standAt e.pos; holding [v] (truthy v)) := by intro _; rfl) : PT X e (canT X.K W (dTst de)) := PT.imp (pt_val h he) fun σ H Q h => canT_tst h
def dtAnd (t u : DT) : DT := fun ρ T P X => t ρ T (fun c T1 => if c = true then u ρ T1 P X else P false T1) X
def dtOr (t u : DT) : DT := fun ρ T P X => t ρ T (fun c T1 => if c = true then P true T1 else u ρ T1 P X) X
def dtNot (t : DT) : DT := fun ρ T P X => t ρ T (fun c T1 => P (!c) T1) X
theorem le_tand {K : PySem.W.Frag} {t u : DT} : ∀ σ H Q, canT K W (dtAnd t u) σ H Q → tAnd (canT K W t) (canT K W u) σ H Q := by
  intro σ H Q ⟨T, G, ρ, P, X, c, ok, h, k, kx⟩
  refine ⟨T, G, ρ, _, X, c, ok, h, fun b T1 G1 H1 h1 g1 => ?_, kx⟩
  cases b with
  | true => exact iteT ⟨T1, G1, ρ, P, X, g1.ctx, ok.up g1.sub, by simpa using h1, k.up g1, kx.up g1⟩
  | false => exact iteF (k _ _ _ _ (by simpa using h1) g1)
theorem le_tor {K : PySem.W.Frag} {t u : DT} : ∀ σ H Q, canT K W (dtOr t u) σ H Q → tOr (canT K W t) (canT K W u) σ H Q := by
  intro σ H Q ⟨T, G, ρ, P, X, c, ok, h, k, kx⟩
  refine ⟨T, G, ρ, _, X, c, ok, h, fun b T1 G1 H1 h1 g1 => ?_, kx⟩
  cases b with
  | true => exact iteT (k _ _ _ _ (by simpa using h1) g1)
  | false => exact iteF ⟨T1, G1, ρ, P, X, g1.ctx, ok.up g1.sub, by simpa using h1, k.up g1, kx.up g1⟩
theorem pdw_and1 {t : DT} (ha : PT X a (canT X.K W t)) : PW X (.BoolOp .And [a] pos) (canT X.K W t) := pw_and1 ha
theorem pdw_or1 {t : DT} (ha : PT X a (canT X.K W t)) : PW X (.BoolOp .Or [a] pos) (canT X.K W t) := pw_or1 ha
theorem pdw_and {t u : DT} {rest : List Expr} (ha : PT X a (canT X.K W t)) (hb : PW X (.BoolOp .And (b :: rest) pos) (canT X.K W u)) : PW X (.BoolOp .And (a :: b :: rest) pos) (canT X.K W (dtAnd t u)) := PW.imp (pw_and ha hb) le_tand
theorem pdw_or {t u : DT} {rest : List Expr} (ha : PT X a (canT X.K W t)) (hb : PW X (.BoolOp .Or (b :: rest) pos) (canT X.K W u)) : PW X (.BoolOp .Or (a :: b :: rest) pos) (canT X.K W (dtOr t u)) := PW.imp (pw_or ha hb) le_tor
theorem pdt_not {t : DT} (ha : PT X a (canT X.K W t)) : PT X (.UnaryOp .Not a pos) (canT X.K W (dtNot t)) := PT.imp (pt_not ha) fun σ H Q ⟨T, G, ρ, P, Xp, c, ok, h, k, kx⟩ => ⟨T, G, ρ, _, Xp, c, ok, h, fun b T1 G1 H1 h1 g1 => k _ _ _ _ h1 g1, kx⟩
def dAnd (t u : DE) : DE := fun ρ T P X => t ρ T (fun x T1 => bl1 x fun c => if c = true then u ρ T1 P X else P (.bl false) T1) X
def dOr (t u : DE) : DE := fun ρ T P X => t ρ T (fun x T1 => bl1 x fun c => if c = true then P (.bl true) T1 else u ρ T1 P X) X
def dNot (t : DE) : DE := fun ρ T P X => t ρ T (fun x T1 => bl1 x fun c => P (.bl (!c)) T1) X
theorem pd_one {op} (h : PE X a (can X.K W da)) : PE X (.BoolOp op [a] pos) (can X.K W da) := pe_one h
theorem pd_and {rest : List Expr} (ha : PE X a (can X.K W da)) (hb : PE X (.BoolOp .And (b :: rest) pos) (can X.K W db)) : PE X (.BoolOp .And (a :: b :: rest) pos) (can X.K W (dAnd da db)) := PE.imp (pe_and ha hb) fun σ H Q ⟨T, G, ρ, P, Xp, c, ok, h, k, kx⟩ => by
  refine ⟨T, G, ρ, _, Xp, c, ok, h, fun x T1 v G1 H1 h1 g1 r1 => ?_, kx⟩
  obtain ⟨b, rfl, h9⟩ := bl1.of h1
  cases r1
  refine ⟨b, rfl, ?_⟩
  cases b with
  | true => exact iteT ⟨T1, G1, ρ, P, Xp, g1.ctx, ok.up g1.sub, by simpa using h9, k.up g1, kx.up g1⟩
  | false => exact iteF (k _ _ _ _ _ (by simpa using h9) g1 (.bl _))
theorem pd_or {rest : List Expr} (ha : PE X a (can X.K W da)) (hb : PE X (.BoolOp .Or (b :: rest) pos) (can X.K W db)) : PE X (.BoolOp .Or (a :: b :: rest) pos) (can X.K W (dOr da db)) := PE.imp (pe_or ha hb) fun σ H Q ⟨T, G, ρ, P, Xp, c, ok, h, k, kx⟩ => by
  refine ⟨T, G, ρ, _, Xp, c, ok, h, fun x T1 v G1 H1 h1 g1 r1 => ?_, kx⟩
  obtain ⟨b, rfl, h9⟩ := bl1.of h1
  cases r1
  refine ⟨b, rfl, ?_⟩
  cases b with
  | true => exact iteT (k _ _ _ _ _ (by simpa using h9) g1 (.bl _))
  | false => exact iteF ⟨T1, G1, ρ, P, Xp, g1.ctx, ok.up g1.sub, by simpa using h9, k.up g1, kx.up g1⟩
theorem pd_not (ha : PE X a (can X.K W da)) : PE X (.UnaryOp .Not a pos) (can X.K W (dNot da)) := PE.imp (pe_not ha) fun σ H Q ⟨T, G, ρ, P, Xp, c, ok, h, k, kx⟩ => by
  refine ⟨T, G, ρ, _, Xp, c, ok, h, fun x T1 v G1 H1 h1 g1 r1 => ?_, kx⟩
  obtain ⟨b, rfl, h1⟩ := bl1.of h1
  cases r1
  exact ⟨b, rfl, k _ _ _ _ _ h1 g1 (.bl _)⟩
/-! ### built-ins -/
def one (xs : List D) (k : D → Prop) : Prop := match xs with
  | [x] => k x
  | _ => False
theorem one.of {xs : List D} {k : D → Prop} (h : one xs k) : ∃ x, xs = [x] ∧ k x := by
  match xs, h with
  | [x], h => exact ⟨x, rfl, h⟩
theorem RpA.one {K : PySem.W.Frag} {G : Hp} {vs : List V} {d : D} (h : RpA K G vs [d]) : ∃ v, vs = [v] ∧ Rp K G v d := by
  cases h with
  | cons h1 h2 => cases h2; exact ⟨_, rfl, h1⟩
/-- abs(a) -/
def dAbs (a : DE) : DE := fun ρ T P X => a ρ T (fun x T1 => int1 x fun i => P (.int (if i < 0 then -i else i)) T1) X
theorem le_cb1 {K : PySem.W.Frag} {r : List V → Hp → VK → Prop} {f : D → Sto → (D → Sto → Prop) → Prop}
    (hr : ∀ T G H x v P Q, Ctx K T G H → Rp K G v x → f x T P → LkV K T G H P Q → r [v] H Q) :
    ∀ σ H Q, can K W (fun ρ T P X => da ρ T (fun x T1 => f x T1 P) X) σ H Q → tCB r (tCons (can K W da) tNil) σ H Q := by
  intro σ H Q ⟨T, G, ρ, P, X, c, ok, h, k, kx⟩
  exact ⟨T, G, ρ, _, X, c, ok, h, fun x T1 v G1 H1 h1 g1 r1 => hr T1 G1 H1 x v P Q g1.ctx r1 h1 (k.up g1), kx⟩
variable {x : Str} {p : Pos}
theorem pd_abs (hg : Gl X "abs") (hm : X.mg "abs" = none) (ha : PE X a (can X.K W da)) (he : starEach (a :: []) X.env = (false, eval a X.env) :: starEach [] X.env := by rfl) : PE X (.Call (.Name "abs" p) [a] [] pos) (can X.K W (dAbs da)) :=
  PE.imp (pe_callB call_abs hg hm (by decide +kernel) (pa_cons ha pa_nil he) (by decide) (by decide) he) (le_cb1 (f := fun x T P => int1 x fun i => P (.int (if i < 0 then -i else i)) T) fun T G H x v P Q c r h k => by
    obtain ⟨i, rfl, h⟩ := int1.of h
    cases r
    exact ⟨i, rfl, k _ _ _ _ _ h (.refl c) (.int _)⟩)
/-- len(a) -/
def lenD (x : D) (T : Sto) (P : D → Sto → Prop) : Prop := match seqOf T x with
  | some ds => P (.int (ds.length : Int)) T
  | none => match x with
    | .str s => s.length ≤ sizeLine ∧ P (.int (s.length : Int)) T
    | _ => False
def dLen (a : DE) : DE := fun ρ T P X => a ρ T (fun x T1 => lenD x T1 P) X
theorem pd_len (hg : Gl X "len") (hm : X.mg "len" = none) (ha : PE X a (can X.K W da)) (he : starEach (a :: []) X.env = (false, eval a X.env) :: starEach [] X.env := by rfl) : PE X (.Call (.Name "len" p) [a] [] pos) (can X.K W (dLen da)) :=
  PE.imp (pe_callB call_len hg hm PySem.boot_len (pa_cons ha pa_nil he) (by decide) (by decide) he) (le_cb1 (f := lenD) fun T G H x v P Q c r h k => by
    unfold lenD at h
    cases q : seqOf T x with
    | some ds =>
      rw [q] at h
      obtain ⟨a, vs, rfl, hs, hr⟩ := seq_rd c r q
      refine ⟨_, ds.length, rfl, ?_, k _ _ _ _ _ h (.refl c) (.int _)⟩
      rcases hs with hs | hs
      · exact .inl ⟨vs, hs, hr.length.symm⟩
      · exact .inr ⟨vs, hs, hr.length.symm⟩
    | none =>
      rw [q] at h
      cases r with
      | str s => exact ⟨_, s.length, rfl, ⟨h.1, rfl⟩, k _ _ _ _ _ h.2 (.refl c) (.int _)⟩
      | _ => exact h.elim)
/-- tuple(a), list(a) -/
def seqK (x : D) (T : Sto) (k : List D → Prop) : Prop := match seqOf T x with
  | some ds => k ds
  | none => False
theorem seqK.of {x : D} {T : Sto} {k : List D → Prop} (h : seqK x T k) : ∃ ds, seqOf T x = some ds ∧ k ds := by
  unfold seqK at h
  cases q : seqOf T x with
  | some ds => rw [q] at h; exact ⟨ds, rfl, h⟩
  | none => rw [q] at h; exact h.elim
def dTuple (a : DE) : DE := fun ρ T P X => a ρ T (fun x T1 => seqK x T1 fun ds => P (.tup ds) T1) X
def dList (a : DE) : DE := fun ρ T P X => a ρ T (fun x T1 => seqK x T1 fun ds => P (.lst ds) T1) X
def dListM (a : DE) : DE := fun ρ T P X => a ρ T (fun x T1 => seqK x T1 fun ds => ∀ p, T1 p = none → P (.ptr p) (updT T1 p (.lst ds))) X
theorem pd_tuple (hg : Gl X "tuple") (hm : X.mg "tuple" = none) (ha : PE X a (can X.K W da)) (he : starEach (a :: []) X.env = (false, eval a X.env) :: starEach [] X.env := by rfl) : PE X (.Call (.Name "tuple" p) [a] [] pos) (can X.K W (dTuple da)) :=
  PE.imp (pe_callTy call_tuple_of hg hm (by decide +kernel) (pa_cons ha pa_nil he) (by decide) (by decide) he) (le_cb1 (f := fun x T P => seqK x T fun ds => P (.tup ds) T) fun T G H x v P Q c r h k => by
    obtain ⟨ds, q, h9⟩ := seqK.of h
    cases r with
    | tup h1 h2 =>
      cases q
      exact ⟨_, _, rfl, .inr ⟨Same.seqT c.sub h1, k _ _ _ _ _ h9 (.refl c) (.tup h1 h2)⟩⟩
    | lst h1 h2 =>
      cases q
      exact ⟨_, _, rfl, .inl ⟨.of (c.sub _ _ h1), fun l hl => k _ _ _ _ _ h9 (c.new hl) (.tup (.of upd_same) (h2.up (c.new hl).sub))⟩⟩
    | scr h1 =>
      cases q
      exact ⟨_, _, rfl, .inl ⟨c.sub.seq h1, fun l hl => k _ _ _ _ _ h9 (c.new hl) (.tup (.of upd_same) (RpA.ints _))⟩⟩
    | ptr b =>
      obtain ⟨_, vs, hv, hr⟩ := c.own b _ (mlst.of q)
      exact ⟨_, _, rfl, .inl ⟨.of hv, fun l hl => k _ _ _ _ _ h9 (c.new hl) (.tup (.of upd_same) (hr.up (c.new hl).sub))⟩⟩
    | _ => cases q)
theorem pd_list (hg : Gl X "list") (hm : X.mg "list" = none) (ha : PE X a (can X.K W da)) (he : starEach (a :: []) X.env = (false, eval a X.env) :: starEach [] X.env := by rfl) : PE X (.Call (.Name "list" p) [a] [] pos) (can X.K W (dList da)) :=
  PE.imp (pe_callTy call_list_of hg hm (by decide +kernel) (pa_cons ha pa_nil he) (by decide) (by decide) he) (le_cb1 (f := fun x T P => seqK x T fun ds => P (.lst ds) T) fun T G H x v P Q c r h k => by
    obtain ⟨ds, q, h⟩ := seqK.of h
    obtain ⟨a, vs, rfl, hs, hr⟩ := seq_rd c r q
    exact ⟨_, _, rfl, hs, fun l hl => k _ _ _ _ _ h (c.new hl) (.lst upd_same (hr.up (c.new hl).sub))⟩)
theorem pd_listM (hg : Gl X "list") (hm : X.mg "list" = none) (ha : PE X a (can X.K W da)) (he : starEach (a :: []) X.env = (false, eval a X.env) :: starEach [] X.env := by rfl) : PE X (.Call (.Name "list" p) [a] [] pos) (can X.K W (dListM da)) :=
  PE.imp (pe_callTy call_list_of hg hm (by decide +kernel) (pa_cons ha pa_nil he) (by decide) (by decide) he) (le_cb1 (f := fun x T P => seqK x T fun ds => ∀ p, T p = none → P (.ptr p) (updT T p (.lst ds))) fun T G H x v P Q c r h k => by
    obtain ⟨ds, q, h⟩ := seqK.of h
    obtain ⟨a, vs, rfl, hs, hr⟩ := seq_rd c r q
    exact ⟨_, _, rfl, hs, fun l hl => k _ _ _ _ _ (h l (none_of_new c hl)) (c.newM hl hr) (.ptr l)⟩)
/-- all(a), any(a), sum(a) -/
def blsOf : List D → Option (List Bool)
  | [] => some []
  | .bl b :: ds => (blsOf ds).map (b :: ·)
  | _ => none
def intsOf : List D → Option (List Int)
  | [] => some []
  | .int b :: ds => (intsOf ds).map (b :: ·)
  | _ => none
theorem blsOf.of {K : PySem.W.Frag} {G : Hp} : ∀ {ds : List D} {bs : List Bool} {vs : List V}, blsOf ds = some bs → RpA K G vs ds → vs = bs.map V.bl
  | [], bs, vs, e, r => by cases e; cases r; rfl
  | .bl b :: ds, bs, vs, e, r => by
    unfold blsOf at e
    cases q : blsOf ds with
    | none => rw [q] at e; cases e
    | some cs =>
      rw [q] at e
      cases e
      cases r with
      | cons h1 h2 =>
        cases h1
        rw [blsOf.of q h2]
        rfl
  | .non :: ds, bs, vs, e, r => by cases e
  | .int _ :: ds, bs, vs, e, r => by cases e
  | .str _ :: ds, bs, vs, e, r => by cases e
  | .tup _ :: ds, bs, vs, e, r => by cases e
  | .lst _ :: ds, bs, vs, e, r => by cases e
  | .scr _ :: ds, bs, vs, e, r => by cases e
  | .ptr _ :: ds, bs, vs, e, r => by cases e
theorem intsOf.of {K : PySem.W.Frag} {G : Hp} : ∀ {ds : List D} {bs : List Int} {vs : List V}, intsOf ds = some bs → RpA K G vs ds → vs = bs.map V.int
  | [], bs, vs, e, r => by cases e; cases r; rfl
  | .int b :: ds, bs, vs, e, r => by
    unfold intsOf at e
    cases q : intsOf ds with
    | none => rw [q] at e; cases e
    | some cs =>
      rw [q] at e
      cases e
      cases r with
      | cons h1 h2 =>
        cases h1
        rw [intsOf.of q h2]
        rfl
  | .non :: ds, bs, vs, e, r => by cases e
  | .bl _ :: ds, bs, vs, e, r => by cases e
  | .str _ :: ds, bs, vs, e, r => by cases e
  | .tup _ :: ds, bs, vs, e, r => by cases e
  | .lst _ :: ds, bs, vs, e, r => by cases e
  | .scr _ :: ds, bs, vs, e, r => by cases e
  | .ptr _ :: ds, bs, vs, e, r => by cases e
theorem blsOf_map : ∀ bs : List Bool, blsOf (bs.map .bl) = some bs
  | [] => rfl
  | b :: bs => by
    show (blsOf (bs.map .bl)).map (b :: ·) = _
    rw [blsOf_map bs]
    rfl
theorem intsOf_map : ∀ bs : List Int, intsOf (bs.map .int) = some bs
  | [] => rfl
  | b :: bs => by
    show (intsOf (bs.map .int)).map (b :: ·) = _
    rw [intsOf_map bs]
    rfl
def optK {α : Type} (o : Option α) (k : α → Prop) : Prop := match o with
  | some a => k a
  | none => False
theorem optK.of {α : Type} {o : Option α} {k : α → Prop} (h : optK o k) : ∃ a, o = some a ∧ k a := by
  cases o with
  | some a => exact ⟨a, rfl, h⟩
  | none => exact h.elim
def dAll (a : DE) : DE := fun ρ T P X => a ρ T (fun x T1 => optK (lstOf T1 x) fun ds => optK (blsOf ds) fun bs => P (.bl (bs.all id)) T1) X
def dSum (a : DE) : DE := fun ρ T P X => a ρ T (fun x T1 => optK (lstOf T1 x) fun ds => optK (intsOf ds) fun bs => P (.int bs.sum) T1) X
theorem pd_all (hc : X.calm = true) (hg : Gl X "all") (hm : X.mg "all" = none) (ha : PE X a (can X.K W da)) (he : starEach (a :: []) X.env = (false, eval a X.env) :: starEach [] X.env := by rfl) : PE X (.Call (.Name "all" p) [a] [] pos) (can X.K W (dAll da)) :=
  PE.imp (pe_callB (cr_all hc) hg hm (by decide +kernel) (pa_cons ha pa_nil he) (by decide) (by decide) he) (le_cb1 (f := fun x T P => optK (lstOf T x) fun ds => optK (blsOf ds) fun bs => P (.bl (bs.all id)) T) fun T G H x v P Q c r h k => by
    obtain ⟨ds, q, h⟩ := optK.of h
    obtain ⟨bs, q2, h⟩ := optK.of h
    obtain ⟨a, vs, rfl, hs, hr⟩ := lst_rd c r q
    have ev := blsOf.of q2 hr
    subst ev
    exact ⟨a, bs, rfl, hs, k _ _ _ _ _ h (.refl c) (.bl _)⟩)
theorem pd_sum (hc : X.calm = true) (hg : Gl X "sum") (hm : X.mg "sum" = none) (ha : PE X a (can X.K W da)) (he : starEach (a :: []) X.env = (false, eval a X.env) :: starEach [] X.env := by rfl) : PE X (.Call (.Name "sum" p) [a] [] pos) (can X.K W (dSum da)) :=
  PE.imp (pe_callB (cr_sum hc) hg hm (by decide +kernel) (pa_cons ha pa_nil he) (by decide) (by decide) he) (le_cb1 (f := fun x T P => optK (lstOf T x) fun ds => optK (intsOf ds) fun bs => P (.int bs.sum) T) fun T G H x v P Q c r h k => by
    obtain ⟨ds, q, h⟩ := optK.of h
    obtain ⟨bs, q2, h⟩ := optK.of h
    obtain ⟨a, vs, rfl, hs, hr⟩ := lst_rd c r q
    have ev := intsOf.of q2 hr
    subst ev
    exact ⟨a, bs, rfl, hs, k _ _ _ _ _ h (.refl c) (.int _)⟩)
/-- int(a), of a number or a truth value -/
def intK (x : D) (k : Int → Prop) : Prop := match x with
  | .int i => k i
  | .bl b => k (if b then 1 else 0)
  | _ => False
def dInt (a : DE) : DE := fun ρ T P X => a ρ T (fun x T1 => intK x fun i => P (.int i) T1) X
theorem pd_int1 (hg : Gl X "int") (hm : X.mg "int" = none) (ha : PE X a (can X.K W da)) (he : starEach (a :: []) X.env = (false, eval a X.env) :: starEach [] X.env := by rfl) : PE X (.Call (.Name "int" p) [a] [] pos) (can X.K W (dInt da)) :=
  PE.imp (pe_callTy call_int1 hg hm (by decide +kernel) (pa_cons ha pa_nil he) (by decide) (by decide) he) (le_cb1 (f := fun x T P => intK x fun i => P (.int i) T) fun T G H x v P Q c r h k => by
    cases r with
    | int i => exact .inl ⟨i, rfl, k _ _ _ _ _ h (.refl c) (.int _)⟩
    | bl b => exact .inr ⟨b, rfl, k _ _ _ _ _ h (.refl c) (.int _)⟩
    | _ => exact h.elim)
/-- isinstance(a, T), T a built-in class by its name -/
def tyN (T : Sto) : D → Option String
  | .non => some "NoneType"
  | .bl _ => some "bool"
  | .int _ => some "int"
  | .str _ => some "str"
  | .tup _ => some "tuple"
  | .lst _ => some "list"
  | .scr _ => none
  | .ptr a => (mlst (T a)).map fun _ => "list"
theorem tyN.of {K : PySem.W.Frag} {T : Sto} {G H : Hp} (c : Ctx K T G H) {v : V} {d : D} {n : String} (r : Rp K G v d) (e : tyN T d = some n) : TyX K H v (.type n) := by
  cases r with
  | non => cases e; exact .base .non
  | bl b => cases e; exact .base (.bl _)
  | int b => cases e; exact .base (.int _)
  | str b => cases e; exact .base (.str _)
  | tup h1 h2 =>
    cases e
    rcases Same.seqT c.sub h1 with (h | ⟨o, h⟩) | ⟨o, its, n, h, hc, _⟩
    · exact .base (.tup h)
    · exact .fTuple h
    · exact .kTuple h hc
  | lst h1 h2 => cases e; exact .base (.lst (c.sub _ _ h1))
  | scr h1 => cases e
  | ptr a =>
    have e' : (mlst (T a)).map (fun _ => "list") = some n := e
    cases q : mlst (T a) with
    | none => rw [q] at e'; cases e'
    | some ds =>
      rw [q] at e'
      cases e'
      obtain ⟨_, vs, hv, hr⟩ := c.own a _ (mlst.of q)
      exact .base (.lst hv)
def dIsi (ty : String) (a : DE) : DE := fun ρ T P X => a ρ T (fun x T1 => optK (tyN T1 x) fun n => optK (kitB n ty) fun r => P (.bl r) T1) X
theorem pd_isi {ty : String} {tx : Str} {p2 : Pos} (hg : Gl X "isinstance") (hm : X.mg "isinstance" = none) (ha : PE X a (can X.K W da)) (hgt : Gl X tx) (hmt : X.mg tx = none) (hbt : bootBuiltins tx = some (.type ty)) (hnt : tx ≠ "__name__" := by decide) (hdt : (tx == ("__debug__" : Str)) = false := by decide)
    (he : starEach (a :: [.Name tx p2]) X.env = (false, eval a X.env) :: starEach [.Name tx p2] X.env := by rfl) : PE X (.Call (.Name "isinstance" p) [a, .Name tx p2] [] pos) (can X.K W (dIsi ty da)) :=
  PE.imp (pe_callB call_isi hg hm (by decide +kernel) (pa_cons ha (pa_cons (pe_bltn (v := .ty ty) hgt hmt hbt rfl hnt hdt) pa_nil) he) (by decide) (by decide) he) fun σ H Q ⟨T, G, ρ, P, Xp, c, ok, h, k, kx⟩ => by
    refine ⟨T, G, ρ, _, Xp, c, ok, h, fun x T1 v G1 H1 h1 g1 r1 => ?_, kx⟩
    obtain ⟨n, e1, h1⟩ := optK.of h1
    obtain ⟨b, e2, h1⟩ := optK.of h1
    exact ⟨v, .ty ty, .type n, .type ty, b, rfl, .ty _, tyN.of g1.ctx r1 e1, kit_ty e2, k _ _ _ _ _ h1 g1 (.bl _)⟩
theorem kit_ii : kitB "int" "int" = some true := by decide +kernel
theorem kit_ib : kitB "int" "bool" = some false := by decide +kernel
theorem kit_it : kitB "int" "tuple" = some false := by decide +kernel
theorem kit_bi : kitB "bool" "int" = some true := by decide +kernel
theorem kit_bb : kitB "bool" "bool" = some true := by decide +kernel
theorem kit_tt : kitB "tuple" "tuple" = some true := by decide +kernel
theorem kit_ti : kitB "tuple" "int" = some false := by decide +kernel
theorem kit_tb : kitB "tuple" "bool" = some false := by decide +kernel
theorem kit_nt : kitB "NoneType" "tuple" = some false := by decide +kernel
theorem kit_ll : kitB "list" "list" = some true := by decide +kernel
theorem kit_lt : kitB "list" "tuple" = some false := by decide +kernel
/-! slices -/
abbrev DO := Env → Sto → (Option Int → Sto → Prop) → (Xc → Sto → Prop) → Prop
def canO (K : PySem.W.Frag) (W : WX) (dd : DO) : TO := fun σ H Q => ∃ T G ρ P X, Ctx K T G H ∧ EnvOk K G σ ρ ∧ dd ρ T P X ∧ (∀ o T' G' H', P o T' → Gro K T G H T' G' H' → Q o H') ∧ LkX K W T G H σ X
def dNoO : DO := fun _ T P _ => P none T
def dSomeO (a : DE) : DO := fun ρ T P X => a ρ T (fun x T1 => int1 x fun i => P (some i) T1) X
theorem PO.imp {X : Cx} {e : Option Expr} {t t' : TO} (h : PO X e t) (i : ∀ σ H Q, t' σ H Q → t σ H Q) : PO X e t' := ⟨fun pins s σ H Q I q => h.run pins s σ H Q I (i σ H Q q)⟩
theorem pdo_none : PO X none (canO X.K W dNoO) := PO.imp po_none fun σ H Q ⟨T, G, ρ, P, _, c, _, h, k, _⟩ => k _ _ _ _ h (.refl c)
theorem pdo_some (h : PE X a (can X.K W da)) : PO X (some a) (canO X.K W (dSomeO da)) := PO.imp (po_some h) fun σ H Q ⟨T, G, ρ, P, Xp, c, ok, h, k, kx⟩ =>
  ⟨T, G, ρ, _, Xp, c, ok, h, fun x T1 v G1 H1 h1 g1 r1 => by
    obtain ⟨i, rfl, h1⟩ := int1.of h1
    cases r1
    exact ⟨i, rfl, k _ _ _ _ h1 g1⟩, kx⟩
def cutD {α : Type} (xs : List α) (lo hi : Option Int) : List α := (xs.drop (HT.sIx xs.length 0 lo)).take (HT.sIx xs.length xs.length hi - HT.sIx xs.length 0 lo)
def slD (x : D) (lo hi : Option Int) (T : Sto) (P : D → Sto → Prop) : Prop := match x with
  | .tup ds => ¬ (HT.sIx ds.length 0 lo = 0 ∧ HT.sIx ds.length ds.length hi = ds.length) ∧ P (.tup (cutD ds lo hi)) T
  | _ => optK (lstOf T x) fun ds => P (.lst (cutD ds lo hi)) T
def dSl (a : DE) (lo hi : DO) : DE := fun ρ T P X => a ρ T (fun x T1 => lo ρ T1 (fun l T2 => hi ρ T2 (fun h T3 => slD x l h T3 P) X) X) X
theorem RpA.cut {K : PySem.W.Frag} {G : Hp} {ds : List D} {vs : List V} (h : RpA K G vs ds) (lo hi : Option Int) : RpA K G (cutV vs lo hi) (cutD ds lo hi) := by
  unfold cutV cutD
  rw [h.length]
  exact (h.drop _).take _
theorem lstSl {K : PySem.W.Frag} {T : Sto} {G H : Hp} {x : D} {v : V} {l u : Option Int} {P : D → Sto → Prop} {Q : VK} (c : Ctx K T G H) (r : Rp K G v x) (h : optK (lstOf T x) fun ds => P (.lst (cutD ds l u)) T) (k : LkV K T G H P Q) : rSlL K v l u H Q := by
  obtain ⟨ds, q, h⟩ := optK.of h
  obtain ⟨a, vs, rfl, hs, hr⟩ := lst_rd c r q
  exact ⟨a, vs, rfl, hs, fun p hp => k _ _ _ _ _ h (c.new hp) (.lst upd_same ((hr.cut l u).up (c.new hp).sub))⟩
theorem pd_sl {lo hi : Option Expr} {dl dh : DO} {p2 : Pos} (ha : PE X a (can X.K W da)) (hl : PO X lo (canO X.K W dl)) (hh : PO X hi (canO X.K W dh)) : PE X (.Subscript a (.Slice lo hi none p2) pos) (can X.K W (dSl da dl dh)) :=
  PE.imp (pe_slice (SlR.or sl_list sl_tup) ha hl hh) fun σ H Q ⟨T, G, ρ, P, Xp, c, ok, h, k, kx⟩ => by
    refine ⟨T, G, ρ, _, Xp, c, ok, h, fun x T1 v G1 H1 h1 g1 r1 => ?_, kx⟩
    refine ⟨T1, G1, ρ, _, Xp, g1.ctx, ok.up g1.sub, h1, fun l T2 G2 H2 h2 g2 => ?_, kx.up g1⟩
    refine ⟨T2, G2, ρ, _, Xp, g2.ctx, ok.up (g1.sub.trans g2.sub), h2, fun u T3 G3 H3 h3 g3 => ?_, (kx.up g1).up g2⟩
    have g := (g1.trans g2).trans g3
    have r3 := r1.up (g2.sub.trans g3.sub)
    cases r3 with
    | tup q1 q2 =>
      obtain ⟨nw, h3⟩ := h3
      refine .inr ⟨_, _, rfl, Same.seqT g.ctx.sub q1, by rw [q2.length]; exact nw, fun p hp => k _ _ _ _ _ h3 (g.trans (g.ctx.new hp)) (.tup (.of upd_same) ((q2.cut l u).up (g.ctx.new hp).sub))⟩
    | lst q1 q2 => exact .inl (lstSl g.ctx (.lst q1 q2) h3 (k.up g))
    | scr q1 => exact .inl (lstSl g.ctx (.scr q1) h3 (k.up g))
    | ptr a => exact .inl (lstSl g.ctx (.ptr a) h3 (k.up g))
    | _ => exact False.elim h3
end
end SY

namespace SY
open PySem PySem.Spec PyProof.Rows L2

/-! ### statements -/
structure DX where
  nx : Env → Sto → Prop
  rt : D → Sto → Prop
  bk : Env → Sto → Prop := fun _ _ => False
  ct : Env → Sto → Prop := fun _ _ => False
  ex : Xc → Env → Sto → Prop := fun _ _ _ => False
abbrev DS := DX → Env → Sto → Prop
def LkN (K : PySem.W.Frag) (T : Sto) (G H : Hp) (N : Env → Sto → Prop) (Q : L2.St → Hp → Prop) : Prop := ∀ ρ' T' σ' G' H', N ρ' T' → Gro K T G H T' G' H' → EnvOk K G' σ' ρ' → Q σ' H'
structure Lk (K : PySem.W.Frag) (W : WX) (T : Sto) (G H : Hp) (E : DX) (D : Ends) : Prop where
  nx : LkN K T G H E.nx D.nx
  rt : LkV K T G H E.rt D.rt
  bk : LkN K T G H E.bk D.bk
  ct : LkN K T G H E.ct D.ct
  ex : ∀ x ρ' T' σ' G' H', E.ex x ρ' T' → Gro K T G H T' G' H' → EnvOk K G' σ' ρ' → W (clsA K x) none σ' H'
section
variable {K : PySem.W.Frag} {W : WX} {T T1 : Sto} {G G1 H H1 : Hp} {E : DX} {D : Ends}
theorem LkN.up {N : Env → Sto → Prop} {Q : L2.St → Hp → Prop} (h : LkN K T G H N Q) (g : Gro K T G H T1 G1 H1) : LkN K T1 G1 H1 N Q := fun ρ' T' σ' G' H' n g' ok => h ρ' T' σ' G' H' n (g.trans g') ok
theorem Lk.up (h : Lk K W T G H E D) (g : Gro K T G H T1 G1 H1) : Lk K W T1 G1 H1 E D := ⟨h.nx.up g, h.rt.up g, h.bk.up g, h.ct.up g, fun x ρ' T' σ' G' H' q g' ok => h.ex x ρ' T' σ' G' H' q (g.trans g') ok⟩
theorem Lk.exE (h : Lk K W T G H E D) {σ : L2.St} {ρ : Env} (ok : EnvOk K G σ ρ) : LkX K W T G H σ (fun x T1 => E.ex x ρ T1) := fun x T' G' H' q g => h.ex x ρ T' σ G' H' q g (ok.up g.sub)
end
def canS (K : PySem.W.Frag) (W : WX) (ds : DS) : TS := fun D σ H => ∃ T G ρ E, Ctx K T G H ∧ EnvOk K G σ ρ ∧ ds E ρ T ∧ Lk K W T G H E D
abbrev DG := D → Env → Sto → (Env → Sto → Prop) → (Xc → Sto → Prop) → Prop
abbrev DGs := List D → Env → Sto → (Env → Sto → Prop) → (Xc → Sto → Prop) → Prop
def canG (K : PySem.W.Frag) (W : WX) (dg : DG) : TG := fun v σ H Q => ∃ T G ρ d N X, Ctx K T G H ∧ EnvOk K G σ ρ ∧ Rp K G v d ∧ dg d ρ T N X ∧ LkN K T G H N Q ∧ LkX K W T G H σ X
def canGs (K : PySem.W.Frag) (W : WX) (dg : DGs) : TGs := fun vs σ H Q => ∃ T G ρ ds N X, Ctx K T G H ∧ EnvOk K G σ ρ ∧ RpA K G vs ds ∧ dg ds ρ T N X ∧ LkN K T G H N Q
theorem PG.imp {X : Cx} {e : Expr} {t t' : TG} (h : PG X e t) (i : ∀ v σ H Q, t' v σ H Q → t v σ H Q) : PG X e t' := ⟨fun pins s σ H v u Q I r q => h.run pins s σ H v u Q I r (i v σ H Q q)⟩
theorem PGs.imp {X : Cx} {e : List Expr} {t t' : TGs} (h : PGs X e t) (i : ∀ v σ H Q, t' v σ H Q → t v σ H Q) : PGs X e t' := ⟨fun pins s σ H v u Q I r q => h.run pins s σ H v u Q I r (i v σ H Q q)⟩
section
variable {X : Cx} {W : WX} {a b e : Expr} {da db de : DE} {pos pos' : Pos} {st : Stmt} {rest : List Stmt} {s1 s2 : DS} {x : Str} {p : Pos}
def dNext : DS := fun E ρ T => E.nx ρ T
def dSeq (s t : DS) : DS := fun E ρ T => s { E with nx := fun ρ' T' => t E ρ' T' } ρ T
theorem pds_nil : PSs X [] (canS X.K W dNext) := PSs.imp pss_nil fun D σ H ⟨T, G, ρ, E, c, ok, h, l⟩ => l.nx _ _ _ _ _ h (.refl c) ok
theorem pds_one (h : PS X st (canS X.K W s1)) : PSs X [st] (canS X.K W s1) := pss_one h
theorem pds_cons (h1 : PS X st (canS X.K W s1)) (h2 : PSs X rest (canS X.K W s2)) : PSs X (st :: rest) (canS X.K W (dSeq s1 s2)) := PSs.imp (pss_cons h1 h2) fun D σ H ⟨T, G, ρ, E, c, ok, h, l⟩ =>
  ⟨T, G, ρ, _, c, ok, h, ⟨fun ρ' T' σ' G' H' q g ok' => ⟨T', G', ρ', E, g.ctx, ok', q, l.up g⟩, l.rt, l.bk, l.ct, l.ex⟩⟩
theorem pds_pass : PS X (.Pass pos) (canS X.K W dNext) := PS.imp ps_pass fun D σ H ⟨T, G, ρ, E, c, ok, h, l⟩ => l.nx _ _ _ _ _ h (.refl c) ok
theorem pds_doc {s : Str} {j : Nat} : PS X (.Expr (.Constant (.str s) j pos) pos') (canS X.K W dNext) := PS.imp ps_doc fun D σ H ⟨T, G, ρ, E, c, ok, h, l⟩ => l.nx _ _ _ _ _ h (.refl c) ok
def dBrk : DS := fun E ρ T => E.bk ρ T
def dCnt : DS := fun E ρ T => E.ct ρ T
theorem pds_break : PS X (.Break pos) (canS X.K W dBrk) := PS.imp ps_break fun D σ H ⟨T, G, ρ, E, c, ok, h, l⟩ => l.bk _ _ _ _ _ h (.refl c) ok
theorem pds_continue : PS X (.Continue pos) (canS X.K W dCnt) := PS.imp ps_continue fun D σ H ⟨T, G, ρ, E, c, ok, h, l⟩ => l.ct _ _ _ _ _ h (.refl c) ok
def dNever : DS := fun _ _ _ => False
theorem pds_never : PS X st (canS X.K W dNever) := PS.imp ps_never fun D σ H ⟨T, G, ρ, E, c, ok, h, l⟩ => h
theorem can_mk {K : PySem.W.Frag} {de : DE} {σ : L2.St} {H : Hp} {T : Sto} {G : Hp} {ρ : Env} {P : D → Sto → Prop} {Xp : Xc → Sto → Prop} {Q : VK} (c : Ctx K T G H) (ok : EnvOk K G σ ρ) (h : de ρ T P Xp) (k : LkV K T G H P Q) (kx : LkX K W T G H σ Xp) : can K W de σ H Q := ⟨T, G, ρ, P, Xp, c, ok, h, k, kx⟩
def dAsg (de : DE) (i : Nat) : DS := fun E ρ T => de ρ T (fun d T1 => E.nx (ρ.set i (some d)) T1) (fun x T1 => E.ex x ρ T1)
theorem pds_set {i : Nat} (hN : X.N.Nodup) (hi : X.N[i]? = some x) (hx : Loc X.env.scope x) (he : PE X e (can X.K W de)) (hs : swapsWith e (some (.Name x pos')) pos.line X.env = pure false := by rfl) (hf : X.fn x = true ∨ X.env.scope.names.lookup x = some .local := by first | exact .inl rfl | exact .inr rfl | assumption) :
    PS X (.Assign [.Name x pos'] e pos) (canS X.K W (dAsg de i)) := PS.imp (ps_set hN hi hx he hs hf) fun D σ H ⟨T, G, ρ, E, c, ok, h, l⟩ =>
  can_mk c ok h (fun d T1 v G1 H1 h1 g1 r1 => l.nx _ _ _ _ _ h1 g1 ((ok.up g1.sub).set r1)) (l.exE ok)
def dRet (de : DE) : DS := fun E ρ T => de ρ T E.rt (fun x T1 => E.ex x ρ T1)
theorem pds_ret (he : PE X e (can X.K W de)) : PS X (.Return (some e) pos) (canS X.K W (dRet de)) := PS.imp (ps_ret he) fun D σ H ⟨T, G, ρ, E, c, ok, h, l⟩ => can_mk c ok h l.rt (l.exE ok)
def dRetN : DS := fun E _ T => E.rt .non T
theorem pds_retN : PS X (.Return none pos) (canS X.K W dRetN) := PS.imp ps_retN fun D σ H ⟨T, G, ρ, E, c, ok, h, l⟩ => l.rt _ _ _ _ _ h (.refl c) .non
def dDrop (de : DE) : DS := fun E ρ T => de ρ T (fun _ T1 => E.nx ρ T1) (fun x T1 => E.ex x ρ T1)
theorem pds_expr (he : PE X e (can X.K W de)) (hs : swapsWith e none pos.line X.env = pure false := by rfl) : PS X (.Expr e pos) (canS X.K W (dDrop de)) := PS.imp (ps_expr he hs) fun D σ H ⟨T, G, ρ, E, c, ok, h, l⟩ =>
  can_mk c ok h (fun d T1 v G1 H1 h1 g1 r1 => l.nx _ _ _ _ _ h1 g1 (ok.up g1.sub)) (l.exE ok)
def dIf (t : DT) (s u : DS) : DS := fun E ρ T => t ρ T (fun b T1 => if b = true then s E ρ T1 else u E ρ T1) (fun x T1 => E.ex x ρ T1)
theorem pds_if {c : Expr} {t : DT} {sa sb : List Stmt} (hc : PT X c (canT X.K W t)) (ha : PSs X sa (canS X.K W s1)) (hb : PSs X sb (canS X.K W s2)) : PS X (.If c sa sb pos) (canS X.K W (dIf t s1 s2)) := PS.imp (ps_if hc ha hb) fun D σ H ⟨T, G, ρ, E, c, ok, h, l⟩ => by
  refine ⟨T, G, ρ, _, _, c, ok, h, fun b T1 G1 H1 h1 g1 => ?_, l.exE ok⟩
  cases b with
  | true => exact iteT ⟨T1, G1, ρ, E, g1.ctx, ok.up g1.sub, by simpa using h1, l.up g1⟩
  | false => exact iteF ⟨T1, G1, ρ, E, g1.ctx, ok.up g1.sub, by simpa using h1, l.up g1⟩
/-- x += e of numbers -/
def dAug (f : Int → Int → Int) (i : Nat) (de : DE) : DS := fun E ρ T => someOf (ρ.getD i none) fun z => de ρ T (fun d T1 => int2 z d fun m n => E.nx (ρ.set i (some (.int (f m n)))) T1) (fun x T1 => E.ex x ρ T1)
theorem pds_aug {op : Operator} {f : Int → Int → Int} {i : Nat} (ho : PIp X op (ipI f)) (hN : X.N.Nodup) (hi : X.N[i]? = some x) (hx : Loc X.env.scope x) (he : PE X e (can X.K W de)) (hf : X.fn x = true ∨ X.env.scope.names.lookup x = some .local := by first | exact .inl rfl | exact .inr rfl | assumption) :
    PS X (.AugAssign (.Name x pos') op e pos) (canS X.K W (dAug f i de)) := PS.imp (ps_aug hN hi hx he ho hf) fun D σ H ⟨T, G, ρ, E, c, ok, h, l⟩ => by
  obtain ⟨z, ez, h⟩ := someOf.of h
  obtain ⟨v, e1, r⟩ := ok.2 i z (getD_some ez)
  refine ⟨v, e1, can_mk c ok h (fun d T1 u G1 H1 h1 g1 r1 => ?_) (l.exE ok)⟩
  obtain ⟨m, n, rfl, rfl, h1⟩ := int2.of h1
  cases r; cases r1
  exact ⟨m, n, rfl, rfl, l.nx _ _ _ _ _ h1 g1 ((ok.up g1.sub).set (.int _))⟩
/-- x, y = a, b -/
def two (xs : List D) (k : D → D → Prop) : Prop := match xs with
  | [x, y] => k x y
  | _ => False
theorem two.of {xs : List D} {k : D → D → Prop} (h : two xs k) : ∃ x y, xs = [x, y] ∧ k x y := by
  match xs, h with
  | [x, y], h => exact ⟨x, y, rfl, h⟩
theorem RpA.two {K : PySem.W.Frag} {G : Hp} {vs : List V} {d e : D} (h : RpA K G vs [d, e]) : ∃ v u, vs = [v, u] ∧ Rp K G v d ∧ Rp K G u e := by
  cases h with
  | cons h1 h2 => cases h2 with
    | cons h3 h4 => cases h4; exact ⟨_, _, rfl, h1, h3⟩
def dPar (i j : Nat) (da : DA) : DS := fun E ρ T => da ρ T (fun ds T1 => two ds fun d e => E.nx ((ρ.set i (some d)).set j (some e)) T1) (fun x T1 => E.ex x ρ T1)
theorem pds_par {i j : Nat} {x y : Str} {dd : DA} {px py pt : Pos} {kt k2 pt2} (hc : X.calm = true) (hN : X.N.Nodup) (hi : X.N[i]? = some x) (hj : X.N[j]? = some y) (hij : i ≠ j)
    (hx : X.env.scope.names.lookup x = some .local) (hy : X.env.scope.names.lookup y = some .local) (ha : PA X [a, b] (canA X.K W dd))
    (hw : swappedStores [.Tuple [.Name x px, .Name y py] kt pt] (.Tuple [a, b] k2 pt2) X.env = pure (some [x, y]) := by rfl)
    (hs : swapsWithSole [.Tuple [.Name x px, .Name y py] kt pt] (.Tuple [a, b] k2 pt2) pos.line X.env = pure false := by rfl) :
    PS X (.Assign [.Tuple [.Name x px, .Name y py] kt pt] (.Tuple [a, b] k2 pt2) pos) (canS X.K W (dPar i j dd)) := PS.imp (ps_par hc hN hi hj hij hx hy ha hw hs) fun D σ H ⟨T, G, ρ, E, c, ok, h, l⟩ => by
  refine ⟨T, G, ρ, _, _, c, ok, h, fun ds T1 vs G1 H1 h1 g1 r1 => ?_, l.exE ok⟩
  obtain ⟨d, e, rfl, h1⟩ := two.of h1
  obtain ⟨v, u, rfl, ra, rb⟩ := r1.two
  exact ⟨v, u, rfl, l.nx _ _ _ _ _ h1 g1 (((ok.up g1.sub).set ra).set rb)⟩
/-! targets -/
def dgName (i : Nat) : DG := fun d ρ T N _ => N (ρ.set i (some d)) T
theorem pdg_name {i : Nat} (hN : X.N.Nodup) (hi : X.N[i]? = some x) (hx : Loc X.env.scope x) (hf : X.fn x = true ∨ X.env.scope.names.lookup x = some .local := by first | exact .inl rfl | exact .inr rfl | assumption) : PG X (.Name x pos) (canG X.K W (dgName i)) :=
  PG.imp (pg_name hN hi hx hf) fun v σ H Q ⟨T, G, ρ, d, N, Xp, c, ok, r, h, l, _⟩ => l _ _ _ _ _ h (.refl c) (ok.set r)
def dgNil : DGs := fun ds ρ T N _ => ds = [] ∧ N ρ T
def dgsK (ds : List D) (k : D → List D → Prop) : Prop := match ds with
  | d :: r => k d r
  | [] => False
theorem dgsK.of {ds : List D} {k : D → List D → Prop} (h : dgsK ds k) : ∃ d r, ds = d :: r ∧ k d r := by
  match ds, h with
  | d :: r, h => exact ⟨d, r, rfl, h⟩
def nilK (ds : List D) (k : Prop) : Prop := match ds with
  | [] => k
  | _ :: _ => False
theorem nilK.of {ds : List D} {k : Prop} (h : nilK ds k) : ds = [] ∧ k := by
  match ds, h with
  | [], h => exact ⟨rfl, h⟩
def dgsNil : DGs := fun ds ρ T N _ => nilK ds (N ρ T)
def dgsName (i : Nat) (g : DGs) : DGs := fun ds ρ T N X => dgsK ds fun d r => g r (ρ.set i (some d)) T N X
theorem pdgs_nil : PGs X [] (canGs X.K W dgsNil) := PGs.imp pgs_nil fun vs σ H Q ⟨T, G, ρ, ds, N, Xp, c, ok, r, h, l⟩ => by
  obtain ⟨rfl, h⟩ := nilK.of h
  cases r
  exact ⟨rfl, l _ _ _ _ _ h (.refl c) ok⟩
theorem pdgs_name {i : Nat} {es : List Expr} {g : DGs} (hN : X.N.Nodup) (hi : X.N[i]? = some x) (hx : Loc X.env.scope x) (h2 : PGs X es (canGs X.K W g)) (hf : X.fn x = true ∨ X.env.scope.names.lookup x = some .local := by first | exact .inl rfl | exact .inr rfl | assumption)
    (hs : (assignEach (.Name x pos :: es) X.env).map (·.2) = assign (.Name x pos) X.env :: (assignEach es X.env).map (·.2) := by rfl) : PGs X (.Name x pos :: es) (canGs X.K W (dgsName i g)) :=
  PGs.imp (pgs_cons (pg_name hN hi hx hf) h2 hs) fun vs σ H Q ⟨T, G, ρ, ds, N, Xp, c, ok, r, h, l⟩ => by
    obtain ⟨d, q, rfl, h⟩ := dgsK.of h
    cases r with
    | cons r1 r2 => exact ⟨_, _, rfl, T, G, ρ.set i (some d), q, N, Xp, c, ok.set r1, r2, h, l⟩
def dgTup (n : Nat) (g : DGs) : DG := fun d ρ T N X => seqK d T fun ds => ds.length = n ∧ g ds ρ T N X
theorem pdg_tup {es : List Expr} {k : Nat} {g : DGs} {n : Nat} (hc : X.calm = true) (h : PGs X es (canGs X.K W g))
    (hn : (assignEach es X.env).length = n := by rfl) (hst : (assignEach es X.env).findIdx? (·.1) = none := by rfl) : PG X (.Tuple es k pos) (canG X.K W (dgTup n g)) := by
  have A := pg_tup (k := k) (pos := pos) hc h hn hst
  have B := pg_unl (k := k) (pos := pos) hc h hn hst
  refine ⟨fun pins s σ H v u Q I r q => ?_⟩
  obtain ⟨T, G, ρ, d, N, Xp, c, ok, rd, h, l, _⟩ := q
  obtain ⟨ds, es, hl, h⟩ := seqK.of h
  obtain ⟨a, vs, rfl, hs, hr⟩ := seq_rd c rd es
  have tail : canGs X.K W g vs σ H Q := ⟨T, G, ρ, ds, N, Xp, c, ok, hr, h, l⟩
  rcases hs with hs | hs
  · exact B.run pins s σ H _ u Q I r ⟨a, vs, rfl, hs, hr.length.trans hl, tail⟩
  · exact A.run pins s σ H _ u Q I r ⟨a, vs, rfl, hs, hr.length.trans hl, tail⟩
/-- o[i] = .. of a list that may be changed -/
def setD (o i d : D) (T : Sto) (k : Sto → Prop) : Prop := match o, i with
  | .ptr a, .int z => optK (mlst (T a)) fun ds => optK (ixN ds.length z) fun j => k (updT T a (.lst (ds.set j d)))
  | _, _ => False
def dgSub (d0 di : DE) : DG := fun d ρ T N X => d0 ρ T (fun o T1 => di ρ T1 (fun i T2 => setD o i d T2 fun T3 => N ρ T3) X) X
theorem pdg_sub {o i : Expr} {d1 d2 : DE} (ho : PE X o (can X.K W d1)) (hi : PE X i (can X.K W d2))
    (ha : ∀ v, assign (.Subscript o i pos) X.env v = (do
      let ov ← holding [v] (eval o X.env)
      let iv ← holding [v, ov] (eval i X.env)
      standAt pos
      holding [v, ov, iv] (setItem ov iv v)
      release [v, ov, iv] []) := by intro _; rfl) : PG X (.Subscript o i pos) (canG X.K W (dgSub d1 d2)) :=
  PG.imp (pg_sub ho hi set_list ha) fun v σ H Q ⟨T, G, ρ, d, N, Xp, c, ok, r, h, l, lx⟩ => by
    refine can_mk c ok h (fun o T1 v1 G1 H1 h1 g1 r1 => ?_) lx
    refine can_mk g1.ctx (ok.up g1.sub) h1 (fun i T2 v2 G2 H2 h2 g2 r2 => ?_) (lx.up g1)
    have r1' := r1.up g2.sub
    have rd := r.up (g1.sub.trans g2.sub)
    cases r1' with
    | ptr b => cases r2 with
      | int z =>
        obtain ⟨ds, e1, h3⟩ := optK.of h2
        obtain ⟨j, e2, h3⟩ := optK.of h3
        obtain ⟨gb, vs, hv, hr⟩ := g2.ctx.own b _ (mlst.of e1)
        refine ⟨b, vs, z, j, rfl, rfl, hv, by rw [hr.length]; exact e2, ?_⟩
        have g3 := g2.ctx.put (o := .lst (vs.set j v)) (m' := .lst (ds.set j d)) (mlst.of e1) ⟨_, upd_same, hr.set rd j⟩
        exact l _ _ _ _ _ h3 ((g1.trans g2).trans g3) (ok.up (g1.sub.trans (g2.sub.trans g3.sub)))
      | _ => exact h2.elim
    | _ => exact False.elim h2
def dAsgG (de : DE) (g : DG) : DS := fun E ρ T => de ρ T (fun d T1 => g d ρ T1 E.nx (fun x T2 => E.ex x ρ T2)) (fun x T1 => E.ex x ρ T1)
theorem pds_asg {tg : Expr} {g : DG} (he : PE X e (can X.K W de)) (hg : PG X tg (canG X.K W g)) (hs : swapsWithSole [tg] e pos.line X.env = pure false := by rfl) (hw : swappedStores [tg] e X.env = pure none := by rfl)
    (h1 : (assignEach [tg] X.env).map (·.2) = [assign tg X.env] := by rfl) : PS X (.Assign [tg] e pos) (canS X.K W (dAsgG de g)) := PS.imp (ps_asg he hg hs hw h1) fun D σ H ⟨T, G, ρ, E, c, ok, h, l⟩ =>
  can_mk c ok h (fun d T1 v G1 H1 h1 g1 r1 => ⟨T1, G1, ρ, d, E.nx, _, g1.ctx, ok.up g1.sub, r1, h1, (l.up g1).nx, (l.up g1).exE (ok.up g1.sub)⟩) (l.exE ok)
/-! methods of lists that may be changed -/
def appD (o d : D) (T : Sto) (P : D → Sto → Prop) : Prop := match o with
  | .ptr a => optK (mlst (T a)) fun ds => ds.length < 1000000 ∧ P .non (updT T a (.lst (ds ++ [d])))
  | _ => False
theorem tyV_ptr {K : PySem.W.Frag} {T : Sto} {G H : Hp} {b : Addr} {ds : List D} (c : Ctx K T G H) (e : mlst (T b) = some ds) : tyV K "list" (.ref b) H := by
  obtain ⟨gb, vs, hv, hr⟩ := c.own b _ (mlst.of e)
  exact .inl ⟨rfl, _, .of hv⟩
def isPtrL (T : Sto) : D → Bool
  | .ptr a => (mlst (T a)).isSome
  | _ => false
theorem isPtrL.ty {K : PySem.W.Frag} {T : Sto} {G H : Hp} {v : V} {o : D} (c : Ctx K T G H) (r : Rp K G v o) (h : isPtrL T o = true) : tyV K "list" v H := by
  cases r with
  | ptr a =>
    have h' : (mlst (T a)).isSome = true := h
    cases e : mlst (T a) with
    | none => rw [e] at h'; cases h'
    | some ds => exact tyV_ptr c e
  | _ => cases h
def dApp (d1 d2 : DE) : DE := fun ρ T P X => d1 ρ T (fun o T1 => isPtrL T1 o = true ∧ d2 ρ T1 (fun d T2 => appD o d T2 P) X) X
theorem pd_app {o : Expr} {d1 d2 : DE} {apos cpos : Pos} (ho : PE X o (can X.K W d1)) (ha : PE X e (can X.K W d2))
    (hbase : attributeBase o "append" X.env (eval o X.env) = eval o X.env := by rfl)
    (hfew : ((backTo cpos (starEach [e] X.env)).all (fun x => !x.1) && (backToKw cpos (keywordEach [] X.env)).all (fun x => x.1.isSome)
      && decide ([e].length + ([] : List Keyword).length + (if ([] : List Keyword).isEmpty then 0 else 1) < 30)) = true := by rfl)
    (hline : (apos.endLine == cpos.line) = true := by rfl) (hs : starEach [e] X.env = (false, eval e X.env) :: starEach [] X.env := by rfl) :
    PE X (.Call (.Attribute o "append" apos) [e] [] cpos) (can X.K W (dApp d1 d2)) :=
  PE.imp (pe_bm PySem.F.plainAttrs_list PySem.F.slot_list_append PySem.F.type_list_append mt_append ho (pa_cons ha pa_nil hs) hbase hfew hline hs) fun σ H Q ⟨T, G, ρ, P, Xp, c, ok, h, k, kx⟩ => by
    refine can_mk c ok h (fun o T1 v1 G1 H1 h1 g1 r1 => ⟨isPtrL.ty g1.ctx r1 h1.1, ?_⟩) kx
    refine can_mk g1.ctx (ok.up g1.sub) h1.2 (fun d T2 v2 G2 H2 h2 g2 r2 => ?_) (kx.up g1)
    have r1' := r1.up g2.sub
    cases r1' with
    | ptr b =>
      obtain ⟨ds, e1, hz, h3⟩ := optK.of h2
      obtain ⟨gb, vs, hv, hr⟩ := g2.ctx.own b _ (mlst.of e1)
      refine ⟨b, vs, v2, rfl, rfl, hv, ?_, ?_⟩
      · rw [hr.length]; exact Nat.lt_of_lt_of_le hz (by decide)
      · have g3 := g2.ctx.put (o := .lst (vs ++ [v2])) (m' := .lst (ds ++ [d])) (mlst.of e1) ⟨_, upd_same, hr.append (.cons r2 .nil)⟩
        exact k _ _ _ _ _ h3 ((g1.trans g2).trans g3) .non
    | _ => exact False.elim h2
/-- l.pop(i) -/
def popD (o i : D) (T : Sto) (P : D → Sto → Prop) : Prop := match o, i with
  | .ptr a, .int z => (-(2 ^ 63) ≤ z ∧ z < 2 ^ 63) ∧ optK (mlst (T a)) fun ds => optK (seqIndex? z ds.length) fun j => someOf ds[j]? fun d => P d (updT T a (.lst (ds.eraseIdx j)))
  | _, _ => False
def dPopAt (d1 d2 : DE) : DE := fun ρ T P X => d1 ρ T (fun o T1 => isPtrL T1 o = true ∧ d2 ρ T1 (fun d T2 => popD o d T2 P) X) X
theorem pd_popAt {o : Expr} {d1 d2 : DE} {apos cpos : Pos} (ho : PE X o (can X.K W d1)) (ha : PE X e (can X.K W d2))
    (hbase : attributeBase o "pop" X.env (eval o X.env) = eval o X.env := by rfl)
    (hfew : ((backTo cpos (starEach [e] X.env)).all (fun x => !x.1) && (backToKw cpos (keywordEach [] X.env)).all (fun x => x.1.isSome)
      && decide ([e].length + ([] : List Keyword).length + (if ([] : List Keyword).isEmpty then 0 else 1) < 30)) = true := by rfl)
    (hline : (apos.endLine == cpos.line) = true := by rfl) (hs : starEach [e] X.env = (false, eval e X.env) :: starEach [] X.env := by rfl) :
    PE X (.Call (.Attribute o "pop" apos) [e] [] cpos) (can X.K W (dPopAt d1 d2)) :=
  PE.imp (pe_bm PySem.F.plainAttrs_list PySem.F.slot_list_pop PySem.F.type_list_pop mt_popAt ho (pa_cons ha pa_nil hs) hbase hfew hline hs) fun σ H Q ⟨T, G, ρ, P, Xp, c, ok, h, k, kx⟩ => by
    refine can_mk c ok h (fun o T1 v1 G1 H1 h1 g1 r1 => ⟨isPtrL.ty g1.ctx r1 h1.1, ?_⟩) kx
    refine can_mk g1.ctx (ok.up g1.sub) h1.2 (fun d T2 v2 G2 H2 h2 g2 r2 => ?_) (kx.up g1)
    have r1' := r1.up g2.sub
    cases r1' with
    | ptr b => cases r2 with
      | int z =>
        obtain ⟨hz, h2⟩ := h2
        obtain ⟨ds, e1, h3⟩ := optK.of h2
        obtain ⟨j, e2, h3⟩ := optK.of h3
        obtain ⟨y, e3, h3⟩ := someOf.of h3
        obtain ⟨gb, vs, hv, hr⟩ := g2.ctx.own b _ (mlst.of e1)
        obtain ⟨w, hw, rw'⟩ := hr.get e3
        refine ⟨b, vs, z, j, w, rfl, rfl, hv, hz.1, hz.2, by rw [hr.length]; exact e2, hw, ?_⟩
        have g3 := g2.ctx.put (o := .lst (vs.eraseIdx j)) (m' := .lst (ds.eraseIdx j)) (mlst.of e1) ⟨_, upd_same, hr.eraseIdx j⟩
        exact k _ _ _ _ _ h3 ((g1.trans g2).trans g3) (rw'.up g3.sub)
      | _ => exact h2.elim
    | _ => exact False.elim h2
end
end SY

namespace SY
open PySem PySem.Spec PyProof.Rows L2

/-! ### loops -/
def forL (dg : DG) (db : DS) (E : DX) : List D → Env → Sto → Prop
  | [], ρ, T => E.nx ρ T
  | d :: ds, ρ, T => dg d ρ T (fun ρ1 T1 => db { E with nx := forL dg db E ds, ct := forL dg db E ds, bk := E.nx } ρ1 T1) (fun x T1 => E.ex x ρ T1)
/-- what stays as it is while it is walked -/
def frozen : D → Option (List D)
  | .tup ds => some ds
  | .lst ds => some ds
  | .scr ns => some (ns.map .int)
  | _ => none
theorem frozen.rd {K : PySem.W.Frag} {G : Hp} {d : D} {v : V} {ds : List D} (r : Rp K G v d) (e : frozen d = some ds) : ∃ a vs, v = .ref a ∧ (SqL K G a vs ∨ SqT K G a vs) ∧ RpA K G vs ds := by
  cases r with
  | tup h1 h2 => cases e; exact ⟨_, _, rfl, .inr h1, h2⟩
  | lst h1 h2 => cases e; exact ⟨_, _, rfl, .inl (.of h1), h2⟩
  | scr h1 => cases e; exact ⟨_, _, rfl, .inl h1, RpA.ints _⟩
  | _ => cases e
section
variable {X : Cx} {tg l : Expr} {tl : TE}
def iSeq (K : PySem.W.Frag) (tl : TE) : TI := fun σ H R => tl σ H fun x H1 => ∃ a, x = .ref a ∧ (((∃ xs, SqL K H1 a xs) ∧ R (Itl K a) H1) ∨ ((∃ xs, SqT K H1 a xs) ∧ R (Itt K a) H1))
theorem pi_seq (hl : PE X l tl) : PI X tg l (iSeq X.K tl) := by
  refine ⟨fun pins s σ H R I h => ?_⟩
  refine thn (hl.run pins s σ H _ I h) fun v s1 ⟨x, H1, I1, r1, q1⟩ => ?_
  obtain ⟨a, e, q1⟩ := q1
  subst e
  cases r1
  rcases q1 with ⟨⟨xs, hq⟩, q⟩ | ⟨⟨xs, hq⟩, q⟩
  · obtain ⟨its, rv, p, hz⟩ := I1.list hq
    refine wpAny_pyIter_list p.isList ?_
    refine ⟨s1.heap.objs.size, [s1.heap.objs.size], _, _, H1, rfl, I1.kept (t' := s1.toks) fun b o e => Heap.get?_push_of_some _ e, turn_list a _, ⟨_, Heap.get?_push_size _ rfl, rfl, rfl⟩, fun b hb => ?_, q⟩
    have e : b = s1.heap.objs.size := by simpa using hb
    subst e
    exact I1.fpOk (Nat.le_refl _) (I1.hok.fresh (Nat.le_refl _))
  · obtain ⟨its, rv, p, hz⟩ := I1.tuple hq
    refine wpAny_pyIter_tuple (show s1.heap.IsTuple a its.toArray from p) ?_
    refine ⟨s1.heap.objs.size, [s1.heap.objs.size], _, _, H1, rfl, I1.kept (t' := s1.toks) fun b o e => Heap.get?_push_of_some _ e, turn_tuple a _, ⟨_, Heap.get?_push_size _ rfl, rfl, rfl⟩, fun b hb => ?_, q⟩
    have e : b = s1.heap.objs.size := by simpa using hb
    subst e
    exact I1.fpOk (Nat.le_refl _) (I1.hok.fresh (Nat.le_refl _))
end
theorem drop_cons {α : Type} : ∀ {l : List α} {i : Nat} {x : α}, l[i]? = some x → l.drop i = x :: l.drop (i + 1)
  | [], i, x, h => by simp at h
  | a :: l, 0, x, h => by simp at h; subst h; rfl
  | a :: l, i + 1, x, h => by
    have ih := drop_cons (l := l) (i := i) (x := x) (by simpa using h)
    simpa using ih
section
variable {X : Cx} {W : WX} {a b e tg iter : Expr} {da db de : DE} {pos pos' : Pos} {body : List Stmt} {sb : DS} {dg : DG} {x : Str} {p : Pos}
/-- what holds between two turns -/
def Pv (K : PySem.W.Frag) (dg : DG) (sb : DS) (E : DX) (ds : List D) (T1 : Sto) (G1 H1 : Hp) (i : Nat) (σ : L2.St) (H : Hp) : Prop := ∃ T' G' ρ', Gro K T1 G1 H1 T' G' H ∧ EnvOk K G' σ ρ' ∧ forL dg sb E (ds.drop i) ρ' T'
theorem Pv.turn {K : PySem.W.Frag} {E : DX} {D : Ends} {ds : List SY.D} {T1 : Sto} {G1 H1 : Hp} {i : Nat} {σ : L2.St} {H : Hp} {v : V} {d : SY.D} (l : Lk K W T1 G1 H1 E D) (ed : ds[i]? = some d) (h : Pv K dg sb E ds T1 G1 H1 i σ H) (r : ∀ G', Same G1 G' → Rp K G' v d) :
    canG K W dg v σ H fun σ2 H2 => canS K W sb { D with nx := Pv K dg sb E ds T1 G1 H1 (i + 1), ct := Pv K dg sb E ds T1 G1 H1 (i + 1), bk := D.nx } σ2 H2 := by
  obtain ⟨T', G', ρ', g, ok, h⟩ := h
  rw [drop_cons ed] at h
  refine ⟨T', G', ρ', d, _, _, g.ctx, ok, r G' g.sub, h, fun ρ2 T2 σ2 G2 H2 h2 g2 ok2 => ?_, (l.up g).exE ok⟩
  refine ⟨T2, G2, ρ2, _, g2.ctx, ok2, h2, ⟨fun ρ3 T3 σ3 G3 H3 h3 g3 ok3 => ⟨T3, G3, ρ3, (g.trans g2).trans g3, ok3, h3⟩, ((l.up g).up g2).rt, ((l.up g).up g2).nx, fun ρ3 T3 σ3 G3 H3 h3 g3 ok3 => ⟨T3, G3, ρ3, (g.trans g2).trans g3, ok3, h3⟩, ((l.up g).up g2).ex⟩⟩
theorem Pv.done {K : PySem.W.Frag} {E : DX} {D : Ends} {ds : List SY.D} {T1 : Sto} {G1 H1 : Hp} {σ : L2.St} {H : Hp} (l : Lk K W T1 G1 H1 E D) (h : Pv K dg sb E ds T1 G1 H1 ds.length σ H) : D.nx σ H := by
  obtain ⟨T', G', ρ', g, ok, h⟩ := h
  rw [List.drop_length] at h
  exact l.nx _ _ _ _ _ h g ok
def dFor (dg : DG) (de : DE) (sb : DS) : DS := fun E ρ T => de ρ T (fun x T1 => optK (frozen x) fun ds => forL dg sb E ds ρ T1) (fun x T1 => E.ex x ρ T1)
theorem pds_for (po : PassesOwn (model X.prog X.w) X.A X.env X.xe) (hc : X.calm = true) (he : PE X iter (can X.K W de)) (hg : PG X tg (canG X.K W dg)) (hb : PSs X body (canS X.K W sb))
    (hs : ∀ x, foldedSetIterable iter X.env x = pure x := by intro _; rfl) : PS X (.For tg iter body [] pos) (canS X.K W (dFor dg de sb)) :=
  PS.imp (ps_for po hc (pi_seq he) hg hb hs) fun D σ H ⟨T, G, ρ, E, c, ok, h, l⟩ => by
    refine can_mk c ok h (fun d T1 v G1 H1 h1 g1 r1 => ?_) (l.exE ok)
    obtain ⟨ds, ef, h1⟩ := optK.of h1
    obtain ⟨a, vs, rfl, hs, hr⟩ := frozen.rd r1 ef
    have l1 := l.up g1
    have st : Pv X.K dg sb E ds T1 G1 H1 0 σ H1 := ⟨T1, G1, ρ, .refl g1.ctx, ok.up g1.sub, h1⟩
    refine ⟨a, rfl, ?_⟩
    have tn : ∀ (i : Nat) (x : V) σ' H', vs[i]? = some x → Pv X.K dg sb E ds T1 G1 H1 i σ' H' → canG X.K W dg x σ' H' fun σ2 H2 => canS X.K W sb { D with nx := Pv X.K dg sb E ds T1 G1 H1 (i + 1), ct := Pv X.K dg sb E ds T1 G1 H1 (i + 1), bk := D.nx } σ2 H2 := fun i x σ' H' hx hp => by
      obtain ⟨d, ed, rd⟩ := hr.getV hx
      exact Pv.turn l1 ed hp fun G' s => rd.up s
    have dn : ∀ σ' H', Pv X.K dg sb E ds T1 G1 H1 vs.length σ' H' → D.nx σ' H' := fun σ' H' hp => by
      rw [hr.length] at hp
      exact Pv.done l1 hp
    rcases hs with hs | hs
    · exact .inl ⟨⟨vs, g1.ctx.sub.seq hs⟩, for_list (xs := vs) _ st (fun i σ' H' _ ⟨T', G', ρ', g, _, _⟩ => (g.sub.trans g.ctx.sub).seq hs) tn dn⟩
    · exact .inr ⟨⟨vs, Same.seqT g1.ctx.sub hs⟩, for_tup (xs := vs) _ st (fun i σ' H' _ ⟨T', G', ρ', g, _, _⟩ => Same.seqT (g.sub.trans g.ctx.sub) hs) tn dn⟩
/-- for .. in range(..) -/
def rngL (lo : Int) : Nat → List D
  | 0 => []
  | n + 1 => .int lo :: rngL (lo + 1) n
theorem rngL_get : ∀ (n i : Nat) (lo : Int), i < n → (rngL lo n)[i]? = some (.int (lo + i))
  | 0, i, lo, h => absurd h (Nat.not_lt_zero _)
  | n + 1, 0, lo, h => by simp [rngL]
  | n + 1, i + 1, lo, h => by
    have ih := rngL_get n i (lo + 1) (by omega)
    show (rngL (lo + 1) n)[i]? = _
    rw [ih]
    congr 2
    omega
theorem rngL_length : ∀ (n : Nat) (lo : Int), (rngL lo n).length = n
  | 0, _ => rfl
  | n + 1, lo => by show (rngL (lo + 1) n).length + 1 = n + 1; rw [rngL_length n]
structure Rg1 (n : Int) : Prop where
  lo : -1000000 ≤ n
  hi : n ≤ 1000000
structure Rg2 (m n : Int) : Prop where
  l1 : -1000000 ≤ m
  h1 : m ≤ 1000000
  l2 : -1000000 ≤ n
  h2 : n ≤ 1000000
def rng1 (xs : List D) (k : List D → Prop) : Prop := match xs with
  | [.int n] => Rg1 n ∧ k (rngL 0 n.toNat)
  | _ => False
def rng2 (xs : List D) (k : List D → Prop) : Prop := match xs with
  | [.int m, .int n] => Rg2 m n ∧ k (rngL m (n - m).toNat)
  | _ => False
theorem rng1.of {xs : List D} {k : List D → Prop} (h : rng1 xs k) : ∃ n : Int, xs = [.int n] ∧ Rg1 n ∧ k (rngL 0 n.toNat) := by
  unfold rng1 at h
  split at h
  · exact ⟨_, rfl, h⟩
  · exact h.elim
theorem rng2.of {xs : List D} {k : List D → Prop} (h : rng2 xs k) : ∃ m n : Int, xs = [.int m, .int n] ∧ Rg2 m n ∧ k (rngL m (n - m).toNat) := by
  unfold rng2 at h
  split at h
  · exact ⟨_, _, rfl, h⟩
  · exact h.elim
theorem RpA.ints1 {K : PySem.W.Frag} {G : Hp} {vs : List V} {n : Int} (h : RpA K G vs [.int n]) : vs = [.int n] := by
  cases h with
  | cons h1 h2 => cases h1; cases h2; rfl
theorem RpA.ints2 {K : PySem.W.Frag} {G : Hp} {vs : List V} {m n : Int} (h : RpA K G vs [.int m, .int n]) : vs = [.int m, .int n] := by
  cases h with
  | cons h1 h2 => cases h1; cases h2 with
    | cons h3 h4 => cases h3; cases h4; rfl
def dForR1 (dg : DG) (dd : DA) (sb : DS) : DS := fun E ρ T => dd ρ T (fun xs T1 => rng1 xs fun ds => forL dg sb E ds ρ T1) (fun x T1 => E.ex x ρ T1)
def dForR2 (dg : DG) (dd : DA) (sb : DS) : DS := fun E ρ T => dd ρ T (fun xs T1 => rng2 xs fun ds => forL dg sb E ds ρ T1) (fun x T1 => E.ex x ρ T1)
theorem for_rng {K : PySem.W.Frag} {E : DX} {D : Ends} {T1 : Sto} {G1 H1 : Hp} {ρ : Env} {σ : L2.St} {lo : Int} {n : Nat} (c : Ctx K T1 G1 H1) (ok : EnvOk K G1 σ ρ) (l : Lk K W T1 G1 H1 E D) (h : forL dg sb E (rngL lo n) ρ T1) :
    ∃ Wv : Nat → Nat → L2.St → Hp → Prop, (∃ m, Wv 0 m σ H1) ∧ ∀ i m σ H, Wv i m σ H →
      ((Itr lo n).stop i H ∧ D.nx σ H) ∨ ((Itr lo n).go i H ∧ ∃ N : L2.St → Hp → Prop, (∀ σ' H', N σ' H' → ∃ m', m' < m ∧ Wv (i + 1) m' σ' H') ∧ ∀ x H', (Itr lo n).yld i H x H' → canG K W dg x σ H' fun σ2 H2 => canS K W sb { D with nx := N, ct := N, bk := D.nx } σ2 H2) :=
  for_range (lo := lo) (n := n) (Pv K dg sb E (rngL lo n) T1 G1 H1) ⟨T1, G1, ρ, .refl c, ok, h⟩ (fun i σ' H' hi hp => Pv.turn l (rngL_get n i lo hi) hp fun G' s => .int _) fun σ' H' hp => by
    have e := rngL_length n lo
    have hp' : Pv K dg sb E (rngL lo n) T1 G1 H1 (rngL lo n).length σ' H' := by rw [e]; exact hp
    exact Pv.done l hp'
theorem pds_forR1 {dd : DA} (po : PassesOwn (model X.prog X.w) X.A X.env X.xe) (hc : X.calm = true) (hgl : Gl X "range") (hm : X.mg "range" = none) (ha : PA X [a] (canA X.K W dd)) (hg : PG X tg (canG X.K W dg)) (hb : PSs X body (canS X.K W sb))
    (hs : starEach [a] X.env = [(false, eval a X.env)] := by rfl) : PS X (.For tg (.Call (.Name "range" p) [a] [] pos') body [] pos) (canS X.K W (dForR1 dg dd sb)) :=
  PS.imp (ps_for po hc (pi_range1 hgl hm ha hs) hg hb (by intro _; rfl)) fun D σ H ⟨T, G, ρ, E, c, ok, h, l⟩ => by
    refine ⟨T, G, ρ, _, _, c, ok, h, fun xs T1 vs G1 H1 h1 g1 r1 => ?_, l.exE ok⟩
    obtain ⟨n, rfl, hn, h1⟩ := rng1.of h1
    rw [r1.ints1]
    have l0 := hn.lo
    have l1 := hn.hi
    exact ⟨n, rfl, by omega, by omega, for_rng g1.ctx (ok.up g1.sub) (l.up g1) h1⟩
theorem pds_forR2 {dd : DA} (po : PassesOwn (model X.prog X.w) X.A X.env X.xe) (hc : X.calm = true) (hgl : Gl X "range") (hm : X.mg "range" = none) (ha : PA X [a, b] (canA X.K W dd)) (hg : PG X tg (canG X.K W dg)) (hb : PSs X body (canS X.K W sb))
    (hs : starEach [a, b] X.env = [(false, eval a X.env), (false, eval b X.env)] := by rfl) (hs2 : starEach [b] X.env = [(false, eval b X.env)] := by rfl) : PS X (.For tg (.Call (.Name "range" p) [a, b] [] pos') body [] pos) (canS X.K W (dForR2 dg dd sb)) :=
  PS.imp (ps_for po hc (pi_range2 hgl hm ha hs hs2) hg hb (by intro _; rfl)) fun D σ H ⟨T, G, ρ, E, c, ok, h, l⟩ => by
    refine ⟨T, G, ρ, _, _, c, ok, h, fun xs T1 vs G1 H1 h1 g1 r1 => ?_, l.exE ok⟩
    obtain ⟨m, n, rfl, hn, h1⟩ := rng2.of h1
    rw [r1.ints2]
    have l0 := hn.l1
    have l1 := hn.h1
    have l2 := hn.l2
    have l3 := hn.h2
    exact ⟨m, n, rfl, ⟨by omega, by omega, by omega, by omega⟩, for_rng g1.ctx (ok.up g1.sub) (l.up g1) h1⟩
/-- for i, x in enumerate(..) -/
def enumL : Int → List D → List D
  | _, [] => []
  | i, d :: ds => .tup [.int i, d] :: enumL (i + 1) ds
theorem enumL_length : ∀ (ds : List D) (i : Int), (enumL i ds).length = ds.length
  | [], _ => rfl
  | d :: ds, i => by show (enumL (i + 1) ds).length + 1 = ds.length + 1; rw [enumL_length ds]
theorem enumL_get : ∀ (ds : List D) (i : Nat) (k : Int) (d : D), ds[i]? = some d → (enumL k ds)[i]? = some (.tup [.int (k + i), d])
  | [], i, k, d, h => by simp at h
  | x :: ds, 0, k, d, h => by simp at h; subst h; simp [enumL]
  | x :: ds, i + 1, k, d, h => by
    have ih := enumL_get ds i (k + 1) d (by simpa using h)
    show (enumL (k + 1) ds)[i]? = _
    rw [ih]
    congr 4
    omega
def frozL : D → Option (List D)
  | .lst ds => some ds
  | .scr ns => some (ns.map .int)
  | _ => none
theorem frozL.rd {K : PySem.W.Frag} {G : Hp} {d : D} {v : V} {ds : List D} (r : Rp K G v d) (e : frozL d = some ds) : ∃ a vs, v = .ref a ∧ SqL K G a vs ∧ RpA K G vs ds := by
  cases r with
  | lst h1 h2 => cases e; exact ⟨_, _, rfl, .of h1, h2⟩
  | scr h1 => cases e; exact ⟨_, _, rfl, h1, RpA.ints _⟩
  | _ => cases e
def dForE (dg : DG) (dd : DA) (sb : DS) : DS := fun E ρ T => dd ρ T (fun xs T1 => one xs fun x => optK (frozL x) fun ds => forL dg sb E (enumL 0 ds) ρ T1) (fun x T1 => E.ex x ρ T1)
theorem pds_forE {dd : DA} {elts : List Expr} {kk : Nat} {tpos : Pos} (po : PassesOwn (model X.prog X.w) X.A X.env X.xe) (hc : X.calm = true) (hgl : Gl X "enumerate") (hm : X.mg "enumerate" = none) (ha : PA X [a] (canA X.K W dd)) (hg : PG X (.Tuple elts kk tpos) (canG X.K W dg)) (hb : PSs X body (canS X.K W sb))
    (hs : starEach [a] X.env = [(false, eval a X.env)] := by rfl) : PS X (.For (.Tuple elts kk tpos) (.Call (.Name "enumerate" p) [a] [] pos') body [] pos) (canS X.K W (dForE dg dd sb)) :=
  PS.imp (ps_for po hc (pi_enum hgl hm ha hs) hg hb (by intro _; rfl)) fun D σ H ⟨T, G, ρ, E, c, ok, h, l⟩ => by
    refine ⟨T, G, ρ, _, _, c, ok, h, fun xs T1 vs G1 H1 h1 g1 r1 => ?_, l.exE ok⟩
    obtain ⟨x, rfl, h8⟩ := one.of h1
    obtain ⟨v, rfl, r9⟩ := r1.one
    obtain ⟨ds, ef, h9⟩ := optK.of h8
    obtain ⟨a, vs, rfl, hq, hr⟩ := frozL.rd r9 ef
    have l1 := l.up g1
    refine ⟨a, vs, rfl, g1.ctx.sub.seq hq, fun i m σ' H' => Pv X.K dg sb E (enumL 0 ds) T1 G1 H1 i σ' H' ∧ i + m = ds.length, ⟨ds.length, ⟨T1, G1, ρ, .refl g1.ctx, ok.up g1.sub, h9⟩, by omega⟩, fun i m σ' H' hW => ?_⟩
    obtain ⟨hp, em⟩ := hW
    have hqv : SqL X.K H' a vs := by
      obtain ⟨T', G', ρ', g, _, _⟩ := hp
      exact (g.sub.trans g.ctx.sub).seq hq
    by_cases hi : i < ds.length
    · have hi2 : i < vs.length := by rw [hr.length]; exact hi
      refine .inr ⟨⟨vs, vs[i], hqv, List.getElem?_eq_getElem hi2⟩, Pv X.K dg sb E (enumL 0 ds) T1 G1 H1 (i + 1), fun σ2 H2 h2 => ⟨m - 1, by omega, h2, by omega⟩, fun v H2 hy => ?_⟩
      obtain ⟨Ta, y, rfl, nT, rfl, fy⟩ := hy
      have ey := fy vs hqv
      obtain ⟨d, ed, rd⟩ := hr.getV ey
      obtain ⟨T', G', ρ', g, ok', hf⟩ := hp
      have gn := g.ctx.new (o := .tup [.int (i : Nat), y]) nT
      have e2 := enumL_get ds i 0 d ed
      rw [drop_cons e2] at hf
      have e0 : (0 : Int) + (i : Int) = (i : Int) := by omega
      rw [e0] at hf
      refine ⟨T', _, ρ', _, _, _, gn.ctx, ok'.up gn.sub, .tup (.of upd_same) (.cons (.int _) (.cons (rd.up (g.sub.trans gn.sub)) .nil)), hf, fun ρ2 T2 σ2 G2 H2 h2 g2 ok2 => ?_, ((l1.up g).up gn).exE (ok'.up gn.sub)⟩
      have gg := (g.trans gn).trans g2
      refine ⟨T2, G2, ρ2, _, g2.ctx, ok2, h2, ⟨fun ρ3 T3 σ3 G3 H3 h3 g3 ok3 => ⟨T3, G3, ρ3, gg.trans g3, ok3, h3⟩, (l1.up gg).rt, (l1.up gg).nx, fun ρ3 T3 σ3 G3 H3 h3 g3 ok3 => ⟨T3, G3, ρ3, gg.trans g3, ok3, h3⟩, (l1.up gg).ex⟩⟩
    · refine .inl ⟨⟨vs, hqv, by rw [hr.length]; omega⟩, ?_⟩
      have ei : i = (enumL 0 ds).length := by rw [enumL_length]; omega
      rw [ei] at hp
      exact Pv.done l1 hp
/-- while -/
def dWhile (t : DT) (sb : DS) : DS := fun E ρ T => ∃ I : Nat → Env → Sto → Prop, (∃ m, I m ρ T) ∧ ∀ m ρ T, I m ρ T →
  t ρ T (fun b T1 => if b = true then sb { E with nx := fun ρ' T' => ∃ m', m' < m ∧ I m' ρ' T', ct := fun ρ' T' => ∃ m', m' < m ∧ I m' ρ' T', bk := E.nx } ρ T1 else E.nx ρ T1) (fun x T1 => E.ex x ρ T1)
theorem pds_while {c : Expr} {t : DT} (po : PassesOwn (model X.prog X.w) X.A X.env X.xe) (hc : PT X c (canT X.K W t)) (hb : PSs X body (canS X.K W sb)) : PS X (.While c body [] pos) (canS X.K W (dWhile t sb)) :=
  PS.imp (ps_while po hc hb) fun D σ H ⟨T, G, ρ, E, c, ok, h, l⟩ => by
    obtain ⟨I, ⟨m, hm⟩, step⟩ := h
    refine ⟨fun m σ' H' => ∃ T' G' ρ', Gro X.K T G H T' G' H' ∧ EnvOk X.K G' σ' ρ' ∧ I m ρ' T', ⟨m, T, G, ρ, .refl c, ok, hm⟩, fun m σ' H' ⟨T', G', ρ', g, ok', hi⟩ => ?_⟩
    refine ⟨T', G', ρ', _, _, g.ctx, ok', step m ρ' T' hi, fun b T1 G1 H1 h1 g1 => ?_, (l.up g).exE ok'⟩
    cases b with
    | false => exact iteF ((l.up g).nx _ _ _ _ _ (by simpa using h1) g1 (ok'.up g1.sub))
    | true =>
      have gg := g.trans g1
      rw [if_pos rfl] at h1
      refine iteT ⟨fun σ2 H2 => ∃ m', m' < m ∧ ∃ T2 G2 ρ2, Gro X.K T G H T2 G2 H2 ∧ EnvOk X.K G2 σ2 ρ2 ∧ I m' ρ2 T2, fun σ2 H2 ⟨m', q1, q2⟩ => ⟨m', q1, q2⟩, ?_⟩
      refine ⟨T1, G1, ρ', _, g1.ctx, ok'.up g1.sub, h1, ⟨fun ρ3 T3 σ3 G3 H3 h3 g3 ok3 => ?_, (l.up gg).rt, (l.up gg).nx, fun ρ3 T3 σ3 G3 H3 h3 g3 ok3 => ?_, (l.up gg).ex⟩⟩
      · obtain ⟨m', q1, q2⟩ := h3
        exact ⟨m', q1, T3, G3, ρ3, gg.trans g3, ok3, q2⟩
      · obtain ⟨m', q1, q2⟩ := h3
        exact ⟨m', q1, T3, G3, ρ3, gg.trans g3, ok3, q2⟩
end
end SY

namespace SY
open PySem PySem.Spec PyProof.Rows L2
section
variable {K : PySem.W.Frag} {T T1 T2 : Sto} {G G1 G2 H H1 H2 : Hp}
/-- a thing that nothing is told of -/
theorem Gro.junk (g : Gro K T1 G1 H1 T2 G2 H2) {p : Addr} {o : HO} (h1 : H1 p = none) (gp : G2 p = none) (tp : T2 p = none) : Gro K T1 G1 H1 T2 G2 (upd H2 p o) := by
  refine ⟨⟨fun b x e => ?_, fun a m e => ?_⟩, g.sub, fun a x t e => ?_, g.fresh⟩
  · rw [upd_ne (ne_of_none e gp)]; exact g.ctx.sub b x e
  · obtain ⟨q, m1⟩ := g.ctx.own a m e
    have ne : a ≠ p := fun z => by subst z; rw [tp] at e; cases e
    exact ⟨q, m1.up (Same.refl _) (by rw [upd_ne ne])⟩
  · rw [upd_ne (ne_of_none e h1)]; exact g.keep a x t e
/-- .. is told at last -/
theorem Gro.tell (g : Gro K T1 G1 H1 T2 G2 H2) {p : Addr} {o : HO} (h1 : H1 p = none) (gp : G2 p = none) (tp : T2 p = none) (h2 : H2 p = some o) : Gro K T1 G1 H1 T2 (upd G2 p o) H2 := by
  have sg : Same G2 (upd G2 p o) := fun b x e => by
    rw [upd_ne (ne_of_none e gp)]
    exact e
  refine ⟨⟨fun b x e => ?_, fun a m e => ?_⟩, g.sub.trans sg, g.keep, fun a h => ?_⟩
  · by_cases hb : b = p
    · subst hb; rw [upd_same] at e; rw [h2]; exact e
    · rw [upd_ne hb] at e; exact g.ctx.sub b x e
  · obtain ⟨q, m1⟩ := g.ctx.own a m e
    have ne : a ≠ p := fun z => by subst z; rw [tp] at e; cases e
    exact ⟨by rw [upd_ne ne]; exact q, m1.up sg rfl⟩
  · by_cases hb : a = p
    · subst hb; exact .inr (.inr h1)
    · rw [upd_ne hb] at h; exact g.fresh a h
end
/-! ### comprehensions -/
abbrev W0 : WX := fun _ _ _ _ => False
def lcL (j : Nat) (de : DE) (ρ0 : Env) (k : List D → Sto → Prop) : List D → List D → Sto → Prop
  | [], acc, T => k acc T
  | d :: ds, acc, T => de (ρ0.set j (some d)) T (fun y T1 => lcL j de ρ0 k ds (acc ++ [y]) T1) (fun _ _ => False)
def lcI (j : Nat) (dt : DT) (de : DE) (ρ0 : Env) (k : List D → Sto → Prop) : List D → List D → Sto → Prop
  | [], acc, T => k acc T
  | d :: ds, acc, T => dt (ρ0.set j (some d)) T (fun b T1 => if b = true then de (ρ0.set j (some d)) T1 (fun y T2 => lcI j dt de ρ0 k ds (acc ++ [y]) T2) (fun _ _ => False) else lcI j dt de ρ0 k ds acc T1) (fun _ _ => False)
theorem set_set {α : Type} : ∀ (l : List α) (i : Nat) (a b : α), (l.set i a).set i b = l.set i b
  | [], _, _, _ => rfl
  | x :: l, 0, _, _ => rfl
  | x :: l, i + 1, a, b => by simp [set_set l i a b]
def JOk (K : PySem.W.Frag) (G1 : Hp) (ds : List D) (J : It) : Prop := ∀ (i : Nat) (H : Hp), Same G1 H → (i < ds.length → J.go i H ∧ ∀ x H', J.yld i H x H' → H' = H ∧ ∃ d, ds[i]? = some d ∧ Rp K G1 x d) ∧ (ds.length ≤ i → J.stop i H)
theorem lc_gen {K : PySem.W.Frag} {W : WX} {de : DE} {j : Nat} {J : It} {T1 : Sto} {G1 H1 : Hp} {σ : L2.St} {ρ : Env} {ds : List D} {k : List D → Sto → Prop} {Q : VK} (c : Ctx K T1 G1 H1) (ok : EnvOk K G1 σ ρ) (jo : JOk K G1 ds J) (hz : ds.length ≤ 1000000)
    (h : lcL j de (ρ.set j none) k ds [] T1) (l : LkV K T1 G1 H1 (fun d T => ∃ acc, d = .lst acc ∧ k acc T) Q) :
    ∀ Da, H1 Da = none → ∃ Wv : Nat → Nat → Hp → Prop, (∃ m, Wv 0 m (upd H1 Da (.lst []))) ∧ ∀ i m H, Wv i m H →
      (J.stop i H ∧ Q (.ref Da) H) ∨ (J.go i H ∧ ∃ Nx : Hp → Prop, (∀ H', Nx H' → ∃ m', m' < m ∧ Wv (i + 1) m' H') ∧ ∀ x H', J.yld i H x H' → gName j x (wipe σ [j]) H' fun σ2 H2 => wipe σ2 [j] = wipe σ [j] ∧ tYes σ2 H2 fun b H3 =>
        if b = true then can K W0 de σ2 H3 fun y H4 => ∃ acc, H4 Da = some (.lst acc) ∧ acc.length < sizeLine ∧ Nx (upd H4 Da (.lst (acc ++ [y]))) else Nx H3) := by
  intro Da hD
  have gD : G1 Da = none := by
    cases q : G1 Da with
    | none => rfl
    | some o => rw [c.sub _ _ q] at hD; cases hD
  have tD : T1 Da = none := none_of_new c hD
  let Wv : Nat → Nat → Hp → Prop := fun i m H => ∃ T' G' acc accV, Gro K T1 G1 H1 T' G' H ∧ H Da = some (.lst accV) ∧ G' Da = none ∧ T' Da = none ∧ RpA K G' accV acc ∧ lcL j de (ρ.set j none) k (ds.drop i) acc T' ∧ acc.length = i ∧ i + m = ds.length
  refine ⟨Wv, ⟨ds.length, T1, G1, [], [], (Gro.refl c).junk hD gD tD, upd_same, gD, tD, .nil, h, rfl, by omega⟩, fun i m H hW => ?_⟩
  obtain ⟨T', G', acc, accV, g, eD, gD', tD', ra, hl, ei, em⟩ := hW
  have sH : Same G1 H := g.sub.trans g.ctx.sub
  obtain ⟨j1, j2⟩ := jo i H sH
  by_cases hi : i < ds.length
  · obtain ⟨go, yl⟩ := j1 hi
    refine .inr ⟨go, fun H' => ∃ m', m' < m ∧ Wv (i + 1) m' H', fun H' z => z, fun x H' hy => ?_⟩
    obtain ⟨rfl, d, ed, rd⟩ := yl x H' hy
    rw [drop_cons ed] at hl
    show wipe ((wipe σ [j]).set j (some x)) [j] = wipe σ [j] ∧ _
    refine ⟨set_set _ _ _ _ |>.trans (set_set _ _ _ _), ?_⟩
    show can K W0 de ((wipe σ [j]).set j (some x)) H' _
    have ok2 : EnvOk K G' ((wipe σ [j]).set j (some x)) ((ρ.set j none).set j (some d)) := ((ok.up g.sub).unset j none).set (rd.up g.sub)
    refine ⟨T', G', _, _, _, g.ctx, ok2, hl, fun y T2 v2 G2 H2 h2 g2 r2 => ?_, fun x T' G' H' z _ => z⟩
    have e2 : H2 Da = some (.lst accV) := g2.keep _ _ tD' eD
    have n2 : G2 Da = none ∧ T2 Da = none := by
      have nf : ¬ (G2 Da ≠ none ∨ T2 Da ≠ none) := fun z => by
        rcases g2.fresh Da z with z | z | z
        · exact z gD'
        · exact z tD'
        · rw [z] at eD; cases eD
      constructor
      · cases q : G2 Da with
        | none => rfl
        | some o => exact absurd (.inl (by rw [q]; exact fun z => by cases z)) nf
      · cases q : T2 Da with
        | none => rfl
        | some o => exact absurd (.inr (by rw [q]; exact fun z => by cases z)) nf
    refine ⟨accV, e2, ?_, m - 1, by omega, T2, G2, acc ++ [y], accV ++ [v2], (g.trans g2).junk hD n2.1 n2.2, upd_same, n2.1, n2.2, (ra.up g2.sub).append (.cons r2 .nil), h2, by simp [ei], by omega⟩
    rw [ra.length, ei]
    exact Nat.lt_of_lt_of_le hi (size_le hz)
  · refine .inl ⟨j2 (by omega), ?_⟩
    have e0 : ds.drop i = [] := List.drop_eq_nil_of_le (by omega)
    rw [e0] at hl
    have g3 := g.tell hD gD' tD' eD
    refine l _ _ _ _ _ ⟨acc, rfl, hl⟩ g3 (.lst upd_same (ra.up ?_))
    intro b x e
    rw [upd_ne (ne_of_none e gD')]
    exact e
theorem jok_list {K : PySem.W.Frag} {G1 : Hp} {ds : List D} {vs : List V} {a : Addr} (hs : SqL K G1 a vs) (hr : RpA K G1 vs ds) : JOk K G1 ds (Itl K a) := fun i H s => by
  refine ⟨fun hi => ⟨?_, fun x H' hy => ?_⟩, fun hi => ⟨vs, s.seq hs, by rw [hr.length]; exact hi⟩⟩
  · have hi2 : i < vs.length := by rw [hr.length]; exact hi
    exact ⟨vs, vs[i], s.seq hs, List.getElem?_eq_getElem hi2⟩
  · obtain ⟨rfl, f⟩ := hy
    obtain ⟨d, ed, rd⟩ := hr.getV (f vs (s.seq hs))
    exact ⟨rfl, d, ed, rd⟩
theorem jok_tup {K : PySem.W.Frag} {G1 : Hp} {ds : List D} {vs : List V} {a : Addr} (hs : SqT K G1 a vs) (hr : RpA K G1 vs ds) : JOk K G1 ds (Itt K a) := fun i H s => by
  refine ⟨fun hi => ⟨?_, fun x H' hy => ?_⟩, fun hi => ⟨vs, Same.seqT s hs, by rw [hr.length]; exact hi⟩⟩
  · have hi2 : i < vs.length := by rw [hr.length]; exact hi
    exact ⟨vs, vs[i], Same.seqT s hs, List.getElem?_eq_getElem hi2⟩
  · obtain ⟨rfl, f⟩ := hy
    obtain ⟨d, ed, rd⟩ := hr.getV (f vs (Same.seqT s hs))
    exact ⟨rfl, d, ed, rd⟩
theorem jok_rng {K : PySem.W.Frag} {G1 : Hp} {lo : Int} {n : Nat} : JOk K G1 (rngL lo n) (Itr lo n) := fun i H s => by
  rw [rngL_length]
  refine ⟨fun hi => ⟨hi, fun x H' hy => ?_⟩, fun hi => hi⟩
  obtain ⟨rfl, rfl⟩ := hy
  exact ⟨rfl, _, rngL_get n i lo hi, .int _⟩
section
variable {X : Cx} {W : WX} {a b e elt iter : Expr} {da db de : DE} {pos pos' tpos : Pos} {x : Str} {p : Pos} {j : Nat} {scope : Scope} {own : List (Str × Nat)}
/-- [elt for x in ..]: over a list or a tuple, over a range -/
def dLc (j : Nat) (da de : DE) : DE := fun ρ T P X => da ρ T (fun x T1 => optK (frozen x) fun ds => ds.length ≤ 1000000 ∧ lcL j de (ρ.set j none) (fun acc T2 => P (.lst acc) T2) ds [] T1) X
def dLcR (j : Nat) (dd : DA) (de : DE) : DE := fun ρ T P X => dd ρ T (fun xs T1 => rng1 xs fun ds => lcL j de (ρ.set j none) (fun acc T2 => P (.lst acc) T2) ds [] T1) X
theorem le_lc : ∀ σ H Q, can X.K W (dLc j da de) σ H Q → tLc (iSeq X.K (can X.K W da)) (gName j) tYes (can X.K W0 de) [j] σ H Q := fun σ H Q ⟨T, G, ρ, P, Xp, c, ok, h, k, kx⟩ => by
  refine can_mk c ok h (fun d T1 v G1 H1 h1 g1 r1 => ?_) kx
  obtain ⟨ds, ef, hz, h1⟩ := optK.of h1
  obtain ⟨a, vs, rfl, hs, hr⟩ := frozen.rd r1 ef
  refine ⟨a, rfl, ?_⟩
  have l : LkV X.K T1 G1 H1 (fun d T => ∃ acc, d = .lst acc ∧ P (.lst acc) T) Q := fun d T2 v2 G2 H2 ⟨acc, e, q⟩ g2 r2 => by
    subst e
    exact k _ _ _ _ _ q (g1.trans g2) r2
  rcases hs with hs | hs
  · exact .inl ⟨⟨vs, g1.ctx.sub.seq hs⟩, lc_gen (W := W) g1.ctx (ok.up g1.sub) (jok_list hs hr) hz h1 l⟩
  · exact .inr ⟨⟨vs, Same.seqT g1.ctx.sub hs⟩, lc_gen (W := W) g1.ctx (ok.up g1.sub) (jok_tup hs hr) hz h1 l⟩
theorem le_lcR {dd : DA} : ∀ σ H Q, can X.K W (dLcR j dd de) σ H Q → tLc (iRng1 (canA X.K W dd)) (gName j) tYes (can X.K W0 de) [j] σ H Q := fun σ H Q ⟨T, G, ρ, P, Xp, c, ok, h, k, kx⟩ => by
  refine ⟨T, G, ρ, _, _, c, ok, h, fun xs T1 vs G1 H1 h1 g1 r1 => ?_, kx⟩
  obtain ⟨n, rfl, hn, h1⟩ := rng1.of h1
  rw [r1.ints1]
  have l : LkV X.K T1 G1 H1 (fun d T => ∃ acc, d = .lst acc ∧ P (.lst acc) T) Q := fun d T2 v2 G2 H2 ⟨acc, e, q⟩ g2 r2 => by
    subst e
    exact k _ _ _ _ _ q (g1.trans g2) r2
  have l0 := hn.lo
  have l1 := hn.hi
  refine ⟨n, rfl, by omega, by omega, lc_gen (W := W) g1.ctx (ok.up g1.sub) jok_rng ?_ h1 l⟩
  rw [rngL_length]
  omega
theorem pd_lc (hc : X.calm = true) (hN : X.N.Nodup) (ha : PE X iter (can X.K W da)) (ok : BlkOk X.N X.env.scope scope [(x, j)])
    (hg : ∀ (s : Shared) (H : Hp) (C : Addr) (cl : List (Str × Addr)) (fp : List Addr), PG (X.blk s H scope (compEnvC scope cl C X.env) fp) (.Name x tpos) (gName j))
    (he : ∀ (s : Shared) (H : Hp) (C : Addr) (cl : List (Str × Addr)) (fp : List Addr), PE (X.blk s H scope (compEnvC scope cl C X.env) fp) elt (can X.K W0 de)) (hs : ∀ x, foldedSetIterable iter X.env x = pure x := by intro _; rfl) :
    PE X (.ListComp elt [⟨.Name x tpos, iter, [], 0⟩] scope pos) (can X.K W (dLc j da de)) := PE.imp (pe_lc (own := [(x, j)]) hc hN (pi_seq ha) ok hg (fun _ _ _ _ _ => pts_nil) he hs) le_lc
theorem pd_lcR {dd : DA} (hc : X.calm = true) (hN : X.N.Nodup) (hgl : Gl X "range") (hm : X.mg "range" = none) (ha : PA X [a] (canA X.K W dd)) (ok : BlkOk X.N X.env.scope scope [(x, j)])
    (hg : ∀ (s : Shared) (H : Hp) (C : Addr) (cl : List (Str × Addr)) (fp : List Addr), PG (X.blk s H scope (compEnvC scope cl C X.env) fp) (.Name x tpos) (gName j))
    (he : ∀ (s : Shared) (H : Hp) (C : Addr) (cl : List (Str × Addr)) (fp : List Addr), PE (X.blk s H scope (compEnvC scope cl C X.env) fp) elt (can X.K W0 de)) (hs : starEach [a] X.env = [(false, eval a X.env)] := by rfl) :
    PE X (.ListComp elt [⟨.Name x tpos, .Call (.Name "range" p) [a] [] pos', [], 0⟩] scope pos) (can X.K W (dLcR j dd de)) := PE.imp (pe_lc (own := [(x, j)]) hc hN (pi_range1 hgl hm ha hs) ok hg (fun _ _ _ _ _ => pts_nil) he (by intro _; rfl)) le_lcR
theorem asg_le {t t' : TE} {i : Nat} (h : ∀ σ H Q, t' σ H Q → t σ H Q) : ∀ D σ H, tAsg t' (gName i) D σ H → tAsg t (gName i) D σ H := fun D σ H q => h σ H _ q
theorem asg_can {i : Nat} : ∀ D σ H, canS X.K W (dAsg de i) D σ H → tAsg (can X.K W de) (gName i) D σ H := fun D σ H ⟨T, G, ρ, E, c, ok, h, l⟩ =>
  can_mk c ok h (fun d T1 v G1 H1 h1 g1 r1 => l.nx _ _ _ _ _ h1 g1 ((ok.up g1.sub).set r1)) (l.exE ok)
theorem pds_setLc {i : Nat} {y : Str} {py : Pos} (hc : X.calm = true) (hN : X.N.Nodup) (hy : X.N[i]? = some y) (hyl : X.env.scope.names.lookup y = some .local)
    (hsw : swapsWith (.ListComp elt [⟨.Name x tpos, iter, [], 0⟩] scope pos') (some (.Name y py)) pos.line X.env = pure true) (ha : PE X iter (can X.K W da)) (ok : BlkOk X.N X.env.scope scope [(x, j)])
    (hg : ∀ (s : Shared) (H : Hp) (C : Addr) (cl : List (Str × Addr)) (fp : List Addr), PG (X.blk s H scope (compEnvC scope cl C X.env) fp) (.Name x tpos) (gName j))
    (he : ∀ (s : Shared) (H : Hp) (C : Addr) (cl : List (Str × Addr)) (fp : List Addr), PE (X.blk s H scope (compEnvC scope cl C X.env) fp) elt (can X.K W0 de)) (hs : ∀ x, foldedSetIterable iter X.env x = pure x := by intro _; rfl) :
    PS X (.Assign [.Name y py] (.ListComp elt [⟨.Name x tpos, iter, [], 0⟩] scope pos') pos) (canS X.K W (dAsg (dLc j da de) i)) :=
  PS.imp (ps_setLc (own := [(x, j)]) hc hN hy hyl hsw (pi_seq ha) ok hg (fun _ _ _ _ _ => pts_nil) he hs) fun D σ H q => asg_le le_lc D σ H (asg_can D σ H q)
theorem pds_setLcR {i : Nat} {y : Str} {py ppos : Pos} {dd : DA} (hc : X.calm = true) (hN : X.N.Nodup) (hy : X.N[i]? = some y) (hyl : X.env.scope.names.lookup y = some .local)
    (hsw : swapsWith (.ListComp elt [⟨.Name x tpos, .Call (.Name "range" p) [a] [] ppos, [], 0⟩] scope pos') (some (.Name y py)) pos.line X.env = pure true) (hgl : Gl X "range") (hm : X.mg "range" = none) (ha : PA X [a] (canA X.K W dd)) (ok : BlkOk X.N X.env.scope scope [(x, j)])
    (hg : ∀ (s : Shared) (H : Hp) (C : Addr) (cl : List (Str × Addr)) (fp : List Addr), PG (X.blk s H scope (compEnvC scope cl C X.env) fp) (.Name x tpos) (gName j))
    (he : ∀ (s : Shared) (H : Hp) (C : Addr) (cl : List (Str × Addr)) (fp : List Addr), PE (X.blk s H scope (compEnvC scope cl C X.env) fp) elt (can X.K W0 de)) (hs : starEach [a] X.env = [(false, eval a X.env)] := by rfl) :
    PS X (.Assign [.Name y py] (.ListComp elt [⟨.Name x tpos, .Call (.Name "range" p) [a] [] ppos, [], 0⟩] scope pos') pos) (canS X.K W (dAsg (dLcR j dd de) i)) :=
  PS.imp (ps_setLc (own := [(x, j)]) hc hN hy hyl hsw (pi_range1 hgl hm ha hs) ok hg (fun _ _ _ _ _ => pts_nil) he (by intro _; rfl)) fun D σ H q => asg_le le_lcR D σ H (asg_can D σ H q)
end
/-! ### a def -/
def startD (N : List Str) (us : List D) : Env := us.map some ++ List.replicate (N.length - us.length) none
theorem RpA.begins {K : PySem.W.Frag} {G : Hp} {vs : List V} {us : List D} (r : RpA K G vs us) (N : List Str) : EnvOk K G (L2.start N vs) (startD N us) := by
  refine ⟨by unfold L2.start startD; simp [r.length], fun i d e => ?_⟩
  unfold startD at e
  unfold L2.start
  by_cases hi : i < us.length
  · rw [List.getElem?_append_left (by simpa using hi), List.getElem?_map] at e
    rw [List.getElem?_append_left (by simpa [r.length] using hi), List.getElem?_map]
    cases q : us[i]? with
    | none => rw [q] at e; cases e
    | some u =>
      rw [q] at e
      cases e
      obtain ⟨v, q1, q2⟩ := r.get q
      rw [q1]
      exact ⟨v, rfl, q2⟩
  · rw [List.getElem?_append_right (by simpa using hi)] at e
    rw [List.getElem?_replicate] at e
    split at e <;> cases e
/-- less is told at the end: of what is handed back, of what may be changed -/
def Wk (K : PySem.W.Frag) (d : D) (T : Sto) (d' : D) (T' : Sto) : Prop := ∀ G H v, Ctx K T G H → Rp K G v d → ∃ G', Gro K T G H T' G' H ∧ Rp K G' v d'
theorem Wk.refl {K : PySem.W.Frag} {d : D} {T : Sto} : Wk K d T d T := fun G H v c r => ⟨G, .refl c, r⟩
theorem Wk.trans {K : PySem.W.Frag} {d d1 d2 : D} {T T1 T2 : Sto} (a : Wk K d T d1 T1) (b : Wk K d1 T1 d2 T2) : Wk K d T d2 T2 := fun G H v c r => by
  obtain ⟨G1, g1, r1⟩ := a G H v c r
  obtain ⟨G2, g2, r2⟩ := b G1 H v g1.ctx r1
  exact ⟨G2, g1.trans g2, r2⟩
theorem Wk.drop {K : PySem.W.Frag} {d : D} {T T' : Sto} (h : ∀ a m, T' a = some m → T a = some m) : Wk K d T d T' := fun G H v c r => ⟨G, c.less fun a m e => ⟨m, h a m e, fun z => z⟩, r⟩
theorem Wk.freeze {K : PySem.W.Frag} {T : Sto} {p : Addr} {ds : List D} (h : T p = some (.lst ds)) : Wk K (.ptr p) T (.lst ds) (offT T p) := fun G H v c r => by
  cases r
  exact c.freeze h
theorem Wk.row {K : PySem.W.Frag} {d : D} {T : Sto} {p : Addr} {ns : List Int} (h : T p = some (.lst (ns.map .int))) (h0 : ∀ n ∈ ns, 0 ≤ n) (hl : ns.length ≤ 63) : Wk K d T d (updT T p .row) := fun G H v c r => by
  refine ⟨G, c.less fun a m e => ?_, r⟩
  by_cases ha : a = p
  · subst ha
    rw [updT_same] at e
    cases e
    refine ⟨_, h, fun z => ?_⟩
    obtain ⟨vs, q, rr⟩ := z
    rw [RpA.ints_inv rr] at q
    exact ⟨ns, q, h0, hl⟩
  · rw [updT_ne ha] at e
    exact ⟨m, e, fun z => z⟩
/-- the law's row is opened -/
theorem Ctx.open {K : PySem.W.Frag} {T : Sto} {G H : Hp} {p : Addr} (c : Ctx K T G H) (h : T p = some .row) : ∃ ns : List Int, (∀ n ∈ ns, 0 ≤ n) ∧ ns.length ≤ 63 ∧ Ctx K (updT T p (.lst (ns.map .int))) G H := by
  obtain ⟨g, ns, e, h0, hl⟩ := c.own p _ h
  refine ⟨ns, h0, hl, c.sub, fun a m q => ?_⟩
  by_cases ha : a = p
  · subst ha
    rw [updT_same] at q
    cases q
    exact ⟨g, _, e, RpA.ints ns⟩
  · rw [updT_ne ha] at q
    exact c.own a m q
def dend (K : PySem.W.Frag) (P : D → Sto → Prop) (X : Xc → Sto → Prop) : DX where
  nx := fun _ T => ∃ T', Wk K .non T .non T' ∧ P .non T'
  rt := fun d T => ∃ d' T', Wk K d T d' T' ∧ P d' T'
  ex := fun x _ T => ∃ T', Wk K .non T .non T' ∧ X x T'
def dend0 (P : D → Sto → Prop) (X : Xc → Sto → Prop) : DX where
  nx := fun _ T => P .non T
  rt := P
  ex := fun x _ T => X x T
theorem fn_runG {K : PySem.W.Frag} {sp : DSp} {ds : DS} {N : List Str} {vs : List V} {H : Hp} {Q : VK} {E : XK} (h : lift K sp vs H Q E)
    (pure : ∀ us T P X G H, sp us T P X → Ctx K T G H → ∃ T', Ctx K T' G H ∧ (∀ a, T a = none ↔ T' a = none) ∧ ds (dend K P X) (startD N us) T') :
    canS K (fun cls d _ H => E cls d H) ds { nx := fun _ H' => Q .non H', rt := Q } (L2.start N vs) H := by
  obtain ⟨T, G, us, P, X, c, r, h, k, kx⟩ := h
  obtain ⟨T', c', hT, h'⟩ := pure us T P X G H h c
  have gro : ∀ {T2 G2 H2}, Gro K T' G H T2 G2 H2 → Gro K T G H T2 G2 H2 := fun g => ⟨g.ctx, g.sub, fun a o e1 e2 => g.keep a o ((hT a).mp e1) e2, fun a z => by
    rcases g.fresh a z with z | z | z
    · exact .inl z
    · exact .inr (.inl fun q => z ((hT a).mp q))
    · exact .inr (.inr z)⟩
  refine ⟨T', G, _, _, c', r.begins N, h', ⟨fun ρ' T1 σ' G1 H1 ⟨T2, w, q⟩ g ok => ?_, fun d T1 v G1 H1 ⟨d2, T2, w, q⟩ g r1 => ?_, fun ρ' T1 σ' G1 H1 z _ _ => z.elim, fun ρ' T1 σ' G1 H1 z _ _ => z.elim, fun x ρ' T1 σ' G1 H1 ⟨T2, w, q⟩ g ok => ?_⟩⟩
  · obtain ⟨G2, g2, r2⟩ := w G1 H1 .non g.ctx .non
    exact k _ _ _ _ _ q ((gro g).trans g2) r2
  · obtain ⟨G2, g2, r2⟩ := w G1 H1 v g.ctx r1
    exact k _ _ _ _ _ q ((gro g).trans g2) r2
  · obtain ⟨G2, g2, r2⟩ := w G1 H1 .non g.ctx .non
    exact kx _ _ _ _ q ((gro g).trans g2)
theorem fn_run {K : PySem.W.Frag} {sp : DSp} {ds : DS} {N : List Str} {vs : List V} {H : Hp} {Q : VK} {E : XK} (h : lift K sp vs H Q E)
    (pure : ∀ us T P X, sp us T P X → ds (dend K P X) (startD N us) T) :
    canS K (fun cls d _ H => E cls d H) ds { nx := fun _ H' => Q .non H', rt := Q } (L2.start N vs) H :=
  fn_runG h fun us T P X G H q c => ⟨T, c, fun _ => Iff.rfl, pure us T P X q⟩
theorem fn_run0 {K : PySem.W.Frag} {sp : DSp} {ds : DS} {N : List Str} {vs : List V} {H : Hp} {Q : VK} {E : XK} (h : lift K sp vs H Q E)
    (pure : ∀ us T P X, sp us T P X → ds (dend0 P X) (startD N us) T) :
    canS K (fun cls d _ H => E cls d H) ds { nx := fun _ H' => Q .non H', rt := Q } (L2.start N vs) H := by
  obtain ⟨T, G, us, P, X, c, r, h, k, kx⟩ := h
  exact ⟨T, G, _, _, c, r.begins N, pure us T P X h, ⟨fun ρ' T1 σ' G1 H1 q g ok => k _ _ _ _ _ q g .non, k, fun ρ' T1 σ' G1 H1 z _ _ => z.elim, fun ρ' T1 σ' G1 H1 z _ _ => z.elim, fun x ρ' T1 σ' G1 H1 q g ok => kx _ _ _ _ q g⟩⟩
def sp1 (f : D → Sto → (D → Sto → Prop) → (Xc → Sto → Prop) → Prop) : DSp := fun us T P X => match us with | [a] => f a T P X | _ => False
def sp2 (f : D → D → Sto → (D → Sto → Prop) → (Xc → Sto → Prop) → Prop) : DSp := fun us T P X => match us with | [a, b] => f a b T P X | _ => False
def sp3 (f : D → D → D → Sto → (D → Sto → Prop) → (Xc → Sto → Prop) → Prop) : DSp := fun us T P X => match us with | [a, b, c] => f a b c T P X | _ => False
def sp4 (f : D → D → D → D → Sto → (D → Sto → Prop) → (Xc → Sto → Prop) → Prop) : DSp := fun us T P X => match us with | [a, b, c, d] => f a b c d T P X | _ => False
theorem sp1.of {f us T P X} (h : sp1 f us T P X) : ∃ a, us = [a] ∧ f a T P X := by
  unfold sp1 at h
  split at h
  · exact ⟨_, rfl, h⟩
  · exact h.elim
theorem sp2.of {f us T P X} (h : sp2 f us T P X) : ∃ a b, us = [a, b] ∧ f a b T P X := by
  unfold sp2 at h
  split at h
  · exact ⟨_, _, rfl, h⟩
  · exact h.elim
theorem sp3.of {f us T P X} (h : sp3 f us T P X) : ∃ a b c, us = [a, b, c] ∧ f a b c T P X := by
  unfold sp3 at h
  split at h
  · exact ⟨_, _, _, rfl, h⟩
  · exact h.elim
theorem sp4.of {f us T P X} (h : sp4 f us T P X) : ∃ a b c d, us = [a, b, c, d] ∧ f a b c d T P X := by
  unfold sp4 at h
  split at h
  · exact ⟨_, _, _, _, rfl, h⟩
  · exact h.elim
theorem lift_len {K : PySem.W.Frag} {sp : DSp} {n : Nat} (h : ∀ us T P X, sp us T P X → us.length = n) : ∀ vs H Q E, lift K sp vs H Q E → vs.length = n := fun vs H Q E ⟨T, G, us, P, X, c, r, q, _⟩ => r.length.trans (h us T P X q)
theorem sp1.len {f} : ∀ us T P X, sp1 f us T P X → us.length = 1 := fun us T P X h => by obtain ⟨a, rfl, _⟩ := sp1.of h; rfl
theorem sp2.len {f} : ∀ us T P X, sp2 f us T P X → us.length = 2 := fun us T P X h => by obtain ⟨a, b, rfl, _⟩ := sp2.of h; rfl
theorem sp3.len {f} : ∀ us T P X, sp3 f us T P X → us.length = 3 := fun us T P X h => by obtain ⟨a, b, c, rfl, _⟩ := sp3.of h; rfl
theorem sp4.len {f} : ∀ us T P X, sp4 f us T P X → us.length = 4 := fun us T P X h => by obtain ⟨a, b, c, d, rfl, _⟩ := sp4.of h; rfl
end SY

namespace SY
open PySem PySem.Spec PyProof.Rows L2
/-- a promise that is not opened by itself -/
noncomputable def lock (s : DSp) : DSp := Classical.choose (⟨s, rfl⟩ : ∃ t, t = s)
theorem lock_eq (s : DSp) : lock s = s := Classical.choose_spec (⟨s, rfl⟩ : ∃ t, t = s)
theorem lock_at {s : DSp} {us : List D} {T : Sto} {P : D → Sto → Prop} {X : Xc → Sto → Prop} (h : s us T P X) : lock s us T P X := by rw [lock_eq]; exact h
theorem lock_of {s : DSp} {us : List D} {T : Sto} {P : D → Sto → Prop} {X : Xc → Sto → Prop} (h : lock s us T P X) : s us T P X := by rw [lock_eq] at h; exact h
theorem lenL {s : DSp} {n : Nat} (h : ∀ us T P X, s us T P X → us.length = n) : ∀ us T P X, lock s us T P X → us.length = n := fun us T P X q => h us T P X (lock_of q)
/-- a def of the text, where it stands -/
structure FT (K : PySem.W.Frag) (mg : Str → Option Value) (x : Str) (st : Stmt) (ps : List Str) : Prop where
  mk ::
  ex : ∃ f fd, Fun K x x st f fd ∧ mg x = some (.ref f) ∧ Binds K fd ps []
/-- a def that keeps its promise -/
structure Cal (P : Program) (w : World) (K : PySem.W.Frag) (mg : Str → Option Value) (base : Heap) (k : Nat) (x : Str) (ps : List Str) (sp : DSp) : Prop where
  ex : ∃ f fd, FnOk P w K mg base (L2.CX P w) k f fd ps (lift K sp) ∧ mg x = some (.ref f) ∧ PySem.W.keepIn K (.ref f) = true ∧ Binds K fd ps []
section
variable {X : Cx} {W : WX} {e : Expr} {pos : Pos}
theorem pd_callC {sp : DSp} {k : Nat} {ps : List Str} {x : Str} {p : Pos} {es : List Expr} {dd : DA}
    (C : Cal X.prog X.w X.K X.mg X.base k x ps sp) (tk : Takes X W) (hr : Room k X.A) (hg : Gl X x)
    (ha : PA X (e :: es) (canA X.K W dd)) (hdb : (x == ("__debug__" : Str)) = false := by decide) (he : starEach (e :: es) X.env = (false, eval e X.env) :: starEach es X.env := by rfl) (hpl : (backTo pos (starEach es X.env)).any (·.1) = false := by rfl) :
    PE X (.Call (.Name x p) (e :: es) [] pos) (can X.K W (dCall sp dd)) := by
  obtain ⟨f, fd, F, hm, hk, hb⟩ := C.ex
  exact pd_call F tk hr hg hm hk hb ha hdb he hpl
end
theorem okL {P : Program} {w : World} {K : PySem.W.Frag} {mg : Str → Option Value} {base : Heap} {x : Str} {st : Stmt} {N ps : List Str} {k : Nat} {sp : DSp} {ds : DS} {f : Addr} {fd : FuncData} (F : Fun K x x st f fd) (S : FnScope N ps (defScope st)) (len : ∀ us T P X, sp us T P X → us.length = ps.length)
    (run : ∀ {vs : List V} {H : Hp} {Q : VK} {E : XK}, lift K sp vs H Q E → canS K (fun cls d _ H => E cls d H) ds { nx := fun _ H' => Q .non H', rt := Q } (L2.start N vs) H)
    (der : ∀ (f : Addr) (cdv : Value) (A : Around) (outer : List PySem.Env) (s : Shared) (H : Hp) (E : XK), Room k (A.deeper (envOfC x (defScope st) s.heap.objs.size f cdv)) →
      Takes (cxOf (L2.CX P w) P w K mg base N x (defScope st) f cdv A outer s H E) (fun cls d _ H => E cls d H) →
      PassesOwn (model P w) (A.deeper (envOfC x (defScope st) s.heap.objs.size f cdv)) (envOfC x (defScope st) s.heap.objs.size f cdv) (cxOf (L2.CX P w) P w K mg base N x (defScope st) f cdv A outer s H E).xe →
      PSs (cxOf (L2.CX P w) P w K mg base N x (defScope st) f cdv A outer s H E) (defBody st) (canS K (fun cls d _ H => E cls d H) ds)) : FnOk P w K mg base (L2.CX P w) (k + 1) f fd ps (lift K sp) :=
  F.okX S (lift_len len) (fun cdv A outer s H vs Q E hr h => ⟨_, der f cdv A outer s H E hr (takes_of rfl rfl rfl rfl) (passes_of rfl), run h⟩)
theorem okF {P : Program} {w : World} {K : PySem.W.Frag} {mg : Str → Option Value} {base : Heap} {x : Str} {st : Stmt} {N ps : List Str} {k : Nat} {sp : DSp} {ds : DS} (F : FT K mg x st ps) (S : FnScope N ps (defScope st)) (len : ∀ us T P X, sp us T P X → us.length = ps.length)
    (run : ∀ {vs : List V} {H : Hp} {Q : VK} {E : XK}, lift K sp vs H Q E → canS K (fun cls d _ H => E cls d H) ds { nx := fun _ H' => Q .non H', rt := Q } (L2.start N vs) H)
    (der : ∀ (f : Addr) (cdv : Value) (A : Around) (outer : List PySem.Env) (s : Shared) (H : Hp) (E : XK), Room k (A.deeper (envOfC x (defScope st) s.heap.objs.size f cdv)) →
      Takes (cxOf (L2.CX P w) P w K mg base N x (defScope st) f cdv A outer s H E) (fun cls d _ H => E cls d H) →
      PassesOwn (model P w) (A.deeper (envOfC x (defScope st) s.heap.objs.size f cdv)) (envOfC x (defScope st) s.heap.objs.size f cdv) (cxOf (L2.CX P w) P w K mg base N x (defScope st) f cdv A outer s H E).xe →
      PSs (cxOf (L2.CX P w) P w K mg base N x (defScope st) f cdv A outer s H E) (defBody st) (canS K (fun cls d _ H => E cls d H) ds)) : Cal P w K mg base (k + 1) x ps sp := by
  obtain ⟨f, fd, F, m, b⟩ := F.ex
  exact ⟨f, fd, okL F S len run der, m, F.kp, b⟩
theorem cx_no {P : Program} {w : World} {H : Hp} {s : Shared} {e : Value} {s' : Shared} (h : L2.CX P w [] H s (fun _ _ _ => False) e s') : False := by
  obtain ⟨_, _, _, _, _, _, _, _, _, _, _, _, z⟩ := h
  exact z
/-- what a law is asked -/
noncomputable def sp_law : DSp := lock <| sp1 fun a _ P _ => ∃ ns : List Int, a = .scr ns ∧ ns.length ≤ 63 ∧ (∀ n ∈ ns, Builtin.Int.intBits n ≤ 1048576) ∧ ∀ T', P (.bl true) T'
theorem law_start {K : PySem.W.Frag} {H : Hp} (a : Addr) (ns : List Int) (hl : ns.length ≤ 63) (hb : ∀ z ∈ ns, Builtin.Int.intBits z ≤ 1048576) (hS : SqL K H a (ns.map V.int)) : lift K sp_law [.ref a] H (fun v _ => v = .bl true) fun _ _ _ => False :=
  ⟨fun _ => none, H, [.scr ns], fun d _ => d = .bl true, fun _ _ => False, ⟨Same.refl _, fun _ _ e => by cases e⟩, .cons (.scr hS) .nil, lock_at ⟨ns, rfl, hl, hb, fun _ => rfl⟩, fun d T' v G' H' e _ r => by subst e; cases r; rfl, fun _ _ _ _ h _ => h⟩
end SY

namespace SY
open PySem PySem.Spec PyProof.Rows L2
section
variable {X : Cx} {W : WX} {a b e : Expr} {da db de : DE} {pos pos' : Pos} {st : Stmt} {s1 s2 : DS} {x : Str} {p : Pos}
/-! ### is True, is False -/
def dIsB (b : Bool) (a : DE) : DE := fun ρ T P X => a ρ T (fun x T1 => bl1 x fun c => P (.bl (decide (c = b))) T1) X
def dNotB (b : Bool) (a : DE) : DE := fun ρ T P X => a ρ T (fun x T1 => bl1 x fun c => P (.bl (!decide (c = b))) T1) X
theorem le_isB {K : PySem.W.Frag} {b : Bool} : ∀ σ H Q, can K W (dIsB b da) σ H Q → tOp rIsB (can K W da) (tC (.bl b)) σ H Q := by
  intro σ H Q ⟨T, G, ρ, P, X, c, ok, h, k, kx⟩
  refine ⟨T, G, ρ, _, X, c, ok, h, fun x T1 v G1 H1 h1 g1 r1 => ?_, kx⟩
  obtain ⟨i, rfl, h1⟩ := bl1.of h1
  cases r1
  exact ⟨i, b, rfl, rfl, k _ _ _ _ _ h1 g1 (.bl _)⟩
theorem le_notB {K : PySem.W.Frag} {b : Bool} : ∀ σ H Q, can K W (dNotB b da) σ H Q → tOp rNotB (can K W da) (tC (.bl b)) σ H Q := by
  intro σ H Q ⟨T, G, ρ, P, X, c, ok, h, k, kx⟩
  refine ⟨T, G, ρ, _, X, c, ok, h, fun x T1 v G1 H1 h1 g1 r1 => ?_, kx⟩
  obtain ⟨i, rfl, h1⟩ := bl1.of h1
  cases r1
  exact ⟨i, b, rfl, rfl, k _ _ _ _ _ h1 g1 (.bl _)⟩
theorem pd_isB {b : Bool} {j} {p' : Pos} (ha : PE X a (can X.K W da)) : PE X (.Compare a [.Is] [.Constant (.bool b) j p'] pos) (can X.K W (dIsB b da)) := PE.imp (pe_cmpR op_isBl ha pe_bl (nomark _)) le_isB
theorem pd_notB {b : Bool} {j} {p' : Pos} (ha : PE X a (can X.K W da)) : PE X (.Compare a [.IsNot] [.Constant (.bool b) j p'] pos) (can X.K W (dNotB b da)) := PE.imp (pe_cmpR op_notBl ha pe_bl (nomark _)) le_notB
theorem pdt_isB {b : Bool} {j} {p' : Pos} (ha : PE X a (can X.K W da)) : PT X (.Compare a [.Is] [.Constant (.bool b) j p'] pos) (canT X.K W (dTst (dIsB b da))) := PT.imp (pt_cmpR op_isBl ha pe_bl (nomark _)) fun σ H Q h => le_isB σ H _ (canT_tst h)
theorem pdt_notB {b : Bool} {j} {p' : Pos} (ha : PE X a (can X.K W da)) : PT X (.Compare a [.IsNot] [.Constant (.bool b) j p'] pos) (canT X.K W (dTst (dNotB b da))) := PT.imp (pt_cmpR op_notBl ha pe_bl (nomark _)) fun σ H Q h => le_notB σ H _ (canT_tst h)
/-! ### a list that may be changed is changed no more -/
def frzK (o : Option D) (T : Sto) (k0 : Prop) (k : D → Sto → Prop) : Prop := match o with
  | some (.ptr a) => optK (mlst (T a)) fun ds => k (.lst ds) (offT T a)
  | _ => k0
def dFrz (i : Nat) (s : DS) : DS := fun E ρ T => frzK (ρ.getD i none) T (s E ρ T) fun d T' => s E (ρ.set i (some d)) T'
theorem EnvOk.reset {K : PySem.W.Frag} {G : Hp} {σ : L2.St} {ρ : Env} (h : EnvOk K G σ ρ) {i : Nat} {v : V} {d : D} (hv : σ[i]? = some (some v)) (r : Rp K G v d) : EnvOk K G σ (ρ.set i (some d)) := by
  refine ⟨by rw [List.length_set]; exact h.1, fun j e q => ?_⟩
  rw [List.getElem?_set] at q
  by_cases hj : i = j
  · subst hj
    rw [if_pos rfl] at q
    by_cases hl : i < ρ.length
    · rw [if_pos hl] at q
      cases q
      exact ⟨v, hv, r⟩
    · rw [if_neg hl] at q; cases q
  · rw [if_neg hj] at q
    exact h.2 j e q
theorem le_frz {K : PySem.W.Frag} {i : Nat} : ∀ D σ H, canS K W (dFrz i s1) D σ H → canS K W s1 D σ H := fun D σ H ⟨T, G, ρ, E, c, ok, h, l⟩ => by
  unfold dFrz frzK at h
  split at h
  · rename_i q
    obtain ⟨ds, e1, h1⟩ := optK.of h
    obtain ⟨v, ev, rv⟩ := ok.2 i _ (getD_some q)
    cases rv
    obtain ⟨G', g, r⟩ := c.freeze (mlst.of e1)
    exact ⟨_, G', _, E, g.ctx, (ok.up g.sub).reset ev r, h1, l.up g⟩
  · exact ⟨T, G, ρ, E, c, ok, h, l⟩
theorem pds_frz {i : Nat} (h : PS X st (canS X.K W s1)) : PS X st (canS X.K W (dFrz i s1)) := PS.imp h le_frz
/-! ### exceptions -/
def isSub (x y : Str) : Bool := x == y || y == "YardError"
abbrev veT : List Value := [.type "ValueError", .type "Exception", .type "BaseException", .type "object"]
/-- what the text's own classes must say -/
def xfB (K : PySem.W.Frag) (xs : List Str) : Bool := xs.all fun x => match clsA K x with
  | .ref C => PySem.W.excIn K C veT "ValueError.__new__" && PySem.W.keepIn K (.ref C) && PySem.W.subIn K (.ref C) (.type "BaseException") == some true && PySem.W.typeIn K (.ref C) == some (.type "type")
    && PySem.W.findIn K (.ref C) "__getattribute__" == some (some (.builtin "BaseException.__getattribute__")) && PySem.W.findIn K (.ref C) "__getattr__" == some none && PySem.W.hasDictIn K C
    && PySem.W.findIn K (.ref C) "__class__" == some (some (.builtin "object.__class__")) && PySem.W.specialIn K (.builtin "object.__class__") "__get__" == some (some (.builtin "getset_descriptor.__get__"))
    && PySem.W.takesIn K (.builtin "object.__class__") == some true && PySem.W.mroIn K C (.type "object") == some true && PySem.W.kitOne K (.ref C) (.type "ValueError") == some true
    && xs.all fun y => PySem.W.exmOne K (.ref C) (clsA K y) == some (isSub x y) && PySem.W.kitOne K (.ref C) (clsA K y) == some (isSub x y)
  | _ => false
structure XF (K : PySem.W.Frag) (mg : Str → Option Value) (xs : List Str) : Prop where
  b : xfB K xs = true
  m : ∀ x ∈ xs, mg x = some (clsA K x)
structure XC (K : PySem.W.Frag) (mg : Str → Option Value) (xs : List Str) (x : Str) (C : Addr) : Prop where
  cls : clsA K x = .ref C
  g : mg x = some (.ref C)
  ex : PySem.W.excIn K C veT "ValueError.__new__" = true
  kp : PySem.W.keepIn K (.ref C) = true
  sb : PySem.W.subIn K (.ref C) (.type "BaseException") = some true
  ty : PySem.W.typeIn K (.ref C) = some (.type "type")
  cc : ExcC K C
  ve : PySem.W.kitOne K (.ref C) (.type "ValueError") = some true
  xm : ∀ y ∈ xs, PySem.W.exmOne K (.ref C) (clsA K y) = some (isSub x y)
  ki : ∀ y ∈ xs, PySem.W.kitOne K (.ref C) (clsA K y) = some (isSub x y)
theorem XF.at {K : PySem.W.Frag} {mg : Str → Option Value} {xs : List Str} {x : Str} (h : XF K mg xs) (hx : x ∈ xs) : ∃ C, XC K mg xs x C := by
  have q := List.all_eq_true.mp h.b x hx
  split at q
  · rename_i C e
    simp only [Bool.and_eq_true, beq_iff_eq] at q
    obtain ⟨⟨⟨⟨⟨⟨⟨⟨⟨⟨⟨⟨a1, a2⟩, a3⟩, a4⟩, a5⟩, a6⟩, a7⟩, a8⟩, a9⟩, a10⟩, a11⟩, a12⟩, a13⟩ := q
    have z := List.all_eq_true.mp a13
    refine ⟨C, e, (h.m x hx).trans (by rw [e]), a1, a2, a3, a4, ⟨a5, a6, a3, a7, a8, a9, a10, a11⟩, a12, fun y hy => ?_, fun y hy => ?_⟩
    · have z1 := z y hy
      simp only [Bool.and_eq_true, beq_iff_eq] at z1
      exact z1.1
    · have z1 := z y hy
      simp only [Bool.and_eq_true, beq_iff_eq] at z1
      exact z1.2
  · cases q
theorem XF.mk' {K : PySem.W.Frag} {mg : Str → Option Value} {h : Heap} {xs : List Str} (X : K.In h) (G : h.Ns mainGlobals mg) (b : xfB K xs = true) : XF K mg xs := by
  refine ⟨b, fun x hx => ?_⟩
  have q := List.all_eq_true.mp b x hx
  split at q
  · rename_i C e
    unfold clsA at e ⊢
    split at e
    · rename_i v e2
      exact PySem.W.mg_of X G e2
    · cases e
  · cases q
def dRaise (x : Str) : DS := fun E ρ T => E.ex x ρ T
theorem pds_raise {xs : List Str} {m : Str} {j : Nat} {p p2 pe : Pos} (xf : XF X.K X.mg xs) (hx : xs.contains x = true) (hc : X.calm = true) (tk : Takes X W) (hg : Gl X x) (hdb : (x == ("__debug__" : Str)) = false := by decide) : PS X (.Raise (some (.Call (.Name x p) [.Constant (.str m) j p2] [] pe)) none pos) (canS X.K W (dRaise x)) := by
  obtain ⟨C, c⟩ := xf.at (List.contains_iff_mem.mp hx)
  refine PS.imp (ps_raise hc tk (pmk_own F.excBase_ValueError c.ex c.g c.kp (raises_own c.sb c.ty) hg hdb)) fun D σ H ⟨T, G, ρ, E, cc, ok, h, l⟩ => ?_
  have z := l.ex x ρ T σ G H h (.refl cc) ok
  rw [c.cls] at z
  exact z
/-- try: body / except y as n: suite -/
def dTryAs (xs : List Str) (i : Nat) (y : Str) (sb : DS) (su : Addr → Str → DS) : DS := fun E ρ T => sb { E with ex := fun x ρ' T' => xs.contains x = true ∧ if isSub x y = true then ∀ a, T' a = none → su a x { E with nx := fun ρ1 T1 => E.nx (ρ1.set i none) T1, bk := fun ρ1 T1 => E.bk (ρ1.set i none) T1, ct := fun ρ1 T1 => E.ct (ρ1.set i none) T1, ex := fun _ _ _ => False } (ρ'.set i (some (.ptr a))) T' else E.ex x ρ' T' } ρ T
def dTryOnly (xs : List Str) (y : Str) (sb : DS) (su : DS) : DS := fun E ρ T => sb { E with ex := fun x ρ' T' => xs.contains x = true ∧ if isSub x y = true then su { E with ex := fun _ _ _ => False } ρ' T' else E.ex x ρ' T' } ρ T
section
variable {xs : List Str} {i : Nat} {y n : Str} {sb : DS} {su : Addr → Str → DS} {so : DS} {body suite : List Stmt} {b₀ : Stmt} {np : Pos}
theorem pds_tryAs (xf : XF X.K X.mg xs) (hy : xs.contains y = true) (hs : X.stack = X.env :: X.outer) (hf : X.env.frame = some X.env.locals) (hN : X.N.Nodup) (hi : X.N[i]? = some n) (hln : X.env.kindOf n = some .local) (hg : Gl X y) (tk : Takes X W)
    (hb : ∀ (W : WX) (pn : List (Addr × Obj)) (xe : Value → Shared → Prop), Takes (X.tr pn xe) W → PassesOwn (model X.prog X.w) X.A X.env xe → PSs (X.tr pn xe) body (canS X.K W sb))
    (hsu : ∀ (a : Addr) (oe : Obj) (x : Str) (pn : List (Addr × Obj)), xs.contains x = true → Zc (clsA X.K x) none oe → (∃ vs, oe.data = .fields vs) → PSs (X.suite a ((a, oe) :: pn)) (b₀ :: suite) (canS X.K W0 (su a x))) (hdb : (y == ("__debug__" : Str)) = false := by decide) :
    PS X (.Try body [.ExceptHandler (some (.Name y np)) (some n) (b₀ :: suite) pos'] [] [] pos) (canS X.K W (dTryAs xs i y sb su)) := by
  obtain ⟨C, c⟩ := xf.at (List.contains_iff_mem.mp hy)
  let ts : Addr → Value → Option Addr → TS := fun a cls d D σ H => ∃ x, cls = clsA X.K x ∧ d = none ∧ xs.contains x = true ∧ canS X.K W0 (su a x) D σ H
  refine PS.imp (ps_try_as (tb := fun W' => canS X.K W' sb) (ts := ts) (Wout := W) hs hf hN hi hln (c := .ref C) ⟨hg, hdb, .inl c.g⟩ tk hb (fun a oe cls d pn hz hv => ?_)) fun D σ H ⟨T, G, ρ, E, cc, ok, h, l⟩ => ?_
  · refine ⟨fun pins s σ H D I q => ?_⟩
    obtain ⟨x, e1, e2, hx, q⟩ := q
    subst e1; subst e2
    exact (hsu a oe x pn hx hz hv).run pins s σ H D I q
  · refine ⟨T, G, ρ, _, cc, ok, h, ⟨l.nx, l.rt, l.bk, l.ct, fun x ρ' T' σ' G' H' q g ok' => ?_⟩⟩
    obtain ⟨hx, q⟩ := q
    obtain ⟨Cx, cx⟩ := xf.at (List.contains_iff_mem.mp hx)
    have em := cx.xm y (List.contains_iff_mem.mp hy)
    rw [c.cls] at em
    refine ⟨isSub x y, by rw [cx.cls]; exact em, fun hb a ha => ?_, fun hb => ?_⟩
    · rw [if_pos hb] at q
      have l' := l.up g
      refine ⟨x, rfl, rfl, hx, T', G', _, _, g.ctx, ok'.set (.ptr a), q a (none_of_new g.ctx ha), ⟨fun ρ1 T1 σ1 G1 H1 q1 g1 ok1 => l'.nx _ _ _ _ _ q1 g1 (ok1.unset i none), l'.rt, fun ρ1 T1 σ1 G1 H1 q1 g1 ok1 => l'.bk _ _ _ _ _ q1 g1 (ok1.unset i none), fun ρ1 T1 σ1 G1 H1 q1 g1 ok1 => l'.ct _ _ _ _ _ q1 g1 (ok1.unset i none), fun x1 ρ1 T1 σ1 G1 H1 q1 _ _ => q1⟩⟩
    · rw [if_neg (by rw [hb]; exact Bool.false_ne_true)] at q
      exact l.ex x ρ' T' σ' G' H' q g ok'
theorem pds_tryOnly (xf : XF X.K X.mg xs) (hy : xs.contains y = true) (hs : X.stack = X.env :: X.outer) (hf : X.env.frame = some X.env.locals) (hg : Gl X y) (tk : Takes X W)
    (hb : ∀ (W : WX) (pn : List (Addr × Obj)) (xe : Value → Shared → Prop), Takes (X.tr pn xe) W → PassesOwn (model X.prog X.w) X.A X.env xe → PSs (X.tr pn xe) body (canS X.K W sb))
    (hsu : ∀ (a : Addr) (oe : Obj) (pn : List (Addr × Obj)), PSs (X.suite a ((a, oe) :: pn)) (b₀ :: suite) (canS X.K W0 so)) (hdb : (y == ("__debug__" : Str)) = false := by decide) :
    PS X (.Try body [.ExceptHandler (some (.Name y np)) none (b₀ :: suite) pos'] [] [] pos) (canS X.K W (dTryOnly xs y sb so)) := by
  obtain ⟨C, c⟩ := xf.at (List.contains_iff_mem.mp hy)
  refine PS.imp (ps_try_only (tb := fun W' => canS X.K W' sb) (ts := fun _ _ _ => canS X.K W0 so) (Wout := W) hs hf (c := .ref C) ⟨hg, hdb, .inl c.g⟩ tk hb (fun a oe cls d pn hz hv => hsu a oe pn)) fun D σ H ⟨T, G, ρ, E, cc, ok, h, l⟩ => ?_
  refine ⟨T, G, ρ, _, cc, ok, h, ⟨l.nx, l.rt, l.bk, l.ct, fun x ρ' T' σ' G' H' q g ok' => ?_⟩⟩
  obtain ⟨hx, q⟩ := q
  obtain ⟨Cx, cx⟩ := xf.at (List.contains_iff_mem.mp hx)
  have em := cx.xm y (List.contains_iff_mem.mp hy)
  rw [c.cls] at em
  refine ⟨isSub x y, by rw [cx.cls]; exact em, fun hb a ha => ?_, fun hb => ?_⟩
  · rw [if_pos hb] at q
    have l' := l.up g
    exact ⟨T', G', _, _, g.ctx, ok', q, ⟨l'.nx, l'.rt, l'.bk, l'.ct, fun x1 ρ1 T1 σ1 G1 H1 q1 _ _ => q1⟩⟩
  · rw [if_neg (by rw [hb]; exact Bool.false_ne_true)] at q
    exact l.ex x ρ' T' σ' G' H' q g ok'
end
/-- isinstance(e, y), e the exception that the suite holds -/
def dIsE (i : Nat) (a : Addr) (r : Bool) : DE := fun ρ T P _ => ρ.getD i none = some (.ptr a) ∧ P (.bl r) T
section
variable {xs : List Str} {i : Nat} {y n xc : Str} {a : Addr} {oe : Obj} {pn : List (Addr × Obj)} {p1 p2 : Pos}
theorem le_isE {K : PySem.W.Frag} {D : Addr} {cv : Value} {c : V} {r : Bool} (hc : ∀ u, RelV c u → u = cv) (hk : PySem.W.kitOne K (.ref D) cv = some r) : ∀ σ H Q, can K W (dIsE i a r) σ H Q → tCB (rIsE K D a) (tCons (can K W (dVar i)) (tCons (tC c) tNil)) σ H Q := by
  intro σ H Q ⟨T, G, ρ, P, X, cc, ok, h, k, kx⟩
  refine ⟨T, G, ρ, fun d T1 => d = .ptr a ∧ P (.bl r) T1, X, cc, ok, ?_, fun d T1 v G1 H1 h1 g1 r1 => ?_, kx⟩
  · show someOf (ρ.getD i none) _
    rw [h.1]
    exact ⟨rfl, h.2⟩
  · obtain ⟨rfl, h1⟩ := h1
    cases r1
    exact ⟨c, cv, r, rfl, hc, hk, k _ _ _ _ _ h1 g1 (.bl r)⟩
theorem pd_isE (xf : XF X.K X.mg xs) (hx : xs.contains xc = true) (hz : Zc (clsA X.K xc) none oe) (hv : ∃ vs, oe.data = .fields vs) (hg : Gl X "isinstance") (hm : X.mg "isinstance" = none) (hy : xs.contains y = true) (hgy : Gl X y)
    (he : PE (X.suite a ((a, oe) :: pn)) (.Name n p1) (can X.K W (dVar i))) (hdy : (y == ("__debug__" : Str)) = false := by decide) :
    PE (X.suite a ((a, oe) :: pn)) (.Call (.Name "isinstance" p) [.Name n p1, .Name y p2] [] pos) (can X.K W (dIsE i a (isSub xc y))) := by
  obtain ⟨D, c⟩ := xf.at (List.contains_iff_mem.mp hx)
  obtain ⟨C, cy⟩ := xf.at (List.contains_iff_mem.mp hy)
  have ki := c.ki y (List.contains_iff_mem.mp hy)
  rw [cy.cls] at ki
  rw [c.cls] at hz
  exact PE.imp (pe_callB (call_isE c.cc hz hv) hg hm (by decide +kernel) (pa_cons he (pa_cons (pe_glob (v := .ref C) (u := .ref C) hgy cy.g rfl hdy) pa_nil)) (by decide) (by decide)) (le_isE (fun u r => r) ki)
theorem pd_isEV (xf : XF X.K X.mg xs) (hx : xs.contains xc = true) (hz : Zc (clsA X.K xc) none oe) (hv : ∃ vs, oe.data = .fields vs) (hg : Gl X "isinstance") (hm : X.mg "isinstance" = none) (hgy : Gl X "ValueError") (hmy : X.mg "ValueError" = none)
    (he : PE (X.suite a ((a, oe) :: pn)) (.Name n p1) (can X.K W (dVar i))) :
    PE (X.suite a ((a, oe) :: pn)) (.Call (.Name "isinstance" p) [.Name n p1, .Name "ValueError" p2] [] pos) (can X.K W (dIsE i a true)) := by
  obtain ⟨D, c⟩ := xf.at (List.contains_iff_mem.mp hx)
  rw [c.cls] at hz
  exact PE.imp (pe_callB (call_isE c.cc hz hv) hg hm (by decide +kernel) (pa_cons he (pa_cons (pe_bltn (v := .ty "ValueError") (u := .type "ValueError") hgy hmy (by decide +kernel) rfl) pa_nil)) (by decide) (by decide)) (le_isE (fun u r => r) c.ve)
end
end
end SY

namespace SY
open PySem PySem.Spec PyProof.Rows L2
theorem lc_genF {K : PySem.W.Frag} {W : WX} {de : DE} {j : Nat} {J : It} {T1 : Sto} {G1 H1 : Hp} {σ : L2.St} {ρ : Env} {ds : List D} {k : List D → Sto → Prop} {Q : VK} (c : Ctx K T1 G1 H1) (ok : EnvOk K G1 σ ρ) (jo : JOk K G1 ds J) (hz : ds.length ≤ 1000000)
    (h : lcL j de (ρ.set j none) k ds [] T1) (fin : ∀ Da acc accV T' G' H, H1 Da = none → Gro K T1 G1 H1 T' G' H → H Da = some (.lst accV) → G' Da = none → T' Da = none → RpA K G' accV acc → k acc T' → Q (.ref Da) H) :
    ∀ Da, H1 Da = none → ∃ Wv : Nat → Nat → Hp → Prop, (∃ m, Wv 0 m (upd H1 Da (.lst []))) ∧ ∀ i m H, Wv i m H →
      (J.stop i H ∧ Q (.ref Da) H) ∨ (J.go i H ∧ ∃ Nx : Hp → Prop, (∀ H', Nx H' → ∃ m', m' < m ∧ Wv (i + 1) m' H') ∧ ∀ x H', J.yld i H x H' → gName j x (wipe σ [j]) H' fun σ2 H2 => wipe σ2 [j] = wipe σ [j] ∧ tYes σ2 H2 fun b H3 =>
        if b = true then can K W0 de σ2 H3 fun y H4 => ∃ acc, H4 Da = some (.lst acc) ∧ acc.length < sizeLine ∧ Nx (upd H4 Da (.lst (acc ++ [y]))) else Nx H3) := by
  intro Da hD
  have gD : G1 Da = none := by
    cases q : G1 Da with
    | none => rfl
    | some o => rw [c.sub _ _ q] at hD; cases hD
  have tD : T1 Da = none := none_of_new c hD
  let Wv : Nat → Nat → Hp → Prop := fun i m H => ∃ T' G' acc accV, Gro K T1 G1 H1 T' G' H ∧ H Da = some (.lst accV) ∧ G' Da = none ∧ T' Da = none ∧ RpA K G' accV acc ∧ lcL j de (ρ.set j none) k (ds.drop i) acc T' ∧ acc.length = i ∧ i + m = ds.length
  refine ⟨Wv, ⟨ds.length, T1, G1, [], [], (Gro.refl c).junk hD gD tD, upd_same, gD, tD, .nil, h, rfl, by omega⟩, fun i m H hW => ?_⟩
  obtain ⟨T', G', acc, accV, g, eD, gD', tD', ra, hl, ei, em⟩ := hW
  have sH : Same G1 H := g.sub.trans g.ctx.sub
  obtain ⟨j1, j2⟩ := jo i H sH
  by_cases hi : i < ds.length
  · obtain ⟨go, yl⟩ := j1 hi
    refine .inr ⟨go, fun H' => ∃ m', m' < m ∧ Wv (i + 1) m' H', fun H' z => z, fun x H' hy => ?_⟩
    obtain ⟨rfl, d, ed, rd⟩ := yl x H' hy
    rw [drop_cons ed] at hl
    show wipe ((wipe σ [j]).set j (some x)) [j] = wipe σ [j] ∧ _
    refine ⟨set_set _ _ _ _ |>.trans (set_set _ _ _ _), ?_⟩
    show can K W0 de ((wipe σ [j]).set j (some x)) H' _
    have ok2 : EnvOk K G' ((wipe σ [j]).set j (some x)) ((ρ.set j none).set j (some d)) := ((ok.up g.sub).unset j none).set (rd.up g.sub)
    refine ⟨T', G', _, _, _, g.ctx, ok2, hl, fun y T2 v2 G2 H2 h2 g2 r2 => ?_, fun x T' G' H' z _ => z⟩
    have e2 : H2 Da = some (.lst accV) := g2.keep _ _ tD' eD
    have n2 : G2 Da = none ∧ T2 Da = none := by
      have nf : ¬ (G2 Da ≠ none ∨ T2 Da ≠ none) := fun z => by
        rcases g2.fresh Da z with z | z | z
        · exact z gD'
        · exact z tD'
        · rw [z] at eD; cases eD
      constructor
      · cases q : G2 Da with
        | none => rfl
        | some o => exact absurd (.inl (by rw [q]; exact fun z => by cases z)) nf
      · cases q : T2 Da with
        | none => rfl
        | some o => exact absurd (.inr (by rw [q]; exact fun z => by cases z)) nf
    refine ⟨accV, e2, ?_, m - 1, by omega, T2, G2, acc ++ [y], accV ++ [v2], (g.trans g2).junk hD n2.1 n2.2, upd_same, n2.1, n2.2, (ra.up g2.sub).append (.cons r2 .nil), h2, by simp [ei], by omega⟩
    rw [ra.length, ei]
    exact Nat.lt_of_lt_of_le hi (size_le hz)
  · refine .inl ⟨j2 (by omega), ?_⟩
    have e0 : ds.drop i = [] := List.drop_eq_nil_of_le (by omega)
    rw [e0] at hl
    exact fin Da acc accV T' G' H hD g eD gD' tD' ra hl

theorem Gro.tellM {K : PySem.W.Frag} {T1 T2 : Sto} {G1 G2 H1 H2 : Hp} (g : Gro K T1 G1 H1 T2 G2 H2) {p : Addr} {vs : List V} {ds : List D} (h1 : H1 p = none) (gp : G2 p = none) (tp : T2 p = none) (h2 : H2 p = some (.lst vs)) (r : RpA K G2 vs ds) : Gro K T1 G1 H1 (updT T2 p (.lst ds)) G2 H2 := by
  refine ⟨⟨g.ctx.sub, fun a m e => ?_⟩, g.sub, g.keep, fun a h => ?_⟩
  · by_cases hb : a = p
    · subst hb
      rw [updT_same] at e
      cases e
      exact ⟨gp, vs, h2, r⟩
    · rw [updT_ne hb] at e
      exact g.ctx.own a m e
  · by_cases hb : a = p
    · subst hb; exact .inr (.inr h1)
    · rw [updT_ne hb] at h; exact g.fresh a h
section
variable {X : Cx} {W : WX} {a b e elt iter : Expr} {da db de : DE} {pos pos' tpos : Pos} {x : Str} {p : Pos} {j : Nat} {scope : Scope} {own : List (Str × Nat)}
/-- [elt for x in range(..)], a list that may be changed -/
def dLcRM (j : Nat) (dd : DA) (de : DE) : DE := fun ρ T P X => dd ρ T (fun xs T1 => rng1 xs fun ds => lcL j de (ρ.set j none) (fun acc T2 => ∀ p, T2 p = none → P (.ptr p) (updT T2 p (.lst acc))) ds [] T1) X
theorem le_lcRM {dd : DA} : ∀ σ H Q, can X.K W (dLcRM j dd de) σ H Q → tLc (iRng1 (canA X.K W dd)) (gName j) tYes (can X.K W0 de) [j] σ H Q := fun σ H Q ⟨T, G, ρ, P, Xp, c, ok, h, k, kx⟩ => by
  refine ⟨T, G, ρ, _, _, c, ok, h, fun xs T1 vs G1 H1 h1 g1 r1 => ?_, kx⟩
  obtain ⟨n, rfl, hn, h1⟩ := rng1.of h1
  rw [r1.ints1]
  have l0 := hn.lo
  have l1 := hn.hi
  refine ⟨n, rfl, by omega, by omega, lc_genF (W := W) g1.ctx (ok.up g1.sub) jok_rng ?_ h1 fun Da acc accV T' G' H hD g eD gD tD ra hk => ?_⟩
  · rw [rngL_length]
    omega
  · exact k _ _ _ _ _ (hk Da tD) (g1.trans (g.tellM hD gD tD eD ra)) (.ptr Da)
theorem pd_lcRM {dd : DA} (hc : X.calm = true) (hN : X.N.Nodup) (hgl : Gl X "range") (hm : X.mg "range" = none) (ha : PA X [a] (canA X.K W dd)) (ok : BlkOk X.N X.env.scope scope [(x, j)])
    (hg : ∀ (s : Shared) (H : Hp) (C : Addr) (cl : List (Str × Addr)) (fp : List Addr), PG (X.blk s H scope (compEnvC scope cl C X.env) fp) (.Name x tpos) (gName j))
    (he : ∀ (s : Shared) (H : Hp) (C : Addr) (cl : List (Str × Addr)) (fp : List Addr), PE (X.blk s H scope (compEnvC scope cl C X.env) fp) elt (can X.K W0 de)) (hs : starEach [a] X.env = [(false, eval a X.env)] := by rfl) :
    PE X (.ListComp elt [⟨.Name x tpos, .Call (.Name "range" p) [a] [] pos', [], 0⟩] scope pos) (can X.K W (dLcRM j dd de)) := PE.imp (pe_lc (own := [(x, j)]) hc hN (pi_range1 hgl hm ha hs) ok hg (fun _ _ _ _ _ => pts_nil) he (by intro _; rfl)) le_lcRM
theorem pds_setLcRM {i : Nat} {y : Str} {py ppos : Pos} {dd : DA} (hc : X.calm = true) (hN : X.N.Nodup) (hy : X.N[i]? = some y) (hyl : X.env.scope.names.lookup y = some .local)
    (hsw : swapsWith (.ListComp elt [⟨.Name x tpos, .Call (.Name "range" p) [a] [] ppos, [], 0⟩] scope pos') (some (.Name y py)) pos.line X.env = pure true) (hgl : Gl X "range") (hm : X.mg "range" = none) (ha : PA X [a] (canA X.K W dd)) (ok : BlkOk X.N X.env.scope scope [(x, j)])
    (hg : ∀ (s : Shared) (H : Hp) (C : Addr) (cl : List (Str × Addr)) (fp : List Addr), PG (X.blk s H scope (compEnvC scope cl C X.env) fp) (.Name x tpos) (gName j))
    (he : ∀ (s : Shared) (H : Hp) (C : Addr) (cl : List (Str × Addr)) (fp : List Addr), PE (X.blk s H scope (compEnvC scope cl C X.env) fp) elt (can X.K W0 de)) (hs : starEach [a] X.env = [(false, eval a X.env)] := by rfl) :
    PS X (.Assign [.Name y py] (.ListComp elt [⟨.Name x tpos, .Call (.Name "range" p) [a] [] ppos, [], 0⟩] scope pos') pos) (canS X.K W (dAsg (dLcRM j dd de) i)) :=
  PS.imp (ps_setLc (own := [(x, j)]) hc hN hy hyl hsw (pi_range1 hgl hm ha hs) ok hg (fun _ _ _ _ _ => pts_nil) he (by intro _; rfl)) fun D σ H q => asg_le le_lcRM D σ H (asg_can D σ H q)
end
end SY

namespace SY
open PySem PySem.Spec PyProof.Rows L2
section
variable {X : Cx} {W : WX} {a b : Expr} {da db : DE} {pos : Pos} {p : Pos}
/-! ### texts -/
structure SBit (i : Int) : Prop where
  h : i.natAbs.log2 < 1920
/-- str(i) -/
def dStrI (a : DE) : DE := fun ρ T P X => a ρ T (fun x T1 => int1 x fun i => SBit i ∧ P (.str (Str.ofString (toString i))) T1) X
theorem pd_strI (hg : Gl X "str") (hm : X.mg "str" = none) (ha : PE X a (can X.K W da)) (he : starEach (a :: []) X.env = (false, eval a X.env) :: starEach [] X.env := by rfl) : PE X (.Call (.Name "str" p) [a] [] pos) (can X.K W (dStrI da)) :=
  PE.imp (pe_callTy call_str_int hg hm (by decide +kernel) (pa_cons ha pa_nil he) (by decide) (by decide) he) (le_cb1 (f := fun x T P => int1 x fun i => SBit i ∧ P (.str (Str.ofString (toString i))) T) fun T G H x v P Q c r h k => by
    obtain ⟨i, rfl, hb, h⟩ := int1.of h
    cases r
    exact ⟨i, rfl, hb.h, k _ _ _ _ _ h (.refl c) (.str _)⟩)
/-- int(x) of a text -/
def str1 (x : D) (k : Str → Prop) : Prop := match x with
  | .str s => k s
  | _ => False
theorem str1.of {x : D} {k : Str → Prop} (h : str1 x k) : ∃ s, x = .str s ∧ k s := by
  cases x with
  | str s => exact ⟨s, rfl, h⟩
  | _ => exact h.elim
def dIntS (a : DE) : DE := fun ρ T P X => a ρ T (fun x T1 => str1 x fun s => ∃ n, PySem.intText? s = some n ∧ s.length ≤ 640 ∧ P (.int n) T1) X
theorem pd_intS (hg : Gl X "int") (hm : X.mg "int" = none) (ha : PE X a (can X.K W da)) (he : starEach (a :: []) X.env = (false, eval a X.env) :: starEach [] X.env := by rfl) : PE X (.Call (.Name "int" p) [a] [] pos) (can X.K W (dIntS da)) :=
  PE.imp (pe_callTy call_int_str hg hm (by decide +kernel) (pa_cons ha pa_nil he) (by decide) (by decide) he) (le_cb1 (f := fun x T P => str1 x fun s => ∃ n, PySem.intText? s = some n ∧ s.length ≤ 640 ∧ P (.int n) T) fun T G H x v P Q c r h k => by
    obtain ⟨s, rfl, n, e, hl, h⟩ := str1.of h
    cases r
    exact ⟨s, n, rfl, e, hl, k _ _ _ _ _ h (.refl c) (.int _)⟩)
/-- o.split(e): a list that may be changed -/
def splitD (x y : D) (T : Sto) (P : D → Sto → Prop) : Prop := str1 x fun a => str1 y fun b => ((b.length == 0) = false ∧ a.length ≤ 100000) ∧ ∀ p, T p = none → P (.ptr p) (updT T p (.lst ((Txt.split a b).map .str)))
def isStrD : D → Bool
  | .str _ => true
  | _ => false
def dSplit (o e : DE) : DE := fun ρ T P X => o ρ T (fun x T1 => isStrD x = true ∧ e ρ T1 (fun y T2 => splitD x y T2 P) X) X
theorem RpA.strs {K : PySem.W.Frag} {G : Hp} : ∀ ys : List Str, RpA K G (ys.map V.str) (ys.map D.str)
  | [] => .nil
  | y :: ys => .cons (.str y) (RpA.strs ys)
theorem isStrD.ty {K : PySem.W.Frag} {G H : Hp} {v : V} {o : D} (r : Rp K G v o) (h : isStrD o = true) : tyV K "str" v H := by
  cases r with
  | str s => exact rfl
  | _ => cases h
theorem pd_split {o e : Expr} {d1 d2 : DE} {apos cpos : Pos} (ho : PE X o (can X.K W d1)) (ha : PE X e (can X.K W d2))
    (hbase : attributeBase o "split" X.env (eval o X.env) = eval o X.env := by rfl)
    (hfew : ((backTo cpos (starEach [e] X.env)).all (fun x => !x.1) && (backToKw cpos (keywordEach [] X.env)).all (fun x => x.1.isSome)
      && decide ([e].length + ([] : List Keyword).length + (if ([] : List Keyword).isEmpty then 0 else 1) < 30)) = true := by rfl)
    (hline : (apos.endLine == cpos.line) = true := by rfl) (hs : starEach [e] X.env = (false, eval e X.env) :: starEach [] X.env := by rfl) :
    PE X (.Call (.Attribute o "split" apos) [e] [] cpos) (can X.K W (dSplit d1 d2)) :=
  PE.imp (pe_bm PySem.F.plainAttrs_str PySem.F.slot_str_split PySem.F.type_str_split mt_split ho (pa_cons ha pa_nil hs) hbase hfew hline hs) fun σ H Q ⟨T, G, ρ, P, Xp, c, ok, h, k, kx⟩ => by
    refine can_mk c ok h (fun o T1 v1 G1 H1 h1 g1 r1 => ⟨isStrD.ty r1 h1.1, ?_⟩) kx
    refine can_mk g1.ctx (ok.up g1.sub) h1.2 (fun d T2 v2 G2 H2 h2 g2 r2 => ?_) (kx.up g1)
    unfold splitD at h2
    obtain ⟨a, ea, h4⟩ := str1.of h2
    obtain ⟨b, eb, ⟨hb, hl⟩, h3⟩ := str1.of h4
    subst ea
    subst eb
    cases r1
    cases r2
    refine ⟨a, b, rfl, rfl, hb, Nat.le_trans (Nat.add_le_add_right hl 2) (by decide), fun p hp => ?_⟩
    exact k _ _ _ _ _ (h3 p (none_of_new g2.ctx hp)) ((g1.trans g2).trans (g2.ctx.newM hp (RpA.strs _))) (.ptr p)
/-- x in y, x a text of one sign -/
def inD (x y : D) (T : Sto) (P : D → Sto → Prop) : Prop := str1 x fun a => str1 y fun b => ∃ c : Nat, a = ⟨#[c]⟩ ∧ P (.bl (decide (c ∈ b.cps.toList))) T
def dInS (a b : DE) : DE := fun ρ T P X => a ρ T (fun x T1 => b ρ T1 (fun y T2 => inD x y T2 P) X) X
theorem pd_inS (ha : PE X a (can X.K W da)) (hb : PE X b (can X.K W db)) (hm : behindInMarks .In b = false) : PE X (.Compare a [.In] [b] pos) (can X.K W (dInS da db)) := PE.imp (pe_cmpR op_in_sign ha hb hm) (op2 fun T G H x y v u P Q c r1 r2 h k => by
  unfold inD at h
  obtain ⟨a, ea, h4⟩ := str1.of h
  obtain ⟨b, eb, n, en, h5⟩ := str1.of h4
  subst ea
  subst eb
  subst en
  cases r1
  cases r2
  exact ⟨n, b, rfl, rfl, k _ _ _ _ _ h5 (.refl c) (.bl _)⟩)
/-- a constant of the module -/
theorem pd_globI {x : Str} {i : Int} {t : Tok} (hg : Gl X x) (hm : X.mg x = some (.int i t)) (hd : (x == ("__debug__" : Str)) = false := by decide) : PE X (.Name x pos) (can X.K W (dC (.int i))) := PE.imp (pe_glob (v := .int i) hg hm ⟨t, rfl⟩ hd) fun σ H Q ⟨T, G, ρ, P, Xp, c, ok, h, k, kx⟩ => k _ _ _ _ _ h (.refl c) (.int _)
theorem pd_globS {x : Str} {i : Str} {t : Tok} (hg : Gl X x) (hm : X.mg x = some (.str i t)) (hd : (x == ("__debug__" : Str)) = false := by decide) : PE X (.Name x pos) (can X.K W (dC (.str i))) := PE.imp (pe_glob (v := .str i) hg hm ⟨t, rfl⟩ hd) fun σ H Q ⟨T, G, ρ, P, Xp, c, ok, h, k, kx⟩ => k _ _ _ _ _ h (.refl c) (.str _)
/-- a slice of a text -/
def dSlS (a : DE) (lo hi : DO) : DE := fun ρ T P X => a ρ T (fun x T1 => lo ρ T1 (fun l T2 => hi ρ T2 (fun h T3 => str1 x fun s => s.length ≤ 100000 ∧ P (.str (cutS s l h)) T3) X) X) X
theorem pd_slS {lo hi : Option Expr} {dl dh : DO} {p2 : Pos} (ha : PE X a (can X.K W da)) (hl : PO X lo (canO X.K W dl)) (hh : PO X hi (canO X.K W dh)) : PE X (.Subscript a (.Slice lo hi none p2) pos) (can X.K W (dSlS da dl dh)) :=
  PE.imp (pe_slice sl_str ha hl hh) fun σ H Q ⟨T, G, ρ, P, Xp, c, ok, h, k, kx⟩ => by
    refine ⟨T, G, ρ, _, Xp, c, ok, h, fun x T1 v G1 H1 h1 g1 r1 => ?_, kx⟩
    refine ⟨T1, G1, ρ, _, Xp, g1.ctx, ok.up g1.sub, h1, fun l T2 G2 H2 h2 g2 => ?_, kx.up g1⟩
    refine ⟨T2, G2, ρ, _, Xp, g2.ctx, ok.up (g1.sub.trans g2.sub), h2, fun u T3 G3 H3 h3 g3 => ?_, (kx.up g1).up g2⟩
    have g := (g1.trans g2).trans g3
    obtain ⟨s, es, hz, h4⟩ := str1.of h3
    subst es
    cases r1
    exact ⟨s, rfl, Nat.le_trans hz (by decide), k _ _ _ _ _ h4 g (.str _)⟩
end
/-! ### for over a text -/
section
variable {X : Cx} {W : WX} {iter tg : Expr} {de : DE} {dg : DG} {sb : DS} {body : List Stmt} {pos : Pos}
def strL (x : Str) : List D := x.cps.toList.map fun c => .str ⟨#[c]⟩
theorem for_strs {K : PySem.W.Frag} {E : DX} {D : Ends} {T1 : Sto} {G1 H1 : Hp} {ρ : Env} {σ : L2.St} {x : Str} (c : Ctx K T1 G1 H1) (ok : EnvOk K G1 σ ρ) (l : Lk K W T1 G1 H1 E D) (h : forL dg sb E (strL x) ρ T1) :
    ∃ Wv : Nat → Nat → L2.St → Hp → Prop, (∃ m, Wv 0 m σ H1) ∧ ∀ i m σ H, Wv i m σ H →
      ((Its x).stop i H ∧ D.nx σ H) ∨ ((Its x).go i H ∧ ∃ N : L2.St → Hp → Prop, (∀ σ' H', N σ' H' → ∃ m', m' < m ∧ Wv (i + 1) m' σ' H') ∧ ∀ v H', (Its x).yld i H v H' → canG K W dg v σ H' fun σ2 H2 => canS K W sb { D with nx := N, ct := N, bk := D.nx } σ2 H2) := by
  have len : (strL x).length = x.cps.size := by unfold strL; simp
  refine ⟨fun i m σ H => Pv K dg sb E (strL x) T1 G1 H1 i σ H ∧ i + m = x.cps.size, ⟨x.cps.size, ⟨T1, G1, ρ, .refl c, ok, h⟩, by omega⟩, fun i m σ H ⟨hp, e⟩ => ?_⟩
  by_cases hi : i < x.cps.size
  · refine .inr ⟨hi, Pv K dg sb E (strL x) T1 G1 H1 (i + 1), fun σ' H' q => ⟨m - 1, by omega, q, by omega⟩, fun v H' ⟨eH, n, hn, ev⟩ => ?_⟩
    subst eH
    subst ev
    have g : (strL x)[i]? = some (.str ⟨#[n]⟩) := by
      unfold strL
      rw [List.getElem?_map, Array.getElem?_toList, hn]
      rfl
    exact Pv.turn l g hp fun G' s => .str _
  · have z : (strL x).length = i := by omega
    have hp' : Pv K dg sb E (strL x) T1 G1 H1 (strL x).length σ H := by rw [z]; exact hp
    exact .inl ⟨by show x.cps.size ≤ i; omega, Pv.done l hp'⟩
def dForS (dg : DG) (de : DE) (sb : DS) : DS := fun E ρ T => de ρ T (fun x T1 => str1 x fun s => forL dg sb E (strL s) ρ T1) (fun x T1 => E.ex x ρ T1)
theorem pds_forS (po : PassesOwn (model X.prog X.w) X.A X.env X.xe) (hc : X.calm = true) (he : PE X iter (can X.K W de)) (hg : PG X tg (canG X.K W dg)) (hb : PSs X body (canS X.K W sb))
    (hs : ∀ x, foldedSetIterable iter X.env x = pure x := by intro _; rfl) : PS X (.For tg iter body [] pos) (canS X.K W (dForS dg de sb)) :=
  PS.imp (ps_for po hc (pi_str he) hg hb hs) fun D σ H ⟨T, G, ρ, E, c, ok, h, l⟩ => by
    refine can_mk c ok h (fun d T1 v G1 H1 h1 g1 r1 => ?_) (l.exE ok)
    obtain ⟨s, es, h2⟩ := str1.of h1
    subst es
    cases r1
    exact ⟨s, rfl, for_strs g1.ctx (ok.up g1.sub) (l.up g1) h2⟩
end
end SY

namespace SY
open PySem PySem.Spec PyProof.Rows L2
section
variable {X : Cx} {W : WX} {a b : Expr} {da db : DE} {pos : Pos} {p : Pos}
/-- max(a, b) -/
def dMax (a b : DE) : DE := fun ρ T P X => a ρ T (fun x T1 => b ρ T1 (fun y T2 => int2 x y fun i j => P (.int (if j > i then j else i)) T2) X) X
theorem le_cb2 {K : PySem.W.Frag} {r : List V → Hp → VK → Prop} {f : D → D → Sto → (D → Sto → Prop) → Prop}
    (hr : ∀ T G H x y v u P Q, Ctx K T G H → Rp K G v x → Rp K G u y → f x y T P → LkV K T G H P Q → r [v, u] H Q) :
    ∀ σ H Q, can K W (fun ρ T P X => da ρ T (fun x T1 => db ρ T1 (fun y T2 => f x y T2 P) X) X) σ H Q → tCB r (tCons (can K W da) (tCons (can K W db) tNil)) σ H Q := by
  intro σ H Q ⟨T, G, ρ, P, X, c, ok, h, k, kx⟩
  refine ⟨T, G, ρ, _, X, c, ok, h, fun x T1 v G1 H1 h1 g1 r1 => ?_, kx⟩
  refine ⟨T1, G1, ρ, _, X, g1.ctx, ok.up g1.sub, h1, fun y T2 u G2 H2 h2 g2 r2 => ?_, kx.up g1⟩
  exact hr T2 G2 H2 x y v u P Q g2.ctx (r1.up g2.sub) r2 h2 (k.up (g1.trans g2))
theorem pd_max (hc : X.calm = true) (hg : Gl X "max") (hm : X.mg "max" = none) (ha : PE X a (can X.K W da)) (hb : PE X b (can X.K W db)) (he : starEach (a :: [b]) X.env = (false, eval a X.env) :: starEach [b] X.env := by rfl) (he2 : starEach (b :: []) X.env = (false, eval b X.env) :: starEach [] X.env := by rfl) (hpl : (backTo pos (starEach [b] X.env)).any (·.1) = false := by rfl) : PE X (.Call (.Name "max" p) [a, b] [] pos) (can X.K W (dMax da db)) :=
  PE.imp (pe_callB (call_max2 hc) hg hm (by decide +kernel) (pa_cons ha (pa_cons hb pa_nil he2) he) (by decide) (by decide) he hpl) (le_cb2 (f := fun x y T P => int2 x y fun i j => P (.int (if j > i then j else i)) T) fun T G H x y v u P Q c r1 r2 h k => by
    obtain ⟨i, j, rfl, rfl, h⟩ := int2.of h
    cases r1; cases r2
    exact ⟨i, j, rfl, k _ _ _ _ _ h (.refl c) (.int _)⟩)
/-- x not in y, x a text of one sign; tests -/
def notInD (x y : D) (T : Sto) (P : D → Sto → Prop) : Prop := str1 x fun a => str1 y fun b => ∃ c : Nat, a = ⟨#[c]⟩ ∧ P (.bl (!decide (c ∈ b.cps.toList))) T
def dNotInS (a b : DE) : DE := fun ρ T P X => a ρ T (fun x T1 => b ρ T1 (fun y T2 => notInD x y T2 P) X) X
theorem le_notInS {K : PySem.W.Frag} : ∀ σ H Q, can K W (dNotInS da db) σ H Q → tOp (fun x y H Q => ∃ (c : Nat) (z : Str), x = .str ⟨#[c]⟩ ∧ y = .str z ∧ Q (.bl (!decide (c ∈ z.cps.toList))) H) (can K W da) (can K W db) σ H Q := op2 fun T G H x y v u P Q c r1 r2 h k => by
  unfold notInD at h
  obtain ⟨a, ea, h4⟩ := str1.of h
  obtain ⟨b, eb, n, en, h5⟩ := str1.of h4
  subst ea
  subst eb
  subst en
  cases r1
  cases r2
  exact ⟨n, b, rfl, rfl, k _ _ _ _ _ h5 (.refl c) (.bl _)⟩
theorem le_inS {K : PySem.W.Frag} : ∀ σ H Q, can K W (dInS da db) σ H Q → tOp (fun x y H Q => ∃ (c : Nat) (z : Str), x = .str ⟨#[c]⟩ ∧ y = .str z ∧ Q (.bl (decide (c ∈ z.cps.toList))) H) (can K W da) (can K W db) σ H Q := op2 fun T G H x y v u P Q c r1 r2 h k => by
  unfold inD at h
  obtain ⟨a, ea, h4⟩ := str1.of h
  obtain ⟨b, eb, n, en, h5⟩ := str1.of h4
  subst ea
  subst eb
  subst en
  cases r1
  cases r2
  exact ⟨n, b, rfl, rfl, k _ _ _ _ _ h5 (.refl c) (.bl _)⟩
theorem pd_notInS (ha : PE X a (can X.K W da)) (hb : PE X b (can X.K W db)) (hm : behindInMarks .NotIn b = false) : PE X (.Compare a [.NotIn] [b] pos) (can X.K W (dNotInS da db)) := PE.imp (pe_cmpR op_notIn_sign ha hb hm) le_notInS
theorem pdt_notInS (ha : PE X a (can X.K W da)) (hb : PE X b (can X.K W db)) (hm : behindInMarks .NotIn b = false) : PT X (.Compare a [.NotIn] [b] pos) (canT X.K W (dTst (dNotInS da db))) := pdt_C op_notIn_sign ha hb hm le_notInS
theorem pdt_inS (ha : PE X a (can X.K W da)) (hb : PE X b (can X.K W db)) (hm : behindInMarks .In b = false) : PT X (.Compare a [.In] [b] pos) (canT X.K W (dTst (dInS da db))) := pdt_C op_in_sign ha hb hm le_inS
/-- a text's sign by its place -/
def ixSD (x y : D) (T : Sto) (P : D → Sto → Prop) : Prop := str1 x fun s => int1 y fun i => s.length ≤ 100000 ∧ optK (atI s.cps.toList i) fun c => P (.str ⟨#[c]⟩) T
def dIxS (a b : DE) : DE := fun ρ T P X => a ρ T (fun x T1 => b ρ T1 (fun y T2 => ixSD x y T2 P) X) X
theorem pd_ixS (ha : PE X a (can X.K W da)) (hb : PE X b (can X.K W db)) (hs : PlainIx b) : PE X (.Subscript a b pos) (can X.K W (dIxS da db)) := PE.imp (pe_ix ix_str ha hb hs) (op2 fun T G H x y v u P Q c r1 r2 h k => by
  unfold ixSD at h
  obtain ⟨s, es, h4⟩ := str1.of h
  obtain ⟨i, ei, hl, h5⟩ := int1.of h4
  obtain ⟨n, en, h6⟩ := optK.of h5
  subst es
  subst ei
  cases r1
  cases r2
  exact ⟨s, i, n, rfl, rfl, Nat.le_trans hl (by decide), en, k _ _ _ _ _ h6 (.refl c) (.str _)⟩)
/-- methods of a text with one argument -/
def dM1 (f : D → D → Sto → (D → Sto → Prop) → Prop) (o e : DE) : DE := fun ρ T P X => o ρ T (fun x T1 => isStrD x = true ∧ e ρ T1 (fun y T2 => f x y T2 P) X) X
def splitFD (x y : D) (T : Sto) (P : D → Sto → Prop) : Prop := str1 x fun a => str1 y fun b => ((b.length == 0) = false ∧ a.length ≤ 100000) ∧ P (.lst ((Txt.split a b).map .str)) T
def dSplitF : DE → DE → DE := dM1 splitFD
def findD (x y : D) (T : Sto) (P : D → Sto → Prop) : Prop := str1 x fun a => str1 y fun b => P (.int (Txt.find a b)) T
def dFind : DE → DE → DE := dM1 findD
structure PadO (i : Int) : Prop where
  ok : PadOk i = true
def zfillD (x y : D) (T : Sto) (P : D → Sto → Prop) : Prop := str1 x fun a => int1 y fun i => PadO i ∧ P (.str (Txt.zfill a i)) T
def dZfill : DE → DE → DE := dM1 zfillD
def strsOf : List D → Option (List Str)
  | [] => some []
  | .str b :: ds => (strsOf ds).map (b :: ·)
  | _ => none
theorem strsOf.of {K : PySem.W.Frag} {G : Hp} : ∀ {ds : List D} {bs : List Str} {vs : List V}, strsOf ds = some bs → RpA K G vs ds → vs = bs.map V.str
  | [], bs, vs, e, r => by cases e; cases r; rfl
  | .str b :: ds, bs, vs, e, r => by
    unfold strsOf at e
    cases q : strsOf ds with
    | none => rw [q] at e; cases e
    | some cs =>
      rw [q] at e
      cases e
      cases r with
      | cons h1 h2 =>
        cases h1
        rw [strsOf.of q h2]
        rfl
  | .non :: ds, bs, vs, e, r => by cases e
  | .bl _ :: ds, bs, vs, e, r => by cases e
  | .int _ :: ds, bs, vs, e, r => by cases e
  | .tup _ :: ds, bs, vs, e, r => by cases e
  | .lst _ :: ds, bs, vs, e, r => by cases e
  | .scr _ :: ds, bs, vs, e, r => by cases e
  | .ptr _ :: ds, bs, vs, e, r => by cases e
theorem strsOf_map : ∀ bs : List Str, strsOf (bs.map .str) = some bs
  | [] => rfl
  | b :: bs => by
    show (strsOf (bs.map .str)).map (b :: ·) = _
    rw [strsOf_map bs]
    rfl
def joinD (x y : D) (T : Sto) (P : D → Sto → Prop) : Prop := str1 x fun a => optK (seqOf T y) fun ds => optK (strsOf ds) fun ys => (ys.map (·.length)).sum + ys.length * a.length ≤ 1000000 ∧ P (.str (Txt.join a ys)) T
def dJoin : DE → DE → DE := dM1 joinD
section
variable {o e : Expr} {d1 d2 : DE} {apos cpos : Pos}
theorem le_m1 {K : PySem.W.Frag} {f : D → D → Sto → (D → Sto → Prop) → Prop} {r : V → List V → Hp → VK → Prop}
    (hr : ∀ T G H x y v u P Q, Ctx K T G H → Rp K G v x → Rp K G u y → isStrD x = true → f x y T P → LkV K T G H P Q → r v [u] H Q) :
    ∀ σ H Q, can K W (dM1 f d1 d2) σ H Q → (can K W d1) σ H (fun x H1 => tyV K "str" x H1 ∧ (tCons (can K W d2) tNil) σ H1 fun xs H2 => r x xs H2 Q) := fun σ H Q ⟨T, G, ρ, P, Xp, c, ok, h, k, kx⟩ => by
  refine can_mk c ok h (fun o T1 v1 G1 H1 h1 g1 r1 => ⟨isStrD.ty r1 h1.1, ?_⟩) kx
  refine can_mk g1.ctx (ok.up g1.sub) h1.2 (fun d T2 v2 G2 H2 h2 g2 r2 => ?_) (kx.up g1)
  exact hr T2 G2 H2 o d v1 v2 P Q g2.ctx (r1.up g2.sub) r2 h1.1 h2 (k.up (g1.trans g2))
theorem pd_splitF (ho : PE X o (can X.K W d1)) (ha : PE X e (can X.K W d2))
    (hbase : attributeBase o "split" X.env (eval o X.env) = eval o X.env := by rfl)
    (hfew : ((backTo cpos (starEach [e] X.env)).all (fun x => !x.1) && (backToKw cpos (keywordEach [] X.env)).all (fun x => x.1.isSome)
      && decide ([e].length + ([] : List Keyword).length + (if ([] : List Keyword).isEmpty then 0 else 1) < 30)) = true := by rfl)
    (hline : (apos.endLine == cpos.line) = true := by rfl) (hs : starEach [e] X.env = (false, eval e X.env) :: starEach [] X.env := by rfl) :
    PE X (.Call (.Attribute o "split" apos) [e] [] cpos) (can X.K W (dSplitF d1 d2)) :=
  PE.imp (pe_bm PySem.F.plainAttrs_str PySem.F.slot_str_split PySem.F.type_str_split mt_split ho (pa_cons ha pa_nil hs) hbase hfew hline hs) (le_m1 fun T G H x y v u P Q c r1 r2 hx h k => by
    unfold splitFD at h
    obtain ⟨a, ea, h4⟩ := str1.of h
    obtain ⟨b, eb, ⟨hb, hl⟩, h3⟩ := str1.of h4
    subst ea
    subst eb
    cases r1
    cases r2
    exact ⟨a, b, rfl, rfl, hb, Nat.le_trans (Nat.add_le_add_right hl 2) (by decide), fun p hp => k _ _ _ _ _ h3 (c.new hp) (.lst upd_same (RpA.strs _))⟩)
theorem pd_find (ho : PE X o (can X.K W d1)) (ha : PE X e (can X.K W d2))
    (hbase : attributeBase o "find" X.env (eval o X.env) = eval o X.env := by rfl)
    (hfew : ((backTo cpos (starEach [e] X.env)).all (fun x => !x.1) && (backToKw cpos (keywordEach [] X.env)).all (fun x => x.1.isSome)
      && decide ([e].length + ([] : List Keyword).length + (if ([] : List Keyword).isEmpty then 0 else 1) < 30)) = true := by rfl)
    (hline : (apos.endLine == cpos.line) = true := by rfl) (hs : starEach [e] X.env = (false, eval e X.env) :: starEach [] X.env := by rfl) :
    PE X (.Call (.Attribute o "find" apos) [e] [] cpos) (can X.K W (dFind d1 d2)) :=
  PE.imp (pe_bm PySem.F.plainAttrs_str PySem.F.slot_str_find PySem.F.type_str_find mt_find ho (pa_cons ha pa_nil hs) hbase hfew hline hs) (le_m1 fun T G H x y v u P Q c r1 r2 hx h k => by
    unfold findD at h
    obtain ⟨a, ea, h4⟩ := str1.of h
    obtain ⟨b, eb, h3⟩ := str1.of h4
    subst ea
    subst eb
    cases r1
    cases r2
    exact ⟨a, b, rfl, rfl, k _ _ _ _ _ h3 (.refl c) (.int _)⟩)
theorem pd_zfill (ho : PE X o (can X.K W d1)) (ha : PE X e (can X.K W d2))
    (hbase : attributeBase o "zfill" X.env (eval o X.env) = eval o X.env := by rfl)
    (hfew : ((backTo cpos (starEach [e] X.env)).all (fun x => !x.1) && (backToKw cpos (keywordEach [] X.env)).all (fun x => x.1.isSome)
      && decide ([e].length + ([] : List Keyword).length + (if ([] : List Keyword).isEmpty then 0 else 1) < 30)) = true := by rfl)
    (hline : (apos.endLine == cpos.line) = true := by rfl) (hs : starEach [e] X.env = (false, eval e X.env) :: starEach [] X.env := by rfl) :
    PE X (.Call (.Attribute o "zfill" apos) [e] [] cpos) (can X.K W (dZfill d1 d2)) :=
  PE.imp (pe_bm PySem.F.plainAttrs_str PySem.F.slot_str_zfill PySem.F.type_str_zfill mt_zfill ho (pa_cons ha pa_nil hs) hbase hfew hline hs) (le_m1 fun T G H x y v u P Q c r1 r2 hx h k => by
    unfold zfillD at h
    obtain ⟨a, ea, h4⟩ := str1.of h
    obtain ⟨i, eb, hp, h3⟩ := int1.of h4
    subst ea
    subst eb
    cases r1
    cases r2
    exact ⟨a, i, rfl, rfl, hp.ok, k _ _ _ _ _ h3 (.refl c) (.str _)⟩)
theorem pd_join (ho : PE X o (can X.K W d1)) (ha : PE X e (can X.K W d2))
    (hbase : attributeBase o "join" X.env (eval o X.env) = eval o X.env := by rfl)
    (hfew : ((backTo cpos (starEach [e] X.env)).all (fun x => !x.1) && (backToKw cpos (keywordEach [] X.env)).all (fun x => x.1.isSome)
      && decide ([e].length + ([] : List Keyword).length + (if ([] : List Keyword).isEmpty then 0 else 1) < 30)) = true := by rfl)
    (hline : (apos.endLine == cpos.line) = true := by rfl) (hs : starEach [e] X.env = (false, eval e X.env) :: starEach [] X.env := by rfl) :
    PE X (.Call (.Attribute o "join" apos) [e] [] cpos) (can X.K W (dJoin d1 d2)) :=
  PE.imp (pe_bm PySem.F.plainAttrs_str PySem.F.slot_str_join PySem.F.type_str_join mt_join ho (pa_cons ha pa_nil hs) hbase hfew hline hs) (le_m1 fun T G H x y v u P Q c r1 r2 hx h k => by
    unfold joinD at h
    obtain ⟨a, ea, h4⟩ := str1.of h
    obtain ⟨ds, e1, h4⟩ := optK.of h4
    obtain ⟨ys, e2, hz, h3⟩ := optK.of h4
    obtain ⟨q, vs, eq, hs, hr⟩ := seq_rd c r2 e1
    have ev := strsOf.of e2 hr
    subst ea
    subst eq
    subst ev
    cases r1
    exact ⟨a, q, ys, rfl, rfl, hs, Nat.le_trans hz (by decide), k _ _ _ _ _ h3 (.refl c) (.str _)⟩)
end
end
/-! ### [elt for x in a text] -/
section
variable {X : Cx} {W : WX} {a b e elt iter : Expr} {da db de : DE} {pos pos' tpos : Pos} {x : Str} {p : Pos} {j : Nat} {scope : Scope} {own : List (Str × Nat)}
theorem strL_len (x : Str) : (strL x).length = x.cps.size := by unfold strL; simp
theorem jok_str {K : PySem.W.Frag} {G1 : Hp} {x : Str} : JOk K G1 (strL x) (Its x) := fun i H s => by
  rw [strL_len]
  refine ⟨fun hi => ⟨hi, fun v H' hy => ?_⟩, fun hi => hi⟩
  obtain ⟨rfl, n, hn, rfl⟩ := hy
  refine ⟨rfl, _, ?_, .str _⟩
  unfold strL
  rw [List.getElem?_map, Array.getElem?_toList, hn]
  rfl
def dLcS (j : Nat) (da de : DE) : DE := fun ρ T P X => da ρ T (fun x T1 => str1 x fun s => s.length ≤ 1000000 ∧ lcL j de (ρ.set j none) (fun acc T2 => P (.lst acc) T2) (strL s) [] T1) X
theorem le_lcS : ∀ σ H Q, can X.K W (dLcS j da de) σ H Q → tLc (iStr (can X.K W da)) (gName j) tYes (can X.K W0 de) [j] σ H Q := fun σ H Q ⟨T, G, ρ, P, Xp, c, ok, h, k, kx⟩ => by
  refine can_mk c ok h (fun d T1 v G1 H1 h1 g1 r1 => ?_) kx
  obtain ⟨s, es, hz, h2⟩ := str1.of h1
  subst es
  cases r1
  refine ⟨s, rfl, ?_⟩
  have l : LkV X.K T1 G1 H1 (fun d T => ∃ acc, d = .lst acc ∧ P (.lst acc) T) Q := fun d T2 v2 G2 H2 ⟨acc, e, q⟩ g2 r2 => by
    subst e
    exact k _ _ _ _ _ q (g1.trans g2) r2
  exact lc_gen (W := W) g1.ctx (ok.up g1.sub) jok_str (by rw [strL_len]; exact hz) h2 l
theorem pd_lcS (hc : X.calm = true) (hN : X.N.Nodup) (ha : PE X iter (can X.K W da)) (ok : BlkOk X.N X.env.scope scope [(x, j)])
    (hg : ∀ (s : Shared) (H : Hp) (C : Addr) (cl : List (Str × Addr)) (fp : List Addr), PG (X.blk s H scope (compEnvC scope cl C X.env) fp) (.Name x tpos) (gName j))
    (he : ∀ (s : Shared) (H : Hp) (C : Addr) (cl : List (Str × Addr)) (fp : List Addr), PE (X.blk s H scope (compEnvC scope cl C X.env) fp) elt (can X.K W0 de)) (hs : ∀ x, foldedSetIterable iter X.env x = pure x := by intro _; rfl) :
    PE X (.ListComp elt [⟨.Name x tpos, iter, [], 0⟩] scope pos) (can X.K W (dLcS j da de)) := PE.imp (pe_lc (own := [(x, j)]) hc hN (pi_str ha) ok hg (fun _ _ _ _ _ => pts_nil) he hs) le_lcS
end
end SY

namespace SY
open PySem PySem.Spec PyProof.Rows L2
theorem eqOk_int (i : Int) : eqOk (.int i) = true := rfl
theorem eqv_int (i j : Int) : eqvD (.int i) (.int j) = decide (i = j) := by
  show (i == j) = decide (i = j)
  rfl
theorem ixN_lit (n : Nat) (k : Nat) (h : k < n) : ixN n (k : Int) = some k := by
  unfold ixN
  rw [if_pos (by omega), if_pos (by omega)]
  rfl
theorem atI_lit {α : Type} {l : List α} {x : α} (k : Nat) (h : l[k]? = some x) : atI l (k : Int) = some x := atI_nat h
theorem atI0 {α : Type} (x : α) (l : List α) : atI (x :: l) 0 = some x := atI_lit 0 rfl
theorem atI1 {α : Type} (a x : α) (l : List α) : atI (a :: x :: l) 1 = some x := atI_lit 1 rfl
theorem atI2 {α : Type} (a b x : α) (l : List α) : atI (a :: b :: x :: l) 2 = some x := atI_lit 2 rfl
theorem atI3 {α : Type} (a b c x : α) (l : List α) : atI (a :: b :: c :: x :: l) 3 = some x := atI_lit 3 rfl
theorem atI4 {α : Type} (a b c d x : α) (l : List α) : atI (a :: b :: c :: d :: x :: l) 4 = some x := atI_lit 4 rfl
theorem atI5 {α : Type} (a b c d e x : α) (l : List α) : atI (a :: b :: c :: d :: e :: x :: l) 5 = some x := atI_lit 5 rfl
theorem ixN0 (n : Nat) : ixN (n + 1) 0 = some 0 := ixN_lit (n + 1) 0 (by omega)
theorem seqIx0 (n : Nat) : seqIndex? 0 (n + 1) = some 0 := (ixN_seq (ixN0 n)).1
theorem seqOf_tup {T : Sto} {ds : List D} : seqOf T (.tup ds) = some ds := rfl
theorem seqOf_lst {T : Sto} {ds : List D} : seqOf T (.lst ds) = some ds := rfl
theorem seqOf_scr {T : Sto} {ns : List Int} : seqOf T (.scr ns) = some (ns.map .int) := rfl
theorem seqOf_ptr {T : Sto} {a : Addr} : seqOf T (.ptr a) = mlst (T a) := rfl
theorem seqOf_int {T : Sto} {i : Int} : seqOf T (.int i) = none := rfl
theorem seqOf_str {T : Sto} {i : Str} : seqOf T (.str i) = none := rfl
theorem lstOf_lst {T : Sto} {ds : List D} : lstOf T (.lst ds) = some ds := rfl
theorem lstOf_scr {T : Sto} {ns : List Int} : lstOf T (.scr ns) = some (ns.map .int) := rfl
theorem lstOf_ptr {T : Sto} {a : Addr} : lstOf T (.ptr a) = mlst (T a) := rfl
theorem frozen_tup {ds : List D} : frozen (.tup ds) = some ds := rfl
theorem frozen_lst {ds : List D} : frozen (.lst ds) = some ds := rfl
theorem frozen_scr {ns : List Int} : frozen (.scr ns) = some (ns.map .int) := rfl
theorem frozL_lst {ds : List D} : frozL (.lst ds) = some ds := rfl
theorem frozL_scr {ns : List Int} : frozL (.scr ns) = some (ns.map .int) := rfl
theorem plst_lst {T : Sto} {ds : List D} : plst T (.lst ds) = some ds := rfl
theorem plst_ptr {T : Sto} {a : Addr} : plst T (.ptr a) = mlst (T a) := rfl
theorem mlst_lst {ds : List D} : mlst (some (.lst ds)) = some ds := rfl
end SY

local macro_rules | `(tactic| walk_at "dx") => `(tactic| try simp only [SY.dSeq, SY.dAsg, SY.dRet, SY.dRetN, SY.dNext, SY.dIf, SY.dTst, SY.dC, SY.dVar, SY.dI, SY.dI0, SY.dMul, SY.dDiv, SY.dMod, SY.dPow, SY.dSub, SY.dLt, SY.dLe, SY.dGt, SY.dGe, SY.dNeg, SY.dAdd, SY.dIx, SY.dNil, SY.dCons, SY.dTup, SY.dLst, SY.dLstM, SY.dCall, SY.dAbs, SY.dLen, SY.dTuple, SY.dList, SY.dListM, SY.dEq, SY.dNe, SY.dIsN, SY.dNotN, SY.dIsB, SY.dNotB, SY.dFrz, SY.frzK, SY.dRaise, SY.dTryAs, SY.dTryOnly, SY.dIsE, SY.dtAnd, SY.dtOr, SY.dtNot, SY.dAnd, SY.dOr, SY.dNot, SY.dIsi, SY.dAll, SY.dSum, SY.dInt, SY.dSl, SY.dNoO, SY.dSomeO, SY.dDrop, SY.dAug, SY.dPar, SY.dAsgG, SY.dgName, SY.dgTup, SY.dgsNil, SY.dgsName, SY.dgSub, SY.dApp, SY.dPopAt, SY.dFor, SY.dForR1, SY.dForR2, SY.dForE, SY.dLc, SY.dLcR, SY.forL, SY.lcL, SY.rng1, SY.rng2, SY.rngL, SY.enumL, SY.frozen_tup, SY.frozen_lst, SY.frozen_scr, SY.frozL_lst, SY.frozL_scr, SY.someOf, SY.int1, SY.int2, SY.bl1, SY.one, SY.two, SY.optK, SY.seqK, SY.seqOf_tup, SY.seqOf_lst, SY.seqOf_scr, SY.seqOf_ptr, SY.seqOf_int, SY.seqOf_str, SY.lstOf_lst, SY.lstOf_scr, SY.lstOf_ptr, SY.mlst_lst, SY.plst_lst, SY.plst_ptr, SY.addL, SY.addD, SY.ixD, SY.lenD, SY.slD, SY.setD, SY.appD, SY.popD, SY.isPtrL, SY.nilK, SY.dgsK, SY.tyN, SY.isNon, SY.intK, SY.blsOf, SY.intsOf, SY.dend0, SY.dend, SY.startD, SY.eqOk_int, SY.eqv_int, SY.atI0, SY.atI1, SY.atI2, SY.atI3, SY.atI4, SY.atI5, SY.ixN0, SY.seqIx0, SY.updT_same, SY.updT_updT, List.map_cons, List.map_nil, List.length_cons, List.length_nil, List.replicate, List.cons_append, List.nil_append, List.getD_cons_zero, List.getD_cons_succ, List.set_cons_zero, List.set_cons_succ, List.getElem?_cons_zero, List.eraseIdx_cons_zero, Option.isSome_some, Option.map_some, Int.reduceToNat, Int.reducePow, Int.reduceAdd, Int.reduceMul, Nat.zero_lt_succ, Nat.reduceLT, Nat.sub_self, Nat.reduceSub, Nat.reduceAdd, Nat.reduceLeDiff, Nat.zero_add, SY.kit_ii, SY.kit_ib, SY.kit_it, SY.kit_bi, SY.kit_bb, SY.kit_tt, SY.kit_ti, SY.kit_tb, SY.kit_nt, SY.kit_ll, SY.kit_lt, Bool.not_true, Bool.not_false, if_true, if_false, reduceIte, Bool.false_eq_true, true_and, and_true, and_self])

namespace SY
open PySem PySem.Spec PyProof.Rows L2
/-! ### the greatest common divisor -/
noncomputable def sp_divisor : DSp := lock <| sp2 fun a b T P _ => int2 a b fun i j => P (.int (Int.gcd i j)) T
def d_divisor : DS := (dSeq (dAsg (dAbs (dVar 0)) 0) (dSeq (dAsg (dAbs (dVar 1)) 1) (dSeq (dWhile (dTst (dGt (dVar 1) (dC (.int 0)))) (dPar 0 1 (dCons (dVar 1) (dCons (dMod (dVar 0) (dVar 1)) dNil)))) (dRet (dVar 0)))))
theorem abs_if (i : Int) : (if i < 0 then -i else i) = (i.natAbs : Int) := by split <;> omega
theorem gcd_step {a b : Int} (h0 : 0 ≤ a) (hb : 0 < b) : Int.gcd b (a % b) = Int.gcd a b := by
  obtain ⟨m, rfl⟩ := Int.eq_ofNat_of_zero_le h0
  obtain ⟨n, rfl⟩ := Int.eq_ofNat_of_zero_le (Int.le_of_lt hb)
  rw [← Int.natCast_emod]
  show Nat.gcd n (m % n) = Nat.gcd m n
  rw [Nat.gcd_comm m n, Nat.gcd_rec n m, Nat.gcd_comm]
theorem pure_divisor {N : List Str} (hN : N.length = 2) : ∀ us T P X, sp_divisor us T P X → d_divisor (dend0 P X) (startD N us) T := by
  intro us T P X h
  obtain ⟨a, b, rfl, h1⟩ := sp2.of (lock_of h)
  obtain ⟨i, j, rfl, rfl, h2⟩ := int2.of h1
  have e : startD N [D.int i, D.int j] = [some (.int i), some (.int j)] := by unfold startD; rw [hN]; rfl
  rw [e]
  unfold d_divisor
  walk_at "dx"
  refine ⟨fun m ρ T' => ∃ a b : Int, ρ = [some (.int a), some (.int b)] ∧ 0 ≤ a ∧ 0 ≤ b ∧ Int.gcd a b = Int.gcd i j ∧ m = b.toNat ∧ T' = T, ⟨_, _, _, rfl, by rw [abs_if]; omega, by rw [abs_if]; omega, by rw [abs_if, abs_if]; simp [Int.gcd], rfl, rfl⟩, ?_⟩
  rintro m ρ T' ⟨a, b, rfl, ha, hb, hg, rfl, rfl⟩
  walk_at "dx"
  by_cases hc : 0 < b
  · rw [decide_eq_true hc]
    walk_at "dx"
    have hm := Int.emod_lt_of_pos a hc
    have hn := Int.emod_nonneg a (show b ≠ 0 by omega)
    exact ⟨hc, (a % b).toNat, by omega, _, _, rfl, hb, hn, (gcd_step ha hc).trans hg, rfl⟩
  · rw [decide_eq_false hc]
    walk_at "dx"
    have e : b = 0 := by omega
    subst e
    have e2 : (Int.gcd i j : Int) = a := by
      rw [← hg, Int.gcd_zero_right]
      omega
    rw [← e2]
    exact h2

/-! ### the law's draws -/
noncomputable def sp_l_take : DSp := lock <| sp2 fun a b T P _ => ∃ r, a = .ptr r ∧ T r = some .row ∧ int1 b fun n => (0 < n ∧ n.natAbs.log2 < 9000) ∧ ∀ k, 0 ≤ k → k < n → P (.int k) T
def d_l_take : DS := (dSeq (dWhile (dtAnd (dTst (dGt (dLen (dVar 0)) (dC (.int 0)))) (dTst (dEq (dIx (dVar 0) (dC (.int 0))) (dC (.int 0))))) (dDrop (dPopAt (dVar 0) (dC (.int 0))))) (dSeq (dIf (dTst (dEq (dLen (dVar 0)) (dC (.int 0)))) (dRet (dC (.int 0))) dNext) (dSeq (dAsg (dMod (dIx (dVar 0) (dC (.int 0))) (dVar 1)) 2) (dSeq (dAsgG (dDiv (dIx (dVar 0) (dC (.int 0))) (dVar 1)) (dgSub (dVar 0) (dC (.int 0)))) (dRet (dVar 2))))))
theorem pure_l_take {K : PySem.W.Frag} : ∀ us T P X G H, sp_l_take us T P X → Ctx K T G H → ∃ T', Ctx K T' G H ∧ (∀ a, T a = none ↔ T' a = none) ∧ d_l_take (dend K P X) (startD ["_law_row_here", "_law_many", "_law_found"] us) T' := by
  intro us T P X G H h c
  obtain ⟨a, b, rfl, h1⟩ := sp2.of (lock_of h)
  obtain ⟨r, rfl, hr, h2⟩ := h1
  obtain ⟨n, rfl, hn, h3⟩ := int1.of h2
  obtain ⟨ns, h0, hl, c'⟩ := c.open hr
  refine ⟨_, c', fun a => ?_, ?_⟩
  · by_cases ha : a = r
    · subst ha; rw [updT_same, hr]; simp
    · rw [updT_ne ha]
  have fin : ∀ (k : Int) (ms : List Int), 0 ≤ k → k < n → (∀ m ∈ ms, 0 ≤ m) → ms.length ≤ 63 → ∃ d' T', Wk K (.int k) (updT T r (.lst (ms.map .int))) d' T' ∧ P d' T' := fun k ms k0 kn m0 ml => by
    refine ⟨_, _, Wk.row (p := r) (ns := ms) updT_same m0 ml, ?_⟩
    rw [updT_updT, updT_id hr]
    exact h3 k k0 kn
  unfold d_l_take
  walk_at "dx"
  refine ⟨fun m ρ T' => ∃ ms : List Int, ρ = [some (.ptr r), some (.int n), none] ∧ T' = updT T r (.lst (ms.map .int)) ∧ (∀ m ∈ ms, 0 ≤ m) ∧ ms.length ≤ 63 ∧ m = ms.length, ⟨_, ns, rfl, rfl, h0, hl, rfl⟩, ?_⟩
  rintro m ρ T' ⟨ms, rfl, rfl, m0, ml, rfl⟩
  cases ms with
  | nil =>
    walk_at "dx"
    simp
    exact fin 0 [] (by omega) hn.1 (by simp) (by simp)
  | cons y ms =>
    have ey : 0 ≤ y := m0 y (by simp)
    have mo : ∀ m ∈ ms, 0 ≤ m := fun z hz => m0 z (by simp [hz])
    simp only [List.length_cons] at ml
    walk_at "dx"
    have hp : decide ((0 : Int) < ((List.length (List.map D.int ms) + 1 : Nat) : Int)) = true := decide_eq_true (by omega)
    have hq : decide (((List.length (List.map D.int ms) + 1 : Nat) : Int) = 0) = false := decide_eq_false (by omega)
    simp only [hp, hq]
    by_cases hy : y = 0
    · rw [decide_eq_true hy]
      walk_at "dx"
      exact ⟨⟨by decide, by decide⟩, _, by omega, ms, rfl, mo, by omega, rfl⟩
    · rw [decide_eq_false hy]
      walk_at "dx"
      refine ⟨hn.1, hn, ?_⟩
      exact fin (y % n) ((y / n) :: ms) (Int.emod_nonneg _ (by omega)) (Int.emod_lt_of_pos _ hn.1) (fun z hz => by
        rcases List.mem_cons.mp hz with rfl | hz
        · exact Int.ediv_nonneg ey (by omega)
        · exact mo z hz) (by simp; omega)

/-- the row: from the script's cells -/
noncomputable def sp_l_row : DSp := lock <| sp1 fun a T P _ => ∃ ns : List Int, a = .scr ns ∧ ∀ p, T p = none → P (.ptr p) (updT T p .row)
def b_l_row : DS := (dIf (dTst (dGe (dVar 3) (dPow (dC (.int 10)) (dC (.int 18))))) (dDrop (dApp (dVar 1) (dSub (dVar 3) (dPow (dC (.int 10)) (dC (.int 18)))))) (dSeq (dAsg (dMod (dMul (dAdd (dAdd (dAdd (dVar 3) (dMul (dMul (dC (.int 7)) (dVar 2)) (dVar 2))) (dMul (dC (.int 13)) (dVar 2))) (dC (.int 5))) (dC (.int 48271))) (dC (.int 2147483647))) 4) (dSeq (dAsg (dMod (dMul (dAdd (dAdd (dAdd (dVar 3) (dMul (dMul (dC (.int 11)) (dVar 2)) (dVar 2))) (dMul (dC (.int 17)) (dVar 2))) (dC (.int 3))) (dC (.int 40692))) (dC (.int 2147483399))) 5) (dSeq (dAsg (dMod (dMul (dAdd (dAdd (dAdd (dVar 3) (dMul (dMul (dC (.int 5)) (dVar 2)) (dVar 2))) (dMul (dC (.int 29)) (dVar 2))) (dC (.int 8))) (dC (.int 39373))) (dC (.int 2147483587))) 6) (dSeq (dAsg (dMod (dMul (dVar 4) (dC (.int 69621))) (dC (.int 1000000007))) 4) (dSeq (dAsg (dMod (dMul (dVar 5) (dC (.int 16807))) (dC (.int 998244353))) 5) (dSeq (dAsg (dMod (dMul (dVar 6) (dC (.int 45991))) (dC (.int 1000000009))) 6) (dDrop (dApp (dVar 1) (dAdd (dMul (dAdd (dMul (dVar 4) (dC (.int 998244353))) (dVar 5)) (dC (.int 1000000009))) (dVar 6)))))))))))
def d_l_row : DS := (dSeq (dAsg (dLstM dNil) 1) (dSeq (dForE (dgTup 2 (dgsName 2 (dgsName 3 dgsNil))) (dCons (dSl (dVar 0) dNoO (dSomeO (dC (.int 63)))) dNil) b_l_row) (dRet (dVar 1))))
theorem mulOk_r {i j : Int} (h : -(2 ^ 64) < j ∧ j < 2 ^ 64) : MulOk i j := ⟨CMul.ok (.inr h)⟩
theorem mulOk_l {i j : Int} (h : -(2 ^ 64) < i ∧ i < 2 ^ 64) : MulOk i j := ⟨CMul.ok (.inl h)⟩
theorem cut63 (ns : List Int) : cutD (ns.map D.int) none (some 63) = (ns.take 63).map D.int := by
  unfold cutD
  rw [HT.sIx_none, show HT.sIx (ns.map D.int).length (ns.map D.int).length (some 63) = min 63 (ns.map D.int).length from HT.sIx_nat _ _ 63]
  rw [List.drop_zero, Nat.sub_zero, List.map_take]
  by_cases h : (ns.map D.int).length ≤ 63
  · rw [Nat.min_eq_right h, List.take_length, List.take_of_length_le h]
  · rw [Nat.min_eq_left (by omega)]
theorem row_loop {E : DX} {T : Sto} {p : Addr} {s : D} (fin : ∀ (ms : List Int) (ρ : Env), (∀ m ∈ ms, 0 ≤ m) → ms.length ≤ 63 → (∃ a b c d e, ρ = [some s, some (.ptr p), a, b, c, d, e]) → E.nx ρ (updT T p (.lst (ms.map .int)))) :
    ∀ (ls : List Int) (k : Int) (ms : List Int) (ρ : Env), 0 ≤ k → k + ls.length ≤ 63 → (∀ m ∈ ms, 0 ≤ m) → ms.length + ls.length ≤ 63 → (∃ a b c d e, ρ = [some s, some (.ptr p), a, b, c, d, e]) →
      forL (dgTup 2 (dgsName 2 (dgsName 3 dgsNil))) b_l_row E (enumL k (ls.map .int)) ρ (updT T p (.lst (ms.map .int)))
  | [], k, ms, ρ, k0, k1, m0, ml, hρ => fin ms ρ m0 (by simpa using ml) hρ
  | n :: ls, k, ms, ρ, k0, k1, m0, ml, hρ => by
    obtain ⟨a, b, c, d, e, rfl⟩ := hρ
    simp only [List.length_cons] at k1 ml
    have goon := fun (z : Int) (hz : 0 ≤ z) (ρ' : Env) (hρ' : ∃ a b c d e, ρ' = [some s, some (.ptr p), a, b, c, d, e]) => row_loop fin ls (k + 1) (ms ++ [z]) ρ' (by omega) (by omega) (fun m hm => by
      rcases List.mem_append.mp hm with hm | hm
      · exact m0 m hm
      · have e : m = z := by simpa using hm
        rw [e]; exact hz) (by simp; omega) hρ'
    show dgTup 2 (dgsName 2 (dgsName 3 dgsNil)) (.tup [.int k, .int n]) _ _ _ _
    generalize hq : forL (dgTup 2 (dgsName 2 (dgsName 3 dgsNil))) b_l_row E (enumL (k + 1) (ls.map .int)) = nxt
    rw [hq] at goon
    unfold b_l_row
    walk_at "dx"
    simp only [List.map_append, List.map_cons, List.map_nil] at goon
    have kk : MulOk (7 * k) k ∧ MulOk (11 * k) k ∧ MulOk (5 * k) k := ⟨mulOk_r (by omega), mulOk_r (by omega), mulOk_r (by omega)⟩
    refine ⟨⟨by decide, by decide, by decide⟩, ?_⟩
    by_cases hc : (1000000000000000000 : Int) ≤ n
    · rw [decide_eq_true hc]
      walk_at "dx"
      exact ⟨⟨by decide, by decide, by decide⟩, by simp; omega, goon _ (by omega) _ ⟨_, _, _, _, _, rfl⟩⟩
    · rw [decide_eq_false hc]
      walk_at "dx"
      have m1 := Int.emod_nonneg ((n + 7 * k * k + 13 * k + 5) * 48271 % 2147483647 * 69621) (show (1000000007 : Int) ≠ 0 by decide)
      have m2 := Int.emod_nonneg ((n + 11 * k * k + 17 * k + 3) * 40692 % 2147483399 * 16807) (show (998244353 : Int) ≠ 0 by decide)
      have m3 := Int.emod_nonneg ((n + 5 * k * k + 29 * k + 8) * 39373 % 2147483587 * 45991) (show (1000000009 : Int) ≠ 0 by decide)
      refine ⟨mulOk_l (by decide), kk.1, mulOk_l (by decide), mulOk_r (by decide), by decide, mulOk_l (by decide), kk.2.1, mulOk_l (by decide), mulOk_r (by decide), by decide, mulOk_l (by decide), kk.2.2, mulOk_l (by decide), mulOk_r (by decide), by decide, mulOk_r (by decide), by decide, mulOk_r (by decide), by decide, mulOk_r (by decide), by decide, mulOk_r (by decide), mulOk_r (by decide), by simp; omega, goon _ (by omega) _ ⟨_, _, _, _, _, rfl⟩⟩
theorem pure_l_row {K : PySem.W.Frag} {N : List Str} (hN : N.length = 7) : ∀ us T P X, sp_l_row us T P X → d_l_row (dend K P X) (startD N us) T := by
  intro us T P X h
  obtain ⟨a, rfl, h1⟩ := sp1.of (lock_of h)
  obtain ⟨ns, rfl, h2⟩ := h1
  unfold d_l_row
  have e : startD N [D.scr ns] = [some (.scr ns), none, none, none, none, none, none] := by
    unfold startD; rw [hN]; rfl
  rw [e]
  generalize hb : b_l_row = bb
  walk_at "dx"
  intro p hp
  subst hb
  rw [cut63]
  refine row_loop (s := .scr ns) (p := p) (T := T) (fun ms ρ m0 ml hρ => ?_) (ns.take 63) 0 [] _ (by omega) ?_ (by simp) ?_ ⟨_, _, _, _, _, rfl⟩
  · obtain ⟨a, b, c, d, e, rfl⟩ := hρ
    walk_at "dx"
    refine ⟨_, _, Wk.row (p := p) (ns := ms) updT_same m0 ml, ?_⟩
    rw [updT_updT]
    exact h2 p hp
  · rw [List.length_take]; omega
  · rw [List.length_take]; simp; omega
end SY

namespace SY
open PySem PySem.Spec PyProof.Rows L2
/-- numbers by their size -/
def Bd (n : Nat) (x : Int) : Prop := x.natAbs < 2 ^ n
theorem Bd.mono {m n : Nat} {x : Int} (h : Bd m x) (l : m ≤ n) : Bd n x := Nat.lt_of_lt_of_le h (Nat.pow_le_pow_right (by decide) l)
theorem Bd.mul {m n : Nat} {x y : Int} (hx : Bd m x) (hy : Bd n y) : Bd (m + n) (x * y) := wide_lt hx hy
theorem Bd.neg {m : Nat} {x : Int} (hx : Bd m x) : Bd m (-x) := by unfold Bd; rw [Int.natAbs_neg]; exact hx
theorem Bd.add {m n : Nat} {x y : Int} (hx : Bd m x) (hy : Bd n y) : Bd (max m n + 1) (x + y) := by
  have h1 := hx.mono (Nat.le_max_left m n)
  have h2 := hy.mono (Nat.le_max_right m n)
  unfold Bd at *
  rw [Nat.pow_succ]
  have := Int.natAbs_add_le x y
  omega
theorem Bd.sub {m n : Nat} {x y : Int} (hx : Bd m x) (hy : Bd n y) : Bd (max m n + 1) (x - y) := by
  rw [Int.sub_eq_add_neg]
  exact hx.add hy.neg
theorem Bd.mulOk {m n : Nat} {x y : Int} (hx : Bd m x) (hy : Bd n y) (h : m + n ≤ 900000) : MulOk x y := by
  have hx1 := hx.mono (Nat.le_succ m)
  have hy1 := hy.mono (Nat.le_succ n)
  exact ⟨(wide_mul hx1 hy1 (Nat.succ_pos _) (Nat.succ_pos _) (by omega)).ok⟩
theorem Bd.divOk {n : Nat} {x y : Int} (hy : Bd n y) (h : n ≤ 8000) (h0 : 0 < y) : CDivW x y := wide_div h0 (hy.mono (Nat.le_succ n)) (Nat.succ_pos _) (by omega)
theorem Bd.ediv {m : Nat} {x y : Int} (hx : Bd m x) : Bd m (x / y) := by
  unfold Bd at *
  exact Nat.lt_of_le_of_lt (Int.natAbs_ediv_le_natAbs x y) hx
theorem Bd.gcd {m : Nat} {x y : Int} (hx : Bd m x) (hy : Bd m y) : Bd m ((Int.gcd x y : Nat) : Int) := by
  unfold Bd at *
  rw [Int.natAbs_natCast]
  by_cases h : y = 0
  · subst h
    rw [Int.gcd_zero_right]
    exact hx
  · have h1 : (Int.gcd x y) ∣ y.natAbs := by
      rw [Int.gcd]
      exact Nat.gcd_dvd_right _ _
    exact Nat.lt_of_le_of_lt (Nat.le_of_dvd (Int.natAbs_pos.mpr h) h1) hy
theorem Bd.lit {n : Nat} {x : Int} (h : x.natAbs < 2 ^ n) : Bd n x := h
theorem Bd.small {x : Int} (h : x.natAbs < 2 ^ 64) : Bd 64 x := h
theorem Bd.to {m n : Nat} {x : Int} (h : Bd m x) (l : Nat.ble m n = true) : Bd n x := h.mono (Nat.le_of_ble_eq_true l)
theorem Bd.rng {n : Nat} {x m : Int} (h0 : -m ≤ x) (h1 : x ≤ m) (h : Bd n m) : Bd n x := by
  unfold Bd at *
  omega
theorem log_ok {n : Nat} {x : Int} (h : Bd n x) (l : n ≤ 8000) : x.natAbs.log2 < 9000 := Nat.lt_of_lt_of_le (PySem.Flt.log2_lt_of (Nat.succ_pos n) (h.mono (Nat.le_succ n))) (by omega)
/-- a draw of 0 .. n - 1 by cases -/
theorem lt2 {k : Int} (h0 : 0 ≤ k) (h : k < 2) : k = 0 ∨ k = 1 := by omega
theorem lt3 {k : Int} (h0 : 0 ≤ k) (h : k < 3) : k = 0 ∨ k = 1 ∨ k = 2 := by omega
theorem lt4 {k : Int} (h0 : 0 ≤ k) (h : k < 4) : k = 0 ∨ k = 1 ∨ k = 2 ∨ k = 3 := by omega
/-- the law's own small helpers -/
noncomputable def sp_l_number : DSp := lock <| sp1 fun a T P _ => ∃ r, a = .ptr r ∧ T r = some .row ∧ ∀ k : Int, Bd 200 k → P (.int k) T
def d_l_number : DS := (dSeq (dAsg (dIx (dLst (dCons (dC (.int 12)) (dCons (dPow (dC (.int 10)) (dC (.int 6))) (dCons (dPow (dC (.int 10)) (dC (.int 20))) (dCons (dPow (dC (.int 10)) (dC (.int 60))) dNil))))) (dCall sp_l_take (dCons (dVar 0) (dCons (dC (.int 4)) dNil)))) 1) (dRet (dSub (dCall sp_l_take (dCons (dVar 0) (dCons (dAdd (dMul (dC (.int 2)) (dVar 1)) (dC (.int 1))) dNil))) (dVar 1))))
theorem sp_take_mk {r : Addr} {n : Int} {T : Sto} {P : D → Sto → Prop} {X : Xc → Sto → Prop} (hr : T r = some .row) (h0 : 0 < n) (hb : Bd 8000 n) (h : ∀ k, 0 ≤ k → k < n → P (.int k) T) : sp_l_take [.ptr r, .int n] T P X := lock_at ⟨r, rfl, hr, ⟨h0, log_ok hb (Nat.le_refl _)⟩, h⟩
theorem pure_l_number {N : List Str} (hN : N.length = 2) : ∀ us T P X, sp_l_number us T P X → d_l_number (dend0 P X) (startD N us) T := by
  intro us T P X h
  obtain ⟨a, rfl, h1⟩ := sp1.of (lock_of h)
  obtain ⟨r, rfl, hr, h2⟩ := h1
  have e : startD N [D.ptr r] = [some (.ptr r), none] := by unfold startD; rw [hN]; rfl
  rw [e]
  unfold d_l_number
  walk_at "dx"
  refine ⟨⟨by decide, by decide, by decide⟩, ⟨by decide, by decide, by decide⟩, ⟨by decide, by decide, by decide⟩, sp_take_mk hr (by decide) (Bd.lit (by decide)) fun k k0 k4 => ?_⟩
  rcases lt4 k0 k4 with rfl | rfl | rfl | rfl <;> walk_at "dx"
  all_goals
    refine ⟨mulOk_l (by decide), sp_take_mk hr (by decide) (Bd.lit (by decide)) fun k k0 k1 => ?_⟩
    walk_at "dx"
    exact h2 _ (Bd.rng (m := 10 ^ 60) (by omega) (by omega) (Bd.lit (by decide)))
noncomputable def sp_l_whole : DSp := lock <| sp1 fun a T P _ => int1 a fun _ => P (.bl true) T
def d_l_whole : DS := (dRet (dAnd (dIsi "int" (dVar 0)) (dNot (dIsi "bool" (dVar 0)))))
theorem pure_l_whole {N : List Str} (hN : N.length = 1) : ∀ us T P X, sp_l_whole us T P X → d_l_whole (dend0 P X) (startD N us) T := by
  intro us T P X h
  obtain ⟨a, rfl, h1⟩ := sp1.of (lock_of h)
  obtain ⟨i, rfl, h2⟩ := int1.of h1
  have e : startD N [D.int i] = [some (.int i)] := by unfold startD; rw [hN]; rfl
  rw [e]
  unfold d_l_whole
  walk_at "dx"
  exact h2
end SY

local macro_rules | `(tactic| walk_at "bd") => `(tactic| first | assumption | (apply SY.Bd.mul <;> walk_at "bd") | (apply SY.Bd.add <;> walk_at "bd") | (apply SY.Bd.sub <;> walk_at "bd") | (apply SY.Bd.neg <;> walk_at "bd") | exact SY.Bd.small (by decide))
local macro_rules | `(tactic| walk_at "bt") => `(tactic| exact SY.Bd.to (by walk_at "bd") (by decide))
local macro_rules | `(tactic| walk_at "mo") => `(tactic| exact SY.Bd.mulOk (by walk_at "bd") (by walk_at "bd") (by decide))
local macro_rules | `(tactic| walk_at "mos") => `(tactic| repeat (refine ⟨by walk_at "mo", ?_⟩))

namespace SY
open PySem PySem.Spec PyProof.Rows L2
theorem sp_divisor_eq {i j : Int} {T : Sto} {P : D → Sto → Prop} {X : Xc → Sto → Prop} : sp_divisor [.int i, .int j] T P X = P (.int (Int.gcd i j)) T := by unfold sp_divisor; rw [lock_eq]; rfl
theorem sp_l_whole_eq {i : Int} {T : Sto} {P : D → Sto → Prop} {X : Xc → Sto → Prop} : sp_l_whole [.int i] T P X = P (.bl true) T := by unfold sp_l_whole; rw [lock_eq]; rfl
theorem sp_number_mk {r : Addr} {T : Sto} {P : D → Sto → Prop} {X : Xc → Sto → Prop} (hr : T r = some .row) (h : ∀ k, Bd 200 k → P (.int k) T) : sp_l_number [.ptr r] T P X := lock_at ⟨r, rfl, hr, h⟩
theorem sp_row_mk {ns : List Int} {T : Sto} {P : D → Sto → Prop} {X : Xc → Sto → Prop} (h : ∀ p, T p = none → P (.ptr p) (updT T p .row)) : sp_l_row [.scr ns] T P X := lock_at ⟨ns, rfl, h⟩
/-- one of a written list -/
theorem pick {ds : List D} {k : Int} {C R : D → Prop} (h0 : 0 ≤ k) (h1 : k < ds.length) (hall : ∀ d ∈ ds, R d) (hc : ∀ d, R d → C d) : someOf (atI ds k) C := by
  obtain ⟨j, rfl⟩ := Int.eq_ofNat_of_zero_le h0
  have hj : j < ds.length := by omega
  have e : atI ds (j : Int) = some ds[j] := atI_nat (List.getElem?_eq_getElem hj)
  rw [e]
  exact hc _ (hall _ (List.getElem_mem hj))
def IsB (n : Nat) (d : D) : Prop := ∃ i, d = .int i ∧ Bd n i
end SY

namespace SY
open PySem PySem.Spec PyProof.Rows L2
/-! ### numbers without a common divisor -/
def gcdF (g : Nat) : List Int → Nat
  | [] => g
  | n :: ns => gcdF (Int.gcd (g : Int) n) ns
def gcdL (ns : List Int) : Nat := gcdF 0 ns
theorem gcdF_dvd : ∀ (ns : List Int) (g : Nat), (gcdF g ns ∣ g) ∧ ∀ n ∈ ns, ((gcdF g ns : Nat) : Int) ∣ n
  | [], g => ⟨Nat.dvd_refl _, fun n h => by simp at h⟩
  | m :: ns, g => by
    obtain ⟨h1, h2⟩ := gcdF_dvd ns (Int.gcd (g : Int) m)
    have d1 : ((Int.gcd (g : Int) m : Nat) : Int) ∣ (g : Int) := Int.gcd_dvd_left ..
    have d2 : ((Int.gcd (g : Int) m : Nat) : Int) ∣ m := Int.gcd_dvd_right ..
    refine ⟨Nat.dvd_trans h1 (Int.natCast_dvd_natCast.mp d1), fun n hn => ?_⟩
    rcases List.mem_cons.mp hn with rfl | hn
    · exact Int.dvd_trans (Int.natCast_dvd_natCast.mpr h1) d2
    · exact h2 n hn
theorem dvd_gcdF : ∀ (ns : List Int) (g d : Nat), d ∣ g → (∀ n ∈ ns, (d : Int) ∣ n) → d ∣ gcdF g ns
  | [], g, d, h, _ => h
  | m :: ns, g, d, h, hn => dvd_gcdF ns _ d (Int.dvd_gcd (Int.natCast_dvd_natCast.mpr h) (hn m (by simp)) |> fun z => by exact_mod_cast z) fun n h2 => hn n (by simp [h2])
theorem gcdL_dvd {ns : List Int} {n : Int} (h : n ∈ ns) : ((gcdL ns : Nat) : Int) ∣ n := (gcdF_dvd ns 0).2 n h
theorem dvd_gcdL {ns : List Int} {d : Nat} (h : ∀ n ∈ ns, (d : Int) ∣ n) : d ∣ gcdL ns := dvd_gcdF ns 0 d (Nat.dvd_zero d) h
theorem gcdL_zero {ns : List Int} (h : gcdL ns = 0) {n : Int} (hn : n ∈ ns) : n = 0 := by
  have := gcdL_dvd hn
  rw [h] at this
  exact Int.zero_dvd.mp this
theorem gcdL_pos {ns : List Int} {n : Int} (hn : n ∈ ns) (h : n ≠ 0) : 0 < gcdL ns := by
  rcases Nat.eq_zero_or_pos (gcdL ns) with z | z
  · exact absurd (gcdL_zero z hn) h
  · exact z
theorem gcdL_smul (c : Int) (ns : List Int) : gcdL (ns.map (c * ·)) = c.natAbs * gcdL ns := by
  apply Nat.dvd_antisymm
  · by_cases hc : c = 0
    · subst hc
      have : gcdL (ns.map ((0 : Int) * ·)) = 0 := by
        have h0 : (0 : Nat) ∣ gcdL (ns.map ((0 : Int) * ·)) := dvd_gcdL fun n hn => by
          obtain ⟨m, _, rfl⟩ := List.mem_map.mp hn
          simp
        exact Nat.eq_zero_of_zero_dvd h0
      rw [this]
      simp
    · have hc' : 0 < c.natAbs := Int.natAbs_pos.mpr hc
      have d1 : c.natAbs ∣ gcdL (ns.map (c * ·)) := dvd_gcdL fun n hn => by
        obtain ⟨m, _, rfl⟩ := List.mem_map.mp hn
        exact Int.dvd_trans (Int.natAbs_dvd.mpr (Int.dvd_refl c)) (Int.dvd_mul_right c m)
      obtain ⟨q, hq⟩ := d1
      rw [hq]
      refine Nat.mul_dvd_mul_left _ (dvd_gcdL fun n hn => ?_)
      have h := gcdL_dvd (ns := ns.map (c * ·)) (List.mem_map.mpr ⟨n, hn, rfl⟩)
      rw [hq] at h
      obtain ⟨k, hk⟩ := h
      refine ⟨if 0 < c then k else -k, ?_⟩
      have e : ((c.natAbs * q : Nat) : Int) = (c.natAbs : Int) * q := by simp
      rw [e] at hk
      by_cases h0 : 0 < c
      · rw [if_pos h0]
        have e2 : (c.natAbs : Int) = c := by omega
        rw [e2] at hk
        exact Int.eq_of_mul_eq_mul_left hc (by rw [hk]; grind)
      · rw [if_neg h0]
        have e2 : (c.natAbs : Int) = -c := by omega
        rw [e2] at hk
        exact Int.eq_of_mul_eq_mul_left hc (by rw [hk]; grind)
  · refine dvd_gcdL fun n hn => ?_
    obtain ⟨m, hm, rfl⟩ := List.mem_map.mp hn
    have h := gcdL_dvd hm
    obtain ⟨k, hk⟩ := h
    rw [hk]
    have e : ((c.natAbs * gcdL ns : Nat) : Int) = (c.natAbs : Int) * (gcdL ns : Int) := by simp
    rw [e]
    have d : (c.natAbs : Int) ∣ c := Int.natAbs_dvd.mpr (Int.dvd_refl c)
    obtain ⟨j, hj⟩ := d
    exact ⟨j * k, by rw [show c * ((gcdL ns : Int) * k) = ((c.natAbs : Int) * j) * ((gcdL ns : Int) * k) by rw [← hj]]; grind⟩
def lowBy (ns : List Int) : Nat := if gcdL ns = 0 then 1 else gcdL ns
def lowZ (ns : List Int) : List Int := ns.map fun n => n / (lowBy ns : Int)
theorem lowBy_pos (ns : List Int) : 0 < lowBy ns := by unfold lowBy; split <;> omega
theorem lowBy_dvd {ns : List Int} {n : Int} (h : n ∈ ns) : (lowBy ns : Int) ∣ n := by
  unfold lowBy
  split
  · exact Int.one_dvd n
  · exact gcdL_dvd h
theorem lowZ_mul (ns : List Int) : (lowZ ns).map ((lowBy ns : Int) * ·) = ns := by
  unfold lowZ
  rw [List.map_map]
  conv => rhs; rw [← List.map_id ns]
  refine List.map_congr_left fun n hn => ?_
  exact Int.mul_ediv_cancel' (lowBy_dvd hn)
theorem lowZ_gcd {ns : List Int} {n : Int} (hn : n ∈ ns) (h : n ≠ 0) : gcdL (lowZ ns) = 1 := by
  have e := gcdL_smul (lowBy ns) (lowZ ns)
  rw [lowZ_mul, Int.natAbs_natCast] at e
  have p := gcdL_pos hn h
  have e2 : lowBy ns = gcdL ns := by unfold lowBy; rw [if_neg (by omega)]
  rw [e2] at e
  exact Nat.eq_of_mul_eq_mul_left p (by omega)
theorem map_inj {s : Int} (h : s ≠ 0) : ∀ {a b : List Int}, a.map (s * ·) = b.map (s * ·) → a = b
  | [], [], _ => rfl
  | [], _ :: _, e => by simp at e
  | _ :: _, [], e => by simp at e
  | x :: a, y :: b, e => by
    simp only [List.map_cons, List.cons.injEq] at e
    rw [Int.eq_of_mul_eq_mul_left h e.1, map_inj h e.2]
theorem low_unique {a b : List Int} {s t : Int} (ha : gcdL a = 1) (hb : gcdL b = 1) (hs : 0 < s) (ht : 0 < t) (h : a.map (s * ·) = b.map (t * ·)) : a = b := by
  have e1 := gcdL_smul s a
  have e2 := gcdL_smul t b
  rw [h, e2, ha, hb] at e1
  have e : s = t := by omega
  subst e
  exact map_inj (by omega) h
theorem low_of_prop {ns b : List Int} {s t : Int} (hb : gcdL b = 1) (hs : 0 < s) (ht : 0 < t) (h : ns.map (s * ·) = b.map (t * ·)) : lowZ ns = b := by
  have hn : 0 < gcdL ns := by
    have e1 := gcdL_smul s ns
    have e2 := gcdL_smul t b
    rw [h, e2, hb] at e1
    rcases Nat.eq_zero_or_pos (gcdL ns) with z | z
    · rw [z] at e1; omega
    · exact z
  have g1 : gcdL (lowZ ns) = 1 := by
    have e := gcdL_smul (lowBy ns) (lowZ ns)
    rw [lowZ_mul, Int.natAbs_natCast] at e
    have e2 : lowBy ns = gcdL ns := by unfold lowBy; rw [if_neg (by omega)]
    rw [e2] at e
    exact Nat.eq_of_mul_eq_mul_left hn (by omega)
  have p := lowBy_pos ns
  refine low_unique (s := s * (lowBy ns : Int)) (t := t) g1 hb (Int.mul_pos hs (by omega)) ht ?_
  rw [← h]
  conv => rhs; rw [← lowZ_mul ns]
  rw [List.map_map]
  refine List.map_congr_left fun n _ => ?_
  show s * (lowBy ns : Int) * n = s * ((lowBy ns : Int) * n)
  grind
theorem lowZ_id {b : List Int} (hb : gcdL b = 1) : lowZ b = b := low_of_prop (s := 1) (t := 1) hb (by decide) (by decide) rfl
theorem lowZ_smul {c : Int} (hc : 0 < c) (ns : List Int) : lowZ (ns.map (c * ·)) = lowZ ns := by
  rcases Nat.eq_zero_or_pos (gcdL ns) with z | z
  · have e : ns.map (c * ·) = ns := by
      conv => rhs; rw [← List.map_id ns]
      refine List.map_congr_left fun n hn => ?_
      rw [gcdL_zero z hn]
      simp
    rw [e]
  · have g1 : gcdL (lowZ ns) = 1 := by
      have e := gcdL_smul (lowBy ns) (lowZ ns)
      rw [lowZ_mul, Int.natAbs_natCast] at e
      have e2 : lowBy ns = gcdL ns := by unfold lowBy; rw [if_neg (by omega)]
      rw [e2] at e
      exact Nat.eq_of_mul_eq_mul_left z (by omega)
    have p := lowBy_pos ns
    refine low_of_prop (s := 1) (t := c * (lowBy ns : Int)) g1 (by decide) (Int.mul_pos hc (by omega)) ?_
    rw [List.map_map]
    conv => lhs; rw [← lowZ_mul ns]
    rw [List.map_map]
    refine List.map_congr_left fun n _ => ?_
    show 1 * (c * ((lowBy ns : Int) * n)) = c * (lowBy ns : Int) * n
    grind
theorem gcdL_neg (ns : List Int) : gcdL (ns.map (-·)) = gcdL ns := by
  have e : ns.map (-·) = ns.map ((-1 : Int) * ·) := List.map_congr_left fun n _ => by omega
  rw [e, gcdL_smul]
  simp
theorem lowZ_neg (ns : List Int) : lowZ (ns.map (-·)) = (lowZ ns).map (-·) := by
  unfold lowZ lowBy
  rw [gcdL_neg, List.map_map, List.map_map]
  refine List.map_congr_left fun n hn => ?_
  show (-n) / _ = -(n / _)
  have d := lowBy_dvd hn
  unfold lowBy at d
  exact Int.neg_ediv_of_dvd d
theorem lowZ_len (ns : List Int) : (lowZ ns).length = ns.length := by unfold lowZ; simp
theorem lowZ_bd {ns : List Int} {n : Nat} (h : ∀ z ∈ ns, Bd n z) : ∀ z ∈ lowZ ns, Bd n z := fun z hz => by
  obtain ⟨m, hm, rfl⟩ := List.mem_map.mp hz
  exact (h m hm).ediv
theorem gcdF_bd : ∀ (ns : List Int) (g : Nat) {n : Nat}, Bd n (g : Int) → (∀ z ∈ ns, Bd n z) → Bd n ((gcdF g ns : Nat) : Int)
  | [], g, n, h, _ => h
  | m :: ns, g, n, h, hn => gcdF_bd ns _ (Bd.gcd h (hn m (by simp))) fun z hz => hn z (by simp [hz])
theorem gcdL_bd {ns : List Int} {n : Nat} (h : ∀ z ∈ ns, Bd n z) : Bd n ((gcdL ns : Nat) : Int) := gcdF_bd ns 0 (by unfold Bd; exact Nat.pow_pos (by decide)) h
end SY

namespace SY
open PySem PySem.Spec PyProof.Rows L2
theorem lcL_map {j : Nat} {de : DE} {ρ0 : Env} {k : List D → Sto → Prop} {T : Sto} {f : D → D} : ∀ (ds acc : List D), (∀ d ∈ ds, ∀ (P : D → Sto → Prop) (X : Xc → Sto → Prop), P (f d) T → de (ρ0.set j (some d)) T P X) → k (acc ++ ds.map f) T → lcL j de ρ0 k ds acc T
  | [], acc, _, h => by
    show k acc T
    simpa using h
  | d :: ds, acc, hd, h => hd d (by simp) _ _ (lcL_map ds (acc ++ [f d]) (fun e he => hd e (by simp [he])) (by simpa using h))
theorem seqOf_frozen {a : D} {ds : List D} {T : Sto} (h : frozen a = some ds) : seqOf T a = some ds := by
  cases a <;> first | exact h | cases h
noncomputable def sp_l_lowest : DSp := lock <| sp1 fun a T P _ => ∃ ns : List Int, frozen a = some (ns.map .int) ∧ (∀ n ∈ ns, Bd 8000 n) ∧ ns.length ≤ 1000 ∧ P (.tup ((lowZ ns).map .int)) T
def d_l_lowest : DS := (dSeq (dAsg (dC (.int 0)) 1) (dSeq (dFor (dgName 2) (dVar 0) (dAsg (dCall sp_divisor (dCons (dVar 1) (dCons (dVar 2) dNil))) 1)) (dSeq (dIf (dTst (dEq (dVar 1) (dC (.int 0)))) (dRet (dTuple (dVar 0))) dNext) (dRet (dTuple (dLc 2 (dVar 0) (dDiv (dVar 2) (dVar 1))))))))
theorem low_loop {E : DX} {T : Sto} {a : Option D} : ∀ (ns : List Int) (g : Nat) (x : Option D), (∀ x', E.nx [a, some (.int (gcdF g ns)), x'] T) → forL (dgName 2) (dAsg (dCall sp_divisor (dCons (dVar 1) (dCons (dVar 2) dNil))) 1) E (ns.map .int) [a, some (.int g), x] T
  | [], g, x, h => h x
  | n :: ns, g, x, h => by
    show dgName 2 (.int n) _ _ _ _
    walk_at "dx"
    rw [sp_divisor_eq]
    exact low_loop ns _ _ h
theorem low_div {ns : List Int} {T : Sto} {P : D → Sto → Prop} {X : Xc → Sto → Prop} {a : D} {g : Int} (hf : frozen a = some (ns.map .int)) (hl : ns.length ≤ 1000) (hg : CDivW 0 g) (h : P (.tup (ns.map fun n => .int (n / g))) T) : ∀ x, (dTuple (dLc 2 (dVar 0) (dDiv (dVar 2) (dVar 1)))) [some a, some (.int g), x] T P X := by
  intro x
  simp only [dTuple, dLc, dVar, List.getD_cons_zero, someOf, hf, optK]
  refine ⟨by simp; omega, ?_⟩
  refine lcL_map (f := fun d => match d with | .int n => .int (n / g) | e => e) (ns.map .int) [] (fun d hd P X hp => ?_) ?_
  · obtain ⟨n, _, rfl⟩ := List.mem_map.mp hd
    walk_at "dx"
    exact ⟨hg, hp⟩
  · simp only [List.nil_append, List.map_map, seqK, seqOf]
    exact h
theorem pure_l_lowest {N : List Str} (hN : N.length = 3) : ∀ us T P X, sp_l_lowest us T P X → d_l_lowest (dend0 P X) (startD N us) T := by
  intro us T P X h
  obtain ⟨a, rfl, h1⟩ := sp1.of (lock_of h)
  obtain ⟨ns, hf, hb, hl, h2⟩ := h1
  have e : startD N [a] = [some a, none, none] := by unfold startD; rw [hN]; rfl
  rw [e]
  unfold d_l_lowest
  simp only [dSeq, dAsg, dC, dFor, dVar, List.set_cons_succ, List.set_cons_zero, List.getD_cons_zero, someOf, hf, optK]
  refine low_loop ns 0 none fun x => ?_
  have gb : Bd 8000 ((gcdF 0 ns : Nat) : Int) := gcdL_bd hb
  by_cases hz : gcdF 0 ns = 0
  · have e1 : ((gcdF 0 ns : Nat) : Int) = 0 := by omega
    simp only [dIf, dTst, dEq, dC, dVar, List.getD_cons_succ, List.getD_cons_zero, someOf, e1, eqOk_int, eqv_int, dRet, dTuple, seqK, seqOf_frozen hf, bl1, dend0]
    simp
    have e2 : lowZ ns = ns := by
      unfold lowZ lowBy
      rw [if_pos (show gcdL ns = 0 from hz)]
      simp
    rw [e2] at h2
    exact h2
  · have e1 : decide (((gcdF 0 ns : Nat) : Int) = 0) = false := decide_eq_false (by omega)
    simp only [dIf, dTst, dEq, dC, dVar, List.getD_cons_succ, List.getD_cons_zero, someOf, eqOk_int, eqv_int, e1, bl1, dNext]
    refine ⟨⟨trivial, trivial⟩, ?_⟩
    rw [if_neg Bool.false_ne_true]
    refine low_div hf hl (Bd.divOk gb (by decide) (by omega)) ?_ x
    have e2 : lowBy ns = gcdF 0 ns := by unfold lowBy; rw [if_neg (show ¬ gcdL ns = 0 from hz)]; rfl
    have e3 : (lowZ ns).map D.int = ns.map fun n => D.int (n / ((gcdF 0 ns : Nat) : Int)) := by
      unfold lowZ
      rw [e2, List.map_map]
      rfl
    rw [e3] at h2
    exact h2
/-- the program's own -/
noncomputable def sp_lowest : DSp := lock <| sp1 fun a T P _ => ∃ ns : List Int, frozen a = some (ns.map .int) ∧ (∀ n ∈ ns, Bd 8000 n) ∧ ns.length ≤ 1000 ∧ P (.tup ((lowZ ns).map .int)) T
def d_lowest : DS := (dSeq (dAsg (dC (.int 0)) 1) (dSeq (dFor (dgName 2) (dVar 0) (dSeq (dAsg (dCall sp_divisor (dCons (dVar 1) (dCons (dVar 2) dNil))) 1) (dIf (dTst (dEq (dVar 1) (dC (.int 1)))) (dRet (dTuple (dVar 0))) dNext))) (dSeq (dIf (dTst (dEq (dVar 1) (dC (.int 0)))) (dRet (dTuple (dVar 0))) dNext) (dRet (dTuple (dLc 2 (dVar 0) (dDiv (dVar 2) (dVar 1))))))))
theorem gcdF_one : ∀ ns : List Int, gcdF 1 ns = 1 := fun ns => Nat.eq_one_of_dvd_one (gcdF_dvd ns 1).1
theorem low_loop2 {E : DX} {T : Sto} {a : D} {ds : List D} (hs : seqOf T a = some ds) : ∀ (ns : List Int) (g : Nat) (x : Option D), (gcdF g ns = 1 → E.rt (.tup ds) T) → (∀ x', E.nx [some a, some (.int (gcdF g ns)), x'] T) →
    forL (dgName 2) (dSeq (dAsg (dCall sp_divisor (dCons (dVar 1) (dCons (dVar 2) dNil))) 1) (dIf (dTst (dEq (dVar 1) (dC (.int 1)))) (dRet (dTuple (dVar 0))) dNext)) E (ns.map .int) [some a, some (.int g), x] T
  | [], g, x, _, h => h x
  | n :: ns, g, x, h1, h => by
    show dgName 2 (.int n) _ _ _ _
    generalize hq : forL (dgName 2) (dSeq (dAsg (dCall sp_divisor (dCons (dVar 1) (dCons (dVar 2) dNil))) 1) (dIf (dTst (dEq (dVar 1) (dC (.int 1)))) (dRet (dTuple (dVar 0))) dNext)) E (List.map D.int ns) = nxt
    walk_at "dx"
    rw [sp_divisor_eq]
    walk_at "dx"
    by_cases he : Int.gcd (g : Int) n = 1
    · have e1 : decide (((Int.gcd (g : Int) n : Nat) : Int) = 1) = true := decide_eq_true (by omega)
      rw [e1]
      simp only [if_true, dRet, dTuple, dVar, List.getD_cons_zero, someOf, seqK, hs]
      refine h1 ?_
      show gcdF (Int.gcd (g : Int) n) ns = 1
      rw [he]
      exact gcdF_one ns
    · have e1 : decide (((Int.gcd (g : Int) n : Nat) : Int) = 1) = false := decide_eq_false (by omega)
      rw [e1]
      walk_at "dx"
      rw [← hq]
      exact low_loop2 hs ns _ _ h1 h
theorem pure_lowest {N : List Str} (hN : N.length = 3) : ∀ us T P X, sp_lowest us T P X → d_lowest (dend0 P X) (startD N us) T := by
  intro us T P X h
  obtain ⟨a, rfl, h1⟩ := sp1.of (lock_of h)
  obtain ⟨ns, hf, hb, hl, h2⟩ := h1
  have e : startD N [a] = [some a, none, none] := by unfold startD; rw [hN]; rfl
  rw [e]
  unfold d_lowest
  simp only [dSeq, dAsg, dC, dFor, dVar, List.set_cons_succ, List.set_cons_zero, List.getD_cons_zero, someOf, hf, optK]
  refine low_loop2 (seqOf_frozen hf) ns 0 none (fun e1 => ?_) fun x => ?_
  · have e2 : lowZ ns = ns := lowZ_id e1
    rw [e2] at h2
    exact h2
  have gb : Bd 8000 ((gcdF 0 ns : Nat) : Int) := gcdL_bd hb
  by_cases hz : gcdF 0 ns = 0
  · have e1 : ((gcdF 0 ns : Nat) : Int) = 0 := by omega
    simp only [dIf, dTst, dEq, dC, dVar, List.getD_cons_succ, List.getD_cons_zero, someOf, e1, eqOk_int, eqv_int, dRet, dTuple, seqK, seqOf_frozen hf, bl1, dend0]
    simp
    have e2 : lowZ ns = ns := by
      unfold lowZ lowBy
      rw [if_pos (show gcdL ns = 0 from hz)]
      simp
    rw [e2] at h2
    exact h2
  · have e1 : decide (((gcdF 0 ns : Nat) : Int) = 0) = false := decide_eq_false (by omega)
    simp only [dIf, dTst, dEq, dC, dVar, List.getD_cons_succ, List.getD_cons_zero, someOf, eqOk_int, eqv_int, e1, bl1, dNext]
    refine ⟨⟨trivial, trivial⟩, ?_⟩
    rw [if_neg Bool.false_ne_true]
    refine low_div hf hl (Bd.divOk gb (by decide) (by omega)) ?_ x
    have e2 : lowBy ns = gcdF 0 ns := by unfold lowBy; rw [if_neg (show ¬ gcdL ns = 0 from hz)]; rfl
    have e3 : (lowZ ns).map D.int = ns.map fun n => D.int (n / ((gcdF 0 ns : Nat) : Int)) := by
      unfold lowZ
      rw [e2, List.map_map]
      rfl
    rw [e3] at h2
    exact h2
theorem sp_l_lowest_mk {a : D} {ns : List Int} {T : Sto} {P : D → Sto → Prop} {X : Xc → Sto → Prop} (hf : frozen a = some (ns.map .int)) (hb : ∀ n ∈ ns, Bd 8000 n) (hl : ns.length ≤ 1000) (h : P (.tup ((lowZ ns).map .int)) T) : sp_l_lowest [a] T P X := lock_at ⟨ns, hf, hb, hl, h⟩
theorem sp_lowest_mk {a : D} {ns : List Int} {T : Sto} {P : D → Sto → Prop} {X : Xc → Sto → Prop} (hf : frozen a = some (ns.map .int)) (hb : ∀ n ∈ ns, Bd 8000 n) (hl : ns.length ≤ 1000) (h : P (.tup ((lowZ ns).map .int)) T) : sp_lowest [a] T P X := lock_at ⟨ns, hf, hb, hl, h⟩
end SY

namespace SY
open PySem PySem.Spec PyProof.Rows L2
/-! ### equal tuples of numbers -/
theorem eqvAll_ints : ∀ ns ms : List Int, PyData.eqvAll (pys (ns.map .int)) (pys (ms.map .int)) = decide (ns = ms)
  | [], [] => rfl
  | [], _ :: _ => rfl
  | _ :: _, [] => rfl
  | n :: ns, m :: ms => by
    show ((n == m) && PyData.eqvAll (pys (ns.map .int)) (pys (ms.map .int))) = _
    rw [eqvAll_ints ns ms]
    by_cases h : n = m
    · subst h
      simp
    · have h2 : (n == m) = false := by simpa using h
      rw [h2]
      simp [h]
theorem eqv_tup (ns ms : List Int) : eqvD (.tup (ns.map .int)) (.tup (ms.map .int)) = decide (ns = ms) := eqvAll_ints ns ms
theorem eqv_lst (ns ms : List Int) : eqvD (.lst (ns.map .int)) (.lst (ms.map .int)) = decide (ns = ms) := eqvAll_ints ns ms
theorem eqv_t2 (a b c d : Int) : eqvD (.tup [.int a, .int b]) (.tup [.int c, .int d]) = decide ([a, b] = [c, d]) := eqv_tup [a, b] [c, d]
theorem eqv_t3 (a b c x y z : Int) : eqvD (.tup [.int a, .int b, .int c]) (.tup [.int x, .int y, .int z]) = decide ([a, b, c] = [x, y, z]) := eqv_tup [a, b, c] [x, y, z]
theorem eqv_t4 (a b c d x y z w : Int) : eqvD (.tup [.int a, .int b, .int c, .int d]) (.tup [.int x, .int y, .int z, .int w]) = decide ([a, b, c, d] = [x, y, z, w]) := eqv_tup [a, b, c, d] [x, y, z, w]
theorem eqv_t6 (a b c d e f x y z w u v : Int) : eqvD (.tup [.int a, .int b, .int c, .int d, .int e, .int f]) (.tup [.int x, .int y, .int z, .int w, .int u, .int v]) = decide ([a, b, c, d, e, f] = [x, y, z, w, u, v]) := eqv_tup [a, b, c, d, e, f] [x, y, z, w, u, v]
theorem eqv_l3 (a b c x y z : Int) : eqvD (.lst [.int a, .int b, .int c]) (.lst [.int x, .int y, .int z]) = decide ([a, b, c] = [x, y, z]) := eqv_lst [a, b, c] [x, y, z]
theorem eqv_bl (a b : Bool) : eqvD (.bl a) (.bl b) = (a == b) := rfl
theorem eqOk_bl (a : Bool) : eqOk (.bl a) = true := rfl
theorem eqOk_t2 (a b : Int) : eqOk (.tup [.int a, .int b]) = true := rfl
theorem eqOk_t3 (a b c : Int) : eqOk (.tup [.int a, .int b, .int c]) = true := rfl
theorem eqOk_t4 (a b c d : Int) : eqOk (.tup [.int a, .int b, .int c, .int d]) = true := rfl
theorem eqOk_t6 (a b c d e f : Int) : eqOk (.tup [.int a, .int b, .int c, .int d, .int e, .int f]) = true := rfl
theorem eqOk_l3 (a b c : Int) : eqOk (.lst [.int a, .int b, .int c]) = true := rfl
/-! ### fractions, ways, turns -/
def V2 (T : Sto) (a : D) (u0 u1 : Int) : Prop := ∃ r, seqOf T a = some (.int u0 :: .int u1 :: r)
def V3 (T : Sto) (a : D) (u0 u1 u2 : Int) : Prop := ∃ r, seqOf T a = some (.int u0 :: .int u1 :: .int u2 :: r)
def V4 (T : Sto) (a : D) (u0 u1 u2 u3 : Int) : Prop := ∃ r, seqOf T a = some (.int u0 :: .int u1 :: .int u2 :: .int u3 :: r)
theorem V4.v3 {T : Sto} {a : D} {u0 u1 u2 u3 : Int} (h : V4 T a u0 u1 u2 u3) : V3 T a u0 u1 u2 := by obtain ⟨r, e⟩ := h; exact ⟨_, e⟩
def B2 (n : Nat) (u0 u1 : Int) : Prop := Bd n u0 ∧ Bd n u1
def B3 (n : Nat) (u0 u1 u2 : Int) : Prop := Bd n u0 ∧ Bd n u1 ∧ Bd n u2
def B4 (n : Nat) (u0 u1 u2 u3 : Int) : Prop := Bd n u0 ∧ Bd n u1 ∧ Bd n u2 ∧ Bd n u3
theorem B4.b3 {n : Nat} {u0 u1 u2 u3 : Int} (h : B4 n u0 u1 u2 u3) : B3 n u0 u1 u2 := ⟨h.1, h.2.1, h.2.2.1⟩
theorem B4.mono {m n : Nat} {u0 u1 u2 u3 : Int} (h : B4 m u0 u1 u2 u3) (l : m ≤ n) : B4 n u0 u1 u2 u3 := ⟨h.1.mono l, h.2.1.mono l, h.2.2.1.mono l, h.2.2.2.mono l⟩
theorem B3.mono {m n : Nat} {u0 u1 u2 : Int} (h : B3 m u0 u1 u2) (l : m ≤ n) : B3 n u0 u1 u2 := ⟨h.1.mono l, h.2.1.mono l, h.2.2.mono l⟩
section
variable {T : Sto} {P : D → Sto → Prop} {X : Xc → Sto → Prop}
noncomputable def sp_ranked : DSp := lock <| sp2 fun a b T P _ => ∃ u0 u1 v0 v1 n, V2 T a u0 u1 ∧ V2 T b v0 v1 ∧ B2 n u0 u1 ∧ B2 n v0 v1 ∧ n ≤ 100000 ∧ P (.int (if u0 * v1 < v0 * u1 then -1 else if u0 * v1 > v0 * u1 then 1 else 0)) T
def d_ranked : DS := (dSeq (dAsg (dMul (dIx (dVar 0) (dC (.int 0))) (dIx (dVar 1) (dC (.int 1)))) 2) (dSeq (dAsg (dMul (dIx (dVar 1) (dC (.int 0))) (dIx (dVar 0) (dC (.int 1)))) 3) (dSeq (dIf (dTst (dLt (dVar 2) (dVar 3))) (dRet (dNeg (dC (.int 1)))) dNext) (dSeq (dIf (dTst (dGt (dVar 2) (dVar 3))) (dRet (dC (.int 1))) dNext) (dRet (dC (.int 0)))))))
theorem mul_ok {m n : Nat} {x y : Int} (hx : Bd m x) (hy : Bd n y) (h : m + n ≤ 900000) : MulOk x y := Bd.mulOk hx hy h
theorem pure_ranked {N : List Str} (hN : N.length = 4) : ∀ us T P X, sp_ranked us T P X → d_ranked (dend0 P X) (startD N us) T := by
  intro us T P X h
  obtain ⟨a, b, rfl, h1⟩ := sp2.of (lock_of h)
  obtain ⟨u0, u1, v0, v1, n, ⟨r, ha⟩, ⟨r', hb⟩, bu, bv, hn, h2⟩ := h1
  have e : startD N [a, b] = [some a, some b, none, none] := by unfold startD; rw [hN]; rfl
  rw [e]
  unfold d_ranked
  walk_at "dx"
  simp only [ha, hb]
  walk_at "dx"
  refine ⟨mul_ok bu.1 bv.2 (by omega), mul_ok bv.1 bu.2 (by omega), ?_⟩
  by_cases h3 : u0 * v1 < v0 * u1
  · simp only [h3, decide_true, if_true] at h2 ⊢
    exact h2
  · by_cases h4 : u0 * v1 > v0 * u1
    · have h5 : v0 * u1 < u0 * v1 := h4
      simp only [h3, h4, h5, decide_true, decide_false, if_true, if_false, Bool.false_eq_true] at h2 ⊢
      exact h2
    · have h5 : ¬ v0 * u1 < u0 * v1 := h4
      simp only [h3, h4, h5, decide_true, decide_false, if_true, if_false, Bool.false_eq_true] at h2 ⊢
      exact h2
theorem sp_ranked_mk {a b : D} {u0 u1 v0 v1 : Int} {n : Nat} (ha : V2 T a u0 u1) (hb : V2 T b v0 v1) (bu : B2 n u0 u1) (bv : B2 n v0 v1) (hn : n ≤ 100000) (h : P (.int (if u0 * v1 < v0 * u1 then -1 else if u0 * v1 > v0 * u1 then 1 else 0)) T) : sp_ranked [a, b] T P X := lock_at ⟨u0, u1, v0, v1, n, ha, hb, bu, bv, hn, h⟩
/-- a fraction that the law draws -/
def IsFr (n : Nat) (t b : Int) : Prop := 0 < b ∧ gcdL [t, b] = 1 ∧ B2 n t b
theorem pos_of_mul {g b : Int} (hg : 0 < g) (h : 0 < g * b) : 0 < b := by
  by_cases z : 0 < b
  · exact z
  · have := Int.mul_nonpos_of_nonneg_of_nonpos (Int.le_of_lt hg) (show b ≤ 0 by omega)
    omega
theorem low2 {n : Nat} {t b : Int} (hb : 0 < b) (h : B2 n t b) : ∃ t' b' g, lowZ [t, b] = [t', b'] ∧ 0 < g ∧ t = g * t' ∧ b = g * b' ∧ IsFr n t' b' := by
  have hm := lowZ_mul [t, b]
  have hg := lowZ_gcd (ns := [t, b]) (n := b) (by simp) (by omega)
  have hbd := lowZ_bd (ns := [t, b]) (n := n) (fun z hz => by
    rcases List.mem_cons.mp hz with rfl | hz
    · exact h.1
    · rcases List.mem_cons.mp hz with rfl | hz
      · exact h.2
      · simp at hz)
  have hp := lowBy_pos [t, b]
  generalize lowBy [t, b] = g at *
  have hs : ∃ t' b', lowZ [t, b] = [t', b'] := ⟨_, _, rfl⟩
  obtain ⟨t', b', e⟩ := hs
  rw [e] at hm hg hbd
  simp only [List.map_cons, List.map_nil, List.cons.injEq, and_true] at hm
  refine ⟨t', b', g, e, by omega, hm.1.symm, hm.2.symm, ?_, hg, hbd _ (by simp), hbd _ (by simp)⟩
  have h1 : 0 < (g : Int) * b' := by rw [hm.2]; exact hb
  exact pos_of_mul (by omega) h1
noncomputable def sp_l_fraction : DSp := lock <| sp1 fun a T P _ => ∃ r, a = .ptr r ∧ T r = some .row ∧ ∀ t b : Int, IsFr 140 t b → P (.tup [.int t, .int b]) T
def d_l_fraction : DS := (dSeq (dAsg (dIx (dLst (dCons (dC (.int 12)) (dCons (dPow (dC (.int 10)) (dC (.int 6))) (dCons (dPow (dC (.int 10)) (dC (.int 40))) dNil)))) (dCall sp_l_take (dCons (dVar 0) (dCons (dC (.int 3)) dNil)))) 1) (dSeq (dAsg (dSub (dCall sp_l_take (dCons (dVar 0) (dCons (dAdd (dMul (dC (.int 2)) (dVar 1)) (dC (.int 1))) dNil))) (dVar 1)) 2) (dRet (dCall sp_l_lowest (dCons (dLst (dCons (dVar 2) (dCons (dAdd (dC (.int 1)) (dCall sp_l_take (dCons (dVar 0) (dCons (dVar 1) dNil)))) dNil))) dNil)))))
theorem pure_l_fraction {N : List Str} (hN : N.length = 3) : ∀ us T P X, sp_l_fraction us T P X → d_l_fraction (dend0 P X) (startD N us) T := by
  intro us T P X h
  obtain ⟨a, rfl, h1⟩ := sp1.of (lock_of h)
  obtain ⟨r, rfl, hr, h2⟩ := h1
  have e : startD N [D.ptr r] = [some (.ptr r), none, none] := by unfold startD; rw [hN]; rfl
  rw [e]
  unfold d_l_fraction
  walk_at "dx"
  refine ⟨⟨by decide, by decide, by decide⟩, ⟨by decide, by decide, by decide⟩, sp_take_mk hr (by decide) (Bd.lit (by decide)) fun k k0 k3 => ?_⟩
  have fin : ∀ (m j l : Int), 0 ≤ j → j < 2 * m + 1 → 0 ≤ l → l < m → m ≤ 10 ^ 40 → sp_l_lowest [.lst [.int (j - m), .int (1 + l)]] T P X := fun m j l j0 j1 l0 l1 hm => by
    have bd : B2 140 (j - m) (1 + l) := ⟨Bd.rng (m := 10 ^ 40) (by omega) (by omega) (Bd.lit (by decide)), Bd.rng (m := 10 ^ 40) (by omega) (by omega) (Bd.lit (by decide))⟩
    refine sp_l_lowest_mk (ns := [j - m, 1 + l]) rfl (fun z hz => ?_) (by simp) ?_
    · rcases List.mem_cons.mp hz with rfl | hz
      · exact bd.1.mono (by decide)
      · rcases List.mem_cons.mp hz with rfl | hz
        · exact bd.2.mono (by decide)
        · simp at hz
    · obtain ⟨t', b', g, e, _, _, _, fr⟩ := low2 (by omega) bd
      rw [e]
      exact h2 t' b' fr
  rcases lt3 k0 k3 with rfl | rfl | rfl <;> walk_at "dx"
  all_goals
    refine ⟨mulOk_l (by decide), sp_take_mk hr (by decide) (Bd.lit (by decide)) fun j j0 j1 => ?_⟩
    walk_at "dx"
    refine sp_take_mk hr (by decide) (Bd.lit (by decide)) fun l l0 l1 => ?_
    walk_at "dx"
    exact fin _ j l j0 (by omega) l0 l1 (by decide)
theorem sp_l_fraction_mk {r : Addr} (hr : T r = some .row) (h : ∀ t b : Int, IsFr 140 t b → P (.tup [.int t, .int b]) T) : sp_l_fraction [.ptr r] T P X := lock_at ⟨r, rfl, hr, h⟩
end
end SY

namespace SY
open PySem PySem.Spec PyProof.Rows L2
/-! ### points -/
def IsPt (n : Nat) (x y z w : Int) : Prop := 0 < w ∧ gcdL [x, y, z, w] = 1 ∧ B4 n x y z w
theorem IsPt.mono {m n : Nat} {x y z w : Int} (h : IsPt m x y z w) (l : m ≤ n) : IsPt n x y z w := ⟨h.1, h.2.1, h.2.2.mono l⟩
theorem all4 {n : Nat} {x y z w : Int} (h : B4 n x y z w) : ∀ v ∈ [x, y, z, w], Bd n v := fun v hv => by
  simp only [List.mem_cons, List.not_mem_nil, or_false] at hv
  rcases hv with rfl | rfl | rfl | rfl
  · exact h.1
  · exact h.2.1
  · exact h.2.2.1
  · exact h.2.2.2
theorem low4' {n : Nat} {x y z w u : Int} (hu : u ∈ [x, y, z, w]) (h0 : u ≠ 0) (h : B4 n x y z w) : ∃ x' y' z' w' g, lowZ [x, y, z, w] = [x', y', z', w'] ∧ 0 < g ∧ x = g * x' ∧ y = g * y' ∧ z = g * z' ∧ w = g * w' ∧ gcdL [x', y', z', w'] = 1 ∧ B4 n x' y' z' w' := by
  have hm := lowZ_mul [x, y, z, w]
  have hg := lowZ_gcd (ns := [x, y, z, w]) hu h0
  have hbd := lowZ_bd (ns := [x, y, z, w]) (n := n) (all4 h)
  have hp := lowBy_pos [x, y, z, w]
  have hs : ∃ x' y' z' w', lowZ [x, y, z, w] = [x', y', z', w'] := ⟨_, _, _, _, rfl⟩
  generalize lowBy [x, y, z, w] = g at *
  obtain ⟨x', y', z', w', e⟩ := hs
  rw [e] at hm hg hbd
  simp only [List.map_cons, List.map_nil, List.cons.injEq, and_true] at hm
  exact ⟨x', y', z', w', g, e, by omega, hm.1.symm, hm.2.1.symm, hm.2.2.1.symm, hm.2.2.2.symm, hg, hbd _ (by simp), hbd _ (by simp), hbd _ (by simp), hbd _ (by simp)⟩
theorem low4 {n : Nat} {x y z w : Int} (hw : 0 < w) (h : B4 n x y z w) : ∃ x' y' z' w' g, lowZ [x, y, z, w] = [x', y', z', w'] ∧ 0 < g ∧ x = g * x' ∧ y = g * y' ∧ z = g * z' ∧ w = g * w' ∧ IsPt n x' y' z' w' := by
  obtain ⟨x', y', z', w', g, e, hg, h1, h2, h3, h4, h5, h6⟩ := low4' (u := w) (by simp) (by omega) h
  exact ⟨x', y', z', w', g, e, hg, h1, h2, h3, h4, pos_of_mul hg (by rw [← h4]; exact hw), h5, h6⟩
theorem pt_low {n : Nat} {x y z w a b c d s t : Int} (h : IsPt n x y z w) (hs : 0 < s) (ht : 0 < t) (h1 : s * a = t * x) (h2 : s * b = t * y) (h3 : s * c = t * z) (h4 : s * d = t * w) : lowZ [a, b, c, d] = [x, y, z, w] :=
  low_of_prop (s := s) (t := t) h.2.1 hs ht (by simp only [List.map_cons, List.map_nil, h1, h2, h3, h4])
section
variable {T : Sto} {P : D → Sto → Prop} {X : Xc → Sto → Prop}
noncomputable def sp_l_point : DSp := lock <| sp3 fun a b c T P _ => ∃ r, a = .ptr r ∧ T r = some .row ∧ int2 b c fun s m => (0 < s ∧ s ≤ 10 ^ 13 ∧ 0 < m ∧ m ≤ 10 ^ 13) ∧ ∀ x y z w : Int, IsPt 45 x y z w → P (.tup [.int x, .int y, .int z, .int w]) T
def d_l_point : DS := (dSeq (dAsg (dAdd (dC (.int 1)) (dCall sp_l_take (dCons (dVar 0) (dCons (dVar 2) dNil)))) 3) (dSeq (dAsg (dAdd (dMul (dC (.int 2)) (dVar 1)) (dC (.int 1))) 4) (dSeq (dAsg (dLcR 6 (dCons (dC (.int 3)) dNil) (dSub (dCall sp_l_take (dCons (dVar 0) (dCons (dVar 4) dNil))) (dVar 1))) 5) (dRet (dCall sp_l_lowest (dCons (dAdd (dVar 5) (dLst (dCons (dVar 3) dNil))) dNil))))))
theorem pure_l_point {N : List Str} (hN : N.length = 7) : ∀ us T P X, sp_l_point us T P X → d_l_point (dend0 P X) (startD N us) T := by
  intro us T P X h
  obtain ⟨a, b, c, rfl, h1⟩ := sp3.of (lock_of h)
  obtain ⟨r, rfl, hr, h2⟩ := h1
  obtain ⟨s, m, rfl, rfl, ⟨s0, s1, m0, m1⟩, h3⟩ := int2.of h2
  have e : startD N [D.ptr r, D.int s, D.int m] = [some (.ptr r), some (.int s), some (.int m), none, none, none, none] := by unfold startD; rw [hN]; rfl
  rw [e]
  unfold d_l_point
  walk_at "dx"
  have bm : Bd 44 m := Bd.rng (m := 10 ^ 13) (by omega) (by omega) (Bd.lit (by decide))
  have bs : Bd 44 s := Bd.rng (m := 10 ^ 13) (by omega) (by omega) (Bd.lit (by decide))
  have bq : Bd 8000 (2 * s + 1) := by walk_at "bt"
  refine sp_take_mk hr m0 (by walk_at "bt") fun k k0 k1 => ?_
  walk_at "dx"
  refine ⟨mulOk_l (by decide), ?_⟩
  refine ⟨⟨by decide, by decide⟩, ?_⟩
  refine sp_take_mk hr (by omega) bq fun x x0 x1 => ?_
  walk_at "dx"
  refine sp_take_mk hr (by omega) bq fun y y0 y1 => ?_
  walk_at "dx"
  refine sp_take_mk hr (by omega) bq fun z z0 z1 => ?_
  walk_at "dx"
  have bd : B4 45 (x - s) (y - s) (z - s) (1 + k) := ⟨Bd.rng (m := 10 ^ 13) (by omega) (by omega) (Bd.lit (by decide)), Bd.rng (m := 10 ^ 13) (by omega) (by omega) (Bd.lit (by decide)), Bd.rng (m := 10 ^ 13) (by omega) (by omega) (Bd.lit (by decide)), Bd.rng (m := 10 ^ 13) (by omega) (by omega) (Bd.lit (by decide))⟩
  refine sp_l_lowest_mk (ns := [x - s, y - s, z - s, 1 + k]) rfl (fun v hv => (all4 bd v hv).mono (by decide)) (by simp) ?_
  obtain ⟨x', y', z', w', g, e, _, _, _, _, _, fr⟩ := low4 (by omega) bd
  rw [e]
  exact h3 _ _ _ _ fr
noncomputable def sp_l_free : DSp := lock <| sp1 fun a T P _ => ∃ r, a = .ptr r ∧ T r = some .row ∧ ∀ x y z w : Int, IsPt 45 x y z w → P (.tup [.int x, .int y, .int z, .int w]) T
def d_l_free : DS := (dSeq (dAsg (dIx (dLst (dCons (dC (.int 3)) (dCons (dC (.int 1000)) (dCons (dPow (dC (.int 10)) (dC (.int 12))) dNil)))) (dCall sp_l_take (dCons (dVar 0) (dCons (dC (.int 3)) dNil)))) 1) (dSeq (dAsg (dIx (dLst (dCons (dC (.int 1)) (dCons (dC (.int 4)) (dCons (dC (.int 1000)) dNil)))) (dCall sp_l_take (dCons (dVar 0) (dCons (dC (.int 3)) dNil)))) 2) (dRet (dCall sp_l_point (dCons (dVar 0) (dCons (dVar 1) (dCons (dVar 2) dNil)))))))
theorem sp_l_point_mk {r : Addr} {s m : Int} (hr : T r = some .row) (h0 : 0 < s ∧ s ≤ 10 ^ 13 ∧ 0 < m ∧ m ≤ 10 ^ 13) (h : ∀ x y z w : Int, IsPt 45 x y z w → P (.tup [.int x, .int y, .int z, .int w]) T) : sp_l_point [.ptr r, .int s, .int m] T P X := lock_at ⟨r, rfl, hr, h0, h⟩
theorem pure_l_free {N : List Str} (hN : N.length = 3) : ∀ us T P X, sp_l_free us T P X → d_l_free (dend0 P X) (startD N us) T := by
  intro us T P X h
  obtain ⟨a, rfl, h1⟩ := sp1.of (lock_of h)
  obtain ⟨r, rfl, hr, h2⟩ := h1
  have e : startD N [D.ptr r] = [some (.ptr r), none, none] := by unfold startD; rw [hN]; rfl
  rw [e]
  unfold d_l_free
  walk_at "dx"
  refine ⟨⟨by decide, by decide, by decide⟩, sp_take_mk hr (by decide) (Bd.lit (by decide)) fun k k0 k3 => ?_⟩
  refine pick (R := fun d => ∃ i, d = .int i ∧ 0 < i ∧ i ≤ 10 ^ 13) k0 k3 (fun d hd => ?_) fun d ⟨i, ei, i0, i1⟩ => ?_
  · simp only [List.mem_cons, List.not_mem_nil, or_false] at hd
    rcases hd with rfl | rfl | rfl <;> exact ⟨_, rfl, by decide, by decide⟩
  subst ei
  walk_at "dx"
  refine sp_take_mk hr (by decide) (Bd.lit (by decide)) fun k k0 k3 => ?_
  refine pick (R := fun d => ∃ i, d = .int i ∧ 0 < i ∧ i ≤ 10 ^ 13) k0 k3 (fun d hd => ?_) fun d ⟨j, ej, j0, j1⟩ => ?_
  · simp only [List.mem_cons, List.not_mem_nil, or_false] at hd
    rcases hd with rfl | rfl | rfl <;> exact ⟨_, rfl, by decide, by decide⟩
  subst ej
  walk_at "dx"
  exact sp_l_point_mk hr ⟨i0, i1, j0, j1⟩ h2
theorem sp_l_free_mk {r : Addr} (hr : T r = some .row) (h : ∀ x y z w : Int, IsPt 45 x y z w → P (.tup [.int x, .int y, .int z, .int w]) T) : sp_l_free [.ptr r] T P X := lock_at ⟨r, rfl, hr, h⟩
/-- p and the way from r to q -/
noncomputable def sp_l_sum : DSp := lock <| sp3 fun a b c T P _ => ∃ p0 p1 p2 p3 q0 q1 q2 q3 r0 r1 r2 r3 n, V4 T a p0 p1 p2 p3 ∧ V4 T b q0 q1 q2 q3 ∧ V4 T c r0 r1 r2 r3 ∧ B4 n p0 p1 p2 p3 ∧ B4 n q0 q1 q2 q3 ∧ B4 n r0 r1 r2 r3 ∧ n ≤ 2000 ∧
  P (.tup ((lowZ [p0 * q3 * r3 + q0 * p3 * r3 - r0 * p3 * q3, p1 * q3 * r3 + q1 * p3 * r3 - r1 * p3 * q3, p2 * q3 * r3 + q2 * p3 * r3 - r2 * p3 * q3, p3 * q3 * r3]).map .int)) T
def d_l_sum : DS := (dSeq (dAsg (dLstM dNil) 3) (dSeq (dForR1 (dgName 4) (dCons (dC (.int 3)) dNil) (dSeq (dAsg (dAdd (dMul (dMul (dIx (dVar 0) (dVar 4)) (dIx (dVar 1) (dC (.int 3)))) (dIx (dVar 2) (dC (.int 3)))) (dMul (dMul (dIx (dVar 1) (dVar 4)) (dIx (dVar 0) (dC (.int 3)))) (dIx (dVar 2) (dC (.int 3))))) 5) (dDrop (dApp (dVar 3) (dSub (dVar 5) (dMul (dMul (dIx (dVar 2) (dVar 4)) (dIx (dVar 0) (dC (.int 3)))) (dIx (dVar 1) (dC (.int 3))))))))) (dRet (dCall sp_l_lowest (dCons (dAdd (dVar 3) (dLst (dCons (dMul (dMul (dIx (dVar 0) (dC (.int 3))) (dIx (dVar 1) (dC (.int 3)))) (dIx (dVar 2) (dC (.int 3)))) dNil))) dNil)))))
end
end SY

namespace SY
open PySem PySem.Spec PyProof.Rows L2
section
variable {T : Sto} {P : D → Sto → Prop} {X : Xc → Sto → Prop}
theorem seq_off {T : Sto} {a : D} {p : Addr} {m : MO} {ds : List D} (hp : T p = none) (h : seqOf T a = some ds) : seqOf (updT T p m) a = some ds := by
  cases a with
  | ptr q =>
    have h' : mlst (T q) = some ds := h
    show mlst (updT T p m q) = some ds
    by_cases e : q = p
    · subst e; rw [hp] at h'; cases h'
    · rw [updT_ne e]; exact h'
  | _ => exact h
theorem pure_l_sum {K : PySem.W.Frag} {N : List Str} (hN : N.length = 6) : ∀ us T P X, sp_l_sum us T P X → d_l_sum (dend K P X) (startD N us) T := by
  intro us T P X h
  obtain ⟨a, b, c, rfl, h1⟩ := sp3.of (lock_of h)
  obtain ⟨p0, p1, p2, p3, q0, q1, q2, q3, r0, r1, r2, r3, n, ⟨s1, ha⟩, ⟨s2, hb⟩, ⟨s3, hc⟩, bp, bq, br, hn, h2⟩ := h1
  have e : startD N [a, b, c] = [some a, some b, some c, none, none, none] := by unfold startD; rw [hN]; rfl
  rw [e]
  unfold d_l_sum
  walk_at "dx"
  intro p hp
  obtain ⟨pa, pb, pc, pd⟩ := bp.mono hn
  obtain ⟨qa, qb, qc, qd⟩ := bq.mono hn
  obtain ⟨ra, rb, rc, rd⟩ := br.mono hn
  have ha' : ∀ m, seqOf (updT T p m) a = some (.int p0 :: .int p1 :: .int p2 :: .int p3 :: s1) := fun m => seq_off hp ha
  have hb' : ∀ m, seqOf (updT T p m) b = some (.int q0 :: .int q1 :: .int q2 :: .int q3 :: s2) := fun m => seq_off hp hb
  have hc' : ∀ m, seqOf (updT T p m) c = some (.int r0 :: .int r1 :: .int r2 :: .int r3 :: s3) := fun m => seq_off hp hc
  simp only [ha', hb', hc']
  walk_at "dx"
  refine ⟨⟨by decide, by decide⟩, ?_⟩
  walk_at "mos"
  refine sp_l_lowest_mk (ns := [p0 * q3 * r3 + q0 * p3 * r3 - r0 * p3 * q3, p1 * q3 * r3 + q1 * p3 * r3 - r1 * p3 * q3, p2 * q3 * r3 + q2 * p3 * r3 - r2 * p3 * q3, p3 * q3 * r3]) rfl (all4 ⟨by walk_at "bt", by walk_at "bt", by walk_at "bt", by walk_at "bt"⟩) (by simp) ?_
  refine ⟨_, T, Wk.drop fun a m e => ?_, h2⟩
  rw [updT_ne (fun z => by subst z; rw [hp] at e; cases e)]
  exact e
theorem sp_l_sum_mk {a b c : D} {p0 p1 p2 p3 q0 q1 q2 q3 r0 r1 r2 r3 : Int} {n : Nat} (ha : V4 T a p0 p1 p2 p3) (hb : V4 T b q0 q1 q2 q3) (hc : V4 T c r0 r1 r2 r3) (bp : B4 n p0 p1 p2 p3) (bq : B4 n q0 q1 q2 q3) (br : B4 n r0 r1 r2 r3) (hn : n ≤ 2000)
    (h : P (.tup ((lowZ [p0 * q3 * r3 + q0 * p3 * r3 - r0 * p3 * q3, p1 * q3 * r3 + q1 * p3 * r3 - r1 * p3 * q3, p2 * q3 * r3 + q2 * p3 * r3 - r2 * p3 * q3, p3 * q3 * r3]).map .int)) T) : sp_l_sum [a, b, c] T P X := lock_at ⟨_, _, _, _, _, _, _, _, _, _, _, _, n, ha, hb, hc, bp, bq, br, hn, h⟩
/-- k / m of the way from p to q -/
noncomputable def sp_l_along : DSp := lock <| sp4 fun a b c d T P _ => int2 c d fun k m => ∃ p0 p1 p2 p3 q0 q1 q2 q3 n, V4 T a p0 p1 p2 p3 ∧ V4 T b q0 q1 q2 q3 ∧ B4 n p0 p1 p2 p3 ∧ B4 n q0 q1 q2 q3 ∧ Bd 60 k ∧ Bd 60 m ∧ n ≤ 2000 ∧
  P (.tup ((lowZ [p0 * (q3 * (m - k)) + q0 * (p3 * k), p1 * (q3 * (m - k)) + q1 * (p3 * k), p2 * (q3 * (m - k)) + q2 * (p3 * k), m * p3 * q3]).map .int)) T
def d_l_along : DS := (dSeq (dAsg (dMul (dIx (dVar 1) (dC (.int 3))) (dSub (dVar 3) (dVar 2))) 4) (dSeq (dAsg (dMul (dIx (dVar 0) (dC (.int 3))) (dVar 2)) 5) (dSeq (dAsg (dLcR 7 (dCons (dC (.int 3)) dNil) (dAdd (dMul (dIx (dVar 0) (dVar 7)) (dVar 4)) (dMul (dIx (dVar 1) (dVar 7)) (dVar 5)))) 6) (dRet (dCall sp_l_lowest (dCons (dAdd (dVar 6) (dLst (dCons (dMul (dMul (dVar 3) (dIx (dVar 0) (dC (.int 3)))) (dIx (dVar 1) (dC (.int 3)))) dNil))) dNil))))))
theorem pure_l_along {N : List Str} (hN : N.length = 8) : ∀ us T P X, sp_l_along us T P X → d_l_along (dend0 P X) (startD N us) T := by
  intro us T P X h
  obtain ⟨a, b, c, d, rfl, h1⟩ := sp4.of (lock_of h)
  obtain ⟨k, m, rfl, rfl, h1⟩ := int2.of h1
  obtain ⟨p0, p1, p2, p3, q0, q1, q2, q3, n, ⟨s1, ha⟩, ⟨s2, hb⟩, bp, bq, bk, bm, hn, h2⟩ := h1
  have e : startD N [a, b, .int k, .int m] = [some a, some b, some (.int k), some (.int m), none, none, none, none] := by unfold startD; rw [hN]; rfl
  rw [e]
  unfold d_l_along
  obtain ⟨pa, pb, pc, pd⟩ := bp.mono hn
  obtain ⟨qa, qb, qc, qd⟩ := bq.mono hn
  walk_at "dx"
  simp only [ha, hb]
  walk_at "dx"
  walk_at "mos"
  refine ⟨⟨by decide, by decide⟩, ?_⟩
  walk_at "mos"
  exact sp_l_lowest_mk (ns := [p0 * (q3 * (m - k)) + q0 * (p3 * k), p1 * (q3 * (m - k)) + q1 * (p3 * k), p2 * (q3 * (m - k)) + q2 * (p3 * k), m * p3 * q3]) rfl (all4 ⟨by walk_at "bt", by walk_at "bt", by walk_at "bt", by walk_at "bt"⟩) (by simp) h2
theorem sp_l_along_mk {a b : D} {k m p0 p1 p2 p3 q0 q1 q2 q3 : Int} {n : Nat} (ha : V4 T a p0 p1 p2 p3) (hb : V4 T b q0 q1 q2 q3) (bp : B4 n p0 p1 p2 p3) (bq : B4 n q0 q1 q2 q3) (bk : Bd 60 k) (bm : Bd 60 m) (hn : n ≤ 2000)
    (h : P (.tup ((lowZ [p0 * (q3 * (m - k)) + q0 * (p3 * k), p1 * (q3 * (m - k)) + q1 * (p3 * k), p2 * (q3 * (m - k)) + q2 * (p3 * k), m * p3 * q3]).map .int)) T) : sp_l_along [a, b, .int k, .int m] T P X := lock_at ⟨_, _, _, _, _, _, _, _, n, ha, hb, bp, bq, bk, bm, hn, h⟩
/-- halfway -/
noncomputable def sp_l_mid : DSp := lock <| sp2 fun a b T P _ => ∃ p0 p1 p2 p3 q0 q1 q2 q3 n, V4 T a p0 p1 p2 p3 ∧ V4 T b q0 q1 q2 q3 ∧ B4 n p0 p1 p2 p3 ∧ B4 n q0 q1 q2 q3 ∧ n ≤ 2000 ∧
  P (.tup ((lowZ [p0 * q3 + q0 * p3, p1 * q3 + q1 * p3, p2 * q3 + q2 * p3, 2 * p3 * q3]).map .int)) T
def d_l_mid : DS := (dSeq (dAsg (dLcR 3 (dCons (dC (.int 3)) dNil) (dAdd (dMul (dIx (dVar 0) (dVar 3)) (dIx (dVar 1) (dC (.int 3)))) (dMul (dIx (dVar 1) (dVar 3)) (dIx (dVar 0) (dC (.int 3)))))) 2) (dRet (dCall sp_l_lowest (dCons (dAdd (dVar 2) (dLst (dCons (dMul (dMul (dC (.int 2)) (dIx (dVar 0) (dC (.int 3)))) (dIx (dVar 1) (dC (.int 3)))) dNil))) dNil))))
theorem pure_l_mid {N : List Str} (hN : N.length = 4) : ∀ us T P X, sp_l_mid us T P X → d_l_mid (dend0 P X) (startD N us) T := by
  intro us T P X h
  obtain ⟨a, b, rfl, h1⟩ := sp2.of (lock_of h)
  obtain ⟨p0, p1, p2, p3, q0, q1, q2, q3, n, ⟨s1, ha⟩, ⟨s2, hb⟩, bp, bq, hn, h2⟩ := h1
  have e : startD N [a, b] = [some a, some b, none, none] := by unfold startD; rw [hN]; rfl
  rw [e]
  unfold d_l_mid
  obtain ⟨pa, pb, pc, pd⟩ := bp.mono hn
  obtain ⟨qa, qb, qc, qd⟩ := bq.mono hn
  walk_at "dx"
  simp only [ha, hb]
  walk_at "dx"
  refine ⟨⟨by decide, by decide⟩, ?_⟩
  walk_at "mos"
  exact sp_l_lowest_mk (ns := [p0 * q3 + q0 * p3, p1 * q3 + q1 * p3, p2 * q3 + q2 * p3, 2 * p3 * q3]) rfl (all4 ⟨by walk_at "bt", by walk_at "bt", by walk_at "bt", by walk_at "bt"⟩) (by simp) h2
theorem sp_l_mid_mk {a b : D} {p0 p1 p2 p3 q0 q1 q2 q3 : Int} {n : Nat} (ha : V4 T a p0 p1 p2 p3) (hb : V4 T b q0 q1 q2 q3) (bp : B4 n p0 p1 p2 p3) (bq : B4 n q0 q1 q2 q3) (hn : n ≤ 2000)
    (h : P (.tup ((lowZ [p0 * q3 + q0 * p3, p1 * q3 + q1 * p3, p2 * q3 + q2 * p3, 2 * p3 * q3]).map .int)) T) : sp_l_mid [a, b] T P X := lock_at ⟨_, _, _, _, _, _, _, _, n, ha, hb, bp, bq, hn, h⟩
/-- a tuple of so many whole numbers; the same as the due one -/
noncomputable def sp_l_wholes : DSp := lock <| sp2 fun a b T P _ => ∃ ns : List Int, a = .tup (ns.map .int) ∧ ns.length ≤ 1000 ∧ int1 b fun m => P (.bl (decide ((ns.length : Int) = m))) T
def d_l_wholes : DS := (dSeq (dIf (dtOr (dtNot (dTst (dIsi "tuple" (dVar 0)))) (dTst (dNe (dLen (dVar 0)) (dVar 1)))) (dRet (dC (.bl false))) dNext) (dRet (dAll (dLc 2 (dVar 0) (dCall sp_l_whole (dCons (dVar 2) dNil))))))
theorem bls_true : ∀ ns : List Int, blsOf ((ns.map D.int).map fun _ => D.bl true) = some (ns.map fun _ => true)
  | [] => rfl
  | n :: ns => by
    show (blsOf ((ns.map D.int).map fun _ => D.bl true)).map (true :: ·) = _
    rw [bls_true ns]
    rfl
theorem pure_l_wholes {N : List Str} (hN : N.length = 3) : ∀ us T P X, sp_l_wholes us T P X → d_l_wholes (dend0 P X) (startD N us) T := by
  intro us T P X h
  obtain ⟨a, b, rfl, h1⟩ := sp2.of (lock_of h)
  obtain ⟨ns, rfl, hl, h1⟩ := h1
  obtain ⟨m, rfl, h2⟩ := int1.of h1
  have e : startD N [D.tup (ns.map .int), .int m] = [some (.tup (ns.map .int)), some (.int m), none] := by unfold startD; rw [hN]; rfl
  rw [e]
  unfold d_l_wholes
  walk_at "dx"
  simp only [List.length_map]
  by_cases hm : (ns.length : Int) = m
  · rw [decide_eq_true hm] at h2 ⊢
    walk_at "dx"
    refine ⟨by omega, ?_⟩
    refine lcL_map (f := fun _ => .bl true) (ns.map .int) [] (fun d hd P X hp => ?_) ?_
    · obtain ⟨n, _, rfl⟩ := List.mem_map.mp hd
      walk_at "dx"
      rw [sp_l_whole_eq]
      exact hp
    · rw [List.nil_append, bls_true]
      show P (.bl ((ns.map fun _ => true).all id)) T
      have : (ns.map fun _ => true).all id = true := by simp
      rw [this]
      exact h2
  · rw [decide_eq_false hm] at h2 ⊢
    walk_at "dx"
    exact h2
noncomputable def sp_l_same : DSp := lock <| sp2 fun a b T P _ => ∃ ns ms : List Int, a = .tup (ns.map .int) ∧ b = .tup (ms.map .int) ∧ ns.length ≤ 1000 ∧ eqOk a = true ∧ eqOk b = true ∧ P (.bl (decide (ns = ms))) T
def d_l_same : DS := (dRet (dAnd (dCall sp_l_wholes (dCons (dVar 0) (dCons (dLen (dVar 1)) dNil))) (dEq (dVar 0) (dVar 1))))
theorem pure_l_same {N : List Str} (hN : N.length = 2) : ∀ us T P X, sp_l_same us T P X → d_l_same (dend0 P X) (startD N us) T := by
  intro us T P X h
  obtain ⟨a, b, rfl, h1⟩ := sp2.of (lock_of h)
  obtain ⟨ns, ms, rfl, rfl, hl, o1, o2, h2⟩ := h1
  have e : startD N [D.tup (ns.map .int), .tup (ms.map .int)] = [some (.tup (ns.map .int)), some (.tup (ms.map .int))] := by unfold startD; rw [hN]; rfl
  rw [e]
  unfold d_l_same
  walk_at "dx"
  refine lock_at ⟨ns, rfl, hl, ?_⟩
  walk_at "dx"
  by_cases hm : (ns.length : Int) = ((ms.map D.int).length : Int)
  · rw [decide_eq_true hm]
    walk_at "dx"
    rw [o1, o2, eqv_tup]
    exact ⟨⟨rfl, rfl⟩, h2⟩
  · rw [decide_eq_false hm]
    walk_at "dx"
    have : ¬ ns = ms := fun z => hm (by rw [z, List.length_map])
    rw [decide_eq_false this] at h2
    exact h2
theorem sp_l_same_mk {ns ms : List Int} {a b : D} (ha : a = .tup (ns.map .int)) (hb : b = .tup (ms.map .int)) (hl : ns.length ≤ 1000) (o1 : eqOk a = true) (o2 : eqOk b = true) (h : P (.bl (decide (ns = ms))) T) : sp_l_same [a, b] T P X := lock_at ⟨ns, ms, ha, hb, hl, o1, o2, h⟩
end
end SY

namespace SY
open PySem PySem.Spec PyProof.Rows L2
section
variable {T : Sto} {P : D → Sto → Prop} {X : Xc → Sto → Prop}
/-- point of four numbers -/
noncomputable def sp_point : DSp := lock <| sp4 fun a b c d T P X => int2 a b fun x y => int2 c d fun z w => if w = 0 then X "LastNought" T else B4 8000 x y z w ∧ P (.tup ((if w < 0 then (lowZ [-x, -y, -z, -w]).map .int else (lowZ [x, y, z, w]).map .int))) T
def d_point : DS := (dSeq (dIf (dTst (dEq (dVar 3) (dC (.int 0)))) (dRaise "LastNought") dNext) (dSeq (dIf (dTst (dLt (dVar 3) (dC (.int 0)))) (dRet (dCall sp_lowest (dCons (dTup (dCons (dNeg (dVar 0)) (dCons (dNeg (dVar 1)) (dCons (dNeg (dVar 2)) (dCons (dNeg (dVar 3)) dNil))))) dNil))) dNext) (dRet (dCall sp_lowest (dCons (dTup (dCons (dVar 0) (dCons (dVar 1) (dCons (dVar 2) (dCons (dVar 3) dNil))))) dNil)))))
theorem pure_point {N : List Str} (hN : N.length = 4) : ∀ us T P X, sp_point us T P X → d_point (dend0 P X) (startD N us) T := by
  intro us T P X h
  obtain ⟨a, b, c, d, rfl, h1⟩ := sp4.of (lock_of h)
  obtain ⟨x, y, rfl, rfl, h3⟩ := int2.of h1
  obtain ⟨z, w, rfl, rfl, h2⟩ := int2.of h3
  have e : startD N [D.int x, D.int y, D.int z, D.int w] = [some (.int x), some (.int y), some (.int z), some (.int w)] := by unfold startD; rw [hN]; rfl
  rw [e]
  unfold d_point
  walk_at "dx"
  by_cases hw : w = 0
  · rw [if_pos hw] at h2
    rw [decide_eq_true hw]
    walk_at "dx"
    exact h2
  rw [if_neg hw] at h2
  obtain ⟨bd, h2⟩ := h2
  rw [decide_eq_false hw]
  walk_at "dx"
  by_cases h0 : w < 0
  · rw [if_pos h0] at h2
    rw [decide_eq_true h0]
    walk_at "dx"
    exact sp_lowest_mk (ns := [-x, -y, -z, -w]) rfl (all4 ⟨bd.1.neg, bd.2.1.neg, bd.2.2.1.neg, bd.2.2.2.neg⟩) (by simp) h2
  · rw [if_neg h0] at h2
    rw [decide_eq_false h0]
    walk_at "dx"
    exact sp_lowest_mk (ns := [x, y, z, w]) rfl (all4 bd) (by simp) h2
theorem sp_point_mk {x y z w : Int} (hw : 0 < w) (bd : B4 8000 x y z w) (h : P (.tup ((lowZ [x, y, z, w]).map .int)) T) : sp_point [.int x, .int y, .int z, .int w] T P X := by
  refine lock_at ?_
  show if w = 0 then _ else _
  rw [if_neg (by omega)]
  refine ⟨bd, ?_⟩
  rw [if_neg (show ¬ w < 0 by omega)]
  exact h
theorem sp_point_mkN {x y z w : Int} (hw : w < 0) (bd : B4 8000 x y z w) (h : P (.tup ((lowZ [-x, -y, -z, -w]).map .int)) T) : sp_point [.int x, .int y, .int z, .int w] T P X := by
  refine lock_at ?_
  show if w = 0 then _ else _
  rw [if_neg (by omega)]
  refine ⟨bd, ?_⟩
  rw [if_pos hw]
  exact h
theorem sp_point_mk0 {x y z w : Int} (hw : w = 0) (h : X "LastNought" T) : sp_point [.int x, .int y, .int z, .int w] T P X := by
  refine lock_at ?_
  show if w = 0 then _ else _
  rw [if_pos hw]
  exact h
noncomputable def sp_amid : DSp := lock <| sp2 fun a b T P _ => ∃ p0 p1 p2 p3 q0 q1 q2 q3 n, V4 T a p0 p1 p2 p3 ∧ V4 T b q0 q1 q2 q3 ∧ 0 < p3 ∧ 0 < q3 ∧ B4 n p0 p1 p2 p3 ∧ B4 n q0 q1 q2 q3 ∧ n ≤ 2000 ∧
  P (.tup ((lowZ [p0 * q3 + q0 * p3, p1 * q3 + q1 * p3, p2 * q3 + q2 * p3, 2 * p3 * q3]).map .int)) T
def d_amid : DS := (dSeq (dAsg (dAdd (dMul (dIx (dVar 0) (dC (.int 0))) (dIx (dVar 1) (dC (.int 3)))) (dMul (dIx (dVar 1) (dC (.int 0))) (dIx (dVar 0) (dC (.int 3))))) 2) (dSeq (dAsg (dAdd (dMul (dIx (dVar 0) (dC (.int 1))) (dIx (dVar 1) (dC (.int 3)))) (dMul (dIx (dVar 1) (dC (.int 1))) (dIx (dVar 0) (dC (.int 3))))) 3) (dSeq (dAsg (dAdd (dMul (dIx (dVar 0) (dC (.int 2))) (dIx (dVar 1) (dC (.int 3)))) (dMul (dIx (dVar 1) (dC (.int 2))) (dIx (dVar 0) (dC (.int 3))))) 4) (dRet (dCall sp_point (dCons (dVar 2) (dCons (dVar 3) (dCons (dVar 4) (dCons (dMul (dMul (dC (.int 2)) (dIx (dVar 0) (dC (.int 3)))) (dIx (dVar 1) (dC (.int 3)))) dNil)))))))))
theorem pure_amid {N : List Str} (hN : N.length = 5) : ∀ us T P X, sp_amid us T P X → d_amid (dend0 P X) (startD N us) T := by
  intro us T P X h
  obtain ⟨a, b, rfl, h1⟩ := sp2.of (lock_of h)
  obtain ⟨p0, p1, p2, p3, q0, q1, q2, q3, n, ⟨s1, ha⟩, ⟨s2, hb⟩, hp, hq, bp, bq, hn, h2⟩ := h1
  have e : startD N [a, b] = [some a, some b, none, none, none] := by unfold startD; rw [hN]; rfl
  rw [e]
  unfold d_amid
  obtain ⟨pa, pb, pc, pd⟩ := bp.mono hn
  obtain ⟨qa, qb, qc, qd⟩ := bq.mono hn
  walk_at "dx"
  simp only [ha, hb]
  walk_at "dx"
  walk_at "mos"
  exact sp_point_mk (Int.mul_pos (Int.mul_pos (by decide) hp) hq) ⟨by walk_at "bt", by walk_at "bt", by walk_at "bt", by walk_at "bt"⟩ h2
theorem sp_amid_mk {a b : D} {p0 p1 p2 p3 q0 q1 q2 q3 : Int} {n : Nat} (ha : V4 T a p0 p1 p2 p3) (hb : V4 T b q0 q1 q2 q3) (hp : 0 < p3) (hq : 0 < q3) (bp : B4 n p0 p1 p2 p3) (bq : B4 n q0 q1 q2 q3) (hn : n ≤ 2000)
    (h : P (.tup ((lowZ [p0 * q3 + q0 * p3, p1 * q3 + q1 * p3, p2 * q3 + q2 * p3, 2 * p3 * q3]).map .int)) T) : sp_amid [a, b] T P X := lock_at ⟨_, _, _, _, _, _, _, _, n, ha, hb, hp, hq, bp, bq, hn, h⟩
end
end SY

namespace SY
open PySem PySem.Spec PyProof.Rows L2
def tr3 (u0 u1 u2 v0 v1 v2 t0 t1 t2 : Int) : Int := u0 * (v1 * t2 - v2 * t1) + u1 * (v2 * t0 - v0 * t2) + u2 * (v0 * t1 - v1 * t0)
def t4 (p0 p1 p2 p3 q0 q1 q2 q3 r0 r1 r2 r3 s0 s1 s2 s3 : Int) : Int := p3 * tr3 q0 q1 q2 r0 r1 r2 s0 s1 s2 - q3 * tr3 p0 p1 p2 r0 r1 r2 s0 s1 s2 + r3 * tr3 p0 p1 p2 q0 q1 q2 s0 s1 s2 - s3 * tr3 p0 p1 p2 q0 q1 q2 r0 r1 r2
theorem t4_arrow (p0 p1 p2 p3 q0 q1 q2 q3 r0 r1 r2 r3 s0 s1 s2 s3 : Int) :
    ((q1 * p3 - p1 * q3) * (r2 * p3 - p2 * r3) - (q2 * p3 - p2 * q3) * (r1 * p3 - p1 * r3)) * (s0 * p3 - p0 * s3) + ((q2 * p3 - p2 * q3) * (r0 * p3 - p0 * r3) - (q0 * p3 - p0 * q3) * (r2 * p3 - p2 * r3)) * (s1 * p3 - p1 * s3) + ((q0 * p3 - p0 * q3) * (r1 * p3 - p1 * r3) - (q1 * p3 - p1 * q3) * (r0 * p3 - p0 * r3)) * (s2 * p3 - p2 * s3) = p3 * p3 * t4 p0 p1 p2 p3 q0 q1 q2 q3 r0 r1 r2 r3 s0 s1 s2 s3 := by
  unfold t4 tr3
  grind
theorem sign_pos_mul {a b : Int} (h : 0 < a) : (a * b).sign = b.sign := by
  rw [Int.sign_mul, Int.sign_eq_one_of_pos h, Int.one_mul]
theorem sign_ifs (x : Int) : ((if decide (0 < x) = true then 1 else 0) - (if decide (x < 0) = true then 1 else 0) : Int) = x.sign := by
  by_cases h0 : x < 0
  · rw [Int.sign_eq_neg_one_of_neg h0, decide_eq_true h0, decide_eq_false (show ¬ 0 < x by omega)]; rfl
  · by_cases h1 : 0 < x
    · rw [Int.sign_eq_one_of_pos h1, decide_eq_false h0, decide_eq_true h1]; rfl
    · have : x = 0 := by omega
      subst this; rfl
section
variable {T : Sto} {P : D → Sto → Prop} {X : Xc → Sto → Prop}
theorem B3.b4 {n : Nat} {a b c d : Int} (h : B3 n a b c) (hd : Bd n d) : B4 n a b c d := ⟨h.1, h.2.1, h.2.2, hd⟩
noncomputable def sp_arrow : DSp := lock <| sp2 fun a b T P _ => ∃ p0 p1 p2 p3 q0 q1 q2 q3 n, V4 T a p0 p1 p2 p3 ∧ V4 T b q0 q1 q2 q3 ∧ B4 n p0 p1 p2 p3 ∧ B4 n q0 q1 q2 q3 ∧ n ≤ 20000 ∧
  P (.tup [.int (q0 * p3 - p0 * q3), .int (q1 * p3 - p1 * q3), .int (q2 * p3 - p2 * q3)]) T
def d_arrow : DS := (dSeq (dAsg (dSub (dMul (dIx (dVar 1) (dC (.int 0))) (dIx (dVar 0) (dC (.int 3)))) (dMul (dIx (dVar 0) (dC (.int 0))) (dIx (dVar 1) (dC (.int 3))))) 2) (dSeq (dAsg (dSub (dMul (dIx (dVar 1) (dC (.int 1))) (dIx (dVar 0) (dC (.int 3)))) (dMul (dIx (dVar 0) (dC (.int 1))) (dIx (dVar 1) (dC (.int 3))))) 3) (dSeq (dAsg (dSub (dMul (dIx (dVar 1) (dC (.int 2))) (dIx (dVar 0) (dC (.int 3)))) (dMul (dIx (dVar 0) (dC (.int 2))) (dIx (dVar 1) (dC (.int 3))))) 4) (dRet (dTup (dCons (dVar 2) (dCons (dVar 3) (dCons (dVar 4) dNil))))))))
theorem pure_arrow {N : List Str} (hN : N.length = 5) : ∀ us T P X, sp_arrow us T P X → d_arrow (dend0 P X) (startD N us) T := by
  intro us T P X h
  obtain ⟨a, b, rfl, h1⟩ := sp2.of (lock_of h)
  obtain ⟨p0, p1, p2, p3, q0, q1, q2, q3, n, ⟨s1, ha⟩, ⟨s2, hb⟩, bp, bq, hn, h2⟩ := h1
  have e : startD N [a, b] = [some a, some b, none, none, none] := by unfold startD; rw [hN]; rfl
  rw [e]
  unfold d_arrow
  obtain ⟨pa, pb, pc, pd⟩ := bp.mono hn
  obtain ⟨qa, qb, qc, qd⟩ := bq.mono hn
  walk_at "dx"
  simp only [ha, hb]
  walk_at "dx"
  walk_at "mos"
  exact h2
theorem sp_arrow_mk {a b : D} {p0 p1 p2 p3 q0 q1 q2 q3 : Int} {n : Nat} (ha : V4 T a p0 p1 p2 p3) (hb : V4 T b q0 q1 q2 q3) (bp : B4 n p0 p1 p2 p3) (bq : B4 n q0 q1 q2 q3) (hn : n ≤ 20000)
    (h : P (.tup [.int (q0 * p3 - p0 * q3), .int (q1 * p3 - p1 * q3), .int (q2 * p3 - p2 * q3)]) T) : sp_arrow [a, b] T P X := lock_at ⟨_, _, _, _, _, _, _, _, n, ha, hb, bp, bq, hn, h⟩
noncomputable def sp_cross : DSp := lock <| sp2 fun a b T P _ => ∃ u0 u1 u2 v0 v1 v2 n, V3 T a u0 u1 u2 ∧ V3 T b v0 v1 v2 ∧ B3 n u0 u1 u2 ∧ B3 n v0 v1 v2 ∧ n ≤ 60000 ∧
  P (.tup [.int (u1 * v2 - u2 * v1), .int (u2 * v0 - u0 * v2), .int (u0 * v1 - u1 * v0)]) T
def d_cross : DS := (dSeq (dAsg (dSub (dMul (dIx (dVar 0) (dC (.int 1))) (dIx (dVar 1) (dC (.int 2)))) (dMul (dIx (dVar 0) (dC (.int 2))) (dIx (dVar 1) (dC (.int 1))))) 2) (dSeq (dAsg (dSub (dMul (dIx (dVar 0) (dC (.int 2))) (dIx (dVar 1) (dC (.int 0)))) (dMul (dIx (dVar 0) (dC (.int 0))) (dIx (dVar 1) (dC (.int 2))))) 3) (dSeq (dAsg (dSub (dMul (dIx (dVar 0) (dC (.int 0))) (dIx (dVar 1) (dC (.int 1)))) (dMul (dIx (dVar 0) (dC (.int 1))) (dIx (dVar 1) (dC (.int 0))))) 4) (dRet (dTup (dCons (dVar 2) (dCons (dVar 3) (dCons (dVar 4) dNil))))))))
theorem pure_cross {N : List Str} (hN : N.length = 5) : ∀ us T P X, sp_cross us T P X → d_cross (dend0 P X) (startD N us) T := by
  intro us T P X h
  obtain ⟨a, b, rfl, h1⟩ := sp2.of (lock_of h)
  obtain ⟨u0, u1, u2, v0, v1, v2, n, ⟨s1, ha⟩, ⟨s2, hb⟩, bp, bq, hn, h2⟩ := h1
  have e : startD N [a, b] = [some a, some b, none, none, none] := by unfold startD; rw [hN]; rfl
  rw [e]
  unfold d_cross
  obtain ⟨pa, pb, pc⟩ := bp.mono hn
  obtain ⟨qa, qb, qc⟩ := bq.mono hn
  walk_at "dx"
  simp only [ha, hb]
  walk_at "dx"
  walk_at "mos"
  exact h2
theorem sp_cross_mk {a b : D} {u0 u1 u2 v0 v1 v2 : Int} {n : Nat} (ha : V3 T a u0 u1 u2) (hb : V3 T b v0 v1 v2) (bu : B3 n u0 u1 u2) (bv : B3 n v0 v1 v2) (hn : n ≤ 60000)
    (h : P (.tup [.int (u1 * v2 - u2 * v1), .int (u2 * v0 - u0 * v2), .int (u0 * v1 - u1 * v0)]) T) : sp_cross [a, b] T P X := lock_at ⟨_, _, _, _, _, _, n, ha, hb, bu, bv, hn, h⟩
noncomputable def sp_l_cross : DSp := lock <| sp2 fun a b T P _ => ∃ u0 u1 u2 v0 v1 v2 n, V3 T a u0 u1 u2 ∧ V3 T b v0 v1 v2 ∧ B3 n u0 u1 u2 ∧ B3 n v0 v1 v2 ∧ n ≤ 60000 ∧
  P (.lst [.int (u1 * v2 - u2 * v1), .int (u2 * v0 - u0 * v2), .int (u0 * v1 - u1 * v0)]) T
def d_l_cross : DS := (dSeq (dAsg (dSub (dMul (dIx (dVar 0) (dC (.int 1))) (dIx (dVar 1) (dC (.int 2)))) (dMul (dIx (dVar 0) (dC (.int 2))) (dIx (dVar 1) (dC (.int 1))))) 2) (dSeq (dAsg (dSub (dMul (dIx (dVar 0) (dC (.int 2))) (dIx (dVar 1) (dC (.int 0)))) (dMul (dIx (dVar 0) (dC (.int 0))) (dIx (dVar 1) (dC (.int 2))))) 3) (dSeq (dAsg (dSub (dMul (dIx (dVar 0) (dC (.int 0))) (dIx (dVar 1) (dC (.int 1)))) (dMul (dIx (dVar 0) (dC (.int 1))) (dIx (dVar 1) (dC (.int 0))))) 4) (dRet (dLst (dCons (dVar 2) (dCons (dVar 3) (dCons (dVar 4) dNil))))))))
theorem pure_l_cross {N : List Str} (hN : N.length = 5) : ∀ us T P X, sp_l_cross us T P X → d_l_cross (dend0 P X) (startD N us) T := by
  intro us T P X h
  obtain ⟨a, b, rfl, h1⟩ := sp2.of (lock_of h)
  obtain ⟨u0, u1, u2, v0, v1, v2, n, ⟨s1, ha⟩, ⟨s2, hb⟩, bp, bq, hn, h2⟩ := h1
  have e : startD N [a, b] = [some a, some b, none, none, none] := by unfold startD; rw [hN]; rfl
  rw [e]
  unfold d_l_cross
  obtain ⟨pa, pb, pc⟩ := bp.mono hn
  obtain ⟨qa, qb, qc⟩ := bq.mono hn
  walk_at "dx"
  simp only [ha, hb]
  walk_at "dx"
  walk_at "mos"
  exact h2
theorem sp_l_cross_mk {a b : D} {u0 u1 u2 v0 v1 v2 : Int} {n : Nat} (ha : V3 T a u0 u1 u2) (hb : V3 T b v0 v1 v2) (bu : B3 n u0 u1 u2) (bv : B3 n v0 v1 v2) (hn : n ≤ 60000)
    (h : P (.lst [.int (u1 * v2 - u2 * v1), .int (u2 * v0 - u0 * v2), .int (u0 * v1 - u1 * v0)]) T) : sp_l_cross [a, b] T P X := lock_at ⟨_, _, _, _, _, _, n, ha, hb, bu, bv, hn, h⟩
noncomputable def sp_dot : DSp := lock <| sp2 fun a b T P _ => ∃ u0 u1 u2 v0 v1 v2 n, V3 T a u0 u1 u2 ∧ V3 T b v0 v1 v2 ∧ B3 n u0 u1 u2 ∧ B3 n v0 v1 v2 ∧ n ≤ 200000 ∧ P (.int (u0 * v0 + u1 * v1 + u2 * v2)) T
def d_dot : DS := (dRet (dAdd (dAdd (dMul (dIx (dVar 0) (dC (.int 0))) (dIx (dVar 1) (dC (.int 0)))) (dMul (dIx (dVar 0) (dC (.int 1))) (dIx (dVar 1) (dC (.int 1))))) (dMul (dIx (dVar 0) (dC (.int 2))) (dIx (dVar 1) (dC (.int 2))))))
theorem pure_dot {N : List Str} (hN : N.length = 2) : ∀ us T P X, sp_dot us T P X → d_dot (dend0 P X) (startD N us) T := by
  intro us T P X h
  obtain ⟨a, b, rfl, h1⟩ := sp2.of (lock_of h)
  obtain ⟨u0, u1, u2, v0, v1, v2, n, ⟨s1, ha⟩, ⟨s2, hb⟩, bp, bq, hn, h2⟩ := h1
  have e : startD N [a, b] = [some a, some b] := by unfold startD; rw [hN]; rfl
  rw [e]
  unfold d_dot
  obtain ⟨pa, pb, pc⟩ := bp.mono hn
  obtain ⟨qa, qb, qc⟩ := bq.mono hn
  walk_at "dx"
  simp only [ha, hb]
  walk_at "dx"
  walk_at "mos"
  exact h2
theorem sp_dot_mk {a b : D} {u0 u1 u2 v0 v1 v2 : Int} {n : Nat} (ha : V3 T a u0 u1 u2) (hb : V3 T b v0 v1 v2) (bu : B3 n u0 u1 u2) (bv : B3 n v0 v1 v2) (hn : n ≤ 200000)
    (h : P (.int (u0 * v0 + u1 * v1 + u2 * v2)) T) : sp_dot [a, b] T P X := lock_at ⟨_, _, _, _, _, _, n, ha, hb, bu, bv, hn, h⟩
noncomputable def sp_sign_of : DSp := lock <| sp1 fun a T P _ => int1 a fun x => P (.int x.sign) T
def d_sign_of : DS := (dSeq (dIf (dTst (dLt (dVar 0) (dC (.int 0)))) (dRet (dNeg (dC (.int 1)))) dNext) (dSeq (dIf (dTst (dGt (dVar 0) (dC (.int 0)))) (dRet (dC (.int 1))) dNext) (dRet (dC (.int 0)))))
theorem pure_sign_of {N : List Str} (hN : N.length = 1) : ∀ us T P X, sp_sign_of us T P X → d_sign_of (dend0 P X) (startD N us) T := by
  intro us T P X h
  obtain ⟨a, rfl, h1⟩ := sp1.of (lock_of h)
  obtain ⟨x, rfl, h2⟩ := int1.of h1
  have e : startD N [D.int x] = [some (.int x)] := by unfold startD; rw [hN]; rfl
  rw [e]
  unfold d_sign_of
  walk_at "dx"
  by_cases h0 : x < 0
  · rw [Int.sign_eq_neg_one_of_neg h0] at h2
    rw [decide_eq_true h0]
    walk_at "dx"
    exact h2
  · rw [decide_eq_false h0]
    walk_at "dx"
    by_cases h3 : 0 < x
    · rw [Int.sign_eq_one_of_pos h3] at h2
      rw [decide_eq_true h3]
      walk_at "dx"
      exact h2
    · have : x = 0 := by omega
      subst this
      exact h2
theorem sp_sign_of_mk {x : Int} (h : P (.int x.sign) T) : sp_sign_of [.int x] T P X := lock_at h
noncomputable def sp_turn : DSp := lock <| sp4 fun a b c d T P _ => ∃ p0 p1 p2 p3 q0 q1 q2 q3 r0 r1 r2 r3 s0 s1 s2 s3 n, V4 T a p0 p1 p2 p3 ∧ V4 T b q0 q1 q2 q3 ∧ V4 T c r0 r1 r2 r3 ∧ V4 T d s0 s1 s2 s3 ∧ 0 < p3 ∧ B4 n p0 p1 p2 p3 ∧ B4 n q0 q1 q2 q3 ∧ B4 n r0 r1 r2 r3 ∧ B4 n s0 s1 s2 s3 ∧ n ≤ 20000 ∧
  P (.int (t4 p0 p1 p2 p3 q0 q1 q2 q3 r0 r1 r2 r3 s0 s1 s2 s3).sign) T
def d_turn : DS := (dRet (dCall sp_sign_of (dCons (dCall sp_dot (dCons (dCall sp_cross (dCons (dCall sp_arrow (dCons (dVar 0) (dCons (dVar 1) dNil))) (dCons (dCall sp_arrow (dCons (dVar 0) (dCons (dVar 2) dNil))) dNil))) (dCons (dCall sp_arrow (dCons (dVar 0) (dCons (dVar 3) dNil))) dNil))) dNil)))
theorem pure_turn {N : List Str} (hN : N.length = 4) : ∀ us T P X, sp_turn us T P X → d_turn (dend0 P X) (startD N us) T := by
  intro us T P X h
  obtain ⟨a, b, c, d, rfl, h1⟩ := sp4.of (lock_of h)
  obtain ⟨p0, p1, p2, p3, q0, q1, q2, q3, r0, r1, r2, r3, s0, s1, s2, s3, n, ha, hb, hc, hd, hp, bp, bq, br, bs, hn, h2⟩ := h1
  have e : startD N [a, b, c, d] = [some a, some b, some c, some d] := by unfold startD; rw [hN]; rfl
  rw [e]
  unfold d_turn
  obtain ⟨pa, pb, pc, pd⟩ := bp.mono hn
  obtain ⟨qa, qb, qc, qd⟩ := bq.mono hn
  obtain ⟨ra, rb, rc, rd⟩ := br.mono hn
  obtain ⟨sa, sb, sc, sd⟩ := bs.mono hn
  walk_at "dx"
  refine sp_arrow_mk ha hb bp bq hn ?_
  walk_at "dx"
  refine sp_arrow_mk ha hc bp br hn ?_
  walk_at "dx"
  refine sp_cross_mk (n := 50000) ⟨_, rfl⟩ ⟨_, rfl⟩ ⟨by walk_at "bt", by walk_at "bt", by walk_at "bt"⟩ ⟨by walk_at "bt", by walk_at "bt", by walk_at "bt"⟩ (by decide) ?_
  walk_at "dx"
  refine sp_arrow_mk ha hd bp bs hn ?_
  walk_at "dx"
  refine sp_dot_mk (n := 200000) ⟨_, rfl⟩ ⟨_, rfl⟩ ⟨by walk_at "bt", by walk_at "bt", by walk_at "bt"⟩ ⟨by walk_at "bt", by walk_at "bt", by walk_at "bt"⟩ (by decide) ?_
  walk_at "dx"
  refine sp_sign_of_mk ?_
  rw [t4_arrow, sign_pos_mul (Int.mul_pos hp hp)]
  exact h2
theorem sp_turn_mk {a b c d : D} {p0 p1 p2 p3 q0 q1 q2 q3 r0 r1 r2 r3 s0 s1 s2 s3 : Int} {n : Nat} (ha : V4 T a p0 p1 p2 p3) (hb : V4 T b q0 q1 q2 q3) (hc : V4 T c r0 r1 r2 r3) (hd : V4 T d s0 s1 s2 s3) (hp : 0 < p3) (bp : B4 n p0 p1 p2 p3) (bq : B4 n q0 q1 q2 q3) (br : B4 n r0 r1 r2 r3) (bs : B4 n s0 s1 s2 s3) (hn : n ≤ 20000)
    (h : P (.int (t4 p0 p1 p2 p3 q0 q1 q2 q3 r0 r1 r2 r3 s0 s1 s2 s3).sign) T) : sp_turn [a, b, c, d] T P X := lock_at ⟨_, _, _, _, _, _, _, _, _, _, _, _, _, _, _, _, n, ha, hb, hc, hd, hp, bp, bq, br, bs, hn, h⟩
noncomputable def sp_l_three : DSp := lock <| sp3 fun a b c T P _ => ∃ u0 u1 u2 v0 v1 v2 t0 t1 t2 n, V3 T a u0 u1 u2 ∧ V3 T b v0 v1 v2 ∧ V3 T c t0 t1 t2 ∧ B3 n u0 u1 u2 ∧ B3 n v0 v1 v2 ∧ B3 n t0 t1 t2 ∧ n ≤ 60000 ∧ P (.int (tr3 u0 u1 u2 v0 v1 v2 t0 t1 t2)) T
def d_l_three : DS := (dRet (dCall sp_dot (dCons (dVar 0) (dCons (dCall sp_l_cross (dCons (dVar 1) (dCons (dVar 2) dNil))) dNil))))
theorem pure_l_three {N : List Str} (hN : N.length = 3) : ∀ us T P X, sp_l_three us T P X → d_l_three (dend0 P X) (startD N us) T := by
  intro us T P X h
  obtain ⟨a, b, c, rfl, h1⟩ := sp3.of (lock_of h)
  obtain ⟨u0, u1, u2, v0, v1, v2, t0, t1, t2, n, ha, hb, hc, bu, bv, bt, hn, h2⟩ := h1
  have e : startD N [a, b, c] = [some a, some b, some c] := by unfold startD; rw [hN]; rfl
  rw [e]
  unfold d_l_three
  obtain ⟨va, vb, vc⟩ := bv.mono hn
  obtain ⟨ta, tb, tc⟩ := bt.mono hn
  walk_at "dx"
  refine sp_l_cross_mk hb hc bv bt hn ?_
  walk_at "dx"
  exact sp_dot_mk (n := 200000) ha ⟨_, rfl⟩ (bu.mono (by omega)) ⟨by walk_at "bt", by walk_at "bt", by walk_at "bt"⟩ (by decide) h2
theorem sp_l_three_mk {a b c : D} {u0 u1 u2 v0 v1 v2 t0 t1 t2 : Int} {n : Nat} (ha : V3 T a u0 u1 u2) (hb : V3 T b v0 v1 v2) (hc : V3 T c t0 t1 t2) (bu : B3 n u0 u1 u2) (bv : B3 n v0 v1 v2) (bt : B3 n t0 t1 t2) (hn : n ≤ 60000)
    (h : P (.int (tr3 u0 u1 u2 v0 v1 v2 t0 t1 t2)) T) : sp_l_three [a, b, c] T P X := lock_at ⟨_, _, _, _, _, _, _, _, _, n, ha, hb, hc, bu, bv, bt, hn, h⟩
theorem tr3_bd {n : Nat} {u0 u1 u2 v0 v1 v2 t0 t1 t2 : Int} (bu : B3 n u0 u1 u2) (bv : B3 n v0 v1 v2) (bt : B3 n t0 t1 t2) (h : n ≤ 20000) : Bd 65000 (tr3 u0 u1 u2 v0 v1 v2 t0 t1 t2) := by
  obtain ⟨ua, ub, uc⟩ := bu.mono h
  obtain ⟨va, vb, vc⟩ := bv.mono h
  obtain ⟨ta, tb, tc⟩ := bt.mono h
  unfold tr3
  walk_at "bt"
noncomputable def sp_l_turned : DSp := lock <| sp4 fun a b c d T P _ => ∃ p0 p1 p2 p3 q0 q1 q2 q3 r0 r1 r2 r3 s0 s1 s2 s3 n, V4 T a p0 p1 p2 p3 ∧ V4 T b q0 q1 q2 q3 ∧ V4 T c r0 r1 r2 r3 ∧ V4 T d s0 s1 s2 s3 ∧ B4 n p0 p1 p2 p3 ∧ B4 n q0 q1 q2 q3 ∧ B4 n r0 r1 r2 r3 ∧ B4 n s0 s1 s2 s3 ∧ n ≤ 20000 ∧
  P (.int (t4 p0 p1 p2 p3 q0 q1 q2 q3 r0 r1 r2 r3 s0 s1 s2 s3).sign) T
def d_l_turned : DS := (dSeq (dAsg (dMul (dIx (dVar 0) (dC (.int 3))) (dCall sp_l_three (dCons (dVar 1) (dCons (dVar 2) (dCons (dVar 3) dNil))))) 4) (dSeq (dAsg (dMul (dIx (dVar 1) (dC (.int 3))) (dCall sp_l_three (dCons (dVar 0) (dCons (dVar 2) (dCons (dVar 3) dNil))))) 5) (dSeq (dAsg (dMul (dIx (dVar 2) (dC (.int 3))) (dCall sp_l_three (dCons (dVar 0) (dCons (dVar 1) (dCons (dVar 3) dNil))))) 6) (dSeq (dAsg (dMul (dIx (dVar 3) (dC (.int 3))) (dCall sp_l_three (dCons (dVar 0) (dCons (dVar 1) (dCons (dVar 2) dNil))))) 7) (dSeq (dAsg (dSub (dAdd (dSub (dVar 4) (dVar 5)) (dVar 6)) (dVar 7)) 8) (dRet (dSub (dInt (dGt (dVar 8) (dC (.int 0)))) (dInt (dLt (dVar 8) (dC (.int 0)))))))))))
theorem pure_l_turned {N : List Str} (hN : N.length = 9) : ∀ us T P X, sp_l_turned us T P X → d_l_turned (dend0 P X) (startD N us) T := by
  intro us T P X h
  obtain ⟨a, b, c, d, rfl, h1⟩ := sp4.of (lock_of h)
  obtain ⟨p0, p1, p2, p3, q0, q1, q2, q3, r0, r1, r2, r3, s0, s1, s2, s3, n, ha, hb, hc, hd, bp, bq, br, bs, hn, h2⟩ := h1
  have e : startD N [a, b, c, d] = [some a, some b, some c, some d, none, none, none, none, none] := by unfold startD; rw [hN]; rfl
  rw [e]
  unfold d_l_turned
  have v1 := tr3_bd bq.b3 br.b3 bs.b3 hn
  have v2 := tr3_bd bp.b3 br.b3 bs.b3 hn
  have v3 := tr3_bd bp.b3 bq.b3 bs.b3 hn
  have v4 := tr3_bd bp.b3 bq.b3 br.b3 hn
  obtain ⟨-, -, -, pd⟩ := bp.mono hn
  obtain ⟨-, -, -, qd⟩ := bq.mono hn
  obtain ⟨-, -, -, rd⟩ := br.mono hn
  obtain ⟨-, -, -, sd⟩ := bs.mono hn
  obtain ⟨ea, ha'⟩ := id ha
  obtain ⟨eb, hb'⟩ := id hb
  obtain ⟨ec, hc'⟩ := id hc
  obtain ⟨ed, hd'⟩ := id hd
  walk_at "dx"
  simp only [ha', hb', hc', hd']
  walk_at "dx"
  refine sp_l_three_mk hb.v3 hc.v3 hd.v3 bq.b3 br.b3 bs.b3 (by omega) ?_
  walk_at "dx"
  walk_at "mos"
  simp only [ha', hb', hc', hd']
  walk_at "dx"
  refine sp_l_three_mk ha.v3 hc.v3 hd.v3 bp.b3 br.b3 bs.b3 (by omega) ?_
  walk_at "dx"
  walk_at "mos"
  simp only [ha', hb', hc', hd']
  walk_at "dx"
  refine sp_l_three_mk ha.v3 hb.v3 hd.v3 bp.b3 bq.b3 bs.b3 (by omega) ?_
  walk_at "dx"
  walk_at "mos"
  simp only [ha', hb', hc', hd']
  walk_at "dx"
  refine sp_l_three_mk ha.v3 hb.v3 hc.v3 bp.b3 bq.b3 br.b3 (by omega) ?_
  walk_at "dx"
  walk_at "mos"
  have z : t4 p0 p1 p2 p3 q0 q1 q2 q3 r0 r1 r2 r3 s0 s1 s2 s3 = p3 * tr3 q0 q1 q2 r0 r1 r2 s0 s1 s2 - q3 * tr3 p0 p1 p2 r0 r1 r2 s0 s1 s2 + r3 * tr3 p0 p1 p2 q0 q1 q2 s0 s1 s2 - s3 * tr3 p0 p1 p2 q0 q1 q2 r0 r1 r2 := rfl
  rw [← z]
  rw [sign_ifs]
  exact h2
theorem sp_l_turned_mk {a b c d : D} {p0 p1 p2 p3 q0 q1 q2 q3 r0 r1 r2 r3 s0 s1 s2 s3 : Int} {n : Nat} (ha : V4 T a p0 p1 p2 p3) (hb : V4 T b q0 q1 q2 q3) (hc : V4 T c r0 r1 r2 r3) (hd : V4 T d s0 s1 s2 s3) (bp : B4 n p0 p1 p2 p3) (bq : B4 n q0 q1 q2 q3) (br : B4 n r0 r1 r2 r3) (bs : B4 n s0 s1 s2 s3) (hn : n ≤ 20000)
    (h : P (.int (t4 p0 p1 p2 p3 q0 q1 q2 q3 r0 r1 r2 r3 s0 s1 s2 s3).sign) T) : sp_l_turned [a, b, c, d] T P X := lock_at ⟨_, _, _, _, _, _, _, _, _, _, _, _, _, _, _, _, n, ha, hb, hc, hd, bp, bq, br, bs, hn, h⟩
end
end SY

namespace SY
open PySem PySem.Spec PyProof.Rows L2
/-! ### lines -/
def B6 (n : Nat) (a b c d e f : Int) : Prop := B3 n a b c ∧ B3 n d e f
theorem all6 {n : Nat} {a b c d e f : Int} (h : B6 n a b c d e f) : ∀ v ∈ [a, b, c, d, e, f], Bd n v := fun v hv => by
  simp only [List.mem_cons, List.not_mem_nil, or_false] at hv
  rcases hv with rfl | rfl | rfl | rfl | rfl | rfl
  · exact h.1.1
  · exact h.1.2.1
  · exact h.1.2.2
  · exact h.2.1
  · exact h.2.2.1
  · exact h.2.2.2
theorem low6 {n : Nat} {a b c d e f : Int} (h : B6 n a b c d e f) : ∃ a' b' c' d' e' f' g, lowZ [a, b, c, d, e, f] = [a', b', c', d', e', f'] ∧ 0 < g ∧ a = g * a' ∧ b = g * b' ∧ c = g * c' ∧ d = g * d' ∧ e = g * e' ∧ f = g * f' ∧ B6 n a' b' c' d' e' f' ∧ ((∃ u ∈ [a, b, c, d, e, f], u ≠ 0) → gcdL [a', b', c', d', e', f'] = 1) := by
  have hm := lowZ_mul [a, b, c, d, e, f]
  have hg : (∃ u ∈ [a, b, c, d, e, f], u ≠ 0) → gcdL (lowZ [a, b, c, d, e, f]) = 1 := fun ⟨u, hu, h0⟩ => lowZ_gcd hu h0
  have hbd := lowZ_bd (ns := [a, b, c, d, e, f]) (n := n) (all6 h)
  have hp := lowBy_pos [a, b, c, d, e, f]
  have hs : ∃ a' b' c' d' e' f', lowZ [a, b, c, d, e, f] = [a', b', c', d', e', f'] := ⟨_, _, _, _, _, _, rfl⟩
  generalize lowBy [a, b, c, d, e, f] = g at *
  obtain ⟨a', b', c', d', e', f', q⟩ := hs
  rw [q] at hm hg hbd
  simp only [List.map_cons, List.map_nil, List.cons.injEq, and_true] at hm
  exact ⟨a', b', c', d', e', f', g, q, by omega, hm.1.symm, hm.2.1.symm, hm.2.2.1.symm, hm.2.2.2.1.symm, hm.2.2.2.2.1.symm, hm.2.2.2.2.2.symm, ⟨⟨hbd _ (by simp), hbd _ (by simp), hbd _ (by simp)⟩, hbd _ (by simp), hbd _ (by simp), hbd _ (by simp)⟩, hg⟩
def neg3 (a b c : Int) : Bool := decide (a < 0) || (decide (a = 0) && (decide (b < 0) || (decide (b = 0) && decide (c < 0))))
/-- the six numbers, the first of the way that is not 0 above 0 -/
def flip6 (m : List Int) : List Int := match m with
  | [a, b, c, d, e, f] => if neg3 a b c = true then [-a, -b, -c, -d, -e, -f] else m
  | _ => m
theorem cut6a (a b c d e f : D) : cutD [a, b, c, d, e, f] none (some 3) = [a, b, c] := rfl
theorem cut6b (a b c d e f : D) : cutD [a, b, c, d, e, f] (some 3) none = [d, e, f] := rfl
section
variable {T : Sto} {P : D → Sto → Prop} {X : Xc → Sto → Prop}
noncomputable def sp_l_arrow : DSp := lock <| sp2 fun a b T P _ => ∃ p0 p1 p2 p3 q0 q1 q2 q3 n, V4 T a p0 p1 p2 p3 ∧ V4 T b q0 q1 q2 q3 ∧ B4 n p0 p1 p2 p3 ∧ B4 n q0 q1 q2 q3 ∧ n ≤ 20000 ∧
  P (.lst [.int (q0 * p3 - p0 * q3), .int (q1 * p3 - p1 * q3), .int (q2 * p3 - p2 * q3)]) T
def d_l_arrow : DS := (dRet (dLcR 2 (dCons (dC (.int 3)) dNil) (dSub (dMul (dIx (dVar 1) (dVar 2)) (dIx (dVar 0) (dC (.int 3)))) (dMul (dIx (dVar 0) (dVar 2)) (dIx (dVar 1) (dC (.int 3)))))))
theorem pure_l_arrow {N : List Str} (hN : N.length = 3) : ∀ us T P X, sp_l_arrow us T P X → d_l_arrow (dend0 P X) (startD N us) T := by
  intro us T P X h
  obtain ⟨a, b, rfl, h1⟩ := sp2.of (lock_of h)
  obtain ⟨p0, p1, p2, p3, q0, q1, q2, q3, n, ⟨s1, ha⟩, ⟨s2, hb⟩, bp, bq, hn, h2⟩ := h1
  have e : startD N [a, b] = [some a, some b, none] := by unfold startD; rw [hN]; rfl
  rw [e]
  unfold d_l_arrow
  obtain ⟨pa, pb, pc, pd⟩ := bp.mono hn
  obtain ⟨qa, qb, qc, qd⟩ := bq.mono hn
  walk_at "dx"
  refine ⟨⟨by decide, by decide⟩, ?_⟩
  simp only [ha, hb]
  walk_at "dx"
  walk_at "mos"
  exact h2
theorem sp_l_arrow_mk {a b : D} {p0 p1 p2 p3 q0 q1 q2 q3 : Int} {n : Nat} (ha : V4 T a p0 p1 p2 p3) (hb : V4 T b q0 q1 q2 q3) (bp : B4 n p0 p1 p2 p3) (bq : B4 n q0 q1 q2 q3) (hn : n ≤ 20000)
    (h : P (.lst [.int (q0 * p3 - p0 * q3), .int (q1 * p3 - p1 * q3), .int (q2 * p3 - p2 * q3)]) T) : sp_l_arrow [a, b] T P X := lock_at ⟨_, _, _, _, _, _, _, _, n, ha, hb, bp, bq, hn, h⟩
def d6 (a b c d e f : Int) : D := .tup [.int a, .int b, .int c, .int d, .int e, .int f]
noncomputable def sp_l_line : DSp := lock <| sp2 fun a b T P _ => ∃ p0 p1 p2 p3 q0 q1 q2 q3 n, V4 T a p0 p1 p2 p3 ∧ V4 T b q0 q1 q2 q3 ∧ B4 n p0 p1 p2 p3 ∧ B4 n q0 q1 q2 q3 ∧ n ≤ 2000 ∧
  P (.tup ((flip6 (lowZ [q0 * p3 - p0 * q3, q1 * p3 - p1 * q3, q2 * p3 - p2 * q3, p1 * q2 - p2 * q1, p2 * q0 - p0 * q2, p0 * q1 - p1 * q0])).map .int)) T
def d_l_line : DS := (dSeq (dAsg (dAdd (dCall sp_l_arrow (dCons (dVar 0) (dCons (dVar 1) dNil))) (dCall sp_l_cross (dCons (dVar 0) (dCons (dVar 1) dNil)))) 2) (dSeq (dAsg (dCall sp_l_lowest (dCons (dVar 2) dNil)) 2) (dSeq (dFor (dgName 3) (dSl (dVar 2) dNoO (dSomeO (dC (.int 3)))) (dSeq (dIf (dTst (dGt (dVar 3) (dC (.int 0)))) (dRet (dVar 2)) dNext) (dIf (dTst (dLt (dVar 3) (dC (.int 0)))) (dRet (dTuple (dLc 4 (dVar 2) (dNeg (dVar 4))))) dNext))) (dRet (dVar 2)))))
theorem pure_l_line {N : List Str} (hN : N.length = 5) : ∀ us T P X, sp_l_line us T P X → d_l_line (dend0 P X) (startD N us) T := by
  intro us T P X h
  obtain ⟨a, b, rfl, h1⟩ := sp2.of (lock_of h)
  obtain ⟨p0, p1, p2, p3, q0, q1, q2, q3, n, ha, hb, bp, bq, hn, h2⟩ := h1
  have e : startD N [a, b] = [some a, some b, none, none, none] := by unfold startD; rw [hN]; rfl
  rw [e]
  unfold d_l_line
  obtain ⟨pa, pb, pc, pd⟩ := bp.mono hn
  obtain ⟨qa, qb, qc, qd⟩ := bq.mono hn
  walk_at "dx"
  refine sp_l_arrow_mk ha hb bp bq (by omega) ?_
  walk_at "dx"
  refine sp_l_cross_mk ha.v3 hb.v3 bp.b3 bq.b3 (by omega) ?_
  walk_at "dx"
  have b6 : B6 5000 (q0 * p3 - p0 * q3) (q1 * p3 - p1 * q3) (q2 * p3 - p2 * q3) (p1 * q2 - p2 * q1) (p2 * q0 - p0 * q2) (p0 * q1 - p1 * q0) := ⟨⟨by walk_at "bt", by walk_at "bt", by walk_at "bt"⟩, by walk_at "bt", by walk_at "bt", by walk_at "bt"⟩
  refine sp_l_lowest_mk (ns := [q0 * p3 - p0 * q3, q1 * p3 - p1 * q3, q2 * p3 - p2 * q3, p1 * q2 - p2 * q1, p2 * q0 - p0 * q2, p0 * q1 - p1 * q0]) rfl (fun v hv => (all6 b6 v hv).mono (by decide)) (by simp) ?_
  obtain ⟨a', b', c', d', e', f', g, q, _⟩ := low6 b6
  rw [q] at h2 ⊢
  walk_at "dx"
  refine ⟨by decide, ?_⟩
  rw [cut6a]
  walk_at "dx"
  simp only [flip6] at h2
  rcases Int.lt_trichotomy a' 0 with ha' | ha' | ha'
  · rw [if_pos (by unfold neg3; rw [decide_eq_true ha']; rfl)] at h2
    rw [decide_eq_false (show ¬ 0 < a' by omega), decide_eq_true ha']
    walk_at "dx"
    exact h2
  · subst ha'
    rw [decide_eq_false (show ¬ (0 : Int) < 0 by decide)]
    walk_at "dx"
    rcases Int.lt_trichotomy b' 0 with hb' | hb' | hb'
    · rw [if_pos (by unfold neg3; rw [decide_eq_true hb']; rfl)] at h2
      rw [decide_eq_false (show ¬ 0 < b' by omega), decide_eq_true hb']
      walk_at "dx"
      exact h2
    · subst hb'
      rw [decide_eq_false (show ¬ (0 : Int) < 0 by decide)]
      walk_at "dx"
      rcases Int.lt_trichotomy c' 0 with hc' | hc' | hc'
      · rw [if_pos (by unfold neg3; rw [decide_eq_true hc']; rfl)] at h2
        rw [decide_eq_false (show ¬ 0 < c' by omega), decide_eq_true hc']
        walk_at "dx"
        exact h2
      · subst hc'
        rw [if_neg (by decide)] at h2
        rw [decide_eq_false (show ¬ (0 : Int) < 0 by decide)]
        walk_at "dx"
        exact h2
      · rw [if_neg (by unfold neg3; rw [decide_eq_false (show ¬ c' < 0 by omega)]; decide)] at h2
        rw [decide_eq_true hc']
        walk_at "dx"
        exact h2
    · rw [if_neg (by unfold neg3; rw [decide_eq_false (show ¬ b' < 0 by omega), decide_eq_false (show ¬ b' = 0 by omega)]; exact Bool.false_ne_true)] at h2
      rw [decide_eq_true hb']
      walk_at "dx"
      exact h2
  · rw [if_neg (by unfold neg3; rw [decide_eq_false (show ¬ a' < 0 by omega), decide_eq_false (show ¬ a' = 0 by omega)]; exact Bool.false_ne_true)] at h2
    rw [decide_eq_true ha']
    walk_at "dx"
    exact h2
theorem sp_l_line_mk {a b : D} {p0 p1 p2 p3 q0 q1 q2 q3 : Int} {n : Nat} (ha : V4 T a p0 p1 p2 p3) (hb : V4 T b q0 q1 q2 q3) (bp : B4 n p0 p1 p2 p3) (bq : B4 n q0 q1 q2 q3) (hn : n ≤ 2000)
    (h : P (.tup ((flip6 (lowZ [q0 * p3 - p0 * q3, q1 * p3 - p1 * q3, q2 * p3 - p2 * q3, p1 * q2 - p2 * q1, p2 * q0 - p0 * q2, p0 * q1 - p1 * q0])).map .int)) T) : sp_l_line [a, b] T P X := lock_at ⟨_, _, _, _, _, _, _, _, n, ha, hb, bp, bq, hn, h⟩
def onl (a b c d e f p0 p1 p2 p3 : Int) : Bool := decide ([p1 * c - p2 * b, p2 * a - p0 * c, p0 * b - p1 * a] = [p3 * d, p3 * e, p3 * f])
noncomputable def sp_on_line : DSp := lock <| sp2 fun l p T P _ => ∃ a b c d e f p0 p1 p2 p3 n, l = d6 a b c d e f ∧ V4 T p p0 p1 p2 p3 ∧ B6 n a b c d e f ∧ B4 n p0 p1 p2 p3 ∧ n ≤ 20000 ∧ P (.bl (onl a b c d e f p0 p1 p2 p3)) T
def d_on_line : DS := (dSeq (dAsg (dCall sp_cross (dCons (dVar 1) (dCons (dVar 0) dNil))) 2) (dSeq (dAsg (dIx (dVar 1) (dC (.int 3))) 3) (dRet (dEq (dVar 2) (dTup (dCons (dMul (dVar 3) (dIx (dVar 0) (dC (.int 3)))) (dCons (dMul (dVar 3) (dIx (dVar 0) (dC (.int 4)))) (dCons (dMul (dVar 3) (dIx (dVar 0) (dC (.int 5)))) dNil))))))))
theorem pure_on_line {N : List Str} (hN : N.length = 4) : ∀ us T P X, sp_on_line us T P X → d_on_line (dend0 P X) (startD N us) T := by
  intro us T P X h
  obtain ⟨l, p, rfl, h1⟩ := sp2.of (lock_of h)
  obtain ⟨a, b, c, d, e, f, p0, p1, p2, p3, n, rfl, hp, b6, bp, hn, h2⟩ := h1
  have es : startD N [d6 a b c d e f, p] = [some (d6 a b c d e f), some p, none, none] := by unfold startD; rw [hN]; rfl
  rw [es]
  unfold d_on_line
  obtain ⟨pa, pb, pc, pd⟩ := bp.mono hn
  obtain ⟨ba, bb, bc⟩ := b6.1.mono hn
  obtain ⟨bd, be, bf⟩ := b6.2.mono hn
  obtain ⟨rp, ep⟩ := id hp
  unfold d6
  walk_at "dx"
  refine sp_cross_mk hp.v3 ⟨_, rfl⟩ bp.b3 b6.1 (by omega) ?_
  simp only [ep]
  walk_at "dx"
  walk_at "mos"
  simp only [eqOk_t3, eqv_t3]
  walk_at "dx"
  exact h2
theorem sp_on_line_mk {p : D} {a b c d e f p0 p1 p2 p3 : Int} {n : Nat} (hp : V4 T p p0 p1 p2 p3) (b6 : B6 n a b c d e f) (bp : B4 n p0 p1 p2 p3) (hn : n ≤ 20000) (h : P (.bl (onl a b c d e f p0 p1 p2 p3)) T) : sp_on_line [d6 a b c d e f, p] T P X := lock_at ⟨a, b, c, d, e, f, _, _, _, _, n, rfl, hp, b6, bp, hn, h⟩
noncomputable def sp_l_holds : DSp := lock <| sp2 fun l p T P _ => ∃ a b c d e f p0 p1 p2 p3 n, l = d6 a b c d e f ∧ V4 T p p0 p1 p2 p3 ∧ B6 n a b c d e f ∧ B4 n p0 p1 p2 p3 ∧ n ≤ 20000 ∧ P (.bl (onl a b c d e f p0 p1 p2 p3)) T
def d_l_holds : DS := (dRet (dEq (dCall sp_l_cross (dCons (dVar 1) (dCons (dVar 0) dNil))) (dLc 2 (dSl (dVar 0) (dSomeO (dC (.int 3))) dNoO) (dMul (dIx (dVar 1) (dC (.int 3))) (dVar 2)))))
theorem pure_l_holds {N : List Str} (hN : N.length = 3) : ∀ us T P X, sp_l_holds us T P X → d_l_holds (dend0 P X) (startD N us) T := by
  intro us T P X h
  obtain ⟨l, p, rfl, h1⟩ := sp2.of (lock_of h)
  obtain ⟨a, b, c, d, e, f, p0, p1, p2, p3, n, rfl, hp, b6, bp, hn, h2⟩ := h1
  have es : startD N [d6 a b c d e f, p] = [some (d6 a b c d e f), some p, none] := by unfold startD; rw [hN]; rfl
  rw [es]
  unfold d_l_holds
  obtain ⟨pa, pb, pc, pd⟩ := bp.mono hn
  obtain ⟨ba, bb, bc⟩ := b6.1.mono hn
  obtain ⟨bd, be, bf⟩ := b6.2.mono hn
  obtain ⟨rp, ep⟩ := id hp
  unfold d6
  walk_at "dx"
  refine sp_l_cross_mk hp.v3 ⟨_, rfl⟩ bp.b3 b6.1 (by omega) ?_
  walk_at "dx"
  refine ⟨by decide, ?_⟩
  rw [cut6b]
  walk_at "dx"
  simp only [ep]
  walk_at "dx"
  walk_at "mos"
  simp only [eqOk_l3, eqv_l3]
  walk_at "dx"
  exact h2
theorem sp_l_holds_mk {p : D} {a b c d e f p0 p1 p2 p3 : Int} {n : Nat} (hp : V4 T p p0 p1 p2 p3) (b6 : B6 n a b c d e f) (bp : B4 n p0 p1 p2 p3) (hn : n ≤ 20000) (h : P (.bl (onl a b c d e f p0 p1 p2 p3)) T) : sp_l_holds [d6 a b c d e f, p] T P X := lock_at ⟨a, b, c, d, e, f, _, _, _, _, n, rfl, hp, b6, bp, hn, h⟩
/-- two unlike points -/
noncomputable def sp_l_two : DSp := lock <| sp1 fun a T P _ => ∃ r, a = .ptr r ∧ T r = some .row ∧ ∀ p0 p1 p2 p3 q0 q1 q2 q3 : Int, IsPt 60 p0 p1 p2 p3 → IsPt 60 q0 q1 q2 q3 → [p0, p1, p2, p3] ≠ [q0, q1, q2, q3] → P (.lst [.tup [.int p0, .int p1, .int p2, .int p3], .tup [.int q0, .int q1, .int q2, .int q3]]) T
def d_l_two_b : DS := (dSeq (dAsg (dLstM (dCons (dC (.int 0)) (dCons (dC (.int 0)) (dCons (dC (.int 0)) dNil)))) 3) (dSeq (dAsgG (dIx (dLst (dCons (dC (.int 1)) (dCons (dNeg (dC (.int 1))) (dCons (dC (.int 7)) dNil)))) (dCall sp_l_take (dCons (dVar 0) (dCons (dC (.int 3)) dNil)))) (dgSub (dVar 3) (dCall sp_l_take (dCons (dVar 0) (dCons (dC (.int 3)) dNil))))) (dSeq (dAsg (dLcR 5 (dCons (dC (.int 3)) dNil) (dAdd (dIx (dVar 1) (dVar 5)) (dMul (dIx (dVar 3) (dVar 5)) (dIx (dVar 1) (dC (.int 3)))))) 4) (dAsg (dCall sp_l_lowest (dCons (dAdd (dVar 4) (dLst (dCons (dIx (dVar 1) (dC (.int 3))) dNil))) dNil)) 2))))
def d_l_two : DS := (dSeq (dAsg (dCall sp_l_free (dCons (dVar 0) dNil)) 1) (dSeq (dAsg (dCall sp_l_free (dCons (dVar 0) dNil)) 2) (dSeq (dIf (dtOr (dTst (dEq (dCall sp_l_take (dCons (dVar 0) (dCons (dC (.int 4)) dNil))) (dC (.int 0)))) (dTst (dEq (dVar 2) (dVar 1)))) d_l_two_b dNext) (dRet (dLst (dCons (dVar 1) (dCons (dVar 2) dNil)))))))
theorem two_step {p0 p1 p2 p3 s0 s1 s2 : Int} (hp : IsPt 45 p0 p1 p2 p3) (h : s0 ≠ 0 ∨ s1 ≠ 0 ∨ s2 ≠ 0) (b0 : Bd 4 s0) (b1 : Bd 4 s1) (b2 : Bd 4 s2) : ∃ q0 q1 q2 q3, lowZ [p0 + s0 * p3, p1 + s1 * p3, p2 + s2 * p3, p3] = [q0, q1, q2, q3] ∧ IsPt 60 q0 q1 q2 q3 ∧ [p0, p1, p2, p3] ≠ [q0, q1, q2, q3] := by
  obtain ⟨pa, pb, pc, pd⟩ := hp.2.2
  obtain ⟨q0, q1, q2, q3, g, e, g0, f1, f2, f3, f4, i⟩ := low4 (n := 60) (x := p0 + s0 * p3) (y := p1 + s1 * p3) (z := p2 + s2 * p3) (w := p3) hp.1 ⟨by walk_at "bt", by walk_at "bt", by walk_at "bt", by walk_at "bt"⟩
  refine ⟨q0, q1, q2, q3, e, i, fun z => ?_⟩
  simp only [List.cons.injEq, and_true] at z
  obtain ⟨rfl, rfl, rfl, rfl⟩ := z
  have g1 : g = 1 := by
    have z : (g - 1) * p3 = 0 := by rw [Int.sub_mul]; omega
    rcases Int.mul_eq_zero.mp z with z | z
    · omega
    · have := hp.1; omega
  subst g1
  have p0 := hp.1
  have k : ∀ s : Int, s ≠ 0 → s * p3 ≠ 0 := fun s hs z => by
    rcases Int.mul_eq_zero.mp z with z | z
    · exact hs z
    · omega
  rcases h with h | h | h
  · exact k _ h (by omega)
  · exact k _ h (by omega)
  · exact k _ h (by omega)
theorem updT_off {p q : Addr} {T : Sto} {m : MO} (hp : T p = none) {a : MO} (h : T q = some a) : updT T p m q = some a := by
  rw [updT_ne (fun z => by subst z; rw [hp] at h; cases h)]; exact h
theorem two_b {E : DX} {r : Addr} {q : Option D} {p0 p1 p2 p3 : Int} (hr : T r = some .row) (hp : IsPt 45 p0 p1 p2 p3)
    (h : ∀ (a : Addr) (m : MO) (x : D) (q0 q1 q2 q3 : Int), T a = none → IsPt 60 q0 q1 q2 q3 → [p0, p1, p2, p3] ≠ [q0, q1, q2, q3] → E.nx [some (.ptr r), some (.tup [.int p0, .int p1, .int p2, .int p3]), some (.tup [.int q0, .int q1, .int q2, .int q3]), some (.ptr a), some x, none] (updT T a m)) :
    d_l_two_b E [some (.ptr r), some (.tup [.int p0, .int p1, .int p2, .int p3]), q, none, none, none] T := by
  unfold d_l_two_b
  walk_at "dx"
  intro a ta
  have hr' : ∀ m, updT T a m r = some .row := fun m => updT_off ta hr
  refine sp_take_mk (hr' _) (by decide) (Bd.lit (by decide)) fun k k0 k1 => ?_
  refine pick (R := fun d => ∃ i, d = .int i ∧ i ≠ 0 ∧ Bd 4 i) k0 k1 (fun d hd => ?_) fun d ⟨s, es, s0, s1⟩ => ?_
  · simp only [List.mem_cons, List.not_mem_nil, or_false] at hd
    rcases hd with rfl | rfl | rfl <;> exact ⟨_, rfl, by decide, Bd.lit (by decide)⟩
  subst es
  refine sp_take_mk (hr' _) (by decide) (Bd.lit (by decide)) fun j j0 j1 => ?_
  obtain ⟨pa, pb, pc, pd⟩ := hp.2.2
  have z4 : Bd 4 0 := Bd.lit (by decide)
  rcases lt3 j0 j1 with rfl | rfl | rfl
  · walk_at "dx"
    refine ⟨⟨by decide, by decide⟩, ?_⟩
    walk_at "mos"
    obtain ⟨q0, q1, q2, q3, e, hq, ne⟩ := two_step (s0 := s) (s1 := 0) (s2 := 0) hp (.inl s0) s1 z4 z4
    refine sp_l_lowest_mk (ns := [p0 + s * p3, p1 + 0 * p3, p2 + 0 * p3, p3]) rfl (all4 ⟨by walk_at "bt", by walk_at "bt", by walk_at "bt", by walk_at "bt"⟩) (by simp) ?_
    rw [e]
    exact h _ _ _ _ _ _ _ ta hq ne
  · walk_at "dx"
    refine ⟨⟨by decide, by decide⟩, ?_⟩
    walk_at "mos"
    obtain ⟨q0, q1, q2, q3, e, hq, ne⟩ := two_step (s0 := 0) (s1 := s) (s2 := 0) hp (.inr (.inl s0)) z4 s1 z4
    refine sp_l_lowest_mk (ns := [p0 + 0 * p3, p1 + s * p3, p2 + 0 * p3, p3]) rfl (all4 ⟨by walk_at "bt", by walk_at "bt", by walk_at "bt", by walk_at "bt"⟩) (by simp) ?_
    rw [e]
    exact h _ _ _ _ _ _ _ ta hq ne
  · walk_at "dx"
    refine ⟨⟨by decide, by decide⟩, ?_⟩
    walk_at "mos"
    obtain ⟨q0, q1, q2, q3, e, hq, ne⟩ := two_step (s0 := 0) (s1 := 0) (s2 := s) hp (.inr (.inr s0)) z4 z4 s1
    refine sp_l_lowest_mk (ns := [p0 + 0 * p3, p1 + 0 * p3, p2 + s * p3, p3]) rfl (all4 ⟨by walk_at "bt", by walk_at "bt", by walk_at "bt", by walk_at "bt"⟩) (by simp) ?_
    rw [e]
    exact h _ _ _ _ _ _ _ ta hq ne
theorem pure_l_two {K : PySem.W.Frag} {N : List Str} (hN : N.length = 6) : ∀ us T P X, sp_l_two us T P X → d_l_two (dend K P X) (startD N us) T := by
  intro us T P X h
  obtain ⟨a, rfl, h1⟩ := sp1.of (lock_of h)
  obtain ⟨r, rfl, hr, h2⟩ := h1
  have e : startD N [D.ptr r] = [some (.ptr r), none, none, none, none, none] := by unfold startD; rw [hN]; rfl
  rw [e]
  unfold d_l_two
  walk_at "dx"
  refine sp_l_free_mk hr fun p0 p1 p2 p3 hp => ?_
  refine sp_l_free_mk hr fun q0 q1 q2 q3 hq => ?_
  walk_at "dx"
  refine sp_take_mk hr (by decide) (Bd.lit (by decide)) fun k k0 k1 => ?_
  walk_at "dx"
  simp only [eqOk_t4, eqv_t4]
  walk_at "dx"
  split
  · refine two_b hr hp fun a m x q0 q1 q2 q3 ta hq ne => ?_
    walk_at "dx"
    refine ⟨_, T, Wk.drop fun b m e => ?_, h2 _ _ _ _ _ _ _ _ (hp.mono (by decide)) hq ne⟩
    rw [updT_ne (fun z => by subst z; rw [ta] at e; cases e)]
    exact e
  · split
    · refine two_b hr hp fun a m x q0 q1 q2 q3 ta hq ne => ?_
      walk_at "dx"
      refine ⟨_, T, Wk.drop fun b m e => ?_, h2 _ _ _ _ _ _ _ _ (hp.mono (by decide)) hq ne⟩
      rw [updT_ne (fun z => by subst z; rw [ta] at e; cases e)]
      exact e
    · rename_i hne
      refine ⟨_, T, Wk.drop fun b m e => e, h2 _ _ _ _ _ _ _ _ (hp.mono (by decide)) (hq.mono (by decide)) fun z => hne ?_⟩
      rw [z, decide_eq_true rfl]
theorem sp_l_two_mk {r : Addr} (hr : T r = some .row) (h : ∀ p0 p1 p2 p3 q0 q1 q2 q3 : Int, IsPt 60 p0 p1 p2 p3 → IsPt 60 q0 q1 q2 q3 → [p0, p1, p2, p3] ≠ [q0, q1, q2, q3] → P (.lst [.tup [.int p0, .int p1, .int p2, .int p3], .tup [.int q0, .int q1, .int q2, .int q3]]) T) : sp_l_two [.ptr r] T P X := lock_at ⟨r, rfl, hr, h⟩
end
end SY

namespace SY
open PySem PySem.Spec PyProof.Rows L2
theorem atI_last {α : Type} {l : List α} {x : α} (h : l.getLast? = some x) : atI l (-1) = some x := by
  have hl : l.length ≠ 0 := fun z => by
    have : l = [] := List.length_eq_zero_iff.mp z
    subst this; cases h
  unfold atI ixN
  rw [if_neg (by decide), if_pos (by omega)]
  show l[((-1 : Int) + (l.length : Int)).toNat]? = some x
  have e : ((-1 : Int) + (l.length : Int)).toNat = l.length - 1 := by omega
  rw [e, ← List.getLast?_eq_getElem?]
  exact h
theorem atIm1_2 {α : Type} (a b : α) : atI [a, b] (-1) = some b := atI_last rfl
theorem atIm1_4 {α : Type} (a b c d : α) : atI [a, b, c, d] (-1) = some d := atI_last rfl
/-- the last number above 0, in lowest terms -/
def sgZ (ns : List Int) : List Int := if ns.getLastD 0 < 0 then lowZ (ns.map (-·)) else lowZ ns
theorem sgZ_pos {ns : List Int} (h : 0 < ns.getLastD 0) : sgZ ns = lowZ ns := by unfold sgZ; rw [if_neg (by omega)]
theorem sgZ_neg {ns : List Int} (h : ns.getLastD 0 < 0) : sgZ ns = lowZ (ns.map (-·)) := by unfold sgZ; rw [if_pos h]
theorem lastD_map (f : Int → Int) (hf : f 0 = 0) : ∀ ns : List Int, (ns.map f).getLastD 0 = f (ns.getLastD 0)
  | [] => hf.symm
  | [a] => rfl
  | a :: b :: ns => by
    have ih := lastD_map f hf (b :: ns)
    simpa using ih
theorem map_neg_smul (c : Int) (ns : List Int) : (ns.map (c * ·)).map (-·) = ns.map ((-c) * ·) := by
  rw [List.map_map]
  exact List.map_congr_left fun n _ => by show -(c * n) = -c * n; rw [Int.neg_mul]
theorem map_smul_neg (c : Int) (ns : List Int) : (ns.map (-·)).map (c * ·) = ns.map ((-c) * ·) := by
  rw [List.map_map]
  exact List.map_congr_left fun n _ => by show c * (-n) = -c * n; rw [Int.neg_mul, Int.mul_neg]
theorem sgZ_smul {c : Int} {ns : List Int} (hc : c ≠ 0) (hl : ns.getLastD 0 ≠ 0) : sgZ (ns.map (c * ·)) = sgZ ns := by
  have el : (ns.map (c * ·)).getLastD 0 = c * ns.getLastD 0 := lastD_map (c * ·) (by simp) ns
  rcases Int.lt_or_gt_of_ne hc with h | h
  · rcases Int.lt_or_gt_of_ne hl with h2 | h2
    · have z : 0 < c * ns.getLastD 0 := Int.mul_pos_of_neg_of_neg h h2
      rw [sgZ_pos (by rw [el]; exact z), sgZ_neg h2]
      have e : ns.map (c * ·) = (ns.map (-·)).map ((-c) * ·) := by rw [map_smul_neg]; simp
      rw [e]
      exact lowZ_smul (by omega) _
    · have z : c * ns.getLastD 0 < 0 := Int.mul_neg_of_neg_of_pos h h2
      rw [sgZ_neg (by rw [el]; exact z), sgZ_pos h2, map_neg_smul]
      exact lowZ_smul (by omega) _
  · rcases Int.lt_or_gt_of_ne hl with h2 | h2
    · have z : c * ns.getLastD 0 < 0 := Int.mul_neg_of_pos_of_neg h h2
      rw [sgZ_neg (by rw [el]; exact z), sgZ_neg h2, map_neg_smul, ← map_smul_neg]
      exact lowZ_smul h _
    · have z : 0 < c * ns.getLastD 0 := Int.mul_pos h h2
      rw [sgZ_pos (by rw [el]; exact z), sgZ_pos h2]
      exact lowZ_smul h _
theorem sgZ_len (ns : List Int) : (sgZ ns).length = ns.length := by
  unfold sgZ
  split
  · rw [lowZ_len, List.length_map]
  · rw [lowZ_len]
theorem sgZ_2 (t b : Int) : ∃ x y, sgZ [t, b] = [x, y] := by
  have h := sgZ_len [t, b]
  match sgZ [t, b], h with
  | [x, y], _ => exact ⟨x, y, rfl⟩
theorem sgZ_4 (a b c d : Int) : ∃ x y z w, sgZ [a, b, c, d] = [x, y, z, w] := by
  have h := sgZ_len [a, b, c, d]
  match sgZ [a, b, c, d], h with
  | [x, y, z, w], _ => exact ⟨x, y, z, w, rfl⟩
theorem all2 {n : Nat} {x y : Int} (h : B2 n x y) : ∀ v ∈ [x, y], Bd n v := fun v hv => by
  simp only [List.mem_cons, List.not_mem_nil, or_false] at hv
  rcases hv with rfl | rfl
  · exact h.1
  · exact h.2
theorem B2.mono {m n : Nat} {x y : Int} (h : B2 m x y) (l : m ≤ n) : B2 n x y := ⟨h.1.mono l, h.2.mono l⟩
section
variable {T : Sto} {P : D → Sto → Prop} {X : Xc → Sto → Prop}
/-- fraction -/
noncomputable def sp_fraction : DSp := lock <| sp2 fun a b T P X => int2 a b fun t b => if b = 0 then X "BottomNought" T else B2 8000 t b ∧ P (.tup ((sgZ [t, b]).map .int)) T
def d_fraction : DS := (dSeq (dIf (dTst (dEq (dVar 1) (dC (.int 0)))) (dRaise "BottomNought") dNext) (dSeq (dIf (dTst (dLt (dVar 1) (dC (.int 0)))) (dSeq (dAsg (dNeg (dVar 0)) 0) (dAsg (dNeg (dVar 1)) 1)) dNext) (dRet (dCall sp_lowest (dCons (dTup (dCons (dVar 0) (dCons (dVar 1) dNil))) dNil)))))
theorem pure_fraction {N : List Str} (hN : N.length = 2) : ∀ us T P X, sp_fraction us T P X → d_fraction (dend0 P X) (startD N us) T := by
  intro us T P X h
  obtain ⟨a, b, rfl, h1⟩ := sp2.of (lock_of h)
  have e0 : startD N [a, b] = [some a, some b] := by unfold startD; rw [hN]; rfl
  rw [e0]; clear e0; unfold d_fraction
  obtain ⟨t, b, rfl, rfl, h2⟩ := int2.of h1
  walk_at "dx"
  by_cases hw : b = 0
  · rw [if_pos hw] at h2
    rw [decide_eq_true hw]
    walk_at "dx"
    exact h2
  rw [if_neg hw] at h2
  obtain ⟨bd, h2⟩ := h2
  rw [decide_eq_false hw]
  walk_at "dx"
  by_cases h0 : b < 0
  · rw [decide_eq_true h0]
    rw [sgZ_neg (show [t, b].getLastD 0 < 0 from h0)] at h2
    walk_at "dx"
    exact sp_lowest_mk (ns := [-t, -b]) rfl (all2 ⟨bd.1.neg, bd.2.neg⟩) (by simp) h2
  · rw [decide_eq_false h0]
    rw [sgZ_pos (show 0 < [t, b].getLastD 0 by show 0 < b; omega)] at h2
    walk_at "dx"
    exact sp_lowest_mk (ns := [t, b]) rfl (all2 bd) (by simp) h2
theorem sp_fraction_mk {t b : Int} (hb : b ≠ 0) (bd : B2 8000 t b) (h : P (.tup ((sgZ [t, b]).map .int)) T) : sp_fraction [.int t, .int b] T P X := by
  refine lock_at ?_
  show if b = 0 then _ else _
  rw [if_neg hb]
  exact ⟨bd, h⟩
theorem sp_fraction_mk0 {t b : Int} (hb : b = 0) (h : X "BottomNought" T) : sp_fraction [.int t, .int b] T P X := by
  refine lock_at ?_
  show if b = 0 then _ else _
  rw [if_pos hb]
  exact h
/-- the law's factor -/
noncomputable def sp_l_factor : DSp := lock <| sp1 fun a T P _ => ∃ r, a = .ptr r ∧ T r = some .row ∧ ∀ k : Int, k ≠ 0 → Bd 12 k → P (.int k) T
def d_l_factor : DS := (dSeq (dAsg (dAdd (dC (.int 1)) (dCall sp_l_take (dCons (dVar 0) (dCons (dC (.int 1000)) dNil)))) 1) (dSeq (dIf (dTst (dEq (dCall sp_l_take (dCons (dVar 0) (dCons (dC (.int 2)) dNil))) (dC (.int 1)))) (dRet (dNeg (dVar 1))) dNext) (dRet (dVar 1))))
theorem pure_l_factor {N : List Str} (hN : N.length = 2) : ∀ us T P X, sp_l_factor us T P X → d_l_factor (dend0 P X) (startD N us) T := by
  intro us T P X h
  obtain ⟨a, rfl, h1⟩ := sp1.of (lock_of h)
  have e0 : startD N [a] = [some a, none] := by unfold startD; rw [hN]; rfl
  rw [e0]; clear e0; unfold d_l_factor
  obtain ⟨r, rfl, hr, h2⟩ := h1
  walk_at "dx"
  refine sp_take_mk hr (by decide) (Bd.lit (by decide)) fun k k0 k1 => ?_
  refine sp_take_mk hr (by decide) (Bd.lit (by decide)) fun j j0 j1 => ?_
  walk_at "dx"
  split
  · exact h2 _ (by omega) (Bd.rng (m := 1000) (by omega) (by omega) (Bd.lit (by decide)))
  · exact h2 _ (by omega) (Bd.rng (m := 1000) (by omega) (by omega) (Bd.lit (by decide)))
theorem sp_l_factor_mk {r : Addr} (hr : T r = some .row) (h : ∀ k : Int, k ≠ 0 → Bd 12 k → P (.int k) T) : sp_l_factor [.ptr r] T P X := lock_at ⟨r, rfl, hr, h⟩
/-- the law's signed numbers -/
noncomputable def sp_l_signed : DSp := lock <| sp1 fun a T P _ => ∃ ns : List Int, frozen a = some (ns.map .int) ∧ ns ≠ [] ∧ (∀ n ∈ ns, Bd 8000 n) ∧ ns.length ≤ 1000 ∧ P (.tup ((sgZ ns).map .int)) T
theorem lc_neg {ρ0 : Env} {j : Nat} {k : List D → Sto → Prop} (hj : ∀ d, (ρ0.set j (some d)).getD j none = some d) (ns : List Int) (h : k ((ns.map (-·)).map .int) T) : lcL j (dNeg (dVar j)) ρ0 k (ns.map .int) [] T := by
  refine lcL_map (f := fun d => match d with | .int n => .int (-n) | e => e) (ns.map .int) [] (fun d hd P X hp => ?_) ?_
  · obtain ⟨n, _, rfl⟩ := List.mem_map.mp hd
    simp only [dNeg, dVar, hj, someOf, int1]
    exact hp
  · rw [List.nil_append, List.map_map]
    rw [List.map_map] at h
    exact h
def d_l_signed : DS := (dSeq (dIf (dTst (dLt (dIx (dVar 0) (dNeg (dC (.int 1)))) (dC (.int 0)))) (dRet (dCall sp_l_lowest (dCons (dLc 1 (dVar 0) (dNeg (dVar 1))) dNil))) dNext) (dRet (dCall sp_l_lowest (dCons (dVar 0) dNil))))
theorem pure_l_signed {N : List Str} (hN : N.length = 2) : ∀ us T P X, sp_l_signed us T P X → d_l_signed (dend0 P X) (startD N us) T := by
  intro us T P X h
  obtain ⟨a, rfl, h1⟩ := sp1.of (lock_of h)
  have e0 : startD N [a] = [some a, none] := by unfold startD; rw [hN]; rfl
  rw [e0]; clear e0; unfold d_l_signed
  obtain ⟨ns, hf, hne, hb, hl, h2⟩ := h1
  have hs : seqOf T a = some (ns.map .int) := seqOf_frozen hf
  have el : atI (ns.map D.int) (-1) = some (.int (ns.getLastD 0)) := by
    refine atI_last ?_
    rw [List.getLast?_map]
    cases ns with
    | nil => exact absurd rfl hne
    | cons x l => rw [List.getLast?_cons, List.getLastD_cons, List.getLastD_eq_getLast?]; rfl
  walk_at "dx"
  simp only [hs, el, someOf, int2, bl1]
  by_cases h0 : ns.getLastD 0 < 0
  · rw [sgZ_neg h0] at h2
    rw [decide_eq_true h0, if_pos rfl]
    try simp only [dRet, dCall, dCons, dLc, dVar, List.getD_cons_zero, someOf, hf, optK, dNil]
    refine ⟨by simp; omega, lc_neg (fun d => rfl) ns ?_⟩
    exact sp_l_lowest_mk (ns := ns.map (-·)) rfl (fun n hn => by
      obtain ⟨m, hm, rfl⟩ := List.mem_map.mp hn
      exact (hb m hm).neg) (by simpa using hl) h2
  · rw [decide_eq_false h0, if_neg Bool.false_ne_true]
    have e : sgZ ns = lowZ ns := by unfold sgZ; rw [if_neg h0]
    rw [e] at h2
    exact sp_l_lowest_mk hf hb hl h2
theorem sp_l_signed_mk {a : D} {ns : List Int} (hf : frozen a = some (ns.map .int)) (hne : ns ≠ []) (hb : ∀ n ∈ ns, Bd 8000 n) (hl : ns.length ≤ 1000) (h : P (.tup ((sgZ ns).map .int)) T) : sp_l_signed [a] T P X := lock_at ⟨ns, hf, hne, hb, hl, h⟩
/-- plus, minus, times, divided -/
noncomputable def sp_plus : DSp := lock <| sp2 fun a b T P _ => ∃ t b' u v n, V2 T a t b' ∧ V2 T b u v ∧ b' ≠ 0 ∧ v ≠ 0 ∧ B2 n t b' ∧ B2 n u v ∧ n ≤ 3900 ∧ P (.tup ((sgZ [t * v + u * b', b' * v]).map .int)) T
noncomputable def sp_minus : DSp := lock <| sp2 fun a b T P _ => ∃ t b' u v n, V2 T a t b' ∧ V2 T b u v ∧ b' ≠ 0 ∧ v ≠ 0 ∧ B2 n t b' ∧ B2 n u v ∧ n ≤ 3900 ∧ P (.tup ((sgZ [t * v - u * b', b' * v]).map .int)) T
noncomputable def sp_times : DSp := lock <| sp2 fun a b T P _ => ∃ t b' u v n, V2 T a t b' ∧ V2 T b u v ∧ b' ≠ 0 ∧ v ≠ 0 ∧ B2 n t b' ∧ B2 n u v ∧ n ≤ 3900 ∧ P (.tup ((sgZ [t * u, b' * v]).map .int)) T
noncomputable def sp_divided : DSp := lock <| sp2 fun a b T P X => ∃ t b' u v n, V2 T a t b' ∧ V2 T b u v ∧ b' ≠ 0 ∧ v ≠ 0 ∧ B2 n t b' ∧ B2 n u v ∧ n ≤ 3900 ∧ if u = 0 then X "BottomNought" T else P (.tup ((sgZ [t * v, b' * u]).map .int)) T
def d_plus : DS := (dRet (dCall sp_fraction (dCons (dAdd (dMul (dIx (dVar 0) (dC (.int 0))) (dIx (dVar 1) (dC (.int 1)))) (dMul (dIx (dVar 1) (dC (.int 0))) (dIx (dVar 0) (dC (.int 1))))) (dCons (dMul (dIx (dVar 0) (dC (.int 1))) (dIx (dVar 1) (dC (.int 1)))) dNil))))
def d_minus : DS := (dRet (dCall sp_fraction (dCons (dSub (dMul (dIx (dVar 0) (dC (.int 0))) (dIx (dVar 1) (dC (.int 1)))) (dMul (dIx (dVar 1) (dC (.int 0))) (dIx (dVar 0) (dC (.int 1))))) (dCons (dMul (dIx (dVar 0) (dC (.int 1))) (dIx (dVar 1) (dC (.int 1)))) dNil))))
def d_times : DS := (dRet (dCall sp_fraction (dCons (dMul (dIx (dVar 0) (dC (.int 0))) (dIx (dVar 1) (dC (.int 0)))) (dCons (dMul (dIx (dVar 0) (dC (.int 1))) (dIx (dVar 1) (dC (.int 1)))) dNil))))
def d_divided : DS := (dRet (dCall sp_fraction (dCons (dMul (dIx (dVar 0) (dC (.int 0))) (dIx (dVar 1) (dC (.int 1)))) (dCons (dMul (dIx (dVar 0) (dC (.int 1))) (dIx (dVar 1) (dC (.int 0)))) dNil))))
theorem pure_plus {N : List Str} (hN : N.length = 2) : ∀ us T P X, sp_plus us T P X → d_plus (dend0 P X) (startD N us) T := by
  intro us T P X h
  obtain ⟨a, b, rfl, h1⟩ := sp2.of (lock_of h)
  have e0 : startD N [a, b] = [some a, some b] := by unfold startD; rw [hN]; rfl
  rw [e0]; clear e0; unfold d_plus
  obtain ⟨t, b', u, v, n, ⟨s1, ha⟩, ⟨s2, hb⟩, b0, v0, bt, bu, hn, h2⟩ := h1
  obtain ⟨ta, tb⟩ := bt.mono hn
  obtain ⟨ua, ub⟩ := bu.mono hn
  walk_at "dx"
  simp only [ha, hb]
  walk_at "dx"
  walk_at "mos"
  exact sp_fraction_mk (Int.mul_ne_zero b0 v0) ⟨by walk_at "bt", by walk_at "bt"⟩ h2
theorem pure_minus {N : List Str} (hN : N.length = 2) : ∀ us T P X, sp_minus us T P X → d_minus (dend0 P X) (startD N us) T := by
  intro us T P X h
  obtain ⟨a, b, rfl, h1⟩ := sp2.of (lock_of h)
  have e0 : startD N [a, b] = [some a, some b] := by unfold startD; rw [hN]; rfl
  rw [e0]; clear e0; unfold d_minus
  obtain ⟨t, b', u, v, n, ⟨s1, ha⟩, ⟨s2, hb⟩, b0, v0, bt, bu, hn, h2⟩ := h1
  obtain ⟨ta, tb⟩ := bt.mono hn
  obtain ⟨ua, ub⟩ := bu.mono hn
  walk_at "dx"
  simp only [ha, hb]
  walk_at "dx"
  walk_at "mos"
  exact sp_fraction_mk (Int.mul_ne_zero b0 v0) ⟨by walk_at "bt", by walk_at "bt"⟩ h2
theorem pure_times {N : List Str} (hN : N.length = 2) : ∀ us T P X, sp_times us T P X → d_times (dend0 P X) (startD N us) T := by
  intro us T P X h
  obtain ⟨a, b, rfl, h1⟩ := sp2.of (lock_of h)
  have e0 : startD N [a, b] = [some a, some b] := by unfold startD; rw [hN]; rfl
  rw [e0]; clear e0; unfold d_times
  obtain ⟨t, b', u, v, n, ⟨s1, ha⟩, ⟨s2, hb⟩, b0, v0, bt, bu, hn, h2⟩ := h1
  obtain ⟨ta, tb⟩ := bt.mono hn
  obtain ⟨ua, ub⟩ := bu.mono hn
  walk_at "dx"
  simp only [ha, hb]
  walk_at "dx"
  walk_at "mos"
  exact sp_fraction_mk (Int.mul_ne_zero b0 v0) ⟨by walk_at "bt", by walk_at "bt"⟩ h2
theorem pure_divided {N : List Str} (hN : N.length = 2) : ∀ us T P X, sp_divided us T P X → d_divided (dend0 P X) (startD N us) T := by
  intro us T P X h
  obtain ⟨a, b, rfl, h1⟩ := sp2.of (lock_of h)
  have e0 : startD N [a, b] = [some a, some b] := by unfold startD; rw [hN]; rfl
  rw [e0]; clear e0; unfold d_divided
  obtain ⟨t, b', u, v, n, ⟨s1, ha⟩, ⟨s2, hb⟩, b0, v0, bt, bu, hn, h2⟩ := h1
  obtain ⟨ta, tb⟩ := bt.mono hn
  obtain ⟨ua, ub⟩ := bu.mono hn
  walk_at "dx"
  simp only [ha, hb]
  walk_at "dx"
  walk_at "mos"
  by_cases hu : u = 0
  · rw [if_pos hu] at h2
    exact sp_fraction_mk0 (by rw [hu, Int.mul_zero]) h2
  · rw [if_neg hu] at h2
    exact sp_fraction_mk (Int.mul_ne_zero b0 hu) ⟨by walk_at "bt", by walk_at "bt"⟩ h2
theorem sp_plus_mk {a b : D} {t b' u v : Int} {n : Nat} (ha : V2 T a t b') (hb : V2 T b u v) (b0 : b' ≠ 0) (v0 : v ≠ 0) (bt : B2 n t b') (bu : B2 n u v) (hn : n ≤ 3900) (h : P (.tup ((sgZ [t * v + u * b', b' * v]).map .int)) T) : sp_plus [a, b] T P X := lock_at ⟨t, b', u, v, n, ha, hb, b0, v0, bt, bu, hn, h⟩
theorem sp_minus_mk {a b : D} {t b' u v : Int} {n : Nat} (ha : V2 T a t b') (hb : V2 T b u v) (b0 : b' ≠ 0) (v0 : v ≠ 0) (bt : B2 n t b') (bu : B2 n u v) (hn : n ≤ 3900) (h : P (.tup ((sgZ [t * v - u * b', b' * v]).map .int)) T) : sp_minus [a, b] T P X := lock_at ⟨t, b', u, v, n, ha, hb, b0, v0, bt, bu, hn, h⟩
theorem sp_times_mk {a b : D} {t b' u v : Int} {n : Nat} (ha : V2 T a t b') (hb : V2 T b u v) (b0 : b' ≠ 0) (v0 : v ≠ 0) (bt : B2 n t b') (bu : B2 n u v) (hn : n ≤ 3900) (h : P (.tup ((sgZ [t * u, b' * v]).map .int)) T) : sp_times [a, b] T P X := lock_at ⟨t, b', u, v, n, ha, hb, b0, v0, bt, bu, hn, h⟩
theorem sp_divided_mk {a b : D} {t b' u v : Int} {n : Nat} (ha : V2 T a t b') (hb : V2 T b u v) (b0 : b' ≠ 0) (v0 : v ≠ 0) (bt : B2 n t b') (bu : B2 n u v) (hn : n ≤ 3900) (hu : u ≠ 0) (h : P (.tup ((sgZ [t * v, b' * u]).map .int)) T) : sp_divided [a, b] T P X := lock_at ⟨t, b', u, v, n, ha, hb, b0, v0, bt, bu, hn, by rw [if_neg hu]; exact h⟩
theorem sp_divided_mk0 {a b : D} {t b' u v : Int} {n : Nat} (ha : V2 T a t b') (hb : V2 T b u v) (b0 : b' ≠ 0) (v0 : v ≠ 0) (bt : B2 n t b') (bu : B2 n u v) (hn : n ≤ 3900) (hu : u = 0) (h : X "BottomNought" T) : sp_divided [a, b] T P X := lock_at ⟨t, b', u, v, n, ha, hb, b0, v0, bt, bu, hn, by rw [if_pos hu]; exact h⟩
theorem sp_point_sg {x y z w : Int} (hw : w ≠ 0) (bd : B4 8000 x y z w) (h : P (.tup ((sgZ [x, y, z, w]).map .int)) T) : sp_point [.int x, .int y, .int z, .int w] T P X := by
  rcases Int.lt_or_gt_of_ne hw with h0 | h0
  · rw [sgZ_neg (show [x, y, z, w].getLastD 0 < 0 from h0)] at h
    exact sp_point_mkN h0 bd h
  · rw [sgZ_pos (show 0 < [x, y, z, w].getLastD 0 from h0)] at h
    exact sp_point_mk h0 bd h
end
end SY

namespace SY
open PySem PySem.Spec PyProof.Rows L2
/-! ### lines in their one form -/
theorem flip_low {n : Nat} {a b c d e f : Int} (h : B6 n a b c d e f) : ∃ a' b' c' d' e' f' g, flip6 (lowZ [a, b, c, d, e, f]) = [a', b', c', d', e', f'] ∧ g ≠ 0 ∧ a = g * a' ∧ b = g * b' ∧ c = g * c' ∧ d = g * d' ∧ e = g * e' ∧ f = g * f' ∧ B6 n a' b' c' d' e' f' := by
  obtain ⟨a', b', c', d', e', f', g, q, g0, h1, h2, h3, h4, h5, h6, hb, _⟩ := low6 h
  rw [q]
  unfold flip6
  by_cases hn : neg3 a' b' c' = true
  · simp only [if_pos hn]
    refine ⟨_, _, _, _, _, _, -g, rfl, by omega, by rw [h1]; grind, by rw [h2]; grind, by rw [h3]; grind, by rw [h4]; grind, by rw [h5]; grind, by rw [h6]; grind, ⟨⟨hb.1.1.neg, hb.1.2.1.neg, hb.1.2.2.neg⟩, hb.2.1.neg, hb.2.2.1.neg, hb.2.2.2.neg⟩⟩
  · simp only [if_neg hn]
    exact ⟨_, _, _, _, _, _, g, rfl, by omega, h1, h2, h3, h4, h5, h6, hb⟩
theorem neg3_neg {a b c : Int} (h : a ≠ 0 ∨ b ≠ 0 ∨ c ≠ 0) : neg3 (-a) (-b) (-c) = !neg3 a b c := by
  unfold neg3
  rcases Int.lt_trichotomy a 0 with ha | ha | ha
  · simp [ha, show ¬ (0 < a) by omega, show ¬ a = 0 by omega]
  · subst ha
    rcases Int.lt_trichotomy b 0 with hb | hb | hb
    · simp [hb, show ¬ (0 < b) by omega, show ¬ b = 0 by omega]
    · subst hb
      have hc : c ≠ 0 := by rcases h with h | h | h <;> first | exact absurd rfl h | exact h
      rcases Int.lt_or_gt_of_ne hc with hc | hc
      · simp [hc, show ¬ (0 < c) by omega]
      · simp [hc, show ¬ (c < 0) by omega]
    · simp [hb, show ¬ (b < 0) by omega, show ¬ b = 0 by omega]
  · simp [ha, show ¬ (a < 0) by omega, show ¬ a = 0 by omega]
theorem flip6_neg {a b c d e f : Int} (h : a ≠ 0 ∨ b ≠ 0 ∨ c ≠ 0) : flip6 [-a, -b, -c, -d, -e, -f] = flip6 [a, b, c, d, e, f] := by
  simp only [flip6, neg3_neg h]
  cases neg3 a b c <;> simp
theorem flip6_prop {a b c d e f u v w x y z s t : Int} (h0 : a ≠ 0 ∨ b ≠ 0 ∨ c ≠ 0) (hs : s ≠ 0) (ht : t ≠ 0) (h : [u, v, w, x, y, z].map (s * ·) = [a, b, c, d, e, f].map (t * ·)) : flip6 (lowZ [u, v, w, x, y, z]) = flip6 (lowZ [a, b, c, d, e, f]) := by
  have pos : ∀ (u v w x y z s : Int), 0 < s → [u, v, w, x, y, z].map (s * ·) = [a, b, c, d, e, f].map (t * ·) → flip6 (lowZ [u, v, w, x, y, z]) = flip6 (lowZ [a, b, c, d, e, f]) := by
    intro u v w x y z s hs h
    rcases Int.lt_or_gt_of_ne ht with ht | ht
    · have g1 : lowZ [u, v, w, x, y, z] = lowZ [-a, -b, -c, -d, -e, -f] := by
        have e1 := lowZ_smul hs [u, v, w, x, y, z]
        have e2 := lowZ_smul (c := -t) (by omega) [-a, -b, -c, -d, -e, -f]
        rw [← e1, ← e2, h]
        simp only [List.map_cons, List.map_nil, Int.neg_mul_neg]
      rw [g1]
      have e3 := lowZ_neg [a, b, c, d, e, f]
      simp only [List.map_cons, List.map_nil] at e3
      rw [e3]
      have hs : ∃ a' b' c' d' e' f', lowZ [a, b, c, d, e, f] = [a', b', c', d', e', f'] := ⟨_, _, _, _, _, _, rfl⟩
      obtain ⟨a', b', c', d', e', f', q⟩ := hs
      rw [q]
      have hm := lowZ_mul [a, b, c, d, e, f]
      rw [q] at hm
      simp only [List.map_cons, List.map_nil, List.cons.injEq, and_true] at hm
      refine flip6_neg ?_
      rcases h0 with z | z | z
      · exact .inl fun z2 => z (by rw [← hm.1, z2, Int.mul_zero])
      · exact .inr (.inl fun z2 => z (by rw [← hm.2.1, z2, Int.mul_zero]))
      · exact .inr (.inr fun z2 => z (by rw [← hm.2.2.1, z2, Int.mul_zero]))
    · have g1 : lowZ [u, v, w, x, y, z] = lowZ [a, b, c, d, e, f] := by
        have e1 := lowZ_smul hs [u, v, w, x, y, z]
        have e2 := lowZ_smul ht [a, b, c, d, e, f]
        rw [← e1, ← e2, h]
      rw [g1]
  rcases Int.lt_or_gt_of_ne hs with hs | hs
  · have h' : [-u, -v, -w, -x, -y, -z].map ((-s) * ·) = [a, b, c, d, e, f].map (t * ·) := by
      rw [← h]
      simp only [List.map_cons, List.map_nil, Int.neg_mul_neg]
    have r := pos (-u) (-v) (-w) (-x) (-y) (-z) (-s) (by omega) h'
    rw [← r]
    have e3 := lowZ_neg [u, v, w, x, y, z]
    simp only [List.map_cons, List.map_nil] at e3
    rw [e3]
    have hq : ∃ a' b' c' d' e' f', lowZ [u, v, w, x, y, z] = [a', b', c', d', e', f'] := ⟨_, _, _, _, _, _, rfl⟩
    obtain ⟨a', b', c', d', e', f', q⟩ := hq
    rw [q]
    have hm := lowZ_mul [u, v, w, x, y, z]
    rw [q] at hm
    simp only [List.map_cons, List.map_nil, List.cons.injEq, and_true] at hm h
    refine (flip6_neg ?_).symm
    have nz : ∀ {p q r k : Int}, p ≠ 0 → s * q = t * p → k * r = q → r ≠ 0 := fun {p q r k} hp h1 h2 h3 => by
      rw [h3, Int.mul_zero] at h2
      rw [← h2, Int.mul_zero] at h1
      rcases Int.mul_eq_zero.mp h1.symm with z | z
      · exact ht z
      · exact hp z
    rcases h0 with z | z | z
    · exact .inl (nz z h.1 hm.1)
    · exact .inr (.inl (nz z h.2.1 hm.2.1))
    · exact .inr (.inr (nz z h.2.2.1 hm.2.2.1))
  · exact pos u v w x y z s hs h
theorem cancel2 {s g x y : Int} (hs : s ≠ 0) (hg : g ≠ 0) (h : s * g * x = s * g * y) : x = y := Int.eq_of_mul_eq_mul_left (Int.mul_ne_zero hs hg) h
theorem onl_true {a b c d e f p0 p1 p2 p3 g s A B C D E F P0 P1 P2 P3 : Int} (hg : g ≠ 0) (hs : s ≠ 0) (hA : A = g * a) (hB : B = g * b) (hC : C = g * c) (hD : D = g * d) (hE : E = g * e) (hF : F = g * f)
    (q0 : P0 = s * p0) (q1 : P1 = s * p1) (q2 : P2 = s * p2) (q3 : P3 = s * p3) (h1 : P1 * C - P2 * B = P3 * D) (h2 : P2 * A - P0 * C = P3 * E) (h3 : P0 * B - P1 * A = P3 * F) : onl a b c d e f p0 p1 p2 p3 = true := by
  subst hA hB hC hD hE hF q0 q1 q2 q3
  unfold onl
  refine decide_eq_true ?_
  have e1 : p1 * c - p2 * b = p3 * d := cancel2 hs hg (by grind)
  have e2 : p2 * a - p0 * c = p3 * e := cancel2 hs hg (by grind)
  have e3 : p0 * b - p1 * a = p3 * f := cancel2 hs hg (by grind)
  rw [e1, e2, e3]
theorem on_along (p0 p1 p2 p3 q0 q1 q2 q3 k m : Int) : (p1 * (q3 * (m - k)) + q1 * (p3 * k)) * (q2 * p3 - p2 * q3) - (p2 * (q3 * (m - k)) + q2 * (p3 * k)) * (q1 * p3 - p1 * q3) = m * p3 * q3 * (p1 * q2 - p2 * q1) := by grind
end SY

namespace SY
open PySem PySem.Spec PyProof.Rows L2
/-! ### the reading, step by step: what stands behind a step is not looked at before its turn -/
/-- a token that fixes what stands behind a step -/
def Tk {α : Sort u} (_ : α) : Type := Unit
def tk {α : Sort u} (k : α) : Tk k := ()
section
variable {P : D → Sto → Prop} {X : Xc → Sto → Prop} {T T' : Sto} {ρ ρ' : Env} {E : DX}
def someZ (o : Option D) (k : D → Prop) (_ : Tk k := tk k) : Prop := someOf o k
theorem someOf_z {o : Option D} {k : D → Prop} : someOf o k = someZ o k := (rfl)
theorem someZ_s {d : D} {k : D → Prop} : someZ (some d) k = k d := (rfl)
def int1Z (x : D) (k : Int → Prop) (_ : Tk k := tk k) : Prop := int1 x k
theorem int1_z {x : D} {k : Int → Prop} : int1 x k = int1Z x k := (rfl)
theorem int1Z_s {i : Int} {k : Int → Prop} : int1Z (.int i) k = k i := (rfl)
def int2Z (x y : D) (k : Int → Int → Prop) (_ : Tk k := tk k) : Prop := int2 x y k
theorem int2_z {x y : D} {k : Int → Int → Prop} : int2 x y k = int2Z x y k := (rfl)
theorem int2Z_s {i j : Int} {k : Int → Int → Prop} : int2Z (.int i) (.int j) k = k i j := (rfl)
def bl1Z (x : D) (k : Bool → Prop) (_ : Tk k := tk k) : Prop := bl1 x k
theorem bl1_z {x : D} {k : Bool → Prop} : bl1 x k = bl1Z x k := (rfl)
theorem bl1Z_s {b : Bool} {k : Bool → Prop} : bl1Z (.bl b) k = k b := (rfl)
def optZ {α : Type} (o : Option α) (k : α → Prop) (_ : Tk k := tk k) : Prop := optK o k
theorem optK_z {α : Type} {o : Option α} {k : α → Prop} : optK o k = optZ o k := (rfl)
theorem optZ_s {α : Type} {a : α} {k : α → Prop} : optZ (some a) k = k a := (rfl)
theorem seqK_z {x : D} {k : List D → Prop} : seqK x T k = optZ (seqOf T x) k := by unfold seqK optZ optK; cases seqOf T x <;> rfl
theorem ixD_z {x y : D} : ixD x y T P = optZ (seqOf T x) fun ds => int1Z y fun i => someZ (atI ds i) fun d => P d T := by
  unfold ixD optZ optK
  cases seqOf T x with
  | none => rfl
  | some ds => cases y <;> rfl
def addZ (x y : D) (T : Sto) (P : D → Sto → Prop) (_ : Tk P := tk P) : Prop := addD x y T P
theorem addD_z {x y : D} : addD x y T P = addZ x y T P := (rfl)
theorem addZ_i {i j : Int} : addZ (.int i) (.int j) T P = P (.int (i + j)) T := (rfl)
theorem addZ_s {i j : Str} : addZ (.str i) (.str j) T P = (i.length + j.length ≤ 1000000 ∧ P (.str (i ++ j)) T) := (rfl)
theorem addZ_t {xs ys : List D} : addZ (.tup xs) (.tup ys) T P = ((xs ≠ [] ∧ ys ≠ [] ∧ xs.length + ys.length ≤ 1000000) ∧ P (.tup (xs ++ ys)) T) := (rfl)
theorem addL_z {x y : D} : addL x y T P = optZ (plst T x) fun xs => optZ (plst T y) fun ys => xs.length + ys.length ≤ 1000000 ∧ P (.lst (xs ++ ys)) T := by
  unfold addL optZ optK
  cases plst T x with
  | none => rfl
  | some xs => cases plst T y <;> rfl
theorem addZ_l {xs : List D} {y : D} : addZ (.lst xs) y T P = optZ (plst T y) fun ys => xs.length + ys.length ≤ 1000000 ∧ P (.lst (xs ++ ys)) T := by
  show addL (.lst xs) y T P = _
  rw [addL_z]; rfl
theorem addZ_p {a : Addr} {y : D} : addZ (.ptr a) y T P = optZ (mlst (T a)) fun xs => optZ (plst T y) fun ys => xs.length + ys.length ≤ 1000000 ∧ P (.lst (xs ++ ys)) T := by
  show addL (.ptr a) y T P = _
  rw [addL_z]; rfl
def lenZ (x : D) (T : Sto) (P : D → Sto → Prop) (_ : Tk P := tk P) : Prop := lenD x T P
theorem lenD_z {x : D} : lenD x T P = lenZ x T P := (rfl)
theorem lenZ_t {ds : List D} : lenZ (.tup ds) T P = P (.int (ds.length : Int)) T := (rfl)
theorem lenZ_l {ds : List D} : lenZ (.lst ds) T P = P (.int (ds.length : Int)) T := (rfl)
theorem lenZ_s {s : Str} : lenZ (.str s) T P = (s.length ≤ sizeLine ∧ P (.int (s.length : Int)) T) := (rfl)
theorem lenZ_p {a : Addr} : lenZ (.ptr a) T P = optZ (mlst (T a)) fun ds => P (.int (ds.length : Int)) T := by
  unfold lenZ lenD optZ optK
  show (match mlst (T a) with | some ds => P (.int (ds.length : Int)) T | none => _) = _
  cases mlst (T a) <;> rfl
def slZ (x : D) (lo hi : Option Int) (T : Sto) (P : D → Sto → Prop) (_ : Tk P := tk P) : Prop := slD x lo hi T P
theorem slD_z {x : D} {lo hi : Option Int} : slD x lo hi T P = slZ x lo hi T P := (rfl)
theorem slZ_t {ds : List D} {lo hi : Option Int} : slZ (.tup ds) lo hi T P = (¬ (HT.sIx ds.length 0 lo = 0 ∧ HT.sIx ds.length ds.length hi = ds.length) ∧ P (.tup (cutD ds lo hi)) T) := (rfl)
theorem slZ_l {ds : List D} {lo hi : Option Int} : slZ (.lst ds) lo hi T P = P (.lst (cutD ds lo hi)) T := (rfl)
theorem slZ_s {ns : List Int} {lo hi : Option Int} : slZ (.scr ns) lo hi T P = P (.lst (cutD (ns.map .int) lo hi)) T := (rfl)
theorem slZ_p {a : Addr} {lo hi : Option Int} : slZ (.ptr a) lo hi T P = optZ (mlst (T a)) fun ds => P (.lst (cutD ds lo hi)) T := (rfl)
def setZ (o i d : D) (T : Sto) (k : Sto → Prop) (_ : Tk k := tk k) : Prop := setD o i d T k
theorem setD_z {o i d : D} {k : Sto → Prop} : setD o i d T k = setZ o i d T k := (rfl)
theorem setZ_s {a : Addr} {z : Int} {d : D} {k : Sto → Prop} : setZ (.ptr a) (.int z) d T k = optZ (mlst (T a)) fun ds => optZ (ixN ds.length z) fun j => k (updT T a (.lst (ds.set j d))) := (rfl)
def appZ (o d : D) (T : Sto) (P : D → Sto → Prop) (_ : Tk P := tk P) : Prop := appD o d T P
theorem appD_z {o d : D} : appD o d T P = appZ o d T P := (rfl)
theorem appZ_s {a : Addr} {d : D} : appZ (.ptr a) d T P = optZ (mlst (T a)) fun ds => ds.length < 1000000 ∧ P .non (updT T a (.lst (ds ++ [d]))) := (rfl)
def popZ (o i : D) (T : Sto) (P : D → Sto → Prop) (_ : Tk P := tk P) : Prop := popD o i T P
theorem popD_z {o i : D} : popD o i T P = popZ o i T P := (rfl)
theorem popZ_s {a : Addr} {z : Int} : popZ (.ptr a) (.int z) T P = ((-(2 ^ 63) ≤ z ∧ z < 2 ^ 63) ∧ optZ (mlst (T a)) fun ds => optZ (seqIndex? z ds.length) fun j => someZ ds[j]? fun d => P d (updT T a (.lst (ds.eraseIdx j)))) := (rfl)
def dgsZ (ds : List D) (k : D → List D → Prop) (_ : Tk k := tk k) : Prop := dgsK ds k
theorem dgsK_z {ds : List D} {k : D → List D → Prop} : dgsK ds k = dgsZ ds k := (rfl)
theorem dgsZ_s {d : D} {ds : List D} {k : D → List D → Prop} : dgsZ (d :: ds) k = k d ds := (rfl)
theorem nilK_s {k : Prop} : nilK [] k = k := (rfl)
def oneZ (ds : List D) (k : D → Prop) (_ : Tk k := tk k) : Prop := one ds k
theorem one_z {ds : List D} {k : D → Prop} : one ds k = oneZ ds k := (rfl)
theorem oneZ_s {d : D} {k : D → Prop} : oneZ [d] k = k d := (rfl)
def twoZ (ds : List D) (k : D → D → Prop) (_ : Tk k := tk k) : Prop := two ds k
theorem two_z {ds : List D} {k : D → D → Prop} : two ds k = twoZ ds k := (rfl)
theorem twoZ_s {d e : D} {k : D → D → Prop} : twoZ [d, e] k = k d e := (rfl)
def intZ (x : D) (k : Int → Prop) (_ : Tk k := tk k) : Prop := intK x k
theorem intK_z {x : D} {k : Int → Prop} : intK x k = intZ x k := (rfl)
theorem intZ_i {i : Int} {k : Int → Prop} : intZ (.int i) k = k i := (rfl)
theorem intZ_b {b : Bool} {k : Int → Prop} : intZ (.bl b) k = k (if b then 1 else 0) := (rfl)
def rng1Z (ds : List D) (k : List D → Prop) (_ : Tk k := tk k) : Prop := rng1 ds k
theorem rng1_z {ds : List D} {k : List D → Prop} : rng1 ds k = rng1Z ds k := (rfl)
theorem rng1Z_s {n : Int} {k : List D → Prop} : rng1Z [.int n] k = (Rg1 n ∧ k (rngL 0 n.toNat)) := (rfl)
def rng2Z (ds : List D) (k : List D → Prop) (_ : Tk k := tk k) : Prop := rng2 ds k
theorem rng2_z {ds : List D} {k : List D → Prop} : rng2 ds k = rng2Z ds k := (rfl)
theorem rng2Z_s {m n : Int} {k : List D → Prop} : rng2Z [.int m, .int n] k = (Rg2 m n ∧ k (rngL m (n - m).toNat)) := (rfl)
def frzZ (o : Option D) (T : Sto) (k0 : Prop) (k : D → Sto → Prop) (_ : Tk k := tk k) : Prop := frzK o T k0 k
theorem frzK_z {o : Option D} {k0 : Prop} {k : D → Sto → Prop} : frzK o T k0 k = frzZ o T k0 k := (rfl)
theorem frzZ_p {a : Addr} {k0 : Prop} {k : D → Sto → Prop} : frzZ (some (.ptr a)) T k0 k = optZ (mlst (T a)) fun ds => k (.lst ds) (offT T a) := (rfl)
theorem frzZ_l {ds : List D} {k0 : Prop} {k : D → Sto → Prop} : frzZ (some (.lst ds)) T k0 k = k0 := (rfl)
theorem frzZ_t {ds : List D} {k0 : Prop} {k : D → Sto → Prop} : frzZ (some (.tup ds)) T k0 k = k0 := (rfl)
def forZ (dg : DG) (db : DS) (E : DX) (ds : List D) (ρ : Env) (T : Sto) (_ : Tk E := tk E) : Prop := forL dg db E ds ρ T
theorem forL_z {dg : DG} {db : DS} {ds : List D} : forL dg db E ds ρ T = forZ dg db E ds ρ T := (rfl)
def DX.lp (E : DX) (dg : DG) (db : DS) (ds : List D) : DX := { E with nx := forL dg db E ds, ct := forL dg db E ds, bk := E.nx }
theorem forZ_nil {dg : DG} {db : DS} : forZ dg db E [] ρ T = E.nx ρ T := (rfl)
theorem forZ_cons {dg : DG} {db : DS} {d : D} {ds : List D} : forZ dg db E (d :: ds) ρ T = dg d ρ T (fun ρ1 T1 => db (E.lp dg db ds) ρ1 T1) (fun x T1 => E.ex x ρ T1) := (rfl)
def lcZ (j : Nat) (de : DE) (ρ : Env) (k : List D → Sto → Prop) (ds acc : List D) (T : Sto) (_ : Tk k := tk k) : Prop := lcL j de ρ k ds acc T
theorem lcL_z {j : Nat} {de : DE} {k : List D → Sto → Prop} {ds acc : List D} : lcL j de ρ k ds acc T = lcZ j de ρ k ds acc T := (rfl)
theorem lcZ_nil {j : Nat} {de : DE} {k : List D → Sto → Prop} {acc : List D} : lcZ j de ρ k [] acc T = k acc T := (rfl)
theorem lcZ_cons {j : Nat} {de : DE} {k : List D → Sto → Prop} {d : D} {ds acc : List D} : lcZ j de ρ k (d :: ds) acc T = de (ρ.set j (some d)) T (fun y T1 => lcZ j de ρ k ds (acc ++ [y]) T1) (fun _ _ => False) := (rfl)
/-- what comes next -/
def DX.sq (E : DX) (t : DS) : DX := { E with nx := fun ρ T => t E ρ T }
def goZ (t : DS) (E : DX) (ρ : Env) (T : Sto) (_ : Tk E := tk E) : Prop := t E ρ T
theorem goZ_s {t : DS} : goZ t E ρ T = t E ρ T := (rfl)
theorem dSeq_z {s t : DS} : dSeq s t E ρ T = s (E.sq t) ρ T := (rfl)
theorem ixN_21 : ixN 2 1 = some 1 := (rfl)
theorem ixN_31 : ixN 3 1 = some 1 := (rfl)
theorem ixN_32 : ixN 3 2 = some 2 := (rfl)
theorem ixN_41 : ixN 4 1 = some 1 := (rfl)
theorem ixN_42 : ixN 4 2 = some 2 := (rfl)
theorem ixN_43 : ixN 4 3 = some 3 := (rfl)
/-- a call, where the reading stops -/
def Cz (sp : DSp) (us : List D) (T : Sto) (P : D → Sto → Prop) (X : Xc → Sto → Prop) (_ : Tk P := tk P) (_ : Tk X := tk X) : Prop := sp us T P X
theorem dCall_z {sp : DSp} {a : DA} : dCall sp a ρ T P X = a ρ T (fun us T1 => Cz sp us T1 P X) X := (rfl)
theorem sq_nx {t : DS} : (E.sq t).nx ρ T = goZ t E ρ T := (rfl)
theorem sq_rt {t : DS} : (E.sq t).rt = E.rt := (rfl)
theorem sq_bk {t : DS} : (E.sq t).bk = E.bk := (rfl)
theorem sq_ct {t : DS} : (E.sq t).ct = E.ct := (rfl)
theorem sq_ex {t : DS} : (E.sq t).ex = E.ex := (rfl)
theorem lp_nx {dg : DG} {db : DS} {ds : List D} : (E.lp dg db ds).nx ρ T = forZ dg db E ds ρ T := (rfl)
theorem lp_ct {dg : DG} {db : DS} {ds : List D} : (E.lp dg db ds).ct ρ T = forZ dg db E ds ρ T := (rfl)
theorem lp_bk {dg : DG} {db : DS} {ds : List D} : (E.lp dg db ds).bk = E.nx := (rfl)
theorem lp_rt {dg : DG} {db : DS} {ds : List D} : (E.lp dg db ds).rt = E.rt := (rfl)
theorem lp_ex {dg : DG} {db : DS} {ds : List D} : (E.lp dg db ds).ex = E.ex := (rfl)
end
end SY

local macro_rules | `(tactic| walk_at "dz") => `(tactic| try simp -dsimp (maxSteps := 3000000) only [↓SY.someOf_z, ↓SY.int1_z, ↓SY.int2_z, ↓SY.bl1_z, ↓SY.optK_z, ↓SY.seqK_z, ↓SY.ixD_z, ↓SY.addD_z, ↓SY.lenD_z, ↓SY.slD_z, ↓SY.setD_z, ↓SY.appD_z, ↓SY.popD_z, ↓SY.dgsK_z, ↓SY.one_z, ↓SY.two_z, ↓SY.intK_z, ↓SY.rng1_z, ↓SY.rng2_z, ↓SY.frzK_z, ↓SY.forL_z, ↓SY.lcL_z, ↓SY.dSeq_z, SY.someZ_s, SY.int1Z_s, SY.int2Z_s, SY.bl1Z_s, SY.optZ_s, SY.addZ_i, SY.addZ_s, SY.addZ_t, SY.addZ_l, SY.addZ_p, SY.lenZ_t, SY.lenZ_l, SY.lenZ_s, SY.lenZ_p, SY.slZ_t, SY.slZ_l, SY.slZ_s, SY.slZ_p, SY.setZ_s, SY.appZ_s, SY.popZ_s, SY.dgsZ_s, SY.nilK_s, SY.oneZ_s, SY.twoZ_s, SY.intZ_i, SY.intZ_b, SY.rng1Z_s, SY.rng2Z_s, SY.frzZ_p, SY.frzZ_l, SY.frzZ_t, SY.forZ_nil, SY.forZ_cons, SY.lcZ_nil, SY.lcZ_cons, SY.goZ_s, ↓SY.sq_nx, ↓SY.sq_rt, ↓SY.sq_bk, ↓SY.sq_ct, ↓SY.sq_ex, ↓SY.lp_nx, ↓SY.lp_ct, ↓SY.lp_bk, ↓SY.lp_rt, ↓SY.lp_ex, SY.dAsg, SY.dRet, SY.dRetN, SY.dNext, SY.dIf, SY.dTst, SY.dC, SY.dVar, SY.dI, SY.dI0, SY.dMul, SY.dDiv, SY.dMod, SY.dPow, SY.dSub, SY.dLt, SY.dLe, SY.dGt, SY.dGe, SY.dNeg, SY.dAdd, SY.dIx, SY.dNil, SY.dCons, SY.dTup, SY.dLst, SY.dLstM, ↓SY.dCall_z, SY.dAbs, SY.dLen, SY.dTuple, SY.dList, SY.dListM, SY.dEq, SY.dNe, SY.dIsN, SY.dNotN, SY.dIsB, SY.dNotB, SY.dFrz, SY.dRaise, SY.dTryAs, SY.dTryOnly, SY.dIsE, SY.dtAnd, SY.dtOr, SY.dtNot, SY.dAnd, SY.dOr, SY.dNot, SY.dIsi, SY.dAll, SY.dSum, SY.dInt, SY.dSl, SY.dNoO, SY.dSomeO, SY.dDrop, SY.dAug, SY.dPar, SY.dAsgG, SY.dgName, SY.dgTup, SY.dgsNil, SY.dgsName, SY.dgSub, SY.dApp, SY.dPopAt, SY.dFor, SY.dForR1, SY.dForR2, SY.dForE, SY.dLc, SY.dLcR, SY.dLcRM, SY.rngL, SY.enumL, SY.frozen_tup, SY.frozen_lst, SY.frozen_scr, SY.frozL_lst, SY.frozL_scr, SY.seqOf_tup, SY.seqOf_lst, SY.seqOf_scr, SY.seqOf_ptr, SY.seqOf_int, SY.seqOf_str, SY.lstOf_lst, SY.lstOf_scr, SY.lstOf_ptr, SY.mlst_lst, SY.plst_lst, SY.plst_ptr, SY.isPtrL, SY.tyN, SY.isNon, SY.blsOf, SY.intsOf, SY.dend0, SY.dend, SY.startD, SY.eqOk_int, SY.eqv_int, SY.atI0, SY.atI1, SY.atI2, SY.atI3, SY.atI4, SY.atI5, SY.ixN0, decide_true, decide_false, Int.reduceEq, Int.reduceLT, Int.reduceLE, SY.ixN_21, SY.ixN_31, SY.ixN_32, SY.ixN_41, SY.ixN_42, SY.ixN_43, SY.seqIx0, SY.updT_same, SY.updT_updT, List.map_cons, List.map_nil, List.length_cons, List.length_nil, List.replicate, List.cons_append, List.nil_append, List.getD_cons_zero, List.getD_cons_succ, List.set_cons_zero, List.set_cons_succ, List.getElem?_cons_zero, List.eraseIdx_cons_zero, Option.isSome_some, Option.map_some, Int.reduceToNat, Int.reducePow, Int.reduceAdd, Int.reduceMul, Nat.zero_lt_succ, Nat.reduceLT, Nat.sub_self, Nat.reduceSub, Nat.reduceAdd, Nat.reduceLeDiff, Nat.zero_add, SY.kit_ii, SY.kit_ib, SY.kit_it, SY.kit_bi, SY.kit_bb, SY.kit_tt, SY.kit_ti, SY.kit_tb, SY.kit_nt, SY.kit_ll, SY.kit_lt, Bool.not_true, Bool.not_false, if_true, if_false, reduceIte, Bool.false_eq_true, true_and, and_true, and_self])

namespace SY
open PySem PySem.Spec PyProof.Rows L2
def z3 (a b c : Int) : Bool := decide ([a, b, c] = [0, 0, 0])
theorem z3_t {a b c : Int} (h : z3 a b c = true) : a = 0 ∧ b = 0 ∧ c = 0 := by
  have := of_decide_eq_true h
  simpa using this
theorem z3_f {a b c : Int} (h : z3 a b c = false) : a ≠ 0 ∨ b ≠ 0 ∨ c ≠ 0 := by
  have := of_decide_eq_false h
  simp only [List.cons.injEq, and_true] at this
  by_cases ha : a = 0
  · by_cases hb : b = 0
    · exact .inr (.inr fun hc => this ⟨ha, hb, hc⟩)
    · exact .inr (.inl hb)
  · exact .inl ha
def hgt (a b c d x y z w : Int) : Int := a * x + b * y + c * z + d * w
section
variable {T : Sto} {P : D → Sto → Prop} {X : Xc → Sto → Prop}
noncomputable def sp_plane : DSp := lock <| sp4 fun a b c d T P X => int2 a b fun a b => int2 c d fun c d => if z3 a b c = true then X "NoPlane" T else B4 8000 a b c d ∧ P (.tup ((lowZ [a, b, c, d]).map .int)) T
def d_plane : DS := (dSeq (dIf (dtAnd (dTst (dEq (dVar 0) (dC (.int 0)))) (dtAnd (dTst (dEq (dVar 1) (dC (.int 0)))) (dTst (dEq (dVar 2) (dC (.int 0)))))) (dRaise "NoPlane") dNext) (dRet (dCall sp_lowest (dCons (dTup (dCons (dVar 0) (dCons (dVar 1) (dCons (dVar 2) (dCons (dVar 3) dNil))))) dNil))))
theorem pure_plane {N : List Str} (hN : N.length = 4) : ∀ us T P X, sp_plane us T P X → d_plane (dend0 P X) (startD N us) T := by
  intro us T P X h
  obtain ⟨a, b, c, d, rfl, h1⟩ := sp4.of (lock_of h)
  have e0 : startD N [a, b, c, d] = [some a, some b, some c, some d] := by unfold startD; rw [hN]; rfl
  rw [e0]; clear e0; unfold d_plane
  obtain ⟨x, y, rfl, rfl, h3⟩ := int2.of h1
  obtain ⟨z, w, rfl, rfl, h2⟩ := int2.of h3
  walk_at "dz"
  cases hz : z3 x y z with
  | true =>
    rw [hz, if_pos rfl] at h2
    obtain ⟨rfl, rfl, rfl⟩ := z3_t hz
    simp only [decide_true, if_true]
    exact h2
  | false =>
    rw [hz, if_neg Bool.false_ne_true] at h2
    have go : Cz sp_lowest [.tup [.int x, .int y, .int z, .int w]] T P X := sp_lowest_mk (ns := [x, y, z, w]) rfl (all4 h2.1) (by simp) h2.2
    by_cases h0 : x = 0
    · rw [decide_eq_true h0]
      walk_at "dz"
      by_cases h0 : y = 0
      · rw [decide_eq_true h0]
        walk_at "dz"
        have h0 : z ≠ 0 := by rcases z3_f hz with q | q | q <;> first | exact absurd (by assumption) q | exact q
        rw [decide_eq_false h0]
        walk_at "dz"
        exact go
      · rw [decide_eq_false h0]
        walk_at "dz"
        exact go
    · rw [decide_eq_false h0]
      walk_at "dz"
      exact go
theorem sp_plane_mk {a b c d : Int} (hz : a ≠ 0 ∨ b ≠ 0 ∨ c ≠ 0) (bd : B4 8000 a b c d) (h : P (.tup ((lowZ [a, b, c, d]).map .int)) T) : sp_plane [.int a, .int b, .int c, .int d] T P X := by
  refine lock_at ?_
  show if z3 a b c = true then _ else _
  rw [if_neg (fun q => by obtain ⟨h1, h2, h3⟩ := z3_t q; rcases hz with z | z | z <;> exact z (by assumption))]
  exact ⟨bd, h⟩
theorem sp_plane_mk0 {d : Int} (h : X "NoPlane" T) : sp_plane [.int 0, .int 0, .int 0, .int d] T P X := by
  refine lock_at ?_
  show if z3 0 0 0 = true then X "NoPlane" T else B4 8000 0 0 0 d ∧ P (.tup ((lowZ [0, 0, 0, d]).map .int)) T
  rw [if_pos (show z3 0 0 0 = true by decide)]
  exact h
noncomputable def sp_height : DSp := lock <| sp2 fun f p T P _ => ∃ a b c d x y z w n, V4 T f a b c d ∧ V4 T p x y z w ∧ B4 n a b c d ∧ B4 n x y z w ∧ n ≤ 100000 ∧ P (.int (hgt a b c d x y z w)) T
def d_height : DS := (dRet (dAdd (dCall sp_dot (dCons (dVar 0) (dCons (dVar 1) dNil))) (dMul (dIx (dVar 0) (dC (.int 3))) (dIx (dVar 1) (dC (.int 3))))))
theorem pure_height {N : List Str} (hN : N.length = 2) : ∀ us T P X, sp_height us T P X → d_height (dend0 P X) (startD N us) T := by
  intro us T P X h
  obtain ⟨a, b, rfl, h1⟩ := sp2.of (lock_of h)
  have e0 : startD N [a, b] = [some a, some b] := by unfold startD; rw [hN]; rfl
  rw [e0]; clear e0; unfold d_height
  obtain ⟨f0, f1, f2, f3, x, y, z, w, n, hf, hp, bf, bp, hn, h2⟩ := h1
  obtain ⟨r1, e1⟩ := id hf
  obtain ⟨r2, e2⟩ := id hp
  obtain ⟨fa, fb, fc, fd⟩ := bf.mono hn
  obtain ⟨pa, pb, pc, pd⟩ := bp.mono hn
  walk_at "dz"
  refine sp_dot_mk hf.v3 hp.v3 bf.b3 bp.b3 (by omega) ?_
  (try simp -dsimp (maxSteps := 3000000) only [e1, e2, ↓SY.someOf_z, ↓SY.int1_z, ↓SY.int2_z, ↓SY.bl1_z, ↓SY.optK_z, ↓SY.seqK_z, ↓SY.ixD_z, ↓SY.addD_z, ↓SY.lenD_z, ↓SY.slD_z, ↓SY.setD_z, ↓SY.appD_z, ↓SY.popD_z, ↓SY.dgsK_z, ↓SY.one_z, ↓SY.two_z, ↓SY.intK_z, ↓SY.rng1_z, ↓SY.rng2_z, ↓SY.frzK_z, ↓SY.forL_z, ↓SY.lcL_z, ↓SY.dSeq_z, SY.someZ_s, SY.int1Z_s, SY.int2Z_s, SY.bl1Z_s, SY.optZ_s, SY.addZ_i, SY.addZ_s, SY.addZ_t, SY.addZ_l, SY.addZ_p, SY.lenZ_t, SY.lenZ_l, SY.lenZ_s, SY.lenZ_p, SY.slZ_t, SY.slZ_l, SY.slZ_s, SY.slZ_p, SY.setZ_s, SY.appZ_s, SY.popZ_s, SY.dgsZ_s, SY.nilK_s, SY.oneZ_s, SY.twoZ_s, SY.intZ_i, SY.intZ_b, SY.rng1Z_s, SY.rng2Z_s, SY.frzZ_p, SY.frzZ_l, SY.frzZ_t, SY.forZ_nil, SY.forZ_cons, SY.lcZ_nil, SY.lcZ_cons, SY.goZ_s, ↓SY.sq_nx, ↓SY.sq_rt, ↓SY.sq_bk, ↓SY.sq_ct, ↓SY.sq_ex, ↓SY.lp_nx, ↓SY.lp_ct, ↓SY.lp_bk, ↓SY.lp_rt, ↓SY.lp_ex, SY.dAsg, SY.dRet, SY.dRetN, SY.dNext, SY.dIf, SY.dTst, SY.dC, SY.dVar, SY.dI, SY.dI0, SY.dMul, SY.dDiv, SY.dMod, SY.dPow, SY.dSub, SY.dLt, SY.dLe, SY.dGt, SY.dGe, SY.dNeg, SY.dAdd, SY.dIx, SY.dNil, SY.dCons, SY.dTup, SY.dLst, SY.dLstM, ↓SY.dCall_z, SY.dAbs, SY.dLen, SY.dTuple, SY.dList, SY.dListM, SY.dEq, SY.dNe, SY.dIsN, SY.dNotN, SY.dIsB, SY.dNotB, SY.dFrz, SY.dRaise, SY.dTryAs, SY.dTryOnly, SY.dIsE, SY.dtAnd, SY.dtOr, SY.dtNot, SY.dAnd, SY.dOr, SY.dNot, SY.dIsi, SY.dAll, SY.dSum, SY.dInt, SY.dSl, SY.dNoO, SY.dSomeO, SY.dDrop, SY.dAug, SY.dPar, SY.dAsgG, SY.dgName, SY.dgTup, SY.dgsNil, SY.dgsName, SY.dgSub, SY.dApp, SY.dPopAt, SY.dFor, SY.dForR1, SY.dForR2, SY.dForE, SY.dLc, SY.dLcR, SY.dLcRM, SY.rngL, SY.enumL, SY.frozen_tup, SY.frozen_lst, SY.frozen_scr, SY.frozL_lst, SY.frozL_scr, SY.seqOf_tup, SY.seqOf_lst, SY.seqOf_scr, SY.seqOf_ptr, SY.seqOf_int, SY.seqOf_str, SY.lstOf_lst, SY.lstOf_scr, SY.lstOf_ptr, SY.mlst_lst, SY.plst_lst, SY.plst_ptr, SY.isPtrL, SY.tyN, SY.isNon, SY.blsOf, SY.intsOf, SY.dend0, SY.dend, SY.startD, SY.eqOk_int, SY.eqv_int, SY.atI0, SY.atI1, SY.atI2, SY.atI3, SY.atI4, SY.atI5, SY.ixN0, decide_true, decide_false, Int.reduceEq, Int.reduceLT, Int.reduceLE, SY.ixN_21, SY.ixN_31, SY.ixN_32, SY.ixN_41, SY.ixN_42, SY.ixN_43, SY.seqIx0, SY.updT_same, SY.updT_updT, List.map_cons, List.map_nil, List.length_cons, List.length_nil, List.replicate, List.cons_append, List.nil_append, List.getD_cons_zero, List.getD_cons_succ, List.set_cons_zero, List.set_cons_succ, List.getElem?_cons_zero, List.eraseIdx_cons_zero, Option.isSome_some, Option.map_some, Int.reduceToNat, Int.reducePow, Int.reduceAdd, Int.reduceMul, Nat.zero_lt_succ, Nat.reduceLT, Nat.sub_self, Nat.reduceSub, Nat.reduceAdd, Nat.reduceLeDiff, Nat.zero_add, SY.kit_ii, SY.kit_ib, SY.kit_it, SY.kit_bi, SY.kit_bb, SY.kit_tt, SY.kit_ti, SY.kit_tb, SY.kit_nt, SY.kit_ll, SY.kit_lt, Bool.not_true, Bool.not_false, if_true, if_false, reduceIte, Bool.false_eq_true, true_and, and_true, and_self])
  exact ⟨by walk_at "mo", h2⟩
theorem sp_height_mk {f p : D} {a b c d x y z w : Int} {n : Nat} (hf : V4 T f a b c d) (hp : V4 T p x y z w) (bf : B4 n a b c d) (bp : B4 n x y z w) (hn : n ≤ 100000) (h : P (.int (hgt a b c d x y z w)) T) : sp_height [f, p] T P X := lock_at ⟨_, _, _, _, _, _, _, _, n, hf, hp, bf, bp, hn, h⟩
noncomputable def sp_l_height : DSp := lock <| sp2 fun f p T P _ => ∃ a b c d x y z w n, V4 T f a b c d ∧ V4 T p x y z w ∧ B4 n a b c d ∧ B4 n x y z w ∧ n ≤ 100000 ∧ P (.int (hgt a b c d x y z w)) T
def d_l_height : DS := (dSeq (dAsg (dAdd (dMul (dIx (dVar 0) (dC (.int 0))) (dIx (dVar 1) (dC (.int 0)))) (dMul (dIx (dVar 0) (dC (.int 1))) (dIx (dVar 1) (dC (.int 1))))) 2) (dRet (dAdd (dAdd (dVar 2) (dMul (dIx (dVar 0) (dC (.int 2))) (dIx (dVar 1) (dC (.int 2))))) (dMul (dIx (dVar 0) (dC (.int 3))) (dIx (dVar 1) (dC (.int 3)))))))
theorem pure_l_height {N : List Str} (hN : N.length = 3) : ∀ us T P X, sp_l_height us T P X → d_l_height (dend0 P X) (startD N us) T := by
  intro us T P X h
  obtain ⟨a, b, rfl, h1⟩ := sp2.of (lock_of h)
  have e0 : startD N [a, b] = [some a, some b, none] := by unfold startD; rw [hN]; rfl
  rw [e0]; clear e0; unfold d_l_height
  obtain ⟨f0, f1, f2, f3, x, y, z, w, n, hf, hp, bf, bp, hn, h2⟩ := h1
  obtain ⟨r1, e1⟩ := id hf
  obtain ⟨r2, e2⟩ := id hp
  obtain ⟨fa, fb, fc, fd⟩ := bf.mono hn
  obtain ⟨pa, pb, pc, pd⟩ := bp.mono hn
  (try simp -dsimp (maxSteps := 3000000) only [e1, e2, ↓SY.someOf_z, ↓SY.int1_z, ↓SY.int2_z, ↓SY.bl1_z, ↓SY.optK_z, ↓SY.seqK_z, ↓SY.ixD_z, ↓SY.addD_z, ↓SY.lenD_z, ↓SY.slD_z, ↓SY.setD_z, ↓SY.appD_z, ↓SY.popD_z, ↓SY.dgsK_z, ↓SY.one_z, ↓SY.two_z, ↓SY.intK_z, ↓SY.rng1_z, ↓SY.rng2_z, ↓SY.frzK_z, ↓SY.forL_z, ↓SY.lcL_z, ↓SY.dSeq_z, SY.someZ_s, SY.int1Z_s, SY.int2Z_s, SY.bl1Z_s, SY.optZ_s, SY.addZ_i, SY.addZ_s, SY.addZ_t, SY.addZ_l, SY.addZ_p, SY.lenZ_t, SY.lenZ_l, SY.lenZ_s, SY.lenZ_p, SY.slZ_t, SY.slZ_l, SY.slZ_s, SY.slZ_p, SY.setZ_s, SY.appZ_s, SY.popZ_s, SY.dgsZ_s, SY.nilK_s, SY.oneZ_s, SY.twoZ_s, SY.intZ_i, SY.intZ_b, SY.rng1Z_s, SY.rng2Z_s, SY.frzZ_p, SY.frzZ_l, SY.frzZ_t, SY.forZ_nil, SY.forZ_cons, SY.lcZ_nil, SY.lcZ_cons, SY.goZ_s, ↓SY.sq_nx, ↓SY.sq_rt, ↓SY.sq_bk, ↓SY.sq_ct, ↓SY.sq_ex, ↓SY.lp_nx, ↓SY.lp_ct, ↓SY.lp_bk, ↓SY.lp_rt, ↓SY.lp_ex, SY.dAsg, SY.dRet, SY.dRetN, SY.dNext, SY.dIf, SY.dTst, SY.dC, SY.dVar, SY.dI, SY.dI0, SY.dMul, SY.dDiv, SY.dMod, SY.dPow, SY.dSub, SY.dLt, SY.dLe, SY.dGt, SY.dGe, SY.dNeg, SY.dAdd, SY.dIx, SY.dNil, SY.dCons, SY.dTup, SY.dLst, SY.dLstM, ↓SY.dCall_z, SY.dAbs, SY.dLen, SY.dTuple, SY.dList, SY.dListM, SY.dEq, SY.dNe, SY.dIsN, SY.dNotN, SY.dIsB, SY.dNotB, SY.dFrz, SY.dRaise, SY.dTryAs, SY.dTryOnly, SY.dIsE, SY.dtAnd, SY.dtOr, SY.dtNot, SY.dAnd, SY.dOr, SY.dNot, SY.dIsi, SY.dAll, SY.dSum, SY.dInt, SY.dSl, SY.dNoO, SY.dSomeO, SY.dDrop, SY.dAug, SY.dPar, SY.dAsgG, SY.dgName, SY.dgTup, SY.dgsNil, SY.dgsName, SY.dgSub, SY.dApp, SY.dPopAt, SY.dFor, SY.dForR1, SY.dForR2, SY.dForE, SY.dLc, SY.dLcR, SY.dLcRM, SY.rngL, SY.enumL, SY.frozen_tup, SY.frozen_lst, SY.frozen_scr, SY.frozL_lst, SY.frozL_scr, SY.seqOf_tup, SY.seqOf_lst, SY.seqOf_scr, SY.seqOf_ptr, SY.seqOf_int, SY.seqOf_str, SY.lstOf_lst, SY.lstOf_scr, SY.lstOf_ptr, SY.mlst_lst, SY.plst_lst, SY.plst_ptr, SY.isPtrL, SY.tyN, SY.isNon, SY.blsOf, SY.intsOf, SY.dend0, SY.dend, SY.startD, SY.eqOk_int, SY.eqv_int, SY.atI0, SY.atI1, SY.atI2, SY.atI3, SY.atI4, SY.atI5, SY.ixN0, decide_true, decide_false, Int.reduceEq, Int.reduceLT, Int.reduceLE, SY.ixN_21, SY.ixN_31, SY.ixN_32, SY.ixN_41, SY.ixN_42, SY.ixN_43, SY.seqIx0, SY.updT_same, SY.updT_updT, List.map_cons, List.map_nil, List.length_cons, List.length_nil, List.replicate, List.cons_append, List.nil_append, List.getD_cons_zero, List.getD_cons_succ, List.set_cons_zero, List.set_cons_succ, List.getElem?_cons_zero, List.eraseIdx_cons_zero, Option.isSome_some, Option.map_some, Int.reduceToNat, Int.reducePow, Int.reduceAdd, Int.reduceMul, Nat.zero_lt_succ, Nat.reduceLT, Nat.sub_self, Nat.reduceSub, Nat.reduceAdd, Nat.reduceLeDiff, Nat.zero_add, SY.kit_ii, SY.kit_ib, SY.kit_it, SY.kit_bi, SY.kit_bb, SY.kit_tt, SY.kit_ti, SY.kit_tb, SY.kit_nt, SY.kit_ll, SY.kit_lt, Bool.not_true, Bool.not_false, if_true, if_false, reduceIte, Bool.false_eq_true, true_and, and_true, and_self])
  walk_at "mos"
  exact h2
theorem sp_l_height_mk {f p : D} {a b c d x y z w : Int} {n : Nat} (hf : V4 T f a b c d) (hp : V4 T p x y z w) (bf : B4 n a b c d) (bp : B4 n x y z w) (hn : n ≤ 100000) (h : P (.int (hgt a b c d x y z w)) T) : sp_l_height [f, p] T P X := lock_at ⟨_, _, _, _, _, _, _, _, n, hf, hp, bf, bp, hn, h⟩
noncomputable def sp_over : DSp := lock <| sp1 fun f T P _ => ∃ a b c d, V4 T f a b c d ∧ P (.tup [.int (-a), .int (-b), .int (-c), .int (-d)]) T
def d_over : DS := (dRet (dTup (dCons (dNeg (dIx (dVar 0) (dC (.int 0)))) (dCons (dNeg (dIx (dVar 0) (dC (.int 1)))) (dCons (dNeg (dIx (dVar 0) (dC (.int 2)))) (dCons (dNeg (dIx (dVar 0) (dC (.int 3)))) dNil))))))
theorem pure_over {N : List Str} (hN : N.length = 1) : ∀ us T P X, sp_over us T P X → d_over (dend0 P X) (startD N us) T := by
  intro us T P X h
  obtain ⟨a, rfl, h1⟩ := sp1.of (lock_of h)
  have e0 : startD N [a] = [some a] := by unfold startD; rw [hN]; rfl
  rw [e0]; clear e0; unfold d_over
  obtain ⟨f0, f1, f2, f3, ⟨r1, e1⟩, h2⟩ := h1
  (try simp -dsimp (maxSteps := 3000000) only [e1, ↓SY.someOf_z, ↓SY.int1_z, ↓SY.int2_z, ↓SY.bl1_z, ↓SY.optK_z, ↓SY.seqK_z, ↓SY.ixD_z, ↓SY.addD_z, ↓SY.lenD_z, ↓SY.slD_z, ↓SY.setD_z, ↓SY.appD_z, ↓SY.popD_z, ↓SY.dgsK_z, ↓SY.one_z, ↓SY.two_z, ↓SY.intK_z, ↓SY.rng1_z, ↓SY.rng2_z, ↓SY.frzK_z, ↓SY.forL_z, ↓SY.lcL_z, ↓SY.dSeq_z, SY.someZ_s, SY.int1Z_s, SY.int2Z_s, SY.bl1Z_s, SY.optZ_s, SY.addZ_i, SY.addZ_s, SY.addZ_t, SY.addZ_l, SY.addZ_p, SY.lenZ_t, SY.lenZ_l, SY.lenZ_s, SY.lenZ_p, SY.slZ_t, SY.slZ_l, SY.slZ_s, SY.slZ_p, SY.setZ_s, SY.appZ_s, SY.popZ_s, SY.dgsZ_s, SY.nilK_s, SY.oneZ_s, SY.twoZ_s, SY.intZ_i, SY.intZ_b, SY.rng1Z_s, SY.rng2Z_s, SY.frzZ_p, SY.frzZ_l, SY.frzZ_t, SY.forZ_nil, SY.forZ_cons, SY.lcZ_nil, SY.lcZ_cons, SY.goZ_s, ↓SY.sq_nx, ↓SY.sq_rt, ↓SY.sq_bk, ↓SY.sq_ct, ↓SY.sq_ex, ↓SY.lp_nx, ↓SY.lp_ct, ↓SY.lp_bk, ↓SY.lp_rt, ↓SY.lp_ex, SY.dAsg, SY.dRet, SY.dRetN, SY.dNext, SY.dIf, SY.dTst, SY.dC, SY.dVar, SY.dI, SY.dI0, SY.dMul, SY.dDiv, SY.dMod, SY.dPow, SY.dSub, SY.dLt, SY.dLe, SY.dGt, SY.dGe, SY.dNeg, SY.dAdd, SY.dIx, SY.dNil, SY.dCons, SY.dTup, SY.dLst, SY.dLstM, ↓SY.dCall_z, SY.dAbs, SY.dLen, SY.dTuple, SY.dList, SY.dListM, SY.dEq, SY.dNe, SY.dIsN, SY.dNotN, SY.dIsB, SY.dNotB, SY.dFrz, SY.dRaise, SY.dTryAs, SY.dTryOnly, SY.dIsE, SY.dtAnd, SY.dtOr, SY.dtNot, SY.dAnd, SY.dOr, SY.dNot, SY.dIsi, SY.dAll, SY.dSum, SY.dInt, SY.dSl, SY.dNoO, SY.dSomeO, SY.dDrop, SY.dAug, SY.dPar, SY.dAsgG, SY.dgName, SY.dgTup, SY.dgsNil, SY.dgsName, SY.dgSub, SY.dApp, SY.dPopAt, SY.dFor, SY.dForR1, SY.dForR2, SY.dForE, SY.dLc, SY.dLcR, SY.dLcRM, SY.rngL, SY.enumL, SY.frozen_tup, SY.frozen_lst, SY.frozen_scr, SY.frozL_lst, SY.frozL_scr, SY.seqOf_tup, SY.seqOf_lst, SY.seqOf_scr, SY.seqOf_ptr, SY.seqOf_int, SY.seqOf_str, SY.lstOf_lst, SY.lstOf_scr, SY.lstOf_ptr, SY.mlst_lst, SY.plst_lst, SY.plst_ptr, SY.isPtrL, SY.tyN, SY.isNon, SY.blsOf, SY.intsOf, SY.dend0, SY.dend, SY.startD, SY.eqOk_int, SY.eqv_int, SY.atI0, SY.atI1, SY.atI2, SY.atI3, SY.atI4, SY.atI5, SY.ixN0, decide_true, decide_false, Int.reduceEq, Int.reduceLT, Int.reduceLE, SY.ixN_21, SY.ixN_31, SY.ixN_32, SY.ixN_41, SY.ixN_42, SY.ixN_43, SY.seqIx0, SY.updT_same, SY.updT_updT, List.map_cons, List.map_nil, List.length_cons, List.length_nil, List.replicate, List.cons_append, List.nil_append, List.getD_cons_zero, List.getD_cons_succ, List.set_cons_zero, List.set_cons_succ, List.getElem?_cons_zero, List.eraseIdx_cons_zero, Option.isSome_some, Option.map_some, Int.reduceToNat, Int.reducePow, Int.reduceAdd, Int.reduceMul, Nat.zero_lt_succ, Nat.reduceLT, Nat.sub_self, Nat.reduceSub, Nat.reduceAdd, Nat.reduceLeDiff, Nat.zero_add, SY.kit_ii, SY.kit_ib, SY.kit_it, SY.kit_bi, SY.kit_bb, SY.kit_tt, SY.kit_ti, SY.kit_tb, SY.kit_nt, SY.kit_ll, SY.kit_lt, Bool.not_true, Bool.not_false, if_true, if_false, reduceIte, Bool.false_eq_true, true_and, and_true, and_self])
  exact h2
theorem sp_over_mk {f : D} {a b c d : Int} (hf : V4 T f a b c d) (h : P (.tup [.int (-a), .int (-b), .int (-c), .int (-d)]) T) : sp_over [f] T P X := lock_at ⟨_, _, _, _, hf, h⟩
noncomputable def sp_l_over : DSp := lock <| sp1 fun f T P _ => ∃ ns : List Int, frozen f = some (ns.map .int) ∧ ns.length ≤ 1000 ∧ P (.tup ((ns.map (-·)).map .int)) T
def d_l_over : DS := (dRet (dTuple (dLc 1 (dVar 0) (dNeg (dVar 1)))))
theorem pure_l_over {N : List Str} (hN : N.length = 2) : ∀ us T P X, sp_l_over us T P X → d_l_over (dend0 P X) (startD N us) T := by
  intro us T P X h
  obtain ⟨a, rfl, h1⟩ := sp1.of (lock_of h)
  have e0 : startD N [a] = [some a, none] := by unfold startD; rw [hN]; rfl
  rw [e0]; clear e0; unfold d_l_over
  obtain ⟨ns, hf, hl, h2⟩ := h1
  (try simp -dsimp (maxSteps := 3000000) only [hf, ↓SY.someOf_z, ↓SY.int1_z, ↓SY.int2_z, ↓SY.bl1_z, ↓SY.optK_z, ↓SY.seqK_z, ↓SY.ixD_z, ↓SY.addD_z, ↓SY.lenD_z, ↓SY.slD_z, ↓SY.setD_z, ↓SY.appD_z, ↓SY.popD_z, ↓SY.dgsK_z, ↓SY.one_z, ↓SY.two_z, ↓SY.intK_z, ↓SY.rng1_z, ↓SY.rng2_z, ↓SY.frzK_z, ↓SY.forL_z, ↓SY.lcL_z, ↓SY.dSeq_z, SY.someZ_s, SY.int1Z_s, SY.int2Z_s, SY.bl1Z_s, SY.optZ_s, SY.addZ_i, SY.addZ_s, SY.addZ_t, SY.addZ_l, SY.addZ_p, SY.lenZ_t, SY.lenZ_l, SY.lenZ_s, SY.lenZ_p, SY.slZ_t, SY.slZ_l, SY.slZ_s, SY.slZ_p, SY.setZ_s, SY.appZ_s, SY.popZ_s, SY.dgsZ_s, SY.nilK_s, SY.oneZ_s, SY.twoZ_s, SY.intZ_i, SY.intZ_b, SY.rng1Z_s, SY.rng2Z_s, SY.frzZ_p, SY.frzZ_l, SY.frzZ_t, SY.forZ_nil, SY.forZ_cons, SY.lcZ_nil, SY.lcZ_cons, SY.goZ_s, ↓SY.sq_nx, ↓SY.sq_rt, ↓SY.sq_bk, ↓SY.sq_ct, ↓SY.sq_ex, ↓SY.lp_nx, ↓SY.lp_ct, ↓SY.lp_bk, ↓SY.lp_rt, ↓SY.lp_ex, SY.dAsg, SY.dRet, SY.dRetN, SY.dNext, SY.dIf, SY.dTst, SY.dC, SY.dVar, SY.dI, SY.dI0, SY.dMul, SY.dDiv, SY.dMod, SY.dPow, SY.dSub, SY.dLt, SY.dLe, SY.dGt, SY.dGe, SY.dNeg, SY.dAdd, SY.dIx, SY.dNil, SY.dCons, SY.dTup, SY.dLst, SY.dLstM, ↓SY.dCall_z, SY.dAbs, SY.dLen, SY.dTuple, SY.dList, SY.dListM, SY.dEq, SY.dNe, SY.dIsN, SY.dNotN, SY.dIsB, SY.dNotB, SY.dFrz, SY.dRaise, SY.dTryAs, SY.dTryOnly, SY.dIsE, SY.dtAnd, SY.dtOr, SY.dtNot, SY.dAnd, SY.dOr, SY.dNot, SY.dIsi, SY.dAll, SY.dSum, SY.dInt, SY.dSl, SY.dNoO, SY.dSomeO, SY.dDrop, SY.dAug, SY.dPar, SY.dAsgG, SY.dgName, SY.dgTup, SY.dgsNil, SY.dgsName, SY.dgSub, SY.dApp, SY.dPopAt, SY.dFor, SY.dForR1, SY.dForR2, SY.dForE, SY.dLc, SY.dLcR, SY.dLcRM, SY.rngL, SY.enumL, SY.frozen_tup, SY.frozen_lst, SY.frozen_scr, SY.frozL_lst, SY.frozL_scr, SY.seqOf_tup, SY.seqOf_lst, SY.seqOf_scr, SY.seqOf_ptr, SY.seqOf_int, SY.seqOf_str, SY.lstOf_lst, SY.lstOf_scr, SY.lstOf_ptr, SY.mlst_lst, SY.plst_lst, SY.plst_ptr, SY.isPtrL, SY.tyN, SY.isNon, SY.blsOf, SY.intsOf, SY.dend0, SY.dend, SY.startD, SY.eqOk_int, SY.eqv_int, SY.atI0, SY.atI1, SY.atI2, SY.atI3, SY.atI4, SY.atI5, SY.ixN0, decide_true, decide_false, Int.reduceEq, Int.reduceLT, Int.reduceLE, SY.ixN_21, SY.ixN_31, SY.ixN_32, SY.ixN_41, SY.ixN_42, SY.ixN_43, SY.seqIx0, SY.updT_same, SY.updT_updT, List.map_cons, List.map_nil, List.length_cons, List.length_nil, List.replicate, List.cons_append, List.nil_append, List.getD_cons_zero, List.getD_cons_succ, List.set_cons_zero, List.set_cons_succ, List.getElem?_cons_zero, List.eraseIdx_cons_zero, Option.isSome_some, Option.map_some, Int.reduceToNat, Int.reducePow, Int.reduceAdd, Int.reduceMul, Nat.zero_lt_succ, Nat.reduceLT, Nat.sub_self, Nat.reduceSub, Nat.reduceAdd, Nat.reduceLeDiff, Nat.zero_add, SY.kit_ii, SY.kit_ib, SY.kit_it, SY.kit_bi, SY.kit_bb, SY.kit_tt, SY.kit_ti, SY.kit_tb, SY.kit_nt, SY.kit_ll, SY.kit_lt, Bool.not_true, Bool.not_false, if_true, if_false, reduceIte, Bool.false_eq_true, true_and, and_true, and_self])
  refine ⟨by simp; omega, ?_⟩
  refine lc_neg (fun d => rfl) ns ?_
  walk_at "dz"
  exact h2
theorem sp_l_over_mk {f : D} {ns : List Int} (hf : frozen f = some (ns.map .int)) (hl : ns.length ≤ 1000) (h : P (.tup ((ns.map (-·)).map .int)) T) : sp_l_over [f] T P X := lock_at ⟨ns, hf, hl, h⟩
/-- the plane of three points, as its raw numbers -/
def cx0 (p0 p1 p2 p3 q0 q1 q2 q3 r0 r1 r2 r3 : Int) : Int := (q1 * p3 - p1 * q3) * (r2 * p3 - p2 * r3) - (q2 * p3 - p2 * q3) * (r1 * p3 - p1 * r3)
noncomputable def sp_plane_through : DSp := lock <| sp3 fun a b c T P X => ∃ p0 p1 p2 p3 q0 q1 q2 q3 r0 r1 r2 r3 n, V4 T a p0 p1 p2 p3 ∧ V4 T b q0 q1 q2 q3 ∧ V4 T c r0 r1 r2 r3 ∧ p3 ≠ 0 ∧ B4 n p0 p1 p2 p3 ∧ B4 n q0 q1 q2 q3 ∧ B4 n r0 r1 r2 r3 ∧ n ≤ 1500 ∧
  if z3 (cx0 p0 p1 p2 p3 q0 q1 q2 q3 r0 r1 r2 r3) (cx0 p1 p2 p0 p3 q1 q2 q0 q3 r1 r2 r0 r3) (cx0 p2 p0 p1 p3 q2 q0 q1 q3 r2 r0 r1 r3) = true then X "NoPlane" T else
  P (.tup ((lowZ [cx0 p0 p1 p2 p3 q0 q1 q2 q3 r0 r1 r2 r3 * p3, cx0 p1 p2 p0 p3 q1 q2 q0 q3 r1 r2 r0 r3 * p3, cx0 p2 p0 p1 p3 q2 q0 q1 q3 r2 r0 r1 r3 * p3, -(cx0 p0 p1 p2 p3 q0 q1 q2 q3 r0 r1 r2 r3 * p0 + cx0 p1 p2 p0 p3 q1 q2 q0 q3 r1 r2 r0 r3 * p1 + cx0 p2 p0 p1 p3 q2 q0 q1 q3 r2 r0 r1 r3 * p2)]).map .int)) T
theorem cx0_bd {n : Nat} {p0 p1 p2 p3 q0 q1 q2 q3 r0 r1 r2 r3 : Int} (bp : B4 n p0 p1 p2 p3) (bq : B4 n q0 q1 q2 q3) (br : B4 n r0 r1 r2 r3) (hn : n ≤ 1500) : Bd 6005 (cx0 p0 p1 p2 p3 q0 q1 q2 q3 r0 r1 r2 r3) := by
  obtain ⟨pa, pb, pc, pd⟩ := bp.mono hn
  obtain ⟨qa, qb, qc, qd⟩ := bq.mono hn
  obtain ⟨ra, rb, rc, rd⟩ := br.mono hn
  unfold cx0
  walk_at "bt"
theorem B4.rot {n : Nat} {a b c d : Int} (h : B4 n a b c d) : B4 n b c a d := ⟨h.2.1, h.2.2.1, h.1, h.2.2.2⟩
def d_plane_through : DS := (dSeq (dAsg (dCall sp_cross (dCons (dCall sp_arrow (dCons (dVar 0) (dCons (dVar 1) dNil))) (dCons (dCall sp_arrow (dCons (dVar 0) (dCons (dVar 2) dNil))) dNil))) 3) (dSeq (dIf (dTst (dEq (dVar 3) (dTup (dCons (dC (.int 0)) (dCons (dC (.int 0)) (dCons (dC (.int 0)) dNil)))))) (dRaise "NoPlane") dNext) (dRet (dCall sp_plane (dCons (dMul (dIx (dVar 3) (dC (.int 0))) (dIx (dVar 0) (dC (.int 3)))) (dCons (dMul (dIx (dVar 3) (dC (.int 1))) (dIx (dVar 0) (dC (.int 3)))) (dCons (dMul (dIx (dVar 3) (dC (.int 2))) (dIx (dVar 0) (dC (.int 3)))) (dCons (dNeg (dCall sp_dot (dCons (dVar 3) (dCons (dVar 0) dNil)))) dNil))))))))
theorem pure_plane_through {N : List Str} (hN : N.length = 4) : ∀ us T P X, sp_plane_through us T P X → d_plane_through (dend0 P X) (startD N us) T := by
  intro us T P X h
  obtain ⟨a, b, c, rfl, h1⟩ := sp3.of (lock_of h)
  have e0 : startD N [a, b, c] = [some a, some b, some c, none] := by unfold startD; rw [hN]; rfl
  rw [e0]; clear e0; unfold d_plane_through
  obtain ⟨p0, p1, p2, p3, q0, q1, q2, q3, r0, r1, r2, r3, n, ha, hb, hc, h0, bp, bq, br, hn, h2⟩ := h1
  obtain ⟨s1, e1⟩ := id ha
  obtain ⟨pa, pb, pc, pd⟩ := bp.mono hn
  obtain ⟨qa, qb, qc, qd⟩ := bq.mono hn
  obtain ⟨ra, rb, rc, rd⟩ := br.mono hn
  have c0 := cx0_bd bp bq br hn
  have c1 := cx0_bd bp.rot bq.rot br.rot hn
  have c2 := cx0_bd bp.rot.rot bq.rot.rot br.rot.rot hn
  walk_at "dz"
  refine sp_arrow_mk ha hb bp bq (by omega) ?_
  walk_at "dz"
  refine sp_arrow_mk ha hc bp br (by omega) ?_
  walk_at "dz"
  refine sp_cross_mk (n := 5000) ⟨_, rfl⟩ ⟨_, rfl⟩ ⟨by walk_at "bt", by walk_at "bt", by walk_at "bt"⟩ ⟨by walk_at "bt", by walk_at "bt", by walk_at "bt"⟩ (by decide) ?_
  walk_at "dz"
  simp only [eqOk_t3, eqv_t3]
  have x0 : (q1 * p3 - p1 * q3) * (r2 * p3 - p2 * r3) - (q2 * p3 - p2 * q3) * (r1 * p3 - p1 * r3) = cx0 p0 p1 p2 p3 q0 q1 q2 q3 r0 r1 r2 r3 := rfl
  have x1 : (q2 * p3 - p2 * q3) * (r0 * p3 - p0 * r3) - (q0 * p3 - p0 * q3) * (r2 * p3 - p2 * r3) = cx0 p1 p2 p0 p3 q1 q2 q0 q3 r1 r2 r0 r3 := rfl
  have x2 : (q0 * p3 - p0 * q3) * (r1 * p3 - p1 * r3) - (q1 * p3 - p1 * q3) * (r0 * p3 - p0 * r3) = cx0 p2 p0 p1 p3 q2 q0 q1 q3 r2 r0 r1 r3 := rfl
  rw [x0, x1, x2]
  generalize cx0 p0 p1 p2 p3 q0 q1 q2 q3 r0 r1 r2 r3 = o0 at *
  generalize cx0 p1 p2 p0 p3 q1 q2 q0 q3 r1 r2 r0 r3 = o1 at *
  generalize cx0 p2 p0 p1 p3 q2 q0 q1 q3 r2 r0 r1 r3 = o2 at *
  refine ⟨⟨trivial, trivial⟩, ?_⟩
  show if z3 o0 o1 o2 = true then _ else _
  cases hz : z3 o0 o1 o2 with
  | true =>
    rw [hz, if_pos rfl] at h2
    rw [if_pos rfl]
    exact h2
  | false =>
    rw [hz, if_neg Bool.false_ne_true] at h2
    rw [if_neg Bool.false_ne_true]
    (try simp -dsimp (maxSteps := 3000000) only [e1, ↓SY.someOf_z, ↓SY.int1_z, ↓SY.int2_z, ↓SY.bl1_z, ↓SY.optK_z, ↓SY.seqK_z, ↓SY.ixD_z, ↓SY.addD_z, ↓SY.lenD_z, ↓SY.slD_z, ↓SY.setD_z, ↓SY.appD_z, ↓SY.popD_z, ↓SY.dgsK_z, ↓SY.one_z, ↓SY.two_z, ↓SY.intK_z, ↓SY.rng1_z, ↓SY.rng2_z, ↓SY.frzK_z, ↓SY.forL_z, ↓SY.lcL_z, ↓SY.dSeq_z, SY.someZ_s, SY.int1Z_s, SY.int2Z_s, SY.bl1Z_s, SY.optZ_s, SY.addZ_i, SY.addZ_s, SY.addZ_t, SY.addZ_l, SY.addZ_p, SY.lenZ_t, SY.lenZ_l, SY.lenZ_s, SY.lenZ_p, SY.slZ_t, SY.slZ_l, SY.slZ_s, SY.slZ_p, SY.setZ_s, SY.appZ_s, SY.popZ_s, SY.dgsZ_s, SY.nilK_s, SY.oneZ_s, SY.twoZ_s, SY.intZ_i, SY.intZ_b, SY.rng1Z_s, SY.rng2Z_s, SY.frzZ_p, SY.frzZ_l, SY.frzZ_t, SY.forZ_nil, SY.forZ_cons, SY.lcZ_nil, SY.lcZ_cons, SY.goZ_s, ↓SY.sq_nx, ↓SY.sq_rt, ↓SY.sq_bk, ↓SY.sq_ct, ↓SY.sq_ex, ↓SY.lp_nx, ↓SY.lp_ct, ↓SY.lp_bk, ↓SY.lp_rt, ↓SY.lp_ex, SY.dAsg, SY.dRet, SY.dRetN, SY.dNext, SY.dIf, SY.dTst, SY.dC, SY.dVar, SY.dI, SY.dI0, SY.dMul, SY.dDiv, SY.dMod, SY.dPow, SY.dSub, SY.dLt, SY.dLe, SY.dGt, SY.dGe, SY.dNeg, SY.dAdd, SY.dIx, SY.dNil, SY.dCons, SY.dTup, SY.dLst, SY.dLstM, ↓SY.dCall_z, SY.dAbs, SY.dLen, SY.dTuple, SY.dList, SY.dListM, SY.dEq, SY.dNe, SY.dIsN, SY.dNotN, SY.dIsB, SY.dNotB, SY.dFrz, SY.dRaise, SY.dTryAs, SY.dTryOnly, SY.dIsE, SY.dtAnd, SY.dtOr, SY.dtNot, SY.dAnd, SY.dOr, SY.dNot, SY.dIsi, SY.dAll, SY.dSum, SY.dInt, SY.dSl, SY.dNoO, SY.dSomeO, SY.dDrop, SY.dAug, SY.dPar, SY.dAsgG, SY.dgName, SY.dgTup, SY.dgsNil, SY.dgsName, SY.dgSub, SY.dApp, SY.dPopAt, SY.dFor, SY.dForR1, SY.dForR2, SY.dForE, SY.dLc, SY.dLcR, SY.dLcRM, SY.rngL, SY.enumL, SY.frozen_tup, SY.frozen_lst, SY.frozen_scr, SY.frozL_lst, SY.frozL_scr, SY.seqOf_tup, SY.seqOf_lst, SY.seqOf_scr, SY.seqOf_ptr, SY.seqOf_int, SY.seqOf_str, SY.lstOf_lst, SY.lstOf_scr, SY.lstOf_ptr, SY.mlst_lst, SY.plst_lst, SY.plst_ptr, SY.isPtrL, SY.tyN, SY.isNon, SY.blsOf, SY.intsOf, SY.dend0, SY.dend, SY.startD, SY.eqOk_int, SY.eqv_int, SY.atI0, SY.atI1, SY.atI2, SY.atI3, SY.atI4, SY.atI5, SY.ixN0, decide_true, decide_false, Int.reduceEq, Int.reduceLT, Int.reduceLE, SY.ixN_21, SY.ixN_31, SY.ixN_32, SY.ixN_41, SY.ixN_42, SY.ixN_43, SY.seqIx0, SY.updT_same, SY.updT_updT, List.map_cons, List.map_nil, List.length_cons, List.length_nil, List.replicate, List.cons_append, List.nil_append, List.getD_cons_zero, List.getD_cons_succ, List.set_cons_zero, List.set_cons_succ, List.getElem?_cons_zero, List.eraseIdx_cons_zero, Option.isSome_some, Option.map_some, Int.reduceToNat, Int.reducePow, Int.reduceAdd, Int.reduceMul, Nat.zero_lt_succ, Nat.reduceLT, Nat.sub_self, Nat.reduceSub, Nat.reduceAdd, Nat.reduceLeDiff, Nat.zero_add, SY.kit_ii, SY.kit_ib, SY.kit_it, SY.kit_bi, SY.kit_bb, SY.kit_tt, SY.kit_ti, SY.kit_tb, SY.kit_nt, SY.kit_ll, SY.kit_lt, Bool.not_true, Bool.not_false, if_true, if_false, reduceIte, Bool.false_eq_true, true_and, and_true, and_self])
    walk_at "mos"
    refine sp_dot_mk (n := 7000) ⟨_, rfl⟩ ha.v3 ⟨by walk_at "bt", by walk_at "bt", by walk_at "bt"⟩ ⟨by walk_at "bt", by walk_at "bt", by walk_at "bt"⟩ (by decide) ?_
    walk_at "dz"
    refine sp_plane_mk ?_ ⟨by walk_at "bt", by walk_at "bt", by walk_at "bt", by walk_at "bt"⟩ h2
    rcases z3_f hz with z | z | z
    · exact .inl (Int.mul_ne_zero z h0)
    · exact .inr (.inl (Int.mul_ne_zero z h0))
    · exact .inr (.inr (Int.mul_ne_zero z h0))
end
end SY

namespace SY
open PySem PySem.Spec PyProof.Rows L2
section
variable {T : Sto} {P : D → Sto → Prop} {X : Xc → Sto → Prop}
theorem sp_plane_through_mk {a b c : D} {p0 p1 p2 p3 q0 q1 q2 q3 r0 r1 r2 r3 : Int} {n : Nat} (ha : V4 T a p0 p1 p2 p3) (hb : V4 T b q0 q1 q2 q3) (hc : V4 T c r0 r1 r2 r3) (h0 : p3 ≠ 0) (bp : B4 n p0 p1 p2 p3) (bq : B4 n q0 q1 q2 q3) (br : B4 n r0 r1 r2 r3) (hn : n ≤ 1500)
    (hz : z3 (cx0 p0 p1 p2 p3 q0 q1 q2 q3 r0 r1 r2 r3) (cx0 p1 p2 p0 p3 q1 q2 q0 q3 r1 r2 r0 r3) (cx0 p2 p0 p1 p3 q2 q0 q1 q3 r2 r0 r1 r3) = false)
    (h : P (.tup ((lowZ [cx0 p0 p1 p2 p3 q0 q1 q2 q3 r0 r1 r2 r3 * p3, cx0 p1 p2 p0 p3 q1 q2 q0 q3 r1 r2 r0 r3 * p3, cx0 p2 p0 p1 p3 q2 q0 q1 q3 r2 r0 r1 r3 * p3, -(cx0 p0 p1 p2 p3 q0 q1 q2 q3 r0 r1 r2 r3 * p0 + cx0 p1 p2 p0 p3 q1 q2 q0 q3 r1 r2 r0 r3 * p1 + cx0 p2 p0 p1 p3 q2 q0 q1 q3 r2 r0 r1 r3 * p2)]).map .int)) T) : sp_plane_through [a, b, c] T P X :=
  lock_at ⟨_, _, _, _, _, _, _, _, _, _, _, _, n, ha, hb, hc, h0, bp, bq, br, hn, by rw [hz, if_neg Bool.false_ne_true]; exact h⟩
theorem sp_plane_through_mk0 {a b c : D} {p0 p1 p2 p3 q0 q1 q2 q3 r0 r1 r2 r3 : Int} {n : Nat} (ha : V4 T a p0 p1 p2 p3) (hb : V4 T b q0 q1 q2 q3) (hc : V4 T c r0 r1 r2 r3) (h0 : p3 ≠ 0) (bp : B4 n p0 p1 p2 p3) (bq : B4 n q0 q1 q2 q3) (br : B4 n r0 r1 r2 r3) (hn : n ≤ 1500)
    (hz : z3 (cx0 p0 p1 p2 p3 q0 q1 q2 q3 r0 r1 r2 r3) (cx0 p1 p2 p0 p3 q1 q2 q0 q3 r1 r2 r0 r3) (cx0 p2 p0 p1 p3 q2 q0 q1 q3 r2 r0 r1 r3) = true)
    (h : X "NoPlane" T) : sp_plane_through [a, b, c] T P X :=
  lock_at ⟨_, _, _, _, _, _, _, _, _, _, _, _, n, ha, hb, hc, h0, bp, bq, br, hn, by rw [hz, if_pos rfl]; exact h⟩
theorem sp_l_whole_mk {i : Int} (h : P (.bl true) T) : sp_l_whole [.int i] T P X := by rw [sp_l_whole_eq]; exact h
theorem same4 {m : List Int} {ns : List Int} (h4 : ∃ a b c d, m = [a, b, c, d]) (e : ns = m) (h : P (.bl true) T) : sp_l_same [.tup (ns.map .int), .tup (m.map .int)] T P X := by
  obtain ⟨a, b, c, d, rfl⟩ := h4
  subst e
  refine sp_l_same_mk (ns := [a, b, c, d]) (ms := [a, b, c, d]) rfl rfl (by simp) rfl rfl ?_
  rw [decide_eq_true rfl]
  exact h
/-- the law's plane of three points -/
noncomputable def sp_l_plane : DSp := lock <| sp3 fun a b c T P X => ∃ p0 p1 p2 p3 q0 q1 q2 q3 r0 r1 r2 r3 n, V4 T a p0 p1 p2 p3 ∧ V4 T b q0 q1 q2 q3 ∧ V4 T c r0 r1 r2 r3 ∧ B4 n p0 p1 p2 p3 ∧ B4 n q0 q1 q2 q3 ∧ B4 n r0 r1 r2 r3 ∧ n ≤ 1500 ∧
  if z3 (cx0 p0 p1 p2 p3 q0 q1 q2 q3 r0 r1 r2 r3) (cx0 p1 p2 p0 p3 q1 q2 q0 q3 r1 r2 r0 r3) (cx0 p2 p0 p1 p3 q2 q0 q1 q3 r2 r0 r1 r3) = true then P .non T else
  P (.tup ((lowZ [cx0 p0 p1 p2 p3 q0 q1 q2 q3 r0 r1 r2 r3 * p3, cx0 p1 p2 p0 p3 q1 q2 q0 q3 r1 r2 r0 r3 * p3, cx0 p2 p0 p1 p3 q2 q0 q1 q3 r2 r0 r1 r3 * p3, -(cx0 p0 p1 p2 p3 q0 q1 q2 q3 r0 r1 r2 r3 * p0 + cx0 p1 p2 p0 p3 q1 q2 q0 q3 r1 r2 r0 r3 * p1 + cx0 p2 p0 p1 p3 q2 q0 q1 q3 r2 r0 r1 r3 * p2)]).map .int)) T
def d_l_plane : DS := (dSeq (dAsg (dCall sp_l_cross (dCons (dCall sp_l_arrow (dCons (dVar 0) (dCons (dVar 1) dNil))) (dCons (dCall sp_l_arrow (dCons (dVar 0) (dCons (dVar 2) dNil))) dNil))) 3) (dSeq (dIf (dTst (dEq (dVar 3) (dLst (dCons (dC (.int 0)) (dCons (dC (.int 0)) (dCons (dC (.int 0)) dNil)))))) (dRet (dC .non)) dNext) (dSeq (dAsg (dAdd (dAdd (dMul (dIx (dVar 3) (dC (.int 0))) (dIx (dVar 0) (dC (.int 0)))) (dMul (dIx (dVar 3) (dC (.int 1))) (dIx (dVar 0) (dC (.int 1))))) (dMul (dIx (dVar 3) (dC (.int 2))) (dIx (dVar 0) (dC (.int 2))))) 4) (dSeq (dAsg (dLcR 6 (dCons (dC (.int 3)) dNil) (dMul (dIx (dVar 3) (dVar 6)) (dIx (dVar 0) (dC (.int 3))))) 5) (dRet (dCall sp_l_lowest (dCons (dAdd (dVar 5) (dLst (dCons (dNeg (dVar 4)) dNil))) dNil)))))))
theorem pure_l_plane {N : List Str} (hN : N.length = 7) : ∀ us T P X, sp_l_plane us T P X → d_l_plane (dend0 P X) (startD N us) T := by
  intro us T P X h
  obtain ⟨a, b, c, rfl, h1⟩ := sp3.of (lock_of h)
  have e0 : startD N [a, b, c] = [some a, some b, some c, none, none, none, none] := by unfold startD; rw [hN]; rfl
  rw [e0]; clear e0; unfold d_l_plane
  obtain ⟨p0, p1, p2, p3, q0, q1, q2, q3, r0, r1, r2, r3, n, ha, hb, hc, bp, bq, br, hn, h2⟩ := h1
  obtain ⟨s1, e1⟩ := id ha
  obtain ⟨pa, pb, pc, pd⟩ := bp.mono hn
  obtain ⟨qa, qb, qc, qd⟩ := bq.mono hn
  obtain ⟨ra, rb, rc, rd⟩ := br.mono hn
  have c0 := cx0_bd bp bq br hn
  have c1 := cx0_bd bp.rot bq.rot br.rot hn
  have c2 := cx0_bd bp.rot.rot bq.rot.rot br.rot.rot hn
  walk_at "dz"
  refine sp_l_arrow_mk ha hb bp bq (by omega) ?_
  walk_at "dz"
  refine sp_l_arrow_mk ha hc bp br (by omega) ?_
  walk_at "dz"
  refine sp_l_cross_mk (n := 5000) ⟨_, rfl⟩ ⟨_, rfl⟩ ⟨by walk_at "bt", by walk_at "bt", by walk_at "bt"⟩ ⟨by walk_at "bt", by walk_at "bt", by walk_at "bt"⟩ (by decide) ?_
  walk_at "dz"
  simp only [eqOk_l3, eqv_l3]
  have x0 : (q1 * p3 - p1 * q3) * (r2 * p3 - p2 * r3) - (q2 * p3 - p2 * q3) * (r1 * p3 - p1 * r3) = cx0 p0 p1 p2 p3 q0 q1 q2 q3 r0 r1 r2 r3 := rfl
  have x1 : (q2 * p3 - p2 * q3) * (r0 * p3 - p0 * r3) - (q0 * p3 - p0 * q3) * (r2 * p3 - p2 * r3) = cx0 p1 p2 p0 p3 q1 q2 q0 q3 r1 r2 r0 r3 := rfl
  have x2 : (q0 * p3 - p0 * q3) * (r1 * p3 - p1 * r3) - (q1 * p3 - p1 * q3) * (r0 * p3 - p0 * r3) = cx0 p2 p0 p1 p3 q2 q0 q1 q3 r2 r0 r1 r3 := rfl
  rw [x0, x1, x2]
  generalize cx0 p0 p1 p2 p3 q0 q1 q2 q3 r0 r1 r2 r3 = o0 at *
  generalize cx0 p1 p2 p0 p3 q1 q2 q0 q3 r1 r2 r0 r3 = o1 at *
  generalize cx0 p2 p0 p1 p3 q2 q0 q1 q3 r2 r0 r1 r3 = o2 at *
  refine ⟨⟨trivial, trivial⟩, ?_⟩
  show if z3 o0 o1 o2 = true then _ else _
  cases hz : z3 o0 o1 o2 with
  | true =>
    rw [hz, if_pos rfl] at h2
    rw [if_pos rfl]
    exact h2
  | false =>
    rw [hz, if_neg Bool.false_ne_true] at h2
    rw [if_neg Bool.false_ne_true]
    (try simp -dsimp (maxSteps := 3000000) only [e1, ↓SY.someOf_z, ↓SY.int1_z, ↓SY.int2_z, ↓SY.bl1_z, ↓SY.optK_z, ↓SY.seqK_z, ↓SY.ixD_z, ↓SY.addD_z, ↓SY.lenD_z, ↓SY.slD_z, ↓SY.setD_z, ↓SY.appD_z, ↓SY.popD_z, ↓SY.dgsK_z, ↓SY.one_z, ↓SY.two_z, ↓SY.intK_z, ↓SY.rng1_z, ↓SY.rng2_z, ↓SY.frzK_z, ↓SY.forL_z, ↓SY.lcL_z, ↓SY.dSeq_z, SY.someZ_s, SY.int1Z_s, SY.int2Z_s, SY.bl1Z_s, SY.optZ_s, SY.addZ_i, SY.addZ_s, SY.addZ_t, SY.addZ_l, SY.addZ_p, SY.lenZ_t, SY.lenZ_l, SY.lenZ_s, SY.lenZ_p, SY.slZ_t, SY.slZ_l, SY.slZ_s, SY.slZ_p, SY.setZ_s, SY.appZ_s, SY.popZ_s, SY.dgsZ_s, SY.nilK_s, SY.oneZ_s, SY.twoZ_s, SY.intZ_i, SY.intZ_b, SY.rng1Z_s, SY.rng2Z_s, SY.frzZ_p, SY.frzZ_l, SY.frzZ_t, SY.forZ_nil, SY.forZ_cons, SY.lcZ_nil, SY.lcZ_cons, SY.goZ_s, ↓SY.sq_nx, ↓SY.sq_rt, ↓SY.sq_bk, ↓SY.sq_ct, ↓SY.sq_ex, ↓SY.lp_nx, ↓SY.lp_ct, ↓SY.lp_bk, ↓SY.lp_rt, ↓SY.lp_ex, SY.dAsg, SY.dRet, SY.dRetN, SY.dNext, SY.dIf, SY.dTst, SY.dC, SY.dVar, SY.dI, SY.dI0, SY.dMul, SY.dDiv, SY.dMod, SY.dPow, SY.dSub, SY.dLt, SY.dLe, SY.dGt, SY.dGe, SY.dNeg, SY.dAdd, SY.dIx, SY.dNil, SY.dCons, SY.dTup, SY.dLst, SY.dLstM, ↓SY.dCall_z, SY.dAbs, SY.dLen, SY.dTuple, SY.dList, SY.dListM, SY.dEq, SY.dNe, SY.dIsN, SY.dNotN, SY.dIsB, SY.dNotB, SY.dFrz, SY.dRaise, SY.dTryAs, SY.dTryOnly, SY.dIsE, SY.dtAnd, SY.dtOr, SY.dtNot, SY.dAnd, SY.dOr, SY.dNot, SY.dIsi, SY.dAll, SY.dSum, SY.dInt, SY.dSl, SY.dNoO, SY.dSomeO, SY.dDrop, SY.dAug, SY.dPar, SY.dAsgG, SY.dgName, SY.dgTup, SY.dgsNil, SY.dgsName, SY.dgSub, SY.dApp, SY.dPopAt, SY.dFor, SY.dForR1, SY.dForR2, SY.dForE, SY.dLc, SY.dLcR, SY.dLcRM, SY.rngL, SY.enumL, SY.frozen_tup, SY.frozen_lst, SY.frozen_scr, SY.frozL_lst, SY.frozL_scr, SY.seqOf_tup, SY.seqOf_lst, SY.seqOf_scr, SY.seqOf_ptr, SY.seqOf_int, SY.seqOf_str, SY.lstOf_lst, SY.lstOf_scr, SY.lstOf_ptr, SY.mlst_lst, SY.plst_lst, SY.plst_ptr, SY.isPtrL, SY.tyN, SY.isNon, SY.blsOf, SY.intsOf, SY.dend0, SY.dend, SY.startD, SY.eqOk_int, SY.eqv_int, SY.atI0, SY.atI1, SY.atI2, SY.atI3, SY.atI4, SY.atI5, SY.ixN0, decide_true, decide_false, Int.reduceEq, Int.reduceLT, Int.reduceLE, SY.ixN_21, SY.ixN_31, SY.ixN_32, SY.ixN_41, SY.ixN_42, SY.ixN_43, SY.seqIx0, SY.updT_same, SY.updT_updT, List.map_cons, List.map_nil, List.length_cons, List.length_nil, List.replicate, List.cons_append, List.nil_append, List.getD_cons_zero, List.getD_cons_succ, List.set_cons_zero, List.set_cons_succ, List.getElem?_cons_zero, List.eraseIdx_cons_zero, Option.isSome_some, Option.map_some, Int.reduceToNat, Int.reducePow, Int.reduceAdd, Int.reduceMul, Nat.zero_lt_succ, Nat.reduceLT, Nat.sub_self, Nat.reduceSub, Nat.reduceAdd, Nat.reduceLeDiff, Nat.zero_add, SY.kit_ii, SY.kit_ib, SY.kit_it, SY.kit_bi, SY.kit_bb, SY.kit_tt, SY.kit_ti, SY.kit_tb, SY.kit_nt, SY.kit_ll, SY.kit_lt, Bool.not_true, Bool.not_false, if_true, if_false, reduceIte, Bool.false_eq_true, true_and, and_true, and_self])
    walk_at "mos"
    refine ⟨⟨by decide, by decide⟩, ?_⟩
    walk_at "mos"
    refine sp_l_lowest_mk (ns := [o0 * p3, o1 * p3, o2 * p3, -(o0 * p0 + o1 * p1 + o2 * p2)]) rfl (all4 ⟨by walk_at "bt", by walk_at "bt", by walk_at "bt", by walk_at "bt"⟩) (by simp) h2
theorem sp_l_plane_mk {a b c : D} {p0 p1 p2 p3 q0 q1 q2 q3 r0 r1 r2 r3 : Int} {n : Nat} (ha : V4 T a p0 p1 p2 p3) (hb : V4 T b q0 q1 q2 q3) (hc : V4 T c r0 r1 r2 r3) (bp : B4 n p0 p1 p2 p3) (bq : B4 n q0 q1 q2 q3) (br : B4 n r0 r1 r2 r3) (hn : n ≤ 1500)
    (h : if z3 (cx0 p0 p1 p2 p3 q0 q1 q2 q3 r0 r1 r2 r3) (cx0 p1 p2 p0 p3 q1 q2 q0 q3 r1 r2 r0 r3) (cx0 p2 p0 p1 p3 q2 q0 q1 q3 r2 r0 r1 r3) = true then P .non T else P (.tup ((lowZ [cx0 p0 p1 p2 p3 q0 q1 q2 q3 r0 r1 r2 r3 * p3, cx0 p1 p2 p0 p3 q1 q2 q0 q3 r1 r2 r0 r3 * p3, cx0 p2 p0 p1 p3 q2 q0 q1 q3 r2 r0 r1 r3 * p3, -(cx0 p0 p1 p2 p3 q0 q1 q2 q3 r0 r1 r2 r3 * p0 + cx0 p1 p2 p0 p3 q1 q2 q0 q3 r1 r2 r0 r3 * p1 + cx0 p2 p0 p1 p3 q2 q0 q1 q3 r2 r0 r1 r3 * p2)]).map .int)) T) : sp_l_plane [a, b, c] T P X := lock_at ⟨_, _, _, _, _, _, _, _, _, _, _, _, n, ha, hb, hc, bp, bq, br, hn, h⟩
/-- a line of its way and its moment -/
noncomputable def sp_line_from : DSp := lock <| sp2 fun u v T P _ => ∃ a b c d e f, u = .tup [.int a, .int b, .int c] ∧ v = .tup [.int d, .int e, .int f] ∧ B6 8000 a b c d e f ∧ P (.tup ((flip6 (lowZ [a, b, c, d, e, f])).map .int)) T
def d_line_from : DS := (dSeq (dAsg (dCall sp_lowest (dCons (dAdd (dVar 0) (dVar 1)) dNil)) 2) (dSeq (dAsg (dIx (dVar 2) (dC (.int 0))) 3) (dSeq (dIf (dTst (dEq (dVar 3) (dC (.int 0)))) (dAsg (dIx (dVar 2) (dC (.int 1))) 3) dNext) (dSeq (dIf (dTst (dEq (dVar 3) (dC (.int 0)))) (dAsg (dIx (dVar 2) (dC (.int 2))) 3) dNext) (dSeq (dIf (dTst (dLt (dVar 3) (dC (.int 0)))) (dRet (dTuple (dLc 4 (dVar 2) (dNeg (dVar 4))))) dNext) (dRet (dVar 2)))))))
theorem pure_line_from {N : List Str} (hN : N.length = 5) : ∀ us T P X, sp_line_from us T P X → d_line_from (dend0 P X) (startD N us) T := by
  intro us T P X h
  obtain ⟨a, b, rfl, h1⟩ := sp2.of (lock_of h)
  have e0 : startD N [a, b] = [some a, some b, none, none, none] := by unfold startD; rw [hN]; rfl
  rw [e0]; clear e0; unfold d_line_from
  obtain ⟨a, b, c, d, e, f, rfl, rfl, b6, h2⟩ := h1
  walk_at "dz"
  refine ⟨by simp, ?_⟩
  refine sp_lowest_mk (ns := [a, b, c, d, e, f]) rfl (all6 b6) (by simp) ?_
  obtain ⟨a', b', c', d', e', f', g, q, _⟩ := low6 b6
  generalize lowZ [a, b, c, d, e, f] = m at h2 q ⊢
  subst q
  simp only [flip6] at h2
  walk_at "dz"
  rcases Int.lt_trichotomy a' 0 with ha' | ha' | ha'
  · rw [if_pos (by unfold neg3; rw [decide_eq_true ha']; rfl)] at h2
    rw [decide_eq_false (show ¬ a' = 0 by omega)]
    walk_at "dz"
    rw [decide_eq_true ha']
    walk_at "dz"
    exact h2
  · subst ha'
    simp only [decide_true, if_true]
    rcases Int.lt_trichotomy b' 0 with hb' | hb' | hb'
    · rw [if_pos (by unfold neg3; rw [decide_eq_true hb']; rfl)] at h2
      rw [decide_eq_false (show ¬ b' = 0 by omega)]
      walk_at "dz"
      rw [decide_eq_true hb']
      walk_at "dz"
      exact h2
    · subst hb'
      simp only [decide_true, if_true]
      walk_at "dz"
      by_cases hc' : c' < 0
      · rw [if_pos (by unfold neg3; rw [decide_eq_true hc']; rfl)] at h2
        rw [decide_eq_true hc']
        walk_at "dz"
        exact h2
      · rw [if_neg (by unfold neg3; rw [decide_eq_false hc']; decide)] at h2
        rw [decide_eq_false hc']
        walk_at "dz"
        exact h2
    · rw [if_neg (by unfold neg3; rw [decide_eq_false (show ¬ b' < 0 by omega), decide_eq_false (show ¬ b' = 0 by omega)]; exact Bool.false_ne_true)] at h2
      rw [decide_eq_false (show ¬ b' = 0 by omega)]
      walk_at "dz"
      rw [decide_eq_false (show ¬ b' < 0 by omega)]
      walk_at "dz"
      exact h2
  · rw [if_neg (by unfold neg3; rw [decide_eq_false (show ¬ a' < 0 by omega), decide_eq_false (show ¬ a' = 0 by omega)]; exact Bool.false_ne_true)] at h2
    rw [decide_eq_false (show ¬ a' = 0 by omega)]
    walk_at "dz"
    rw [decide_eq_false (show ¬ a' < 0 by omega)]
    walk_at "dz"
    exact h2
theorem sp_line_from_mk {a b c d e f : Int} (b6 : B6 8000 a b c d e f) (h : P (.tup ((flip6 (lowZ [a, b, c, d, e, f])).map .int)) T) : sp_line_from [.tup [.int a, .int b, .int c], .tup [.int d, .int e, .int f]] T P X := lock_at ⟨a, b, c, d, e, f, rfl, rfl, b6, h⟩
noncomputable def sp_line_through : DSp := lock <| sp2 fun a b T P X => ∃ p0 p1 p2 p3 q0 q1 q2 q3 n, V4 T a p0 p1 p2 p3 ∧ V4 T b q0 q1 q2 q3 ∧ B4 n p0 p1 p2 p3 ∧ B4 n q0 q1 q2 q3 ∧ n ≤ 3900 ∧ if z3 (q0 * p3 - p0 * q3) (q1 * p3 - p1 * q3) (q2 * p3 - p2 * q3) = true then X "NoLine" T else
  P (.tup ((flip6 (lowZ [q0 * p3 - p0 * q3, q1 * p3 - p1 * q3, q2 * p3 - p2 * q3, p1 * q2 - p2 * q1, p2 * q0 - p0 * q2, p0 * q1 - p1 * q0])).map .int)) T
def d_line_through : DS := (dSeq (dAsg (dCall sp_arrow (dCons (dVar 0) (dCons (dVar 1) dNil))) 2) (dSeq (dIf (dTst (dEq (dVar 2) (dTup (dCons (dC (.int 0)) (dCons (dC (.int 0)) (dCons (dC (.int 0)) dNil)))))) (dRaise "NoLine") dNext) (dRet (dCall sp_line_from (dCons (dVar 2) (dCons (dCall sp_cross (dCons (dVar 0) (dCons (dVar 1) dNil))) dNil))))))
theorem pure_line_through {N : List Str} (hN : N.length = 3) : ∀ us T P X, sp_line_through us T P X → d_line_through (dend0 P X) (startD N us) T := by
  intro us T P X h
  obtain ⟨a, b, rfl, h1⟩ := sp2.of (lock_of h)
  have e0 : startD N [a, b] = [some a, some b, none] := by unfold startD; rw [hN]; rfl
  rw [e0]; clear e0; unfold d_line_through
  obtain ⟨p0, p1, p2, p3, q0, q1, q2, q3, n, ha, hb, bp, bq, hn, h2⟩ := h1
  obtain ⟨pa, pb, pc, pd⟩ := bp.mono hn
  obtain ⟨qa, qb, qc, qd⟩ := bq.mono hn
  walk_at "dz"
  refine sp_arrow_mk ha hb bp bq (by omega) ?_
  walk_at "dz"
  simp only [eqOk_t3, eqv_t3]
  refine ⟨⟨trivial, trivial⟩, ?_⟩
  have b6 : B6 8000 (q0 * p3 - p0 * q3) (q1 * p3 - p1 * q3) (q2 * p3 - p2 * q3) (p1 * q2 - p2 * q1) (p2 * q0 - p0 * q2) (p0 * q1 - p1 * q0) := ⟨⟨by walk_at "bt", by walk_at "bt", by walk_at "bt"⟩, by walk_at "bt", by walk_at "bt", by walk_at "bt"⟩
  show if z3 (q0 * p3 - p0 * q3) (q1 * p3 - p1 * q3) (q2 * p3 - p2 * q3) = true then _ else _
  cases hz : z3 (q0 * p3 - p0 * q3) (q1 * p3 - p1 * q3) (q2 * p3 - p2 * q3) with
  | true =>
    rw [hz, if_pos rfl] at h2
    rw [if_pos rfl]
    exact h2
  | false =>
    rw [hz, if_neg Bool.false_ne_true] at h2
    rw [if_neg Bool.false_ne_true]
    walk_at "dz"
    refine sp_cross_mk ha.v3 hb.v3 bp.b3 bq.b3 (by omega) ?_
    walk_at "dz"
    exact sp_line_from_mk b6 h2
theorem sp_line_through_mk {a b : D} {p0 p1 p2 p3 q0 q1 q2 q3 : Int} {n : Nat} (ha : V4 T a p0 p1 p2 p3) (hb : V4 T b q0 q1 q2 q3) (bp : B4 n p0 p1 p2 p3) (bq : B4 n q0 q1 q2 q3) (hn : n ≤ 3900) (hz : z3 (q0 * p3 - p0 * q3) (q1 * p3 - p1 * q3) (q2 * p3 - p2 * q3) = false)
    (h : P (.tup ((flip6 (lowZ [q0 * p3 - p0 * q3, q1 * p3 - p1 * q3, q2 * p3 - p2 * q3, p1 * q2 - p2 * q1, p2 * q0 - p0 * q2, p0 * q1 - p1 * q0])).map .int)) T) : sp_line_through [a, b] T P X := lock_at ⟨_, _, _, _, _, _, _, _, n, ha, hb, bp, bq, hn, by rw [hz, if_neg Bool.false_ne_true]; exact h⟩
theorem sp_line_through_mk0 {a b : D} {p0 p1 p2 p3 q0 q1 q2 q3 : Int} {n : Nat} (ha : V4 T a p0 p1 p2 p3) (hb : V4 T b q0 q1 q2 q3) (bp : B4 n p0 p1 p2 p3) (bq : B4 n q0 q1 q2 q3) (hn : n ≤ 3900) (hz : z3 (q0 * p3 - p0 * q3) (q1 * p3 - p1 * q3) (q2 * p3 - p2 * q3) = true)
    (h : X "NoLine" T) : sp_line_through [a, b] T P X := lock_at ⟨_, _, _, _, _, _, _, _, n, ha, hb, bp, bq, hn, by rw [hz, if_pos rfl]; exact h⟩
/-- the line of two planes -/
noncomputable def sp_line_common : DSp := lock <| sp2 fun a b T P X => ∃ p0 p1 p2 p3 q0 q1 q2 q3 n, V4 T a p0 p1 p2 p3 ∧ V4 T b q0 q1 q2 q3 ∧ B4 n p0 p1 p2 p3 ∧ B4 n q0 q1 q2 q3 ∧ n ≤ 3900 ∧ if z3 (p1 * q2 - p2 * q1) (p2 * q0 - p0 * q2) (p0 * q1 - p1 * q0) = true then P .non T else
  P (.tup ((flip6 (lowZ [p1 * q2 - p2 * q1, p2 * q0 - p0 * q2, p0 * q1 - p1 * q0, p3 * q0 - q3 * p0, p3 * q1 - q3 * p1, p3 * q2 - q3 * p2])).map .int)) T
def d_line_common : DS := (dSeq (dAsg (dCall sp_cross (dCons (dVar 0) (dCons (dVar 1) dNil))) 2) (dSeq (dIf (dTst (dEq (dVar 2) (dTup (dCons (dC (.int 0)) (dCons (dC (.int 0)) (dCons (dC (.int 0)) dNil)))))) (dRet (dC .non)) dNext) (dSeq (dAsg (dSub (dMul (dIx (dVar 0) (dC (.int 3))) (dIx (dVar 1) (dC (.int 0)))) (dMul (dIx (dVar 1) (dC (.int 3))) (dIx (dVar 0) (dC (.int 0))))) 3) (dSeq (dAsg (dSub (dMul (dIx (dVar 0) (dC (.int 3))) (dIx (dVar 1) (dC (.int 1)))) (dMul (dIx (dVar 1) (dC (.int 3))) (dIx (dVar 0) (dC (.int 1))))) 4) (dSeq (dAsg (dSub (dMul (dIx (dVar 0) (dC (.int 3))) (dIx (dVar 1) (dC (.int 2)))) (dMul (dIx (dVar 1) (dC (.int 3))) (dIx (dVar 0) (dC (.int 2))))) 5) (dRet (dCall sp_line_from (dCons (dVar 2) (dCons (dTup (dCons (dVar 3) (dCons (dVar 4) (dCons (dVar 5) dNil)))) dNil)))))))))
theorem pure_line_common {N : List Str} (hN : N.length = 6) : ∀ us T P X, sp_line_common us T P X → d_line_common (dend0 P X) (startD N us) T := by
  intro us T P X h
  obtain ⟨a, b, rfl, h1⟩ := sp2.of (lock_of h)
  have e0 : startD N [a, b] = [some a, some b, none, none, none, none] := by unfold startD; rw [hN]; rfl
  rw [e0]; clear e0; unfold d_line_common
  obtain ⟨p0, p1, p2, p3, q0, q1, q2, q3, n, ha, hb, bp, bq, hn, h2⟩ := h1
  obtain ⟨s1, e1⟩ := id ha
  obtain ⟨s2, e2⟩ := id hb
  obtain ⟨pa, pb, pc, pd⟩ := bp.mono hn
  obtain ⟨qa, qb, qc, qd⟩ := bq.mono hn
  walk_at "dz"
  refine sp_cross_mk ha.v3 hb.v3 bp.b3 bq.b3 (by omega) ?_
  walk_at "dz"
  simp only [eqOk_t3, eqv_t3]
  refine ⟨⟨trivial, trivial⟩, ?_⟩
  have b6 : B6 8000 (p1 * q2 - p2 * q1) (p2 * q0 - p0 * q2) (p0 * q1 - p1 * q0) (p3 * q0 - q3 * p0) (p3 * q1 - q3 * p1) (p3 * q2 - q3 * p2) := ⟨⟨by walk_at "bt", by walk_at "bt", by walk_at "bt"⟩, by walk_at "bt", by walk_at "bt", by walk_at "bt"⟩
  show if z3 (p1 * q2 - p2 * q1) (p2 * q0 - p0 * q2) (p0 * q1 - p1 * q0) = true then _ else _
  cases hz : z3 (p1 * q2 - p2 * q1) (p2 * q0 - p0 * q2) (p0 * q1 - p1 * q0) with
  | true =>
    rw [hz, if_pos rfl] at h2
    rw [if_pos rfl]
    exact h2
  | false =>
    rw [hz, if_neg Bool.false_ne_true] at h2
    rw [if_neg Bool.false_ne_true]
    (try simp -dsimp (maxSteps := 3000000) only [e1, e2, ↓SY.someOf_z, ↓SY.int1_z, ↓SY.int2_z, ↓SY.bl1_z, ↓SY.optK_z, ↓SY.seqK_z, ↓SY.ixD_z, ↓SY.addD_z, ↓SY.lenD_z, ↓SY.slD_z, ↓SY.setD_z, ↓SY.appD_z, ↓SY.popD_z, ↓SY.dgsK_z, ↓SY.one_z, ↓SY.two_z, ↓SY.intK_z, ↓SY.rng1_z, ↓SY.rng2_z, ↓SY.frzK_z, ↓SY.forL_z, ↓SY.lcL_z, ↓SY.dSeq_z, SY.someZ_s, SY.int1Z_s, SY.int2Z_s, SY.bl1Z_s, SY.optZ_s, SY.addZ_i, SY.addZ_s, SY.addZ_t, SY.addZ_l, SY.addZ_p, SY.lenZ_t, SY.lenZ_l, SY.lenZ_s, SY.lenZ_p, SY.slZ_t, SY.slZ_l, SY.slZ_s, SY.slZ_p, SY.setZ_s, SY.appZ_s, SY.popZ_s, SY.dgsZ_s, SY.nilK_s, SY.oneZ_s, SY.twoZ_s, SY.intZ_i, SY.intZ_b, SY.rng1Z_s, SY.rng2Z_s, SY.frzZ_p, SY.frzZ_l, SY.frzZ_t, SY.forZ_nil, SY.forZ_cons, SY.lcZ_nil, SY.lcZ_cons, SY.goZ_s, ↓SY.sq_nx, ↓SY.sq_rt, ↓SY.sq_bk, ↓SY.sq_ct, ↓SY.sq_ex, ↓SY.lp_nx, ↓SY.lp_ct, ↓SY.lp_bk, ↓SY.lp_rt, ↓SY.lp_ex, SY.dAsg, SY.dRet, SY.dRetN, SY.dNext, SY.dIf, SY.dTst, SY.dC, SY.dVar, SY.dI, SY.dI0, SY.dMul, SY.dDiv, SY.dMod, SY.dPow, SY.dSub, SY.dLt, SY.dLe, SY.dGt, SY.dGe, SY.dNeg, SY.dAdd, SY.dIx, SY.dNil, SY.dCons, SY.dTup, SY.dLst, SY.dLstM, ↓SY.dCall_z, SY.dAbs, SY.dLen, SY.dTuple, SY.dList, SY.dListM, SY.dEq, SY.dNe, SY.dIsN, SY.dNotN, SY.dIsB, SY.dNotB, SY.dFrz, SY.dRaise, SY.dTryAs, SY.dTryOnly, SY.dIsE, SY.dtAnd, SY.dtOr, SY.dtNot, SY.dAnd, SY.dOr, SY.dNot, SY.dIsi, SY.dAll, SY.dSum, SY.dInt, SY.dSl, SY.dNoO, SY.dSomeO, SY.dDrop, SY.dAug, SY.dPar, SY.dAsgG, SY.dgName, SY.dgTup, SY.dgsNil, SY.dgsName, SY.dgSub, SY.dApp, SY.dPopAt, SY.dFor, SY.dForR1, SY.dForR2, SY.dForE, SY.dLc, SY.dLcR, SY.dLcRM, SY.rngL, SY.enumL, SY.frozen_tup, SY.frozen_lst, SY.frozen_scr, SY.frozL_lst, SY.frozL_scr, SY.seqOf_tup, SY.seqOf_lst, SY.seqOf_scr, SY.seqOf_ptr, SY.seqOf_int, SY.seqOf_str, SY.lstOf_lst, SY.lstOf_scr, SY.lstOf_ptr, SY.mlst_lst, SY.plst_lst, SY.plst_ptr, SY.isPtrL, SY.tyN, SY.isNon, SY.blsOf, SY.intsOf, SY.dend0, SY.dend, SY.startD, SY.eqOk_int, SY.eqv_int, SY.atI0, SY.atI1, SY.atI2, SY.atI3, SY.atI4, SY.atI5, SY.ixN0, decide_true, decide_false, Int.reduceEq, Int.reduceLT, Int.reduceLE, SY.ixN_21, SY.ixN_31, SY.ixN_32, SY.ixN_41, SY.ixN_42, SY.ixN_43, SY.seqIx0, SY.updT_same, SY.updT_updT, List.map_cons, List.map_nil, List.length_cons, List.length_nil, List.replicate, List.cons_append, List.nil_append, List.getD_cons_zero, List.getD_cons_succ, List.set_cons_zero, List.set_cons_succ, List.getElem?_cons_zero, List.eraseIdx_cons_zero, Option.isSome_some, Option.map_some, Int.reduceToNat, Int.reducePow, Int.reduceAdd, Int.reduceMul, Nat.zero_lt_succ, Nat.reduceLT, Nat.sub_self, Nat.reduceSub, Nat.reduceAdd, Nat.reduceLeDiff, Nat.zero_add, SY.kit_ii, SY.kit_ib, SY.kit_it, SY.kit_bi, SY.kit_bb, SY.kit_tt, SY.kit_ti, SY.kit_tb, SY.kit_nt, SY.kit_ll, SY.kit_lt, Bool.not_true, Bool.not_false, if_true, if_false, reduceIte, Bool.false_eq_true, true_and, and_true, and_self])
    walk_at "mos"
    exact sp_line_from_mk b6 h2
theorem sp_line_common_mk {a b : D} {p0 p1 p2 p3 q0 q1 q2 q3 : Int} {n : Nat} (ha : V4 T a p0 p1 p2 p3) (hb : V4 T b q0 q1 q2 q3) (bp : B4 n p0 p1 p2 p3) (bq : B4 n q0 q1 q2 q3) (hn : n ≤ 3900) (h : if z3 (p1 * q2 - p2 * q1) (p2 * q0 - p0 * q2) (p0 * q1 - p1 * q0) = true then P .non T else
  P (.tup ((flip6 (lowZ [p1 * q2 - p2 * q1, p2 * q0 - p0 * q2, p0 * q1 - p1 * q0, p3 * q0 - q3 * p0, p3 * q1 - q3 * p1, p3 * q2 - q3 * p2])).map .int)) T) : sp_line_common [a, b] T P X := lock_at ⟨_, _, _, _, _, _, _, _, n, ha, hb, bp, bq, hn, h⟩
/-- where a line meets a plane -/
noncomputable def sp_spot : DSp := lock <| sp2 fun l p T P X => ∃ a b c d e f p0 p1 p2 p3 n, l = d6 a b c d e f ∧ V4 T p p0 p1 p2 p3 ∧ B6 n a b c d e f ∧ B4 n p0 p1 p2 p3 ∧ n ≤ 3900 ∧ if a * p0 + b * p1 + c * p2 = 0 then P .non T else
  P (.tup ((sgZ [p1 * f - p2 * e - p3 * a, p2 * d - p0 * f - p3 * b, p0 * e - p1 * d - p3 * c, a * p0 + b * p1 + c * p2]).map .int)) T
def d_spot : DS := (dSeq (dAsg (dCall sp_dot (dCons (dVar 0) (dCons (dVar 1) dNil))) 2) (dSeq (dIf (dTst (dEq (dVar 2) (dC (.int 0)))) (dRet (dC .non)) dNext) (dSeq (dAsg (dCall sp_cross (dCons (dVar 1) (dCons (dTup (dCons (dIx (dVar 0) (dC (.int 3))) (dCons (dIx (dVar 0) (dC (.int 4))) (dCons (dIx (dVar 0) (dC (.int 5))) dNil)))) dNil))) 3) (dSeq (dAsg (dSub (dIx (dVar 3) (dC (.int 0))) (dMul (dIx (dVar 1) (dC (.int 3))) (dIx (dVar 0) (dC (.int 0))))) 4) (dSeq (dAsg (dSub (dIx (dVar 3) (dC (.int 1))) (dMul (dIx (dVar 1) (dC (.int 3))) (dIx (dVar 0) (dC (.int 1))))) 5) (dSeq (dAsg (dSub (dIx (dVar 3) (dC (.int 2))) (dMul (dIx (dVar 1) (dC (.int 3))) (dIx (dVar 0) (dC (.int 2))))) 6) (dRet (dCall sp_point (dCons (dVar 4) (dCons (dVar 5) (dCons (dVar 6) (dCons (dVar 2) dNil))))))))))))
theorem pure_spot {N : List Str} (hN : N.length = 7) : ∀ us T P X, sp_spot us T P X → d_spot (dend0 P X) (startD N us) T := by
  intro us T P X h
  obtain ⟨a, b, rfl, h1⟩ := sp2.of (lock_of h)
  have e0 : startD N [a, b] = [some a, some b, none, none, none, none, none] := by unfold startD; rw [hN]; rfl
  rw [e0]; clear e0; unfold d_spot
  obtain ⟨l0, l1, l2, l3, l4, l5, p0, p1, p2, p3, n, rfl, hb, b6, bp, hn, h2⟩ := h1
  obtain ⟨s1, e1⟩ := id hb
  obtain ⟨pa, pb, pc, pd⟩ := bp.mono hn
  obtain ⟨la, lb, lc⟩ := b6.1.mono hn
  obtain ⟨ld, le, lf⟩ := b6.2.mono hn
  unfold d6
  walk_at "dz"
  refine sp_dot_mk ⟨_, rfl⟩ hb.v3 b6.1 bp.b3 (by omega) ?_
  walk_at "dz"
  by_cases h0 : l0 * p0 + l1 * p1 + l2 * p2 = 0
  · rw [if_pos h0] at h2
    rw [decide_eq_true h0]
    walk_at "dz"
    exact h2
  · rw [if_neg h0] at h2
    rw [decide_eq_false h0]
    walk_at "dz"
    refine sp_cross_mk (n := 3900) hb.v3 ⟨_, rfl⟩ (bp.b3.mono hn) (b6.2.mono hn) (by decide) ?_
    (try simp -dsimp (maxSteps := 3000000) only [e1, ↓SY.someOf_z, ↓SY.int1_z, ↓SY.int2_z, ↓SY.bl1_z, ↓SY.optK_z, ↓SY.seqK_z, ↓SY.ixD_z, ↓SY.addD_z, ↓SY.lenD_z, ↓SY.slD_z, ↓SY.setD_z, ↓SY.appD_z, ↓SY.popD_z, ↓SY.dgsK_z, ↓SY.one_z, ↓SY.two_z, ↓SY.intK_z, ↓SY.rng1_z, ↓SY.rng2_z, ↓SY.frzK_z, ↓SY.forL_z, ↓SY.lcL_z, ↓SY.dSeq_z, SY.someZ_s, SY.int1Z_s, SY.int2Z_s, SY.bl1Z_s, SY.optZ_s, SY.addZ_i, SY.addZ_s, SY.addZ_t, SY.addZ_l, SY.addZ_p, SY.lenZ_t, SY.lenZ_l, SY.lenZ_s, SY.lenZ_p, SY.slZ_t, SY.slZ_l, SY.slZ_s, SY.slZ_p, SY.setZ_s, SY.appZ_s, SY.popZ_s, SY.dgsZ_s, SY.nilK_s, SY.oneZ_s, SY.twoZ_s, SY.intZ_i, SY.intZ_b, SY.rng1Z_s, SY.rng2Z_s, SY.frzZ_p, SY.frzZ_l, SY.frzZ_t, SY.forZ_nil, SY.forZ_cons, SY.lcZ_nil, SY.lcZ_cons, SY.goZ_s, ↓SY.sq_nx, ↓SY.sq_rt, ↓SY.sq_bk, ↓SY.sq_ct, ↓SY.sq_ex, ↓SY.lp_nx, ↓SY.lp_ct, ↓SY.lp_bk, ↓SY.lp_rt, ↓SY.lp_ex, SY.dAsg, SY.dRet, SY.dRetN, SY.dNext, SY.dIf, SY.dTst, SY.dC, SY.dVar, SY.dI, SY.dI0, SY.dMul, SY.dDiv, SY.dMod, SY.dPow, SY.dSub, SY.dLt, SY.dLe, SY.dGt, SY.dGe, SY.dNeg, SY.dAdd, SY.dIx, SY.dNil, SY.dCons, SY.dTup, SY.dLst, SY.dLstM, ↓SY.dCall_z, SY.dAbs, SY.dLen, SY.dTuple, SY.dList, SY.dListM, SY.dEq, SY.dNe, SY.dIsN, SY.dNotN, SY.dIsB, SY.dNotB, SY.dFrz, SY.dRaise, SY.dTryAs, SY.dTryOnly, SY.dIsE, SY.dtAnd, SY.dtOr, SY.dtNot, SY.dAnd, SY.dOr, SY.dNot, SY.dIsi, SY.dAll, SY.dSum, SY.dInt, SY.dSl, SY.dNoO, SY.dSomeO, SY.dDrop, SY.dAug, SY.dPar, SY.dAsgG, SY.dgName, SY.dgTup, SY.dgsNil, SY.dgsName, SY.dgSub, SY.dApp, SY.dPopAt, SY.dFor, SY.dForR1, SY.dForR2, SY.dForE, SY.dLc, SY.dLcR, SY.dLcRM, SY.rngL, SY.enumL, SY.frozen_tup, SY.frozen_lst, SY.frozen_scr, SY.frozL_lst, SY.frozL_scr, SY.seqOf_tup, SY.seqOf_lst, SY.seqOf_scr, SY.seqOf_ptr, SY.seqOf_int, SY.seqOf_str, SY.lstOf_lst, SY.lstOf_scr, SY.lstOf_ptr, SY.mlst_lst, SY.plst_lst, SY.plst_ptr, SY.isPtrL, SY.tyN, SY.isNon, SY.blsOf, SY.intsOf, SY.dend0, SY.dend, SY.startD, SY.eqOk_int, SY.eqv_int, SY.atI0, SY.atI1, SY.atI2, SY.atI3, SY.atI4, SY.atI5, SY.ixN0, decide_true, decide_false, Int.reduceEq, Int.reduceLT, Int.reduceLE, SY.ixN_21, SY.ixN_31, SY.ixN_32, SY.ixN_41, SY.ixN_42, SY.ixN_43, SY.seqIx0, SY.updT_same, SY.updT_updT, List.map_cons, List.map_nil, List.length_cons, List.length_nil, List.replicate, List.cons_append, List.nil_append, List.getD_cons_zero, List.getD_cons_succ, List.set_cons_zero, List.set_cons_succ, List.getElem?_cons_zero, List.eraseIdx_cons_zero, Option.isSome_some, Option.map_some, Int.reduceToNat, Int.reducePow, Int.reduceAdd, Int.reduceMul, Nat.zero_lt_succ, Nat.reduceLT, Nat.sub_self, Nat.reduceSub, Nat.reduceAdd, Nat.reduceLeDiff, Nat.zero_add, SY.kit_ii, SY.kit_ib, SY.kit_it, SY.kit_bi, SY.kit_bb, SY.kit_tt, SY.kit_ti, SY.kit_tb, SY.kit_nt, SY.kit_ll, SY.kit_lt, Bool.not_true, Bool.not_false, if_true, if_false, reduceIte, Bool.false_eq_true, true_and, and_true, and_self])
    walk_at "mos"
    exact sp_point_sg h0 ⟨by walk_at "bt", by walk_at "bt", by walk_at "bt", by walk_at "bt"⟩ h2
theorem sp_spot_mk {p : D} {a b c d e f p0 p1 p2 p3 : Int} {n : Nat} (hp : V4 T p p0 p1 p2 p3) (b6 : B6 n a b c d e f) (bp : B4 n p0 p1 p2 p3) (hn : n ≤ 3900) (h : if a * p0 + b * p1 + c * p2 = 0 then P .non T else
  P (.tup ((sgZ [p1 * f - p2 * e - p3 * a, p2 * d - p0 * f - p3 * b, p0 * e - p1 * d - p3 * c, a * p0 + b * p1 + c * p2]).map .int)) T) : sp_spot [d6 a b c d e f, p] T P X := lock_at ⟨_, _, _, _, _, _, _, _, _, _, n, rfl, hp, b6, bp, hn, h⟩
end
end SY

namespace SY
open PySem PySem.Spec PyProof.Rows L2
/-! ### the plane of three points: four numbers that turn with the order of the points -/
def nm0 (p0 p1 p2 p3 q0 q1 q2 q3 r0 r1 r2 r3 : Int) : Int := p3 * (q1 * r2 - q2 * r1) + q3 * (r1 * p2 - r2 * p1) + r3 * (p1 * q2 - p2 * q1)
def mpl (p0 p1 p2 p3 q0 q1 q2 q3 r0 r1 r2 r3 : Int) : List Int := [nm0 p0 p1 p2 p3 q0 q1 q2 q3 r0 r1 r2 r3, nm0 p1 p2 p0 p3 q1 q2 q0 q3 r1 r2 r0 r3, nm0 p2 p0 p1 p3 q2 q0 q1 q3 r2 r0 r1 r3, -tr3 p0 p1 p2 q0 q1 q2 r0 r1 r2]
section
variable {p0 p1 p2 p3 q0 q1 q2 q3 r0 r1 r2 r3 s0 s1 s2 s3 : Int}
theorem cx0_eq : cx0 p0 p1 p2 p3 q0 q1 q2 q3 r0 r1 r2 r3 = p3 * nm0 p0 p1 p2 p3 q0 q1 q2 q3 r0 r1 r2 r3 := by unfold cx0 nm0; grind
theorem cx_last : cx0 p0 p1 p2 p3 q0 q1 q2 q3 r0 r1 r2 r3 * p0 + cx0 p1 p2 p0 p3 q1 q2 q0 q3 r1 r2 r0 r3 * p1 + cx0 p2 p0 p1 p3 q2 q0 q1 q3 r2 r0 r1 r3 * p2 = p3 * p3 * tr3 p0 p1 p2 q0 q1 q2 r0 r1 r2 := by unfold cx0 tr3; grind
theorem raw_mpl : [cx0 p0 p1 p2 p3 q0 q1 q2 q3 r0 r1 r2 r3 * p3, cx0 p1 p2 p0 p3 q1 q2 q0 q3 r1 r2 r0 r3 * p3, cx0 p2 p0 p1 p3 q2 q0 q1 q3 r2 r0 r1 r3 * p3, -(cx0 p0 p1 p2 p3 q0 q1 q2 q3 r0 r1 r2 r3 * p0 + cx0 p1 p2 p0 p3 q1 q2 q0 q3 r1 r2 r0 r3 * p1 + cx0 p2 p0 p1 p3 q2 q0 q1 q3 r2 r0 r1 r3 * p2)] = (mpl p0 p1 p2 p3 q0 q1 q2 q3 r0 r1 r2 r3).map ((p3 * p3) * ·) := by
  rw [cx_last]
  unfold mpl
  simp only [List.map_cons, List.map_nil, List.cons.injEq, and_true, cx0_eq]
  refine ⟨?_, ?_, ?_, ?_⟩ <;> grind
theorem sq_pos {x : Int} (h : x ≠ 0) : 0 < x * x := by
  rcases Int.lt_or_gt_of_ne h with h | h
  · exact Int.mul_pos_of_neg_of_neg h h
  · exact Int.mul_pos h h
theorem low_raw (h : p3 ≠ 0) : lowZ [cx0 p0 p1 p2 p3 q0 q1 q2 q3 r0 r1 r2 r3 * p3, cx0 p1 p2 p0 p3 q1 q2 q0 q3 r1 r2 r0 r3 * p3, cx0 p2 p0 p1 p3 q2 q0 q1 q3 r2 r0 r1 r3 * p3, -(cx0 p0 p1 p2 p3 q0 q1 q2 q3 r0 r1 r2 r3 * p0 + cx0 p1 p2 p0 p3 q1 q2 q0 q3 r1 r2 r0 r3 * p1 + cx0 p2 p0 p1 p3 q2 q0 q1 q3 r2 r0 r1 r3 * p2)] = lowZ (mpl p0 p1 p2 p3 q0 q1 q2 q3 r0 r1 r2 r3) := by
  rw [raw_mpl]
  exact lowZ_smul (sq_pos h) _
theorem nm0_cyc : nm0 q0 q1 q2 q3 r0 r1 r2 r3 p0 p1 p2 p3 = nm0 p0 p1 p2 p3 q0 q1 q2 q3 r0 r1 r2 r3 := by unfold nm0; grind
theorem nm0_swap : nm0 q0 q1 q2 q3 p0 p1 p2 p3 r0 r1 r2 r3 = -nm0 p0 p1 p2 p3 q0 q1 q2 q3 r0 r1 r2 r3 := by unfold nm0; grind
theorem mpl_cyc : mpl q0 q1 q2 q3 r0 r1 r2 r3 p0 p1 p2 p3 = mpl p0 p1 p2 p3 q0 q1 q2 q3 r0 r1 r2 r3 := by
  unfold mpl
  rw [nm0_cyc (p0 := p0), nm0_cyc (p0 := p1), nm0_cyc (p0 := p2), show tr3 q0 q1 q2 r0 r1 r2 p0 p1 p2 = tr3 p0 p1 p2 q0 q1 q2 r0 r1 r2 by unfold tr3; grind]
theorem mpl_swap : mpl q0 q1 q2 q3 p0 p1 p2 p3 r0 r1 r2 r3 = (mpl p0 p1 p2 p3 q0 q1 q2 q3 r0 r1 r2 r3).map (-·) := by
  unfold mpl
  simp only [List.map_cons, List.map_nil]
  rw [nm0_swap (p0 := p0), nm0_swap (p0 := p1), nm0_swap (p0 := p2), show tr3 q0 q1 q2 p0 p1 p2 r0 r1 r2 = -tr3 p0 p1 p2 q0 q1 q2 r0 r1 r2 by unfold tr3; grind]
/-- the three noughts of points on a line -/
def nz (p0 p1 p2 p3 q0 q1 q2 q3 r0 r1 r2 r3 : Int) : Bool := z3 (nm0 p0 p1 p2 p3 q0 q1 q2 q3 r0 r1 r2 r3) (nm0 p1 p2 p0 p3 q1 q2 q0 q3 r1 r2 r0 r3) (nm0 p2 p0 p1 p3 q2 q0 q1 q3 r2 r0 r1 r3)
theorem z3_mul {c x y z : Int} (h : c ≠ 0) : z3 (c * x) (c * y) (c * z) = z3 x y z := by
  unfold z3
  have e : ∀ a : Int, c * a = 0 ↔ a = 0 := fun a => ⟨fun q => (Int.mul_eq_zero.mp q).resolve_left h, fun q => by rw [q, Int.mul_zero]⟩
  simp only [List.cons.injEq, and_true, e]
theorem z3_cx (h : p3 ≠ 0) : z3 (cx0 p0 p1 p2 p3 q0 q1 q2 q3 r0 r1 r2 r3) (cx0 p1 p2 p0 p3 q1 q2 q0 q3 r1 r2 r0 r3) (cx0 p2 p0 p1 p3 q2 q0 q1 q3 r2 r0 r1 r3) = nz p0 p1 p2 p3 q0 q1 q2 q3 r0 r1 r2 r3 := by
  rw [cx0_eq, cx0_eq, cx0_eq, z3_mul h]; rfl
theorem nz_cyc : nz q0 q1 q2 q3 r0 r1 r2 r3 p0 p1 p2 p3 = nz p0 p1 p2 p3 q0 q1 q2 q3 r0 r1 r2 r3 := by
  unfold nz
  rw [nm0_cyc (p0 := p0), nm0_cyc (p0 := p1), nm0_cyc (p0 := p2)]
theorem nz_swap : nz q0 q1 q2 q3 p0 p1 p2 p3 r0 r1 r2 r3 = nz p0 p1 p2 p3 q0 q1 q2 q3 r0 r1 r2 r3 := by
  unfold nz
  rw [nm0_swap (p0 := p0), nm0_swap (p0 := p1), nm0_swap (p0 := p2)]
  have e := z3_mul (c := -1) (x := nm0 p0 p1 p2 p3 q0 q1 q2 q3 r0 r1 r2 r3) (y := nm0 p1 p2 p0 p3 q1 q2 q0 q3 r1 r2 r0 r3) (z := nm0 p2 p0 p1 p3 q2 q0 q1 q3 r2 r0 r1 r3) (by decide)
  simpa using e
theorem mpl_hgt : hgt (nm0 p0 p1 p2 p3 q0 q1 q2 q3 r0 r1 r2 r3) (nm0 p1 p2 p0 p3 q1 q2 q0 q3 r1 r2 r0 r3) (nm0 p2 p0 p1 p3 q2 q0 q1 q3 r2 r0 r1 r3) (-tr3 p0 p1 p2 q0 q1 q2 r0 r1 r2) s0 s1 s2 s3 = t4 p0 p1 p2 p3 q0 q1 q2 q3 r0 r1 r2 r3 s0 s1 s2 s3 := by
  unfold hgt nm0 t4 tr3; grind
theorem nm0_bd {n : Nat} (bp : B4 n p0 p1 p2 p3) (bq : B4 n q0 q1 q2 q3) (br : B4 n r0 r1 r2 r3) (hn : n ≤ 2000) : Bd 6010 (nm0 p0 p1 p2 p3 q0 q1 q2 q3 r0 r1 r2 r3) := by
  obtain ⟨pa, pb, pc, pd⟩ := bp.mono hn
  obtain ⟨qa, qb, qc, qd⟩ := bq.mono hn
  obtain ⟨ra, rb, rc, rd⟩ := br.mono hn
  unfold nm0
  walk_at "bt"
theorem tr3_bd' {n : Nat} (bp : B4 n p0 p1 p2 p3) (bq : B4 n q0 q1 q2 q3) (br : B4 n r0 r1 r2 r3) (hn : n ≤ 2000) : Bd 6010 (tr3 p0 p1 p2 q0 q1 q2 r0 r1 r2) := by
  obtain ⟨pa, pb, pc, pd⟩ := bp.mono hn
  obtain ⟨qa, qb, qc, qd⟩ := bq.mono hn
  obtain ⟨ra, rb, rc, rd⟩ := br.mono hn
  unfold tr3
  walk_at "bt"
theorem mpl_bd {n : Nat} (bp : B4 n p0 p1 p2 p3) (bq : B4 n q0 q1 q2 q3) (br : B4 n r0 r1 r2 r3) (hn : n ≤ 2000) : B4 6010 (nm0 p0 p1 p2 p3 q0 q1 q2 q3 r0 r1 r2 r3) (nm0 p1 p2 p0 p3 q1 q2 q0 q3 r1 r2 r0 r3) (nm0 p2 p0 p1 p3 q2 q0 q1 q3 r2 r0 r1 r3) (-tr3 p0 p1 p2 q0 q1 q2 r0 r1 r2) :=
  ⟨nm0_bd bp bq br hn, nm0_bd bp.rot bq.rot br.rot hn, nm0_bd bp.rot.rot bq.rot.rot br.rot.rot hn, (tr3_bd' bp bq br hn).neg⟩
/-- a plane of three points in its one form -/
theorem mpl_low {n : Nat} (bp : B4 n p0 p1 p2 p3) (bq : B4 n q0 q1 q2 q3) (br : B4 n r0 r1 r2 r3) (hn : n ≤ 2000) (hz : nz p0 p1 p2 p3 q0 q1 q2 q3 r0 r1 r2 r3 = false) : ∃ a b c d g, lowZ (mpl p0 p1 p2 p3 q0 q1 q2 q3 r0 r1 r2 r3) = [a, b, c, d] ∧ 0 < g ∧ (a ≠ 0 ∨ b ≠ 0 ∨ c ≠ 0) ∧ B4 6010 a b c d ∧ (∀ s0 s1 s2 s3, g * hgt a b c d s0 s1 s2 s3 = t4 p0 p1 p2 p3 q0 q1 q2 q3 r0 r1 r2 r3 s0 s1 s2 s3) := by
  have b4 := mpl_bd bp bq br hn
  have h0 := z3_f hz
  obtain ⟨u, hu, u0⟩ : ∃ u ∈ mpl p0 p1 p2 p3 q0 q1 q2 q3 r0 r1 r2 r3, u ≠ 0 := by
    unfold mpl
    rcases h0 with z | z | z
    · exact ⟨_, by simp, z⟩
    · exact ⟨_, by simp, z⟩
    · exact ⟨_, by simp, z⟩
  unfold mpl at hu
  obtain ⟨a, b, c, d, g, e, g0, h1, h2, h3, h4, _, bx⟩ := low4' hu u0 b4
  refine ⟨a, b, c, d, g, e, g0, ?_, bx, fun s0 s1 s2 s3 => ?_⟩
  · rw [h1, h2, h3] at h0
    rcases h0 with z | z | z
    · exact .inl fun q => z (by rw [q, Int.mul_zero])
    · exact .inr (.inl fun q => z (by rw [q, Int.mul_zero]))
    · exact .inr (.inr fun q => z (by rw [q, Int.mul_zero]))
  · rw [← mpl_hgt, h1, h2, h3, h4]
    unfold hgt
    grind
end
section
variable {T : Sto} {P : D → Sto → Prop} {X : Xc → Sto → Prop}
theorem plane_through_m {a b c : D} {p0 p1 p2 p3 q0 q1 q2 q3 r0 r1 r2 r3 : Int} {n : Nat} (ha : V4 T a p0 p1 p2 p3) (hb : V4 T b q0 q1 q2 q3) (hc : V4 T c r0 r1 r2 r3) (h0 : p3 ≠ 0) (bp : B4 n p0 p1 p2 p3) (bq : B4 n q0 q1 q2 q3) (br : B4 n r0 r1 r2 r3) (hn : n ≤ 1500)
    (hz : nz p0 p1 p2 p3 q0 q1 q2 q3 r0 r1 r2 r3 = false) (h : P (.tup ((lowZ (mpl p0 p1 p2 p3 q0 q1 q2 q3 r0 r1 r2 r3)).map .int)) T) : sp_plane_through [a, b, c] T P X :=
  sp_plane_through_mk ha hb hc h0 bp bq br hn ((z3_cx h0).trans hz) (by rw [low_raw h0]; exact h)
theorem plane_through_m0 {a b c : D} {p0 p1 p2 p3 q0 q1 q2 q3 r0 r1 r2 r3 : Int} {n : Nat} (ha : V4 T a p0 p1 p2 p3) (hb : V4 T b q0 q1 q2 q3) (hc : V4 T c r0 r1 r2 r3) (h0 : p3 ≠ 0) (bp : B4 n p0 p1 p2 p3) (bq : B4 n q0 q1 q2 q3) (br : B4 n r0 r1 r2 r3) (hn : n ≤ 1500)
    (hz : nz p0 p1 p2 p3 q0 q1 q2 q3 r0 r1 r2 r3 = true) (h : X "NoPlane" T) : sp_plane_through [a, b, c] T P X :=
  sp_plane_through_mk0 ha hb hc h0 bp bq br hn ((z3_cx h0).trans hz) h
theorem l_plane_m {a b c : D} {p0 p1 p2 p3 q0 q1 q2 q3 r0 r1 r2 r3 : Int} {n : Nat} (ha : V4 T a p0 p1 p2 p3) (hb : V4 T b q0 q1 q2 q3) (hc : V4 T c r0 r1 r2 r3) (h0 : p3 ≠ 0) (bp : B4 n p0 p1 p2 p3) (bq : B4 n q0 q1 q2 q3) (br : B4 n r0 r1 r2 r3) (hn : n ≤ 1500)
    (h1 : nz p0 p1 p2 p3 q0 q1 q2 q3 r0 r1 r2 r3 = true → P .non T) (h2 : nz p0 p1 p2 p3 q0 q1 q2 q3 r0 r1 r2 r3 = false → P (.tup ((lowZ (mpl p0 p1 p2 p3 q0 q1 q2 q3 r0 r1 r2 r3)).map .int)) T) : sp_l_plane [a, b, c] T P X := by
  refine sp_l_plane_mk ha hb hc bp bq br hn ?_
  rw [z3_cx h0, low_raw h0]
  cases hz : nz p0 p1 p2 p3 q0 q1 q2 q3 r0 r1 r2 r3 with
  | true => rw [if_pos rfl]; exact h1 hz
  | false => rw [if_neg Bool.false_ne_true]; exact h2 hz
end
end SY

namespace SY
open PySem PySem.Spec PyProof.Rows L2
section
variable {p0 p1 p2 p3 q0 q1 q2 q3 r0 r1 r2 r3 s0 s1 s2 s3 : Int}
theorem nm0_bdS {n : Nat} (bp : B4 n p0 p1 p2 p3) (bq : B4 n q0 q1 q2 q3) (br : B4 n r0 r1 r2 r3) (hn : n ≤ 300) : Bd 910 (nm0 p0 p1 p2 p3 q0 q1 q2 q3 r0 r1 r2 r3) := by
  obtain ⟨pa, pb, pc, pd⟩ := bp.mono hn
  obtain ⟨qa, qb, qc, qd⟩ := bq.mono hn
  obtain ⟨ra, rb, rc, rd⟩ := br.mono hn
  unfold nm0
  walk_at "bt"
theorem tr3_bdS {n : Nat} (bp : B4 n p0 p1 p2 p3) (bq : B4 n q0 q1 q2 q3) (br : B4 n r0 r1 r2 r3) (hn : n ≤ 300) : Bd 910 (tr3 p0 p1 p2 q0 q1 q2 r0 r1 r2) := by
  obtain ⟨pa, pb, pc, pd⟩ := bp.mono hn
  obtain ⟨qa, qb, qc, qd⟩ := bq.mono hn
  obtain ⟨ra, rb, rc, rd⟩ := br.mono hn
  unfold tr3
  walk_at "bt"
theorem mpl_bdS {n : Nat} (bp : B4 n p0 p1 p2 p3) (bq : B4 n q0 q1 q2 q3) (br : B4 n r0 r1 r2 r3) (hn : n ≤ 300) : B4 910 (nm0 p0 p1 p2 p3 q0 q1 q2 q3 r0 r1 r2 r3) (nm0 p1 p2 p0 p3 q1 q2 q0 q3 r1 r2 r0 r3) (nm0 p2 p0 p1 p3 q2 q0 q1 q3 r2 r0 r1 r3) (-tr3 p0 p1 p2 q0 q1 q2 r0 r1 r2) :=
  ⟨nm0_bdS bp bq br hn, nm0_bdS bp.rot bq.rot br.rot hn, nm0_bdS bp.rot.rot bq.rot.rot br.rot.rot hn, (tr3_bdS bp bq br hn).neg⟩
/-- a plane of three points in its one form -/
theorem mpl_lowS {n : Nat} (bp : B4 n p0 p1 p2 p3) (bq : B4 n q0 q1 q2 q3) (br : B4 n r0 r1 r2 r3) (hn : n ≤ 300) (hz : nz p0 p1 p2 p3 q0 q1 q2 q3 r0 r1 r2 r3 = false) : ∃ a b c d g, lowZ (mpl p0 p1 p2 p3 q0 q1 q2 q3 r0 r1 r2 r3) = [a, b, c, d] ∧ 0 < g ∧ (a ≠ 0 ∨ b ≠ 0 ∨ c ≠ 0) ∧ B4 910 a b c d ∧ (∀ s0 s1 s2 s3, g * hgt a b c d s0 s1 s2 s3 = t4 p0 p1 p2 p3 q0 q1 q2 q3 r0 r1 r2 r3 s0 s1 s2 s3) := by
  have b4 := mpl_bdS bp bq br hn
  have h0 := z3_f hz
  obtain ⟨u, hu, u0⟩ : ∃ u ∈ mpl p0 p1 p2 p3 q0 q1 q2 q3 r0 r1 r2 r3, u ≠ 0 := by
    unfold mpl
    rcases h0 with z | z | z
    · exact ⟨_, by simp, z⟩
    · exact ⟨_, by simp, z⟩
    · exact ⟨_, by simp, z⟩
  unfold mpl at hu
  obtain ⟨a, b, c, d, g, e, g0, h1, h2, h3, h4, _, bx⟩ := low4' hu u0 b4
  refine ⟨a, b, c, d, g, e, g0, ?_, bx, fun s0 s1 s2 s3 => ?_⟩
  · rw [h1, h2, h3] at h0
    rcases h0 with z | z | z
    · exact .inl fun q => z (by rw [q, Int.mul_zero])
    · exact .inr (.inl fun q => z (by rw [q, Int.mul_zero]))
    · exact .inr (.inr fun q => z (by rw [q, Int.mul_zero]))
  · rw [← mpl_hgt, h1, h2, h3, h4]
    unfold hgt
    grind
end
/-- a plane that the law draws -/
def IsPl (n : Nat) (a b c d : Int) : Prop := (a ≠ 0 ∨ b ≠ 0 ∨ c ≠ 0) ∧ B4 n a b c d
theorem IsPl.mono {m n : Nat} {a b c d : Int} (h : IsPl m a b c d) (l : m ≤ n) : IsPl n a b c d := ⟨h.1, h.2.mono l⟩
theorem IsPl.neg {n : Nat} {a b c d : Int} (h : IsPl n a b c d) : IsPl n (-a) (-b) (-c) (-d) := ⟨by rcases h.1 with z | z | z <;> omega, h.2.1.neg, h.2.2.1.neg, h.2.2.2.1.neg, h.2.2.2.2.neg⟩
theorem low_pl {n : Nat} {a b c d : Int} (h : IsPl n a b c d) : ∃ a' b' c' d', lowZ [a, b, c, d] = [a', b', c', d'] ∧ IsPl n a' b' c' d' := by
  obtain ⟨u, hu, u0⟩ : ∃ u ∈ [a, b, c, d], u ≠ 0 := by
    rcases h.1 with z | z | z
    · exact ⟨a, by simp, z⟩
    · exact ⟨b, by simp, z⟩
    · exact ⟨c, by simp, z⟩
  obtain ⟨x, y, z, w, g, e, g0, h1, h2, h3, h4, _, bx⟩ := low4' hu u0 h.2
  refine ⟨x, y, z, w, e, ?_, bx⟩
  have h0 := h.1
  rw [h1, h2, h3] at h0
  rcases h0 with z | z | z
  · exact .inl fun q => z (by rw [q, Int.mul_zero])
  · exact .inr (.inl fun q => z (by rw [q, Int.mul_zero]))
  · exact .inr (.inr fun q => z (by rw [q, Int.mul_zero]))
section
variable {T : Sto} {P : D → Sto → Prop} {X : Xc → Sto → Prop}
noncomputable def sp_l_any_plane : DSp := lock <| sp1 fun a T P _ => ∃ r, a = .ptr r ∧ T r = some .row ∧ ∀ a b c d : Int, IsPl 60 a b c d → P (.tup [.int a, .int b, .int c, .int d]) T
def d_l_any_plane : DS := (dSeq (dAsg (dIx (dLst (dCons (dC (.int 2)) (dCons (dC (.int 9)) (dCons (dPow (dC (.int 10)) (dC (.int 15))) dNil)))) (dCall sp_l_take (dCons (dVar 0) (dCons (dC (.int 3)) dNil)))) 1) (dSeq (dAsg (dLcR 3 (dCons (dC (.int 4)) dNil) (dSub (dCall sp_l_take (dCons (dVar 0) (dCons (dAdd (dMul (dC (.int 2)) (dVar 1)) (dC (.int 1))) dNil))) (dVar 1))) 2) (dSeq (dIf (dTst (dEq (dSl (dVar 2) dNoO (dSomeO (dC (.int 3)))) (dLst (dCons (dC (.int 0)) (dCons (dC (.int 0)) (dCons (dC (.int 0)) dNil)))))) (dRet (dIx (dLst (dCons (dTup (dCons (dC (.int 1)) (dCons (dC (.int 0)) (dCons (dC (.int 0)) (dCons (dC (.int 0)) dNil))))) (dCons (dTup (dCons (dC (.int 0)) (dCons (dNeg (dC (.int 1))) (dCons (dC (.int 0)) (dCons (dC (.int 0)) dNil))))) (dCons (dTup (dCons (dC (.int 0)) (dCons (dC (.int 0)) (dCons (dC (.int 1)) (dCons (dC (.int 0)) dNil))))) dNil)))) (dCall sp_l_take (dCons (dVar 0) (dCons (dC (.int 3)) dNil))))) dNext) (dRet (dCall sp_l_lowest (dCons (dVar 2) dNil))))))
theorem cut4a (a b c d : D) : cutD [a, b, c, d] none (some 3) = [a, b, c] := rfl
theorem pure_l_any_plane {N : List Str} (hN : N.length = 4) : ∀ us T P X, sp_l_any_plane us T P X → d_l_any_plane (dend0 P X) (startD N us) T := by
  intro us T P X h
  obtain ⟨a, rfl, h1⟩ := sp1.of (lock_of h)
  have e0 : startD N [a] = [some a, none, none, none] := by unfold startD; rw [hN]; rfl
  rw [e0]; clear e0; unfold d_l_any_plane
  obtain ⟨r, rfl, hr, h2⟩ := h1
  walk_at "dz"
  refine ⟨⟨by decide, by decide, by decide⟩, ?_⟩
  refine sp_take_mk hr (by decide) (Bd.lit (by decide)) fun k k0 k1 => ?_
  walk_at "dz"
  refine pick (R := fun d => ∃ i, d = .int i ∧ 0 < i ∧ i ≤ 10 ^ 15) k0 k1 (fun d hd => ?_) fun d ⟨m, em, m0, m1⟩ => ?_
  · simp only [List.mem_cons, List.not_mem_nil, or_false] at hd
    rcases hd with rfl | rfl | rfl <;> exact ⟨_, rfl, by decide, by decide⟩
  subst em
  walk_at "dz"
  have mo : MulOk 2 m := mulOk_l (by decide)
  have bq : Bd 8000 (2 * m + 1) := Bd.rng (m := 10 ^ 16) (by omega) (by omega) (Bd.lit (by decide))
  have q0 : 0 < 2 * m + 1 := by omega
  refine ⟨⟨by decide, by decide⟩, mo, ?_⟩
  refine sp_take_mk hr q0 bq fun a a0 a1 => ?_
  walk_at "dz"
  refine ⟨mo, sp_take_mk hr q0 bq fun b b0 b1 => ?_⟩
  walk_at "dz"
  refine ⟨mo, sp_take_mk hr q0 bq fun c c0 c1 => ?_⟩
  walk_at "dz"
  refine ⟨mo, sp_take_mk hr q0 bq fun d d0 d1 => ?_⟩
  walk_at "dz"
  rw [cut4a]
  simp only [eqOk_l3, eqv_l3]
  refine ⟨⟨trivial, trivial⟩, ?_⟩
  have bb : B4 60 (a - m) (b - m) (c - m) (d - m) := ⟨Bd.rng (m := 10 ^ 16) (by omega) (by omega) (Bd.lit (by decide)), Bd.rng (m := 10 ^ 16) (by omega) (by omega) (Bd.lit (by decide)), Bd.rng (m := 10 ^ 16) (by omega) (by omega) (Bd.lit (by decide)), Bd.rng (m := 10 ^ 16) (by omega) (by omega) (Bd.lit (by decide))⟩
  by_cases hz : [a - m, b - m, c - m] = [0, 0, 0]
  · rw [if_pos (decide_eq_true hz)]
    walk_at "dz"
    refine sp_take_mk hr (by decide) (Bd.lit (by decide)) fun i i0 i1 => ?_
    have o1 : Bd 60 1 := Bd.lit (by decide)
    have o0 : Bd 60 0 := Bd.lit (by decide)
    have om : Bd 60 (-1) := Bd.lit (by decide)
    rcases lt3 i0 i1 with rfl | rfl | rfl
    · walk_at "dz"
      exact h2 _ _ _ _ ⟨.inl (by decide), o1, o0, o0, o0⟩
    · walk_at "dz"
      exact h2 _ _ _ _ ⟨.inr (.inl (by decide)), o0, om, o0, o0⟩
    · walk_at "dz"
      exact h2 _ _ _ _ ⟨.inr (.inr (by decide)), o0, o0, o1, o0⟩
  · rw [if_neg (by rw [decide_eq_false hz]; exact Bool.false_ne_true)]
    walk_at "dz"
    refine sp_l_lowest_mk (ns := [a - m, b - m, c - m, d - m]) rfl (fun v hv => (all4 bb v hv).mono (by decide)) (by simp) ?_
    obtain ⟨x, y, z, w, e, hx⟩ := low_pl ⟨z3_f (decide_eq_false hz), bb⟩
    rw [e]
    exact h2 _ _ _ _ hx
theorem sp_l_any_plane_mk {r : Addr} (hr : T r = some .row) (h : ∀ a b c d : Int, IsPl 60 a b c d → P (.tup [.int a, .int b, .int c, .int d]) T) : sp_l_any_plane [.ptr r] T P X := lock_at ⟨r, rfl, hr, h⟩
end
end SY

namespace SY
open PySem PySem.Spec PyProof.Rows L2
/-! ### tables -/
def tabL (h0 h1 h2 h3 i0 i1 i2 i3 j0 j1 j2 j3 b : Int) : List Int := [h0, h1, h2, h3, i0, i1, i2, i3, j0, j1, j2, j3, b]
def row4 (a b c d : Int) : D := .tup [.int a, .int b, .int c, .int d]
def tabD (h0 h1 h2 h3 i0 i1 i2 i3 j0 j1 j2 j3 b : Int) : D := .tup [.tup [.int h0, .int h1, .int h2, .int h3], .tup [.int i0, .int i1, .int i2, .int i3], .tup [.int j0, .int j1, .int j2, .int j3], .int b]
structure IsTab (n : Nat) (h0 h1 h2 h3 i0 i1 i2 i3 j0 j1 j2 j3 b : Int) : Prop where
  pos : 0 < b
  det : tr3 h0 h1 h2 i0 i1 i2 j0 j1 j2 ≠ 0
  low : gcdL (tabL h0 h1 h2 h3 i0 i1 i2 i3 j0 j1 j2 j3 b) = 1
  bh : B4 n h0 h1 h2 h3
  bi : B4 n i0 i1 i2 i3
  bj : B4 n j0 j1 j2 j3
  bb : Bd n b
theorem det3 (h0 h1 h2 i0 i1 i2 j0 j1 j2 : Int) : tr3 (h0 + 3) h1 h2 i0 (i1 + 3) i2 j0 j1 (j2 + 3) - 3 * tr3 (h0 + 2) h1 h2 i0 (i1 + 2) i2 j0 j1 (j2 + 2) + 3 * tr3 (h0 + 1) h1 h2 i0 (i1 + 1) i2 j0 j1 (j2 + 1) - tr3 h0 h1 h2 i0 i1 i2 j0 j1 j2 = 6 := by unfold tr3; grind
def allB (n : Nat) (ns : List Int) : Prop := ∀ z ∈ ns, Bd n z
theorem low13 {n : Nat} {h0 h1 h2 h3 i0 i1 i2 i3 j0 j1 j2 j3 b : Int} (hb : 0 < b) (hd : tr3 h0 h1 h2 i0 i1 i2 j0 j1 j2 ≠ 0) (ba : allB n (tabL h0 h1 h2 h3 i0 i1 i2 i3 j0 j1 j2 j3 b)) : ∃ x0 x1 x2 x3 y0 y1 y2 y3 z0 z1 z2 z3 w g, lowZ (tabL h0 h1 h2 h3 i0 i1 i2 i3 j0 j1 j2 j3 b) = tabL x0 x1 x2 x3 y0 y1 y2 y3 z0 z1 z2 z3 w ∧ IsTab n x0 x1 x2 x3 y0 y1 y2 y3 z0 z1 z2 z3 w ∧ 0 < g ∧ tabL h0 h1 h2 h3 i0 i1 i2 i3 j0 j1 j2 j3 b = (tabL x0 x1 x2 x3 y0 y1 y2 y3 z0 z1 z2 z3 w).map (g * ·) := by
  have hm := lowZ_mul (tabL h0 h1 h2 h3 i0 i1 i2 i3 j0 j1 j2 j3 b)
  have hg := lowZ_gcd (ns := tabL h0 h1 h2 h3 i0 i1 i2 i3 j0 j1 j2 j3 b) (n := b) (by unfold tabL; simp) (by omega)
  have hbd := lowZ_bd ba
  have hp := lowBy_pos (tabL h0 h1 h2 h3 i0 i1 i2 i3 j0 j1 j2 j3 b)
  generalize lowBy (tabL h0 h1 h2 h3 i0 i1 i2 i3 j0 j1 j2 j3 b) = g at *
  have hs : ∃ x0 x1 x2 x3 y0 y1 y2 y3 z0 z1 z2 z3 w, lowZ (tabL h0 h1 h2 h3 i0 i1 i2 i3 j0 j1 j2 j3 b) = tabL x0 x1 x2 x3 y0 y1 y2 y3 z0 z1 z2 z3 w := ⟨_, _, _, _, _, _, _, _, _, _, _, _, _, rfl⟩
  obtain ⟨x0, x1, x2, x3, y0, y1, y2, y3, z0, z1, z2, z3, w, e⟩ := hs
  rw [e] at hm hg hbd
  have hm' := hm
  unfold tabL at hm' hbd
  simp only [List.map_cons, List.map_nil, List.cons.injEq, and_true] at hm'
  obtain ⟨e0, e1, e2, e3, f0, f1, f2, f3, k0, k1, k2, k3, ew⟩ := hm'
  refine ⟨x0, x1, x2, x3, y0, y1, y2, y3, z0, z1, z2, z3, w, g, e, ⟨?_, ?_, hg, ⟨hbd _ (by simp), hbd _ (by simp), hbd _ (by simp), hbd _ (by simp)⟩, ⟨hbd _ (by simp), hbd _ (by simp), hbd _ (by simp), hbd _ (by simp)⟩, ⟨hbd _ (by simp), hbd _ (by simp), hbd _ (by simp), hbd _ (by simp)⟩, hbd _ (by simp)⟩, by omega, hm.symm⟩
  · exact pos_of_mul (g := g) (by omega) (by rw [ew]; exact hb)
  · intro z
    apply hd
    rw [← e0, ← e1, ← e2, ← f0, ← f1, ← f2, ← k0, ← k1, ← k2]
    have e : tr3 (g * x0) (g * x1) (g * x2) (g * y0) (g * y1) (g * y2) (g * z0) (g * z1) (g * z2) = g * g * g * tr3 x0 x1 x2 y0 y1 y2 z0 z1 z2 := by unfold tr3; grind
    rw [e, z, Int.mul_zero]
section
variable {T : Sto} {P : D → Sto → Prop} {X : Xc → Sto → Prop}
noncomputable def sp_l_mass : DSp := lock <| sp1 fun a T P _ => ∃ u v w l h0 h1 h2 i0 i1 i2 j0 j1 j2 n, seqOf T a = some (u :: v :: w :: l) ∧ V3 T u h0 h1 h2 ∧ V3 T v i0 i1 i2 ∧ V3 T w j0 j1 j2 ∧ B3 n h0 h1 h2 ∧ B3 n i0 i1 i2 ∧ B3 n j0 j1 j2 ∧ n ≤ 20000 ∧ P (.int (tr3 h0 h1 h2 i0 i1 i2 j0 j1 j2)) T
def d_l_mass : DS := (dSeq (dAsg (dCall sp_l_cross (dCons (dIx (dVar 0) (dC (.int 1))) (dCons (dIx (dVar 0) (dC (.int 2))) dNil))) 1) (dRet (dSum (dLcR 2 (dCons (dC (.int 3)) dNil) (dMul (dIx (dIx (dVar 0) (dC (.int 0))) (dVar 2)) (dIx (dVar 1) (dVar 2)))))))
theorem pure_l_mass {N : List Str} (hN : N.length = 3) : ∀ us T P X, sp_l_mass us T P X → d_l_mass (dend0 P X) (startD N us) T := by
  intro us T P X h
  obtain ⟨a, rfl, h1⟩ := sp1.of (lock_of h)
  have e0 : startD N [a] = [some a, none, none] := by unfold startD; rw [hN]; rfl
  rw [e0]; clear e0; unfold d_l_mass
  obtain ⟨u, v, w, l, h0, h1, h2, i0, i1, i2, j0, j1, j2, n, hs, ⟨r0, hu⟩, hv, hw, bu, bv, bw, hn, hP⟩ := h1
  obtain ⟨xa, xb, xc⟩ := bu.mono hn
  obtain ⟨ya, yb, yc⟩ := bv.mono hn
  obtain ⟨za, zb, zc⟩ := bw.mono hn
  (try simp -dsimp (maxSteps := 3000000) only [hs, ↓SY.someOf_z, ↓SY.int1_z, ↓SY.int2_z, ↓SY.bl1_z, ↓SY.optK_z, ↓SY.seqK_z, ↓SY.ixD_z, ↓SY.addD_z, ↓SY.lenD_z, ↓SY.slD_z, ↓SY.setD_z, ↓SY.appD_z, ↓SY.popD_z, ↓SY.dgsK_z, ↓SY.one_z, ↓SY.two_z, ↓SY.intK_z, ↓SY.rng1_z, ↓SY.rng2_z, ↓SY.frzK_z, ↓SY.forL_z, ↓SY.lcL_z, ↓SY.dSeq_z, SY.someZ_s, SY.int1Z_s, SY.int2Z_s, SY.bl1Z_s, SY.optZ_s, SY.addZ_i, SY.addZ_s, SY.addZ_t, SY.addZ_l, SY.addZ_p, SY.lenZ_t, SY.lenZ_l, SY.lenZ_s, SY.lenZ_p, SY.slZ_t, SY.slZ_l, SY.slZ_s, SY.slZ_p, SY.setZ_s, SY.appZ_s, SY.popZ_s, SY.dgsZ_s, SY.nilK_s, SY.oneZ_s, SY.twoZ_s, SY.intZ_i, SY.intZ_b, SY.rng1Z_s, SY.rng2Z_s, SY.frzZ_p, SY.frzZ_l, SY.frzZ_t, SY.forZ_nil, SY.forZ_cons, SY.lcZ_nil, SY.lcZ_cons, SY.goZ_s, ↓SY.sq_nx, ↓SY.sq_rt, ↓SY.sq_bk, ↓SY.sq_ct, ↓SY.sq_ex, ↓SY.lp_nx, ↓SY.lp_ct, ↓SY.lp_bk, ↓SY.lp_rt, ↓SY.lp_ex, SY.dAsg, SY.dRet, SY.dRetN, SY.dNext, SY.dIf, SY.dTst, SY.dC, SY.dVar, SY.dI, SY.dI0, SY.dMul, SY.dDiv, SY.dMod, SY.dPow, SY.dSub, SY.dLt, SY.dLe, SY.dGt, SY.dGe, SY.dNeg, SY.dAdd, SY.dIx, SY.dNil, SY.dCons, SY.dTup, SY.dLst, SY.dLstM, ↓SY.dCall_z, SY.dAbs, SY.dLen, SY.dTuple, SY.dList, SY.dListM, SY.dEq, SY.dNe, SY.dIsN, SY.dNotN, SY.dIsB, SY.dNotB, SY.dFrz, SY.dRaise, SY.dTryAs, SY.dTryOnly, SY.dIsE, SY.dtAnd, SY.dtOr, SY.dtNot, SY.dAnd, SY.dOr, SY.dNot, SY.dIsi, SY.dAll, SY.dSum, SY.dInt, SY.dSl, SY.dNoO, SY.dSomeO, SY.dDrop, SY.dAug, SY.dPar, SY.dAsgG, SY.dgName, SY.dgTup, SY.dgsNil, SY.dgsName, SY.dgSub, SY.dApp, SY.dPopAt, SY.dFor, SY.dForR1, SY.dForR2, SY.dForE, SY.dLc, SY.dLcR, SY.dLcRM, SY.rngL, SY.enumL, SY.frozen_tup, SY.frozen_lst, SY.frozen_scr, SY.frozL_lst, SY.frozL_scr, SY.seqOf_tup, SY.seqOf_lst, SY.seqOf_scr, SY.seqOf_ptr, SY.seqOf_int, SY.seqOf_str, SY.lstOf_lst, SY.lstOf_scr, SY.lstOf_ptr, SY.mlst_lst, SY.plst_lst, SY.plst_ptr, SY.isPtrL, SY.tyN, SY.isNon, SY.blsOf, SY.intsOf, SY.dend0, SY.dend, SY.startD, SY.eqOk_int, SY.eqv_int, SY.atI0, SY.atI1, SY.atI2, SY.atI3, SY.atI4, SY.atI5, SY.ixN0, decide_true, decide_false, Int.reduceEq, Int.reduceLT, Int.reduceLE, SY.ixN_21, SY.ixN_31, SY.ixN_32, SY.ixN_41, SY.ixN_42, SY.ixN_43, SY.seqIx0, SY.updT_same, SY.updT_updT, List.map_cons, List.map_nil, List.length_cons, List.length_nil, List.replicate, List.cons_append, List.nil_append, List.getD_cons_zero, List.getD_cons_succ, List.set_cons_zero, List.set_cons_succ, List.getElem?_cons_zero, List.eraseIdx_cons_zero, Option.isSome_some, Option.map_some, Int.reduceToNat, Int.reducePow, Int.reduceAdd, Int.reduceMul, Nat.zero_lt_succ, Nat.reduceLT, Nat.sub_self, Nat.reduceSub, Nat.reduceAdd, Nat.reduceLeDiff, Nat.zero_add, SY.kit_ii, SY.kit_ib, SY.kit_it, SY.kit_bi, SY.kit_bb, SY.kit_tt, SY.kit_ti, SY.kit_tb, SY.kit_nt, SY.kit_ll, SY.kit_lt, Bool.not_true, Bool.not_false, if_true, if_false, reduceIte, Bool.false_eq_true, true_and, and_true, and_self])
  refine sp_l_cross_mk hv hw bv bw (by omega) ?_
  (try simp -dsimp (maxSteps := 3000000) only [hs, hu, ↓SY.someOf_z, ↓SY.int1_z, ↓SY.int2_z, ↓SY.bl1_z, ↓SY.optK_z, ↓SY.seqK_z, ↓SY.ixD_z, ↓SY.addD_z, ↓SY.lenD_z, ↓SY.slD_z, ↓SY.setD_z, ↓SY.appD_z, ↓SY.popD_z, ↓SY.dgsK_z, ↓SY.one_z, ↓SY.two_z, ↓SY.intK_z, ↓SY.rng1_z, ↓SY.rng2_z, ↓SY.frzK_z, ↓SY.forL_z, ↓SY.lcL_z, ↓SY.dSeq_z, SY.someZ_s, SY.int1Z_s, SY.int2Z_s, SY.bl1Z_s, SY.optZ_s, SY.addZ_i, SY.addZ_s, SY.addZ_t, SY.addZ_l, SY.addZ_p, SY.lenZ_t, SY.lenZ_l, SY.lenZ_s, SY.lenZ_p, SY.slZ_t, SY.slZ_l, SY.slZ_s, SY.slZ_p, SY.setZ_s, SY.appZ_s, SY.popZ_s, SY.dgsZ_s, SY.nilK_s, SY.oneZ_s, SY.twoZ_s, SY.intZ_i, SY.intZ_b, SY.rng1Z_s, SY.rng2Z_s, SY.frzZ_p, SY.frzZ_l, SY.frzZ_t, SY.forZ_nil, SY.forZ_cons, SY.lcZ_nil, SY.lcZ_cons, SY.goZ_s, ↓SY.sq_nx, ↓SY.sq_rt, ↓SY.sq_bk, ↓SY.sq_ct, ↓SY.sq_ex, ↓SY.lp_nx, ↓SY.lp_ct, ↓SY.lp_bk, ↓SY.lp_rt, ↓SY.lp_ex, SY.dAsg, SY.dRet, SY.dRetN, SY.dNext, SY.dIf, SY.dTst, SY.dC, SY.dVar, SY.dI, SY.dI0, SY.dMul, SY.dDiv, SY.dMod, SY.dPow, SY.dSub, SY.dLt, SY.dLe, SY.dGt, SY.dGe, SY.dNeg, SY.dAdd, SY.dIx, SY.dNil, SY.dCons, SY.dTup, SY.dLst, SY.dLstM, ↓SY.dCall_z, SY.dAbs, SY.dLen, SY.dTuple, SY.dList, SY.dListM, SY.dEq, SY.dNe, SY.dIsN, SY.dNotN, SY.dIsB, SY.dNotB, SY.dFrz, SY.dRaise, SY.dTryAs, SY.dTryOnly, SY.dIsE, SY.dtAnd, SY.dtOr, SY.dtNot, SY.dAnd, SY.dOr, SY.dNot, SY.dIsi, SY.dAll, SY.dSum, SY.dInt, SY.dSl, SY.dNoO, SY.dSomeO, SY.dDrop, SY.dAug, SY.dPar, SY.dAsgG, SY.dgName, SY.dgTup, SY.dgsNil, SY.dgsName, SY.dgSub, SY.dApp, SY.dPopAt, SY.dFor, SY.dForR1, SY.dForR2, SY.dForE, SY.dLc, SY.dLcR, SY.dLcRM, SY.rngL, SY.enumL, SY.frozen_tup, SY.frozen_lst, SY.frozen_scr, SY.frozL_lst, SY.frozL_scr, SY.seqOf_tup, SY.seqOf_lst, SY.seqOf_scr, SY.seqOf_ptr, SY.seqOf_int, SY.seqOf_str, SY.lstOf_lst, SY.lstOf_scr, SY.lstOf_ptr, SY.mlst_lst, SY.plst_lst, SY.plst_ptr, SY.isPtrL, SY.tyN, SY.isNon, SY.blsOf, SY.intsOf, SY.dend0, SY.dend, SY.startD, SY.eqOk_int, SY.eqv_int, SY.atI0, SY.atI1, SY.atI2, SY.atI3, SY.atI4, SY.atI5, SY.ixN0, decide_true, decide_false, Int.reduceEq, Int.reduceLT, Int.reduceLE, SY.ixN_21, SY.ixN_31, SY.ixN_32, SY.ixN_41, SY.ixN_42, SY.ixN_43, SY.seqIx0, SY.updT_same, SY.updT_updT, List.map_cons, List.map_nil, List.length_cons, List.length_nil, List.replicate, List.cons_append, List.nil_append, List.getD_cons_zero, List.getD_cons_succ, List.set_cons_zero, List.set_cons_succ, List.getElem?_cons_zero, List.eraseIdx_cons_zero, Option.isSome_some, Option.map_some, Int.reduceToNat, Int.reducePow, Int.reduceAdd, Int.reduceMul, Nat.zero_lt_succ, Nat.reduceLT, Nat.sub_self, Nat.reduceSub, Nat.reduceAdd, Nat.reduceLeDiff, Nat.zero_add, SY.kit_ii, SY.kit_ib, SY.kit_it, SY.kit_bi, SY.kit_bb, SY.kit_tt, SY.kit_ti, SY.kit_tb, SY.kit_nt, SY.kit_ll, SY.kit_lt, Bool.not_true, Bool.not_false, if_true, if_false, reduceIte, Bool.false_eq_true, true_and, and_true, and_self])
  refine ⟨⟨by decide, by decide⟩, ?_⟩
  walk_at "mos"
  simp only [List.sum_cons, List.sum_nil]
  have e : h0 * (i1 * j2 - i2 * j1) + (h1 * (i2 * j0 - i0 * j2) + (h2 * (i0 * j1 - i1 * j0) + 0)) = tr3 h0 h1 h2 i0 i1 i2 j0 j1 j2 := by unfold tr3; grind
  rw [e]
  exact hP
theorem sp_l_mass_mk {a u v w : D} {l : List D} {h0 h1 h2 i0 i1 i2 j0 j1 j2 : Int} {n : Nat} (hs : seqOf T a = some (u :: v :: w :: l)) (hu : V3 T u h0 h1 h2) (hv : V3 T v i0 i1 i2) (hw : V3 T w j0 j1 j2) (bu : B3 n h0 h1 h2) (bv : B3 n i0 i1 i2) (bw : B3 n j0 j1 j2) (hn : n ≤ 20000) (h : P (.int (tr3 h0 h1 h2 i0 i1 i2 j0 j1 j2)) T) : sp_l_mass [a] T P X := lock_at ⟨u, v, w, l, _, _, _, _, _, _, _, _, _, n, hs, hu, hv, hw, bu, bv, bw, hn, h⟩
def Ext (T T' : Sto) : Prop := ∀ x m, T x = some m → T' x = some m
def intM (ns : List Int) : MO := .lst (ns.map .int)
def d_l_table_b1 : DS := (dDrop (dApp (dVar 3) (dLcRM 5 (dCons (dC (.int 4)) dNil) (dSub (dCall sp_l_take (dCons (dVar 0) (dCons (dAdd (dMul (dC (.int 2)) (dVar 1)) (dC (.int 1))) dNil))) (dVar 1)))))
def d_l_table_b2 : DS := (dAsgG (dAdd (dIx (dIx (dVar 3) (dVar 5)) (dVar 5)) (dC (.int 1))) (dgSub (dIx (dVar 3) (dVar 5)) (dVar 5)))
def d_l_table_b3 : DS := (dIf (dTst (dEq (dCall sp_l_mass (dCons (dVar 3) dNil)) (dC (.int 0)))) (dForR1 (dgName 5) (dCons (dC (.int 3)) dNil) d_l_table_b2) dNext)
def d_l_table : DS := (dSeq (dAsg (dLstM dNil) 3) (dSeq (dForR1 (dgName 4) (dCons (dC (.int 3)) dNil) d_l_table_b1) (dSeq (dForR1 (dgName 4) (dCons (dC (.int 3)) dNil) d_l_table_b3) (dSeq (dAsg (dAdd (dC (.int 1)) (dCall sp_l_take (dCons (dVar 0) (dCons (dVar 2) dNil)))) 6) (dSeq (dAsg (dCall sp_l_lowest (dCons (dAdd (dAdd (dAdd (dIx (dVar 3) (dC (.int 0))) (dIx (dVar 3) (dC (.int 1)))) (dIx (dVar 3) (dC (.int 2)))) (dLst (dCons (dVar 6) dNil))) dNil)) 7) (dRet (dTup (dCons (dSl (dVar 7) dNoO (dSomeO (dC (.int 4)))) (dCons (dSl (dVar 7) (dSomeO (dC (.int 4))) (dSomeO (dC (.int 8)))) (dCons (dSl (dVar 7) (dSomeO (dC (.int 8))) (dSomeO (dC (.int 12)))) (dCons (dIx (dVar 7) (dC (.int 12))) dNil)))))))))))
theorem tab_row {T0 : Sto} {E : DX} {r R : Addr} {s : Int} {ds : List D} {x2 x4 x6 x7 : Option D} (rq : T r = some .row) (hR : T R = some (.lst ds)) (hl : ds.length < 10) (s0 : 0 < s) (s1 : s ≤ 10 ^ 20)
    (h : ∀ T' a y0 y1 y2 y3, T' r = some .row → T a = none → T' R = some (.lst (ds ++ [.ptr a])) → T' a = some (intM [y0, y1, y2, y3]) → (∀ z, z ≠ R → z ≠ a → T' z = T z) → B4 70 y0 y1 y2 y3 → ∀ x5, E.nx [some (.ptr r), some (.int s), x2, some (.ptr R), x4, x5, x6, x7] T') :
    ∀ x5, d_l_table_b1 E [some (.ptr r), some (.int s), x2, some (.ptr R), x4, x5, x6, x7] T := by
  intro x5
  unfold d_l_table_b1
  (try simp -dsimp (maxSteps := 3000000) only [hR, ↓SY.someOf_z, ↓SY.int1_z, ↓SY.int2_z, ↓SY.bl1_z, ↓SY.optK_z, ↓SY.seqK_z, ↓SY.ixD_z, ↓SY.addD_z, ↓SY.lenD_z, ↓SY.slD_z, ↓SY.setD_z, ↓SY.appD_z, ↓SY.popD_z, ↓SY.dgsK_z, ↓SY.one_z, ↓SY.two_z, ↓SY.intK_z, ↓SY.rng1_z, ↓SY.rng2_z, ↓SY.frzK_z, ↓SY.forL_z, ↓SY.lcL_z, ↓SY.dSeq_z, SY.someZ_s, SY.int1Z_s, SY.int2Z_s, SY.bl1Z_s, SY.optZ_s, SY.addZ_i, SY.addZ_s, SY.addZ_t, SY.addZ_l, SY.addZ_p, SY.lenZ_t, SY.lenZ_l, SY.lenZ_s, SY.lenZ_p, SY.slZ_t, SY.slZ_l, SY.slZ_s, SY.slZ_p, SY.setZ_s, SY.appZ_s, SY.popZ_s, SY.dgsZ_s, SY.nilK_s, SY.oneZ_s, SY.twoZ_s, SY.intZ_i, SY.intZ_b, SY.rng1Z_s, SY.rng2Z_s, SY.frzZ_p, SY.frzZ_l, SY.frzZ_t, SY.forZ_nil, SY.forZ_cons, SY.lcZ_nil, SY.lcZ_cons, SY.goZ_s, ↓SY.sq_nx, ↓SY.sq_rt, ↓SY.sq_bk, ↓SY.sq_ct, ↓SY.sq_ex, ↓SY.lp_nx, ↓SY.lp_ct, ↓SY.lp_bk, ↓SY.lp_rt, ↓SY.lp_ex, SY.dAsg, SY.dRet, SY.dRetN, SY.dNext, SY.dIf, SY.dTst, SY.dC, SY.dVar, SY.dI, SY.dI0, SY.dMul, SY.dDiv, SY.dMod, SY.dPow, SY.dSub, SY.dLt, SY.dLe, SY.dGt, SY.dGe, SY.dNeg, SY.dAdd, SY.dIx, SY.dNil, SY.dCons, SY.dTup, SY.dLst, SY.dLstM, ↓SY.dCall_z, SY.dAbs, SY.dLen, SY.dTuple, SY.dList, SY.dListM, SY.dEq, SY.dNe, SY.dIsN, SY.dNotN, SY.dIsB, SY.dNotB, SY.dFrz, SY.dRaise, SY.dTryAs, SY.dTryOnly, SY.dIsE, SY.dtAnd, SY.dtOr, SY.dtNot, SY.dAnd, SY.dOr, SY.dNot, SY.dIsi, SY.dAll, SY.dSum, SY.dInt, SY.dSl, SY.dNoO, SY.dSomeO, SY.dDrop, SY.dAug, SY.dPar, SY.dAsgG, SY.dgName, SY.dgTup, SY.dgsNil, SY.dgsName, SY.dgSub, SY.dApp, SY.dPopAt, SY.dFor, SY.dForR1, SY.dForR2, SY.dForE, SY.dLc, SY.dLcR, SY.dLcRM, SY.rngL, SY.enumL, SY.frozen_tup, SY.frozen_lst, SY.frozen_scr, SY.frozL_lst, SY.frozL_scr, SY.seqOf_tup, SY.seqOf_lst, SY.seqOf_scr, SY.seqOf_ptr, SY.seqOf_int, SY.seqOf_str, SY.lstOf_lst, SY.lstOf_scr, SY.lstOf_ptr, SY.mlst_lst, SY.plst_lst, SY.plst_ptr, SY.isPtrL, SY.tyN, SY.isNon, SY.blsOf, SY.intsOf, SY.dend0, SY.dend, SY.startD, SY.eqOk_int, SY.eqv_int, SY.atI0, SY.atI1, SY.atI2, SY.atI3, SY.atI4, SY.atI5, SY.ixN0, decide_true, decide_false, Int.reduceEq, Int.reduceLT, Int.reduceLE, SY.ixN_21, SY.ixN_31, SY.ixN_32, SY.ixN_41, SY.ixN_42, SY.ixN_43, SY.seqIx0, SY.updT_same, SY.updT_updT, List.map_cons, List.map_nil, List.length_cons, List.length_nil, List.replicate, List.cons_append, List.nil_append, List.getD_cons_zero, List.getD_cons_succ, List.set_cons_zero, List.set_cons_succ, List.getElem?_cons_zero, List.eraseIdx_cons_zero, Option.isSome_some, Option.map_some, Int.reduceToNat, Int.reducePow, Int.reduceAdd, Int.reduceMul, Nat.zero_lt_succ, Nat.reduceLT, Nat.sub_self, Nat.reduceSub, Nat.reduceAdd, Nat.reduceLeDiff, Nat.zero_add, SY.kit_ii, SY.kit_ib, SY.kit_it, SY.kit_bi, SY.kit_bb, SY.kit_tt, SY.kit_ti, SY.kit_tb, SY.kit_nt, SY.kit_ll, SY.kit_lt, Bool.not_true, Bool.not_false, if_true, if_false, reduceIte, Bool.false_eq_true, true_and, and_true, and_self])
  have mo : MulOk 2 s := mulOk_l (by decide)
  have bq : Bd 8000 (2 * s + 1) := Bd.rng (m := 10 ^ 22) (by omega) (by omega) (Bd.lit (by decide))
  have q0 : 0 < 2 * s + 1 := by omega
  refine ⟨⟨by decide, by decide⟩, mo, ?_⟩
  refine sp_take_mk rq q0 bq fun a a0 a1 => ?_
  walk_at "dz"
  refine ⟨mo, sp_take_mk rq q0 bq fun b b0 b1 => ?_⟩
  walk_at "dz"
  refine ⟨mo, sp_take_mk rq q0 bq fun c c0 c1 => ?_⟩
  walk_at "dz"
  refine ⟨mo, sp_take_mk rq q0 bq fun d d0 d1 => ?_⟩
  walk_at "dz"
  intro p hp
  have pR : R ≠ p := fun z => by subst z; rw [hR] at hp; cases hp
  have pr : r ≠ p := fun z => by subst z; rw [rq] at hp; cases hp
  have rR : r ≠ R := fun z => by subst z; rw [rq] at hR; cases hR
  have e1 : ∀ m, updT T p m R = some (.lst ds) := fun m => by rw [updT_ne pR]; exact hR
  (try simp -dsimp (maxSteps := 3000000) only [e1, ↓SY.someOf_z, ↓SY.int1_z, ↓SY.int2_z, ↓SY.bl1_z, ↓SY.optK_z, ↓SY.seqK_z, ↓SY.ixD_z, ↓SY.addD_z, ↓SY.lenD_z, ↓SY.slD_z, ↓SY.setD_z, ↓SY.appD_z, ↓SY.popD_z, ↓SY.dgsK_z, ↓SY.one_z, ↓SY.two_z, ↓SY.intK_z, ↓SY.rng1_z, ↓SY.rng2_z, ↓SY.frzK_z, ↓SY.forL_z, ↓SY.lcL_z, ↓SY.dSeq_z, SY.someZ_s, SY.int1Z_s, SY.int2Z_s, SY.bl1Z_s, SY.optZ_s, SY.addZ_i, SY.addZ_s, SY.addZ_t, SY.addZ_l, SY.addZ_p, SY.lenZ_t, SY.lenZ_l, SY.lenZ_s, SY.lenZ_p, SY.slZ_t, SY.slZ_l, SY.slZ_s, SY.slZ_p, SY.setZ_s, SY.appZ_s, SY.popZ_s, SY.dgsZ_s, SY.nilK_s, SY.oneZ_s, SY.twoZ_s, SY.intZ_i, SY.intZ_b, SY.rng1Z_s, SY.rng2Z_s, SY.frzZ_p, SY.frzZ_l, SY.frzZ_t, SY.forZ_nil, SY.forZ_cons, SY.lcZ_nil, SY.lcZ_cons, SY.goZ_s, ↓SY.sq_nx, ↓SY.sq_rt, ↓SY.sq_bk, ↓SY.sq_ct, ↓SY.sq_ex, ↓SY.lp_nx, ↓SY.lp_ct, ↓SY.lp_bk, ↓SY.lp_rt, ↓SY.lp_ex, SY.dAsg, SY.dRet, SY.dRetN, SY.dNext, SY.dIf, SY.dTst, SY.dC, SY.dVar, SY.dI, SY.dI0, SY.dMul, SY.dDiv, SY.dMod, SY.dPow, SY.dSub, SY.dLt, SY.dLe, SY.dGt, SY.dGe, SY.dNeg, SY.dAdd, SY.dIx, SY.dNil, SY.dCons, SY.dTup, SY.dLst, SY.dLstM, ↓SY.dCall_z, SY.dAbs, SY.dLen, SY.dTuple, SY.dList, SY.dListM, SY.dEq, SY.dNe, SY.dIsN, SY.dNotN, SY.dIsB, SY.dNotB, SY.dFrz, SY.dRaise, SY.dTryAs, SY.dTryOnly, SY.dIsE, SY.dtAnd, SY.dtOr, SY.dtNot, SY.dAnd, SY.dOr, SY.dNot, SY.dIsi, SY.dAll, SY.dSum, SY.dInt, SY.dSl, SY.dNoO, SY.dSomeO, SY.dDrop, SY.dAug, SY.dPar, SY.dAsgG, SY.dgName, SY.dgTup, SY.dgsNil, SY.dgsName, SY.dgSub, SY.dApp, SY.dPopAt, SY.dFor, SY.dForR1, SY.dForR2, SY.dForE, SY.dLc, SY.dLcR, SY.dLcRM, SY.rngL, SY.enumL, SY.frozen_tup, SY.frozen_lst, SY.frozen_scr, SY.frozL_lst, SY.frozL_scr, SY.seqOf_tup, SY.seqOf_lst, SY.seqOf_scr, SY.seqOf_ptr, SY.seqOf_int, SY.seqOf_str, SY.lstOf_lst, SY.lstOf_scr, SY.lstOf_ptr, SY.mlst_lst, SY.plst_lst, SY.plst_ptr, SY.isPtrL, SY.tyN, SY.isNon, SY.blsOf, SY.intsOf, SY.dend0, SY.dend, SY.startD, SY.eqOk_int, SY.eqv_int, SY.atI0, SY.atI1, SY.atI2, SY.atI3, SY.atI4, SY.atI5, SY.ixN0, decide_true, decide_false, Int.reduceEq, Int.reduceLT, Int.reduceLE, SY.ixN_21, SY.ixN_31, SY.ixN_32, SY.ixN_41, SY.ixN_42, SY.ixN_43, SY.seqIx0, SY.updT_same, SY.updT_updT, List.map_cons, List.map_nil, List.length_cons, List.length_nil, List.replicate, List.cons_append, List.nil_append, List.getD_cons_zero, List.getD_cons_succ, List.set_cons_zero, List.set_cons_succ, List.getElem?_cons_zero, List.eraseIdx_cons_zero, Option.isSome_some, Option.map_some, Int.reduceToNat, Int.reducePow, Int.reduceAdd, Int.reduceMul, Nat.zero_lt_succ, Nat.reduceLT, Nat.sub_self, Nat.reduceSub, Nat.reduceAdd, Nat.reduceLeDiff, Nat.zero_add, SY.kit_ii, SY.kit_ib, SY.kit_it, SY.kit_bi, SY.kit_bb, SY.kit_tt, SY.kit_ti, SY.kit_tb, SY.kit_nt, SY.kit_ll, SY.kit_lt, Bool.not_true, Bool.not_false, if_true, if_false, reduceIte, Bool.false_eq_true, true_and, and_true, and_self])
  refine ⟨by omega, h _ p (a - s) (b - s) (c - s) (d - s) ?_ hp updT_same ?_ (fun z hz hz2 => ?_) ⟨Bd.rng (m := 10 ^ 21) (by omega) (by omega) (Bd.lit (by decide)), Bd.rng (m := 10 ^ 21) (by omega) (by omega) (Bd.lit (by decide)), Bd.rng (m := 10 ^ 21) (by omega) (by omega) (Bd.lit (by decide)), Bd.rng (m := 10 ^ 21) (by omega) (by omega) (Bd.lit (by decide))⟩ _⟩
  · rw [updT_ne rR, updT_ne pr]; exact rq
  · rw [updT_ne pR.symm, updT_same]; rfl
  · rw [updT_ne hz, updT_ne hz2]
/-- the three rows as they stand -/
structure Rws (T' : Sto) (r R a b c : Addr) (h0 h1 h2 h3 i0 i1 i2 i3 j0 j1 j2 j3 : Int) : Prop where
  row : T' r = some .row
  top : T' R = some (.lst [.ptr a, .ptr b, .ptr c])
  ha : T' a = some (intM [h0, h1, h2, h3])
  hb : T' b = some (intM [i0, i1, i2, i3])
  hc : T' c = some (intM [j0, j1, j2, j3])
  ab : a ≠ b
  ac : a ≠ c
  bc : b ≠ c
theorem Rws.upd {T' : Sto} {r R a b c : Addr} {h0 h1 h2 h3 i0 i1 i2 i3 j0 j1 j2 j3 : Int} (q : Rws T' r R a b c h0 h1 h2 h3 i0 i1 i2 i3 j0 j1 j2 j3) : r ≠ a ∧ r ≠ b ∧ r ≠ c ∧ R ≠ a ∧ R ≠ b ∧ R ≠ c := by
  have k : ∀ {x y : Addr} {m m' : MO}, T' x = some m → T' y = some m' → m ≠ m' → x ≠ y := fun h1 h2 hm z => by subst z; rw [h1] at h2; cases h2; exact hm rfl
  exact ⟨k q.row q.ha (by unfold intM; simp), k q.row q.hb (by unfold intM; simp), k q.row q.hc (by unfold intM; simp), k q.top q.ha (by unfold intM; simp), k q.top q.hb (by unfold intM; simp), k q.top q.hc (by unfold intM; simp)⟩
theorem tab_fix {E : DX} {r R a b c : Addr} {h0 h1 h2 h3 i0 i1 i2 i3 j0 j1 j2 j3 : Int} {x1 x2 x4 x6 x7 : Option D} {B : Nat} (q : Rws T r R a b c h0 h1 h2 h3 i0 i1 i2 i3 j0 j1 j2 j3) (bh : B3 B h0 h1 h2) (bi : B3 B i0 i1 i2) (bj : B3 B j0 j1 j2) (hB : B ≤ 20000)
    (hn : tr3 h0 h1 h2 i0 i1 i2 j0 j1 j2 ≠ 0 → ∀ x5, E.nx [some (.ptr r), x1, x2, some (.ptr R), x4, x5, x6, x7] T)
    (hy : tr3 h0 h1 h2 i0 i1 i2 j0 j1 j2 = 0 → ∀ T' x5, Rws T' r R a b c (h0 + 1) h1 h2 h3 i0 (i1 + 1) i2 i3 j0 j1 (j2 + 1) j3 → (∀ z, z ≠ a → z ≠ b → z ≠ c → T' z = T z) → E.nx [some (.ptr r), x1, x2, some (.ptr R), x4, x5, x6, x7] T') :
    ∀ x5, d_l_table_b3 E [some (.ptr r), x1, x2, some (.ptr R), x4, x5, x6, x7] T := by
  intro x5
  obtain ⟨ra, rb, rc, Ra, Rb, Rc⟩ := q.upd
  unfold d_l_table_b3
  walk_at "dz"
  have sT : seqOf T (.ptr R) = some [.ptr a, .ptr b, .ptr c] := by rw [seqOf_ptr, q.top]; rfl
  have v : ∀ {x : Addr} {y0 y1 y2 y3 : Int}, T x = some (intM [y0, y1, y2, y3]) → V3 T (.ptr x) y0 y1 y2 := fun {x y0 y1 y2 y3} h => ⟨[.int y3], by rw [seqOf_ptr, h]; rfl⟩
  refine sp_l_mass_mk sT (v q.ha) (v q.hb) (v q.hc) bh bi bj hB ?_
  walk_at "dz"
  by_cases h0' : tr3 h0 h1 h2 i0 i1 i2 j0 j1 j2 = 0
  · rw [decide_eq_true h0']
    walk_at "dz"
    refine ⟨⟨by decide, by decide⟩, ?_⟩
    unfold d_l_table_b2
    have m1 : mlst (T R) = some [.ptr a, .ptr b, .ptr c] := by rw [q.top]; rfl
    have m2 : mlst (T a) = some [.int h0, .int h1, .int h2, .int h3] := by rw [q.ha]; rfl
    (try simp -dsimp (maxSteps := 3000000) only [m1, m2, ↓SY.someOf_z, ↓SY.int1_z, ↓SY.int2_z, ↓SY.bl1_z, ↓SY.optK_z, ↓SY.seqK_z, ↓SY.ixD_z, ↓SY.addD_z, ↓SY.lenD_z, ↓SY.slD_z, ↓SY.setD_z, ↓SY.appD_z, ↓SY.popD_z, ↓SY.dgsK_z, ↓SY.one_z, ↓SY.two_z, ↓SY.intK_z, ↓SY.rng1_z, ↓SY.rng2_z, ↓SY.frzK_z, ↓SY.forL_z, ↓SY.lcL_z, ↓SY.dSeq_z, SY.someZ_s, SY.int1Z_s, SY.int2Z_s, SY.bl1Z_s, SY.optZ_s, SY.addZ_i, SY.addZ_s, SY.addZ_t, SY.addZ_l, SY.addZ_p, SY.lenZ_t, SY.lenZ_l, SY.lenZ_s, SY.lenZ_p, SY.slZ_t, SY.slZ_l, SY.slZ_s, SY.slZ_p, SY.setZ_s, SY.appZ_s, SY.popZ_s, SY.dgsZ_s, SY.nilK_s, SY.oneZ_s, SY.twoZ_s, SY.intZ_i, SY.intZ_b, SY.rng1Z_s, SY.rng2Z_s, SY.frzZ_p, SY.frzZ_l, SY.frzZ_t, SY.forZ_nil, SY.forZ_cons, SY.lcZ_nil, SY.lcZ_cons, SY.goZ_s, ↓SY.sq_nx, ↓SY.sq_rt, ↓SY.sq_bk, ↓SY.sq_ct, ↓SY.sq_ex, ↓SY.lp_nx, ↓SY.lp_ct, ↓SY.lp_bk, ↓SY.lp_rt, ↓SY.lp_ex, SY.dAsg, SY.dRet, SY.dRetN, SY.dNext, SY.dIf, SY.dTst, SY.dC, SY.dVar, SY.dI, SY.dI0, SY.dMul, SY.dDiv, SY.dMod, SY.dPow, SY.dSub, SY.dLt, SY.dLe, SY.dGt, SY.dGe, SY.dNeg, SY.dAdd, SY.dIx, SY.dNil, SY.dCons, SY.dTup, SY.dLst, SY.dLstM, ↓SY.dCall_z, SY.dAbs, SY.dLen, SY.dTuple, SY.dList, SY.dListM, SY.dEq, SY.dNe, SY.dIsN, SY.dNotN, SY.dIsB, SY.dNotB, SY.dFrz, SY.dRaise, SY.dTryAs, SY.dTryOnly, SY.dIsE, SY.dtAnd, SY.dtOr, SY.dtNot, SY.dAnd, SY.dOr, SY.dNot, SY.dIsi, SY.dAll, SY.dSum, SY.dInt, SY.dSl, SY.dNoO, SY.dSomeO, SY.dDrop, SY.dAug, SY.dPar, SY.dAsgG, SY.dgName, SY.dgTup, SY.dgsNil, SY.dgsName, SY.dgSub, SY.dApp, SY.dPopAt, SY.dFor, SY.dForR1, SY.dForR2, SY.dForE, SY.dLc, SY.dLcR, SY.dLcRM, SY.rngL, SY.enumL, SY.frozen_tup, SY.frozen_lst, SY.frozen_scr, SY.frozL_lst, SY.frozL_scr, SY.seqOf_tup, SY.seqOf_lst, SY.seqOf_scr, SY.seqOf_ptr, SY.seqOf_int, SY.seqOf_str, SY.lstOf_lst, SY.lstOf_scr, SY.lstOf_ptr, SY.mlst_lst, SY.plst_lst, SY.plst_ptr, SY.isPtrL, SY.tyN, SY.isNon, SY.blsOf, SY.intsOf, SY.dend0, SY.dend, SY.startD, SY.eqOk_int, SY.eqv_int, SY.atI0, SY.atI1, SY.atI2, SY.atI3, SY.atI4, SY.atI5, SY.ixN0, decide_true, decide_false, Int.reduceEq, Int.reduceLT, Int.reduceLE, SY.ixN_21, SY.ixN_31, SY.ixN_32, SY.ixN_41, SY.ixN_42, SY.ixN_43, SY.seqIx0, SY.updT_same, SY.updT_updT, List.map_cons, List.map_nil, List.length_cons, List.length_nil, List.replicate, List.cons_append, List.nil_append, List.getD_cons_zero, List.getD_cons_succ, List.set_cons_zero, List.set_cons_succ, List.getElem?_cons_zero, List.eraseIdx_cons_zero, Option.isSome_some, Option.map_some, Int.reduceToNat, Int.reducePow, Int.reduceAdd, Int.reduceMul, Nat.zero_lt_succ, Nat.reduceLT, Nat.sub_self, Nat.reduceSub, Nat.reduceAdd, Nat.reduceLeDiff, Nat.zero_add, SY.kit_ii, SY.kit_ib, SY.kit_it, SY.kit_bi, SY.kit_bb, SY.kit_tt, SY.kit_ti, SY.kit_tb, SY.kit_nt, SY.kit_ll, SY.kit_lt, Bool.not_true, Bool.not_false, if_true, if_false, reduceIte, Bool.false_eq_true, true_and, and_true, and_self])
    have m3 : ∀ m, mlst (updT T a m R) = some [.ptr a, .ptr b, .ptr c] := fun m => by rw [updT_ne Ra]; exact m1
    have m4 : ∀ m, mlst (updT T a m b) = some [.int i0, .int i1, .int i2, .int i3] := fun m => by rw [updT_ne (fun z => q.ab z.symm), q.hb]; rfl
    (try simp -dsimp (maxSteps := 3000000) only [m3, m4, ↓SY.someOf_z, ↓SY.int1_z, ↓SY.int2_z, ↓SY.bl1_z, ↓SY.optK_z, ↓SY.seqK_z, ↓SY.ixD_z, ↓SY.addD_z, ↓SY.lenD_z, ↓SY.slD_z, ↓SY.setD_z, ↓SY.appD_z, ↓SY.popD_z, ↓SY.dgsK_z, ↓SY.one_z, ↓SY.two_z, ↓SY.intK_z, ↓SY.rng1_z, ↓SY.rng2_z, ↓SY.frzK_z, ↓SY.forL_z, ↓SY.lcL_z, ↓SY.dSeq_z, SY.someZ_s, SY.int1Z_s, SY.int2Z_s, SY.bl1Z_s, SY.optZ_s, SY.addZ_i, SY.addZ_s, SY.addZ_t, SY.addZ_l, SY.addZ_p, SY.lenZ_t, SY.lenZ_l, SY.lenZ_s, SY.lenZ_p, SY.slZ_t, SY.slZ_l, SY.slZ_s, SY.slZ_p, SY.setZ_s, SY.appZ_s, SY.popZ_s, SY.dgsZ_s, SY.nilK_s, SY.oneZ_s, SY.twoZ_s, SY.intZ_i, SY.intZ_b, SY.rng1Z_s, SY.rng2Z_s, SY.frzZ_p, SY.frzZ_l, SY.frzZ_t, SY.forZ_nil, SY.forZ_cons, SY.lcZ_nil, SY.lcZ_cons, SY.goZ_s, ↓SY.sq_nx, ↓SY.sq_rt, ↓SY.sq_bk, ↓SY.sq_ct, ↓SY.sq_ex, ↓SY.lp_nx, ↓SY.lp_ct, ↓SY.lp_bk, ↓SY.lp_rt, ↓SY.lp_ex, SY.dAsg, SY.dRet, SY.dRetN, SY.dNext, SY.dIf, SY.dTst, SY.dC, SY.dVar, SY.dI, SY.dI0, SY.dMul, SY.dDiv, SY.dMod, SY.dPow, SY.dSub, SY.dLt, SY.dLe, SY.dGt, SY.dGe, SY.dNeg, SY.dAdd, SY.dIx, SY.dNil, SY.dCons, SY.dTup, SY.dLst, SY.dLstM, ↓SY.dCall_z, SY.dAbs, SY.dLen, SY.dTuple, SY.dList, SY.dListM, SY.dEq, SY.dNe, SY.dIsN, SY.dNotN, SY.dIsB, SY.dNotB, SY.dFrz, SY.dRaise, SY.dTryAs, SY.dTryOnly, SY.dIsE, SY.dtAnd, SY.dtOr, SY.dtNot, SY.dAnd, SY.dOr, SY.dNot, SY.dIsi, SY.dAll, SY.dSum, SY.dInt, SY.dSl, SY.dNoO, SY.dSomeO, SY.dDrop, SY.dAug, SY.dPar, SY.dAsgG, SY.dgName, SY.dgTup, SY.dgsNil, SY.dgsName, SY.dgSub, SY.dApp, SY.dPopAt, SY.dFor, SY.dForR1, SY.dForR2, SY.dForE, SY.dLc, SY.dLcR, SY.dLcRM, SY.rngL, SY.enumL, SY.frozen_tup, SY.frozen_lst, SY.frozen_scr, SY.frozL_lst, SY.frozL_scr, SY.seqOf_tup, SY.seqOf_lst, SY.seqOf_scr, SY.seqOf_ptr, SY.seqOf_int, SY.seqOf_str, SY.lstOf_lst, SY.lstOf_scr, SY.lstOf_ptr, SY.mlst_lst, SY.plst_lst, SY.plst_ptr, SY.isPtrL, SY.tyN, SY.isNon, SY.blsOf, SY.intsOf, SY.dend0, SY.dend, SY.startD, SY.eqOk_int, SY.eqv_int, SY.atI0, SY.atI1, SY.atI2, SY.atI3, SY.atI4, SY.atI5, SY.ixN0, decide_true, decide_false, Int.reduceEq, Int.reduceLT, Int.reduceLE, SY.ixN_21, SY.ixN_31, SY.ixN_32, SY.ixN_41, SY.ixN_42, SY.ixN_43, SY.seqIx0, SY.updT_same, SY.updT_updT, List.map_cons, List.map_nil, List.length_cons, List.length_nil, List.replicate, List.cons_append, List.nil_append, List.getD_cons_zero, List.getD_cons_succ, List.set_cons_zero, List.set_cons_succ, List.getElem?_cons_zero, List.eraseIdx_cons_zero, Option.isSome_some, Option.map_some, Int.reduceToNat, Int.reducePow, Int.reduceAdd, Int.reduceMul, Nat.zero_lt_succ, Nat.reduceLT, Nat.sub_self, Nat.reduceSub, Nat.reduceAdd, Nat.reduceLeDiff, Nat.zero_add, SY.kit_ii, SY.kit_ib, SY.kit_it, SY.kit_bi, SY.kit_bb, SY.kit_tt, SY.kit_ti, SY.kit_tb, SY.kit_nt, SY.kit_ll, SY.kit_lt, Bool.not_true, Bool.not_false, if_true, if_false, reduceIte, Bool.false_eq_true, true_and, and_true, and_self])
    have m5 : ∀ m m', mlst (updT (updT T a m) b m' R) = some [.ptr a, .ptr b, .ptr c] := fun m m' => by rw [updT_ne Rb]; exact m3 m
    have m6 : ∀ m m', mlst (updT (updT T a m) b m' c) = some [.int j0, .int j1, .int j2, .int j3] := fun m m' => by rw [updT_ne (fun z => q.bc z.symm), updT_ne (fun z => q.ac z.symm), q.hc]; rfl
    (try simp -dsimp (maxSteps := 3000000) only [m5, m6, ↓SY.someOf_z, ↓SY.int1_z, ↓SY.int2_z, ↓SY.bl1_z, ↓SY.optK_z, ↓SY.seqK_z, ↓SY.ixD_z, ↓SY.addD_z, ↓SY.lenD_z, ↓SY.slD_z, ↓SY.setD_z, ↓SY.appD_z, ↓SY.popD_z, ↓SY.dgsK_z, ↓SY.one_z, ↓SY.two_z, ↓SY.intK_z, ↓SY.rng1_z, ↓SY.rng2_z, ↓SY.frzK_z, ↓SY.forL_z, ↓SY.lcL_z, ↓SY.dSeq_z, SY.someZ_s, SY.int1Z_s, SY.int2Z_s, SY.bl1Z_s, SY.optZ_s, SY.addZ_i, SY.addZ_s, SY.addZ_t, SY.addZ_l, SY.addZ_p, SY.lenZ_t, SY.lenZ_l, SY.lenZ_s, SY.lenZ_p, SY.slZ_t, SY.slZ_l, SY.slZ_s, SY.slZ_p, SY.setZ_s, SY.appZ_s, SY.popZ_s, SY.dgsZ_s, SY.nilK_s, SY.oneZ_s, SY.twoZ_s, SY.intZ_i, SY.intZ_b, SY.rng1Z_s, SY.rng2Z_s, SY.frzZ_p, SY.frzZ_l, SY.frzZ_t, SY.forZ_nil, SY.forZ_cons, SY.lcZ_nil, SY.lcZ_cons, SY.goZ_s, ↓SY.sq_nx, ↓SY.sq_rt, ↓SY.sq_bk, ↓SY.sq_ct, ↓SY.sq_ex, ↓SY.lp_nx, ↓SY.lp_ct, ↓SY.lp_bk, ↓SY.lp_rt, ↓SY.lp_ex, SY.dAsg, SY.dRet, SY.dRetN, SY.dNext, SY.dIf, SY.dTst, SY.dC, SY.dVar, SY.dI, SY.dI0, SY.dMul, SY.dDiv, SY.dMod, SY.dPow, SY.dSub, SY.dLt, SY.dLe, SY.dGt, SY.dGe, SY.dNeg, SY.dAdd, SY.dIx, SY.dNil, SY.dCons, SY.dTup, SY.dLst, SY.dLstM, ↓SY.dCall_z, SY.dAbs, SY.dLen, SY.dTuple, SY.dList, SY.dListM, SY.dEq, SY.dNe, SY.dIsN, SY.dNotN, SY.dIsB, SY.dNotB, SY.dFrz, SY.dRaise, SY.dTryAs, SY.dTryOnly, SY.dIsE, SY.dtAnd, SY.dtOr, SY.dtNot, SY.dAnd, SY.dOr, SY.dNot, SY.dIsi, SY.dAll, SY.dSum, SY.dInt, SY.dSl, SY.dNoO, SY.dSomeO, SY.dDrop, SY.dAug, SY.dPar, SY.dAsgG, SY.dgName, SY.dgTup, SY.dgsNil, SY.dgsName, SY.dgSub, SY.dApp, SY.dPopAt, SY.dFor, SY.dForR1, SY.dForR2, SY.dForE, SY.dLc, SY.dLcR, SY.dLcRM, SY.rngL, SY.enumL, SY.frozen_tup, SY.frozen_lst, SY.frozen_scr, SY.frozL_lst, SY.frozL_scr, SY.seqOf_tup, SY.seqOf_lst, SY.seqOf_scr, SY.seqOf_ptr, SY.seqOf_int, SY.seqOf_str, SY.lstOf_lst, SY.lstOf_scr, SY.lstOf_ptr, SY.mlst_lst, SY.plst_lst, SY.plst_ptr, SY.isPtrL, SY.tyN, SY.isNon, SY.blsOf, SY.intsOf, SY.dend0, SY.dend, SY.startD, SY.eqOk_int, SY.eqv_int, SY.atI0, SY.atI1, SY.atI2, SY.atI3, SY.atI4, SY.atI5, SY.ixN0, decide_true, decide_false, Int.reduceEq, Int.reduceLT, Int.reduceLE, SY.ixN_21, SY.ixN_31, SY.ixN_32, SY.ixN_41, SY.ixN_42, SY.ixN_43, SY.seqIx0, SY.updT_same, SY.updT_updT, List.map_cons, List.map_nil, List.length_cons, List.length_nil, List.replicate, List.cons_append, List.nil_append, List.getD_cons_zero, List.getD_cons_succ, List.set_cons_zero, List.set_cons_succ, List.getElem?_cons_zero, List.eraseIdx_cons_zero, Option.isSome_some, Option.map_some, Int.reduceToNat, Int.reducePow, Int.reduceAdd, Int.reduceMul, Nat.zero_lt_succ, Nat.reduceLT, Nat.sub_self, Nat.reduceSub, Nat.reduceAdd, Nat.reduceLeDiff, Nat.zero_add, SY.kit_ii, SY.kit_ib, SY.kit_it, SY.kit_bi, SY.kit_bb, SY.kit_tt, SY.kit_ti, SY.kit_tb, SY.kit_nt, SY.kit_ll, SY.kit_lt, Bool.not_true, Bool.not_false, if_true, if_false, reduceIte, Bool.false_eq_true, true_and, and_true, and_self])
    refine hy h0' _ _ ⟨?_, ?_, ?_, ?_, ?_, q.ab, q.ac, q.bc⟩ fun z z1 z2 z3 => ?_
    · rw [updT_ne rc, updT_ne rb, updT_ne ra]; exact q.row
    · rw [updT_ne Rc, updT_ne Rb, updT_ne Ra]; exact q.top
    · rw [updT_ne q.ac, updT_ne q.ab, updT_same]; rfl
    · rw [updT_ne q.bc, updT_same]; rfl
    · rw [updT_same]; rfl
    · rw [updT_ne z3, updT_ne z2, updT_ne z1]
  · rw [decide_eq_false h0']
    walk_at "dz"
    exact hn h0' _
end
end SY

namespace SY
open PySem PySem.Spec PyProof.Rows L2
section
variable {T : Sto} {P : D → Sto → Prop} {X : Xc → Sto → Prop}
theorem tab_stay {E : DX} {r R a b c : Addr} {h0 h1 h2 h3 i0 i1 i2 i3 j0 j1 j2 j3 : Int} {x1 x2 x4 x6 x7 : Option D} {B : Nat} (q : Rws T r R a b c h0 h1 h2 h3 i0 i1 i2 i3 j0 j1 j2 j3) (bh : B3 B h0 h1 h2) (bi : B3 B i0 i1 i2) (bj : B3 B j0 j1 j2) (hB : B ≤ 20000)
    (hd : tr3 h0 h1 h2 i0 i1 i2 j0 j1 j2 ≠ 0) (hn : ∀ x5, E.nx [some (.ptr r), x1, x2, some (.ptr R), x4, x5, x6, x7] T) :
    ∀ x5, d_l_table_b3 E [some (.ptr r), x1, x2, some (.ptr R), x4, x5, x6, x7] T := tab_fix q bh bi bj hB (fun _ => hn) fun h => absurd h hd
noncomputable def sp_l_table : DSp := lock <| sp3 fun a b c T P _ => ∃ r, a = .ptr r ∧ T r = some .row ∧ int2 b c fun s u => (0 < s ∧ s ≤ 10 ^ 20 ∧ 0 < u ∧ u ≤ 10 ^ 20) ∧ ∀ h0 h1 h2 h3 i0 i1 i2 i3 j0 j1 j2 j3 w : Int, IsTab 90 h0 h1 h2 h3 i0 i1 i2 i3 j0 j1 j2 j3 w → P (tabD h0 h1 h2 h3 i0 i1 i2 i3 j0 j1 j2 j3 w) T
theorem cut13a (a b c d e f g h i j k l m : D) : cutD [a, b, c, d, e, f, g, h, i, j, k, l, m] none (some 4) = [a, b, c, d] := rfl
theorem cut13b (a b c d e f g h i j k l m : D) : cutD [a, b, c, d, e, f, g, h, i, j, k, l, m] (some 4) (some 8) = [e, f, g, h] := rfl
theorem cut13c (a b c d e f g h i j k l m : D) : cutD [a, b, c, d, e, f, g, h, i, j, k, l, m] (some 8) (some 12) = [i, j, k, l] := rfl
theorem at13 {α : Type} (a b c d e f g h i j k l m : α) : atI [a, b, c, d, e, f, g, h, i, j, k, l, m] 12 = some m := rfl
theorem all13 {n : Nat} {h0 h1 h2 h3 i0 i1 i2 i3 j0 j1 j2 j3 b : Int} (h : B4 n h0 h1 h2 h3) (i : B4 n i0 i1 i2 i3) (j : B4 n j0 j1 j2 j3) (hb : Bd n b) : allB n (tabL h0 h1 h2 h3 i0 i1 i2 i3 j0 j1 j2 j3 b) := fun v hv => by
  unfold tabL at hv
  simp only [List.mem_cons, List.not_mem_nil, or_false] at hv
  rcases hv with rfl | rfl | rfl | rfl | rfl | rfl | rfl | rfl | rfl | rfl | rfl | rfl | rfl
  · exact h.1
  · exact h.2.1
  · exact h.2.2.1
  · exact h.2.2.2
  · exact i.1
  · exact i.2.1
  · exact i.2.2.1
  · exact i.2.2.2
  · exact j.1
  · exact j.2.1
  · exact j.2.2.1
  · exact j.2.2.2
  · exact hb
theorem pure_l_table {K : PySem.W.Frag} {N : List Str} (hN : N.length = 8) : ∀ us T P X, sp_l_table us T P X → d_l_table (dend K P X) (startD N us) T := by
  intro us T P X h
  obtain ⟨a, b, c, rfl, h1⟩ := sp3.of (lock_of h)
  obtain ⟨r, rfl, rq, h1⟩ := h1
  obtain ⟨s, u, rfl, rfl, ⟨s0, s1, u0, u1⟩, h2⟩ := int2.of h1
  have e0 : startD N [D.ptr r, .int s, .int u] = [some (.ptr r), some (.int s), some (.int u), none, none, none, none, none] := by unfold startD; rw [hN]; rfl
  rw [e0]; clear e0; unfold d_l_table
  walk_at "dz"
  intro R hR
  refine ⟨⟨by decide, by decide⟩, ?_⟩
  have rq0 : updT T R (.lst []) r = some .row := updT_off hR rq
  have x0 : ∀ z m, T z = some m → updT T R (.lst []) z = some m := fun z m e => updT_off hR e
  refine tab_row (T0 := T) rq0 updT_same (by decide) s0 s1 (fun T1 a h0 h1 h2' h3 rq1 na eR1 ea1 k1 bh x5 => ?_) _
  walk_at "dz"
  have aR : a ≠ R := fun z => by subst z; rw [updT_same] at na; cases na
  have x1 : ∀ z m, T z = some m → T1 z = some m := fun z m e => by
    rw [k1 z (fun q => by subst q; rw [hR] at e; cases e) (fun q => by subst q; rw [x0 _ _ e] at na; cases na)]
    exact x0 z m e
  refine tab_row (T0 := T) rq1 eR1 (by simp) s0 s1 (fun T2 b i0 i1 i2 i3 rq2 nb eR2 eb2 k2 bi x5 => ?_) _
  walk_at "dz"
  have bR : b ≠ R := fun z => by subst z; rw [eR1] at nb; cases nb
  have ba : b ≠ a := fun z => by subst z; rw [ea1] at nb; cases nb
  have ea2 : T2 a = some (intM [h0, h1, h2', h3]) := by rw [k2 a aR (fun q => ba q.symm)]; exact ea1
  have x2 : ∀ z m, T z = some m → T2 z = some m := fun z m e => by
    rw [k2 z (fun q => by subst q; rw [hR] at e; cases e) (fun q => by subst q; rw [x1 _ _ e] at nb; cases nb)]
    exact x1 z m e
  refine tab_row (T0 := T) rq2 eR2 (by simp) s0 s1 (fun T3 c j0 j1 j2 j3 rq3 nc eR3 ec3 k3 bj x5 => ?_) _
  walk_at "dz"
  have cR : c ≠ R := fun z => by subst z; rw [eR2] at nc; cases nc
  have ca : c ≠ a := fun z => by subst z; rw [ea2] at nc; cases nc
  have cb : c ≠ b := fun z => by subst z; rw [eb2] at nc; cases nc
  have ea3 : T3 a = some (intM [h0, h1, h2', h3]) := by rw [k3 a aR (fun q => ca q.symm)]; exact ea2
  have eb3 : T3 b = some (intM [i0, i1, i2, i3]) := by rw [k3 b bR (fun q => cb q.symm)]; exact eb2
  have x3 : ∀ z m, T z = some m → T3 z = some m := fun z m e => by
    rw [k3 z (fun q => by subst q; rw [hR] at e; cases e) (fun q => by subst q; rw [x2 _ _ e] at nc; cases nc)]
    exact x2 z m e
  have q3 : Rws T3 r R a b c h0 h1 h2' h3 i0 i1 i2 i3 j0 j1 j2 j3 := ⟨rq3, eR3, ea3, eb3, ec3, fun z => ba z.symm, fun z => ca z.symm, fun z => cb z.symm⟩
  have ne : ∀ z m, T z = some m → z ≠ a ∧ z ≠ b ∧ z ≠ c := fun z m e => ⟨(fun q => by subst q; rw [x0 _ _ e] at na; cases na), (fun q => by subst q; rw [x1 _ _ e] at nb; cases nb), (fun q => by subst q; rw [x2 _ _ e] at nc; cases nc)⟩
  refine ⟨⟨by decide, by decide⟩, ?_⟩
  -- what comes behind the rows
  have fin : ∀ (T' : Sto) (h0 i1 j2 : Int) (x4 x5 : Option D), Rws T' r R a b c h0 h1 h2' h3 i0 i1 i2 i3 j0 j1 j2 j3 → (∀ z m, T z = some m → T' z = some m) → B4 80 h0 h1 h2' h3 → B4 80 i0 i1 i2 i3 → B4 80 j0 j1 j2 j3 → tr3 h0 h1 h2' i0 i1 i2 j0 j1 j2 ≠ 0 →
      dSeq (dAsg (dAdd (dC (.int 1)) (dCall sp_l_take (dCons (dVar 0) (dCons (dVar 2) dNil)))) 6) (dSeq (dAsg (dCall sp_l_lowest (dCons (dAdd (dAdd (dAdd (dIx (dVar 3) (dC (.int 0))) (dIx (dVar 3) (dC (.int 1)))) (dIx (dVar 3) (dC (.int 2)))) (dLst (dCons (dVar 6) dNil))) dNil)) 7) (dRet (dTup (dCons (dSl (dVar 7) dNoO (dSomeO (dC (.int 4)))) (dCons (dSl (dVar 7) (dSomeO (dC (.int 4))) (dSomeO (dC (.int 8)))) (dCons (dSl (dVar 7) (dSomeO (dC (.int 8))) (dSomeO (dC (.int 12)))) (dCons (dIx (dVar 7) (dC (.int 12))) dNil))))))) (dend K P X)
      [some (.ptr r), some (.int s), some (.int u), some (.ptr R), x4, x5, none, none] T' := by
    intro T' h0 i1 j2 x4 x5 q xt bh bi bj hd
    walk_at "dz"
    have bu : Bd 8000 u := Bd.rng (m := 10 ^ 20) (by omega) (by omega) (Bd.lit (by decide))
    refine sp_take_mk q.row u0 bu fun k k0 k1 => ?_
    have m1 : mlst (T' R) = some [.ptr a, .ptr b, .ptr c] := by rw [q.top]; rfl
    have m2 : mlst (T' a) = some [.int h0, .int h1, .int h2', .int h3] := by rw [q.ha]; rfl
    have m3 : mlst (T' b) = some [.int i0, .int i1, .int i2, .int i3] := by rw [q.hb]; rfl
    have m4 : mlst (T' c) = some [.int j0, .int j1, .int j2, .int j3] := by rw [q.hc]; rfl
    (try simp -dsimp (maxSteps := 3000000) only [m1, m2, m3, m4, ↓SY.someOf_z, ↓SY.int1_z, ↓SY.int2_z, ↓SY.bl1_z, ↓SY.optK_z, ↓SY.seqK_z, ↓SY.ixD_z, ↓SY.addD_z, ↓SY.lenD_z, ↓SY.slD_z, ↓SY.setD_z, ↓SY.appD_z, ↓SY.popD_z, ↓SY.dgsK_z, ↓SY.one_z, ↓SY.two_z, ↓SY.intK_z, ↓SY.rng1_z, ↓SY.rng2_z, ↓SY.frzK_z, ↓SY.forL_z, ↓SY.lcL_z, ↓SY.dSeq_z, SY.someZ_s, SY.int1Z_s, SY.int2Z_s, SY.bl1Z_s, SY.optZ_s, SY.addZ_i, SY.addZ_s, SY.addZ_t, SY.addZ_l, SY.addZ_p, SY.lenZ_t, SY.lenZ_l, SY.lenZ_s, SY.lenZ_p, SY.slZ_t, SY.slZ_l, SY.slZ_s, SY.slZ_p, SY.setZ_s, SY.appZ_s, SY.popZ_s, SY.dgsZ_s, SY.nilK_s, SY.oneZ_s, SY.twoZ_s, SY.intZ_i, SY.intZ_b, SY.rng1Z_s, SY.rng2Z_s, SY.frzZ_p, SY.frzZ_l, SY.frzZ_t, SY.forZ_nil, SY.forZ_cons, SY.lcZ_nil, SY.lcZ_cons, SY.goZ_s, ↓SY.sq_nx, ↓SY.sq_rt, ↓SY.sq_bk, ↓SY.sq_ct, ↓SY.sq_ex, ↓SY.lp_nx, ↓SY.lp_ct, ↓SY.lp_bk, ↓SY.lp_rt, ↓SY.lp_ex, SY.dAsg, SY.dRet, SY.dRetN, SY.dNext, SY.dIf, SY.dTst, SY.dC, SY.dVar, SY.dI, SY.dI0, SY.dMul, SY.dDiv, SY.dMod, SY.dPow, SY.dSub, SY.dLt, SY.dLe, SY.dGt, SY.dGe, SY.dNeg, SY.dAdd, SY.dIx, SY.dNil, SY.dCons, SY.dTup, SY.dLst, SY.dLstM, ↓SY.dCall_z, SY.dAbs, SY.dLen, SY.dTuple, SY.dList, SY.dListM, SY.dEq, SY.dNe, SY.dIsN, SY.dNotN, SY.dIsB, SY.dNotB, SY.dFrz, SY.dRaise, SY.dTryAs, SY.dTryOnly, SY.dIsE, SY.dtAnd, SY.dtOr, SY.dtNot, SY.dAnd, SY.dOr, SY.dNot, SY.dIsi, SY.dAll, SY.dSum, SY.dInt, SY.dSl, SY.dNoO, SY.dSomeO, SY.dDrop, SY.dAug, SY.dPar, SY.dAsgG, SY.dgName, SY.dgTup, SY.dgsNil, SY.dgsName, SY.dgSub, SY.dApp, SY.dPopAt, SY.dFor, SY.dForR1, SY.dForR2, SY.dForE, SY.dLc, SY.dLcR, SY.dLcRM, SY.rngL, SY.enumL, SY.frozen_tup, SY.frozen_lst, SY.frozen_scr, SY.frozL_lst, SY.frozL_scr, SY.seqOf_tup, SY.seqOf_lst, SY.seqOf_scr, SY.seqOf_ptr, SY.seqOf_int, SY.seqOf_str, SY.lstOf_lst, SY.lstOf_scr, SY.lstOf_ptr, SY.mlst_lst, SY.plst_lst, SY.plst_ptr, SY.isPtrL, SY.tyN, SY.isNon, SY.blsOf, SY.intsOf, SY.dend0, SY.dend, SY.startD, SY.eqOk_int, SY.eqv_int, SY.atI0, SY.atI1, SY.atI2, SY.atI3, SY.atI4, SY.atI5, SY.ixN0, decide_true, decide_false, Int.reduceEq, Int.reduceLT, Int.reduceLE, SY.ixN_21, SY.ixN_31, SY.ixN_32, SY.ixN_41, SY.ixN_42, SY.ixN_43, SY.seqIx0, SY.updT_same, SY.updT_updT, List.map_cons, List.map_nil, List.length_cons, List.length_nil, List.replicate, List.cons_append, List.nil_append, List.getD_cons_zero, List.getD_cons_succ, List.set_cons_zero, List.set_cons_succ, List.getElem?_cons_zero, List.eraseIdx_cons_zero, Option.isSome_some, Option.map_some, Int.reduceToNat, Int.reducePow, Int.reduceAdd, Int.reduceMul, Nat.zero_lt_succ, Nat.reduceLT, Nat.sub_self, Nat.reduceSub, Nat.reduceAdd, Nat.reduceLeDiff, Nat.zero_add, SY.kit_ii, SY.kit_ib, SY.kit_it, SY.kit_bi, SY.kit_bb, SY.kit_tt, SY.kit_ti, SY.kit_tb, SY.kit_nt, SY.kit_ll, SY.kit_lt, Bool.not_true, Bool.not_false, if_true, if_false, reduceIte, Bool.false_eq_true, true_and, and_true, and_self])
    have ab := all13 (n := 90) (bh.mono (by decide)) (bi.mono (by decide)) (bj.mono (by decide)) (show Bd 90 (1 + k) from Bd.rng (m := 10 ^ 21) (by omega) (by omega) (Bd.lit (by decide)))
    refine sp_l_lowest_mk (ns := tabL h0 h1 h2' h3 i0 i1 i2 i3 j0 j1 j2 j3 (1 + k)) rfl (fun z hz => (ab z hz).mono (by decide)) (by unfold tabL; simp) ?_
    obtain ⟨x0, x1, x2, x3, y0, y1, y2, y3, z0, z1, z2, z3, w, g, e, ht, _, _⟩ := low13 (by omega) hd ab
    rw [e]
    unfold tabL
    walk_at "dz"
    simp only [cut13a, cut13b, cut13c, at13]
    walk_at "dz"
    refine ⟨by decide, by decide, by decide, ?_⟩
    refine ⟨_, T, Wk.drop xt, h2 _ _ _ _ _ _ _ _ _ _ _ _ _ ht⟩
  obtain ⟨ha, hb', hc, hd⟩ := bh
  obtain ⟨ia, ib, ic, id'⟩ := bi
  obtain ⟨ja, jb, jc, jd⟩ := bj
  have bd : ∀ k : Int, 0 ≤ k → k ≤ 3 → B4 80 (h0 + k) h1 h2' h3 ∧ B4 80 i0 (i1 + k) i2 i3 ∧ B4 80 j0 j1 (j2 + k) j3 := fun k k0 k1 => by
    have bk : Bd 3 k := Bd.rng (m := 3) (by omega) (by omega) (Bd.lit (by decide))
    exact ⟨⟨by walk_at "bt", by walk_at "bt", by walk_at "bt", by walk_at "bt"⟩, ⟨by walk_at "bt", by walk_at "bt", by walk_at "bt", by walk_at "bt"⟩, ⟨by walk_at "bt", by walk_at "bt", by walk_at "bt", by walk_at "bt"⟩⟩
  have ext : ∀ {T' T'' : Sto}, (∀ z m, T z = some m → T' z = some m) → (∀ z, z ≠ a → z ≠ b → z ≠ c → T'' z = T' z) → ∀ z m, T z = some m → T'' z = some m := fun h1 h2 z m e => by
    obtain ⟨n1, n2, n3⟩ := ne z m e
    rw [h2 z n1 n2 n3]
    exact h1 z m e
  have b0 := bd 0 (by decide) (by decide)
  simp only [Int.add_zero] at b0
  have b1 := bd 1 (by decide) (by decide)
  have b2 := bd 2 (by decide) (by decide)
  have b3 := bd 3 (by decide) (by decide)
  have pl : ∀ x : Int, x + 1 + 1 = x + 2 := fun x => by omega
  have pl3 : ∀ x : Int, x + 2 + 1 = x + 3 := fun x => by omega
  refine tab_fix q3 b0.1.b3 b0.2.1.b3 b0.2.2.b3 (by decide) (fun hd x5 => ?_) (fun hz T4 x5 q4 k4 => ?_) _
  · walk_at "dz"
    refine tab_stay q3 b0.1.b3 b0.2.1.b3 b0.2.2.b3 (by decide) hd (fun x5 => ?_) _
    walk_at "dz"
    refine tab_stay q3 b0.1.b3 b0.2.1.b3 b0.2.2.b3 (by decide) hd (fun x5 => ?_) _
    exact fin _ _ _ _ _ _ q3 x3 b0.1 b0.2.1 b0.2.2 hd
  walk_at "dz"
  have x4 := ext x3 k4
  refine tab_fix q4 b1.1.b3 b1.2.1.b3 b1.2.2.b3 (by decide) (fun hd x5 => ?_) (fun hz1 T5 x5 q5 k5 => ?_) _
  · walk_at "dz"
    refine tab_stay q4 b1.1.b3 b1.2.1.b3 b1.2.2.b3 (by decide) hd (fun x5 => ?_) _
    exact fin _ _ _ _ _ _ q4 x4 b1.1 b1.2.1 b1.2.2 hd
  walk_at "dz"
  have x5' := ext x4 k5
  rw [pl, pl, pl] at q5
  refine tab_fix q5 b2.1.b3 b2.2.1.b3 b2.2.2.b3 (by decide) (fun hd x5 => ?_) (fun hz2 T6 x5 q6 k6 => ?_) _
  · exact fin _ _ _ _ _ _ q5 x5' b2.1 b2.2.1 b2.2.2 hd
  have x6 := ext x5' k6
  rw [pl3, pl3, pl3] at q6
  have d := det3 h0 h1 h2' i0 i1 i2 j0 j1 j2
  rw [hz, hz1, hz2] at d
  exact fin _ _ _ _ _ _ q6 x6 b3.1 b3.2.1 b3.2.2 (by omega)
theorem sp_l_table_mk {r : Addr} {s u : Int} (rq : T r = some .row) (h0 : 0 < s ∧ s ≤ 10 ^ 20 ∧ 0 < u ∧ u ≤ 10 ^ 20) (h : ∀ h0 h1 h2 h3 i0 i1 i2 i3 j0 j1 j2 j3 w : Int, IsTab 90 h0 h1 h2 h3 i0 i1 i2 i3 j0 j1 j2 j3 w → P (tabD h0 h1 h2 h3 i0 i1 i2 i3 j0 j1 j2 j3 w) T) : sp_l_table [.ptr r, .int s, .int u] T P X := lock_at ⟨r, rfl, rq, h0, h⟩
/-- what a table makes of a point, as raw numbers -/
def mvL (h0 h1 h2 h3 i0 i1 i2 i3 j0 j1 j2 j3 b x y z w : Int) : List Int := [hgt h0 h1 h2 h3 x y z w, hgt i0 i1 i2 i3 x y z w, hgt j0 j1 j2 j3 x y z w, b * w]
noncomputable def sp_l_move : DSp := lock <| sp2 fun p t T P _ => ∃ h0 h1 h2 h3 i0 i1 i2 i3 j0 j1 j2 j3 b x y z w n, t = tabD h0 h1 h2 h3 i0 i1 i2 i3 j0 j1 j2 j3 b ∧ V4 T p x y z w ∧ B4 n h0 h1 h2 h3 ∧ B4 n i0 i1 i2 i3 ∧ B4 n j0 j1 j2 j3 ∧ Bd n b ∧ B4 n x y z w ∧ n ≤ 3900 ∧ P (.tup ((lowZ (mvL h0 h1 h2 h3 i0 i1 i2 i3 j0 j1 j2 j3 b x y z w)).map .int)) T
def d_l_move : DS := (dSeq (dAsg (dLstM dNil) 2) (dSeq (dForR1 (dgName 3) (dCons (dC (.int 3)) dNil) (dSeq (dAsg (dAdd (dMul (dIx (dIx (dVar 1) (dVar 3)) (dC (.int 0))) (dIx (dVar 0) (dC (.int 0)))) (dMul (dIx (dIx (dVar 1) (dVar 3)) (dC (.int 1))) (dIx (dVar 0) (dC (.int 1))))) 4) (dDrop (dApp (dVar 2) (dAdd (dAdd (dVar 4) (dMul (dIx (dIx (dVar 1) (dVar 3)) (dC (.int 2))) (dIx (dVar 0) (dC (.int 2))))) (dMul (dIx (dIx (dVar 1) (dVar 3)) (dC (.int 3))) (dIx (dVar 0) (dC (.int 3))))))))) (dRet (dCall sp_l_lowest (dCons (dAdd (dVar 2) (dLst (dCons (dMul (dIx (dVar 1) (dC (.int 3))) (dIx (dVar 0) (dC (.int 3)))) dNil))) dNil)))))
theorem pure_l_move {K : PySem.W.Frag} {N : List Str} (hN : N.length = 5) : ∀ us T P X, sp_l_move us T P X → d_l_move (dend K P X) (startD N us) T := by
  intro us T P X h
  obtain ⟨a, b, rfl, h1⟩ := sp2.of (lock_of h)
  have e0 : startD N [a, b] = [some a, some b, none, none, none] := by unfold startD; rw [hN]; rfl
  rw [e0]; clear e0; unfold d_l_move
  obtain ⟨h0, h1, h2, h3, i0, i1, i2, i3, j0, j1, j2, j3, b, x, y, z, w, n, rfl, ⟨r1, e1⟩, bh, bi, bj, bb, bp, hn, hP⟩ := h1
  unfold tabD
  obtain ⟨ha, hb, hc, hd⟩ := bh.mono hn
  obtain ⟨ia, ib, ic, id'⟩ := bi.mono hn
  obtain ⟨ja, jb, jc, jd⟩ := bj.mono hn
  obtain ⟨pa, pb, pc, pd⟩ := bp.mono hn
  have bb' := bb.mono hn
  walk_at "dz"
  intro p hp
  have e2 : ∀ m, seqOf (updT T p m) a = some (.int x :: .int y :: .int z :: .int w :: r1) := fun m => seq_off hp e1
  (try simp -dsimp (maxSteps := 3000000) only [e2, ↓SY.someOf_z, ↓SY.int1_z, ↓SY.int2_z, ↓SY.bl1_z, ↓SY.optK_z, ↓SY.seqK_z, ↓SY.ixD_z, ↓SY.addD_z, ↓SY.lenD_z, ↓SY.slD_z, ↓SY.setD_z, ↓SY.appD_z, ↓SY.popD_z, ↓SY.dgsK_z, ↓SY.one_z, ↓SY.two_z, ↓SY.intK_z, ↓SY.rng1_z, ↓SY.rng2_z, ↓SY.frzK_z, ↓SY.forL_z, ↓SY.lcL_z, ↓SY.dSeq_z, SY.someZ_s, SY.int1Z_s, SY.int2Z_s, SY.bl1Z_s, SY.optZ_s, SY.addZ_i, SY.addZ_s, SY.addZ_t, SY.addZ_l, SY.addZ_p, SY.lenZ_t, SY.lenZ_l, SY.lenZ_s, SY.lenZ_p, SY.slZ_t, SY.slZ_l, SY.slZ_s, SY.slZ_p, SY.setZ_s, SY.appZ_s, SY.popZ_s, SY.dgsZ_s, SY.nilK_s, SY.oneZ_s, SY.twoZ_s, SY.intZ_i, SY.intZ_b, SY.rng1Z_s, SY.rng2Z_s, SY.frzZ_p, SY.frzZ_l, SY.frzZ_t, SY.forZ_nil, SY.forZ_cons, SY.lcZ_nil, SY.lcZ_cons, SY.goZ_s, ↓SY.sq_nx, ↓SY.sq_rt, ↓SY.sq_bk, ↓SY.sq_ct, ↓SY.sq_ex, ↓SY.lp_nx, ↓SY.lp_ct, ↓SY.lp_bk, ↓SY.lp_rt, ↓SY.lp_ex, SY.dAsg, SY.dRet, SY.dRetN, SY.dNext, SY.dIf, SY.dTst, SY.dC, SY.dVar, SY.dI, SY.dI0, SY.dMul, SY.dDiv, SY.dMod, SY.dPow, SY.dSub, SY.dLt, SY.dLe, SY.dGt, SY.dGe, SY.dNeg, SY.dAdd, SY.dIx, SY.dNil, SY.dCons, SY.dTup, SY.dLst, SY.dLstM, ↓SY.dCall_z, SY.dAbs, SY.dLen, SY.dTuple, SY.dList, SY.dListM, SY.dEq, SY.dNe, SY.dIsN, SY.dNotN, SY.dIsB, SY.dNotB, SY.dFrz, SY.dRaise, SY.dTryAs, SY.dTryOnly, SY.dIsE, SY.dtAnd, SY.dtOr, SY.dtNot, SY.dAnd, SY.dOr, SY.dNot, SY.dIsi, SY.dAll, SY.dSum, SY.dInt, SY.dSl, SY.dNoO, SY.dSomeO, SY.dDrop, SY.dAug, SY.dPar, SY.dAsgG, SY.dgName, SY.dgTup, SY.dgsNil, SY.dgsName, SY.dgSub, SY.dApp, SY.dPopAt, SY.dFor, SY.dForR1, SY.dForR2, SY.dForE, SY.dLc, SY.dLcR, SY.dLcRM, SY.rngL, SY.enumL, SY.frozen_tup, SY.frozen_lst, SY.frozen_scr, SY.frozL_lst, SY.frozL_scr, SY.seqOf_tup, SY.seqOf_lst, SY.seqOf_scr, SY.seqOf_ptr, SY.seqOf_int, SY.seqOf_str, SY.lstOf_lst, SY.lstOf_scr, SY.lstOf_ptr, SY.mlst_lst, SY.plst_lst, SY.plst_ptr, SY.isPtrL, SY.tyN, SY.isNon, SY.blsOf, SY.intsOf, SY.dend0, SY.dend, SY.startD, SY.eqOk_int, SY.eqv_int, SY.atI0, SY.atI1, SY.atI2, SY.atI3, SY.atI4, SY.atI5, SY.ixN0, decide_true, decide_false, Int.reduceEq, Int.reduceLT, Int.reduceLE, SY.ixN_21, SY.ixN_31, SY.ixN_32, SY.ixN_41, SY.ixN_42, SY.ixN_43, SY.seqIx0, SY.updT_same, SY.updT_updT, List.map_cons, List.map_nil, List.length_cons, List.length_nil, List.replicate, List.cons_append, List.nil_append, List.getD_cons_zero, List.getD_cons_succ, List.set_cons_zero, List.set_cons_succ, List.getElem?_cons_zero, List.eraseIdx_cons_zero, Option.isSome_some, Option.map_some, Int.reduceToNat, Int.reducePow, Int.reduceAdd, Int.reduceMul, Nat.zero_lt_succ, Nat.reduceLT, Nat.sub_self, Nat.reduceSub, Nat.reduceAdd, Nat.reduceLeDiff, Nat.zero_add, SY.kit_ii, SY.kit_ib, SY.kit_it, SY.kit_bi, SY.kit_bb, SY.kit_tt, SY.kit_ti, SY.kit_tb, SY.kit_nt, SY.kit_ll, SY.kit_lt, Bool.not_true, Bool.not_false, if_true, if_false, reduceIte, Bool.false_eq_true, true_and, and_true, and_self])
  refine ⟨⟨by decide, by decide⟩, ?_⟩
  walk_at "mos"
  refine sp_l_lowest_mk (ns := mvL h0 h1 h2 h3 i0 i1 i2 i3 j0 j1 j2 j3 b x y z w) rfl (by unfold mvL hgt; exact all4 ⟨by walk_at "bt", by walk_at "bt", by walk_at "bt", by walk_at "bt"⟩) (by unfold mvL; simp) ?_
  refine ⟨_, T, Wk.drop fun a m e => ?_, hP⟩
  exact updT_off hp e
theorem sp_l_move_mk {p : D} {h0 h1 h2 h3 i0 i1 i2 i3 j0 j1 j2 j3 b x y z w : Int} {n : Nat} (hp : V4 T p x y z w) (bh : B4 n h0 h1 h2 h3) (bi : B4 n i0 i1 i2 i3) (bj : B4 n j0 j1 j2 j3) (bb : Bd n b) (bp : B4 n x y z w) (hn : n ≤ 3900) (h : P (.tup ((lowZ (mvL h0 h1 h2 h3 i0 i1 i2 i3 j0 j1 j2 j3 b x y z w)).map .int)) T) : sp_l_move [p, tabD h0 h1 h2 h3 i0 i1 i2 i3 j0 j1 j2 j3 b] T P X := lock_at ⟨_, _, _, _, _, _, _, _, _, _, _, _, _, _, _, _, _, n, rfl, hp, bh, bi, bj, bb, bp, hn, h⟩
noncomputable def sp_moved_point : DSp := lock <| sp2 fun p t T P _ => ∃ h0 h1 h2 h3 i0 i1 i2 i3 j0 j1 j2 j3 b x y z w n, t = tabD h0 h1 h2 h3 i0 i1 i2 i3 j0 j1 j2 j3 b ∧ V4 T p x y z w ∧ B4 n h0 h1 h2 h3 ∧ B4 n i0 i1 i2 i3 ∧ B4 n j0 j1 j2 j3 ∧ Bd n b ∧ B4 n x y z w ∧ n ≤ 3900 ∧ 0 < b ∧ 0 < w ∧ P (.tup ((lowZ (mvL h0 h1 h2 h3 i0 i1 i2 i3 j0 j1 j2 j3 b x y z w)).map .int)) T
def d_moved_point : DS := (dSeq (dAsg (dAdd (dCall sp_dot (dCons (dIx (dVar 1) (dC (.int 0))) (dCons (dVar 0) dNil))) (dMul (dIx (dIx (dVar 1) (dC (.int 0))) (dC (.int 3))) (dIx (dVar 0) (dC (.int 3))))) 2) (dSeq (dAsg (dAdd (dCall sp_dot (dCons (dIx (dVar 1) (dC (.int 1))) (dCons (dVar 0) dNil))) (dMul (dIx (dIx (dVar 1) (dC (.int 1))) (dC (.int 3))) (dIx (dVar 0) (dC (.int 3))))) 3) (dSeq (dAsg (dAdd (dCall sp_dot (dCons (dIx (dVar 1) (dC (.int 2))) (dCons (dVar 0) dNil))) (dMul (dIx (dIx (dVar 1) (dC (.int 2))) (dC (.int 3))) (dIx (dVar 0) (dC (.int 3))))) 4) (dRet (dCall sp_point (dCons (dVar 2) (dCons (dVar 3) (dCons (dVar 4) (dCons (dMul (dIx (dVar 1) (dC (.int 3))) (dIx (dVar 0) (dC (.int 3)))) dNil)))))))))
theorem pure_moved_point {N : List Str} (hN : N.length = 5) : ∀ us T P X, sp_moved_point us T P X → d_moved_point (dend0 P X) (startD N us) T := by
  intro us T P X h
  obtain ⟨a, b, rfl, h1⟩ := sp2.of (lock_of h)
  have e0 : startD N [a, b] = [some a, some b, none, none, none] := by unfold startD; rw [hN]; rfl
  rw [e0]; clear e0; unfold d_moved_point
  obtain ⟨h0, h1, h2, h3, i0, i1, i2, i3, j0, j1, j2, j3, b, x, y, z, w, n, rfl, hv, bh, bi, bj, bb, bp, hn, b0, w0, hP⟩ := h1
  obtain ⟨r1, e1⟩ := id hv
  unfold tabD
  obtain ⟨ha, hb, hc, hd⟩ := bh.mono hn
  obtain ⟨ia, ib, ic, id'⟩ := bi.mono hn
  obtain ⟨ja, jb, jc, jd⟩ := bj.mono hn
  obtain ⟨pa, pb, pc, pd⟩ := bp.mono hn
  have bb' := bb.mono hn
  walk_at "dz"
  refine sp_dot_mk ⟨_, rfl⟩ hv.v3 bh.b3 bp.b3 (by omega) ?_
  (try simp -dsimp (maxSteps := 3000000) only [e1, ↓SY.someOf_z, ↓SY.int1_z, ↓SY.int2_z, ↓SY.bl1_z, ↓SY.optK_z, ↓SY.seqK_z, ↓SY.ixD_z, ↓SY.addD_z, ↓SY.lenD_z, ↓SY.slD_z, ↓SY.setD_z, ↓SY.appD_z, ↓SY.popD_z, ↓SY.dgsK_z, ↓SY.one_z, ↓SY.two_z, ↓SY.intK_z, ↓SY.rng1_z, ↓SY.rng2_z, ↓SY.frzK_z, ↓SY.forL_z, ↓SY.lcL_z, ↓SY.dSeq_z, SY.someZ_s, SY.int1Z_s, SY.int2Z_s, SY.bl1Z_s, SY.optZ_s, SY.addZ_i, SY.addZ_s, SY.addZ_t, SY.addZ_l, SY.addZ_p, SY.lenZ_t, SY.lenZ_l, SY.lenZ_s, SY.lenZ_p, SY.slZ_t, SY.slZ_l, SY.slZ_s, SY.slZ_p, SY.setZ_s, SY.appZ_s, SY.popZ_s, SY.dgsZ_s, SY.nilK_s, SY.oneZ_s, SY.twoZ_s, SY.intZ_i, SY.intZ_b, SY.rng1Z_s, SY.rng2Z_s, SY.frzZ_p, SY.frzZ_l, SY.frzZ_t, SY.forZ_nil, SY.forZ_cons, SY.lcZ_nil, SY.lcZ_cons, SY.goZ_s, ↓SY.sq_nx, ↓SY.sq_rt, ↓SY.sq_bk, ↓SY.sq_ct, ↓SY.sq_ex, ↓SY.lp_nx, ↓SY.lp_ct, ↓SY.lp_bk, ↓SY.lp_rt, ↓SY.lp_ex, SY.dAsg, SY.dRet, SY.dRetN, SY.dNext, SY.dIf, SY.dTst, SY.dC, SY.dVar, SY.dI, SY.dI0, SY.dMul, SY.dDiv, SY.dMod, SY.dPow, SY.dSub, SY.dLt, SY.dLe, SY.dGt, SY.dGe, SY.dNeg, SY.dAdd, SY.dIx, SY.dNil, SY.dCons, SY.dTup, SY.dLst, SY.dLstM, ↓SY.dCall_z, SY.dAbs, SY.dLen, SY.dTuple, SY.dList, SY.dListM, SY.dEq, SY.dNe, SY.dIsN, SY.dNotN, SY.dIsB, SY.dNotB, SY.dFrz, SY.dRaise, SY.dTryAs, SY.dTryOnly, SY.dIsE, SY.dtAnd, SY.dtOr, SY.dtNot, SY.dAnd, SY.dOr, SY.dNot, SY.dIsi, SY.dAll, SY.dSum, SY.dInt, SY.dSl, SY.dNoO, SY.dSomeO, SY.dDrop, SY.dAug, SY.dPar, SY.dAsgG, SY.dgName, SY.dgTup, SY.dgsNil, SY.dgsName, SY.dgSub, SY.dApp, SY.dPopAt, SY.dFor, SY.dForR1, SY.dForR2, SY.dForE, SY.dLc, SY.dLcR, SY.dLcRM, SY.rngL, SY.enumL, SY.frozen_tup, SY.frozen_lst, SY.frozen_scr, SY.frozL_lst, SY.frozL_scr, SY.seqOf_tup, SY.seqOf_lst, SY.seqOf_scr, SY.seqOf_ptr, SY.seqOf_int, SY.seqOf_str, SY.lstOf_lst, SY.lstOf_scr, SY.lstOf_ptr, SY.mlst_lst, SY.plst_lst, SY.plst_ptr, SY.isPtrL, SY.tyN, SY.isNon, SY.blsOf, SY.intsOf, SY.dend0, SY.dend, SY.startD, SY.eqOk_int, SY.eqv_int, SY.atI0, SY.atI1, SY.atI2, SY.atI3, SY.atI4, SY.atI5, SY.ixN0, decide_true, decide_false, Int.reduceEq, Int.reduceLT, Int.reduceLE, SY.ixN_21, SY.ixN_31, SY.ixN_32, SY.ixN_41, SY.ixN_42, SY.ixN_43, SY.seqIx0, SY.updT_same, SY.updT_updT, List.map_cons, List.map_nil, List.length_cons, List.length_nil, List.replicate, List.cons_append, List.nil_append, List.getD_cons_zero, List.getD_cons_succ, List.set_cons_zero, List.set_cons_succ, List.getElem?_cons_zero, List.eraseIdx_cons_zero, Option.isSome_some, Option.map_some, Int.reduceToNat, Int.reducePow, Int.reduceAdd, Int.reduceMul, Nat.zero_lt_succ, Nat.reduceLT, Nat.sub_self, Nat.reduceSub, Nat.reduceAdd, Nat.reduceLeDiff, Nat.zero_add, SY.kit_ii, SY.kit_ib, SY.kit_it, SY.kit_bi, SY.kit_bb, SY.kit_tt, SY.kit_ti, SY.kit_tb, SY.kit_nt, SY.kit_ll, SY.kit_lt, Bool.not_true, Bool.not_false, if_true, if_false, reduceIte, Bool.false_eq_true, true_and, and_true, and_self])
  refine ⟨by walk_at "mo", ?_⟩
  refine sp_dot_mk ⟨_, rfl⟩ hv.v3 bi.b3 bp.b3 (by omega) ?_
  (try simp -dsimp (maxSteps := 3000000) only [e1, ↓SY.someOf_z, ↓SY.int1_z, ↓SY.int2_z, ↓SY.bl1_z, ↓SY.optK_z, ↓SY.seqK_z, ↓SY.ixD_z, ↓SY.addD_z, ↓SY.lenD_z, ↓SY.slD_z, ↓SY.setD_z, ↓SY.appD_z, ↓SY.popD_z, ↓SY.dgsK_z, ↓SY.one_z, ↓SY.two_z, ↓SY.intK_z, ↓SY.rng1_z, ↓SY.rng2_z, ↓SY.frzK_z, ↓SY.forL_z, ↓SY.lcL_z, ↓SY.dSeq_z, SY.someZ_s, SY.int1Z_s, SY.int2Z_s, SY.bl1Z_s, SY.optZ_s, SY.addZ_i, SY.addZ_s, SY.addZ_t, SY.addZ_l, SY.addZ_p, SY.lenZ_t, SY.lenZ_l, SY.lenZ_s, SY.lenZ_p, SY.slZ_t, SY.slZ_l, SY.slZ_s, SY.slZ_p, SY.setZ_s, SY.appZ_s, SY.popZ_s, SY.dgsZ_s, SY.nilK_s, SY.oneZ_s, SY.twoZ_s, SY.intZ_i, SY.intZ_b, SY.rng1Z_s, SY.rng2Z_s, SY.frzZ_p, SY.frzZ_l, SY.frzZ_t, SY.forZ_nil, SY.forZ_cons, SY.lcZ_nil, SY.lcZ_cons, SY.goZ_s, ↓SY.sq_nx, ↓SY.sq_rt, ↓SY.sq_bk, ↓SY.sq_ct, ↓SY.sq_ex, ↓SY.lp_nx, ↓SY.lp_ct, ↓SY.lp_bk, ↓SY.lp_rt, ↓SY.lp_ex, SY.dAsg, SY.dRet, SY.dRetN, SY.dNext, SY.dIf, SY.dTst, SY.dC, SY.dVar, SY.dI, SY.dI0, SY.dMul, SY.dDiv, SY.dMod, SY.dPow, SY.dSub, SY.dLt, SY.dLe, SY.dGt, SY.dGe, SY.dNeg, SY.dAdd, SY.dIx, SY.dNil, SY.dCons, SY.dTup, SY.dLst, SY.dLstM, ↓SY.dCall_z, SY.dAbs, SY.dLen, SY.dTuple, SY.dList, SY.dListM, SY.dEq, SY.dNe, SY.dIsN, SY.dNotN, SY.dIsB, SY.dNotB, SY.dFrz, SY.dRaise, SY.dTryAs, SY.dTryOnly, SY.dIsE, SY.dtAnd, SY.dtOr, SY.dtNot, SY.dAnd, SY.dOr, SY.dNot, SY.dIsi, SY.dAll, SY.dSum, SY.dInt, SY.dSl, SY.dNoO, SY.dSomeO, SY.dDrop, SY.dAug, SY.dPar, SY.dAsgG, SY.dgName, SY.dgTup, SY.dgsNil, SY.dgsName, SY.dgSub, SY.dApp, SY.dPopAt, SY.dFor, SY.dForR1, SY.dForR2, SY.dForE, SY.dLc, SY.dLcR, SY.dLcRM, SY.rngL, SY.enumL, SY.frozen_tup, SY.frozen_lst, SY.frozen_scr, SY.frozL_lst, SY.frozL_scr, SY.seqOf_tup, SY.seqOf_lst, SY.seqOf_scr, SY.seqOf_ptr, SY.seqOf_int, SY.seqOf_str, SY.lstOf_lst, SY.lstOf_scr, SY.lstOf_ptr, SY.mlst_lst, SY.plst_lst, SY.plst_ptr, SY.isPtrL, SY.tyN, SY.isNon, SY.blsOf, SY.intsOf, SY.dend0, SY.dend, SY.startD, SY.eqOk_int, SY.eqv_int, SY.atI0, SY.atI1, SY.atI2, SY.atI3, SY.atI4, SY.atI5, SY.ixN0, decide_true, decide_false, Int.reduceEq, Int.reduceLT, Int.reduceLE, SY.ixN_21, SY.ixN_31, SY.ixN_32, SY.ixN_41, SY.ixN_42, SY.ixN_43, SY.seqIx0, SY.updT_same, SY.updT_updT, List.map_cons, List.map_nil, List.length_cons, List.length_nil, List.replicate, List.cons_append, List.nil_append, List.getD_cons_zero, List.getD_cons_succ, List.set_cons_zero, List.set_cons_succ, List.getElem?_cons_zero, List.eraseIdx_cons_zero, Option.isSome_some, Option.map_some, Int.reduceToNat, Int.reducePow, Int.reduceAdd, Int.reduceMul, Nat.zero_lt_succ, Nat.reduceLT, Nat.sub_self, Nat.reduceSub, Nat.reduceAdd, Nat.reduceLeDiff, Nat.zero_add, SY.kit_ii, SY.kit_ib, SY.kit_it, SY.kit_bi, SY.kit_bb, SY.kit_tt, SY.kit_ti, SY.kit_tb, SY.kit_nt, SY.kit_ll, SY.kit_lt, Bool.not_true, Bool.not_false, if_true, if_false, reduceIte, Bool.false_eq_true, true_and, and_true, and_self])
  refine ⟨by walk_at "mo", ?_⟩
  refine sp_dot_mk ⟨_, rfl⟩ hv.v3 bj.b3 bp.b3 (by omega) ?_
  (try simp -dsimp (maxSteps := 3000000) only [e1, ↓SY.someOf_z, ↓SY.int1_z, ↓SY.int2_z, ↓SY.bl1_z, ↓SY.optK_z, ↓SY.seqK_z, ↓SY.ixD_z, ↓SY.addD_z, ↓SY.lenD_z, ↓SY.slD_z, ↓SY.setD_z, ↓SY.appD_z, ↓SY.popD_z, ↓SY.dgsK_z, ↓SY.one_z, ↓SY.two_z, ↓SY.intK_z, ↓SY.rng1_z, ↓SY.rng2_z, ↓SY.frzK_z, ↓SY.forL_z, ↓SY.lcL_z, ↓SY.dSeq_z, SY.someZ_s, SY.int1Z_s, SY.int2Z_s, SY.bl1Z_s, SY.optZ_s, SY.addZ_i, SY.addZ_s, SY.addZ_t, SY.addZ_l, SY.addZ_p, SY.lenZ_t, SY.lenZ_l, SY.lenZ_s, SY.lenZ_p, SY.slZ_t, SY.slZ_l, SY.slZ_s, SY.slZ_p, SY.setZ_s, SY.appZ_s, SY.popZ_s, SY.dgsZ_s, SY.nilK_s, SY.oneZ_s, SY.twoZ_s, SY.intZ_i, SY.intZ_b, SY.rng1Z_s, SY.rng2Z_s, SY.frzZ_p, SY.frzZ_l, SY.frzZ_t, SY.forZ_nil, SY.forZ_cons, SY.lcZ_nil, SY.lcZ_cons, SY.goZ_s, ↓SY.sq_nx, ↓SY.sq_rt, ↓SY.sq_bk, ↓SY.sq_ct, ↓SY.sq_ex, ↓SY.lp_nx, ↓SY.lp_ct, ↓SY.lp_bk, ↓SY.lp_rt, ↓SY.lp_ex, SY.dAsg, SY.dRet, SY.dRetN, SY.dNext, SY.dIf, SY.dTst, SY.dC, SY.dVar, SY.dI, SY.dI0, SY.dMul, SY.dDiv, SY.dMod, SY.dPow, SY.dSub, SY.dLt, SY.dLe, SY.dGt, SY.dGe, SY.dNeg, SY.dAdd, SY.dIx, SY.dNil, SY.dCons, SY.dTup, SY.dLst, SY.dLstM, ↓SY.dCall_z, SY.dAbs, SY.dLen, SY.dTuple, SY.dList, SY.dListM, SY.dEq, SY.dNe, SY.dIsN, SY.dNotN, SY.dIsB, SY.dNotB, SY.dFrz, SY.dRaise, SY.dTryAs, SY.dTryOnly, SY.dIsE, SY.dtAnd, SY.dtOr, SY.dtNot, SY.dAnd, SY.dOr, SY.dNot, SY.dIsi, SY.dAll, SY.dSum, SY.dInt, SY.dSl, SY.dNoO, SY.dSomeO, SY.dDrop, SY.dAug, SY.dPar, SY.dAsgG, SY.dgName, SY.dgTup, SY.dgsNil, SY.dgsName, SY.dgSub, SY.dApp, SY.dPopAt, SY.dFor, SY.dForR1, SY.dForR2, SY.dForE, SY.dLc, SY.dLcR, SY.dLcRM, SY.rngL, SY.enumL, SY.frozen_tup, SY.frozen_lst, SY.frozen_scr, SY.frozL_lst, SY.frozL_scr, SY.seqOf_tup, SY.seqOf_lst, SY.seqOf_scr, SY.seqOf_ptr, SY.seqOf_int, SY.seqOf_str, SY.lstOf_lst, SY.lstOf_scr, SY.lstOf_ptr, SY.mlst_lst, SY.plst_lst, SY.plst_ptr, SY.isPtrL, SY.tyN, SY.isNon, SY.blsOf, SY.intsOf, SY.dend0, SY.dend, SY.startD, SY.eqOk_int, SY.eqv_int, SY.atI0, SY.atI1, SY.atI2, SY.atI3, SY.atI4, SY.atI5, SY.ixN0, decide_true, decide_false, Int.reduceEq, Int.reduceLT, Int.reduceLE, SY.ixN_21, SY.ixN_31, SY.ixN_32, SY.ixN_41, SY.ixN_42, SY.ixN_43, SY.seqIx0, SY.updT_same, SY.updT_updT, List.map_cons, List.map_nil, List.length_cons, List.length_nil, List.replicate, List.cons_append, List.nil_append, List.getD_cons_zero, List.getD_cons_succ, List.set_cons_zero, List.set_cons_succ, List.getElem?_cons_zero, List.eraseIdx_cons_zero, Option.isSome_some, Option.map_some, Int.reduceToNat, Int.reducePow, Int.reduceAdd, Int.reduceMul, Nat.zero_lt_succ, Nat.reduceLT, Nat.sub_self, Nat.reduceSub, Nat.reduceAdd, Nat.reduceLeDiff, Nat.zero_add, SY.kit_ii, SY.kit_ib, SY.kit_it, SY.kit_bi, SY.kit_bb, SY.kit_tt, SY.kit_ti, SY.kit_tb, SY.kit_nt, SY.kit_ll, SY.kit_lt, Bool.not_true, Bool.not_false, if_true, if_false, reduceIte, Bool.false_eq_true, true_and, and_true, and_self])
  refine ⟨by walk_at "mo", by walk_at "mo", ?_⟩
  exact sp_point_mk (Int.mul_pos b0 w0) ⟨by walk_at "bt", by walk_at "bt", by walk_at "bt", by walk_at "bt"⟩ hP
theorem sp_moved_point_mk {p : D} {h0 h1 h2 h3 i0 i1 i2 i3 j0 j1 j2 j3 b x y z w : Int} {n : Nat} (hp : V4 T p x y z w) (bh : B4 n h0 h1 h2 h3) (bi : B4 n i0 i1 i2 i3) (bj : B4 n j0 j1 j2 j3) (bb : Bd n b) (bp : B4 n x y z w) (hn : n ≤ 3900) (b0 : 0 < b) (w0 : 0 < w) (h : P (.tup ((lowZ (mvL h0 h1 h2 h3 i0 i1 i2 i3 j0 j1 j2 j3 b x y z w)).map .int)) T) : sp_moved_point [p, tabD h0 h1 h2 h3 i0 i1 i2 i3 j0 j1 j2 j3 b] T P X := lock_at ⟨_, _, _, _, _, _, _, _, _, _, _, _, _, _, _, _, _, n, rfl, hp, bh, bi, bj, bb, bp, hn, b0, w0, h⟩
end
end SY

namespace SY
open PySem PySem.Spec PyProof.Rows L2
section
variable {T : Sto} {P : D → Sto → Prop} {X : Xc → Sto → Prop}
noncomputable def sp_l_pointG : DSp := lock <| sp3 fun a b c T P _ => ∃ r, a = .ptr r ∧ T r = some .row ∧ int2 b c fun s m => (0 < s ∧ s ≤ 10 ^ 62 ∧ 0 < m ∧ m ≤ 10 ^ 61) ∧ ∀ x y z w : Int, IsPt 210 x y z w → P (.tup [.int x, .int y, .int z, .int w]) T
theorem pure_l_pointG {N : List Str} (hN : N.length = 7) : ∀ us T P X, sp_l_pointG us T P X → d_l_point (dend0 P X) (startD N us) T := by
  intro us T P X h
  obtain ⟨a, b, c, rfl, h1⟩ := sp3.of (lock_of h)
  obtain ⟨r, rfl, hr, h2⟩ := h1
  obtain ⟨s, m, rfl, rfl, ⟨s0, s1, m0, m1⟩, h3⟩ := int2.of h2
  have e : startD N [D.ptr r, D.int s, D.int m] = [some (.ptr r), some (.int s), some (.int m), none, none, none, none] := by unfold startD; rw [hN]; rfl
  rw [e]
  unfold d_l_point
  walk_at "dx"
  have bm : Bd 207 m := Bd.rng (m := 10 ^ 62) (by omega) (by omega) (Bd.lit (by decide))
  have bs : Bd 207 s := Bd.rng (m := 10 ^ 62) (by omega) (by omega) (Bd.lit (by decide))
  have bq : Bd 8000 (2 * s + 1) := by walk_at "bt"
  refine sp_take_mk hr m0 (by walk_at "bt") fun k k0 k1 => ?_
  walk_at "dx"
  refine ⟨mulOk_l (by decide), ?_⟩
  refine ⟨⟨by decide, by decide⟩, ?_⟩
  refine sp_take_mk hr (by omega) bq fun x x0 x1 => ?_
  walk_at "dx"
  refine sp_take_mk hr (by omega) bq fun y y0 y1 => ?_
  walk_at "dx"
  refine sp_take_mk hr (by omega) bq fun z z0 z1 => ?_
  walk_at "dx"
  have bd : B4 210 (x - s) (y - s) (z - s) (1 + k) := ⟨Bd.rng (m := 10 ^ 62) (by omega) (by omega) (Bd.lit (by decide)), Bd.rng (m := 10 ^ 62) (by omega) (by omega) (Bd.lit (by decide)), Bd.rng (m := 10 ^ 62) (by omega) (by omega) (Bd.lit (by decide)), Bd.rng (m := 10 ^ 62) (by omega) (by omega) (Bd.lit (by decide))⟩
  refine sp_l_lowest_mk (ns := [x - s, y - s, z - s, 1 + k]) rfl (fun v hv => (all4 bd v hv).mono (by decide)) (by simp) ?_
  obtain ⟨x', y', z', w', g, e, _, _, _, _, _, fr⟩ := low4 (by omega) bd
  rw [e]
  exact h3 _ _ _ _ fr
theorem sp_l_pointG_mk {r : Addr} {s m : Int} (hr : T r = some .row) (h0 : 0 < s ∧ s ≤ 10 ^ 62 ∧ 0 < m ∧ m ≤ 10 ^ 61) (h : ∀ x y z w : Int, IsPt 210 x y z w → P (.tup [.int x, .int y, .int z, .int w]) T) : sp_l_pointG [.ptr r, .int s, .int m] T P X := lock_at ⟨r, rfl, hr, h0, h⟩
theorem sp_l_wholes_mk {ns : List Int} {m : Int} (hl : ns.length ≤ 1000) (e : (ns.length : Int) = m) (h : P (.bl true) T) : sp_l_wholes [.tup (ns.map .int), .int m] T P X := lock_at ⟨ns, rfl, hl, by show P _ T; rw [decide_eq_true e]; exact h⟩
end
end SY

namespace SY
open PySem PySem.Spec PyProof.Rows L2
theorem eqvD_refl {x : D} (h : eqOk x = true) : eqvD x x = true := by
  unfold eqOk at h
  rw [Bool.and_eq_true] at h
  exact SeqAt.eqv_refl _ (SeqAt.canLay_of_shaped h.2)
theorem sg13 {n : Nat} {h0 h1 h2 h3 i0 i1 i2 i3 j0 j1 j2 j3 b : Int} (hb : b ≠ 0) (hd : tr3 h0 h1 h2 i0 i1 i2 j0 j1 j2 ≠ 0) (ba : allB n (tabL h0 h1 h2 h3 i0 i1 i2 i3 j0 j1 j2 j3 b)) : ∃ x0 x1 x2 x3 y0 y1 y2 y3 z0 z1 z2 z3 w g, sgZ (tabL h0 h1 h2 h3 i0 i1 i2 i3 j0 j1 j2 j3 b) = tabL x0 x1 x2 x3 y0 y1 y2 y3 z0 z1 z2 z3 w ∧ IsTab n x0 x1 x2 x3 y0 y1 y2 y3 z0 z1 z2 z3 w ∧ g ≠ 0 ∧ tabL h0 h1 h2 h3 i0 i1 i2 i3 j0 j1 j2 j3 b = (tabL x0 x1 x2 x3 y0 y1 y2 y3 z0 z1 z2 z3 w).map (g * ·) := by
  rcases Int.lt_or_gt_of_ne hb with h | h
  · rw [sgZ_neg (show (tabL h0 h1 h2 h3 i0 i1 i2 i3 j0 j1 j2 j3 b).getLastD 0 < 0 from h)]
    have e : (tabL h0 h1 h2 h3 i0 i1 i2 i3 j0 j1 j2 j3 b).map (-·) = tabL (-h0) (-h1) (-h2) (-h3) (-i0) (-i1) (-i2) (-i3) (-j0) (-j1) (-j2) (-j3) (-b) := rfl
    have d : tr3 (-h0) (-h1) (-h2) (-i0) (-i1) (-i2) (-j0) (-j1) (-j2) = -tr3 h0 h1 h2 i0 i1 i2 j0 j1 j2 := by unfold tr3; grind
    have ba' : allB n (tabL (-h0) (-h1) (-h2) (-h3) (-i0) (-i1) (-i2) (-i3) (-j0) (-j1) (-j2) (-j3) (-b)) := by
      rw [← e]
      intro z hz
      obtain ⟨m, hm, rfl⟩ := List.mem_map.mp hz
      exact (ba m hm).neg
    obtain ⟨x0, x1, x2, x3, y0, y1, y2, y3, z0, z1, z2, z3, w, g, q, ht, g0, em⟩ := low13 (by omega) (by rw [d]; omega) ba'
    rw [e]
    refine ⟨x0, x1, x2, x3, y0, y1, y2, y3, z0, z1, z2, z3, w, -g, q, ht, by omega, ?_⟩
    rw [← e] at em
    have q2 : ∀ l : List Int, (l.map (-·)).map (-·) = l := fun l => by
      rw [List.map_map]
      conv => rhs; rw [← List.map_id l]
      exact List.map_congr_left fun x _ => Int.neg_neg x
    rw [← q2 (tabL h0 h1 h2 h3 i0 i1 i2 i3 j0 j1 j2 j3 b)]
    rw [em, map_neg_smul]
  · rw [sgZ_pos (show 0 < (tabL h0 h1 h2 h3 i0 i1 i2 i3 j0 j1 j2 j3 b).getLastD 0 from h)]
    obtain ⟨x0, x1, x2, x3, y0, y1, y2, y3, z0, z1, z2, z3, w, g, q, ht, g0, em⟩ := low13 h hd ba
    exact ⟨x0, x1, x2, x3, y0, y1, y2, y3, z0, z1, z2, z3, w, g, q, ht, by omega, em⟩
section
variable {T : Sto} {P : D → Sto → Prop} {X : Xc → Sto → Prop}
noncomputable def sp_swelling : DSp := lock <| sp1 fun a T P _ => ∃ u v w l h0 h1 h2 i0 i1 i2 j0 j1 j2 n, seqOf T a = some (u :: v :: w :: l) ∧ V3 T u h0 h1 h2 ∧ V3 T v i0 i1 i2 ∧ V3 T w j0 j1 j2 ∧ B3 n h0 h1 h2 ∧ B3 n i0 i1 i2 ∧ B3 n j0 j1 j2 ∧ n ≤ 20000 ∧ P (.int (tr3 h0 h1 h2 i0 i1 i2 j0 j1 j2)) T
def d_swelling : DS := (dRet (dCall sp_dot (dCons (dIx (dVar 0) (dC (.int 0))) (dCons (dCall sp_cross (dCons (dIx (dVar 0) (dC (.int 1))) (dCons (dIx (dVar 0) (dC (.int 2))) dNil))) dNil))))
theorem pure_swelling {N : List Str} (hN : N.length = 1) : ∀ us T P X, sp_swelling us T P X → d_swelling (dend0 P X) (startD N us) T := by
  intro us T P X h
  obtain ⟨a, rfl, h1⟩ := sp1.of (lock_of h)
  have e0 : startD N [a] = [some a] := by unfold startD; rw [hN]; rfl
  rw [e0]; clear e0; unfold d_swelling
  obtain ⟨u, v, w, l, h0, h1, h2, i0, i1, i2, j0, j1, j2, n, hs, hu, hv, hw, bu, bv, bw, hn, hP⟩ := h1
  obtain ⟨xa, xb, xc⟩ := bu.mono hn
  obtain ⟨ya, yb, yc⟩ := bv.mono hn
  obtain ⟨za, zb, zc⟩ := bw.mono hn
  (try simp -dsimp (maxSteps := 3000000) only [hs, ↓SY.someOf_z, ↓SY.int1_z, ↓SY.int2_z, ↓SY.bl1_z, ↓SY.optK_z, ↓SY.seqK_z, ↓SY.ixD_z, ↓SY.addD_z, ↓SY.lenD_z, ↓SY.slD_z, ↓SY.setD_z, ↓SY.appD_z, ↓SY.popD_z, ↓SY.dgsK_z, ↓SY.one_z, ↓SY.two_z, ↓SY.intK_z, ↓SY.rng1_z, ↓SY.rng2_z, ↓SY.frzK_z, ↓SY.forL_z, ↓SY.lcL_z, ↓SY.dSeq_z, SY.someZ_s, SY.int1Z_s, SY.int2Z_s, SY.bl1Z_s, SY.optZ_s, SY.addZ_i, SY.addZ_s, SY.addZ_t, SY.addZ_l, SY.addZ_p, SY.lenZ_t, SY.lenZ_l, SY.lenZ_s, SY.lenZ_p, SY.slZ_t, SY.slZ_l, SY.slZ_s, SY.slZ_p, SY.setZ_s, SY.appZ_s, SY.popZ_s, SY.dgsZ_s, SY.nilK_s, SY.oneZ_s, SY.twoZ_s, SY.intZ_i, SY.intZ_b, SY.rng1Z_s, SY.rng2Z_s, SY.frzZ_p, SY.frzZ_l, SY.frzZ_t, SY.forZ_nil, SY.forZ_cons, SY.lcZ_nil, SY.lcZ_cons, SY.goZ_s, ↓SY.sq_nx, ↓SY.sq_rt, ↓SY.sq_bk, ↓SY.sq_ct, ↓SY.sq_ex, ↓SY.lp_nx, ↓SY.lp_ct, ↓SY.lp_bk, ↓SY.lp_rt, ↓SY.lp_ex, SY.dAsg, SY.dRet, SY.dRetN, SY.dNext, SY.dIf, SY.dTst, SY.dC, SY.dVar, SY.dI, SY.dI0, SY.dMul, SY.dDiv, SY.dMod, SY.dPow, SY.dSub, SY.dLt, SY.dLe, SY.dGt, SY.dGe, SY.dNeg, SY.dAdd, SY.dIx, SY.dNil, SY.dCons, SY.dTup, SY.dLst, SY.dLstM, ↓SY.dCall_z, SY.dAbs, SY.dLen, SY.dTuple, SY.dList, SY.dListM, SY.dEq, SY.dNe, SY.dIsN, SY.dNotN, SY.dIsB, SY.dNotB, SY.dFrz, SY.dRaise, SY.dTryAs, SY.dTryOnly, SY.dIsE, SY.dtAnd, SY.dtOr, SY.dtNot, SY.dAnd, SY.dOr, SY.dNot, SY.dIsi, SY.dAll, SY.dSum, SY.dInt, SY.dSl, SY.dNoO, SY.dSomeO, SY.dDrop, SY.dAug, SY.dPar, SY.dAsgG, SY.dgName, SY.dgTup, SY.dgsNil, SY.dgsName, SY.dgSub, SY.dApp, SY.dPopAt, SY.dFor, SY.dForR1, SY.dForR2, SY.dForE, SY.dLc, SY.dLcR, SY.dLcRM, SY.rngL, SY.enumL, SY.frozen_tup, SY.frozen_lst, SY.frozen_scr, SY.frozL_lst, SY.frozL_scr, SY.seqOf_tup, SY.seqOf_lst, SY.seqOf_scr, SY.seqOf_ptr, SY.seqOf_int, SY.seqOf_str, SY.lstOf_lst, SY.lstOf_scr, SY.lstOf_ptr, SY.mlst_lst, SY.plst_lst, SY.plst_ptr, SY.isPtrL, SY.tyN, SY.isNon, SY.blsOf, SY.intsOf, SY.dend0, SY.dend, SY.startD, SY.eqOk_int, SY.eqv_int, SY.atI0, SY.atI1, SY.atI2, SY.atI3, SY.atI4, SY.atI5, SY.ixN0, decide_true, decide_false, Int.reduceEq, Int.reduceLT, Int.reduceLE, SY.ixN_21, SY.ixN_31, SY.ixN_32, SY.ixN_41, SY.ixN_42, SY.ixN_43, SY.seqIx0, SY.updT_same, SY.updT_updT, List.map_cons, List.map_nil, List.length_cons, List.length_nil, List.replicate, List.cons_append, List.nil_append, List.getD_cons_zero, List.getD_cons_succ, List.set_cons_zero, List.set_cons_succ, List.getElem?_cons_zero, List.eraseIdx_cons_zero, Option.isSome_some, Option.map_some, Int.reduceToNat, Int.reducePow, Int.reduceAdd, Int.reduceMul, Nat.zero_lt_succ, Nat.reduceLT, Nat.sub_self, Nat.reduceSub, Nat.reduceAdd, Nat.reduceLeDiff, Nat.zero_add, SY.kit_ii, SY.kit_ib, SY.kit_it, SY.kit_bi, SY.kit_bb, SY.kit_tt, SY.kit_ti, SY.kit_tb, SY.kit_nt, SY.kit_ll, SY.kit_lt, Bool.not_true, Bool.not_false, if_true, if_false, reduceIte, Bool.false_eq_true, true_and, and_true, and_self])
  refine sp_cross_mk hv hw bv bw (by omega) ?_
  walk_at "dz"
  refine sp_dot_mk (n := 50000) hu ⟨_, rfl⟩ ⟨by walk_at "bt", by walk_at "bt", by walk_at "bt"⟩ ⟨by walk_at "bt", by walk_at "bt", by walk_at "bt"⟩ (by decide) ?_
  exact hP
theorem sp_swelling_mk {a u v w : D} {l : List D} {h0 h1 h2 i0 i1 i2 j0 j1 j2 : Int} {n : Nat} (hs : seqOf T a = some (u :: v :: w :: l)) (hu : V3 T u h0 h1 h2) (hv : V3 T v i0 i1 i2) (hw : V3 T w j0 j1 j2) (bu : B3 n h0 h1 h2) (bv : B3 n i0 i1 i2) (bw : B3 n j0 j1 j2) (hn : n ≤ 20000) (h : P (.int (tr3 h0 h1 h2 i0 i1 i2 j0 j1 j2)) T) : sp_swelling [a] T P X := lock_at ⟨u, v, w, l, _, _, _, _, _, _, _, _, _, n, hs, hu, hv, hw, bu, bv, bw, hn, h⟩
noncomputable def sp_table : DSp := lock <| sp4 fun u v w t T P X => ∃ h0 h1 h2 h3 i0 i1 i2 i3 j0 j1 j2 j3 b n, u = .tup [.int h0, .int h1, .int h2, .int h3] ∧ v = .tup [.int i0, .int i1, .int i2, .int i3] ∧ w = .tup [.int j0, .int j1, .int j2, .int j3] ∧ t = .int b ∧ allB n (tabL h0 h1 h2 h3 i0 i1 i2 i3 j0 j1 j2 j3 b) ∧ n ≤ 8000 ∧
  ((b = 0 ∨ tr3 h0 h1 h2 i0 i1 i2 j0 j1 j2 = 0) → X "FlatMove" T) ∧ (b ≠ 0 → tr3 h0 h1 h2 i0 i1 i2 j0 j1 j2 ≠ 0 → ∀ x0 x1 x2 x3 y0 y1 y2 y3 z0 z1 z2 z3 w g, sgZ (tabL h0 h1 h2 h3 i0 i1 i2 i3 j0 j1 j2 j3 b) = tabL x0 x1 x2 x3 y0 y1 y2 y3 z0 z1 z2 z3 w → IsTab n x0 x1 x2 x3 y0 y1 y2 y3 z0 z1 z2 z3 w → g ≠ 0 → tabL h0 h1 h2 h3 i0 i1 i2 i3 j0 j1 j2 j3 b = (tabL x0 x1 x2 x3 y0 y1 y2 y3 z0 z1 z2 z3 w).map (g * ·) → P (tabD x0 x1 x2 x3 y0 y1 y2 y3 z0 z1 z2 z3 w) T)
def d_table : DS := (dSeq (dIf (dtOr (dTst (dEq (dVar 3) (dC (.int 0)))) (dTst (dEq (dCall sp_swelling (dCons (dTup (dCons (dVar 0) (dCons (dVar 1) (dCons (dVar 2) dNil)))) dNil)) (dC (.int 0))))) (dRaise "FlatMove") dNext) (dSeq (dAsg (dCall sp_lowest (dCons (dAdd (dAdd (dAdd (dVar 0) (dVar 1)) (dVar 2)) (dTup (dCons (dVar 3) dNil))) dNil)) 4) (dSeq (dIf (dTst (dLt (dVar 3) (dC (.int 0)))) (dAsg (dTuple (dLc 5 (dVar 4) (dNeg (dVar 5)))) 4) dNext) (dRet (dTup (dCons (dSl (dVar 4) dNoO (dSomeO (dC (.int 4)))) (dCons (dSl (dVar 4) (dSomeO (dC (.int 4))) (dSomeO (dC (.int 8)))) (dCons (dSl (dVar 4) (dSomeO (dC (.int 8))) (dSomeO (dC (.int 12)))) (dCons (dIx (dVar 4) (dC (.int 12))) dNil)))))))))
theorem lc13 {ρ0 : Env} {j : Nat} {k : List D → Sto → Prop} (hj : ∀ d, (ρ0.set j (some d)).getD j none = some d) (ns : List Int) (h : k ((ns.map (-·)).map .int) T) : lcZ j (dNeg (dVar j)) ρ0 k (ns.map .int) [] T := lc_neg hj ns h
theorem pure_table {N : List Str} (hN : N.length = 6) : ∀ us T P X, sp_table us T P X → d_table (dend0 P X) (startD N us) T := by
  intro us T P X h
  obtain ⟨a, b, c, d, rfl, h1⟩ := sp4.of (lock_of h)
  have e0 : startD N [a, b, c, d] = [some a, some b, some c, some d, none, none] := by unfold startD; rw [hN]; rfl
  rw [e0]; clear e0; unfold d_table
  obtain ⟨h0, h1, h2, h3, i0, i1, i2, i3, j0, j1, j2, j3, b, n, rfl, rfl, rfl, rfl, ba, hn, hX, hP⟩ := h1
  have b3 : ∀ z ∈ tabL h0 h1 h2 h3 i0 i1 i2 i3 j0 j1 j2 j3 b, Bd 8000 z := fun z hz => (ba z hz).mono hn
  have bu : B3 8000 h0 h1 h2 ∧ B3 8000 i0 i1 i2 ∧ B3 8000 j0 j1 j2 := by
    unfold tabL at b3
    exact ⟨⟨b3 _ (by simp), b3 _ (by simp), b3 _ (by simp)⟩, ⟨b3 _ (by simp), b3 _ (by simp), b3 _ (by simp)⟩, ⟨b3 _ (by simp), b3 _ (by simp), b3 _ (by simp)⟩⟩
  walk_at "dz"
  by_cases hb : b = 0
  · rw [decide_eq_true hb]
    walk_at "dz"
    exact hX (.inl hb)
  rw [decide_eq_false hb]
  walk_at "dz"
  refine sp_swelling_mk rfl ⟨_, rfl⟩ ⟨_, rfl⟩ ⟨_, rfl⟩ bu.1 bu.2.1 bu.2.2 (by decide) ?_
  walk_at "dz"
  by_cases hd : tr3 h0 h1 h2 i0 i1 i2 j0 j1 j2 = 0
  · rw [decide_eq_true hd]
    walk_at "dz"
    exact hX (.inr hd)
  rw [decide_eq_false hd]
  walk_at "dz"
  obtain ⟨x0, x1, x2, x3, y0, y1, y2, y3, z0, z1, z2, z3, w, g, e, ht, g0, em⟩ := sg13 hb hd ba
  have hF := hP hb hd _ _ _ _ _ _ _ _ _ _ _ _ _ _ e ht g0 em
  refine ⟨by simp, by simp, by simp, ?_⟩
  refine sp_lowest_mk (ns := tabL h0 h1 h2 h3 i0 i1 i2 i3 j0 j1 j2 j3 b) rfl b3 (by unfold tabL; simp) ?_
  have fin : ∀ x, dRet (dTup (dCons (dSl (dVar 4) dNoO (dSomeO (dC (.int 4)))) (dCons (dSl (dVar 4) (dSomeO (dC (.int 4))) (dSomeO (dC (.int 8)))) (dCons (dSl (dVar 4) (dSomeO (dC (.int 8))) (dSomeO (dC (.int 12)))) (dCons (dIx (dVar 4) (dC (.int 12))) dNil))))) (dend0 P X) [some (.tup [.int h0, .int h1, .int h2, .int h3]), some (.tup [.int i0, .int i1, .int i2, .int i3]), some (.tup [.int j0, .int j1, .int j2, .int j3]), some (.int b), some (.tup ((tabL x0 x1 x2 x3 y0 y1 y2 y3 z0 z1 z2 z3 w).map .int)), x] T := by
    intro x
    unfold tabL
    walk_at "dz"
    simp only [cut13a, cut13b, cut13c, at13]
    walk_at "dz"
    exact ⟨by decide, by decide, by decide, hF⟩
  walk_at "dz"
  by_cases h0' : b < 0
  · rw [decide_eq_true h0']
    rw [sgZ_neg (show (tabL h0 h1 h2 h3 i0 i1 i2 i3 j0 j1 j2 j3 b).getLastD 0 < 0 from h0')] at e
    walk_at "dz"
    refine ⟨by rw [List.length_map, lowZ_len]; unfold tabL; simp, ?_⟩
    refine lc13 (fun d => rfl) _ ?_
    rw [← lowZ_neg, e]
    walk_at "dz"
    exact fin none
  · rw [decide_eq_false h0']
    rw [sgZ_pos (show 0 < (tabL h0 h1 h2 h3 i0 i1 i2 i3 j0 j1 j2 j3 b).getLastD 0 by show 0 < b; omega)] at e
    rw [e]
    exact fin none
theorem sp_table_mk {h0 h1 h2 h3 i0 i1 i2 i3 j0 j1 j2 j3 b : Int} {n : Nat} (ba : allB n (tabL h0 h1 h2 h3 i0 i1 i2 i3 j0 j1 j2 j3 b)) (hn : n ≤ 8000) (hb : b ≠ 0) (hd : tr3 h0 h1 h2 i0 i1 i2 j0 j1 j2 ≠ 0)
    (h : ∀ x0 x1 x2 x3 y0 y1 y2 y3 z0 z1 z2 z3 w g, sgZ (tabL h0 h1 h2 h3 i0 i1 i2 i3 j0 j1 j2 j3 b) = tabL x0 x1 x2 x3 y0 y1 y2 y3 z0 z1 z2 z3 w → IsTab n x0 x1 x2 x3 y0 y1 y2 y3 z0 z1 z2 z3 w → g ≠ 0 → tabL h0 h1 h2 h3 i0 i1 i2 i3 j0 j1 j2 j3 b = (tabL x0 x1 x2 x3 y0 y1 y2 y3 z0 z1 z2 z3 w).map (g * ·) → P (tabD x0 x1 x2 x3 y0 y1 y2 y3 z0 z1 z2 z3 w) T) :
    sp_table [.tup [.int h0, .int h1, .int h2, .int h3], .tup [.int i0, .int i1, .int i2, .int i3], .tup [.int j0, .int j1, .int j2, .int j3], .int b] T P X :=
  lock_at ⟨h0, h1, h2, h3, i0, i1, i2, i3, j0, j1, j2, j3, b, n, rfl, rfl, rfl, rfl, ba, hn, fun q => by rcases q with q | q <;> first | exact absurd q hb | exact absurd q hd, fun _ _ => h⟩
theorem sp_table_mk0 {h0 h1 h2 h3 i0 i1 i2 i3 j0 j1 j2 j3 b : Int} {n : Nat} (ba : allB n (tabL h0 h1 h2 h3 i0 i1 i2 i3 j0 j1 j2 j3 b)) (hn : n ≤ 8000) (hb : b = 0 ∨ tr3 h0 h1 h2 i0 i1 i2 j0 j1 j2 = 0) (h : X "FlatMove" T) :
    sp_table [.tup [.int h0, .int h1, .int h2, .int h3], .tup [.int i0, .int i1, .int i2, .int i3], .tup [.int j0, .int j1, .int j2, .int j3], .int b] T P X :=
  lock_at ⟨h0, h1, h2, h3, i0, i1, i2, i3, j0, j1, j2, j3, b, n, rfl, rfl, rfl, rfl, ba, hn, fun _ => h, fun q1 q2 => by rcases hb with q | q <;> first | exact absurd q q1 | exact absurd q q2⟩
noncomputable def sp_behind : DSp := lock <| sp2 fun u t T P _ => ∃ h0 h1 h2 h3 i0 i1 i2 i3 j0 j1 j2 j3 b r0 r1 r2 r3 n, V4 T u r0 r1 r2 r3 ∧ t = tabD h0 h1 h2 h3 i0 i1 i2 i3 j0 j1 j2 j3 b ∧ B4 n r0 r1 r2 r3 ∧ B4 n h0 h1 h2 h3 ∧ B4 n i0 i1 i2 i3 ∧ B4 n j0 j1 j2 j3 ∧ Bd n b ∧ n ≤ 20000 ∧
  P (.tup [.int (r0 * h0 + r1 * i0 + r2 * j0), .int (r0 * h1 + r1 * i1 + r2 * j1), .int (r0 * h2 + r1 * i2 + r2 * j2), .int (r0 * h3 + r1 * i3 + r2 * j3 + r3 * b)]) T
def d_behind : DS := (dSeq (dAsg (dLstM dNil) 2) (dSeq (dForR1 (dgName 3) (dCons (dC (.int 4)) dNil) (dDrop (dApp (dVar 2) (dAdd (dAdd (dMul (dIx (dVar 0) (dC (.int 0))) (dIx (dIx (dVar 1) (dC (.int 0))) (dVar 3))) (dMul (dIx (dVar 0) (dC (.int 1))) (dIx (dIx (dVar 1) (dC (.int 1))) (dVar 3)))) (dMul (dIx (dVar 0) (dC (.int 2))) (dIx (dIx (dVar 1) (dC (.int 2))) (dVar 3))))))) (dRet (dTup (dCons (dIx (dVar 2) (dC (.int 0))) (dCons (dIx (dVar 2) (dC (.int 1))) (dCons (dIx (dVar 2) (dC (.int 2))) (dCons (dAdd (dIx (dVar 2) (dC (.int 3))) (dMul (dIx (dVar 0) (dC (.int 3))) (dIx (dVar 1) (dC (.int 3))))) dNil))))))))
theorem pure_behind {K : PySem.W.Frag} {N : List Str} (hN : N.length = 4) : ∀ us T P X, sp_behind us T P X → d_behind (dend K P X) (startD N us) T := by
  intro us T P X h
  obtain ⟨a, b, rfl, h1⟩ := sp2.of (lock_of h)
  have e0 : startD N [a, b] = [some a, some b, none, none] := by unfold startD; rw [hN]; rfl
  rw [e0]; clear e0; unfold d_behind
  obtain ⟨h0, h1, h2, h3, i0, i1, i2, i3, j0, j1, j2, j3, b, r0, r1, r2, r3, n, ⟨s1, e1⟩, rfl, br, bh, bi, bj, bb, hn, hP⟩ := h1
  obtain ⟨ra, rb, rc, rd⟩ := br.mono hn
  obtain ⟨ha, hb, hc, hd⟩ := bh.mono hn
  obtain ⟨ia, ib, ic, id'⟩ := bi.mono hn
  obtain ⟨ja, jb, jc, jd⟩ := bj.mono hn
  have bb' := bb.mono hn
  unfold tabD
  walk_at "dz"
  intro p hp
  have e2 : ∀ m, seqOf (updT T p m) a = some (.int r0 :: .int r1 :: .int r2 :: .int r3 :: s1) := fun m => seq_off hp e1
  (try simp -dsimp (maxSteps := 3000000) only [e2, ↓SY.someOf_z, ↓SY.int1_z, ↓SY.int2_z, ↓SY.bl1_z, ↓SY.optK_z, ↓SY.seqK_z, ↓SY.ixD_z, ↓SY.addD_z, ↓SY.lenD_z, ↓SY.slD_z, ↓SY.setD_z, ↓SY.appD_z, ↓SY.popD_z, ↓SY.dgsK_z, ↓SY.one_z, ↓SY.two_z, ↓SY.intK_z, ↓SY.rng1_z, ↓SY.rng2_z, ↓SY.frzK_z, ↓SY.forL_z, ↓SY.lcL_z, ↓SY.dSeq_z, SY.someZ_s, SY.int1Z_s, SY.int2Z_s, SY.bl1Z_s, SY.optZ_s, SY.addZ_i, SY.addZ_s, SY.addZ_t, SY.addZ_l, SY.addZ_p, SY.lenZ_t, SY.lenZ_l, SY.lenZ_s, SY.lenZ_p, SY.slZ_t, SY.slZ_l, SY.slZ_s, SY.slZ_p, SY.setZ_s, SY.appZ_s, SY.popZ_s, SY.dgsZ_s, SY.nilK_s, SY.oneZ_s, SY.twoZ_s, SY.intZ_i, SY.intZ_b, SY.rng1Z_s, SY.rng2Z_s, SY.frzZ_p, SY.frzZ_l, SY.frzZ_t, SY.forZ_nil, SY.forZ_cons, SY.lcZ_nil, SY.lcZ_cons, SY.goZ_s, ↓SY.sq_nx, ↓SY.sq_rt, ↓SY.sq_bk, ↓SY.sq_ct, ↓SY.sq_ex, ↓SY.lp_nx, ↓SY.lp_ct, ↓SY.lp_bk, ↓SY.lp_rt, ↓SY.lp_ex, SY.dAsg, SY.dRet, SY.dRetN, SY.dNext, SY.dIf, SY.dTst, SY.dC, SY.dVar, SY.dI, SY.dI0, SY.dMul, SY.dDiv, SY.dMod, SY.dPow, SY.dSub, SY.dLt, SY.dLe, SY.dGt, SY.dGe, SY.dNeg, SY.dAdd, SY.dIx, SY.dNil, SY.dCons, SY.dTup, SY.dLst, SY.dLstM, ↓SY.dCall_z, SY.dAbs, SY.dLen, SY.dTuple, SY.dList, SY.dListM, SY.dEq, SY.dNe, SY.dIsN, SY.dNotN, SY.dIsB, SY.dNotB, SY.dFrz, SY.dRaise, SY.dTryAs, SY.dTryOnly, SY.dIsE, SY.dtAnd, SY.dtOr, SY.dtNot, SY.dAnd, SY.dOr, SY.dNot, SY.dIsi, SY.dAll, SY.dSum, SY.dInt, SY.dSl, SY.dNoO, SY.dSomeO, SY.dDrop, SY.dAug, SY.dPar, SY.dAsgG, SY.dgName, SY.dgTup, SY.dgsNil, SY.dgsName, SY.dgSub, SY.dApp, SY.dPopAt, SY.dFor, SY.dForR1, SY.dForR2, SY.dForE, SY.dLc, SY.dLcR, SY.dLcRM, SY.rngL, SY.enumL, SY.frozen_tup, SY.frozen_lst, SY.frozen_scr, SY.frozL_lst, SY.frozL_scr, SY.seqOf_tup, SY.seqOf_lst, SY.seqOf_scr, SY.seqOf_ptr, SY.seqOf_int, SY.seqOf_str, SY.lstOf_lst, SY.lstOf_scr, SY.lstOf_ptr, SY.mlst_lst, SY.plst_lst, SY.plst_ptr, SY.isPtrL, SY.tyN, SY.isNon, SY.blsOf, SY.intsOf, SY.dend0, SY.dend, SY.startD, SY.eqOk_int, SY.eqv_int, SY.atI0, SY.atI1, SY.atI2, SY.atI3, SY.atI4, SY.atI5, SY.ixN0, decide_true, decide_false, Int.reduceEq, Int.reduceLT, Int.reduceLE, SY.ixN_21, SY.ixN_31, SY.ixN_32, SY.ixN_41, SY.ixN_42, SY.ixN_43, SY.seqIx0, SY.updT_same, SY.updT_updT, List.map_cons, List.map_nil, List.length_cons, List.length_nil, List.replicate, List.cons_append, List.nil_append, List.getD_cons_zero, List.getD_cons_succ, List.set_cons_zero, List.set_cons_succ, List.getElem?_cons_zero, List.eraseIdx_cons_zero, Option.isSome_some, Option.map_some, Int.reduceToNat, Int.reducePow, Int.reduceAdd, Int.reduceMul, Nat.zero_lt_succ, Nat.reduceLT, Nat.sub_self, Nat.reduceSub, Nat.reduceAdd, Nat.reduceLeDiff, Nat.zero_add, SY.kit_ii, SY.kit_ib, SY.kit_it, SY.kit_bi, SY.kit_bb, SY.kit_tt, SY.kit_ti, SY.kit_tb, SY.kit_nt, SY.kit_ll, SY.kit_lt, Bool.not_true, Bool.not_false, if_true, if_false, reduceIte, Bool.false_eq_true, true_and, and_true, and_self])
  refine ⟨⟨by decide, by decide⟩, ?_⟩
  walk_at "mos"
  exact ⟨_, T, Wk.drop fun a m e => updT_off hp e, hP⟩
theorem sp_behind_mk {u : D} {h0 h1 h2 h3 i0 i1 i2 i3 j0 j1 j2 j3 b r0 r1 r2 r3 : Int} {n : Nat} (hu : V4 T u r0 r1 r2 r3) (br : B4 n r0 r1 r2 r3) (bh : B4 n h0 h1 h2 h3) (bi : B4 n i0 i1 i2 i3) (bj : B4 n j0 j1 j2 j3) (bb : Bd n b) (hn : n ≤ 20000)
    (h : P (.tup [.int (r0 * h0 + r1 * i0 + r2 * j0), .int (r0 * h1 + r1 * i1 + r2 * j1), .int (r0 * h2 + r1 * i2 + r2 * j2), .int (r0 * h3 + r1 * i3 + r2 * j3 + r3 * b)]) T) : sp_behind [u, tabD h0 h1 h2 h3 i0 i1 i2 i3 j0 j1 j2 j3 b] T P X := lock_at ⟨_, _, _, _, _, _, _, _, _, _, _, _, _, _, _, _, _, n, hu, rfl, br, bh, bi, bj, bb, hn, h⟩
end
end SY

namespace SY
open PySem PySem.Spec PyProof.Rows L2
/-- the product of two tables: first h i j b, then e f g c -/
def prL (h0 h1 h2 h3 i0 i1 i2 i3 j0 j1 j2 j3 b e0 e1 e2 e3 f0 f1 f2 f3 g0 g1 g2 g3 c : Int) : List Int :=
  tabL (e0 * h0 + e1 * i0 + e2 * j0) (e0 * h1 + e1 * i1 + e2 * j1) (e0 * h2 + e1 * i2 + e2 * j2) (e0 * h3 + e1 * i3 + e2 * j3 + e3 * b)
    (f0 * h0 + f1 * i0 + f2 * j0) (f0 * h1 + f1 * i1 + f2 * j1) (f0 * h2 + f1 * i2 + f2 * j2) (f0 * h3 + f1 * i3 + f2 * j3 + f3 * b)
    (g0 * h0 + g1 * i0 + g2 * j0) (g0 * h1 + g1 * i1 + g2 * j1) (g0 * h2 + g1 * i2 + g2 * j2) (g0 * h3 + g1 * i3 + g2 * j3 + g3 * b) (b * c)
theorem det_mul (h0 h1 h2 i0 i1 i2 j0 j1 j2 e0 e1 e2 f0 f1 f2 g0 g1 g2 : Int) : tr3 (e0 * h0 + e1 * i0 + e2 * j0) (e0 * h1 + e1 * i1 + e2 * j1) (e0 * h2 + e1 * i2 + e2 * j2) (f0 * h0 + f1 * i0 + f2 * j0) (f0 * h1 + f1 * i1 + f2 * j1) (f0 * h2 + f1 * i2 + f2 * j2) (g0 * h0 + g1 * i0 + g2 * j0) (g0 * h1 + g1 * i1 + g2 * j1) (g0 * h2 + g1 * i2 + g2 * j2) = tr3 e0 e1 e2 f0 f1 f2 g0 g1 g2 * tr3 h0 h1 h2 i0 i1 i2 j0 j1 j2 := by unfold tr3; grind
theorem prL_bd {h0 h1 h2 h3 i0 i1 i2 i3 j0 j1 j2 j3 b e0 e1 e2 e3 f0 f1 f2 f3 g0 g1 g2 g3 c : Int} (bh : B4 600 h0 h1 h2 h3) (bi : B4 600 i0 i1 i2 i3) (bj : B4 600 j0 j1 j2 j3) (bb : Bd 600 b) (be : B4 600 e0 e1 e2 e3) (bf : B4 600 f0 f1 f2 f3) (bg : B4 600 g0 g1 g2 g3) (bc : Bd 600 c) : allB 1210 (prL h0 h1 h2 h3 i0 i1 i2 i3 j0 j1 j2 j3 b e0 e1 e2 e3 f0 f1 f2 f3 g0 g1 g2 g3 c) := by
  obtain ⟨ha, hb, hc, hd⟩ := bh
  obtain ⟨ia, ib, ic, id'⟩ := bi
  obtain ⟨ja, jb, jc, jd⟩ := bj
  obtain ⟨ea, eb, ec, ed⟩ := be
  obtain ⟨fa, fb, fc, fd⟩ := bf
  obtain ⟨ga, gb, gc, gd⟩ := bg
  unfold prL
  exact all13 ⟨by walk_at "bt", by walk_at "bt", by walk_at "bt", by walk_at "bt"⟩ ⟨by walk_at "bt", by walk_at "bt", by walk_at "bt", by walk_at "bt"⟩ ⟨by walk_at "bt", by walk_at "bt", by walk_at "bt", by walk_at "bt"⟩ (by walk_at "bt")
section
variable {T : Sto} {P : D → Sto → Prop} {X : Xc → Sto → Prop}
noncomputable def sp_after : DSp := lock <| sp2 fun s t T P _ => ∃ h0 h1 h2 h3 i0 i1 i2 i3 j0 j1 j2 j3 b e0 e1 e2 e3 f0 f1 f2 f3 g0 g1 g2 g3 c, s = tabD h0 h1 h2 h3 i0 i1 i2 i3 j0 j1 j2 j3 b ∧ t = tabD e0 e1 e2 e3 f0 f1 f2 f3 g0 g1 g2 g3 c ∧ IsTab 600 h0 h1 h2 h3 i0 i1 i2 i3 j0 j1 j2 j3 b ∧ IsTab 600 e0 e1 e2 e3 f0 f1 f2 f3 g0 g1 g2 g3 c ∧
  ∀ x0 x1 x2 x3 y0 y1 y2 y3 z0 z1 z2 z3 w k, sgZ (prL h0 h1 h2 h3 i0 i1 i2 i3 j0 j1 j2 j3 b e0 e1 e2 e3 f0 f1 f2 f3 g0 g1 g2 g3 c) = tabL x0 x1 x2 x3 y0 y1 y2 y3 z0 z1 z2 z3 w → IsTab 1210 x0 x1 x2 x3 y0 y1 y2 y3 z0 z1 z2 z3 w → k ≠ 0 → prL h0 h1 h2 h3 i0 i1 i2 i3 j0 j1 j2 j3 b e0 e1 e2 e3 f0 f1 f2 f3 g0 g1 g2 g3 c = (tabL x0 x1 x2 x3 y0 y1 y2 y3 z0 z1 z2 z3 w).map (k * ·) → P (tabD x0 x1 x2 x3 y0 y1 y2 y3 z0 z1 z2 z3 w) T
def d_after : DS := (dSeq (dAsg (dLc 3 (dSl (dVar 1) dNoO (dSomeO (dC (.int 3)))) (dCall sp_behind (dCons (dVar 3) (dCons (dVar 0) dNil)))) 2) (dRet (dCall sp_table (dCons (dIx (dVar 2) (dC (.int 0))) (dCons (dIx (dVar 2) (dC (.int 1))) (dCons (dIx (dVar 2) (dC (.int 2))) (dCons (dMul (dIx (dVar 0) (dC (.int 3))) (dIx (dVar 1) (dC (.int 3)))) dNil)))))))
theorem cut4t (a b c d : D) : cutD [a, b, c, d] none (some 3) = [a, b, c] := rfl
theorem pure_after {N : List Str} (hN : N.length = 4) : ∀ us T P X, sp_after us T P X → d_after (dend0 P X) (startD N us) T := by
  intro us T P X h
  obtain ⟨a, b, rfl, h1⟩ := sp2.of (lock_of h)
  have e0 : startD N [a, b] = [some a, some b, none, none] := by unfold startD; rw [hN]; rfl
  rw [e0]; clear e0; unfold d_after
  obtain ⟨h0, h1, h2, h3, i0, i1, i2, i3, j0, j1, j2, j3, b, e0, e1, e2, e3, f0, f1, f2, f3, g0, g1, g2, g3, c, rfl, rfl, ht, hu, hP⟩ := h1
  have bb := ht.bb
  have bc := hu.bb
  have et : tabD e0 e1 e2 e3 f0 f1 f2 f3 g0 g1 g2 g3 c = .tup [.tup [.int e0, .int e1, .int e2, .int e3], .tup [.int f0, .int f1, .int f2, .int f3], .tup [.int g0, .int g1, .int g2, .int g3], .int c] := rfl
  have e13 : ∀ T', seqOf T' (tabD h0 h1 h2 h3 i0 i1 i2 i3 j0 j1 j2 j3 b) = some [.tup [.int h0, .int h1, .int h2, .int h3], .tup [.int i0, .int i1, .int i2, .int i3], .tup [.int j0, .int j1, .int j2, .int j3], .int b] := fun _ => rfl
  (try simp -dsimp (maxSteps := 3000000) only [et, cut4t, ↓SY.someOf_z, ↓SY.int1_z, ↓SY.int2_z, ↓SY.bl1_z, ↓SY.optK_z, ↓SY.seqK_z, ↓SY.ixD_z, ↓SY.addD_z, ↓SY.lenD_z, ↓SY.slD_z, ↓SY.setD_z, ↓SY.appD_z, ↓SY.popD_z, ↓SY.dgsK_z, ↓SY.one_z, ↓SY.two_z, ↓SY.intK_z, ↓SY.rng1_z, ↓SY.rng2_z, ↓SY.frzK_z, ↓SY.forL_z, ↓SY.lcL_z, ↓SY.dSeq_z, SY.someZ_s, SY.int1Z_s, SY.int2Z_s, SY.bl1Z_s, SY.optZ_s, SY.addZ_i, SY.addZ_s, SY.addZ_t, SY.addZ_l, SY.addZ_p, SY.lenZ_t, SY.lenZ_l, SY.lenZ_s, SY.lenZ_p, SY.slZ_t, SY.slZ_l, SY.slZ_s, SY.slZ_p, SY.setZ_s, SY.appZ_s, SY.popZ_s, SY.dgsZ_s, SY.nilK_s, SY.oneZ_s, SY.twoZ_s, SY.intZ_i, SY.intZ_b, SY.rng1Z_s, SY.rng2Z_s, SY.frzZ_p, SY.frzZ_l, SY.frzZ_t, SY.forZ_nil, SY.forZ_cons, SY.lcZ_nil, SY.lcZ_cons, SY.goZ_s, ↓SY.sq_nx, ↓SY.sq_rt, ↓SY.sq_bk, ↓SY.sq_ct, ↓SY.sq_ex, ↓SY.lp_nx, ↓SY.lp_ct, ↓SY.lp_bk, ↓SY.lp_rt, ↓SY.lp_ex, SY.dAsg, SY.dRet, SY.dRetN, SY.dNext, SY.dIf, SY.dTst, SY.dC, SY.dVar, SY.dI, SY.dI0, SY.dMul, SY.dDiv, SY.dMod, SY.dPow, SY.dSub, SY.dLt, SY.dLe, SY.dGt, SY.dGe, SY.dNeg, SY.dAdd, SY.dIx, SY.dNil, SY.dCons, SY.dTup, SY.dLst, SY.dLstM, ↓SY.dCall_z, SY.dAbs, SY.dLen, SY.dTuple, SY.dList, SY.dListM, SY.dEq, SY.dNe, SY.dIsN, SY.dNotN, SY.dIsB, SY.dNotB, SY.dFrz, SY.dRaise, SY.dTryAs, SY.dTryOnly, SY.dIsE, SY.dtAnd, SY.dtOr, SY.dtNot, SY.dAnd, SY.dOr, SY.dNot, SY.dIsi, SY.dAll, SY.dSum, SY.dInt, SY.dSl, SY.dNoO, SY.dSomeO, SY.dDrop, SY.dAug, SY.dPar, SY.dAsgG, SY.dgName, SY.dgTup, SY.dgsNil, SY.dgsName, SY.dgSub, SY.dApp, SY.dPopAt, SY.dFor, SY.dForR1, SY.dForR2, SY.dForE, SY.dLc, SY.dLcR, SY.dLcRM, SY.rngL, SY.enumL, SY.frozen_tup, SY.frozen_lst, SY.frozen_scr, SY.frozL_lst, SY.frozL_scr, SY.seqOf_tup, SY.seqOf_lst, SY.seqOf_scr, SY.seqOf_ptr, SY.seqOf_int, SY.seqOf_str, SY.lstOf_lst, SY.lstOf_scr, SY.lstOf_ptr, SY.mlst_lst, SY.plst_lst, SY.plst_ptr, SY.isPtrL, SY.tyN, SY.isNon, SY.blsOf, SY.intsOf, SY.dend0, SY.dend, SY.startD, SY.eqOk_int, SY.eqv_int, SY.atI0, SY.atI1, SY.atI2, SY.atI3, SY.atI4, SY.atI5, SY.ixN0, decide_true, decide_false, Int.reduceEq, Int.reduceLT, Int.reduceLE, SY.ixN_21, SY.ixN_31, SY.ixN_32, SY.ixN_41, SY.ixN_42, SY.ixN_43, SY.seqIx0, SY.updT_same, SY.updT_updT, List.map_cons, List.map_nil, List.length_cons, List.length_nil, List.replicate, List.cons_append, List.nil_append, List.getD_cons_zero, List.getD_cons_succ, List.set_cons_zero, List.set_cons_succ, List.getElem?_cons_zero, List.eraseIdx_cons_zero, Option.isSome_some, Option.map_some, Int.reduceToNat, Int.reducePow, Int.reduceAdd, Int.reduceMul, Nat.zero_lt_succ, Nat.reduceLT, Nat.sub_self, Nat.reduceSub, Nat.reduceAdd, Nat.reduceLeDiff, Nat.zero_add, SY.kit_ii, SY.kit_ib, SY.kit_it, SY.kit_bi, SY.kit_bb, SY.kit_tt, SY.kit_ti, SY.kit_tb, SY.kit_nt, SY.kit_ll, SY.kit_lt, Bool.not_true, Bool.not_false, if_true, if_false, reduceIte, Bool.false_eq_true, true_and, and_true, and_self])
  refine ⟨by decide, ?_⟩
  refine sp_behind_mk ⟨_, rfl⟩ hu.bh ht.bh ht.bi ht.bj ht.bb (by decide) ?_
  walk_at "dz"
  refine sp_behind_mk ⟨_, rfl⟩ hu.bi ht.bh ht.bi ht.bj ht.bb (by decide) ?_
  walk_at "dz"
  refine sp_behind_mk ⟨_, rfl⟩ hu.bj ht.bh ht.bi ht.bj ht.bb (by decide) ?_
  (try simp -dsimp (maxSteps := 3000000) only [e13, ↓SY.someOf_z, ↓SY.int1_z, ↓SY.int2_z, ↓SY.bl1_z, ↓SY.optK_z, ↓SY.seqK_z, ↓SY.ixD_z, ↓SY.addD_z, ↓SY.lenD_z, ↓SY.slD_z, ↓SY.setD_z, ↓SY.appD_z, ↓SY.popD_z, ↓SY.dgsK_z, ↓SY.one_z, ↓SY.two_z, ↓SY.intK_z, ↓SY.rng1_z, ↓SY.rng2_z, ↓SY.frzK_z, ↓SY.forL_z, ↓SY.lcL_z, ↓SY.dSeq_z, SY.someZ_s, SY.int1Z_s, SY.int2Z_s, SY.bl1Z_s, SY.optZ_s, SY.addZ_i, SY.addZ_s, SY.addZ_t, SY.addZ_l, SY.addZ_p, SY.lenZ_t, SY.lenZ_l, SY.lenZ_s, SY.lenZ_p, SY.slZ_t, SY.slZ_l, SY.slZ_s, SY.slZ_p, SY.setZ_s, SY.appZ_s, SY.popZ_s, SY.dgsZ_s, SY.nilK_s, SY.oneZ_s, SY.twoZ_s, SY.intZ_i, SY.intZ_b, SY.rng1Z_s, SY.rng2Z_s, SY.frzZ_p, SY.frzZ_l, SY.frzZ_t, SY.forZ_nil, SY.forZ_cons, SY.lcZ_nil, SY.lcZ_cons, SY.goZ_s, ↓SY.sq_nx, ↓SY.sq_rt, ↓SY.sq_bk, ↓SY.sq_ct, ↓SY.sq_ex, ↓SY.lp_nx, ↓SY.lp_ct, ↓SY.lp_bk, ↓SY.lp_rt, ↓SY.lp_ex, SY.dAsg, SY.dRet, SY.dRetN, SY.dNext, SY.dIf, SY.dTst, SY.dC, SY.dVar, SY.dI, SY.dI0, SY.dMul, SY.dDiv, SY.dMod, SY.dPow, SY.dSub, SY.dLt, SY.dLe, SY.dGt, SY.dGe, SY.dNeg, SY.dAdd, SY.dIx, SY.dNil, SY.dCons, SY.dTup, SY.dLst, SY.dLstM, ↓SY.dCall_z, SY.dAbs, SY.dLen, SY.dTuple, SY.dList, SY.dListM, SY.dEq, SY.dNe, SY.dIsN, SY.dNotN, SY.dIsB, SY.dNotB, SY.dFrz, SY.dRaise, SY.dTryAs, SY.dTryOnly, SY.dIsE, SY.dtAnd, SY.dtOr, SY.dtNot, SY.dAnd, SY.dOr, SY.dNot, SY.dIsi, SY.dAll, SY.dSum, SY.dInt, SY.dSl, SY.dNoO, SY.dSomeO, SY.dDrop, SY.dAug, SY.dPar, SY.dAsgG, SY.dgName, SY.dgTup, SY.dgsNil, SY.dgsName, SY.dgSub, SY.dApp, SY.dPopAt, SY.dFor, SY.dForR1, SY.dForR2, SY.dForE, SY.dLc, SY.dLcR, SY.dLcRM, SY.rngL, SY.enumL, SY.frozen_tup, SY.frozen_lst, SY.frozen_scr, SY.frozL_lst, SY.frozL_scr, SY.seqOf_tup, SY.seqOf_lst, SY.seqOf_scr, SY.seqOf_ptr, SY.seqOf_int, SY.seqOf_str, SY.lstOf_lst, SY.lstOf_scr, SY.lstOf_ptr, SY.mlst_lst, SY.plst_lst, SY.plst_ptr, SY.isPtrL, SY.tyN, SY.isNon, SY.blsOf, SY.intsOf, SY.dend0, SY.dend, SY.startD, SY.eqOk_int, SY.eqv_int, SY.atI0, SY.atI1, SY.atI2, SY.atI3, SY.atI4, SY.atI5, SY.ixN0, decide_true, decide_false, Int.reduceEq, Int.reduceLT, Int.reduceLE, SY.ixN_21, SY.ixN_31, SY.ixN_32, SY.ixN_41, SY.ixN_42, SY.ixN_43, SY.seqIx0, SY.updT_same, SY.updT_updT, List.map_cons, List.map_nil, List.length_cons, List.length_nil, List.replicate, List.cons_append, List.nil_append, List.getD_cons_zero, List.getD_cons_succ, List.set_cons_zero, List.set_cons_succ, List.getElem?_cons_zero, List.eraseIdx_cons_zero, Option.isSome_some, Option.map_some, Int.reduceToNat, Int.reducePow, Int.reduceAdd, Int.reduceMul, Nat.zero_lt_succ, Nat.reduceLT, Nat.sub_self, Nat.reduceSub, Nat.reduceAdd, Nat.reduceLeDiff, Nat.zero_add, SY.kit_ii, SY.kit_ib, SY.kit_it, SY.kit_bi, SY.kit_bb, SY.kit_tt, SY.kit_ti, SY.kit_tb, SY.kit_nt, SY.kit_ll, SY.kit_lt, Bool.not_true, Bool.not_false, if_true, if_false, reduceIte, Bool.false_eq_true, true_and, and_true, and_self])
  refine ⟨by walk_at "mo", ?_⟩
  exact sp_table_mk (prL_bd ht.bh ht.bi ht.bj ht.bb hu.bh hu.bi hu.bj hu.bb) (by decide) (Int.mul_ne_zero (by have := ht.pos; omega) (by have := hu.pos; omega)) (by rw [det_mul]; exact Int.mul_ne_zero hu.det ht.det) hP
theorem sp_after_mk {h0 h1 h2 h3 i0 i1 i2 i3 j0 j1 j2 j3 b e0 e1 e2 e3 f0 f1 f2 f3 g0 g1 g2 g3 c : Int} (ht : IsTab 600 h0 h1 h2 h3 i0 i1 i2 i3 j0 j1 j2 j3 b) (hu : IsTab 600 e0 e1 e2 e3 f0 f1 f2 f3 g0 g1 g2 g3 c)
    (h : ∀ x0 x1 x2 x3 y0 y1 y2 y3 z0 z1 z2 z3 w k, sgZ (prL h0 h1 h2 h3 i0 i1 i2 i3 j0 j1 j2 j3 b e0 e1 e2 e3 f0 f1 f2 f3 g0 g1 g2 g3 c) = tabL x0 x1 x2 x3 y0 y1 y2 y3 z0 z1 z2 z3 w → IsTab 1210 x0 x1 x2 x3 y0 y1 y2 y3 z0 z1 z2 z3 w → k ≠ 0 → prL h0 h1 h2 h3 i0 i1 i2 i3 j0 j1 j2 j3 b e0 e1 e2 e3 f0 f1 f2 f3 g0 g1 g2 g3 c = (tabL x0 x1 x2 x3 y0 y1 y2 y3 z0 z1 z2 z3 w).map (k * ·) → P (tabD x0 x1 x2 x3 y0 y1 y2 y3 z0 z1 z2 z3 w) T) :
    sp_after [tabD h0 h1 h2 h3 i0 i1 i2 i3 j0 j1 j2 j3 b, tabD e0 e1 e2 e3 f0 f1 f2 f3 g0 g1 g2 g3 c] T P X := lock_at ⟨_, _, _, _, _, _, _, _, _, _, _, _, _, _, _, _, _, _, _, _, _, _, _, _, _, _, rfl, rfl, ht, hu, h⟩
end
theorem IsTab.mono {m n : Nat} {h0 h1 h2 h3 i0 i1 i2 i3 j0 j1 j2 j3 b : Int} (h : IsTab m h0 h1 h2 h3 i0 i1 i2 i3 j0 j1 j2 j3 b) (l : m ≤ n) : IsTab n h0 h1 h2 h3 i0 i1 i2 i3 j0 j1 j2 j3 b := ⟨h.pos, h.det, h.low, h.bh.mono l, h.bi.mono l, h.bj.mono l, h.bb.mono l⟩
/-- a table that is told as another one's multiple moves alike -/
theorem mv_smul {h0 h1 h2 h3 i0 i1 i2 i3 j0 j1 j2 j3 b x0 x1 x2 x3 y0 y1 y2 y3 z0 z1 z2 z3 w k p q r s : Int} (e : tabL h0 h1 h2 h3 i0 i1 i2 i3 j0 j1 j2 j3 b = (tabL x0 x1 x2 x3 y0 y1 y2 y3 z0 z1 z2 z3 w).map (k * ·)) : mvL h0 h1 h2 h3 i0 i1 i2 i3 j0 j1 j2 j3 b p q r s = (mvL x0 x1 x2 x3 y0 y1 y2 y3 z0 z1 z2 z3 w p q r s).map (k * ·) := by
  unfold tabL at e
  simp only [List.map_cons, List.map_nil, List.cons.injEq, and_true] at e
  obtain ⟨rfl, rfl, rfl, rfl, rfl, rfl, rfl, rfl, rfl, rfl, rfl, rfl, rfl⟩ := e
  unfold mvL hgt
  simp only [List.map_cons, List.map_nil, List.cons.injEq, and_true]
  refine ⟨?_, ?_, ?_, ?_⟩ <;> grind
/-- a point that is told as another one's multiple is moved alike -/
theorem mv_pt {h0 h1 h2 h3 i0 i1 i2 i3 j0 j1 j2 j3 b p q r s p' q' r' s' k : Int} (e : [p, q, r, s] = [p', q', r', s'].map (k * ·)) : mvL h0 h1 h2 h3 i0 i1 i2 i3 j0 j1 j2 j3 b p q r s = (mvL h0 h1 h2 h3 i0 i1 i2 i3 j0 j1 j2 j3 b p' q' r' s').map (k * ·) := by
  simp only [List.map_cons, List.map_nil, List.cons.injEq, and_true] at e
  obtain ⟨rfl, rfl, rfl, rfl⟩ := e
  unfold mvL hgt
  simp only [List.map_cons, List.map_nil, List.cons.injEq, and_true]
  refine ⟨?_, ?_, ?_, ?_⟩ <;> grind
def mvP (t : List Int) (p : List Int) : List Int := match t, p with
  | [h0, h1, h2, h3, i0, i1, i2, i3, j0, j1, j2, j3, b], [x, y, z, w] => mvL h0 h1 h2 h3 i0 i1 i2 i3 j0 j1 j2 j3 b x y z w
  | _, _ => []
/-- one table after the other -/
theorem mv_prL {h0 h1 h2 h3 i0 i1 i2 i3 j0 j1 j2 j3 b e0 e1 e2 e3 f0 f1 f2 f3 g0 g1 g2 g3 c x y z w : Int} : mvP (prL h0 h1 h2 h3 i0 i1 i2 i3 j0 j1 j2 j3 b e0 e1 e2 e3 f0 f1 f2 f3 g0 g1 g2 g3 c) [x, y, z, w] = mvP (tabL e0 e1 e2 e3 f0 f1 f2 f3 g0 g1 g2 g3 c) (mvL h0 h1 h2 h3 i0 i1 i2 i3 j0 j1 j2 j3 b x y z w) := by
  unfold prL tabL mvP mvL hgt
  simp only [List.cons.injEq, and_true]
  refine ⟨?_, ?_, ?_, ?_⟩ <;> grind
end SY

namespace SY
open PySem PySem.Spec PyProof.Rows L2
/-! ### texts by their signs -/
abbrev S := SX.S
def isFig (c : Nat) : Bool := decide (48 ≤ c) && decide (c ≤ 57)
def figs (l : List Nat) : Bool := decide (l.length ≠ 0) && (decide (l.length ≤ 60) && l.all isFig)
def numI (i : Int) : List Nat := if i < 0 then 45 :: TL.numL i.natAbs else TL.numL i.natAbs
theorem str_num (i : Int) : Str.ofString (toString i) = S (numI i) := by
  cases i with
  | ofNat n => 
    show Str.ofString (toString ((n : Nat) : Int)) = S (numI ((n : Nat) : Int))
    rw [SX.num_S]
    unfold numI
    rw [if_neg (Int.not_lt.mpr (Int.natCast_nonneg n))]
    rfl
  | negSucc n =>
    unfold numI
    rw [if_pos (by omega)]
    refine TL.ext_tl ?_
    rw [TL.tl_ofString]
    show ("-" ++ toString (n + 1)).toList.map Char.toNat = 45 :: TL.numL (n + 1)
    rw [String.toList_append, List.map_append]
    have e := TL.tl_num (n + 1)
    rw [TL.tl_ofString] at e
    have e2 : (toString (n + 1)).toList.map Char.toNat = TL.numL (n + 1) := e
    rw [e2]
    rfl
def wr (t b : Int) : List Nat := if b = 1 then numI t else numI t ++ 47 :: numI b
theorem numL_fig {n c : Nat} (h : c ∈ TL.numL n) : isFig c = true := by
  have := TL.numL_digits n c h
  unfold isFig
  simp [this]
theorem numL_figs {n : Nat} (h : n < 10 ^ 60) : figs (TL.numL n) = true := by
  unfold figs
  have h1 := TL.numL_len (by decide) h
  have h2 := TL.numL_ne n
  have h3 : (TL.numL n).all isFig = true := List.all_eq_true.mpr fun c hc => numL_fig hc
  rw [h3, decide_eq_true (by intro e; exact h2 (List.length_eq_zero_iff.mp e)), decide_eq_true h1]
  rfl
def val (l : List Nat) : Nat := NumText.digitsVal l
theorem val_numL (n : Nat) : val (TL.numL n) = n := TL.numL_val n
theorem int_val {l : List Nat} (h : figs l = true) : PySem.intText? (S l) = some ((val l : Nat) : Int) := by
  unfold figs at h
  simp only [Bool.and_eq_true, decide_eq_true_eq] at h
  exact SX.int_S (a := l) h.2.2 (fun e => h.1 (by rw [e]; rfl)) (by omega)
theorem figs_len {l : List Nat} (h : figs l = true) : l.length ≤ 60 := by
  unfold figs at h
  simp only [Bool.and_eq_true, decide_eq_true_eq] at h
  exact h.2.1
theorem val_lt : ∀ (l : List Nat) (a : Nat), l.all isFig = true → l.foldl (fun acc c => acc * 10 + (c - 48)) a < (a + 1) * 10 ^ l.length
  | [], a, _ => by simp
  | c :: l, a, h => by
    simp only [List.all_cons, Bool.and_eq_true] at h
    have ih := val_lt l (a * 10 + (c - 48)) h.2
    have hc : c ≤ 57 ∧ 48 ≤ c := by
      have := h.1
      unfold isFig at this
      simp only [Bool.and_eq_true, decide_eq_true_eq] at this
      omega
    simp only [List.foldl_cons, List.length_cons, Nat.pow_succ]
    refine Nat.lt_of_lt_of_le ih ?_
    have : (a + 1) * (10 ^ l.length * 10) = ((a + 1) * 10) * 10 ^ l.length := by rw [Nat.mul_comm (10 ^ l.length) 10, ← Nat.mul_assoc]
    rw [this]
    exact Nat.mul_le_mul_right _ (by omega)
theorem val_bd {l : List Nat} (h : figs l = true) : val l < 10 ^ 60 := by
  have hl := figs_len h
  unfold figs at h
  simp only [Bool.and_eq_true, decide_eq_true_eq] at h
  have := val_lt l 0 h.2.2
  refine Nat.lt_of_lt_of_le this ?_
  rw [Nat.zero_add, Nat.one_mul]
  exact Nat.pow_le_pow_right (by decide) hl
/-- the parts between strokes -/
def parts (l : List Nat) : List (List Nat) := TL.spl [47] 0 [] l
def two' (neg : Bool) (a b : List Nat) : Option (Int × Int) := if figs a = true ∧ figs b = true ∧ val b ≠ 0 then some ((if neg = true then -(val a : Int) else (val a : Int)), (val b : Int)) else none
def rdP (neg : Bool) : List (List Nat) → Option (Int × Int)
  | [a] => two' neg a [49]
  | [a, b] => two' neg a b
  | _ => none
def isNeg (l : List Nat) : Bool := l.take 1 == [45]
def rdN (l : List Nat) : Option (Int × Int) := rdP (isNeg l) (parts (if isNeg l = true then l.drop 1 else l))
theorem parts_one {a : List Nat} (h : 47 ∉ a) : parts a = [a] := TL.spl_last1 (acc := []) h
theorem parts_cons {a b : List Nat} (h : 47 ∉ a) : parts (a ++ 47 :: b) = a :: parts b := TL.spl_part1 (S := []) (acc := []) h
theorem fig_free {a : List Nat} {c : Nat} (h : figs a = true) (hc : isFig c = false) : c ∉ a := fun m => by
  unfold figs at h
  simp only [Bool.and_eq_true, decide_eq_true_eq] at h
  have := List.all_eq_true.mp h.2.2 c m
  rw [hc] at this
  cases this
theorem isNeg_numL (n : Nat) (r : List Nat) : isNeg (TL.numL n ++ r) = false := by
  unfold isNeg
  have hn := TL.numL_ne n
  cases e : TL.numL n with
  | nil => exact absurd e hn
  | cons c l =>
    have : c ≠ 45 := fun z => by
      have hm : c ∈ TL.numL n := by rw [e]; exact List.mem_cons_self ..
      have := numL_fig hm
      rw [z] at this
      cases this
    simp [this]
/-- what is written is read -/
theorem rd_wr {t b : Int} (ht : t.natAbs < 10 ^ 60) (hb : 0 < b) (hb2 : b < 10 ^ 60) : rdN (wr t b) = some (t, b) := by
  have f1 := numL_figs ht
  have f2 := numL_figs (n := b.natAbs) (by omega)
  have e47 : 47 ∉ TL.numL t.natAbs := fig_free f1 rfl
  have e47b : 47 ∉ TL.numL b.natAbs := fig_free f2 rfl
  have eb : numI b = TL.numL b.natAbs := by unfold numI; rw [if_neg (by omega)]
  have key : ∀ neg : Bool, rdP neg (parts (TL.numL t.natAbs ++ if b = 1 then [] else 47 :: TL.numL b.natAbs)) = some ((if neg = true then -(t.natAbs : Int) else (t.natAbs : Int)), b) := by
    intro neg
    by_cases h1 : b = 1
    · rw [if_pos h1, List.append_nil, parts_one e47]
      show two' neg (TL.numL t.natAbs) [49] = _
      unfold two'
      rw [if_pos ⟨f1, by decide, by decide⟩, val_numL, h1]
      rfl
    · rw [if_neg h1, parts_cons e47, parts_one e47b]
      show two' neg (TL.numL t.natAbs) (TL.numL b.natAbs) = _
      unfold two'
      rw [if_pos ⟨f1, f2, by rw [val_numL]; omega⟩, val_numL, val_numL]
      rw [show ((b.natAbs : Nat) : Int) = b by omega]
  unfold rdN
  have ew : wr t b = numI t ++ (if b = 1 then [] else 47 :: TL.numL b.natAbs) := by
    unfold wr
    split
    · rw [List.append_nil]
    · rw [eb]
  rw [ew]
  by_cases h0 : t < 0
  · have en : numI t = 45 :: TL.numL t.natAbs := by unfold numI; rw [if_pos h0]
    rw [en]
    have i1 : isNeg (45 :: TL.numL t.natAbs ++ if b = 1 then [] else 47 :: TL.numL b.natAbs) = true := rfl
    rw [i1, if_pos rfl]
    show rdP true (parts (TL.numL t.natAbs ++ _)) = _
    rw [key true, if_pos rfl]
    rw [show -((t.natAbs : Nat) : Int) = t by omega]
  · have en : numI t = TL.numL t.natAbs := by unfold numI; rw [if_neg h0]
    rw [en]
    rw [isNeg_numL, if_neg (by decide)]
    rw [key false, if_neg (by decide)]
    rw [show ((t.natAbs : Nat) : Int) = t by omega]
theorem numI_len {i : Int} (h : i.natAbs < 10 ^ 60) : (numI i).length ≤ 61 := by
  have := TL.numL_len (n := i.natAbs) (k := 60) (by decide) h
  unfold numI
  split
  · simp only [List.length_cons]; omega
  · omega
theorem wr_len {t b : Int} (h : t.natAbs < 10 ^ 60) (h2 : b.natAbs < 10 ^ 60) : (wr t b).length ≤ 200 := by
  have a := numI_len h
  have c := numI_len h2
  unfold wr
  split
  · omega
  · simp only [List.length_append, List.length_cons]; omega

/-! ### the reading of texts -/
def str1Z (x : D) (k : Str → Prop) (_ : Tk k := tk k) : Prop := str1 x k
theorem str1_z {x : D} {k : Str → Prop} : str1 x k = str1Z x k := (rfl)
theorem str1Z_s {s : Str} {k : Str → Prop} : str1Z (.str s) k = k s := (rfl)
theorem isStrD_s {s : Str} : (isStrD (.str s) = true) = True := by simp [isStrD]
theorem lit_minus : Str.ofString "-" = S [45] := rfl
theorem lit_stroke : Str.ofString "/" = S [47] := rfl
theorem lit_one : Str.ofString "1" = S [49] := rfl
theorem lit_figs : Str.ofString "0123456789" = S [48, 49, 50, 51, 52, 53, 54, 55, 56, 57] := rfl
theorem eqv_S (a b : List Nat) : eqvD (.str (S a)) (.str (S b)) = decide (a = b) := by
  show (S a == S b) = _
  exact SX.S_beq_eq
def Asc (l : List Nat) : Prop := ∀ c ∈ l, c < 1114112
theorem eqOk_S {l : List Nat} (h : Asc l) : eqOk (.str (S l)) = true := by
  show (true && (PyData.canLay0 (.str (S l)) && decide (PyData.depth (.str (S l)) ≤ 64))) = true
  have e : PyData.strOk (S l) = true := by
    unfold PyData.strOk
    rw [← Array.all_toList]
    exact List.all_eq_true.mpr fun c hc => decide_eq_true (h c hc)
  simp [PyData.canLay0, PyData.depth, e]
theorem Asc.take {l : List Nat} (h : Asc l) (n : Nat) : Asc (l.take n) := fun c hc => h c (List.mem_of_mem_take hc)
theorem Asc.drop {l : List Nat} (h : Asc l) (n : Nat) : Asc (l.drop n) := fun c hc => h c (List.mem_of_mem_drop hc)
theorem Asc.app {l m : List Nat} (h : Asc l) (h2 : Asc m) : Asc (l ++ m) := fun c hc => by
  rcases List.mem_append.mp hc with hc | hc
  · exact h c hc
  · exact h2 c hc
theorem Asc.num (n : Nat) : Asc (TL.numL n) := fun c hc => by
  have := TL.numL_digits n c hc
  omega
theorem Asc.cons {c : Nat} {l : List Nat} (h : c < 1114112) (h2 : Asc l) : Asc (c :: l) := fun d hd => by
  rcases List.mem_cons.mp hd with rfl | hd
  · exact h
  · exact h2 d hd
theorem Asc.numI (i : Int) : Asc (numI i) := by
  unfold SY.numI
  split
  · exact (Asc.num _).cons (by decide)
  · exact Asc.num _
theorem Asc.wr (t b : Int) : Asc (wr t b) := by
  unfold SY.wr
  split
  · exact Asc.numI t
  · exact (Asc.numI t).app ((Asc.numI b).cons (by decide))
theorem eqOk_minus : eqOk (.str (S [45])) = true := eqOk_S (by unfold Asc; decide)
theorem lenS (a : List Nat) : (S a).length = a.length := SX.S_len a
theorem strL_S (l : List Nat) : strL (S l) = l.map fun c => .str ⟨#[c]⟩ := by unfold strL; rfl
theorem cut_to (l : List Nat) (n : Nat) : cutS (S l) none (some (n : Int)) = S (l.take n) := by
  unfold cutS
  rw [HT.sIx_none, HT.sIx_nat, lenS]
  show S ((l.drop 0).take _) = _
  rw [List.drop_zero, Nat.sub_zero]
  by_cases h : n ≤ l.length
  · rw [Nat.min_eq_left h]
  · rw [Nat.min_eq_right (by omega), List.take_length, List.take_of_length_le (by omega)]
theorem cut_from (l : List Nat) (n : Nat) : cutS (S l) (some (n : Int)) none = S (l.drop n) := by
  unfold cutS
  rw [HT.sIx_none, HT.sIx_nat, lenS]
  show S ((l.drop _).take _) = _
  by_cases h : n ≤ l.length
  · rw [Nat.min_eq_left h, List.take_of_length_le (by rw [List.length_drop]; omega)]
  · rw [Nat.min_eq_right (by omega), List.drop_length, List.take_nil, List.drop_eq_nil_of_le (by omega)]
theorem cut_to1 (l : List Nat) : cutS (S l) none (some 1) = S (l.take 1) := cut_to l 1
theorem cut_from1 (l : List Nat) : cutS (S l) (some 1) none = S (l.drop 1) := cut_from l 1
theorem split_stroke (l : List Nat) : Txt.split (S l) (S [47]) = (parts l).map S := SX.split_S (by decide) (by decide)
theorem fig_mem (c : Nat) : decide (c ∈ (S [48, 49, 50, 51, 52, 53, 54, 55, 56, 57]).cps.toList) = isFig c := by
  show decide (c ∈ [48, 49, 50, 51, 52, 53, 54, 55, 56, 57]) = isFig c
  unfold isFig
  rw [← Bool.decide_and]
  refine decide_eq_decide.mpr ?_
  simp only [List.mem_cons, List.not_mem_nil, or_false]
  omega
section
variable {T : Sto} {P : D → Sto → Prop} {X : Xc → Sto → Prop}
noncomputable def sp_are_figures : DSp := lock <| sp1 fun a T P _ => ∃ l : List Nat, a = .str (S l) ∧ l.length ≤ 10000 ∧ P (.bl (figs l)) T
def b_are_figures : DS := (dIf (dTst (dNotInS (dVar 1) (dC (.str (PySem.Str.ofString "0123456789"))))) (dRet (dC (.bl false))) dNext)
def d_are_figures : DS := (dSeq (dIf (dtOr (dTst (dEq (dLen (dVar 0)) (dC (.int 0)))) (dTst (dGt (dLen (dVar 0)) (dC (.int 60))))) (dRet (dC (.bl false))) dNext) (dSeq (dForS (dgName 1) (dVar 0) (dIf (dTst (dNotInS (dVar 1) (dC (.str (PySem.Str.ofString "0123456789"))))) (dRet (dC (.bl false))) dNext)) (dRet (dC (.bl true)))))
theorem figs_loop {E : DX} {s : D} : ∀ (l : List Nat) (x : Option D), (l.all isFig = true → ∀ x, E.nx [some s, x] T) → (l.all isFig = false → E.rt (.bl false) T) → forL (dgName 1) b_are_figures E (l.map fun c => .str ⟨#[c]⟩) [some s, x] T
  | [], x, h1, h2 => h1 rfl x
  | c :: l, x, h1, h2 => by
    show dgName 1 (.str ⟨#[c]⟩) _ _ _ _
    have ih := figs_loop (E := E) (s := s) l
    generalize hq : forL (dgName 1) b_are_figures E (l.map fun c => .str ⟨#[c]⟩) = nxt
    rw [hq] at ih
    unfold b_are_figures
    walk_at "dx"
    (try simp -dsimp (maxSteps := 3000000) only [lit_figs, ↓SY.str1_z, SY.str1Z_s, SY.isStrD_s, SY.dStrI, SY.dIntS, SY.dSplit, SY.dSplitF, SY.dM1, SY.dFind, SY.dZfill, SY.dJoin, SY.splitD, SY.splitFD, SY.findD, SY.zfillD, SY.joinD, SY.dInS, SY.dNotInS, SY.inD, SY.notInD, SY.dIxS, SY.ixSD, SY.dSlS, SY.dForS, SY.dMax, SY.dLcS, SY.eqv_S, ↓SY.someOf_z, ↓SY.int1_z, ↓SY.int2_z, ↓SY.bl1_z, ↓SY.optK_z, ↓SY.seqK_z, ↓SY.ixD_z, ↓SY.addD_z, ↓SY.lenD_z, ↓SY.slD_z, ↓SY.setD_z, ↓SY.appD_z, ↓SY.popD_z, ↓SY.dgsK_z, ↓SY.one_z, ↓SY.two_z, ↓SY.intK_z, ↓SY.rng1_z, ↓SY.rng2_z, ↓SY.frzK_z, ↓SY.forL_z, ↓SY.lcL_z, ↓SY.dSeq_z, SY.someZ_s, SY.int1Z_s, SY.int2Z_s, SY.bl1Z_s, SY.optZ_s, SY.addZ_i, SY.addZ_s, SY.addZ_t, SY.addZ_l, SY.addZ_p, SY.lenZ_t, SY.lenZ_l, SY.lenZ_s, SY.lenZ_p, SY.slZ_t, SY.slZ_l, SY.slZ_s, SY.slZ_p, SY.setZ_s, SY.appZ_s, SY.popZ_s, SY.dgsZ_s, SY.nilK_s, SY.oneZ_s, SY.twoZ_s, SY.intZ_i, SY.intZ_b, SY.rng1Z_s, SY.rng2Z_s, SY.frzZ_p, SY.frzZ_l, SY.frzZ_t, SY.forZ_nil, SY.forZ_cons, SY.lcZ_nil, SY.lcZ_cons, SY.goZ_s, ↓SY.sq_nx, ↓SY.sq_rt, ↓SY.sq_bk, ↓SY.sq_ct, ↓SY.sq_ex, ↓SY.lp_nx, ↓SY.lp_ct, ↓SY.lp_bk, ↓SY.lp_rt, ↓SY.lp_ex, SY.dAsg, SY.dRet, SY.dRetN, SY.dNext, SY.dIf, SY.dTst, SY.dC, SY.dVar, SY.dI, SY.dI0, SY.dMul, SY.dDiv, SY.dMod, SY.dPow, SY.dSub, SY.dLt, SY.dLe, SY.dGt, SY.dGe, SY.dNeg, SY.dAdd, SY.dIx, SY.dNil, SY.dCons, SY.dTup, SY.dLst, SY.dLstM, ↓SY.dCall_z, SY.dAbs, SY.dLen, SY.dTuple, SY.dList, SY.dListM, SY.dEq, SY.dNe, SY.dIsN, SY.dNotN, SY.dIsB, SY.dNotB, SY.dFrz, SY.dRaise, SY.dTryAs, SY.dTryOnly, SY.dIsE, SY.dtAnd, SY.dtOr, SY.dtNot, SY.dAnd, SY.dOr, SY.dNot, SY.dIsi, SY.dAll, SY.dSum, SY.dInt, SY.dSl, SY.dNoO, SY.dSomeO, SY.dDrop, SY.dAug, SY.dPar, SY.dAsgG, SY.dgName, SY.dgTup, SY.dgsNil, SY.dgsName, SY.dgSub, SY.dApp, SY.dPopAt, SY.dFor, SY.dForR1, SY.dForR2, SY.dForE, SY.dLc, SY.dLcR, SY.dLcRM, SY.rngL, SY.enumL, SY.frozen_tup, SY.frozen_lst, SY.frozen_scr, SY.frozL_lst, SY.frozL_scr, SY.seqOf_tup, SY.seqOf_lst, SY.seqOf_scr, SY.seqOf_ptr, SY.seqOf_int, SY.seqOf_str, SY.lstOf_lst, SY.lstOf_scr, SY.lstOf_ptr, SY.mlst_lst, SY.plst_lst, SY.plst_ptr, SY.isPtrL, SY.tyN, SY.isNon, SY.blsOf, SY.intsOf, SY.dend0, SY.dend, SY.startD, SY.eqOk_int, SY.eqv_int, SY.atI0, SY.atI1, SY.atI2, SY.atI3, SY.atI4, SY.atI5, SY.ixN0, decide_true, decide_false, Int.reduceEq, Int.reduceLT, Int.reduceLE, SY.ixN_21, SY.ixN_31, SY.ixN_32, SY.ixN_41, SY.ixN_42, SY.ixN_43, SY.seqIx0, SY.updT_same, SY.updT_updT, List.map_cons, List.map_nil, List.length_cons, List.length_nil, List.replicate, List.cons_append, List.nil_append, List.getD_cons_zero, List.getD_cons_succ, List.set_cons_zero, List.set_cons_succ, List.getElem?_cons_zero, List.eraseIdx_cons_zero, Option.isSome_some, Option.map_some, Int.reduceToNat, Int.reducePow, Int.reduceAdd, Int.reduceMul, Nat.zero_lt_succ, Nat.reduceLT, Nat.sub_self, Nat.reduceSub, Nat.reduceAdd, Nat.reduceLeDiff, Nat.zero_add, SY.kit_ii, SY.kit_ib, SY.kit_it, SY.kit_bi, SY.kit_bb, SY.kit_tt, SY.kit_ti, SY.kit_tb, SY.kit_nt, SY.kit_ll, SY.kit_lt, Bool.not_true, Bool.not_false, if_true, if_false, reduceIte, Bool.false_eq_true, true_and, and_true, and_self])
    refine ⟨c, rfl, ?_⟩
    rw [List.all_cons] at h1 h2
    rw [fig_mem]
    cases hc : isFig c with
    | true =>
      rw [hc] at h1 h2
      exact ih _ h1 h2
    | false =>
      rw [hc] at h2
      exact h2 rfl
theorem pure_are_figures {N : List Str} (hN : N.length = 2) : ∀ us T P X, sp_are_figures us T P X → d_are_figures (dend0 P X) (startD N us) T := by
  intro us T P X h
  obtain ⟨a, rfl, h1⟩ := sp1.of (lock_of h)
  have e0 : startD N [a] = [some a, none] := by unfold startD; rw [hN]; rfl
  rw [e0]; clear e0; unfold d_are_figures
  obtain ⟨l, rfl, hl, h2⟩ := h1
  generalize hb : (dIf (dTst (dNotInS (dVar 1) (dC (.str (PySem.Str.ofString "0123456789"))))) (dRet (dC (.bl false))) dNext) = bb
  (try simp -dsimp (maxSteps := 3000000) only [lenS, ↓SY.str1_z, SY.str1Z_s, SY.isStrD_s, SY.dStrI, SY.dIntS, SY.dSplit, SY.dSplitF, SY.dM1, SY.dFind, SY.dZfill, SY.dJoin, SY.splitD, SY.splitFD, SY.findD, SY.zfillD, SY.joinD, SY.dInS, SY.dNotInS, SY.inD, SY.notInD, SY.dIxS, SY.ixSD, SY.dSlS, SY.dForS, SY.dMax, SY.dLcS, SY.eqv_S, ↓SY.someOf_z, ↓SY.int1_z, ↓SY.int2_z, ↓SY.bl1_z, ↓SY.optK_z, ↓SY.seqK_z, ↓SY.ixD_z, ↓SY.addD_z, ↓SY.lenD_z, ↓SY.slD_z, ↓SY.setD_z, ↓SY.appD_z, ↓SY.popD_z, ↓SY.dgsK_z, ↓SY.one_z, ↓SY.two_z, ↓SY.intK_z, ↓SY.rng1_z, ↓SY.rng2_z, ↓SY.frzK_z, ↓SY.forL_z, ↓SY.lcL_z, ↓SY.dSeq_z, SY.someZ_s, SY.int1Z_s, SY.int2Z_s, SY.bl1Z_s, SY.optZ_s, SY.addZ_i, SY.addZ_s, SY.addZ_t, SY.addZ_l, SY.addZ_p, SY.lenZ_t, SY.lenZ_l, SY.lenZ_s, SY.lenZ_p, SY.slZ_t, SY.slZ_l, SY.slZ_s, SY.slZ_p, SY.setZ_s, SY.appZ_s, SY.popZ_s, SY.dgsZ_s, SY.nilK_s, SY.oneZ_s, SY.twoZ_s, SY.intZ_i, SY.intZ_b, SY.rng1Z_s, SY.rng2Z_s, SY.frzZ_p, SY.frzZ_l, SY.frzZ_t, SY.forZ_nil, SY.forZ_cons, SY.lcZ_nil, SY.lcZ_cons, SY.goZ_s, ↓SY.sq_nx, ↓SY.sq_rt, ↓SY.sq_bk, ↓SY.sq_ct, ↓SY.sq_ex, ↓SY.lp_nx, ↓SY.lp_ct, ↓SY.lp_bk, ↓SY.lp_rt, ↓SY.lp_ex, SY.dAsg, SY.dRet, SY.dRetN, SY.dNext, SY.dIf, SY.dTst, SY.dC, SY.dVar, SY.dI, SY.dI0, SY.dMul, SY.dDiv, SY.dMod, SY.dPow, SY.dSub, SY.dLt, SY.dLe, SY.dGt, SY.dGe, SY.dNeg, SY.dAdd, SY.dIx, SY.dNil, SY.dCons, SY.dTup, SY.dLst, SY.dLstM, ↓SY.dCall_z, SY.dAbs, SY.dLen, SY.dTuple, SY.dList, SY.dListM, SY.dEq, SY.dNe, SY.dIsN, SY.dNotN, SY.dIsB, SY.dNotB, SY.dFrz, SY.dRaise, SY.dTryAs, SY.dTryOnly, SY.dIsE, SY.dtAnd, SY.dtOr, SY.dtNot, SY.dAnd, SY.dOr, SY.dNot, SY.dIsi, SY.dAll, SY.dSum, SY.dInt, SY.dSl, SY.dNoO, SY.dSomeO, SY.dDrop, SY.dAug, SY.dPar, SY.dAsgG, SY.dgName, SY.dgTup, SY.dgsNil, SY.dgsName, SY.dgSub, SY.dApp, SY.dPopAt, SY.dFor, SY.dForR1, SY.dForR2, SY.dForE, SY.dLc, SY.dLcR, SY.dLcRM, SY.rngL, SY.enumL, SY.frozen_tup, SY.frozen_lst, SY.frozen_scr, SY.frozL_lst, SY.frozL_scr, SY.seqOf_tup, SY.seqOf_lst, SY.seqOf_scr, SY.seqOf_ptr, SY.seqOf_int, SY.seqOf_str, SY.lstOf_lst, SY.lstOf_scr, SY.lstOf_ptr, SY.mlst_lst, SY.plst_lst, SY.plst_ptr, SY.isPtrL, SY.tyN, SY.isNon, SY.blsOf, SY.intsOf, SY.dend0, SY.dend, SY.startD, SY.eqOk_int, SY.eqv_int, SY.atI0, SY.atI1, SY.atI2, SY.atI3, SY.atI4, SY.atI5, SY.ixN0, decide_true, decide_false, Int.reduceEq, Int.reduceLT, Int.reduceLE, SY.ixN_21, SY.ixN_31, SY.ixN_32, SY.ixN_41, SY.ixN_42, SY.ixN_43, SY.seqIx0, SY.updT_same, SY.updT_updT, List.map_cons, List.map_nil, List.length_cons, List.length_nil, List.replicate, List.cons_append, List.nil_append, List.getD_cons_zero, List.getD_cons_succ, List.set_cons_zero, List.set_cons_succ, List.getElem?_cons_zero, List.eraseIdx_cons_zero, Option.isSome_some, Option.map_some, Int.reduceToNat, Int.reducePow, Int.reduceAdd, Int.reduceMul, Nat.zero_lt_succ, Nat.reduceLT, Nat.sub_self, Nat.reduceSub, Nat.reduceAdd, Nat.reduceLeDiff, Nat.zero_add, SY.kit_ii, SY.kit_ib, SY.kit_it, SY.kit_bi, SY.kit_bb, SY.kit_tt, SY.kit_ti, SY.kit_tb, SY.kit_nt, SY.kit_ll, SY.kit_lt, Bool.not_true, Bool.not_false, if_true, if_false, reduceIte, Bool.false_eq_true, true_and, and_true, and_self])
  have z : l.length ≤ sizeLine := Nat.le_trans hl (by decide)
  refine ⟨z, ?_⟩
  unfold figs at h2
  by_cases h0 : l.length = 0
  · rw [decide_eq_true (show (l.length : Int) = 0 by omega)]
    rw [decide_eq_false (show ¬ l.length ≠ 0 by omega)] at h2
    exact h2
  · rw [decide_eq_false (show ¬ (l.length : Int) = 0 by omega)]
    rw [decide_eq_true (show l.length ≠ 0 from h0)] at h2
    (try simp -dsimp (maxSteps := 3000000) only [lenS, ↓SY.str1_z, SY.str1Z_s, SY.isStrD_s, SY.dStrI, SY.dIntS, SY.dSplit, SY.dSplitF, SY.dM1, SY.dFind, SY.dZfill, SY.dJoin, SY.splitD, SY.splitFD, SY.findD, SY.zfillD, SY.joinD, SY.dInS, SY.dNotInS, SY.inD, SY.notInD, SY.dIxS, SY.ixSD, SY.dSlS, SY.dForS, SY.dMax, SY.dLcS, SY.eqv_S, ↓SY.someOf_z, ↓SY.int1_z, ↓SY.int2_z, ↓SY.bl1_z, ↓SY.optK_z, ↓SY.seqK_z, ↓SY.ixD_z, ↓SY.addD_z, ↓SY.lenD_z, ↓SY.slD_z, ↓SY.setD_z, ↓SY.appD_z, ↓SY.popD_z, ↓SY.dgsK_z, ↓SY.one_z, ↓SY.two_z, ↓SY.intK_z, ↓SY.rng1_z, ↓SY.rng2_z, ↓SY.frzK_z, ↓SY.forL_z, ↓SY.lcL_z, ↓SY.dSeq_z, SY.someZ_s, SY.int1Z_s, SY.int2Z_s, SY.bl1Z_s, SY.optZ_s, SY.addZ_i, SY.addZ_s, SY.addZ_t, SY.addZ_l, SY.addZ_p, SY.lenZ_t, SY.lenZ_l, SY.lenZ_s, SY.lenZ_p, SY.slZ_t, SY.slZ_l, SY.slZ_s, SY.slZ_p, SY.setZ_s, SY.appZ_s, SY.popZ_s, SY.dgsZ_s, SY.nilK_s, SY.oneZ_s, SY.twoZ_s, SY.intZ_i, SY.intZ_b, SY.rng1Z_s, SY.rng2Z_s, SY.frzZ_p, SY.frzZ_l, SY.frzZ_t, SY.forZ_nil, SY.forZ_cons, SY.lcZ_nil, SY.lcZ_cons, SY.goZ_s, ↓SY.sq_nx, ↓SY.sq_rt, ↓SY.sq_bk, ↓SY.sq_ct, ↓SY.sq_ex, ↓SY.lp_nx, ↓SY.lp_ct, ↓SY.lp_bk, ↓SY.lp_rt, ↓SY.lp_ex, SY.dAsg, SY.dRet, SY.dRetN, SY.dNext, SY.dIf, SY.dTst, SY.dC, SY.dVar, SY.dI, SY.dI0, SY.dMul, SY.dDiv, SY.dMod, SY.dPow, SY.dSub, SY.dLt, SY.dLe, SY.dGt, SY.dGe, SY.dNeg, SY.dAdd, SY.dIx, SY.dNil, SY.dCons, SY.dTup, SY.dLst, SY.dLstM, ↓SY.dCall_z, SY.dAbs, SY.dLen, SY.dTuple, SY.dList, SY.dListM, SY.dEq, SY.dNe, SY.dIsN, SY.dNotN, SY.dIsB, SY.dNotB, SY.dFrz, SY.dRaise, SY.dTryAs, SY.dTryOnly, SY.dIsE, SY.dtAnd, SY.dtOr, SY.dtNot, SY.dAnd, SY.dOr, SY.dNot, SY.dIsi, SY.dAll, SY.dSum, SY.dInt, SY.dSl, SY.dNoO, SY.dSomeO, SY.dDrop, SY.dAug, SY.dPar, SY.dAsgG, SY.dgName, SY.dgTup, SY.dgsNil, SY.dgsName, SY.dgSub, SY.dApp, SY.dPopAt, SY.dFor, SY.dForR1, SY.dForR2, SY.dForE, SY.dLc, SY.dLcR, SY.dLcRM, SY.rngL, SY.enumL, SY.frozen_tup, SY.frozen_lst, SY.frozen_scr, SY.frozL_lst, SY.frozL_scr, SY.seqOf_tup, SY.seqOf_lst, SY.seqOf_scr, SY.seqOf_ptr, SY.seqOf_int, SY.seqOf_str, SY.lstOf_lst, SY.lstOf_scr, SY.lstOf_ptr, SY.mlst_lst, SY.plst_lst, SY.plst_ptr, SY.isPtrL, SY.tyN, SY.isNon, SY.blsOf, SY.intsOf, SY.dend0, SY.dend, SY.startD, SY.eqOk_int, SY.eqv_int, SY.atI0, SY.atI1, SY.atI2, SY.atI3, SY.atI4, SY.atI5, SY.ixN0, decide_true, decide_false, Int.reduceEq, Int.reduceLT, Int.reduceLE, SY.ixN_21, SY.ixN_31, SY.ixN_32, SY.ixN_41, SY.ixN_42, SY.ixN_43, SY.seqIx0, SY.updT_same, SY.updT_updT, List.map_cons, List.map_nil, List.length_cons, List.length_nil, List.replicate, List.cons_append, List.nil_append, List.getD_cons_zero, List.getD_cons_succ, List.set_cons_zero, List.set_cons_succ, List.getElem?_cons_zero, List.eraseIdx_cons_zero, Option.isSome_some, Option.map_some, Int.reduceToNat, Int.reducePow, Int.reduceAdd, Int.reduceMul, Nat.zero_lt_succ, Nat.reduceLT, Nat.sub_self, Nat.reduceSub, Nat.reduceAdd, Nat.reduceLeDiff, Nat.zero_add, SY.kit_ii, SY.kit_ib, SY.kit_it, SY.kit_bi, SY.kit_bb, SY.kit_tt, SY.kit_ti, SY.kit_tb, SY.kit_nt, SY.kit_ll, SY.kit_lt, Bool.not_true, Bool.not_false, if_true, if_false, reduceIte, Bool.false_eq_true, true_and, and_true, and_self])
    refine ⟨z, ?_⟩
    by_cases h6 : l.length ≤ 60
    · rw [decide_eq_false (show ¬ (60 : Int) < (l.length : Int) by omega)]
      rw [decide_eq_true h6] at h2
      (try simp -dsimp (maxSteps := 3000000) only [strL_S, ↓SY.str1_z, SY.str1Z_s, SY.isStrD_s, SY.dStrI, SY.dIntS, SY.dSplit, SY.dSplitF, SY.dM1, SY.dFind, SY.dZfill, SY.dJoin, SY.splitD, SY.splitFD, SY.findD, SY.zfillD, SY.joinD, SY.dInS, SY.dNotInS, SY.inD, SY.notInD, SY.dIxS, SY.ixSD, SY.dSlS, SY.dForS, SY.dMax, SY.dLcS, SY.eqv_S, ↓SY.someOf_z, ↓SY.int1_z, ↓SY.int2_z, ↓SY.bl1_z, ↓SY.optK_z, ↓SY.seqK_z, ↓SY.ixD_z, ↓SY.addD_z, ↓SY.lenD_z, ↓SY.slD_z, ↓SY.setD_z, ↓SY.appD_z, ↓SY.popD_z, ↓SY.dgsK_z, ↓SY.one_z, ↓SY.two_z, ↓SY.intK_z, ↓SY.rng1_z, ↓SY.rng2_z, ↓SY.frzK_z, ↓SY.forL_z, ↓SY.lcL_z, ↓SY.dSeq_z, SY.someZ_s, SY.int1Z_s, SY.int2Z_s, SY.bl1Z_s, SY.optZ_s, SY.addZ_i, SY.addZ_s, SY.addZ_t, SY.addZ_l, SY.addZ_p, SY.lenZ_t, SY.lenZ_l, SY.lenZ_s, SY.lenZ_p, SY.slZ_t, SY.slZ_l, SY.slZ_s, SY.slZ_p, SY.setZ_s, SY.appZ_s, SY.popZ_s, SY.dgsZ_s, SY.nilK_s, SY.oneZ_s, SY.twoZ_s, SY.intZ_i, SY.intZ_b, SY.rng1Z_s, SY.rng2Z_s, SY.frzZ_p, SY.frzZ_l, SY.frzZ_t, SY.forZ_nil, SY.forZ_cons, SY.lcZ_nil, SY.lcZ_cons, SY.goZ_s, ↓SY.sq_nx, ↓SY.sq_rt, ↓SY.sq_bk, ↓SY.sq_ct, ↓SY.sq_ex, ↓SY.lp_nx, ↓SY.lp_ct, ↓SY.lp_bk, ↓SY.lp_rt, ↓SY.lp_ex, SY.dAsg, SY.dRet, SY.dRetN, SY.dNext, SY.dIf, SY.dTst, SY.dC, SY.dVar, SY.dI, SY.dI0, SY.dMul, SY.dDiv, SY.dMod, SY.dPow, SY.dSub, SY.dLt, SY.dLe, SY.dGt, SY.dGe, SY.dNeg, SY.dAdd, SY.dIx, SY.dNil, SY.dCons, SY.dTup, SY.dLst, SY.dLstM, ↓SY.dCall_z, SY.dAbs, SY.dLen, SY.dTuple, SY.dList, SY.dListM, SY.dEq, SY.dNe, SY.dIsN, SY.dNotN, SY.dIsB, SY.dNotB, SY.dFrz, SY.dRaise, SY.dTryAs, SY.dTryOnly, SY.dIsE, SY.dtAnd, SY.dtOr, SY.dtNot, SY.dAnd, SY.dOr, SY.dNot, SY.dIsi, SY.dAll, SY.dSum, SY.dInt, SY.dSl, SY.dNoO, SY.dSomeO, SY.dDrop, SY.dAug, SY.dPar, SY.dAsgG, SY.dgName, SY.dgTup, SY.dgsNil, SY.dgsName, SY.dgSub, SY.dApp, SY.dPopAt, SY.dFor, SY.dForR1, SY.dForR2, SY.dForE, SY.dLc, SY.dLcR, SY.dLcRM, SY.rngL, SY.enumL, SY.frozen_tup, SY.frozen_lst, SY.frozen_scr, SY.frozL_lst, SY.frozL_scr, SY.seqOf_tup, SY.seqOf_lst, SY.seqOf_scr, SY.seqOf_ptr, SY.seqOf_int, SY.seqOf_str, SY.lstOf_lst, SY.lstOf_scr, SY.lstOf_ptr, SY.mlst_lst, SY.plst_lst, SY.plst_ptr, SY.isPtrL, SY.tyN, SY.isNon, SY.blsOf, SY.intsOf, SY.dend0, SY.dend, SY.startD, SY.eqOk_int, SY.eqv_int, SY.atI0, SY.atI1, SY.atI2, SY.atI3, SY.atI4, SY.atI5, SY.ixN0, decide_true, decide_false, Int.reduceEq, Int.reduceLT, Int.reduceLE, SY.ixN_21, SY.ixN_31, SY.ixN_32, SY.ixN_41, SY.ixN_42, SY.ixN_43, SY.seqIx0, SY.updT_same, SY.updT_updT, List.map_cons, List.map_nil, List.length_cons, List.length_nil, List.replicate, List.cons_append, List.nil_append, List.getD_cons_zero, List.getD_cons_succ, List.set_cons_zero, List.set_cons_succ, List.getElem?_cons_zero, List.eraseIdx_cons_zero, Option.isSome_some, Option.map_some, Int.reduceToNat, Int.reducePow, Int.reduceAdd, Int.reduceMul, Nat.zero_lt_succ, Nat.reduceLT, Nat.sub_self, Nat.reduceSub, Nat.reduceAdd, Nat.reduceLeDiff, Nat.zero_add, SY.kit_ii, SY.kit_ib, SY.kit_it, SY.kit_bi, SY.kit_bb, SY.kit_tt, SY.kit_ti, SY.kit_tb, SY.kit_nt, SY.kit_ll, SY.kit_lt, Bool.not_true, Bool.not_false, if_true, if_false, reduceIte, Bool.false_eq_true, true_and, and_true, and_self])
      subst hb
      refine figs_loop l none (fun ha x => ?_) (fun ha => ?_)
      · rw [ha] at h2
        exact h2
      · rw [ha] at h2
        exact h2
    · rw [decide_eq_true (show (60 : Int) < (l.length : Int) by omega)]
      rw [decide_eq_false h6] at h2
      exact h2
theorem sp_are_figures_mk {l : List Nat} (hl : l.length ≤ 10000) (h : P (.bl (figs l)) T) : sp_are_figures [.str (S l)] T P X := lock_at ⟨l, rfl, hl, h⟩
theorem big60 : (1000000000000000000000000000000000000000000000000000000000000 : Int) = 10 ^ 60 := by decide
/-- a fraction written -/
noncomputable def sp_shown_number : DSp := lock <| sp1 fun a T P X => ∃ t b : Int, a = .tup [.int t, .int b] ∧ 0 < b ∧ if 10 ^ 60 ≤ t.natAbs ∨ 10 ^ 60 ≤ b then X "TooGreat" T else P (.str (S (wr t b))) T
def d_shown_number : DS := (dSeq (dAsgG (dVar 0) (dgTup 2 (dgsName 1 (dgsName 2 dgsNil)))) (dSeq (dIf (dtOr (dTst (dGe (dAbs (dVar 1)) (dC (.int 1000000000000000000000000000000000000000000000000000000000000)))) (dTst (dGe (dVar 2) (dC (.int 1000000000000000000000000000000000000000000000000000000000000))))) (dRaise "TooGreat") dNext) (dSeq (dIf (dTst (dEq (dVar 2) (dC (.int 1)))) (dRet (dStrI (dVar 1))) dNext) (dRet (dAdd (dAdd (dStrI (dVar 1)) (dC (.str (PySem.Str.ofString "/")))) (dStrI (dVar 2)))))))
theorem sbit {i : Int} (h : i.natAbs < 10 ^ 60) : SBit i := ⟨Nat.lt_of_lt_of_le (PySem.Flt.log2_lt_of (k := 200) (by decide) (Nat.lt_trans h (by decide))) (by decide)⟩
theorem pure_shown_number {N : List Str} (hN : N.length = 3) : ∀ us T P X, sp_shown_number us T P X → d_shown_number (dend0 P X) (startD N us) T := by
  intro us T P X h
  obtain ⟨a, rfl, h1⟩ := sp1.of (lock_of h)
  have e0 : startD N [a] = [some a, none, none] := by unfold startD; rw [hN]; rfl
  rw [e0]; clear e0; unfold d_shown_number
  obtain ⟨t, b, rfl, hb, h2⟩ := h1
  (try simp -dsimp (maxSteps := 3000000) only [abs_if, ↓SY.str1_z, SY.str1Z_s, SY.isStrD_s, SY.dStrI, SY.dIntS, SY.dSplit, SY.dSplitF, SY.dM1, SY.dFind, SY.dZfill, SY.dJoin, SY.splitD, SY.splitFD, SY.findD, SY.zfillD, SY.joinD, SY.dInS, SY.dNotInS, SY.inD, SY.notInD, SY.dIxS, SY.ixSD, SY.dSlS, SY.dForS, SY.dMax, SY.dLcS, SY.eqv_S, ↓SY.someOf_z, ↓SY.int1_z, ↓SY.int2_z, ↓SY.bl1_z, ↓SY.optK_z, ↓SY.seqK_z, ↓SY.ixD_z, ↓SY.addD_z, ↓SY.lenD_z, ↓SY.slD_z, ↓SY.setD_z, ↓SY.appD_z, ↓SY.popD_z, ↓SY.dgsK_z, ↓SY.one_z, ↓SY.two_z, ↓SY.intK_z, ↓SY.rng1_z, ↓SY.rng2_z, ↓SY.frzK_z, ↓SY.forL_z, ↓SY.lcL_z, ↓SY.dSeq_z, SY.someZ_s, SY.int1Z_s, SY.int2Z_s, SY.bl1Z_s, SY.optZ_s, SY.addZ_i, SY.addZ_s, SY.addZ_t, SY.addZ_l, SY.addZ_p, SY.lenZ_t, SY.lenZ_l, SY.lenZ_s, SY.lenZ_p, SY.slZ_t, SY.slZ_l, SY.slZ_s, SY.slZ_p, SY.setZ_s, SY.appZ_s, SY.popZ_s, SY.dgsZ_s, SY.nilK_s, SY.oneZ_s, SY.twoZ_s, SY.intZ_i, SY.intZ_b, SY.rng1Z_s, SY.rng2Z_s, SY.frzZ_p, SY.frzZ_l, SY.frzZ_t, SY.forZ_nil, SY.forZ_cons, SY.lcZ_nil, SY.lcZ_cons, SY.goZ_s, ↓SY.sq_nx, ↓SY.sq_rt, ↓SY.sq_bk, ↓SY.sq_ct, ↓SY.sq_ex, ↓SY.lp_nx, ↓SY.lp_ct, ↓SY.lp_bk, ↓SY.lp_rt, ↓SY.lp_ex, SY.dAsg, SY.dRet, SY.dRetN, SY.dNext, SY.dIf, SY.dTst, SY.dC, SY.dVar, SY.dI, SY.dI0, SY.dMul, SY.dDiv, SY.dMod, SY.dPow, SY.dSub, SY.dLt, SY.dLe, SY.dGt, SY.dGe, SY.dNeg, SY.dAdd, SY.dIx, SY.dNil, SY.dCons, SY.dTup, SY.dLst, SY.dLstM, ↓SY.dCall_z, SY.dAbs, SY.dLen, SY.dTuple, SY.dList, SY.dListM, SY.dEq, SY.dNe, SY.dIsN, SY.dNotN, SY.dIsB, SY.dNotB, SY.dFrz, SY.dRaise, SY.dTryAs, SY.dTryOnly, SY.dIsE, SY.dtAnd, SY.dtOr, SY.dtNot, SY.dAnd, SY.dOr, SY.dNot, SY.dIsi, SY.dAll, SY.dSum, SY.dInt, SY.dSl, SY.dNoO, SY.dSomeO, SY.dDrop, SY.dAug, SY.dPar, SY.dAsgG, SY.dgName, SY.dgTup, SY.dgsNil, SY.dgsName, SY.dgSub, SY.dApp, SY.dPopAt, SY.dFor, SY.dForR1, SY.dForR2, SY.dForE, SY.dLc, SY.dLcR, SY.dLcRM, SY.rngL, SY.enumL, SY.frozen_tup, SY.frozen_lst, SY.frozen_scr, SY.frozL_lst, SY.frozL_scr, SY.seqOf_tup, SY.seqOf_lst, SY.seqOf_scr, SY.seqOf_ptr, SY.seqOf_int, SY.seqOf_str, SY.lstOf_lst, SY.lstOf_scr, SY.lstOf_ptr, SY.mlst_lst, SY.plst_lst, SY.plst_ptr, SY.isPtrL, SY.tyN, SY.isNon, SY.blsOf, SY.intsOf, SY.dend0, SY.dend, SY.startD, SY.eqOk_int, SY.eqv_int, SY.atI0, SY.atI1, SY.atI2, SY.atI3, SY.atI4, SY.atI5, SY.ixN0, decide_true, decide_false, Int.reduceEq, Int.reduceLT, Int.reduceLE, SY.ixN_21, SY.ixN_31, SY.ixN_32, SY.ixN_41, SY.ixN_42, SY.ixN_43, SY.seqIx0, SY.updT_same, SY.updT_updT, List.map_cons, List.map_nil, List.length_cons, List.length_nil, List.replicate, List.cons_append, List.nil_append, List.getD_cons_zero, List.getD_cons_succ, List.set_cons_zero, List.set_cons_succ, List.getElem?_cons_zero, List.eraseIdx_cons_zero, Option.isSome_some, Option.map_some, Int.reduceToNat, Int.reducePow, Int.reduceAdd, Int.reduceMul, Nat.zero_lt_succ, Nat.reduceLT, Nat.sub_self, Nat.reduceSub, Nat.reduceAdd, Nat.reduceLeDiff, Nat.zero_add, SY.kit_ii, SY.kit_ib, SY.kit_it, SY.kit_bi, SY.kit_bb, SY.kit_tt, SY.kit_ti, SY.kit_tb, SY.kit_nt, SY.kit_ll, SY.kit_lt, Bool.not_true, Bool.not_false, if_true, if_false, reduceIte, Bool.false_eq_true, true_and, and_true, and_self])
  by_cases h1 : 10 ^ 60 ≤ t.natAbs
  · rw [if_pos (.inl h1)] at h2
    rw [decide_eq_true (show (1000000000000000000000000000000000000000000000000000000000000 : Int) ≤ (t.natAbs : Int) by omega)]
    exact h2
  rw [decide_eq_false (show ¬ (1000000000000000000000000000000000000000000000000000000000000 : Int) ≤ (t.natAbs : Int) by omega)]
  (try simp -dsimp (maxSteps := 3000000) only [abs_if, ↓SY.str1_z, SY.str1Z_s, SY.isStrD_s, SY.dStrI, SY.dIntS, SY.dSplit, SY.dSplitF, SY.dM1, SY.dFind, SY.dZfill, SY.dJoin, SY.splitD, SY.splitFD, SY.findD, SY.zfillD, SY.joinD, SY.dInS, SY.dNotInS, SY.inD, SY.notInD, SY.dIxS, SY.ixSD, SY.dSlS, SY.dForS, SY.dMax, SY.dLcS, SY.eqv_S, ↓SY.someOf_z, ↓SY.int1_z, ↓SY.int2_z, ↓SY.bl1_z, ↓SY.optK_z, ↓SY.seqK_z, ↓SY.ixD_z, ↓SY.addD_z, ↓SY.lenD_z, ↓SY.slD_z, ↓SY.setD_z, ↓SY.appD_z, ↓SY.popD_z, ↓SY.dgsK_z, ↓SY.one_z, ↓SY.two_z, ↓SY.intK_z, ↓SY.rng1_z, ↓SY.rng2_z, ↓SY.frzK_z, ↓SY.forL_z, ↓SY.lcL_z, ↓SY.dSeq_z, SY.someZ_s, SY.int1Z_s, SY.int2Z_s, SY.bl1Z_s, SY.optZ_s, SY.addZ_i, SY.addZ_s, SY.addZ_t, SY.addZ_l, SY.addZ_p, SY.lenZ_t, SY.lenZ_l, SY.lenZ_s, SY.lenZ_p, SY.slZ_t, SY.slZ_l, SY.slZ_s, SY.slZ_p, SY.setZ_s, SY.appZ_s, SY.popZ_s, SY.dgsZ_s, SY.nilK_s, SY.oneZ_s, SY.twoZ_s, SY.intZ_i, SY.intZ_b, SY.rng1Z_s, SY.rng2Z_s, SY.frzZ_p, SY.frzZ_l, SY.frzZ_t, SY.forZ_nil, SY.forZ_cons, SY.lcZ_nil, SY.lcZ_cons, SY.goZ_s, ↓SY.sq_nx, ↓SY.sq_rt, ↓SY.sq_bk, ↓SY.sq_ct, ↓SY.sq_ex, ↓SY.lp_nx, ↓SY.lp_ct, ↓SY.lp_bk, ↓SY.lp_rt, ↓SY.lp_ex, SY.dAsg, SY.dRet, SY.dRetN, SY.dNext, SY.dIf, SY.dTst, SY.dC, SY.dVar, SY.dI, SY.dI0, SY.dMul, SY.dDiv, SY.dMod, SY.dPow, SY.dSub, SY.dLt, SY.dLe, SY.dGt, SY.dGe, SY.dNeg, SY.dAdd, SY.dIx, SY.dNil, SY.dCons, SY.dTup, SY.dLst, SY.dLstM, ↓SY.dCall_z, SY.dAbs, SY.dLen, SY.dTuple, SY.dList, SY.dListM, SY.dEq, SY.dNe, SY.dIsN, SY.dNotN, SY.dIsB, SY.dNotB, SY.dFrz, SY.dRaise, SY.dTryAs, SY.dTryOnly, SY.dIsE, SY.dtAnd, SY.dtOr, SY.dtNot, SY.dAnd, SY.dOr, SY.dNot, SY.dIsi, SY.dAll, SY.dSum, SY.dInt, SY.dSl, SY.dNoO, SY.dSomeO, SY.dDrop, SY.dAug, SY.dPar, SY.dAsgG, SY.dgName, SY.dgTup, SY.dgsNil, SY.dgsName, SY.dgSub, SY.dApp, SY.dPopAt, SY.dFor, SY.dForR1, SY.dForR2, SY.dForE, SY.dLc, SY.dLcR, SY.dLcRM, SY.rngL, SY.enumL, SY.frozen_tup, SY.frozen_lst, SY.frozen_scr, SY.frozL_lst, SY.frozL_scr, SY.seqOf_tup, SY.seqOf_lst, SY.seqOf_scr, SY.seqOf_ptr, SY.seqOf_int, SY.seqOf_str, SY.lstOf_lst, SY.lstOf_scr, SY.lstOf_ptr, SY.mlst_lst, SY.plst_lst, SY.plst_ptr, SY.isPtrL, SY.tyN, SY.isNon, SY.blsOf, SY.intsOf, SY.dend0, SY.dend, SY.startD, SY.eqOk_int, SY.eqv_int, SY.atI0, SY.atI1, SY.atI2, SY.atI3, SY.atI4, SY.atI5, SY.ixN0, decide_true, decide_false, Int.reduceEq, Int.reduceLT, Int.reduceLE, SY.ixN_21, SY.ixN_31, SY.ixN_32, SY.ixN_41, SY.ixN_42, SY.ixN_43, SY.seqIx0, SY.updT_same, SY.updT_updT, List.map_cons, List.map_nil, List.length_cons, List.length_nil, List.replicate, List.cons_append, List.nil_append, List.getD_cons_zero, List.getD_cons_succ, List.set_cons_zero, List.set_cons_succ, List.getElem?_cons_zero, List.eraseIdx_cons_zero, Option.isSome_some, Option.map_some, Int.reduceToNat, Int.reducePow, Int.reduceAdd, Int.reduceMul, Nat.zero_lt_succ, Nat.reduceLT, Nat.sub_self, Nat.reduceSub, Nat.reduceAdd, Nat.reduceLeDiff, Nat.zero_add, SY.kit_ii, SY.kit_ib, SY.kit_it, SY.kit_bi, SY.kit_bb, SY.kit_tt, SY.kit_ti, SY.kit_tb, SY.kit_nt, SY.kit_ll, SY.kit_lt, Bool.not_true, Bool.not_false, if_true, if_false, reduceIte, Bool.false_eq_true, true_and, and_true, and_self])
  by_cases h3 : 10 ^ 60 ≤ b
  · rw [if_pos (.inr h3)] at h2
    rw [decide_eq_true (show (1000000000000000000000000000000000000000000000000000000000000 : Int) ≤ b by omega)]
    exact h2
  rw [decide_eq_false (show ¬ (1000000000000000000000000000000000000000000000000000000000000 : Int) ≤ b by omega)]
  rw [if_neg (by rintro (z | z); exact h1 z; exact h3 z)] at h2
  have l1 := numI_len (i := t) (by omega)
  have l2 := numI_len (i := b) (by omega)
  (try simp -dsimp (maxSteps := 3000000) only [str_num, ↓SY.str1_z, SY.str1Z_s, SY.isStrD_s, SY.dStrI, SY.dIntS, SY.dSplit, SY.dSplitF, SY.dM1, SY.dFind, SY.dZfill, SY.dJoin, SY.splitD, SY.splitFD, SY.findD, SY.zfillD, SY.joinD, SY.dInS, SY.dNotInS, SY.inD, SY.notInD, SY.dIxS, SY.ixSD, SY.dSlS, SY.dForS, SY.dMax, SY.dLcS, SY.eqv_S, ↓SY.someOf_z, ↓SY.int1_z, ↓SY.int2_z, ↓SY.bl1_z, ↓SY.optK_z, ↓SY.seqK_z, ↓SY.ixD_z, ↓SY.addD_z, ↓SY.lenD_z, ↓SY.slD_z, ↓SY.setD_z, ↓SY.appD_z, ↓SY.popD_z, ↓SY.dgsK_z, ↓SY.one_z, ↓SY.two_z, ↓SY.intK_z, ↓SY.rng1_z, ↓SY.rng2_z, ↓SY.frzK_z, ↓SY.forL_z, ↓SY.lcL_z, ↓SY.dSeq_z, SY.someZ_s, SY.int1Z_s, SY.int2Z_s, SY.bl1Z_s, SY.optZ_s, SY.addZ_i, SY.addZ_s, SY.addZ_t, SY.addZ_l, SY.addZ_p, SY.lenZ_t, SY.lenZ_l, SY.lenZ_s, SY.lenZ_p, SY.slZ_t, SY.slZ_l, SY.slZ_s, SY.slZ_p, SY.setZ_s, SY.appZ_s, SY.popZ_s, SY.dgsZ_s, SY.nilK_s, SY.oneZ_s, SY.twoZ_s, SY.intZ_i, SY.intZ_b, SY.rng1Z_s, SY.rng2Z_s, SY.frzZ_p, SY.frzZ_l, SY.frzZ_t, SY.forZ_nil, SY.forZ_cons, SY.lcZ_nil, SY.lcZ_cons, SY.goZ_s, ↓SY.sq_nx, ↓SY.sq_rt, ↓SY.sq_bk, ↓SY.sq_ct, ↓SY.sq_ex, ↓SY.lp_nx, ↓SY.lp_ct, ↓SY.lp_bk, ↓SY.lp_rt, ↓SY.lp_ex, SY.dAsg, SY.dRet, SY.dRetN, SY.dNext, SY.dIf, SY.dTst, SY.dC, SY.dVar, SY.dI, SY.dI0, SY.dMul, SY.dDiv, SY.dMod, SY.dPow, SY.dSub, SY.dLt, SY.dLe, SY.dGt, SY.dGe, SY.dNeg, SY.dAdd, SY.dIx, SY.dNil, SY.dCons, SY.dTup, SY.dLst, SY.dLstM, ↓SY.dCall_z, SY.dAbs, SY.dLen, SY.dTuple, SY.dList, SY.dListM, SY.dEq, SY.dNe, SY.dIsN, SY.dNotN, SY.dIsB, SY.dNotB, SY.dFrz, SY.dRaise, SY.dTryAs, SY.dTryOnly, SY.dIsE, SY.dtAnd, SY.dtOr, SY.dtNot, SY.dAnd, SY.dOr, SY.dNot, SY.dIsi, SY.dAll, SY.dSum, SY.dInt, SY.dSl, SY.dNoO, SY.dSomeO, SY.dDrop, SY.dAug, SY.dPar, SY.dAsgG, SY.dgName, SY.dgTup, SY.dgsNil, SY.dgsName, SY.dgSub, SY.dApp, SY.dPopAt, SY.dFor, SY.dForR1, SY.dForR2, SY.dForE, SY.dLc, SY.dLcR, SY.dLcRM, SY.rngL, SY.enumL, SY.frozen_tup, SY.frozen_lst, SY.frozen_scr, SY.frozL_lst, SY.frozL_scr, SY.seqOf_tup, SY.seqOf_lst, SY.seqOf_scr, SY.seqOf_ptr, SY.seqOf_int, SY.seqOf_str, SY.lstOf_lst, SY.lstOf_scr, SY.lstOf_ptr, SY.mlst_lst, SY.plst_lst, SY.plst_ptr, SY.isPtrL, SY.tyN, SY.isNon, SY.blsOf, SY.intsOf, SY.dend0, SY.dend, SY.startD, SY.eqOk_int, SY.eqv_int, SY.atI0, SY.atI1, SY.atI2, SY.atI3, SY.atI4, SY.atI5, SY.ixN0, decide_true, decide_false, Int.reduceEq, Int.reduceLT, Int.reduceLE, SY.ixN_21, SY.ixN_31, SY.ixN_32, SY.ixN_41, SY.ixN_42, SY.ixN_43, SY.seqIx0, SY.updT_same, SY.updT_updT, List.map_cons, List.map_nil, List.length_cons, List.length_nil, List.replicate, List.cons_append, List.nil_append, List.getD_cons_zero, List.getD_cons_succ, List.set_cons_zero, List.set_cons_succ, List.getElem?_cons_zero, List.eraseIdx_cons_zero, Option.isSome_some, Option.map_some, Int.reduceToNat, Int.reducePow, Int.reduceAdd, Int.reduceMul, Nat.zero_lt_succ, Nat.reduceLT, Nat.sub_self, Nat.reduceSub, Nat.reduceAdd, Nat.reduceLeDiff, Nat.zero_add, SY.kit_ii, SY.kit_ib, SY.kit_it, SY.kit_bi, SY.kit_bb, SY.kit_tt, SY.kit_ti, SY.kit_tb, SY.kit_nt, SY.kit_ll, SY.kit_lt, Bool.not_true, Bool.not_false, if_true, if_false, reduceIte, Bool.false_eq_true, true_and, and_true, and_self])
  unfold wr at h2
  by_cases h4 : b = 1
  · rw [decide_eq_true h4]
    rw [if_pos h4] at h2
    (try simp -dsimp (maxSteps := 3000000) only [str_num, ↓SY.str1_z, SY.str1Z_s, SY.isStrD_s, SY.dStrI, SY.dIntS, SY.dSplit, SY.dSplitF, SY.dM1, SY.dFind, SY.dZfill, SY.dJoin, SY.splitD, SY.splitFD, SY.findD, SY.zfillD, SY.joinD, SY.dInS, SY.dNotInS, SY.inD, SY.notInD, SY.dIxS, SY.ixSD, SY.dSlS, SY.dForS, SY.dMax, SY.dLcS, SY.eqv_S, ↓SY.someOf_z, ↓SY.int1_z, ↓SY.int2_z, ↓SY.bl1_z, ↓SY.optK_z, ↓SY.seqK_z, ↓SY.ixD_z, ↓SY.addD_z, ↓SY.lenD_z, ↓SY.slD_z, ↓SY.setD_z, ↓SY.appD_z, ↓SY.popD_z, ↓SY.dgsK_z, ↓SY.one_z, ↓SY.two_z, ↓SY.intK_z, ↓SY.rng1_z, ↓SY.rng2_z, ↓SY.frzK_z, ↓SY.forL_z, ↓SY.lcL_z, ↓SY.dSeq_z, SY.someZ_s, SY.int1Z_s, SY.int2Z_s, SY.bl1Z_s, SY.optZ_s, SY.addZ_i, SY.addZ_s, SY.addZ_t, SY.addZ_l, SY.addZ_p, SY.lenZ_t, SY.lenZ_l, SY.lenZ_s, SY.lenZ_p, SY.slZ_t, SY.slZ_l, SY.slZ_s, SY.slZ_p, SY.setZ_s, SY.appZ_s, SY.popZ_s, SY.dgsZ_s, SY.nilK_s, SY.oneZ_s, SY.twoZ_s, SY.intZ_i, SY.intZ_b, SY.rng1Z_s, SY.rng2Z_s, SY.frzZ_p, SY.frzZ_l, SY.frzZ_t, SY.forZ_nil, SY.forZ_cons, SY.lcZ_nil, SY.lcZ_cons, SY.goZ_s, ↓SY.sq_nx, ↓SY.sq_rt, ↓SY.sq_bk, ↓SY.sq_ct, ↓SY.sq_ex, ↓SY.lp_nx, ↓SY.lp_ct, ↓SY.lp_bk, ↓SY.lp_rt, ↓SY.lp_ex, SY.dAsg, SY.dRet, SY.dRetN, SY.dNext, SY.dIf, SY.dTst, SY.dC, SY.dVar, SY.dI, SY.dI0, SY.dMul, SY.dDiv, SY.dMod, SY.dPow, SY.dSub, SY.dLt, SY.dLe, SY.dGt, SY.dGe, SY.dNeg, SY.dAdd, SY.dIx, SY.dNil, SY.dCons, SY.dTup, SY.dLst, SY.dLstM, ↓SY.dCall_z, SY.dAbs, SY.dLen, SY.dTuple, SY.dList, SY.dListM, SY.dEq, SY.dNe, SY.dIsN, SY.dNotN, SY.dIsB, SY.dNotB, SY.dFrz, SY.dRaise, SY.dTryAs, SY.dTryOnly, SY.dIsE, SY.dtAnd, SY.dtOr, SY.dtNot, SY.dAnd, SY.dOr, SY.dNot, SY.dIsi, SY.dAll, SY.dSum, SY.dInt, SY.dSl, SY.dNoO, SY.dSomeO, SY.dDrop, SY.dAug, SY.dPar, SY.dAsgG, SY.dgName, SY.dgTup, SY.dgsNil, SY.dgsName, SY.dgSub, SY.dApp, SY.dPopAt, SY.dFor, SY.dForR1, SY.dForR2, SY.dForE, SY.dLc, SY.dLcR, SY.dLcRM, SY.rngL, SY.enumL, SY.frozen_tup, SY.frozen_lst, SY.frozen_scr, SY.frozL_lst, SY.frozL_scr, SY.seqOf_tup, SY.seqOf_lst, SY.seqOf_scr, SY.seqOf_ptr, SY.seqOf_int, SY.seqOf_str, SY.lstOf_lst, SY.lstOf_scr, SY.lstOf_ptr, SY.mlst_lst, SY.plst_lst, SY.plst_ptr, SY.isPtrL, SY.tyN, SY.isNon, SY.blsOf, SY.intsOf, SY.dend0, SY.dend, SY.startD, SY.eqOk_int, SY.eqv_int, SY.atI0, SY.atI1, SY.atI2, SY.atI3, SY.atI4, SY.atI5, SY.ixN0, decide_true, decide_false, Int.reduceEq, Int.reduceLT, Int.reduceLE, SY.ixN_21, SY.ixN_31, SY.ixN_32, SY.ixN_41, SY.ixN_42, SY.ixN_43, SY.seqIx0, SY.updT_same, SY.updT_updT, List.map_cons, List.map_nil, List.length_cons, List.length_nil, List.replicate, List.cons_append, List.nil_append, List.getD_cons_zero, List.getD_cons_succ, List.set_cons_zero, List.set_cons_succ, List.getElem?_cons_zero, List.eraseIdx_cons_zero, Option.isSome_some, Option.map_some, Int.reduceToNat, Int.reducePow, Int.reduceAdd, Int.reduceMul, Nat.zero_lt_succ, Nat.reduceLT, Nat.sub_self, Nat.reduceSub, Nat.reduceAdd, Nat.reduceLeDiff, Nat.zero_add, SY.kit_ii, SY.kit_ib, SY.kit_it, SY.kit_bi, SY.kit_bb, SY.kit_tt, SY.kit_ti, SY.kit_tb, SY.kit_nt, SY.kit_ll, SY.kit_lt, Bool.not_true, Bool.not_false, if_true, if_false, reduceIte, Bool.false_eq_true, true_and, and_true, and_self])
    exact ⟨sbit (by omega), h2⟩
  · rw [decide_eq_false h4]
    rw [if_neg h4] at h2
    (try simp -dsimp (maxSteps := 3000000) only [str_num, lit_stroke, lenS, ↓SY.str1_z, SY.str1Z_s, SY.isStrD_s, SY.dStrI, SY.dIntS, SY.dSplit, SY.dSplitF, SY.dM1, SY.dFind, SY.dZfill, SY.dJoin, SY.splitD, SY.splitFD, SY.findD, SY.zfillD, SY.joinD, SY.dInS, SY.dNotInS, SY.inD, SY.notInD, SY.dIxS, SY.ixSD, SY.dSlS, SY.dForS, SY.dMax, SY.dLcS, SY.eqv_S, ↓SY.someOf_z, ↓SY.int1_z, ↓SY.int2_z, ↓SY.bl1_z, ↓SY.optK_z, ↓SY.seqK_z, ↓SY.ixD_z, ↓SY.addD_z, ↓SY.lenD_z, ↓SY.slD_z, ↓SY.setD_z, ↓SY.appD_z, ↓SY.popD_z, ↓SY.dgsK_z, ↓SY.one_z, ↓SY.two_z, ↓SY.intK_z, ↓SY.rng1_z, ↓SY.rng2_z, ↓SY.frzK_z, ↓SY.forL_z, ↓SY.lcL_z, ↓SY.dSeq_z, SY.someZ_s, SY.int1Z_s, SY.int2Z_s, SY.bl1Z_s, SY.optZ_s, SY.addZ_i, SY.addZ_s, SY.addZ_t, SY.addZ_l, SY.addZ_p, SY.lenZ_t, SY.lenZ_l, SY.lenZ_s, SY.lenZ_p, SY.slZ_t, SY.slZ_l, SY.slZ_s, SY.slZ_p, SY.setZ_s, SY.appZ_s, SY.popZ_s, SY.dgsZ_s, SY.nilK_s, SY.oneZ_s, SY.twoZ_s, SY.intZ_i, SY.intZ_b, SY.rng1Z_s, SY.rng2Z_s, SY.frzZ_p, SY.frzZ_l, SY.frzZ_t, SY.forZ_nil, SY.forZ_cons, SY.lcZ_nil, SY.lcZ_cons, SY.goZ_s, ↓SY.sq_nx, ↓SY.sq_rt, ↓SY.sq_bk, ↓SY.sq_ct, ↓SY.sq_ex, ↓SY.lp_nx, ↓SY.lp_ct, ↓SY.lp_bk, ↓SY.lp_rt, ↓SY.lp_ex, SY.dAsg, SY.dRet, SY.dRetN, SY.dNext, SY.dIf, SY.dTst, SY.dC, SY.dVar, SY.dI, SY.dI0, SY.dMul, SY.dDiv, SY.dMod, SY.dPow, SY.dSub, SY.dLt, SY.dLe, SY.dGt, SY.dGe, SY.dNeg, SY.dAdd, SY.dIx, SY.dNil, SY.dCons, SY.dTup, SY.dLst, SY.dLstM, ↓SY.dCall_z, SY.dAbs, SY.dLen, SY.dTuple, SY.dList, SY.dListM, SY.dEq, SY.dNe, SY.dIsN, SY.dNotN, SY.dIsB, SY.dNotB, SY.dFrz, SY.dRaise, SY.dTryAs, SY.dTryOnly, SY.dIsE, SY.dtAnd, SY.dtOr, SY.dtNot, SY.dAnd, SY.dOr, SY.dNot, SY.dIsi, SY.dAll, SY.dSum, SY.dInt, SY.dSl, SY.dNoO, SY.dSomeO, SY.dDrop, SY.dAug, SY.dPar, SY.dAsgG, SY.dgName, SY.dgTup, SY.dgsNil, SY.dgsName, SY.dgSub, SY.dApp, SY.dPopAt, SY.dFor, SY.dForR1, SY.dForR2, SY.dForE, SY.dLc, SY.dLcR, SY.dLcRM, SY.rngL, SY.enumL, SY.frozen_tup, SY.frozen_lst, SY.frozen_scr, SY.frozL_lst, SY.frozL_scr, SY.seqOf_tup, SY.seqOf_lst, SY.seqOf_scr, SY.seqOf_ptr, SY.seqOf_int, SY.seqOf_str, SY.lstOf_lst, SY.lstOf_scr, SY.lstOf_ptr, SY.mlst_lst, SY.plst_lst, SY.plst_ptr, SY.isPtrL, SY.tyN, SY.isNon, SY.blsOf, SY.intsOf, SY.dend0, SY.dend, SY.startD, SY.eqOk_int, SY.eqv_int, SY.atI0, SY.atI1, SY.atI2, SY.atI3, SY.atI4, SY.atI5, SY.ixN0, decide_true, decide_false, Int.reduceEq, Int.reduceLT, Int.reduceLE, SY.ixN_21, SY.ixN_31, SY.ixN_32, SY.ixN_41, SY.ixN_42, SY.ixN_43, SY.seqIx0, SY.updT_same, SY.updT_updT, List.map_cons, List.map_nil, List.length_cons, List.length_nil, List.replicate, List.cons_append, List.nil_append, List.getD_cons_zero, List.getD_cons_succ, List.set_cons_zero, List.set_cons_succ, List.getElem?_cons_zero, List.eraseIdx_cons_zero, Option.isSome_some, Option.map_some, Int.reduceToNat, Int.reducePow, Int.reduceAdd, Int.reduceMul, Nat.zero_lt_succ, Nat.reduceLT, Nat.sub_self, Nat.reduceSub, Nat.reduceAdd, Nat.reduceLeDiff, Nat.zero_add, SY.kit_ii, SY.kit_ib, SY.kit_it, SY.kit_bi, SY.kit_bb, SY.kit_tt, SY.kit_ti, SY.kit_tb, SY.kit_nt, SY.kit_ll, SY.kit_lt, Bool.not_true, Bool.not_false, if_true, if_false, reduceIte, Bool.false_eq_true, true_and, and_true, and_self])
    refine ⟨sbit (by omega), ?_, sbit (by omega), ?_, ?_⟩
    · omega
    · rw [show S (numI t) ++ S [47] = S (numI t ++ [47]) from SX.S_cat _ _]
      simp only [lenS, List.length_append, List.length_cons, List.length_nil]; omega
    · rw [show S (numI t) ++ S [47] = S (numI t ++ [47]) from SX.S_cat _ _, show S (numI t ++ [47]) ++ S (numI b) = S (numI t ++ [47] ++ numI b) from SX.S_cat _ _, List.append_assoc]
      exact h2
theorem sp_shown_number_mk {t b : Int} (hb : 0 < b) (h : if 10 ^ 60 ≤ t.natAbs ∨ 10 ^ 60 ≤ b then X "TooGreat" T else P (.str (S (wr t b))) T) : sp_shown_number [.tup [.int t, .int b]] T P X := lock_at ⟨t, b, rfl, hb, h⟩
theorem spl_len {s : List Nat} : ∀ (l : List Nat) (k : Nat) (acc : List Nat), ∀ p ∈ TL.spl s k acc l, p.length ≤ acc.length + l.length
  | [], k, acc, p, h => by
    rw [TL.spl_nil] at h
    have e : p = acc := by simpa using h
    rw [e]
    simp
  | c :: l, k + 1, acc, p, h => by
    have := spl_len l k acc p h
    simp only [List.length_cons]
    omega
  | c :: l, 0, acc, p, h => by
    cases hp : TL.pre s (c :: l) with
    | true =>
      rw [TL.spl_hit hp] at h
      rcases List.mem_cons.mp h with rfl | h
      · simp
      · have := spl_len l (s.length - 1) [] p h
        simp only [List.length_cons, List.length_nil] at *
        omega
    | false =>
      rw [TL.spl_miss hp] at h
      have := spl_len l 0 (acc ++ [c]) p h
      simp only [List.length_append, List.length_cons, List.length_nil] at *
      omega
theorem parts_len {l p : List Nat} (h : p ∈ parts l) : p.length ≤ l.length := by
  have := spl_len l 0 [] p h
  simpa using this
/-- a number read -/
noncomputable def sp_read_number : DSp := lock <| sp1 fun a T P X => ∃ l : List Nat, a = .str (S l) ∧ l.length ≤ 5000 ∧ Asc l ∧ (rdN l = none → X "NoText" T) ∧ ∀ t b, rdN l = some (t, b) → P (.tup ((sgZ [t, b]).map .int)) T
def d_read_number_t4 : DS := (dSeq (dIf (dtOr (dTst (dNe (dLen (dVar 2)) (dC (.int 2)))) (dtOr (dtNot (dTst (dCall sp_are_figures (dCons (dIx (dVar 2) (dC (.int 0))) dNil)))) (dtNot (dTst (dCall sp_are_figures (dCons (dIx (dVar 2) (dC (.int 1))) dNil)))))) (dRaise "NoText") dNext) (dSeq (dAsg (dIntS (dIx (dVar 2) (dC (.int 0)))) 3) (dSeq (dAsg (dIntS (dIx (dVar 2) (dC (.int 1)))) 4) (dSeq (dIf (dTst (dEq (dVar 4) (dC (.int 0)))) (dRaise "NoText") dNext) (dSeq (dIf (dTst (dEq (dSlS (dVar 0) dNoO (dSomeO (dC (.int 1)))) (dC (.str (PySem.Str.ofString "-"))))) (dRet (dCall sp_fraction (dCons (dNeg (dVar 3)) (dCons (dVar 4) dNil)))) dNext) (dRet (dCall sp_fraction (dCons (dVar 3) (dCons (dVar 4) dNil)))))))))
def d_read_number_t2 : DS := (dSeq (dAsg (dSplit (dVar 1) (dC (.str (PySem.Str.ofString "/")))) 2) (dSeq (dIf (dTst (dEq (dLen (dVar 2)) (dC (.int 1)))) (dDrop (dApp (dVar 2) (dC (.str (PySem.Str.ofString "1"))))) dNext) d_read_number_t4))
def d_read_number : DS := (dSeq (dAsg (dVar 0) 1) (dSeq (dIf (dTst (dEq (dSlS (dVar 0) dNoO (dSomeO (dC (.int 1)))) (dC (.str (PySem.Str.ofString "-"))))) (dAsg (dSlS (dVar 0) (dSomeO (dC (.int 1))) dNoO) 1) dNext) d_read_number_t2))
theorem val_B {l : List Nat} (h : figs l = true) : Bd 250 ((val l : Nat) : Int) := by
  have := val_bd h
  exact Nat.lt_trans (by rw [Int.natAbs_natCast]; exact this) (by decide)
theorem read_t4 {K : PySem.W.Frag} {l a b : List Nat} {w : Option D} {p : Addr} (hp : T p = none) (hl : l.length ≤ 5000) (as : Asc l) (ha : a.length ≤ 5000) (hb : b.length ≤ 5000) (h0 : two' (isNeg l) a b = none → X "NoText" T) (h1 : ∀ t c, two' (isNeg l) a b = some (t, c) → P (.tup ((sgZ [t, c]).map .int)) T) :
    d_read_number_t4 (dend K P X) [some (.str (S l)), w, some (.ptr p), none, none] (updT T p (.lst [.str (S a), .str (S b)])) := by
  unfold d_read_number_t4
  have wk : ∀ d, Wk K d (updT T p (.lst [.str (S a), .str (S b)])) d T := fun d => Wk.drop fun a m e => updT_off hp e
  walk_at "dz"
  refine sp_are_figures_mk (by omega) ?_
  unfold two' at h0 h1
  cases fa : figs a with
  | false =>
    rw [fa] at h0
    exact ⟨T, wk _, h0 (if_neg (by simp))⟩
  | true =>
    walk_at "dz"
    refine sp_are_figures_mk (by omega) ?_
    cases fb : figs b with
    | false =>
      rw [fb] at h0
      exact ⟨T, wk _, h0 (if_neg (by simp))⟩
    | true =>
      have la := figs_len fa
      have lb := figs_len fb
      (try simp -dsimp (maxSteps := 3000000) only [lit_minus, ↓SY.str1_z, SY.str1Z_s, SY.isStrD_s, SY.dStrI, SY.dIntS, SY.dSplit, SY.dSplitF, SY.dM1, SY.dFind, SY.dZfill, SY.dJoin, SY.splitD, SY.splitFD, SY.findD, SY.zfillD, SY.joinD, SY.dInS, SY.dNotInS, SY.inD, SY.notInD, SY.dIxS, SY.ixSD, SY.dSlS, SY.dForS, SY.dMax, SY.dLcS, SY.eqv_S, ↓SY.someOf_z, ↓SY.int1_z, ↓SY.int2_z, ↓SY.bl1_z, ↓SY.optK_z, ↓SY.seqK_z, ↓SY.ixD_z, ↓SY.addD_z, ↓SY.lenD_z, ↓SY.slD_z, ↓SY.setD_z, ↓SY.appD_z, ↓SY.popD_z, ↓SY.dgsK_z, ↓SY.one_z, ↓SY.two_z, ↓SY.intK_z, ↓SY.rng1_z, ↓SY.rng2_z, ↓SY.frzK_z, ↓SY.forL_z, ↓SY.lcL_z, ↓SY.dSeq_z, SY.someZ_s, SY.int1Z_s, SY.int2Z_s, SY.bl1Z_s, SY.optZ_s, SY.addZ_i, SY.addZ_s, SY.addZ_t, SY.addZ_l, SY.addZ_p, SY.lenZ_t, SY.lenZ_l, SY.lenZ_s, SY.lenZ_p, SY.slZ_t, SY.slZ_l, SY.slZ_s, SY.slZ_p, SY.setZ_s, SY.appZ_s, SY.popZ_s, SY.dgsZ_s, SY.nilK_s, SY.oneZ_s, SY.twoZ_s, SY.intZ_i, SY.intZ_b, SY.rng1Z_s, SY.rng2Z_s, SY.frzZ_p, SY.frzZ_l, SY.frzZ_t, SY.forZ_nil, SY.forZ_cons, SY.lcZ_nil, SY.lcZ_cons, SY.goZ_s, ↓SY.sq_nx, ↓SY.sq_rt, ↓SY.sq_bk, ↓SY.sq_ct, ↓SY.sq_ex, ↓SY.lp_nx, ↓SY.lp_ct, ↓SY.lp_bk, ↓SY.lp_rt, ↓SY.lp_ex, SY.dAsg, SY.dRet, SY.dRetN, SY.dNext, SY.dIf, SY.dTst, SY.dC, SY.dVar, SY.dI, SY.dI0, SY.dMul, SY.dDiv, SY.dMod, SY.dPow, SY.dSub, SY.dLt, SY.dLe, SY.dGt, SY.dGe, SY.dNeg, SY.dAdd, SY.dIx, SY.dNil, SY.dCons, SY.dTup, SY.dLst, SY.dLstM, ↓SY.dCall_z, SY.dAbs, SY.dLen, SY.dTuple, SY.dList, SY.dListM, SY.dEq, SY.dNe, SY.dIsN, SY.dNotN, SY.dIsB, SY.dNotB, SY.dFrz, SY.dRaise, SY.dTryAs, SY.dTryOnly, SY.dIsE, SY.dtAnd, SY.dtOr, SY.dtNot, SY.dAnd, SY.dOr, SY.dNot, SY.dIsi, SY.dAll, SY.dSum, SY.dInt, SY.dSl, SY.dNoO, SY.dSomeO, SY.dDrop, SY.dAug, SY.dPar, SY.dAsgG, SY.dgName, SY.dgTup, SY.dgsNil, SY.dgsName, SY.dgSub, SY.dApp, SY.dPopAt, SY.dFor, SY.dForR1, SY.dForR2, SY.dForE, SY.dLc, SY.dLcR, SY.dLcRM, SY.rngL, SY.enumL, SY.frozen_tup, SY.frozen_lst, SY.frozen_scr, SY.frozL_lst, SY.frozL_scr, SY.seqOf_tup, SY.seqOf_lst, SY.seqOf_scr, SY.seqOf_ptr, SY.seqOf_int, SY.seqOf_str, SY.lstOf_lst, SY.lstOf_scr, SY.lstOf_ptr, SY.mlst_lst, SY.plst_lst, SY.plst_ptr, SY.isPtrL, SY.tyN, SY.isNon, SY.blsOf, SY.intsOf, SY.dend0, SY.dend, SY.startD, SY.eqOk_int, SY.eqv_int, SY.atI0, SY.atI1, SY.atI2, SY.atI3, SY.atI4, SY.atI5, SY.ixN0, decide_true, decide_false, Int.reduceEq, Int.reduceLT, Int.reduceLE, SY.ixN_21, SY.ixN_31, SY.ixN_32, SY.ixN_41, SY.ixN_42, SY.ixN_43, SY.seqIx0, SY.updT_same, SY.updT_updT, List.map_cons, List.map_nil, List.length_cons, List.length_nil, List.replicate, List.cons_append, List.nil_append, List.getD_cons_zero, List.getD_cons_succ, List.set_cons_zero, List.set_cons_succ, List.getElem?_cons_zero, List.eraseIdx_cons_zero, Option.isSome_some, Option.map_some, Int.reduceToNat, Int.reducePow, Int.reduceAdd, Int.reduceMul, Nat.zero_lt_succ, Nat.reduceLT, Nat.sub_self, Nat.reduceSub, Nat.reduceAdd, Nat.reduceLeDiff, Nat.zero_add, SY.kit_ii, SY.kit_ib, SY.kit_it, SY.kit_bi, SY.kit_bb, SY.kit_tt, SY.kit_ti, SY.kit_tb, SY.kit_nt, SY.kit_ll, SY.kit_lt, Bool.not_true, Bool.not_false, if_true, if_false, reduceIte, Bool.false_eq_true, true_and, and_true, and_self])
      refine ⟨_, int_val fa, by rw [lenS]; omega, ?_⟩
      (try simp -dsimp (maxSteps := 3000000) only [lit_minus, ↓SY.str1_z, SY.str1Z_s, SY.isStrD_s, SY.dStrI, SY.dIntS, SY.dSplit, SY.dSplitF, SY.dM1, SY.dFind, SY.dZfill, SY.dJoin, SY.splitD, SY.splitFD, SY.findD, SY.zfillD, SY.joinD, SY.dInS, SY.dNotInS, SY.inD, SY.notInD, SY.dIxS, SY.ixSD, SY.dSlS, SY.dForS, SY.dMax, SY.dLcS, SY.eqv_S, ↓SY.someOf_z, ↓SY.int1_z, ↓SY.int2_z, ↓SY.bl1_z, ↓SY.optK_z, ↓SY.seqK_z, ↓SY.ixD_z, ↓SY.addD_z, ↓SY.lenD_z, ↓SY.slD_z, ↓SY.setD_z, ↓SY.appD_z, ↓SY.popD_z, ↓SY.dgsK_z, ↓SY.one_z, ↓SY.two_z, ↓SY.intK_z, ↓SY.rng1_z, ↓SY.rng2_z, ↓SY.frzK_z, ↓SY.forL_z, ↓SY.lcL_z, ↓SY.dSeq_z, SY.someZ_s, SY.int1Z_s, SY.int2Z_s, SY.bl1Z_s, SY.optZ_s, SY.addZ_i, SY.addZ_s, SY.addZ_t, SY.addZ_l, SY.addZ_p, SY.lenZ_t, SY.lenZ_l, SY.lenZ_s, SY.lenZ_p, SY.slZ_t, SY.slZ_l, SY.slZ_s, SY.slZ_p, SY.setZ_s, SY.appZ_s, SY.popZ_s, SY.dgsZ_s, SY.nilK_s, SY.oneZ_s, SY.twoZ_s, SY.intZ_i, SY.intZ_b, SY.rng1Z_s, SY.rng2Z_s, SY.frzZ_p, SY.frzZ_l, SY.frzZ_t, SY.forZ_nil, SY.forZ_cons, SY.lcZ_nil, SY.lcZ_cons, SY.goZ_s, ↓SY.sq_nx, ↓SY.sq_rt, ↓SY.sq_bk, ↓SY.sq_ct, ↓SY.sq_ex, ↓SY.lp_nx, ↓SY.lp_ct, ↓SY.lp_bk, ↓SY.lp_rt, ↓SY.lp_ex, SY.dAsg, SY.dRet, SY.dRetN, SY.dNext, SY.dIf, SY.dTst, SY.dC, SY.dVar, SY.dI, SY.dI0, SY.dMul, SY.dDiv, SY.dMod, SY.dPow, SY.dSub, SY.dLt, SY.dLe, SY.dGt, SY.dGe, SY.dNeg, SY.dAdd, SY.dIx, SY.dNil, SY.dCons, SY.dTup, SY.dLst, SY.dLstM, ↓SY.dCall_z, SY.dAbs, SY.dLen, SY.dTuple, SY.dList, SY.dListM, SY.dEq, SY.dNe, SY.dIsN, SY.dNotN, SY.dIsB, SY.dNotB, SY.dFrz, SY.dRaise, SY.dTryAs, SY.dTryOnly, SY.dIsE, SY.dtAnd, SY.dtOr, SY.dtNot, SY.dAnd, SY.dOr, SY.dNot, SY.dIsi, SY.dAll, SY.dSum, SY.dInt, SY.dSl, SY.dNoO, SY.dSomeO, SY.dDrop, SY.dAug, SY.dPar, SY.dAsgG, SY.dgName, SY.dgTup, SY.dgsNil, SY.dgsName, SY.dgSub, SY.dApp, SY.dPopAt, SY.dFor, SY.dForR1, SY.dForR2, SY.dForE, SY.dLc, SY.dLcR, SY.dLcRM, SY.rngL, SY.enumL, SY.frozen_tup, SY.frozen_lst, SY.frozen_scr, SY.frozL_lst, SY.frozL_scr, SY.seqOf_tup, SY.seqOf_lst, SY.seqOf_scr, SY.seqOf_ptr, SY.seqOf_int, SY.seqOf_str, SY.lstOf_lst, SY.lstOf_scr, SY.lstOf_ptr, SY.mlst_lst, SY.plst_lst, SY.plst_ptr, SY.isPtrL, SY.tyN, SY.isNon, SY.blsOf, SY.intsOf, SY.dend0, SY.dend, SY.startD, SY.eqOk_int, SY.eqv_int, SY.atI0, SY.atI1, SY.atI2, SY.atI3, SY.atI4, SY.atI5, SY.ixN0, decide_true, decide_false, Int.reduceEq, Int.reduceLT, Int.reduceLE, SY.ixN_21, SY.ixN_31, SY.ixN_32, SY.ixN_41, SY.ixN_42, SY.ixN_43, SY.seqIx0, SY.updT_same, SY.updT_updT, List.map_cons, List.map_nil, List.length_cons, List.length_nil, List.replicate, List.cons_append, List.nil_append, List.getD_cons_zero, List.getD_cons_succ, List.set_cons_zero, List.set_cons_succ, List.getElem?_cons_zero, List.eraseIdx_cons_zero, Option.isSome_some, Option.map_some, Int.reduceToNat, Int.reducePow, Int.reduceAdd, Int.reduceMul, Nat.zero_lt_succ, Nat.reduceLT, Nat.sub_self, Nat.reduceSub, Nat.reduceAdd, Nat.reduceLeDiff, Nat.zero_add, SY.kit_ii, SY.kit_ib, SY.kit_it, SY.kit_bi, SY.kit_bb, SY.kit_tt, SY.kit_ti, SY.kit_tb, SY.kit_nt, SY.kit_ll, SY.kit_lt, Bool.not_true, Bool.not_false, if_true, if_false, reduceIte, Bool.false_eq_true, true_and, and_true, and_self])
      refine ⟨_, int_val fb, by rw [lenS]; omega, ?_⟩
      walk_at "dz"
      by_cases hv : val b = 0
      · rw [decide_eq_true (show ((val b : Nat) : Int) = 0 by omega)]
        exact ⟨T, wk _, h0 (if_neg fun z => z.2.2 hv)⟩
      · rw [decide_eq_false (show ¬ ((val b : Nat) : Int) = 0 by omega)]
        rw [if_pos ⟨fa, fb, hv⟩] at h1
        have q1 := eqOk_S (as.take 1)
        (try simp -dsimp (maxSteps := 3000000) only [lit_minus, lenS, cut_to1, q1, eqOk_minus, ↓SY.str1_z, SY.str1Z_s, SY.isStrD_s, SY.dStrI, SY.dIntS, SY.dSplit, SY.dSplitF, SY.dM1, SY.dFind, SY.dZfill, SY.dJoin, SY.splitD, SY.splitFD, SY.findD, SY.zfillD, SY.joinD, SY.dInS, SY.dNotInS, SY.inD, SY.notInD, SY.dIxS, SY.ixSD, SY.dSlS, SY.dForS, SY.dMax, SY.dLcS, SY.eqv_S, ↓SY.someOf_z, ↓SY.int1_z, ↓SY.int2_z, ↓SY.bl1_z, ↓SY.optK_z, ↓SY.seqK_z, ↓SY.ixD_z, ↓SY.addD_z, ↓SY.lenD_z, ↓SY.slD_z, ↓SY.setD_z, ↓SY.appD_z, ↓SY.popD_z, ↓SY.dgsK_z, ↓SY.one_z, ↓SY.two_z, ↓SY.intK_z, ↓SY.rng1_z, ↓SY.rng2_z, ↓SY.frzK_z, ↓SY.forL_z, ↓SY.lcL_z, ↓SY.dSeq_z, SY.someZ_s, SY.int1Z_s, SY.int2Z_s, SY.bl1Z_s, SY.optZ_s, SY.addZ_i, SY.addZ_s, SY.addZ_t, SY.addZ_l, SY.addZ_p, SY.lenZ_t, SY.lenZ_l, SY.lenZ_s, SY.lenZ_p, SY.slZ_t, SY.slZ_l, SY.slZ_s, SY.slZ_p, SY.setZ_s, SY.appZ_s, SY.popZ_s, SY.dgsZ_s, SY.nilK_s, SY.oneZ_s, SY.twoZ_s, SY.intZ_i, SY.intZ_b, SY.rng1Z_s, SY.rng2Z_s, SY.frzZ_p, SY.frzZ_l, SY.frzZ_t, SY.forZ_nil, SY.forZ_cons, SY.lcZ_nil, SY.lcZ_cons, SY.goZ_s, ↓SY.sq_nx, ↓SY.sq_rt, ↓SY.sq_bk, ↓SY.sq_ct, ↓SY.sq_ex, ↓SY.lp_nx, ↓SY.lp_ct, ↓SY.lp_bk, ↓SY.lp_rt, ↓SY.lp_ex, SY.dAsg, SY.dRet, SY.dRetN, SY.dNext, SY.dIf, SY.dTst, SY.dC, SY.dVar, SY.dI, SY.dI0, SY.dMul, SY.dDiv, SY.dMod, SY.dPow, SY.dSub, SY.dLt, SY.dLe, SY.dGt, SY.dGe, SY.dNeg, SY.dAdd, SY.dIx, SY.dNil, SY.dCons, SY.dTup, SY.dLst, SY.dLstM, ↓SY.dCall_z, SY.dAbs, SY.dLen, SY.dTuple, SY.dList, SY.dListM, SY.dEq, SY.dNe, SY.dIsN, SY.dNotN, SY.dIsB, SY.dNotB, SY.dFrz, SY.dRaise, SY.dTryAs, SY.dTryOnly, SY.dIsE, SY.dtAnd, SY.dtOr, SY.dtNot, SY.dAnd, SY.dOr, SY.dNot, SY.dIsi, SY.dAll, SY.dSum, SY.dInt, SY.dSl, SY.dNoO, SY.dSomeO, SY.dDrop, SY.dAug, SY.dPar, SY.dAsgG, SY.dgName, SY.dgTup, SY.dgsNil, SY.dgsName, SY.dgSub, SY.dApp, SY.dPopAt, SY.dFor, SY.dForR1, SY.dForR2, SY.dForE, SY.dLc, SY.dLcR, SY.dLcRM, SY.rngL, SY.enumL, SY.frozen_tup, SY.frozen_lst, SY.frozen_scr, SY.frozL_lst, SY.frozL_scr, SY.seqOf_tup, SY.seqOf_lst, SY.seqOf_scr, SY.seqOf_ptr, SY.seqOf_int, SY.seqOf_str, SY.lstOf_lst, SY.lstOf_scr, SY.lstOf_ptr, SY.mlst_lst, SY.plst_lst, SY.plst_ptr, SY.isPtrL, SY.tyN, SY.isNon, SY.blsOf, SY.intsOf, SY.dend0, SY.dend, SY.startD, SY.eqOk_int, SY.eqv_int, SY.atI0, SY.atI1, SY.atI2, SY.atI3, SY.atI4, SY.atI5, SY.ixN0, decide_true, decide_false, Int.reduceEq, Int.reduceLT, Int.reduceLE, SY.ixN_21, SY.ixN_31, SY.ixN_32, SY.ixN_41, SY.ixN_42, SY.ixN_43, SY.seqIx0, SY.updT_same, SY.updT_updT, List.map_cons, List.map_nil, List.length_cons, List.length_nil, List.replicate, List.cons_append, List.nil_append, List.getD_cons_zero, List.getD_cons_succ, List.set_cons_zero, List.set_cons_succ, List.getElem?_cons_zero, List.eraseIdx_cons_zero, Option.isSome_some, Option.map_some, Int.reduceToNat, Int.reducePow, Int.reduceAdd, Int.reduceMul, Nat.zero_lt_succ, Nat.reduceLT, Nat.sub_self, Nat.reduceSub, Nat.reduceAdd, Nat.reduceLeDiff, Nat.zero_add, SY.kit_ii, SY.kit_ib, SY.kit_it, SY.kit_bi, SY.kit_bb, SY.kit_tt, SY.kit_ti, SY.kit_tb, SY.kit_nt, SY.kit_ll, SY.kit_lt, Bool.not_true, Bool.not_false, if_true, if_false, reduceIte, Bool.false_eq_true, true_and, and_true, and_self])
        refine ⟨by omega, ?_⟩
        unfold isNeg at h1
        have e : (l.take 1 == [45]) = decide (l.take 1 = [45]) := by
          cases hq : decide (l.take 1 = [45])
          · exact beq_eq_false_iff_ne.mpr (of_decide_eq_false hq)
          · rw [of_decide_eq_true hq]; rfl
        rw [e] at h1
        have bb := val_B fb
        have ba := val_B fa
        have nb : ((val b : Nat) : Int) ≠ 0 := by omega
        cases hq : decide (l.take 1 = [45])
        · rw [hq] at h1
          walk_at "dz"
          exact sp_fraction_mk nb ⟨by walk_at "bt", by walk_at "bt"⟩ ⟨_, T, wk _, h1 _ _ rfl⟩
        · rw [hq] at h1
          walk_at "dz"
          exact sp_fraction_mk nb ⟨by walk_at "bt", by walk_at "bt"⟩ ⟨_, T, wk _, h1 _ _ rfl⟩
theorem read_t2 {K : PySem.W.Frag} {l w : List Nat} (hl : l.length ≤ 5000) (as : Asc l) (hw : w.length ≤ 5000) (h0 : rdP (isNeg l) (parts w) = none → X "NoText" T) (h1 : ∀ t c, rdP (isNeg l) (parts w) = some (t, c) → P (.tup ((sgZ [t, c]).map .int)) T) :
    d_read_number_t2 (dend K P X) [some (.str (S l)), some (.str (S w)), none, none, none] T := by
  unfold d_read_number_t2
  generalize ht : d_read_number_t4 = t4
  (try simp -dsimp (maxSteps := 3000000) only [lit_stroke, lenS, split_stroke, ↓SY.str1_z, SY.str1Z_s, SY.isStrD_s, SY.dStrI, SY.dIntS, SY.dSplit, SY.dSplitF, SY.dM1, SY.dFind, SY.dZfill, SY.dJoin, SY.splitD, SY.splitFD, SY.findD, SY.zfillD, SY.joinD, SY.dInS, SY.dNotInS, SY.inD, SY.notInD, SY.dIxS, SY.ixSD, SY.dSlS, SY.dForS, SY.dMax, SY.dLcS, SY.eqv_S, ↓SY.someOf_z, ↓SY.int1_z, ↓SY.int2_z, ↓SY.bl1_z, ↓SY.optK_z, ↓SY.seqK_z, ↓SY.ixD_z, ↓SY.addD_z, ↓SY.lenD_z, ↓SY.slD_z, ↓SY.setD_z, ↓SY.appD_z, ↓SY.popD_z, ↓SY.dgsK_z, ↓SY.one_z, ↓SY.two_z, ↓SY.intK_z, ↓SY.rng1_z, ↓SY.rng2_z, ↓SY.frzK_z, ↓SY.forL_z, ↓SY.lcL_z, ↓SY.dSeq_z, SY.someZ_s, SY.int1Z_s, SY.int2Z_s, SY.bl1Z_s, SY.optZ_s, SY.addZ_i, SY.addZ_s, SY.addZ_t, SY.addZ_l, SY.addZ_p, SY.lenZ_t, SY.lenZ_l, SY.lenZ_s, SY.lenZ_p, SY.slZ_t, SY.slZ_l, SY.slZ_s, SY.slZ_p, SY.setZ_s, SY.appZ_s, SY.popZ_s, SY.dgsZ_s, SY.nilK_s, SY.oneZ_s, SY.twoZ_s, SY.intZ_i, SY.intZ_b, SY.rng1Z_s, SY.rng2Z_s, SY.frzZ_p, SY.frzZ_l, SY.frzZ_t, SY.forZ_nil, SY.forZ_cons, SY.lcZ_nil, SY.lcZ_cons, SY.goZ_s, ↓SY.sq_nx, ↓SY.sq_rt, ↓SY.sq_bk, ↓SY.sq_ct, ↓SY.sq_ex, ↓SY.lp_nx, ↓SY.lp_ct, ↓SY.lp_bk, ↓SY.lp_rt, ↓SY.lp_ex, SY.dAsg, SY.dRet, SY.dRetN, SY.dNext, SY.dIf, SY.dTst, SY.dC, SY.dVar, SY.dI, SY.dI0, SY.dMul, SY.dDiv, SY.dMod, SY.dPow, SY.dSub, SY.dLt, SY.dLe, SY.dGt, SY.dGe, SY.dNeg, SY.dAdd, SY.dIx, SY.dNil, SY.dCons, SY.dTup, SY.dLst, SY.dLstM, ↓SY.dCall_z, SY.dAbs, SY.dLen, SY.dTuple, SY.dList, SY.dListM, SY.dEq, SY.dNe, SY.dIsN, SY.dNotN, SY.dIsB, SY.dNotB, SY.dFrz, SY.dRaise, SY.dTryAs, SY.dTryOnly, SY.dIsE, SY.dtAnd, SY.dtOr, SY.dtNot, SY.dAnd, SY.dOr, SY.dNot, SY.dIsi, SY.dAll, SY.dSum, SY.dInt, SY.dSl, SY.dNoO, SY.dSomeO, SY.dDrop, SY.dAug, SY.dPar, SY.dAsgG, SY.dgName, SY.dgTup, SY.dgsNil, SY.dgsName, SY.dgSub, SY.dApp, SY.dPopAt, SY.dFor, SY.dForR1, SY.dForR2, SY.dForE, SY.dLc, SY.dLcR, SY.dLcRM, SY.rngL, SY.enumL, SY.frozen_tup, SY.frozen_lst, SY.frozen_scr, SY.frozL_lst, SY.frozL_scr, SY.seqOf_tup, SY.seqOf_lst, SY.seqOf_scr, SY.seqOf_ptr, SY.seqOf_int, SY.seqOf_str, SY.lstOf_lst, SY.lstOf_scr, SY.lstOf_ptr, SY.mlst_lst, SY.plst_lst, SY.plst_ptr, SY.isPtrL, SY.tyN, SY.isNon, SY.blsOf, SY.intsOf, SY.dend0, SY.dend, SY.startD, SY.eqOk_int, SY.eqv_int, SY.atI0, SY.atI1, SY.atI2, SY.atI3, SY.atI4, SY.atI5, SY.ixN0, decide_true, decide_false, Int.reduceEq, Int.reduceLT, Int.reduceLE, SY.ixN_21, SY.ixN_31, SY.ixN_32, SY.ixN_41, SY.ixN_42, SY.ixN_43, SY.seqIx0, SY.updT_same, SY.updT_updT, List.map_cons, List.map_nil, List.length_cons, List.length_nil, List.replicate, List.cons_append, List.nil_append, List.getD_cons_zero, List.getD_cons_succ, List.set_cons_zero, List.set_cons_succ, List.getElem?_cons_zero, List.eraseIdx_cons_zero, Option.isSome_some, Option.map_some, Int.reduceToNat, Int.reducePow, Int.reduceAdd, Int.reduceMul, Nat.zero_lt_succ, Nat.reduceLT, Nat.sub_self, Nat.reduceSub, Nat.reduceAdd, Nat.reduceLeDiff, Nat.zero_add, SY.kit_ii, SY.kit_ib, SY.kit_it, SY.kit_bi, SY.kit_bb, SY.kit_tt, SY.kit_ti, SY.kit_tb, SY.kit_nt, SY.kit_ll, SY.kit_lt, Bool.not_true, Bool.not_false, if_true, if_false, reduceIte, Bool.false_eq_true, true_and, and_true, and_self])
  refine ⟨⟨rfl, by omega⟩, fun p hp => ?_⟩
  have pl := fun q (hq : q ∈ parts w) => Nat.le_trans (parts_len hq) hw
  have wk : ∀ d ds, Wk K d (updT T p (.lst ds)) d T := fun d ds => Wk.drop fun a m e => updT_off hp e
  generalize parts w = ps at h0 h1 pl
  match ps, h0, h1, pl with
  | [], h0, h1, pl =>
    (try simp -dsimp (maxSteps := 3000000) only [lit_one, ↓SY.str1_z, SY.str1Z_s, SY.isStrD_s, SY.dStrI, SY.dIntS, SY.dSplit, SY.dSplitF, SY.dM1, SY.dFind, SY.dZfill, SY.dJoin, SY.splitD, SY.splitFD, SY.findD, SY.zfillD, SY.joinD, SY.dInS, SY.dNotInS, SY.inD, SY.notInD, SY.dIxS, SY.ixSD, SY.dSlS, SY.dForS, SY.dMax, SY.dLcS, SY.eqv_S, ↓SY.someOf_z, ↓SY.int1_z, ↓SY.int2_z, ↓SY.bl1_z, ↓SY.optK_z, ↓SY.seqK_z, ↓SY.ixD_z, ↓SY.addD_z, ↓SY.lenD_z, ↓SY.slD_z, ↓SY.setD_z, ↓SY.appD_z, ↓SY.popD_z, ↓SY.dgsK_z, ↓SY.one_z, ↓SY.two_z, ↓SY.intK_z, ↓SY.rng1_z, ↓SY.rng2_z, ↓SY.frzK_z, ↓SY.forL_z, ↓SY.lcL_z, ↓SY.dSeq_z, SY.someZ_s, SY.int1Z_s, SY.int2Z_s, SY.bl1Z_s, SY.optZ_s, SY.addZ_i, SY.addZ_s, SY.addZ_t, SY.addZ_l, SY.addZ_p, SY.lenZ_t, SY.lenZ_l, SY.lenZ_s, SY.lenZ_p, SY.slZ_t, SY.slZ_l, SY.slZ_s, SY.slZ_p, SY.setZ_s, SY.appZ_s, SY.popZ_s, SY.dgsZ_s, SY.nilK_s, SY.oneZ_s, SY.twoZ_s, SY.intZ_i, SY.intZ_b, SY.rng1Z_s, SY.rng2Z_s, SY.frzZ_p, SY.frzZ_l, SY.frzZ_t, SY.forZ_nil, SY.forZ_cons, SY.lcZ_nil, SY.lcZ_cons, SY.goZ_s, ↓SY.sq_nx, ↓SY.sq_rt, ↓SY.sq_bk, ↓SY.sq_ct, ↓SY.sq_ex, ↓SY.lp_nx, ↓SY.lp_ct, ↓SY.lp_bk, ↓SY.lp_rt, ↓SY.lp_ex, SY.dAsg, SY.dRet, SY.dRetN, SY.dNext, SY.dIf, SY.dTst, SY.dC, SY.dVar, SY.dI, SY.dI0, SY.dMul, SY.dDiv, SY.dMod, SY.dPow, SY.dSub, SY.dLt, SY.dLe, SY.dGt, SY.dGe, SY.dNeg, SY.dAdd, SY.dIx, SY.dNil, SY.dCons, SY.dTup, SY.dLst, SY.dLstM, ↓SY.dCall_z, SY.dAbs, SY.dLen, SY.dTuple, SY.dList, SY.dListM, SY.dEq, SY.dNe, SY.dIsN, SY.dNotN, SY.dIsB, SY.dNotB, SY.dFrz, SY.dRaise, SY.dTryAs, SY.dTryOnly, SY.dIsE, SY.dtAnd, SY.dtOr, SY.dtNot, SY.dAnd, SY.dOr, SY.dNot, SY.dIsi, SY.dAll, SY.dSum, SY.dInt, SY.dSl, SY.dNoO, SY.dSomeO, SY.dDrop, SY.dAug, SY.dPar, SY.dAsgG, SY.dgName, SY.dgTup, SY.dgsNil, SY.dgsName, SY.dgSub, SY.dApp, SY.dPopAt, SY.dFor, SY.dForR1, SY.dForR2, SY.dForE, SY.dLc, SY.dLcR, SY.dLcRM, SY.rngL, SY.enumL, SY.frozen_tup, SY.frozen_lst, SY.frozen_scr, SY.frozL_lst, SY.frozL_scr, SY.seqOf_tup, SY.seqOf_lst, SY.seqOf_scr, SY.seqOf_ptr, SY.seqOf_int, SY.seqOf_str, SY.lstOf_lst, SY.lstOf_scr, SY.lstOf_ptr, SY.mlst_lst, SY.plst_lst, SY.plst_ptr, SY.isPtrL, SY.tyN, SY.isNon, SY.blsOf, SY.intsOf, SY.dend0, SY.dend, SY.startD, SY.eqOk_int, SY.eqv_int, SY.atI0, SY.atI1, SY.atI2, SY.atI3, SY.atI4, SY.atI5, SY.ixN0, decide_true, decide_false, Int.reduceEq, Int.reduceLT, Int.reduceLE, SY.ixN_21, SY.ixN_31, SY.ixN_32, SY.ixN_41, SY.ixN_42, SY.ixN_43, SY.seqIx0, SY.updT_same, SY.updT_updT, List.map_cons, List.map_nil, List.length_cons, List.length_nil, List.replicate, List.cons_append, List.nil_append, List.getD_cons_zero, List.getD_cons_succ, List.set_cons_zero, List.set_cons_succ, List.getElem?_cons_zero, List.eraseIdx_cons_zero, Option.isSome_some, Option.map_some, Int.reduceToNat, Int.reducePow, Int.reduceAdd, Int.reduceMul, Nat.zero_lt_succ, Nat.reduceLT, Nat.sub_self, Nat.reduceSub, Nat.reduceAdd, Nat.reduceLeDiff, Nat.zero_add, SY.kit_ii, SY.kit_ib, SY.kit_it, SY.kit_bi, SY.kit_bb, SY.kit_tt, SY.kit_ti, SY.kit_tb, SY.kit_nt, SY.kit_ll, SY.kit_lt, Bool.not_true, Bool.not_false, if_true, if_false, reduceIte, Bool.false_eq_true, true_and, and_true, and_self])
    subst ht
    unfold d_read_number_t4
    (try simp -dsimp (maxSteps := 3000000) only [lit_one, ↓SY.str1_z, SY.str1Z_s, SY.isStrD_s, SY.dStrI, SY.dIntS, SY.dSplit, SY.dSplitF, SY.dM1, SY.dFind, SY.dZfill, SY.dJoin, SY.splitD, SY.splitFD, SY.findD, SY.zfillD, SY.joinD, SY.dInS, SY.dNotInS, SY.inD, SY.notInD, SY.dIxS, SY.ixSD, SY.dSlS, SY.dForS, SY.dMax, SY.dLcS, SY.eqv_S, ↓SY.someOf_z, ↓SY.int1_z, ↓SY.int2_z, ↓SY.bl1_z, ↓SY.optK_z, ↓SY.seqK_z, ↓SY.ixD_z, ↓SY.addD_z, ↓SY.lenD_z, ↓SY.slD_z, ↓SY.setD_z, ↓SY.appD_z, ↓SY.popD_z, ↓SY.dgsK_z, ↓SY.one_z, ↓SY.two_z, ↓SY.intK_z, ↓SY.rng1_z, ↓SY.rng2_z, ↓SY.frzK_z, ↓SY.forL_z, ↓SY.lcL_z, ↓SY.dSeq_z, SY.someZ_s, SY.int1Z_s, SY.int2Z_s, SY.bl1Z_s, SY.optZ_s, SY.addZ_i, SY.addZ_s, SY.addZ_t, SY.addZ_l, SY.addZ_p, SY.lenZ_t, SY.lenZ_l, SY.lenZ_s, SY.lenZ_p, SY.slZ_t, SY.slZ_l, SY.slZ_s, SY.slZ_p, SY.setZ_s, SY.appZ_s, SY.popZ_s, SY.dgsZ_s, SY.nilK_s, SY.oneZ_s, SY.twoZ_s, SY.intZ_i, SY.intZ_b, SY.rng1Z_s, SY.rng2Z_s, SY.frzZ_p, SY.frzZ_l, SY.frzZ_t, SY.forZ_nil, SY.forZ_cons, SY.lcZ_nil, SY.lcZ_cons, SY.goZ_s, ↓SY.sq_nx, ↓SY.sq_rt, ↓SY.sq_bk, ↓SY.sq_ct, ↓SY.sq_ex, ↓SY.lp_nx, ↓SY.lp_ct, ↓SY.lp_bk, ↓SY.lp_rt, ↓SY.lp_ex, SY.dAsg, SY.dRet, SY.dRetN, SY.dNext, SY.dIf, SY.dTst, SY.dC, SY.dVar, SY.dI, SY.dI0, SY.dMul, SY.dDiv, SY.dMod, SY.dPow, SY.dSub, SY.dLt, SY.dLe, SY.dGt, SY.dGe, SY.dNeg, SY.dAdd, SY.dIx, SY.dNil, SY.dCons, SY.dTup, SY.dLst, SY.dLstM, ↓SY.dCall_z, SY.dAbs, SY.dLen, SY.dTuple, SY.dList, SY.dListM, SY.dEq, SY.dNe, SY.dIsN, SY.dNotN, SY.dIsB, SY.dNotB, SY.dFrz, SY.dRaise, SY.dTryAs, SY.dTryOnly, SY.dIsE, SY.dtAnd, SY.dtOr, SY.dtNot, SY.dAnd, SY.dOr, SY.dNot, SY.dIsi, SY.dAll, SY.dSum, SY.dInt, SY.dSl, SY.dNoO, SY.dSomeO, SY.dDrop, SY.dAug, SY.dPar, SY.dAsgG, SY.dgName, SY.dgTup, SY.dgsNil, SY.dgsName, SY.dgSub, SY.dApp, SY.dPopAt, SY.dFor, SY.dForR1, SY.dForR2, SY.dForE, SY.dLc, SY.dLcR, SY.dLcRM, SY.rngL, SY.enumL, SY.frozen_tup, SY.frozen_lst, SY.frozen_scr, SY.frozL_lst, SY.frozL_scr, SY.seqOf_tup, SY.seqOf_lst, SY.seqOf_scr, SY.seqOf_ptr, SY.seqOf_int, SY.seqOf_str, SY.lstOf_lst, SY.lstOf_scr, SY.lstOf_ptr, SY.mlst_lst, SY.plst_lst, SY.plst_ptr, SY.isPtrL, SY.tyN, SY.isNon, SY.blsOf, SY.intsOf, SY.dend0, SY.dend, SY.startD, SY.eqOk_int, SY.eqv_int, SY.atI0, SY.atI1, SY.atI2, SY.atI3, SY.atI4, SY.atI5, SY.ixN0, decide_true, decide_false, Int.reduceEq, Int.reduceLT, Int.reduceLE, SY.ixN_21, SY.ixN_31, SY.ixN_32, SY.ixN_41, SY.ixN_42, SY.ixN_43, SY.seqIx0, SY.updT_same, SY.updT_updT, List.map_cons, List.map_nil, List.length_cons, List.length_nil, List.replicate, List.cons_append, List.nil_append, List.getD_cons_zero, List.getD_cons_succ, List.set_cons_zero, List.set_cons_succ, List.getElem?_cons_zero, List.eraseIdx_cons_zero, Option.isSome_some, Option.map_some, Int.reduceToNat, Int.reducePow, Int.reduceAdd, Int.reduceMul, Nat.zero_lt_succ, Nat.reduceLT, Nat.sub_self, Nat.reduceSub, Nat.reduceAdd, Nat.reduceLeDiff, Nat.zero_add, SY.kit_ii, SY.kit_ib, SY.kit_it, SY.kit_bi, SY.kit_bb, SY.kit_tt, SY.kit_ti, SY.kit_tb, SY.kit_nt, SY.kit_ll, SY.kit_lt, Bool.not_true, Bool.not_false, if_true, if_false, reduceIte, Bool.false_eq_true, true_and, and_true, and_self])
    exact ⟨T, wk _ _, h0 rfl⟩
  | [a], h0, h1, pl =>
    (try simp -dsimp (maxSteps := 3000000) only [lit_one, ↓SY.str1_z, SY.str1Z_s, SY.isStrD_s, SY.dStrI, SY.dIntS, SY.dSplit, SY.dSplitF, SY.dM1, SY.dFind, SY.dZfill, SY.dJoin, SY.splitD, SY.splitFD, SY.findD, SY.zfillD, SY.joinD, SY.dInS, SY.dNotInS, SY.inD, SY.notInD, SY.dIxS, SY.ixSD, SY.dSlS, SY.dForS, SY.dMax, SY.dLcS, SY.eqv_S, ↓SY.someOf_z, ↓SY.int1_z, ↓SY.int2_z, ↓SY.bl1_z, ↓SY.optK_z, ↓SY.seqK_z, ↓SY.ixD_z, ↓SY.addD_z, ↓SY.lenD_z, ↓SY.slD_z, ↓SY.setD_z, ↓SY.appD_z, ↓SY.popD_z, ↓SY.dgsK_z, ↓SY.one_z, ↓SY.two_z, ↓SY.intK_z, ↓SY.rng1_z, ↓SY.rng2_z, ↓SY.frzK_z, ↓SY.forL_z, ↓SY.lcL_z, ↓SY.dSeq_z, SY.someZ_s, SY.int1Z_s, SY.int2Z_s, SY.bl1Z_s, SY.optZ_s, SY.addZ_i, SY.addZ_s, SY.addZ_t, SY.addZ_l, SY.addZ_p, SY.lenZ_t, SY.lenZ_l, SY.lenZ_s, SY.lenZ_p, SY.slZ_t, SY.slZ_l, SY.slZ_s, SY.slZ_p, SY.setZ_s, SY.appZ_s, SY.popZ_s, SY.dgsZ_s, SY.nilK_s, SY.oneZ_s, SY.twoZ_s, SY.intZ_i, SY.intZ_b, SY.rng1Z_s, SY.rng2Z_s, SY.frzZ_p, SY.frzZ_l, SY.frzZ_t, SY.forZ_nil, SY.forZ_cons, SY.lcZ_nil, SY.lcZ_cons, SY.goZ_s, ↓SY.sq_nx, ↓SY.sq_rt, ↓SY.sq_bk, ↓SY.sq_ct, ↓SY.sq_ex, ↓SY.lp_nx, ↓SY.lp_ct, ↓SY.lp_bk, ↓SY.lp_rt, ↓SY.lp_ex, SY.dAsg, SY.dRet, SY.dRetN, SY.dNext, SY.dIf, SY.dTst, SY.dC, SY.dVar, SY.dI, SY.dI0, SY.dMul, SY.dDiv, SY.dMod, SY.dPow, SY.dSub, SY.dLt, SY.dLe, SY.dGt, SY.dGe, SY.dNeg, SY.dAdd, SY.dIx, SY.dNil, SY.dCons, SY.dTup, SY.dLst, SY.dLstM, ↓SY.dCall_z, SY.dAbs, SY.dLen, SY.dTuple, SY.dList, SY.dListM, SY.dEq, SY.dNe, SY.dIsN, SY.dNotN, SY.dIsB, SY.dNotB, SY.dFrz, SY.dRaise, SY.dTryAs, SY.dTryOnly, SY.dIsE, SY.dtAnd, SY.dtOr, SY.dtNot, SY.dAnd, SY.dOr, SY.dNot, SY.dIsi, SY.dAll, SY.dSum, SY.dInt, SY.dSl, SY.dNoO, SY.dSomeO, SY.dDrop, SY.dAug, SY.dPar, SY.dAsgG, SY.dgName, SY.dgTup, SY.dgsNil, SY.dgsName, SY.dgSub, SY.dApp, SY.dPopAt, SY.dFor, SY.dForR1, SY.dForR2, SY.dForE, SY.dLc, SY.dLcR, SY.dLcRM, SY.rngL, SY.enumL, SY.frozen_tup, SY.frozen_lst, SY.frozen_scr, SY.frozL_lst, SY.frozL_scr, SY.seqOf_tup, SY.seqOf_lst, SY.seqOf_scr, SY.seqOf_ptr, SY.seqOf_int, SY.seqOf_str, SY.lstOf_lst, SY.lstOf_scr, SY.lstOf_ptr, SY.mlst_lst, SY.plst_lst, SY.plst_ptr, SY.isPtrL, SY.tyN, SY.isNon, SY.blsOf, SY.intsOf, SY.dend0, SY.dend, SY.startD, SY.eqOk_int, SY.eqv_int, SY.atI0, SY.atI1, SY.atI2, SY.atI3, SY.atI4, SY.atI5, SY.ixN0, decide_true, decide_false, Int.reduceEq, Int.reduceLT, Int.reduceLE, SY.ixN_21, SY.ixN_31, SY.ixN_32, SY.ixN_41, SY.ixN_42, SY.ixN_43, SY.seqIx0, SY.updT_same, SY.updT_updT, List.map_cons, List.map_nil, List.length_cons, List.length_nil, List.replicate, List.cons_append, List.nil_append, List.getD_cons_zero, List.getD_cons_succ, List.set_cons_zero, List.set_cons_succ, List.getElem?_cons_zero, List.eraseIdx_cons_zero, Option.isSome_some, Option.map_some, Int.reduceToNat, Int.reducePow, Int.reduceAdd, Int.reduceMul, Nat.zero_lt_succ, Nat.reduceLT, Nat.sub_self, Nat.reduceSub, Nat.reduceAdd, Nat.reduceLeDiff, Nat.zero_add, SY.kit_ii, SY.kit_ib, SY.kit_it, SY.kit_bi, SY.kit_bb, SY.kit_tt, SY.kit_ti, SY.kit_tb, SY.kit_nt, SY.kit_ll, SY.kit_lt, Bool.not_true, Bool.not_false, if_true, if_false, reduceIte, Bool.false_eq_true, true_and, and_true, and_self])
    subst ht
    exact read_t4 hp hl as (pl a (by simp)) (by decide) h0 h1
  | [a, b], h0, h1, pl =>
    (try simp -dsimp (maxSteps := 3000000) only [lit_one, ↓SY.str1_z, SY.str1Z_s, SY.isStrD_s, SY.dStrI, SY.dIntS, SY.dSplit, SY.dSplitF, SY.dM1, SY.dFind, SY.dZfill, SY.dJoin, SY.splitD, SY.splitFD, SY.findD, SY.zfillD, SY.joinD, SY.dInS, SY.dNotInS, SY.inD, SY.notInD, SY.dIxS, SY.ixSD, SY.dSlS, SY.dForS, SY.dMax, SY.dLcS, SY.eqv_S, ↓SY.someOf_z, ↓SY.int1_z, ↓SY.int2_z, ↓SY.bl1_z, ↓SY.optK_z, ↓SY.seqK_z, ↓SY.ixD_z, ↓SY.addD_z, ↓SY.lenD_z, ↓SY.slD_z, ↓SY.setD_z, ↓SY.appD_z, ↓SY.popD_z, ↓SY.dgsK_z, ↓SY.one_z, ↓SY.two_z, ↓SY.intK_z, ↓SY.rng1_z, ↓SY.rng2_z, ↓SY.frzK_z, ↓SY.forL_z, ↓SY.lcL_z, ↓SY.dSeq_z, SY.someZ_s, SY.int1Z_s, SY.int2Z_s, SY.bl1Z_s, SY.optZ_s, SY.addZ_i, SY.addZ_s, SY.addZ_t, SY.addZ_l, SY.addZ_p, SY.lenZ_t, SY.lenZ_l, SY.lenZ_s, SY.lenZ_p, SY.slZ_t, SY.slZ_l, SY.slZ_s, SY.slZ_p, SY.setZ_s, SY.appZ_s, SY.popZ_s, SY.dgsZ_s, SY.nilK_s, SY.oneZ_s, SY.twoZ_s, SY.intZ_i, SY.intZ_b, SY.rng1Z_s, SY.rng2Z_s, SY.frzZ_p, SY.frzZ_l, SY.frzZ_t, SY.forZ_nil, SY.forZ_cons, SY.lcZ_nil, SY.lcZ_cons, SY.goZ_s, ↓SY.sq_nx, ↓SY.sq_rt, ↓SY.sq_bk, ↓SY.sq_ct, ↓SY.sq_ex, ↓SY.lp_nx, ↓SY.lp_ct, ↓SY.lp_bk, ↓SY.lp_rt, ↓SY.lp_ex, SY.dAsg, SY.dRet, SY.dRetN, SY.dNext, SY.dIf, SY.dTst, SY.dC, SY.dVar, SY.dI, SY.dI0, SY.dMul, SY.dDiv, SY.dMod, SY.dPow, SY.dSub, SY.dLt, SY.dLe, SY.dGt, SY.dGe, SY.dNeg, SY.dAdd, SY.dIx, SY.dNil, SY.dCons, SY.dTup, SY.dLst, SY.dLstM, ↓SY.dCall_z, SY.dAbs, SY.dLen, SY.dTuple, SY.dList, SY.dListM, SY.dEq, SY.dNe, SY.dIsN, SY.dNotN, SY.dIsB, SY.dNotB, SY.dFrz, SY.dRaise, SY.dTryAs, SY.dTryOnly, SY.dIsE, SY.dtAnd, SY.dtOr, SY.dtNot, SY.dAnd, SY.dOr, SY.dNot, SY.dIsi, SY.dAll, SY.dSum, SY.dInt, SY.dSl, SY.dNoO, SY.dSomeO, SY.dDrop, SY.dAug, SY.dPar, SY.dAsgG, SY.dgName, SY.dgTup, SY.dgsNil, SY.dgsName, SY.dgSub, SY.dApp, SY.dPopAt, SY.dFor, SY.dForR1, SY.dForR2, SY.dForE, SY.dLc, SY.dLcR, SY.dLcRM, SY.rngL, SY.enumL, SY.frozen_tup, SY.frozen_lst, SY.frozen_scr, SY.frozL_lst, SY.frozL_scr, SY.seqOf_tup, SY.seqOf_lst, SY.seqOf_scr, SY.seqOf_ptr, SY.seqOf_int, SY.seqOf_str, SY.lstOf_lst, SY.lstOf_scr, SY.lstOf_ptr, SY.mlst_lst, SY.plst_lst, SY.plst_ptr, SY.isPtrL, SY.tyN, SY.isNon, SY.blsOf, SY.intsOf, SY.dend0, SY.dend, SY.startD, SY.eqOk_int, SY.eqv_int, SY.atI0, SY.atI1, SY.atI2, SY.atI3, SY.atI4, SY.atI5, SY.ixN0, decide_true, decide_false, Int.reduceEq, Int.reduceLT, Int.reduceLE, SY.ixN_21, SY.ixN_31, SY.ixN_32, SY.ixN_41, SY.ixN_42, SY.ixN_43, SY.seqIx0, SY.updT_same, SY.updT_updT, List.map_cons, List.map_nil, List.length_cons, List.length_nil, List.replicate, List.cons_append, List.nil_append, List.getD_cons_zero, List.getD_cons_succ, List.set_cons_zero, List.set_cons_succ, List.getElem?_cons_zero, List.eraseIdx_cons_zero, Option.isSome_some, Option.map_some, Int.reduceToNat, Int.reducePow, Int.reduceAdd, Int.reduceMul, Nat.zero_lt_succ, Nat.reduceLT, Nat.sub_self, Nat.reduceSub, Nat.reduceAdd, Nat.reduceLeDiff, Nat.zero_add, SY.kit_ii, SY.kit_ib, SY.kit_it, SY.kit_bi, SY.kit_bb, SY.kit_tt, SY.kit_ti, SY.kit_tb, SY.kit_nt, SY.kit_ll, SY.kit_lt, Bool.not_true, Bool.not_false, if_true, if_false, reduceIte, Bool.false_eq_true, true_and, and_true, and_self])
    subst ht
    exact read_t4 hp hl as (pl a (by simp)) (pl b (by simp)) h0 h1
  | a :: b :: c :: r, h0, h1, pl =>
    have hz : 3 ≤ (((a :: b :: c :: r).map S).map D.str).length := by simp only [List.length_map, List.length_cons]; omega
    generalize (((a :: b :: c :: r).map S).map D.str) = zs at hz
    (try simp -dsimp (maxSteps := 3000000) only [lit_one, ↓SY.str1_z, SY.str1Z_s, SY.isStrD_s, SY.dStrI, SY.dIntS, SY.dSplit, SY.dSplitF, SY.dM1, SY.dFind, SY.dZfill, SY.dJoin, SY.splitD, SY.splitFD, SY.findD, SY.zfillD, SY.joinD, SY.dInS, SY.dNotInS, SY.inD, SY.notInD, SY.dIxS, SY.ixSD, SY.dSlS, SY.dForS, SY.dMax, SY.dLcS, SY.eqv_S, ↓SY.someOf_z, ↓SY.int1_z, ↓SY.int2_z, ↓SY.bl1_z, ↓SY.optK_z, ↓SY.seqK_z, ↓SY.ixD_z, ↓SY.addD_z, ↓SY.lenD_z, ↓SY.slD_z, ↓SY.setD_z, ↓SY.appD_z, ↓SY.popD_z, ↓SY.dgsK_z, ↓SY.one_z, ↓SY.two_z, ↓SY.intK_z, ↓SY.rng1_z, ↓SY.rng2_z, ↓SY.frzK_z, ↓SY.forL_z, ↓SY.lcL_z, ↓SY.dSeq_z, SY.someZ_s, SY.int1Z_s, SY.int2Z_s, SY.bl1Z_s, SY.optZ_s, SY.addZ_i, SY.addZ_s, SY.addZ_t, SY.addZ_l, SY.addZ_p, SY.lenZ_t, SY.lenZ_l, SY.lenZ_s, SY.lenZ_p, SY.slZ_t, SY.slZ_l, SY.slZ_s, SY.slZ_p, SY.setZ_s, SY.appZ_s, SY.popZ_s, SY.dgsZ_s, SY.nilK_s, SY.oneZ_s, SY.twoZ_s, SY.intZ_i, SY.intZ_b, SY.rng1Z_s, SY.rng2Z_s, SY.frzZ_p, SY.frzZ_l, SY.frzZ_t, SY.forZ_nil, SY.forZ_cons, SY.lcZ_nil, SY.lcZ_cons, SY.goZ_s, ↓SY.sq_nx, ↓SY.sq_rt, ↓SY.sq_bk, ↓SY.sq_ct, ↓SY.sq_ex, ↓SY.lp_nx, ↓SY.lp_ct, ↓SY.lp_bk, ↓SY.lp_rt, ↓SY.lp_ex, SY.dAsg, SY.dRet, SY.dRetN, SY.dNext, SY.dIf, SY.dTst, SY.dC, SY.dVar, SY.dI, SY.dI0, SY.dMul, SY.dDiv, SY.dMod, SY.dPow, SY.dSub, SY.dLt, SY.dLe, SY.dGt, SY.dGe, SY.dNeg, SY.dAdd, SY.dIx, SY.dNil, SY.dCons, SY.dTup, SY.dLst, SY.dLstM, ↓SY.dCall_z, SY.dAbs, SY.dLen, SY.dTuple, SY.dList, SY.dListM, SY.dEq, SY.dNe, SY.dIsN, SY.dNotN, SY.dIsB, SY.dNotB, SY.dFrz, SY.dRaise, SY.dTryAs, SY.dTryOnly, SY.dIsE, SY.dtAnd, SY.dtOr, SY.dtNot, SY.dAnd, SY.dOr, SY.dNot, SY.dIsi, SY.dAll, SY.dSum, SY.dInt, SY.dSl, SY.dNoO, SY.dSomeO, SY.dDrop, SY.dAug, SY.dPar, SY.dAsgG, SY.dgName, SY.dgTup, SY.dgsNil, SY.dgsName, SY.dgSub, SY.dApp, SY.dPopAt, SY.dFor, SY.dForR1, SY.dForR2, SY.dForE, SY.dLc, SY.dLcR, SY.dLcRM, SY.rngL, SY.enumL, SY.frozen_tup, SY.frozen_lst, SY.frozen_scr, SY.frozL_lst, SY.frozL_scr, SY.seqOf_tup, SY.seqOf_lst, SY.seqOf_scr, SY.seqOf_ptr, SY.seqOf_int, SY.seqOf_str, SY.lstOf_lst, SY.lstOf_scr, SY.lstOf_ptr, SY.mlst_lst, SY.plst_lst, SY.plst_ptr, SY.isPtrL, SY.tyN, SY.isNon, SY.blsOf, SY.intsOf, SY.dend0, SY.dend, SY.startD, SY.eqOk_int, SY.eqv_int, SY.atI0, SY.atI1, SY.atI2, SY.atI3, SY.atI4, SY.atI5, SY.ixN0, decide_true, decide_false, Int.reduceEq, Int.reduceLT, Int.reduceLE, SY.ixN_21, SY.ixN_31, SY.ixN_32, SY.ixN_41, SY.ixN_42, SY.ixN_43, SY.seqIx0, SY.updT_same, SY.updT_updT, List.map_cons, List.map_nil, List.length_cons, List.length_nil, List.replicate, List.cons_append, List.nil_append, List.getD_cons_zero, List.getD_cons_succ, List.set_cons_zero, List.set_cons_succ, List.getElem?_cons_zero, List.eraseIdx_cons_zero, Option.isSome_some, Option.map_some, Int.reduceToNat, Int.reducePow, Int.reduceAdd, Int.reduceMul, Nat.zero_lt_succ, Nat.reduceLT, Nat.sub_self, Nat.reduceSub, Nat.reduceAdd, Nat.reduceLeDiff, Nat.zero_add, SY.kit_ii, SY.kit_ib, SY.kit_it, SY.kit_bi, SY.kit_bb, SY.kit_tt, SY.kit_ti, SY.kit_tb, SY.kit_nt, SY.kit_ll, SY.kit_lt, Bool.not_true, Bool.not_false, if_true, if_false, reduceIte, Bool.false_eq_true, true_and, and_true, and_self])
    rw [decide_eq_false (show ¬ (zs.length : Int) = 1 by omega)]
    subst ht
    unfold d_read_number_t4
    (try simp -dsimp (maxSteps := 3000000) only [lit_one, ↓SY.str1_z, SY.str1Z_s, SY.isStrD_s, SY.dStrI, SY.dIntS, SY.dSplit, SY.dSplitF, SY.dM1, SY.dFind, SY.dZfill, SY.dJoin, SY.splitD, SY.splitFD, SY.findD, SY.zfillD, SY.joinD, SY.dInS, SY.dNotInS, SY.inD, SY.notInD, SY.dIxS, SY.ixSD, SY.dSlS, SY.dForS, SY.dMax, SY.dLcS, SY.eqv_S, ↓SY.someOf_z, ↓SY.int1_z, ↓SY.int2_z, ↓SY.bl1_z, ↓SY.optK_z, ↓SY.seqK_z, ↓SY.ixD_z, ↓SY.addD_z, ↓SY.lenD_z, ↓SY.slD_z, ↓SY.setD_z, ↓SY.appD_z, ↓SY.popD_z, ↓SY.dgsK_z, ↓SY.one_z, ↓SY.two_z, ↓SY.intK_z, ↓SY.rng1_z, ↓SY.rng2_z, ↓SY.frzK_z, ↓SY.forL_z, ↓SY.lcL_z, ↓SY.dSeq_z, SY.someZ_s, SY.int1Z_s, SY.int2Z_s, SY.bl1Z_s, SY.optZ_s, SY.addZ_i, SY.addZ_s, SY.addZ_t, SY.addZ_l, SY.addZ_p, SY.lenZ_t, SY.lenZ_l, SY.lenZ_s, SY.lenZ_p, SY.slZ_t, SY.slZ_l, SY.slZ_s, SY.slZ_p, SY.setZ_s, SY.appZ_s, SY.popZ_s, SY.dgsZ_s, SY.nilK_s, SY.oneZ_s, SY.twoZ_s, SY.intZ_i, SY.intZ_b, SY.rng1Z_s, SY.rng2Z_s, SY.frzZ_p, SY.frzZ_l, SY.frzZ_t, SY.forZ_nil, SY.forZ_cons, SY.lcZ_nil, SY.lcZ_cons, SY.goZ_s, ↓SY.sq_nx, ↓SY.sq_rt, ↓SY.sq_bk, ↓SY.sq_ct, ↓SY.sq_ex, ↓SY.lp_nx, ↓SY.lp_ct, ↓SY.lp_bk, ↓SY.lp_rt, ↓SY.lp_ex, SY.dAsg, SY.dRet, SY.dRetN, SY.dNext, SY.dIf, SY.dTst, SY.dC, SY.dVar, SY.dI, SY.dI0, SY.dMul, SY.dDiv, SY.dMod, SY.dPow, SY.dSub, SY.dLt, SY.dLe, SY.dGt, SY.dGe, SY.dNeg, SY.dAdd, SY.dIx, SY.dNil, SY.dCons, SY.dTup, SY.dLst, SY.dLstM, ↓SY.dCall_z, SY.dAbs, SY.dLen, SY.dTuple, SY.dList, SY.dListM, SY.dEq, SY.dNe, SY.dIsN, SY.dNotN, SY.dIsB, SY.dNotB, SY.dFrz, SY.dRaise, SY.dTryAs, SY.dTryOnly, SY.dIsE, SY.dtAnd, SY.dtOr, SY.dtNot, SY.dAnd, SY.dOr, SY.dNot, SY.dIsi, SY.dAll, SY.dSum, SY.dInt, SY.dSl, SY.dNoO, SY.dSomeO, SY.dDrop, SY.dAug, SY.dPar, SY.dAsgG, SY.dgName, SY.dgTup, SY.dgsNil, SY.dgsName, SY.dgSub, SY.dApp, SY.dPopAt, SY.dFor, SY.dForR1, SY.dForR2, SY.dForE, SY.dLc, SY.dLcR, SY.dLcRM, SY.rngL, SY.enumL, SY.frozen_tup, SY.frozen_lst, SY.frozen_scr, SY.frozL_lst, SY.frozL_scr, SY.seqOf_tup, SY.seqOf_lst, SY.seqOf_scr, SY.seqOf_ptr, SY.seqOf_int, SY.seqOf_str, SY.lstOf_lst, SY.lstOf_scr, SY.lstOf_ptr, SY.mlst_lst, SY.plst_lst, SY.plst_ptr, SY.isPtrL, SY.tyN, SY.isNon, SY.blsOf, SY.intsOf, SY.dend0, SY.dend, SY.startD, SY.eqOk_int, SY.eqv_int, SY.atI0, SY.atI1, SY.atI2, SY.atI3, SY.atI4, SY.atI5, SY.ixN0, decide_true, decide_false, Int.reduceEq, Int.reduceLT, Int.reduceLE, SY.ixN_21, SY.ixN_31, SY.ixN_32, SY.ixN_41, SY.ixN_42, SY.ixN_43, SY.seqIx0, SY.updT_same, SY.updT_updT, List.map_cons, List.map_nil, List.length_cons, List.length_nil, List.replicate, List.cons_append, List.nil_append, List.getD_cons_zero, List.getD_cons_succ, List.set_cons_zero, List.set_cons_succ, List.getElem?_cons_zero, List.eraseIdx_cons_zero, Option.isSome_some, Option.map_some, Int.reduceToNat, Int.reducePow, Int.reduceAdd, Int.reduceMul, Nat.zero_lt_succ, Nat.reduceLT, Nat.sub_self, Nat.reduceSub, Nat.reduceAdd, Nat.reduceLeDiff, Nat.zero_add, SY.kit_ii, SY.kit_ib, SY.kit_it, SY.kit_bi, SY.kit_bb, SY.kit_tt, SY.kit_ti, SY.kit_tb, SY.kit_nt, SY.kit_ll, SY.kit_lt, Bool.not_true, Bool.not_false, if_true, if_false, reduceIte, Bool.false_eq_true, true_and, and_true, and_self])
    rw [decide_eq_false (show ¬ (zs.length : Int) = 2 by omega)]
    exact ⟨T, wk _ _, h0 rfl⟩
theorem pure_read_number {K : PySem.W.Frag} {N : List Str} (hN : N.length = 5) : ∀ us T P X, sp_read_number us T P X → d_read_number (dend K P X) (startD N us) T := by
  intro us T P X h
  obtain ⟨a, rfl, h1⟩ := sp1.of (lock_of h)
  have e0 : startD N [a] = [some a, none, none, none, none] := by unfold startD; rw [hN]; rfl
  rw [e0]; clear e0; unfold d_read_number
  obtain ⟨l, rfl, hl, as, h0, h2⟩ := h1
  have q1 := eqOk_S (as.take 1)
  generalize ht : d_read_number_t2 = t2
  (try simp -dsimp (maxSteps := 3000000) only [lit_minus, lenS, cut_to1, q1, eqOk_minus, ↓SY.str1_z, SY.str1Z_s, SY.isStrD_s, SY.dStrI, SY.dIntS, SY.dSplit, SY.dSplitF, SY.dM1, SY.dFind, SY.dZfill, SY.dJoin, SY.splitD, SY.splitFD, SY.findD, SY.zfillD, SY.joinD, SY.dInS, SY.dNotInS, SY.inD, SY.notInD, SY.dIxS, SY.ixSD, SY.dSlS, SY.dForS, SY.dMax, SY.dLcS, SY.eqv_S, ↓SY.someOf_z, ↓SY.int1_z, ↓SY.int2_z, ↓SY.bl1_z, ↓SY.optK_z, ↓SY.seqK_z, ↓SY.ixD_z, ↓SY.addD_z, ↓SY.lenD_z, ↓SY.slD_z, ↓SY.setD_z, ↓SY.appD_z, ↓SY.popD_z, ↓SY.dgsK_z, ↓SY.one_z, ↓SY.two_z, ↓SY.intK_z, ↓SY.rng1_z, ↓SY.rng2_z, ↓SY.frzK_z, ↓SY.forL_z, ↓SY.lcL_z, ↓SY.dSeq_z, SY.someZ_s, SY.int1Z_s, SY.int2Z_s, SY.bl1Z_s, SY.optZ_s, SY.addZ_i, SY.addZ_s, SY.addZ_t, SY.addZ_l, SY.addZ_p, SY.lenZ_t, SY.lenZ_l, SY.lenZ_s, SY.lenZ_p, SY.slZ_t, SY.slZ_l, SY.slZ_s, SY.slZ_p, SY.setZ_s, SY.appZ_s, SY.popZ_s, SY.dgsZ_s, SY.nilK_s, SY.oneZ_s, SY.twoZ_s, SY.intZ_i, SY.intZ_b, SY.rng1Z_s, SY.rng2Z_s, SY.frzZ_p, SY.frzZ_l, SY.frzZ_t, SY.forZ_nil, SY.forZ_cons, SY.lcZ_nil, SY.lcZ_cons, SY.goZ_s, ↓SY.sq_nx, ↓SY.sq_rt, ↓SY.sq_bk, ↓SY.sq_ct, ↓SY.sq_ex, ↓SY.lp_nx, ↓SY.lp_ct, ↓SY.lp_bk, ↓SY.lp_rt, ↓SY.lp_ex, SY.dAsg, SY.dRet, SY.dRetN, SY.dNext, SY.dIf, SY.dTst, SY.dC, SY.dVar, SY.dI, SY.dI0, SY.dMul, SY.dDiv, SY.dMod, SY.dPow, SY.dSub, SY.dLt, SY.dLe, SY.dGt, SY.dGe, SY.dNeg, SY.dAdd, SY.dIx, SY.dNil, SY.dCons, SY.dTup, SY.dLst, SY.dLstM, ↓SY.dCall_z, SY.dAbs, SY.dLen, SY.dTuple, SY.dList, SY.dListM, SY.dEq, SY.dNe, SY.dIsN, SY.dNotN, SY.dIsB, SY.dNotB, SY.dFrz, SY.dRaise, SY.dTryAs, SY.dTryOnly, SY.dIsE, SY.dtAnd, SY.dtOr, SY.dtNot, SY.dAnd, SY.dOr, SY.dNot, SY.dIsi, SY.dAll, SY.dSum, SY.dInt, SY.dSl, SY.dNoO, SY.dSomeO, SY.dDrop, SY.dAug, SY.dPar, SY.dAsgG, SY.dgName, SY.dgTup, SY.dgsNil, SY.dgsName, SY.dgSub, SY.dApp, SY.dPopAt, SY.dFor, SY.dForR1, SY.dForR2, SY.dForE, SY.dLc, SY.dLcR, SY.dLcRM, SY.rngL, SY.enumL, SY.frozen_tup, SY.frozen_lst, SY.frozen_scr, SY.frozL_lst, SY.frozL_scr, SY.seqOf_tup, SY.seqOf_lst, SY.seqOf_scr, SY.seqOf_ptr, SY.seqOf_int, SY.seqOf_str, SY.lstOf_lst, SY.lstOf_scr, SY.lstOf_ptr, SY.mlst_lst, SY.plst_lst, SY.plst_ptr, SY.isPtrL, SY.tyN, SY.isNon, SY.blsOf, SY.intsOf, SY.dend0, SY.dend, SY.startD, SY.eqOk_int, SY.eqv_int, SY.atI0, SY.atI1, SY.atI2, SY.atI3, SY.atI4, SY.atI5, SY.ixN0, decide_true, decide_false, Int.reduceEq, Int.reduceLT, Int.reduceLE, SY.ixN_21, SY.ixN_31, SY.ixN_32, SY.ixN_41, SY.ixN_42, SY.ixN_43, SY.seqIx0, SY.updT_same, SY.updT_updT, List.map_cons, List.map_nil, List.length_cons, List.length_nil, List.replicate, List.cons_append, List.nil_append, List.getD_cons_zero, List.getD_cons_succ, List.set_cons_zero, List.set_cons_succ, List.getElem?_cons_zero, List.eraseIdx_cons_zero, Option.isSome_some, Option.map_some, Int.reduceToNat, Int.reducePow, Int.reduceAdd, Int.reduceMul, Nat.zero_lt_succ, Nat.reduceLT, Nat.sub_self, Nat.reduceSub, Nat.reduceAdd, Nat.reduceLeDiff, Nat.zero_add, SY.kit_ii, SY.kit_ib, SY.kit_it, SY.kit_bi, SY.kit_bb, SY.kit_tt, SY.kit_ti, SY.kit_tb, SY.kit_nt, SY.kit_ll, SY.kit_lt, Bool.not_true, Bool.not_false, if_true, if_false, reduceIte, Bool.false_eq_true, true_and, and_true, and_self])
  refine ⟨by omega, ?_⟩
  unfold rdN at h0 h2
  have e : isNeg l = decide (l.take 1 = [45]) := by
    unfold isNeg
    cases hq : decide (l.take 1 = [45])
    · exact beq_eq_false_iff_ne.mpr (of_decide_eq_false hq)
    · rw [of_decide_eq_true hq]; rfl
  cases hq : decide (l.take 1 = [45])
  · rw [hq] at e
    rw [if_neg (by rw [e]; decide)] at h0 h2
    walk_at "dz"
    subst ht
    exact read_t2 hl as hl h0 h2
  · rw [hq] at e
    rw [if_pos e] at h0 h2
    (try simp -dsimp (maxSteps := 3000000) only [lit_minus, lenS, cut_from1, ↓SY.str1_z, SY.str1Z_s, SY.isStrD_s, SY.dStrI, SY.dIntS, SY.dSplit, SY.dSplitF, SY.dM1, SY.dFind, SY.dZfill, SY.dJoin, SY.splitD, SY.splitFD, SY.findD, SY.zfillD, SY.joinD, SY.dInS, SY.dNotInS, SY.inD, SY.notInD, SY.dIxS, SY.ixSD, SY.dSlS, SY.dForS, SY.dMax, SY.dLcS, SY.eqv_S, ↓SY.someOf_z, ↓SY.int1_z, ↓SY.int2_z, ↓SY.bl1_z, ↓SY.optK_z, ↓SY.seqK_z, ↓SY.ixD_z, ↓SY.addD_z, ↓SY.lenD_z, ↓SY.slD_z, ↓SY.setD_z, ↓SY.appD_z, ↓SY.popD_z, ↓SY.dgsK_z, ↓SY.one_z, ↓SY.two_z, ↓SY.intK_z, ↓SY.rng1_z, ↓SY.rng2_z, ↓SY.frzK_z, ↓SY.forL_z, ↓SY.lcL_z, ↓SY.dSeq_z, SY.someZ_s, SY.int1Z_s, SY.int2Z_s, SY.bl1Z_s, SY.optZ_s, SY.addZ_i, SY.addZ_s, SY.addZ_t, SY.addZ_l, SY.addZ_p, SY.lenZ_t, SY.lenZ_l, SY.lenZ_s, SY.lenZ_p, SY.slZ_t, SY.slZ_l, SY.slZ_s, SY.slZ_p, SY.setZ_s, SY.appZ_s, SY.popZ_s, SY.dgsZ_s, SY.nilK_s, SY.oneZ_s, SY.twoZ_s, SY.intZ_i, SY.intZ_b, SY.rng1Z_s, SY.rng2Z_s, SY.frzZ_p, SY.frzZ_l, SY.frzZ_t, SY.forZ_nil, SY.forZ_cons, SY.lcZ_nil, SY.lcZ_cons, SY.goZ_s, ↓SY.sq_nx, ↓SY.sq_rt, ↓SY.sq_bk, ↓SY.sq_ct, ↓SY.sq_ex, ↓SY.lp_nx, ↓SY.lp_ct, ↓SY.lp_bk, ↓SY.lp_rt, ↓SY.lp_ex, SY.dAsg, SY.dRet, SY.dRetN, SY.dNext, SY.dIf, SY.dTst, SY.dC, SY.dVar, SY.dI, SY.dI0, SY.dMul, SY.dDiv, SY.dMod, SY.dPow, SY.dSub, SY.dLt, SY.dLe, SY.dGt, SY.dGe, SY.dNeg, SY.dAdd, SY.dIx, SY.dNil, SY.dCons, SY.dTup, SY.dLst, SY.dLstM, ↓SY.dCall_z, SY.dAbs, SY.dLen, SY.dTuple, SY.dList, SY.dListM, SY.dEq, SY.dNe, SY.dIsN, SY.dNotN, SY.dIsB, SY.dNotB, SY.dFrz, SY.dRaise, SY.dTryAs, SY.dTryOnly, SY.dIsE, SY.dtAnd, SY.dtOr, SY.dtNot, SY.dAnd, SY.dOr, SY.dNot, SY.dIsi, SY.dAll, SY.dSum, SY.dInt, SY.dSl, SY.dNoO, SY.dSomeO, SY.dDrop, SY.dAug, SY.dPar, SY.dAsgG, SY.dgName, SY.dgTup, SY.dgsNil, SY.dgsName, SY.dgSub, SY.dApp, SY.dPopAt, SY.dFor, SY.dForR1, SY.dForR2, SY.dForE, SY.dLc, SY.dLcR, SY.dLcRM, SY.rngL, SY.enumL, SY.frozen_tup, SY.frozen_lst, SY.frozen_scr, SY.frozL_lst, SY.frozL_scr, SY.seqOf_tup, SY.seqOf_lst, SY.seqOf_scr, SY.seqOf_ptr, SY.seqOf_int, SY.seqOf_str, SY.lstOf_lst, SY.lstOf_scr, SY.lstOf_ptr, SY.mlst_lst, SY.plst_lst, SY.plst_ptr, SY.isPtrL, SY.tyN, SY.isNon, SY.blsOf, SY.intsOf, SY.dend0, SY.dend, SY.startD, SY.eqOk_int, SY.eqv_int, SY.atI0, SY.atI1, SY.atI2, SY.atI3, SY.atI4, SY.atI5, SY.ixN0, decide_true, decide_false, Int.reduceEq, Int.reduceLT, Int.reduceLE, SY.ixN_21, SY.ixN_31, SY.ixN_32, SY.ixN_41, SY.ixN_42, SY.ixN_43, SY.seqIx0, SY.updT_same, SY.updT_updT, List.map_cons, List.map_nil, List.length_cons, List.length_nil, List.replicate, List.cons_append, List.nil_append, List.getD_cons_zero, List.getD_cons_succ, List.set_cons_zero, List.set_cons_succ, List.getElem?_cons_zero, List.eraseIdx_cons_zero, Option.isSome_some, Option.map_some, Int.reduceToNat, Int.reducePow, Int.reduceAdd, Int.reduceMul, Nat.zero_lt_succ, Nat.reduceLT, Nat.sub_self, Nat.reduceSub, Nat.reduceAdd, Nat.reduceLeDiff, Nat.zero_add, SY.kit_ii, SY.kit_ib, SY.kit_it, SY.kit_bi, SY.kit_bb, SY.kit_tt, SY.kit_ti, SY.kit_tb, SY.kit_nt, SY.kit_ll, SY.kit_lt, Bool.not_true, Bool.not_false, if_true, if_false, reduceIte, Bool.false_eq_true, true_and, and_true, and_self])
    refine ⟨by omega, ?_⟩
    subst ht
    exact read_t2 hl as (by rw [List.length_drop]; omega) h0 h2
theorem sp_read_number_mk {l : List Nat} (hl : l.length ≤ 5000) (as : Asc l) (h0 : rdN l = none → X "NoText" T) (h1 : ∀ t b, rdN l = some (t, b) → P (.tup ((sgZ [t, b]).map .int)) T) : sp_read_number [.str (S l)] T P X := lock_at ⟨l, rfl, hl, as, h0, h1⟩
end
end SY

namespace SY
open PySem PySem.Spec PyProof.Rows L2
/-! ### the law's own texts -/
theorem pre_stroke (l : List Nat) : TL.pre [47] l = true ↔ l.take 1 = [47] := by
  unfold TL.pre
  exact beq_iff_eq
theorem find_stroke (w : List Nat) : (Txt.find (S w) (S [47]) = -1 ∧ 47 ∉ w) ∨ ∃ a b, w = a ++ 47 :: b ∧ 47 ∉ a ∧ Txt.find (S w) (S [47]) = (a.length : Int) := by
  have at_ := fun i => TL.at_iff (x := S w) (y := S [47]) (by simp [TL.tl]) i
  have get : ∀ i, StrLaws.At (S w) (S [47]) (S w).length i ↔ w[i]? = some 47 := fun i => by
    rw [at_]
    show TL.pre [47] (w.drop i) = true ↔ _
    rw [pre_stroke]
    cases h : w.drop i with
    | nil =>
      have : w.length ≤ i := List.drop_eq_nil_iff.mp h
      rw [List.getElem?_eq_none this]
      simp
    | cons c r =>
      have e : w[i]? = some c := by
        have := congrArg (fun l => l[0]?) h
        simpa using this
      rw [e]
      simp
  rcases PyProof.Rows.find_whole (S w) (S [47]) with ⟨h, hn⟩ | ⟨i, h, hi, hk⟩
  · refine .inl ⟨h, fun hm => ?_⟩
    obtain ⟨i, hi, e⟩ := List.mem_iff_getElem.mp hm
    exact hn i ((get i).mpr (by rw [List.getElem?_eq_getElem hi, e]))
  · refine .inr ⟨w.take i, w.drop (i + 1), ?_, fun hm => ?_, ?_⟩
    · have e := (get i).mp hi
      obtain ⟨hl, e2⟩ := List.getElem?_eq_some_iff.mp e
      rw [← e2, ← List.drop_eq_getElem_cons hl, List.take_append_drop]
    · obtain ⟨k, hk1, e⟩ := List.mem_iff_getElem.mp hm
      rw [List.length_take] at hk1
      refine hk k (by omega) ((get k).mpr ?_)
      rw [List.getElem_take] at e
      rw [List.getElem?_eq_getElem (by omega), e]
    · have e := (get i).mp hi
      obtain ⟨hl, _⟩ := List.getElem?_eq_some_iff.mp e
      rw [h, List.length_take, Nat.min_eq_left (by omega)]
theorem parts_ne (l : List Nat) : parts l ≠ [] := by
  unfold parts
  suffices h : ∀ (l : List Nat) (k : Nat) (acc : List Nat), TL.spl [47] k acc l ≠ [] from h l 0 []
  intro l
  induction l with
  | nil => intro k acc; rw [TL.spl_nil]; simp
  | cons c l ih =>
    intro k acc
    cases k with
    | succ k => exact ih k acc
    | zero =>
      cases hp : TL.pre [47] (c :: l) with
      | true => rw [TL.spl_hit hp]; simp
      | false => rw [TL.spl_miss hp]; exact ih 0 _
/-- two words, by the first stroke -/
theorem rdP_find {neg : Bool} {a b : List Nat} (h : 47 ∉ a) : rdP neg (parts (a ++ 47 :: b)) = two' neg a b := by
  rw [parts_cons h]
  by_cases hb : 47 ∈ b
  · obtain ⟨b1, b2, e, hb1⟩ : ∃ b1 b2, b = b1 ++ 47 :: b2 ∧ 47 ∉ b1 := by
      rcases find_stroke b with ⟨_, z⟩ | ⟨b1, b2, e, z, _⟩
      · exact absurd hb z
      · exact ⟨b1, b2, e, z⟩
    have e0 : two' neg a b = none := by
      unfold two'
      rw [if_neg]
      rintro ⟨_, z, _⟩
      exact fig_free z rfl hb
    rw [e0, e, parts_cons hb1]
    cases hq : parts b2 with
    | nil => exact absurd hq (parts_ne b2)
    | cons x r => rfl
  · rw [parts_one hb]
    rfl
theorem rdP_one {neg : Bool} {a : List Nat} (h : 47 ∉ a) : rdP neg (parts a) = two' neg a [49] := by
  rw [parts_one h]
  rfl
section
variable {T : Sto} {P : D → Sto → Prop} {X : Xc → Sto → Prop}
noncomputable def sp_l_figures : DSp := lock <| sp1 fun a T P _ => ∃ l : List Nat, a = .str (S l) ∧ l.length ≤ 10000 ∧ P (.bl (figs l)) T
def d_l_figures : DS := (dSeq (dIf (dtOr (dTst (dLt (dLen (dVar 0)) (dC (.int 1)))) (dTst (dGt (dLen (dVar 0)) (dC (.int 60))))) (dRet (dC (.bl false))) dNext) (dRet (dAll (dLcS 1 (dVar 0) (dInS (dVar 1) (dC (.str (PySem.Str.ofString "0123456789"))))))))
theorem lc_figs {s : D} {k : List D → Sto → Prop} : ∀ (l : List Nat) (acc : List Bool), k ((acc ++ l.map isFig).map .bl) T → lcL 1 (dInS (dVar 1) (dC (.str (PySem.Str.ofString "0123456789")))) [some s, none] k (l.map fun c => .str ⟨#[c]⟩) (acc.map .bl) T
  | [], acc, h => by
    rw [List.map_nil, List.append_nil] at h
    exact h
  | c :: l, acc, h => by
    have ih := lc_figs (s := s) (k := k) l (acc ++ [isFig c]) (by rw [List.append_assoc]; exact h)
    rw [List.map_append, List.map_cons, List.map_nil] at ih
    show dInS (dVar 1) (dC (.str (PySem.Str.ofString "0123456789"))) _ _ _ _
    generalize hq : lcL 1 (dInS (dVar 1) (dC (.str (PySem.Str.ofString "0123456789")))) [some s, none] k (l.map fun c => .str ⟨#[c]⟩) = nxt
    rw [hq] at ih
    (try simp -dsimp (maxSteps := 3000000) only [lit_figs, ↓SY.str1_z, SY.str1Z_s, SY.isStrD_s, SY.dStrI, SY.dIntS, SY.dSplit, SY.dSplitF, SY.dM1, SY.dFind, SY.dZfill, SY.dJoin, SY.splitD, SY.splitFD, SY.findD, SY.zfillD, SY.joinD, SY.dInS, SY.dNotInS, SY.inD, SY.notInD, SY.dIxS, SY.ixSD, SY.dSlS, SY.dForS, SY.dMax, SY.dLcS, SY.eqv_S, ↓SY.someOf_z, ↓SY.int1_z, ↓SY.int2_z, ↓SY.bl1_z, ↓SY.optK_z, ↓SY.seqK_z, ↓SY.ixD_z, ↓SY.addD_z, ↓SY.lenD_z, ↓SY.slD_z, ↓SY.setD_z, ↓SY.appD_z, ↓SY.popD_z, ↓SY.dgsK_z, ↓SY.one_z, ↓SY.two_z, ↓SY.intK_z, ↓SY.rng1_z, ↓SY.rng2_z, ↓SY.frzK_z, ↓SY.forL_z, ↓SY.lcL_z, ↓SY.dSeq_z, SY.someZ_s, SY.int1Z_s, SY.int2Z_s, SY.bl1Z_s, SY.optZ_s, SY.addZ_i, SY.addZ_s, SY.addZ_t, SY.addZ_l, SY.addZ_p, SY.lenZ_t, SY.lenZ_l, SY.lenZ_s, SY.lenZ_p, SY.slZ_t, SY.slZ_l, SY.slZ_s, SY.slZ_p, SY.setZ_s, SY.appZ_s, SY.popZ_s, SY.dgsZ_s, SY.nilK_s, SY.oneZ_s, SY.twoZ_s, SY.intZ_i, SY.intZ_b, SY.rng1Z_s, SY.rng2Z_s, SY.frzZ_p, SY.frzZ_l, SY.frzZ_t, SY.forZ_nil, SY.forZ_cons, SY.lcZ_nil, SY.lcZ_cons, SY.goZ_s, ↓SY.sq_nx, ↓SY.sq_rt, ↓SY.sq_bk, ↓SY.sq_ct, ↓SY.sq_ex, ↓SY.lp_nx, ↓SY.lp_ct, ↓SY.lp_bk, ↓SY.lp_rt, ↓SY.lp_ex, SY.dAsg, SY.dRet, SY.dRetN, SY.dNext, SY.dIf, SY.dTst, SY.dC, SY.dVar, SY.dI, SY.dI0, SY.dMul, SY.dDiv, SY.dMod, SY.dPow, SY.dSub, SY.dLt, SY.dLe, SY.dGt, SY.dGe, SY.dNeg, SY.dAdd, SY.dIx, SY.dNil, SY.dCons, SY.dTup, SY.dLst, SY.dLstM, ↓SY.dCall_z, SY.dAbs, SY.dLen, SY.dTuple, SY.dList, SY.dListM, SY.dEq, SY.dNe, SY.dIsN, SY.dNotN, SY.dIsB, SY.dNotB, SY.dFrz, SY.dRaise, SY.dTryAs, SY.dTryOnly, SY.dIsE, SY.dtAnd, SY.dtOr, SY.dtNot, SY.dAnd, SY.dOr, SY.dNot, SY.dIsi, SY.dAll, SY.dSum, SY.dInt, SY.dSl, SY.dNoO, SY.dSomeO, SY.dDrop, SY.dAug, SY.dPar, SY.dAsgG, SY.dgName, SY.dgTup, SY.dgsNil, SY.dgsName, SY.dgSub, SY.dApp, SY.dPopAt, SY.dFor, SY.dForR1, SY.dForR2, SY.dForE, SY.dLc, SY.dLcR, SY.dLcRM, SY.rngL, SY.enumL, SY.frozen_tup, SY.frozen_lst, SY.frozen_scr, SY.frozL_lst, SY.frozL_scr, SY.seqOf_tup, SY.seqOf_lst, SY.seqOf_scr, SY.seqOf_ptr, SY.seqOf_int, SY.seqOf_str, SY.lstOf_lst, SY.lstOf_scr, SY.lstOf_ptr, SY.mlst_lst, SY.plst_lst, SY.plst_ptr, SY.isPtrL, SY.tyN, SY.isNon, SY.blsOf, SY.intsOf, SY.dend0, SY.dend, SY.startD, SY.eqOk_int, SY.eqv_int, SY.atI0, SY.atI1, SY.atI2, SY.atI3, SY.atI4, SY.atI5, SY.ixN0, decide_true, decide_false, Int.reduceEq, Int.reduceLT, Int.reduceLE, SY.ixN_21, SY.ixN_31, SY.ixN_32, SY.ixN_41, SY.ixN_42, SY.ixN_43, SY.seqIx0, SY.updT_same, SY.updT_updT, List.map_cons, List.map_nil, List.length_cons, List.length_nil, List.replicate, List.cons_append, List.nil_append, List.getD_cons_zero, List.getD_cons_succ, List.set_cons_zero, List.set_cons_succ, List.getElem?_cons_zero, List.eraseIdx_cons_zero, Option.isSome_some, Option.map_some, Int.reduceToNat, Int.reducePow, Int.reduceAdd, Int.reduceMul, Nat.zero_lt_succ, Nat.reduceLT, Nat.sub_self, Nat.reduceSub, Nat.reduceAdd, Nat.reduceLeDiff, Nat.zero_add, SY.kit_ii, SY.kit_ib, SY.kit_it, SY.kit_bi, SY.kit_bb, SY.kit_tt, SY.kit_ti, SY.kit_tb, SY.kit_nt, SY.kit_ll, SY.kit_lt, Bool.not_true, Bool.not_false, if_true, if_false, reduceIte, Bool.false_eq_true, true_and, and_true, and_self])
    refine ⟨c, rfl, ?_⟩
    rw [fig_mem]
    exact ih
theorem pure_l_figures {N : List Str} (hN : N.length = 2) : ∀ us T P X, sp_l_figures us T P X → d_l_figures (dend0 P X) (startD N us) T := by
  intro us T P X h
  obtain ⟨a, rfl, h1⟩ := sp1.of (lock_of h)
  have e0 : startD N [a] = [some a, none] := by unfold startD; rw [hN]; rfl
  rw [e0]; clear e0; unfold d_l_figures
  obtain ⟨l, rfl, hl, h2⟩ := h1
  generalize hb : (dInS (dVar 1) (dC (.str (PySem.Str.ofString "0123456789")))) = bb
  (try simp -dsimp (maxSteps := 3000000) only [lenS, ↓SY.str1_z, SY.str1Z_s, SY.isStrD_s, SY.dStrI, SY.dIntS, SY.dSplit, SY.dSplitF, SY.dM1, SY.dFind, SY.dZfill, SY.dJoin, SY.splitD, SY.splitFD, SY.findD, SY.zfillD, SY.joinD, SY.dInS, SY.dNotInS, SY.inD, SY.notInD, SY.dIxS, SY.ixSD, SY.dSlS, SY.dForS, SY.dMax, SY.dLcS, SY.eqv_S, ↓SY.someOf_z, ↓SY.int1_z, ↓SY.int2_z, ↓SY.bl1_z, ↓SY.optK_z, ↓SY.seqK_z, ↓SY.ixD_z, ↓SY.addD_z, ↓SY.lenD_z, ↓SY.slD_z, ↓SY.setD_z, ↓SY.appD_z, ↓SY.popD_z, ↓SY.dgsK_z, ↓SY.one_z, ↓SY.two_z, ↓SY.intK_z, ↓SY.rng1_z, ↓SY.rng2_z, ↓SY.frzK_z, ↓SY.forL_z, ↓SY.lcL_z, ↓SY.dSeq_z, SY.someZ_s, SY.int1Z_s, SY.int2Z_s, SY.bl1Z_s, SY.optZ_s, SY.addZ_i, SY.addZ_s, SY.addZ_t, SY.addZ_l, SY.addZ_p, SY.lenZ_t, SY.lenZ_l, SY.lenZ_s, SY.lenZ_p, SY.slZ_t, SY.slZ_l, SY.slZ_s, SY.slZ_p, SY.setZ_s, SY.appZ_s, SY.popZ_s, SY.dgsZ_s, SY.nilK_s, SY.oneZ_s, SY.twoZ_s, SY.intZ_i, SY.intZ_b, SY.rng1Z_s, SY.rng2Z_s, SY.frzZ_p, SY.frzZ_l, SY.frzZ_t, SY.forZ_nil, SY.forZ_cons, SY.lcZ_nil, SY.lcZ_cons, SY.goZ_s, ↓SY.sq_nx, ↓SY.sq_rt, ↓SY.sq_bk, ↓SY.sq_ct, ↓SY.sq_ex, ↓SY.lp_nx, ↓SY.lp_ct, ↓SY.lp_bk, ↓SY.lp_rt, ↓SY.lp_ex, SY.dAsg, SY.dRet, SY.dRetN, SY.dNext, SY.dIf, SY.dTst, SY.dC, SY.dVar, SY.dI, SY.dI0, SY.dMul, SY.dDiv, SY.dMod, SY.dPow, SY.dSub, SY.dLt, SY.dLe, SY.dGt, SY.dGe, SY.dNeg, SY.dAdd, SY.dIx, SY.dNil, SY.dCons, SY.dTup, SY.dLst, SY.dLstM, ↓SY.dCall_z, SY.dAbs, SY.dLen, SY.dTuple, SY.dList, SY.dListM, SY.dEq, SY.dNe, SY.dIsN, SY.dNotN, SY.dIsB, SY.dNotB, SY.dFrz, SY.dRaise, SY.dTryAs, SY.dTryOnly, SY.dIsE, SY.dtAnd, SY.dtOr, SY.dtNot, SY.dAnd, SY.dOr, SY.dNot, SY.dIsi, SY.dAll, SY.dSum, SY.dInt, SY.dSl, SY.dNoO, SY.dSomeO, SY.dDrop, SY.dAug, SY.dPar, SY.dAsgG, SY.dgName, SY.dgTup, SY.dgsNil, SY.dgsName, SY.dgSub, SY.dApp, SY.dPopAt, SY.dFor, SY.dForR1, SY.dForR2, SY.dForE, SY.dLc, SY.dLcR, SY.dLcRM, SY.rngL, SY.enumL, SY.frozen_tup, SY.frozen_lst, SY.frozen_scr, SY.frozL_lst, SY.frozL_scr, SY.seqOf_tup, SY.seqOf_lst, SY.seqOf_scr, SY.seqOf_ptr, SY.seqOf_int, SY.seqOf_str, SY.lstOf_lst, SY.lstOf_scr, SY.lstOf_ptr, SY.mlst_lst, SY.plst_lst, SY.plst_ptr, SY.isPtrL, SY.tyN, SY.isNon, SY.blsOf, SY.intsOf, SY.dend0, SY.dend, SY.startD, SY.eqOk_int, SY.eqv_int, SY.atI0, SY.atI1, SY.atI2, SY.atI3, SY.atI4, SY.atI5, SY.ixN0, decide_true, decide_false, Int.reduceEq, Int.reduceLT, Int.reduceLE, SY.ixN_21, SY.ixN_31, SY.ixN_32, SY.ixN_41, SY.ixN_42, SY.ixN_43, SY.seqIx0, SY.updT_same, SY.updT_updT, List.map_cons, List.map_nil, List.length_cons, List.length_nil, List.replicate, List.cons_append, List.nil_append, List.getD_cons_zero, List.getD_cons_succ, List.set_cons_zero, List.set_cons_succ, List.getElem?_cons_zero, List.eraseIdx_cons_zero, Option.isSome_some, Option.map_some, Int.reduceToNat, Int.reducePow, Int.reduceAdd, Int.reduceMul, Nat.zero_lt_succ, Nat.reduceLT, Nat.sub_self, Nat.reduceSub, Nat.reduceAdd, Nat.reduceLeDiff, Nat.zero_add, SY.kit_ii, SY.kit_ib, SY.kit_it, SY.kit_bi, SY.kit_bb, SY.kit_tt, SY.kit_ti, SY.kit_tb, SY.kit_nt, SY.kit_ll, SY.kit_lt, Bool.not_true, Bool.not_false, if_true, if_false, reduceIte, Bool.false_eq_true, true_and, and_true, and_self])
  have z : l.length ≤ sizeLine := Nat.le_trans hl (by decide)
  refine ⟨z, ?_⟩
  unfold figs at h2
  by_cases h0 : l.length = 0
  · rw [decide_eq_true (show (l.length : Int) < 1 by omega)]
    rw [decide_eq_false (show ¬ l.length ≠ 0 by omega)] at h2
    exact h2
  · rw [decide_eq_false (show ¬ (l.length : Int) < 1 by omega)]
    rw [decide_eq_true (show l.length ≠ 0 from h0)] at h2
    (try simp -dsimp (maxSteps := 3000000) only [lenS, ↓SY.str1_z, SY.str1Z_s, SY.isStrD_s, SY.dStrI, SY.dIntS, SY.dSplit, SY.dSplitF, SY.dM1, SY.dFind, SY.dZfill, SY.dJoin, SY.splitD, SY.splitFD, SY.findD, SY.zfillD, SY.joinD, SY.dInS, SY.dNotInS, SY.inD, SY.notInD, SY.dIxS, SY.ixSD, SY.dSlS, SY.dForS, SY.dMax, SY.dLcS, SY.eqv_S, ↓SY.someOf_z, ↓SY.int1_z, ↓SY.int2_z, ↓SY.bl1_z, ↓SY.optK_z, ↓SY.seqK_z, ↓SY.ixD_z, ↓SY.addD_z, ↓SY.lenD_z, ↓SY.slD_z, ↓SY.setD_z, ↓SY.appD_z, ↓SY.popD_z, ↓SY.dgsK_z, ↓SY.one_z, ↓SY.two_z, ↓SY.intK_z, ↓SY.rng1_z, ↓SY.rng2_z, ↓SY.frzK_z, ↓SY.forL_z, ↓SY.lcL_z, ↓SY.dSeq_z, SY.someZ_s, SY.int1Z_s, SY.int2Z_s, SY.bl1Z_s, SY.optZ_s, SY.addZ_i, SY.addZ_s, SY.addZ_t, SY.addZ_l, SY.addZ_p, SY.lenZ_t, SY.lenZ_l, SY.lenZ_s, SY.lenZ_p, SY.slZ_t, SY.slZ_l, SY.slZ_s, SY.slZ_p, SY.setZ_s, SY.appZ_s, SY.popZ_s, SY.dgsZ_s, SY.nilK_s, SY.oneZ_s, SY.twoZ_s, SY.intZ_i, SY.intZ_b, SY.rng1Z_s, SY.rng2Z_s, SY.frzZ_p, SY.frzZ_l, SY.frzZ_t, SY.forZ_nil, SY.forZ_cons, SY.lcZ_nil, SY.lcZ_cons, SY.goZ_s, ↓SY.sq_nx, ↓SY.sq_rt, ↓SY.sq_bk, ↓SY.sq_ct, ↓SY.sq_ex, ↓SY.lp_nx, ↓SY.lp_ct, ↓SY.lp_bk, ↓SY.lp_rt, ↓SY.lp_ex, SY.dAsg, SY.dRet, SY.dRetN, SY.dNext, SY.dIf, SY.dTst, SY.dC, SY.dVar, SY.dI, SY.dI0, SY.dMul, SY.dDiv, SY.dMod, SY.dPow, SY.dSub, SY.dLt, SY.dLe, SY.dGt, SY.dGe, SY.dNeg, SY.dAdd, SY.dIx, SY.dNil, SY.dCons, SY.dTup, SY.dLst, SY.dLstM, ↓SY.dCall_z, SY.dAbs, SY.dLen, SY.dTuple, SY.dList, SY.dListM, SY.dEq, SY.dNe, SY.dIsN, SY.dNotN, SY.dIsB, SY.dNotB, SY.dFrz, SY.dRaise, SY.dTryAs, SY.dTryOnly, SY.dIsE, SY.dtAnd, SY.dtOr, SY.dtNot, SY.dAnd, SY.dOr, SY.dNot, SY.dIsi, SY.dAll, SY.dSum, SY.dInt, SY.dSl, SY.dNoO, SY.dSomeO, SY.dDrop, SY.dAug, SY.dPar, SY.dAsgG, SY.dgName, SY.dgTup, SY.dgsNil, SY.dgsName, SY.dgSub, SY.dApp, SY.dPopAt, SY.dFor, SY.dForR1, SY.dForR2, SY.dForE, SY.dLc, SY.dLcR, SY.dLcRM, SY.rngL, SY.enumL, SY.frozen_tup, SY.frozen_lst, SY.frozen_scr, SY.frozL_lst, SY.frozL_scr, SY.seqOf_tup, SY.seqOf_lst, SY.seqOf_scr, SY.seqOf_ptr, SY.seqOf_int, SY.seqOf_str, SY.lstOf_lst, SY.lstOf_scr, SY.lstOf_ptr, SY.mlst_lst, SY.plst_lst, SY.plst_ptr, SY.isPtrL, SY.tyN, SY.isNon, SY.blsOf, SY.intsOf, SY.dend0, SY.dend, SY.startD, SY.eqOk_int, SY.eqv_int, SY.atI0, SY.atI1, SY.atI2, SY.atI3, SY.atI4, SY.atI5, SY.ixN0, decide_true, decide_false, Int.reduceEq, Int.reduceLT, Int.reduceLE, SY.ixN_21, SY.ixN_31, SY.ixN_32, SY.ixN_41, SY.ixN_42, SY.ixN_43, SY.seqIx0, SY.updT_same, SY.updT_updT, List.map_cons, List.map_nil, List.length_cons, List.length_nil, List.replicate, List.cons_append, List.nil_append, List.getD_cons_zero, List.getD_cons_succ, List.set_cons_zero, List.set_cons_succ, List.getElem?_cons_zero, List.eraseIdx_cons_zero, Option.isSome_some, Option.map_some, Int.reduceToNat, Int.reducePow, Int.reduceAdd, Int.reduceMul, Nat.zero_lt_succ, Nat.reduceLT, Nat.sub_self, Nat.reduceSub, Nat.reduceAdd, Nat.reduceLeDiff, Nat.zero_add, SY.kit_ii, SY.kit_ib, SY.kit_it, SY.kit_bi, SY.kit_bb, SY.kit_tt, SY.kit_ti, SY.kit_tb, SY.kit_nt, SY.kit_ll, SY.kit_lt, Bool.not_true, Bool.not_false, if_true, if_false, reduceIte, Bool.false_eq_true, true_and, and_true, and_self])
    refine ⟨z, ?_⟩
    by_cases h6 : l.length ≤ 60
    · rw [decide_eq_false (show ¬ (60 : Int) < (l.length : Int) by omega)]
      rw [decide_eq_true h6] at h2
      (try simp -dsimp (maxSteps := 3000000) only [strL_S, lenS, ↓SY.str1_z, SY.str1Z_s, SY.isStrD_s, SY.dStrI, SY.dIntS, SY.dSplit, SY.dSplitF, SY.dM1, SY.dFind, SY.dZfill, SY.dJoin, SY.splitD, SY.splitFD, SY.findD, SY.zfillD, SY.joinD, SY.dInS, SY.dNotInS, SY.inD, SY.notInD, SY.dIxS, SY.ixSD, SY.dSlS, SY.dForS, SY.dMax, SY.dLcS, SY.eqv_S, ↓SY.someOf_z, ↓SY.int1_z, ↓SY.int2_z, ↓SY.bl1_z, ↓SY.optK_z, ↓SY.seqK_z, ↓SY.ixD_z, ↓SY.addD_z, ↓SY.lenD_z, ↓SY.slD_z, ↓SY.setD_z, ↓SY.appD_z, ↓SY.popD_z, ↓SY.dgsK_z, ↓SY.one_z, ↓SY.two_z, ↓SY.intK_z, ↓SY.rng1_z, ↓SY.rng2_z, ↓SY.frzK_z, ↓SY.forL_z, ↓SY.lcL_z, ↓SY.dSeq_z, SY.someZ_s, SY.int1Z_s, SY.int2Z_s, SY.bl1Z_s, SY.optZ_s, SY.addZ_i, SY.addZ_s, SY.addZ_t, SY.addZ_l, SY.addZ_p, SY.lenZ_t, SY.lenZ_l, SY.lenZ_s, SY.lenZ_p, SY.slZ_t, SY.slZ_l, SY.slZ_s, SY.slZ_p, SY.setZ_s, SY.appZ_s, SY.popZ_s, SY.dgsZ_s, SY.nilK_s, SY.oneZ_s, SY.twoZ_s, SY.intZ_i, SY.intZ_b, SY.rng1Z_s, SY.rng2Z_s, SY.frzZ_p, SY.frzZ_l, SY.frzZ_t, SY.forZ_nil, SY.forZ_cons, SY.lcZ_nil, SY.lcZ_cons, SY.goZ_s, ↓SY.sq_nx, ↓SY.sq_rt, ↓SY.sq_bk, ↓SY.sq_ct, ↓SY.sq_ex, ↓SY.lp_nx, ↓SY.lp_ct, ↓SY.lp_bk, ↓SY.lp_rt, ↓SY.lp_ex, SY.dAsg, SY.dRet, SY.dRetN, SY.dNext, SY.dIf, SY.dTst, SY.dC, SY.dVar, SY.dI, SY.dI0, SY.dMul, SY.dDiv, SY.dMod, SY.dPow, SY.dSub, SY.dLt, SY.dLe, SY.dGt, SY.dGe, SY.dNeg, SY.dAdd, SY.dIx, SY.dNil, SY.dCons, SY.dTup, SY.dLst, SY.dLstM, ↓SY.dCall_z, SY.dAbs, SY.dLen, SY.dTuple, SY.dList, SY.dListM, SY.dEq, SY.dNe, SY.dIsN, SY.dNotN, SY.dIsB, SY.dNotB, SY.dFrz, SY.dRaise, SY.dTryAs, SY.dTryOnly, SY.dIsE, SY.dtAnd, SY.dtOr, SY.dtNot, SY.dAnd, SY.dOr, SY.dNot, SY.dIsi, SY.dAll, SY.dSum, SY.dInt, SY.dSl, SY.dNoO, SY.dSomeO, SY.dDrop, SY.dAug, SY.dPar, SY.dAsgG, SY.dgName, SY.dgTup, SY.dgsNil, SY.dgsName, SY.dgSub, SY.dApp, SY.dPopAt, SY.dFor, SY.dForR1, SY.dForR2, SY.dForE, SY.dLc, SY.dLcR, SY.dLcRM, SY.rngL, SY.enumL, SY.frozen_tup, SY.frozen_lst, SY.frozen_scr, SY.frozL_lst, SY.frozL_scr, SY.seqOf_tup, SY.seqOf_lst, SY.seqOf_scr, SY.seqOf_ptr, SY.seqOf_int, SY.seqOf_str, SY.lstOf_lst, SY.lstOf_scr, SY.lstOf_ptr, SY.mlst_lst, SY.plst_lst, SY.plst_ptr, SY.isPtrL, SY.tyN, SY.isNon, SY.blsOf, SY.intsOf, SY.dend0, SY.dend, SY.startD, SY.eqOk_int, SY.eqv_int, SY.atI0, SY.atI1, SY.atI2, SY.atI3, SY.atI4, SY.atI5, SY.ixN0, decide_true, decide_false, Int.reduceEq, Int.reduceLT, Int.reduceLE, SY.ixN_21, SY.ixN_31, SY.ixN_32, SY.ixN_41, SY.ixN_42, SY.ixN_43, SY.seqIx0, SY.updT_same, SY.updT_updT, List.map_cons, List.map_nil, List.length_cons, List.length_nil, List.replicate, List.cons_append, List.nil_append, List.getD_cons_zero, List.getD_cons_succ, List.set_cons_zero, List.set_cons_succ, List.getElem?_cons_zero, List.eraseIdx_cons_zero, Option.isSome_some, Option.map_some, Int.reduceToNat, Int.reducePow, Int.reduceAdd, Int.reduceMul, Nat.zero_lt_succ, Nat.reduceLT, Nat.sub_self, Nat.reduceSub, Nat.reduceAdd, Nat.reduceLeDiff, Nat.zero_add, SY.kit_ii, SY.kit_ib, SY.kit_it, SY.kit_bi, SY.kit_bb, SY.kit_tt, SY.kit_ti, SY.kit_tb, SY.kit_nt, SY.kit_ll, SY.kit_lt, Bool.not_true, Bool.not_false, if_true, if_false, reduceIte, Bool.false_eq_true, true_and, and_true, and_self])
      refine ⟨by omega, ?_⟩
      subst hb
      refine lc_figs l [] ?_
      (try simp -dsimp (maxSteps := 3000000) only [blsOf_map, ↓SY.someOf_z, ↓SY.int1_z, ↓SY.int2_z, ↓SY.bl1_z, ↓SY.optK_z, ↓SY.seqK_z, ↓SY.ixD_z, ↓SY.addD_z, ↓SY.lenD_z, ↓SY.slD_z, ↓SY.setD_z, ↓SY.appD_z, ↓SY.popD_z, ↓SY.dgsK_z, ↓SY.one_z, ↓SY.two_z, ↓SY.intK_z, ↓SY.rng1_z, ↓SY.rng2_z, ↓SY.frzK_z, ↓SY.forL_z, ↓SY.lcL_z, ↓SY.dSeq_z, SY.someZ_s, SY.int1Z_s, SY.int2Z_s, SY.bl1Z_s, SY.optZ_s, SY.addZ_i, SY.addZ_s, SY.addZ_t, SY.addZ_l, SY.addZ_p, SY.lenZ_t, SY.lenZ_l, SY.lenZ_s, SY.lenZ_p, SY.slZ_t, SY.slZ_l, SY.slZ_s, SY.slZ_p, SY.setZ_s, SY.appZ_s, SY.popZ_s, SY.dgsZ_s, SY.nilK_s, SY.oneZ_s, SY.twoZ_s, SY.intZ_i, SY.intZ_b, SY.rng1Z_s, SY.rng2Z_s, SY.frzZ_p, SY.frzZ_l, SY.frzZ_t, SY.forZ_nil, SY.forZ_cons, SY.lcZ_nil, SY.lcZ_cons, SY.goZ_s, ↓SY.sq_nx, ↓SY.sq_rt, ↓SY.sq_bk, ↓SY.sq_ct, ↓SY.sq_ex, ↓SY.lp_nx, ↓SY.lp_ct, ↓SY.lp_bk, ↓SY.lp_rt, ↓SY.lp_ex, SY.dAsg, SY.dRet, SY.dRetN, SY.dNext, SY.dIf, SY.dTst, SY.dC, SY.dVar, SY.dI, SY.dI0, SY.dMul, SY.dDiv, SY.dMod, SY.dPow, SY.dSub, SY.dLt, SY.dLe, SY.dGt, SY.dGe, SY.dNeg, SY.dAdd, SY.dIx, SY.dNil, SY.dCons, SY.dTup, SY.dLst, SY.dLstM, ↓SY.dCall_z, SY.dAbs, SY.dLen, SY.dTuple, SY.dList, SY.dListM, SY.dEq, SY.dNe, SY.dIsN, SY.dNotN, SY.dIsB, SY.dNotB, SY.dFrz, SY.dRaise, SY.dTryAs, SY.dTryOnly, SY.dIsE, SY.dtAnd, SY.dtOr, SY.dtNot, SY.dAnd, SY.dOr, SY.dNot, SY.dIsi, SY.dAll, SY.dSum, SY.dInt, SY.dSl, SY.dNoO, SY.dSomeO, SY.dDrop, SY.dAug, SY.dPar, SY.dAsgG, SY.dgName, SY.dgTup, SY.dgsNil, SY.dgsName, SY.dgSub, SY.dApp, SY.dPopAt, SY.dFor, SY.dForR1, SY.dForR2, SY.dForE, SY.dLc, SY.dLcR, SY.dLcRM, SY.rngL, SY.enumL, SY.frozen_tup, SY.frozen_lst, SY.frozen_scr, SY.frozL_lst, SY.frozL_scr, SY.seqOf_tup, SY.seqOf_lst, SY.seqOf_scr, SY.seqOf_ptr, SY.seqOf_int, SY.seqOf_str, SY.lstOf_lst, SY.lstOf_scr, SY.lstOf_ptr, SY.mlst_lst, SY.plst_lst, SY.plst_ptr, SY.isPtrL, SY.tyN, SY.isNon, SY.blsOf, SY.intsOf, SY.dend0, SY.dend, SY.startD, SY.eqOk_int, SY.eqv_int, SY.atI0, SY.atI1, SY.atI2, SY.atI3, SY.atI4, SY.atI5, SY.ixN0, decide_true, decide_false, Int.reduceEq, Int.reduceLT, Int.reduceLE, SY.ixN_21, SY.ixN_31, SY.ixN_32, SY.ixN_41, SY.ixN_42, SY.ixN_43, SY.seqIx0, SY.updT_same, SY.updT_updT, List.map_cons, List.map_nil, List.length_cons, List.length_nil, List.replicate, List.cons_append, List.nil_append, List.getD_cons_zero, List.getD_cons_succ, List.set_cons_zero, List.set_cons_succ, List.getElem?_cons_zero, List.eraseIdx_cons_zero, Option.isSome_some, Option.map_some, Int.reduceToNat, Int.reducePow, Int.reduceAdd, Int.reduceMul, Nat.zero_lt_succ, Nat.reduceLT, Nat.sub_self, Nat.reduceSub, Nat.reduceAdd, Nat.reduceLeDiff, Nat.zero_add, SY.kit_ii, SY.kit_ib, SY.kit_it, SY.kit_bi, SY.kit_bb, SY.kit_tt, SY.kit_ti, SY.kit_tb, SY.kit_nt, SY.kit_ll, SY.kit_lt, Bool.not_true, Bool.not_false, if_true, if_false, reduceIte, Bool.false_eq_true, true_and, and_true, and_self])
      rw [List.all_map]
      exact h2
    · rw [decide_eq_true (show (60 : Int) < (l.length : Int) by omega)]
      rw [decide_eq_false h6] at h2
      exact h2
theorem sp_l_figures_mk {l : List Nat} (hl : l.length ≤ 10000) (h : P (.bl (figs l)) T) : sp_l_figures [.str (S l)] T P X := lock_at ⟨l, rfl, hl, h⟩
/-- what a reader tells -/
def dueD : Option (Int × Int) → D
  | none => .non
  | some (t, b) => .tup ((sgZ [t, b]).map .int)
noncomputable def sp_l_number_of : DSp := lock <| sp1 fun a T P _ => ∃ l : List Nat, a = .str (S l) ∧ l.length ≤ 5000 ∧ Asc l ∧ P (dueD (rdN l)) T
def d_l_number_of_t5 : DS := (dSeq (dIf (dtOr (dtNot (dTst (dCall sp_l_figures (dCons (dVar 0) dNil)))) (dtNot (dTst (dCall sp_l_figures (dCons (dVar 2) dNil))))) (dRet (dC .non)) dNext) (dSeq (dIf (dTst (dEq (dIntS (dVar 2)) (dC (.int 0)))) (dRet (dC .non)) dNext) (dSeq (dAsg (dCall sp_divisor (dCons (dIntS (dVar 0)) (dCons (dIntS (dVar 2)) dNil))) 4) (dRet (dTup (dCons (dMul (dVar 1) (dDiv (dIntS (dVar 0)) (dVar 4))) (dCons (dDiv (dIntS (dVar 2)) (dVar 4)) dNil)))))))
def d_l_number_of_t2 : DS := (dSeq (dAsg (dC (.str (PySem.Str.ofString "1"))) 2) (dSeq (dAsg (dFind (dVar 0) (dC (.str (PySem.Str.ofString "/")))) 3) (dSeq (dIf (dTst (dGe (dVar 3) (dC (.int 0)))) (dSeq (dAsg (dSlS (dVar 0) (dSomeO (dAdd (dVar 3) (dC (.int 1)))) dNoO) 2) (dAsg (dSlS (dVar 0) dNoO (dSomeO (dVar 3))) 0)) dNext) d_l_number_of_t5)))
def d_l_number_of : DS := (dSeq (dAsg (dC (.int 1)) 1) (dSeq (dIf (dTst (dEq (dSlS (dVar 0) dNoO (dSomeO (dC (.int 1)))) (dC (.str (PySem.Str.ofString "-"))))) (dSeq (dAsg (dNeg (dC (.int 1))) 1) (dAsg (dSlS (dVar 0) (dSomeO (dC (.int 1))) dNoO) 0)) dNext) d_l_number_of_t2))
theorem sg_div {s : Int} {x y : Nat} (hs : s = 1 ∨ s = -1) (hy : y ≠ 0) : sgZ [s * (x : Int), (y : Int)] = [s * ((x : Int) / (Int.gcd (x : Int) (y : Int) : Int)), (y : Int) / (Int.gcd (x : Int) (y : Int) : Int)] := by
  have hb : (0 : Int) < (y : Int) := by omega
  rw [sgZ_pos (show 0 < [s * (x : Int), (y : Int)].getLastD 0 from hb)]
  have gp : 0 < (Int.gcd (x : Int) (y : Int) : Int) := by
    have := Int.gcd_pos_of_ne_zero_right (x : Int) (show (y : Int) ≠ 0 by omega)
    omega
  have eg : gcdL [s * (x : Int), (y : Int)] = Int.gcd (x : Int) (y : Int) := by
    show Int.gcd ((Int.gcd ((0 : Nat) : Int) (s * (x : Int)) : Nat) : Int) (y : Int) = Int.gcd (x : Int) (y : Int)
    rw [show ((0 : Nat) : Int) = 0 from rfl, Int.gcd_zero_left]
    have : (s * (x : Int)).natAbs = x := by
      rcases hs with rfl | rfl
      · omega
      · omega
    rw [this]
  unfold lowZ lowBy
  rw [eg, if_neg (by omega)]
  have dx : (Int.gcd (x : Int) (y : Int) : Int) ∣ (x : Int) := Int.gcd_dvd_left ..
  simp only [List.map_cons, List.map_nil, List.cons.injEq, and_true]
  rcases hs with rfl | rfl
  · rw [Int.one_mul, Int.one_mul]
  · rw [Int.neg_mul, Int.one_mul, Int.neg_mul, Int.one_mul, Int.neg_ediv_of_dvd dx]
theorem nof_end {l a b : List Nat} {s : Int} {neg : Bool} {a3 : Option D} (hs : s = if neg = true then -1 else 1) (ha : a.length ≤ 5000) (hb : b.length ≤ 5000) (h : P (dueD (two' neg a b)) T) : d_l_number_of_t5 (dend0 P X) [some (.str (S a)), some (.int s), some (.str (S b)), a3, none] T := by
  unfold d_l_number_of_t5
  unfold two' at h
  walk_at "dz"
  refine sp_l_figures_mk (by omega) ?_
  cases fa : figs a with
  | false =>
    rw [fa] at h
    rw [if_neg (by simp)] at h
    exact h
  | true =>
    walk_at "dz"
    refine sp_l_figures_mk (by omega) ?_
    cases fb : figs b with
    | false =>
      rw [fb] at h
      rw [if_neg (by simp)] at h
      exact h
    | true =>
      have la := figs_len fa
      have lb := figs_len fb
      (try simp -dsimp (maxSteps := 3000000) only [lit_minus, ↓SY.str1_z, SY.str1Z_s, SY.isStrD_s, SY.dStrI, SY.dIntS, SY.dSplit, SY.dSplitF, SY.dM1, SY.dFind, SY.dZfill, SY.dJoin, SY.splitD, SY.splitFD, SY.findD, SY.zfillD, SY.joinD, SY.dInS, SY.dNotInS, SY.inD, SY.notInD, SY.dIxS, SY.ixSD, SY.dSlS, SY.dForS, SY.dMax, SY.dLcS, SY.eqv_S, ↓SY.someOf_z, ↓SY.int1_z, ↓SY.int2_z, ↓SY.bl1_z, ↓SY.optK_z, ↓SY.seqK_z, ↓SY.ixD_z, ↓SY.addD_z, ↓SY.lenD_z, ↓SY.slD_z, ↓SY.setD_z, ↓SY.appD_z, ↓SY.popD_z, ↓SY.dgsK_z, ↓SY.one_z, ↓SY.two_z, ↓SY.intK_z, ↓SY.rng1_z, ↓SY.rng2_z, ↓SY.frzK_z, ↓SY.forL_z, ↓SY.lcL_z, ↓SY.dSeq_z, SY.someZ_s, SY.int1Z_s, SY.int2Z_s, SY.bl1Z_s, SY.optZ_s, SY.addZ_i, SY.addZ_s, SY.addZ_t, SY.addZ_l, SY.addZ_p, SY.lenZ_t, SY.lenZ_l, SY.lenZ_s, SY.lenZ_p, SY.slZ_t, SY.slZ_l, SY.slZ_s, SY.slZ_p, SY.setZ_s, SY.appZ_s, SY.popZ_s, SY.dgsZ_s, SY.nilK_s, SY.oneZ_s, SY.twoZ_s, SY.intZ_i, SY.intZ_b, SY.rng1Z_s, SY.rng2Z_s, SY.frzZ_p, SY.frzZ_l, SY.frzZ_t, SY.forZ_nil, SY.forZ_cons, SY.lcZ_nil, SY.lcZ_cons, SY.goZ_s, ↓SY.sq_nx, ↓SY.sq_rt, ↓SY.sq_bk, ↓SY.sq_ct, ↓SY.sq_ex, ↓SY.lp_nx, ↓SY.lp_ct, ↓SY.lp_bk, ↓SY.lp_rt, ↓SY.lp_ex, SY.dAsg, SY.dRet, SY.dRetN, SY.dNext, SY.dIf, SY.dTst, SY.dC, SY.dVar, SY.dI, SY.dI0, SY.dMul, SY.dDiv, SY.dMod, SY.dPow, SY.dSub, SY.dLt, SY.dLe, SY.dGt, SY.dGe, SY.dNeg, SY.dAdd, SY.dIx, SY.dNil, SY.dCons, SY.dTup, SY.dLst, SY.dLstM, ↓SY.dCall_z, SY.dAbs, SY.dLen, SY.dTuple, SY.dList, SY.dListM, SY.dEq, SY.dNe, SY.dIsN, SY.dNotN, SY.dIsB, SY.dNotB, SY.dFrz, SY.dRaise, SY.dTryAs, SY.dTryOnly, SY.dIsE, SY.dtAnd, SY.dtOr, SY.dtNot, SY.dAnd, SY.dOr, SY.dNot, SY.dIsi, SY.dAll, SY.dSum, SY.dInt, SY.dSl, SY.dNoO, SY.dSomeO, SY.dDrop, SY.dAug, SY.dPar, SY.dAsgG, SY.dgName, SY.dgTup, SY.dgsNil, SY.dgsName, SY.dgSub, SY.dApp, SY.dPopAt, SY.dFor, SY.dForR1, SY.dForR2, SY.dForE, SY.dLc, SY.dLcR, SY.dLcRM, SY.rngL, SY.enumL, SY.frozen_tup, SY.frozen_lst, SY.frozen_scr, SY.frozL_lst, SY.frozL_scr, SY.seqOf_tup, SY.seqOf_lst, SY.seqOf_scr, SY.seqOf_ptr, SY.seqOf_int, SY.seqOf_str, SY.lstOf_lst, SY.lstOf_scr, SY.lstOf_ptr, SY.mlst_lst, SY.plst_lst, SY.plst_ptr, SY.isPtrL, SY.tyN, SY.isNon, SY.blsOf, SY.intsOf, SY.dend0, SY.dend, SY.startD, SY.eqOk_int, SY.eqv_int, SY.atI0, SY.atI1, SY.atI2, SY.atI3, SY.atI4, SY.atI5, SY.ixN0, decide_true, decide_false, Int.reduceEq, Int.reduceLT, Int.reduceLE, SY.ixN_21, SY.ixN_31, SY.ixN_32, SY.ixN_41, SY.ixN_42, SY.ixN_43, SY.seqIx0, SY.updT_same, SY.updT_updT, List.map_cons, List.map_nil, List.length_cons, List.length_nil, List.replicate, List.cons_append, List.nil_append, List.getD_cons_zero, List.getD_cons_succ, List.set_cons_zero, List.set_cons_succ, List.getElem?_cons_zero, List.eraseIdx_cons_zero, Option.isSome_some, Option.map_some, Int.reduceToNat, Int.reducePow, Int.reduceAdd, Int.reduceMul, Nat.zero_lt_succ, Nat.reduceLT, Nat.sub_self, Nat.reduceSub, Nat.reduceAdd, Nat.reduceLeDiff, Nat.zero_add, SY.kit_ii, SY.kit_ib, SY.kit_it, SY.kit_bi, SY.kit_bb, SY.kit_tt, SY.kit_ti, SY.kit_tb, SY.kit_nt, SY.kit_ll, SY.kit_lt, Bool.not_true, Bool.not_false, if_true, if_false, reduceIte, Bool.false_eq_true, true_and, and_true, and_self])
      refine ⟨_, int_val fb, by rw [lenS]; omega, ?_⟩
      walk_at "dz"
      by_cases hv : val b = 0
      · rw [decide_eq_true (show ((val b : Nat) : Int) = 0 by omega)]
        rw [if_neg fun z => z.2.2 hv] at h
        exact h
      · rw [decide_eq_false (show ¬ ((val b : Nat) : Int) = 0 by omega)]
        rw [if_pos ⟨fa, fb, hv⟩] at h
        have bb := val_B fb
        have ba := val_B fa
        have e1 : (if neg = true then -((val a : Nat) : Int) else ((val a : Nat) : Int)) = s * ((val a : Nat) : Int) := by
          rw [hs]
          cases neg
          · show ((val a : Nat) : Int) = 1 * _
            omega
          · show -((val a : Nat) : Int) = -1 * _
            omega
        rw [e1] at h
        have hd : dueD (some (s * ((val a : Nat) : Int), ((val b : Nat) : Int))) = .tup ((sgZ [s * ((val a : Nat) : Int), ((val b : Nat) : Int)]).map .int) := rfl
        rw [hd, sg_div (by rw [hs]; cases neg <;> simp) hv] at h
        have gp : 0 < (Int.gcd ((val a : Nat) : Int) ((val b : Nat) : Int) : Int) := by
          have := Int.gcd_pos_of_ne_zero_right ((val a : Nat) : Int) (show ((val b : Nat) : Int) ≠ 0 by omega)
          omega
        have gb : Bd 250 (Int.gcd ((val a : Nat) : Int) ((val b : Nat) : Int) : Int) := Bd.gcd ba bb
        have dv : ∀ i, CDivW i (Int.gcd ((val a : Nat) : Int) ((val b : Nat) : Int) : Int) := fun i => Bd.divOk gb (by decide) gp
        (try simp -dsimp (maxSteps := 3000000) only [lit_minus, ↓SY.str1_z, SY.str1Z_s, SY.isStrD_s, SY.dStrI, SY.dIntS, SY.dSplit, SY.dSplitF, SY.dM1, SY.dFind, SY.dZfill, SY.dJoin, SY.splitD, SY.splitFD, SY.findD, SY.zfillD, SY.joinD, SY.dInS, SY.dNotInS, SY.inD, SY.notInD, SY.dIxS, SY.ixSD, SY.dSlS, SY.dForS, SY.dMax, SY.dLcS, SY.eqv_S, ↓SY.someOf_z, ↓SY.int1_z, ↓SY.int2_z, ↓SY.bl1_z, ↓SY.optK_z, ↓SY.seqK_z, ↓SY.ixD_z, ↓SY.addD_z, ↓SY.lenD_z, ↓SY.slD_z, ↓SY.setD_z, ↓SY.appD_z, ↓SY.popD_z, ↓SY.dgsK_z, ↓SY.one_z, ↓SY.two_z, ↓SY.intK_z, ↓SY.rng1_z, ↓SY.rng2_z, ↓SY.frzK_z, ↓SY.forL_z, ↓SY.lcL_z, ↓SY.dSeq_z, SY.someZ_s, SY.int1Z_s, SY.int2Z_s, SY.bl1Z_s, SY.optZ_s, SY.addZ_i, SY.addZ_s, SY.addZ_t, SY.addZ_l, SY.addZ_p, SY.lenZ_t, SY.lenZ_l, SY.lenZ_s, SY.lenZ_p, SY.slZ_t, SY.slZ_l, SY.slZ_s, SY.slZ_p, SY.setZ_s, SY.appZ_s, SY.popZ_s, SY.dgsZ_s, SY.nilK_s, SY.oneZ_s, SY.twoZ_s, SY.intZ_i, SY.intZ_b, SY.rng1Z_s, SY.rng2Z_s, SY.frzZ_p, SY.frzZ_l, SY.frzZ_t, SY.forZ_nil, SY.forZ_cons, SY.lcZ_nil, SY.lcZ_cons, SY.goZ_s, ↓SY.sq_nx, ↓SY.sq_rt, ↓SY.sq_bk, ↓SY.sq_ct, ↓SY.sq_ex, ↓SY.lp_nx, ↓SY.lp_ct, ↓SY.lp_bk, ↓SY.lp_rt, ↓SY.lp_ex, SY.dAsg, SY.dRet, SY.dRetN, SY.dNext, SY.dIf, SY.dTst, SY.dC, SY.dVar, SY.dI, SY.dI0, SY.dMul, SY.dDiv, SY.dMod, SY.dPow, SY.dSub, SY.dLt, SY.dLe, SY.dGt, SY.dGe, SY.dNeg, SY.dAdd, SY.dIx, SY.dNil, SY.dCons, SY.dTup, SY.dLst, SY.dLstM, ↓SY.dCall_z, SY.dAbs, SY.dLen, SY.dTuple, SY.dList, SY.dListM, SY.dEq, SY.dNe, SY.dIsN, SY.dNotN, SY.dIsB, SY.dNotB, SY.dFrz, SY.dRaise, SY.dTryAs, SY.dTryOnly, SY.dIsE, SY.dtAnd, SY.dtOr, SY.dtNot, SY.dAnd, SY.dOr, SY.dNot, SY.dIsi, SY.dAll, SY.dSum, SY.dInt, SY.dSl, SY.dNoO, SY.dSomeO, SY.dDrop, SY.dAug, SY.dPar, SY.dAsgG, SY.dgName, SY.dgTup, SY.dgsNil, SY.dgsName, SY.dgSub, SY.dApp, SY.dPopAt, SY.dFor, SY.dForR1, SY.dForR2, SY.dForE, SY.dLc, SY.dLcR, SY.dLcRM, SY.rngL, SY.enumL, SY.frozen_tup, SY.frozen_lst, SY.frozen_scr, SY.frozL_lst, SY.frozL_scr, SY.seqOf_tup, SY.seqOf_lst, SY.seqOf_scr, SY.seqOf_ptr, SY.seqOf_int, SY.seqOf_str, SY.lstOf_lst, SY.lstOf_scr, SY.lstOf_ptr, SY.mlst_lst, SY.plst_lst, SY.plst_ptr, SY.isPtrL, SY.tyN, SY.isNon, SY.blsOf, SY.intsOf, SY.dend0, SY.dend, SY.startD, SY.eqOk_int, SY.eqv_int, SY.atI0, SY.atI1, SY.atI2, SY.atI3, SY.atI4, SY.atI5, SY.ixN0, decide_true, decide_false, Int.reduceEq, Int.reduceLT, Int.reduceLE, SY.ixN_21, SY.ixN_31, SY.ixN_32, SY.ixN_41, SY.ixN_42, SY.ixN_43, SY.seqIx0, SY.updT_same, SY.updT_updT, List.map_cons, List.map_nil, List.length_cons, List.length_nil, List.replicate, List.cons_append, List.nil_append, List.getD_cons_zero, List.getD_cons_succ, List.set_cons_zero, List.set_cons_succ, List.getElem?_cons_zero, List.eraseIdx_cons_zero, Option.isSome_some, Option.map_some, Int.reduceToNat, Int.reducePow, Int.reduceAdd, Int.reduceMul, Nat.zero_lt_succ, Nat.reduceLT, Nat.sub_self, Nat.reduceSub, Nat.reduceAdd, Nat.reduceLeDiff, Nat.zero_add, SY.kit_ii, SY.kit_ib, SY.kit_it, SY.kit_bi, SY.kit_bb, SY.kit_tt, SY.kit_ti, SY.kit_tb, SY.kit_nt, SY.kit_ll, SY.kit_lt, Bool.not_true, Bool.not_false, if_true, if_false, reduceIte, Bool.false_eq_true, true_and, and_true, and_self])
        refine ⟨_, int_val fa, by rw [lenS]; omega, _, int_val fb, by rw [lenS]; omega, ?_⟩
        rw [Cz, sp_divisor_eq]
        (try simp -dsimp (maxSteps := 3000000) only [lit_minus, ↓SY.str1_z, SY.str1Z_s, SY.isStrD_s, SY.dStrI, SY.dIntS, SY.dSplit, SY.dSplitF, SY.dM1, SY.dFind, SY.dZfill, SY.dJoin, SY.splitD, SY.splitFD, SY.findD, SY.zfillD, SY.joinD, SY.dInS, SY.dNotInS, SY.inD, SY.notInD, SY.dIxS, SY.ixSD, SY.dSlS, SY.dForS, SY.dMax, SY.dLcS, SY.eqv_S, ↓SY.someOf_z, ↓SY.int1_z, ↓SY.int2_z, ↓SY.bl1_z, ↓SY.optK_z, ↓SY.seqK_z, ↓SY.ixD_z, ↓SY.addD_z, ↓SY.lenD_z, ↓SY.slD_z, ↓SY.setD_z, ↓SY.appD_z, ↓SY.popD_z, ↓SY.dgsK_z, ↓SY.one_z, ↓SY.two_z, ↓SY.intK_z, ↓SY.rng1_z, ↓SY.rng2_z, ↓SY.frzK_z, ↓SY.forL_z, ↓SY.lcL_z, ↓SY.dSeq_z, SY.someZ_s, SY.int1Z_s, SY.int2Z_s, SY.bl1Z_s, SY.optZ_s, SY.addZ_i, SY.addZ_s, SY.addZ_t, SY.addZ_l, SY.addZ_p, SY.lenZ_t, SY.lenZ_l, SY.lenZ_s, SY.lenZ_p, SY.slZ_t, SY.slZ_l, SY.slZ_s, SY.slZ_p, SY.setZ_s, SY.appZ_s, SY.popZ_s, SY.dgsZ_s, SY.nilK_s, SY.oneZ_s, SY.twoZ_s, SY.intZ_i, SY.intZ_b, SY.rng1Z_s, SY.rng2Z_s, SY.frzZ_p, SY.frzZ_l, SY.frzZ_t, SY.forZ_nil, SY.forZ_cons, SY.lcZ_nil, SY.lcZ_cons, SY.goZ_s, ↓SY.sq_nx, ↓SY.sq_rt, ↓SY.sq_bk, ↓SY.sq_ct, ↓SY.sq_ex, ↓SY.lp_nx, ↓SY.lp_ct, ↓SY.lp_bk, ↓SY.lp_rt, ↓SY.lp_ex, SY.dAsg, SY.dRet, SY.dRetN, SY.dNext, SY.dIf, SY.dTst, SY.dC, SY.dVar, SY.dI, SY.dI0, SY.dMul, SY.dDiv, SY.dMod, SY.dPow, SY.dSub, SY.dLt, SY.dLe, SY.dGt, SY.dGe, SY.dNeg, SY.dAdd, SY.dIx, SY.dNil, SY.dCons, SY.dTup, SY.dLst, SY.dLstM, ↓SY.dCall_z, SY.dAbs, SY.dLen, SY.dTuple, SY.dList, SY.dListM, SY.dEq, SY.dNe, SY.dIsN, SY.dNotN, SY.dIsB, SY.dNotB, SY.dFrz, SY.dRaise, SY.dTryAs, SY.dTryOnly, SY.dIsE, SY.dtAnd, SY.dtOr, SY.dtNot, SY.dAnd, SY.dOr, SY.dNot, SY.dIsi, SY.dAll, SY.dSum, SY.dInt, SY.dSl, SY.dNoO, SY.dSomeO, SY.dDrop, SY.dAug, SY.dPar, SY.dAsgG, SY.dgName, SY.dgTup, SY.dgsNil, SY.dgsName, SY.dgSub, SY.dApp, SY.dPopAt, SY.dFor, SY.dForR1, SY.dForR2, SY.dForE, SY.dLc, SY.dLcR, SY.dLcRM, SY.rngL, SY.enumL, SY.frozen_tup, SY.frozen_lst, SY.frozen_scr, SY.frozL_lst, SY.frozL_scr, SY.seqOf_tup, SY.seqOf_lst, SY.seqOf_scr, SY.seqOf_ptr, SY.seqOf_int, SY.seqOf_str, SY.lstOf_lst, SY.lstOf_scr, SY.lstOf_ptr, SY.mlst_lst, SY.plst_lst, SY.plst_ptr, SY.isPtrL, SY.tyN, SY.isNon, SY.blsOf, SY.intsOf, SY.dend0, SY.dend, SY.startD, SY.eqOk_int, SY.eqv_int, SY.atI0, SY.atI1, SY.atI2, SY.atI3, SY.atI4, SY.atI5, SY.ixN0, decide_true, decide_false, Int.reduceEq, Int.reduceLT, Int.reduceLE, SY.ixN_21, SY.ixN_31, SY.ixN_32, SY.ixN_41, SY.ixN_42, SY.ixN_43, SY.seqIx0, SY.updT_same, SY.updT_updT, List.map_cons, List.map_nil, List.length_cons, List.length_nil, List.replicate, List.cons_append, List.nil_append, List.getD_cons_zero, List.getD_cons_succ, List.set_cons_zero, List.set_cons_succ, List.getElem?_cons_zero, List.eraseIdx_cons_zero, Option.isSome_some, Option.map_some, Int.reduceToNat, Int.reducePow, Int.reduceAdd, Int.reduceMul, Nat.zero_lt_succ, Nat.reduceLT, Nat.sub_self, Nat.reduceSub, Nat.reduceAdd, Nat.reduceLeDiff, Nat.zero_add, SY.kit_ii, SY.kit_ib, SY.kit_it, SY.kit_bi, SY.kit_bb, SY.kit_tt, SY.kit_ti, SY.kit_tb, SY.kit_nt, SY.kit_ll, SY.kit_lt, Bool.not_true, Bool.not_false, if_true, if_false, reduceIte, Bool.false_eq_true, true_and, and_true, and_self])
        refine ⟨_, int_val fa, by rw [lenS]; omega, ?_⟩
        (try simp -dsimp (maxSteps := 3000000) only [lit_minus, ↓SY.str1_z, SY.str1Z_s, SY.isStrD_s, SY.dStrI, SY.dIntS, SY.dSplit, SY.dSplitF, SY.dM1, SY.dFind, SY.dZfill, SY.dJoin, SY.splitD, SY.splitFD, SY.findD, SY.zfillD, SY.joinD, SY.dInS, SY.dNotInS, SY.inD, SY.notInD, SY.dIxS, SY.ixSD, SY.dSlS, SY.dForS, SY.dMax, SY.dLcS, SY.eqv_S, ↓SY.someOf_z, ↓SY.int1_z, ↓SY.int2_z, ↓SY.bl1_z, ↓SY.optK_z, ↓SY.seqK_z, ↓SY.ixD_z, ↓SY.addD_z, ↓SY.lenD_z, ↓SY.slD_z, ↓SY.setD_z, ↓SY.appD_z, ↓SY.popD_z, ↓SY.dgsK_z, ↓SY.one_z, ↓SY.two_z, ↓SY.intK_z, ↓SY.rng1_z, ↓SY.rng2_z, ↓SY.frzK_z, ↓SY.forL_z, ↓SY.lcL_z, ↓SY.dSeq_z, SY.someZ_s, SY.int1Z_s, SY.int2Z_s, SY.bl1Z_s, SY.optZ_s, SY.addZ_i, SY.addZ_s, SY.addZ_t, SY.addZ_l, SY.addZ_p, SY.lenZ_t, SY.lenZ_l, SY.lenZ_s, SY.lenZ_p, SY.slZ_t, SY.slZ_l, SY.slZ_s, SY.slZ_p, SY.setZ_s, SY.appZ_s, SY.popZ_s, SY.dgsZ_s, SY.nilK_s, SY.oneZ_s, SY.twoZ_s, SY.intZ_i, SY.intZ_b, SY.rng1Z_s, SY.rng2Z_s, SY.frzZ_p, SY.frzZ_l, SY.frzZ_t, SY.forZ_nil, SY.forZ_cons, SY.lcZ_nil, SY.lcZ_cons, SY.goZ_s, ↓SY.sq_nx, ↓SY.sq_rt, ↓SY.sq_bk, ↓SY.sq_ct, ↓SY.sq_ex, ↓SY.lp_nx, ↓SY.lp_ct, ↓SY.lp_bk, ↓SY.lp_rt, ↓SY.lp_ex, SY.dAsg, SY.dRet, SY.dRetN, SY.dNext, SY.dIf, SY.dTst, SY.dC, SY.dVar, SY.dI, SY.dI0, SY.dMul, SY.dDiv, SY.dMod, SY.dPow, SY.dSub, SY.dLt, SY.dLe, SY.dGt, SY.dGe, SY.dNeg, SY.dAdd, SY.dIx, SY.dNil, SY.dCons, SY.dTup, SY.dLst, SY.dLstM, ↓SY.dCall_z, SY.dAbs, SY.dLen, SY.dTuple, SY.dList, SY.dListM, SY.dEq, SY.dNe, SY.dIsN, SY.dNotN, SY.dIsB, SY.dNotB, SY.dFrz, SY.dRaise, SY.dTryAs, SY.dTryOnly, SY.dIsE, SY.dtAnd, SY.dtOr, SY.dtNot, SY.dAnd, SY.dOr, SY.dNot, SY.dIsi, SY.dAll, SY.dSum, SY.dInt, SY.dSl, SY.dNoO, SY.dSomeO, SY.dDrop, SY.dAug, SY.dPar, SY.dAsgG, SY.dgName, SY.dgTup, SY.dgsNil, SY.dgsName, SY.dgSub, SY.dApp, SY.dPopAt, SY.dFor, SY.dForR1, SY.dForR2, SY.dForE, SY.dLc, SY.dLcR, SY.dLcRM, SY.rngL, SY.enumL, SY.frozen_tup, SY.frozen_lst, SY.frozen_scr, SY.frozL_lst, SY.frozL_scr, SY.seqOf_tup, SY.seqOf_lst, SY.seqOf_scr, SY.seqOf_ptr, SY.seqOf_int, SY.seqOf_str, SY.lstOf_lst, SY.lstOf_scr, SY.lstOf_ptr, SY.mlst_lst, SY.plst_lst, SY.plst_ptr, SY.isPtrL, SY.tyN, SY.isNon, SY.blsOf, SY.intsOf, SY.dend0, SY.dend, SY.startD, SY.eqOk_int, SY.eqv_int, SY.atI0, SY.atI1, SY.atI2, SY.atI3, SY.atI4, SY.atI5, SY.ixN0, decide_true, decide_false, Int.reduceEq, Int.reduceLT, Int.reduceLE, SY.ixN_21, SY.ixN_31, SY.ixN_32, SY.ixN_41, SY.ixN_42, SY.ixN_43, SY.seqIx0, SY.updT_same, SY.updT_updT, List.map_cons, List.map_nil, List.length_cons, List.length_nil, List.replicate, List.cons_append, List.nil_append, List.getD_cons_zero, List.getD_cons_succ, List.set_cons_zero, List.set_cons_succ, List.getElem?_cons_zero, List.eraseIdx_cons_zero, Option.isSome_some, Option.map_some, Int.reduceToNat, Int.reducePow, Int.reduceAdd, Int.reduceMul, Nat.zero_lt_succ, Nat.reduceLT, Nat.sub_self, Nat.reduceSub, Nat.reduceAdd, Nat.reduceLeDiff, Nat.zero_add, SY.kit_ii, SY.kit_ib, SY.kit_it, SY.kit_bi, SY.kit_bb, SY.kit_tt, SY.kit_ti, SY.kit_tb, SY.kit_nt, SY.kit_ll, SY.kit_lt, Bool.not_true, Bool.not_false, if_true, if_false, reduceIte, Bool.false_eq_true, true_and, and_true, and_self])
        refine ⟨dv _, mulOk_l (by rw [hs]; cases neg <;> decide), _, int_val fb, by rw [lenS]; omega, ?_⟩
        (try simp -dsimp (maxSteps := 3000000) only [lit_minus, ↓SY.str1_z, SY.str1Z_s, SY.isStrD_s, SY.dStrI, SY.dIntS, SY.dSplit, SY.dSplitF, SY.dM1, SY.dFind, SY.dZfill, SY.dJoin, SY.splitD, SY.splitFD, SY.findD, SY.zfillD, SY.joinD, SY.dInS, SY.dNotInS, SY.inD, SY.notInD, SY.dIxS, SY.ixSD, SY.dSlS, SY.dForS, SY.dMax, SY.dLcS, SY.eqv_S, ↓SY.someOf_z, ↓SY.int1_z, ↓SY.int2_z, ↓SY.bl1_z, ↓SY.optK_z, ↓SY.seqK_z, ↓SY.ixD_z, ↓SY.addD_z, ↓SY.lenD_z, ↓SY.slD_z, ↓SY.setD_z, ↓SY.appD_z, ↓SY.popD_z, ↓SY.dgsK_z, ↓SY.one_z, ↓SY.two_z, ↓SY.intK_z, ↓SY.rng1_z, ↓SY.rng2_z, ↓SY.frzK_z, ↓SY.forL_z, ↓SY.lcL_z, ↓SY.dSeq_z, SY.someZ_s, SY.int1Z_s, SY.int2Z_s, SY.bl1Z_s, SY.optZ_s, SY.addZ_i, SY.addZ_s, SY.addZ_t, SY.addZ_l, SY.addZ_p, SY.lenZ_t, SY.lenZ_l, SY.lenZ_s, SY.lenZ_p, SY.slZ_t, SY.slZ_l, SY.slZ_s, SY.slZ_p, SY.setZ_s, SY.appZ_s, SY.popZ_s, SY.dgsZ_s, SY.nilK_s, SY.oneZ_s, SY.twoZ_s, SY.intZ_i, SY.intZ_b, SY.rng1Z_s, SY.rng2Z_s, SY.frzZ_p, SY.frzZ_l, SY.frzZ_t, SY.forZ_nil, SY.forZ_cons, SY.lcZ_nil, SY.lcZ_cons, SY.goZ_s, ↓SY.sq_nx, ↓SY.sq_rt, ↓SY.sq_bk, ↓SY.sq_ct, ↓SY.sq_ex, ↓SY.lp_nx, ↓SY.lp_ct, ↓SY.lp_bk, ↓SY.lp_rt, ↓SY.lp_ex, SY.dAsg, SY.dRet, SY.dRetN, SY.dNext, SY.dIf, SY.dTst, SY.dC, SY.dVar, SY.dI, SY.dI0, SY.dMul, SY.dDiv, SY.dMod, SY.dPow, SY.dSub, SY.dLt, SY.dLe, SY.dGt, SY.dGe, SY.dNeg, SY.dAdd, SY.dIx, SY.dNil, SY.dCons, SY.dTup, SY.dLst, SY.dLstM, ↓SY.dCall_z, SY.dAbs, SY.dLen, SY.dTuple, SY.dList, SY.dListM, SY.dEq, SY.dNe, SY.dIsN, SY.dNotN, SY.dIsB, SY.dNotB, SY.dFrz, SY.dRaise, SY.dTryAs, SY.dTryOnly, SY.dIsE, SY.dtAnd, SY.dtOr, SY.dtNot, SY.dAnd, SY.dOr, SY.dNot, SY.dIsi, SY.dAll, SY.dSum, SY.dInt, SY.dSl, SY.dNoO, SY.dSomeO, SY.dDrop, SY.dAug, SY.dPar, SY.dAsgG, SY.dgName, SY.dgTup, SY.dgsNil, SY.dgsName, SY.dgSub, SY.dApp, SY.dPopAt, SY.dFor, SY.dForR1, SY.dForR2, SY.dForE, SY.dLc, SY.dLcR, SY.dLcRM, SY.rngL, SY.enumL, SY.frozen_tup, SY.frozen_lst, SY.frozen_scr, SY.frozL_lst, SY.frozL_scr, SY.seqOf_tup, SY.seqOf_lst, SY.seqOf_scr, SY.seqOf_ptr, SY.seqOf_int, SY.seqOf_str, SY.lstOf_lst, SY.lstOf_scr, SY.lstOf_ptr, SY.mlst_lst, SY.plst_lst, SY.plst_ptr, SY.isPtrL, SY.tyN, SY.isNon, SY.blsOf, SY.intsOf, SY.dend0, SY.dend, SY.startD, SY.eqOk_int, SY.eqv_int, SY.atI0, SY.atI1, SY.atI2, SY.atI3, SY.atI4, SY.atI5, SY.ixN0, decide_true, decide_false, Int.reduceEq, Int.reduceLT, Int.reduceLE, SY.ixN_21, SY.ixN_31, SY.ixN_32, SY.ixN_41, SY.ixN_42, SY.ixN_43, SY.seqIx0, SY.updT_same, SY.updT_updT, List.map_cons, List.map_nil, List.length_cons, List.length_nil, List.replicate, List.cons_append, List.nil_append, List.getD_cons_zero, List.getD_cons_succ, List.set_cons_zero, List.set_cons_succ, List.getElem?_cons_zero, List.eraseIdx_cons_zero, Option.isSome_some, Option.map_some, Int.reduceToNat, Int.reducePow, Int.reduceAdd, Int.reduceMul, Nat.zero_lt_succ, Nat.reduceLT, Nat.sub_self, Nat.reduceSub, Nat.reduceAdd, Nat.reduceLeDiff, Nat.zero_add, SY.kit_ii, SY.kit_ib, SY.kit_it, SY.kit_bi, SY.kit_bb, SY.kit_tt, SY.kit_ti, SY.kit_tb, SY.kit_nt, SY.kit_ll, SY.kit_lt, Bool.not_true, Bool.not_false, if_true, if_false, reduceIte, Bool.false_eq_true, true_and, and_true, and_self])
        refine ⟨dv _, ?_⟩
        exact h
theorem nof_mid {w : List Nat} {s : Int} {neg : Bool} (hs : s = if neg = true then -1 else 1) (hw : w.length ≤ 5000) (h : P (dueD (rdP neg (parts w))) T) : d_l_number_of_t2 (dend0 P X) [some (.str (S w)), some (.int s), none, none, none] T := by
  unfold d_l_number_of_t2
  generalize ht : d_l_number_of_t5 = t5
  (try simp -dsimp (maxSteps := 3000000) only [lit_one, lit_stroke, ↓SY.str1_z, SY.str1Z_s, SY.isStrD_s, SY.dStrI, SY.dIntS, SY.dSplit, SY.dSplitF, SY.dM1, SY.dFind, SY.dZfill, SY.dJoin, SY.splitD, SY.splitFD, SY.findD, SY.zfillD, SY.joinD, SY.dInS, SY.dNotInS, SY.inD, SY.notInD, SY.dIxS, SY.ixSD, SY.dSlS, SY.dForS, SY.dMax, SY.dLcS, SY.eqv_S, ↓SY.someOf_z, ↓SY.int1_z, ↓SY.int2_z, ↓SY.bl1_z, ↓SY.optK_z, ↓SY.seqK_z, ↓SY.ixD_z, ↓SY.addD_z, ↓SY.lenD_z, ↓SY.slD_z, ↓SY.setD_z, ↓SY.appD_z, ↓SY.popD_z, ↓SY.dgsK_z, ↓SY.one_z, ↓SY.two_z, ↓SY.intK_z, ↓SY.rng1_z, ↓SY.rng2_z, ↓SY.frzK_z, ↓SY.forL_z, ↓SY.lcL_z, ↓SY.dSeq_z, SY.someZ_s, SY.int1Z_s, SY.int2Z_s, SY.bl1Z_s, SY.optZ_s, SY.addZ_i, SY.addZ_s, SY.addZ_t, SY.addZ_l, SY.addZ_p, SY.lenZ_t, SY.lenZ_l, SY.lenZ_s, SY.lenZ_p, SY.slZ_t, SY.slZ_l, SY.slZ_s, SY.slZ_p, SY.setZ_s, SY.appZ_s, SY.popZ_s, SY.dgsZ_s, SY.nilK_s, SY.oneZ_s, SY.twoZ_s, SY.intZ_i, SY.intZ_b, SY.rng1Z_s, SY.rng2Z_s, SY.frzZ_p, SY.frzZ_l, SY.frzZ_t, SY.forZ_nil, SY.forZ_cons, SY.lcZ_nil, SY.lcZ_cons, SY.goZ_s, ↓SY.sq_nx, ↓SY.sq_rt, ↓SY.sq_bk, ↓SY.sq_ct, ↓SY.sq_ex, ↓SY.lp_nx, ↓SY.lp_ct, ↓SY.lp_bk, ↓SY.lp_rt, ↓SY.lp_ex, SY.dAsg, SY.dRet, SY.dRetN, SY.dNext, SY.dIf, SY.dTst, SY.dC, SY.dVar, SY.dI, SY.dI0, SY.dMul, SY.dDiv, SY.dMod, SY.dPow, SY.dSub, SY.dLt, SY.dLe, SY.dGt, SY.dGe, SY.dNeg, SY.dAdd, SY.dIx, SY.dNil, SY.dCons, SY.dTup, SY.dLst, SY.dLstM, ↓SY.dCall_z, SY.dAbs, SY.dLen, SY.dTuple, SY.dList, SY.dListM, SY.dEq, SY.dNe, SY.dIsN, SY.dNotN, SY.dIsB, SY.dNotB, SY.dFrz, SY.dRaise, SY.dTryAs, SY.dTryOnly, SY.dIsE, SY.dtAnd, SY.dtOr, SY.dtNot, SY.dAnd, SY.dOr, SY.dNot, SY.dIsi, SY.dAll, SY.dSum, SY.dInt, SY.dSl, SY.dNoO, SY.dSomeO, SY.dDrop, SY.dAug, SY.dPar, SY.dAsgG, SY.dgName, SY.dgTup, SY.dgsNil, SY.dgsName, SY.dgSub, SY.dApp, SY.dPopAt, SY.dFor, SY.dForR1, SY.dForR2, SY.dForE, SY.dLc, SY.dLcR, SY.dLcRM, SY.rngL, SY.enumL, SY.frozen_tup, SY.frozen_lst, SY.frozen_scr, SY.frozL_lst, SY.frozL_scr, SY.seqOf_tup, SY.seqOf_lst, SY.seqOf_scr, SY.seqOf_ptr, SY.seqOf_int, SY.seqOf_str, SY.lstOf_lst, SY.lstOf_scr, SY.lstOf_ptr, SY.mlst_lst, SY.plst_lst, SY.plst_ptr, SY.isPtrL, SY.tyN, SY.isNon, SY.blsOf, SY.intsOf, SY.dend0, SY.dend, SY.startD, SY.eqOk_int, SY.eqv_int, SY.atI0, SY.atI1, SY.atI2, SY.atI3, SY.atI4, SY.atI5, SY.ixN0, decide_true, decide_false, Int.reduceEq, Int.reduceLT, Int.reduceLE, SY.ixN_21, SY.ixN_31, SY.ixN_32, SY.ixN_41, SY.ixN_42, SY.ixN_43, SY.seqIx0, SY.updT_same, SY.updT_updT, List.map_cons, List.map_nil, List.length_cons, List.length_nil, List.replicate, List.cons_append, List.nil_append, List.getD_cons_zero, List.getD_cons_succ, List.set_cons_zero, List.set_cons_succ, List.getElem?_cons_zero, List.eraseIdx_cons_zero, Option.isSome_some, Option.map_some, Int.reduceToNat, Int.reducePow, Int.reduceAdd, Int.reduceMul, Nat.zero_lt_succ, Nat.reduceLT, Nat.sub_self, Nat.reduceSub, Nat.reduceAdd, Nat.reduceLeDiff, Nat.zero_add, SY.kit_ii, SY.kit_ib, SY.kit_it, SY.kit_bi, SY.kit_bb, SY.kit_tt, SY.kit_ti, SY.kit_tb, SY.kit_nt, SY.kit_ll, SY.kit_lt, Bool.not_true, Bool.not_false, if_true, if_false, reduceIte, Bool.false_eq_true, true_and, and_true, and_self])
  rcases find_stroke w with ⟨e, hn⟩ | ⟨a, b, e, ha, ef⟩
  · rw [e, decide_eq_false (by decide)]
    rw [rdP_one hn] at h
    subst ht
    exact nof_end (l := w) hs hw (by decide) h
  · rw [ef, decide_eq_true (show (0 : Int) ≤ (a.length : Int) by omega)]
    rw [e, rdP_find ha] at h
    have lw : w.length = a.length + (b.length + 1) := by rw [e]; simp
    (try simp -dsimp (maxSteps := 3000000) only [lenS, ↓SY.str1_z, SY.str1Z_s, SY.isStrD_s, SY.dStrI, SY.dIntS, SY.dSplit, SY.dSplitF, SY.dM1, SY.dFind, SY.dZfill, SY.dJoin, SY.splitD, SY.splitFD, SY.findD, SY.zfillD, SY.joinD, SY.dInS, SY.dNotInS, SY.inD, SY.notInD, SY.dIxS, SY.ixSD, SY.dSlS, SY.dForS, SY.dMax, SY.dLcS, SY.eqv_S, ↓SY.someOf_z, ↓SY.int1_z, ↓SY.int2_z, ↓SY.bl1_z, ↓SY.optK_z, ↓SY.seqK_z, ↓SY.ixD_z, ↓SY.addD_z, ↓SY.lenD_z, ↓SY.slD_z, ↓SY.setD_z, ↓SY.appD_z, ↓SY.popD_z, ↓SY.dgsK_z, ↓SY.one_z, ↓SY.two_z, ↓SY.intK_z, ↓SY.rng1_z, ↓SY.rng2_z, ↓SY.frzK_z, ↓SY.forL_z, ↓SY.lcL_z, ↓SY.dSeq_z, SY.someZ_s, SY.int1Z_s, SY.int2Z_s, SY.bl1Z_s, SY.optZ_s, SY.addZ_i, SY.addZ_s, SY.addZ_t, SY.addZ_l, SY.addZ_p, SY.lenZ_t, SY.lenZ_l, SY.lenZ_s, SY.lenZ_p, SY.slZ_t, SY.slZ_l, SY.slZ_s, SY.slZ_p, SY.setZ_s, SY.appZ_s, SY.popZ_s, SY.dgsZ_s, SY.nilK_s, SY.oneZ_s, SY.twoZ_s, SY.intZ_i, SY.intZ_b, SY.rng1Z_s, SY.rng2Z_s, SY.frzZ_p, SY.frzZ_l, SY.frzZ_t, SY.forZ_nil, SY.forZ_cons, SY.lcZ_nil, SY.lcZ_cons, SY.goZ_s, ↓SY.sq_nx, ↓SY.sq_rt, ↓SY.sq_bk, ↓SY.sq_ct, ↓SY.sq_ex, ↓SY.lp_nx, ↓SY.lp_ct, ↓SY.lp_bk, ↓SY.lp_rt, ↓SY.lp_ex, SY.dAsg, SY.dRet, SY.dRetN, SY.dNext, SY.dIf, SY.dTst, SY.dC, SY.dVar, SY.dI, SY.dI0, SY.dMul, SY.dDiv, SY.dMod, SY.dPow, SY.dSub, SY.dLt, SY.dLe, SY.dGt, SY.dGe, SY.dNeg, SY.dAdd, SY.dIx, SY.dNil, SY.dCons, SY.dTup, SY.dLst, SY.dLstM, ↓SY.dCall_z, SY.dAbs, SY.dLen, SY.dTuple, SY.dList, SY.dListM, SY.dEq, SY.dNe, SY.dIsN, SY.dNotN, SY.dIsB, SY.dNotB, SY.dFrz, SY.dRaise, SY.dTryAs, SY.dTryOnly, SY.dIsE, SY.dtAnd, SY.dtOr, SY.dtNot, SY.dAnd, SY.dOr, SY.dNot, SY.dIsi, SY.dAll, SY.dSum, SY.dInt, SY.dSl, SY.dNoO, SY.dSomeO, SY.dDrop, SY.dAug, SY.dPar, SY.dAsgG, SY.dgName, SY.dgTup, SY.dgsNil, SY.dgsName, SY.dgSub, SY.dApp, SY.dPopAt, SY.dFor, SY.dForR1, SY.dForR2, SY.dForE, SY.dLc, SY.dLcR, SY.dLcRM, SY.rngL, SY.enumL, SY.frozen_tup, SY.frozen_lst, SY.frozen_scr, SY.frozL_lst, SY.frozL_scr, SY.seqOf_tup, SY.seqOf_lst, SY.seqOf_scr, SY.seqOf_ptr, SY.seqOf_int, SY.seqOf_str, SY.lstOf_lst, SY.lstOf_scr, SY.lstOf_ptr, SY.mlst_lst, SY.plst_lst, SY.plst_ptr, SY.isPtrL, SY.tyN, SY.isNon, SY.blsOf, SY.intsOf, SY.dend0, SY.dend, SY.startD, SY.eqOk_int, SY.eqv_int, SY.atI0, SY.atI1, SY.atI2, SY.atI3, SY.atI4, SY.atI5, SY.ixN0, decide_true, decide_false, Int.reduceEq, Int.reduceLT, Int.reduceLE, SY.ixN_21, SY.ixN_31, SY.ixN_32, SY.ixN_41, SY.ixN_42, SY.ixN_43, SY.seqIx0, SY.updT_same, SY.updT_updT, List.map_cons, List.map_nil, List.length_cons, List.length_nil, List.replicate, List.cons_append, List.nil_append, List.getD_cons_zero, List.getD_cons_succ, List.set_cons_zero, List.set_cons_succ, List.getElem?_cons_zero, List.eraseIdx_cons_zero, Option.isSome_some, Option.map_some, Int.reduceToNat, Int.reducePow, Int.reduceAdd, Int.reduceMul, Nat.zero_lt_succ, Nat.reduceLT, Nat.sub_self, Nat.reduceSub, Nat.reduceAdd, Nat.reduceLeDiff, Nat.zero_add, SY.kit_ii, SY.kit_ib, SY.kit_it, SY.kit_bi, SY.kit_bb, SY.kit_tt, SY.kit_ti, SY.kit_tb, SY.kit_nt, SY.kit_ll, SY.kit_lt, Bool.not_true, Bool.not_false, if_true, if_false, reduceIte, Bool.false_eq_true, true_and, and_true, and_self])
    refine ⟨by omega, by omega, ?_⟩
    have e1 : cutS (S w) (some ((a.length : Int) + 1)) none = S b := by
      rw [show ((a.length : Int) + 1) = ((a.length + 1 : Nat) : Int) by omega, cut_from, e]
      congr 1
      rw [show a ++ 47 :: b = (a ++ [47]) ++ b by simp, List.drop_left' (by simp)]
    have e2 : cutS (S w) none (some (a.length : Int)) = S a := by
      rw [cut_to, e, List.take_left' rfl]
    rw [e1, e2]
    subst ht
    exact nof_end (l := w) hs (by omega) (by omega) h
theorem pure_l_number_of {N : List Str} (hN : N.length = 5) : ∀ us T P X, sp_l_number_of us T P X → d_l_number_of (dend0 P X) (startD N us) T := by
  intro us T P X h
  obtain ⟨a, rfl, h1⟩ := sp1.of (lock_of h)
  have e0 : startD N [a] = [some a, none, none, none, none] := by unfold startD; rw [hN]; rfl
  rw [e0]; clear e0; unfold d_l_number_of
  obtain ⟨l, rfl, hl, as, h2⟩ := h1
  have q1 := eqOk_S (as.take 1)
  generalize ht : d_l_number_of_t2 = t2
  (try simp -dsimp (maxSteps := 3000000) only [lit_minus, lenS, cut_to1, q1, eqOk_minus, ↓SY.str1_z, SY.str1Z_s, SY.isStrD_s, SY.dStrI, SY.dIntS, SY.dSplit, SY.dSplitF, SY.dM1, SY.dFind, SY.dZfill, SY.dJoin, SY.splitD, SY.splitFD, SY.findD, SY.zfillD, SY.joinD, SY.dInS, SY.dNotInS, SY.inD, SY.notInD, SY.dIxS, SY.ixSD, SY.dSlS, SY.dForS, SY.dMax, SY.dLcS, SY.eqv_S, ↓SY.someOf_z, ↓SY.int1_z, ↓SY.int2_z, ↓SY.bl1_z, ↓SY.optK_z, ↓SY.seqK_z, ↓SY.ixD_z, ↓SY.addD_z, ↓SY.lenD_z, ↓SY.slD_z, ↓SY.setD_z, ↓SY.appD_z, ↓SY.popD_z, ↓SY.dgsK_z, ↓SY.one_z, ↓SY.two_z, ↓SY.intK_z, ↓SY.rng1_z, ↓SY.rng2_z, ↓SY.frzK_z, ↓SY.forL_z, ↓SY.lcL_z, ↓SY.dSeq_z, SY.someZ_s, SY.int1Z_s, SY.int2Z_s, SY.bl1Z_s, SY.optZ_s, SY.addZ_i, SY.addZ_s, SY.addZ_t, SY.addZ_l, SY.addZ_p, SY.lenZ_t, SY.lenZ_l, SY.lenZ_s, SY.lenZ_p, SY.slZ_t, SY.slZ_l, SY.slZ_s, SY.slZ_p, SY.setZ_s, SY.appZ_s, SY.popZ_s, SY.dgsZ_s, SY.nilK_s, SY.oneZ_s, SY.twoZ_s, SY.intZ_i, SY.intZ_b, SY.rng1Z_s, SY.rng2Z_s, SY.frzZ_p, SY.frzZ_l, SY.frzZ_t, SY.forZ_nil, SY.forZ_cons, SY.lcZ_nil, SY.lcZ_cons, SY.goZ_s, ↓SY.sq_nx, ↓SY.sq_rt, ↓SY.sq_bk, ↓SY.sq_ct, ↓SY.sq_ex, ↓SY.lp_nx, ↓SY.lp_ct, ↓SY.lp_bk, ↓SY.lp_rt, ↓SY.lp_ex, SY.dAsg, SY.dRet, SY.dRetN, SY.dNext, SY.dIf, SY.dTst, SY.dC, SY.dVar, SY.dI, SY.dI0, SY.dMul, SY.dDiv, SY.dMod, SY.dPow, SY.dSub, SY.dLt, SY.dLe, SY.dGt, SY.dGe, SY.dNeg, SY.dAdd, SY.dIx, SY.dNil, SY.dCons, SY.dTup, SY.dLst, SY.dLstM, ↓SY.dCall_z, SY.dAbs, SY.dLen, SY.dTuple, SY.dList, SY.dListM, SY.dEq, SY.dNe, SY.dIsN, SY.dNotN, SY.dIsB, SY.dNotB, SY.dFrz, SY.dRaise, SY.dTryAs, SY.dTryOnly, SY.dIsE, SY.dtAnd, SY.dtOr, SY.dtNot, SY.dAnd, SY.dOr, SY.dNot, SY.dIsi, SY.dAll, SY.dSum, SY.dInt, SY.dSl, SY.dNoO, SY.dSomeO, SY.dDrop, SY.dAug, SY.dPar, SY.dAsgG, SY.dgName, SY.dgTup, SY.dgsNil, SY.dgsName, SY.dgSub, SY.dApp, SY.dPopAt, SY.dFor, SY.dForR1, SY.dForR2, SY.dForE, SY.dLc, SY.dLcR, SY.dLcRM, SY.rngL, SY.enumL, SY.frozen_tup, SY.frozen_lst, SY.frozen_scr, SY.frozL_lst, SY.frozL_scr, SY.seqOf_tup, SY.seqOf_lst, SY.seqOf_scr, SY.seqOf_ptr, SY.seqOf_int, SY.seqOf_str, SY.lstOf_lst, SY.lstOf_scr, SY.lstOf_ptr, SY.mlst_lst, SY.plst_lst, SY.plst_ptr, SY.isPtrL, SY.tyN, SY.isNon, SY.blsOf, SY.intsOf, SY.dend0, SY.dend, SY.startD, SY.eqOk_int, SY.eqv_int, SY.atI0, SY.atI1, SY.atI2, SY.atI3, SY.atI4, SY.atI5, SY.ixN0, decide_true, decide_false, Int.reduceEq, Int.reduceLT, Int.reduceLE, SY.ixN_21, SY.ixN_31, SY.ixN_32, SY.ixN_41, SY.ixN_42, SY.ixN_43, SY.seqIx0, SY.updT_same, SY.updT_updT, List.map_cons, List.map_nil, List.length_cons, List.length_nil, List.replicate, List.cons_append, List.nil_append, List.getD_cons_zero, List.getD_cons_succ, List.set_cons_zero, List.set_cons_succ, List.getElem?_cons_zero, List.eraseIdx_cons_zero, Option.isSome_some, Option.map_some, Int.reduceToNat, Int.reducePow, Int.reduceAdd, Int.reduceMul, Nat.zero_lt_succ, Nat.reduceLT, Nat.sub_self, Nat.reduceSub, Nat.reduceAdd, Nat.reduceLeDiff, Nat.zero_add, SY.kit_ii, SY.kit_ib, SY.kit_it, SY.kit_bi, SY.kit_bb, SY.kit_tt, SY.kit_ti, SY.kit_tb, SY.kit_nt, SY.kit_ll, SY.kit_lt, Bool.not_true, Bool.not_false, if_true, if_false, reduceIte, Bool.false_eq_true, true_and, and_true, and_self])
  refine ⟨by omega, ?_⟩
  unfold rdN at h2
  have e : isNeg l = decide (l.take 1 = [45]) := by
    unfold isNeg
    cases hq : decide (l.take 1 = [45])
    · exact beq_eq_false_iff_ne.mpr (of_decide_eq_false hq)
    · rw [of_decide_eq_true hq]; rfl
  cases hq : decide (l.take 1 = [45])
  · rw [hq] at e
    rw [if_neg (by rw [e]; decide)] at h2
    walk_at "dz"
    subst ht
    exact nof_mid (neg := isNeg l) (by rw [e]; rfl) hl h2
  · rw [hq] at e
    rw [if_pos e] at h2
    (try simp -dsimp (maxSteps := 3000000) only [lit_minus, lenS, cut_from1, ↓SY.str1_z, SY.str1Z_s, SY.isStrD_s, SY.dStrI, SY.dIntS, SY.dSplit, SY.dSplitF, SY.dM1, SY.dFind, SY.dZfill, SY.dJoin, SY.splitD, SY.splitFD, SY.findD, SY.zfillD, SY.joinD, SY.dInS, SY.dNotInS, SY.inD, SY.notInD, SY.dIxS, SY.ixSD, SY.dSlS, SY.dForS, SY.dMax, SY.dLcS, SY.eqv_S, ↓SY.someOf_z, ↓SY.int1_z, ↓SY.int2_z, ↓SY.bl1_z, ↓SY.optK_z, ↓SY.seqK_z, ↓SY.ixD_z, ↓SY.addD_z, ↓SY.lenD_z, ↓SY.slD_z, ↓SY.setD_z, ↓SY.appD_z, ↓SY.popD_z, ↓SY.dgsK_z, ↓SY.one_z, ↓SY.two_z, ↓SY.intK_z, ↓SY.rng1_z, ↓SY.rng2_z, ↓SY.frzK_z, ↓SY.forL_z, ↓SY.lcL_z, ↓SY.dSeq_z, SY.someZ_s, SY.int1Z_s, SY.int2Z_s, SY.bl1Z_s, SY.optZ_s, SY.addZ_i, SY.addZ_s, SY.addZ_t, SY.addZ_l, SY.addZ_p, SY.lenZ_t, SY.lenZ_l, SY.lenZ_s, SY.lenZ_p, SY.slZ_t, SY.slZ_l, SY.slZ_s, SY.slZ_p, SY.setZ_s, SY.appZ_s, SY.popZ_s, SY.dgsZ_s, SY.nilK_s, SY.oneZ_s, SY.twoZ_s, SY.intZ_i, SY.intZ_b, SY.rng1Z_s, SY.rng2Z_s, SY.frzZ_p, SY.frzZ_l, SY.frzZ_t, SY.forZ_nil, SY.forZ_cons, SY.lcZ_nil, SY.lcZ_cons, SY.goZ_s, ↓SY.sq_nx, ↓SY.sq_rt, ↓SY.sq_bk, ↓SY.sq_ct, ↓SY.sq_ex, ↓SY.lp_nx, ↓SY.lp_ct, ↓SY.lp_bk, ↓SY.lp_rt, ↓SY.lp_ex, SY.dAsg, SY.dRet, SY.dRetN, SY.dNext, SY.dIf, SY.dTst, SY.dC, SY.dVar, SY.dI, SY.dI0, SY.dMul, SY.dDiv, SY.dMod, SY.dPow, SY.dSub, SY.dLt, SY.dLe, SY.dGt, SY.dGe, SY.dNeg, SY.dAdd, SY.dIx, SY.dNil, SY.dCons, SY.dTup, SY.dLst, SY.dLstM, ↓SY.dCall_z, SY.dAbs, SY.dLen, SY.dTuple, SY.dList, SY.dListM, SY.dEq, SY.dNe, SY.dIsN, SY.dNotN, SY.dIsB, SY.dNotB, SY.dFrz, SY.dRaise, SY.dTryAs, SY.dTryOnly, SY.dIsE, SY.dtAnd, SY.dtOr, SY.dtNot, SY.dAnd, SY.dOr, SY.dNot, SY.dIsi, SY.dAll, SY.dSum, SY.dInt, SY.dSl, SY.dNoO, SY.dSomeO, SY.dDrop, SY.dAug, SY.dPar, SY.dAsgG, SY.dgName, SY.dgTup, SY.dgsNil, SY.dgsName, SY.dgSub, SY.dApp, SY.dPopAt, SY.dFor, SY.dForR1, SY.dForR2, SY.dForE, SY.dLc, SY.dLcR, SY.dLcRM, SY.rngL, SY.enumL, SY.frozen_tup, SY.frozen_lst, SY.frozen_scr, SY.frozL_lst, SY.frozL_scr, SY.seqOf_tup, SY.seqOf_lst, SY.seqOf_scr, SY.seqOf_ptr, SY.seqOf_int, SY.seqOf_str, SY.lstOf_lst, SY.lstOf_scr, SY.lstOf_ptr, SY.mlst_lst, SY.plst_lst, SY.plst_ptr, SY.isPtrL, SY.tyN, SY.isNon, SY.blsOf, SY.intsOf, SY.dend0, SY.dend, SY.startD, SY.eqOk_int, SY.eqv_int, SY.atI0, SY.atI1, SY.atI2, SY.atI3, SY.atI4, SY.atI5, SY.ixN0, decide_true, decide_false, Int.reduceEq, Int.reduceLT, Int.reduceLE, SY.ixN_21, SY.ixN_31, SY.ixN_32, SY.ixN_41, SY.ixN_42, SY.ixN_43, SY.seqIx0, SY.updT_same, SY.updT_updT, List.map_cons, List.map_nil, List.length_cons, List.length_nil, List.replicate, List.cons_append, List.nil_append, List.getD_cons_zero, List.getD_cons_succ, List.set_cons_zero, List.set_cons_succ, List.getElem?_cons_zero, List.eraseIdx_cons_zero, Option.isSome_some, Option.map_some, Int.reduceToNat, Int.reducePow, Int.reduceAdd, Int.reduceMul, Nat.zero_lt_succ, Nat.reduceLT, Nat.sub_self, Nat.reduceSub, Nat.reduceAdd, Nat.reduceLeDiff, Nat.zero_add, SY.kit_ii, SY.kit_ib, SY.kit_it, SY.kit_bi, SY.kit_bb, SY.kit_tt, SY.kit_ti, SY.kit_tb, SY.kit_nt, SY.kit_ll, SY.kit_lt, Bool.not_true, Bool.not_false, if_true, if_false, reduceIte, Bool.false_eq_true, true_and, and_true, and_self])
    refine ⟨by omega, ?_⟩
    subst ht
    exact nof_mid (neg := isNeg l) (by rw [e]; rfl) (by rw [List.length_drop]; omega) h2
theorem sp_l_number_of_mk {l : List Nat} (hl : l.length ≤ 5000) (as : Asc l) (h : P (dueD (rdN l)) T) : sp_l_number_of [.str (S l)] T P X := lock_at ⟨l, rfl, hl, as, h⟩
/-- any sign -/
noncomputable def sp_l_sign_at : DSp := lock <| sp1 fun a T P _ => ∃ r, a = .ptr r ∧ T r = some .row ∧ ∀ c : Nat, c < 1114112 → P (.str (S [c])) T
def d_l_sign_at : DS := (dSeq (dAsg (dC (.str (PySem.Str.ofString " ,|/-0123456789none"))) 1) (dSeq (dIf (dTst (dEq (dCall sp_l_take (dCons (dVar 0) (dCons (dC (.int 2)) dNil))) (dC (.int 0)))) (dRet (dIxS (dVar 1) (dCall sp_l_take (dCons (dVar 0) (dCons (dLen (dVar 1)) dNil))))) dNext) (dSeq (dAsg (dC (.str (PySem.Str.ofString " !\"#$&'()*+,-./0123456789:;<=>?@ABCDEFGHIJKLMNOPQRSTUVWXYZ[\\]^_`abcdefghijklmnopqrstuvwxyz{|}~"))) 2) (dRet (dIxS (dVar 2) (dCall sp_l_take (dCons (dVar 0) (dCons (dLen (dVar 2)) dNil))))))))
theorem pick_sign {l : List Nat} {j : Int} {C : Nat → Prop} (h0 : 0 ≤ j) (h1 : j < (l.length : Int)) (as : Asc l) (h : ∀ c, c < 1114112 → C c) : optK (atI l j) C := by
  obtain ⟨i, rfl⟩ := Int.eq_ofNat_of_zero_le h0
  have hi : i < l.length := by omega
  rw [atI_nat (List.getElem?_eq_getElem hi)]
  exact h _ (as _ (List.getElem_mem hi))
theorem lit_some : Str.ofString " ,|/-0123456789none" = S [32, 44, 124, 47, 45, 48, 49, 50, 51, 52, 53, 54, 55, 56, 57, 110, 111, 110, 101] := rfl
def mostL : List Nat := [32, 33, 34, 35, 36, 38, 39, 40, 41, 42, 43, 44, 45, 46, 47, 48, 49, 50, 51, 52, 53, 54, 55, 56, 57, 58, 59, 60, 61, 62, 63, 64, 65, 66, 67, 68, 69, 70, 71, 72, 73, 74, 75, 76, 77, 78, 79, 80, 81, 82, 83, 84, 85, 86, 87, 88, 89, 90, 91, 92, 93, 94, 95, 96, 97, 98, 99, 100, 101, 102, 103, 104, 105, 106, 107, 108, 109, 110, 111, 112, 113, 114, 115, 116, 117, 118, 119, 120, 121, 122, 123, 124, 125, 126]
theorem lit_most : Str.ofString " !\"#$&'()*+,-./0123456789:;<=>?@ABCDEFGHIJKLMNOPQRSTUVWXYZ[\\]^_`abcdefghijklmnopqrstuvwxyz{|}~" = S mostL := rfl
theorem someLen : ((S [32, 44, 124, 47, 45, 48, 49, 50, 51, 52, 53, 54, 55, 56, 57, 110, 111, 110, 101]).length : Int) = 19 := rfl
theorem mostLen : ((S mostL).length : Int) = 94 := rfl
theorem pure_l_sign_at {N : List Str} (hN : N.length = 3) : ∀ us T P X, sp_l_sign_at us T P X → d_l_sign_at (dend0 P X) (startD N us) T := by
  intro us T P X h
  obtain ⟨a, rfl, h1⟩ := sp1.of (lock_of h)
  have e0 : startD N [a] = [some a, none, none] := by unfold startD; rw [hN]; rfl
  rw [e0]; clear e0; unfold d_l_sign_at
  obtain ⟨r, rfl, hr, h2⟩ := h1
  rw [lit_some, lit_most]
  generalize hs : S [32, 44, 124, 47, 45, 48, 49, 50, 51, 52, 53, 54, 55, 56, 57, 110, 111, 110, 101] = s
  generalize hm : S mostL = m
  have es : ((s.length : Nat) : Int) = 19 := by rw [← hs]; rfl
  have em : ((m.length : Nat) : Int) = 94 := by rw [← hm]; rfl
  have zs : s.length ≤ sizeLine := Nat.le_trans (show s.length ≤ 100 by omega) (by decide)
  have zm : m.length ≤ sizeLine := Nat.le_trans (show m.length ≤ 100 by omega) (by decide)
  walk_at "dz"
  refine sp_take_mk hr (by decide) (Bd.lit (by decide)) fun k k0 k1 => ?_
  walk_at "dz"
  cases hk : decide (k = 0)
  · (try simp -dsimp (maxSteps := 3000000) only [em, ↓SY.str1_z, SY.str1Z_s, SY.isStrD_s, SY.dStrI, SY.dIntS, SY.dSplit, SY.dSplitF, SY.dM1, SY.dFind, SY.dZfill, SY.dJoin, SY.splitD, SY.splitFD, SY.findD, SY.zfillD, SY.joinD, SY.dInS, SY.dNotInS, SY.inD, SY.notInD, SY.dIxS, SY.ixSD, SY.dSlS, SY.dForS, SY.dMax, SY.dLcS, SY.eqv_S, ↓SY.someOf_z, ↓SY.int1_z, ↓SY.int2_z, ↓SY.bl1_z, ↓SY.optK_z, ↓SY.seqK_z, ↓SY.ixD_z, ↓SY.addD_z, ↓SY.lenD_z, ↓SY.slD_z, ↓SY.setD_z, ↓SY.appD_z, ↓SY.popD_z, ↓SY.dgsK_z, ↓SY.one_z, ↓SY.two_z, ↓SY.intK_z, ↓SY.rng1_z, ↓SY.rng2_z, ↓SY.frzK_z, ↓SY.forL_z, ↓SY.lcL_z, ↓SY.dSeq_z, SY.someZ_s, SY.int1Z_s, SY.int2Z_s, SY.bl1Z_s, SY.optZ_s, SY.addZ_i, SY.addZ_s, SY.addZ_t, SY.addZ_l, SY.addZ_p, SY.lenZ_t, SY.lenZ_l, SY.lenZ_s, SY.lenZ_p, SY.slZ_t, SY.slZ_l, SY.slZ_s, SY.slZ_p, SY.setZ_s, SY.appZ_s, SY.popZ_s, SY.dgsZ_s, SY.nilK_s, SY.oneZ_s, SY.twoZ_s, SY.intZ_i, SY.intZ_b, SY.rng1Z_s, SY.rng2Z_s, SY.frzZ_p, SY.frzZ_l, SY.frzZ_t, SY.forZ_nil, SY.forZ_cons, SY.lcZ_nil, SY.lcZ_cons, SY.goZ_s, ↓SY.sq_nx, ↓SY.sq_rt, ↓SY.sq_bk, ↓SY.sq_ct, ↓SY.sq_ex, ↓SY.lp_nx, ↓SY.lp_ct, ↓SY.lp_bk, ↓SY.lp_rt, ↓SY.lp_ex, SY.dAsg, SY.dRet, SY.dRetN, SY.dNext, SY.dIf, SY.dTst, SY.dC, SY.dVar, SY.dI, SY.dI0, SY.dMul, SY.dDiv, SY.dMod, SY.dPow, SY.dSub, SY.dLt, SY.dLe, SY.dGt, SY.dGe, SY.dNeg, SY.dAdd, SY.dIx, SY.dNil, SY.dCons, SY.dTup, SY.dLst, SY.dLstM, ↓SY.dCall_z, SY.dAbs, SY.dLen, SY.dTuple, SY.dList, SY.dListM, SY.dEq, SY.dNe, SY.dIsN, SY.dNotN, SY.dIsB, SY.dNotB, SY.dFrz, SY.dRaise, SY.dTryAs, SY.dTryOnly, SY.dIsE, SY.dtAnd, SY.dtOr, SY.dtNot, SY.dAnd, SY.dOr, SY.dNot, SY.dIsi, SY.dAll, SY.dSum, SY.dInt, SY.dSl, SY.dNoO, SY.dSomeO, SY.dDrop, SY.dAug, SY.dPar, SY.dAsgG, SY.dgName, SY.dgTup, SY.dgsNil, SY.dgsName, SY.dgSub, SY.dApp, SY.dPopAt, SY.dFor, SY.dForR1, SY.dForR2, SY.dForE, SY.dLc, SY.dLcR, SY.dLcRM, SY.rngL, SY.enumL, SY.frozen_tup, SY.frozen_lst, SY.frozen_scr, SY.frozL_lst, SY.frozL_scr, SY.seqOf_tup, SY.seqOf_lst, SY.seqOf_scr, SY.seqOf_ptr, SY.seqOf_int, SY.seqOf_str, SY.lstOf_lst, SY.lstOf_scr, SY.lstOf_ptr, SY.mlst_lst, SY.plst_lst, SY.plst_ptr, SY.isPtrL, SY.tyN, SY.isNon, SY.blsOf, SY.intsOf, SY.dend0, SY.dend, SY.startD, SY.eqOk_int, SY.eqv_int, SY.atI0, SY.atI1, SY.atI2, SY.atI3, SY.atI4, SY.atI5, SY.ixN0, decide_true, decide_false, Int.reduceEq, Int.reduceLT, Int.reduceLE, SY.ixN_21, SY.ixN_31, SY.ixN_32, SY.ixN_41, SY.ixN_42, SY.ixN_43, SY.seqIx0, SY.updT_same, SY.updT_updT, List.map_cons, List.map_nil, List.length_cons, List.length_nil, List.replicate, List.cons_append, List.nil_append, List.getD_cons_zero, List.getD_cons_succ, List.set_cons_zero, List.set_cons_succ, List.getElem?_cons_zero, List.eraseIdx_cons_zero, Option.isSome_some, Option.map_some, Int.reduceToNat, Int.reducePow, Int.reduceAdd, Int.reduceMul, Nat.zero_lt_succ, Nat.reduceLT, Nat.sub_self, Nat.reduceSub, Nat.reduceAdd, Nat.reduceLeDiff, Nat.zero_add, SY.kit_ii, SY.kit_ib, SY.kit_it, SY.kit_bi, SY.kit_bb, SY.kit_tt, SY.kit_ti, SY.kit_tb, SY.kit_nt, SY.kit_ll, SY.kit_lt, Bool.not_true, Bool.not_false, if_true, if_false, reduceIte, Bool.false_eq_true, true_and, and_true, and_self])
    refine ⟨zm, ?_⟩
    refine sp_take_mk hr (by decide) (Bd.lit (by decide)) fun j j0 j1 => ?_
    (try simp -dsimp (maxSteps := 3000000) only [em, ↓SY.str1_z, SY.str1Z_s, SY.isStrD_s, SY.dStrI, SY.dIntS, SY.dSplit, SY.dSplitF, SY.dM1, SY.dFind, SY.dZfill, SY.dJoin, SY.splitD, SY.splitFD, SY.findD, SY.zfillD, SY.joinD, SY.dInS, SY.dNotInS, SY.inD, SY.notInD, SY.dIxS, SY.ixSD, SY.dSlS, SY.dForS, SY.dMax, SY.dLcS, SY.eqv_S, ↓SY.someOf_z, ↓SY.int1_z, ↓SY.int2_z, ↓SY.bl1_z, ↓SY.optK_z, ↓SY.seqK_z, ↓SY.ixD_z, ↓SY.addD_z, ↓SY.lenD_z, ↓SY.slD_z, ↓SY.setD_z, ↓SY.appD_z, ↓SY.popD_z, ↓SY.dgsK_z, ↓SY.one_z, ↓SY.two_z, ↓SY.intK_z, ↓SY.rng1_z, ↓SY.rng2_z, ↓SY.frzK_z, ↓SY.forL_z, ↓SY.lcL_z, ↓SY.dSeq_z, SY.someZ_s, SY.int1Z_s, SY.int2Z_s, SY.bl1Z_s, SY.optZ_s, SY.addZ_i, SY.addZ_s, SY.addZ_t, SY.addZ_l, SY.addZ_p, SY.lenZ_t, SY.lenZ_l, SY.lenZ_s, SY.lenZ_p, SY.slZ_t, SY.slZ_l, SY.slZ_s, SY.slZ_p, SY.setZ_s, SY.appZ_s, SY.popZ_s, SY.dgsZ_s, SY.nilK_s, SY.oneZ_s, SY.twoZ_s, SY.intZ_i, SY.intZ_b, SY.rng1Z_s, SY.rng2Z_s, SY.frzZ_p, SY.frzZ_l, SY.frzZ_t, SY.forZ_nil, SY.forZ_cons, SY.lcZ_nil, SY.lcZ_cons, SY.goZ_s, ↓SY.sq_nx, ↓SY.sq_rt, ↓SY.sq_bk, ↓SY.sq_ct, ↓SY.sq_ex, ↓SY.lp_nx, ↓SY.lp_ct, ↓SY.lp_bk, ↓SY.lp_rt, ↓SY.lp_ex, SY.dAsg, SY.dRet, SY.dRetN, SY.dNext, SY.dIf, SY.dTst, SY.dC, SY.dVar, SY.dI, SY.dI0, SY.dMul, SY.dDiv, SY.dMod, SY.dPow, SY.dSub, SY.dLt, SY.dLe, SY.dGt, SY.dGe, SY.dNeg, SY.dAdd, SY.dIx, SY.dNil, SY.dCons, SY.dTup, SY.dLst, SY.dLstM, ↓SY.dCall_z, SY.dAbs, SY.dLen, SY.dTuple, SY.dList, SY.dListM, SY.dEq, SY.dNe, SY.dIsN, SY.dNotN, SY.dIsB, SY.dNotB, SY.dFrz, SY.dRaise, SY.dTryAs, SY.dTryOnly, SY.dIsE, SY.dtAnd, SY.dtOr, SY.dtNot, SY.dAnd, SY.dOr, SY.dNot, SY.dIsi, SY.dAll, SY.dSum, SY.dInt, SY.dSl, SY.dNoO, SY.dSomeO, SY.dDrop, SY.dAug, SY.dPar, SY.dAsgG, SY.dgName, SY.dgTup, SY.dgsNil, SY.dgsName, SY.dgSub, SY.dApp, SY.dPopAt, SY.dFor, SY.dForR1, SY.dForR2, SY.dForE, SY.dLc, SY.dLcR, SY.dLcRM, SY.rngL, SY.enumL, SY.frozen_tup, SY.frozen_lst, SY.frozen_scr, SY.frozL_lst, SY.frozL_scr, SY.seqOf_tup, SY.seqOf_lst, SY.seqOf_scr, SY.seqOf_ptr, SY.seqOf_int, SY.seqOf_str, SY.lstOf_lst, SY.lstOf_scr, SY.lstOf_ptr, SY.mlst_lst, SY.plst_lst, SY.plst_ptr, SY.isPtrL, SY.tyN, SY.isNon, SY.blsOf, SY.intsOf, SY.dend0, SY.dend, SY.startD, SY.eqOk_int, SY.eqv_int, SY.atI0, SY.atI1, SY.atI2, SY.atI3, SY.atI4, SY.atI5, SY.ixN0, decide_true, decide_false, Int.reduceEq, Int.reduceLT, Int.reduceLE, SY.ixN_21, SY.ixN_31, SY.ixN_32, SY.ixN_41, SY.ixN_42, SY.ixN_43, SY.seqIx0, SY.updT_same, SY.updT_updT, List.map_cons, List.map_nil, List.length_cons, List.length_nil, List.replicate, List.cons_append, List.nil_append, List.getD_cons_zero, List.getD_cons_succ, List.set_cons_zero, List.set_cons_succ, List.getElem?_cons_zero, List.eraseIdx_cons_zero, Option.isSome_some, Option.map_some, Int.reduceToNat, Int.reducePow, Int.reduceAdd, Int.reduceMul, Nat.zero_lt_succ, Nat.reduceLT, Nat.sub_self, Nat.reduceSub, Nat.reduceAdd, Nat.reduceLeDiff, Nat.zero_add, SY.kit_ii, SY.kit_ib, SY.kit_it, SY.kit_bi, SY.kit_bb, SY.kit_tt, SY.kit_ti, SY.kit_tb, SY.kit_nt, SY.kit_ll, SY.kit_lt, Bool.not_true, Bool.not_false, if_true, if_false, reduceIte, Bool.false_eq_true, true_and, and_true, and_self])
    refine ⟨by omega, ?_⟩
    subst hm
    exact pick_sign (l := mostL) j0 j1 (by unfold Asc; decide) fun c hc => h2 c hc
  · (try simp -dsimp (maxSteps := 3000000) only [es, ↓SY.str1_z, SY.str1Z_s, SY.isStrD_s, SY.dStrI, SY.dIntS, SY.dSplit, SY.dSplitF, SY.dM1, SY.dFind, SY.dZfill, SY.dJoin, SY.splitD, SY.splitFD, SY.findD, SY.zfillD, SY.joinD, SY.dInS, SY.dNotInS, SY.inD, SY.notInD, SY.dIxS, SY.ixSD, SY.dSlS, SY.dForS, SY.dMax, SY.dLcS, SY.eqv_S, ↓SY.someOf_z, ↓SY.int1_z, ↓SY.int2_z, ↓SY.bl1_z, ↓SY.optK_z, ↓SY.seqK_z, ↓SY.ixD_z, ↓SY.addD_z, ↓SY.lenD_z, ↓SY.slD_z, ↓SY.setD_z, ↓SY.appD_z, ↓SY.popD_z, ↓SY.dgsK_z, ↓SY.one_z, ↓SY.two_z, ↓SY.intK_z, ↓SY.rng1_z, ↓SY.rng2_z, ↓SY.frzK_z, ↓SY.forL_z, ↓SY.lcL_z, ↓SY.dSeq_z, SY.someZ_s, SY.int1Z_s, SY.int2Z_s, SY.bl1Z_s, SY.optZ_s, SY.addZ_i, SY.addZ_s, SY.addZ_t, SY.addZ_l, SY.addZ_p, SY.lenZ_t, SY.lenZ_l, SY.lenZ_s, SY.lenZ_p, SY.slZ_t, SY.slZ_l, SY.slZ_s, SY.slZ_p, SY.setZ_s, SY.appZ_s, SY.popZ_s, SY.dgsZ_s, SY.nilK_s, SY.oneZ_s, SY.twoZ_s, SY.intZ_i, SY.intZ_b, SY.rng1Z_s, SY.rng2Z_s, SY.frzZ_p, SY.frzZ_l, SY.frzZ_t, SY.forZ_nil, SY.forZ_cons, SY.lcZ_nil, SY.lcZ_cons, SY.goZ_s, ↓SY.sq_nx, ↓SY.sq_rt, ↓SY.sq_bk, ↓SY.sq_ct, ↓SY.sq_ex, ↓SY.lp_nx, ↓SY.lp_ct, ↓SY.lp_bk, ↓SY.lp_rt, ↓SY.lp_ex, SY.dAsg, SY.dRet, SY.dRetN, SY.dNext, SY.dIf, SY.dTst, SY.dC, SY.dVar, SY.dI, SY.dI0, SY.dMul, SY.dDiv, SY.dMod, SY.dPow, SY.dSub, SY.dLt, SY.dLe, SY.dGt, SY.dGe, SY.dNeg, SY.dAdd, SY.dIx, SY.dNil, SY.dCons, SY.dTup, SY.dLst, SY.dLstM, ↓SY.dCall_z, SY.dAbs, SY.dLen, SY.dTuple, SY.dList, SY.dListM, SY.dEq, SY.dNe, SY.dIsN, SY.dNotN, SY.dIsB, SY.dNotB, SY.dFrz, SY.dRaise, SY.dTryAs, SY.dTryOnly, SY.dIsE, SY.dtAnd, SY.dtOr, SY.dtNot, SY.dAnd, SY.dOr, SY.dNot, SY.dIsi, SY.dAll, SY.dSum, SY.dInt, SY.dSl, SY.dNoO, SY.dSomeO, SY.dDrop, SY.dAug, SY.dPar, SY.dAsgG, SY.dgName, SY.dgTup, SY.dgsNil, SY.dgsName, SY.dgSub, SY.dApp, SY.dPopAt, SY.dFor, SY.dForR1, SY.dForR2, SY.dForE, SY.dLc, SY.dLcR, SY.dLcRM, SY.rngL, SY.enumL, SY.frozen_tup, SY.frozen_lst, SY.frozen_scr, SY.frozL_lst, SY.frozL_scr, SY.seqOf_tup, SY.seqOf_lst, SY.seqOf_scr, SY.seqOf_ptr, SY.seqOf_int, SY.seqOf_str, SY.lstOf_lst, SY.lstOf_scr, SY.lstOf_ptr, SY.mlst_lst, SY.plst_lst, SY.plst_ptr, SY.isPtrL, SY.tyN, SY.isNon, SY.blsOf, SY.intsOf, SY.dend0, SY.dend, SY.startD, SY.eqOk_int, SY.eqv_int, SY.atI0, SY.atI1, SY.atI2, SY.atI3, SY.atI4, SY.atI5, SY.ixN0, decide_true, decide_false, Int.reduceEq, Int.reduceLT, Int.reduceLE, SY.ixN_21, SY.ixN_31, SY.ixN_32, SY.ixN_41, SY.ixN_42, SY.ixN_43, SY.seqIx0, SY.updT_same, SY.updT_updT, List.map_cons, List.map_nil, List.length_cons, List.length_nil, List.replicate, List.cons_append, List.nil_append, List.getD_cons_zero, List.getD_cons_succ, List.set_cons_zero, List.set_cons_succ, List.getElem?_cons_zero, List.eraseIdx_cons_zero, Option.isSome_some, Option.map_some, Int.reduceToNat, Int.reducePow, Int.reduceAdd, Int.reduceMul, Nat.zero_lt_succ, Nat.reduceLT, Nat.sub_self, Nat.reduceSub, Nat.reduceAdd, Nat.reduceLeDiff, Nat.zero_add, SY.kit_ii, SY.kit_ib, SY.kit_it, SY.kit_bi, SY.kit_bb, SY.kit_tt, SY.kit_ti, SY.kit_tb, SY.kit_nt, SY.kit_ll, SY.kit_lt, Bool.not_true, Bool.not_false, if_true, if_false, reduceIte, Bool.false_eq_true, true_and, and_true, and_self])
    refine ⟨zs, ?_⟩
    refine sp_take_mk hr (by decide) (Bd.lit (by decide)) fun j j0 j1 => ?_
    (try simp -dsimp (maxSteps := 3000000) only [es, ↓SY.str1_z, SY.str1Z_s, SY.isStrD_s, SY.dStrI, SY.dIntS, SY.dSplit, SY.dSplitF, SY.dM1, SY.dFind, SY.dZfill, SY.dJoin, SY.splitD, SY.splitFD, SY.findD, SY.zfillD, SY.joinD, SY.dInS, SY.dNotInS, SY.inD, SY.notInD, SY.dIxS, SY.ixSD, SY.dSlS, SY.dForS, SY.dMax, SY.dLcS, SY.eqv_S, ↓SY.someOf_z, ↓SY.int1_z, ↓SY.int2_z, ↓SY.bl1_z, ↓SY.optK_z, ↓SY.seqK_z, ↓SY.ixD_z, ↓SY.addD_z, ↓SY.lenD_z, ↓SY.slD_z, ↓SY.setD_z, ↓SY.appD_z, ↓SY.popD_z, ↓SY.dgsK_z, ↓SY.one_z, ↓SY.two_z, ↓SY.intK_z, ↓SY.rng1_z, ↓SY.rng2_z, ↓SY.frzK_z, ↓SY.forL_z, ↓SY.lcL_z, ↓SY.dSeq_z, SY.someZ_s, SY.int1Z_s, SY.int2Z_s, SY.bl1Z_s, SY.optZ_s, SY.addZ_i, SY.addZ_s, SY.addZ_t, SY.addZ_l, SY.addZ_p, SY.lenZ_t, SY.lenZ_l, SY.lenZ_s, SY.lenZ_p, SY.slZ_t, SY.slZ_l, SY.slZ_s, SY.slZ_p, SY.setZ_s, SY.appZ_s, SY.popZ_s, SY.dgsZ_s, SY.nilK_s, SY.oneZ_s, SY.twoZ_s, SY.intZ_i, SY.intZ_b, SY.rng1Z_s, SY.rng2Z_s, SY.frzZ_p, SY.frzZ_l, SY.frzZ_t, SY.forZ_nil, SY.forZ_cons, SY.lcZ_nil, SY.lcZ_cons, SY.goZ_s, ↓SY.sq_nx, ↓SY.sq_rt, ↓SY.sq_bk, ↓SY.sq_ct, ↓SY.sq_ex, ↓SY.lp_nx, ↓SY.lp_ct, ↓SY.lp_bk, ↓SY.lp_rt, ↓SY.lp_ex, SY.dAsg, SY.dRet, SY.dRetN, SY.dNext, SY.dIf, SY.dTst, SY.dC, SY.dVar, SY.dI, SY.dI0, SY.dMul, SY.dDiv, SY.dMod, SY.dPow, SY.dSub, SY.dLt, SY.dLe, SY.dGt, SY.dGe, SY.dNeg, SY.dAdd, SY.dIx, SY.dNil, SY.dCons, SY.dTup, SY.dLst, SY.dLstM, ↓SY.dCall_z, SY.dAbs, SY.dLen, SY.dTuple, SY.dList, SY.dListM, SY.dEq, SY.dNe, SY.dIsN, SY.dNotN, SY.dIsB, SY.dNotB, SY.dFrz, SY.dRaise, SY.dTryAs, SY.dTryOnly, SY.dIsE, SY.dtAnd, SY.dtOr, SY.dtNot, SY.dAnd, SY.dOr, SY.dNot, SY.dIsi, SY.dAll, SY.dSum, SY.dInt, SY.dSl, SY.dNoO, SY.dSomeO, SY.dDrop, SY.dAug, SY.dPar, SY.dAsgG, SY.dgName, SY.dgTup, SY.dgsNil, SY.dgsName, SY.dgSub, SY.dApp, SY.dPopAt, SY.dFor, SY.dForR1, SY.dForR2, SY.dForE, SY.dLc, SY.dLcR, SY.dLcRM, SY.rngL, SY.enumL, SY.frozen_tup, SY.frozen_lst, SY.frozen_scr, SY.frozL_lst, SY.frozL_scr, SY.seqOf_tup, SY.seqOf_lst, SY.seqOf_scr, SY.seqOf_ptr, SY.seqOf_int, SY.seqOf_str, SY.lstOf_lst, SY.lstOf_scr, SY.lstOf_ptr, SY.mlst_lst, SY.plst_lst, SY.plst_ptr, SY.isPtrL, SY.tyN, SY.isNon, SY.blsOf, SY.intsOf, SY.dend0, SY.dend, SY.startD, SY.eqOk_int, SY.eqv_int, SY.atI0, SY.atI1, SY.atI2, SY.atI3, SY.atI4, SY.atI5, SY.ixN0, decide_true, decide_false, Int.reduceEq, Int.reduceLT, Int.reduceLE, SY.ixN_21, SY.ixN_31, SY.ixN_32, SY.ixN_41, SY.ixN_42, SY.ixN_43, SY.seqIx0, SY.updT_same, SY.updT_updT, List.map_cons, List.map_nil, List.length_cons, List.length_nil, List.replicate, List.cons_append, List.nil_append, List.getD_cons_zero, List.getD_cons_succ, List.set_cons_zero, List.set_cons_succ, List.getElem?_cons_zero, List.eraseIdx_cons_zero, Option.isSome_some, Option.map_some, Int.reduceToNat, Int.reducePow, Int.reduceAdd, Int.reduceMul, Nat.zero_lt_succ, Nat.reduceLT, Nat.sub_self, Nat.reduceSub, Nat.reduceAdd, Nat.reduceLeDiff, Nat.zero_add, SY.kit_ii, SY.kit_ib, SY.kit_it, SY.kit_bi, SY.kit_bb, SY.kit_tt, SY.kit_ti, SY.kit_tb, SY.kit_nt, SY.kit_ll, SY.kit_lt, Bool.not_true, Bool.not_false, if_true, if_false, reduceIte, Bool.false_eq_true, true_and, and_true, and_self])
    refine ⟨by omega, ?_⟩
    subst hs
    exact pick_sign (l := [32, 44, 124, 47, 45, 48, 49, 50, 51, 52, 53, 54, 55, 56, 57, 110, 111, 110, 101]) j0 j1 (by unfold Asc; decide) fun c hc => h2 c hc
theorem sp_l_sign_at_mk {r : Addr} (hr : T r = some .row) (h : ∀ c : Nat, c < 1114112 → P (.str (S [c])) T) : sp_l_sign_at [.ptr r] T P X := lock_at ⟨r, rfl, hr, h⟩
/-- a text, spoilt or not -/
noncomputable def sp_l_spoilt : DSp := lock <| sp2 fun a b T P _ => ∃ r l, a = .ptr r ∧ T r = some .row ∧ b = .str (S l) ∧ l.length ≤ 20000 ∧ Asc l ∧ ∀ m : List Nat, m.length ≤ l.length + 1 → Asc m → P (.str (S m)) T
def d_l_spoilt : DS := (dSeq (dAsg (dCall sp_l_take (dCons (dVar 0) (dCons (dC (.int 6)) dNil))) 2) (dSeq (dIf (dTst (dGt (dVar 2) (dC (.int 2)))) (dRet (dVar 1)) dNext) (dSeq (dAsg (dCall sp_l_take (dCons (dVar 0) (dCons (dAdd (dLen (dVar 1)) (dC (.int 1))) dNil))) 3) (dSeq (dAsg (dCall sp_l_sign_at (dCons (dVar 0) dNil)) 4) (dSeq (dIf (dTst (dEq (dVar 2) (dC (.int 0)))) (dRet (dAdd (dAdd (dSlS (dVar 1) dNoO (dSomeO (dVar 3))) (dVar 4)) (dSlS (dVar 1) (dSomeO (dVar 3)) dNoO))) dNext) (dSeq (dIf (dTst (dEq (dVar 2) (dC (.int 1)))) (dRet (dAdd (dSlS (dVar 1) dNoO (dSomeO (dVar 3))) (dSlS (dVar 1) (dSomeO (dAdd (dVar 3) (dC (.int 1)))) dNoO))) dNext) (dRet (dAdd (dAdd (dSlS (dVar 1) dNoO (dSomeO (dVar 3))) (dVar 4)) (dSlS (dVar 1) (dSomeO (dAdd (dVar 3) (dC (.int 1)))) dNoO)))))))))
theorem cat3 (a b c : List Nat) : S a ++ S b ++ S c = S (a ++ b ++ c) := by
  rw [show S a ++ S b = S (a ++ b) from SX.S_cat _ _, show S (a ++ b) ++ S c = S (a ++ b ++ c) from SX.S_cat _ _]
theorem pure_l_spoilt {N : List Str} (hN : N.length = 5) : ∀ us T P X, sp_l_spoilt us T P X → d_l_spoilt (dend0 P X) (startD N us) T := by
  intro us T P X h
  obtain ⟨a, b, rfl, h1⟩ := sp2.of (lock_of h)
  have e0 : startD N [a, b] = [some a, some b, none, none, none] := by unfold startD; rw [hN]; rfl
  rw [e0]; clear e0; unfold d_l_spoilt
  obtain ⟨r, l, rfl, hr, rfl, hl, as, h2⟩ := h1
  walk_at "dz"
  refine sp_take_mk hr (by decide) (Bd.lit (by decide)) fun k k0 k1 => ?_
  walk_at "dz"
  cases hk : decide (2 < k)
  · (try simp -dsimp (maxSteps := 3000000) only [lenS, ↓SY.str1_z, SY.str1Z_s, SY.isStrD_s, SY.dStrI, SY.dIntS, SY.dSplit, SY.dSplitF, SY.dM1, SY.dFind, SY.dZfill, SY.dJoin, SY.splitD, SY.splitFD, SY.findD, SY.zfillD, SY.joinD, SY.dInS, SY.dNotInS, SY.inD, SY.notInD, SY.dIxS, SY.ixSD, SY.dSlS, SY.dForS, SY.dMax, SY.dLcS, SY.eqv_S, ↓SY.someOf_z, ↓SY.int1_z, ↓SY.int2_z, ↓SY.bl1_z, ↓SY.optK_z, ↓SY.seqK_z, ↓SY.ixD_z, ↓SY.addD_z, ↓SY.lenD_z, ↓SY.slD_z, ↓SY.setD_z, ↓SY.appD_z, ↓SY.popD_z, ↓SY.dgsK_z, ↓SY.one_z, ↓SY.two_z, ↓SY.intK_z, ↓SY.rng1_z, ↓SY.rng2_z, ↓SY.frzK_z, ↓SY.forL_z, ↓SY.lcL_z, ↓SY.dSeq_z, SY.someZ_s, SY.int1Z_s, SY.int2Z_s, SY.bl1Z_s, SY.optZ_s, SY.addZ_i, SY.addZ_s, SY.addZ_t, SY.addZ_l, SY.addZ_p, SY.lenZ_t, SY.lenZ_l, SY.lenZ_s, SY.lenZ_p, SY.slZ_t, SY.slZ_l, SY.slZ_s, SY.slZ_p, SY.setZ_s, SY.appZ_s, SY.popZ_s, SY.dgsZ_s, SY.nilK_s, SY.oneZ_s, SY.twoZ_s, SY.intZ_i, SY.intZ_b, SY.rng1Z_s, SY.rng2Z_s, SY.frzZ_p, SY.frzZ_l, SY.frzZ_t, SY.forZ_nil, SY.forZ_cons, SY.lcZ_nil, SY.lcZ_cons, SY.goZ_s, ↓SY.sq_nx, ↓SY.sq_rt, ↓SY.sq_bk, ↓SY.sq_ct, ↓SY.sq_ex, ↓SY.lp_nx, ↓SY.lp_ct, ↓SY.lp_bk, ↓SY.lp_rt, ↓SY.lp_ex, SY.dAsg, SY.dRet, SY.dRetN, SY.dNext, SY.dIf, SY.dTst, SY.dC, SY.dVar, SY.dI, SY.dI0, SY.dMul, SY.dDiv, SY.dMod, SY.dPow, SY.dSub, SY.dLt, SY.dLe, SY.dGt, SY.dGe, SY.dNeg, SY.dAdd, SY.dIx, SY.dNil, SY.dCons, SY.dTup, SY.dLst, SY.dLstM, ↓SY.dCall_z, SY.dAbs, SY.dLen, SY.dTuple, SY.dList, SY.dListM, SY.dEq, SY.dNe, SY.dIsN, SY.dNotN, SY.dIsB, SY.dNotB, SY.dFrz, SY.dRaise, SY.dTryAs, SY.dTryOnly, SY.dIsE, SY.dtAnd, SY.dtOr, SY.dtNot, SY.dAnd, SY.dOr, SY.dNot, SY.dIsi, SY.dAll, SY.dSum, SY.dInt, SY.dSl, SY.dNoO, SY.dSomeO, SY.dDrop, SY.dAug, SY.dPar, SY.dAsgG, SY.dgName, SY.dgTup, SY.dgsNil, SY.dgsName, SY.dgSub, SY.dApp, SY.dPopAt, SY.dFor, SY.dForR1, SY.dForR2, SY.dForE, SY.dLc, SY.dLcR, SY.dLcRM, SY.rngL, SY.enumL, SY.frozen_tup, SY.frozen_lst, SY.frozen_scr, SY.frozL_lst, SY.frozL_scr, SY.seqOf_tup, SY.seqOf_lst, SY.seqOf_scr, SY.seqOf_ptr, SY.seqOf_int, SY.seqOf_str, SY.lstOf_lst, SY.lstOf_scr, SY.lstOf_ptr, SY.mlst_lst, SY.plst_lst, SY.plst_ptr, SY.isPtrL, SY.tyN, SY.isNon, SY.blsOf, SY.intsOf, SY.dend0, SY.dend, SY.startD, SY.eqOk_int, SY.eqv_int, SY.atI0, SY.atI1, SY.atI2, SY.atI3, SY.atI4, SY.atI5, SY.ixN0, decide_true, decide_false, Int.reduceEq, Int.reduceLT, Int.reduceLE, SY.ixN_21, SY.ixN_31, SY.ixN_32, SY.ixN_41, SY.ixN_42, SY.ixN_43, SY.seqIx0, SY.updT_same, SY.updT_updT, List.map_cons, List.map_nil, List.length_cons, List.length_nil, List.replicate, List.cons_append, List.nil_append, List.getD_cons_zero, List.getD_cons_succ, List.set_cons_zero, List.set_cons_succ, List.getElem?_cons_zero, List.eraseIdx_cons_zero, Option.isSome_some, Option.map_some, Int.reduceToNat, Int.reducePow, Int.reduceAdd, Int.reduceMul, Nat.zero_lt_succ, Nat.reduceLT, Nat.sub_self, Nat.reduceSub, Nat.reduceAdd, Nat.reduceLeDiff, Nat.zero_add, SY.kit_ii, SY.kit_ib, SY.kit_it, SY.kit_bi, SY.kit_bb, SY.kit_tt, SY.kit_ti, SY.kit_tb, SY.kit_nt, SY.kit_ll, SY.kit_lt, Bool.not_true, Bool.not_false, if_true, if_false, reduceIte, Bool.false_eq_true, true_and, and_true, and_self])
    refine ⟨Nat.le_trans hl (by decide), ?_⟩
    refine sp_take_mk hr (by omega) (Bd.rng (m := 2 ^ 20) (by omega) (by omega) (Bd.lit (by decide))) fun j j0 j1 => ?_
    walk_at "dz"
    refine sp_l_sign_at_mk hr fun c hc => ?_
    walk_at "dz"
    obtain ⟨i, rfl⟩ := Int.eq_ofNat_of_zero_le j0
    have hi : i ≤ l.length := by omega
    have e1 : cutS (S l) (some ((i : Int) + 1)) none = S (l.drop (i + 1)) := by
      rw [show ((i : Int) + 1) = ((i + 1 : Nat) : Int) by omega, cut_from]
    have l1 : (l.take i).length = i := by rw [List.length_take, Nat.min_eq_left hi]
    have l2 : (l.drop i).length = l.length - i := List.length_drop
    have l3 : (l.drop (i + 1)).length = l.length - (i + 1) := List.length_drop
    have ac : Asc [c] := Asc.cons hc (fun _ z => by simp at z)
    cases hk0 : decide (k = 0)
    · walk_at "dz"
      cases hk1 : decide (k = 1)
      · (try simp -dsimp (maxSteps := 3000000) only [lenS, e1, cut_to, cut_from, l1, l2, l3, ↓SY.str1_z, SY.str1Z_s, SY.isStrD_s, SY.dStrI, SY.dIntS, SY.dSplit, SY.dSplitF, SY.dM1, SY.dFind, SY.dZfill, SY.dJoin, SY.splitD, SY.splitFD, SY.findD, SY.zfillD, SY.joinD, SY.dInS, SY.dNotInS, SY.inD, SY.notInD, SY.dIxS, SY.ixSD, SY.dSlS, SY.dForS, SY.dMax, SY.dLcS, SY.eqv_S, ↓SY.someOf_z, ↓SY.int1_z, ↓SY.int2_z, ↓SY.bl1_z, ↓SY.optK_z, ↓SY.seqK_z, ↓SY.ixD_z, ↓SY.addD_z, ↓SY.lenD_z, ↓SY.slD_z, ↓SY.setD_z, ↓SY.appD_z, ↓SY.popD_z, ↓SY.dgsK_z, ↓SY.one_z, ↓SY.two_z, ↓SY.intK_z, ↓SY.rng1_z, ↓SY.rng2_z, ↓SY.frzK_z, ↓SY.forL_z, ↓SY.lcL_z, ↓SY.dSeq_z, SY.someZ_s, SY.int1Z_s, SY.int2Z_s, SY.bl1Z_s, SY.optZ_s, SY.addZ_i, SY.addZ_s, SY.addZ_t, SY.addZ_l, SY.addZ_p, SY.lenZ_t, SY.lenZ_l, SY.lenZ_s, SY.lenZ_p, SY.slZ_t, SY.slZ_l, SY.slZ_s, SY.slZ_p, SY.setZ_s, SY.appZ_s, SY.popZ_s, SY.dgsZ_s, SY.nilK_s, SY.oneZ_s, SY.twoZ_s, SY.intZ_i, SY.intZ_b, SY.rng1Z_s, SY.rng2Z_s, SY.frzZ_p, SY.frzZ_l, SY.frzZ_t, SY.forZ_nil, SY.forZ_cons, SY.lcZ_nil, SY.lcZ_cons, SY.goZ_s, ↓SY.sq_nx, ↓SY.sq_rt, ↓SY.sq_bk, ↓SY.sq_ct, ↓SY.sq_ex, ↓SY.lp_nx, ↓SY.lp_ct, ↓SY.lp_bk, ↓SY.lp_rt, ↓SY.lp_ex, SY.dAsg, SY.dRet, SY.dRetN, SY.dNext, SY.dIf, SY.dTst, SY.dC, SY.dVar, SY.dI, SY.dI0, SY.dMul, SY.dDiv, SY.dMod, SY.dPow, SY.dSub, SY.dLt, SY.dLe, SY.dGt, SY.dGe, SY.dNeg, SY.dAdd, SY.dIx, SY.dNil, SY.dCons, SY.dTup, SY.dLst, SY.dLstM, ↓SY.dCall_z, SY.dAbs, SY.dLen, SY.dTuple, SY.dList, SY.dListM, SY.dEq, SY.dNe, SY.dIsN, SY.dNotN, SY.dIsB, SY.dNotB, SY.dFrz, SY.dRaise, SY.dTryAs, SY.dTryOnly, SY.dIsE, SY.dtAnd, SY.dtOr, SY.dtNot, SY.dAnd, SY.dOr, SY.dNot, SY.dIsi, SY.dAll, SY.dSum, SY.dInt, SY.dSl, SY.dNoO, SY.dSomeO, SY.dDrop, SY.dAug, SY.dPar, SY.dAsgG, SY.dgName, SY.dgTup, SY.dgsNil, SY.dgsName, SY.dgSub, SY.dApp, SY.dPopAt, SY.dFor, SY.dForR1, SY.dForR2, SY.dForE, SY.dLc, SY.dLcR, SY.dLcRM, SY.rngL, SY.enumL, SY.frozen_tup, SY.frozen_lst, SY.frozen_scr, SY.frozL_lst, SY.frozL_scr, SY.seqOf_tup, SY.seqOf_lst, SY.seqOf_scr, SY.seqOf_ptr, SY.seqOf_int, SY.seqOf_str, SY.lstOf_lst, SY.lstOf_scr, SY.lstOf_ptr, SY.mlst_lst, SY.plst_lst, SY.plst_ptr, SY.isPtrL, SY.tyN, SY.isNon, SY.blsOf, SY.intsOf, SY.dend0, SY.dend, SY.startD, SY.eqOk_int, SY.eqv_int, SY.atI0, SY.atI1, SY.atI2, SY.atI3, SY.atI4, SY.atI5, SY.ixN0, decide_true, decide_false, Int.reduceEq, Int.reduceLT, Int.reduceLE, SY.ixN_21, SY.ixN_31, SY.ixN_32, SY.ixN_41, SY.ixN_42, SY.ixN_43, SY.seqIx0, SY.updT_same, SY.updT_updT, List.map_cons, List.map_nil, List.length_cons, List.length_nil, List.replicate, List.cons_append, List.nil_append, List.getD_cons_zero, List.getD_cons_succ, List.set_cons_zero, List.set_cons_succ, List.getElem?_cons_zero, List.eraseIdx_cons_zero, Option.isSome_some, Option.map_some, Int.reduceToNat, Int.reducePow, Int.reduceAdd, Int.reduceMul, Nat.zero_lt_succ, Nat.reduceLT, Nat.sub_self, Nat.reduceSub, Nat.reduceAdd, Nat.reduceLeDiff, Nat.zero_add, SY.kit_ii, SY.kit_ib, SY.kit_it, SY.kit_bi, SY.kit_bb, SY.kit_tt, SY.kit_ti, SY.kit_tb, SY.kit_nt, SY.kit_ll, SY.kit_lt, Bool.not_true, Bool.not_false, if_true, if_false, reduceIte, Bool.false_eq_true, true_and, and_true, and_self])
        have e : S (l.take i) ++ S [c] = S (l.take i ++ [c]) := SX.S_cat _ _
        refine ⟨by omega, by omega, by omega, ?_, ?_⟩
        · rw [e, lenS, List.length_append, l1]; simp only [List.length_cons, List.length_nil]; omega
        · rw [cat3]
          exact h2 _ (by simp only [List.length_append, l1, l3, List.length_cons, List.length_nil]; omega) (((as.take i).app ac).app (as.drop _))
      · (try simp -dsimp (maxSteps := 3000000) only [lenS, e1, cut_to, cut_from, l1, l2, l3, ↓SY.str1_z, SY.str1Z_s, SY.isStrD_s, SY.dStrI, SY.dIntS, SY.dSplit, SY.dSplitF, SY.dM1, SY.dFind, SY.dZfill, SY.dJoin, SY.splitD, SY.splitFD, SY.findD, SY.zfillD, SY.joinD, SY.dInS, SY.dNotInS, SY.inD, SY.notInD, SY.dIxS, SY.ixSD, SY.dSlS, SY.dForS, SY.dMax, SY.dLcS, SY.eqv_S, ↓SY.someOf_z, ↓SY.int1_z, ↓SY.int2_z, ↓SY.bl1_z, ↓SY.optK_z, ↓SY.seqK_z, ↓SY.ixD_z, ↓SY.addD_z, ↓SY.lenD_z, ↓SY.slD_z, ↓SY.setD_z, ↓SY.appD_z, ↓SY.popD_z, ↓SY.dgsK_z, ↓SY.one_z, ↓SY.two_z, ↓SY.intK_z, ↓SY.rng1_z, ↓SY.rng2_z, ↓SY.frzK_z, ↓SY.forL_z, ↓SY.lcL_z, ↓SY.dSeq_z, SY.someZ_s, SY.int1Z_s, SY.int2Z_s, SY.bl1Z_s, SY.optZ_s, SY.addZ_i, SY.addZ_s, SY.addZ_t, SY.addZ_l, SY.addZ_p, SY.lenZ_t, SY.lenZ_l, SY.lenZ_s, SY.lenZ_p, SY.slZ_t, SY.slZ_l, SY.slZ_s, SY.slZ_p, SY.setZ_s, SY.appZ_s, SY.popZ_s, SY.dgsZ_s, SY.nilK_s, SY.oneZ_s, SY.twoZ_s, SY.intZ_i, SY.intZ_b, SY.rng1Z_s, SY.rng2Z_s, SY.frzZ_p, SY.frzZ_l, SY.frzZ_t, SY.forZ_nil, SY.forZ_cons, SY.lcZ_nil, SY.lcZ_cons, SY.goZ_s, ↓SY.sq_nx, ↓SY.sq_rt, ↓SY.sq_bk, ↓SY.sq_ct, ↓SY.sq_ex, ↓SY.lp_nx, ↓SY.lp_ct, ↓SY.lp_bk, ↓SY.lp_rt, ↓SY.lp_ex, SY.dAsg, SY.dRet, SY.dRetN, SY.dNext, SY.dIf, SY.dTst, SY.dC, SY.dVar, SY.dI, SY.dI0, SY.dMul, SY.dDiv, SY.dMod, SY.dPow, SY.dSub, SY.dLt, SY.dLe, SY.dGt, SY.dGe, SY.dNeg, SY.dAdd, SY.dIx, SY.dNil, SY.dCons, SY.dTup, SY.dLst, SY.dLstM, ↓SY.dCall_z, SY.dAbs, SY.dLen, SY.dTuple, SY.dList, SY.dListM, SY.dEq, SY.dNe, SY.dIsN, SY.dNotN, SY.dIsB, SY.dNotB, SY.dFrz, SY.dRaise, SY.dTryAs, SY.dTryOnly, SY.dIsE, SY.dtAnd, SY.dtOr, SY.dtNot, SY.dAnd, SY.dOr, SY.dNot, SY.dIsi, SY.dAll, SY.dSum, SY.dInt, SY.dSl, SY.dNoO, SY.dSomeO, SY.dDrop, SY.dAug, SY.dPar, SY.dAsgG, SY.dgName, SY.dgTup, SY.dgsNil, SY.dgsName, SY.dgSub, SY.dApp, SY.dPopAt, SY.dFor, SY.dForR1, SY.dForR2, SY.dForE, SY.dLc, SY.dLcR, SY.dLcRM, SY.rngL, SY.enumL, SY.frozen_tup, SY.frozen_lst, SY.frozen_scr, SY.frozL_lst, SY.frozL_scr, SY.seqOf_tup, SY.seqOf_lst, SY.seqOf_scr, SY.seqOf_ptr, SY.seqOf_int, SY.seqOf_str, SY.lstOf_lst, SY.lstOf_scr, SY.lstOf_ptr, SY.mlst_lst, SY.plst_lst, SY.plst_ptr, SY.isPtrL, SY.tyN, SY.isNon, SY.blsOf, SY.intsOf, SY.dend0, SY.dend, SY.startD, SY.eqOk_int, SY.eqv_int, SY.atI0, SY.atI1, SY.atI2, SY.atI3, SY.atI4, SY.atI5, SY.ixN0, decide_true, decide_false, Int.reduceEq, Int.reduceLT, Int.reduceLE, SY.ixN_21, SY.ixN_31, SY.ixN_32, SY.ixN_41, SY.ixN_42, SY.ixN_43, SY.seqIx0, SY.updT_same, SY.updT_updT, List.map_cons, List.map_nil, List.length_cons, List.length_nil, List.replicate, List.cons_append, List.nil_append, List.getD_cons_zero, List.getD_cons_succ, List.set_cons_zero, List.set_cons_succ, List.getElem?_cons_zero, List.eraseIdx_cons_zero, Option.isSome_some, Option.map_some, Int.reduceToNat, Int.reducePow, Int.reduceAdd, Int.reduceMul, Nat.zero_lt_succ, Nat.reduceLT, Nat.sub_self, Nat.reduceSub, Nat.reduceAdd, Nat.reduceLeDiff, Nat.zero_add, SY.kit_ii, SY.kit_ib, SY.kit_it, SY.kit_bi, SY.kit_bb, SY.kit_tt, SY.kit_ti, SY.kit_tb, SY.kit_nt, SY.kit_ll, SY.kit_lt, Bool.not_true, Bool.not_false, if_true, if_false, reduceIte, Bool.false_eq_true, true_and, and_true, and_self])
        have e : S (l.take i) ++ S (l.drop (i + 1)) = S (l.take i ++ l.drop (i + 1)) := SX.S_cat _ _
        refine ⟨by omega, by omega, by omega, ?_⟩
        rw [e]
        exact h2 _ (by simp only [List.length_append, l1, l3]; omega) ((as.take i).app (as.drop _))
    · (try simp -dsimp (maxSteps := 3000000) only [lenS, e1, cut_to, cut_from, l1, l2, l3, ↓SY.str1_z, SY.str1Z_s, SY.isStrD_s, SY.dStrI, SY.dIntS, SY.dSplit, SY.dSplitF, SY.dM1, SY.dFind, SY.dZfill, SY.dJoin, SY.splitD, SY.splitFD, SY.findD, SY.zfillD, SY.joinD, SY.dInS, SY.dNotInS, SY.inD, SY.notInD, SY.dIxS, SY.ixSD, SY.dSlS, SY.dForS, SY.dMax, SY.dLcS, SY.eqv_S, ↓SY.someOf_z, ↓SY.int1_z, ↓SY.int2_z, ↓SY.bl1_z, ↓SY.optK_z, ↓SY.seqK_z, ↓SY.ixD_z, ↓SY.addD_z, ↓SY.lenD_z, ↓SY.slD_z, ↓SY.setD_z, ↓SY.appD_z, ↓SY.popD_z, ↓SY.dgsK_z, ↓SY.one_z, ↓SY.two_z, ↓SY.intK_z, ↓SY.rng1_z, ↓SY.rng2_z, ↓SY.frzK_z, ↓SY.forL_z, ↓SY.lcL_z, ↓SY.dSeq_z, SY.someZ_s, SY.int1Z_s, SY.int2Z_s, SY.bl1Z_s, SY.optZ_s, SY.addZ_i, SY.addZ_s, SY.addZ_t, SY.addZ_l, SY.addZ_p, SY.lenZ_t, SY.lenZ_l, SY.lenZ_s, SY.lenZ_p, SY.slZ_t, SY.slZ_l, SY.slZ_s, SY.slZ_p, SY.setZ_s, SY.appZ_s, SY.popZ_s, SY.dgsZ_s, SY.nilK_s, SY.oneZ_s, SY.twoZ_s, SY.intZ_i, SY.intZ_b, SY.rng1Z_s, SY.rng2Z_s, SY.frzZ_p, SY.frzZ_l, SY.frzZ_t, SY.forZ_nil, SY.forZ_cons, SY.lcZ_nil, SY.lcZ_cons, SY.goZ_s, ↓SY.sq_nx, ↓SY.sq_rt, ↓SY.sq_bk, ↓SY.sq_ct, ↓SY.sq_ex, ↓SY.lp_nx, ↓SY.lp_ct, ↓SY.lp_bk, ↓SY.lp_rt, ↓SY.lp_ex, SY.dAsg, SY.dRet, SY.dRetN, SY.dNext, SY.dIf, SY.dTst, SY.dC, SY.dVar, SY.dI, SY.dI0, SY.dMul, SY.dDiv, SY.dMod, SY.dPow, SY.dSub, SY.dLt, SY.dLe, SY.dGt, SY.dGe, SY.dNeg, SY.dAdd, SY.dIx, SY.dNil, SY.dCons, SY.dTup, SY.dLst, SY.dLstM, ↓SY.dCall_z, SY.dAbs, SY.dLen, SY.dTuple, SY.dList, SY.dListM, SY.dEq, SY.dNe, SY.dIsN, SY.dNotN, SY.dIsB, SY.dNotB, SY.dFrz, SY.dRaise, SY.dTryAs, SY.dTryOnly, SY.dIsE, SY.dtAnd, SY.dtOr, SY.dtNot, SY.dAnd, SY.dOr, SY.dNot, SY.dIsi, SY.dAll, SY.dSum, SY.dInt, SY.dSl, SY.dNoO, SY.dSomeO, SY.dDrop, SY.dAug, SY.dPar, SY.dAsgG, SY.dgName, SY.dgTup, SY.dgsNil, SY.dgsName, SY.dgSub, SY.dApp, SY.dPopAt, SY.dFor, SY.dForR1, SY.dForR2, SY.dForE, SY.dLc, SY.dLcR, SY.dLcRM, SY.rngL, SY.enumL, SY.frozen_tup, SY.frozen_lst, SY.frozen_scr, SY.frozL_lst, SY.frozL_scr, SY.seqOf_tup, SY.seqOf_lst, SY.seqOf_scr, SY.seqOf_ptr, SY.seqOf_int, SY.seqOf_str, SY.lstOf_lst, SY.lstOf_scr, SY.lstOf_ptr, SY.mlst_lst, SY.plst_lst, SY.plst_ptr, SY.isPtrL, SY.tyN, SY.isNon, SY.blsOf, SY.intsOf, SY.dend0, SY.dend, SY.startD, SY.eqOk_int, SY.eqv_int, SY.atI0, SY.atI1, SY.atI2, SY.atI3, SY.atI4, SY.atI5, SY.ixN0, decide_true, decide_false, Int.reduceEq, Int.reduceLT, Int.reduceLE, SY.ixN_21, SY.ixN_31, SY.ixN_32, SY.ixN_41, SY.ixN_42, SY.ixN_43, SY.seqIx0, SY.updT_same, SY.updT_updT, List.map_cons, List.map_nil, List.length_cons, List.length_nil, List.replicate, List.cons_append, List.nil_append, List.getD_cons_zero, List.getD_cons_succ, List.set_cons_zero, List.set_cons_succ, List.getElem?_cons_zero, List.eraseIdx_cons_zero, Option.isSome_some, Option.map_some, Int.reduceToNat, Int.reducePow, Int.reduceAdd, Int.reduceMul, Nat.zero_lt_succ, Nat.reduceLT, Nat.sub_self, Nat.reduceSub, Nat.reduceAdd, Nat.reduceLeDiff, Nat.zero_add, SY.kit_ii, SY.kit_ib, SY.kit_it, SY.kit_bi, SY.kit_bb, SY.kit_tt, SY.kit_ti, SY.kit_tb, SY.kit_nt, SY.kit_ll, SY.kit_lt, Bool.not_true, Bool.not_false, if_true, if_false, reduceIte, Bool.false_eq_true, true_and, and_true, and_self])
      have e : S (l.take i) ++ S [c] = S (l.take i ++ [c]) := SX.S_cat _ _
      refine ⟨by omega, by omega, by omega, ?_, ?_⟩
      · rw [e, lenS, List.length_append, l1]; simp only [List.length_cons, List.length_nil]; omega
      · rw [cat3]
        exact h2 _ (by simp only [List.length_append, l1, l2, List.length_cons, List.length_nil]; omega) (((as.take i).app ac).app (as.drop _))
  · exact h2 l (by omega) as
theorem sp_l_spoilt_mk {r : Addr} {l : List Nat} (hr : T r = some .row) (hl : l.length ≤ 20000) (as : Asc l) (h : ∀ m : List Nat, m.length ≤ l.length + 1 → Asc m → P (.str (S m)) T) : sp_l_spoilt [.ptr r, .str (S l)] T P X := lock_at ⟨r, l, rfl, hr, rfl, hl, as, h⟩
/-- tens -/
noncomputable def sp_l_tens : DSp := lock <| sp1 fun a T P _ => ∃ n : Nat, a = .int (n : Int) ∧ n ≤ 100 ∧ P (.int (10 ^ n)) T
def b_l_tens : DS := (dAsg (dMul (dVar 1) (dC (.int 10))) 1)
def d_l_tens : DS := (dSeq (dAsg (dC (.int 1)) 1) (dSeq (dForR1 (dgName 2) (dCons (dVar 0) dNil) (dAsg (dMul (dVar 1) (dC (.int 10))) 1)) (dRet (dVar 1))))
theorem tens_loop {E : DX} {a : D} : ∀ (n : Nat) (lo x : Int) (y : Option D), (∀ y, E.nx [some a, some (.int (x * 10 ^ n)), y] T) → forL (dgName 2) b_l_tens E (rngL lo n) [some a, some (.int x), y] T
  | 0, lo, x, y, h => by
    have := h y
    rw [Int.pow_zero, Int.mul_one] at this
    exact this
  | n + 1, lo, x, y, h => by
    have ih := tens_loop (E := E) (a := a) n (lo + 1) (x * 10) (some (.int lo)) (fun y => by
      have := h y
      rw [Int.pow_succ, Int.mul_comm (10 ^ n) 10, ← Int.mul_assoc] at this
      exact this)
    show dgName 2 (.int lo) _ _ _ _
    generalize hq : forL (dgName 2) b_l_tens E (rngL (lo + 1) n) = nxt
    rw [hq] at ih
    unfold b_l_tens
    walk_at "dx"
    exact ⟨mulOk_r (by decide), ih⟩
theorem pure_l_tens {N : List Str} (hN : N.length = 3) : ∀ us T P X, sp_l_tens us T P X → d_l_tens (dend0 P X) (startD N us) T := by
  intro us T P X h
  obtain ⟨a, rfl, h1⟩ := sp1.of (lock_of h)
  have e0 : startD N [a] = [some a, none, none] := by unfold startD; rw [hN]; rfl
  rw [e0]; clear e0; unfold d_l_tens
  obtain ⟨n, rfl, hn, h2⟩ := h1
  generalize hb : (dAsg (dMul (dVar 1) (dC (.int 10))) 1) = bb
  walk_at "dz"
  refine ⟨⟨by omega, by omega⟩, ?_⟩
  rw [show ((n : Int)).toNat = n by omega]
  subst hb
  refine tens_loop n 0 1 none fun y => ?_
  rw [Int.one_mul]
  exact h2
theorem sp_l_tens_mk {n : Nat} (hn : n ≤ 100) (h : P (.int (10 ^ n)) T) : sp_l_tens [.int (n : Int)] T P X := lock_at ⟨n, rfl, hn, h⟩
/-- figures with noughts ahead -/
theorem zfill_num (n : Nat) (i : Int) : ∃ l, Txt.zfill (S (TL.numL n)) i = S l ∧ Asc l ∧ l.length ≤ (TL.numL n).length + i.toNat := by
  unfold Txt.zfill
  split
  · exact ⟨TL.numL n, rfl, Asc.num n, by omega⟩
  · generalize hm : i.toNat - (S (TL.numL n)).length = m
    refine ⟨List.replicate m 48 ++ TL.numL n, ?_, ?_, ?_⟩
    · have e0 : zfilled (S (TL.numL n)) m = Builtin.Str.padded (S (TL.numL n)) m 0 48 := by
        unfold zfilled
        split
        · rename_i h
          exfalso
          have h' : (TL.numL n)[0]? = some 43 := by simpa using h
          have : (43 : Nat) ∈ TL.numL n := List.mem_of_getElem? h'
          have := numL_fig this
          cases this
        · rename_i h
          exfalso
          have h' : (TL.numL n)[0]? = some 45 := by simpa using h
          have : (45 : Nat) ∈ TL.numL n := List.mem_of_getElem? h'
          have := numL_fig this
          cases this
        · rfl
      rw [e0]
      refine TL.ext_tl ?_
      show (Array.replicate m 48 ++ (TL.numL n).toArray ++ Array.replicate 0 48).toList = _
      simp
    · refine Asc.app (fun c hc => ?_) (Asc.num n)
      rw [(List.mem_replicate.mp hc).2]
      decide
    · rw [List.length_append, List.length_replicate, ← hm]
      omega
noncomputable def sp_l_word_of : DSp := lock <| sp1 fun a T P _ => ∃ r, a = .ptr r ∧ T r = some .row ∧ ∀ l : List Nat, l.length ≤ 150 → Asc l → P (.str (S l)) T
def d_l_word_of_t2 : DS := (dRet (dZfill (dStrI (dCall sp_l_take (dCons (dVar 0) (dCons (dCall sp_l_tens (dCons (dVar 1) dNil)) dNil)))) (dVar 1)))
def d_l_word_of : DS := (dSeq (dAsg (dAdd (dC (.int 1)) (dCall sp_l_take (dCons (dVar 0) (dCons (dC (.int 4)) dNil)))) 1) (dSeq (dIf (dTst (dEq (dCall sp_l_take (dCons (dVar 0) (dCons (dC (.int 4)) dNil))) (dC (.int 3)))) (dAsg (dAdd (dC (.int 59)) (dCall sp_l_take (dCons (dVar 0) (dCons (dC (.int 3)) dNil)))) 1) dNext) d_l_word_of_t2))
theorem word_end {r : Addr} {n : Nat} (hn : n ≤ 61) (hr : T r = some .row) (h2 : ∀ l : List Nat, l.length ≤ 150 → Asc l → P (.str (S l)) T) : d_l_word_of_t2 (dend0 P X) [some (.ptr r), some (.int (n : Int))] T := by
  unfold d_l_word_of_t2
  walk_at "dz"
  refine sp_l_tens_mk (by omega) ?_
  have hp : (0 : Int) < 10 ^ n := Int.pow_pos (by decide)
  have hle : (10 : Int) ^ n ≤ 10 ^ 61 := by
    have : (10 : Nat) ^ n ≤ 10 ^ 61 := Nat.pow_le_pow_right (by decide) hn
    exact_mod_cast this
  (try simp -dsimp (maxSteps := 3000000) only [lenS, ↓SY.someOf_z, ↓SY.int1_z, ↓SY.int2_z, ↓SY.bl1_z, ↓SY.optK_z, ↓SY.seqK_z, ↓SY.ixD_z, ↓SY.addD_z, ↓SY.lenD_z, ↓SY.slD_z, ↓SY.setD_z, ↓SY.appD_z, ↓SY.popD_z, ↓SY.dgsK_z, ↓SY.one_z, ↓SY.two_z, ↓SY.intK_z, ↓SY.rng1_z, ↓SY.rng2_z, ↓SY.frzK_z, ↓SY.forL_z, ↓SY.lcL_z, ↓SY.dSeq_z, SY.someZ_s, SY.int1Z_s, SY.int2Z_s, SY.bl1Z_s, SY.optZ_s, SY.addZ_i, SY.addZ_s, SY.addZ_t, SY.addZ_l, SY.addZ_p, SY.lenZ_t, SY.lenZ_l, SY.lenZ_s, SY.lenZ_p, SY.slZ_t, SY.slZ_l, SY.slZ_s, SY.slZ_p, SY.setZ_s, SY.appZ_s, SY.popZ_s, SY.dgsZ_s, SY.nilK_s, SY.oneZ_s, SY.twoZ_s, SY.intZ_i, SY.intZ_b, SY.rng1Z_s, SY.rng2Z_s, SY.frzZ_p, SY.frzZ_l, SY.frzZ_t, SY.forZ_nil, SY.forZ_cons, SY.lcZ_nil, SY.lcZ_cons, SY.goZ_s, ↓SY.sq_nx, ↓SY.sq_rt, ↓SY.sq_bk, ↓SY.sq_ct, ↓SY.sq_ex, ↓SY.lp_nx, ↓SY.lp_ct, ↓SY.lp_bk, ↓SY.lp_rt, ↓SY.lp_ex, SY.dAsg, SY.dRet, SY.dRetN, SY.dNext, SY.dIf, SY.dTst, SY.dC, SY.dVar, SY.dI, SY.dI0, SY.dMul, SY.dDiv, SY.dMod, SY.dPow, SY.dSub, SY.dLt, SY.dLe, SY.dGt, SY.dGe, SY.dNeg, SY.dAdd, SY.dIx, SY.dNil, SY.dCons, SY.dTup, SY.dLst, SY.dLstM, ↓SY.dCall_z, SY.dAbs, SY.dLen, SY.dTuple, SY.dList, SY.dListM, SY.dEq, SY.dNe, SY.dIsN, SY.dNotN, SY.dIsB, SY.dNotB, SY.dFrz, SY.dRaise, SY.dTryAs, SY.dTryOnly, SY.dIsE, SY.dtAnd, SY.dtOr, SY.dtNot, SY.dAnd, SY.dOr, SY.dNot, SY.dIsi, SY.dAll, SY.dSum, SY.dInt, SY.dSl, SY.dNoO, SY.dSomeO, SY.dDrop, SY.dAug, SY.dPar, SY.dAsgG, SY.dgName, SY.dgTup, SY.dgsNil, SY.dgsName, SY.dgSub, SY.dApp, SY.dPopAt, SY.dFor, SY.dForR1, SY.dForR2, SY.dForE, SY.dLc, SY.dLcR, SY.dLcRM, SY.rngL, SY.enumL, SY.frozen_tup, SY.frozen_lst, SY.frozen_scr, SY.frozL_lst, SY.frozL_scr, SY.seqOf_tup, SY.seqOf_lst, SY.seqOf_scr, SY.seqOf_ptr, SY.seqOf_int, SY.seqOf_str, SY.lstOf_lst, SY.lstOf_scr, SY.lstOf_ptr, SY.mlst_lst, SY.plst_lst, SY.plst_ptr, SY.isPtrL, SY.tyN, SY.isNon, SY.blsOf, SY.intsOf, SY.dend0, SY.dend, SY.startD, SY.eqOk_int, SY.eqv_int, SY.atI0, SY.atI1, SY.atI2, SY.atI3, SY.atI4, SY.atI5, SY.ixN0, decide_true, decide_false, Int.reduceEq, Int.reduceLT, Int.reduceLE, SY.ixN_21, SY.ixN_31, SY.ixN_32, SY.ixN_41, SY.ixN_42, SY.ixN_43, SY.seqIx0, SY.updT_same, SY.updT_updT, List.map_cons, List.map_nil, List.length_cons, List.length_nil, List.replicate, List.cons_append, List.nil_append, List.getD_cons_zero, List.getD_cons_succ, List.set_cons_zero, List.set_cons_succ, List.getElem?_cons_zero, List.eraseIdx_cons_zero, Option.isSome_some, Option.map_some, Int.reduceToNat, Int.reducePow, Int.reduceAdd, Int.reduceMul, Nat.zero_lt_succ, Nat.reduceLT, Nat.sub_self, Nat.reduceSub, Nat.reduceAdd, Nat.reduceLeDiff, Nat.zero_add, SY.kit_ii, SY.kit_ib, SY.kit_it, SY.kit_bi, SY.kit_bb, SY.kit_tt, SY.kit_ti, SY.kit_tb, SY.kit_nt, SY.kit_ll, SY.kit_lt, Bool.not_true, Bool.not_false, if_true, if_false, reduceIte, Bool.false_eq_true, true_and, and_true, and_self])
  refine sp_take_mk hr hp (Bd.rng (m := 10 ^ 61) (by omega) hle (Bd.lit (by decide))) fun k k0 k1 => ?_
  obtain ⟨i, rfl⟩ := Int.eq_ofNat_of_zero_le k0
  have hi : i < 10 ^ 61 := by omega
  (try simp -dsimp (maxSteps := 3000000) only [str_num, ↓SY.str1_z, SY.str1Z_s, SY.isStrD_s, SY.dStrI, SY.dIntS, SY.dSplit, SY.dSplitF, SY.dM1, SY.dFind, SY.dZfill, SY.dJoin, SY.splitD, SY.splitFD, SY.findD, SY.zfillD, SY.joinD, SY.dInS, SY.dNotInS, SY.inD, SY.notInD, SY.dIxS, SY.ixSD, SY.dSlS, SY.dForS, SY.dMax, SY.dLcS, SY.eqv_S, ↓SY.someOf_z, ↓SY.int1_z, ↓SY.int2_z, ↓SY.bl1_z, ↓SY.optK_z, ↓SY.seqK_z, ↓SY.ixD_z, ↓SY.addD_z, ↓SY.lenD_z, ↓SY.slD_z, ↓SY.setD_z, ↓SY.appD_z, ↓SY.popD_z, ↓SY.dgsK_z, ↓SY.one_z, ↓SY.two_z, ↓SY.intK_z, ↓SY.rng1_z, ↓SY.rng2_z, ↓SY.frzK_z, ↓SY.forL_z, ↓SY.lcL_z, ↓SY.dSeq_z, SY.someZ_s, SY.int1Z_s, SY.int2Z_s, SY.bl1Z_s, SY.optZ_s, SY.addZ_i, SY.addZ_s, SY.addZ_t, SY.addZ_l, SY.addZ_p, SY.lenZ_t, SY.lenZ_l, SY.lenZ_s, SY.lenZ_p, SY.slZ_t, SY.slZ_l, SY.slZ_s, SY.slZ_p, SY.setZ_s, SY.appZ_s, SY.popZ_s, SY.dgsZ_s, SY.nilK_s, SY.oneZ_s, SY.twoZ_s, SY.intZ_i, SY.intZ_b, SY.rng1Z_s, SY.rng2Z_s, SY.frzZ_p, SY.frzZ_l, SY.frzZ_t, SY.forZ_nil, SY.forZ_cons, SY.lcZ_nil, SY.lcZ_cons, SY.goZ_s, ↓SY.sq_nx, ↓SY.sq_rt, ↓SY.sq_bk, ↓SY.sq_ct, ↓SY.sq_ex, ↓SY.lp_nx, ↓SY.lp_ct, ↓SY.lp_bk, ↓SY.lp_rt, ↓SY.lp_ex, SY.dAsg, SY.dRet, SY.dRetN, SY.dNext, SY.dIf, SY.dTst, SY.dC, SY.dVar, SY.dI, SY.dI0, SY.dMul, SY.dDiv, SY.dMod, SY.dPow, SY.dSub, SY.dLt, SY.dLe, SY.dGt, SY.dGe, SY.dNeg, SY.dAdd, SY.dIx, SY.dNil, SY.dCons, SY.dTup, SY.dLst, SY.dLstM, ↓SY.dCall_z, SY.dAbs, SY.dLen, SY.dTuple, SY.dList, SY.dListM, SY.dEq, SY.dNe, SY.dIsN, SY.dNotN, SY.dIsB, SY.dNotB, SY.dFrz, SY.dRaise, SY.dTryAs, SY.dTryOnly, SY.dIsE, SY.dtAnd, SY.dtOr, SY.dtNot, SY.dAnd, SY.dOr, SY.dNot, SY.dIsi, SY.dAll, SY.dSum, SY.dInt, SY.dSl, SY.dNoO, SY.dSomeO, SY.dDrop, SY.dAug, SY.dPar, SY.dAsgG, SY.dgName, SY.dgTup, SY.dgsNil, SY.dgsName, SY.dgSub, SY.dApp, SY.dPopAt, SY.dFor, SY.dForR1, SY.dForR2, SY.dForE, SY.dLc, SY.dLcR, SY.dLcRM, SY.rngL, SY.enumL, SY.frozen_tup, SY.frozen_lst, SY.frozen_scr, SY.frozL_lst, SY.frozL_scr, SY.seqOf_tup, SY.seqOf_lst, SY.seqOf_scr, SY.seqOf_ptr, SY.seqOf_int, SY.seqOf_str, SY.lstOf_lst, SY.lstOf_scr, SY.lstOf_ptr, SY.mlst_lst, SY.plst_lst, SY.plst_ptr, SY.isPtrL, SY.tyN, SY.isNon, SY.blsOf, SY.intsOf, SY.dend0, SY.dend, SY.startD, SY.eqOk_int, SY.eqv_int, SY.atI0, SY.atI1, SY.atI2, SY.atI3, SY.atI4, SY.atI5, SY.ixN0, decide_true, decide_false, Int.reduceEq, Int.reduceLT, Int.reduceLE, SY.ixN_21, SY.ixN_31, SY.ixN_32, SY.ixN_41, SY.ixN_42, SY.ixN_43, SY.seqIx0, SY.updT_same, SY.updT_updT, List.map_cons, List.map_nil, List.length_cons, List.length_nil, List.replicate, List.cons_append, List.nil_append, List.getD_cons_zero, List.getD_cons_succ, List.set_cons_zero, List.set_cons_succ, List.getElem?_cons_zero, List.eraseIdx_cons_zero, Option.isSome_some, Option.map_some, Int.reduceToNat, Int.reducePow, Int.reduceAdd, Int.reduceMul, Nat.zero_lt_succ, Nat.reduceLT, Nat.sub_self, Nat.reduceSub, Nat.reduceAdd, Nat.reduceLeDiff, Nat.zero_add, SY.kit_ii, SY.kit_ib, SY.kit_it, SY.kit_bi, SY.kit_bb, SY.kit_tt, SY.kit_ti, SY.kit_tb, SY.kit_nt, SY.kit_ll, SY.kit_lt, Bool.not_true, Bool.not_false, if_true, if_false, reduceIte, Bool.false_eq_true, true_and, and_true, and_self])
  have en : numI ((i : Nat) : Int) = TL.numL i := by unfold numI; rw [if_neg (by omega)]; rfl
  refine ⟨⟨Nat.lt_of_lt_of_le (PySem.Flt.log2_lt_of (k := 210) (by decide) (Nat.lt_trans (show ((i : Nat) : Int).natAbs < 10 ^ 61 by omega) (by decide))) (by decide)⟩, ⟨?_⟩, ?_⟩
  · have : n ≤ 61 := hn
    have z : 61 ≤ sizeLine := by decide
    unfold PadOk fitsSsize Builtin.Str.tooLong
    simp
    omega
  · rw [en]
    obtain ⟨l, e, as, hl⟩ := zfill_num i (n : Int)
    rw [e]
    have := TL.numL_len (n := i) (k := 61) (by decide) hi
    exact h2 l (by omega) as
theorem pure_l_word_of {N : List Str} (hN : N.length = 2) : ∀ us T P X, sp_l_word_of us T P X → d_l_word_of (dend0 P X) (startD N us) T := by
  intro us T P X h
  obtain ⟨a, rfl, h1⟩ := sp1.of (lock_of h)
  have e0 : startD N [a] = [some a, none] := by unfold startD; rw [hN]; rfl
  rw [e0]; clear e0; unfold d_l_word_of
  obtain ⟨r, rfl, hr, h2⟩ := h1
  generalize ht : d_l_word_of_t2 = t2
  walk_at "dz"
  refine sp_take_mk hr (by decide) (Bd.lit (by decide)) fun k k0 k1 => ?_
  walk_at "dz"
  refine sp_take_mk hr (by decide) (Bd.lit (by decide)) fun j j0 j1 => ?_
  walk_at "dz"
  cases hj : decide (j = 3)
  · walk_at "dz"
    subst ht
    rw [show (1 : Int) + k = (((1 + k).toNat : Nat) : Int) by omega]
    exact word_end (by omega) hr h2
  · walk_at "dz"
    refine sp_take_mk hr (by decide) (Bd.lit (by decide)) fun i i0 i1 => ?_
    walk_at "dz"
    subst ht
    rw [show (59 : Int) + i = (((59 + i).toNat : Nat) : Int) by omega]
    exact word_end (by omega) hr h2
theorem sp_l_word_of_mk {r : Addr} (hr : T r = some .row) (h : ∀ l : List Nat, l.length ≤ 150 → Asc l → P (.str (S l)) T) : sp_l_word_of [.ptr r] T P X := lock_at ⟨r, rfl, hr, h⟩
noncomputable def sp_l_number_word : DSp := lock <| sp1 fun a T P _ => ∃ r, a = .ptr r ∧ T r = some .row ∧ ∀ l : List Nat, l.length ≤ 400 → Asc l → P (.str (S l)) T
def d_l_number_word_t4 : DS := (dSeq (dIf (dTst (dEq (dCall sp_l_take (dCons (dVar 0) (dCons (dC (.int 3)) dNil))) (dC (.int 2)))) (dAsg (dAdd (dC (.str (PySem.Str.ofString "-"))) (dVar 1)) 1) dNext) (dRet (dVar 1)))
def d_l_number_word : DS := (dSeq (dAsg (dCall sp_l_word_of (dCons (dVar 0) dNil)) 1) (dSeq (dAsg (dCall sp_l_take (dCons (dVar 0) (dCons (dC (.int 6)) dNil))) 2) (dSeq (dIf (dtOr (dTst (dEq (dVar 2) (dC (.int 0)))) (dTst (dEq (dVar 2) (dC (.int 1))))) (dAsg (dAdd (dAdd (dVar 1) (dC (.str (PySem.Str.ofString "/")))) (dCall sp_l_word_of (dCons (dVar 0) dNil))) 1) dNext) (dSeq (dIf (dTst (dEq (dVar 2) (dC (.int 2)))) (dAsg (dAdd (dAdd (dVar 1) (dC (.str (PySem.Str.ofString "/")))) (dStrI (dAdd (dC (.int 1)) (dCall sp_l_take (dCons (dVar 0) (dCons (dC (.int 12)) dNil)))))) 1) dNext) d_l_number_word_t4))))
theorem nw_end {r : Addr} {l : List Nat} {a2 : Option D} (hr : T r = some .row) (hl : l.length ≤ 399) (as : Asc l) (h2 : ∀ l : List Nat, l.length ≤ 400 → Asc l → P (.str (S l)) T) : d_l_number_word_t4 (dend0 P X) [some (.ptr r), some (.str (S l)), a2] T := by
  unfold d_l_number_word_t4
  walk_at "dz"
  refine sp_take_mk hr (by decide) (Bd.lit (by decide)) fun k k0 k1 => ?_
  walk_at "dz"
  cases hk : decide (k = 2)
  · exact h2 l (by omega) as
  · (try simp -dsimp (maxSteps := 3000000) only [lit_minus, lenS, ↓SY.str1_z, SY.str1Z_s, SY.isStrD_s, SY.dStrI, SY.dIntS, SY.dSplit, SY.dSplitF, SY.dM1, SY.dFind, SY.dZfill, SY.dJoin, SY.splitD, SY.splitFD, SY.findD, SY.zfillD, SY.joinD, SY.dInS, SY.dNotInS, SY.inD, SY.notInD, SY.dIxS, SY.ixSD, SY.dSlS, SY.dForS, SY.dMax, SY.dLcS, SY.eqv_S, ↓SY.someOf_z, ↓SY.int1_z, ↓SY.int2_z, ↓SY.bl1_z, ↓SY.optK_z, ↓SY.seqK_z, ↓SY.ixD_z, ↓SY.addD_z, ↓SY.lenD_z, ↓SY.slD_z, ↓SY.setD_z, ↓SY.appD_z, ↓SY.popD_z, ↓SY.dgsK_z, ↓SY.one_z, ↓SY.two_z, ↓SY.intK_z, ↓SY.rng1_z, ↓SY.rng2_z, ↓SY.frzK_z, ↓SY.forL_z, ↓SY.lcL_z, ↓SY.dSeq_z, SY.someZ_s, SY.int1Z_s, SY.int2Z_s, SY.bl1Z_s, SY.optZ_s, SY.addZ_i, SY.addZ_s, SY.addZ_t, SY.addZ_l, SY.addZ_p, SY.lenZ_t, SY.lenZ_l, SY.lenZ_s, SY.lenZ_p, SY.slZ_t, SY.slZ_l, SY.slZ_s, SY.slZ_p, SY.setZ_s, SY.appZ_s, SY.popZ_s, SY.dgsZ_s, SY.nilK_s, SY.oneZ_s, SY.twoZ_s, SY.intZ_i, SY.intZ_b, SY.rng1Z_s, SY.rng2Z_s, SY.frzZ_p, SY.frzZ_l, SY.frzZ_t, SY.forZ_nil, SY.forZ_cons, SY.lcZ_nil, SY.lcZ_cons, SY.goZ_s, ↓SY.sq_nx, ↓SY.sq_rt, ↓SY.sq_bk, ↓SY.sq_ct, ↓SY.sq_ex, ↓SY.lp_nx, ↓SY.lp_ct, ↓SY.lp_bk, ↓SY.lp_rt, ↓SY.lp_ex, SY.dAsg, SY.dRet, SY.dRetN, SY.dNext, SY.dIf, SY.dTst, SY.dC, SY.dVar, SY.dI, SY.dI0, SY.dMul, SY.dDiv, SY.dMod, SY.dPow, SY.dSub, SY.dLt, SY.dLe, SY.dGt, SY.dGe, SY.dNeg, SY.dAdd, SY.dIx, SY.dNil, SY.dCons, SY.dTup, SY.dLst, SY.dLstM, ↓SY.dCall_z, SY.dAbs, SY.dLen, SY.dTuple, SY.dList, SY.dListM, SY.dEq, SY.dNe, SY.dIsN, SY.dNotN, SY.dIsB, SY.dNotB, SY.dFrz, SY.dRaise, SY.dTryAs, SY.dTryOnly, SY.dIsE, SY.dtAnd, SY.dtOr, SY.dtNot, SY.dAnd, SY.dOr, SY.dNot, SY.dIsi, SY.dAll, SY.dSum, SY.dInt, SY.dSl, SY.dNoO, SY.dSomeO, SY.dDrop, SY.dAug, SY.dPar, SY.dAsgG, SY.dgName, SY.dgTup, SY.dgsNil, SY.dgsName, SY.dgSub, SY.dApp, SY.dPopAt, SY.dFor, SY.dForR1, SY.dForR2, SY.dForE, SY.dLc, SY.dLcR, SY.dLcRM, SY.rngL, SY.enumL, SY.frozen_tup, SY.frozen_lst, SY.frozen_scr, SY.frozL_lst, SY.frozL_scr, SY.seqOf_tup, SY.seqOf_lst, SY.seqOf_scr, SY.seqOf_ptr, SY.seqOf_int, SY.seqOf_str, SY.lstOf_lst, SY.lstOf_scr, SY.lstOf_ptr, SY.mlst_lst, SY.plst_lst, SY.plst_ptr, SY.isPtrL, SY.tyN, SY.isNon, SY.blsOf, SY.intsOf, SY.dend0, SY.dend, SY.startD, SY.eqOk_int, SY.eqv_int, SY.atI0, SY.atI1, SY.atI2, SY.atI3, SY.atI4, SY.atI5, SY.ixN0, decide_true, decide_false, Int.reduceEq, Int.reduceLT, Int.reduceLE, SY.ixN_21, SY.ixN_31, SY.ixN_32, SY.ixN_41, SY.ixN_42, SY.ixN_43, SY.seqIx0, SY.updT_same, SY.updT_updT, List.map_cons, List.map_nil, List.length_cons, List.length_nil, List.replicate, List.cons_append, List.nil_append, List.getD_cons_zero, List.getD_cons_succ, List.set_cons_zero, List.set_cons_succ, List.getElem?_cons_zero, List.eraseIdx_cons_zero, Option.isSome_some, Option.map_some, Int.reduceToNat, Int.reducePow, Int.reduceAdd, Int.reduceMul, Nat.zero_lt_succ, Nat.reduceLT, Nat.sub_self, Nat.reduceSub, Nat.reduceAdd, Nat.reduceLeDiff, Nat.zero_add, SY.kit_ii, SY.kit_ib, SY.kit_it, SY.kit_bi, SY.kit_bb, SY.kit_tt, SY.kit_ti, SY.kit_tb, SY.kit_nt, SY.kit_ll, SY.kit_lt, Bool.not_true, Bool.not_false, if_true, if_false, reduceIte, Bool.false_eq_true, true_and, and_true, and_self])
    refine ⟨by omega, ?_⟩
    rw [show S [45] ++ S l = S ([45] ++ l) from SX.S_cat _ _]
    exact h2 _ (by simp only [List.length_append, List.length_cons, List.length_nil]; omega) (as.cons (by decide))
theorem pure_l_number_word {N : List Str} (hN : N.length = 3) : ∀ us T P X, sp_l_number_word us T P X → d_l_number_word (dend0 P X) (startD N us) T := by
  intro us T P X h
  obtain ⟨a, rfl, h1⟩ := sp1.of (lock_of h)
  have e0 : startD N [a] = [some a, none, none] := by unfold startD; rw [hN]; rfl
  rw [e0]; clear e0; unfold d_l_number_word
  obtain ⟨r, rfl, hr, h2⟩ := h1
  generalize ht : d_l_number_word_t4 = t4
  walk_at "dz"
  refine sp_l_word_of_mk hr fun l hl as => ?_
  walk_at "dz"
  refine sp_take_mk hr (by decide) (Bd.lit (by decide)) fun k k0 k1 => ?_
  have cat : ∀ a b : List Nat, S a ++ S [47] ++ S b = S (a ++ [47] ++ b) := fun a b => cat3 _ _ _
  have a47 : Asc [47] := by unfold Asc; decide
  have two : ∀ m : List Nat, m.length ≤ 200 → Asc m → (S l).length + (S [47]).length ≤ 1000000 ∧ (S l ++ S [47]).length + (S m).length ≤ 1000000 := fun m hm _ => by
    rw [show S l ++ S [47] = S (l ++ [47]) from SX.S_cat _ _]
    simp only [lenS, List.length_append, List.length_cons, List.length_nil]
    omega
  walk_at "dz"
  by_cases e0 : k = 0
  · subst e0
    (try simp -dsimp (maxSteps := 3000000) only [lit_stroke, ↓SY.str1_z, SY.str1Z_s, SY.isStrD_s, SY.dStrI, SY.dIntS, SY.dSplit, SY.dSplitF, SY.dM1, SY.dFind, SY.dZfill, SY.dJoin, SY.splitD, SY.splitFD, SY.findD, SY.zfillD, SY.joinD, SY.dInS, SY.dNotInS, SY.inD, SY.notInD, SY.dIxS, SY.ixSD, SY.dSlS, SY.dForS, SY.dMax, SY.dLcS, SY.eqv_S, ↓SY.someOf_z, ↓SY.int1_z, ↓SY.int2_z, ↓SY.bl1_z, ↓SY.optK_z, ↓SY.seqK_z, ↓SY.ixD_z, ↓SY.addD_z, ↓SY.lenD_z, ↓SY.slD_z, ↓SY.setD_z, ↓SY.appD_z, ↓SY.popD_z, ↓SY.dgsK_z, ↓SY.one_z, ↓SY.two_z, ↓SY.intK_z, ↓SY.rng1_z, ↓SY.rng2_z, ↓SY.frzK_z, ↓SY.forL_z, ↓SY.lcL_z, ↓SY.dSeq_z, SY.someZ_s, SY.int1Z_s, SY.int2Z_s, SY.bl1Z_s, SY.optZ_s, SY.addZ_i, SY.addZ_s, SY.addZ_t, SY.addZ_l, SY.addZ_p, SY.lenZ_t, SY.lenZ_l, SY.lenZ_s, SY.lenZ_p, SY.slZ_t, SY.slZ_l, SY.slZ_s, SY.slZ_p, SY.setZ_s, SY.appZ_s, SY.popZ_s, SY.dgsZ_s, SY.nilK_s, SY.oneZ_s, SY.twoZ_s, SY.intZ_i, SY.intZ_b, SY.rng1Z_s, SY.rng2Z_s, SY.frzZ_p, SY.frzZ_l, SY.frzZ_t, SY.forZ_nil, SY.forZ_cons, SY.lcZ_nil, SY.lcZ_cons, SY.goZ_s, ↓SY.sq_nx, ↓SY.sq_rt, ↓SY.sq_bk, ↓SY.sq_ct, ↓SY.sq_ex, ↓SY.lp_nx, ↓SY.lp_ct, ↓SY.lp_bk, ↓SY.lp_rt, ↓SY.lp_ex, SY.dAsg, SY.dRet, SY.dRetN, SY.dNext, SY.dIf, SY.dTst, SY.dC, SY.dVar, SY.dI, SY.dI0, SY.dMul, SY.dDiv, SY.dMod, SY.dPow, SY.dSub, SY.dLt, SY.dLe, SY.dGt, SY.dGe, SY.dNeg, SY.dAdd, SY.dIx, SY.dNil, SY.dCons, SY.dTup, SY.dLst, SY.dLstM, ↓SY.dCall_z, SY.dAbs, SY.dLen, SY.dTuple, SY.dList, SY.dListM, SY.dEq, SY.dNe, SY.dIsN, SY.dNotN, SY.dIsB, SY.dNotB, SY.dFrz, SY.dRaise, SY.dTryAs, SY.dTryOnly, SY.dIsE, SY.dtAnd, SY.dtOr, SY.dtNot, SY.dAnd, SY.dOr, SY.dNot, SY.dIsi, SY.dAll, SY.dSum, SY.dInt, SY.dSl, SY.dNoO, SY.dSomeO, SY.dDrop, SY.dAug, SY.dPar, SY.dAsgG, SY.dgName, SY.dgTup, SY.dgsNil, SY.dgsName, SY.dgSub, SY.dApp, SY.dPopAt, SY.dFor, SY.dForR1, SY.dForR2, SY.dForE, SY.dLc, SY.dLcR, SY.dLcRM, SY.rngL, SY.enumL, SY.frozen_tup, SY.frozen_lst, SY.frozen_scr, SY.frozL_lst, SY.frozL_scr, SY.seqOf_tup, SY.seqOf_lst, SY.seqOf_scr, SY.seqOf_ptr, SY.seqOf_int, SY.seqOf_str, SY.lstOf_lst, SY.lstOf_scr, SY.lstOf_ptr, SY.mlst_lst, SY.plst_lst, SY.plst_ptr, SY.isPtrL, SY.tyN, SY.isNon, SY.blsOf, SY.intsOf, SY.dend0, SY.dend, SY.startD, SY.eqOk_int, SY.eqv_int, SY.atI0, SY.atI1, SY.atI2, SY.atI3, SY.atI4, SY.atI5, SY.ixN0, decide_true, decide_false, Int.reduceEq, Int.reduceLT, Int.reduceLE, SY.ixN_21, SY.ixN_31, SY.ixN_32, SY.ixN_41, SY.ixN_42, SY.ixN_43, SY.seqIx0, SY.updT_same, SY.updT_updT, List.map_cons, List.map_nil, List.length_cons, List.length_nil, List.replicate, List.cons_append, List.nil_append, List.getD_cons_zero, List.getD_cons_succ, List.set_cons_zero, List.set_cons_succ, List.getElem?_cons_zero, List.eraseIdx_cons_zero, Option.isSome_some, Option.map_some, Int.reduceToNat, Int.reducePow, Int.reduceAdd, Int.reduceMul, Nat.zero_lt_succ, Nat.reduceLT, Nat.sub_self, Nat.reduceSub, Nat.reduceAdd, Nat.reduceLeDiff, Nat.zero_add, SY.kit_ii, SY.kit_ib, SY.kit_it, SY.kit_bi, SY.kit_bb, SY.kit_tt, SY.kit_ti, SY.kit_tb, SY.kit_nt, SY.kit_ll, SY.kit_lt, Bool.not_true, Bool.not_false, if_true, if_false, reduceIte, Bool.false_eq_true, true_and, and_true, and_self])
    have t1 := two [] (by simp) (fun _ z => by simp at z)
    refine ⟨t1.1, ?_⟩
    refine sp_l_word_of_mk hr fun m hm am => ?_
    have t2 := two m (by omega) am
    (try simp -dsimp (maxSteps := 3000000) only [lit_stroke, ↓SY.str1_z, SY.str1Z_s, SY.isStrD_s, SY.dStrI, SY.dIntS, SY.dSplit, SY.dSplitF, SY.dM1, SY.dFind, SY.dZfill, SY.dJoin, SY.splitD, SY.splitFD, SY.findD, SY.zfillD, SY.joinD, SY.dInS, SY.dNotInS, SY.inD, SY.notInD, SY.dIxS, SY.ixSD, SY.dSlS, SY.dForS, SY.dMax, SY.dLcS, SY.eqv_S, ↓SY.someOf_z, ↓SY.int1_z, ↓SY.int2_z, ↓SY.bl1_z, ↓SY.optK_z, ↓SY.seqK_z, ↓SY.ixD_z, ↓SY.addD_z, ↓SY.lenD_z, ↓SY.slD_z, ↓SY.setD_z, ↓SY.appD_z, ↓SY.popD_z, ↓SY.dgsK_z, ↓SY.one_z, ↓SY.two_z, ↓SY.intK_z, ↓SY.rng1_z, ↓SY.rng2_z, ↓SY.frzK_z, ↓SY.forL_z, ↓SY.lcL_z, ↓SY.dSeq_z, SY.someZ_s, SY.int1Z_s, SY.int2Z_s, SY.bl1Z_s, SY.optZ_s, SY.addZ_i, SY.addZ_s, SY.addZ_t, SY.addZ_l, SY.addZ_p, SY.lenZ_t, SY.lenZ_l, SY.lenZ_s, SY.lenZ_p, SY.slZ_t, SY.slZ_l, SY.slZ_s, SY.slZ_p, SY.setZ_s, SY.appZ_s, SY.popZ_s, SY.dgsZ_s, SY.nilK_s, SY.oneZ_s, SY.twoZ_s, SY.intZ_i, SY.intZ_b, SY.rng1Z_s, SY.rng2Z_s, SY.frzZ_p, SY.frzZ_l, SY.frzZ_t, SY.forZ_nil, SY.forZ_cons, SY.lcZ_nil, SY.lcZ_cons, SY.goZ_s, ↓SY.sq_nx, ↓SY.sq_rt, ↓SY.sq_bk, ↓SY.sq_ct, ↓SY.sq_ex, ↓SY.lp_nx, ↓SY.lp_ct, ↓SY.lp_bk, ↓SY.lp_rt, ↓SY.lp_ex, SY.dAsg, SY.dRet, SY.dRetN, SY.dNext, SY.dIf, SY.dTst, SY.dC, SY.dVar, SY.dI, SY.dI0, SY.dMul, SY.dDiv, SY.dMod, SY.dPow, SY.dSub, SY.dLt, SY.dLe, SY.dGt, SY.dGe, SY.dNeg, SY.dAdd, SY.dIx, SY.dNil, SY.dCons, SY.dTup, SY.dLst, SY.dLstM, ↓SY.dCall_z, SY.dAbs, SY.dLen, SY.dTuple, SY.dList, SY.dListM, SY.dEq, SY.dNe, SY.dIsN, SY.dNotN, SY.dIsB, SY.dNotB, SY.dFrz, SY.dRaise, SY.dTryAs, SY.dTryOnly, SY.dIsE, SY.dtAnd, SY.dtOr, SY.dtNot, SY.dAnd, SY.dOr, SY.dNot, SY.dIsi, SY.dAll, SY.dSum, SY.dInt, SY.dSl, SY.dNoO, SY.dSomeO, SY.dDrop, SY.dAug, SY.dPar, SY.dAsgG, SY.dgName, SY.dgTup, SY.dgsNil, SY.dgsName, SY.dgSub, SY.dApp, SY.dPopAt, SY.dFor, SY.dForR1, SY.dForR2, SY.dForE, SY.dLc, SY.dLcR, SY.dLcRM, SY.rngL, SY.enumL, SY.frozen_tup, SY.frozen_lst, SY.frozen_scr, SY.frozL_lst, SY.frozL_scr, SY.seqOf_tup, SY.seqOf_lst, SY.seqOf_scr, SY.seqOf_ptr, SY.seqOf_int, SY.seqOf_str, SY.lstOf_lst, SY.lstOf_scr, SY.lstOf_ptr, SY.mlst_lst, SY.plst_lst, SY.plst_ptr, SY.isPtrL, SY.tyN, SY.isNon, SY.blsOf, SY.intsOf, SY.dend0, SY.dend, SY.startD, SY.eqOk_int, SY.eqv_int, SY.atI0, SY.atI1, SY.atI2, SY.atI3, SY.atI4, SY.atI5, SY.ixN0, decide_true, decide_false, Int.reduceEq, Int.reduceLT, Int.reduceLE, SY.ixN_21, SY.ixN_31, SY.ixN_32, SY.ixN_41, SY.ixN_42, SY.ixN_43, SY.seqIx0, SY.updT_same, SY.updT_updT, List.map_cons, List.map_nil, List.length_cons, List.length_nil, List.replicate, List.cons_append, List.nil_append, List.getD_cons_zero, List.getD_cons_succ, List.set_cons_zero, List.set_cons_succ, List.getElem?_cons_zero, List.eraseIdx_cons_zero, Option.isSome_some, Option.map_some, Int.reduceToNat, Int.reducePow, Int.reduceAdd, Int.reduceMul, Nat.zero_lt_succ, Nat.reduceLT, Nat.sub_self, Nat.reduceSub, Nat.reduceAdd, Nat.reduceLeDiff, Nat.zero_add, SY.kit_ii, SY.kit_ib, SY.kit_it, SY.kit_bi, SY.kit_bb, SY.kit_tt, SY.kit_ti, SY.kit_tb, SY.kit_nt, SY.kit_ll, SY.kit_lt, Bool.not_true, Bool.not_false, if_true, if_false, reduceIte, Bool.false_eq_true, true_and, and_true, and_self])
    refine ⟨t2.2, ?_⟩
    rw [cat]
    subst ht
    exact nw_end hr (by simp only [List.length_append, List.length_cons, List.length_nil]; omega) ((as.app a47).app am) h2
  rw [decide_eq_false e0]
  walk_at "dz"
  by_cases e1 : k = 1
  · subst e1
    (try simp -dsimp (maxSteps := 3000000) only [lit_stroke, ↓SY.str1_z, SY.str1Z_s, SY.isStrD_s, SY.dStrI, SY.dIntS, SY.dSplit, SY.dSplitF, SY.dM1, SY.dFind, SY.dZfill, SY.dJoin, SY.splitD, SY.splitFD, SY.findD, SY.zfillD, SY.joinD, SY.dInS, SY.dNotInS, SY.inD, SY.notInD, SY.dIxS, SY.ixSD, SY.dSlS, SY.dForS, SY.dMax, SY.dLcS, SY.eqv_S, ↓SY.someOf_z, ↓SY.int1_z, ↓SY.int2_z, ↓SY.bl1_z, ↓SY.optK_z, ↓SY.seqK_z, ↓SY.ixD_z, ↓SY.addD_z, ↓SY.lenD_z, ↓SY.slD_z, ↓SY.setD_z, ↓SY.appD_z, ↓SY.popD_z, ↓SY.dgsK_z, ↓SY.one_z, ↓SY.two_z, ↓SY.intK_z, ↓SY.rng1_z, ↓SY.rng2_z, ↓SY.frzK_z, ↓SY.forL_z, ↓SY.lcL_z, ↓SY.dSeq_z, SY.someZ_s, SY.int1Z_s, SY.int2Z_s, SY.bl1Z_s, SY.optZ_s, SY.addZ_i, SY.addZ_s, SY.addZ_t, SY.addZ_l, SY.addZ_p, SY.lenZ_t, SY.lenZ_l, SY.lenZ_s, SY.lenZ_p, SY.slZ_t, SY.slZ_l, SY.slZ_s, SY.slZ_p, SY.setZ_s, SY.appZ_s, SY.popZ_s, SY.dgsZ_s, SY.nilK_s, SY.oneZ_s, SY.twoZ_s, SY.intZ_i, SY.intZ_b, SY.rng1Z_s, SY.rng2Z_s, SY.frzZ_p, SY.frzZ_l, SY.frzZ_t, SY.forZ_nil, SY.forZ_cons, SY.lcZ_nil, SY.lcZ_cons, SY.goZ_s, ↓SY.sq_nx, ↓SY.sq_rt, ↓SY.sq_bk, ↓SY.sq_ct, ↓SY.sq_ex, ↓SY.lp_nx, ↓SY.lp_ct, ↓SY.lp_bk, ↓SY.lp_rt, ↓SY.lp_ex, SY.dAsg, SY.dRet, SY.dRetN, SY.dNext, SY.dIf, SY.dTst, SY.dC, SY.dVar, SY.dI, SY.dI0, SY.dMul, SY.dDiv, SY.dMod, SY.dPow, SY.dSub, SY.dLt, SY.dLe, SY.dGt, SY.dGe, SY.dNeg, SY.dAdd, SY.dIx, SY.dNil, SY.dCons, SY.dTup, SY.dLst, SY.dLstM, ↓SY.dCall_z, SY.dAbs, SY.dLen, SY.dTuple, SY.dList, SY.dListM, SY.dEq, SY.dNe, SY.dIsN, SY.dNotN, SY.dIsB, SY.dNotB, SY.dFrz, SY.dRaise, SY.dTryAs, SY.dTryOnly, SY.dIsE, SY.dtAnd, SY.dtOr, SY.dtNot, SY.dAnd, SY.dOr, SY.dNot, SY.dIsi, SY.dAll, SY.dSum, SY.dInt, SY.dSl, SY.dNoO, SY.dSomeO, SY.dDrop, SY.dAug, SY.dPar, SY.dAsgG, SY.dgName, SY.dgTup, SY.dgsNil, SY.dgsName, SY.dgSub, SY.dApp, SY.dPopAt, SY.dFor, SY.dForR1, SY.dForR2, SY.dForE, SY.dLc, SY.dLcR, SY.dLcRM, SY.rngL, SY.enumL, SY.frozen_tup, SY.frozen_lst, SY.frozen_scr, SY.frozL_lst, SY.frozL_scr, SY.seqOf_tup, SY.seqOf_lst, SY.seqOf_scr, SY.seqOf_ptr, SY.seqOf_int, SY.seqOf_str, SY.lstOf_lst, SY.lstOf_scr, SY.lstOf_ptr, SY.mlst_lst, SY.plst_lst, SY.plst_ptr, SY.isPtrL, SY.tyN, SY.isNon, SY.blsOf, SY.intsOf, SY.dend0, SY.dend, SY.startD, SY.eqOk_int, SY.eqv_int, SY.atI0, SY.atI1, SY.atI2, SY.atI3, SY.atI4, SY.atI5, SY.ixN0, decide_true, decide_false, Int.reduceEq, Int.reduceLT, Int.reduceLE, SY.ixN_21, SY.ixN_31, SY.ixN_32, SY.ixN_41, SY.ixN_42, SY.ixN_43, SY.seqIx0, SY.updT_same, SY.updT_updT, List.map_cons, List.map_nil, List.length_cons, List.length_nil, List.replicate, List.cons_append, List.nil_append, List.getD_cons_zero, List.getD_cons_succ, List.set_cons_zero, List.set_cons_succ, List.getElem?_cons_zero, List.eraseIdx_cons_zero, Option.isSome_some, Option.map_some, Int.reduceToNat, Int.reducePow, Int.reduceAdd, Int.reduceMul, Nat.zero_lt_succ, Nat.reduceLT, Nat.sub_self, Nat.reduceSub, Nat.reduceAdd, Nat.reduceLeDiff, Nat.zero_add, SY.kit_ii, SY.kit_ib, SY.kit_it, SY.kit_bi, SY.kit_bb, SY.kit_tt, SY.kit_ti, SY.kit_tb, SY.kit_nt, SY.kit_ll, SY.kit_lt, Bool.not_true, Bool.not_false, if_true, if_false, reduceIte, Bool.false_eq_true, true_and, and_true, and_self])
    have t1 := two [] (by simp) (fun _ z => by simp at z)
    refine ⟨t1.1, ?_⟩
    refine sp_l_word_of_mk hr fun m hm am => ?_
    have t2 := two m (by omega) am
    (try simp -dsimp (maxSteps := 3000000) only [lit_stroke, ↓SY.str1_z, SY.str1Z_s, SY.isStrD_s, SY.dStrI, SY.dIntS, SY.dSplit, SY.dSplitF, SY.dM1, SY.dFind, SY.dZfill, SY.dJoin, SY.splitD, SY.splitFD, SY.findD, SY.zfillD, SY.joinD, SY.dInS, SY.dNotInS, SY.inD, SY.notInD, SY.dIxS, SY.ixSD, SY.dSlS, SY.dForS, SY.dMax, SY.dLcS, SY.eqv_S, ↓SY.someOf_z, ↓SY.int1_z, ↓SY.int2_z, ↓SY.bl1_z, ↓SY.optK_z, ↓SY.seqK_z, ↓SY.ixD_z, ↓SY.addD_z, ↓SY.lenD_z, ↓SY.slD_z, ↓SY.setD_z, ↓SY.appD_z, ↓SY.popD_z, ↓SY.dgsK_z, ↓SY.one_z, ↓SY.two_z, ↓SY.intK_z, ↓SY.rng1_z, ↓SY.rng2_z, ↓SY.frzK_z, ↓SY.forL_z, ↓SY.lcL_z, ↓SY.dSeq_z, SY.someZ_s, SY.int1Z_s, SY.int2Z_s, SY.bl1Z_s, SY.optZ_s, SY.addZ_i, SY.addZ_s, SY.addZ_t, SY.addZ_l, SY.addZ_p, SY.lenZ_t, SY.lenZ_l, SY.lenZ_s, SY.lenZ_p, SY.slZ_t, SY.slZ_l, SY.slZ_s, SY.slZ_p, SY.setZ_s, SY.appZ_s, SY.popZ_s, SY.dgsZ_s, SY.nilK_s, SY.oneZ_s, SY.twoZ_s, SY.intZ_i, SY.intZ_b, SY.rng1Z_s, SY.rng2Z_s, SY.frzZ_p, SY.frzZ_l, SY.frzZ_t, SY.forZ_nil, SY.forZ_cons, SY.lcZ_nil, SY.lcZ_cons, SY.goZ_s, ↓SY.sq_nx, ↓SY.sq_rt, ↓SY.sq_bk, ↓SY.sq_ct, ↓SY.sq_ex, ↓SY.lp_nx, ↓SY.lp_ct, ↓SY.lp_bk, ↓SY.lp_rt, ↓SY.lp_ex, SY.dAsg, SY.dRet, SY.dRetN, SY.dNext, SY.dIf, SY.dTst, SY.dC, SY.dVar, SY.dI, SY.dI0, SY.dMul, SY.dDiv, SY.dMod, SY.dPow, SY.dSub, SY.dLt, SY.dLe, SY.dGt, SY.dGe, SY.dNeg, SY.dAdd, SY.dIx, SY.dNil, SY.dCons, SY.dTup, SY.dLst, SY.dLstM, ↓SY.dCall_z, SY.dAbs, SY.dLen, SY.dTuple, SY.dList, SY.dListM, SY.dEq, SY.dNe, SY.dIsN, SY.dNotN, SY.dIsB, SY.dNotB, SY.dFrz, SY.dRaise, SY.dTryAs, SY.dTryOnly, SY.dIsE, SY.dtAnd, SY.dtOr, SY.dtNot, SY.dAnd, SY.dOr, SY.dNot, SY.dIsi, SY.dAll, SY.dSum, SY.dInt, SY.dSl, SY.dNoO, SY.dSomeO, SY.dDrop, SY.dAug, SY.dPar, SY.dAsgG, SY.dgName, SY.dgTup, SY.dgsNil, SY.dgsName, SY.dgSub, SY.dApp, SY.dPopAt, SY.dFor, SY.dForR1, SY.dForR2, SY.dForE, SY.dLc, SY.dLcR, SY.dLcRM, SY.rngL, SY.enumL, SY.frozen_tup, SY.frozen_lst, SY.frozen_scr, SY.frozL_lst, SY.frozL_scr, SY.seqOf_tup, SY.seqOf_lst, SY.seqOf_scr, SY.seqOf_ptr, SY.seqOf_int, SY.seqOf_str, SY.lstOf_lst, SY.lstOf_scr, SY.lstOf_ptr, SY.mlst_lst, SY.plst_lst, SY.plst_ptr, SY.isPtrL, SY.tyN, SY.isNon, SY.blsOf, SY.intsOf, SY.dend0, SY.dend, SY.startD, SY.eqOk_int, SY.eqv_int, SY.atI0, SY.atI1, SY.atI2, SY.atI3, SY.atI4, SY.atI5, SY.ixN0, decide_true, decide_false, Int.reduceEq, Int.reduceLT, Int.reduceLE, SY.ixN_21, SY.ixN_31, SY.ixN_32, SY.ixN_41, SY.ixN_42, SY.ixN_43, SY.seqIx0, SY.updT_same, SY.updT_updT, List.map_cons, List.map_nil, List.length_cons, List.length_nil, List.replicate, List.cons_append, List.nil_append, List.getD_cons_zero, List.getD_cons_succ, List.set_cons_zero, List.set_cons_succ, List.getElem?_cons_zero, List.eraseIdx_cons_zero, Option.isSome_some, Option.map_some, Int.reduceToNat, Int.reducePow, Int.reduceAdd, Int.reduceMul, Nat.zero_lt_succ, Nat.reduceLT, Nat.sub_self, Nat.reduceSub, Nat.reduceAdd, Nat.reduceLeDiff, Nat.zero_add, SY.kit_ii, SY.kit_ib, SY.kit_it, SY.kit_bi, SY.kit_bb, SY.kit_tt, SY.kit_ti, SY.kit_tb, SY.kit_nt, SY.kit_ll, SY.kit_lt, Bool.not_true, Bool.not_false, if_true, if_false, reduceIte, Bool.false_eq_true, true_and, and_true, and_self])
    refine ⟨t2.2, ?_⟩
    rw [cat]
    subst ht
    exact nw_end hr (by simp only [List.length_append, List.length_cons, List.length_nil]; omega) ((as.app a47).app am) h2
  rw [decide_eq_false e1]
  walk_at "dz"
  by_cases e2 : k = 2
  · subst e2
    (try simp -dsimp (maxSteps := 3000000) only [lit_stroke, ↓SY.str1_z, SY.str1Z_s, SY.isStrD_s, SY.dStrI, SY.dIntS, SY.dSplit, SY.dSplitF, SY.dM1, SY.dFind, SY.dZfill, SY.dJoin, SY.splitD, SY.splitFD, SY.findD, SY.zfillD, SY.joinD, SY.dInS, SY.dNotInS, SY.inD, SY.notInD, SY.dIxS, SY.ixSD, SY.dSlS, SY.dForS, SY.dMax, SY.dLcS, SY.eqv_S, ↓SY.someOf_z, ↓SY.int1_z, ↓SY.int2_z, ↓SY.bl1_z, ↓SY.optK_z, ↓SY.seqK_z, ↓SY.ixD_z, ↓SY.addD_z, ↓SY.lenD_z, ↓SY.slD_z, ↓SY.setD_z, ↓SY.appD_z, ↓SY.popD_z, ↓SY.dgsK_z, ↓SY.one_z, ↓SY.two_z, ↓SY.intK_z, ↓SY.rng1_z, ↓SY.rng2_z, ↓SY.frzK_z, ↓SY.forL_z, ↓SY.lcL_z, ↓SY.dSeq_z, SY.someZ_s, SY.int1Z_s, SY.int2Z_s, SY.bl1Z_s, SY.optZ_s, SY.addZ_i, SY.addZ_s, SY.addZ_t, SY.addZ_l, SY.addZ_p, SY.lenZ_t, SY.lenZ_l, SY.lenZ_s, SY.lenZ_p, SY.slZ_t, SY.slZ_l, SY.slZ_s, SY.slZ_p, SY.setZ_s, SY.appZ_s, SY.popZ_s, SY.dgsZ_s, SY.nilK_s, SY.oneZ_s, SY.twoZ_s, SY.intZ_i, SY.intZ_b, SY.rng1Z_s, SY.rng2Z_s, SY.frzZ_p, SY.frzZ_l, SY.frzZ_t, SY.forZ_nil, SY.forZ_cons, SY.lcZ_nil, SY.lcZ_cons, SY.goZ_s, ↓SY.sq_nx, ↓SY.sq_rt, ↓SY.sq_bk, ↓SY.sq_ct, ↓SY.sq_ex, ↓SY.lp_nx, ↓SY.lp_ct, ↓SY.lp_bk, ↓SY.lp_rt, ↓SY.lp_ex, SY.dAsg, SY.dRet, SY.dRetN, SY.dNext, SY.dIf, SY.dTst, SY.dC, SY.dVar, SY.dI, SY.dI0, SY.dMul, SY.dDiv, SY.dMod, SY.dPow, SY.dSub, SY.dLt, SY.dLe, SY.dGt, SY.dGe, SY.dNeg, SY.dAdd, SY.dIx, SY.dNil, SY.dCons, SY.dTup, SY.dLst, SY.dLstM, ↓SY.dCall_z, SY.dAbs, SY.dLen, SY.dTuple, SY.dList, SY.dListM, SY.dEq, SY.dNe, SY.dIsN, SY.dNotN, SY.dIsB, SY.dNotB, SY.dFrz, SY.dRaise, SY.dTryAs, SY.dTryOnly, SY.dIsE, SY.dtAnd, SY.dtOr, SY.dtNot, SY.dAnd, SY.dOr, SY.dNot, SY.dIsi, SY.dAll, SY.dSum, SY.dInt, SY.dSl, SY.dNoO, SY.dSomeO, SY.dDrop, SY.dAug, SY.dPar, SY.dAsgG, SY.dgName, SY.dgTup, SY.dgsNil, SY.dgsName, SY.dgSub, SY.dApp, SY.dPopAt, SY.dFor, SY.dForR1, SY.dForR2, SY.dForE, SY.dLc, SY.dLcR, SY.dLcRM, SY.rngL, SY.enumL, SY.frozen_tup, SY.frozen_lst, SY.frozen_scr, SY.frozL_lst, SY.frozL_scr, SY.seqOf_tup, SY.seqOf_lst, SY.seqOf_scr, SY.seqOf_ptr, SY.seqOf_int, SY.seqOf_str, SY.lstOf_lst, SY.lstOf_scr, SY.lstOf_ptr, SY.mlst_lst, SY.plst_lst, SY.plst_ptr, SY.isPtrL, SY.tyN, SY.isNon, SY.blsOf, SY.intsOf, SY.dend0, SY.dend, SY.startD, SY.eqOk_int, SY.eqv_int, SY.atI0, SY.atI1, SY.atI2, SY.atI3, SY.atI4, SY.atI5, SY.ixN0, decide_true, decide_false, Int.reduceEq, Int.reduceLT, Int.reduceLE, SY.ixN_21, SY.ixN_31, SY.ixN_32, SY.ixN_41, SY.ixN_42, SY.ixN_43, SY.seqIx0, SY.updT_same, SY.updT_updT, List.map_cons, List.map_nil, List.length_cons, List.length_nil, List.replicate, List.cons_append, List.nil_append, List.getD_cons_zero, List.getD_cons_succ, List.set_cons_zero, List.set_cons_succ, List.getElem?_cons_zero, List.eraseIdx_cons_zero, Option.isSome_some, Option.map_some, Int.reduceToNat, Int.reducePow, Int.reduceAdd, Int.reduceMul, Nat.zero_lt_succ, Nat.reduceLT, Nat.sub_self, Nat.reduceSub, Nat.reduceAdd, Nat.reduceLeDiff, Nat.zero_add, SY.kit_ii, SY.kit_ib, SY.kit_it, SY.kit_bi, SY.kit_bb, SY.kit_tt, SY.kit_ti, SY.kit_tb, SY.kit_nt, SY.kit_ll, SY.kit_lt, Bool.not_true, Bool.not_false, if_true, if_false, reduceIte, Bool.false_eq_true, true_and, and_true, and_self])
    have t1 := two [] (by simp) (fun _ z => by simp at z)
    refine ⟨t1.1, ?_⟩
    refine sp_take_mk hr (by decide) (Bd.lit (by decide)) fun j j0 j1 => ?_
    have ln := numI_len (i := 1 + j) (by omega)
    have t2 := two (numI (1 + j)) (by omega) (Asc.numI _)
    (try simp -dsimp (maxSteps := 3000000) only [lit_stroke, str_num, ↓SY.str1_z, SY.str1Z_s, SY.isStrD_s, SY.dStrI, SY.dIntS, SY.dSplit, SY.dSplitF, SY.dM1, SY.dFind, SY.dZfill, SY.dJoin, SY.splitD, SY.splitFD, SY.findD, SY.zfillD, SY.joinD, SY.dInS, SY.dNotInS, SY.inD, SY.notInD, SY.dIxS, SY.ixSD, SY.dSlS, SY.dForS, SY.dMax, SY.dLcS, SY.eqv_S, ↓SY.someOf_z, ↓SY.int1_z, ↓SY.int2_z, ↓SY.bl1_z, ↓SY.optK_z, ↓SY.seqK_z, ↓SY.ixD_z, ↓SY.addD_z, ↓SY.lenD_z, ↓SY.slD_z, ↓SY.setD_z, ↓SY.appD_z, ↓SY.popD_z, ↓SY.dgsK_z, ↓SY.one_z, ↓SY.two_z, ↓SY.intK_z, ↓SY.rng1_z, ↓SY.rng2_z, ↓SY.frzK_z, ↓SY.forL_z, ↓SY.lcL_z, ↓SY.dSeq_z, SY.someZ_s, SY.int1Z_s, SY.int2Z_s, SY.bl1Z_s, SY.optZ_s, SY.addZ_i, SY.addZ_s, SY.addZ_t, SY.addZ_l, SY.addZ_p, SY.lenZ_t, SY.lenZ_l, SY.lenZ_s, SY.lenZ_p, SY.slZ_t, SY.slZ_l, SY.slZ_s, SY.slZ_p, SY.setZ_s, SY.appZ_s, SY.popZ_s, SY.dgsZ_s, SY.nilK_s, SY.oneZ_s, SY.twoZ_s, SY.intZ_i, SY.intZ_b, SY.rng1Z_s, SY.rng2Z_s, SY.frzZ_p, SY.frzZ_l, SY.frzZ_t, SY.forZ_nil, SY.forZ_cons, SY.lcZ_nil, SY.lcZ_cons, SY.goZ_s, ↓SY.sq_nx, ↓SY.sq_rt, ↓SY.sq_bk, ↓SY.sq_ct, ↓SY.sq_ex, ↓SY.lp_nx, ↓SY.lp_ct, ↓SY.lp_bk, ↓SY.lp_rt, ↓SY.lp_ex, SY.dAsg, SY.dRet, SY.dRetN, SY.dNext, SY.dIf, SY.dTst, SY.dC, SY.dVar, SY.dI, SY.dI0, SY.dMul, SY.dDiv, SY.dMod, SY.dPow, SY.dSub, SY.dLt, SY.dLe, SY.dGt, SY.dGe, SY.dNeg, SY.dAdd, SY.dIx, SY.dNil, SY.dCons, SY.dTup, SY.dLst, SY.dLstM, ↓SY.dCall_z, SY.dAbs, SY.dLen, SY.dTuple, SY.dList, SY.dListM, SY.dEq, SY.dNe, SY.dIsN, SY.dNotN, SY.dIsB, SY.dNotB, SY.dFrz, SY.dRaise, SY.dTryAs, SY.dTryOnly, SY.dIsE, SY.dtAnd, SY.dtOr, SY.dtNot, SY.dAnd, SY.dOr, SY.dNot, SY.dIsi, SY.dAll, SY.dSum, SY.dInt, SY.dSl, SY.dNoO, SY.dSomeO, SY.dDrop, SY.dAug, SY.dPar, SY.dAsgG, SY.dgName, SY.dgTup, SY.dgsNil, SY.dgsName, SY.dgSub, SY.dApp, SY.dPopAt, SY.dFor, SY.dForR1, SY.dForR2, SY.dForE, SY.dLc, SY.dLcR, SY.dLcRM, SY.rngL, SY.enumL, SY.frozen_tup, SY.frozen_lst, SY.frozen_scr, SY.frozL_lst, SY.frozL_scr, SY.seqOf_tup, SY.seqOf_lst, SY.seqOf_scr, SY.seqOf_ptr, SY.seqOf_int, SY.seqOf_str, SY.lstOf_lst, SY.lstOf_scr, SY.lstOf_ptr, SY.mlst_lst, SY.plst_lst, SY.plst_ptr, SY.isPtrL, SY.tyN, SY.isNon, SY.blsOf, SY.intsOf, SY.dend0, SY.dend, SY.startD, SY.eqOk_int, SY.eqv_int, SY.atI0, SY.atI1, SY.atI2, SY.atI3, SY.atI4, SY.atI5, SY.ixN0, decide_true, decide_false, Int.reduceEq, Int.reduceLT, Int.reduceLE, SY.ixN_21, SY.ixN_31, SY.ixN_32, SY.ixN_41, SY.ixN_42, SY.ixN_43, SY.seqIx0, SY.updT_same, SY.updT_updT, List.map_cons, List.map_nil, List.length_cons, List.length_nil, List.replicate, List.cons_append, List.nil_append, List.getD_cons_zero, List.getD_cons_succ, List.set_cons_zero, List.set_cons_succ, List.getElem?_cons_zero, List.eraseIdx_cons_zero, Option.isSome_some, Option.map_some, Int.reduceToNat, Int.reducePow, Int.reduceAdd, Int.reduceMul, Nat.zero_lt_succ, Nat.reduceLT, Nat.sub_self, Nat.reduceSub, Nat.reduceAdd, Nat.reduceLeDiff, Nat.zero_add, SY.kit_ii, SY.kit_ib, SY.kit_it, SY.kit_bi, SY.kit_bb, SY.kit_tt, SY.kit_ti, SY.kit_tb, SY.kit_nt, SY.kit_ll, SY.kit_lt, Bool.not_true, Bool.not_false, if_true, if_false, reduceIte, Bool.false_eq_true, true_and, and_true, and_self])
    refine ⟨sbit (by omega), t2.2, ?_⟩
    rw [cat]
    subst ht
    exact nw_end hr (by simp only [List.length_append, List.length_cons, List.length_nil]; omega) ((as.app a47).app (Asc.numI _)) h2
  rw [decide_eq_false e2]
  walk_at "dz"
  subst ht
  exact nw_end hr (by omega) as h2
theorem sp_l_number_word_mk {r : Addr} (hr : T r = some .row) (h : ∀ l : List Nat, l.length ≤ 400 → Asc l → P (.str (S l)) T) : sp_l_number_word [.ptr r] T P X := lock_at ⟨r, rfl, hr, h⟩
end
end SY

namespace SY
open PySem PySem.Spec PyProof.Rows L2
section
variable {T : Sto} {P : D → Sto → Prop} {X : Xc → Sto → Prop}
def askD : Option (Int × Int) → D
  | none => .tup [.bl true, .bl true, .bl false]
  | some (t, b) => .tup ((sgZ [t, b]).map .int)
noncomputable def sp_l_asked : DSp := lock <| sp1 fun a T P _ => ∃ l : List Nat, a = .str (S l) ∧ l.length ≤ 5000 ∧ Asc l ∧ P (askD (rdN l)) T
def d_l_asked : DS := (dSeq (dAsg (dC .non) 1) (dSeq (dTryAs ["YardError", "BottomNought", "NoText", "TooGreat"] 2 "NoText" (dAsg (dCall sp_read_number (dCons (dVar 0) dNil)) 1) (fun a x => (dAsg (dTup (dCons (dIsE 2 a (isSub x "YardError")) (dCons (dIsE 2 a true) (dCons (dIsE 2 a (isSub x "TooGreat")) dNil)))) 1))) (dRet (dVar 1))))
theorem pure_l_asked {N : List Str} (hN : N.length = 3) : ∀ us T P X, sp_l_asked us T P X → d_l_asked (dend0 P X) (startD N us) T := by
  intro us T P X h
  obtain ⟨a, rfl, h1⟩ := sp1.of (lock_of h)
  have e0 : startD N [a] = [some a, none, none] := by unfold startD; rw [hN]; rfl
  rw [e0]; clear e0; unfold d_l_asked
  obtain ⟨l, rfl, hl, as, h2⟩ := h1
  walk_at "dz"
  refine sp_read_number_mk hl as (fun z => ?_) (fun t b z => ?_)
  · rw [z] at h2
    refine ⟨rfl, ?_⟩
    rw [if_pos (by decide)]
    intro a ha
    walk_at "dz"
    exact h2
  · rw [z] at h2
    walk_at "dz"
    exact h2
theorem sp_l_asked_mk {l : List Nat} (hl : l.length ≤ 5000) (as : Asc l) (h : P (askD (rdN l)) T) : sp_l_asked [.str (S l)] T P X := lock_at ⟨l, rfl, hl, as, h⟩
noncomputable def sp_l_meets : DSp := lock <| sp2 fun a b T P _ => ∃ o : Option (Int × Int), a = askD o ∧ b = dueD o ∧ P (.bl true) T
theorem eqv_ttf : eqvD (.tup [.bl true, .bl true, .bl false]) (.tup [.bl true, .bl true, .bl false]) = true := rfl
theorem eqOk_ttf : eqOk (.tup [.bl true, .bl true, .bl false]) = true := rfl
def d_l_meets : DS := (dSeq (dIf (dTst (dIsN (dVar 1))) (dRet (dAnd (dEq (dVar 0) (dTup (dCons (dC (.bl true)) (dCons (dC (.bl true)) (dCons (dC (.bl false)) dNil))))) (dEq (dLen (dVar 0)) (dC (.int 3))))) dNext) (dRet (dAnd (dCall sp_l_wholes (dCons (dVar 0) (dCons (dC (.int 2)) dNil))) (dEq (dVar 0) (dVar 1)))))
theorem pure_l_meets {N : List Str} (hN : N.length = 2) : ∀ us T P X, sp_l_meets us T P X → d_l_meets (dend0 P X) (startD N us) T := by
  intro us T P X h
  obtain ⟨a, b, rfl, h1⟩ := sp2.of (lock_of h)
  have e0 : startD N [a, b] = [some a, some b] := by unfold startD; rw [hN]; rfl
  rw [e0]; clear e0; unfold d_l_meets
  obtain ⟨o, rfl, rfl, h2⟩ := h1
  match o, h2 with
  | none, h2 =>
    show (dSeq _ _ : DS) _ [some (.tup [.bl true, .bl true, .bl false]), some .non] _
    (try simp -dsimp (maxSteps := 3000000) only [eqOk_ttf, eqv_ttf, ↓SY.someOf_z, ↓SY.int1_z, ↓SY.int2_z, ↓SY.bl1_z, ↓SY.optK_z, ↓SY.seqK_z, ↓SY.ixD_z, ↓SY.addD_z, ↓SY.lenD_z, ↓SY.slD_z, ↓SY.setD_z, ↓SY.appD_z, ↓SY.popD_z, ↓SY.dgsK_z, ↓SY.one_z, ↓SY.two_z, ↓SY.intK_z, ↓SY.rng1_z, ↓SY.rng2_z, ↓SY.frzK_z, ↓SY.forL_z, ↓SY.lcL_z, ↓SY.dSeq_z, SY.someZ_s, SY.int1Z_s, SY.int2Z_s, SY.bl1Z_s, SY.optZ_s, SY.addZ_i, SY.addZ_s, SY.addZ_t, SY.addZ_l, SY.addZ_p, SY.lenZ_t, SY.lenZ_l, SY.lenZ_s, SY.lenZ_p, SY.slZ_t, SY.slZ_l, SY.slZ_s, SY.slZ_p, SY.setZ_s, SY.appZ_s, SY.popZ_s, SY.dgsZ_s, SY.nilK_s, SY.oneZ_s, SY.twoZ_s, SY.intZ_i, SY.intZ_b, SY.rng1Z_s, SY.rng2Z_s, SY.frzZ_p, SY.frzZ_l, SY.frzZ_t, SY.forZ_nil, SY.forZ_cons, SY.lcZ_nil, SY.lcZ_cons, SY.goZ_s, ↓SY.sq_nx, ↓SY.sq_rt, ↓SY.sq_bk, ↓SY.sq_ct, ↓SY.sq_ex, ↓SY.lp_nx, ↓SY.lp_ct, ↓SY.lp_bk, ↓SY.lp_rt, ↓SY.lp_ex, SY.dAsg, SY.dRet, SY.dRetN, SY.dNext, SY.dIf, SY.dTst, SY.dC, SY.dVar, SY.dI, SY.dI0, SY.dMul, SY.dDiv, SY.dMod, SY.dPow, SY.dSub, SY.dLt, SY.dLe, SY.dGt, SY.dGe, SY.dNeg, SY.dAdd, SY.dIx, SY.dNil, SY.dCons, SY.dTup, SY.dLst, SY.dLstM, ↓SY.dCall_z, SY.dAbs, SY.dLen, SY.dTuple, SY.dList, SY.dListM, SY.dEq, SY.dNe, SY.dIsN, SY.dNotN, SY.dIsB, SY.dNotB, SY.dFrz, SY.dRaise, SY.dTryAs, SY.dTryOnly, SY.dIsE, SY.dtAnd, SY.dtOr, SY.dtNot, SY.dAnd, SY.dOr, SY.dNot, SY.dIsi, SY.dAll, SY.dSum, SY.dInt, SY.dSl, SY.dNoO, SY.dSomeO, SY.dDrop, SY.dAug, SY.dPar, SY.dAsgG, SY.dgName, SY.dgTup, SY.dgsNil, SY.dgsName, SY.dgSub, SY.dApp, SY.dPopAt, SY.dFor, SY.dForR1, SY.dForR2, SY.dForE, SY.dLc, SY.dLcR, SY.dLcRM, SY.rngL, SY.enumL, SY.frozen_tup, SY.frozen_lst, SY.frozen_scr, SY.frozL_lst, SY.frozL_scr, SY.seqOf_tup, SY.seqOf_lst, SY.seqOf_scr, SY.seqOf_ptr, SY.seqOf_int, SY.seqOf_str, SY.lstOf_lst, SY.lstOf_scr, SY.lstOf_ptr, SY.mlst_lst, SY.plst_lst, SY.plst_ptr, SY.isPtrL, SY.tyN, SY.isNon, SY.blsOf, SY.intsOf, SY.dend0, SY.dend, SY.startD, SY.eqOk_int, SY.eqv_int, SY.atI0, SY.atI1, SY.atI2, SY.atI3, SY.atI4, SY.atI5, SY.ixN0, decide_true, decide_false, Int.reduceEq, Int.reduceLT, Int.reduceLE, SY.ixN_21, SY.ixN_31, SY.ixN_32, SY.ixN_41, SY.ixN_42, SY.ixN_43, SY.seqIx0, SY.updT_same, SY.updT_updT, List.map_cons, List.map_nil, List.length_cons, List.length_nil, List.replicate, List.cons_append, List.nil_append, List.getD_cons_zero, List.getD_cons_succ, List.set_cons_zero, List.set_cons_succ, List.getElem?_cons_zero, List.eraseIdx_cons_zero, Option.isSome_some, Option.map_some, Int.reduceToNat, Int.reducePow, Int.reduceAdd, Int.reduceMul, Nat.zero_lt_succ, Nat.reduceLT, Nat.sub_self, Nat.reduceSub, Nat.reduceAdd, Nat.reduceLeDiff, Nat.zero_add, SY.kit_ii, SY.kit_ib, SY.kit_it, SY.kit_bi, SY.kit_bb, SY.kit_tt, SY.kit_ti, SY.kit_tb, SY.kit_nt, SY.kit_ll, SY.kit_lt, Bool.not_true, Bool.not_false, if_true, if_false, reduceIte, Bool.false_eq_true, true_and, and_true, and_self])
    exact h2
  | some (t, b), h2 =>
    obtain ⟨x, y, e⟩ := sgZ_2 t b
    show (dSeq _ _ : DS) _ [some (.tup ((sgZ [t, b]).map .int)), some (.tup ((sgZ [t, b]).map .int))] _
    rw [e]
    walk_at "dz"
    refine sp_l_wholes_mk (ns := [x, y]) (by simp) rfl ?_
    (try simp -dsimp (maxSteps := 3000000) only [eqOk_t2, eqv_t2, ↓SY.someOf_z, ↓SY.int1_z, ↓SY.int2_z, ↓SY.bl1_z, ↓SY.optK_z, ↓SY.seqK_z, ↓SY.ixD_z, ↓SY.addD_z, ↓SY.lenD_z, ↓SY.slD_z, ↓SY.setD_z, ↓SY.appD_z, ↓SY.popD_z, ↓SY.dgsK_z, ↓SY.one_z, ↓SY.two_z, ↓SY.intK_z, ↓SY.rng1_z, ↓SY.rng2_z, ↓SY.frzK_z, ↓SY.forL_z, ↓SY.lcL_z, ↓SY.dSeq_z, SY.someZ_s, SY.int1Z_s, SY.int2Z_s, SY.bl1Z_s, SY.optZ_s, SY.addZ_i, SY.addZ_s, SY.addZ_t, SY.addZ_l, SY.addZ_p, SY.lenZ_t, SY.lenZ_l, SY.lenZ_s, SY.lenZ_p, SY.slZ_t, SY.slZ_l, SY.slZ_s, SY.slZ_p, SY.setZ_s, SY.appZ_s, SY.popZ_s, SY.dgsZ_s, SY.nilK_s, SY.oneZ_s, SY.twoZ_s, SY.intZ_i, SY.intZ_b, SY.rng1Z_s, SY.rng2Z_s, SY.frzZ_p, SY.frzZ_l, SY.frzZ_t, SY.forZ_nil, SY.forZ_cons, SY.lcZ_nil, SY.lcZ_cons, SY.goZ_s, ↓SY.sq_nx, ↓SY.sq_rt, ↓SY.sq_bk, ↓SY.sq_ct, ↓SY.sq_ex, ↓SY.lp_nx, ↓SY.lp_ct, ↓SY.lp_bk, ↓SY.lp_rt, ↓SY.lp_ex, SY.dAsg, SY.dRet, SY.dRetN, SY.dNext, SY.dIf, SY.dTst, SY.dC, SY.dVar, SY.dI, SY.dI0, SY.dMul, SY.dDiv, SY.dMod, SY.dPow, SY.dSub, SY.dLt, SY.dLe, SY.dGt, SY.dGe, SY.dNeg, SY.dAdd, SY.dIx, SY.dNil, SY.dCons, SY.dTup, SY.dLst, SY.dLstM, ↓SY.dCall_z, SY.dAbs, SY.dLen, SY.dTuple, SY.dList, SY.dListM, SY.dEq, SY.dNe, SY.dIsN, SY.dNotN, SY.dIsB, SY.dNotB, SY.dFrz, SY.dRaise, SY.dTryAs, SY.dTryOnly, SY.dIsE, SY.dtAnd, SY.dtOr, SY.dtNot, SY.dAnd, SY.dOr, SY.dNot, SY.dIsi, SY.dAll, SY.dSum, SY.dInt, SY.dSl, SY.dNoO, SY.dSomeO, SY.dDrop, SY.dAug, SY.dPar, SY.dAsgG, SY.dgName, SY.dgTup, SY.dgsNil, SY.dgsName, SY.dgSub, SY.dApp, SY.dPopAt, SY.dFor, SY.dForR1, SY.dForR2, SY.dForE, SY.dLc, SY.dLcR, SY.dLcRM, SY.rngL, SY.enumL, SY.frozen_tup, SY.frozen_lst, SY.frozen_scr, SY.frozL_lst, SY.frozL_scr, SY.seqOf_tup, SY.seqOf_lst, SY.seqOf_scr, SY.seqOf_ptr, SY.seqOf_int, SY.seqOf_str, SY.lstOf_lst, SY.lstOf_scr, SY.lstOf_ptr, SY.mlst_lst, SY.plst_lst, SY.plst_ptr, SY.isPtrL, SY.tyN, SY.isNon, SY.blsOf, SY.intsOf, SY.dend0, SY.dend, SY.startD, SY.eqOk_int, SY.eqv_int, SY.atI0, SY.atI1, SY.atI2, SY.atI3, SY.atI4, SY.atI5, SY.ixN0, decide_true, decide_false, Int.reduceEq, Int.reduceLT, Int.reduceLE, SY.ixN_21, SY.ixN_31, SY.ixN_32, SY.ixN_41, SY.ixN_42, SY.ixN_43, SY.seqIx0, SY.updT_same, SY.updT_updT, List.map_cons, List.map_nil, List.length_cons, List.length_nil, List.replicate, List.cons_append, List.nil_append, List.getD_cons_zero, List.getD_cons_succ, List.set_cons_zero, List.set_cons_succ, List.getElem?_cons_zero, List.eraseIdx_cons_zero, Option.isSome_some, Option.map_some, Int.reduceToNat, Int.reducePow, Int.reduceAdd, Int.reduceMul, Nat.zero_lt_succ, Nat.reduceLT, Nat.sub_self, Nat.reduceSub, Nat.reduceAdd, Nat.reduceLeDiff, Nat.zero_add, SY.kit_ii, SY.kit_ib, SY.kit_it, SY.kit_bi, SY.kit_bb, SY.kit_tt, SY.kit_ti, SY.kit_tb, SY.kit_nt, SY.kit_ll, SY.kit_lt, Bool.not_true, Bool.not_false, if_true, if_false, reduceIte, Bool.false_eq_true, true_and, and_true, and_self])
    exact h2
theorem sp_l_meets_mk {o : Option (Int × Int)} (h : P (.bl true) T) : sp_l_meets [askD o, dueD o] T P X := lock_at ⟨o, rfl, rfl, h⟩
def d_law_t3 : DS := (dSeq (dAsg (dCall sp_l_spoilt (dCons (dVar 1) (dCons (dCall sp_l_number_word (dCons (dVar 1) dNil)) dNil))) 3) (dSeq (dAsg (dCall sp_l_number_of (dCons (dVar 2) dNil)) 4) (dSeq (dIf (dtNot (dTst (dCall sp_l_meets (dCons (dCall sp_l_asked (dCons (dVar 2) dNil)) (dCons (dVar 4) dNil))))) (dRet (dC (.bl false))) dNext) (dSeq (dIf (dtNot (dTst (dCall sp_l_meets (dCons (dCall sp_l_asked (dCons (dVar 3) dNil)) (dCons (dCall sp_l_number_of (dCons (dVar 3) dNil)) dNil))))) (dRet (dC (.bl false))) dNext) (dRet (dCall sp_l_meets (dCons (dCall sp_l_asked (dCons (dVar 2) dNil)) (dCons (dVar 4) dNil))))))))
def d_law : DS := (dSeq (dAsg (dCall sp_l_row (dCons (dVar 0) dNil)) 1) (dSeq (dAsg (dCall sp_l_spoilt (dCons (dVar 1) (dCons (dCall sp_l_number_word (dCons (dVar 1) dNil)) dNil))) 2) (dSeq (dIf (dTst (dEq (dCall sp_l_take (dCons (dVar 1) (dCons (dC (.int 24)) dNil))) (dC (.int 23)))) (dAsg (dIx (dLst (dCons (dC (.str (PySem.Str.ofString ""))) (dCons (dC (.str (PySem.Str.ofString "-"))) (dCons (dC (.str (PySem.Str.ofString "/"))) (dCons (dC (.str (PySem.Str.ofString "0/0"))) dNil))))) (dCall sp_l_take (dCons (dVar 1) (dCons (dC (.int 4)) dNil)))) 2) dNext) d_law_t3)))
theorem k89_end {r : Addr} {l : List Nat} {a0 : Option D} (hr : T r = some .row) (hl : l.length ≤ 1000) (as : Asc l) (h : ∀ T', P (.bl true) T') : d_law_t3 (dend0 P X) [a0, some (.ptr r), some (.str (S l)), none, none] T := by
  unfold d_law_t3
  walk_at "dz"
  refine sp_l_number_word_mk hr fun m hm am => ?_
  walk_at "dz"
  refine sp_l_spoilt_mk hr (by omega) am fun m2 hm2 am2 => ?_
  walk_at "dz"
  refine sp_l_number_of_mk (by omega) as ?_
  walk_at "dz"
  refine sp_l_asked_mk (by omega) as ?_
  walk_at "dz"
  refine sp_l_meets_mk ?_
  walk_at "dz"
  refine sp_l_asked_mk (by omega) am2 ?_
  walk_at "dz"
  refine sp_l_number_of_mk (by omega) am2 ?_
  walk_at "dz"
  refine sp_l_meets_mk ?_
  walk_at "dz"
  refine sp_l_asked_mk (by omega) as ?_
  walk_at "dz"
  refine sp_l_meets_mk ?_
  exact h _
theorem lit_none' : Str.ofString "" = S [] := rfl
theorem lit_00 : Str.ofString "0/0" = S [48, 47, 48] := rfl
theorem pure_law {N : List Str} (hN : N.length = 5) : ∀ us T P X, sp_law us T P X → d_law (dend0 P X) (startD N us) T := by
  intro us T P X h
  obtain ⟨a, rfl, h1⟩ := sp1.of (lock_of h)
  obtain ⟨ns, rfl, _, _, h2⟩ := h1
  have e : startD N [D.scr ns] = [some (.scr ns), none, none, none, none] := by unfold startD; rw [hN]; rfl
  rw [e]
  unfold d_law
  generalize hq : d_law_t3 = t3
  walk_at "dz"
  refine sp_row_mk fun p hp => ?_
  walk_at "dz"
  refine sp_l_number_word_mk updT_same fun m hm am => ?_
  walk_at "dz"
  refine sp_l_spoilt_mk updT_same (by omega) am fun m2 hm2 am2 => ?_
  walk_at "dz"
  refine sp_take_mk updT_same (by decide) (Bd.lit (by decide)) fun k k0 k1 => ?_
  walk_at "dz"
  cases hk : decide (k = 23)
  · subst hq
    exact k89_end updT_same (by omega) am2 h2
  · walk_at "dz"
    refine sp_take_mk updT_same (by decide) (Bd.lit (by decide)) fun j j0 j1 => ?_
    rcases lt4 j0 j1 with rfl | rfl | rfl | rfl <;> (try simp -dsimp (maxSteps := 3000000) only [lit_none', lit_minus, lit_stroke, lit_00, ↓SY.str1_z, SY.str1Z_s, SY.isStrD_s, SY.dStrI, SY.dIntS, SY.dSplit, SY.dSplitF, SY.dM1, SY.dFind, SY.dZfill, SY.dJoin, SY.splitD, SY.splitFD, SY.findD, SY.zfillD, SY.joinD, SY.dInS, SY.dNotInS, SY.inD, SY.notInD, SY.dIxS, SY.ixSD, SY.dSlS, SY.dForS, SY.dMax, SY.dLcS, SY.eqv_S, ↓SY.someOf_z, ↓SY.int1_z, ↓SY.int2_z, ↓SY.bl1_z, ↓SY.optK_z, ↓SY.seqK_z, ↓SY.ixD_z, ↓SY.addD_z, ↓SY.lenD_z, ↓SY.slD_z, ↓SY.setD_z, ↓SY.appD_z, ↓SY.popD_z, ↓SY.dgsK_z, ↓SY.one_z, ↓SY.two_z, ↓SY.intK_z, ↓SY.rng1_z, ↓SY.rng2_z, ↓SY.frzK_z, ↓SY.forL_z, ↓SY.lcL_z, ↓SY.dSeq_z, SY.someZ_s, SY.int1Z_s, SY.int2Z_s, SY.bl1Z_s, SY.optZ_s, SY.addZ_i, SY.addZ_s, SY.addZ_t, SY.addZ_l, SY.addZ_p, SY.lenZ_t, SY.lenZ_l, SY.lenZ_s, SY.lenZ_p, SY.slZ_t, SY.slZ_l, SY.slZ_s, SY.slZ_p, SY.setZ_s, SY.appZ_s, SY.popZ_s, SY.dgsZ_s, SY.nilK_s, SY.oneZ_s, SY.twoZ_s, SY.intZ_i, SY.intZ_b, SY.rng1Z_s, SY.rng2Z_s, SY.frzZ_p, SY.frzZ_l, SY.frzZ_t, SY.forZ_nil, SY.forZ_cons, SY.lcZ_nil, SY.lcZ_cons, SY.goZ_s, ↓SY.sq_nx, ↓SY.sq_rt, ↓SY.sq_bk, ↓SY.sq_ct, ↓SY.sq_ex, ↓SY.lp_nx, ↓SY.lp_ct, ↓SY.lp_bk, ↓SY.lp_rt, ↓SY.lp_ex, SY.dAsg, SY.dRet, SY.dRetN, SY.dNext, SY.dIf, SY.dTst, SY.dC, SY.dVar, SY.dI, SY.dI0, SY.dMul, SY.dDiv, SY.dMod, SY.dPow, SY.dSub, SY.dLt, SY.dLe, SY.dGt, SY.dGe, SY.dNeg, SY.dAdd, SY.dIx, SY.dNil, SY.dCons, SY.dTup, SY.dLst, SY.dLstM, ↓SY.dCall_z, SY.dAbs, SY.dLen, SY.dTuple, SY.dList, SY.dListM, SY.dEq, SY.dNe, SY.dIsN, SY.dNotN, SY.dIsB, SY.dNotB, SY.dFrz, SY.dRaise, SY.dTryAs, SY.dTryOnly, SY.dIsE, SY.dtAnd, SY.dtOr, SY.dtNot, SY.dAnd, SY.dOr, SY.dNot, SY.dIsi, SY.dAll, SY.dSum, SY.dInt, SY.dSl, SY.dNoO, SY.dSomeO, SY.dDrop, SY.dAug, SY.dPar, SY.dAsgG, SY.dgName, SY.dgTup, SY.dgsNil, SY.dgsName, SY.dgSub, SY.dApp, SY.dPopAt, SY.dFor, SY.dForR1, SY.dForR2, SY.dForE, SY.dLc, SY.dLcR, SY.dLcRM, SY.rngL, SY.enumL, SY.frozen_tup, SY.frozen_lst, SY.frozen_scr, SY.frozL_lst, SY.frozL_scr, SY.seqOf_tup, SY.seqOf_lst, SY.seqOf_scr, SY.seqOf_ptr, SY.seqOf_int, SY.seqOf_str, SY.lstOf_lst, SY.lstOf_scr, SY.lstOf_ptr, SY.mlst_lst, SY.plst_lst, SY.plst_ptr, SY.isPtrL, SY.tyN, SY.isNon, SY.blsOf, SY.intsOf, SY.dend0, SY.dend, SY.startD, SY.eqOk_int, SY.eqv_int, SY.atI0, SY.atI1, SY.atI2, SY.atI3, SY.atI4, SY.atI5, SY.ixN0, decide_true, decide_false, Int.reduceEq, Int.reduceLT, Int.reduceLE, SY.ixN_21, SY.ixN_31, SY.ixN_32, SY.ixN_41, SY.ixN_42, SY.ixN_43, SY.seqIx0, SY.updT_same, SY.updT_updT, List.map_cons, List.map_nil, List.length_cons, List.length_nil, List.replicate, List.cons_append, List.nil_append, List.getD_cons_zero, List.getD_cons_succ, List.set_cons_zero, List.set_cons_succ, List.getElem?_cons_zero, List.eraseIdx_cons_zero, Option.isSome_some, Option.map_some, Int.reduceToNat, Int.reducePow, Int.reduceAdd, Int.reduceMul, Nat.zero_lt_succ, Nat.reduceLT, Nat.sub_self, Nat.reduceSub, Nat.reduceAdd, Nat.reduceLeDiff, Nat.zero_add, SY.kit_ii, SY.kit_ib, SY.kit_it, SY.kit_bi, SY.kit_bb, SY.kit_tt, SY.kit_ti, SY.kit_tb, SY.kit_nt, SY.kit_ll, SY.kit_lt, Bool.not_true, Bool.not_false, if_true, if_false, reduceIte, Bool.false_eq_true, true_and, and_true, and_self])
    all_goals
      subst hq
      exact k89_end updT_same (by decide) (by unfold Asc; decide) h2
end
end SY

namespace Law
open PySem PySem.Spec PyProof.Rows L2 SY
def topS (i : Nat) : Stmt := PySem.Challenge.pw_solidyard_k89_numbers_read.main.body.getD i (.Pass ⟨0, 0, 0, 0⟩)
abbrev s_divisor : Stmt := topS 6
theorem sc_divisor : FnScope ["one", "other"] ["one", "other"] (defScope s_divisor) := ⟨rfl, rfl, rfl, by decide +kernel, rfl, by decide +kernel, by decide +kernel⟩
abbrev s_lowest : Stmt := topS 7
theorem sc_lowest : FnScope ["numbers", "by", "number"] ["numbers"] (defScope s_lowest) := ⟨rfl, rfl, rfl, by decide +kernel, rfl, by decide +kernel, by decide +kernel⟩
abbrev s_fraction : Stmt := topS 8
theorem sc_fraction : FnScope ["top", "bottom"] ["top", "bottom"] (defScope s_fraction) := ⟨rfl, rfl, rfl, by decide +kernel, rfl, by decide +kernel, by decide +kernel⟩
abbrev s_are_figures : Stmt := topS 12
theorem sc_are_figures : FnScope ["word", "sign"] ["word"] (defScope s_are_figures) := ⟨rfl, rfl, rfl, by decide +kernel, rfl, by decide +kernel, by decide +kernel⟩
abbrev s_read_number : Stmt := topS 13
theorem sc_read_number : FnScope ["line", "word", "parts", "top", "bottom"] ["line"] (defScope s_read_number) := ⟨rfl, rfl, rfl, by decide +kernel, rfl, by decide +kernel, by decide +kernel⟩
abbrev s__law_row : Stmt := topS 15
theorem sc__law_row : FnScope ["_law_script", "_law_row_here", "_law_k", "_law_cell", "_law_one", "_law_two", "_law_three"] ["_law_script"] (defScope s__law_row) := ⟨rfl, rfl, rfl, by decide +kernel, rfl, by decide +kernel, by decide +kernel⟩
abbrev s__law_take : Stmt := topS 16
theorem sc__law_take : FnScope ["_law_row_here", "_law_many", "_law_found"] ["_law_row_here", "_law_many"] (defScope s__law_take) := ⟨rfl, rfl, rfl, by decide +kernel, rfl, by decide +kernel, by decide +kernel⟩
abbrev s__law_gcd : Stmt := topS 17
theorem sc__law_gcd : FnScope ["_law_one", "_law_other"] ["_law_one", "_law_other"] (defScope s__law_gcd) := ⟨rfl, rfl, rfl, by decide +kernel, rfl, by decide +kernel, by decide +kernel⟩
abbrev s__law_whole : Stmt := topS 18
theorem sc__law_whole : FnScope ["_law_number"] ["_law_number"] (defScope s__law_whole) := ⟨rfl, rfl, rfl, by decide +kernel, rfl, by decide +kernel, by decide +kernel⟩
abbrev s__law_whole_row : Stmt := topS 19
theorem sc__law_whole_row : FnScope ["_law_row_here", "_law_many", "_law_number"] ["_law_row_here", "_law_many"] (defScope s__law_whole_row) := ⟨rfl, rfl, rfl, by decide +kernel, rfl, by decide +kernel, by decide +kernel⟩
abbrev s__law_figures : Stmt := topS 20
theorem sc__law_figures : FnScope ["_law_word", "_law_sign"] ["_law_word"] (defScope s__law_figures) := ⟨rfl, rfl, rfl, by decide +kernel, rfl, by decide +kernel, by decide +kernel⟩
abbrev s__law_number_of : Stmt := topS 21
theorem sc__law_number_of : FnScope ["_law_word", "_law_sign", "_law_low", "_law_at", "_law_by"] ["_law_word"] (defScope s__law_number_of) := ⟨rfl, rfl, rfl, by decide +kernel, rfl, by decide +kernel, by decide +kernel⟩
abbrev s__law_sign_at : Stmt := topS 22
theorem sc__law_sign_at : FnScope ["_law_row_here", "_law_some", "_law_most"] ["_law_row_here"] (defScope s__law_sign_at) := ⟨rfl, rfl, rfl, by decide +kernel, rfl, by decide +kernel, by decide +kernel⟩
abbrev s__law_spoilt : Stmt := topS 23
theorem sc__law_spoilt : FnScope ["_law_row_here", "_law_line", "_law_way", "_law_at", "_law_sign"] ["_law_row_here", "_law_line"] (defScope s__law_spoilt) := ⟨rfl, rfl, rfl, by decide +kernel, rfl, by decide +kernel, by decide +kernel⟩
abbrev s__law_tens : Stmt := topS 24
theorem sc__law_tens : FnScope ["_law_many", "_law_found", "_law_k"] ["_law_many"] (defScope s__law_tens) := ⟨rfl, rfl, rfl, by decide +kernel, rfl, by decide +kernel, by decide +kernel⟩
abbrev s__law_word_of : Stmt := topS 25
theorem sc__law_word_of : FnScope ["_law_row_here", "_law_many"] ["_law_row_here"] (defScope s__law_word_of) := ⟨rfl, rfl, rfl, by decide +kernel, rfl, by decide +kernel, by decide +kernel⟩
abbrev s__law_number_word : Stmt := topS 26
theorem sc__law_number_word : FnScope ["_law_row_here", "_law_word", "_law_way"] ["_law_row_here"] (defScope s__law_number_word) := ⟨rfl, rfl, rfl, by decide +kernel, rfl, by decide +kernel, by decide +kernel⟩
abbrev s__law_asked : Stmt := topS 27
theorem sc__law_asked : FnScope ["_law_line", "_law_found", "e"] ["_law_line"] (defScope s__law_asked) := ⟨rfl, rfl, rfl, by decide +kernel, rfl, by decide +kernel, by decide +kernel⟩
abbrev s__law_meets : Stmt := topS 28
theorem sc__law_meets : FnScope ["_law_found", "_law_due"] ["_law_found", "_law_due"] (defScope s__law_meets) := ⟨rfl, rfl, rfl, by decide +kernel, rfl, by decide +kernel, by decide +kernel⟩
abbrev s_law : Stmt := topS 29
theorem sc_law : FnScope ["_law_script", "_law_row_here", "_law_line", "_law_other", "_law_due"] ["_law_script"] (defScope s_law) := ⟨rfl, rfl, rfl, by decide +kernel, rfl, by decide +kernel, by decide +kernel⟩
section
variable {P : Program} {w : World} {K : PySem.W.Frag} {mg : Str → Option Value} {base : Heap}
theorem ok_divisor (F : FT K mg "divisor" s_divisor ["one", "other"]) (m_abs : mg "abs" = none) : Cal P w K mg base 1 "divisor" ["one", "other"] sp_divisor := okF (N := ["one", "other"]) (ds := d_divisor) F sc_divisor (lenL sp2.len) (fun h => fn_run0 h (pure_divisor rfl)) fun f cdv A outer s H E hr tk po =>
  (pds_cons (pds_set (i := 0) sc_divisor.nd rfl (.inl rfl) (pd_abs (by rfl) m_abs (pd_var 0)))
  (pds_cons (pds_set (i := 1) sc_divisor.nd rfl (.inl rfl) (pd_abs (by rfl) m_abs (pd_var 1)))
  (pds_cons (pds_while po (pdt_gt (pd_var 1) pd_int) (pds_one (pds_par (i := 0) (j := 1) rfl sc_divisor.nd rfl rfl (by decide) rfl rfl (pda_cons (pd_var 1) (pda_cons (pd_mod (pd_var 0) (pd_var 1)) pda_nil)))))
  (pds_one (pds_ret (pd_var 0))))))
theorem ok_lowest (F : FT K mg "lowest" s_lowest ["numbers"]) (c_divisor : Cal P w K mg base 1 "divisor" ["one", "other"] sp_divisor) (m_tuple : mg "tuple" = none) : Cal P w K mg base 2 "lowest" ["numbers"] sp_lowest := okF (N := ["numbers", "by", "number"]) (ds := d_lowest) F sc_lowest (lenL sp1.len) (fun h => fn_run0 h (pure_lowest rfl)) fun f cdv A outer s H E hr tk po =>
  (pds_cons (pds_set (i := 1) sc_lowest.nd rfl (.inr rfl) pd_int)
  (pds_cons (pds_for po rfl (pd_var 0) (pdg_name (i := 2) sc_lowest.nd rfl (.inl rfl)) (pds_cons (pds_set (i := 1) sc_lowest.nd rfl (.inr rfl) (pd_callC c_divisor tk (hr.mono (by decide)) (by rfl) (pda_cons (pd_var 1) (pda_cons (pd_var 2) pda_nil))))
  (pds_one (pds_if (pdt_eq hr.units (pd_var 1) pd_int) (pds_one (pds_ret (pd_tuple (by rfl) m_tuple (pd_var 0)))) pds_nil))))
  (pds_cons (pds_if (pdt_eq hr.units (pd_var 1) pd_int) (pds_one (pds_ret (pd_tuple (by rfl) m_tuple (pd_var 0)))) pds_nil)
  (pds_one (pds_ret (pd_tuple (by rfl) m_tuple (pd_lc (j := 2) rfl sc_lowest.nd (pd_var 0) (blkOk_by (N := ["numbers", "by", "number"]) (sc := defScope s_lowest) (own := [("number", 2)]) (by decide +kernel)) (fun _ _ _ _ _ => pg_name (i := 2) sc_lowest.nd rfl (by first | exact .inl rfl | exact .inr rfl)) (fun _ _ _ _ _ => (pd_div (pd_var 2) (pd_var 1))))))))))
theorem ok_fraction (F : FT K mg "fraction" s_fraction ["top", "bottom"]) (c_lowest : Cal P w K mg base 2 "lowest" ["numbers"] sp_lowest) (xf : XF K mg ["YardError", "BottomNought", "NoText", "TooGreat"]) : Cal P w K mg base 3 "fraction" ["top", "bottom"] sp_fraction := okF (N := ["top", "bottom"]) (ds := d_fraction) F sc_fraction (lenL sp2.len) (fun h => fn_run0 h (pure_fraction rfl)) fun f cdv A outer s H E hr tk po =>
  (pds_cons (pds_if (pdt_eq hr.units (pd_var 1) pd_int) (pds_one (pds_raise xf rfl rfl tk (by rfl))) pds_nil)
  (pds_cons (pds_if (pdt_lt (pd_var 1) pd_int) (pds_cons (pds_set (i := 0) sc_fraction.nd rfl (.inl rfl) (pd_neg (pd_var 0)))
  (pds_one (pds_set (i := 1) sc_fraction.nd rfl (.inl rfl) (pd_neg (pd_var 1))))) pds_nil)
  (pds_one (pds_ret (pd_callC c_lowest tk (hr.mono (by decide)) (by rfl) (pda_cons (pd_tup (pda_cons (pd_var 0) (pda_cons (pd_var 1) pda_nil))) pda_nil))))))
theorem ok_are_figures (F : FT K mg "are_figures" s_are_figures ["word"]) (m_len : mg "len" = none) {t_MOST : Tok} (g_MOST : mg "MOST" = some (.int 60 t_MOST)) {t_FIGURES : Tok} (g_FIGURES : mg "FIGURES" = some (.str (PySem.Str.ofString "0123456789") t_FIGURES)) : Cal P w K mg base 1 "are_figures" ["word"] sp_are_figures := okF (N := ["word", "sign"]) (ds := d_are_figures) F sc_are_figures (lenL sp1.len) (fun h => fn_run0 h (pure_are_figures rfl)) fun f cdv A outer s H E hr tk po =>
  (pds_cons (pds_if (PW.pt (pdw_or (pdt_eq hr.units (pd_len (by rfl) m_len (pd_var 0)) pd_int) (pdw_or1 (pdt_gt (pd_len (by rfl) m_len (pd_var 0)) (pd_globI (by rfl) g_MOST))))) (pds_one (pds_ret pd_bl)) pds_nil)
  (pds_cons (pds_forS po rfl (pd_var 0) (pdg_name (i := 1) sc_are_figures.nd rfl (.inl rfl)) (pds_one (pds_if (pdt_notInS (pd_var 1) (pd_globS (by rfl) g_FIGURES) (by with_unfolding_all rfl)) (pds_one (pds_ret pd_bl)) pds_nil)))
  (pds_one (pds_ret pd_bl))))
theorem ok_read_number (F : FT K mg "read_number" s_read_number ["line"]) (c_are_figures : Cal P w K mg base 1 "are_figures" ["word"] sp_are_figures) (c_fraction : Cal P w K mg base 3 "fraction" ["top", "bottom"] sp_fraction) (m_int : mg "int" = none) (m_len : mg "len" = none) (xf : XF K mg ["YardError", "BottomNought", "NoText", "TooGreat"]) : Cal P w K mg base 4 "read_number" ["line"] sp_read_number := okF (N := ["line", "word", "parts", "top", "bottom"]) (ds := d_read_number) F sc_read_number (lenL sp1.len) (fun h => fn_run h (pure_read_number rfl)) fun f cdv A outer s H E hr tk po =>
  (pds_cons (pds_set (i := 1) sc_read_number.nd rfl (.inl rfl) (pd_var 0))
  (pds_cons (pds_if (pdt_eq hr.units (pd_slS (pd_var 0) pdo_none (pdo_some pd_int)) pd_str) (pds_one (pds_set (i := 1) sc_read_number.nd rfl (.inl rfl) (pd_slS (pd_var 0) (pdo_some pd_int) pdo_none))) pds_nil)
  (pds_cons (pds_set (i := 2) sc_read_number.nd rfl (.inl rfl) (pd_split (pd_var 1) pd_str))
  (pds_cons (pds_if (pdt_eq hr.units (pd_len (by rfl) m_len (pd_var 2)) pd_int) (pds_one (pds_expr (pd_app (pd_var 2) pd_str))) pds_nil)
  (pds_cons (pds_if (PW.pt (pdw_or (pdt_ne hr.units (pd_len (by rfl) m_len (pd_var 2)) pd_int) (pdw_or (pdt_not (pdt_val (pd_callC c_are_figures tk (hr.mono (by decide)) (by rfl) (pda_cons (pd_ix (pd_var 2) pd_int (fun _ _ => rfl)) pda_nil)))) (pdw_or1 (pdt_not (pdt_val (pd_callC c_are_figures tk (hr.mono (by decide)) (by rfl) (pda_cons (pd_ix (pd_var 2) pd_int (fun _ _ => rfl)) pda_nil)))))))) (pds_one (pds_raise xf rfl rfl tk (by rfl))) pds_nil)
  (pds_cons (pds_set (i := 3) sc_read_number.nd rfl (.inl rfl) (pd_intS (by rfl) m_int (pd_ix (pd_var 2) pd_int (fun _ _ => rfl))))
  (pds_cons (pds_set (i := 4) sc_read_number.nd rfl (.inl rfl) (pd_intS (by rfl) m_int (pd_ix (pd_var 2) pd_int (fun _ _ => rfl))))
  (pds_cons (pds_if (pdt_eq hr.units (pd_var 4) pd_int) (pds_one (pds_raise xf rfl rfl tk (by rfl))) pds_nil)
  (pds_cons (pds_if (pdt_eq hr.units (pd_slS (pd_var 0) pdo_none (pdo_some pd_int)) pd_str) (pds_one (pds_ret (pd_callC c_fraction tk (hr.mono (by decide)) (by rfl) (pda_cons (pd_neg (pd_var 3)) (pda_cons (pd_var 4) pda_nil))))) pds_nil)
  (pds_one (pds_ret (pd_callC c_fraction tk (hr.mono (by decide)) (by rfl) (pda_cons (pd_var 3) (pda_cons (pd_var 4) pda_nil))))))))))))))
theorem ok__law_row (F : FT K mg "_law_row" s__law_row ["_law_script"]) (m_enumerate : mg "enumerate" = none) : Cal P w K mg base 1 "_law_row" ["_law_script"] sp_l_row := okF (N := ["_law_script", "_law_row_here", "_law_k", "_law_cell", "_law_one", "_law_two", "_law_three"]) (ds := d_l_row) F sc__law_row (lenL sp1.len) (fun h => fn_run h (pure_l_row rfl)) fun f cdv A outer s H E hr tk po =>
  (pds_cons (pds_set (i := 1) sc__law_row.nd rfl (.inl rfl) (pd_lstM pda_nil))
  (pds_cons (pds_forE po rfl (by rfl) m_enumerate (pda_cons (pd_sl (pd_var 0) pdo_none (pdo_some pd_int)) pda_nil) (pdg_tup rfl (pdgs_name (i := 2) sc__law_row.nd rfl (.inl rfl) (pdgs_name (i := 3) sc__law_row.nd rfl (.inl rfl) pdgs_nil))) (pds_one (pds_if (pdt_ge (pd_var 3) (pd_pow pd_int pd_int)) (pds_one (pds_expr (pd_app (pd_var 1) (pd_sub (pd_var 3) (pd_pow pd_int pd_int))))) (pds_cons (pds_set (i := 4) sc__law_row.nd rfl (.inl rfl) (pd_mod (pd_mul (pd_add (pd_add (pd_add (pd_var 3) (pd_mul (pd_mul pd_int (pd_var 2)) (pd_var 2))) (pd_mul pd_int (pd_var 2))) pd_int) pd_int) pd_int))
  (pds_cons (pds_set (i := 5) sc__law_row.nd rfl (.inl rfl) (pd_mod (pd_mul (pd_add (pd_add (pd_add (pd_var 3) (pd_mul (pd_mul pd_int (pd_var 2)) (pd_var 2))) (pd_mul pd_int (pd_var 2))) pd_int) pd_int) pd_int))
  (pds_cons (pds_set (i := 6) sc__law_row.nd rfl (.inl rfl) (pd_mod (pd_mul (pd_add (pd_add (pd_add (pd_var 3) (pd_mul (pd_mul pd_int (pd_var 2)) (pd_var 2))) (pd_mul pd_int (pd_var 2))) pd_int) pd_int) pd_int))
  (pds_cons (pds_set (i := 4) sc__law_row.nd rfl (.inl rfl) (pd_mod (pd_mul (pd_var 4) pd_int) pd_int))
  (pds_cons (pds_set (i := 5) sc__law_row.nd rfl (.inl rfl) (pd_mod (pd_mul (pd_var 5) pd_int) pd_int))
  (pds_cons (pds_set (i := 6) sc__law_row.nd rfl (.inl rfl) (pd_mod (pd_mul (pd_var 6) pd_int) pd_int))
  (pds_one (pds_expr (pd_app (pd_var 1) (pd_add (pd_mul (pd_add (pd_mul (pd_var 4) pd_int) (pd_var 5)) pd_int) (pd_var 6))))))))))))))
  (pds_one (pds_ret (pd_var 1)))))
theorem ok__law_take (F : FT K mg "_law_take" s__law_take ["_law_row_here", "_law_many"]) (m_len : mg "len" = none) : Cal P w K mg base 1 "_law_take" ["_law_row_here", "_law_many"] sp_l_take := okF (N := ["_law_row_here", "_law_many", "_law_found"]) (ds := d_l_take) F sc__law_take (lenL sp2.len) (fun h => fn_runG h pure_l_take) fun f cdv A outer s H E hr tk po =>
  (pds_cons (pds_while po (PW.pt (pdw_and (pdt_gt (pd_len (by rfl) m_len (pd_var 0)) pd_int) (pdw_and1 (pdt_eq hr.units (pd_ix (pd_var 0) pd_int (fun _ _ => rfl)) pd_int)))) (pds_one (pds_expr (pd_popAt (pd_var 0) pd_int))))
  (pds_cons (pds_if (pdt_eq hr.units (pd_len (by rfl) m_len (pd_var 0)) pd_int) (pds_one (pds_ret pd_int)) pds_nil)
  (pds_cons (pds_set (i := 2) sc__law_take.nd rfl (.inl rfl) (pd_mod (pd_ix (pd_var 0) pd_int (fun _ _ => rfl)) (pd_var 1)))
  (pds_cons (pds_asg (pd_div (pd_ix (pd_var 0) pd_int (fun _ _ => rfl)) (pd_var 1)) (pdg_sub (pd_var 0) pd_int))
  (pds_one (pds_ret (pd_var 2)))))))
theorem ok__law_gcd (F : FT K mg "_law_gcd" s__law_gcd ["_law_one", "_law_other"]) (m_abs : mg "abs" = none) : Cal P w K mg base 1 "_law_gcd" ["_law_one", "_law_other"] sp_divisor := okF (N := ["_law_one", "_law_other"]) (ds := d_divisor) F sc__law_gcd (lenL sp2.len) (fun h => fn_run0 h (pure_divisor rfl)) fun f cdv A outer s H E hr tk po =>
  (pds_cons (pds_set (i := 0) sc__law_gcd.nd rfl (.inl rfl) (pd_abs (by rfl) m_abs (pd_var 0)))
  (pds_cons (pds_set (i := 1) sc__law_gcd.nd rfl (.inl rfl) (pd_abs (by rfl) m_abs (pd_var 1)))
  (pds_cons (pds_while po (pdt_gt (pd_var 1) pd_int) (pds_one (pds_par (i := 0) (j := 1) rfl sc__law_gcd.nd rfl rfl (by decide) rfl rfl (pda_cons (pd_var 1) (pda_cons (pd_mod (pd_var 0) (pd_var 1)) pda_nil)))))
  (pds_one (pds_ret (pd_var 0))))))
theorem ok__law_whole (F : FT K mg "_law_whole" s__law_whole ["_law_number"]) (m_bool : mg "bool" = none) (m_int : mg "int" = none) (m_isinstance : mg "isinstance" = none) : Cal P w K mg base 1 "_law_whole" ["_law_number"] sp_l_whole := okF (N := ["_law_number"]) (ds := d_l_whole) F sc__law_whole (lenL sp1.len) (fun h => fn_run0 h (pure_l_whole rfl)) fun f cdv A outer s H E hr tk po =>
  (pds_one (pds_ret (pd_and (pd_isi (ty := "int") (by rfl) m_isinstance (pd_var 0) (by rfl) m_int (by decide +kernel)) (pd_one (pd_not (pd_isi (ty := "bool") (by rfl) m_isinstance (pd_var 0) (by rfl) m_bool (by decide +kernel)))))))
theorem ok__law_whole_row (F : FT K mg "_law_whole_row" s__law_whole_row ["_law_row_here", "_law_many"]) (c__law_whole : Cal P w K mg base 1 "_law_whole" ["_law_number"] sp_l_whole) (m_all : mg "all" = none) (m_isinstance : mg "isinstance" = none) (m_len : mg "len" = none) (m_tuple : mg "tuple" = none) : Cal P w K mg base 2 "_law_whole_row" ["_law_row_here", "_law_many"] sp_l_wholes := okF (N := ["_law_row_here", "_law_many", "_law_number"]) (ds := d_l_wholes) F sc__law_whole_row (lenL sp2.len) (fun h => fn_run0 h (pure_l_wholes rfl)) fun f cdv A outer s H E hr tk po =>
  (pds_cons (pds_if (PW.pt (pdw_or (pdt_not (pdt_val (pd_isi (ty := "tuple") (by rfl) m_isinstance (pd_var 0) (by rfl) m_tuple (by decide +kernel)))) (pdw_or1 (pdt_ne hr.units (pd_len (by rfl) m_len (pd_var 0)) (pd_var 1))))) (pds_one (pds_ret pd_bl)) pds_nil)
  (pds_one (pds_ret (pd_all rfl (by rfl) m_all (pd_lc (j := 2) rfl sc__law_whole_row.nd (pd_var 0) (blkOk_by (N := ["_law_row_here", "_law_many", "_law_number"]) (sc := defScope s__law_whole_row) (own := [("_law_number", 2)]) (by decide +kernel)) (fun _ _ _ _ _ => pg_name (i := 2) sc__law_whole_row.nd rfl (by first | exact .inl rfl | exact .inr rfl)) (fun _ _ _ _ _ => (pd_callC c__law_whole takes0 (hr.mono (by decide)) (by rfl) (pda_cons (pd_var 2) pda_nil))))))))
theorem ok__law_figures (F : FT K mg "_law_figures" s__law_figures ["_law_word"]) (m_all : mg "all" = none) (m_len : mg "len" = none) : Cal P w K mg base 1 "_law_figures" ["_law_word"] sp_l_figures := okF (N := ["_law_word", "_law_sign"]) (ds := d_l_figures) F sc__law_figures (lenL sp1.len) (fun h => fn_run0 h (pure_l_figures rfl)) fun f cdv A outer s H E hr tk po =>
  (pds_cons (pds_if (PW.pt (pdw_or (pdt_lt (pd_len (by rfl) m_len (pd_var 0)) pd_int) (pdw_or1 (pdt_gt (pd_len (by rfl) m_len (pd_var 0)) pd_int)))) (pds_one (pds_ret pd_bl)) pds_nil)
  (pds_one (pds_ret (pd_all rfl (by rfl) m_all (pd_lcS (j := 1) rfl sc__law_figures.nd (pd_var 0) (blkOk_by (N := ["_law_word", "_law_sign"]) (sc := defScope s__law_figures) (own := [("_law_sign", 1)]) (by decide +kernel)) (fun _ _ _ _ _ => pg_name (i := 1) sc__law_figures.nd rfl (by first | exact .inl rfl | exact .inr rfl)) (fun _ _ _ _ _ => (pd_inS (pd_var 1) pd_str (by with_unfolding_all rfl))))))))
theorem ok__law_number_of (F : FT K mg "_law_number_of" s__law_number_of ["_law_word"]) (c__law_figures : Cal P w K mg base 1 "_law_figures" ["_law_word"] sp_l_figures) (c__law_gcd : Cal P w K mg base 1 "_law_gcd" ["_law_one", "_law_other"] sp_divisor) (m_int : mg "int" = none) : Cal P w K mg base 2 "_law_number_of" ["_law_word"] sp_l_number_of := okF (N := ["_law_word", "_law_sign", "_law_low", "_law_at", "_law_by"]) (ds := d_l_number_of) F sc__law_number_of (lenL sp1.len) (fun h => fn_run0 h (pure_l_number_of rfl)) fun f cdv A outer s H E hr tk po =>
  (pds_cons (pds_set (i := 1) sc__law_number_of.nd rfl (.inl rfl) pd_int)
  (pds_cons (pds_if (pdt_eq hr.units (pd_slS (pd_var 0) pdo_none (pdo_some pd_int)) pd_str) (pds_cons (pds_set (i := 1) sc__law_number_of.nd rfl (.inl rfl) (pd_neg pd_int))
  (pds_one (pds_set (i := 0) sc__law_number_of.nd rfl (.inl rfl) (pd_slS (pd_var 0) (pdo_some pd_int) pdo_none)))) pds_nil)
  (pds_cons (pds_set (i := 2) sc__law_number_of.nd rfl (.inl rfl) pd_str)
  (pds_cons (pds_set (i := 3) sc__law_number_of.nd rfl (.inl rfl) (pd_find (pd_var 0) pd_str))
  (pds_cons (pds_if (pdt_ge (pd_var 3) pd_int) (pds_cons (pds_set (i := 2) sc__law_number_of.nd rfl (.inl rfl) (pd_slS (pd_var 0) (pdo_some (pd_add (pd_var 3) pd_int)) pdo_none))
  (pds_one (pds_set (i := 0) sc__law_number_of.nd rfl (.inl rfl) (pd_slS (pd_var 0) pdo_none (pdo_some (pd_var 3)))))) pds_nil)
  (pds_cons (pds_if (PW.pt (pdw_or (pdt_not (pdt_val (pd_callC c__law_figures tk (hr.mono (by decide)) (by rfl) (pda_cons (pd_var 0) pda_nil)))) (pdw_or1 (pdt_not (pdt_val (pd_callC c__law_figures tk (hr.mono (by decide)) (by rfl) (pda_cons (pd_var 2) pda_nil))))))) (pds_one (pds_ret pd_non)) pds_nil)
  (pds_cons (pds_if (pdt_eq hr.units (pd_intS (by rfl) m_int (pd_var 2)) pd_int) (pds_one (pds_ret pd_non)) pds_nil)
  (pds_cons (pds_set (i := 4) sc__law_number_of.nd rfl (.inl rfl) (pd_callC c__law_gcd tk (hr.mono (by decide)) (by rfl) (pda_cons (pd_intS (by rfl) m_int (pd_var 0)) (pda_cons (pd_intS (by rfl) m_int (pd_var 2)) pda_nil))))
  (pds_one (pds_ret (pd_tup (pda_cons (pd_mul (pd_var 1) (pd_div (pd_intS (by rfl) m_int (pd_var 0)) (pd_var 4))) (pda_cons (pd_div (pd_intS (by rfl) m_int (pd_var 2)) (pd_var 4)) pda_nil)))))))))))))
theorem ok__law_sign_at (F : FT K mg "_law_sign_at" s__law_sign_at ["_law_row_here"]) (c__law_take : Cal P w K mg base 1 "_law_take" ["_law_row_here", "_law_many"] sp_l_take) (m_len : mg "len" = none) : Cal P w K mg base 2 "_law_sign_at" ["_law_row_here"] sp_l_sign_at := okF (N := ["_law_row_here", "_law_some", "_law_most"]) (ds := d_l_sign_at) F sc__law_sign_at (lenL sp1.len) (fun h => fn_run0 h (pure_l_sign_at rfl)) fun f cdv A outer s H E hr tk po =>
  (pds_cons (pds_set (i := 1) sc__law_sign_at.nd rfl (.inl rfl) pd_str)
  (pds_cons (pds_if (pdt_eq hr.units (pd_callC c__law_take tk (hr.mono (by decide)) (by rfl) (pda_cons (pd_var 0) (pda_cons pd_int pda_nil))) pd_int) (pds_one (pds_ret (pd_ixS (pd_var 1) (pd_callC c__law_take tk (hr.mono (by decide)) (by rfl) (pda_cons (pd_var 0) (pda_cons (pd_len (by rfl) m_len (pd_var 1)) pda_nil))) (fun _ _ => rfl)))) pds_nil)
  (pds_cons (pds_set (i := 2) sc__law_sign_at.nd rfl (.inl rfl) pd_str)
  (pds_one (pds_ret (pd_ixS (pd_var 2) (pd_callC c__law_take tk (hr.mono (by decide)) (by rfl) (pda_cons (pd_var 0) (pda_cons (pd_len (by rfl) m_len (pd_var 2)) pda_nil))) (fun _ _ => rfl)))))))
theorem ok__law_spoilt (F : FT K mg "_law_spoilt" s__law_spoilt ["_law_row_here", "_law_line"]) (c__law_take : Cal P w K mg base 1 "_law_take" ["_law_row_here", "_law_many"] sp_l_take) (c__law_sign_at : Cal P w K mg base 2 "_law_sign_at" ["_law_row_here"] sp_l_sign_at) (m_len : mg "len" = none) : Cal P w K mg base 3 "_law_spoilt" ["_law_row_here", "_law_line"] sp_l_spoilt := okF (N := ["_law_row_here", "_law_line", "_law_way", "_law_at", "_law_sign"]) (ds := d_l_spoilt) F sc__law_spoilt (lenL sp2.len) (fun h => fn_run0 h (pure_l_spoilt rfl)) fun f cdv A outer s H E hr tk po =>
  (pds_cons (pds_set (i := 2) sc__law_spoilt.nd rfl (.inl rfl) (pd_callC c__law_take tk (hr.mono (by decide)) (by rfl) (pda_cons (pd_var 0) (pda_cons pd_int pda_nil))))
  (pds_cons (pds_if (pdt_gt (pd_var 2) pd_int) (pds_one (pds_ret (pd_var 1))) pds_nil)
  (pds_cons (pds_set (i := 3) sc__law_spoilt.nd rfl (.inl rfl) (pd_callC c__law_take tk (hr.mono (by decide)) (by rfl) (pda_cons (pd_var 0) (pda_cons (pd_add (pd_len (by rfl) m_len (pd_var 1)) pd_int) pda_nil))))
  (pds_cons (pds_set (i := 4) sc__law_spoilt.nd rfl (.inl rfl) (pd_callC c__law_sign_at tk (hr.mono (by decide)) (by rfl) (pda_cons (pd_var 0) pda_nil)))
  (pds_cons (pds_if (pdt_eq hr.units (pd_var 2) pd_int) (pds_one (pds_ret (pd_add (pd_add (pd_slS (pd_var 1) pdo_none (pdo_some (pd_var 3))) (pd_var 4)) (pd_slS (pd_var 1) (pdo_some (pd_var 3)) pdo_none)))) pds_nil)
  (pds_cons (pds_if (pdt_eq hr.units (pd_var 2) pd_int) (pds_one (pds_ret (pd_add (pd_slS (pd_var 1) pdo_none (pdo_some (pd_var 3))) (pd_slS (pd_var 1) (pdo_some (pd_add (pd_var 3) pd_int)) pdo_none)))) pds_nil)
  (pds_one (pds_ret (pd_add (pd_add (pd_slS (pd_var 1) pdo_none (pdo_some (pd_var 3))) (pd_var 4)) (pd_slS (pd_var 1) (pdo_some (pd_add (pd_var 3) pd_int)) pdo_none))))))))))
theorem ok__law_tens (F : FT K mg "_law_tens" s__law_tens ["_law_many"]) (m_range : mg "range" = none) : Cal P w K mg base 1 "_law_tens" ["_law_many"] sp_l_tens := okF (N := ["_law_many", "_law_found", "_law_k"]) (ds := d_l_tens) F sc__law_tens (lenL sp1.len) (fun h => fn_run0 h (pure_l_tens rfl)) fun f cdv A outer s H E hr tk po =>
  (pds_cons (pds_set (i := 1) sc__law_tens.nd rfl (.inl rfl) pd_int)
  (pds_cons (pds_forR1 po rfl (by rfl) m_range (pda_cons (pd_var 0) pda_nil) (pdg_name (i := 2) sc__law_tens.nd rfl (.inl rfl)) (pds_one (pds_set (i := 1) sc__law_tens.nd rfl (.inl rfl) (pd_mul (pd_var 1) pd_int))))
  (pds_one (pds_ret (pd_var 1)))))
theorem ok__law_word_of (F : FT K mg "_law_word_of" s__law_word_of ["_law_row_here"]) (c__law_take : Cal P w K mg base 1 "_law_take" ["_law_row_here", "_law_many"] sp_l_take) (c__law_tens : Cal P w K mg base 1 "_law_tens" ["_law_many"] sp_l_tens) (m_str : mg "str" = none) : Cal P w K mg base 2 "_law_word_of" ["_law_row_here"] sp_l_word_of := okF (N := ["_law_row_here", "_law_many"]) (ds := d_l_word_of) F sc__law_word_of (lenL sp1.len) (fun h => fn_run0 h (pure_l_word_of rfl)) fun f cdv A outer s H E hr tk po =>
  (pds_cons (pds_set (i := 1) sc__law_word_of.nd rfl (.inl rfl) (pd_add pd_int (pd_callC c__law_take tk (hr.mono (by decide)) (by rfl) (pda_cons (pd_var 0) (pda_cons pd_int pda_nil)))))
  (pds_cons (pds_if (pdt_eq hr.units (pd_callC c__law_take tk (hr.mono (by decide)) (by rfl) (pda_cons (pd_var 0) (pda_cons pd_int pda_nil))) pd_int) (pds_one (pds_set (i := 1) sc__law_word_of.nd rfl (.inl rfl) (pd_add pd_int (pd_callC c__law_take tk (hr.mono (by decide)) (by rfl) (pda_cons (pd_var 0) (pda_cons pd_int pda_nil)))))) pds_nil)
  (pds_one (pds_ret (pd_zfill (pd_strI (by rfl) m_str (pd_callC c__law_take tk (hr.mono (by decide)) (by rfl) (pda_cons (pd_var 0) (pda_cons (pd_callC c__law_tens tk (hr.mono (by decide)) (by rfl) (pda_cons (pd_var 1) pda_nil)) pda_nil)))) (pd_var 1))))))
theorem ok__law_number_word (F : FT K mg "_law_number_word" s__law_number_word ["_law_row_here"]) (c__law_word_of : Cal P w K mg base 2 "_law_word_of" ["_law_row_here"] sp_l_word_of) (c__law_take : Cal P w K mg base 1 "_law_take" ["_law_row_here", "_law_many"] sp_l_take) (m_str : mg "str" = none) : Cal P w K mg base 3 "_law_number_word" ["_law_row_here"] sp_l_number_word := okF (N := ["_law_row_here", "_law_word", "_law_way"]) (ds := d_l_number_word) F sc__law_number_word (lenL sp1.len) (fun h => fn_run0 h (pure_l_number_word rfl)) fun f cdv A outer s H E hr tk po =>
  (pds_cons (pds_set (i := 1) sc__law_number_word.nd rfl (.inl rfl) (pd_callC c__law_word_of tk (hr.mono (by decide)) (by rfl) (pda_cons (pd_var 0) pda_nil)))
  (pds_cons (pds_set (i := 2) sc__law_number_word.nd rfl (.inl rfl) (pd_callC c__law_take tk (hr.mono (by decide)) (by rfl) (pda_cons (pd_var 0) (pda_cons pd_int pda_nil))))
  (pds_cons (pds_if (PW.pt (pdw_or (pdt_eq hr.units (pd_var 2) pd_int) (pdw_or1 (pdt_eq hr.units (pd_var 2) pd_int)))) (pds_one (pds_set (i := 1) sc__law_number_word.nd rfl (.inl rfl) (pd_add (pd_add (pd_var 1) pd_str) (pd_callC c__law_word_of tk (hr.mono (by decide)) (by rfl) (pda_cons (pd_var 0) pda_nil))))) pds_nil)
  (pds_cons (pds_if (pdt_eq hr.units (pd_var 2) pd_int) (pds_one (pds_set (i := 1) sc__law_number_word.nd rfl (.inl rfl) (pd_add (pd_add (pd_var 1) pd_str) (pd_strI (by rfl) m_str (pd_add pd_int (pd_callC c__law_take tk (hr.mono (by decide)) (by rfl) (pda_cons (pd_var 0) (pda_cons pd_int pda_nil)))))))) pds_nil)
  (pds_cons (pds_if (pdt_eq hr.units (pd_callC c__law_take tk (hr.mono (by decide)) (by rfl) (pda_cons (pd_var 0) (pda_cons pd_int pda_nil))) pd_int) (pds_one (pds_set (i := 1) sc__law_number_word.nd rfl (.inl rfl) (pd_add pd_str (pd_var 1)))) pds_nil)
  (pds_one (pds_ret (pd_var 1))))))))
theorem ok__law_asked (F : FT K mg "_law_asked" s__law_asked ["_law_line"]) (c_read_number : Cal P w K mg base 4 "read_number" ["line"] sp_read_number) (m_ValueError : mg "ValueError" = none) (m_isinstance : mg "isinstance" = none) (xf : XF K mg ["YardError", "BottomNought", "NoText", "TooGreat"]) : Cal P w K mg base 5 "_law_asked" ["_law_line"] sp_l_asked := okF (N := ["_law_line", "_law_found", "e"]) (ds := d_l_asked) F sc__law_asked (lenL sp1.len) (fun h => fn_run0 h (pure_l_asked rfl)) fun f cdv A outer s H E hr tk po =>
  (pds_cons (pds_set (i := 1) sc__law_asked.nd rfl (.inl rfl) pd_non)
  (pds_cons (pds_tryAs xf rfl rfl rfl sc__law_asked.nd rfl rfl (by rfl) tk (fun _ _ _ tk po => (pds_one (pds_set (i := 1) sc__law_asked.nd rfl (.inl rfl) (pd_callC c_read_number tk (hr.mono (by decide)) (by rfl) (pda_cons (pd_var 0) pda_nil))))) (fun _ _ _ _ hx hz hv => (pds_one (pds_set (i := 1) sc__law_asked.nd rfl (.inl rfl) (pd_tup (pda_cons (pd_isE xf hx hz hv (by rfl) m_isinstance rfl (by rfl) (pd_var 2)) (pda_cons (pd_isEV xf hx hz hv (by rfl) m_isinstance (by rfl) m_ValueError (pd_var 2)) (pda_cons (pd_isE xf hx hz hv (by rfl) m_isinstance rfl (by rfl) (pd_var 2)) pda_nil))))))))
  (pds_one (pds_ret (pd_var 1)))))
theorem ok__law_meets (F : FT K mg "_law_meets" s__law_meets ["_law_found", "_law_due"]) (c__law_whole_row : Cal P w K mg base 2 "_law_whole_row" ["_law_row_here", "_law_many"] sp_l_wholes) (m_len : mg "len" = none) : Cal P w K mg base 3 "_law_meets" ["_law_found", "_law_due"] sp_l_meets := okF (N := ["_law_found", "_law_due"]) (ds := d_l_meets) F sc__law_meets (lenL sp2.len) (fun h => fn_run0 h (pure_l_meets rfl)) fun f cdv A outer s H E hr tk po =>
  (pds_cons (pds_if (pdt_isN (pd_var 1)) (pds_one (pds_ret (pd_and (pd_eq hr.units (pd_var 0) (pd_tup (pda_cons pd_bl (pda_cons pd_bl (pda_cons pd_bl pda_nil))))) (pd_one (pd_eq hr.units (pd_len (by rfl) m_len (pd_var 0)) pd_int))))) pds_nil)
  (pds_one (pds_ret (pd_and (pd_callC c__law_whole_row tk (hr.mono (by decide)) (by rfl) (pda_cons (pd_var 0) (pda_cons pd_int pda_nil))) (pd_one (pd_eq hr.units (pd_var 0) (pd_var 1)))))))
theorem ok_law {f : Addr} {fd : FuncData} (F : Fun K "law" "law" s_law f fd) (c__law_row : Cal P w K mg base 1 "_law_row" ["_law_script"] sp_l_row) (c__law_spoilt : Cal P w K mg base 3 "_law_spoilt" ["_law_row_here", "_law_line"] sp_l_spoilt) (c__law_number_word : Cal P w K mg base 3 "_law_number_word" ["_law_row_here"] sp_l_number_word) (c__law_take : Cal P w K mg base 1 "_law_take" ["_law_row_here", "_law_many"] sp_l_take) (c__law_number_of : Cal P w K mg base 2 "_law_number_of" ["_law_word"] sp_l_number_of) (c__law_meets : Cal P w K mg base 3 "_law_meets" ["_law_found", "_law_due"] sp_l_meets) (c__law_asked : Cal P w K mg base 5 "_law_asked" ["_law_line"] sp_l_asked) : FnOk P w K mg base (L2.CX P w) 6 f fd ["_law_script"] (lift K sp_law) := okL (N := ["_law_script", "_law_row_here", "_law_line", "_law_other", "_law_due"]) (ds := d_law) F sc_law (lenL sp1.len) (fun h => fn_run0 h (pure_law rfl)) fun f cdv A outer s H E hr tk po =>
  (pds_cons (pds_set (i := 1) sc_law.nd rfl (.inl rfl) (pd_callC c__law_row tk (hr.mono (by decide)) (by rfl) (pda_cons (pd_var 0) pda_nil)))
  (pds_cons (pds_set (i := 2) sc_law.nd rfl (.inl rfl) (pd_callC c__law_spoilt tk (hr.mono (by decide)) (by rfl) (pda_cons (pd_var 1) (pda_cons (pd_callC c__law_number_word tk (hr.mono (by decide)) (by rfl) (pda_cons (pd_var 1) pda_nil)) pda_nil))))
  (pds_cons (pds_if (pdt_eq hr.units (pd_callC c__law_take tk (hr.mono (by decide)) (by rfl) (pda_cons (pd_var 1) (pda_cons pd_int pda_nil))) pd_int) (pds_one (pds_set (i := 2) sc_law.nd rfl (.inl rfl) (pd_ix (pd_lst (pda_cons pd_str (pda_cons pd_str (pda_cons pd_str (pda_cons pd_str pda_nil))))) (pd_callC c__law_take tk (hr.mono (by decide)) (by rfl) (pda_cons (pd_var 1) (pda_cons pd_int pda_nil))) (fun _ _ => rfl)))) pds_nil)
  (pds_cons (pds_set (i := 3) sc_law.nd rfl (.inl rfl) (pd_callC c__law_spoilt tk (hr.mono (by decide)) (by rfl) (pda_cons (pd_var 1) (pda_cons (pd_callC c__law_number_word tk (hr.mono (by decide)) (by rfl) (pda_cons (pd_var 1) pda_nil)) pda_nil))))
  (pds_cons (pds_set (i := 4) sc_law.nd rfl (.inl rfl) (pd_callC c__law_number_of tk (hr.mono (by decide)) (by rfl) (pda_cons (pd_var 2) pda_nil)))
  (pds_cons (pds_if (pdt_not (pdt_val (pd_callC c__law_meets tk (hr.mono (by decide)) (by rfl) (pda_cons (pd_callC c__law_asked tk (hr.mono (by decide)) (by rfl) (pda_cons (pd_var 2) pda_nil)) (pda_cons (pd_var 4) pda_nil))))) (pds_one (pds_ret pd_bl)) pds_nil)
  (pds_cons (pds_if (pdt_not (pdt_val (pd_callC c__law_meets tk (hr.mono (by decide)) (by rfl) (pda_cons (pd_callC c__law_asked tk (hr.mono (by decide)) (by rfl) (pda_cons (pd_var 3) pda_nil)) (pda_cons (pd_callC c__law_number_of tk (hr.mono (by decide)) (by rfl) (pda_cons (pd_var 3) pda_nil)) pda_nil))))) (pds_one (pds_ret pd_bl)) pds_nil)
  (pds_one (pds_ret (pd_callC c__law_meets tk (hr.mono (by decide)) (by rfl) (pda_cons (pd_callC c__law_asked tk (hr.mono (by decide)) (by rfl) (pda_cons (pd_var 2) pda_nil)) (pda_cons (pd_var 4) pda_nil))))))))))))
end
theorem all_mk {l : PySem.W.OpenLaw} {w : World} {K : PySem.W.Frag} {h : Heap} {mg : Str → Option Value} {fa f0 f1 f2 f3 f4 f5 f6 f7 f8 f9 f10 f11 f12 f13 f14 f15 f16 f17 f18 f19 : Addr} (X : K.In h) (G : h.Ns mainGlobals mg) (hfa : mg "law" = some (.ref fa))
    {od0 an0 od1 an1 od2 an2 od3 an3 od4 an4 od5 an5 od6 an6 od7 an7 od8 an8 od9 an9 od10 an10 od11 an11 od12 an12 od13 an13 od14 an14 od15 an15 od16 an16 od17 an17 od18 an18 od19 an19 : Option Addr} {sl0 sl1 sl2 sl3 sl4 sl5 sl6 sl7 sl8 sl9 sl10 sl11 sl12 sl13 sl14 sl15 sl16 sl17 sl18 sl19 : Array (Option Value)} {oc0 kV0 dc0 pm0 cd0 ct0 oc1 kV1 dc1 pm1 cd1 ct1 oc2 kV2 dc2 pm2 cd2 ct2 oc3 kV3 dc3 pm3 cd3 ct3 oc4 kV4 dc4 pm4 cd4 ct4 oc5 kV5 dc5 pm5 cd5 ct5 oc6 kV6 dc6 pm6 cd6 ct6 oc7 kV7 dc7 pm7 cd7 ct7 oc8 kV8 dc8 pm8 cd8 ct8 oc9 kV9 dc9 pm9 cd9 ct9 oc10 kV10 dc10 pm10 cd10 ct10 oc11 kV11 dc11 pm11 cd11 ct11 oc12 kV12 dc12 pm12 cd12 ct12 oc13 kV13 dc13 pm13 cd13 ct13 oc14 kV14 dc14 pm14 cd14 ct14 oc15 kV15 dc15 pm15 cd15 ct15 oc16 kV16 dc16 pm16 cd16 ct16 oc17 kV17 dc17 pm17 cd17 ct17 oc18 kV18 dc18 pm18 cd18 ct18 oc19 kV19 dc19 pm19 cd19 ct19 : Value}
    (a0 : PySem.W.nsIn K mainGlobals "divisor" = some (some (.ref f0))) (l0 : K.lookup f0 = some ⟨oc0, od0, .func (PySem.W.fnOf "divisor" "divisor" (defArgs s_divisor) (defBody s_divisor) (defScope s_divisor) .none kV0 dc0 pm0 an0 cd0 ct0), sl0⟩) (c0 : PySem.W.codeIn K cd0 "divisor" = true) (k0 : PySem.W.keepIn K (.ref f0) = true)
    (a1 : PySem.W.nsIn K mainGlobals "lowest" = some (some (.ref f1))) (l1 : K.lookup f1 = some ⟨oc1, od1, .func (PySem.W.fnOf "lowest" "lowest" (defArgs s_lowest) (defBody s_lowest) (defScope s_lowest) .none kV1 dc1 pm1 an1 cd1 ct1), sl1⟩) (c1 : PySem.W.codeIn K cd1 "lowest" = true) (k1 : PySem.W.keepIn K (.ref f1) = true)
    (a2 : PySem.W.nsIn K mainGlobals "fraction" = some (some (.ref f2))) (l2 : K.lookup f2 = some ⟨oc2, od2, .func (PySem.W.fnOf "fraction" "fraction" (defArgs s_fraction) (defBody s_fraction) (defScope s_fraction) .none kV2 dc2 pm2 an2 cd2 ct2), sl2⟩) (c2 : PySem.W.codeIn K cd2 "fraction" = true) (k2 : PySem.W.keepIn K (.ref f2) = true)
    (a3 : PySem.W.nsIn K mainGlobals "are_figures" = some (some (.ref f3))) (l3 : K.lookup f3 = some ⟨oc3, od3, .func (PySem.W.fnOf "are_figures" "are_figures" (defArgs s_are_figures) (defBody s_are_figures) (defScope s_are_figures) .none kV3 dc3 pm3 an3 cd3 ct3), sl3⟩) (c3 : PySem.W.codeIn K cd3 "are_figures" = true) (k3 : PySem.W.keepIn K (.ref f3) = true)
    (a4 : PySem.W.nsIn K mainGlobals "read_number" = some (some (.ref f4))) (l4 : K.lookup f4 = some ⟨oc4, od4, .func (PySem.W.fnOf "read_number" "read_number" (defArgs s_read_number) (defBody s_read_number) (defScope s_read_number) .none kV4 dc4 pm4 an4 cd4 ct4), sl4⟩) (c4 : PySem.W.codeIn K cd4 "read_number" = true) (k4 : PySem.W.keepIn K (.ref f4) = true)
    (a5 : PySem.W.nsIn K mainGlobals "_law_row" = some (some (.ref f5))) (l5 : K.lookup f5 = some ⟨oc5, od5, .func (PySem.W.fnOf "_law_row" "_law_row" (defArgs s__law_row) (defBody s__law_row) (defScope s__law_row) .none kV5 dc5 pm5 an5 cd5 ct5), sl5⟩) (c5 : PySem.W.codeIn K cd5 "_law_row" = true) (k5 : PySem.W.keepIn K (.ref f5) = true)
    (a6 : PySem.W.nsIn K mainGlobals "_law_take" = some (some (.ref f6))) (l6 : K.lookup f6 = some ⟨oc6, od6, .func (PySem.W.fnOf "_law_take" "_law_take" (defArgs s__law_take) (defBody s__law_take) (defScope s__law_take) .none kV6 dc6 pm6 an6 cd6 ct6), sl6⟩) (c6 : PySem.W.codeIn K cd6 "_law_take" = true) (k6 : PySem.W.keepIn K (.ref f6) = true)
    (a7 : PySem.W.nsIn K mainGlobals "_law_gcd" = some (some (.ref f7))) (l7 : K.lookup f7 = some ⟨oc7, od7, .func (PySem.W.fnOf "_law_gcd" "_law_gcd" (defArgs s__law_gcd) (defBody s__law_gcd) (defScope s__law_gcd) .none kV7 dc7 pm7 an7 cd7 ct7), sl7⟩) (c7 : PySem.W.codeIn K cd7 "_law_gcd" = true) (k7 : PySem.W.keepIn K (.ref f7) = true)
    (a8 : PySem.W.nsIn K mainGlobals "_law_whole" = some (some (.ref f8))) (l8 : K.lookup f8 = some ⟨oc8, od8, .func (PySem.W.fnOf "_law_whole" "_law_whole" (defArgs s__law_whole) (defBody s__law_whole) (defScope s__law_whole) .none kV8 dc8 pm8 an8 cd8 ct8), sl8⟩) (c8 : PySem.W.codeIn K cd8 "_law_whole" = true) (k8 : PySem.W.keepIn K (.ref f8) = true)
    (a9 : PySem.W.nsIn K mainGlobals "_law_whole_row" = some (some (.ref f9))) (l9 : K.lookup f9 = some ⟨oc9, od9, .func (PySem.W.fnOf "_law_whole_row" "_law_whole_row" (defArgs s__law_whole_row) (defBody s__law_whole_row) (defScope s__law_whole_row) .none kV9 dc9 pm9 an9 cd9 ct9), sl9⟩) (c9 : PySem.W.codeIn K cd9 "_law_whole_row" = true) (k9 : PySem.W.keepIn K (.ref f9) = true)
    (a10 : PySem.W.nsIn K mainGlobals "_law_figures" = some (some (.ref f10))) (l10 : K.lookup f10 = some ⟨oc10, od10, .func (PySem.W.fnOf "_law_figures" "_law_figures" (defArgs s__law_figures) (defBody s__law_figures) (defScope s__law_figures) .none kV10 dc10 pm10 an10 cd10 ct10), sl10⟩) (c10 : PySem.W.codeIn K cd10 "_law_figures" = true) (k10 : PySem.W.keepIn K (.ref f10) = true)
    (a11 : PySem.W.nsIn K mainGlobals "_law_number_of" = some (some (.ref f11))) (l11 : K.lookup f11 = some ⟨oc11, od11, .func (PySem.W.fnOf "_law_number_of" "_law_number_of" (defArgs s__law_number_of) (defBody s__law_number_of) (defScope s__law_number_of) .none kV11 dc11 pm11 an11 cd11 ct11), sl11⟩) (c11 : PySem.W.codeIn K cd11 "_law_number_of" = true) (k11 : PySem.W.keepIn K (.ref f11) = true)
    (a12 : PySem.W.nsIn K mainGlobals "_law_sign_at" = some (some (.ref f12))) (l12 : K.lookup f12 = some ⟨oc12, od12, .func (PySem.W.fnOf "_law_sign_at" "_law_sign_at" (defArgs s__law_sign_at) (defBody s__law_sign_at) (defScope s__law_sign_at) .none kV12 dc12 pm12 an12 cd12 ct12), sl12⟩) (c12 : PySem.W.codeIn K cd12 "_law_sign_at" = true) (k12 : PySem.W.keepIn K (.ref f12) = true)
    (a13 : PySem.W.nsIn K mainGlobals "_law_spoilt" = some (some (.ref f13))) (l13 : K.lookup f13 = some ⟨oc13, od13, .func (PySem.W.fnOf "_law_spoilt" "_law_spoilt" (defArgs s__law_spoilt) (defBody s__law_spoilt) (defScope s__law_spoilt) .none kV13 dc13 pm13 an13 cd13 ct13), sl13⟩) (c13 : PySem.W.codeIn K cd13 "_law_spoilt" = true) (k13 : PySem.W.keepIn K (.ref f13) = true)
    (a14 : PySem.W.nsIn K mainGlobals "_law_tens" = some (some (.ref f14))) (l14 : K.lookup f14 = some ⟨oc14, od14, .func (PySem.W.fnOf "_law_tens" "_law_tens" (defArgs s__law_tens) (defBody s__law_tens) (defScope s__law_tens) .none kV14 dc14 pm14 an14 cd14 ct14), sl14⟩) (c14 : PySem.W.codeIn K cd14 "_law_tens" = true) (k14 : PySem.W.keepIn K (.ref f14) = true)
    (a15 : PySem.W.nsIn K mainGlobals "_law_word_of" = some (some (.ref f15))) (l15 : K.lookup f15 = some ⟨oc15, od15, .func (PySem.W.fnOf "_law_word_of" "_law_word_of" (defArgs s__law_word_of) (defBody s__law_word_of) (defScope s__law_word_of) .none kV15 dc15 pm15 an15 cd15 ct15), sl15⟩) (c15 : PySem.W.codeIn K cd15 "_law_word_of" = true) (k15 : PySem.W.keepIn K (.ref f15) = true)
    (a16 : PySem.W.nsIn K mainGlobals "_law_number_word" = some (some (.ref f16))) (l16 : K.lookup f16 = some ⟨oc16, od16, .func (PySem.W.fnOf "_law_number_word" "_law_number_word" (defArgs s__law_number_word) (defBody s__law_number_word) (defScope s__law_number_word) .none kV16 dc16 pm16 an16 cd16 ct16), sl16⟩) (c16 : PySem.W.codeIn K cd16 "_law_number_word" = true) (k16 : PySem.W.keepIn K (.ref f16) = true)
    (a17 : PySem.W.nsIn K mainGlobals "_law_asked" = some (some (.ref f17))) (l17 : K.lookup f17 = some ⟨oc17, od17, .func (PySem.W.fnOf "_law_asked" "_law_asked" (defArgs s__law_asked) (defBody s__law_asked) (defScope s__law_asked) .none kV17 dc17 pm17 an17 cd17 ct17), sl17⟩) (c17 : PySem.W.codeIn K cd17 "_law_asked" = true) (k17 : PySem.W.keepIn K (.ref f17) = true)
    (a18 : PySem.W.nsIn K mainGlobals "_law_meets" = some (some (.ref f18))) (l18 : K.lookup f18 = some ⟨oc18, od18, .func (PySem.W.fnOf "_law_meets" "_law_meets" (defArgs s__law_meets) (defBody s__law_meets) (defScope s__law_meets) .none kV18 dc18 pm18 an18 cd18 ct18), sl18⟩) (c18 : PySem.W.codeIn K cd18 "_law_meets" = true) (k18 : PySem.W.keepIn K (.ref f18) = true)
    (a19 : PySem.W.nsIn K mainGlobals "law" = some (some (.ref f19))) (l19 : K.lookup f19 = some ⟨oc19, od19, .func (PySem.W.fnOf "law" "law" (defArgs s_law) (defBody s_law) (defScope s_law) .none kV19 dc19 pm19 an19 cd19 ct19), sl19⟩) (c19 : PySem.W.codeIn K cd19 "law" = true) (k19 : PySem.W.keepIn K (.ref f19) = true)
    (z_ValueError : PySem.W.nsIn K mainGlobals "ValueError" = some none)
    (z_abs : PySem.W.nsIn K mainGlobals "abs" = some none)
    (z_all : PySem.W.nsIn K mainGlobals "all" = some none)
    (z_bool : PySem.W.nsIn K mainGlobals "bool" = some none)
    (z_enumerate : PySem.W.nsIn K mainGlobals "enumerate" = some none)
    (z_int : PySem.W.nsIn K mainGlobals "int" = some none)
    (z_isinstance : PySem.W.nsIn K mainGlobals "isinstance" = some none)
    (z_len : PySem.W.nsIn K mainGlobals "len" = some none)
    (z_range : PySem.W.nsIn K mainGlobals "range" = some none)
    (z_str : PySem.W.nsIn K mainGlobals "str" = some none)
    (z_tuple : PySem.W.nsIn K mainGlobals "tuple" = some none)
    {t_MOST : Tok} (y_MOST : PySem.W.nsIn K mainGlobals "MOST" = some (some (.int 60 t_MOST)))
    {t_FIGURES : Tok} (y_FIGURES : PySem.W.nsIn K mainGlobals "FIGURES" = some (some (.str (PySem.Str.ofString "0123456789") t_FIGURES)))
    (z_xf : xfB K ["YardError", "BottomNought", "NoText", "TooGreat"] = true)
    : ∃ fd : FuncData, (∀ (s : Shared) (v : Value), BindsTo s fd ⟨[v], []⟩ [("_law_script", v)]) ∧ ∀ base : Heap, K.In base → base.Ns mainGlobals mg → FnOk l.prog w K mg base (L2.CX l.prog w) 6 fa fd ["_law_script"] (lift K sp_law) := by
  have e := hfa.symm.trans (PySem.W.mg_of X G a19)
  cases e
  have F0 := fun_mk (st := s_divisor) l0 c0 k0
  have T0 : FT K mg "divisor" s_divisor ["one", "other"] := ⟨_, _, F0, PySem.W.mg_of X G a0, F0.binds (ps := ["one", "other"]) fun _ _ _ _ _ _ us hl => match us, hl with | [_, _], _ => rfl⟩
  have F1 := fun_mk (st := s_lowest) l1 c1 k1
  have T1 : FT K mg "lowest" s_lowest ["numbers"] := ⟨_, _, F1, PySem.W.mg_of X G a1, F1.binds (ps := ["numbers"]) fun _ _ _ _ _ _ us hl => match us, hl with | [_], _ => rfl⟩
  have F2 := fun_mk (st := s_fraction) l2 c2 k2
  have T2 : FT K mg "fraction" s_fraction ["top", "bottom"] := ⟨_, _, F2, PySem.W.mg_of X G a2, F2.binds (ps := ["top", "bottom"]) fun _ _ _ _ _ _ us hl => match us, hl with | [_, _], _ => rfl⟩
  have F3 := fun_mk (st := s_are_figures) l3 c3 k3
  have T3 : FT K mg "are_figures" s_are_figures ["word"] := ⟨_, _, F3, PySem.W.mg_of X G a3, F3.binds (ps := ["word"]) fun _ _ _ _ _ _ us hl => match us, hl with | [_], _ => rfl⟩
  have F4 := fun_mk (st := s_read_number) l4 c4 k4
  have T4 : FT K mg "read_number" s_read_number ["line"] := ⟨_, _, F4, PySem.W.mg_of X G a4, F4.binds (ps := ["line"]) fun _ _ _ _ _ _ us hl => match us, hl with | [_], _ => rfl⟩
  have F5 := fun_mk (st := s__law_row) l5 c5 k5
  have T5 : FT K mg "_law_row" s__law_row ["_law_script"] := ⟨_, _, F5, PySem.W.mg_of X G a5, F5.binds (ps := ["_law_script"]) fun _ _ _ _ _ _ us hl => match us, hl with | [_], _ => rfl⟩
  have F6 := fun_mk (st := s__law_take) l6 c6 k6
  have T6 : FT K mg "_law_take" s__law_take ["_law_row_here", "_law_many"] := ⟨_, _, F6, PySem.W.mg_of X G a6, F6.binds (ps := ["_law_row_here", "_law_many"]) fun _ _ _ _ _ _ us hl => match us, hl with | [_, _], _ => rfl⟩
  have F7 := fun_mk (st := s__law_gcd) l7 c7 k7
  have T7 : FT K mg "_law_gcd" s__law_gcd ["_law_one", "_law_other"] := ⟨_, _, F7, PySem.W.mg_of X G a7, F7.binds (ps := ["_law_one", "_law_other"]) fun _ _ _ _ _ _ us hl => match us, hl with | [_, _], _ => rfl⟩
  have F8 := fun_mk (st := s__law_whole) l8 c8 k8
  have T8 : FT K mg "_law_whole" s__law_whole ["_law_number"] := ⟨_, _, F8, PySem.W.mg_of X G a8, F8.binds (ps := ["_law_number"]) fun _ _ _ _ _ _ us hl => match us, hl with | [_], _ => rfl⟩
  have F9 := fun_mk (st := s__law_whole_row) l9 c9 k9
  have T9 : FT K mg "_law_whole_row" s__law_whole_row ["_law_row_here", "_law_many"] := ⟨_, _, F9, PySem.W.mg_of X G a9, F9.binds (ps := ["_law_row_here", "_law_many"]) fun _ _ _ _ _ _ us hl => match us, hl with | [_, _], _ => rfl⟩
  have F10 := fun_mk (st := s__law_figures) l10 c10 k10
  have T10 : FT K mg "_law_figures" s__law_figures ["_law_word"] := ⟨_, _, F10, PySem.W.mg_of X G a10, F10.binds (ps := ["_law_word"]) fun _ _ _ _ _ _ us hl => match us, hl with | [_], _ => rfl⟩
  have F11 := fun_mk (st := s__law_number_of) l11 c11 k11
  have T11 : FT K mg "_law_number_of" s__law_number_of ["_law_word"] := ⟨_, _, F11, PySem.W.mg_of X G a11, F11.binds (ps := ["_law_word"]) fun _ _ _ _ _ _ us hl => match us, hl with | [_], _ => rfl⟩
  have F12 := fun_mk (st := s__law_sign_at) l12 c12 k12
  have T12 : FT K mg "_law_sign_at" s__law_sign_at ["_law_row_here"] := ⟨_, _, F12, PySem.W.mg_of X G a12, F12.binds (ps := ["_law_row_here"]) fun _ _ _ _ _ _ us hl => match us, hl with | [_], _ => rfl⟩
  have F13 := fun_mk (st := s__law_spoilt) l13 c13 k13
  have T13 : FT K mg "_law_spoilt" s__law_spoilt ["_law_row_here", "_law_line"] := ⟨_, _, F13, PySem.W.mg_of X G a13, F13.binds (ps := ["_law_row_here", "_law_line"]) fun _ _ _ _ _ _ us hl => match us, hl with | [_, _], _ => rfl⟩
  have F14 := fun_mk (st := s__law_tens) l14 c14 k14
  have T14 : FT K mg "_law_tens" s__law_tens ["_law_many"] := ⟨_, _, F14, PySem.W.mg_of X G a14, F14.binds (ps := ["_law_many"]) fun _ _ _ _ _ _ us hl => match us, hl with | [_], _ => rfl⟩
  have F15 := fun_mk (st := s__law_word_of) l15 c15 k15
  have T15 : FT K mg "_law_word_of" s__law_word_of ["_law_row_here"] := ⟨_, _, F15, PySem.W.mg_of X G a15, F15.binds (ps := ["_law_row_here"]) fun _ _ _ _ _ _ us hl => match us, hl with | [_], _ => rfl⟩
  have F16 := fun_mk (st := s__law_number_word) l16 c16 k16
  have T16 : FT K mg "_law_number_word" s__law_number_word ["_law_row_here"] := ⟨_, _, F16, PySem.W.mg_of X G a16, F16.binds (ps := ["_law_row_here"]) fun _ _ _ _ _ _ us hl => match us, hl with | [_], _ => rfl⟩
  have F17 := fun_mk (st := s__law_asked) l17 c17 k17
  have T17 : FT K mg "_law_asked" s__law_asked ["_law_line"] := ⟨_, _, F17, PySem.W.mg_of X G a17, F17.binds (ps := ["_law_line"]) fun _ _ _ _ _ _ us hl => match us, hl with | [_], _ => rfl⟩
  have F18 := fun_mk (st := s__law_meets) l18 c18 k18
  have T18 : FT K mg "_law_meets" s__law_meets ["_law_found", "_law_due"] := ⟨_, _, F18, PySem.W.mg_of X G a18, F18.binds (ps := ["_law_found", "_law_due"]) fun _ _ _ _ _ _ us hl => match us, hl with | [_, _], _ => rfl⟩
  have F19 := fun_mk (st := s_law) l19 c19 k19
  refine ⟨PySem.W.fnOf "law" "law" (defArgs s_law) (defBody s_law) (defScope s_law) .none kV19 dc19 pm19 an19 cd19 ct19, fun s v => .of_eq rfl, fun base _ _ => ?_⟩
  have m_ValueError : mg "ValueError" = none := PySem.W.mg_none_of X G z_ValueError
  have m_abs : mg "abs" = none := PySem.W.mg_none_of X G z_abs
  have m_all : mg "all" = none := PySem.W.mg_none_of X G z_all
  have m_bool : mg "bool" = none := PySem.W.mg_none_of X G z_bool
  have m_enumerate : mg "enumerate" = none := PySem.W.mg_none_of X G z_enumerate
  have m_int : mg "int" = none := PySem.W.mg_none_of X G z_int
  have m_isinstance : mg "isinstance" = none := PySem.W.mg_none_of X G z_isinstance
  have m_len : mg "len" = none := PySem.W.mg_none_of X G z_len
  have m_range : mg "range" = none := PySem.W.mg_none_of X G z_range
  have m_str : mg "str" = none := PySem.W.mg_none_of X G z_str
  have m_tuple : mg "tuple" = none := PySem.W.mg_none_of X G z_tuple
  have g_MOST : mg "MOST" = some (.int 60 t_MOST) := PySem.W.mg_of X G y_MOST
  have g_FIGURES : mg "FIGURES" = some (.str (PySem.Str.ofString "0123456789") t_FIGURES) := PySem.W.mg_of X G y_FIGURES
  have xf : XF K mg ["YardError", "BottomNought", "NoText", "TooGreat"] := XF.mk' X G z_xf
  have c_divisor : Cal l.prog w K mg base 1 "divisor" ["one", "other"] sp_divisor := ok_divisor T0 m_abs
  have c_lowest : Cal l.prog w K mg base 2 "lowest" ["numbers"] sp_lowest := ok_lowest T1 c_divisor m_tuple
  have c_fraction : Cal l.prog w K mg base 3 "fraction" ["top", "bottom"] sp_fraction := ok_fraction T2 c_lowest xf
  have c_are_figures : Cal l.prog w K mg base 1 "are_figures" ["word"] sp_are_figures := ok_are_figures T3 m_len g_MOST g_FIGURES
  have c_read_number : Cal l.prog w K mg base 4 "read_number" ["line"] sp_read_number := ok_read_number T4 c_are_figures c_fraction m_int m_len xf
  have c__law_row : Cal l.prog w K mg base 1 "_law_row" ["_law_script"] sp_l_row := ok__law_row T5 m_enumerate
  have c__law_take : Cal l.prog w K mg base 1 "_law_take" ["_law_row_here", "_law_many"] sp_l_take := ok__law_take T6 m_len
  have c__law_gcd : Cal l.prog w K mg base 1 "_law_gcd" ["_law_one", "_law_other"] sp_divisor := ok__law_gcd T7 m_abs
  have c__law_whole : Cal l.prog w K mg base 1 "_law_whole" ["_law_number"] sp_l_whole := ok__law_whole T8 m_bool m_int m_isinstance
  have c__law_whole_row : Cal l.prog w K mg base 2 "_law_whole_row" ["_law_row_here", "_law_many"] sp_l_wholes := ok__law_whole_row T9 c__law_whole m_all m_isinstance m_len m_tuple
  have c__law_figures : Cal l.prog w K mg base 1 "_law_figures" ["_law_word"] sp_l_figures := ok__law_figures T10 m_all m_len
  have c__law_number_of : Cal l.prog w K mg base 2 "_law_number_of" ["_law_word"] sp_l_number_of := ok__law_number_of T11 c__law_figures c__law_gcd m_int
  have c__law_sign_at : Cal l.prog w K mg base 2 "_law_sign_at" ["_law_row_here"] sp_l_sign_at := ok__law_sign_at T12 c__law_take m_len
  have c__law_spoilt : Cal l.prog w K mg base 3 "_law_spoilt" ["_law_row_here", "_law_line"] sp_l_spoilt := ok__law_spoilt T13 c__law_take c__law_sign_at m_len
  have c__law_tens : Cal l.prog w K mg base 1 "_law_tens" ["_law_many"] sp_l_tens := ok__law_tens T14 m_range
  have c__law_word_of : Cal l.prog w K mg base 2 "_law_word_of" ["_law_row_here"] sp_l_word_of := ok__law_word_of T15 c__law_take c__law_tens m_str
  have c__law_number_word : Cal l.prog w K mg base 3 "_law_number_word" ["_law_row_here"] sp_l_number_word := ok__law_number_word T16 c__law_word_of c__law_take m_str
  have c__law_asked : Cal l.prog w K mg base 5 "_law_asked" ["_law_line"] sp_l_asked := ok__law_asked T17 c_read_number m_ValueError m_isinstance xf
  have c__law_meets : Cal l.prog w K mg base 3 "_law_meets" ["_law_found", "_law_due"] sp_l_meets := ok__law_meets T18 c__law_whole_row m_len
  exact ok_law F19 c__law_row c__law_spoilt c__law_number_word c__law_take c__law_number_of c__law_meets c__law_asked
end Law
open PySem PySem.W PyProof.Rows
set_option maxHeartbeats 0 in
theorem PySem.Challenge.cw_solidyard_k89_numbers_read_holds : PySem.Challenge.rw_solidyard_k89_numbers_read.Holds := by
  w_on; o_law; k_head; (case hw => w_witness2)
  k_fill
  refine L2.walk_ofB (l := PySem.Challenge.rw_solidyard_k89_numbers_read) (n := 63) (k := 6) (x := "_law_script") (CX := fun w => L2.CX PySem.Challenge.rw_solidyard_k89_numbers_read.prog w) (sp := fun w => SY.lift _ SY.sp_law) rfl (by decide) rfl ⟨rfl, by decide, by decide⟩ (fun w h Y => PySem.W.kIn_of Y) ?F (fun _ _ a ns hl hb _ hS => SY.law_start a ns hl hb hS) (fun _ _ _ _ _ h => SY.cx_no h)
  case F =>
    intro w mg fa h KX G hmg
    refine' Law.all_mk KX G hmg ?a0 ?l0 ?c0 ?k0 ?a1 ?l1 ?c1 ?k1 ?a2 ?l2 ?c2 ?k2 ?a3 ?l3 ?c3 ?k3 ?a4 ?l4 ?c4 ?k4 ?a5 ?l5 ?c5 ?k5 ?a6 ?l6 ?c6 ?k6 ?a7 ?l7 ?c7 ?k7 ?a8 ?l8 ?c8 ?k8 ?a9 ?l9 ?c9 ?k9 ?a10 ?l10 ?c10 ?k10 ?a11 ?l11 ?c11 ?k11 ?a12 ?l12 ?c12 ?k12 ?a13 ?l13 ?c13 ?k13 ?a14 ?l14 ?c14 ?k14 ?a15 ?l15 ?c15 ?k15 ?a16 ?l16 ?c16 ?k16 ?a17 ?l17 ?c17 ?k17 ?a18 ?l18 ?c18 ?k18 ?a19 ?l19 ?c19 ?k19 ?z_ValueError ?z_abs ?z_all ?z_bool ?z_enumerate ?z_int ?z_isinstance ?z_len ?z_range ?z_str ?z_tuple ?y_MOST ?y_FIGURES ?z_xf
    (case a0 => k_is); (case l0 => k_is); (case c0 => k_is); (case k0 => k_is); (case a1 => k_is); (case l1 => k_is); (case c1 => k_is); (case k1 => k_is); (case a2 => k_is); (case l2 => k_is); (case c2 => k_is); (case k2 => k_is); (case a3 => k_is); (case l3 => k_is); (case c3 => k_is); (case k3 => k_is); (case a4 => k_is); (case l4 => k_is); (case c4 => k_is); (case k4 => k_is); (case a5 => k_is); (case l5 => k_is); (case c5 => k_is); (case k5 => k_is); (case a6 => k_is); (case l6 => k_is); (case c6 => k_is); (case k6 => k_is); (case a7 => k_is); (case l7 => k_is); (case c7 => k_is); (case k7 => k_is); (case a8 => k_is); (case l8 => k_is); (case c8 => k_is); (case k8 => k_is); (case a9 => k_is); (case l9 => k_is); (case c9 => k_is); (case k9 => k_is); (case a10 => k_is); (case l10 => k_is); (case c10 => k_is); (case k10 => k_is); (case a11 => k_is); (case l11 => k_is); (case c11 => k_is); (case k11 => k_is); (case a12 => k_is); (case l12 => k_is); (case c12 => k_is); (case k12 => k_is); (case a13 => k_is); (case l13 => k_is); (case c13 => k_is); (case k13 => k_is); (case a14 => k_is); (case l14 => k_is); (case c14 => k_is); (case k14 => k_is); (case a15 => k_is); (case l15 => k_is); (case c15 => k_is); (case k15 => k_is); (case a16 => k_is); (case l16 => k_is); (case c16 => k_is); (case k16 => k_is); (case a17 => k_is); (case l17 => k_is); (case c17 => k_is); (case k17 => k_is); (case a18 => k_is); (case l18 => k_is); (case c18 => k_is); (case k18 => k_is); (case a19 => k_is); (case l19 => k_is); (case c19 => k_is); (case k19 => k_is); (case z_ValueError => k_is); (case z_abs => k_is); (case z_all => k_is); (case z_bool => k_is); (case z_enumerate => k_is); (case z_int => k_is); (case z_isinstance => k_is); (case z_len => k_is); (case z_range => k_is); (case z_str => k_is); (case z_tuple => k_is); (case y_MOST => k_is); (case y_FIGURES => k_is); (case z_xf => kernel_rfl)
