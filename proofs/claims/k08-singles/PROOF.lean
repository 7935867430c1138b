import PyProof.Rows.All
import Wide.All
import OpenK.AllK
import Wide.FinOn
import HandS.ForMost
import HandS.Wide
import HandS.IsInst
import HandS.Style
import HandS.NoneIn
import HandS.Exc
import HandS.ExcOwn
import HandS.ExcIs
import HandS.ExcValue
import HandS.WordsExc
import HandS.HeadHook1
import HandS.Conv
import HandS.More
import HandS.Defaults
import HandS.Head0
import HandS.Head1
import HandS.Head2
import HandS.HeadEnd
import HandS.HeadHook2
import HandS.HeadHook3
import HandS.HeadHook4
import KE.KStateDown
import PySem.Challenge.RW_carriedrests_k08_whole_singles
set_option Elab.async false
set_option linter.all false
set_option maxRecDepth 100000
namespace Ly
open PySem L2

abbrev DD := PyData
abbrev FK := PySem.W.Frag

def Ex (H H' : Hp) : Prop := ∀ a o, H a = some o → H' a = some o
theorem Ex.refl (H : Hp) : Ex H H := fun _ _ h => h
theorem Ex.trans {H H1 H2 : Hp} (a : Ex H H1) (b : Ex H1 H2) : Ex H H2 := fun x o h => b x o (a x o h)
theorem Ex.new {H : Hp} {p : Addr} {o : HO} (h : H p = none) : Ex H (upd H p o) := fun a u e => by
  rw [upd_ne (ne_of_none e h)]; exact e
theorem Ex.none {H H' : Hp} {p : Addr} (e : Ex H H') (h : H' p = none) : H p = none := by
  cases h1 : H p with
  | none => rfl
  | some o => rw [e p o h1] at h; cases h
theorem ex_t {K : FK} {H H' : Hp} {a : Addr} {xs : List V} (e : Ex H H') (h : SqT K H a xs) : SqT K H' a xs := by
  rcases h with (h | ⟨o, h⟩) | h
  · exact .inl (.inl (e _ _ h))
  · exact .inl (.inr ⟨o, e _ _ h⟩)
  · exact .inr h

/-- from (G, H) to (G', H'): what stood in H stays but at L; G grows by new things alone -/
structure Grow (L : List Addr) (G H G' H' : Hp) : Prop where
  g : Ex G G'
  gh : Ex G' H'
  fr : ∀ a o, a ∉ L → H a = some o → H' a = some o
  new : ∀ a o, H a = some o → G a = none → G' a = none
  dom : ∀ a o, H a = some o → ∃ o', H' a = some o'
theorem Grow.refl {L : List Addr} {G H : Hp} (e : Ex G H) : Grow L G H G H := ⟨Ex.refl G, e, fun _ _ _ h => h, fun _ _ _ h => h, fun _ o h => ⟨o, h⟩⟩
theorem Grow.trans {L : List Addr} {G H G1 H1 G2 H2 : Hp} (a : Grow L G H G1 H1) (b : Grow L G1 H1 G2 H2) : Grow L G H G2 H2 :=
  ⟨a.g.trans b.g, b.gh, fun x o n h => b.fr x o n (a.fr x o n h), fun x o h n => by
    obtain ⟨o', h'⟩ := a.dom x o h
    exact b.new x o' h' (a.new x o h n), fun x o h => by
    obtain ⟨o', h'⟩ := a.dom x o h
    exact b.dom x o' h'⟩
theorem Grow.mono {L L' : List Addr} {G H G1 H1 : Hp} (h : ∀ a ∈ L, a ∈ L') (a : Grow L G H G1 H1) : Grow L' G H G1 H1 :=
  ⟨a.g, a.gh, fun x o n q => a.fr x o (fun z => n (h x z)) q, a.new, a.dom⟩
theorem Grow.laid {L : List Addr} {G H : Hp} {p : Addr} {o : HO} (e : Ex G H) (h : H p = none) : Grow L G H (upd G p o) (upd H p o) := by
  have hg : G p = none := e.none h
  refine ⟨Ex.new hg, fun a u q => ?_, fun a u _ q => Ex.new h a u q, fun a u q n => ?_, fun a u q => ⟨u, Ex.new h a u q⟩⟩
  · by_cases ha : a = p
    · subst ha; rw [upd_same] at q ⊢; exact q
    · rw [upd_ne ha] at q ⊢; exact e a u q
  · rw [upd_ne (ne_of_none q h)]; exact n
/-- a new thing that is not frozen -/
theorem Grow.free {L : List Addr} {G H : Hp} {p : Addr} {o : HO} (e : Ex G H) (h : H p = none) : Grow L G H G (upd H p o) :=
  ⟨Ex.refl G, e.trans (Ex.new h), fun a u _ q => Ex.new h a u q, fun _ _ _ n => n, fun a u q => ⟨u, Ex.new h a u q⟩⟩
/-- a thing of ours is written -/
theorem Grow.put {L : List Addr} {G H : Hp} {p : Addr} {o : HO} (e : Ex G H) (h : G p = none) (hl : p ∈ L) : Grow L G H G (upd H p o) :=
  ⟨Ex.refl G, fun a u q => by rw [upd_ne (ne_of_none q h)]; exact e a u q, fun a u n q => by rw [upd_ne (fun z => n (by rw [z]; exact hl))]; exact q, fun _ _ _ n => n, fun a u q => by
    by_cases ha : a = p
    · subst ha; exact ⟨o, upd_same⟩
    · exact ⟨u, by rw [upd_ne ha]; exact q⟩⟩

mutual
inductive Da (K : FK) (G : Hp) : V → DD → Prop
  | non : Da K G .non .none
  | bl (b : Bool) : Da K G (.bl b) (.bool b)
  | int (i : Int) : Da K G (.int i) (.int i)
  | str (x : Str) : Da K G (.str x) (.str x)
  | lst {a : Addr} {xs : List V} {ds : List DD} : G a = some (.lst xs) → DaL K G xs ds → Da K G (.ref a) (.list ds)
  | tup {a : Addr} {xs : List V} {ds : List DD} : SqT K G a xs → DaL K G xs ds → Da K G (.ref a) (.tuple ds)
inductive DaL (K : FK) (G : Hp) : List V → List DD → Prop
  | nil : DaL K G [] []
  | cons {v : V} {vs : List V} {d : DD} {ds : List DD} : Da K G v d → DaL K G vs ds → DaL K G (v :: vs) (d :: ds)
end
section
variable {K : FK} {G G' : Hp}
mutual
theorem Da.mono (e : Ex G G') : ∀ {v : V} {d : DD}, Da K G v d → Da K G' v d
  | _, _, .non => .non
  | _, _, .bl b => .bl b
  | _, _, .int i => .int i
  | _, _, .str x => .str x
  | _, _, .lst h hs => .lst (e _ _ h) (DaL.mono e hs)
  | _, _, .tup h hs => .tup (ex_t e h) (DaL.mono e hs)
theorem DaL.mono (e : Ex G G') : ∀ {vs : List V} {ds : List DD}, DaL K G vs ds → DaL K G' vs ds
  | _, _, .nil => .nil
  | _, _, .cons h hs => .cons (Da.mono e h) (DaL.mono e hs)
end
mutual
theorem Da.dp : ∀ {v : V} {d : DD}, Da K G v d → Dp K G v d
  | _, _, .non => .non
  | _, _, .bl b => .bl b
  | _, _, .int i => .int i
  | _, _, .str x => .str x
  | _, _, .lst h hs => .lst (SqL.of h) (DaL.dp hs)
  | _, _, .tup h hs => .tup h (DaL.dp hs)
theorem DaL.dp : ∀ {vs : List V} {ds : List DD}, DaL K G vs ds → DpAll K G vs ds
  | _, _, .nil => .nil
  | _, _, .cons h hs => .cons (Da.dp h) (DaL.dp hs)
end
theorem DaL.length : ∀ {vs : List V} {ds : List DD}, DaL K G vs ds → vs.length = ds.length
  | _, _, .nil => rfl
  | _, _, .cons _ hs => congrArg (· + 1) hs.length
theorem DaL.append : ∀ {vs ws : List V} {ds es : List DD}, DaL K G vs ds → DaL K G ws es → DaL K G (vs ++ ws) (ds ++ es)
  | _, _, _, _, .nil, s => s
  | _, _, _, _, .cons h t, s => .cons h (t.append s)
theorem DaL.get : ∀ {vs : List V} {ds : List DD} {i : Nat} {d : DD}, DaL K G vs ds → ds[i]? = some d → ∃ v, vs[i]? = some v ∧ Da K G v d
  | _, _, _, _, .nil, e => by simp at e
  | _, _, 0, _, .cons h _, e => by simp at e; subst e; exact ⟨_, rfl, h⟩
  | _, _, i + 1, d, .cons _ t, e => by
    obtain ⟨v, h1, h2⟩ := DaL.get (i := i) (d := d) t (by simpa using e)
    exact ⟨v, by simpa using h1, h2⟩
theorem DaL.getV : ∀ {vs : List V} {ds : List DD} {i : Nat} {v : V}, DaL K G vs ds → vs[i]? = some v → ∃ d, ds[i]? = some d ∧ Da K G v d
  | _, _, _, _, .nil, e => by simp at e
  | _, _, 0, _, .cons h _, e => by simp at e; subst e; exact ⟨_, rfl, h⟩
  | _, _, i + 1, v, .cons _ t, e => by
    obtain ⟨d, h1, h2⟩ := DaL.getV (i := i) (v := v) t (by simpa using e)
    exact ⟨d, by simpa using h1, h2⟩
theorem DaL.take : ∀ {vs : List V} {ds : List DD} (n : Nat), DaL K G vs ds → DaL K G (vs.take n) (ds.take n)
  | _, _, 0, _ => .nil
  | _, _, _ + 1, .nil => .nil
  | _, _, n + 1, .cons h t => .cons h (t.take n)
theorem DaL.drop : ∀ {vs : List V} {ds : List DD} (n : Nat), DaL K G vs ds → DaL K G (vs.drop n) (ds.drop n)
  | _, _, 0, h => h
  | _, _, _ + 1, .nil => .nil
  | _, _, n + 1, .cons _ t => t.drop n
theorem DaL.rep {vs : List V} {ds : List DD} (h : DaL K G vs ds) : ∀ k : Nat, DaL K G (List.replicate k vs).flatten (List.replicate k ds).flatten
  | 0 => .nil
  | k + 1 => by
    rw [List.replicate_succ, List.replicate_succ, List.flatten_cons, List.flatten_cons]
    exact h.append (h.rep k)
theorem DaL.set {v : V} {d : DD} (h : Da K G v d) : ∀ {vs : List V} {ds : List DD} (i : Nat), DaL K G vs ds → DaL K G (vs.set i v) (ds.set i d)
  | _, _, _, .nil => .nil
  | _, _, 0, .cons _ t => .cons h t
  | _, _, i + 1, .cons q t => .cons q (t.set h i)
theorem DaL.at {vs : List V} {ds : List DD} {i : Int} {d : DD} (h : DaL K G vs ds) (e : atI ds i = some d) : ∃ v, atI vs i = some v ∧ Da K G v d := by
  unfold atI at e ⊢
  rw [h.length]
  cases q : ixN ds.length i with
  | none => rw [q] at e; cases e
  | some j => rw [q] at e; exact h.get e
theorem Da.int_inv {v : V} {i : Int} (h : Da K G v (.int i)) : v = .int i := by cases h; rfl
theorem Da.bl_inv {v : V} {b : Bool} (h : Da K G v (.bool b)) : v = .bl b := by cases h; rfl
theorem Da.str_inv {v : V} {x : Str} (h : Da K G v (.str x)) : v = .str x := by cases h; rfl
theorem Da.non_inv {v : V} (h : Da K G v .none) : v = .non := by cases h; rfl
theorem Da.lst_inv {v : V} {ds : List DD} (h : Da K G v (.list ds)) : ∃ a xs, v = .ref a ∧ G a = some (.lst xs) ∧ DaL K G xs ds := by cases h with | lst h hs => exact ⟨_, _, rfl, h, hs⟩
theorem Da.tup_inv {v : V} {ds : List DD} (h : Da K G v (.tuple ds)) : ∃ a xs, v = .ref a ∧ SqT K G a xs ∧ DaL K G xs ds := by cases h with | tup h hs => exact ⟨_, _, rfl, h, hs⟩
theorem DaL.ints : ∀ {vs : List V} {ns : List Int}, DaL K G vs (ns.map .int) → vs = ns.map V.int
  | _, [], .nil => rfl
  | _, n :: ns, .cons h t => by rw [h.int_inv, t.ints]; rfl
theorem DaL.bls : ∀ {vs : List V} {ns : List Bool}, DaL K G vs (ns.map .bool) → vs = ns.map V.bl
  | _, [], .nil => rfl
  | _, n :: ns, .cons h t => by rw [h.bl_inv, t.bls]; rfl
theorem DaL.strs : ∀ {vs : List V} {ns : List Str}, DaL K G vs (ns.map .str) → vs = ns.map V.str
  | _, [], .nil => rfl
  | _, n :: ns, .cons h t => by rw [h.str_inv, t.strs]; rfl
theorem DaL.ofInts : ∀ ns : List Int, DaL K G (ns.map V.int) (ns.map .int)
  | [] => .nil
  | n :: ns => .cons (.int n) (DaL.ofInts ns)
theorem DaL.ofStrs : ∀ ns : List Str, DaL K G (ns.map V.str) (ns.map .str)
  | [] => .nil
  | n :: ns => .cons (.str n) (DaL.ofStrs ns)
end

structure Res where
  as : List Addr
  ok : FK → Hp → V → Hp → Prop
  mono : ∀ {K : FK} {G G' : Hp} {v : V} {H : Hp}, Ex G G' → ok K G v H → ok K G' v H
  loc : ∀ {K : FK} {G : Hp} {v : V} {H H' : Hp}, (∀ a o, a ∈ as → H a = some o → H' a = some o) → ok K G v H → ok K G v H'
  dom : ∀ {K : FK} {G : Hp} {v : V} {H : Hp}, ok K G v H → ∀ a ∈ as, ∃ o, H a = some o

/-- an own list of data -/
def lstR (p : Addr) (ds : List DD) : Res where
  as := [p]
  ok := fun K G v H => v = .ref p ∧ ∃ xs, H p = some (.lst xs) ∧ DaL K G xs ds
  mono := fun e ⟨h1, xs, h2, h3⟩ => ⟨h1, xs, h2, h3.mono e⟩
  loc := fun e ⟨h1, xs, h2, h3⟩ => ⟨h1, xs, e p _ (by simp) h2, h3⟩
  dom := fun ⟨_, xs, h2, _⟩ a ha => by
    have e : a = p := by simpa using ha
    subst e; exact ⟨_, h2⟩

inductive Sl where
  | no
  | dat (d : DD)
  | own (r : Res)
def Sl.as : Sl → List Addr
  | .own r => r.as
  | _ => []
def SlOk (K : FK) (G H : Hp) (s : Sl) (o : Option (Option V)) : Prop := match s with
  | .no => True
  | .dat d => ∃ v, o = some (some v) ∧ Da K G v d
  | .own r => ∃ v, o = some (some v) ∧ r.ok K G v H

/-- the entry of a def: what is lent to it, the ghost heap and the heap there -/
structure Bs where
  L : List Addr
  G : Hp
  H : Hp
  hL : ∀ a ∈ L, ∃ o, H a = some o
/-- what stands around: data held on the way, owned things held on the way -/
structure Fra where
  T : List (V × DD)
  X : List (V × Res)
abbrev Fra.dat (F : Fra) (v : V) (d : DD) : Fra := ⟨(v, d) :: F.T, F.X⟩
abbrev Fra.dats (F : Fra) (ps : List (V × DD)) : Fra := ⟨ps ++ F.T, F.X⟩
abbrev Fra.res (F : Fra) (v : V) (r : Res) : Fra := ⟨F.T, (v, r) :: F.X⟩

/-- all owned things, by place: slots, then those held -/
def ownAt (Γ : List Sl) (F : Fra) (i : Nat) : List Addr := if i < Γ.length then ((Γ[i]?).getD .no).as else match F.X[i - Γ.length]? with | some q => q.2.as | none => []

structure S0 (K : FK) (B : Bs) (Γ : List Sl) (F : Fra) (σ : St) (H G : Hp) : Prop where
  len : σ.length = Γ.length
  grow : Grow B.L B.G B.H G H
  sl : ∀ (i : Nat) (s : Sl), Γ[i]? = some s → SlOk K G H s σ[i]?
  tm : ∀ p ∈ F.T, Da K G p.1 p.2
  xm : ∀ p ∈ F.X, p.2.ok K G p.1 H
  apart : ∀ i j a, a ∈ ownAt Γ F i → a ∈ ownAt Γ F j → i = j
  mine : ∀ i a, a ∈ ownAt Γ F i → G a = none ∧ (a ∈ B.L ∨ B.H a = none)
def S (K : FK) (B : Bs) (Γ : List Sl) (F : Fra) (σ : St) (H : Hp) : Prop := ∃ G, S0 K B Γ F σ H G

section
variable {K : FK} {B : Bs} {Γ : List Sl} {F : Fra} {σ : St} {H : Hp}
theorem SlOk.step {G G' H' : Hp} {s : Sl} {o : Option (Option V)} (h : SlOk K G H s o) (e : Ex G G') (k : ∀ a u, a ∈ s.as → H a = some u → H' a = some u) : SlOk K G' H' s o := by
  cases s with
  | no => trivial
  | dat d => obtain ⟨v, h1, h2⟩ := h; exact ⟨v, h1, h2.mono e⟩
  | own r => obtain ⟨v, h1, h2⟩ := h; exact ⟨v, h1, r.mono e (r.loc k h2)⟩
theorem ownAt_slot {i : Nat} {s : Sl} (h : Γ[i]? = some s) : ownAt Γ F i = s.as := by
  obtain ⟨hi, e⟩ := List.getElem?_eq_some_iff.mp h
  unfold ownAt
  rw [if_pos hi, h]; rfl
theorem ownAt_fra {i : Nat} {q : V × Res} (h : F.X[i]? = some q) : ownAt Γ F (Γ.length + i) = q.2.as := by
  unfold ownAt
  rw [if_neg (by omega), Nat.add_sub_cancel_left, h]
theorem S0.dom {G : Hp} (h : S0 K B Γ F σ H G) {i : Nat} {a : Addr} (ha : a ∈ ownAt Γ F i) : ∃ o, H a = some o := by
  unfold ownAt at ha
  split at ha
  · rename_i hi
    rw [List.getElem?_eq_getElem hi] at ha
    have q := h.sl i _ (List.getElem?_eq_getElem hi)
    simp only [Option.getD_some] at ha
    revert ha q
    cases Γ[i] with
    | no => intro ha q; exact nomatch ha
    | dat d => intro ha q; exact nomatch ha
    | own r => intro ha q; obtain ⟨v, _, z⟩ := q; exact r.dom z a ha
  · split at ha
    · rename_i q hq
      exact q.2.dom (h.xm q (List.mem_of_getElem? hq)) a ha
    · cases ha
/-- all is kept (but new things): the state stands -/
theorem S0.step {G G' H' : Hp} {T' : List (V × DD)} (h : S0 K B Γ F σ H G) (g : Grow [] G H G' H') (ht : ∀ p ∈ T', Da K G' p.1 p.2) : S0 K B Γ ⟨T', F.X⟩ σ H' G' := by
  refine ⟨h.len, h.grow.trans (g.mono fun _ z => absurd z (by simp)), fun i s e => (h.sl i s e).step g.g fun a u _ q => g.fr a u (by simp) q, ht, fun p hp => p.2.mono g.g (p.2.loc (fun a o _ q => g.fr a o (by simp) q) (h.xm p hp)), h.apart, fun i a ha => ?_⟩
  obtain ⟨o, ho⟩ := h.dom ha
  obtain ⟨m1, m2⟩ := h.mine i a ha
  exact ⟨g.new a o ho m1, m2⟩
theorem S0.ex {G : Hp} (h : S0 K B Γ F σ H G) : Ex G H := h.grow.gh
theorem S0.drop {G : Hp} {T' : List (V × DD)} (h : S0 K B Γ F σ H G) (ht : ∀ p ∈ T', p ∈ F.T) : S0 K B Γ ⟨T', F.X⟩ σ H G :=
  ⟨h.len, h.grow, h.sl, fun p hp => h.tm p (ht p hp), h.xm, h.apart, h.mine⟩
theorem S.drop {T' : List (V × DD)} (h : S K B Γ F σ H) (ht : ∀ p ∈ T', p ∈ F.T) : S K B Γ ⟨T', F.X⟩ σ H := let ⟨G, h⟩ := h; ⟨G, h.drop ht⟩
theorem S.pop {v : V} {d : DD} (h : S K B Γ (F.dat v d) σ H) : S K B Γ F σ H := h.drop fun p hp => List.mem_cons_of_mem _ hp
/-- the slot's value -/
theorem S0.dat {G : Hp} (h : S0 K B Γ F σ H G) {i : Nat} {d : DD} (e : Γ[i]? = some (.dat d)) : ∃ v, σ[i]? = some (some v) ∧ Da K G v d := h.sl i _ e
theorem S0.own {G : Hp} (h : S0 K B Γ F σ H G) {i : Nat} {r : Res} (e : Γ[i]? = some (.own r)) : ∃ v, σ[i]? = some (some v) ∧ r.ok K G v H := h.sl i _ e

variable (K B) in
/-- te yields some d with P d, whatever stands around -/
def Ev (te : TE) (Γ : List Sl) (P : DD → Prop) : Prop := ∀ F σ H, S K B Γ F σ H → ∀ Q : VK, (∀ v d H', P d → S K B Γ (F.dat v d) σ H' → Q v H') → te σ H Q
variable (K B) in
abbrev EvD (te : TE) (Γ : List Sl) (d : DD) : Prop := Ev K B te Γ (fun x => x = d)
variable (K B) in
def EvT (tt : TT) (Γ : List Sl) (b : Bool) : Prop := ∀ F σ H, S K B Γ F σ H → ∀ Q : Bool → Hp → Prop, (∀ H', S K B Γ F σ H' → Q b H') → tt σ H Q
variable (K B) in
def EvA (ta : TA) (Γ : List Sl) (P : List DD → Prop) : Prop := ∀ F σ H, S K B Γ F σ H → ∀ Q : List V → Hp → Prop, (∀ vs ds H', P ds → vs.length = ds.length → S K B Γ (F.dats (vs.zip ds)) σ H' → Q vs H') → ta σ H Q
variable (K B) in
abbrev EvAD (ta : TA) (Γ : List Sl) (ds : List DD) : Prop := EvA K B ta Γ (fun x => x = ds)
/-- an operation on values: from data x, y it yields z, laying new things at most -/
def RD (K : FK) (r : R2) (x y z : DD) : Prop := ∀ v u G H, Da K G v x → Da K G u y → Ex G H → ∀ Q : VK, (∀ v' G' H', Grow [] G H G' H' → Da K G' v' z → Q v' H') → r v u H Q
def RU (K : FK) (r : V → Hp → VK → Prop) (x z : DD) : Prop := ∀ v G H, Da K G v x → Ex G H → ∀ Q : VK, (∀ v' G' H', Grow [] G H G' H' → Da K G' v' z → Q v' H') → r v H Q
def RC (K : FK) (r : List V → Hp → VK → Prop) (ds : List DD) (z : DD) : Prop := ∀ vs G H, DaL K G vs ds → Ex G H → ∀ Q : VK, (∀ v' G' H', Grow [] G H G' H' → Da K G' v' z → Q v' H') → r vs H Q

variable {ta tb te : TE} {P P' : DD → Prop} {x y z d : DD}
theorem Ev.imp (h : Ev K B te Γ P) (k : ∀ d, P d → P' d) : Ev K B te Γ P' := fun F σ H s Q q => h F σ H s Q fun v d H' p => q v d H' (k d p)
theorem EvD.to (h : EvD K B te Γ d) (e : d = x) : EvD K B te Γ x := e ▸ h
theorem EvD.p (h : EvD K B te Γ d) (p : P d) : Ev K B te Γ P := h.imp fun x e => by rw [e]; exact p
theorem ev_var {i : Nat} (e : Γ[i]? = some (.dat d)) : EvD K B (tVar i) Γ d := fun F σ H ⟨G, s⟩ Q q => by
  obtain ⟨v, h1, h2⟩ := s.dat e
  exact ⟨v, h1, q v d H rfl ⟨G, s.step (T' := (v, d) :: F.T) (Grow.refl s.ex) fun p hp => by
    rcases List.mem_cons.mp hp with z | z
    · rw [z]; exact h2
    · exact s.tm p z⟩⟩
theorem S.c {v : V} (s : S K B Γ F σ H) (h : ∀ G, Da K G v d) : S K B Γ (F.dat v d) σ H := by
  obtain ⟨G, s⟩ := s
  refine ⟨G, s.len, s.grow, s.sl, fun p hp => ?_, s.xm, s.apart, s.mine⟩
  rcases List.mem_cons.mp hp with z | z
  · rw [z]; exact h G
  · exact s.tm p z
theorem ev_c {v : V} (h : ∀ G, Da K G v d) : EvD K B (tC v) Γ d := fun F σ H s Q q => q v d H rfl (s.c h)
theorem ev_int {i : Int} : EvD K B (tC (.int i)) Γ (.int i) := ev_c fun _ => .int i
theorem ev_str {i : Str} : EvD K B (tC (.str i)) Γ (.str i) := ev_c fun _ => .str i
theorem ev_bl {i : Bool} : EvD K B (tC (.bl i)) Γ (.bool i) := ev_c fun _ => .bl i
theorem ev_non : EvD K B (tC .non) Γ .none := ev_c fun _ => .non
theorem S.grown {G G' H' : Hp} {v : V} (s : S0 K B Γ F σ H G) (g : Grow [] G H G' H') (h : Da K G' v d) : S K B Γ (F.dat v d) σ H' :=
  ⟨G', s.step (T' := (v, d) :: F.T) g fun p hp => by
    rcases List.mem_cons.mp hp with z | z
    · rw [z]; exact h
    · exact (s.tm p z).mono g.g⟩
theorem ev_opP {r : R2} {Pa Pb : DD → Prop} (ha : Ev K B ta Γ Pa) (hb : Ev K B tb Γ Pb) (hr : ∀ x y, Pa x → Pb y → ∃ z, P z ∧ RD K r x y z) : Ev K B (tOp r ta tb) Γ P := fun F σ H s Q q =>
  ha F σ H s _ fun v x H1 px s1 => hb _ σ H1 s1 _ fun u y H2 py s2 => by
    obtain ⟨G, s2⟩ := s2
    obtain ⟨z, pz, hz⟩ := hr x y px py
    refine hz v u G H2 (s2.tm (v, x) (by simp)) (s2.tm (u, y) (by simp)) s2.ex Q fun v' G' H' g h => q v' z H' pz ?_
    exact (S.grown (d := z) s2 g h).drop fun p hp => by
      rcases List.mem_cons.mp hp with e | e
      · rw [e]; simp
      · simp [e]
theorem ev_op {r : R2} (ha : EvD K B ta Γ x) (hb : EvD K B tb Γ y) (hr : RD K r x y z) : EvD K B (tOp r ta tb) Γ z := ev_opP ha hb fun _ _ e1 e2 => ⟨z, rfl, by rw [e1, e2]; exact hr⟩
theorem ev_un {r : V → Hp → VK → Prop} (ha : EvD K B ta Γ x) (hr : RU K r x z) : EvD K B (tUn r ta) Γ z := fun F σ H s Q q =>
  ha F σ H s _ fun v x' H1 e s1 => by
    subst e
    obtain ⟨G, s1⟩ := s1
    refine hr v G H1 (s1.tm (v, x') (by simp)) s1.ex Q fun v' G' H' g h => q v' z H' rfl ?_
    exact (S.grown (d := z) s1 g h).drop fun p hp => by
      rcases List.mem_cons.mp hp with e | e
      · rw [e]; simp
      · simp [e]
end
end Ly

namespace Ly
open PySem L2
abbrev Fra.res1 (F : Fra) (v : V) (r : Res) : Fra := ⟨F.T, F.X ++ [(v, r)]⟩
section
variable {K : FK} {B : Bs} {Γ : List Sl} {F : Fra} {σ : St} {H G : Hp} {i : Nat} {v : V} {d : DD} {r r' : Res}
theorem ownAt_set {s : Sl} (j : Nat) (hi : i < Γ.length) : ownAt (Γ.set i s) F j = if j = i then s.as else ownAt Γ F j := by
  unfold ownAt
  rw [List.length_set]
  by_cases h : j = i
  · subst h
    rw [if_pos hi, if_pos rfl, List.getElem?_set_self hi]; rfl
  · rw [if_neg h, List.getElem?_set_ne (Ne.symm h)]
theorem ownAt_T {T' : List (V × DD)} (j : Nat) : ownAt Γ ⟨T', F.X⟩ j = ownAt Γ F j := rfl
theorem ownAt_res (j : Nat) : ownAt Γ (F.res1 v r) j = if j = Γ.length + F.X.length then r.as else ownAt Γ F j := by
  unfold ownAt
  by_cases h : j < Γ.length
  · rw [if_pos h, if_pos h, if_neg (by omega)]
  · rw [if_neg h, if_neg h]
    by_cases h2 : j = Γ.length + F.X.length
    · subst h2
      rw [if_pos rfl, Nat.add_sub_cancel_left, List.getElem?_append_right (Nat.le_refl _), Nat.sub_self]
      rfl
    · rw [if_neg h2]
      by_cases h3 : j - Γ.length < F.X.length
      · rw [List.getElem?_append_left h3]
      · rw [List.getElem?_append_right (by omega), List.getElem?_eq_none (by simp; omega), List.getElem?_eq_none (l := F.X) (by omega)]
theorem ownAt_end : ownAt Γ F (Γ.length + F.X.length) = [] := by
  unfold ownAt
  rw [if_neg (by omega), Nat.add_sub_cancel_left, List.getElem?_eq_none (Nat.le_refl _)]
theorem lt_len (s : S0 K B Γ F σ H G) {o : Option V} (h : σ[i]? = some o) : i < Γ.length := by
  have := (List.getElem?_eq_some_iff.mp h).1
  rw [← s.len]; exact this
theorem S0.setSl {s : Sl} {o : Option V} (h : S0 K B Γ F σ H G) (hi : i < Γ.length) (hs : SlOk K G H s (some o)) (ha : s.as = []) : S0 K B (Γ.set i s) F (σ.set i o) H G := by
  refine ⟨by simpa using h.len, h.grow, fun j t e => ?_, h.tm, h.xm, fun j k a h1 h2 => ?_, fun j a h1 => ?_⟩
  · by_cases hj : j = i
    · subst hj
      rw [List.getElem?_set_self hi] at e
      cases e
      rw [List.getElem?_set_self (by rw [h.len]; exact hi)]
      exact hs
    · rw [List.getElem?_set_ne (Ne.symm hj)] at e ⊢
      exact h.sl j t e
  · rw [ownAt_set _ hi] at h1 h2
    split at h1
    · rw [ha] at h1; cases h1
    · split at h2
      · rw [ha] at h2; cases h2
      · exact h.apart j k a h1 h2
  · rw [ownAt_set _ hi] at h1
    split at h1
    · rw [ha] at h1; cases h1
    · exact h.mine j a h1
theorem S0.setDat (h : S0 K B Γ F σ H G) (hi : i < Γ.length) (hd : (v, d) ∈ F.T) : S0 K B (Γ.set i (.dat d)) F (σ.set i (some v)) H G := h.setSl hi ⟨v, rfl, h.tm _ hd⟩ rfl
theorem S0.setNo {o : Option V} (h : S0 K B Γ F σ H G) (hi : i < Γ.length) : S0 K B (Γ.set i .no) F (σ.set i o) H G := h.setSl hi trivial rfl
/-- a slot forgotten -/
theorem S0.forget (h : S0 K B Γ F σ H G) : S0 K B (Γ.set i .no) F σ H G := by
  by_cases hi : i < Γ.length
  · have hσ : i < σ.length := by rw [h.len]; exact hi
    have e : σ.set i σ[i] = σ := List.set_getElem_self hσ
    have q := h.setNo (o := σ[i]) hi
    rw [e] at q; exact q
  · rw [List.set_eq_of_length_le (by omega)]; exact h
theorem S0.setOwn (h : S0 K B Γ (F.res1 v r) σ H G) (hi : i < Γ.length) : S0 K B (Γ.set i (.own r)) F (σ.set i (some v)) H G := by
  have hr : r.ok K G v H := h.xm (v, r) (by simp)
  refine ⟨by simpa using h.len, h.grow, fun j t e => ?_, h.tm, fun p hp => h.xm p (by simp [hp]), fun j k a h1 h2 => ?_, fun j a h1 => ?_⟩
  · by_cases hj : j = i
    · subst hj
      rw [List.getElem?_set_self hi] at e
      cases e
      rw [List.getElem?_set_self (by rw [h.len]; exact hi)]
      exact ⟨v, rfl, hr⟩
    · rw [List.getElem?_set_ne (Ne.symm hj)] at e ⊢
      exact h.sl j t e
  · rw [ownAt_set _ hi] at h1 h2
    have hA : ∀ j, a ∈ ownAt Γ F j → a ∈ ownAt Γ (F.res1 v r) j := fun j hj => by
      rw [ownAt_res]; split
      · rename_i e; subst e; rw [ownAt_end] at hj; cases hj
      · exact hj
    have hB : a ∈ r.as → a ∈ ownAt Γ (F.res1 v r) (Γ.length + F.X.length) := fun hj => by rw [ownAt_res, if_pos rfl]; exact hj
    split at h1 <;> split at h2
    · rename_i e1 e2; rw [e1, e2]
    · have := h.apart _ _ a (hB h1) (hA k h2)
      subst this; rw [ownAt_end] at h2; cases h2
    · have := h.apart _ _ a (hA j h1) (hB h2)
      subst this; rw [ownAt_end] at h1; cases h1
    · exact h.apart j k a (hA j h1) (hA k h2)
  · rw [ownAt_set _ hi] at h1
    split at h1
    · exact h.mine (Γ.length + F.X.length) a (by rw [ownAt_res, if_pos rfl]; exact h1)
    · refine h.mine j a ?_
      rw [ownAt_res]; split
      · rename_i e; subst e; rw [ownAt_end] at h1; cases h1
      · exact h1
/-- a new own thing -/
theorem S0.newRes {H' : Hp} (h : S0 K B Γ F σ H G) (g : Grow [] G H G H') (hr : r.ok K G v H') (hn : ∀ a ∈ r.as, H a = none) : S0 K B Γ (F.res1 v r) σ H' G := by
  have h' := h.step (T' := F.T) g fun p hp => h.tm p hp
  refine ⟨h'.len, h'.grow, h'.sl, h'.tm, fun p hp => ?_, fun j k a h1 h2 => ?_, fun j a h1 => ?_⟩
  · rcases List.mem_append.mp hp with z | z
    · exact h'.xm p z
    · rw [List.mem_singleton.mp z]; exact hr
  · rw [ownAt_res] at h1 h2
    split at h1 <;> split at h2
    · rename_i e1 e2; rw [e1, e2]
    · obtain ⟨o, ho⟩ := h.dom h2; rw [hn a h1] at ho; cases ho
    · obtain ⟨o, ho⟩ := h.dom h1; rw [hn a h2] at ho; cases ho
    · exact h.apart j k a h1 h2
  · rw [ownAt_res] at h1
    split at h1
    · have e := hn a h1
      refine ⟨h.ex.none e, ?_⟩
      cases q : B.H a with
      | none => exact .inr rfl
      | some o =>
        obtain ⟨o', e'⟩ := h.grow.dom a o q
        rw [e] at e'; cases e'
    · exact h'.mine j a h1
theorem S0.notLent {p : Addr} (h : S0 K B Γ F σ H G) (hp : H p = none) : p ∉ B.L := fun z => by
  obtain ⟨o, e⟩ := B.hL p z
  obtain ⟨o', e'⟩ := h.grow.dom p o e
  rw [hp] at e'; cases e'
theorem S0.newLst {p : Addr} {xs : List V} {ds : List DD} (h : S0 K B Γ F σ H G) (hp : H p = none) (hd : DaL K G xs ds) : S0 K B Γ (F.res1 (.ref p) (lstR p ds)) σ (upd H p (.lst xs)) G :=
  h.newRes (Grow.free h.ex hp) ⟨rfl, xs, upd_same, hd⟩ fun a ha => by
    have e : a = p := by simpa [lstR] using ha
    rw [e]; exact hp
/-- an own thing of a slot turns -/
theorem S0.updOwn {G' H' : Hp} {T' : List (V × DD)} (h : S0 K B Γ F σ H G) (hg : Γ[i]? = some (.own r)) (g : Grow r.as G H G' H') (ha : r'.as = r.as) (hv : σ[i]? = some (some v)) (hr : r'.ok K G' v H') (ht : ∀ p ∈ T', Da K G' p.1 p.2) :
    S0 K B (Γ.set i (.own r')) ⟨T', F.X⟩ σ H' G' := by
  have hi : i < Γ.length := (List.getElem?_eq_some_iff.mp hg).1
  have own : ∀ a, a ∈ r.as → a ∈ ownAt Γ F i := fun a z => by rw [ownAt_slot hg]; exact z
  have kp : ∀ j a o, j ≠ i → a ∈ ownAt Γ F j → H a = some o → H' a = some o := fun j a o hj z q => g.fr a o (fun y => hj (h.apart j i a z (own a y))) q
  have same : ∀ j, ownAt (Γ.set i (.own r')) ⟨T', F.X⟩ j = ownAt Γ F j := fun j => by
    rw [ownAt_set _ hi]; split
    · rename_i e; subst e; rw [ownAt_slot hg]; exact ha
    · exact ownAt_T j
  refine ⟨by simpa using h.len, ⟨h.grow.g.trans g.g, g.gh, fun a o n q => ?_, fun a o q n => ?_, fun a o q => ?_⟩, fun j t e => ?_, ht, fun p hp => ?_, fun j k a h1 h2 => ?_, fun j a h1 => ?_⟩
  · refine g.fr a o (fun z => ?_) (h.grow.fr a o n q)
    rcases (h.mine i a (own a z)).2 with y | y
    · exact n y
    · rw [y] at q; cases q
  · obtain ⟨o', q'⟩ := h.grow.dom a o q
    exact g.new a o' q' (h.grow.new a o q n)
  · obtain ⟨o', q'⟩ := h.grow.dom a o q
    exact g.dom a o' q'
  · by_cases hj : j = i
    · subst hj
      rw [List.getElem?_set_self hi] at e
      cases e
      exact ⟨v, hv, hr⟩
    · rw [List.getElem?_set_ne (Ne.symm hj)] at e
      exact (h.sl j t e).step g.g fun a u z q => kp j a u hj (by rw [ownAt_slot e]; exact z) q
  · obtain ⟨k, hk, ek⟩ := List.getElem_of_mem hp
    have ek' : F.X[k]? = some p := by rw [List.getElem?_eq_getElem hk, ek]
    refine p.2.mono g.g (p.2.loc (fun a o z q => kp (Γ.length + k) a o (by omega) (by rw [ownAt_fra ek']; exact z) q) (h.xm p hp))
  · rw [same] at h1 h2; exact h.apart j k a h1 h2
  · rw [same] at h1
    obtain ⟨o, ho⟩ := h.dom h1
    obtain ⟨m1, m2⟩ := h.mine j a h1
    exact ⟨g.new a o ho m1, m2⟩
/-- the last held own thing turns -/
theorem S0.updX {G' H' : Hp} {T' : List (V × DD)} (h : S0 K B Γ (F.res1 v r) σ H G) (g : Grow r.as G H G' H') (ha : r'.as = r.as) (hr : r'.ok K G' v H') (ht : ∀ p ∈ T', Da K G' p.1 p.2) :
    S0 K B Γ ⟨T', F.X ++ [(v, r')]⟩ σ H' G' := by
  have own : ∀ a, a ∈ r.as → a ∈ ownAt Γ (F.res1 v r) (Γ.length + F.X.length) := fun a z => by rw [ownAt_res, if_pos rfl]; exact z
  have kp : ∀ j a o, j ≠ Γ.length + F.X.length → a ∈ ownAt Γ (F.res1 v r) j → H a = some o → H' a = some o := fun j a o hj z q => g.fr a o (fun y => hj (h.apart j _ a z (own a y))) q
  have same : ∀ j, ownAt Γ ⟨T', F.X ++ [(v, r')]⟩ j = ownAt Γ (F.res1 v r) j := fun j => by
    have e := ownAt_res (Γ := Γ) (F := ⟨T', F.X⟩) (v := v) (r := r') j
    rw [show (⟨T', F.X ++ [(v, r')]⟩ : Fra) = Fra.res1 ⟨T', F.X⟩ v r' from rfl, e, ownAt_res]
    split
    · exact ha
    · rfl
  refine ⟨h.len, ⟨h.grow.g.trans g.g, g.gh, fun a o n q => ?_, fun a o q n => ?_, fun a o q => ?_⟩, fun j t e => ?_, ht, fun p hp => ?_, fun j k a h1 h2 => ?_, fun j a h1 => ?_⟩
  · refine g.fr a o (fun z => ?_) (h.grow.fr a o n q)
    rcases (h.mine _ a (own a z)).2 with y | y
    · exact n y
    · rw [y] at q; cases q
  · obtain ⟨o', q'⟩ := h.grow.dom a o q
    exact g.new a o' q' (h.grow.new a o q n)
  · obtain ⟨o', q'⟩ := h.grow.dom a o q
    exact g.dom a o' q'
  · have hj : j < Γ.length := (List.getElem?_eq_some_iff.mp e).1
    exact (h.sl j t e).step g.g fun a u z q => kp j a u (by omega) (by rw [ownAt_slot e]; exact z) q
  · rcases List.mem_append.mp hp with z | z
    · obtain ⟨k, hk, ek⟩ := List.getElem_of_mem z
      have ek' : (F.res1 v r).X[k]? = some p := by
        show (F.X ++ [(v, r)])[k]? = some p
        rw [List.getElem?_append_left hk, List.getElem?_eq_getElem hk, ek]
      exact p.2.mono g.g (p.2.loc (fun a o z q => kp (Γ.length + k) a o (by omega) (by rw [ownAt_fra ek']; exact z) q) (h.xm p (List.mem_append_left _ z)))
    · rw [List.mem_singleton.mp z]; exact hr
  · rw [same] at h1 h2; exact h.apart j k a h1 h2
  · rw [same] at h1
    obtain ⟨o, ho⟩ := h.dom h1
    obtain ⟨m1, m2⟩ := h.mine j a h1
    exact ⟨g.new a o ho m1, m2⟩
/-- what is owned and not at p -/
theorem S0.thaw {p : Addr} {xs : List V} (h : S0 K B Γ F σ H G) (hp : H p = some (.lst xs)) (hg : G p = none) (hb : p ∈ B.L ∨ B.H p = none) (ha : ∀ j, p ∉ ownAt Γ F j) (hl : p ∉ B.L) : S0 K B Γ F σ H (upd G p (.lst xs)) := by
  have e : Ex G (upd G p (.lst xs)) := Ex.new hg
  refine ⟨h.len, ⟨h.grow.g.trans e, fun a o q => ?_, h.grow.fr, fun a o q n => ?_, h.grow.dom⟩, fun j t z => (h.sl j t z).step e fun _ _ _ q => q, fun q hq => (h.tm q hq).mono e, fun q hq => q.2.mono e (h.xm q hq), h.apart, fun j a z => ?_⟩
  · by_cases hx : a = p
    · subst hx; rw [upd_same] at q; cases q; exact hp
    · rw [upd_ne hx] at q; exact h.ex a o q
  · rw [upd_ne (fun z => ?_)]
    · exact h.grow.new a o q n
    · subst z
      rcases hb with y | y
      · exact hl y
      · rw [y] at q; cases q
  · rw [upd_ne (fun y => ha j (by rw [← y]; exact z))]
    exact h.mine j a z
/-- an own list (made here) becomes data -/
theorem S0.freeze {p : Addr} {ds : List DD} (h : S0 K B Γ F σ H G) (hg : Γ[i]? = some (.own (lstR p ds))) (hl : p ∉ B.L) : S K B (Γ.set i (.dat (.list ds))) F σ H := by
  have hi : i < Γ.length := (List.getElem?_eq_some_iff.mp hg).1
  obtain ⟨v, hv, rfl, xs, hp, hd⟩ := h.own hg
  have hm : p ∈ ownAt Γ F i := by rw [ownAt_slot hg]; simp [Sl.as, lstR]
  obtain ⟨m1, m2⟩ := h.mine i p hm
  have hs : i < σ.length := by rw [h.len]; exact hi
  have eσ : σ.set i (some (.ref p)) = σ := by
    have : σ[i] = some (.ref p) := by
      rw [List.getElem?_eq_getElem hs] at hv; exact Option.some.inj hv
    rw [← this]; exact List.set_getElem_self hs
  have h0 : S0 K B (Γ.set i .no) F σ H G := h.forget
  have h1 := h0.thaw (p := p) (xs := xs) hp m1 m2 (fun j z => by
    rw [ownAt_set _ hi] at z
    split at z
    · cases z
    · rename_i hj; exact hj (h.apart j i p z hm)) hl
  have h2 := h1.setSl (i := i) (s := .dat (.list ds)) (o := some (.ref p)) (by simpa using hi) ⟨_, rfl, .lst upd_same (hd.mono (Ex.new m1))⟩ rfl
  rw [List.set_set, eσ] at h2
  exact ⟨_, h2⟩
theorem S0.freezeX {p : Addr} {ds : List DD} (h : S0 K B Γ (F.res1 (.ref p) (lstR p ds)) σ H G) (hl : p ∉ B.L) : S K B Γ (F.dat (.ref p) (.list ds)) σ H := by
  obtain ⟨_, xs, hp, hd⟩ := h.xm (.ref p, lstR p ds) (by simp)
  have hm : p ∈ ownAt Γ (F.res1 (.ref p) (lstR p ds)) (Γ.length + F.X.length) := by rw [ownAt_res, if_pos rfl]; simp [lstR]
  obtain ⟨m1, m2⟩ := h.mine _ p hm
  have hA : ∀ j a, a ∈ ownAt Γ F j → a ∈ ownAt Γ (F.res1 (.ref p) (lstR p ds)) j := fun j a hj => by
    rw [ownAt_res]; split
    · rename_i e; subst e; rw [ownAt_end] at hj; cases hj
    · exact hj
  have h0 : S0 K B Γ F σ H G := ⟨h.len, h.grow, h.sl, h.tm, fun q hq => h.xm q (by simp [hq]), fun j k a z y => h.apart j k a (hA j a z) (hA k a y), fun j a z => h.mine j a (hA j a z)⟩
  have h1 := h0.thaw (p := p) (xs := xs) hp m1 m2 (fun j z => by
    have := h.apart _ _ p (hA j p z) hm
    subst this; rw [ownAt_end] at z; cases z) hl
  refine ⟨_, h1.len, h1.grow, h1.sl, fun q hq => ?_, h1.xm, h1.apart, h1.mine⟩
  rcases List.mem_cons.mp hq with z | z
  · rw [z]; exact .lst upd_same (hd.mono (Ex.new m1))
  · exact h1.tm q z
end
end Ly

namespace Ly
open PySem L2
section
variable {K : FK} {B : Bs} {Γ : List Sl} {ta tb tc te : TE} {P : DD → Prop} {x y z d : DD}
theorem rd_I0 {g : Int → Int → V} {a b : Int} (h : ∀ G, Da K G (g a b) z) : RD K (rI0 g) (.int a) (.int b) z := fun v u G H hv hu e Q q => by
  rw [hv.int_inv, hu.int_inv]
  exact ⟨a, b, rfl, rfl, q _ G H (Grow.refl e) (h G)⟩
theorem rd_I {C : Int → Int → Prop} {g : Int → Int → V} {a b : Int} (hc : C a b) (h : ∀ G, Da K G (g a b) z) : RD K (rI C g) (.int a) (.int b) z := fun v u G H hv hu e Q q => by
  rw [hv.int_inv, hu.int_inv]
  exact ⟨a, b, rfl, rfl, hc, q _ G H (Grow.refl e) (h G)⟩
section
variable {a b : Int}
theorem ev_add (ha : EvD K B ta Γ (.int a)) (hb : EvD K B tb Γ (.int b)) : EvD K B (tOp (rI0 fun i j => .int (i + j)) ta tb) Γ (.int (a + b)) := ev_op ha hb (rd_I0 fun _ => .int _)
theorem ev_sub (ha : EvD K B ta Γ (.int a)) (hb : EvD K B tb Γ (.int b)) : EvD K B (tOp (rI0 fun i j => .int (i - j)) ta tb) Γ (.int (a - b)) := ev_op ha hb (rd_I0 fun _ => .int _)
theorem ev_mul (ha : EvD K B ta Γ (.int a)) (hb : EvD K B tb Γ (.int b)) (hc : CMul a b) : EvD K B (tOp (rI CMul fun i j => .int (i * j)) ta tb) Γ (.int (a * b)) := ev_op ha hb (rd_I hc fun _ => .int _)
theorem ev_fdiv (ha : EvD K B ta Γ (.int a)) (hb : EvD K B tb Γ (.int b)) (hc : CDiv a b) : EvD K B (tOp (rI CDiv fun i j => .int (i / j)) ta tb) Γ (.int (a / b)) := ev_op ha hb (rd_I hc fun _ => .int _)
theorem ev_mod (ha : EvD K B ta Γ (.int a)) (hb : EvD K B tb Γ (.int b)) (hc : 0 < b) : EvD K B (tOp (rI (fun _ j => 0 < j) fun i j => .int (i % j)) ta tb) Γ (.int (a % b)) := ev_op ha hb (rd_I hc fun _ => .int _)
theorem ev_pow (ha : EvD K B ta Γ (.int a)) (hb : EvD K B tb Γ (.int b)) (hc : CPow a b) : EvD K B (tOp (rI CPow fun i j => .int (i ^ j.toNat)) ta tb) Γ (.int (a ^ b.toNat)) := ev_op ha hb (rd_I hc fun _ => .int _)
theorem ev_lt (ha : EvD K B ta Γ (.int a)) (hb : EvD K B tb Γ (.int b)) : EvD K B (tOp (rI0 fun i j => .bl (decide (i < j))) ta tb) Γ (.bool (decide (a < b))) := ev_op ha hb (rd_I0 fun _ => .bl _)
theorem ev_le (ha : EvD K B ta Γ (.int a)) (hb : EvD K B tb Γ (.int b)) : EvD K B (tOp (rI0 fun i j => .bl (decide (i ≤ j))) ta tb) Γ (.bool (decide (a ≤ b))) := ev_op ha hb (rd_I0 fun _ => .bl _)
theorem ev_gt (ha : EvD K B ta Γ (.int a)) (hb : EvD K B tb Γ (.int b)) : EvD K B (tOp (rI0 fun i j => .bl (decide (j < i))) ta tb) Γ (.bool (decide (b < a))) := ev_op ha hb (rd_I0 fun _ => .bl _)
theorem ev_ge (ha : EvD K B ta Γ (.int a)) (hb : EvD K B tb Γ (.int b)) : EvD K B (tOp (rI0 fun i j => .bl (decide (j ≤ i))) ta tb) Γ (.bool (decide (b ≤ a))) := ev_op ha hb (rd_I0 fun _ => .bl _)
theorem ev_neg (ha : EvD K B ta Γ (.int a)) : EvD K B (tUn (rU fun i => .int (-i)) ta) Γ (.int (-a)) := ev_un ha fun v G H hv e Q q => by
  rw [hv.int_inv]
  exact ⟨a, rfl, q _ G H (Grow.refl e) (.int _)⟩
end
theorem dp_ex {G H : Hp} {v : V} (e : Ex G H) (h : Da K G v d) : Dp K H v d := (h.mono e).dp
theorem ev_eqD (ha : EvD K B ta Γ x) (hb : EvD K B tb Γ y) (sx : SeqAt.shaped x = true) (sy : SeqAt.shaped y = true) : EvD K B (tOp (rEqD K) ta tb) Γ (.bool (PyData.eqv x y)) :=
  ev_op ha hb fun v u G H hv hu e Q q => ⟨x, y, dp_ex e hv, dp_ex e hu, sx, sy, q _ G H (Grow.refl e) (.bl _)⟩
theorem ev_neD (ha : EvD K B ta Γ x) (hb : EvD K B tb Γ y) (sx : SeqAt.shaped x = true) (sy : SeqAt.shaped y = true) : EvD K B (tOp (rNeD K) ta tb) Γ (.bool (!PyData.eqv x y)) :=
  ev_op ha hb fun v u G H hv hu e Q q => ⟨x, y, dp_ex e hv, dp_ex e hu, sx, sy, q _ G H (Grow.refl e) (.bl _)⟩
/-- == of scalars by the plain rule -/
theorem ev_eqS {s1 s2 : Str} (ha : EvD K B ta Γ (.str s1)) (hb : EvD K B tb Γ (.str s2)) : EvD K B (tOp rEq ta tb) Γ (.bool (decide (s1 = s2))) :=
  ev_op ha hb fun v u G H hv hu e Q q => by
    rw [hv.str_inv, hu.str_inv]
    refine ⟨rfl, ?_⟩
    have : decide (V.str s1 = V.str s2) = decide (s1 = s2) := by simp
    rw [this]
    exact q _ G H (Grow.refl e) (.bl _)
theorem ev_eqI {a b : Int} (ha : EvD K B ta Γ (.int a)) (hb : EvD K B tb Γ (.int b)) : EvD K B (tOp rEq ta tb) Γ (.bool (decide (a = b))) :=
  ev_op ha hb fun v u G H hv hu e Q q => by
    rw [hv.int_inv, hu.int_inv]
    refine ⟨rfl, ?_⟩
    have : decide (V.int a = V.int b) = decide (a = b) := by simp
    rw [this]
    exact q _ G H (Grow.refl e) (.bl _)
theorem ev_eqB {a b : Bool} (ha : EvD K B ta Γ (.bool a)) (hb : EvD K B tb Γ (.bool b)) : EvD K B (tOp rEq ta tb) Γ (.bool (decide (a = b))) :=
  ev_op ha hb fun v u G H hv hu e Q q => by
    rw [hv.bl_inv, hu.bl_inv]
    refine ⟨rfl, ?_⟩
    have : decide (V.bl a = V.bl b) = decide (a = b) := by simp
    rw [this]
    exact q _ G H (Grow.refl e) (.bl _)
theorem ev_neS {s1 s2 : Str} (ha : EvD K B ta Γ (.str s1)) (hb : EvD K B tb Γ (.str s2)) : EvD K B (tOp rNe ta tb) Γ (.bool (!decide (s1 = s2))) :=
  ev_op ha hb fun v u G H hv hu e Q q => by
    rw [hv.str_inv, hu.str_inv]
    refine ⟨rfl, ?_⟩
    have : decide (V.str s1 = V.str s2) = decide (s1 = s2) := by simp
    rw [this]
    exact q _ G H (Grow.refl e) (.bl _)
theorem ev_neI {a b : Int} (ha : EvD K B ta Γ (.int a)) (hb : EvD K B tb Γ (.int b)) : EvD K B (tOp rNe ta tb) Γ (.bool (!decide (a = b))) :=
  ev_op ha hb fun v u G H hv hu e Q q => by
    rw [hv.int_inv, hu.int_inv]
    refine ⟨rfl, ?_⟩
    have : decide (V.int a = V.int b) = decide (a = b) := by simp
    rw [this]
    exact q _ G H (Grow.refl e) (.bl _)
def isNone : DD → Bool
  | .none => true
  | _ => false
theorem Da.isNone {G : Hp} {v : V} (h : Da K G v d) : decide (v = .non) = isNone d := by
  cases h <;> simp [Ly.isNone]
theorem ev_isN (ha : EvD K B ta Γ x) : EvD K B (tOp (fun x y H Q => y = .non ∧ Q (.bl (decide (x = .non))) H) ta (tC .non)) Γ (.bool (isNone x)) :=
  ev_op ha ev_non fun v u G H hv hu e Q q => by
    rw [hu.non_inv, hv.isNone]
    exact ⟨rfl, q _ G H (Grow.refl e) (.bl _)⟩
theorem ev_notN (ha : EvD K B ta Γ x) : EvD K B (tOp (fun x y H Q => y = .non ∧ Q (.bl (!decide (x = .non))) H) ta (tC .non)) Γ (.bool (!isNone x)) :=
  ev_op ha ev_non fun v u G H hv hu e Q q => by
    rw [hu.non_inv, hv.isNone]
    exact ⟨rfl, q _ G H (Grow.refl e) (.bl _)⟩
variable {tt tu : TT} {b c : Bool}
theorem et_test (h : EvD K B te Γ (.bool b)) : EvT K B (tTest te) Γ b := fun F σ H s Q q => h F σ H s _ fun v d H' e s' => by
  subst e
  obtain ⟨G, s1⟩ := id s'
  have hv := (s1.tm (v, .bool b) (by simp)).bl_inv
  exact ⟨b, hv, q H' s'.pop⟩
theorem et_B (h : EvD K B te Γ (.bool b)) : EvT K B (tB te) Γ b := et_test h
theorem et_not (h : EvT K B tt Γ b) : EvT K B (tNot tt) Γ (!b) := fun F σ H s Q q => h F σ H s _ fun H' s' => q H' s'
theorem et_and (h : EvT K B tt Γ b) (h2 : b = true → EvT K B tu Γ c) : EvT K B (tAnd tt tu) Γ (b && c) := fun F σ H s Q q => h F σ H s _ fun H' s' => by
  cases b with
  | true => exact h2 rfl F σ H' s' Q q
  | false => exact q H' s'
theorem et_or (h : EvT K B tt Γ b) (h2 : b = false → EvT K B tu Γ c) : EvT K B (tOr tt tu) Γ (b || c) := fun F σ H s Q q => h F σ H s _ fun H' s' => by
  cases b with
  | true => exact q H' s'
  | false => exact h2 rfl F σ H' s' Q q
theorem EvT.to (h : EvT K B tt Γ b) (e : b = c) : EvT K B tt Γ c := e ▸ h
theorem ev_andV (h : EvD K B ta Γ (.bool b)) (h2 : b = true → EvD K B tb Γ (.bool c)) : EvD K B (tAndV ta tb) Γ (.bool (b && c)) := fun F σ H s Q q => h F σ H s _ fun v d H' e s' => by
  subst e
  obtain ⟨G, s1⟩ := id s'
  have hv := (s1.tm (v, .bool b) (by simp)).bl_inv
  refine ⟨b, hv, ?_⟩
  cases b with
  | true => exact h2 rfl F σ H' s'.pop Q q
  | false => exact q (.bl false) _ H' rfl (s'.pop.c fun _ => .bl false)
theorem ev_orV (h : EvD K B ta Γ (.bool b)) (h2 : b = false → EvD K B tb Γ (.bool c)) : EvD K B (tOrV ta tb) Γ (.bool (b || c)) := fun F σ H s Q q => h F σ H s _ fun v d H' e s' => by
  subst e
  obtain ⟨G, s1⟩ := id s'
  have hv := (s1.tm (v, .bool b) (by simp)).bl_inv
  refine ⟨b, hv, ?_⟩
  cases b with
  | true => exact q (.bl true) _ H' rfl (s'.pop.c fun _ => .bl true)
  | false => exact h2 rfl F σ H' s'.pop Q q
theorem ev_notV (h : EvD K B ta Γ (.bool b)) : EvD K B (tNotV ta) Γ (.bool (!b)) := fun F σ H s Q q => h F σ H s _ fun v d H' e s' => by
  subst e
  obtain ⟨G, s1⟩ := id s'
  have hv := (s1.tm (v, .bool b) (by simp)).bl_inv
  exact ⟨b, hv, q (.bl (!b)) _ H' rfl (s'.pop.c fun _ => .bl _)⟩
theorem ev_ifP (h : EvT K B tt Γ b) (h1 : b = true → Ev K B ta Γ P) (h2 : b = false → Ev K B tb Γ P) : Ev K B (tIf tt ta tb) Γ P := fun F σ H s Q q => h F σ H s _ fun H' s' => by
  cases b with
  | true => exact h1 rfl F σ H' s' Q q
  | false => exact h2 rfl F σ H' s' Q q
theorem ev_if (h : EvT K B tt Γ b) (h1 : b = true → EvD K B ta Γ x) (h2 : b = false → EvD K B tb Γ y) : EvD K B (tIf tt ta tb) Γ (if b = true then x else y) :=
  ev_ifP h (fun e => by rw [if_pos e]; exact h1 e) (fun e => by rw [if_neg (by simp [e])]; exact h2 e)
theorem ev_ifI {i j : Int} (h : EvT K B tt Γ b) (h1 : b = true → EvD K B ta Γ (.int i)) (h2 : b = false → EvD K B tb Γ (.int j)) : EvD K B (tIf tt ta tb) Γ (.int (if b = true then i else j)) :=
  ev_ifP h (fun e => by rw [if_pos e]; exact h1 e) (fun e => by rw [if_neg (by simp [e])]; exact h2 e)
theorem ev_ifS {i j : Str} (h : EvT K B tt Γ b) (h1 : b = true → EvD K B ta Γ (.str i)) (h2 : b = false → EvD K B tb Γ (.str j)) : EvD K B (tIf tt ta tb) Γ (.str (if b = true then i else j)) :=
  ev_ifP h (fun e => by rw [if_pos e]; exact h1 e) (fun e => by rw [if_neg (by simp [e])]; exact h2 e)
theorem ev_ifL {i j : List DD} (h : EvT K B tt Γ b) (h1 : b = true → EvD K B ta Γ (.list i)) (h2 : b = false → EvD K B tb Γ (.list j)) : EvD K B (tIf tt ta tb) Γ (.list (if b = true then i else j)) :=
  ev_ifP h (fun e => by rw [if_pos e]; exact h1 e) (fun e => by rw [if_neg (by simp [e])]; exact h2 e)
theorem ev_ifU {i j : List DD} (h : EvT K B tt Γ b) (h1 : b = true → EvD K B ta Γ (.tuple i)) (h2 : b = false → EvD K B tb Γ (.tuple j)) : EvD K B (tIf tt ta tb) Γ (.tuple (if b = true then i else j)) :=
  ev_ifP h (fun e => by rw [if_pos e]; exact h1 e) (fun e => by rw [if_neg (by simp [e])]; exact h2 e)
theorem ev_ifB {i j : Bool} (h : EvT K B tt Γ b) (h1 : b = true → EvD K B ta Γ (.bool i)) (h2 : b = false → EvD K B tb Γ (.bool j)) : EvD K B (tIf tt ta tb) Γ (.bool (if b = true then i else j)) :=
  ev_ifP h (fun e => by rw [if_pos e]; exact h1 e) (fun e => by rw [if_neg (by simp [e])]; exact h2 e)
/-- a <= b <= c -/
theorem ev_chain {r r' : R2} {w : DD} (ha : EvD K B ta Γ x) (hb : EvD K B tb Γ y) (hc : b = true → EvD K B tc Γ w) (h1 : RD K r x y (.bool b)) (h2 : b = true → RD K r' y w (.bool c)) : EvD K B (tChain r r' ta tb tc) Γ (.bool (b && c)) :=
  fun F σ H s Q q => ha F σ H s _ fun v x' H1 e1 s1 => hb _ σ H1 s1 _ fun u y' H2 e2 s2 => by
    subst e1 e2
    obtain ⟨G, s2⟩ := s2
    refine h1 v u G H2 (s2.tm (v, x') (by simp)) (s2.tm (u, y') (by simp)) s2.ex _ fun v' G' H' g hv' => ⟨b, hv'.bl_inv, ?_⟩
    have s3 : S K B Γ (Fra.dat ⟨(u, y') :: F.T, F.X⟩ v' (.bool b)) σ H' := (S.grown (d := .bool b) s2 g hv').drop fun p hp => by
      simp at hp ⊢
      rcases hp with e | e | e <;> simp [e]
    cases b with
    | false => exact q (.bl false) _ H' rfl ((s3.drop (T' := F.T) fun p hp => by simp [hp]).c fun _ => .bl false)
    | true =>
      show tc σ H' _
      refine hc rfl _ σ H' s3 _ fun w' x3 H4 e3 s4 => ?_
      subst e3
      obtain ⟨G4, s4⟩ := s4
      refine h2 rfl u w' G4 H4 (s4.tm (u, y') (by simp)) (s4.tm (w', x3) (by simp)) s4.ex Q fun v5 G5 H5 g5 hv5 => q v5 _ H5 rfl ?_
      exact (S.grown (d := .bool c) s4 g5 hv5).drop fun p hp => by
        simp at hp ⊢
        rcases hp with e | e <;> simp [e]
theorem ea_nil : EvAD K B tNil Γ [] := fun F σ H s Q q => q [] [] H rfl rfl s
theorem ea_consP {tr : TA} {Ps : List DD → Prop} {Pr : List DD → Prop} (h : Ev K B te Γ P) (hr : EvA K B tr Γ Pr) (k : ∀ d ds, P d → Pr ds → Ps (d :: ds)) : EvA K B (tCons te tr) Γ Ps := fun F σ H s Q q =>
  h F σ H s _ fun v d H1 p1 s1 => hr _ σ H1 s1 _ fun vs ds H2 p2 l2 s2 => q (v :: vs) (d :: ds) H2 (k d ds p1 p2) (congrArg (· + 1) l2) (s2.drop fun p hp => by
    simp only [List.zip_cons_cons, List.cons_append, List.mem_cons, List.mem_append] at hp ⊢
    rcases hp with e | e | e
    · exact .inr (.inl e)
    · exact .inl e
    · exact .inr (.inr e))
theorem ea_cons {tr : TA} {ds : List DD} (h : EvD K B te Γ d) (hr : EvAD K B tr Γ ds) : EvAD K B (tCons te tr) Γ (d :: ds) := ea_consP h hr fun _ _ e1 e2 => by rw [e1, e2]
theorem daL_zip {G : Hp} : ∀ {vs : List V} {ds : List DD}, vs.length = ds.length → (∀ p ∈ vs.zip ds, Da K G p.1 p.2) → DaL K G vs ds
  | [], [], _, _ => .nil
  | [], _ :: _, e, _ => by cases e
  | _ :: _, [], e, _ => by cases e
  | v :: vs, d :: ds, e, h => .cons (h (v, d) (by simp)) (daL_zip (Nat.succ.inj e) fun p hp => h p (by simp [hp]))
theorem sz_of {n : Nat} (h : n ≤ 100000) : n ≤ sizeLine := Nat.le_trans h (by decide)
theorem sz_lt {n : Nat} (h : n < 100000) : n < sizeLine := Nat.lt_of_lt_of_le h (by decide)
theorem ev_tupP {ta : TA} {Ps : List DD → Prop} (h : EvA K B ta Γ Ps) (hl : ∀ ds, Ps ds → ds.length ≤ 100000 ∧ P (.tuple ds)) : Ev K B (tTup ta) Γ P := fun F σ H s Q q =>
  h F σ H s _ fun vs ds H1 p l s1 => by
    obtain ⟨G, s1⟩ := s1
    refine ⟨sz_of (by rw [l]; exact (hl ds p).1), fun a ha => q (.ref a) (.tuple ds) _ (hl ds p).2 ?_⟩
    have hd : DaL K G vs ds := daL_zip l fun p hp => s1.tm p (by simp [hp])
    exact (S.grown (d := .tuple ds) s1 (Grow.laid s1.ex ha) (.tup (SqT.of upd_same) (hd.mono (Ex.new (s1.ex.none ha))))).drop fun p hp => by
      simp at hp ⊢
      rcases hp with e | e <;> simp [e]
theorem ev_tup {ta : TA} {ds : List DD} (h : EvAD K B ta Γ ds) (hl : Nat.ble ds.length 100000 = true := by rfl) : EvD K B (tTup ta) Γ (.tuple ds) := ev_tupP h fun es e => by rw [e]; exact ⟨Nat.le_of_ble_eq_true hl, rfl⟩
variable (K B) in
/-- a new own list comes -/
def EvN (te : TE) (Γ : List Sl) (P : List DD → Prop) : Prop := ∀ F σ H, S K B Γ F σ H → ∀ Q : VK, (∀ p ds H', P ds → p ∉ B.L → S K B Γ (F.res1 (.ref p) (lstR p ds)) σ H' → Q (.ref p) H') → te σ H Q
variable (K B) in
abbrev EvND (te : TE) (Γ : List Sl) (ds : List DD) : Prop := EvN K B te Γ (fun x => x = ds)
theorem EvN.ev {Ps : List DD → Prop} (h : EvN K B te Γ Ps) (k : ∀ ds, Ps ds → P (.list ds)) : Ev K B te Γ P := fun F σ H s Q q =>
  h F σ H s _ fun p ds H' hp hl ⟨G, s'⟩ => q (.ref p) (.list ds) H' (k ds hp) (s'.freezeX hl)
theorem EvN.dat {ds : List DD} (h : EvND K B te Γ ds) : EvD K B te Γ (.list ds) := EvN.ev (P := fun x => x = .list ds) h fun _ e => by rw [e]
theorem EvND.to {ds es : List DD} (h : EvND K B te Γ ds) (e : ds = es) : EvND K B te Γ es := e ▸ h
theorem en_lstP {ta : TA} {Ps : List DD → Prop} (h : EvA K B ta Γ Ps) (hl : ∀ ds, Ps ds → ds.length ≤ 100000) : EvN K B (tLst ta) Γ Ps := fun F σ H s Q q =>
  h F σ H s _ fun vs ds H1 p l s1 => by
    obtain ⟨G, s1⟩ := s1
    refine ⟨sz_of (by rw [l]; exact hl ds p), fun a ha => q a ds _ p (s1.notLent ha) ?_⟩
    have hd : DaL K G vs ds := daL_zip l fun p hp => s1.tm p (by simp [hp])
    exact ⟨G, (s1.newLst ha hd).drop fun p hp => by simp [hp]⟩
theorem en_lst {ta : TA} {ds : List DD} (h : EvAD K B ta Γ ds) (hl : Nat.ble ds.length 100000 = true := by rfl) : EvND K B (tLst ta) Γ ds := en_lstP h fun es e => by rw [e]; exact Nat.le_of_ble_eq_true hl
/-- an operation that lays a new list -/
def RN (K : FK) (r : R2) (x y : DD) (zs : List DD) : Prop := ∀ v u G H, Da K G v x → Da K G u y → Ex G H → ∀ Q : VK, (∀ p xs, H p = none → DaL K G xs zs → Q (.ref p) (upd H p (.lst xs))) → r v u H Q
theorem en_opP {r : R2} {Pa Pb : DD → Prop} {Ps : List DD → Prop} (ha : Ev K B ta Γ Pa) (hb : Ev K B tb Γ Pb) (hr : ∀ x y, Pa x → Pb y → ∃ zs, Ps zs ∧ RN K r x y zs) : EvN K B (tOp r ta tb) Γ Ps := fun F σ H s Q q =>
  ha F σ H s _ fun v x' H1 e1 s1 => hb _ σ H1 s1 _ fun u y' H2 e2 s2 => by
    obtain ⟨G, s2⟩ := s2
    obtain ⟨zs, pz, hz⟩ := hr x' y' e1 e2
    refine hz v u G H2 (s2.tm (v, x') (by simp)) (s2.tm (u, y') (by simp)) s2.ex Q fun p xs hp hx => q p zs _ pz (s2.notLent hp) ⟨G, (s2.newLst hp hx).drop fun p hp => by simp [hp]⟩
theorem en_op {r : R2} {zs : List DD} (ha : EvD K B ta Γ x) (hb : EvD K B tb Γ y) (hr : RN K r x y zs) : EvND K B (tOp r ta tb) Γ zs := en_opP ha hb fun _ _ e1 e2 => ⟨zs, rfl, by rw [e1, e2]; exact hr⟩
theorem rn_cat {xs ys : List DD} (hl : xs.length + ys.length ≤ 100000) : RN K rCat (.list xs) (.list ys) (xs ++ ys) := fun v u G H hv hu e Q q => by
  obtain ⟨a, vs, rfl, ha, hs⟩ := hv.lst_inv
  obtain ⟨b, us, rfl, hb, ht⟩ := hu.lst_inv
  exact ⟨a, b, vs, us, rfl, rfl, e _ _ ha, e _ _ hb, sz_of (by rw [hs.length, ht.length]; exact hl), fun p hp => q p _ hp (hs.append ht)⟩
theorem en_cat {xs ys : List DD} (ha : EvD K B ta Γ (.list xs)) (hb : EvD K B tb Γ (.list ys)) (hl : xs.length + ys.length ≤ 100000) : EvND K B (tOp rCat ta tb) Γ (xs ++ ys) := en_op ha hb (rn_cat hl)
theorem rn_rep {xs : List DD} {k : Int} (hk : -(2 ^ 63) ≤ k) (hk2 : k < 2 ^ 63) (hl : xs.length * k.toNat ≤ 100000) : RN K rRep (.list xs) (.int k) (List.replicate k.toNat xs).flatten := fun v u G H hv hu e Q q => by
  obtain ⟨a, vs, rfl, ha, hs⟩ := hv.lst_inv
  rw [hu.int_inv]
  exact ⟨a, k, vs, rfl, rfl, e _ _ ha, hk, hk2, sz_of (by rw [hs.length]; exact hl), fun p hp => q p _ hp (hs.rep _)⟩
theorem en_rep {xs : List DD} {k : Int} (ha : EvD K B ta Γ (.list xs)) (hb : EvD K B tb Γ (.int k)) (hk : -(2 ^ 63) ≤ k) (hk2 : k < 2 ^ 63) (hl : xs.length * k.toNat ≤ 100000) : EvND K B (tOp rRep ta tb) Γ (List.replicate k.toNat xs).flatten := en_op ha hb (rn_rep hk hk2 hl)
theorem rd_catT {xs ys : List DD} (hx : xs ≠ []) (hl : xs.length + ys.length ≤ 100000) : RD K (rCatT K) (.tuple xs) (.tuple ys) (.tuple (xs ++ ys)) := fun v u G H hv hu e Q q => by
  obtain ⟨a, vs, rfl, ha, hs⟩ := hv.tup_inv
  obtain ⟨b, us, rfl, hb, ht⟩ := hu.tup_inv
  refine ⟨a, b, vs, us, rfl, rfl, ex_t e ha, ex_t e hb, fun z => hx ?_, sz_of (by rw [hs.length, ht.length]; exact hl), fun z => ?_, fun _ p hp => ?_⟩
  · have := hs.length; rw [z] at this; exact List.length_eq_zero_iff.mp this.symm
  · have hy : ys = [] := by
      have := ht.length; rw [z] at this; exact List.length_eq_zero_iff.mp this.symm
    refine q _ G H (Grow.refl e) ?_
    rw [hy, List.append_nil]
    exact .tup ha hs
  · exact q _ _ _ (Grow.laid e hp) (.tup (SqT.of upd_same) ((hs.append ht).mono (Ex.new (e.none hp))))
theorem ev_catT {xs ys : List DD} (ha : EvD K B ta Γ (.tuple xs)) (hb : EvD K B tb Γ (.tuple ys)) (hx : xs.isEmpty = false := by rfl) (hl : Nat.ble (xs.length + ys.length) 100000 = true := by rfl) : EvD K B (tOp (rCatT K) ta tb) Γ (.tuple (xs ++ ys)) := ev_op ha hb (rd_catT (fun e => by rw [e] at hx; cases hx) (Nat.le_of_ble_eq_true hl))
theorem rd_ixL {ds : List DD} {i : Int} (h : atI ds i = some d) : RD K (rIxL K) (.list ds) (.int i) d := fun v u G H hv hu e Q q => by
  obtain ⟨a, vs, rfl, ha, hs⟩ := hv.lst_inv
  rw [hu.int_inv]
  obtain ⟨w, h1, h2⟩ := hs.at h
  exact ⟨a, vs, i, w, rfl, rfl, SqL.of (e _ _ ha), h1, q w G H (Grow.refl e) h2⟩
theorem rd_ixT {ds : List DD} {i : Int} (h : atI ds i = some d) : RD K (rIxT K) (.tuple ds) (.int i) d := fun v u G H hv hu e Q q => by
  obtain ⟨a, vs, rfl, ha, hs⟩ := hv.tup_inv
  rw [hu.int_inv]
  obtain ⟨w, h1, h2⟩ := hs.at h
  exact ⟨a, vs, i, w, rfl, rfl, ex_t e ha, h1, q w G H (Grow.refl e) h2⟩
theorem ev_ixL {ds : List DD} {i : Int} (ha : EvD K B ta Γ (.list ds)) (hb : EvD K B tb Γ (.int i)) (h : atI ds i = some d) : EvD K B (tOp (rIxL K) ta tb) Γ d := ev_op ha hb (rd_ixL h)
theorem ev_ixT {ds : List DD} {i : Int} (ha : EvD K B ta Γ (.tuple ds)) (hb : EvD K B tb Γ (.int i)) (h : atI ds i = some d) : EvD K B (tOp (rIxT K) ta tb) Γ d := ev_op ha hb (rd_ixT h)
/-- an item of an own list of a slot -/
theorem ev_ixO {j : Nat} {p : Addr} {ds : List DD} {i : Int} (hj : Γ[j]? = some (.own (lstR p ds))) (hb : EvD K B tb Γ (.int i)) (h : atI ds i = some d) : EvD K B (tOp (rIxL K) (tVar j) tb) Γ d := fun F σ H s Q q => by
  obtain ⟨G, s0⟩ := id s
  obtain ⟨v, hv, _⟩ := s0.own hj
  refine ⟨v, hv, ?_⟩
  refine hb F σ H s _ fun u y' H2 e2 s2 => ?_
  subst e2
  obtain ⟨G2, s2⟩ := s2
  obtain ⟨v2, hv2, rfl, xs, hp, hd⟩ := s2.own hj
  have ev : v = .ref p := by rw [hv] at hv2; exact Option.some.inj (Option.some.inj hv2)
  obtain ⟨w, h1, h2⟩ := hd.at h
  refine ⟨p, xs, i, w, ev, (s2.tm (u, .int i) (by simp)).int_inv, SqL.of hp, h1, q w d H2 rfl ?_⟩
  exact (S.grown (d := d) s2 (Grow.refl s2.ex) h2).drop fun p hp => by
    simp at hp ⊢
    rcases hp with e | e <;> simp [e]
theorem atI_lastD (xs : List DD) (v : DD) : atI (xs ++ [v]) (-1) = some v := atI_last xs v
variable (K B) in
def EvO (to : TO) (Γ : List Sl) (o : Option Int) : Prop := ∀ F σ H, S K B Γ F σ H → ∀ Q : Option Int → Hp → Prop, (∀ H', S K B Γ F σ H' → Q o H') → to σ H Q
theorem eo_none : EvO K B tNoPart Γ none := fun _ _ H s _ q => q H s
theorem eo_some {i : Int} (h : EvD K B te Γ (.int i)) : EvO K B (tPart te) Γ (some i) := fun F σ H s Q q => h F σ H s _ fun v d H' e s' => by
  subst e
  obtain ⟨G, s1⟩ := id s'
  exact ⟨i, (s1.tm (v, .int i) (by simp)).int_inv, q H' s'.pop⟩
def cutD (xs : List DD) (lo hi : Option Int) : List DD := (xs.drop (HT.sIx xs.length 0 lo)).take (HT.sIx xs.length xs.length hi - HT.sIx xs.length 0 lo)
theorem DaL.cut {G : Hp} {vs : List V} {ds : List DD} (h : DaL K G vs ds) (lo hi : Option Int) : DaL K G (cutV vs lo hi) (cutD ds lo hi) := by
  unfold cutV cutD
  rw [h.length]
  exact (h.drop _).take _
theorem en_slL {tl th : TO} {ds : List DD} {lo hi : Option Int} (h : EvD K B te Γ (.list ds)) (h1 : EvO K B tl Γ lo) (h2 : EvO K B th Γ hi) : EvND K B (tSl (rSlL K) te tl th) Γ (cutD ds lo hi) := fun F σ H s Q q =>
  h F σ H s _ fun v d H1 e s1 => h1 _ σ H1 s1 _ fun H2 s2 => h2 _ σ H2 s2 _ fun H3 s3 => by
    subst e
    obtain ⟨G, s3⟩ := s3
    obtain ⟨a, vs, rfl, ha, hs⟩ := (s3.tm (v, .list ds) (by simp)).lst_inv
    exact ⟨a, vs, rfl, SqL.of (s3.ex _ _ ha), fun p hp => q p _ _ rfl (s3.notLent hp) ⟨G, (s3.newLst hp (hs.cut lo hi)).drop fun p hp => by simp [hp]⟩⟩
theorem ev_slT {tl th : TO} {ds : List DD} {lo hi : Option Int} (h : EvD K B te Γ (.tuple ds)) (h1 : EvO K B tl Γ lo) (h2 : EvO K B th Γ hi) (hw : decide (HT.sIx ds.length 0 lo = 0 ∧ HT.sIx ds.length ds.length hi = ds.length) = false := by rfl) : EvD K B (tSl (rSlT K) te tl th) Γ (.tuple (cutD ds lo hi)) := fun F σ H s Q q =>
  h F σ H s _ fun v d H1 e s1 => h1 _ σ H1 s1 _ fun H2 s2 => h2 _ σ H2 s2 _ fun H3 s3 => by
    subst e
    obtain ⟨G, s3⟩ := s3
    obtain ⟨a, vs, rfl, ha, hs⟩ := (s3.tm (v, .tuple ds) (by simp)).tup_inv
    refine ⟨a, vs, rfl, ex_t s3.ex ha, by rw [hs.length]; exact of_decide_eq_false hw, fun p hp => q (.ref p) _ _ rfl ?_⟩
    exact (S.grown (d := .tuple (cutD ds lo hi)) s3 (Grow.laid s3.ex hp) (.tup (SqT.of upd_same) ((hs.cut lo hi).mono (Ex.new (s3.ex.none hp))))).drop fun p hp => by
      simp at hp ⊢
      rcases hp with e | e <;> simp [e]
def flatD : DD → Bool
  | .none => true
  | .bool _ => true
  | .int _ => true
  | .str _ => true
  | _ => false
theorem Da.flat {G : Hp} {v : V} (h : Da K G v d) : flatV v = flatD d := by cases h <;> rfl
theorem Da.eqV {G : Hp} {v u : V} (h : Da K G v x) (k : Da K G u y) (fx : flatD x = true) (fy : flatD y = true) : L2.eqV v u = PyData.eqv x y := by
  cases h <;> cases k <;> first | rfl | (simp [flatD] at fx; done) | (simp [flatD] at fy; done) | simp [L2.eqV, PyData.eqv]
def inD (x : DD) (xs : List DD) : Bool := xs.any fun y => PyData.eqv y x
theorem DaL.flat {G : Hp} : ∀ {vs : List V} {ds : List DD}, DaL K G vs ds → vs.all flatV = ds.all flatD
  | _, _, .nil => rfl
  | _, _, .cons h t => by rw [List.all_cons, List.all_cons, h.flat, t.flat]
theorem DaL.inV {G : Hp} {v : V} (h : Da K G v x) (fx : flatD x = true) : ∀ {vs : List V} {ds : List DD}, DaL K G vs ds → ds.all flatD = true → L2.inV v vs = inD x ds
  | _, _, .nil, _ => rfl
  | _, _, .cons k t, f => by
    rw [List.all_cons, Bool.and_eq_true] at f
    have e := t.inV h fx f.2
    unfold L2.inV inD at e ⊢
    rw [List.any_cons, List.any_cons, k.eqV h f.1 fx, e]
theorem rd_inT {neg : Bool} {ds : List DD} (fx : flatD x = true) (fd : ds.all flatD = true) : RD K (rIn K neg) x (.tuple ds) (.bool (if neg then !inD x ds else inD x ds)) := fun v u G H hv hu e Q q => by
  obtain ⟨a, vs, rfl, ha, hs⟩ := hu.tup_inv
  refine ⟨a, vs, rfl, .inr (ex_t e ha), by rw [hv.flat]; exact fx, by rw [hs.flat]; exact fd, ?_⟩
  rw [hs.inV hv fx fd]
  exact q _ G H (Grow.refl e) (.bl _)
theorem rd_inL {neg : Bool} {ds : List DD} (fx : flatD x = true) (fd : ds.all flatD = true) : RD K (rIn K neg) x (.list ds) (.bool (if neg then !inD x ds else inD x ds)) := fun v u G H hv hu e Q q => by
  obtain ⟨a, vs, rfl, ha, hs⟩ := hu.lst_inv
  refine ⟨a, vs, rfl, .inl (SqL.of (e _ _ ha)), by rw [hv.flat]; exact fx, by rw [hs.flat]; exact fd, ?_⟩
  rw [hs.inV hv fx fd]
  exact q _ G H (Grow.refl e) (.bl _)
theorem ev_inT {ds : List DD} (ha : EvD K B ta Γ x) (hb : EvD K B tb Γ (.tuple ds)) (fx : flatD x = true := by rfl) (fd : ds.all flatD = true := by rfl) : EvD K B (tOp (rIn K false) ta tb) Γ (.bool (inD x ds)) := ev_op ha hb (rd_inT fx fd)
theorem ev_niT {ds : List DD} (ha : EvD K B ta Γ x) (hb : EvD K B tb Γ (.tuple ds)) (fx : flatD x = true := by rfl) (fd : ds.all flatD = true := by rfl) : EvD K B (tOp (rIn K true) ta tb) Γ (.bool (!inD x ds)) := ev_op ha hb (rd_inT fx fd)
theorem ev_inL {ds : List DD} (ha : EvD K B ta Γ x) (hb : EvD K B tb Γ (.list ds)) (fx : flatD x = true) (fd : ds.all flatD = true) : EvD K B (tOp (rIn K false) ta tb) Γ (.bool (inD x ds)) := ev_op ha hb (rd_inL fx fd)
theorem ev_cb {r : List V → Hp → VK → Prop} {ta : TA} {ds : List DD} (h : EvAD K B ta Γ ds) (hr : RC K r ds z) : EvD K B (tCB r ta) Γ z := fun F σ H s Q q =>
  h F σ H s _ fun vs es H1 p l s1 => by
    subst p
    obtain ⟨G, s1⟩ := s1
    refine hr vs G H1 (daL_zip l fun p hp => s1.tm p (by simp [hp])) s1.ex Q fun v' G' H' g hv => q v' z H' rfl ?_
    exact (S.grown (d := z) s1 g hv).drop fun p hp => by
      simp at hp ⊢
      rcases hp with e | e <;> simp [e]
def rLenS (K : FK) : List V → Hp → VK → Prop := fun xs H Q => ∃ p ys, xs = [.ref p] ∧ (SqL K H p ys ∨ SqT K H p ys) ∧ Q (.int ys.length) H
theorem daL1 {G : Hp} {vs : List V} (h : DaL K G vs [d]) : ∃ v, vs = [v] ∧ Da K G v d := by
  cases h with
  | cons h t => cases t; exact ⟨_, rfl, h⟩
theorem daL2 {G : Hp} {vs : List V} (h : DaL K G vs [x, y]) : ∃ v u, vs = [v, u] ∧ Da K G v x ∧ Da K G u y := by
  cases h with
  | cons h t =>
    cases t with
    | cons h2 t2 => cases t2; exact ⟨_, _, rfl, h, h2⟩
theorem ev_lenL {ds : List DD} (h : EvD K B te Γ (.list ds)) : EvD K B (tCB (rLenS K) (tCons te tNil)) Γ (.int ds.length) := ev_cb (ea_cons h ea_nil) fun vs G H hv e Q q => by
  obtain ⟨v, rfl, hw⟩ := daL1 hv
  obtain ⟨a, xs, rfl, ha, hs⟩ := hw.lst_inv
  refine ⟨a, xs, rfl, .inl (SqL.of (e _ _ ha)), ?_⟩
  rw [hs.length]
  exact q _ G H (Grow.refl e) (.int _)
theorem ev_lenT {ds : List DD} (h : EvD K B te Γ (.tuple ds)) : EvD K B (tCB (rLenS K) (tCons te tNil)) Γ (.int ds.length) := ev_cb (ea_cons h ea_nil) fun vs G H hv e Q q => by
  obtain ⟨v, rfl, hw⟩ := daL1 hv
  obtain ⟨a, xs, rfl, ha, hs⟩ := hw.tup_inv
  refine ⟨a, xs, rfl, .inr (ex_t e ha), ?_⟩
  rw [hs.length]
  exact q _ G H (Grow.refl e) (.int _)
theorem ev_lenO {j : Nat} {p : Addr} {ds : List DD} (hj : Γ[j]? = some (.own (lstR p ds))) : EvD K B (tCB (rLenS K) (tCons (tVar j) tNil)) Γ (.int ds.length) := fun F σ H s Q q => by
  obtain ⟨G, s0⟩ := id s
  obtain ⟨v, hv, rfl, xs, hp, hd⟩ := s0.own hj
  refine ⟨.ref p, hv, p, xs, rfl, .inl (SqL.of hp), ?_⟩
  rw [hd.length]
  exact q _ _ H rfl (s.c fun _ => .int _)
theorem ev_abs {i : Int} (h : EvD K B te Γ (.int i)) : EvD K B (tCB (fun xs H Q => ∃ i, xs = [.int i] ∧ Q (.int (if i < 0 then -i else i)) H) (tCons te tNil)) Γ (.int (if i < 0 then -i else i)) := ev_cb (ea_cons h ea_nil) fun vs G H hv e Q q => by
  obtain ⟨v, rfl, hw⟩ := daL1 hv
  rw [hw.int_inv]
  exact ⟨i, rfl, q _ G H (Grow.refl e) (.int _)⟩
theorem ev_sum {ns : List Int} (h : EvD K B te Γ (.list (ns.map .int))) : EvD K B (tCB (rSum K) (tCons te tNil)) Γ (.int ns.sum) := ev_cb (ea_cons h ea_nil) fun vs G H hv e Q q => by
  obtain ⟨v, rfl, hw⟩ := daL1 hv
  obtain ⟨a, xs, rfl, ha, hs⟩ := hw.lst_inv
  exact ⟨a, ns, rfl, SqL.of (by rw [← hs.ints]; exact e _ _ ha), q _ G H (Grow.refl e) (.int _)⟩
theorem ev_all {bs : List Bool} (h : EvD K B te Γ (.list (bs.map .bool))) : EvD K B (tCB (rAll K) (tCons te tNil)) Γ (.bool (bs.all id)) := ev_cb (ea_cons h ea_nil) fun vs G H hv e Q q => by
  obtain ⟨v, rfl, hw⟩ := daL1 hv
  obtain ⟨a, xs, rfl, ha, hs⟩ := hw.lst_inv
  exact ⟨a, bs, rfl, SqL.of (by rw [← hs.bls]; exact e _ _ ha), q _ G H (Grow.refl e) (.bl _)⟩
theorem ev_any {bs : List Bool} (h : EvD K B te Γ (.list (bs.map .bool))) : EvD K B (tCB (rAny K) (tCons te tNil)) Γ (.bool (bs.any id)) := ev_cb (ea_cons h ea_nil) fun vs G H hv e Q q => by
  obtain ⟨v, rfl, hw⟩ := daL1 hv
  obtain ⟨a, xs, rfl, ha, hs⟩ := hw.lst_inv
  exact ⟨a, bs, rfl, SqL.of (by rw [← hs.bls]; exact e _ _ ha), q _ G H (Grow.refl e) (.bl _)⟩
theorem ev_max {ns : List Int} {m : Int} (h : EvD K B te Γ (.list (ns.map .int))) (hm : m ∈ ns) (hle : ∀ y, y ∈ ns → y ≤ m) : EvD K B (tCB (rMax K) (tCons te tNil)) Γ (.int m) := ev_cb (ea_cons h ea_nil) fun vs G H hv e Q q => by
  obtain ⟨v, rfl, hw⟩ := daL1 hv
  obtain ⟨a, xs, rfl, ha, hs⟩ := hw.lst_inv
  refine ⟨a, ns, rfl, SqL.of (by rw [← hs.ints]; exact e _ _ ha), List.length_pos_of_mem hm, fun m' h1 h2 => ?_⟩
  have : m' = m := Int.le_antisymm (hle _ h1) (h2 _ hm)
  rw [this]
  exact q _ G H (Grow.refl e) (.int _)
theorem ev_min {ns : List Int} {m : Int} (h : EvD K B te Γ (.list (ns.map .int))) (hm : m ∈ ns) (hle : ∀ y, y ∈ ns → m ≤ y) : EvD K B (tCB (rMin K) (tCons te tNil)) Γ (.int m) := ev_cb (ea_cons h ea_nil) fun vs G H hv e Q q => by
  obtain ⟨v, rfl, hw⟩ := daL1 hv
  obtain ⟨a, xs, rfl, ha, hs⟩ := hw.lst_inv
  refine ⟨a, ns, rfl, SqL.of (by rw [← hs.ints]; exact e _ _ ha), List.length_pos_of_mem hm, fun m' h1 h2 => ?_⟩
  have : m' = m := Int.le_antisymm (h2 _ hm) (hle _ h1)
  rw [this]
  exact q _ G H (Grow.refl e) (.int _)
def rListS (K : FK) : List V → Hp → VK → Prop := fun xs H Q => ∃ p ys, xs = [.ref p] ∧ (SqL K H p ys ∨ SqT K H p ys) ∧ ∀ l, H l = none → Q (.ref l) (upd H l (.lst ys))
theorem en_listL {ds : List DD} (h : EvD K B te Γ (.list ds)) : EvND K B (tCB (rListS K) (tCons te tNil)) Γ ds := fun F σ H s Q q =>
  h F σ H s _ fun v d H1 e s1 => by
    subst e
    obtain ⟨G, s1⟩ := s1
    obtain ⟨a, xs, rfl, ha, hs⟩ := (s1.tm (v, .list ds) (by simp)).lst_inv
    exact ⟨a, xs, rfl, .inl (SqL.of (s1.ex _ _ ha)), fun p hp => q p _ _ rfl (s1.notLent hp) ⟨G, (s1.newLst hp hs).drop fun p hp => by simp [hp]⟩⟩
theorem en_listT {ds : List DD} (h : EvD K B te Γ (.tuple ds)) : EvND K B (tCB (rListS K) (tCons te tNil)) Γ ds := fun F σ H s Q q =>
  h F σ H s _ fun v d H1 e s1 => by
    subst e
    obtain ⟨G, s1⟩ := s1
    obtain ⟨a, xs, rfl, ha, hs⟩ := (s1.tm (v, .tuple ds) (by simp)).tup_inv
    exact ⟨a, xs, rfl, .inr (ex_t s1.ex ha), fun p hp => q p _ _ rfl (s1.notLent hp) ⟨G, (s1.newLst hp hs).drop fun p hp => by simp [hp]⟩⟩
def tyD : DD → String
  | .none => "NoneType"
  | .bool _ => "bool"
  | .int _ => "int"
  | .str _ => "str"
  | .list _ => "list"
  | .tuple _ => "tuple"
  | .dict _ => "dict"
theorem Da.ty {G H : Hp} {v : V} (e : Ex G H) (h : Da K G v d) : TyX K H v (.type (tyD d)) := by
  cases h with
  | non => exact .base .non
  | bl b => exact .base (.bl b)
  | int i => exact .base (.int i)
  | str x => exact .base (.str x)
  | lst h _ => exact .base (.lst (e _ _ h))
  | tup h _ =>
    rcases h with (h | ⟨o, h⟩) | ⟨o, its, n, h, hc, _⟩
    · exact .base (.tup (e _ _ h))
    · exact .fTuple (e _ _ h)
    · exact .kTuple h hc
theorem ev_isi {n : String} {b : Bool} (h : EvD K B te Γ d) (hk : kitB (tyD d) n = some b) : EvD K B (tCB (rIsi K) (tCons te (tCons (tC (.ty n)) tNil))) Γ (.bool b) := fun F σ H s Q q =>
  h F σ H s _ fun v d' H1 e s1 => by
    subst e
    obtain ⟨G, s0⟩ := id s1
    refine ⟨v, .ty n, .type (tyD d'), .type n, b, rfl, .ty n, (s0.tm (v, d') (by simp)).ty s0.ex, kit_ty hk, q _ _ H1 rfl (s1.pop.c fun _ => .bl b)⟩
end
end Ly

namespace Ly
open PySem L2
section
variable (K : FK) (B : Bs)
/-- what is wanted of the state Γ -/
def Nx (n : St → Hp → Prop) (Γ : List Sl) (F : Fra) : Prop := ∀ σ H, S K B Γ F σ H → n σ H
/-- the target g takes the datum d: Γ becomes Γ', nothing but the slots vs turns -/
def Tg (g : TG) (d : DD) (Γ Γ' : List Sl) (vs : List Nat) : Prop := (Γ'.length = Γ.length ∧ ∀ i : Nat, i ∉ vs → Γ'[i]? = Γ[i]?) ∧ ∀ F v σ H, S K B Γ F σ H → (v, d) ∈ F.T → ∀ Q : St → Hp → Prop,
  (∀ σ' H', S K B Γ' F σ' H' → (∀ i, i ∉ vs → σ'[i]? = σ[i]?) → Q σ' H') → g v σ H Q
def Tgs (g : TGs) (ds : List DD) (Γ Γ' : List Sl) (vs : List Nat) : Prop := (Γ'.length = Γ.length ∧ ∀ i : Nat, i ∉ vs → Γ'[i]? = Γ[i]?) ∧ ∀ F us σ H, S K B Γ F σ H → us.length = ds.length → (∀ p ∈ us.zip ds, p ∈ F.T) → ∀ Q : St → Hp → Prop,
  (∀ σ' H', S K B Γ' F σ' H' → (∀ i, i ∉ vs → σ'[i]? = σ[i]?) → Q σ' H') → g us σ H Q
end
section
variable {K : FK} {B : Bs} {Γ Γ' Γ2 : List Sl} {F : Fra} {te ta tb : TE} {tt : TT} {D : Ends} {t u : TS} {d : DD} {P : DD → Prop} {i : Nat} {vs vs' : List Nat} {g : TG}
theorem of_blt {i n : Nat} (h : Nat.blt i n = true) : i < n := Nat.le_of_ble_eq_true h
theorem tg_name (hi : Nat.blt i Γ.length = true := by rfl) : Tg K B (gName i) d Γ (Γ.set i (.dat d)) [i] := ⟨⟨by simp, fun j hj => List.getElem?_set_ne (fun e => hj (by simp [e]))⟩, fun F v σ H ⟨G, s⟩ hd Q q =>
  q _ _ ⟨G, s.setDat (of_blt hi) hd⟩ fun j hj => List.getElem?_set_ne (fun e => hj (by simp [e]))⟩
theorem tgs_nil : Tgs K B gNil [] Γ Γ [] := ⟨⟨rfl, fun _ _ => rfl⟩, fun F us σ H s l _ Q q => ⟨List.length_eq_zero_iff.mp l, q σ H s fun _ _ => rfl⟩⟩
theorem tgs_cons {gs : TGs} {ds : List DD} (h : Tg K B g d Γ Γ' vs) (h2 : Tgs K B gs ds Γ' Γ2 vs') : Tgs K B (gCons g gs) (d :: ds) Γ Γ2 (vs ++ vs') := ⟨⟨h2.1.1.trans h.1.1, fun i hi => (h2.1.2 i fun z => hi (by simp [z])).trans (h.1.2 i fun z => hi (by simp [z]))⟩, fun F us σ H s l hz Q q => by
  cases us with
  | nil => cases l
  | cons w us =>
    refine ⟨w, us, rfl, h.2 F w σ H s (hz (w, d) (by simp)) _ fun σ1 H1 s1 e1 => ?_⟩
    refine h2.2 F us σ1 H1 s1 (Nat.succ.inj l) (fun p hp => hz p (by simp [hp])) Q fun σ2 H2 s2 e2 => q σ2 H2 s2 fun i hi => ?_
    rw [e2 i (fun z => hi (by simp [z])), e1 i (fun z => hi (by simp [z]))]⟩
theorem tg_tup {gs : TGs} {ds : List DD} {n : Nat} (hn : ds.length = n) (h : Tgs K B gs ds Γ Γ' vs) : Tg K B (gTup K n gs) (.tuple ds) Γ Γ' vs := ⟨h.1, fun F v σ H ⟨G, s⟩ hd Q q => by
  obtain ⟨a, xs, rfl, ha, hs⟩ := (s.tm _ hd).tup_inv
  refine ⟨a, xs, rfl, ex_t s.ex ha, hs.length.trans hn, ?_⟩
  have s1 : S K B Γ (F.dats (xs.zip ds)) σ H := ⟨G, s.len, s.grow, s.sl, fun p hp => by
    rcases List.mem_append.mp hp with z | z
    · obtain ⟨k, hk, ek⟩ := List.getElem_of_mem z
      have hk' : k < xs.length := by rw [List.length_zip] at hk; omega
      have hk2 : k < ds.length := by rw [List.length_zip] at hk; omega
      obtain ⟨w, hw1, hw2⟩ := hs.get (List.getElem?_eq_getElem hk2)
      rw [List.getElem?_eq_getElem hk'] at hw1
      rw [← ek, List.getElem_zip]
      rw [Option.some.inj hw1]
      exact hw2
    · exact s.tm p z, s.xm, s.apart, s.mine⟩
  exact h.2 _ xs σ H s1 hs.length (fun p hp => by simp [hp]) Q fun σ' H' s' e' => q σ' H' (s'.drop fun p hp => by simp [hp]) e'⟩

theorem nx_seq (h : Nx K B (t { D with nx := u D }) Γ F) : Nx K B (tSeq t u D) Γ F := h
theorem nx_next (h : Nx K B D.nx Γ F) : Nx K B (tNext D) Γ F := h
theorem nx_asgG (h : Ev K B te Γ P) (k : ∀ d, P d → ∃ Γ' vs, Tg K B g d Γ Γ' vs ∧ Nx K B D.nx Γ' F) : Nx K B (tAsg te g D) Γ F := fun σ H s =>
  h F σ H s _ fun v d H' p s' => by
    obtain ⟨Γ', vs, ht, hn⟩ := k d p
    exact ht.2 _ v σ H' s' (by simp) _ fun σ2 H2 s2 _ => hn σ2 H2 s2.pop
theorem nx_asgP (h : Ev K B te Γ P) (k : ∀ d, P d → Nx K B D.nx (Γ.set i (.dat d)) F) (hi : Nat.blt i Γ.length = true := by rfl) : Nx K B (tAsg te (gName i) D) Γ F := nx_asgG h fun d p => ⟨_, _, tg_name hi, k d p⟩
theorem nx_asg (h : EvD K B te Γ d) (k : Nx K B D.nx (Γ.set i (.dat d)) F) (hi : Nat.blt i Γ.length = true := by rfl) : Nx K B (tAsg te (gName i) D) Γ F := nx_asgP h (fun x e => by rw [e]; exact k) hi
theorem nx_asgT (h : EvD K B te Γ d) (ht : Tg K B g d Γ Γ' vs) (k : Nx K B D.nx Γ' F) : Nx K B (tAsg te g D) Γ F := nx_asgG h fun x e => by rw [e]; exact ⟨_, _, ht, k⟩
/-- x = a new own list -/
theorem nx_asgN {Ps : List DD → Prop} (h : EvN K B te Γ Ps) (k : ∀ p ds, Ps ds → p ∉ B.L → Nx K B D.nx (Γ.set i (.own (lstR p ds))) F) (hi : Nat.blt i Γ.length = true := by rfl) : Nx K B (tAsg te (gName i) D) Γ F := fun σ H s =>
  h F σ H s _ fun p ds H' hp hl ⟨G, s'⟩ => k p ds hp hl _ _ ⟨G, s'.setOwn (of_blt hi)⟩
theorem nx_asgO {ds : List DD} (h : EvND K B te Γ ds) (k : ∀ p, p ∉ B.L → Nx K B D.nx (Γ.set i (.own (lstR p ds))) F) (hi : Nat.blt i Γ.length = true := by rfl) : Nx K B (tAsg te (gName i) D) Γ F := nx_asgN h (fun p es e hl => by rw [e]; exact k p hl) hi
theorem nx_ret (h : Ev K B te Γ P) (k : ∀ v d σ H', P d → S K B Γ (F.dat v d) σ H' → D.rt v H') : Nx K B (tRet te D) Γ F := fun σ H s =>
  h F σ H s _ fun v d H' p s' => k v d σ H' p s'
theorem nx_drop (h : Ev K B te Γ P) (k : Nx K B D.nx Γ F) : Nx K B (tDrop te D) Γ F := fun σ H s => h F σ H s _ fun v d H' _ s' => k σ H' s'.pop
theorem nx_if {b : Bool} (h : EvT K B tt Γ b) (h1 : b = true → Nx K B (t D) Γ F) (h2 : b = false → Nx K B (u D) Γ F) : Nx K B (tIfS tt t u D) Γ F := fun σ H s =>
  h F σ H s _ fun H' s' => by
    cases b with
    | true => exact h1 rfl σ H' s'
    | false => exact h2 rfl σ H' s'
theorem nx_aug {f : Int → Int → Int} {a b : Int} (hx : Γ[i]? = some (.dat (.int a))) (h : EvD K B te Γ (.int b)) (k : Nx K B D.nx (Γ.set i (.dat (.int (f a b)))) F) : Nx K B (tAug i te (ipI f) D) Γ F := fun σ H s => by
  have hi : i < Γ.length := (List.getElem?_eq_some_iff.mp hx).1
  obtain ⟨G, s0⟩ := id s
  obtain ⟨v, hv, hd⟩ := s0.dat hx
  rw [hd.int_inv] at hv
  refine ⟨.int a, hv, ?_⟩
  refine h F σ H s _ fun w d' H' e s' => ?_
  subst e
  obtain ⟨G', s1⟩ := id s'
  refine ⟨a, b, rfl, (s1.tm (w, .int b) (by simp)).int_inv, ?_⟩
  have s2 : S K B Γ (F.dat (.int (f a b)) (.int (f a b))) σ H' := s'.pop.c fun _ => .int _
  obtain ⟨G2, s2⟩ := s2
  exact k _ _ (S.pop ⟨G2, s2.setDat hi (by simp)⟩)
/-- an own list grows -/
theorem nx_append {p : Addr} {ds : List DD} (hx : Γ[i]? = some (.own (lstR p ds))) (h : Ev K B te Γ P) (hz : ds.length < 100000) (k : ∀ d, P d → Nx K B D.nx (Γ.set i (.own (lstR p (ds ++ [d])))) F) :
    Nx K B (tDrop (tBM K "list" rAppend (tVar i) (tCons te tNil)) D) Γ F := fun σ H s => by
  obtain ⟨G, s0⟩ := id s
  obtain ⟨v, hv, rfl, xs, hp, hd⟩ := s0.own hx
  refine ⟨.ref p, hv, .inl ⟨rfl, xs, SqL.of hp⟩, ?_⟩
  refine h F σ H s _ fun w d' H' e s' => ?_
  obtain ⟨G', s1⟩ := s'
  obtain ⟨v2, hv2, rfl, ys, hp2, hd2⟩ := s1.own hx
  refine ⟨p, ys, w, rfl, rfl, hp2, sz_lt (by rw [hd2.length]; exact hz), ?_⟩
  have hm : p ∈ ownAt Γ (F.dat w d') i := by rw [ownAt_slot hx]; simp [Sl.as, lstR]
  have hg : G' p = none := (s1.mine i p hm).1
  have s2 := s1.updOwn (r' := lstR p (ds ++ [d'])) (T' := F.T) hx (Grow.put (o := .lst (ys ++ [w])) s1.ex hg (by simp [lstR])) rfl hv2 ⟨rfl, _, upd_same, hd2.append (.cons (s1.tm (w, d') (by simp)) .nil)⟩ fun q hq => s1.tm q (by simp [hq])
  exact k d' e _ _ ⟨G', s2⟩
/-- an own list's item is stored -/
theorem nx_setO {p : Addr} {ds : List DD} {j : Int} {n : Nat} {ti : TE} (hx : Γ[i]? = some (.own (lstR p ds))) (h : EvD K B te Γ d) (hi : EvD K B ti Γ (.int j)) (hn : ixN ds.length j = some n) (k : Nx K B D.nx (Γ.set i (.own (lstR p (ds.set n d)))) F) :
    Nx K B (tAsg te (gSub (tVar i) ti rSetL) D) Γ F := fun σ H s => by
  refine h F σ H s _ fun w d' H' e s' => ?_
  subst e
  obtain ⟨G', s1⟩ := id s'
  obtain ⟨v2, hv2, rfl, ys, hp2, hd2⟩ := s1.own hx
  refine ⟨.ref p, hv2, ?_⟩
  refine hi _ σ H' s' _ fun w2 d2 H2 e2 s2 => ?_
  subst e2
  obtain ⟨G2, s2⟩ := s2
  obtain ⟨v3, hv3, rfl, zs, hp3, hd3⟩ := s2.own hx
  refine ⟨p, zs, j, n, rfl, (s2.tm (w2, .int j) (by simp)).int_inv, hp3, by rw [hd3.length]; exact hn, ?_⟩
  have hm : p ∈ ownAt Γ (Fra.dat (F.dat w d') w2 (.int j)) i := by rw [ownAt_slot hx]; simp [Sl.as, lstR]
  have hg : G2 p = none := (s2.mine i p hm).1
  have s3 := s2.updOwn (r' := lstR p (ds.set n d')) (T' := F.T) hx (Grow.put (o := .lst (zs.set n w)) s2.ex hg (by simp [lstR])) rfl hv3 ⟨rfl, _, upd_same, hd3.set (s2.tm (w, d') (by simp)) n⟩ fun q hq => s2.tm q (by simp [hq])
  exact k _ _ ⟨G2, s3⟩
/-- an own list becomes data -/
theorem nx_freeze {n : St → Hp → Prop} {p : Addr} {ds : List DD} (i : Nat) (hx : Γ[i]? = some (.own (lstR p ds))) (hl : p ∉ B.L) (k : Nx K B n (Γ.set i (.dat (.list ds))) F) : Nx K B n Γ F := fun σ H ⟨G, s⟩ => k σ H (s.freeze hx hl)
theorem nx_forget {n : St → Hp → Prop} (i : Nat) (k : Nx K B n (Γ.set i .no) F) : Nx K B n Γ F := fun σ H ⟨G, s⟩ => k σ H ⟨G, s.forget⟩
theorem nx_to {n : St → Hp → Prop} (e : Γ = Γ') (k : Nx K B n Γ' F) : Nx K B n Γ F := e ▸ k
theorem nx_dropT {n : St → Hp → Prop} {T' : List (V × DD)} (h : ∀ p ∈ T', p ∈ F.T) (k : Nx K B n Γ ⟨T', F.X⟩) : Nx K B n Γ F := fun σ H s => k σ H (s.drop h)

variable (K B) in
/-- the iterator J gives the data ds, while the data T0 stand -/
def Goes (J : It) (T0 : List (V × DD)) (ds : List DD) : Prop := ∀ Γ F σ H, S K B Γ F σ H → (∀ p ∈ T0, p ∈ F.T) → ∀ i, (∀ d, ds[i]? = some d → J.go i H ∧ ∀ x H', J.yld i H x H' → S K B Γ (F.dat x d) σ H') ∧ (i = ds.length → J.stop i H)
variable (K B) in
def EvI (wi : TI) (Γ : List Sl) (ds : List DD) : Prop := ∀ F σ H, S K B Γ F σ H → ∀ R : It → Hp → Prop, (∀ J T0 H', Goes K B J T0 ds → S K B Γ (F.dats T0) σ H' → R J H') → wi σ H R
theorem ei_list {tl : TE} {ds : List DD} (h : EvD K B tl Γ (.list ds)) : EvI K B (iList K tl) Γ ds := fun F σ H s R q =>
  h F σ H s _ fun v d H' e s' => by
    subst e
    obtain ⟨G, s1⟩ := id s'
    obtain ⟨a, xs, rfl, ha, hs⟩ := (s1.tm (v, .list ds) (by simp)).lst_inv
    refine ⟨a, rfl, ⟨xs, SqL.of (s1.ex _ _ ha)⟩, q _ [(.ref a, .list ds)] H' (fun Γ2 F2 σ2 H2 s2 hT i => ?_) s'⟩
    obtain ⟨G2, s3⟩ := id s2
    obtain ⟨a2, xs2, e2, ha2, hs2⟩ := (s3.tm (.ref a, .list ds) (hT _ (by simp))).lst_inv
    cases e2
    have sq : SqL K H2 a xs2 := SqL.of (s3.ex _ _ ha2)
    refine ⟨fun d hd => ?_, fun e => ⟨xs2, sq, by rw [hs2.length, e]; exact Nat.le_refl _⟩⟩
    obtain ⟨w, hw, hdw⟩ := hs2.get hd
    refine ⟨⟨xs2, w, sq, hw⟩, fun x H3 hy => ?_⟩
    obtain ⟨rfl, hy⟩ := hy
    have := hy xs2 sq
    rw [hw] at this
    cases this
    exact S.grown s3 (Grow.refl s3.ex) hdw
theorem ei_tup {tl : TE} {ds : List DD} (h : EvD K B tl Γ (.tuple ds)) : EvI K B (iTup K tl) Γ ds := fun F σ H s R q =>
  h F σ H s _ fun v d H' e s' => by
    subst e
    obtain ⟨G, s1⟩ := id s'
    obtain ⟨a, xs, rfl, ha, hs⟩ := (s1.tm (v, .tuple ds) (by simp)).tup_inv
    refine ⟨a, rfl, ⟨xs, ex_t s1.ex ha⟩, q _ [(.ref a, .tuple ds)] H' (fun Γ2 F2 σ2 H2 s2 hT i => ?_) s'⟩
    obtain ⟨G2, s3⟩ := id s2
    obtain ⟨a2, xs2, e2, ha2, hs2⟩ := (s3.tm (.ref a, .tuple ds) (hT _ (by simp))).tup_inv
    cases e2
    have sq : SqT K H2 a xs2 := ex_t s3.ex ha2
    refine ⟨fun d hd => ?_, fun e => ⟨xs2, sq, by rw [hs2.length, e]; exact Nat.le_refl _⟩⟩
    obtain ⟨w, hw, hdw⟩ := hs2.get hd
    refine ⟨⟨xs2, w, sq, hw⟩, fun x H3 hy => ?_⟩
    obtain ⟨rfl, hy⟩ := hy
    have := hy xs2 sq
    rw [hw] at this
    cases this
    exact S.grown s3 (Grow.refl s3.ex) hdw
/-- the ints lo, lo + 1, .. -/
def intsF (lo : Int) (n : Nat) : List Int := (List.range n).map fun (i : Nat) => lo + (i : Int)
theorem ints_get {lo : Int} {n i : Nat} (h : i < n) : (intsF lo n)[i]? = some (lo + i) := by
  unfold intsF
  rw [List.getElem?_map, List.getElem?_range h]; rfl
theorem ints_len {lo : Int} {n : Nat} : (intsF lo n).length = n := by simp [intsF]
theorem goes_range {lo : Int} {n : Nat} : Goes K B (Itr lo n) [] ((intsF lo n).map .int) := fun Γ F σ H s _ i => by
  refine ⟨fun d hd => ?_, fun e => by simp [ints_len] at e; show n ≤ i; omega⟩
  rw [List.getElem?_map] at hd
  by_cases hi : i < n
  · rw [ints_get hi] at hd
    cases hd
    refine ⟨hi, fun x H' hy => ?_⟩
    obtain ⟨rfl, rfl⟩ := hy
    exact s.c fun _ => .int _
  · rw [List.getElem?_eq_none (by rw [ints_len]; omega)] at hd
    cases hd
theorem ei_range1 {n : Int} {ta : TA} (h : EvAD K B ta Γ [.int n]) (hn : -(2 ^ 62) ≤ n ∧ n < 2 ^ 62) : EvI K B (iRng1 ta) Γ ((intsF 0 n.toNat).map .int) := fun F σ H s R q =>
  h F σ H s _ fun vs ds H' e l s' => by
    subst e
    obtain ⟨G, s1⟩ := id s'
    obtain ⟨v, rfl, hv⟩ := daL1 (daL_zip l fun p hp => s1.tm p (by simp [hp]))
    exact ⟨n, by rw [hv.int_inv], hn.1, hn.2, q _ [] H' goes_range (s'.drop fun p hp => by simp at hp; simp [hp])⟩
theorem ei_range2 {lo n : Int} {ta : TA} (h : EvAD K B ta Γ [.int lo, .int n]) (hn : -(2 ^ 62) ≤ lo ∧ lo < 2 ^ 62 ∧ -(2 ^ 62) ≤ n ∧ n < 2 ^ 62) : EvI K B (iRng2 ta) Γ ((intsF lo (n - lo).toNat).map .int) := fun F σ H s R q =>
  h F σ H s _ fun vs ds H' e l s' => by
    subst e
    obtain ⟨G, s1⟩ := id s'
    obtain ⟨v, u, rfl, hv, hu⟩ := daL2 (daL_zip l fun p hp => s1.tm p (by simp [hp]))
    exact ⟨lo, n, by rw [hv.int_inv, hu.int_inv], hn, q _ [] H' goes_range (s'.drop fun p hp => by simp at hp; simp [hp])⟩
/-- for: W by the turn -/
theorem nx_for {wi : TI} {ds : List DD} (hi : EvI K B wi Γ ds) (W : Nat → List Sl → Prop) (h0 : W 0 Γ)
    (hs : ∀ (i : Nat) d Γ1 F', ds[i]? = some d → W i Γ1 → ∃ Γ2 vs, Tg K B g d Γ1 Γ2 vs ∧ Nx K B (t { D with nx := fun σ H => ∃ Γ3, W (i + 1) Γ3 ∧ S K B Γ3 F' σ H, ct := fun σ H => ∃ Γ3, W (i + 1) Γ3 ∧ S K B Γ3 F' σ H, bk := D.nx }) Γ2 F')
    (hd : ∀ Γ1, W ds.length Γ1 → Nx K B D.nx Γ1 F) : Nx K B (tFor wi g t D) Γ F := fun σ H s =>
  hi F σ H s _ fun J T0 H' hJ s' => by
    refine ⟨fun i m σ H => m = ds.length - i ∧ i ≤ ds.length ∧ ∃ Γ1, W i Γ1 ∧ S K B Γ1 (F.dats T0) σ H, ⟨ds.length, by simp, Nat.zero_le _, Γ, h0, s'⟩, ?_⟩
    rintro i m σ H ⟨rfl, hle, Γ1, hW, s1⟩
    obtain ⟨j1, j2⟩ := hJ Γ1 _ σ H s1 (fun p hp => by simp [hp]) i
    by_cases hlt : i < ds.length
    · obtain ⟨go, y⟩ := j1 _ (List.getElem?_eq_getElem hlt)
      refine .inr ⟨go, fun σ' H' => ∃ Γ3, W (i + 1) Γ3 ∧ S K B Γ3 (F.dats T0) σ' H', fun σ' H' h' => ⟨ds.length - (i + 1), by omega, rfl, hlt, h'⟩, fun x H2 hy => ?_⟩
      obtain ⟨Γ2, vs, ht, hn⟩ := hs i _ Γ1 (F.dats T0) (List.getElem?_eq_getElem hlt) hW
      exact ht.2 _ x σ H2 (y x H2 hy) (by simp) _ fun σ2 H3 s3 _ => hn σ2 H3 s3.pop
    · have e : i = ds.length := by omega
      exact .inl ⟨j2 e, hd Γ1 (e ▸ hW) σ H (s1.drop fun p hp => by simp [hp])⟩
/-- while -/
theorem nx_while (W : Nat → List Sl → Prop) (m : Nat) (h0 : W m Γ)
    (hs : ∀ m Γ1, W m Γ1 → ∃ b, EvT K B tt Γ1 b ∧ (b = true → Nx K B (t { D with nx := fun σ H => ∃ m' Γ3, m' < m ∧ W m' Γ3 ∧ S K B Γ3 F σ H, ct := fun σ H => ∃ m' Γ3, m' < m ∧ W m' Γ3 ∧ S K B Γ3 F σ H, bk := D.nx }) Γ1 F) ∧ (b = false → Nx K B D.nx Γ1 F)) :
    Nx K B (tWhile tt t D) Γ F := fun σ H s => by
  refine ⟨fun m σ H => ∃ Γ1, W m Γ1 ∧ S K B Γ1 F σ H, ⟨m, Γ, h0, s⟩, ?_⟩
  rintro m σ H ⟨Γ1, hW, s1⟩
  obtain ⟨b, hb, h1, h2⟩ := hs m Γ1 hW
  refine hb F σ H s1 _ fun H' s' => ?_
  cases b with
  | true => exact ⟨_, fun σ' H' ⟨m', Γ3, l, w3, s3⟩ => ⟨m', l, Γ3, w3, s3⟩, h1 rfl σ H' s'⟩
  | false => exact h2 rfl σ H' s'
def AllNo (Γ : List Sl) : List Nat → Prop
  | [] => True
  | v :: vs => Γ[v]? = some .no ∧ AllNo Γ vs
theorem AllNo.at : ∀ {vs : List Nat} {i : Nat}, AllNo Γ vs → i ∈ vs → Γ[i]? = some .no
  | [], _, _, h => nomatch h
  | v :: vs, i, ⟨h1, h2⟩, h => by
    rcases List.mem_cons.mp h with e | e
    · rw [e]; exact h1
    · exact h2.at e
theorem wipe_at {σ : St} {i : Nat} : ∀ {vs : List Nat}, (L2.wipe σ vs)[i]? = if i ∈ vs then (if i < σ.length then some none else none) else σ[i]?
  | [] => by simp [L2.wipe]
  | v :: vs => by
    unfold L2.wipe
    by_cases hv : v = i
    · subst hv
      simp only [List.mem_cons, true_or, if_true]
      by_cases hl : v < σ.length
      · rw [List.getElem?_set_self (by rw [wipe_length]; exact hl), if_pos hl]
      · rw [List.getElem?_eq_none (by rw [List.length_set, wipe_length]; omega), if_neg hl]
    · rw [List.getElem?_set_ne hv, wipe_at]
      have : (i ∈ v :: vs) ↔ i ∈ vs := by simp [Ne.symm hv]
      simp only [this]
theorem wipe_same {σ σ' : St} {vs : List Nat} (hl : σ'.length = σ.length) (h : ∀ i, i ∉ vs → σ'[i]? = (L2.wipe σ vs)[i]?) : L2.wipe σ' vs = L2.wipe σ vs := by
  apply List.ext_getElem?
  intro i
  rw [wipe_at, wipe_at]
  by_cases hi : i ∈ vs
  · rw [if_pos hi, if_pos hi, hl]
  · rw [if_neg hi, if_neg hi, h i hi, wipe_at, if_neg hi]
/-- slots that nothing is known of may hold anything -/
theorem S0.turn {σ σ' : St} {H G : Hp} (h : S0 K B Γ F σ H G) (hl : Γ'.length = Γ.length) (hσ : σ'.length = Γ.length) (us : List Nat) (h1 : ∀ i : Nat, i ∉ us → Γ'[i]? = Γ[i]? ∧ σ'[i]? = σ[i]?) (h2 : AllNo Γ' us) : S0 K B Γ' F σ' H G := by
  have own : ∀ j a, a ∈ ownAt Γ' F j → a ∈ ownAt Γ F j := fun j a ha => by
    unfold ownAt at ha ⊢
    rw [hl] at ha
    split at ha
    · rename_i hj
      rw [if_pos hj]
      by_cases hu : j ∈ us
      · rw [h2.at hu] at ha
        exact nomatch ha
      · rw [(h1 j hu).1] at ha; exact ha
    · rename_i hj
      rw [if_neg hj]; exact ha
  refine ⟨by rw [hσ, hl], h.grow, fun i s e => ?_, h.tm, h.xm, fun i j a x y => h.apart i j a (own i a x) (own j a y), fun i a x => h.mine i a (own i a x)⟩
  by_cases hu : i ∈ us
  · rw [h2.at hu] at e; cases e; trivial
  · obtain ⟨e1, e2⟩ := h1 i hu
    rw [e1] at e; rw [e2]; exact h.sl i s e
/-- a comprehension: Wl by the turn, the list so far -/
theorem en_lc {wi : TI} {ds : List DD} {tt : TT} {us : List Nat} (hi : EvI K B wi Γ ds) (hno : AllNo Γ us) (Wl : Nat → List DD → Prop) (h0 : Wl 0 []) (hsz : ∀ i l, Wl i l → l.length < 100000)
    (hs : ∀ (i : Nat) d l, ds[i]? = some d → Wl i l → ∃ Γ2 vs b P, Tg K B g d Γ Γ2 vs ∧ (∀ v ∈ vs, v ∈ us) ∧ EvT K B tt Γ2 b ∧ (b = true → Ev K B te Γ2 P) ∧ (b = true → ∀ x, P x → Wl (i + 1) (l ++ [x])) ∧ (b = false → Wl (i + 1) l)) :
    EvN K B (tLc wi g tt te us) Γ (Wl ds.length) := fun F σ H s Q q =>
  hi F σ H s _ fun J T0 H1 hJ s1 Dl hD => by
    have hDl : Dl ∉ B.L := by obtain ⟨G1, z⟩ := id s1; exact z.notLent hD
    have hlen : σ.length = Γ.length := by obtain ⟨G1, z⟩ := id s1; exact z.len
    let F0 : Fra := F.dats T0
    refine ⟨fun i m H => m = ds.length - i ∧ i ≤ ds.length ∧ ∃ l, Wl i l ∧ S K B Γ (F0.res1 (.ref Dl) (lstR Dl l)) σ H, ⟨ds.length, by simp, Nat.zero_le _, [], h0, ?_⟩, ?_⟩
    · obtain ⟨G1, z⟩ := id s1
      exact ⟨G1, z.newLst hD .nil⟩
    rintro i m H2 ⟨rfl, hle, l, hW, s2⟩
    obtain ⟨j1, j2⟩ := hJ Γ _ σ H2 s2 (fun p hp => by simp [F0, hp]) i
    by_cases hlt : i < ds.length
    · obtain ⟨go, y⟩ := j1 _ (List.getElem?_eq_getElem hlt)
      refine .inr ⟨go, fun H' => ∃ l', Wl (i + 1) l' ∧ S K B Γ (F0.res1 (.ref Dl) (lstR Dl l')) σ H', fun H' ⟨l', w', s'⟩ => ⟨ds.length - (i + 1), by omega, rfl, hlt, l', w', s'⟩, fun x H3 hy => ?_⟩
      obtain ⟨Γ2, vs, b, P, ht, hv, htt, hte, hw1, hw2⟩ := hs i _ l (List.getElem?_eq_getElem hlt) hW
      have sx : S K B Γ (Fra.dat (F0.res1 (.ref Dl) (lstR Dl l)) x ds[i]) (L2.wipe σ us) H3 := by
        obtain ⟨G3, z⟩ := y x H3 hy
        exact ⟨G3, z.turn rfl (by rw [wipe_length, hlen]) us (fun k hk => ⟨rfl, by rw [wipe_at, if_neg hk]⟩) hno⟩
      have back : ∀ {F' : Fra} {σ2 : St} {H' G' : Hp}, (∀ k, k ∉ vs → σ2[k]? = (L2.wipe σ us)[k]?) → S0 K B Γ2 F' σ2 H' G' → S0 K B Γ F' σ H' G' := fun e z =>
        z.turn ht.1.1.symm (by rw [hlen, ht.1.1]) us (fun k hk => ⟨(ht.1.2 k fun w => hk (hv k w)).symm, by rw [e k (fun w => hk (hv k w)), wipe_at, if_neg hk]⟩) hno
      refine ht.2 _ x (L2.wipe σ us) H3 sx (by simp) _ fun σ2 H4 s4 e4 => ⟨wipe_same ?_ fun k hk => e4 k fun z => hk (hv k z), ?_⟩
      · obtain ⟨G4, z4⟩ := id s4
        rw [z4.len, ht.1.1, hlen]
      · refine htt _ σ2 H4 s4 _ fun H5 s5 => ?_
        cases b with
        | false =>
          obtain ⟨G5, z5⟩ := s5
          exact ⟨l, hw2 rfl, G5, (back e4 z5).drop fun p hp => by simp [hp]⟩
        | true =>
          show te σ2 H5 _
          refine hte rfl _ σ2 H5 s5 _ fun yv yd H6 py s6 => ?_
          obtain ⟨G6, z6⟩ := s6
          have z7 := back e4 z6
          have z8 : S0 K B Γ (Fra.res1 ⟨(yv, yd) :: F0.T, F0.X⟩ (.ref Dl) (lstR Dl l)) σ H6 G6 := z7.drop fun p hp => by
            simp at hp ⊢
            rcases hp with e | e
            · simp [e]
            · simp [e]
          obtain ⟨_, xs, hp, hd⟩ := z8.xm (.ref Dl, lstR Dl l) (by simp)
          refine ⟨xs, hp, sz_lt (by rw [hd.length]; exact hsz i l hW), l ++ [yd], hw1 rfl yd py, G6, ?_⟩
          have hm : Dl ∈ ownAt Γ (Fra.res1 ⟨(yv, yd) :: F0.T, F0.X⟩ (.ref Dl) (lstR Dl l)) (Γ.length + F0.X.length) := by rw [ownAt_res, if_pos rfl]; simp [lstR]
          exact z8.updX (r' := lstR Dl (l ++ [yd])) (T' := F0.T) (Grow.put z8.ex (z8.mine _ Dl hm).1 (by simp [lstR])) rfl ⟨rfl, _, upd_same, hd.append (.cons (z8.tm (yv, yd) (by simp)) .nil)⟩ fun p hp => z8.tm p (by simp [hp])
    · have e : i = ds.length := by omega
      obtain ⟨G2, z2⟩ := s2
      exact .inl ⟨j2 e, q Dl l H2 (e ▸ hW) hDl ⟨G2, z2.drop fun p hp => by simp [F0, hp]⟩⟩
/-- [e(x) for x in ds]: a map -/
theorem en_map {wi : TI} {ds : List DD} {us : List Nat} (e : DD → DD) (hi : EvI K B wi Γ ds) (hno : AllNo Γ us) (hl : ds.length < 100000)
    (hs : ∀ (i : Nat) d, ds[i]? = some d → ∃ Γ2 vs, Tg K B g d Γ Γ2 vs ∧ (∀ v ∈ vs, v ∈ us) ∧ EvD K B te Γ2 (e d)) : EvND K B (tLc wi g tYes te us) Γ (ds.map e) := fun F σ H s Q q =>
  en_lc (us := us) hi hno (fun i l => i ≤ ds.length ∧ l = (ds.take i).map e) ⟨Nat.zero_le _, rfl⟩ (fun i l ⟨h1, h2⟩ => by rw [h2, List.length_map, List.length_take]; omega) (fun i d l hd ⟨h1, h2⟩ => by
    obtain ⟨Γ2, vs, ht, hv, he⟩ := hs i d hd
    have hlt : i < ds.length := (List.getElem?_eq_some_iff.mp hd).1
    refine ⟨Γ2, vs, true, _, ht, hv, fun F σ H s Q q => q H s, fun _ => he, fun _ x hx => ⟨hlt, ?_⟩, fun z => by cases z⟩
    rw [h2, hx, List.take_add_one, hd, List.map_append]; rfl) F σ H s Q fun p l H' ⟨_, hl⟩ => q p l H' (by rw [hl, List.take_length])
/-- [e(x) for x in ds if f(x)] -/
theorem en_filter {wi : TI} {ds : List DD} {tt : TT} {us : List Nat} (f : DD → Bool) (e : DD → DD) (hi : EvI K B wi Γ ds) (hno : AllNo Γ us) (hl : ds.length < 100000)
    (hs : ∀ (i : Nat) d, ds[i]? = some d → ∃ Γ2 vs, Tg K B g d Γ Γ2 vs ∧ (∀ v ∈ vs, v ∈ us) ∧ EvT K B tt Γ2 (f d) ∧ (f d = true → EvD K B te Γ2 (e d))) : EvND K B (tLc wi g tt te us) Γ ((ds.filter f).map e) := fun F σ H s Q q =>
  en_lc (us := us) hi hno (fun i l => i ≤ ds.length ∧ l = ((ds.take i).filter f).map e) ⟨Nat.zero_le _, rfl⟩ (fun i l ⟨h1, h2⟩ => by
      rw [h2, List.length_map]
      have := List.length_filter_le f (ds.take i)
      rw [List.length_take] at this
      omega) (fun i d l hd ⟨h1, h2⟩ => by
    obtain ⟨Γ2, vs, ht, hv, ht2, he⟩ := hs i d hd
    have hlt : i < ds.length := (List.getElem?_eq_some_iff.mp hd).1
    have et : ds.take (i + 1) = ds.take i ++ [d] := by rw [List.take_add_one, hd]; rfl
    refine ⟨Γ2, vs, f d, _, ht, hv, ht2, he, fun hf x hx => ⟨hlt, ?_⟩, fun hf => ⟨hlt, ?_⟩⟩
    · rw [h2, hx, et, List.filter_append, List.map_append, List.filter_cons, if_pos hf]; rfl
    · rw [h2, et, List.filter_append, List.map_append, List.filter_cons, if_neg (by simp [hf])]; simp) F σ H s Q fun p l H' ⟨_, hl⟩ => q p l H' (by rw [hl, List.take_length])
end
/-- the promise of a def on data: f tells what it returns -/
def spD (K : FK) (f : List DD → DD → Prop) : Sp := fun vs H Q _ => ∃ G ds r, DaL K G vs ds ∧ Ex G H ∧ f ds r ∧ ∀ v G' H', Grow [] G H G' H' → Da K G' v r → Q v H'
section
variable {K : FK} {B : Bs} {Γ : List Sl} {F : Fra} {D : Ends} {te : TE}
theorem ev_call {f : List DD → DD → Prop} {E : XK} {ta : TA} {ds : List DD} {r : DD} (h : EvAD K B ta Γ ds) (hf : f ds r) : EvD K B (tCall (spD K f) [] E ta) Γ r := fun F σ H s Q q =>
  h F σ H s _ fun vs es H1 p l s1 => by
    subst p
    obtain ⟨G, s1⟩ := s1
    rw [List.append_nil]
    refine ⟨G, es, r, daL_zip l fun p hp => s1.tm p (by simp [hp]), s1.ex, hf, fun v G' H' g hv => q v r H' rfl ?_⟩
    exact (S.grown (d := r) s1 g hv).drop fun p hp => by
      simp at hp ⊢
      rcases hp with e | e <;> simp [e]
/-- the entry of a def on data -/
abbrev bs0 (G H : Hp) : Bs := ⟨[], G, H, fun _ z => nomatch z⟩
theorem daL_get {G : Hp} : ∀ {vs : List V} {ds : List DD}, DaL K G vs ds → ∀ (i : Nat) (d : DD), ds[i]? = some d → ∃ v, vs[i]? = some v ∧ Da K G v d := fun h i d e => h.get e
/-- the slots at the start -/
def slots0 (ds : List DD) (n : Nat) : List Sl := ds.map .dat ++ List.replicate (n - ds.length) .no
theorem start_S {G H : Hp} {N : List Str} {vs : List V} {ds : List DD} (e : Ex G H) (h : DaL K G vs ds) (hN : ds.length ≤ N.length) : S K (bs0 G H) (slots0 ds N.length) ⟨[], []⟩ (start N vs) H := by
  have hl := h.length
  have own : ∀ j, ownAt (slots0 ds N.length) ⟨[], []⟩ j = [] := fun j => by
    unfold ownAt
    split
    · rename_i hj
      cases q : (slots0 ds N.length)[j]? with
      | none => rfl
      | some s =>
        unfold slots0 at q
        have hm := List.mem_of_getElem? q
        rcases List.mem_append.mp hm with z | z
        · obtain ⟨d, _, rfl⟩ := List.mem_map.mp z; rfl
        · rw [(List.mem_replicate.mp z).2]; rfl
    · rfl
  have hst : (start N vs).length = N.length := by
    unfold L2.start
    rw [List.length_append, List.length_map, List.length_replicate]
    omega
  refine ⟨G, by rw [hst]; simp [slots0]; omega, Grow.refl e, fun i s es => ?_, fun p hp => (nomatch hp), fun p hp => (nomatch hp), fun i j a ha _ => (by rw [own] at ha; cases ha), fun i a ha => (by rw [own] at ha; cases ha)⟩
  unfold slots0 at es
  by_cases hi : i < ds.length
  · rw [List.getElem?_append_left (by simpa using hi), List.getElem?_map, List.getElem?_eq_getElem hi] at es
    cases es
    obtain ⟨v, hv, hd⟩ := h.get (List.getElem?_eq_getElem hi)
    refine ⟨v, ?_, hd⟩
    unfold L2.start
    rw [List.getElem?_append_left (by rw [List.length_map]; omega), List.getElem?_map, hv]; rfl
  · rw [List.getElem?_append_right (by simpa using hi)] at es
    have := List.mem_of_getElem? es
    rw [(List.mem_replicate.mp this).2]
    trivial
end
end Ly

namespace Ly
open PySem PySem.Spec PyProof.Rows L2
section
variable (K : FK) (B : Bs)
def RetD (Q : VK) (r : DD) : Prop := ∀ v Γ F σ H', S K B Γ (Fra.dat F v r) σ H' → Q v H'
end
section
variable {K : FK} {B : Bs} {Γ : List Sl} {F : Fra} {D : Ends} {te : TE} {r : DD} {Q : VK}
theorem nx_retD (h : EvD K B te Γ r) (k : RetD K B D.rt r) : Nx K B (tRet te D) Γ F := nx_ret h fun v d σ H' e s => by subst e; exact k v Γ F σ H' s
theorem nx_retP {P : DD → Prop} (h : Ev K B te Γ P) (k : ∀ d, P d → RetD K B D.rt d) : Nx K B (tRet te D) Γ F := nx_ret h fun v d σ H' e s => k d e v Γ F σ H' s
theorem nx_end (k : RetD K B Q .none) : Nx K B (fun _ H' => Q .non H') Γ F := fun σ H s => k .non Γ F σ H (s.c fun _ => .non)
theorem nx_retN (k : RetD K B D.rt .none) : Nx K B (tRetN D) Γ F := fun σ H s => k .non Γ F σ H (s.c fun _ => .non)
theorem ret0 {G H : Hp} (q : ∀ v G' H', Grow [] G H G' H' → Da K G' v r → Q v H') : RetD K (bs0 G H) Q r := fun v Γ F σ H' ⟨G', s⟩ => q v G' H' s.grow (s.tm (v, r) (by simp))
end
/-- THE RULE for a def on data that raises nothing -/
theorem def_ok {P : Program} {w : World} {K : FK} {mg : Str → Option Value} {base : Heap} {x qual : Str} {st : Stmt} {fa : Addr} {fd : FuncData} {N ps : List Str} {k : Nat} {f : List DD → DD → Prop}
    (F : Fun K x qual st fa fd) (S : FnScope N ps (defScope st)) (hl : ∀ ds r, f ds r → ds.length = ps.length)
    (hb : ∀ (cdv : Value) (A : Around) (outer : List Env) (s : Shared) (H G : Hp) (E : XK) (ds : List DD) (r : DD), Room k (A.deeper (envOfC qual (defScope st) s.heap.objs.size fa cdv)) → f ds r →
      ∃ t, PSs (cxOf CX0 P w K mg base N qual (defScope st) fa cdv A outer s H E).nox (defBody st) t ∧ ∀ Q, RetD K (bs0 G H) Q r → Nx K (bs0 G H) (t { nx := fun _ H' => Q .non H', rt := Q }) (slots0 ds N.length) ⟨[], []⟩) :
    FnOk P w K mg base CX0 (k + 1) fa fd ps (spD K f) := by
  refine F.ok S (fun vs H Q E h => ?_) (fun cdv A outer s H vs Q E hr h => ?_)
  · obtain ⟨G, ds, r, hd, _, hf, _⟩ := h
    rw [hd.length]; exact hl ds r hf
  · obtain ⟨G, ds, r, hd, he, hf, q⟩ := h
    obtain ⟨t, ht, hn⟩ := hb cdv A outer s H G E ds r hr hf
    refine ⟨t, ht, hn Q (ret0 q) _ _ (start_S he hd ?_)⟩
    have h1 : (N.take ps.length).length = ps.length := by rw [S.pre]
    rw [List.length_take] at h1
    rw [hl ds r hf]; omega
/-- the numbers of a script and a counter of draws: a list that holds a list -/
def drwR (p q : Addr) : Res where
  as := [p, q]
  ok := fun K G v H => v = .ref p ∧ p ≠ q ∧ ∃ (ns : List Int) (k : Int), H p = some (.lst [.ref q, .int k]) ∧ H q = some (.lst (ns.map V.int)) ∧ ns ≠ [] ∧ ns.length ≤ 64
  mono := fun _ h => h
  loc := fun e ⟨h1, h2, ns, k, h3, h4, h5⟩ => ⟨h1, h2, ns, k, e p _ (by simp) h3, e q _ (by simp) h4, h5⟩
  dom := fun ⟨_, _, ns, k, h3, h4, _⟩ a ha => by
    simp at ha
    rcases ha with e | e
    · rw [e]; exact ⟨_, h3⟩
    · rw [e]; exact ⟨_, h4⟩
/-- the promise of a def that draws: its first argument the draws -/
def spW (K : FK) (pre : List DD → Prop) (f : List DD → DD → Prop) : Sp := fun vs H Q _ => ∃ G p q us ds, vs = .ref p :: us ∧ (drwR p q).ok K G (.ref p) H ∧ G p = none ∧ G q = none ∧ DaL K G us ds ∧ Ex G H ∧ pre ds ∧
  ∀ v r G' H', f ds r → Grow [p, q] G H G' H' → (drwR p q).ok K G' (.ref p) H' → Da K G' v r → Q v H'
section
variable {K : FK} {B : Bs} {Γ : List Sl} {F : Fra} {D : Ends} {te : TE} {r : DD} {Q : VK} {i : Nat} {p q : Addr}
theorem ev_callW {pre : List DD → Prop} {f : List DD → DD → Prop} {E : XK} {tr : TA} {Ps : List DD → Prop} {P : DD → Prop} (hi : Γ[i]? = some (.own (drwR p q))) (h : EvA K B tr Γ Ps) (hp : ∀ ds, Ps ds → pre ds) (hf : ∀ ds r, Ps ds → f ds r → P r) : Ev K B (tCall (spW K pre f) [] E (tCons (tVar i) tr)) Γ P := fun F σ H s Q k => by
  obtain ⟨G, s0⟩ := id s
  obtain ⟨v, hv, hok⟩ := s0.own hi
  refine ⟨v, hv, ?_⟩
  refine h F σ H s _ fun vs es H1 e l s1 => ?_
  obtain ⟨G1, s1⟩ := s1
  obtain ⟨v1, hv1, hok1⟩ := s1.own hi
  have ev : v = v1 := by rw [hv] at hv1; exact Option.some.inj (Option.some.inj hv1)
  subst ev
  have evp : v = .ref p := hok1.1
  subst evp
  rw [List.append_nil]
  have own : ∀ a ∈ [p, q], a ∈ ownAt Γ (F.dats (vs.zip es)) i := fun a ha => by rw [ownAt_slot hi]; exact ha
  refine ⟨G1, p, q, vs, es, rfl, hok1, (s1.mine i p (own p (by simp))).1, (s1.mine i q (own q (by simp))).1, daL_zip l fun p hp => s1.tm p (by simp [hp]), s1.ex, hp es e, fun v' r G' H' fr g ok' da => k v' r H' (hf es r e fr) ?_⟩
  have hset : Γ.set i (.own (drwR p q)) = Γ := by
    obtain ⟨hlt, hget⟩ := List.getElem?_eq_some_iff.mp hi
    rw [← hget]; exact List.set_getElem_self hlt
  have s2 := s1.updOwn (r' := drwR p q) (T' := (v', r) :: F.T) hi g rfl hv ok' fun p hp => by
    rcases List.mem_cons.mp hp with e | e
    · rw [e]; exact da
    · exact (s1.tm p (by simp [e])).mono g.g
  rw [hset] at s2
  exact ⟨G', s2⟩
/-- the entry of a def that draws -/
theorem bsW_hL {G : Hp} {p q : Addr} {H : Hp} (h : (drwR p q).ok K G (.ref p) H) : ∀ a ∈ [p, q], ∃ o, H a = some o := fun a ha => (drwR p q).dom h a ha
theorem start_W {G H : Hp} {N : List Str} {us : List V} {ds : List DD} (hok : (drwR p q).ok K G (.ref p) H) (gp : G p = none) (gq : G q = none) (e : Ex G H) (h : DaL K G us ds) (hN : ds.length + 1 ≤ N.length) :
    S K ⟨[p, q], G, H, bsW_hL hok⟩ (.own (drwR p q) :: slots0 ds (N.length - 1)) ⟨[], []⟩ (L2.start N (.ref p :: us)) H := by
  have hl := h.length
  have own : ∀ j a, a ∈ ownAt (.own (drwR p q) :: slots0 ds (N.length - 1)) ⟨[], []⟩ j → j = 0 ∧ a ∈ [p, q] := fun j a ha => by
    unfold ownAt at ha
    split at ha
    · rename_i hj
      cases j with
      | zero => exact ⟨rfl, ha⟩
      | succ j =>
        exfalso
        rw [List.getElem?_cons_succ] at ha
        cases z : (slots0 ds (N.length - 1))[j]? with
        | none => rw [z] at ha; cases ha
        | some s =>
          rw [z] at ha
          unfold slots0 at z
          have hm := List.mem_of_getElem? z
          rcases List.mem_append.mp hm with y | y
          · obtain ⟨d, _, rfl⟩ := List.mem_map.mp y; cases ha
          · rw [(List.mem_replicate.mp y).2] at ha; cases ha
    · cases ha
  have hst : (L2.start N (.ref p :: us)).length = N.length := by
    unfold L2.start
    rw [List.length_append, List.length_map, List.length_replicate, List.length_cons]
    omega
  refine ⟨G, by rw [hst]; simp [slots0]; omega, Grow.refl e, fun i s es => ?_, fun p hp => (by cases hp), fun p hp => (by cases hp), fun i j a ha hb => by rw [(own i a ha).1, (own j a hb).1], fun i a ha => ?_⟩
  · cases i with
    | zero =>
      cases es
      exact ⟨.ref p, by simp [L2.start], hok⟩
    | succ i =>
      rw [List.getElem?_cons_succ] at es
      have e2 : (L2.start N (.ref p :: us))[i + 1]? = (us.map some ++ List.replicate (N.length - (us.length + 1)) none)[i]? := by
        unfold L2.start
        rw [List.map_cons, List.cons_append, List.getElem?_cons_succ]; rfl
      rw [e2]
      unfold slots0 at es
      by_cases hi : i < ds.length
      · rw [List.getElem?_append_left (by simpa using hi), List.getElem?_map, List.getElem?_eq_getElem hi] at es
        cases es
        obtain ⟨v, hv, hd⟩ := h.get (List.getElem?_eq_getElem hi)
        refine ⟨v, ?_, hd⟩
        rw [List.getElem?_append_left (by rw [List.length_map]; omega), List.getElem?_map, hv]; rfl
      · rw [List.getElem?_append_right (by simpa using hi)] at es
        have := List.mem_of_getElem? es
        rw [(List.mem_replicate.mp this).2]
        trivial
  · have := (own i a ha).2
    simp at this
    rcases this with e | e
    · rw [e]; exact ⟨gp, .inl (by simp)⟩
    · rw [e]; exact ⟨gq, .inl (by simp)⟩
end
/-- THE RULE for a def that draws: whatever it returns keeps f -/
theorem def_okW {P : Program} {w : World} {K : FK} {mg : Str → Option Value} {base : Heap} {x qual : Str} {st : Stmt} {fa : Addr} {fd : FuncData} {N ps : List Str} {k : Nat} {pre : List DD → Prop} {f : List DD → DD → Prop}
    (F : Fun K x qual st fa fd) (S0' : FnScope N ps (defScope st)) (hl : ∀ ds, pre ds → ds.length + 1 = ps.length)
    (hb : ∀ (cdv : Value) (A : Around) (outer : List Env) (s : Shared) (H : Hp) (E : XK) (B : Bs) (p q : Addr) (ds : List DD), Room k (A.deeper (envOfC qual (defScope st) s.heap.objs.size fa cdv)) → pre ds →
      ∃ t, PSs (cxOf CX0 P w K mg base N qual (defScope st) fa cdv A outer s H E).nox (defBody st) t ∧ ∀ Q, (∀ v r Γ F σ H', f ds r → S K B (.own (drwR p q) :: Γ) (Fra.dat F v r) σ H' → Q v H') → Nx K B (t { nx := fun _ H' => Q .non H', rt := Q }) (.own (drwR p q) :: slots0 ds (N.length - 1)) ⟨[], []⟩) :
    FnOk P w K mg base CX0 (k + 1) fa fd ps (spW K pre f) := by
  refine F.ok S0' (fun vs H Q E h => ?_) (fun cdv A outer s H vs Q E hr h => ?_)
  · obtain ⟨G, p, q, us, ds, rfl, _, _, _, hd, _, hp, _⟩ := h
    rw [List.length_cons, hd.length]; exact hl ds hp
  · obtain ⟨G, p, q, us, ds, rfl, hok, gp, gq, hd, he, hp, k⟩ := h
    obtain ⟨t, ht, hn⟩ := hb cdv A outer s H E ⟨[p, q], G, H, bsW_hL hok⟩ p q ds hr hp
    refine ⟨t, ht, hn Q (fun v r Γ F σ H' fr ⟨G', z⟩ => ?_) _ _ (start_W hok gp gq he hd ?_)⟩
    · obtain ⟨v0, _, ok0⟩ := z.own (i := 0) rfl
      have : v0 = .ref p := ok0.1
      subst this
      exact k v r G' H' fr z.grow ok0 (z.tm (v, r) (by simp))
    · have h1 : (N.take ps.length).length = ps.length := by rw [S0'.pre]
      rw [List.length_take] at h1
      have := hl ds hp
      omega
def spStart (K : FK) : Sp := fun vs H Q _ => ∃ (a : Addr) (ns : List Int), vs = [.ref a] ∧ SqL K H a (ns.map V.int) ∧ ns.length ≤ 63 ∧ ∀ p q H', (drwR p q).ok K (fun _ => none) (.ref p) H' → Q (.ref p) H'
abbrev noG : Hp := fun _ => none
theorem law_start {K : FK} {E : XK} {tz : TS} {D : Ends} {N : List Str} {a : Addr} {ns : List Int} {H : Hp} (hN : 2 ≤ N.length) (hS : SqL K H a (ns.map V.int)) (hl : ns.length ≤ 63)
    (h : ∀ B p q, Nx K B (tz D) (.no :: .own (drwR p q) :: List.replicate (N.length - 2) .no) ⟨[], []⟩) : tSeq (tAsg (tCall (spStart K) [] E (tCons (tVar 0) tNil)) (gName 1)) tz D (L2.start N [.ref a]) H := by
  refine ⟨.ref a, by simp [L2.start], a, ns, rfl, hS, hl, fun p q H' ok => ?_⟩
  refine h ⟨[p, q], noG, H', fun b hb => (drwR p q).dom ok b hb⟩ p q _ _ ⟨noG, ?_⟩
  have own : ∀ j b, b ∈ ownAt (.no :: .own (drwR p q) :: List.replicate (N.length - 2) .no) ⟨[], []⟩ j → j = 1 ∧ b ∈ [p, q] := fun j b hb => by
    unfold ownAt at hb
    split at hb
    · match j with
      | 0 => cases hb
      | 1 => exact ⟨rfl, hb⟩
      | j + 2 =>
        exfalso
        rw [List.getElem?_cons_succ, List.getElem?_cons_succ] at hb
        cases z : (List.replicate (N.length - 2) Sl.no)[j]? with
        | none => rw [z] at hb; cases hb
        | some s =>
          rw [z] at hb
          rw [(List.mem_replicate.mp (List.mem_of_getElem? z)).2] at hb; cases hb
    · cases hb
  refine ⟨?_, Grow.refl (fun b o z => by cases z), fun i s es => ?_, fun p hp => (by cases hp), fun p hp => (by cases hp), fun i j b hb hc => by rw [(own i b hb).1, (own j b hc).1], fun i b hb => ⟨rfl, .inl (own i b hb).2⟩⟩
  · show (((L2.start N [.ref a]).set 1 (some (.ref p))).length = _)
    rw [List.length_set]
    unfold L2.start
    simp
    omega
  · match i with
    | 0 => cases es; trivial
    | 1 =>
      cases es
      refine ⟨.ref p, ?_, ok⟩
      show ((L2.start N [.ref a]).set 1 (some (.ref p)))[1]? = _
      rw [List.getElem?_set_self]
      unfold L2.start
      simp
      omega
    | i + 2 =>
      rw [List.getElem?_cons_succ, List.getElem?_cons_succ] at es
      rw [(List.mem_replicate.mp (List.mem_of_getElem? es)).2]
      trivial
theorem law_ret {K : FK} {B : Bs} {Γ : List Sl} {F : Fra} {D : Ends} {te : TE} (h : EvD K B te Γ (.bool true)) (q : ∀ H', D.rt (.bl true) H') : Nx K B (tRet te D) Γ F := nx_ret h fun v d σ H' e ⟨G, s⟩ => by
  subst e
  have e : v = .bl true := (s.tm (v, .bool true) (by simp)).bl_inv
  rw [e]; exact q H'
def spLaw (K : FK) : Sp := fun vs H Q _ => ∃ (a : Addr) (ns : List Int), vs = [.ref a] ∧ SqL K H a (ns.map V.int) ∧ ns.length ≤ 63 ∧ ∀ H', Q (.bl true) H'
end Ly

namespace Ly
open PySem L2
theorem RetD.to {K : FK} {B : Bs} {Q : VK} {r r' : DD} (h : RetD K B Q r) (e : r = r') : RetD K B Q r' := e ▸ h
section
variable {K : FK} {B : Bs} {Γ : List Sl} {F : Fra} {σ : St} {H G : Hp} {i : Nat} {v : V} {d : DD} {r : Res} {D : Ends} {te : TE}
/-- a held own thing goes into a slot -/
theorem S0.takeX {A C : List (V × Res)} (h : S0 K B Γ ⟨F.T, A ++ (v, r) :: C⟩ σ H G) (hi : i < Γ.length) : S0 K B (Γ.set i (.own r)) ⟨F.T, A ++ C⟩ (σ.set i (some v)) H G := by
  let φ : Nat → Nat := fun j => if j < Γ.length then (if j = i then Γ.length + A.length else j) else if j - Γ.length < A.length then j else j + 1
  have own : ∀ j a, a ∈ ownAt (Γ.set i (.own r)) ⟨F.T, A ++ C⟩ j → a ∈ ownAt Γ ⟨F.T, A ++ (v, r) :: C⟩ (φ j) := fun j a ha => by
    rw [ownAt_set _ hi] at ha
    by_cases hj : j < Γ.length
    · by_cases e : j = i
      · rw [if_pos e] at ha
        have : φ j = Γ.length + A.length := by simp only [φ]; rw [if_pos hj, if_pos e]
        rw [this]
        have q : (⟨F.T, A ++ (v, r) :: C⟩ : Fra).X[A.length]? = some (v, r) := by simp
        rw [ownAt_fra q]; exact ha
      · rw [if_neg e] at ha
        have : φ j = j := by simp only [φ]; rw [if_pos hj, if_neg e]
        rw [this]
        unfold ownAt at ha ⊢
        rw [if_pos hj] at ha ⊢; exact ha
    · have e : j ≠ i := by omega
      rw [if_neg e] at ha
      unfold ownAt at ha ⊢
      rw [if_neg hj] at ha
      by_cases hA : j - Γ.length < A.length
      · have : φ j = j := by simp only [φ]; rw [if_neg hj, if_pos hA]
        rw [this, if_neg hj]
        simp only [List.getElem?_append_left hA] at ha ⊢
        exact ha
      · have : φ j = j + 1 := by simp only [φ]; rw [if_neg hj, if_neg hA]
        rw [this, if_neg (by omega)]
        have e1 : (A ++ C)[j - Γ.length]? = C[j - Γ.length - A.length]? := List.getElem?_append_right (by omega)
        have e2 : (A ++ (v, r) :: C)[j + 1 - Γ.length]? = C[j - Γ.length - A.length]? := by
          rw [List.getElem?_append_right (by omega), show j + 1 - Γ.length - A.length = (j - Γ.length - A.length) + 1 by omega, List.getElem?_cons_succ]
        simp only [e1] at ha
        simp only [e2]
        exact ha
  have inj : ∀ j k, φ j = φ k → j = k := fun j k e => by
    simp only [φ] at e
    repeat' split at e
    all_goals omega
  refine ⟨by simpa using h.len, h.grow, fun j t e => ?_, h.tm, fun p hp => h.xm p (by
    rcases List.mem_append.mp hp with z | z
    · exact List.mem_append_left _ z
    · exact List.mem_append_right _ (List.mem_cons_of_mem _ z)), fun j k a h1 h2 => inj j k (h.apart _ _ a (own j a h1) (own k a h2)), fun j a h1 => h.mine _ a (own j a h1)⟩
  by_cases hj : j = i
  · subst hj
    rw [List.getElem?_set_self hi] at e
    cases e
    rw [List.getElem?_set_self (by rw [h.len]; exact hi)]
    exact ⟨v, rfl, h.xm (v, r) (by simp)⟩
  · rw [List.getElem?_set_ne (Ne.symm hj)] at e ⊢
    exact h.sl j t e
inductive Mx where
  | dat (v : V) (d : DD)
  | res (v : V) (r : Res)
def Mx.vl : Mx → V
  | .dat v _ => v
  | .res v _ => v
def Mx.sl : Mx → Sl
  | .dat _ d => .dat d
  | .res _ r => .own r
def mxT : List Mx → List (V × DD)
  | [] => []
  | .dat v d :: ms => (v, d) :: mxT ms
  | .res _ _ :: ms => mxT ms
def mxX : List Mx → List (V × Res)
  | [] => []
  | .dat _ _ :: ms => mxX ms
  | .res v r :: ms => (v, r) :: mxX ms
def setMx (Γ : List Sl) : List Nat → List Mx → List Sl
  | i :: is, m :: ms => setMx (Γ.set i m.sl) is ms
  | _, _ => Γ
def gNames : List Nat → TGs
  | [] => gNil
  | i :: is => gCons (gName i) (gNames is)
variable (K B) in
def EvM (ta : TA) (Γ : List Sl) (Ps : List Mx → Prop) : Prop := ∀ F σ H, S K B Γ F σ H → ∀ Q : List V → Hp → Prop, (∀ ms T' H', Ps ms → (∀ p ∈ mxT ms ++ F.T, p ∈ T') → S K B Γ ⟨T', F.X ++ mxX ms⟩ σ H' → Q (ms.map Mx.vl) H') → ta σ H Q
theorem em_nil : EvM K B tNil Γ (fun ms => ms = []) := fun F σ H s Q q => q [] F.T H rfl (fun p hp => by simpa [mxT] using hp) (by rw [show mxX [] = [] from rfl, List.append_nil]; exact s)
theorem em_D {tr : TA} {P : DD → Prop} {Pr : List Mx → Prop} (h : Ev K B te Γ P) (hr : EvM K B tr Γ Pr) : EvM K B (tCons te tr) Γ (fun ms => ∃ v d ms', P d ∧ Pr ms' ∧ ms = .dat v d :: ms') := fun F σ H s Q q =>
  h F σ H s _ fun v d H1 p1 s1 => hr _ σ H1 s1 _ fun ms T' H2 p2 ht s2 => q (.dat v d :: ms) T' H2 ⟨v, d, ms, p1, p2, rfl⟩ (fun p hp => ht p (by
    simp [mxT] at hp ⊢
    rcases hp with e | e | e <;> simp [e])) s2
theorem em_N {tr : TA} {P : List DD → Prop} {Pr : List Mx → Prop} (h : EvN K B te Γ P) (hr : EvM K B tr Γ Pr) : EvM K B (tCons te tr) Γ (fun ms => ∃ p ds ms', P ds ∧ p ∉ B.L ∧ Pr ms' ∧ ms = .res (.ref p) (lstR p ds) :: ms') := fun F σ H s Q q =>
  h F σ H s _ fun p ds H1 p1 hl s1 => hr _ σ H1 s1 _ fun ms T' H2 p2 ht s2 => q (.res (.ref p) (lstR p ds) :: ms) T' H2 ⟨p, ds, ms, p1, hl, p2, rfl⟩ (fun p hp => ht p hp) (by
    have e : (F.res1 (.ref p) (lstR p ds)).X ++ mxX ms = F.X ++ mxX (.res (.ref p) (lstR p ds) :: ms) := by simp [mxX]
    rw [e] at s2; exact s2)
theorem EvM.imp {ta : TA} {Ps Ps' : List Mx → Prop} (h : EvM K B ta Γ Ps) (k : ∀ ms, Ps ms → Ps' ms) : EvM K B ta Γ Ps' := fun F σ H s Q q => h F σ H s Q fun ms T' H' p => q ms T' H' (k ms p)
theorem g_mix {T' : List (V × DD)} {X : List (V × Res)} {Q : St → Hp → Prop} : ∀ (is : List Nat) (ms : List Mx) (Γ : List Sl) (σ : St) (H : Hp), is.length = ms.length → (∀ i ∈ is, i < Γ.length) → (∀ p ∈ mxT ms, p ∈ T') → S K B Γ ⟨T', X ++ mxX ms⟩ σ H →
    (∀ σ', S K B (setMx Γ is ms) ⟨T', X⟩ σ' H → Q σ' H) → gNames is (ms.map Mx.vl) σ H Q
  | [], [], Γ, σ, H, _, _, _, s, q => ⟨rfl, q σ (by rw [show mxX [] = [] from rfl, List.append_nil] at s; exact s)⟩
  | [], _ :: _, _, _, _, e, _, _, _, _ => by cases e
  | _ :: _, [], _, _, _, e, _, _, _, _ => by cases e
  | i :: is, .dat v d :: ms, Γ, σ, H, e, hi, ht, s, q => by
    obtain ⟨G, s⟩ := s
    refine ⟨v, ms.map Mx.vl, rfl, ?_⟩
    show gNames is (ms.map Mx.vl) (σ.set i (some v)) H Q
    exact g_mix is ms (Γ.set i (.dat d)) _ H (Nat.succ.inj e) (fun j hj => by rw [List.length_set]; exact hi j (by simp [hj])) (fun p hp => ht p (by simp [mxT, hp])) ⟨G, s.setDat (hi i (by simp)) (ht (v, d) (by simp [mxT]))⟩ q
  | i :: is, .res v r :: ms, Γ, σ, H, e, hi, ht, s, q => by
    obtain ⟨G, s⟩ := s
    refine ⟨v, ms.map Mx.vl, rfl, ?_⟩
    show gNames is (ms.map Mx.vl) (σ.set i (some v)) H Q
    exact g_mix is ms (Γ.set i (.own r)) _ H (Nat.succ.inj e) (fun j hj => by rw [List.length_set]; exact hi j (by simp [hj])) (fun p hp => ht p (by simpa [mxT] using hp)) ⟨G, s.takeX (F := ⟨T', []⟩) (hi i (by simp))⟩ q
/-- a, b = (x, y): new own things among them -/
theorem nx_mix {ta : TA} {Ps : List Mx → Prop} {n : Nat} (is : List Nat) (h : EvM K B ta Γ Ps) (hn : is.length = n) (hi : (is.all fun i => Nat.blt i Γ.length) = true) (hsz : Nat.ble n 100 = true) (k : ∀ ms, Ps ms → ms.length = n ∧ Nx K B D.nx (setMx Γ is ms) F) :
    Nx K B (tAsg (tTup ta) (gTup K n (gNames is)) D) Γ F := fun σ H s =>
  h F σ H s _ fun ms T' H' p ht s' => by
    obtain ⟨hl, hk⟩ := k ms p
    refine ⟨sz_of (by rw [List.length_map, hl]; have := Nat.le_of_ble_eq_true hsz; omega), fun a ha => ⟨a, ms.map Mx.vl, rfl, SqT.of upd_same, by rw [List.length_map, hl], ?_⟩⟩
    obtain ⟨G, s'⟩ := s'
    have s2 : S K B Γ ⟨T', F.X ++ mxX ms⟩ σ (upd H' a (.tup (ms.map Mx.vl))) := ⟨G, s'.step (T' := T') (Grow.free s'.ex ha) fun q hq => s'.tm q hq⟩
    exact g_mix is ms Γ σ _ (by rw [hn, hl]) (fun i h => of_blt (List.all_eq_true.mp hi i h)) (fun q hq => ht q (by simp [hq])) s2 fun σ' s3 => hk σ' _ (s3.drop fun q hq => ht q (by simp [hq]))
/-- a, b = x, y of plain local names -/
theorem nx_par {ta : TA} {Ps : List Mx → Prop} {i j : Nat} (h : EvM K B ta Γ Ps) (hi : (Nat.blt i Γ.length && Nat.blt j Γ.length) = true) (k : ∀ ms, Ps ms → ms.length = 2 ∧ Nx K B D.nx (setMx Γ [i, j] ms) F) : Nx K B (tPar i j ta D) Γ F := fun σ H s =>
  h F σ H s _ fun ms T' H' p ht s' => by
    obtain ⟨hl, hk⟩ := k ms p
    obtain ⟨h1, h2⟩ := Bool.and_eq_true_iff.mp hi
    obtain ⟨v, r, e1, w, r', e2, e3, q⟩ := g_mix (Q := D.nx) [i, j] ms Γ σ H' (by simp [hl]) (fun a ha => by
      simp at ha
      rcases ha with e | e <;> rw [e]
      · exact of_blt h1
      · exact of_blt h2) (fun q hq => ht q (by simp [hq])) s' fun σ' s3 => hk σ' _ (s3.drop fun q hq => ht q (by simp [hq]))
    exact ⟨v, w, by rw [e1, e2, e3], q⟩
theorem nx_par3 {ta : TA} {Ps : List Mx → Prop} {i j l : Nat} (h : EvM K B ta Γ Ps) (hi : (Nat.blt i Γ.length && (Nat.blt j Γ.length && Nat.blt l Γ.length)) = true) (k : ∀ ms, Ps ms → ms.length = 3 ∧ Nx K B D.nx (setMx Γ [i, j, l] ms) F) : Nx K B (tPar3 i j l ta D) Γ F := fun σ H s =>
  h F σ H s _ fun ms T' H' p ht s' => by
    obtain ⟨hl, hk⟩ := k ms p
    obtain ⟨h1, h23⟩ := Bool.and_eq_true_iff.mp hi
    obtain ⟨h2, h3⟩ := Bool.and_eq_true_iff.mp h23
    obtain ⟨v, r, e1, w, r', e2, z, r2, e3, e4, q⟩ := g_mix (Q := D.nx) [i, j, l] ms Γ σ H' (by simp [hl]) (fun a ha => by
      simp at ha
      rcases ha with e | e | e <;> rw [e]
      · exact of_blt h1
      · exact of_blt h2
      · exact of_blt h3) (fun q hq => ht q (by simp [hq])) s' fun σ' s3 => hk σ' _ (s3.drop fun q hq => ht q (by simp [hq]))
    exact ⟨v, w, z, by rw [e1, e2, e3, e4], q⟩
theorem nx_loop {W : List Sl → Prop} {F' : Fra} (h : W Γ) : Nx K B (fun σ H => ∃ Γ3, W Γ3 ∧ S K B Γ3 F' σ H) Γ F' := fun σ H s => ⟨Γ, h, s⟩
theorem nx_loopW {W : Nat → List Sl → Prop} {m m' : Nat} (hm : m' < m) (h : W m' Γ) : Nx K B (fun σ H => ∃ m' Γ3, m' < m ∧ W m' Γ3 ∧ S K B Γ3 F σ H) Γ F := fun σ H s => ⟨m', Γ, hm, h, s⟩
/-- for: Γ at the turn i is Γi i -/
theorem nx_forE {wi : TI} {g : TG} {t : TS} {ds : List DD} (hi : EvI K B wi Γ ds) (Γi : Nat → List Sl) (h0 : Γ = Γi 0)
    (hs : ∀ (i : Nat) d F', ds[i]? = some d → ∃ Γ2 vs, Tg K B g d (Γi i) Γ2 vs ∧ Nx K B (t { D with nx := fun σ H => ∃ Γ3, Γ3 = Γi (i + 1) ∧ S K B Γ3 F' σ H, ct := fun σ H => ∃ Γ3, Γ3 = Γi (i + 1) ∧ S K B Γ3 F' σ H, bk := D.nx }) Γ2 F')
    (hd : Nx K B D.nx (Γi ds.length) F) : Nx K B (tFor wi g t D) Γ F :=
  nx_for hi (fun i Γ1 => Γ1 = Γi i) h0 (fun i d Γ1 F' h e => by rw [e]; exact hs i d F' h) (fun Γ1 e => by rw [e]; exact hd)
theorem nx_loopE {Γ' : List Sl} {F' : Fra} (h : Γ = Γ') : Nx K B (fun σ H => ∃ Γ3, Γ3 = Γ' ∧ S K B Γ3 F' σ H) Γ F' := nx_loop (W := fun Γ3 => Γ3 = Γ') h
theorem nx_never : (∀ σ H, S K B Γ F σ H → False) → Nx K B (tNever D) Γ F := fun h => h
theorem nx_absurd {n : St → Hp → Prop} (h : False) : Nx K B n Γ F := h.elim
end
end Ly

namespace Ly
open PySem PySem.Spec PyProof.Rows L2
section
variable {X : Cx}
def rInTD (K : FK) (neg : Bool) : R2 := fun x y H Q => ∃ d ds, Dp K H x d ∧ Dp K H y (.tuple ds) ∧ SeqAt.shaped d = true ∧ SeqAt.shaped (.tuple ds) = true ∧ Q (.bl (if neg then !inD d ds else inD d ds)) H
theorem op_inTD {k : Nat} (hr : Room k X.A) : OpR X (compareOp .In) (rInTD X.K false) := by
  intro pins s σ H x y v u Q I rx ry h
  obtain ⟨d, ds, hd, he, sd, se, q⟩ := h
  obtain ⟨as, r1⟩ := Dp.reads I d x v hd rx
  obtain ⟨bs, r2⟩ := Dp.reads I (.tuple ds) y u he ry
  have hu : X.A.units + 65 < cLine := by have := hr.un; omega
  exact SeqAt.in_tuple_reads r2 r1 (SeqAt.canLay_of_shaped se) (SeqAt.canLay_of_shaped sd) (room_in_shaped sd hu) ⟨.bl _, H, I, rfl, q⟩
theorem op_notInTD {k : Nat} (hr : Room k X.A) : OpR X (compareOp .NotIn) (rInTD X.K true) := by
  intro pins s σ H x y v u Q I rx ry h
  obtain ⟨d, ds, hd, he, sd, se, q⟩ := h
  obtain ⟨as, r1⟩ := Dp.reads I d x v hd rx
  obtain ⟨bs, r2⟩ := Dp.reads I (.tuple ds) y u he ry
  have hu : X.A.units + 65 < cLine := by have := hr.un; omega
  exact SeqAt.notIn_tuple_reads r2 r1 (SeqAt.canLay_of_shaped se) (SeqAt.canLay_of_shaped sd) (room_in_shaped sd hu) ⟨.bl _, H, I, rfl, q⟩
end
section
variable {K : FK} {B : Bs} {Γ : List Sl} {ta tb te : TE} {x y z d : DD}
theorem ev_inTD {ds : List DD} (ha : EvD K B ta Γ x) (hb : EvD K B tb Γ (.tuple ds)) (sx : SeqAt.shaped x = true) (sy : SeqAt.shaped (.tuple ds) = true) : EvD K B (tOp (rInTD K false) ta tb) Γ (.bool (inD x ds)) :=
  ev_op ha hb fun v u G H hv hu e Q q => ⟨x, ds, dp_ex e hv, dp_ex e hu, sx, sy, q _ G H (Grow.refl e) (.bl _)⟩
theorem ev_niTD {ds : List DD} (ha : EvD K B ta Γ x) (hb : EvD K B tb Γ (.tuple ds)) (sx : SeqAt.shaped x = true) (sy : SeqAt.shaped (.tuple ds) = true) : EvD K B (tOp (rInTD K true) ta tb) Γ (.bool (!inD x ds)) :=
  ev_op ha hb fun v u G H hv hu e Q q => ⟨x, ds, dp_ex e hv, dp_ex e hu, sx, sy, q _ G H (Grow.refl e) (.bl _)⟩
end
section
variable {K : FK} {B : Bs} {Γ Γ' : List Sl} {ta tb te : TE} {x y z d : DD} {vs : List Nat}
theorem tg_unl {gs : TGs} {ds : List DD} {n : Nat} (hn : ds.length = n) (h : Tgs K B gs ds Γ Γ' vs) : Tg K B (gUnl K n gs) (.list ds) Γ Γ' vs := ⟨h.1, fun F v σ H ⟨G, s⟩ hd Q q => by
  obtain ⟨a, xs, rfl, ha, hs⟩ := (s.tm _ hd).lst_inv
  refine ⟨a, xs, rfl, SqL.of (s.ex _ _ ha), hs.length.trans hn, ?_⟩
  have s1 : S K B Γ (F.dats (xs.zip ds)) σ H := ⟨G, s.len, s.grow, s.sl, fun p hp => by
    rcases List.mem_append.mp hp with z | z
    · obtain ⟨k, hk, ek⟩ := List.getElem_of_mem z
      have hk' : k < xs.length := by rw [List.length_zip] at hk; omega
      have hk2 : k < ds.length := by rw [List.length_zip] at hk; omega
      obtain ⟨w, hw1, hw2⟩ := hs.get (List.getElem?_eq_getElem hk2)
      rw [List.getElem?_eq_getElem hk'] at hw1
      rw [← ek, List.getElem_zip]
      rw [Option.some.inj hw1]
      exact hw2
    · exact s.tm p z, s.xm, s.apart, s.mine⟩
  exact h.2 _ xs σ H s1 hs.length (fun p hp => by simp [hp]) Q fun σ' H' s' e' => q σ' H' (s'.drop fun p hp => by simp [hp]) e'⟩
/-- the ints lo, lo + c, .. -/
def intsC (lo c : Int) (n : Nat) : List Int := (List.range n).map fun (i : Nat) => lo + (i : Int) * c
theorem intsC_get {lo c : Int} {n i : Nat} (h : i < n) : (intsC lo c n)[i]? = some (lo + i * c) := by
  unfold intsC
  rw [List.getElem?_map, List.getElem?_range h]; rfl
theorem intsC_len {lo c : Int} {n : Nat} : (intsC lo c n).length = n := by simp [intsC]
theorem goes_rangeC {lo c : Int} {n : Nat} : Goes K B (Itc lo c n) [] ((intsC lo c n).map .int) := fun Γ F σ H s _ i => by
  refine ⟨fun d hd => ?_, fun e => by simp [intsC_len] at e; show n ≤ i; omega⟩
  rw [List.getElem?_map] at hd
  by_cases hi : i < n
  · rw [intsC_get hi] at hd
    cases hd
    refine ⟨hi, fun x H' hy => ?_⟩
    obtain ⟨rfl, rfl⟩ := hy
    exact s.c fun _ => .int _
  · rw [List.getElem?_eq_none (by rw [intsC_len]; omega)] at hd
    cases hd
theorem daL3 {G : Hp} {vs : List V} (h : DaL K G vs [x, y, z]) : ∃ v u w, vs = [v, u, w] ∧ Da K G v x ∧ Da K G u y ∧ Da K G w z := by
  cases h with
  | cons h t =>
    cases t with
    | cons h2 t2 =>
      cases t2 with
      | cons h3 t3 => cases t3; exact ⟨_, _, _, rfl, h, h2, h3⟩
theorem ei_range3 {i j c : Int} {n : Nat} {ta : TA} (h : EvAD K B ta Γ [.int i, .int j, .int c]) (hn : RgC i j c n) : EvI K B (iRng3 ta) Γ ((intsC i c n).map .int) := fun F σ H s R q =>
  h F σ H s _ fun vs ds H' e l s' => by
    subst e
    obtain ⟨G, s1⟩ := id s'
    obtain ⟨v, u, w, rfl, hv, hu, hw⟩ := daL3 (daL_zip l fun p hp => s1.tm p (by simp [hp]))
    exact ⟨i, j, c, n, by rw [hv.int_inv, hu.int_inv, hw.int_inv], hn, q _ [] H' goes_rangeC (s'.drop fun p hp => by simp at hp; simp [hp])⟩
end
theorem kit_NoneType_int : kitB "NoneType" "int" = some false := by decide +kernel
theorem kit_bool_int : kitB "bool" "int" = some true := by decide +kernel
theorem kit_int_int : kitB "int" "int" = some true := by decide +kernel
theorem kit_str_int : kitB "str" "int" = some false := by decide +kernel
theorem kit_list_int : kitB "list" "int" = some false := by decide +kernel
theorem kit_tuple_int : kitB "tuple" "int" = some false := by decide +kernel
theorem kit_dict_int : kitB "dict" "int" = some false := by decide +kernel
theorem kit_NoneType_bool : kitB "NoneType" "bool" = some false := by decide +kernel
theorem kit_bool_bool : kitB "bool" "bool" = some true := by decide +kernel
theorem kit_int_bool : kitB "int" "bool" = some false := by decide +kernel
theorem kit_str_bool : kitB "str" "bool" = some false := by decide +kernel
theorem kit_list_bool : kitB "list" "bool" = some false := by decide +kernel
theorem kit_tuple_bool : kitB "tuple" "bool" = some false := by decide +kernel
theorem kit_dict_bool : kitB "dict" "bool" = some false := by decide +kernel
theorem kit_NoneType_str : kitB "NoneType" "str" = some false := by decide +kernel
theorem kit_bool_str : kitB "bool" "str" = some false := by decide +kernel
theorem kit_int_str : kitB "int" "str" = some false := by decide +kernel
theorem kit_str_str : kitB "str" "str" = some true := by decide +kernel
theorem kit_list_str : kitB "list" "str" = some false := by decide +kernel
theorem kit_tuple_str : kitB "tuple" "str" = some false := by decide +kernel
theorem kit_dict_str : kitB "dict" "str" = some false := by decide +kernel
theorem kit_NoneType_list : kitB "NoneType" "list" = some false := by decide +kernel
theorem kit_bool_list : kitB "bool" "list" = some false := by decide +kernel
theorem kit_int_list : kitB "int" "list" = some false := by decide +kernel
theorem kit_str_list : kitB "str" "list" = some false := by decide +kernel
theorem kit_list_list : kitB "list" "list" = some true := by decide +kernel
theorem kit_tuple_list : kitB "tuple" "list" = some false := by decide +kernel
theorem kit_dict_list : kitB "dict" "list" = some false := by decide +kernel
theorem kit_NoneType_tuple : kitB "NoneType" "tuple" = some false := by decide +kernel
theorem kit_bool_tuple : kitB "bool" "tuple" = some false := by decide +kernel
theorem kit_int_tuple : kitB "int" "tuple" = some false := by decide +kernel
theorem kit_str_tuple : kitB "str" "tuple" = some false := by decide +kernel
theorem kit_list_tuple : kitB "list" "tuple" = some false := by decide +kernel
theorem kit_tuple_tuple : kitB "tuple" "tuple" = some true := by decide +kernel
theorem kit_dict_tuple : kitB "dict" "tuple" = some false := by decide +kernel
/-- data that can be compared: no dicts, texts in order, of depth n at most -/
def okD (n : Nat) (d : DD) : Prop := d.canLay0 = true ∧ d.depth ≤ n
theorem okD.shaped {n : Nat} {d : DD} (h : okD n d) (hn : n ≤ 64 := by decide) : SeqAt.shaped d = true := by
  unfold SeqAt.shaped
  rw [h.1, Bool.true_and]
  exact decide_eq_true (Nat.le_trans h.2 hn)
theorem okD.mono {n m : Nat} {d : DD} (h : okD n d) (hn : n ≤ m) : okD m d := ⟨h.1, Nat.le_trans h.2 hn⟩
theorem ok_int {n : Nat} (i : Int) : okD n (.int i) := ⟨rfl, by simp [PyData.depth]⟩
theorem ok_none {n : Nat} : okD n .none := ⟨rfl, by simp [PyData.depth]⟩
theorem ok_bool {n : Nat} (i : Bool) : okD n (.bool i) := ⟨rfl, by simp [PyData.depth]⟩
theorem ok_all {n : Nat} : ∀ {ds : List DD}, (∀ d ∈ ds, okD n d) → PyData.canLayAll0 ds = true ∧ PyData.depthAll ds ≤ n
  | [], _ => ⟨rfl, by simp [PyData.depthAll]⟩
  | d :: ds, h => by
    obtain ⟨h1, h2⟩ := ok_all (ds := ds) fun x hx => h x (by simp [hx])
    obtain ⟨h3, h4⟩ := h d (by simp)
    refine ⟨by simp [PyData.canLayAll0, h3, h1], ?_⟩
    simp only [PyData.depthAll]
    exact Nat.max_le.mpr ⟨h4, h2⟩
theorem ok_list {n : Nat} {ds : List DD} (h : ∀ d ∈ ds, okD n d) : okD (n + 1) (.list ds) := by
  obtain ⟨h1, h2⟩ := ok_all h
  exact ⟨by simpa [PyData.canLay0] using h1, by simp only [PyData.depth]; omega⟩
theorem ok_tuple {n : Nat} {ds : List DD} (h : ∀ d ∈ ds, okD n d) : okD (n + 1) (.tuple ds) := by
  obtain ⟨h1, h2⟩ := ok_all h
  exact ⟨by simpa [PyData.canLay0] using h1, by simp only [PyData.depth]; omega⟩
theorem ok_ints {n : Nat} (ns : List Int) : okD (n + 1) (.list (ns.map .int)) := ok_list fun d hd => by
  obtain ⟨i, _, rfl⟩ := List.mem_map.mp hd; exact ok_int i
theorem okD.refl {n : Nat} {d : DD} (h : okD n d) : PyData.eqv d d = true := SeqAt.eqv_refl d h.1
theorem ok_ne {n : Nat} {d e : DD} (h : okD n d) (k : d = e) : (!PyData.eqv d e) = false := by rw [← k, h.refl]; rfl
theorem eqv_ints : ∀ (xs ys : List Int), PyData.eqvAll (xs.map .int) (ys.map .int) = decide (xs = ys)
  | [], [] => by simp [PyData.eqvAll]
  | [], _ :: _ => by simp [PyData.eqvAll]
  | _ :: _, [] => by simp [PyData.eqvAll]
  | x :: xs, y :: ys => by
    simp only [List.map_cons, PyData.eqvAll, PyData.eqv, eqv_ints xs ys]
    by_cases h : x = y <;> simp [h]
end Ly

namespace Ly
open PySem L2
section
variable {K : FK} {B : Bs} {Γ : List Sl} {F : Fra} {D : Ends} {ta tb te to : TE} {P : DD → Prop} {x y z d : DD} {i : Nat}
theorem ev_isB {a b : Bool} (ha : EvD K B ta Γ (.bool a)) (hb : EvD K B tb Γ (.bool b)) : EvD K B (tOp rIsB ta tb) Γ (.bool (decide (a = b))) :=
  ev_op ha hb fun v u G H hv hu e Q q => by
    rw [hv.bl_inv, hu.bl_inv]
    exact ⟨a, b, rfl, rfl, q _ G H (Grow.refl e) (.bl _)⟩
theorem ev_notB {a b : Bool} (ha : EvD K B ta Γ (.bool a)) (hb : EvD K B tb Γ (.bool b)) : EvD K B (tOp rNotB ta tb) Γ (.bool (!decide (a = b))) :=
  ev_op ha hb fun v u G H hv hu e Q q => by
    rw [hv.bl_inv, hu.bl_inv]
    exact ⟨a, b, rfl, rfl, q _ G H (Grow.refl e) (.bl _)⟩
/-- xs.index(y), flat items -/
theorem ev_index {ds : List DD} {j : Nat} {w : DD} (h : EvD K B to Γ (.list ds)) (h2 : EvD K B te Γ y) (fy : flatD y = true) (fd : ds.all flatD = true) (hj : ds[j]? = some w) (he : PyData.eqv w y = true) (hno : ∀ (m : Nat) (u : DD), m < j → ds[m]? = some u → PyData.eqv u y = false) :
    EvD K B (tBM K "list" (rIndex K) to (tCons te tNil)) Γ (.int (j : Nat)) := fun F σ H s Q q =>
  h F σ H s _ fun v d' H1 e1 s1 => by
    subst e1
    obtain ⟨G1, z1⟩ := id s1
    obtain ⟨a, xs, rfl, ha, hs⟩ := (z1.tm (v, .list ds) (by simp)).lst_inv
    refine ⟨.inl ⟨rfl, xs, SqL.of (z1.ex _ _ ha)⟩, ?_⟩
    refine h2 _ σ H1 s1 _ fun u d2 H2 e2 s2 => ?_
    subst e2
    obtain ⟨G2, z2⟩ := id s2
    obtain ⟨a', xs', ee, ha', hs'⟩ := (z2.tm (.ref a, .list ds) (by simp)).lst_inv
    cases ee
    have hu := z2.tm (u, d2) (by simp)
    obtain ⟨wv, hw1, hw2⟩ := hs'.get hj
    have fw : flatD w = true := List.all_eq_true.mp fd w (List.mem_of_getElem? hj)
    refine ⟨a, xs', u, j, wv, rfl, rfl, SqL.of (z2.ex _ _ ha'), by rw [hu.flat]; exact fy, by rw [hs'.flat]; exact fd, hw1, by rw [hw2.eqV hu fw fy]; exact he, fun m z' hm hz' => ?_, q _ _ H2 rfl ((s2.drop (T' := F.T) fun p hp => by simp [hp]).c fun _ => .int _)⟩
    obtain ⟨dz, hd1, hd2⟩ := hs'.getV hz'
    rw [hd2.eqV hu (List.all_eq_true.mp fd dz (List.mem_of_getElem? hd1)) fy]
    exact hno m dz hm hd1
inductive KvOk (K : FK) (G : Hp) : List (Key × V) → List (Key × DD) → Prop
  | nil : KvOk K G [] []
  | cons {k : Key} {v : V} {d : DD} {xs : List (Key × V)} {ds : List (Key × DD)} : Da K G v d → KvOk K G xs ds → KvOk K G ((k, v) :: xs) ((k, d) :: ds)
theorem KvOk.mono {G G' : Hp} (e : Ex G G') : ∀ {xs : List (Key × V)} {ds : List (Key × DD)}, KvOk K G xs ds → KvOk K G' xs ds
  | _, _, .nil => .nil
  | _, _, .cons h t => .cons (h.mono e) (t.mono e)
def getK (ds : List (Key × DD)) (k : Key) : Option DD := (ds.find? fun kv => decide (kv.1 = k)).map (·.2)
def putD (ds : List (Key × DD)) (k : Key) (v : DD) : List (Key × DD) :=
  if (ds.any fun kv => decide (kv.1 = k)) = true then ds.map (fun kv => if kv.1 = k then (kv.1, v) else kv) else ds ++ [(k, v)]
theorem KvOk.get {G : Hp} {k : Key} : ∀ {xs : List (Key × V)} {ds : List (Key × DD)}, KvOk K G xs ds → (∀ d, getK ds k = some d → ∃ v, valV xs k = some v ∧ Da K G v d) ∧ (getK ds k = none → valV xs k = none)
  | _, _, .nil => ⟨fun d h => (by simp [getK] at h), fun _ => rfl⟩
  | _, _, .cons (k := k') h t => by
    obtain ⟨t1, t2⟩ := t.get (k := k)
    by_cases e : k' = k
    · subst e
      refine ⟨fun d hd => ?_, fun hn => ?_⟩
      · simp [getK] at hd
        subst hd
        exact ⟨_, valV_pos rfl, h⟩
      · simp [getK] at hn
    · have e1 : ∀ (d : DD) (r : List (Key × DD)), getK ((k', d) :: r) k = getK r k := fun d r => by simp [getK, e]
      refine ⟨fun d hd => ?_, fun hn => ?_⟩
      · rw [e1] at hd
        obtain ⟨v, h1, h2⟩ := t1 d hd
        exact ⟨v, by rw [valV_neg e]; exact h1, h2⟩
      · rw [e1] at hn
        rw [valV_neg e]; exact t2 hn
theorem KvOk.any {G : Hp} {k : Key} : ∀ {xs : List (Key × V)} {ds : List (Key × DD)}, KvOk K G xs ds → (xs.any fun kv => decide (kv.1 = k)) = ds.any fun kv => decide (kv.1 = k)
  | _, _, .nil => rfl
  | _, _, .cons h t => by rw [List.any_cons, List.any_cons, t.any]
theorem KvOk.map {G : Hp} {k : Key} {v : V} {d : DD} (hv : Da K G v d) : ∀ {xs : List (Key × V)} {ds : List (Key × DD)}, KvOk K G xs ds → KvOk K G (xs.map fun kv => if kv.1 = k then (kv.1, v) else kv) (ds.map fun kv => if kv.1 = k then (kv.1, d) else kv)
  | _, _, .nil => .nil
  | _, _, .cons (k := k') h t => by
    rw [List.map_cons, List.map_cons]
    by_cases e : k' = k
    · simp only [e, if_true]
      exact .cons hv (t.map hv)
    · simp only [e, if_false]
      exact .cons h (t.map hv)
theorem KvOk.snoc {G : Hp} {k : Key} {v : V} {d : DD} (hv : Da K G v d) : ∀ {xs : List (Key × V)} {ds : List (Key × DD)}, KvOk K G xs ds → KvOk K G (xs ++ [(k, v)]) (ds ++ [(k, d)])
  | _, _, .nil => .cons hv .nil
  | _, _, .cons h t => .cons h (t.snoc hv)
theorem KvOk.put {G : Hp} {k : Key} {v : V} {d : DD} (hv : Da K G v d) {xs : List (Key × V)} {ds : List (Key × DD)} (h : KvOk K G xs ds) : KvOk K G (putK xs k v) (putD ds k d) := by
  unfold putK putD
  rw [h.any]
  split
  · exact h.map hv
  · exact h.snoc hv
theorem KvOk.len {G : Hp} : ∀ {xs : List (Key × V)} {ds : List (Key × DD)}, KvOk K G xs ds → xs.length = ds.length
  | _, _, .nil => rfl
  | _, _, .cons _ t => congrArg (· + 1) t.len
/-- an own dict -/
def dkR (p : Addr) (ds : List (Key × DD)) : Res where
  as := [p]
  ok := fun K G v H => v = .ref p ∧ ∃ xs, H p = some (.dK xs) ∧ KvOk K G xs ds
  mono := fun e ⟨h1, xs, h2, h3⟩ => ⟨h1, xs, h2, h3.mono e⟩
  loc := fun e ⟨h1, xs, h2, h3⟩ => ⟨h1, xs, e p _ (by simp) h2, h3⟩
  dom := fun ⟨_, xs, h2, _⟩ a ha => by
    have e : a = p := by simpa using ha
    subst e; exact ⟨_, h2⟩
def kD : Key → DD
  | .inl n => .int n
  | .inr s => .str s
theorem Da.kV {G : Hp} {v : V} {k : Key} (h : Da K G v (kD k)) : v = kV k := by
  cases k with
  | inl n => exact h.int_inv
  | inr s => exact h.str_inv
variable (K B) in
/-- the pairs of a display -/
def EvP (trs : List (TE × TE)) (Γ : List Sl) (kds : List (Key × DD)) : Prop := ∀ F σ H, S K B Γ F σ H → ∀ Q : List (V × V) → Hp → Prop,
  (∀ (kvs : List (Key × V)) (H' : Hp), kvs.length = kds.length → kvs.map Prod.fst = kds.map Prod.fst → S K B Γ (F.dats ((kvs.map Prod.snd).zip (kds.map Prod.snd))) σ H' → Q (kvs.map fun kv => (kV kv.1, kv.2)) H') → tPairs trs σ H Q
theorem ep_nil : EvP K B [] Γ [] := fun F σ H s Q q => q [] H rfl rfl s
theorem ep_cons {tk tv : TE} {trs : List (TE × TE)} {k : Key} {kds : List (Key × DD)} (hk : EvD K B tk Γ (kD k)) (hv : EvD K B tv Γ d) (hr : EvP K B trs Γ kds) : EvP K B ((tk, tv) :: trs) Γ ((k, d) :: kds) := fun F σ H s Q q =>
  hk F σ H s _ fun v1 d1 H1 e1 s1 => by
    subst e1
    obtain ⟨G1, z1⟩ := id s1
    have ek : v1 = kV k := (z1.tm (v1, kD k) (by simp)).kV
    refine hv F σ H1 s1.pop _ fun v2 d2 H2 e2 s2 => ?_
    subst e2
    refine hr _ σ H2 s2 _ fun kvs H3 l3 k3 s3 => ?_
    subst ek
    exact q ((k, v2) :: kvs) H3 (congrArg Nat.succ l3) (by simp [k3]) (s3.drop fun p hp => by
      simp only [List.map_cons, List.zip_cons_cons, List.cons_append, List.mem_cons, List.mem_append] at hp ⊢
      rcases hp with e | e | e
      · exact .inr (.inl e)
      · exact .inl e
      · exact .inr (.inr e))
theorem kvOk_of {G : Hp} : ∀ {kvs : List (Key × V)} {kds : List (Key × DD)}, kvs.length = kds.length → kvs.map Prod.fst = kds.map Prod.fst → (∀ p ∈ (kvs.map Prod.snd).zip (kds.map Prod.snd), Da K G p.1 p.2) → KvOk K G kvs kds
  | [], [], _, _, _ => .nil
  | [], _ :: _, e, _, _ => by cases e
  | _ :: _, [], e, _, _ => by cases e
  | (k, v) :: kvs, (k', d) :: kds, e, f, h => by
    simp at f
    obtain ⟨rfl, f⟩ := f
    exact .cons (h (v, d) (by simp)) (kvOk_of (Nat.succ.inj e) (by simpa using f) fun p hp => h p (by simp at hp ⊢; exact .inr hp))
def mergeD (kds more : List (Key × DD)) : List (Key × DD) := more.foldl (fun acc kv => putD acc kv.1 kv.2) kds
theorem KvOk.merge {G : Hp} : ∀ {more : List (Key × V)} {dmore : List (Key × DD)} {xs : List (Key × V)} {ds : List (Key × DD)}, KvOk K G more dmore → KvOk K G xs ds → KvOk K G (mergeK xs more) (mergeD ds dmore)
  | _, _, _, _, .nil, h => h
  | _, _, _, _, .cons hv t, h => by
    unfold mergeK mergeD
    rw [List.foldl_cons, List.foldl_cons]
    exact KvOk.merge t (h.put hv)
variable (K B) in
/-- a new own thing comes -/
def EvR (te : TE) (Γ : List Sl) (Pr : V → Res → Prop) : Prop := ∀ F σ H, S K B Γ F σ H → ∀ Q : VK, (∀ v r H', Pr v r → S K B Γ (F.res1 v r) σ H' → Q v H') → te σ H Q
theorem er_disp {trs : List (TE × TE)} {kds : List (Key × DD)} (h : EvP K B trs Γ kds) (hl : Nat.ble kds.length 15 = true := by rfl) : EvR K B (tDisp trs) Γ (fun v r => ∃ p, v = .ref p ∧ p ∉ B.L ∧ r = dkR p (mergeD [] kds)) := fun F σ H ⟨G, s⟩ Q q p hp => by
  have s1 : S0 K B Γ (F.res1 (.ref p) (dkR p [])) σ (upd H p (.dK [])) G := s.newRes (Grow.free s.ex hp) ⟨rfl, [], upd_same, .nil⟩ fun a ha => by
    have e : a = p := by simpa [dkR] using ha
    rw [e]; exact hp
  refine h _ σ _ ⟨G, s1⟩ _ fun kvs H2 l2 k2 s2 => ?_
  obtain ⟨G2, z2⟩ := s2
  obtain ⟨_, xs, hx, hk⟩ := z2.xm (.ref p, dkR p []) (by simp)
  cases hk
  refine ⟨hx, kvs, rfl, by rw [l2]; exact Nat.le_of_ble_eq_true hl, ?_⟩
  have hm : p ∈ ownAt Γ (Fra.res1 ⟨(kvs.map Prod.snd).zip (kds.map Prod.snd) ++ F.T, F.X⟩ (.ref p) (dkR p [])) (Γ.length + F.X.length) := by rw [ownAt_res, if_pos rfl]; simp [dkR]
  have hg := (z2.mine _ p hm).1
  have ko : KvOk K G2 kvs kds := kvOk_of l2 k2 fun q hq => z2.tm q (by simp [hq])
  exact q _ _ _ ⟨p, rfl, s.notLent hp, rfl⟩ ⟨G2, z2.updX (F := ⟨(kvs.map Prod.snd).zip (kds.map Prod.snd) ++ F.T, F.X⟩) (r' := dkR p (mergeD [] kds)) (T' := F.T) (Grow.put z2.ex hg (by simp [dkR])) rfl ⟨rfl, _, upd_same, ko.merge .nil⟩ fun q hq => z2.tm q (by simp [hq])⟩
theorem S.unres {σ : St} {H : Hp} {v : V} {r : Res} (s : S K B Γ (F.res1 v r) σ H) : S K B Γ F σ H := by
  obtain ⟨G, h⟩ := s
  have hA : ∀ j a, a ∈ ownAt Γ F j → a ∈ ownAt Γ (F.res1 v r) j := fun j a hj => by
    rw [ownAt_res]; split
    · rename_i e; subst e; rw [ownAt_end] at hj; cases hj
    · exact hj
  exact ⟨G, h.len, h.grow, h.sl, h.tm, fun q hq => h.xm q (by simp [hq]), fun j k a z y => h.apart j k a (hA j a z) (hA k a y), fun j a z => h.mine j a (hA j a z)⟩
/-- {..}[k] -/
theorem ev_getR {td tk : TE} {kds : List (Key × DD)} {k : Key} (h : EvR K B td Γ (fun v r => ∃ p, v = .ref p ∧ p ∉ B.L ∧ r = dkR p kds)) (hk : EvD K B tk Γ (kD k)) (hg : getK kds k = some d) : EvD K B (tDGet td tk) Γ d := fun F σ H s Q q =>
  h F σ H s _ fun v r H1 ⟨p, e, _, er⟩ s1 => by
    subst e er
    refine hk _ σ H1 s1 _ fun u d2 H2 e2 s2 => ?_
    subst e2
    obtain ⟨G2, z2⟩ := id s2
    obtain ⟨_, xs, hx, ko⟩ := z2.xm (.ref p, dkR p kds) (by simp)
    obtain ⟨w, hw, hd⟩ := ko.get.1 d hg
    have eu : u = kV k := (z2.tm (u, kD k) (by simp)).kV
    refine ⟨p, w, rfl, .inl ⟨xs, k, .inl hx, eu, hw.symm⟩, q w d H2 rfl ?_⟩
    have s3 : S K B Γ (Fra.res1 ⟨(w, d) :: F.T, F.X⟩ (.ref p) (dkR p kds)) σ H2 := (S.grown (d := d) z2 (Grow.refl z2.ex) hd).drop fun p hp => by
      simp at hp ⊢
      rcases hp with e | e <;> simp [e]
    exact s3.unres
/-- xs += ys, xs an own list -/
theorem nx_augL {p : Addr} {ds zs : List DD} (hx : Γ[i]? = some (.own (lstR p ds))) (h : EvD K B te Γ (.list zs)) (hz : ds.length + zs.length ≤ 100000) (k : Nx K B D.nx (Γ.set i (.own (lstR p (ds ++ zs)))) F) : Nx K B (tAug i te rExt2 D) Γ F := fun σ H s => by
  have hi : i < Γ.length := (List.getElem?_eq_some_iff.mp hx).1
  obtain ⟨G, s0⟩ := id s
  obtain ⟨v, hv, ev, _⟩ := s0.own hx
  subst ev
  refine ⟨.ref p, hv, ?_⟩
  refine h F σ H s _ fun w d' H' e s' => ?_
  subst e
  obtain ⟨G', s1⟩ := s'
  obtain ⟨v2, hv2, rfl, ys, hp2, hd2⟩ := s1.own hx
  obtain ⟨b, us, rfl, hb, hs⟩ := (s1.tm (w, .list zs) (by simp)).lst_inv
  have hm : p ∈ ownAt Γ (F.dat (.ref b) (.list zs)) i := by rw [ownAt_slot hx]; simp [Sl.as, lstR]
  have hg : G' p = none := (s1.mine i p hm).1
  refine ⟨p, b, ys, us, rfl, rfl, hp2, s1.ex _ _ hb, sz_of (by rw [hd2.length, hs.length]; exact hz), ?_⟩
  have s2 := s1.updOwn (r' := lstR p (ds ++ zs)) (T' := F.T) hx (Grow.put (o := .lst (ys ++ us)) s1.ex hg (by simp [lstR])) rfl hv2 ⟨rfl, _, upd_same, hd2.append hs⟩ fun q hq => s1.tm q (by simp [hq])
  have eσ : σ.set i (some (.ref p)) = σ := by
    have hl : i < σ.length := (List.getElem?_eq_some_iff.mp hv2).1
    have : σ[i] = some (.ref p) := by
      rw [List.getElem?_eq_getElem hl] at hv2; exact Option.some.inj hv2
    rw [← this]; exact List.set_getElem_self hl
  show D.nx (σ.set i (some (.ref p))) _
  rw [eσ]
  exact k _ _ ⟨G', s2⟩
end
end Ly

namespace Ly
open PySem L2
section
variable {K : FK} {B : Bs} {Γ : List Sl} {F : Fra} {D : Ends} {te : TE} {t : TS} {g : TG}
variable (K B) in
def EvIP (wi : TI) (Γ : List Sl) (Ps : List DD → Prop) : Prop := ∀ F σ H, S K B Γ F σ H → ∀ R : It → Hp → Prop, (∀ J T0 ds H', Ps ds → Goes K B J T0 ds → S K B Γ (F.dats T0) σ H' → R J H') → wi σ H R
theorem ei_listP {tl : TE} {Ps : List DD → Prop} {P : DD → Prop} (h : Ev K B tl Γ P) (hp : ∀ d, P d → ∃ ds, d = .list ds ∧ Ps ds) : EvIP K B (iList K tl) Γ Ps := fun F σ H s R q =>
  h F σ H s _ fun v d H' pd s' => by
    obtain ⟨ds, rfl, hds⟩ := hp d pd
    obtain ⟨G, s1⟩ := id s'
    obtain ⟨a, xs, rfl, ha, hs⟩ := (s1.tm (v, .list ds) (by simp)).lst_inv
    refine ⟨a, rfl, ⟨xs, SqL.of (s1.ex _ _ ha)⟩, q _ [(.ref a, .list ds)] ds H' hds (fun Γ2 F2 σ2 H2 s2 hT i => ?_) s'⟩
    obtain ⟨G2, s3⟩ := id s2
    obtain ⟨a2, xs2, e2, ha2, hs2⟩ := (s3.tm (.ref a, .list ds) (hT _ (by simp))).lst_inv
    cases e2
    have sq : SqL K H2 a xs2 := SqL.of (s3.ex _ _ ha2)
    refine ⟨fun d hd => ?_, fun e => ⟨xs2, sq, by rw [hs2.length, e]; exact Nat.le_refl _⟩⟩
    obtain ⟨w, hw, hdw⟩ := hs2.get hd
    refine ⟨⟨xs2, w, sq, hw⟩, fun x H3 hy => ?_⟩
    obtain ⟨rfl, hy⟩ := hy
    have := hy xs2 sq
    rw [hw] at this
    cases this
    exact S.grown s3 (Grow.refl s3.ex) hdw
theorem nx_forP {wi : TI} {Ps : List DD → Prop} (hi : EvIP K B wi Γ Ps) (W : List DD → Nat → List Sl → Prop) (h0 : ∀ ds, Ps ds → W ds 0 Γ)
    (hs : ∀ ds, Ps ds → ∀ (i : Nat) d Γ1 F', ds[i]? = some d → W ds i Γ1 → ∃ Γ2 vs, Tg K B g d Γ1 Γ2 vs ∧ Nx K B (t { D with nx := fun σ H => ∃ Γ3, W ds (i + 1) Γ3 ∧ S K B Γ3 F' σ H, ct := fun σ H => ∃ Γ3, W ds (i + 1) Γ3 ∧ S K B Γ3 F' σ H, bk := D.nx }) Γ2 F')
    (hd : ∀ ds, Ps ds → ∀ Γ1, W ds ds.length Γ1 → Nx K B D.nx Γ1 F) : Nx K B (tFor wi g t D) Γ F := fun σ H s =>
  hi F σ H s _ fun J T0 ds H' hds hJ s' => by
    refine ⟨fun i m σ H => m = ds.length - i ∧ i ≤ ds.length ∧ ∃ Γ1, W ds i Γ1 ∧ S K B Γ1 (F.dats T0) σ H, ⟨ds.length, by simp, Nat.zero_le _, Γ, h0 ds hds, s'⟩, ?_⟩
    rintro i m σ H ⟨rfl, hle, Γ1, hW, s1⟩
    obtain ⟨j1, j2⟩ := hJ Γ1 _ σ H s1 (fun p hp => by simp [hp]) i
    by_cases hlt : i < ds.length
    · obtain ⟨go, y⟩ := j1 _ (List.getElem?_eq_getElem hlt)
      refine .inr ⟨go, fun σ' H' => ∃ Γ3, W ds (i + 1) Γ3 ∧ S K B Γ3 (F.dats T0) σ' H', fun σ' H' h' => ⟨ds.length - (i + 1), by omega, rfl, hlt, h'⟩, fun x H2 hy => ?_⟩
      obtain ⟨Γ2, vs, ht, hn⟩ := hs ds hds i _ Γ1 (F.dats T0) (List.getElem?_eq_getElem hlt) hW
      exact ht.2 _ x σ H2 (y x H2 hy) (by simp) _ fun σ2 H3 s3 _ => hn σ2 H3 s3.pop
    · have e : i = ds.length := by omega
      exact .inl ⟨j2 e, hd ds hds Γ1 (e ▸ hW) σ H (s1.drop fun p hp => by simp [hp])⟩
/-- a loop that changes nothing that is known -/
theorem nx_forC {wi : TI} {ds : List DD} (hi : EvI K B wi Γ ds)
    (hs : ∀ (i : Nat) d F', ds[i]? = some d → ∃ Γ2 vs, Tg K B g d Γ Γ2 vs ∧ Nx K B (t { D with nx := fun σ H => ∃ Γ3, Γ3 = Γ ∧ S K B Γ3 F' σ H, ct := fun σ H => ∃ Γ3, Γ3 = Γ ∧ S K B Γ3 F' σ H, bk := D.nx }) Γ2 F')
    (hd : Nx K B D.nx Γ F) : Nx K B (tFor wi g t D) Γ F :=
  nx_for hi (fun _ Γ1 => Γ1 = Γ) rfl (fun i d Γ1 F' h e => by rw [e]; exact hs i d F' h) (fun Γ1 e => by rw [e]; exact hd)
theorem nx_forPC {wi : TI} {Ps : List DD → Prop} (hi : EvIP K B wi Γ Ps)
    (hs : ∀ ds, Ps ds → ∀ (i : Nat) d F', ds[i]? = some d → ∃ Γ2 vs, Tg K B g d Γ Γ2 vs ∧ Nx K B (t { D with nx := fun σ H => ∃ Γ3, Γ3 = Γ ∧ S K B Γ3 F' σ H, ct := fun σ H => ∃ Γ3, Γ3 = Γ ∧ S K B Γ3 F' σ H, bk := D.nx }) Γ2 F')
    (hd : Nx K B D.nx Γ F) : Nx K B (tFor wi g t D) Γ F :=
  nx_forP hi (fun _ _ Γ1 => Γ1 = Γ) (fun _ _ => rfl) (fun ds h i d Γ1 F' hd e => by rw [e]; exact hs ds h i d F' hd) (fun ds h Γ1 e => by rw [e]; exact hd)
/-- [e(x) for x in ds], e drawn -/
theorem en_mapP {wi : TI} {ds : List DD} {us : List Nat} (Pe : DD → Prop) (hi : EvI K B wi Γ ds) (hno : AllNo Γ us) (hl : ds.length < 100000)
    (hs : ∀ (i : Nat) d, ds[i]? = some d → ∃ Γ2 vs, Tg K B g d Γ Γ2 vs ∧ (∀ v ∈ vs, v ∈ us) ∧ Ev K B te Γ2 Pe) : EvN K B (tLc wi g tYes te us) Γ (fun l => l.length = ds.length ∧ ∀ x ∈ l, Pe x) := fun F σ H s Q q =>
  en_lc (us := us) hi hno (fun i l => i ≤ ds.length ∧ l.length = i ∧ ∀ x ∈ l, Pe x) ⟨Nat.zero_le _, rfl, fun x hx => by cases hx⟩ (fun i l ⟨h1, h2, _⟩ => by omega) (fun i d l hd ⟨h1, h2, h3⟩ => by
    obtain ⟨Γ2, vs, ht, hv, he⟩ := hs i d hd
    have hlt : i < ds.length := (List.getElem?_eq_some_iff.mp hd).1
    refine ⟨Γ2, vs, true, _, ht, hv, fun F σ H s Q q => q H s, fun _ => he, fun _ x hx => ⟨hlt, by simp [h2], fun y hy => ?_⟩, fun z => by cases z⟩
    rcases List.mem_append.mp hy with z | z
    · exact h3 y z
    · rw [List.mem_singleton.mp z]; exact hx) F σ H s Q fun p l H' ⟨_, h2, h3⟩ => q p l H' ⟨h2, h3⟩
end
end Ly

namespace Ly
open PySem PySem.Spec PyProof.Rows L2
def CgO (cls : Value) (a : Addr) : HO := .ext fun h => ∃ (oe : Obj) (vs : Array Value), h.get? a = some oe ∧ Zc cls none oe ∧ oe.data = .fields vs
theorem cgO_ok {P : Program} {w : World} {H : Hp} {h : Heap} {a : Addr} {cls : Value} {oe : Obj} {vs : Array Value} (e : h.get? a = some oe) (z : Zc cls none oe) (d : oe.data = .fields vs) : ObjOk P w H h a (CgO cls a) :=
  ⟨⟨oe, vs, e, z, d⟩, ⟨oe, e⟩, fun _ _ ⟨o, v, q, r⟩ k => ⟨o, v, k o q, r⟩⟩
section
variable {X : Cx} {pins : List (Addr × Obj)} {σ : L2.St} {H : Hp} {sI s s' : Shared} {B : Heap}
theorem landedO {a : Addr} {o : HO} (I : Inv X pins σ H sI) (nb : ∀ b o, sI.heap.get? b = some o → b ∉ frs X.stack → B.get? b = some o) (st : B.StaysIn s'.heap) (up : sI.heap.UpToSlots s'.heap) (os : s'.os = sI.os) (ag : AllBare s'.gens)
    (Ba : B.get? a = none) (nfr : a ∉ frs X.stack) (na : H a = none) (new : ObjOk X.prog X.w (upd H a o) s'.heap a o) : Inv X pins σ (upd H a o) s' := by
  have nf : ∀ b ∈ frs X.stack, ∀ o, sI.heap.get? b = some o → ∃ sl, s'.heap.get? b = some { o with slots := sl } := fun b hb o e => by
    obtain ⟨_, o', e', hd⟩ := I.stack.mem hb
    rw [e] at e'; cases e'
    exact up b o e hd
  have J := I.call (ch := []) (h' := s'.heap) (g' := s'.gens) (t' := s'.toks) (d' := s'.drawn) (H' := upd H a o)
    ⟨fun b o e _ hb _ => st b o (nb b o e hb), fun b o e _ hb _ => nf b hb o e, fun b u e n _ => by
      rw [upd_ne (fun z => ?_)]
      · exact n
      · subst z
        have := nb b u e nfr
        rw [Ba] at this
        exact (nomatch this), fun b o e _ => by
      by_cases hb : b ∈ frs X.stack
      · obtain ⟨sl, q⟩ := nf b hb o e
        exact ⟨_, q⟩
      · exact ⟨o, st b o (nb b o e hb)⟩, fun b xs e => by rw [upd_ne (ne_of_none e na)]; exact e, fun b u xs e => by rw [upd_ne (ne_of_none e na)]; exact e, fun b ps e => ⟨#[], by rw [upd_ne (ne_of_none e na), e]; simp⟩⟩
    (HOk.laidN ((I.inGround nb).kept st) (fun _ _ q => q) na new) ag (fun _ z => nomatch z)
  obtain ⟨a1, a2, a3, a4, a5⟩ := s'
  have e5 : a5 = sI.os := os
  subst e5
  exact J
theorem suite0 (I : Inv X pins σ H s) (a : Addr) : Inv (X.suite a (X.pn ++ pins)) [] σ H s :=
  ⟨I.ok.suite _ _, I.os, I.bare, I.base, I.loc, I.cell, I.free, I.freeC, fun p hp => I.pin p (by rw [List.append_nil] at hp; exact hp), I.hok, I.len⟩
theorem unsuite0 {a : Addr} {pn' : List (Addr × Obj)} (I : Inv (X.suite a (X.pn ++ pins)) pn' σ H s) (ok : X.Ok) : Inv X pins σ H s :=
  ⟨ok, I.os, I.bare, I.base, I.loc, I.cell, I.free, I.freeC, fun p hp => I.pin p (List.mem_append_left _ hp), I.hok, I.len⟩
end
/-- what the clause 'except x as n' wishes of an exception of the body, which is kept -/
def wKeep (K : FK) (c : Value) (i : Nat) (ts : TS) (Wout : WX) (D : Ends) : WX := fun cls d σ H =>
  ∃ b, PySem.W.exmOne K cls c = some b ∧ (b = true → d = none ∧ ∀ a, H a = none → ts { nx := fun σ' H' => D.nx (σ'.set i none) H', rt := D.rt, bk := fun σ' H' => D.bk (σ'.set i none) H', ct := fun σ' H' => D.ct (σ'.set i none) H' } (σ.set i (some (.ref a))) (upd H a (CgO cls a))) ∧
    (b = false → Wout cls d σ H)
section
variable {X : Cx} {x n : Str} {c : Value} {i : Nat} {body suite : List Stmt} {b₀ : Stmt} {np pos pos' : Pos} {tb : WX → TS} {ts : TS} {Wout : WX}
theorem ps_try_keep (hs : X.stack = X.env :: X.outer) (hf : X.env.frame = some X.env.locals) (hN : X.N.Nodup) (hi : X.N[i]? = some n) (hln : X.env.kindOf n = some .local) (hc : Names X x c) (tk : Takes X Wout)
    (hb : ∀ (W : WX) (pn : List (Addr × Obj)) (xe : Value → Shared → Prop), Takes (X.tr pn xe) W → PassesOwn (model X.prog X.w) X.A X.env xe → PSs (X.tr pn xe) body (tb W))
    (hsu : ∀ (a : Addr) (pn : List (Addr × Obj)), PSs (X.suite a pn) (b₀ :: suite) ts) :
    PS X (.Try body [.ExceptHandler (some (.Name x np)) (some n) (b₀ :: suite) pos'] [] [] pos) (fun D σ H => tb (wKeep X.K c i ts Wout D) D σ H) := by
  refine ⟨fun pins s σ H D I h => ?_⟩
  have ok := I.ok
  have hfr : X.A.frames = some (X.env :: X.outer) := by rw [ok.frames, hs]
  have hloc : Loc X.env.scope n := .inl hln
  refine wpAny_Try_except ?_
  refine wpAny_mono ((hb (wKeep X.K c i ts Wout D) (X.pn ++ pins) (fun e s₁ => wpAny (model X.prog X.w) X.A (noteFrame e X.env) (fun _ s₂ => wpAny (model X.prog X.w) X.A (setFlight e none) (fun _ s₃ =>
    wpAny (model X.prog X.w) X.A (handleBy e X.env [.ExceptHandler (some (.Name x np)) (some n) (b₀ :: suite) pos']) (SP X pins D) X.xe s₃) X.xe s₂) X.xe s₁) (fun u s' xx => ?_) PassesOwn.looking).run [] s σ H D (I.toTry _) h) (fun f s1 hsp => ?_) (fun e s1 he => he)
  · obtain ⟨a, B, sI, pins', σ', H', cls, d, rfl, J', nb, up, sky, na, os, ag, b, hb1, hyes, hno⟩ := xx
    have J : Inv X pins σ' H' sI := J'.ofTry ok
    have sky' : Sky B (X.env :: X.outer) a (Zc cls d) X.env.locals s'.heap := by rw [← hs]; exact sky
    show wpAny (model X.prog X.w) X.A (noteFrame (.ref a) X.env) _ _ _
    refine Sky.land Zc.steady hfr hf sky' fun h3 fl3 up3 => ?_
    have J3 : Inv X pins σ' H' { s' with heap := h3 } := J.landed nb fl3.1 (up.trans up3) os ag
    obtain ⟨oe3, vs3, he3, hz3, hd3⟩ := fl3.there
    have notFr : ∀ {h : Heap} {o : Obj} {vs : Array Value}, h.FunFrames B (X.env :: X.outer) → h.get? a = some o → o.data = .fields vs → a ∉ frs (X.env :: X.outer) := fun {h o vs} ff e dd hm => by
      obtain ⟨_, o', e', hnf⟩ := ff.mem hm
      rw [e] at e'; cases e'
      exact hnf _ dd
    have nfr := notFr fl3.2.2.1 he3 hd3
    have nL : a ≠ X.env.locals := fun z => nfr (List.mem_filterMap.mpr ⟨X.env, List.mem_cons_self, by rw [hf, z]⟩)
    have nF : a ∉ X.fs := fun hm => by
      obtain ⟨e, he, q⟩ := List.mem_filterMap.mp hm
      exact nfr (List.mem_filterMap.mpr ⟨e, List.mem_cons_of_mem _ he, q⟩)
    have S3 := J3.suite he3 hd3 na nL nF
    refine wpAny_handleBy_cons (codeAny_handlers_test ?_) (by intro q; cases q)
    have LT : PySem.W.Looks (model X.prog X.w) h3 (typeOf (.ref a)) cls := fun A Q E s k q => wpAny_typeOf_ref (k _ _ he3) (by rw [hz3.1]; exact q)
    have LM := PySem.W.exm_one (M := model X.prog X.w) (J3.kIn) LT hb1
    have test : ∀ {Q : Value → Shared → Prop} {E : Value → Shared → Prop}, Q c { s' with heap := h3 } → wpAny (model X.prog X.w) (X.A.mark (some (.ref a))) (eval (.Name x np) X.env) Q E { s' with heap := h3 } := fun {Q E} q => by
      obtain ⟨hg, hdbg, hm | ⟨hm, hv, hnn⟩⟩ := hc
      · exact ld_glob (X := X.suite a ((a, oe3) :: (X.pn ++ pins))) S3 hg hm q hdbg
      · exact ld_blt (X := X.suite a ((a, oe3) :: (X.pn ++ pins))) S3 hg hm hv q hnn hdbg
    refine test (LM.here ?_)
    cases b with
    | true =>
      refine codeAny_handlers_suite_as ?_
      refine HandSPX.lands_againZ fl3 fun h4 fl4 up4 => ?_
      obtain ⟨oe4, vs4, he4, hz4, hd4⟩ := fl4.there
      obtain ⟨hdn, hy2⟩ := hyes rfl
      subst hdn
      have J4 : Inv X pins σ' (upd H' a (CgO cls a)) { s' with heap := h4 } := landedO J nb fl4.1 ((up.trans up3).trans up4) os ag fl4.2.1 (by rw [hs]; exact nfr) na (cgO_ok he4 hz4 hd4)
      have S4 := suite0 J4 a
      refine store_ok (X := X.suite a (X.pn ++ pins)) (v := .ref a) S4 hN hi hloc rfl (fun s5 S5 => ?_) (.inr hln)
      refine wpAny_mono ((hsu a (X.pn ++ pins)).run [] s5 _ _ _ S5 (hy2 a na)) (fun f s6 hsp => ?_) (fun _ _ z => False.elim z)
      have end_ : ∀ {σ6 : L2.St} {H6 : Hp} {Q : Shared → Prop}, Inv (X.suite a (X.pn ++ pins)) [] σ6 H6 s6 → (∀ s7, Inv X pins (σ6.set i none) H6 s7 → Q s7) →
          wpAny (model X.prog X.w) X.A (do bindName X.env n .none; unbindBehindTheSuite X.env n pos') (fun _ s7 => Q s7) X.xe s6 := fun {σ6 H6 Q} S6 hq => gone_ok (unsuite0 S6 ok) hN hi hln hq
      cases f with
      | next =>
        obtain ⟨σ6, H6, S6, q6⟩ := hsp
        exact end_ S6 fun s7 J7 => ⟨_, _, J7, q6⟩
      | brk =>
        obtain ⟨σ6, H6, S6, q6⟩ := hsp
        exact end_ S6 fun s7 J7 => ⟨_, _, J7, q6⟩
      | cont =>
        obtain ⟨σ6, H6, S6, q6⟩ := hsp
        exact end_ S6 fun s7 J7 => ⟨_, _, J7, q6⟩
      | ret u =>
        obtain ⟨v6, σ6, H6, S6, r6, q6⟩ := hsp
        exact end_ S6 fun s7 J7 => ⟨_, _, _, J7, r6, q6⟩
    | false =>
      show wpAny _ X.A (handleBy (.ref a) X.env []) _ _ _
      refine wpAny_handleBy_nil ?_
      obtain ⟨k1, k2, k3, oe, vs, T, oT, ts', he, hz, hd, h1, hr⟩ := id fl3
      unfold PySem.passOn
      refine wpAny_bind (wpAny_field he hd h1 ?_)
      rw [if_neg (show ¬ ((Value.ref T == Value.none) = true) from by simp)]
      have fin : wpAny (model X.prog X.w) X.A (setFlight (.ref a) X.env.frame) (fun _ s4 => wpAny (model X.prog X.w) X.A (throw (.ref a) : Sem Flow) (SP X pins D) X.xe s4) X.xe { s' with heap := h3 } := by
        rw [hf]
        refine HandSPX.setFlight_upZ fl3 fun h4 hh4 up4 => wpAny_throw (tk _ _ ?_)
        exact ⟨a, B, sI, pins, σ', H', cls, d, rfl, J, nb, (up.trans up3).trans up4, .inr (.inr (by rw [hs]; exact hh4)), na, os, ag, hno rfl⟩
      first
        | exact wpAny_bind (wpAny_pure (wpAny_bind fin))
        | exact wpAny_bind fin
  · cases f with
    | next =>
      obtain ⟨σ', H', J', q⟩ := hsp
      exact wpAny_execs_nil ⟨σ', H', J'.ofTry ok, q⟩
    | brk =>
      obtain ⟨σ', H', J', q⟩ := hsp
      exact ⟨σ', H', J'.ofTry ok, q⟩
    | cont =>
      obtain ⟨σ', H', J', q⟩ := hsp
      exact ⟨σ', H', J'.ofTry ok, q⟩
    | ret u =>
      obtain ⟨v, σ', H', J', r, q⟩ := hsp
      exact ⟨v, σ', H', J'.ofTry ok, r, q⟩
theorem PS.nox {X : Cx} {st : Stmt} {t : TS} (h : PS X.nox st t) : PS X st t := ⟨fun pins s σ H D I hw =>
  wpAny_mono (h.run pins s σ H D (I.wish _) hw) (fun _ _ q => q.unwish) fun _ _ z => False.elim z⟩
end
def rIsX (K : FK) : List V → Hp → VK → Prop := fun xs H Q => ∃ (a D : Addr) (c : V) (cv : Value) (b : Bool), xs = [.ref a, c] ∧ H a = some (CgO (.ref D) a) ∧ ExcC K D ∧ (∀ u, RelV c u → u = cv) ∧ PySem.W.kitOne K (.ref D) cv = some b ∧ Q (.bl b) H
theorem call_isX {X : Cx} : CallR X (.builtin "isinstance") (rIsX X.K) := by
  intro pins s σ H xs us Q I r h
  obtain ⟨a, D, c, cv, b, rfl, ha, C, hcv, e, q⟩ := h
  cases r with
  | cons rx rr =>
    cases rr with
    | cons rt rr =>
      cases rr
      cases rx
      have ec := hcv _ rt
      subst ec
      obtain ⟨⟨oe, vs, hget, hz, hv⟩, _, _⟩ := I.hok a _ ha
      have J : PySem.W.InstAt s.heap a oe D none := by
        obtain ⟨oc, od, oda, osl⟩ := oe
        obtain ⟨h1, h2⟩ := hz
        dsimp only at h1 h2 hv
        subst h1 h2 hv
        exact ⟨hget, rfl, rfl, trivial⟩
      exact PySem.W.kia_one (PySem.W.handS_kitx_exc C.hg C.hk C.hs C.hd C.ha C.hn C.ht C.hm) I.kIn J e (fun z => nomatch z) fun tk => ⟨.bl b, H, I.kept (t' := tk) fun _ _ z => z, rfl, q⟩
def nsE : List Str := ["BadWay", "BadRow", "BadWritten", "BadNumber", "BadText", "NotFound"]
def wordE (c : Str) : Str := if c = "BadWay" then "way" else if c = "BadRow" then "row" else if c = "BadWritten" then "written" else if c = "BadNumber" then "number" else if c = "BadText" then "text" else "none"
def bt (o : Option Bool) (b : Bool) : Bool := decide (o = some b)
def excCB (K : FK) (D : Addr) : Bool := He.eqO (PySem.W.findIn K (.ref D) "__getattribute__") (some (some (.builtin "BaseException.__getattribute__"))) && (He.eqO (PySem.W.findIn K (.ref D) "__getattr__") (some none) &&
  (bt (PySem.W.subIn K (.ref D) (.type "BaseException")) true && (PySem.W.hasDictIn K D && (He.eqO (PySem.W.findIn K (.ref D) "__class__") (some (some (.builtin "object.__class__"))) &&
  (He.eqO (PySem.W.specialIn K (.builtin "object.__class__") "__get__") (some (some (.builtin "getset_descriptor.__get__"))) && (bt (PySem.W.takesIn K (.builtin "object.__class__")) true && bt (PySem.W.mroIn K D (.type "object")) true))))))
theorem excCB_ok {K : FK} {D : Addr} (h : excCB K D = true) : ExcC K D := by
  unfold excCB at h
  simp only [Bool.and_eq_true] at h
  obtain ⟨h1, h2, h3, h4, h5, h6, h7, h8⟩ := h
  exact ⟨He.eqO_ok h1, He.eqO_ok h2, of_decide_eq_true h3, h4, He.eqO_ok h5, He.eqO_ok h6, of_decide_eq_true h7, of_decide_eq_true h8⟩
def clsB (K : FK) (x : Str) : Bool := excCB K (He.ga K x) && ((He.Fa.exc x).ok K && (bt (PySem.W.exmOne K (.ref (He.ga K x)) (.ref (He.ga K "RestError"))) true && (bt (PySem.W.kitOne K (.ref (He.ga K x)) (.ref (He.ga K "RestError"))) true &&
  (bt (PySem.W.kitOne K (.ref (He.ga K x)) (.type "ValueError")) true && nsE.all fun y => bt (PySem.W.kitOne K (.ref (He.ga K x)) (.ref (He.ga K y))) (decide (x = y))))))
def kitsB (K : FK) : Bool := nsE.all (clsB K)
structure ClsOk (K : FK) (x : Str) : Prop where
  xc : ExcC K (He.ga K x)
  fa : (He.Fa.exc x).ok K = true
  exm : PySem.W.exmOne K (.ref (He.ga K x)) (.ref (He.ga K "RestError")) = some true
  re : PySem.W.kitOne K (.ref (He.ga K x)) (.ref (He.ga K "RestError")) = some true
  ve : PySem.W.kitOne K (.ref (He.ga K x)) (.type "ValueError") = some true
  kit : ∀ y ∈ nsE, PySem.W.kitOne K (.ref (He.ga K x)) (.ref (He.ga K y)) = some (decide (x = y))
theorem kits_ok {K : FK} (h : kitsB K = true) {x : Str} (hx : x ∈ nsE) : ClsOk K x := by
  have q := List.all_eq_true.mp h x hx
  unfold clsB at q
  simp only [Bool.and_eq_true] at q
  obtain ⟨h1, h2, h3, h4, h5, h6⟩ := q
  exact ⟨excCB_ok h1, h2, of_decide_eq_true h3, of_decide_eq_true h4, of_decide_eq_true h5, fun y hy => of_decide_eq_true (List.all_eq_true.mp h6 y hy)⟩
/-- raise X('m') -/
theorem mkE {X : Cx} {x m : Str} {j : Nat} {p p2 pos : Pos} (ks : kitsB X.K = true) (hx : x ∈ nsE) (gC : X.mg x = some (.ref (He.ga X.K x))) (hg : Gl X x) (hdb : (x == ("__debug__" : Str)) = false := by decide) :
    PMk X (.Call (.Name x p) [.Constant (.str m) j p2] [] pos) (fun _ H Q => Q (.ref (He.ga X.K x)) none H) := by
  obtain ⟨h1, h2, h3, h4⟩ := He.exc_ok (kits_ok ks hx).fa
  exact pmk_own PySem.F.excBase_ValueError h1 gC h2 (raises_own h3 h4) hg hdb
inductive Rs where
  | ok (d : DD)
  | er (c : Str)
def excR (a : Addr) (c : Str) : Res where
  as := [a]
  ok := fun K G v H => v = .ref a ∧ H a = some (CgO (.ref (He.ga K c)) a)
  mono := fun _ h => h
  loc := fun e ⟨h1, h2⟩ => ⟨h1, e a _ (by simp) h2⟩
  dom := fun ⟨_, h2⟩ b hb => by
    have e : b = a := by simpa using hb
    subst e; exact ⟨_, h2⟩
def spX (K : FK) (f : List DD → Rs → Prop) : Sp := fun vs H Q E => ∃ G ds r, DaL K G vs ds ∧ Ex G H ∧ f ds r ∧ (∀ d, r = .ok d → ∀ v G' H', Grow [] G H G' H' → Da K G' v d → Q v H') ∧ (∀ c, r = .er c → ∀ G' H', Grow [] G H G' H' → E (.ref (He.ga K c)) none H')
section
variable {K : FK} {B : Bs} {Γ : List Sl} {F : Fra} {D : Ends} {ta tb te : TE} {tt : TT} {W : WX} {P : Rs → Prop} {i j k : Nat} {b : Bool}
variable (K B) in
/-- te yields some d, or lets an exception out, which W takes -/
def EvX (te : TE) (Γ : List Sl) (W : WX) (P : Rs → Prop) : Prop := ∀ F σ H, S K B Γ F σ H → ∀ Q : VK, (∀ v d H', P (.ok d) → S K B Γ (F.dat v d) σ H' → Q v H') → (∀ c H', P (.er c) → S K B Γ F σ H' → W (.ref (He.ga K c)) none σ H') → te σ H Q
theorem ex_callS {f : List DD → Rs → Prop} {ta : TA} {ds : List DD} {r : Rs} (h : EvAD K B ta Γ ds) (hf : f ds r) : EvX K B (tCallS (spX K f) (WE W) ta) Γ W (fun x => x = r) := fun F σ H s Q q qe =>
  h F σ H s _ fun vs es H1 p l s1 => by
    subst p
    obtain ⟨G, s1⟩ := s1
    refine ⟨G, es, r, daL_zip l fun p hp => s1.tm p (by simp [hp]), s1.ex, hf, fun d e v G' H' g hv => q v d H' e.symm ?_, fun c e G' H' g => qe c H' e.symm ?_⟩
    · exact (S.grown (d := d) s1 g hv).drop fun p hp => by
        simp at hp ⊢
        rcases hp with e | e <;> simp [e]
    · exact ⟨G', s1.step (T' := F.T) g fun p hp => (s1.tm p (by simp [hp])).mono g.g⟩
theorem ex_call {f : List DD → Rs → Prop} {ta : TA} {ds : List DD} {r : Rs} {E : XK} (h : EvAD K B ta Γ ds) (hf : f ds r) : EvX K B (tCall (spX K f) [] E ta) Γ (fun c d _ H => E c d H) (fun x => x = r) := fun F σ H s Q q qe =>
  h F σ H s _ fun vs es H1 p l s1 => by
    subst p
    obtain ⟨G, s1⟩ := s1
    rw [List.append_nil]
    refine ⟨G, es, r, daL_zip l fun p hp => s1.tm p (by simp [hp]), s1.ex, hf, fun d e v G' H' g hv => q v d H' e.symm ?_, fun c e G' H' g => qe c H' e.symm ?_⟩
    · exact (S.grown (d := d) s1 g hv).drop fun p hp => by
        simp at hp ⊢
        rcases hp with e | e <;> simp [e]
    · exact ⟨G', s1.step (T' := F.T) g fun p hp => (s1.tm p (by simp [hp])).mono g.g⟩
theorem EvX.imp {P' : Rs → Prop} (h : EvX K B te Γ W P) (k : ∀ r, P r → P' r) : EvX K B te Γ W P' := fun F σ H s Q q qe => h F σ H s Q (fun v d H' p => q v d H' (k _ p)) fun c H' p => qe c H' (k _ p)
theorem ex_of {P' : DD → Prop} (h : Ev K B te Γ P') : EvX K B te Γ W (fun r => ∃ d, r = .ok d ∧ P' d) := fun F σ H s Q q _ => h F σ H s Q fun v d H' p => q v d H' ⟨d, rfl, p⟩
/-- a call that does not raise here -/
theorem ev_callX {f : List DD → Rs → Prop} {ta : TA} {ds : List DD} {d : DD} {E : XK} (h : EvAD K B ta Γ ds) (hf : f ds (.ok d)) : EvD K B (tCall (spX K f) [] E ta) Γ d := fun F σ H s Q q =>
  ex_call h hf F σ H s Q (fun v d' H' e => q v d' H' (by cases e; rfl)) fun c H' e => by cases e
theorem ev_callXS {f : List DD → Rs → Prop} {ta : TA} {ds : List DD} {d : DD} (h : EvAD K B ta Γ ds) (hf : f ds (.ok d)) : EvD K B (tCallS (spX K f) (WE W) ta) Γ d := fun F σ H s Q q =>
  ex_callS h hf F σ H s Q (fun v d' H' e => q v d' H' (by cases e; rfl)) fun c H' e => by cases e
theorem ex_if (h : EvT K B tt Γ b) (h1 : b = true → EvX K B ta Γ W P) (h2 : b = false → EvX K B tb Γ W P) : EvX K B (tIf tt ta tb) Γ W P := fun F σ H s Q q qe => h F σ H s _ fun H' s' => by
  cases b with
  | true => exact h1 rfl F σ H' s' Q q qe
  | false => exact h2 rfl F σ H' s' Q q qe
/-- try: x = te(W) / except RestError as e: caught = e -/
theorem nx_tryK {te : TE} {c : Value} {Wout : WX} (hx : EvX K B te Γ (wKeep K c i (tAsg (tVar i) (gName k)) Wout D) P)
    (h1 : ∀ d, P (.ok d) → Nx K B D.nx (Γ.set j (.dat d)) F)
    (h2 : ∀ x, P (.er x) → PySem.W.exmOne K (.ref (He.ga K x)) c = some true ∧ ∀ a, Nx K B D.nx (((Γ.set i .no).set k (.own (excR a x))).set i .no) F)
    (hi : (Nat.blt i Γ.length && (Nat.blt j Γ.length && Nat.blt k Γ.length)) = true := by rfl) :
    Nx K B (tAsg te (gName j) D) Γ F := fun σ H s => by
  obtain ⟨i1, i23⟩ := Bool.and_eq_true_iff.mp hi
  obtain ⟨i2, i3⟩ := Bool.and_eq_true_iff.mp i23
  refine hx F σ H s _ (fun v d H' p ⟨G, z⟩ => h1 d p _ _ ?_) (fun x H' p ⟨G, z⟩ => ?_)
  · exact ⟨G, (z.setDat (of_blt i2) (by simp)).drop fun q hq => by simp [hq]⟩
  · obtain ⟨e, hn⟩ := h2 x p
    refine ⟨true, e, fun _ => ⟨rfl, fun a ha => ?_⟩, fun z => by cases z⟩
    have hl : i < Γ.length := of_blt i1
    have z1 : S0 K B Γ (F.res1 (.ref a) (excR a x)) σ (upd H' a (CgO (.ref (He.ga K x)) a)) G := z.newRes (Grow.free z.ex ha) ⟨rfl, upd_same⟩ fun b hb => by
      have e : b = a := by simpa [excR] using hb
      rw [e]; exact ha
    have z2 := z1.setNo (i := i) (o := some (.ref a)) hl
    refine ⟨.ref a, by rw [List.getElem?_set_self (by rw [z.len]; exact hl)], ?_⟩
    have z3 := z2.setOwn (i := k) (by rw [List.length_set]; exact of_blt i3)
    exact hn a _ _ ⟨G, z3.setNo (i := i) (o := none) (by rw [List.length_set, List.length_set]; exact hl)⟩
theorem ev_isNO {a : Addr} {c : Str} (h : Γ[i]? = some (.own (excR a c))) : EvD K B (tOp (fun x y H Q => y = .non ∧ Q (.bl (decide (x = .non))) H) (tVar i) (tC .non)) Γ (.bool false) := fun F σ H s Q q => by
  obtain ⟨G, z⟩ := id s
  obtain ⟨v, hv, rfl, _⟩ := z.own h
  exact ⟨.ref a, hv, rfl, q (.bl false) _ H rfl (s.c fun _ => .bl false)⟩
theorem relv_ref {a : Addr} {u : Value} (h : RelV (.ref a) u) : u = .ref a := by cases h; rfl
theorem relv_ty {n : String} {u : Value} (h : RelV (.ty n) u) : u = .type n := by cases h; rfl
/-- isinstance(caught, Y) -/
theorem ev_isX {a : Addr} {c : Str} {y : V} {cv : Value} {b : Bool} (h : Γ[i]? = some (.own (excR a c))) (C : ExcC K (He.ga K c)) (hy : ∀ u, RelV y u → u = cv) (hk : PySem.W.kitOne K (.ref (He.ga K c)) cv = some b) :
    EvD K B (tCB (rIsX K) (tCons (tVar i) (tCons (tC y) tNil))) Γ (.bool b) := fun F σ H s Q q => by
  obtain ⟨G, z⟩ := id s
  obtain ⟨v, hv, rfl, ha⟩ := z.own h
  exact ⟨.ref a, hv, a, _, y, cv, b, rfl, ha, C, hy, hk, q (.bl b) _ H rfl (s.c fun _ => .bl b)⟩
end
def RaiD (K : FK) (B : Bs) (E : XK) (c : Str) : Prop := ∀ Γ F σ H', S K B Γ F σ H' → E (.ref (He.ga K c)) none H'
def RetX (K : FK) (B : Bs) (Q : VK) (E : XK) : Rs → Prop
  | .ok d => RetD K B Q d
  | .er c => RaiD K B E c
theorem def_okX {P : Program} {w : World} {K : FK} {mg : Str → Option Value} {base : Heap} {x qual : Str} {st : Stmt} {fa : Addr} {fd : FuncData} {N ps : List Str} {k : Nat} {f : List DD → Rs → Prop}
    (F : Fun K x qual st fa fd) (S : FnScope N ps (defScope st)) (hl : ∀ ds r, f ds r → ds.length = ps.length)
    (hb : ∀ (cdv : Value) (A : Around) (outer : List Env) (s : Shared) (H G : Hp) (E : XK) (ds : List DD) (r : Rs), Room k (A.deeper (envOfC qual (defScope st) s.heap.objs.size fa cdv)) → f ds r →
      ∃ t, PSs (cxOf (L2.CX P w) P w K mg base N qual (defScope st) fa cdv A outer s H E) (defBody st) t ∧ ∀ Q, RetX K (bs0 G H) Q E r → Nx K (bs0 G H) (t { nx := fun _ H' => Q .non H', rt := Q }) (slots0 ds N.length) ⟨[], []⟩) :
    FnOk P w K mg base (L2.CX P w) (k + 1) fa fd ps (spX K f) := by
  refine F.okX S (fun vs H Q E h => ?_) (fun cdv A outer s H vs Q E hr h => ?_)
  · obtain ⟨G, ds, r, hd, _, hf, _⟩ := h
    rw [hd.length]; exact hl ds r hf
  · obtain ⟨G, ds, r, hd, he, hf, q1, q2⟩ := h
    obtain ⟨t, ht, hn⟩ := hb cdv A outer s H G E ds r hr hf
    refine ⟨t, ht, hn Q ?_ _ _ (start_S he hd ?_)⟩
    · cases r with
      | ok d => exact ret0 fun v G' H' g h => q1 d rfl v G' H' g h
      | er c => exact fun Γ F σ H' ⟨G', z⟩ => q2 c rfl G' H' z.grow
    · have h1 : (N.take ps.length).length = ps.length := by rw [S.pre]
      rw [List.length_take] at h1
      rw [hl ds r hf]; omega
theorem nx_raise {K : FK} {B : Bs} {Γ : List Sl} {F : Fra} {E : XK} {c : Str} (k : RaiD K B E c) : Nx K B (fun σ H => E (.ref (He.ga K c)) none H) Γ F := fun σ H s => k Γ F σ H s
theorem start_R {K : FK} {r : Res} {v : V} {G H : Hp} {N : List Str} {us : List V} {ds : List DD} (hok : r.ok K G v H) (hg : ∀ a ∈ r.as, G a = none) (e : Ex G H) (h : DaL K G us ds) (hN : ds.length + 1 ≤ N.length) :
    S K ⟨r.as, G, H, fun a ha => r.dom hok a ha⟩ (.own r :: slots0 ds (N.length - 1)) ⟨[], []⟩ (L2.start N (v :: us)) H := by
  have hl := h.length
  have own : ∀ j a, a ∈ ownAt (.own r :: slots0 ds (N.length - 1)) ⟨[], []⟩ j → j = 0 ∧ a ∈ r.as := fun j a ha => by
    unfold ownAt at ha
    split at ha
    · rename_i hj
      cases j with
      | zero => exact ⟨rfl, ha⟩
      | succ j =>
        exfalso
        rw [List.getElem?_cons_succ] at ha
        cases z : (slots0 ds (N.length - 1))[j]? with
        | none => rw [z] at ha; cases ha
        | some s =>
          rw [z] at ha
          unfold slots0 at z
          have hm := List.mem_of_getElem? z
          rcases List.mem_append.mp hm with y | y
          · obtain ⟨d, _, rfl⟩ := List.mem_map.mp y; cases ha
          · rw [(List.mem_replicate.mp y).2] at ha; cases ha
    · cases ha
  have hst : (L2.start N (v :: us)).length = N.length := by
    unfold L2.start
    rw [List.length_append, List.length_map, List.length_replicate, List.length_cons]
    omega
  refine ⟨G, by rw [hst]; simp [slots0]; omega, Grow.refl e, fun i s es => ?_, fun p hp => (by cases hp), fun p hp => (by cases hp), fun i j a ha hb => by rw [(own i a ha).1, (own j a hb).1], fun i a ha => ⟨hg a (own i a ha).2, .inl (own i a ha).2⟩⟩
  cases i with
  | zero =>
    cases es
    exact ⟨v, by simp [L2.start], hok⟩
  | succ i =>
    rw [List.getElem?_cons_succ] at es
    have e2 : (L2.start N (v :: us))[i + 1]? = (us.map some ++ List.replicate (N.length - (us.length + 1)) none)[i]? := by
      unfold L2.start
      rw [List.map_cons, List.cons_append, List.getElem?_cons_succ]; rfl
    rw [e2]
    unfold slots0 at es
    by_cases hi : i < ds.length
    · rw [List.getElem?_append_left (by simpa using hi), List.getElem?_map, List.getElem?_eq_getElem hi] at es
      cases es
      obtain ⟨u, hv, hd⟩ := h.get (List.getElem?_eq_getElem hi)
      refine ⟨u, ?_, hd⟩
      rw [List.getElem?_append_left (by rw [List.length_map]; omega), List.getElem?_map, hv]; rfl
    · rw [List.getElem?_append_right (by simpa using hi)] at es
      have := List.mem_of_getElem? es
      rw [(List.mem_replicate.mp this).2]
      trivial
/-- the promise of _law_error -/
def spE (K : FK) : Sp := fun vs H Q _ => ∃ G a c, vs = [.ref a] ∧ (excR a c).ok K G (.ref a) H ∧ c ∈ nsE ∧ G a = none ∧ Ex G H ∧ ∀ v G' H', Grow [a] G H G' H' → (excR a c).ok K G' (.ref a) H' → Da K G' v (.str (wordE c)) → Q v H'
theorem ev_err {K : FK} {B : Bs} {Γ : List Sl} {E : XK} {i : Nat} {a : Addr} {c : Str} (hi : Γ[i]? = some (.own (excR a c))) (hc : c ∈ nsE) : EvD K B (tCall (spE K) [] E (tCons (tVar i) tNil)) Γ (.str (wordE c)) := fun F σ H s Q k => by
  obtain ⟨G, s0⟩ := id s
  obtain ⟨v, hv, hok⟩ := s0.own hi
  refine ⟨v, hv, ?_⟩
  have evp : v = .ref a := hok.1
  subst evp
  have own : a ∈ ownAt Γ F i := by rw [ownAt_slot hi]; simp [Sl.as, excR]
  refine ⟨G, a, c, rfl, hok, hc, (s0.mine i a own).1, s0.ex, fun v' G' H' g ok' da => k v' _ H' rfl ?_⟩
  have hset : Γ.set i (.own (excR a c)) = Γ := by
    obtain ⟨hlt, hget⟩ := List.getElem?_eq_some_iff.mp hi
    rw [← hget]; exact List.set_getElem_self hlt
  have s2 := s0.updOwn (r' := excR a c) (T' := (v', .str (wordE c)) :: F.T) hi g rfl hv ok' fun p hp => by
    rcases List.mem_cons.mp hp with e | e
    · rw [e]; exact da
    · exact (s0.tm p e).mono g.g
  rw [hset] at s2
  exact ⟨G', s2⟩
theorem def_okE {P : Program} {w : World} {K : FK} {mg : Str → Option Value} {base : Heap} {x qual : Str} {st : Stmt} {fa : Addr} {fd : FuncData} {N ps : List Str} {k : Nat}
    (F : Fun K x qual st fa fd) (S0' : FnScope N ps (defScope st)) (hl : ps.length = 1)
    (hb : ∀ (cdv : Value) (A : Around) (outer : List Env) (s : Shared) (H : Hp) (E : XK) (B : Bs) (a : Addr) (c : Str), Room k (A.deeper (envOfC qual (defScope st) s.heap.objs.size fa cdv)) → c ∈ nsE →
      ∃ t, PSs (cxOf CX0 P w K mg base N qual (defScope st) fa cdv A outer s H E).nox (defBody st) t ∧ ∀ Q, (∀ v Γ F σ H', S K B (.own (excR a c) :: Γ) (Fra.dat F v (.str (wordE c))) σ H' → Q v H') → Nx K B (t { nx := fun _ H' => Q .non H', rt := Q }) (.own (excR a c) :: slots0 [] (N.length - 1)) ⟨[], []⟩) :
    FnOk P w K mg base CX0 (k + 1) fa fd ps (spE K) := by
  refine F.ok S0' (fun vs H Q E h => ?_) (fun cdv A outer s H vs Q E hr h => ?_)
  · obtain ⟨G, a, c, rfl, _⟩ := h
    rw [hl]; rfl
  · obtain ⟨G, a, c, rfl, hok, hc, hg, he, q⟩ := h
    obtain ⟨t, ht, hn⟩ := hb cdv A outer s H E ⟨(excR a c).as, G, H, fun b hb => (excR a c).dom hok b hb⟩ a c hr hc
    refine ⟨t, ht, hn Q (fun v Γ F σ H' ⟨G', z⟩ => ?_) _ _ (start_R hok (fun b hb => ?_) he .nil ?_)⟩
    · obtain ⟨v0, _, ok0⟩ := z.own (i := 0) rfl
      have : v0 = .ref a := ok0.1
      subst this
      exact q v G' H' z.grow ok0 (z.tm (v, _) (by simp))
    · have e : b = a := by simpa [excR] using hb
      rw [e]; exact hg
    · have h1 : (N.take ps.length).length = ps.length := by rw [S0'.pre]
      rw [List.length_take] at h1
      simp
      omega
def rCountL (K : FK) : V → List V → Hp → VK → Prop := fun x xs H Q => ∃ (a : Addr) (ys : List V) (y : V), x = V.ref a ∧ xs = [y] ∧ SqL K H a ys ∧ flatV y = true ∧ ys.all flatV = true ∧ Q (.int ((ys.countP fun z => eqV z y : Nat) : Int)) H
theorem countU {y : V} : ∀ {ys : List V} {us : List Value}, Vals ys us → ys.all flatV = true → us.countP (eqU y) = ys.countP fun z => eqV z y
  | _, _, .nil, _ => rfl
  | z :: zs, u :: us, .cons r t, f => by
    rw [List.all_cons, Bool.and_eq_true] at f
    rw [List.countP_cons, List.countP_cons, countU t f.2, eqU_of r f.1]
theorem mt_lcount {X : Cx} : MtR X "list.count" (rCountL X.K) := by
  intro pins s σ H x xs v us Q I rx rxs h
  obtain ⟨a, ys, y, rfl, rfl, hs, fy, fys, q⟩ := h
  cases rx
  cases rxs with
  | cons ry rt =>
    rename_i uy ut
    cases rt
    obtain ⟨its, rv, ⟨⟨cls, dd, data, sl⟩, n, ho, hc, hdn, hd⟩, hlen⟩ := I.list hs
    simp only at hc hd
    subst hc hd
    refine call_meets PySem.F.slot_list_count ⟨_, ho, rfl⟩ PySem.F.entry_list_count (PySem.F.args_list_count_2 _ _)
      (SeqAt.list_countAt a its.toArray n dd sl uy (eqU y)) ⟨ho, fun u' hu' => mem_eqAt ry fy rv fys u' (by simpa using hu'), ?_⟩
    have e : (its.toArray.toList.countP (eqU y)) = ys.countP fun z => eqV z y := by
      rw [List.toList_toArray]; exact countU rv fys
    rw [e]
    exact ⟨.int _, H, I.tok _, ⟨_, rfl⟩, q⟩
theorem DaL.countP {K : FK} {G : Hp} {u : V} {y : DD} (hu : Da K G u y) (fy : flatD y = true) : ∀ {xs : List V} {ds : List DD}, DaL K G xs ds → ds.all flatD = true → (xs.countP fun z => eqV z u) = ds.countP fun z => PyData.eqv z y
  | _, _, .nil, _ => rfl
  | _, _, .cons h t, f => by
    rw [List.all_cons, Bool.and_eq_true] at f
    rw [List.countP_cons, List.countP_cons, DaL.countP hu fy t f.2, h.eqV hu f.1 fy]
theorem ev_count {K : FK} {B : Bs} {Γ : List Sl} {te to : TE} {y : DD} {ds : List DD} (h : EvD K B to Γ (.list ds)) (h2 : EvD K B te Γ y) (fy : flatD y = true) (fd : ds.all flatD = true) :
    EvD K B (tBM K "list" (rCountL K) to (tCons te tNil)) Γ (.int ((ds.countP fun z => PyData.eqv z y : Nat) : Int)) := fun F σ H s Q q =>
  h F σ H s _ fun v d' H1 e1 s1 => by
    subst e1
    obtain ⟨G1, z1⟩ := id s1
    obtain ⟨a, xs, rfl, ha, hs⟩ := (z1.tm (v, .list ds) (by simp)).lst_inv
    refine ⟨.inl ⟨rfl, xs, SqL.of (z1.ex _ _ ha)⟩, ?_⟩
    refine h2 _ σ H1 s1 _ fun u d2 H2 e2 s2 => ?_
    subst e2
    obtain ⟨G2, z2⟩ := id s2
    obtain ⟨a', xs', ee, ha', hs'⟩ := (z2.tm (.ref a, .list ds) (by simp)).lst_inv
    cases ee
    have hu := z2.tm (u, d2) (by simp)
    refine ⟨a, xs', u, rfl, rfl, SqL.of (z2.ex _ _ ha'), by rw [hu.flat]; exact fy, by rw [hs'.flat]; exact fd, ?_⟩
    rw [hs'.countP hu fy fd]
    exact q _ _ H2 rfl ((s2.drop (T' := F.T) fun p hp => by simp [hp]).c fun _ => .int _)
section
variable {K : FK} {B : Bs} {Γ : List Sl} {ta tb : TE}
theorem rgV_da {G : Hp} (a b : Int) : DaL K G (rgV a b) ((intsF a (b - a).toNat).map .int) := by
  have e : rgV a b = (intsF a (b - a).toNat).map V.int := by
    unfold rgV intsF
    rw [List.map_map]; rfl
  rw [e]
  exact DaL.ofInts _
theorem S.lay {F : Fra} {σ : L2.St} {H : Hp} {p : Addr} {xs : List V} {ds : List DD} (s : S K B Γ F σ H) (hp : H p = none) (hd : ∀ G, DaL K G xs ds) : S K B Γ (F.res1 (.ref p) (lstR p ds)) σ (upd H p (.lst xs)) := by
  obtain ⟨G, z⟩ := s
  exact ⟨G, z.newLst hp (hd G)⟩
theorem en_listRg2 {a b : Int} (ha : EvD K B ta Γ (.int a)) (hb : EvD K B tb Γ (.int b)) (ok : RgOk a b) : EvND K B (tLstRg (tRg2 ta tb)) Γ ((intsF a (b - a).toNat).map .int) := fun F σ H s Q q =>
  ha F σ H s _ fun v d H1 e1 s1 => hb _ σ H1 s1 _ fun u d2 H2 e2 s2 => by
    subst e1 e2
    obtain ⟨G, z⟩ := id s2
    refine ⟨a, b, (z.tm (v, .int a) (by simp)).int_inv, (z.tm (u, .int b) (by simp)).int_inv, ok, fun p hp => q p _ _ rfl (z.notLent hp) ?_⟩
    exact (s2.drop (T' := F.T) fun p hp => by simp [hp]).lay hp fun _ => rgV_da a b
theorem en_listRg1 {b : Int} (hb : EvD K B tb Γ (.int b)) (ok : RgOk 0 b) : EvND K B (tLstRg (tRg1 tb)) Γ ((intsF 0 b.toNat).map .int) := fun F σ H s Q q =>
  hb _ σ H s _ fun u d2 H2 e2 s2 => by
    subst e2
    obtain ⟨G, z⟩ := id s2
    refine ⟨b, (z.tm (u, .int b) (by simp)).int_inv, ok, fun p hp => q p _ _ rfl (z.notLent hp) ?_⟩
    have := (s2.drop (T' := F.T) fun p hp => by simp [hp]).lay hp fun G => rgV_da (K := K) (G := G) 0 b
    rw [Int.sub_zero] at this
    exact this
end
theorem ev_neB {K : FK} {B : Bs} {Γ : List Sl} {ta tb : TE} {a b : Bool} (ha : EvD K B ta Γ (.bool a)) (hb : EvD K B tb Γ (.bool b)) : EvD K B (tOp rNe ta tb) Γ (.bool (!decide (a = b))) :=
  ev_op ha hb fun v u G H hv hu e Q q => by
    rw [hv.bl_inv, hu.bl_inv]
    refine ⟨rfl, ?_⟩
    have : decide (V.bl a = V.bl b) = decide (a = b) := by simp
    rw [this]
    exact q _ G H (Grow.refl e) (.bl _)
end Ly

namespace Ly
open PySem PySem.Spec PyProof.Rows L2
theorem funD_fun {K : FK} {x qual : Str} {st : Stmt} {f : Addr} {fd : FuncData} (F : FunD K x qual (defArgs st) (defBody st) (defScope st) [] [] f fd) : Fun K x qual st f fd := by
  obtain ⟨⟨oc, od, dV, kV, doc, pm, an, cdv, ct, osl, e, l, c, d, _⟩, kp⟩ := F
  rcases d with ⟨_, d⟩ | ⟨d, _⟩
  · subst d
    exact ⟨⟨oc, od, kV, doc, pm, an, cdv, ct, osl, e, l, c⟩, kp⟩
  · exact absurd rfl d
/-- data of the written part -/
def kdd (K : FK) : Nat → DD → Value → Bool
  | 0, _, _ => false
  | n + 1, d, u => match d with
    | .none => (match u with | .none => true | _ => false)
    | .bool b => (match u with | .bool c => b == c | _ => false)
    | .int i => (match u with | .int j _ => decide (i = j) | _ => false)
    | .str x => (match u with | .str y _ => decide (x = y) | _ => false)
    | .tuple ds => (match u with
      | .ref a => (match K.lookup a with
        | some ⟨.type c, _, .seq its _, _⟩ => decide (c = "tuple") && (decide (its.size ≤ sizeLine) && (decide (ds.length = its.toList.length) && (ds.zip its.toList).all fun p => kdd K n p.1 p.2))
        | _ => false)
      | _ => false)
    | _ => false
theorem kdd_all {K : FK} {n : Nat} (ih : ∀ d u, kdd K n d u = true → ∃ v, RelV v u ∧ ∀ G, Da K G v d) : ∀ (ds : List DD) (us : List Value), ds.length = us.length → ((ds.zip us).all fun p => kdd K n p.1 p.2) = true → ∃ vs, Vals vs us ∧ ∀ G, DaL K G vs ds
  | [], [], _, _ => ⟨[], .nil, fun _ => .nil⟩
  | [], _ :: _, e, _ => by cases e
  | _ :: _, [], e, _ => by cases e
  | d :: ds, u :: us, e, h => by
    rw [List.zip_cons_cons, List.all_cons, Bool.and_eq_true] at h
    obtain ⟨v, h1, h2⟩ := ih d u h.1
    obtain ⟨vs, h3, h4⟩ := kdd_all ih ds us (Nat.succ.inj e) h.2
    exact ⟨v :: vs, .cons h1 h3, fun G => .cons (h2 G) (h4 G)⟩
theorem kdd_ok {K : FK} : ∀ (n : Nat) (d : DD) (u : Value), kdd K n d u = true → ∃ v, RelV v u ∧ ∀ G, Da K G v d
  | 0, _, _, h => by cases h
  | n + 1, d, u, h => by
    cases d with
    | none => cases u <;> first | exact ⟨.non, rfl, fun _ => .non⟩ | cases h
    | bool b =>
      cases u with
      | bool c =>
        have e : b = c := eq_of_beq (show (b == c) = true from h)
        exact ⟨.bl b, by rw [e]; rfl, fun _ => .bl b⟩
      | _ => cases h
    | int i =>
      cases u with
      | int j t =>
        have e : i = j := of_decide_eq_true h
        exact ⟨.int i, ⟨t, by rw [e]⟩, fun _ => .int i⟩
      | _ => cases h
    | str i =>
      cases u with
      | str j t =>
        have e : i = j := of_decide_eq_true h
        exact ⟨.str i, ⟨t, by rw [e]⟩, fun _ => .str i⟩
      | _ => cases h
    | tuple ds =>
      cases u with
      | ref a =>
        have h' : (match K.lookup a with
          | some ⟨.type c, _, .seq its _, _⟩ => decide (c = "tuple") && (decide (its.size ≤ sizeLine) && (decide (ds.length = its.toList.length) && (ds.zip its.toList).all fun p => kdd K n p.1 p.2))
          | _ => false) = true := h
        cases q : K.lookup a with
        | none => rw [q] at h'; cases h'
        | some o =>
          obtain ⟨oc, od, dt, osl⟩ := o
          rw [q] at h'
          cases oc with
          | type c =>
            cases dt with
            | seq its m =>
              have h2 : (decide (c = "tuple") && (decide (its.size ≤ sizeLine) && (decide (ds.length = its.toList.length) && (ds.zip its.toList).all fun p => kdd K n p.1 p.2))) = true := h'
              simp only [Bool.and_eq_true, decide_eq_true_eq] at h2
              obtain ⟨h3, h4, h5, h6⟩ := h2
              obtain ⟨vs, h7, h8⟩ := kdd_all (kdd_ok n) ds its.toList h5 h6
              exact ⟨.ref a, rfl, fun G => .tup (.inr ⟨_, its, m, q, congrArg Value.type h3, rfl, h4, h7⟩) (h8 G)⟩
            | _ => cases h'
          | _ => cases dt <;> cases h'
      | _ => cases h
    | list ds => cases u <;> cases h
    | dict ds => cases u <;> cases h
def conB (K : FK) (x : Str) (d : DD) : Bool := kdd K 6 d (.ref (He.ga K x))
theorem con_ok {K : FK} {x : Str} {d : DD} (h : conB K x d = true) : ∀ G, Da K G (.ref (He.ga K x)) d := by
  obtain ⟨v, h1, h2⟩ := kdd_ok 6 d _ h
  have e : v = .ref (He.ga K x) := by
    cases v with
    | ref a => cases (show Value.ref (He.ga K x) = Value.ref a from h1); rfl
    | non => cases (show Value.ref (He.ga K x) = Value.none from h1)
    | bl b => cases (show Value.ref (He.ga K x) = Value.bool b from h1)
    | int i => obtain ⟨t, z⟩ := h1; cases z
    | str i => obtain ⟨t, z⟩ := h1; cases z
    | byt i => obtain ⟨t, z⟩ := h1; cases z
    | flt i => obtain ⟨t, z⟩ := h1; cases z
    | ty n => cases (show Value.ref (He.ga K x) = Value.type n from h1)
  rw [← e]; exact h2
end Ly

set_option maxHeartbeats 4000000
namespace Pf
open PySem PySem.Spec PyProof.Rows L2 Ly

local macro_rules | `(tactic| walk_at "zz_sh") => `(tactic| first | exact (ok_ints (n := 0) _).shaped | exact (ok_sdd _).shaped | exact (ok_rows _).shaped)
local macro_rules | `(tactic| walk_at "zz_ob") => `(tactic| first | assumption | walk_at "zz_sh" | omega | decide | (constructor <;> omega) | (simp_all <;> done) | (simp_all <;> omega))
local macro_rules | `(tactic| walk_at "zz_leaf") => `(tactic| first | rfl | (simp_all <;> done) | (simp_all <;> omega))
local macro_rules | `(tactic| walk_at "zz_no") => `(tactic| first | omega | (simp_all <;> done) | (simp_all <;> omega))
def tS (i : Nat) : Stmt := PySem.Challenge.pw_carriedrests_k08_whole_singles.main.body.getD i (.Pass ⟨0, 0, 0, 0⟩)
structure Tx (K : FK) (mg : Str → Option Value) where
  f_is_int : Addr
  d_is_int : FuncData
  F_is_int : Fun K "is_int" "is_int" (tS 8) f_is_int d_is_int
  g_is_int : mg "is_int" = some (.ref f_is_int)
  f_lowest : Addr
  d_lowest : FuncData
  F_lowest : Fun K "lowest" "lowest" (tS 9) f_lowest d_lowest
  g_lowest : mg "lowest" = some (.ref f_lowest)
  f_nearer : Addr
  d_nearer : FuncData
  F_nearer : Fun K "nearer" "nearer" (tS 11) f_nearer d_nearer
  g_nearer : mg "nearer" = some (.ref f_nearer)
  f_brought_to : Addr
  d_brought_to : FuncData
  F_brought_to : Fun K "brought_to" "brought_to" (tS 12) f_brought_to d_brought_to
  g_brought_to : mg "brought_to" = some (.ref f_brought_to)
  f_bring : Addr
  d_bring : FuncData
  F_bring : Fun K "bring" "bring" (tS 13) f_bring d_bring
  g_bring : mg "bring" = some (.ref f_bring)
  f_is_word : Addr
  d_is_word : FuncData
  F_is_word : Fun K "is_word" "is_word" (tS 18) f_is_word d_is_word
  g_is_word : mg "is_word" = some (.ref f_is_word)
  f_is_way : Addr
  d_is_way : FuncData
  F_is_way : Fun K "is_way" "is_way" (tS 19) f_is_way d_is_way
  g_is_way : mg "is_way" = some (.ref f_is_way)
  f_check_way : Addr
  d_check_way : FuncData
  F_check_way : Fun K "check_way" "check_way" (tS 20) f_check_way d_check_way
  g_check_way : mg "check_way" = some (.ref f_check_way)
  f_brought : Addr
  d_brought : FuncData
  F_brought : Fun K "brought" "brought" (tS 24) f_brought d_brought
  g_brought : mg "brought" = some (.ref f_brought)
  f_unmirrored : Addr
  d_unmirrored : FuncData
  F_unmirrored : Fun K "unmirrored" "unmirrored" (tS 25) f_unmirrored d_unmirrored
  g_unmirrored : mg "unmirrored" = some (.ref f_unmirrored)
  f_mirrored : Addr
  d_mirrored : FuncData
  F_mirrored : Fun K "mirrored" "mirrored" (tS 26) f_mirrored d_mirrored
  g_mirrored : mg "mirrored" = some (.ref f_mirrored)
  f_first_unmirrored : Addr
  d_first_unmirrored : FuncData
  F_first_unmirrored : Fun K "first_unmirrored" "first_unmirrored" (tS 27) f_first_unmirrored d_first_unmirrored
  g_first_unmirrored : mg "first_unmirrored" = some (.ref f_first_unmirrored)
  f_spoiled : Addr
  d_spoiled : FuncData
  F_spoiled : Fun K "spoiled" "spoiled" (tS 28) f_spoiled d_spoiled
  g_spoiled : mg "spoiled" = some (.ref f_spoiled)
  f_at_once : Addr
  d_at_once : FuncData
  F_at_once : Fun K "at_once" "at_once" (tS 29) f_at_once d_at_once
  g_at_once : mg "at_once" = some (.ref f_at_once)
  f_errors_of : Addr
  d_errors_of : FuncData
  F_errors_of : Fun K "errors_of" "errors_of" (tS 30) f_errors_of d_errors_of
  g_errors_of : mg "errors_of" = some (.ref f_errors_of)
  f_mean_error : Addr
  d_mean_error : FuncData
  F_mean_error : Fun K "mean_error" "mean_error" (tS 31) f_mean_error d_mean_error
  g_mean_error : mg "mean_error" = some (.ref f_mean_error)
  f__law_start : Addr
  d__law_start : FuncData
  F__law_start : Fun K "_law_start" "_law_start" (tS 33) f__law_start d__law_start
  g__law_start : mg "_law_start" = some (.ref f__law_start)
  f__law_draw : Addr
  d__law_draw : FuncData
  F__law_draw : Fun K "_law_draw" "_law_draw" (tS 34) f__law_draw d__law_draw
  g__law_draw : mg "_law_draw" = some (.ref f__law_draw)
  f__law_pick : Addr
  d__law_pick : FuncData
  F__law_pick : Fun K "_law_pick" "_law_pick" (tS 35) f__law_pick d__law_pick
  g__law_pick : mg "_law_pick" = some (.ref f__law_pick)
  f__law_error : Addr
  d__law_error : FuncData
  F__law_error : Fun K "_law_error" "_law_error" (tS 36) f__law_error d__law_error
  g__law_error : mg "_law_error" = some (.ref f__law_error)
  f__law_true : Addr
  d__law_true : FuncData
  F__law_true : Fun K "_law_true" "_law_true" (tS 37) f__law_true d__law_true
  g__law_true : mg "_law_true" = some (.ref f__law_true)
  f__law_low : Addr
  d__law_low : FuncData
  F__law_low : Fun K "_law_low" "_law_low" (tS 38) f__law_low d__law_low
  g__law_low : mg "_law_low" = some (.ref f__law_low)
  f__law_steps : Addr
  d__law_steps : FuncData
  F__law_steps : Fun K "_law_steps" "_law_steps" (tS 39) f__law_steps d__law_steps
  g__law_steps : mg "_law_steps" = some (.ref f__law_steps)
  f__law_modes : Addr
  d__law_modes : FuncData
  F__law_modes : Fun K "_law_modes" "_law_modes" (tS 40) f__law_modes d__law_modes
  g__law_modes : mg "_law_modes" = some (.ref f__law_modes)
  f__law_way : Addr
  d__law_way : FuncData
  F__law_way : Fun K "_law_way" "_law_way" (tS 41) f__law_way d__law_way
  g__law_way : mg "_law_way" = some (.ref f__law_way)
  f__law_at : Addr
  d__law_at : FuncData
  F__law_at : Fun K "_law_at" "_law_at" (tS 42) f__law_at d__law_at
  g__law_at : mg "_law_at" = some (.ref f__law_at)
  f__law_bring : Addr
  d__law_bring : FuncData
  F__law_bring : Fun K "_law_bring" "_law_bring" (tS 43) f__law_bring d__law_bring
  g__law_bring : mg "_law_bring" = some (.ref f__law_bring)
  f__law_call : Addr
  d__law_call : FuncData
  F__law_call : Fun K "_law_call" "_law_call" (tS 44) f__law_call d__law_call
  g__law_call : mg "_law_call" = some (.ref f__law_call)
  f__law_known : Addr
  d__law_known : FuncData
  F__law_known : Fun K "_law_known" "_law_known" (tS 45) f__law_known d__law_known
  g__law_known : mg "_law_known" = some (.ref f__law_known)
  f_law : Addr
  d_law : FuncData
  F_law : Fun K "law" "law" (tS 46) f_law d_law
  g_law : mg "law" = some (.ref f_law)
  a_STEPS : Addr
  g_STEPS : mg "STEPS" = some (.ref a_STEPS)
  k_STEPS : ∀ G, Da K G (.ref a_STEPS) (.tuple [.tuple [.int 2, .int 1], .tuple [.int 3, .int 1], .tuple [.int 4, .int 1], .tuple [.int 4, .int 2], .tuple [.int 6, .int 1], .tuple [.int 6, .int 2], .tuple [.int 6, .int 3]])
  a_MODES : Addr
  g_MODES : mg "MODES" = some (.ref a_MODES)
  k_MODES : ∀ G, Da K G (.ref a_MODES) (.tuple [.str "down", .str "up", .str "in", .str "out", .str "neardown", .str "nearup", .str "nearin", .str "nearout", .str "neareven", .str "nearodd"])
  a_CARRIES : Addr
  g_CARRIES : mg "CARRIES" = some (.ref a_CARRIES)
  k_CARRIES : ∀ G, Da K G (.ref a_CARRIES) (.tuple [.str "none", .str "all", .str "signs", .str "pairs"])
  t_ROUND : Tok
  g_ROUND : mg "ROUND" = some (.int (24) t_ROUND)
  t_WIDEST_VALUE : Tok
  g_WIDEST_VALUE : mg "WIDEST_VALUE" = some (.int (60) t_WIDEST_VALUE)
  m_ValueError : mg "ValueError" = none
  m_abs : mg "abs" = none
  m_bool : mg "bool" = none
  m_int : mg "int" = none
  m_isinstance : mg "isinstance" = none
  m_len : mg "len" = none
  m_list : mg "list" = none
  m_max : mg "max" = none
  m_min : mg "min" = none
  m_range : mg "range" = none
  m_str : mg "str" = none
  m_sum : mg "sum" = none
  m_tuple : mg "tuple" = none
  g_RestError : mg "RestError" = some (.ref (He.ga K "RestError"))
  g_BadWay : mg "BadWay" = some (.ref (He.ga K "BadWay"))
  g_BadRow : mg "BadRow" = some (.ref (He.ga K "BadRow"))
  g_BadWritten : mg "BadWritten" = some (.ref (He.ga K "BadWritten"))
  g_BadNumber : mg "BadNumber" = some (.ref (He.ga K "BadNumber"))
  g_BadText : mg "BadText" = some (.ref (He.ga K "BadText"))
  g_NotFound : mg "NotFound" = some (.ref (He.ga K "NotFound"))
  ks : kitsB K = true
theorem b_is_int {K : FK} {mg : Str → Option Value} (T : Tx K mg) : Binds K T.d_is_int ["value", "low", "high"] [] := T.F_is_int.binds fun _ _ _ _ _ _ us hl => match us, hl with | [_, _, _], _ => rfl
theorem b_lowest {K : FK} {mg : Str → Option Value} (T : Tx K mg) : Binds K T.d_lowest ["top", "bottom"] [] := T.F_lowest.binds fun _ _ _ _ _ _ us hl => match us, hl with | [_, _], _ => rfl
theorem b_nearer {K : FK} {mg : Str → Option Value} (T : Tx K mg) : Binds K T.d_nearer ["low", "high", "mode", "step"] [] := T.F_nearer.binds fun _ _ _ _ _ _ us hl => match us, hl with | [_, _, _, _], _ => rfl
theorem b_brought_to {K : FK} {mg : Str → Option Value} (T : Tx K mg) : Binds K T.d_brought_to ["value", "step", "mode"] [] := T.F_brought_to.binds fun _ _ _ _ _ _ us hl => match us, hl with | [_, _, _], _ => rfl
theorem b_bring {K : FK} {mg : Str → Option Value} (T : Tx K mg) : Binds K T.d_bring ["way", "value"] [] := T.F_bring.binds fun _ _ _ _ _ _ us hl => match us, hl with | [_, _], _ => rfl
theorem b_is_word {K : FK} {mg : Str → Option Value} (T : Tx K mg) : Binds K T.d_is_word ["value", "words"] [] := T.F_is_word.binds fun _ _ _ _ _ _ us hl => match us, hl with | [_, _], _ => rfl
theorem b_is_way {K : FK} {mg : Str → Option Value} (T : Tx K mg) : Binds K T.d_is_way ["value"] [] := T.F_is_way.binds fun _ _ _ _ _ _ us hl => match us, hl with | [_], _ => rfl
theorem b_check_way {K : FK} {mg : Str → Option Value} (T : Tx K mg) : Binds K T.d_check_way ["value"] [] := T.F_check_way.binds fun _ _ _ _ _ _ us hl => match us, hl with | [_], _ => rfl
theorem b_brought {K : FK} {mg : Str → Option Value} (T : Tx K mg) : Binds K T.d_brought ["way", "value"] [] := T.F_brought.binds fun _ _ _ _ _ _ us hl => match us, hl with | [_, _], _ => rfl
theorem b_unmirrored {K : FK} {mg : Str → Option Value} (T : Tx K mg) : Binds K T.d_unmirrored ["way"] [] := T.F_unmirrored.binds fun _ _ _ _ _ _ us hl => match us, hl with | [_], _ => rfl
theorem b_mirrored {K : FK} {mg : Str → Option Value} (T : Tx K mg) : Binds K T.d_mirrored ["way"] [] := T.F_mirrored.binds fun _ _ _ _ _ _ us hl => match us, hl with | [_], _ => rfl
theorem b_first_unmirrored {K : FK} {mg : Str → Option Value} (T : Tx K mg) : Binds K T.d_first_unmirrored ["way"] [] := T.F_first_unmirrored.binds fun _ _ _ _ _ _ us hl => match us, hl with | [_], _ => rfl
theorem b_spoiled {K : FK} {mg : Str → Option Value} (T : Tx K mg) : Binds K T.d_spoiled ["way"] [] := T.F_spoiled.binds fun _ _ _ _ _ _ us hl => match us, hl with | [_], _ => rfl
theorem b_at_once {K : FK} {mg : Str → Option Value} (T : Tx K mg) : Binds K T.d_at_once ["way"] [] := T.F_at_once.binds fun _ _ _ _ _ _ us hl => match us, hl with | [_], _ => rfl
theorem b_errors_of {K : FK} {mg : Str → Option Value} (T : Tx K mg) : Binds K T.d_errors_of ["way"] [] := T.F_errors_of.binds fun _ _ _ _ _ _ us hl => match us, hl with | [_], _ => rfl
theorem b_mean_error {K : FK} {mg : Str → Option Value} (T : Tx K mg) : Binds K T.d_mean_error ["way"] [] := T.F_mean_error.binds fun _ _ _ _ _ _ us hl => match us, hl with | [_], _ => rfl
theorem b__law_start {K : FK} {mg : Str → Option Value} (T : Tx K mg) : Binds K T.d__law_start ["script"] [] := T.F__law_start.binds fun _ _ _ _ _ _ us hl => match us, hl with | [_], _ => rfl
theorem b__law_draw {K : FK} {mg : Str → Option Value} (T : Tx K mg) : Binds K T.d__law_draw ["draws", "limit"] [] := T.F__law_draw.binds fun _ _ _ _ _ _ us hl => match us, hl with | [_, _], _ => rfl
theorem b__law_pick {K : FK} {mg : Str → Option Value} (T : Tx K mg) : Binds K T.d__law_pick ["draws", "choices"] [] := T.F__law_pick.binds fun _ _ _ _ _ _ us hl => match us, hl with | [_, _], _ => rfl
theorem b__law_error {K : FK} {mg : Str → Option Value} (T : Tx K mg) : Binds K T.d__law_error ["caught"] [] := T.F__law_error.binds fun _ _ _ _ _ _ us hl => match us, hl with | [_], _ => rfl
theorem b__law_true {K : FK} {mg : Str → Option Value} (T : Tx K mg) : Binds K T.d__law_true ["value", "expected"] [] := T.F__law_true.binds fun _ _ _ _ _ _ us hl => match us, hl with | [_, _], _ => rfl
theorem b__law_low {K : FK} {mg : Str → Option Value} (T : Tx K mg) : Binds K T.d__law_low ["top", "under"] [] := T.F__law_low.binds fun _ _ _ _ _ _ us hl => match us, hl with | [_, _], _ => rfl
theorem b__law_steps {K : FK} {mg : Str → Option Value} (T : Tx K mg) : Binds K T.d__law_steps [] [] := T.F__law_steps.binds fun _ _ _ _ _ _ us hl => match us, hl with | [], _ => rfl
theorem b__law_modes {K : FK} {mg : Str → Option Value} (T : Tx K mg) : Binds K T.d__law_modes [] [] := T.F__law_modes.binds fun _ _ _ _ _ _ us hl => match us, hl with | [], _ => rfl
theorem b__law_way {K : FK} {mg : Str → Option Value} (T : Tx K mg) : Binds K T.d__law_way ["draws"] [] := T.F__law_way.binds fun _ _ _ _ _ _ us hl => match us, hl with | [_], _ => rfl
theorem b__law_at {K : FK} {mg : Str → Option Value} (T : Tx K mg) : Binds K T.d__law_at ["value", "step", "mode"] [] := T.F__law_at.binds fun _ _ _ _ _ _ us hl => match us, hl with | [_, _, _], _ => rfl
theorem b__law_bring {K : FK} {mg : Str → Option Value} (T : Tx K mg) : Binds K T.d__law_bring ["way", "value"] [] := T.F__law_bring.binds fun _ _ _ _ _ _ us hl => match us, hl with | [_, _], _ => rfl
theorem b__law_call {K : FK} {mg : Str → Option Value} (T : Tx K mg) : Binds K T.d__law_call ["kind", "way"] [] := T.F__law_call.binds fun _ _ _ _ _ _ us hl => match us, hl with | [_, _], _ => rfl
theorem b__law_known {K : FK} {mg : Str → Option Value} (T : Tx K mg) : Binds K T.d__law_known ["draws", "way"] [] := T.F__law_known.binds fun _ _ _ _ _ _ us hl => match us, hl with | [_, _], _ => rfl
theorem b_law {K : FK} {mg : Str → Option Value} (T : Tx K mg) : Binds K T.d_law ["script"] [] := T.F_law.binds fun _ _ _ _ _ _ us hl => match us, hl with | [_], _ => rfl

def nearerS (low high : Int) (mode : Str) (step : Int) : Int :=
  if decide (mode = "neardown") then low else if decide (mode = "nearup") then high else
  if inD (.str mode) [.str "neareven", .str "nearodd"] then
    (if decide (mode = "neareven") then (if decide (low / step % 2 = 0) then low else high) else (if decide ((if decide (low / step % 2 = 0) then low else high) = low) then high else low))
  else if decide (mode = "nearin") then (if decide (0 ≤ low) then low else high) else (if decide (0 ≤ low) then high else low)
def fNearer (ds : List DD) (r : DD) : Prop := ∃ low high mode step, ds = [.int low, .int high, .str mode, .int step] ∧ 0 < step ∧ step < 1000 ∧ r = .int (nearerS low high mode step)
theorem mk_nearer {low high step : Int} {mode : Str} (h1 : 0 < step) (h2 : step < 1000) : fNearer [.int low, .int high, .str mode, .int step] (.int (nearerS low high mode step)) := ⟨_, _, _, _, rfl, h1, h2, rfl⟩
def btS (value step : Int) (mode : Str) : Int :=
  let low := value / step * step
  let high := if decide (low = value) then low else low + step
  if decide (mode = "down") then low else if decide (mode = "up") then high else
  if inD (.str mode) [.str "in", .str "out"] then (if decide (decide (0 ≤ value) = decide (mode = "in")) then low else high) else
  if !decide (value - low = high - value) then (if decide (value - low < high - value) then low else high) else
  if !decide (low = high) then nearerS low high mode step else low
def fBt (ds : List DD) (r : DD) : Prop := ∃ value step mode, ds = [.int value, .int step, .str mode] ∧ 0 < step ∧ step < 1000 ∧ r = .int (btS value step mode)
theorem mk_brought_to {value step : Int} {mode : Str} (h1 : 0 < step) (h2 : step < 1000) : fBt [.int value, .int step, .str mode] (.int (btS value step mode)) := ⟨_, _, _, rfl, h1, h2, rfl⟩
/-- a way as the text has it -/
structure Wy where
  step : Int
  finer : Int
  mode : Str
  carry : Str
def Wy.ok (w : Wy) : Prop := 0 < w.step ∧ w.step < 1000 ∧ 0 < w.finer ∧ w.finer < 1000
def Wy.dd (w : Wy) : DD := .tuple [.int w.step, .int w.finer, .str w.mode, .str w.carry]
def brS (w : Wy) (v : Int) : Int := btS (btS v w.finer w.mode) w.step w.mode
def fBring (ds : List DD) (r : DD) : Prop := ∃ (w : Wy) (v : Int), ds = [w.dd, .int v] ∧ w.ok ∧ r = .int (brS w v)
theorem mk_bring {w : Wy} {v : Int} (h : w.ok) : fBring [w.dd, .int v] (.int (brS w v)) := ⟨_, _, rfl, h, rfl⟩
abbrev S3 := Int × Int × Int
def sdd (s : S3) : DD := .tuple [.int s.1, .int s.2.1, .int s.2.2]
def wrS (w : Wy) (s : S3) (n : Int) : Int × S3 :=
  let used := if (decide (w.carry = "signs") && decide (n < 0)) then s.2.1 else s.1
  let told := brS w (n + used)
  let left := n + used - told
  (told, if decide (w.carry = "none") then s else if decide (w.carry = "all") then (left, 0, 0) else if decide (w.carry = "pairs") then (if decide (s.2.2 = 0) then (left, 0, 1) else (0, 0, 0))
    else if decide (n < 0) then (s.1, left, 0) else (left, s.2.1, 0))
def fWrite (ds : List DD) (r : DD) : Prop := ∃ (w : Wy) (s : S3) (n : Int), ds = [w.dd, sdd s, .int n] ∧ w.ok ∧ r = .tuple [.int (wrS w s n).1, sdd (wrS w s n).2]
theorem mk_write {w : Wy} {s : S3} {n : Int} (h : w.ok) : fWrite [w.dd, sdd s, .int n] (.tuple [.int (wrS w s n).1, sdd (wrS w s n).2]) := ⟨_, _, _, rfl, h, rfl⟩

def isIntB (d : DD) (lo hi : Int) : Bool := match d with
  | .int v => decide (lo ≤ v) && decide (v ≤ hi)
  | _ => false
def fIsInt (ds : List DD) (r : DD) : Prop := ∃ d lo hi, ds = [d, .int lo, .int hi] ∧ r = .bool (isIntB d lo hi)
theorem mk_is_int {d : DD} {lo hi : Int} : fIsInt [d, .int lo, .int hi] (.bool (isIntB d lo hi)) := ⟨_, _, _, rfl, rfl⟩
def isNumB (d : DD) : Bool := isIntB d (-4) 4
def fIsNum (ds : List DD) (r : DD) : Prop := ∃ d, ds = [d] ∧ r = .bool (isNumB d)
theorem mk_is_number {d : DD} : fIsNum [d] (.bool (isNumB d)) := ⟨_, rfl, rfl⟩
def isRowB (d : DD) : Bool := match d with
  | .list ds => decide ((ds.length : Int) ≤ 30) && (ds.map isNumB).all id
  | _ => false
def fIsRow (ds : List DD) (r : DD) : Prop := ∃ d, ds = [d] ∧ r = .bool (isRowB d)
theorem mk_is_row {d : DD} : fIsRow [d] (.bool (isRowB d)) := ⟨_, rfl, rfl⟩
def fCheckRow (ds : List DD) (r : DD) : Prop := ∃ d, ds = [d] ∧ isRowB d = true ∧ r = .none
theorem mk_check_row {d : DD} (h : isRowB d = true) : fCheckRow [d] .none := ⟨_, rfl, h, rfl⟩
def isWordB (d : DD) (ws : List Str) : Bool := match d with
  | .str x => inD (.str x) (ws.map .str)
  | _ => false
def fIsWord (ds : List DD) (r : DD) : Prop := ∃ d ws, ds = [d, .tuple (ws.map .str)] ∧ r = .bool (isWordB d ws)
theorem mk_is_word {d : DD} (ws : List Str) {ws' : List DD} (h : ws' = ws.map .str) : fIsWord [d, .tuple ws'] (.bool (isWordB d ws)) := ⟨d, ws, by rw [h], rfl⟩
def stepsD : List DD := [.tuple [.int 2, .int 1], .tuple [.int 3, .int 1], .tuple [.int 4, .int 1], .tuple [.int 4, .int 2], .tuple [.int 6, .int 1], .tuple [.int 6, .int 2], .tuple [.int 6, .int 3]]
def modesS : List Str := ["down", "up", "in", "out", "neardown", "nearup", "nearin", "nearout", "neareven", "nearodd"]
def carriesS : List Str := ["none", "all", "signs", "pairs"]
def isWayB (d : DD) : Bool := match d with
  | .tuple [a, b, c, e] => (isIntB a 2 6 && (isIntB b 1 3 && inD (.tuple [a, b]) stepsD)) && (isWordB c modesS && isWordB e carriesS)
  | _ => false
def fIsWay (ds : List DD) (r : DD) : Prop := ∃ d, ds = [d] ∧ r = .bool (isWayB d)
theorem mk_is_way {d : DD} : fIsWay [d] (.bool (isWayB d)) := ⟨_, rfl, rfl⟩
def fCheckWay (ds : List DD) (r : DD) : Prop := ∃ d, ds = [d] ∧ isWayB d = true ∧ r = .none
theorem mk_check_way {d : DD} (h : isWayB d = true) : fCheckWay [d] .none := ⟨_, rfl, h, rfl⟩
/-! rows written -/
def stE (w : Wy) (s : S3) (row : List Int) : S3 := row.foldl (fun s n => (wrS w s n).2) s
def runT (w : Wy) : S3 → List Int → List Int
  | _, [] => []
  | s, n :: r => (wrS w s n).1 :: runT w (wrS w s n).2 r
def runS (w : Wy) : S3 → List Int → List S3
  | s, [] => [s]
  | s, n :: r => s :: runS w (wrS w s n).2 r
theorem stE_snoc (w : Wy) (s : S3) (row : List Int) (n : Int) : stE w s (row ++ [n]) = (wrS w (stE w s row) n).2 := by simp [stE]
theorem runT_snoc (w : Wy) : ∀ (row : List Int) (s : S3) (n : Int), runT w s (row ++ [n]) = runT w s row ++ [(wrS w (stE w s row) n).1]
  | [], s, n => rfl
  | m :: r, s, n => by simp only [List.cons_append, runT, runT_snoc w r, stE, List.foldl_cons]
theorem runS_snoc (w : Wy) : ∀ (row : List Int) (s : S3) (n : Int), runS w s (row ++ [n]) = runS w s row ++ [(wrS w (stE w s row) n).2]
  | [], s, n => rfl
  | m :: r, s, n => by simp only [List.cons_append, runS, runS_snoc w r, stE, List.foldl_cons]
theorem runS_last (w : Wy) : ∀ (row : List Int) (s : S3), ∃ l, runS w s row = l ++ [stE w s row]
  | [], s => ⟨[], rfl⟩
  | m :: r, s => by
    obtain ⟨l, e⟩ := runS_last w r (wrS w s m).2
    exact ⟨s :: l, by simp only [runS, e, List.cons_append, stE, List.foldl_cons]⟩
theorem runT_len (w : Wy) : ∀ (row : List Int) (s : S3), (runT w s row).length = row.length
  | [], _ => rfl
  | _ :: r, s => by simp only [runT, List.length_cons, runT_len w r]
theorem runS_len (w : Wy) : ∀ (row : List Int) (s : S3), (runS w s row).length = row.length + 1
  | [], _ => rfl
  | _ :: r, s => by simp only [runS, List.length_cons, runS_len w r]
theorem atI_st (w : Wy) (s : S3) (row : List Int) : atI ((runS w s row).map sdd) (-1) = some (sdd (stE w s row)) := by
  obtain ⟨l, e⟩ := runS_last w row s
  rw [e, List.map_append]
  exact atI_last _ _
def s0 : S3 := (0, 0, 0)
def rdd (row : List Int) : DD := .list (row.map .int)
def fRun (ds : List DD) (r : DD) : Prop := ∃ (w : Wy) (row : List Int), ds = [w.dd, rdd row] ∧ w.ok ∧ row.length < 1000 ∧ r = .tuple [rdd (runT w s0 row), .list ((runS w s0 row).map sdd)]
theorem mk_run {w : Wy} {row : List Int} (h : w.ok) (h2 : row.length < 1000) : fRun [w.dd, rdd row] (.tuple [rdd (runT w s0 row), .list ((runS w s0 row).map sdd)]) := ⟨_, _, rfl, h, h2, rfl⟩
/-- a way, a row that are valid -/
structure WOk (w : Wy) : Prop where
  ok : w.ok
  is : isWayB w.dd = true
structure ROk (row : List Int) : Prop where
  len : row.length ≤ 30
  num : ∀ n ∈ row, -4 ≤ n ∧ n ≤ 4
theorem ROk.is {row : List Int} (h : ROk row) : isRowB (rdd row) = true := by
  have h1 : ((row.map PyData.int).map isNumB).all id = true := by
    rw [List.all_eq_true]
    intro b hb
    simp only [List.mem_map] at hb
    obtain ⟨d, ⟨n, hn, rfl⟩, rfl⟩ := hb
    obtain ⟨h2, h3⟩ := h.num n hn
    simp [isNumB, isIntB, h2, h3]
  have h2 : decide (((row.map PyData.int).length : Int) ≤ 30) = true := by
    rw [List.length_map]
    have := h.len
    exact decide_eq_true (by omega)
  unfold isRowB rdd
  simp only [h1, h2, Bool.and_self]
def fWritten (ds : List DD) (r : DD) : Prop := ∃ (w : Wy) (row : List Int), ds = [w.dd, rdd row] ∧ WOk w ∧ ROk row ∧ r = rdd (runT w s0 row)
theorem mk_written {w : Wy} {row : List Int} (h : WOk w) (h2 : ROk row) : fWritten [w.dd, rdd row] (rdd (runT w s0 row)) := ⟨_, _, rfl, h, h2, rfl⟩
def fStatesAlong (ds : List DD) (r : DD) : Prop := ∃ (w : Wy) (row : List Int), ds = [w.dd, rdd row] ∧ WOk w ∧ ROk row ∧ r = .list ((runS w s0 row).map sdd)
theorem mk_states_along {w : Wy} {row : List Int} (h : WOk w) (h2 : ROk row) : fStatesAlong [w.dd, rdd row] (.list ((runS w s0 row).map sdd)) := ⟨_, _, rfl, h, h2, rfl⟩
def fStateAfter (ds : List DD) (r : DD) : Prop := ∃ (w : Wy) (row : List Int), ds = [w.dd, rdd row] ∧ WOk w ∧ ROk row ∧ r = sdd (stE w s0 row)
theorem mk_state_after {w : Wy} {row : List Int} (h : WOk w) (h2 : ROk row) : fStateAfter [w.dd, rdd row] (sdd (stE w s0 row)) := ⟨_, _, rfl, h, h2, rfl⟩
def fBrought (ds : List DD) (r : DD) : Prop := ∃ (w : Wy) (v : Int), ds = [w.dd, .int v] ∧ WOk w ∧ -60 ≤ v ∧ v ≤ 60 ∧ r = .int (brS w v)
theorem mk_brought {w : Wy} {v : Int} (h : WOk w) (h2 : -60 ≤ v ∧ v ≤ 60) : fBrought [w.dd, .int v] (.int (brS w v)) := ⟨_, _, rfl, h, h2.1, h2.2, rfl⟩

theorem map_get {α β : Type} {f : α → β} {l : List α} {i : Nat} {d : β} (h : (l.map f)[i]? = some d) : ∃ n, l[i]? = some n ∧ d = f n := by
  rw [List.getElem?_map] at h
  cases e : l[i]? with
  | none => rw [e] at h; cases h
  | some n => rw [e] at h; exact ⟨n, rfl, (Option.some.inj h).symm⟩


def preDraw (ds : List DD) : Prop := ∃ n : Int, ds = [.int n] ∧ 0 < n ∧ n < 1073741824
def fDraw (ds : List DD) (r : DD) : Prop := ∃ n k : Int, ds = [.int n] ∧ r = .int k ∧ 0 ≤ k ∧ k < n
def prePick (ds : List DD) : Prop := ∃ cs : List DD, ds = [.list cs] ∧ 0 < cs.length ∧ cs.length < 1000
def fPick (ds : List DD) (r : DD) : Prop := ∃ cs : List DD, ds = [.list cs] ∧ r ∈ cs
def preNo (ds : List DD) : Prop := ds = []
theorem dr__law_draw {K : FK} {B : Bs} {Γ : List Sl} {i : Nat} {p q : Addr} {E : XK} {te : TE} {P : DD → Prop} (hi : Γ[i]? = some (.own (drwR p q))) (h : Ev K B te Γ P) (hp : ∀ d, P d → ∃ n : Int, d = .int n ∧ 0 < n ∧ n < 1073741824) :
    Ev K B (tCall (spW K preDraw fDraw) [] E (tCons (tVar i) (tCons te tNil))) Γ (fun r => ∃ n k : Int, P (.int n) ∧ r = .int k ∧ 0 ≤ k ∧ k < n) :=
  ev_callW hi (ea_consP (Ps := fun ds => ∃ d, P d ∧ ds = [d]) h ea_nil fun d ds e1 e2 => ⟨d, e1, by rw [e2]⟩) (fun ds ⟨d, hd, e⟩ => by
    obtain ⟨n, e1, h1, h2⟩ := hp d hd
    exact ⟨n, by rw [e, e1], h1, h2⟩) (fun ds r ⟨d, hd, e⟩ ⟨n, k, e1, e2, h1, h2⟩ => ⟨n, k, by
      rw [e] at e1
      cases e1
      exact hd, e2, h1, h2⟩)
theorem dr_drawD {K : FK} {B : Bs} {Γ : List Sl} {i : Nat} {p q : Addr} {E : XK} {te : TE} {n : Int} (hi : Γ[i]? = some (.own (drwR p q))) (h : EvD K B te Γ (.int n)) (h1 : 0 < n) (h2 : n < 1073741824) :
    Ev K B (tCall (spW K preDraw fDraw) [] E (tCons (tVar i) (tCons te tNil))) Γ (fun r => ∃ k : Int, r = .int k ∧ 0 ≤ k ∧ k < n) :=
  (dr__law_draw hi h fun d e => ⟨n, e, h1, h2⟩).imp fun r ⟨m, k, e, e2, h3, h4⟩ => ⟨k, e2, h3, by cases e; exact h4⟩
theorem dr_pickP {K : FK} {B : Bs} {Γ : List Sl} {i : Nat} {p q : Addr} {E : XK} {te : TE} {P : DD → Prop} (hi : Γ[i]? = some (.own (drwR p q))) (h : Ev K B te Γ P) (h1 : ∀ d, P d → ∃ cs : List DD, d = .list cs ∧ 0 < cs.length ∧ cs.length < 1000) :
    Ev K B (tCall (spW K prePick fPick) [] E (tCons (tVar i) (tCons te tNil))) Γ (fun r => ∃ cs, P (.list cs) ∧ r ∈ cs) :=
  ev_callW hi (ea_consP (Ps := fun ds => ∃ d, P d ∧ ds = [d]) h ea_nil fun d ds e1 e2 => ⟨d, e1, by rw [e2]⟩) (fun ds ⟨d, hd, e⟩ => by
    obtain ⟨cs, e1, h1, h2⟩ := h1 d hd
    exact ⟨cs, by rw [e, e1], h1, h2⟩) (fun ds r ⟨d, hd, e⟩ ⟨cs, e1, hm⟩ => ⟨cs, by
      rw [e] at e1
      cases e1
      exact hd, hm⟩)
theorem dr_pick {K : FK} {B : Bs} {Γ : List Sl} {i : Nat} {p q : Addr} {E : XK} {te : TE} {cs : List DD} (hi : Γ[i]? = some (.own (drwR p q))) (h : EvD K B te Γ (.list cs)) (h1 : (Nat.blt 0 cs.length && Nat.blt cs.length 1000) = true := by rfl) :
    Ev K B (tCall (spW K prePick fPick) [] E (tCons (tVar i) (tCons te tNil))) Γ (fun r => r ∈ cs) :=
  (dr_pickP hi h fun d e => ⟨cs, e, of_blt (Bool.and_eq_true_iff.mp h1).1, of_blt (Bool.and_eq_true_iff.mp h1).2⟩).imp fun r ⟨c, e, hm⟩ => by cases e; exact hm
theorem dr_no {K : FK} {B : Bs} {Γ : List Sl} {i : Nat} {p q : Addr} {E : XK} {f : List DD → DD → Prop} (hi : Γ[i]? = some (.own (drwR p q))) :
    Ev K B (tCall (spW K preNo f) [] E (tCons (tVar i) tNil)) Γ (fun r => f [] r) := ev_callW hi (ea_nil) (fun ds e => e) (fun ds r e h => by rw [← e]; exact h)
theorem ev_subP {K : FK} {B : Bs} {Γ : List Sl} {ta tb : TE} {P : DD → Prop} {b : Int} (ha : Ev K B ta Γ P) (hb : EvD K B tb Γ (.int b)) (hp : ∀ d, P d → ∃ n, d = .int n) : Ev K B (tOp (rI0 fun i j => .int (i - j)) ta tb) Γ (fun r => ∃ n : Int, P (.int n) ∧ r = .int (n - b)) :=
  ev_opP ha hb fun x y hx e => by
    obtain ⟨n, e1⟩ := hp x hx
    subst e e1
    exact ⟨_, ⟨n, hx, rfl⟩, rd_I0 fun _ => .int _⟩

def modesD : List DD := modesS.map .str
def fSteps (ds : List DD) (r : DD) : Prop := ds = [] ∧ r = .list stepsD
theorem mk__law_steps : fSteps [] (.list stepsD) := ⟨rfl, rfl⟩
def fModes (ds : List DD) (r : DD) : Prop := ds = [] ∧ r = .list modesD
theorem mk__law_modes : fModes [] (.list modesD) := ⟨rfl, rfl⟩

inductive Md | down | up | inn | out | neardown | nearup | nearin | nearout | neareven | nearodd
  deriving DecidableEq, Repr
inductive Cr | none | all | signs | pairs
  deriving DecidableEq, Repr
inductive Pr | p21 | p31 | p41 | p42 | p61 | p62 | p63
  deriving DecidableEq, Repr
def Md.str : Md → Str
  | .down => "down" | .up => "up" | .inn => "in" | .out => "out" | .neardown => "neardown" | .nearup => "nearup" | .nearin => "nearin" | .nearout => "nearout" | .neareven => "neareven" | .nearodd => "nearodd"
def Cr.str : Cr → Str
  | .none => "none" | .all => "all" | .signs => "signs" | .pairs => "pairs"
def Pr.st : Pr → Int
  | .p21 => 2 | .p31 => 3 | .p41 => 4 | .p42 => 4 | .p61 => 6 | .p62 => 6 | .p63 => 6
def Pr.fi : Pr → Int
  | .p21 => 1 | .p31 => 1 | .p41 => 1 | .p42 => 2 | .p61 => 1 | .p62 => 2 | .p63 => 3
structure Way where
  p : Pr
  m : Md
  c : Cr
  deriving DecidableEq, Repr
def Way.wy (w : Way) : Wy := ⟨w.p.st, w.p.fi, w.m.str, w.c.str⟩
def allMd : List Md := [.down, .up, .inn, .out, .neardown, .nearup, .nearin, .nearout, .neareven, .nearodd]
def allCr : List Cr := [.none, .all, .signs, .pairs]
def allPr : List Pr := [.p21, .p31, .p41, .p42, .p61, .p62, .p63]
theorem mem_md (m : Md) : m ∈ allMd := by cases m <;> decide
theorem mem_cr (m : Cr) : m ∈ allCr := by cases m <;> decide
theorem mem_pr (m : Pr) : m ∈ allPr := by cases m <;> decide
theorem way_is : (allPr.all fun p => allMd.all fun m => allCr.all fun c => isWayB (Way.wy ⟨p, m, c⟩).dd) = true := by decide +kernel
theorem Way.ok (w : Way) : WOk w.wy := by
  refine ⟨?_, ?_⟩
  · obtain ⟨p, m, c⟩ := w
    cases p <;> simp [Wy.ok, Way.wy, Pr.st, Pr.fi]
  · have h := way_is
    simp only [List.all_eq_true] at h
    exact h w.p (mem_pr _) w.m (mem_md _) w.c (mem_cr _)
def Way.dd (w : Way) : DD := w.wy.dd
def fWay (ds : List DD) (r : DD) : Prop := ds = [] ∧ ∃ w : Way, r = w.dd
theorem steps_mem {d : DD} (h : d ∈ stepsD) : ∃ p : Pr, d = .tuple [.int p.st, .int p.fi] := by
  simp only [stepsD, List.mem_cons, List.not_mem_nil, or_false] at h
  rcases h with rfl | rfl | rfl | rfl | rfl | rfl | rfl
  · exact ⟨.p21, rfl⟩
  · exact ⟨.p31, rfl⟩
  · exact ⟨.p41, rfl⟩
  · exact ⟨.p42, rfl⟩
  · exact ⟨.p61, rfl⟩
  · exact ⟨.p62, rfl⟩
  · exact ⟨.p63, rfl⟩
theorem modes_mem {d : DD} (h : d ∈ modesD) : ∃ m : Md, d = .str m.str := by
  have h : d ∈ allMd.map fun m => PyData.str m.str := h
  obtain ⟨m, _, e⟩ := List.mem_map.mp h
  exact ⟨m, e.symm⟩
theorem carries_mem {d : DD} (h : d ∈ ([.str "none", .str "all", .str "all", .str "signs", .str "signs", .str "pairs", .str "pairs"] : List DD)) : ∃ c : Cr, d = .str c.str := by
  simp only [List.mem_cons, List.not_mem_nil, or_false] at h
  rcases h with rfl | rfl | rfl | rfl | rfl | rfl | rfl
  · exact ⟨.none, rfl⟩
  · exact ⟨.all, rfl⟩
  · exact ⟨.all, rfl⟩
  · exact ⟨.signs, rfl⟩
  · exact ⟨.signs, rfl⟩
  · exact ⟨.pairs, rfl⟩
  · exact ⟨.pairs, rfl⟩

def preRow (ds : List DD) : Prop := ∃ n : Int, ds = [.int n] ∧ 0 ≤ n ∧ n ≤ 100
def fRow (ds : List DD) (r : DD) : Prop := ∃ (n : Int) (row : List Int), ds = [.int n] ∧ r = rdd row ∧ (row.length : Int) ≤ n ∧ ∀ x ∈ row, -4 ≤ x ∧ x ≤ 4
theorem cut_take {xs : List DD} {m : Int} (h0 : 0 ≤ m) : Ly.cutD xs none (some m) = xs.take m.toNat := by
  obtain ⟨k, rfl⟩ := Int.eq_ofNat_of_zero_le h0
  unfold Ly.cutD
  have e : HT.sIx xs.length xs.length (some (k : Int)) = min k xs.length := HT.sIx_nat _ _ _
  rw [show HT.sIx xs.length 0 none = 0 from rfl, e]
  simp [List.take_eq_take_iff]
theorem cut_take' {xs : List DD} {m : Int} (h0 : 0 ≤ m) : xs.take (HT.sIx xs.length xs.length (some m)) = xs.take m.toNat := by
  obtain ⟨k, rfl⟩ := Int.eq_ofNat_of_zero_le h0
  rw [HT.sIx_nat]
  simp [List.take_eq_take_iff]
theorem rep_int (m : Int) (k : Nat) : (List.replicate k [(PyData.int m)]).flatten = (List.replicate k m).map .int := by
  induction k with
  | zero => rfl
  | succ k ih => rw [List.replicate_succ, List.flatten_cons, ih, List.replicate_succ]; rfl

/-! what is written by the four carries -/
def Wy.wc (w : Wy) (c : Str) : Wy := { w with carry := c }
theorem br_wc (w : Wy) (c : Str) (v : Int) : brS (w.wc c) v = brS w v := rfl
theorem s_ne1 : decide (("none" : Str) = "signs") = false := by decide
theorem s_ne2 : decide (("all" : Str) = "signs") = false := by decide
theorem s_ne3 : decide (("pairs" : Str) = "signs") = false := by decide
theorem s_ne4 : decide (("all" : Str) = "none") = false := by decide
theorem s_ne5 : decide (("pairs" : Str) = "none") = false := by decide
theorem s_ne6 : decide (("signs" : Str) = "none") = false := by decide
theorem s_ne7 : decide (("pairs" : Str) = "all") = false := by decide
theorem s_ne8 : decide (("signs" : Str) = "all") = false := by decide
theorem s_ne9 : decide (("signs" : Str) = "pairs") = false := by decide
theorem wr_none (w : Wy) (s : S3) (n : Int) : wrS (w.wc "none") s n = (brS w (n + s.1), s) := by
  simp only [wrS, Wy.wc, s_ne1, decide_true, Bool.false_and, Bool.false_eq_true, if_false, if_true]; rfl
theorem wr_all (w : Wy) (s : S3) (n : Int) : wrS (w.wc "all") s n = (brS w (n + s.1), (n + s.1 - brS w (n + s.1), 0, 0)) := by
  simp only [wrS, Wy.wc, s_ne2, s_ne4, decide_true, Bool.false_and, Bool.false_eq_true, if_false, if_true]; rfl
theorem wr_pairs (w : Wy) (s : S3) (n : Int) : wrS (w.wc "pairs") s n = (brS w (n + s.1), if s.2.2 = 0 then (n + s.1 - brS w (n + s.1), 0, 1) else (0, 0, 0)) := by
  simp only [wrS, Wy.wc, s_ne3, s_ne5, s_ne7, decide_true, Bool.false_and, Bool.false_eq_true, if_false, if_true, decide_eq_true_eq]; rfl
theorem wr_signs (w : Wy) (s : S3) (n : Int) : wrS (w.wc "signs") s n = if n < 0 then (brS w (n + s.2.1), (s.1, n + s.2.1 - brS w (n + s.2.1), 0)) else (brS w (n + s.1), (n + s.1 - brS w (n + s.1), s.2.1, 0)) := by
  by_cases h : n < 0
  · simp only [wrS, Wy.wc, s_ne6, s_ne8, s_ne9, h, decide_true, Bool.true_and, Bool.false_eq_true, if_false, if_true]; rfl
  · simp only [wrS, Wy.wc, s_ne6, s_ne8, s_ne9, h, decide_true, decide_false, Bool.and_false, Bool.false_eq_true, if_false, if_true]; rfl
theorem runT_app (w : Wy) : ∀ (a b : List Int) (s : S3), runT w s (a ++ b) = runT w s a ++ runT w (stE w s a) b
  | [], b, s => rfl
  | n :: a, b, s => by simp only [List.cons_append, runT, runT_app w a b, stE, List.foldl_cons]
theorem stE_app (w : Wy) (a b : List Int) (s : S3) : stE w s (a ++ b) = stE w (stE w s a) b := by simp [stE]

/-! how far the brought one is off -/
theorem nearer_cases (low high : Int) (mode : Str) (step : Int) : nearerS low high mode step = low ∨ nearerS low high mode step = high := by
  unfold nearerS
  repeat' split
  all_goals first | exact .inl rfl | exact .inr rfl
theorem bt_cases (v s : Int) (mode : Str) : btS v s mode = v / s * s ∨ (v / s * s ≠ v ∧ btS v s mode = v / s * s + s) := by
  by_cases h : v / s * s = v
  · left
    have hn := nearer_cases v v mode s
    unfold btS
    simp only [h, decide_true, if_true, Bool.not_true, Bool.false_eq_true, if_false]
    repeat' split
    all_goals rfl
  · have hn := nearer_cases (v / s * s) (v / s * s + s) mode s
    unfold btS
    simp only [h, decide_false, Bool.false_eq_true, if_false]
    repeat' split
    all_goals first | exact .inl rfl | exact .inr ⟨h, rfl⟩ | ((rcases hn with e | e) <;> rw [e] <;> first | exact .inl rfl | exact .inr ⟨h, rfl⟩)
theorem Way.off (w : Way) (v : Int) : -w.p.st < brS w.wy v - v ∧ brS w.wy v - v < w.p.st := by
  have h1 := bt_cases v w.p.fi w.m.str
  have h2 := bt_cases (btS v w.p.fi w.m.str) w.p.st w.m.str
  have e : brS w.wy v = btS (btS v w.p.fi w.m.str) w.p.st w.m.str := rfl
  rw [e]
  generalize btS v w.p.fi w.m.str = x at h1 h2
  generalize btS x w.p.st w.m.str = y at h2
  obtain ⟨p, m, c⟩ := w
  cases p <;> simp only [Pr.st, Pr.fi] at h1 h2 ⊢ <;> omega
theorem Pr.st_le (p : Pr) : 2 ≤ p.st ∧ p.st ≤ 6 := by cases p <;> decide

theorem dr_row {K : FK} {B : Bs} {Γ : List Sl} {i : Nat} {p q : Addr} {E : XK} {te : TE} {n : Int} (hi : Γ[i]? = some (.own (drwR p q))) (h : EvD K B te Γ (.int n)) (h1 : 0 ≤ n ∧ n ≤ 100) :
    Ev K B (tCall (spW K preRow fRow) [] E (tCons (tVar i) (tCons te tNil))) Γ (fun r => ∃ row : List Int, r = rdd row ∧ (row.length : Int) ≤ n ∧ ∀ x ∈ row, -4 ≤ x ∧ x ≤ 4) :=
  ev_callW hi (ea_cons h ea_nil) (fun ds e => ⟨n, e, h1.1, h1.2⟩) (fun ds r e ⟨m, row, e1, e2, h2, h3⟩ => ⟨row, e2, by rw [e] at e1; cases e1; exact h2, h3⟩)
theorem ok_rows (rs : List (List Int)) : okD 2 (.list (rs.map rdd)) := ok_list fun d hd => by
  obtain ⟨r, _, rfl⟩ := List.mem_map.mp hd; exact ok_ints r
theorem ok_sdd (s : S3) : okD 1 (sdd s) := ok_tuple (n := 0) (by intro d hd; simp at hd; rcases hd with e | e | e <;> rw [e] <;> exact ok_int _)
theorem ROk.filter {row : List Int} (h : ROk row) (f : Int → Bool) : ROk (row.filter f) := ⟨Nat.le_trans (List.length_filter_le f row) h.len, fun n hn => h.num n (List.mem_filter.mp hn).1⟩
theorem ROk.sub {row r : List Int} (h : ROk row) (hl : r.length ≤ 30) (hs : ∀ n ∈ r, n ∈ row) : ROk r := ⟨hl, fun n hn => h.num n (hs n hn)⟩
theorem rgc2 : ∀ L : _root_.Fin 31, RgC 0 (L.val : Int) 2 ((L.val + 1) / 2) := by
  unfold RgC
  decide +kernel
abbrev wC (w : Way) (c : Cr) : Wy := Way.wy ⟨w.p, w.m, c⟩
theorem wC_ok (w : Way) (c : Cr) : WOk (wC w c) := Way.ok _
theorem filter_ints (row : List Int) (f : Int → Bool) (g : DD → Bool) (h : ∀ n, g (.int n) = f n) : ((row.map PyData.int).filter g).map (fun d => d) = (row.filter f).map PyData.int := by
  induction row with
  | nil => rfl
  | cons n r ih =>
    simp only [List.map_cons, List.filter_cons, h n]
    by_cases e : f n = true
    · rw [if_pos e, if_pos e, List.map_cons, ih]; rfl
    · rw [if_neg e, if_neg e, ih]
def decI (d : DD) : List Int := match d with
  | .list ds => ds.map fun x => match x with | .int n => n | _ => 0
  | _ => []
theorem decI_rdd (l : List Int) : decI (rdd l) = l := by
  show (l.map PyData.int).map _ = l
  rw [List.map_map]
  exact List.map_id l
def ge0 (d : DD) : Bool := match d with | .int n => decide (0 ≤ n) | _ => false
def lt0 (d : DD) : Bool := match d with | .int n => decide (n < 0) | _ => false
theorem atI_map {α : Type} {l : List α} {f : α → DD} {i : Nat} {x : α} (h : l[i]? = some x) : atI (l.map f) (i : Int) = some (f x) := atI_nat (by rw [List.getElem?_map, h]; rfl)
theorem chunk2 (row : List Int) (i : Nat) : Ly.cutD (row.map PyData.int) (some (0 + (i : Int) * 2)) (some (0 + (i : Int) * 2 + 2)) = ((row.drop (2 * i)).take 2).map PyData.int := by
  unfold Ly.cutD
  have e1 : (0 + (i : Int) * 2) = ((2 * i : Nat) : Int) := by omega
  have e2 : (0 + (i : Int) * 2 + 2) = ((2 * i + 2 : Nat) : Int) := by omega
  rw [e1, show (((2 * i : Nat) : Int) + 2) = ((2 * i + 2 : Nat) : Int) by omega, HT.sIx_nat, HT.sIx_nat, List.length_map, ← List.map_drop, ← List.map_take]
  congr 1
  by_cases h : 2 * i ≤ row.length
  · rw [Nat.min_eq_left h]
    by_cases h2 : 2 * i + 2 ≤ row.length
    · rw [Nat.min_eq_left h2]; congr 1; omega
    · rw [Nat.min_eq_right (by omega), List.take_of_length_le (by rw [List.length_drop]; omega), List.take_of_length_le (by rw [List.length_drop]; omega)]
  · rw [Nat.min_eq_right (by omega), Nat.min_eq_right (by omega)]
    rw [List.drop_of_length_le (Nat.le_refl _), List.drop_of_length_le (by omega)]; simp


def fErrorOf (ds : List DD) (r : DD) : Prop := ∃ (w : Wy) (row : List Int), ds = [w.dd, rdd row] ∧ WOk w ∧ ROk row ∧ r = .int ((runT w s0 row).sum - row.sum)
theorem mk_error_of {w : Wy} {row : List Int} (h : WOk w) (h2 : ROk row) : fErrorOf [w.dd, rdd row] (.int ((runT w s0 row).sum - row.sum)) := ⟨_, _, rfl, h, h2, rfl⟩
def nums : List Int := [0, 1, -1, 2, -2, 3, -3, 4, -4]
def fNums (ds : List DD) (r : DD) : Prop := ds = [] ∧ r = rdd nums
theorem mk_all_numbers : fNums [] (rdd nums) := ⟨rfl, rfl⟩
theorem mk__law_numbers : fNums [] (rdd nums) := ⟨rfl, rfl⟩
/-! the law's own bringing -/
def ab (x : Int) : Int := if x < 0 then -x else x
def StepOk (s : Int) : Prop := s = 1 ∨ s = 2 ∨ s = 3 ∨ s = 4 ∨ s = 6
def pk (v : Int) (s : Int) (d : DD) : Bool := match d with | .int k => decide ((v - k) % s = 0) | _ => false
def fk (v : Int) (d : DD) : DD := match d with | .int k => .int (v - k) | d => d
theorem near_list {v s : Int} (hs : StepOk s) : ((((intsF 0 s.toNat).map PyData.int).filter (pk v s)).map (fk v)) = [.int (v / s * s)] := by
  have key : ∀ k : Int, fk v (.int k) = .int (v - k) := fun _ => rfl
  rcases hs with rfl | rfl | rfl | rfl | rfl
  · have e : (intsF 0 (1 : Int).toNat) = [0] := by decide
    rw [e]
    have h0 : pk v 1 (.int 0) = true := decide_eq_true (by omega)
    simp only [List.map_cons, List.map_nil, List.filter_cons, List.filter_nil, h0, if_true, Bool.false_eq_true, if_false, key]
    exact congrArg (fun z => [PyData.int z]) (by omega)
  · have e : (intsF 0 (2 : Int).toNat) = [0, 1] := by decide
    rw [e]
    have hr : v % 2 = 0 ∨ v % 2 = 1 := by omega
    rcases hr with hr | hr
    · have h0 : pk v 2 (.int 0) = true := decide_eq_true (by omega)
      have h1 : pk v 2 (.int 1) = false := decide_eq_false (by omega)
      simp only [List.map_cons, List.map_nil, List.filter_cons, List.filter_nil, h0, h1, if_true, Bool.false_eq_true, if_false, key]
      exact congrArg (fun z => [PyData.int z]) (by omega)
    · have h0 : pk v 2 (.int 0) = false := decide_eq_false (by omega)
      have h1 : pk v 2 (.int 1) = true := decide_eq_true (by omega)
      simp only [List.map_cons, List.map_nil, List.filter_cons, List.filter_nil, h0, h1, if_true, Bool.false_eq_true, if_false, key]
      exact congrArg (fun z => [PyData.int z]) (by omega)
  · have e : (intsF 0 (3 : Int).toNat) = [0, 1, 2] := by decide
    rw [e]
    have hr : v % 3 = 0 ∨ v % 3 = 1 ∨ v % 3 = 2 := by omega
    rcases hr with hr | hr | hr
    · have h0 : pk v 3 (.int 0) = true := decide_eq_true (by omega)
      have h1 : pk v 3 (.int 1) = false := decide_eq_false (by omega)
      have h2 : pk v 3 (.int 2) = false := decide_eq_false (by omega)
      simp only [List.map_cons, List.map_nil, List.filter_cons, List.filter_nil, h0, h1, h2, if_true, Bool.false_eq_true, if_false, key]
      exact congrArg (fun z => [PyData.int z]) (by omega)
    · have h0 : pk v 3 (.int 0) = false := decide_eq_false (by omega)
      have h1 : pk v 3 (.int 1) = true := decide_eq_true (by omega)
      have h2 : pk v 3 (.int 2) = false := decide_eq_false (by omega)
      simp only [List.map_cons, List.map_nil, List.filter_cons, List.filter_nil, h0, h1, h2, if_true, Bool.false_eq_true, if_false, key]
      exact congrArg (fun z => [PyData.int z]) (by omega)
    · have h0 : pk v 3 (.int 0) = false := decide_eq_false (by omega)
      have h1 : pk v 3 (.int 1) = false := decide_eq_false (by omega)
      have h2 : pk v 3 (.int 2) = true := decide_eq_true (by omega)
      simp only [List.map_cons, List.map_nil, List.filter_cons, List.filter_nil, h0, h1, h2, if_true, Bool.false_eq_true, if_false, key]
      exact congrArg (fun z => [PyData.int z]) (by omega)
  · have e : (intsF 0 (4 : Int).toNat) = [0, 1, 2, 3] := by decide
    rw [e]
    have hr : v % 4 = 0 ∨ v % 4 = 1 ∨ v % 4 = 2 ∨ v % 4 = 3 := by omega
    rcases hr with hr | hr | hr | hr
    · have h0 : pk v 4 (.int 0) = true := decide_eq_true (by omega)
      have h1 : pk v 4 (.int 1) = false := decide_eq_false (by omega)
      have h2 : pk v 4 (.int 2) = false := decide_eq_false (by omega)
      have h3 : pk v 4 (.int 3) = false := decide_eq_false (by omega)
      simp only [List.map_cons, List.map_nil, List.filter_cons, List.filter_nil, h0, h1, h2, h3, if_true, Bool.false_eq_true, if_false, key]
      exact congrArg (fun z => [PyData.int z]) (by omega)
    · have h0 : pk v 4 (.int 0) = false := decide_eq_false (by omega)
      have h1 : pk v 4 (.int 1) = true := decide_eq_true (by omega)
      have h2 : pk v 4 (.int 2) = false := decide_eq_false (by omega)
      have h3 : pk v 4 (.int 3) = false := decide_eq_false (by omega)
      simp only [List.map_cons, List.map_nil, List.filter_cons, List.filter_nil, h0, h1, h2, h3, if_true, Bool.false_eq_true, if_false, key]
      exact congrArg (fun z => [PyData.int z]) (by omega)
    · have h0 : pk v 4 (.int 0) = false := decide_eq_false (by omega)
      have h1 : pk v 4 (.int 1) = false := decide_eq_false (by omega)
      have h2 : pk v 4 (.int 2) = true := decide_eq_true (by omega)
      have h3 : pk v 4 (.int 3) = false := decide_eq_false (by omega)
      simp only [List.map_cons, List.map_nil, List.filter_cons, List.filter_nil, h0, h1, h2, h3, if_true, Bool.false_eq_true, if_false, key]
      exact congrArg (fun z => [PyData.int z]) (by omega)
    · have h0 : pk v 4 (.int 0) = false := decide_eq_false (by omega)
      have h1 : pk v 4 (.int 1) = false := decide_eq_false (by omega)
      have h2 : pk v 4 (.int 2) = false := decide_eq_false (by omega)
      have h3 : pk v 4 (.int 3) = true := decide_eq_true (by omega)
      simp only [List.map_cons, List.map_nil, List.filter_cons, List.filter_nil, h0, h1, h2, h3, if_true, Bool.false_eq_true, if_false, key]
      exact congrArg (fun z => [PyData.int z]) (by omega)
  · have e : (intsF 0 (6 : Int).toNat) = [0, 1, 2, 3, 4, 5] := by decide
    rw [e]
    have hr : v % 6 = 0 ∨ v % 6 = 1 ∨ v % 6 = 2 ∨ v % 6 = 3 ∨ v % 6 = 4 ∨ v % 6 = 5 := by omega
    rcases hr with hr | hr | hr | hr | hr | hr
    · have h0 : pk v 6 (.int 0) = true := decide_eq_true (by omega)
      have h1 : pk v 6 (.int 1) = false := decide_eq_false (by omega)
      have h2 : pk v 6 (.int 2) = false := decide_eq_false (by omega)
      have h3 : pk v 6 (.int 3) = false := decide_eq_false (by omega)
      have h4 : pk v 6 (.int 4) = false := decide_eq_false (by omega)
      have h5 : pk v 6 (.int 5) = false := decide_eq_false (by omega)
      simp only [List.map_cons, List.map_nil, List.filter_cons, List.filter_nil, h0, h1, h2, h3, h4, h5, if_true, Bool.false_eq_true, if_false, key]
      exact congrArg (fun z => [PyData.int z]) (by omega)
    · have h0 : pk v 6 (.int 0) = false := decide_eq_false (by omega)
      have h1 : pk v 6 (.int 1) = true := decide_eq_true (by omega)
      have h2 : pk v 6 (.int 2) = false := decide_eq_false (by omega)
      have h3 : pk v 6 (.int 3) = false := decide_eq_false (by omega)
      have h4 : pk v 6 (.int 4) = false := decide_eq_false (by omega)
      have h5 : pk v 6 (.int 5) = false := decide_eq_false (by omega)
      simp only [List.map_cons, List.map_nil, List.filter_cons, List.filter_nil, h0, h1, h2, h3, h4, h5, if_true, Bool.false_eq_true, if_false, key]
      exact congrArg (fun z => [PyData.int z]) (by omega)
    · have h0 : pk v 6 (.int 0) = false := decide_eq_false (by omega)
      have h1 : pk v 6 (.int 1) = false := decide_eq_false (by omega)
      have h2 : pk v 6 (.int 2) = true := decide_eq_true (by omega)
      have h3 : pk v 6 (.int 3) = false := decide_eq_false (by omega)
      have h4 : pk v 6 (.int 4) = false := decide_eq_false (by omega)
      have h5 : pk v 6 (.int 5) = false := decide_eq_false (by omega)
      simp only [List.map_cons, List.map_nil, List.filter_cons, List.filter_nil, h0, h1, h2, h3, h4, h5, if_true, Bool.false_eq_true, if_false, key]
      exact congrArg (fun z => [PyData.int z]) (by omega)
    · have h0 : pk v 6 (.int 0) = false := decide_eq_false (by omega)
      have h1 : pk v 6 (.int 1) = false := decide_eq_false (by omega)
      have h2 : pk v 6 (.int 2) = false := decide_eq_false (by omega)
      have h3 : pk v 6 (.int 3) = true := decide_eq_true (by omega)
      have h4 : pk v 6 (.int 4) = false := decide_eq_false (by omega)
      have h5 : pk v 6 (.int 5) = false := decide_eq_false (by omega)
      simp only [List.map_cons, List.map_nil, List.filter_cons, List.filter_nil, h0, h1, h2, h3, h4, h5, if_true, Bool.false_eq_true, if_false, key]
      exact congrArg (fun z => [PyData.int z]) (by omega)
    · have h0 : pk v 6 (.int 0) = false := decide_eq_false (by omega)
      have h1 : pk v 6 (.int 1) = false := decide_eq_false (by omega)
      have h2 : pk v 6 (.int 2) = false := decide_eq_false (by omega)
      have h3 : pk v 6 (.int 3) = false := decide_eq_false (by omega)
      have h4 : pk v 6 (.int 4) = true := decide_eq_true (by omega)
      have h5 : pk v 6 (.int 5) = false := decide_eq_false (by omega)
      simp only [List.map_cons, List.map_nil, List.filter_cons, List.filter_nil, h0, h1, h2, h3, h4, h5, if_true, Bool.false_eq_true, if_false, key]
      exact congrArg (fun z => [PyData.int z]) (by omega)
    · have h0 : pk v 6 (.int 0) = false := decide_eq_false (by omega)
      have h1 : pk v 6 (.int 1) = false := decide_eq_false (by omega)
      have h2 : pk v 6 (.int 2) = false := decide_eq_false (by omega)
      have h3 : pk v 6 (.int 3) = false := decide_eq_false (by omega)
      have h4 : pk v 6 (.int 4) = false := decide_eq_false (by omega)
      have h5 : pk v 6 (.int 5) = true := decide_eq_true (by omega)
      simp only [List.map_cons, List.map_nil, List.filter_cons, List.filter_nil, h0, h1, h2, h3, h4, h5, if_true, Bool.false_eq_true, if_false, key]
      exact congrArg (fun z => [PyData.int z]) (by omega)
/-- what a mode takes of two neighbours -/
def laM (v s a b : Int) : Md → Int
  | .down => a
  | .up => b
  | .inn => if ab a ≤ ab b then a else b
  | .out => if ab b ≤ ab a then a else b
  | m => if ab (a - v) ≠ ab (b - v) then (if ab (a - v) ≤ ab (b - v) then a else b) else match m with
    | .neardown => a
    | .nearup => b
    | .nearin => if ab a ≤ ab b then a else b
    | .nearout => if ab b ≤ ab a then a else b
    | .neareven => if a / s % 2 = 0 then a else b
    | _ => if a / s % 2 = 1 then a else b
theorem md_in1 (m : Md) : inD (.str m.str) [.str "in", .str "out"] = decide (m = .inn ∨ m = .out) := by cases m <;> decide +kernel
theorem md_in2 (m : Md) : inD (.str m.str) [.str "neareven", .str "nearodd"] = decide (m = .neareven ∨ m = .nearodd) := by cases m <;> decide +kernel
theorem md_in3 (m : Md) : inD (.str m.str) [.str "down", .str "up"] = decide (m = .down ∨ m = .up) := by cases m <;> decide +kernel
theorem md_eq (m k : Md) : decide (m.str = k.str) = decide (m = k) := by cases m <;> cases k <;> decide +kernel
theorem bt_md {v s : Int} (m : Md) : btS v s m.str = (let low := v / s * s; let high := if low = v then low else low + s; if m = .down then low else if m = .up then high else if m = .inn ∨ m = .out then (if (0 ≤ v ↔ m = .inn) then low else high) else if v - low ≠ high - v then (if v - low < high - v then low else high) else
    if low ≠ high then (if m = .neardown then low else if m = .nearup then high else if m = .neareven ∨ m = .nearodd then (if m = .neareven then (if low / s % 2 = 0 then low else high) else (if (if low / s % 2 = 0 then low else high) = low then high else low)) else if m = .nearin then (if 0 ≤ low then low else high) else (if 0 ≤ low then high else low)) else low) := by
  have e1 : decide (m.str = ("down" : Str)) = decide (m = .down) := md_eq m .down
  have e2 : decide (m.str = ("up" : Str)) = decide (m = .up) := md_eq m .up
  have e3 : decide (m.str = ("in" : Str)) = decide (m = .inn) := md_eq m .inn
  have e4 : decide (m.str = ("neardown" : Str)) = decide (m = .neardown) := md_eq m .neardown
  have e5 : decide (m.str = ("nearup" : Str)) = decide (m = .nearup) := md_eq m .nearup
  have e6 : decide (m.str = ("neareven" : Str)) = decide (m = .neareven) := md_eq m .neareven
  have e7 : decide (m.str = ("nearin" : Str)) = decide (m = .nearin) := md_eq m .nearin
  unfold btS nearerS
  simp only [e1, e2, e3, e4, e5, e6, e7, md_in1, md_in2, decide_eq_true_eq, Bool.not_eq_true', decide_eq_false_iff_not, ne_eq, decide_eq_decide]
set_option maxHeartbeats 4000000 in
theorem bt_at {v s : Int} (hs : StepOk s) (m : Md) : btS v s m.str = if v / s * s = v then v / s * s else laM v s (v / s * s) (v / s * s + s) m := by
  rw [bt_md]
  by_cases h : v / s * s = v
  · rw [if_pos h]
    simp only [h, if_true, ne_eq, not_true_eq_false, if_false]
    repeat' split
    all_goals first | rfl | omega
  · rw [if_neg h]
    simp only [h, if_false]
    cases m <;> simp only [laM, ab, reduceCtorEq, if_true, if_false, or_self, or_true, true_or, iff_true, iff_false] <;> rcases hs with rfl | rfl | rfl | rfl | rfl <;> (repeat' split) <;> first | rfl | omega
def fLawAt (ds : List DD) (r : DD) : Prop := ∃ (v s : Int) (m : Md), ds = [.int v, .int s, .str m.str] ∧ StepOk s ∧ r = .int (btS v s m.str)
theorem mk__law_at {v s : Int} (m : Md) {ms : Str} (h : StepOk s) (e : ms = m.str) : fLawAt [.int v, .int s, .str ms] (.int (btS v s m.str)) := ⟨v, s, m, by rw [e], h, rfl⟩
theorem Pr.so (p : Pr) : StepOk p.st ∧ StepOk p.fi := by cases p <;> simp [StepOk, Pr.st, Pr.fi]
def fLawBring (ds : List DD) (r : DD) : Prop := ∃ (w : Way) (v : Int), ds = [w.wy.dd, .int v] ∧ r = .int (brS w.wy v)
theorem mk__law_bring {w : Way} {v : Int} : fLawBring [w.wy.dd, .int v] (.int (brS w.wy v)) := ⟨_, _, rfl, rfl⟩
/-- the states that come by a way -/
def Rc (w : Way) (s : S3) : Prop := (w.c = .none → s = s0) ∧ (w.c = .all → s.2.1 = 0)
def fLawWrite (ds : List DD) (r : DD) : Prop := ∃ (w : Way) (s : S3) (n : Int), ds = [w.wy.dd, sdd s, .int n] ∧ Rc w s ∧ r = .tuple [.int (wrS w.wy s n).1, sdd (wrS w.wy s n).2]
theorem mk__law_write {w : Way} {s : S3} {n : Int} (h : Rc w s) : fLawWrite [w.wy.dd, sdd s, .int n] (.tuple [.int (wrS w.wy s n).1, sdd (wrS w.wy s n).2]) := ⟨_, _, _, rfl, h, rfl⟩
theorem Way.wc (w : Way) : w.wy = w.wy.wc w.c.str := rfl
theorem wr_c (w : Way) (s : S3) (n : Int) : wrS w.wy s n = match w.c with
    | .none => (brS w.wy (n + s.1), s)
    | .all => (brS w.wy (n + s.1), (n + s.1 - brS w.wy (n + s.1), 0, 0))
    | .pairs => (brS w.wy (n + s.1), if s.2.2 = 0 then (n + s.1 - brS w.wy (n + s.1), 0, 1) else (0, 0, 0))
    | .signs => if n < 0 then (brS w.wy (n + s.2.1), (s.1, n + s.2.1 - brS w.wy (n + s.2.1), 0)) else (brS w.wy (n + s.1), (n + s.1 - brS w.wy (n + s.1), s.2.1, 0)) := by
  obtain ⟨p, m, c⟩ := w
  cases c
  · exact wr_none (Way.wy ⟨p, m, .none⟩) s n
  · exact wr_all (Way.wy ⟨p, m, .all⟩) s n
  · exact wr_signs (Way.wy ⟨p, m, .signs⟩) s n
  · exact wr_pairs (Way.wy ⟨p, m, .pairs⟩) s n
theorem Rc.s0 (w : Way) : Rc w s0 := ⟨fun _ => rfl, fun _ => rfl⟩
theorem Rc.next {w : Way} {s : S3} (h : Rc w s) (n : Int) : Rc w (wrS w.wy s n).2 := by
  rw [wr_c]
  refine ⟨fun e => ?_, fun e => ?_⟩
  · rw [e]; exact h.1 e
  · rw [e]
theorem Rc.stE {w : Way} : ∀ (row : List Int) {s : S3}, Rc w s → Rc w (stE w.wy s row)
  | [], _, h => h
  | n :: r, _, h => Rc.stE r (h.next n)
def fLawRun (ds : List DD) (r : DD) : Prop := ∃ (w : Way) (row : List Int), ds = [w.wy.dd, rdd row] ∧ row.length < 1000 ∧ r = .tuple [rdd (runT w.wy s0 row), .list ((runS w.wy s0 row).map sdd)]
theorem mk__law_run {w : Way} {row : List Int} (h2 : row.length < 1000) : fLawRun [w.wy.dd, rdd row] (.tuple [rdd (runT w.wy s0 row), .list ((runS w.wy s0 row).map sdd)]) := ⟨_, _, rfl, h2, rfl⟩

theorem two_int {i : Nat} {a b : Int} {d : DD} (h : ([.int a, .int b] : List DD)[i]? = some d) : ∃ k, d = .int k := by
  have := List.mem_of_getElem? h
  simp at this
  rcases this with e | e
  · exact ⟨_, e⟩
  · exact ⟨_, e⟩
theorem pick_le (a b x y : Int) : ∃ j : Nat, (([.int a, .int b] : List DD)[j]? = some (.int (if x ≤ y then a else b))) ∧ (([.int x, .int y] : List DD)[j]? = some (.int (if x ≤ y then x else y))) ∧ (∀ (n : Nat) (u : DD), n < j → ([.int x, .int y] : List DD)[n]? = some u → PyData.eqv u (.int (if x ≤ y then x else y)) = false) := by
  by_cases h : x ≤ y
  · rw [if_pos h, if_pos h]
    exact ⟨0, rfl, rfl, fun n u hn => by omega⟩
  · rw [if_neg h, if_neg h]
    refine ⟨1, rfl, rfl, fun n u hn hu => ?_⟩
    have : n = 0 := by omega
    subst this
    cases hu
    simp [PyData.eqv]; omega
theorem pick_ge (a b x y : Int) : ∃ j : Nat, (([.int a, .int b] : List DD)[j]? = some (.int (if y ≤ x then a else b))) ∧ (([.int x, .int y] : List DD)[j]? = some (.int (if y ≤ x then x else y))) ∧ (∀ (n : Nat) (u : DD), n < j → ([.int x, .int y] : List DD)[n]? = some u → PyData.eqv u (.int (if y ≤ x then x else y)) = false) := by
  by_cases h : y ≤ x
  · rw [if_pos h, if_pos h]
    exact ⟨0, rfl, rfl, fun n u hn => by omega⟩
  · rw [if_neg h, if_neg h]
    refine ⟨1, rfl, rfl, fun n u hn hu => ?_⟩
    have : n = 0 := by omega
    subst this
    cases hu
    simp [PyData.eqv]; omega


theorem find_some_at {α : Type} {p : α → Bool} {xs : List α} {i : Nat} {x : α} (h0 : (xs.take i).find? p = none) (hi : xs[i]? = some x) (hp : p x = true) : xs.find? p = some x := by
  have hl : i < xs.length := (List.getElem?_eq_some_iff.mp hi).1
  have e : xs = xs.take i ++ x :: xs.drop (i + 1) := by
    have h2 := (List.getElem?_eq_some_iff.mp hi).2
    rw [← h2, ← List.drop_eq_getElem_cons hl, List.take_append_drop]
  rw [e, List.find?_append, h0, List.find?_cons, hp]; rfl
theorem find_none_snoc {α : Type} {p : α → Bool} {xs : List α} {i : Nat} {x : α} (h0 : (xs.take i).find? p = none) (hi : xs[i]? = some x) (hp : p x = false) : (xs.take (i + 1)).find? p = none := by
  rw [List.take_add_one, hi, List.find?_append, h0]
  simp [hp]
def mapI (g : Int → Int) (d : DD) : DD := match d with | .int v => .int (g v) | d => d
theorem mapI_eq (xs : List Int) (g : Int → Int) : (xs.map PyData.int).map (mapI g) = (xs.map g).map PyData.int := by
  rw [List.map_map, List.map_map]; rfl
def pI (c : Int → Bool) (d : DD) : Bool := match d with | .int v => c v | _ => false
theorem filtI_eq (xs : List Int) (c : Int → Bool) : (((xs.map PyData.int).filter (pI c)).map (fun d => d)) = (xs.filter c).map PyData.int := filter_ints xs c _ fun _ => rfl
theorem eqv_rdd (xs ys : List Int) : PyData.eqv (.list (xs.map .int)) (.list (ys.map .int)) = decide (xs = ys) := by
  rw [PyData.eqv]; exact eqv_ints xs ys
def optI : Option Int → DD
  | none => .none
  | some v => .int v
def unmP (w : Wy) (v : Int) : Bool := !decide (brS w (-v) = -(brS w v))
def unmS (w : Wy) : Option Int := (intsF 1 24).find? (unmP w)
def spoP (w : Wy) (v : Int) : Bool := !decide (brS w v = btS v w.step w.mode)
def spoS (w : Wy) : Option Int := (intsF 0 24).find? (spoP w)
def vals24 : List Int := intsF (-24) 48
def aoP (w : Wy) (m : Str) : Bool := decide (vals24.map (fun v => btS v w.step m) = vals24.map (brS w))
def aoS (w : Wy) : Option Str := modesS.find? (aoP w)
def fuR (w : Wy) : Rs := match unmS w with | none => .er "NotFound" | some v => .ok (.int v)
def aoR (w : Wy) : Rs := match aoS w with | none => .er "NotFound" | some m => .ok (.str m)
def rsD : Rs → DD
  | .ok d => d
  | .er c => .str (wordE c)
def errs (w : Wy) : List Int := vals24.map fun v => brS w v - v
def mnL : List Int → Int
  | [] => 0
  | n :: r => r.foldl min n
def mxL : List Int → Int
  | [] => 0
  | n :: r => r.foldl max n
theorem mn_le : ∀ (r : List Int) (n : Int), r.foldl min n ≤ n ∧ (∀ y ∈ r, r.foldl min n ≤ y) ∧ (r.foldl min n = n ∨ r.foldl min n ∈ r)
  | [], n => ⟨Int.le_refl _, fun y h => (nomatch h), .inl rfl⟩
  | x :: r, n => by
    obtain ⟨h1, h2, h3⟩ := mn_le r (min n x)
    refine ⟨by simp only [List.foldl_cons]; omega, fun y hy => ?_, ?_⟩
    · simp only [List.foldl_cons]
      rcases List.mem_cons.mp hy with e | e
      · subst e; omega
      · exact h2 y e
    · simp only [List.foldl_cons]
      rcases h3 with e | e
      · rw [e]
        by_cases hx : n ≤ x
        · exact .inl (by omega)
        · exact .inr (by rw [show min n x = x by omega]; simp)
      · exact .inr (by simp [e])
theorem mx_ge : ∀ (r : List Int) (n : Int), n ≤ r.foldl max n ∧ (∀ y ∈ r, y ≤ r.foldl max n) ∧ (r.foldl max n = n ∨ r.foldl max n ∈ r)
  | [], n => ⟨Int.le_refl _, fun y h => (nomatch h), .inl rfl⟩
  | x :: r, n => by
    obtain ⟨h1, h2, h3⟩ := mx_ge r (max n x)
    refine ⟨by simp only [List.foldl_cons]; omega, fun y hy => ?_, ?_⟩
    · simp only [List.foldl_cons]
      rcases List.mem_cons.mp hy with e | e
      · subst e; omega
      · exact h2 y e
    · simp only [List.foldl_cons]
      rcases h3 with e | e
      · rw [e]
        by_cases hx : x ≤ n
        · exact .inl (by omega)
        · exact .inr (by rw [show max n x = x by omega]; simp)
      · exact .inr (by simp [e])
theorem mnL_mem {l : List Int} (h : l ≠ []) : mnL l ∈ l ∧ ∀ y, y ∈ l → mnL l ≤ y := by
  cases l with
  | nil => exact absurd rfl h
  | cons n r =>
    obtain ⟨h1, h2, h3⟩ := mn_le r n
    refine ⟨?_, fun y hy => ?_⟩
    · show r.foldl min n ∈ n :: r
      rcases h3 with e | e
      · rw [e]; simp
      · simp [e]
    · show r.foldl min n ≤ y
      rcases List.mem_cons.mp hy with e | e
      · rw [e]; exact h1
      · exact h2 y e
theorem mxL_mem {l : List Int} (h : l ≠ []) : mxL l ∈ l ∧ ∀ y, y ∈ l → y ≤ mxL l := by
  cases l with
  | nil => exact absurd rfl h
  | cons n r =>
    obtain ⟨h1, h2, h3⟩ := mx_ge r n
    refine ⟨?_, fun y hy => ?_⟩
    · show r.foldl max n ∈ n :: r
      rcases h3 with e | e
      · rw [e]; simp
      · simp [e]
    · show y ≤ r.foldl max n
      rcases List.mem_cons.mp hy with e | e
      · rw [e]; exact h1
      · exact h2 y e
def lowS (t b : Int) : DD := .tuple [.int (t / (Nat.gcd t.natAbs b.toNat : Nat)), .int (b / (Nat.gcd t.natAbs b.toNat : Nat))]
def fLow (ds : List DD) (r : DD) : Prop := ∃ t b : Int, ds = [.int t, .int b] ∧ 0 < b ∧ b ≤ 1000 ∧ -100000 ≤ t ∧ t ≤ 100000 ∧ r = lowS t b
theorem mk_lowest {t b : Int} (h1 : 0 < b ∧ b ≤ 1000) (h3 : -100000 ≤ t) (h4 : t ≤ 100000) : fLow [.int t, .int b] (lowS t b) := ⟨t, b, rfl, h1.1, h1.2, h3, h4, rfl⟩
theorem mk__law_low {t b : Int} (h1 : 0 < b ∧ b ≤ 1000) (h3 : -100000 ≤ t) (h4 : t ≤ 100000) : fLow [.int t, .int b] (lowS t b) := ⟨t, b, rfl, h1.1, h1.2, h3, h4, rfl⟩
def fUnm (ds : List DD) (r : DD) : Prop := ∃ w : Wy, ds = [w.dd] ∧ WOk w ∧ r = optI (unmS w)
theorem mk_unmirrored {w : Wy} (h : WOk w) : fUnm [w.dd] (optI (unmS w)) := ⟨w, rfl, h, rfl⟩
def fMir (ds : List DD) (r : DD) : Prop := ∃ w : Wy, ds = [w.dd] ∧ WOk w ∧ r = .bool (isNone (optI (unmS w)))
theorem mk_mirrored {w : Wy} (h : WOk w) : fMir [w.dd] (.bool (isNone (optI (unmS w)))) := ⟨w, rfl, h, rfl⟩
def fFu (ds : List DD) (r : Rs) : Prop := ∃ w : Wy, ds = [w.dd] ∧ WOk w ∧ r = fuR w
theorem mk_first_unmirrored {w : Wy} (h : WOk w) : fFu [w.dd] (fuR w) := ⟨w, rfl, h, rfl⟩
def fSpo (ds : List DD) (r : DD) : Prop := ∃ w : Wy, ds = [w.dd] ∧ WOk w ∧ r = optI (spoS w)
theorem mk_spoiled {w : Wy} (h : WOk w) : fSpo [w.dd] (optI (spoS w)) := ⟨w, rfl, h, rfl⟩
def fAo (ds : List DD) (r : Rs) : Prop := ∃ w : Wy, ds = [w.dd] ∧ WOk w ∧ r = aoR w
theorem mk_at_once {w : Wy} (h : WOk w) : fAo [w.dd] (aoR w) := ⟨w, rfl, h, rfl⟩
def fErrs (ds : List DD) (r : DD) : Prop := ∃ w : Wy, ds = [w.dd] ∧ WOk w ∧ r = .tuple [.int (mnL (errs w)), .int (mxL (errs w))]
theorem mk_errors_of {w : Wy} (h : WOk w) : fErrs [w.dd] (.tuple [.int (mnL (errs w)), .int (mxL (errs w))]) := ⟨w, rfl, h, rfl⟩
def fMean (ds : List DD) (r : DD) : Prop := ∃ w : Wy, ds = [w.dd] ∧ WOk w ∧ (-100000 ≤ (errs w).sum ∧ (errs w).sum ≤ 100000) ∧ r = lowS (errs w).sum 48
theorem mk_mean_error {w : Wy} (h : WOk w) (h2 : -100000 ≤ (errs w).sum ∧ (errs w).sum ≤ 100000) : fMean [w.dd] (lowS (errs w).sum 48) := ⟨w, rfl, h, h2, rfl⟩
def fTrue (ds : List DD) (r : DD) : Prop := ∃ a b : Bool, ds = [.bool a, .bool b] ∧ r = .bool (decide (a = b))
theorem mk__law_true {a b : Bool} : fTrue [.bool a, .bool b] (.bool (decide (a = b))) := ⟨a, b, rfl, rfl⟩
def fCall (ds : List DD) (r : DD) : Prop := ∃ (i : Int) (w : Wy), ds = [.int i, w.dd] ∧ WOk w ∧ r = rsD (if i = 0 then fuR w else aoR w)
theorem mk__law_call {i : Int} {w : Wy} (h : WOk w) : fCall [.int i, w.dd] (rsD (if i = 0 then fuR w else aoR w)) := ⟨i, w, rfl, h, rfl⟩
theorem fuR_er {w : Wy} {c : Str} (h : fuR w = .er c) : c ∈ nsE := by
  unfold fuR at h
  split at h <;> cases h
  decide
theorem aoR_er {w : Wy} {c : Str} (h : aoR w = .er c) : c ∈ nsE := by
  unfold aoR at h
  split at h <;> cases h
  decide

section
variable {P : Program} {w : World} {K : FK} {mg : Str → Option Value} {base : Heap}
theorem sc_is_int : FnScope ["value", "low", "high"] ["value", "low", "high"] (defScope (tS 8)) := ⟨rfl, rfl, rfl, by decide +kernel, rfl, by decide +kernel, by decide +kernel⟩
theorem ok_is_int (T : Tx K mg) : FnOk P w K mg base CX0 1 T.f_is_int T.d_is_int ["value", "low", "high"] (spD K fIsInt) := by
  refine def_ok T.F_is_int sc_is_int (fun ds r h => ?_) (fun cdv A outer s H G E ds r hr h => ?_)
  · obtain ⟨d, lo, hi, rfl, rfl⟩ := h; rfl
  · obtain ⟨d, lo, hi, rfl, rfl⟩ := h
    refine ⟨_, (pss_one (ps_ret (pe_and (pe_callB (r := rIsi K) call_isi (by rfl) T.m_isinstance boot_isinstance (pa_cons (pv 0) (pa_cons (pe_bltn (v := .ty "int") rfl T.m_int (by decide +kernel) rfl) pa_nil))) (pe_and (pe_not (pe_callB (r := rIsi K) call_isi (by rfl) T.m_isinstance boot_isinstance (pa_cons (pv 0) (pa_cons (pe_bltn (v := .ty "bool") rfl T.m_bool (by decide +kernel) rfl) pa_nil)))) (pe_one (pe_chain op_le op_le (pv 1) (pv 0) (pv 2))))))), fun Q k => ?_⟩
    cases d with
    | int v => exact nx_retD (ev_andV (ev_isi (ev_var (i := 0) rfl) (b := true) kit_int_int) (fun _ => ev_andV (ev_notV (ev_isi (ev_var (i := 0) rfl) (b := false) kit_int_bool)) (fun _ => ev_chain (ev_var (i := 1) rfl) (ev_var (i := 0) rfl) (fun _ => ev_var (i := 2) rfl) (rd_I0 fun _ => .bl _) (fun _ => rd_I0 fun _ => .bl _)))) (k.to rfl)
    | bool v => exact nx_retD (ev_andV (ev_isi (ev_var (i := 0) rfl) (b := true) kit_bool_int) (fun _ => ev_andV (c := false) (ev_notV (ev_isi (ev_var (i := 0) rfl) (b := true) kit_bool_bool)) (fun h => nomatch h))) (k.to rfl)
    | none => exact nx_retD (ev_andV (c := false) (ev_isi (ev_var (i := 0) rfl) (b := false) kit_NoneType_int) (fun h => nomatch h)) (k.to rfl)
    | str v => exact nx_retD (ev_andV (c := false) (ev_isi (ev_var (i := 0) rfl) (b := false) kit_str_int) (fun h => nomatch h)) (k.to rfl)
    | list v => exact nx_retD (ev_andV (c := false) (ev_isi (ev_var (i := 0) rfl) (b := false) kit_list_int) (fun h => nomatch h)) (k.to rfl)
    | tuple v => exact nx_retD (ev_andV (c := false) (ev_isi (ev_var (i := 0) rfl) (b := false) kit_tuple_int) (fun h => nomatch h)) (k.to rfl)
    | dict v => exact nx_retD (ev_andV (c := false) (ev_isi (ev_var (i := 0) rfl) (b := false) kit_dict_int) (fun h => nomatch h)) (k.to rfl)
theorem sc_lowest : FnScope ["top", "bottom", "one", "other"] ["top", "bottom"] (defScope (tS 9)) := ⟨rfl, rfl, rfl, by decide +kernel, rfl, by decide +kernel, by decide +kernel⟩
theorem ok_lowest (T : Tx K mg) : FnOk P w K mg base CX0 1 T.f_lowest T.d_lowest ["top", "bottom"] (spD K fLow) := by
  refine def_ok T.F_lowest sc_lowest (fun ds r h => ?_) (fun cdv A outer s H G E ds r hr h => ?_)
  · obtain ⟨t, b, rfl, hb1, hb2, ht1, ht2, rfl⟩ := h; rfl
  · obtain ⟨t, b, rfl, hb1, hb2, ht1, ht2, rfl⟩ := h
    refine ⟨_, (pss_cons (ps_par (i := 2) (j := 3) rfl sc_lowest.nd rfl rfl (by decide) rfl rfl (pa_cons (pe_callB call_abs (by rfl) T.m_abs (by decide +kernel) (pa_cons (pv 0) pa_nil)) (pa_cons (pv 1) pa_nil)) (by rfl))
      (pss_cons (ps_while PassesOwn.never (pt_cmpR op_ne (pv 3) pe_int (nomark _))
      (pss_one (ps_par (i := 2) (j := 3) rfl sc_lowest.nd rfl rfl (by decide) rfl rfl (pa_cons (pv 3) (pa_cons (pe_op op_mod (pv 2) (pv 3)) pa_nil)) (by rfl))))
      (pss_one (ps_ret (pe_tup (pa_cons (pe_op op_fdiv (pv 0) (pv 2)) (pa_cons (pe_op op_fdiv (pv 1) (pv 2)) pa_nil))))))), fun Q k => ?_⟩
    refine nx_seq (nx_par (em_D (ev_abs (ev_var (i := 0) rfl)) (em_D (ev_var (i := 1) rfl) em_nil)) (by rfl) ?_)
    rintro ms ⟨v1, _, _, rfl, ⟨v2, _, _, rfl, rfl, rfl⟩, rfl⟩
    refine ⟨rfl, ?_⟩
    refine nx_seq (nx_while (fun m Γ1 => ∃ x y : Int, Γ1 = [.dat (.int t), .dat (.int b), .dat (.int x), .dat (.int y)] ∧ 0 ≤ x ∧ 0 ≤ y ∧ (0 < x ∨ 0 < y) ∧ x ≤ 100000 ∧ y ≤ 100000 ∧ Nat.gcd x.toNat y.toNat = Nat.gcd t.natAbs b.toNat ∧ m = y.toNat) b.toNat ⟨_, b, rfl, ?_, ?_, ?_, ?_, ?_, ?_, rfl⟩ (fun m Γ1 ⟨x, y, e, h1, h2, h3, h4, h5, h6, h7⟩ => ?_))
    · split <;> omega
    · omega
    · omega
    · split <;> omega
    · omega
    · congr 1
      split <;> omega
    subst e h7
    refine ⟨_, (et_test (ev_neI (ev_var (i := 3) rfl) ev_int)), fun hb => ?_, fun hb => ?_⟩
    · have hy : 0 < y := by
        have : ¬ y = 0 := by simpa using hb
        omega
      refine nx_par (em_D (ev_var (i := 3) rfl) (em_D (ev_mod (ev_var (i := 2) rfl) (ev_var (i := 3) rfl) hy) em_nil)) (by rfl) ?_
      rintro ms ⟨v1, _, _, rfl, ⟨v2, _, _, rfl, rfl, rfl⟩, rfl⟩
      refine ⟨rfl, ?_⟩
      have m1 := Int.emod_nonneg x (Int.ne_of_gt hy)
      have m2 := Int.emod_lt_of_pos x hy
      refine nx_loopW (m' := (x % y).toNat) (by omega) ⟨y, x % y, rfl, by omega, m1, .inl hy, h5, by omega, ?_, rfl⟩
      rw [← h6]
      have e1 : (x % y).toNat = x.toNat % y.toNat := by
        obtain ⟨a, rfl⟩ := Int.eq_ofNat_of_zero_le h1
        obtain ⟨c, rfl⟩ := Int.eq_ofNat_of_zero_le h2
        rfl
      rw [e1, Nat.gcd_comm x.toNat y.toNat, Nat.gcd_rec y.toNat x.toNat]
      exact Nat.gcd_comm _ _
    · have hy : y = 0 := by simpa using hb
      subst hy
      have hx : 0 < x := by omega
      have eg : ((Nat.gcd t.natAbs b.toNat : Nat) : Int) = x := by
        rw [← h6]
        simp
        omega
      refine nx_retD (ev_tup (ea_cons (ev_fdiv (ev_var (i := 0) rfl) (ev_var (i := 2) rfl) ⟨hx, by omega⟩) (ea_cons (ev_fdiv (ev_var (i := 1) rfl) (ev_var (i := 2) rfl) ⟨hx, by omega⟩) ea_nil))) (k.to ?_)
      unfold lowS
      rw [eg]
theorem sc_nearer : FnScope ["low", "high", "mode", "step", "even", "odd", "inner", "outer"] ["low", "high", "mode", "step"] (defScope (tS 11)) := ⟨rfl, rfl, rfl, by decide +kernel, rfl, by decide +kernel, by decide +kernel⟩
theorem ok_nearer (T : Tx K mg) : FnOk P w K mg base CX0 1 T.f_nearer T.d_nearer ["low", "high", "mode", "step"] (spD K fNearer) := by
  refine def_ok T.F_nearer sc_nearer (fun ds r h => ?_) (fun cdv A outer s H G E ds r hr h => ?_)
  · obtain ⟨low, high, mode, step, rfl, hs, hs2, rfl⟩ := h; rfl
  · obtain ⟨low, high, mode, step, rfl, hs, hs2, rfl⟩ := h
    refine ⟨_, (pss_cons (ps_if (pt_cmpR op_eq (pv 2) pe_str (nomark _))
      (pss_one (ps_ret (pv 0)))
      pss_nil)
      (pss_cons (ps_if (pt_cmpR op_eq (pv 2) pe_str (nomark _))
      (pss_one (ps_ret (pv 1)))
      pss_nil)
      (pss_cons (ps_if (pt_cmpR (r := rIn K false) op_in_seq (pv 2) (pe_tup (pa_cons pe_str (pa_cons pe_str pa_nil))) rfl)
      (pss_cons (ps_set (i := 4) sc_nearer.nd rfl (by first | exact Or.inl rfl | exact Or.inr rfl) (pe_ifExp (pt_cmpR op_eq (pe_op op_mod (pe_op op_fdiv (pv 0) (pv 3)) pe_int) pe_int (nomark _)) (pv 0) (pv 1)))
      (pss_cons (ps_set (i := 5) sc_nearer.nd rfl (by first | exact Or.inl rfl | exact Or.inr rfl) (pe_ifExp (pt_cmpR op_eq (pv 4) (pv 0) (nomark _)) (pv 1) (pv 0)))
      (pss_one (ps_ret (pe_ifExp (pt_cmpR op_eq (pv 2) pe_str (nomark _)) (pv 4) (pv 5))))))
      pss_nil)
      (pss_cons (ps_set (i := 6) sc_nearer.nd rfl (by first | exact Or.inl rfl | exact Or.inr rfl) (pe_ifExp (pt_cmpR op_ge (pv 0) pe_int (nomark _)) (pv 0) (pv 1)))
      (pss_cons (ps_set (i := 7) sc_nearer.nd rfl (by first | exact Or.inl rfl | exact Or.inr rfl) (pe_ifExp (pt_cmpR op_ge (pv 0) pe_int (nomark _)) (pv 1) (pv 0)))
      (pss_one (ps_ret (pe_ifExp (pt_cmpR op_eq (pv 2) pe_str (nomark _)) (pv 6) (pv 7))))))))), fun Q k => ?_⟩
    refine nx_seq (nx_if (et_test (ev_eqS (ev_var (i := 2) rfl) ev_str)) (fun h1 => ?_) (fun h1 => ?_))
    · refine nx_retD (ev_var (i := 0) rfl) (k.to ?_)
      simp only [nearerS, h1, Bool.false_eq_true, if_true, if_false]
    · refine nx_next ?_
      refine nx_seq (nx_if (et_test (ev_eqS (ev_var (i := 2) rfl) ev_str)) (fun h2 => ?_) (fun h2 => ?_))
      · refine nx_retD (ev_var (i := 1) rfl) (k.to ?_)
        simp only [nearerS, h1, h2, Bool.false_eq_true, if_true, if_false]
      · refine nx_next ?_
        refine nx_seq (nx_if (et_test (ev_inT (ev_var (i := 2) rfl) (ev_tup (ea_cons ev_str (ea_cons ev_str ea_nil))))) (fun h3 => ?_) (fun h3 => ?_))
        · refine nx_seq (nx_asg (ev_ifI (et_test (ev_eqI (ev_mod (ev_fdiv (ev_var (i := 0) rfl) (ev_var (i := 3) rfl) (by walk_at "zz_ob")) ev_int (by walk_at "zz_ob")) ev_int)) (fun hb => (ev_var (i := 0) rfl)) (fun hb => (ev_var (i := 1) rfl))) ?_)
          refine nx_seq (nx_asg (ev_ifI (et_test (ev_eqI (ev_var (i := 4) rfl) (ev_var (i := 0) rfl))) (fun hb => (ev_var (i := 1) rfl)) (fun hb => (ev_var (i := 0) rfl))) ?_)
          refine nx_retD (ev_ifI (et_test (ev_eqS (ev_var (i := 2) rfl) ev_str)) (fun hb => (ev_var (i := 4) rfl)) (fun hb => (ev_var (i := 5) rfl))) (k.to ?_)
          simp only [nearerS, h1, h2, h3, Bool.false_eq_true, if_true, if_false]
        · refine nx_next ?_
          refine nx_seq (nx_asg (ev_ifI (et_test (ev_ge (ev_var (i := 0) rfl) ev_int)) (fun hb => (ev_var (i := 0) rfl)) (fun hb => (ev_var (i := 1) rfl))) ?_)
          refine nx_seq (nx_asg (ev_ifI (et_test (ev_ge (ev_var (i := 0) rfl) ev_int)) (fun hb => (ev_var (i := 1) rfl)) (fun hb => (ev_var (i := 0) rfl))) ?_)
          refine nx_retD (ev_ifI (et_test (ev_eqS (ev_var (i := 2) rfl) ev_str)) (fun hb => (ev_var (i := 6) rfl)) (fun hb => (ev_var (i := 7) rfl))) (k.to ?_)
          simp only [nearerS, h1, h2, h3, Bool.false_eq_true, if_true, if_false]
theorem sc_brought_to : FnScope ["value", "step", "mode", "low", "high"] ["value", "step", "mode"] (defScope (tS 12)) := ⟨rfl, rfl, rfl, by decide +kernel, rfl, by decide +kernel, by decide +kernel⟩
theorem ok_brought_to (T : Tx K mg) : FnOk P w K mg base CX0 2 T.f_brought_to T.d_brought_to ["value", "step", "mode"] (spD K fBt) := by
  refine def_ok T.F_brought_to sc_brought_to (fun ds r h => ?_) (fun cdv A outer s H G E ds r hr h => ?_)
  · obtain ⟨value, step, mode, rfl, hs, hs2, rfl⟩ := h; rfl
  · obtain ⟨value, step, mode, rfl, hs, hs2, rfl⟩ := h
    refine ⟨_, (pss_cons (ps_set (i := 3) sc_brought_to.nd rfl (by first | exact Or.inl rfl | exact Or.inr rfl) (pe_op op_mul (pe_op op_fdiv (pv 0) (pv 1)) (pv 1)))
      (pss_cons (ps_set (i := 4) sc_brought_to.nd rfl (by first | exact Or.inl rfl | exact Or.inr rfl) (pe_ifExp (pt_cmpR op_eq (pv 3) (pv 0) (nomark _)) (pv 3) (pe_op op_add (pv 3) (pv 1))))
      (pss_cons (ps_if (pt_cmpR op_eq (pv 2) pe_str (nomark _))
      (pss_one (ps_ret (pv 3)))
      pss_nil)
      (pss_cons (ps_if (pt_cmpR op_eq (pv 2) pe_str (nomark _))
      (pss_one (ps_ret (pv 4)))
      pss_nil)
      (pss_cons (ps_if (pt_cmpR (r := rIn K false) op_in_seq (pv 2) (pe_tup (pa_cons pe_str (pa_cons pe_str pa_nil))) rfl)
      (pss_one (ps_ret (pe_ifExp (pt_cmpR op_eq (pe_cmpR op_ge (pv 0) pe_int (nomark _)) (pe_cmpR op_eq (pv 2) pe_str (nomark _)) (nomark _)) (pv 3) (pv 4))))
      pss_nil)
      (pss_cons (ps_if (pt_cmpR op_ne (pe_op op_sub (pv 0) (pv 3)) (pe_op op_sub (pv 4) (pv 0)) (nomark _))
      (pss_one (ps_ret (pe_ifExp (pt_cmpR op_lt (pe_op op_sub (pv 0) (pv 3)) (pe_op op_sub (pv 4) (pv 0)) (nomark _)) (pv 3) (pv 4))))
      pss_nil)
      (pss_one (ps_ret (pe_ifExp (pt_cmpR op_ne (pv 3) (pv 4) (nomark _)) (pe_call (ok_nearer T) (hr.mono (by decide)) (by rfl) T.g_nearer T.F_nearer.kp (b_nearer T) .nil pass0 (pa_cons (pv 3) (pa_cons (pv 4) (pa_cons (pv 2) (pa_cons (pv 1) pa_nil))))) (pv 3)))))))))), fun Q k => ?_⟩
    refine nx_seq (nx_asg (ev_mul (ev_fdiv (ev_var (i := 0) rfl) (ev_var (i := 1) rfl) (by walk_at "zz_ob")) (ev_var (i := 1) rfl) (.inr (by omega))) ?_)
    refine nx_seq (nx_asg (ev_ifI (et_test (ev_eqI (ev_var (i := 3) rfl) (ev_var (i := 0) rfl))) (fun hb => (ev_var (i := 3) rfl)) (fun hb => (ev_add (ev_var (i := 3) rfl) (ev_var (i := 1) rfl)))) ?_)
    refine nx_seq (nx_if (et_test (ev_eqS (ev_var (i := 2) rfl) ev_str)) (fun h1 => ?_) (fun h1 => ?_))
    · refine nx_retD (ev_var (i := 3) rfl) (k.to ?_)
      simp only [btS, h1, Bool.false_eq_true, if_true, if_false]
    · refine nx_next ?_
      refine nx_seq (nx_if (et_test (ev_eqS (ev_var (i := 2) rfl) ev_str)) (fun h2 => ?_) (fun h2 => ?_))
      · refine nx_retD (ev_var (i := 4) rfl) (k.to ?_)
        simp only [btS, h1, h2, Bool.false_eq_true, if_true, if_false]
      · refine nx_next ?_
        refine nx_seq (nx_if (et_test (ev_inT (ev_var (i := 2) rfl) (ev_tup (ea_cons ev_str (ea_cons ev_str ea_nil))))) (fun h3 => ?_) (fun h3 => ?_))
        · refine nx_retD (ev_ifI (et_test (ev_eqB (ev_ge (ev_var (i := 0) rfl) ev_int) (ev_eqS (ev_var (i := 2) rfl) ev_str))) (fun hb => (ev_var (i := 3) rfl)) (fun hb => (ev_var (i := 4) rfl))) (k.to ?_)
          simp only [btS, h1, h2, h3, Bool.false_eq_true, if_true, if_false]
        · refine nx_next ?_
          refine nx_seq (nx_if (et_test (ev_neI (ev_sub (ev_var (i := 0) rfl) (ev_var (i := 3) rfl)) (ev_sub (ev_var (i := 4) rfl) (ev_var (i := 0) rfl)))) (fun h4 => ?_) (fun h4 => ?_))
          · refine nx_retD (ev_ifI (et_test (ev_lt (ev_sub (ev_var (i := 0) rfl) (ev_var (i := 3) rfl)) (ev_sub (ev_var (i := 4) rfl) (ev_var (i := 0) rfl)))) (fun hb => (ev_var (i := 3) rfl)) (fun hb => (ev_var (i := 4) rfl))) (k.to ?_)
            simp only [btS, h1, h2, h3, h4, Bool.false_eq_true, if_true, if_false]
          · refine nx_next ?_
            refine nx_retD (ev_ifI (et_test (ev_neI (ev_var (i := 3) rfl) (ev_var (i := 4) rfl))) (fun hb => (ev_call (ea_cons (ev_var (i := 3) rfl) (ea_cons (ev_var (i := 4) rfl) (ea_cons (ev_var (i := 2) rfl) (ea_cons (ev_var (i := 1) rfl) ea_nil)))) (mk_nearer (by walk_at "zz_ob") (by walk_at "zz_ob")))) (fun hb => (ev_var (i := 3) rfl))) (k.to ?_)
            simp only [btS, h1, h2, h3, h4, Bool.false_eq_true, if_true, if_false]
theorem sc_bring : FnScope ["way", "value", "step", "finer", "mode", "carry"] ["way", "value"] (defScope (tS 13)) := ⟨rfl, rfl, rfl, by decide +kernel, rfl, by decide +kernel, by decide +kernel⟩
theorem ok_bring (T : Tx K mg) : FnOk P w K mg base CX0 3 T.f_bring T.d_bring ["way", "value"] (spD K fBring) := by
  refine def_ok T.F_bring sc_bring (fun ds r h => ?_) (fun cdv A outer s H G E ds r hr h => ?_)
  · obtain ⟨w, v, rfl, ⟨hw1, hw2, hw3, hw4⟩, rfl⟩ := h; rfl
  · obtain ⟨w, v, rfl, ⟨hw1, hw2, hw3, hw4⟩, rfl⟩ := h
    refine ⟨_, (pss_cons (ps_asg (pv 0) (show PG _ _ (gTup K 4 _) from pg_tup rfl (pgs_cons (pg_name (i := 2) sc_bring.nd rfl (by first | exact Or.inl rfl | exact Or.inr rfl)) (pgs_cons (pg_name (i := 3) sc_bring.nd rfl (by first | exact Or.inl rfl | exact Or.inr rfl)) (pgs_cons (pg_name (i := 4) sc_bring.nd rfl (by first | exact Or.inl rfl | exact Or.inr rfl)) (pgs_cons (pg_name (i := 5) sc_bring.nd rfl (by first | exact Or.inl rfl | exact Or.inr rfl)) pgs_nil))))))
      (pss_one (ps_ret (pe_call (ok_brought_to T) (hr.mono (by decide)) (by rfl) T.g_brought_to T.F_brought_to.kp (b_brought_to T) .nil pass0 (pa_cons (pe_call (ok_brought_to T) (hr.mono (by decide)) (by rfl) T.g_brought_to T.F_brought_to.kp (b_brought_to T) .nil pass0 (pa_cons (pv 1) (pa_cons (pv 3) (pa_cons (pv 4) pa_nil)))) (pa_cons (pv 2) (pa_cons (pv 4) pa_nil))))))), fun Q k => ?_⟩
    refine nx_seq (nx_asgT (ev_var (i := 0) rfl) (tg_tup rfl (tgs_cons tg_name (tgs_cons tg_name (tgs_cons tg_name (tgs_cons tg_name tgs_nil))))) ?_)
    refine nx_retD (ev_call (ea_cons (ev_call (ea_cons (ev_var (i := 1) rfl) (ea_cons (ev_var (i := 3) rfl) (ea_cons (ev_var (i := 4) rfl) ea_nil))) (mk_brought_to (by walk_at "zz_ob") (by walk_at "zz_ob"))) (ea_cons (ev_var (i := 2) rfl) (ea_cons (ev_var (i := 4) rfl) ea_nil))) (mk_brought_to (by walk_at "zz_ob") (by walk_at "zz_ob"))) (k.to ?_)
    walk_at "zz_leaf"
theorem sc_is_word : FnScope ["value", "words"] ["value", "words"] (defScope (tS 18)) := ⟨rfl, rfl, rfl, by decide +kernel, rfl, by decide +kernel, by decide +kernel⟩
theorem ok_is_word (T : Tx K mg) : FnOk P w K mg base CX0 1 T.f_is_word T.d_is_word ["value", "words"] (spD K fIsWord) := by
  refine def_ok T.F_is_word sc_is_word (fun ds r h => ?_) (fun cdv A outer s H G E ds r hr h => ?_)
  · obtain ⟨d, ws, rfl, rfl⟩ := h; rfl
  · obtain ⟨d, ws, rfl, rfl⟩ := h
    refine ⟨_, (pss_one (ps_ret (pe_and (pe_callB (r := rIsi K) call_isi (by rfl) T.m_isinstance boot_isinstance (pa_cons (pv 0) (pa_cons (pe_bltn (v := .ty "str") rfl T.m_str (by decide +kernel) rfl) pa_nil))) (pe_one (pe_cmpR (r := rIn K false) op_in_seq (pv 0) (pv 1) rfl))))), fun Q k => ?_⟩
    cases d with
    | str x =>
      refine nx_retD (ev_andV (ev_isi (ev_var (i := 0) rfl) (b := true) kit_str_str) (fun _ => ev_inT (ev_var (i := 0) rfl) (ev_var (i := 1) rfl) rfl ?_)) (k.to rfl)
      rw [List.all_map, List.all_eq_true]; intro z _; rfl
    | none => exact nx_retD (ev_andV (c := false) (ev_isi (ev_var (i := 0) rfl) (b := false) kit_NoneType_str) (fun h => nomatch h)) (k.to rfl)
    | bool v => exact nx_retD (ev_andV (c := false) (ev_isi (ev_var (i := 0) rfl) (b := false) kit_bool_str) (fun h => nomatch h)) (k.to rfl)
    | int v => exact nx_retD (ev_andV (c := false) (ev_isi (ev_var (i := 0) rfl) (b := false) kit_int_str) (fun h => nomatch h)) (k.to rfl)
    | list v => exact nx_retD (ev_andV (c := false) (ev_isi (ev_var (i := 0) rfl) (b := false) kit_list_str) (fun h => nomatch h)) (k.to rfl)
    | tuple v => exact nx_retD (ev_andV (c := false) (ev_isi (ev_var (i := 0) rfl) (b := false) kit_tuple_str) (fun h => nomatch h)) (k.to rfl)
    | dict v => exact nx_retD (ev_andV (c := false) (ev_isi (ev_var (i := 0) rfl) (b := false) kit_dict_str) (fun h => nomatch h)) (k.to rfl)
theorem sc_is_way : FnScope ["value"] ["value"] (defScope (tS 19)) := ⟨rfl, rfl, rfl, by decide +kernel, rfl, by decide +kernel, by decide +kernel⟩
theorem ok_is_way (T : Tx K mg) : FnOk P w K mg base CX0 2 T.f_is_way T.d_is_way ["value"] (spD K fIsWay) := by
  refine def_ok T.F_is_way sc_is_way (fun ds r h => ?_) (fun cdv A outer s H G E ds r hr h => ?_)
  · obtain ⟨d, rfl, rfl⟩ := h; rfl
  · obtain ⟨d, rfl, rfl⟩ := h
    refine ⟨_, (pss_cons (ps_if (PW.pt (pw_or (pt_not (pt_val (pe_callB (r := rIsi K) call_isi (by rfl) T.m_isinstance boot_isinstance (pa_cons (pv 0) (pa_cons (pe_bltn (v := .ty "tuple") rfl T.m_tuple (by decide +kernel) rfl) pa_nil))))) (pw_or1 (pt_cmpR op_ne (pe_callB (r := rLenS K) call_len_seq (by rfl) T.m_len PySem.boot_len (pa_cons (pv 0) pa_nil)) pe_int (nomark _)))))
      (pss_one (ps_ret pe_bl))
      pss_nil)
      (pss_cons (ps_if (PW.pt (pw_or (pt_not (pt_val (pe_call (ok_is_int T) (hr.mono (by decide)) (by rfl) T.g_is_int T.F_is_int.kp (b_is_int T) .nil pass0 (pa_cons (pe_ix (r := rIxT K) ix_tup (pv 0) pe_int (fun _ _ => rfl)) (pa_cons pe_int (pa_cons pe_int pa_nil)))))) (pw_or (pt_not (pt_val (pe_call (ok_is_int T) (hr.mono (by decide)) (by rfl) T.g_is_int T.F_is_int.kp (b_is_int T) .nil pass0 (pa_cons (pe_ix (r := rIxT K) ix_tup (pv 0) pe_int (fun _ _ => rfl)) (pa_cons pe_int (pa_cons pe_int pa_nil)))))) (pw_or1 (pt_cmpR (r := rInTD K true) (op_notInTD hr) (pe_slice (r := rSlT K) sl_tup (pv 0) po_none (po_some pe_int)) (pe_glob (v := .ref _) rfl T.g_STEPS rfl) rfl)))))
      (pss_one (ps_ret pe_bl))
      pss_nil)
      (pss_one (ps_ret (pe_and (pe_call (ok_is_word T) (hr.mono (by decide)) (by rfl) T.g_is_word T.F_is_word.kp (b_is_word T) .nil pass0 (pa_cons (pe_ix (r := rIxT K) ix_tup (pv 0) pe_int (fun _ _ => rfl)) (pa_cons (pe_glob (v := .ref _) rfl T.g_MODES rfl) pa_nil))) (pe_one (pe_call (ok_is_word T) (hr.mono (by decide)) (by rfl) T.g_is_word T.F_is_word.kp (b_is_word T) .nil pass0 (pa_cons (pe_ix (r := rIxT K) ix_tup (pv 0) pe_int (fun _ _ => rfl)) (pa_cons (pe_glob (v := .ref _) rfl T.g_CARRIES rfl) pa_nil))))))))), fun Q k => ?_⟩
    cases d with
    | tuple es =>
      by_cases hl : es.length = 4
      · obtain ⟨a, b, c, e, rfl⟩ : ∃ a b c e, es = [a, b, c, e] := by
          match es, hl with
          | [a, b, c, e], _ => exact ⟨a, b, c, e, rfl⟩
        refine nx_seq (nx_if (et_or (et_not (et_B (ev_isi (ev_var (i := 0) rfl) (b := true) kit_tuple_tuple))) (fun _ => et_test (ev_neI (ev_lenT (ev_var (i := 0) rfl)) ev_int))) (fun h => by simp at h) (fun h => nx_next ?_))
        refine nx_seq (nx_if (et_or (et_not (et_B (ev_call (ea_cons (ev_ixT (ev_var (i := 0) rfl) ev_int rfl) (ea_cons ev_int (ea_cons ev_int ea_nil))) (mk_is_int )))) (fun h1 => et_or (et_not (et_B (ev_call (ea_cons (ev_ixT (ev_var (i := 0) rfl) ev_int rfl) (ea_cons ev_int (ea_cons ev_int ea_nil))) (mk_is_int )))) (fun h2 => et_test (ev_niTD (ev_slT (ev_var (i := 0) rfl) eo_none (eo_some ev_int)) (ev_c T.k_STEPS) ?_ ?_)))) (fun h => ?_) (fun h => nx_next ?_))
        · have h1' : isIntB a 2 6 = true := by simpa using h1
          have h2' : isIntB b 1 3 = true := by simpa using h2
          obtain ⟨i, rfl⟩ : ∃ i, a = .int i := by
            cases a <;> first | exact ⟨_, rfl⟩ | simp [isIntB] at h1'
          obtain ⟨j, rfl⟩ : ∃ i, b = .int i := by
            cases b <;> first | exact ⟨_, rfl⟩ | simp [isIntB] at h2'
          exact (ok_tuple (n := 0) (ds := [.int i, .int j]) (by simp [ok_int])).shaped
        · decide +kernel
        · refine nx_retD ev_bl (k.to ?_)
          have h' : (!isIntB a 2 6 || (!isIntB b 1 3 || !inD (.tuple [a, b]) stepsD)) = true := h
          simp only [isWayB]
          have : (isIntB a 2 6 && (isIntB b 1 3 && inD (.tuple [a, b]) stepsD)) = false := by
            rcases Bool.eq_false_or_eq_true (isIntB a 2 6) with e1 | e1 <;> rcases Bool.eq_false_or_eq_true (isIntB b 1 3) with e2 | e2 <;> simp_all
          rw [this]; rfl
        · refine nx_retD (ev_andV (ev_call (ea_cons (ev_ixT (ev_var (i := 0) rfl) ev_int rfl) (ea_cons (ev_c T.k_MODES) ea_nil)) (mk_is_word modesS rfl)) (fun _ => (ev_call (ea_cons (ev_ixT (ev_var (i := 0) rfl) ev_int rfl) (ea_cons (ev_c T.k_CARRIES) ea_nil)) (mk_is_word carriesS rfl)))) (k.to ?_)
          have h' : (!isIntB a 2 6 || (!isIntB b 1 3 || !inD (.tuple [a, b]) stepsD)) = false := h
          simp only [isWayB]
          have : (isIntB a 2 6 && (isIntB b 1 3 && inD (.tuple [a, b]) stepsD)) = true := by
            rcases Bool.eq_false_or_eq_true (isIntB a 2 6) with e1 | e1 <;> rcases Bool.eq_false_or_eq_true (isIntB b 1 3) with e2 | e2 <;> simp_all
          rw [this]; rfl
      · refine nx_seq (nx_if (et_or (et_not (et_B (ev_isi (ev_var (i := 0) rfl) (b := true) kit_tuple_tuple))) (fun _ => et_test (ev_neI (ev_lenT (ev_var (i := 0) rfl)) ev_int))) (fun h => nx_retD ev_bl (k.to ?_)) (fun h => ?_))
        · have : isWayB (.tuple es) = false := by
            unfold isWayB
            split
            · rename_i heq; cases heq; exact absurd rfl hl
            · rfl
          rw [this]
        · exfalso
          simp at h
          omega
    | none =>
      exact nx_seq (nx_if (et_or (c := true) (et_not (et_B (ev_isi (ev_var (i := 0) rfl) (b := false) kit_NoneType_tuple))) (fun h => nomatch h)) (fun _ => nx_retD ev_bl (k.to rfl)) (fun h => nomatch h))
    | bool v =>
      exact nx_seq (nx_if (et_or (c := true) (et_not (et_B (ev_isi (ev_var (i := 0) rfl) (b := false) kit_bool_tuple))) (fun h => nomatch h)) (fun _ => nx_retD ev_bl (k.to rfl)) (fun h => nomatch h))
    | int v =>
      exact nx_seq (nx_if (et_or (c := true) (et_not (et_B (ev_isi (ev_var (i := 0) rfl) (b := false) kit_int_tuple))) (fun h => nomatch h)) (fun _ => nx_retD ev_bl (k.to rfl)) (fun h => nomatch h))
    | list v =>
      exact nx_seq (nx_if (et_or (c := true) (et_not (et_B (ev_isi (ev_var (i := 0) rfl) (b := false) kit_list_tuple))) (fun h => nomatch h)) (fun _ => nx_retD ev_bl (k.to rfl)) (fun h => nomatch h))
    | str v =>
      exact nx_seq (nx_if (et_or (c := true) (et_not (et_B (ev_isi (ev_var (i := 0) rfl) (b := false) kit_str_tuple))) (fun h => nomatch h)) (fun _ => nx_retD ev_bl (k.to rfl)) (fun h => nomatch h))
    | dict v =>
      exact nx_seq (nx_if (et_or (c := true) (et_not (et_B (ev_isi (ev_var (i := 0) rfl) (b := false) kit_dict_tuple))) (fun h => nomatch h)) (fun _ => nx_retD ev_bl (k.to rfl)) (fun h => nomatch h))
theorem sc_check_way : FnScope ["value"] ["value"] (defScope (tS 20)) := ⟨rfl, rfl, rfl, by decide +kernel, rfl, by decide +kernel, by decide +kernel⟩
theorem ok_check_way (T : Tx K mg) : FnOk P w K mg base CX0 3 T.f_check_way T.d_check_way ["value"] (spD K fCheckWay) := by
  refine def_ok T.F_check_way sc_check_way (fun ds r h => ?_) (fun cdv A outer s H G E ds r hr h => ?_)
  · obtain ⟨d, rfl, hd, rfl⟩ := h; rfl
  · obtain ⟨d, rfl, hd, rfl⟩ := h
    refine ⟨_, (pss_one (ps_if (pt_not (pt_val (pe_call (ok_is_way T) (hr.mono (by decide)) (by rfl) T.g_is_way T.F_is_way.kp (b_is_way T) .nil pass0 (pa_cons (pv 0) pa_nil))))
      (pss_one ps_never)
      pss_nil)), fun Q k => ?_⟩
    refine nx_if (et_not (et_B (ev_call (ea_cons (ev_var (i := 0) rfl) ea_nil) (mk_is_way )))) (fun h1 => ?_) (fun h1 => ?_)
    · exfalso
      simp_all
    · refine nx_next ?_
      exact nx_end (k.to rfl)
theorem sc_brought : FnScope ["way", "value"] ["way", "value"] (defScope (tS 24)) := ⟨rfl, rfl, rfl, by decide +kernel, rfl, by decide +kernel, by decide +kernel⟩
theorem ok_brought (T : Tx K mg) : FnOk P w K mg base CX0 4 T.f_brought T.d_brought ["way", "value"] (spD K fBrought) := by
  refine def_ok T.F_brought sc_brought (fun ds r h => ?_) (fun cdv A outer s H G E ds r hr h => ?_)
  · obtain ⟨w, v, rfl, hw, hv1, hv2, rfl⟩ := h; rfl
  · obtain ⟨w, v, rfl, hw, hv1, hv2, rfl⟩ := h
    refine ⟨_, (pss_cons (ps_expr (pe_call (ok_check_way T) (hr.mono (by decide)) (by rfl) T.g_check_way T.F_check_way.kp (b_check_way T) .nil pass0 (pa_cons (pv 0) pa_nil)))
      (pss_cons (ps_if (pt_not (pt_val (pe_call (ok_is_int T) (hr.mono (by decide)) (by rfl) T.g_is_int T.F_is_int.kp (b_is_int T) .nil pass0 (pa_cons (pv 1) (pa_cons (pe_un un_neg (pe_glob (v := .int _) rfl T.g_WIDEST_VALUE ⟨_, rfl⟩)) (pa_cons (pe_glob (v := .int _) rfl T.g_WIDEST_VALUE ⟨_, rfl⟩) pa_nil))))))
      (pss_one ps_never)
      pss_nil)
      (pss_one (ps_ret (pe_call (ok_bring T) (hr.mono (by decide)) (by rfl) T.g_bring T.F_bring.kp (b_bring T) .nil pass0 (pa_cons (pv 0) (pa_cons (pv 1) pa_nil))))))), fun Q k => ?_⟩
    refine nx_seq (nx_drop (ev_call (ea_cons (ev_var (i := 0) rfl) ea_nil) (mk_check_way hw.is)) ?_)
    refine nx_seq (nx_if (et_not (et_B (ev_call (ea_cons (ev_var (i := 1) rfl) (ea_cons (ev_neg ev_int) (ea_cons ev_int ea_nil))) (mk_is_int )))) (fun h1 => ?_) (fun h1 => ?_))
    · exfalso
      simp_all [isIntB]
    · refine nx_next ?_
      refine nx_retD (ev_call (ea_cons (ev_var (i := 0) rfl) (ea_cons (ev_var (i := 1) rfl) ea_nil)) (mk_bring hw.ok)) (k.to ?_)
      rfl
theorem sc_unmirrored : FnScope ["way", "value"] ["way"] (defScope (tS 25)) := ⟨rfl, rfl, rfl, by decide +kernel, rfl, by decide +kernel, by decide +kernel⟩
theorem ok_unmirrored (T : Tx K mg) : FnOk P w K mg base CX0 4 T.f_unmirrored T.d_unmirrored ["way"] (spD K fUnm) := by
  refine def_ok T.F_unmirrored sc_unmirrored (fun ds r h => ?_) (fun cdv A outer s H G E ds r hr h => ?_)
  · obtain ⟨w, rfl, hw, rfl⟩ := h; rfl
  · obtain ⟨w, rfl, hw, rfl⟩ := h
    refine ⟨_, (pss_cons (ps_for PassesOwn.never rfl (pi_range2 rfl T.m_range (pa_cons pe_int (pa_cons (pe_op op_add (pe_glob (v := .int _) rfl T.g_ROUND ⟨_, rfl⟩) pe_int) pa_nil))) (pg_name (i := 1) sc_unmirrored.nd rfl (by first | exact Or.inl rfl | exact Or.inr rfl))
      (pss_one (ps_if (pt_cmpR op_ne (pe_call (ok_bring T) (hr.mono (by decide)) (by rfl) T.g_bring T.F_bring.kp (b_bring T) .nil pass0 (pa_cons (pv 0) (pa_cons (pe_un un_neg (pv 1)) pa_nil))) (pe_un un_neg (pe_call (ok_bring T) (hr.mono (by decide)) (by rfl) T.g_bring T.F_bring.kp (b_bring T) .nil pass0 (pa_cons (pv 0) (pa_cons (pv 1) pa_nil)))) (nomark _))
      (pss_one (ps_ret (pv 1)))
      pss_nil)))
      (pss_one (ps_ret pe_non))), fun Q k => ?_⟩
    refine nx_seq (nx_for (ds := (intsF 1 24).map PyData.int) (ei_range2 (ea_cons ev_int (ea_cons (ev_add ev_int ev_int) ea_nil)) ⟨by decide, by decide, by decide, by decide⟩) (fun i Γ1 => Γ1 = [.dat w.dd, .no] ∧ ((intsF 1 24).take i).find? (unmP w) = none) ⟨rfl, rfl⟩ (fun i d Γ1 F' hd ⟨e, h0⟩ => ?_) (fun Γ1 ⟨e, h0⟩ => ?_))
    · subst e
      obtain ⟨v, hv, rfl⟩ := map_get hd
      refine ⟨_, _, tg_name, ?_⟩
      refine nx_if (b := unmP w v) (et_test (ev_neI (ev_call (ea_cons (ev_var (i := 0) rfl) (ea_cons (ev_neg (ev_var (i := 1) rfl)) ea_nil)) (mk_bring hw.ok)) (ev_neg (ev_call (ea_cons (ev_var (i := 0) rfl) (ea_cons (ev_var (i := 1) rfl) ea_nil)) (mk_bring hw.ok))))) (fun hb => ?_) (fun hb => nx_next ?_)
      · refine nx_retD (ev_var (i := 1) rfl) (k.to ?_)
        show optI (List.find? _ _) = _
        rw [find_some_at h0 hv hb]; rfl
      · exact nx_forget 1 (nx_loop ⟨rfl, find_none_snoc h0 hv hb⟩)
    subst e
    dsimp only
    refine nx_retD ev_non (k.to ?_)
    show optI (List.find? _ _) = _
    rw [List.length_map, List.take_length] at h0
    rw [h0]; rfl
theorem sc_mirrored : FnScope ["way"] ["way"] (defScope (tS 26)) := ⟨rfl, rfl, rfl, by decide +kernel, rfl, by decide +kernel, by decide +kernel⟩
theorem ok_mirrored (T : Tx K mg) : FnOk P w K mg base CX0 5 T.f_mirrored T.d_mirrored ["way"] (spD K fMir) := by
  refine def_ok T.F_mirrored sc_mirrored (fun ds r h => ?_) (fun cdv A outer s H G E ds r hr h => ?_)
  · obtain ⟨w, rfl, hw, rfl⟩ := h; rfl
  · obtain ⟨w, rfl, hw, rfl⟩ := h
    refine ⟨_, (pss_cons (ps_expr (pe_call (ok_check_way T) (hr.mono (by decide)) (by rfl) T.g_check_way T.F_check_way.kp (b_check_way T) .nil pass0 (pa_cons (pv 0) pa_nil)))
      (pss_one (ps_ret (pe_cmpR op_isN (pe_call (ok_unmirrored T) (hr.mono (by decide)) (by rfl) T.g_unmirrored T.F_unmirrored.kp (b_unmirrored T) .nil pass0 (pa_cons (pv 0) pa_nil)) pe_non (nomark _))))), fun Q k => ?_⟩
    refine nx_seq (nx_drop (ev_call (ea_cons (ev_var (i := 0) rfl) ea_nil) (mk_check_way hw.is)) ?_)
    refine nx_retD (ev_isN (ev_call (ea_cons (ev_var (i := 0) rfl) ea_nil) (mk_unmirrored hw))) (k.to ?_)
    rfl
theorem sc_first_unmirrored : FnScope ["way", "found"] ["way"] (defScope (tS 27)) := ⟨rfl, rfl, rfl, by decide +kernel, rfl, by decide +kernel, by decide +kernel⟩
theorem ok_first_unmirrored (T : Tx K mg) : FnOk P w K mg base (L2.CX P w) 5 T.f_first_unmirrored T.d_first_unmirrored ["way"] (spX K fFu) := by
  refine def_okX T.F_first_unmirrored sc_first_unmirrored (fun ds r h => ?_) (fun cdv A outer s H G E ds r hr h => ?_)
  · obtain ⟨w, rfl, hw, rfl⟩ := h; rfl
  · obtain ⟨w, rfl, hw, rfl⟩ := h
    refine ⟨_, (pss_cons (PS.nox (ps_expr (pe_call (ok_check_way T) (hr.mono (by decide)) (by rfl) T.g_check_way T.F_check_way.kp (b_check_way T) .nil pass0 (pa_cons (pv 0) pa_nil))))
      (pss_cons (PS.nox (ps_set (i := 1) sc_first_unmirrored.nd rfl (by first | exact Or.inl rfl | exact Or.inr rfl) (pe_call (ok_unmirrored T) (hr.mono (by decide)) (by rfl) T.g_unmirrored T.F_unmirrored.kp (b_unmirrored T) .nil pass0 (pa_cons (pv 0) pa_nil))))
      (pss_cons (ps_if (PT.nox (pt_cmpR op_isN (pv 1) pe_non (nomark _)))
      (pss_one (ps_raise rfl (takes_of rfl rfl rfl rfl) (mkE T.ks (by decide) T.g_NotFound (by rfl))))
      pss_nil)
      (pss_one (PS.nox (ps_ret (pv 1))))))), fun Q k => ?_⟩
    refine nx_seq (nx_drop (ev_call (ea_cons (ev_var (i := 0) rfl) ea_nil) (mk_check_way hw.is)) ?_)
    refine nx_seq (nx_asg (ev_call (ea_cons (ev_var (i := 0) rfl) ea_nil) (mk_unmirrored hw)) ?_)
    unfold fuR at k
    cases hu : unmS w with
    | none =>
      rw [hu] at k
      dsimp only
      exact nx_seq (nx_if (b := true) (EvT.to (et_test (ev_isN (ev_var (i := 1) rfl))) rfl) (fun _ => nx_raise k) (fun h => nomatch h))
    | some v =>
      rw [hu] at k
      replace k : RetD K (bs0 G H) Q (.int v) := k
      dsimp only
      refine nx_seq (nx_if (b := false) (EvT.to (et_test (ev_isN (ev_var (i := 1) rfl))) rfl) (fun h => nomatch h) (fun _ => nx_next ?_))
      dsimp only
      exact nx_retD (ev_var (i := 1) rfl) k
end

section
variable {P : Program} {w : World} {K : FK} {mg : Str → Option Value} {base : Heap}
theorem sc_spoiled : FnScope ["way", "value"] ["way"] (defScope (tS 28)) := ⟨rfl, rfl, rfl, by decide +kernel, rfl, by decide +kernel, by decide +kernel⟩
theorem ok_spoiled (T : Tx K mg) : FnOk P w K mg base CX0 4 T.f_spoiled T.d_spoiled ["way"] (spD K fSpo) := by
  refine def_ok T.F_spoiled sc_spoiled (fun ds r h => ?_) (fun cdv A outer s H G E ds r hr h => ?_)
  · obtain ⟨w, rfl, hw, rfl⟩ := h; rfl
  · obtain ⟨w, rfl, hw, rfl⟩ := h
    refine ⟨_, (pss_cons (ps_expr (pe_call (ok_check_way T) (hr.mono (by decide)) (by rfl) T.g_check_way T.F_check_way.kp (b_check_way T) .nil pass0 (pa_cons (pv 0) pa_nil)))
      (pss_cons (ps_for PassesOwn.never rfl (pi_range1 rfl T.m_range (pa_cons (pe_glob (v := .int _) rfl T.g_ROUND ⟨_, rfl⟩) pa_nil)) (pg_name (i := 1) sc_spoiled.nd rfl (by first | exact Or.inl rfl | exact Or.inr rfl))
      (pss_one (ps_if (pt_cmpR op_ne (pe_call (ok_bring T) (hr.mono (by decide)) (by rfl) T.g_bring T.F_bring.kp (b_bring T) .nil pass0 (pa_cons (pv 0) (pa_cons (pv 1) pa_nil))) (pe_call (ok_brought_to T) (hr.mono (by decide)) (by rfl) T.g_brought_to T.F_brought_to.kp (b_brought_to T) .nil pass0 (pa_cons (pv 1) (pa_cons (pe_ix (r := rIxT K) ix_tup (pv 0) pe_int (fun _ _ => rfl)) (pa_cons (pe_ix (r := rIxT K) ix_tup (pv 0) pe_int (fun _ _ => rfl)) pa_nil)))) (nomark _))
      (pss_one (ps_ret (pv 1)))
      pss_nil)))
      (pss_one (ps_ret pe_non)))), fun Q k => ?_⟩
    refine nx_seq (nx_drop (ev_call (ea_cons (ev_var (i := 0) rfl) ea_nil) (mk_check_way hw.is)) ?_)
    dsimp only
    
    refine nx_seq (nx_for (ds := (intsF 0 24).map PyData.int) (ei_range1 (ea_cons ev_int ea_nil) ⟨by decide, by decide⟩) (fun i Γ1 => Γ1 = [.dat w.dd, .no] ∧ ((intsF 0 24).take i).find? (spoP w) = none) ⟨rfl, rfl⟩ (fun i d Γ1 F' hd ⟨e, h0⟩ => ?_) (fun Γ1 ⟨e, h0⟩ => ?_))
    · subst e
      obtain ⟨v, hv, rfl⟩ := map_get hd
      refine ⟨_, _, tg_name, ?_⟩
      refine nx_if (b := spoP w v) (et_test (ev_neI (ev_call (ea_cons (ev_var (i := 0) rfl) (ea_cons (ev_var (i := 1) rfl) ea_nil)) (mk_bring hw.ok)) (ev_call (ea_cons (ev_var (i := 1) rfl) (ea_cons (ev_ixT (ev_var (i := 0) rfl) ev_int rfl) (ea_cons (ev_ixT (ev_var (i := 0) rfl) ev_int rfl) ea_nil))) (mk_brought_to hw.ok.1 hw.ok.2.1)))) (fun hb => ?_) (fun hb => nx_next ?_)
      · refine nx_retD (ev_var (i := 1) rfl) (k.to ?_)
        show optI (List.find? _ _) = _
        rw [find_some_at h0 hv hb]; rfl
      · exact nx_forget 1 (nx_loop ⟨rfl, find_none_snoc h0 hv hb⟩)
    subst e
    dsimp only
    refine nx_retD ev_non (k.to ?_)
    show optI (List.find? _ _) = _
    rw [List.length_map, List.take_length] at h0
    rw [h0]; rfl
theorem sc_at_once : FnScope ["way", "values", "told", "mode", "value"] ["way"] (defScope (tS 29)) := ⟨rfl, rfl, rfl, by decide +kernel, rfl, by decide +kernel, by decide +kernel⟩
theorem ok_at_once (T : Tx K mg) : FnOk P w K mg base (L2.CX P w) 4 T.f_at_once T.d_at_once ["way"] (spX K fAo) := by
  refine def_okX T.F_at_once sc_at_once (fun ds r h => ?_) (fun cdv A outer s H G E ds r hr h => ?_)
  · obtain ⟨w, rfl, hw, rfl⟩ := h; rfl
  · obtain ⟨w, rfl, hw, rfl⟩ := h
    refine ⟨_, (pss_cons (PS.nox (ps_expr (pe_call (ok_check_way T) (hr.mono (by decide)) (by rfl) T.g_check_way T.F_check_way.kp (b_check_way T) .nil pass0 (pa_cons (pv 0) pa_nil))))
      (pss_cons (PS.nox (ps_set (i := 1) sc_at_once.nd rfl (by first | exact Or.inl rfl | exact Or.inr rfl) (pe_listRg rfl (by rfl) T.m_list (prg_2 (by rfl) T.m_range (pe_un un_neg (pe_glob (v := .int _) rfl T.g_ROUND ⟨_, rfl⟩)) (pe_glob (v := .int _) rfl T.g_ROUND ⟨_, rfl⟩)))))
      (pss_cons (PS.nox (ps_setLc (i := 2) (own := [("value", 4)]) rfl sc_at_once.nd rfl rfl (sw_true rfl rfl rfl (by decide +kernel)) (pi_list (pv 1)) (blkOk_by (N := ["way", "values", "told", "mode", "value"]) (sc := defScope (tS 29)) (own := [("value", 4)]) (by decide +kernel)) (fun _ _ _ _ _ => (pg_name (i := 4) sc_at_once.nd rfl (by first | exact Or.inl rfl | exact Or.inr rfl))) (fun _ _ _ _ _ => pts_nil) (fun _ _ _ _ _ => (pe_call (ok_bring T) (hr.mono (by decide)) (by rfl) T.g_bring T.F_bring.kp (b_bring T) .nil pass0 (pa_cons (pv 0) (pa_cons (pv 4) pa_nil))))))
      (pss_cons (PS.nox (ps_for PassesOwn.never rfl (pi_tup (pe_glob (v := .ref _) rfl T.g_MODES rfl)) (pg_name (i := 3) sc_at_once.nd rfl (by first | exact Or.inl rfl | exact Or.inr rfl))
      (pss_one (ps_if (pt_cmpR (r := rEqD K) (op_eqD hr.units) (pe_lc (own := [("value", 4)]) rfl sc_at_once.nd (pi_list (pv 1)) (blkOk_by (N := ["way", "values", "told", "mode", "value"]) (sc := defScope (tS 29)) (own := [("value", 4)]) (by decide +kernel)) (fun _ _ _ _ _ => (pg_name (i := 4) sc_at_once.nd rfl (by first | exact Or.inl rfl | exact Or.inr rfl))) (fun _ _ _ _ _ => pts_nil) (fun _ _ _ _ _ => (pe_call (ok_brought_to T) (hr.mono (by decide)) (by rfl) T.g_brought_to T.F_brought_to.kp (b_brought_to T) .nil pass0 (pa_cons (pv 4) (pa_cons (pe_ix (r := rIxT K) ix_tup (pv 0) pe_int (fun _ _ => rfl)) (pa_cons (pv 3) pa_nil)))))) (pv 2) (nomark _))
      (pss_one (ps_ret (pv 3)))
      pss_nil))))
      (pss_one (ps_raise rfl (takes_of rfl rfl rfl rfl) (mkE T.ks (by decide) T.g_NotFound (by rfl)))))))), fun Q k => ?_⟩
    refine nx_seq (nx_drop (ev_call (ea_cons (ev_var (i := 0) rfl) ea_nil) (mk_check_way hw.is)) ?_)
    dsimp only
    refine nx_seq (nx_asg (d := rdd vals24) (EvN.dat (en_listRg2 (ev_neg ev_int) ev_int ⟨by decide, by decide, by decide, by decide, by decide⟩)) ?_)
    dsimp only
    refine nx_seq (nx_asg (EvN.dat (EvND.to (es := ((vals24.map fun v => brS w v).map PyData.int)) (en_map (us := [4]) (mapI fun v => brS w v) (ei_list (ev_var (i := 1) rfl)) ⟨rfl, trivial⟩ (by rw [List.length_map]; decide +kernel) (fun i d hd => by
          obtain ⟨v, hv, rfl⟩ := map_get hd
          exact ⟨_, _, tg_name, by decide, (ev_call (ea_cons (ev_var (i := 0) rfl) (ea_cons (ev_var (i := 4) rfl) ea_nil)) (mk_bring hw.ok))⟩)) (mapI_eq _ _))) ?_)
    dsimp only
    refine nx_seq (nx_for (ds := modesS.map PyData.str) (ei_tup (ev_c T.k_MODES)) (fun i Γ1 => Γ1 = [.dat w.dd, .dat (rdd vals24), .dat (.list ((vals24.map fun v => brS w v).map PyData.int)), .no, .no] ∧ (modesS.take i).find? (aoP w) = none) ⟨rfl, rfl⟩ (fun i d Γ1 F' hd ⟨e, h0⟩ => ?_) (fun Γ1 ⟨e, h0⟩ => ?_))
    · subst e
      obtain ⟨m, hm, rfl⟩ := map_get hd
      refine ⟨_, _, tg_name, ?_⟩
      refine nx_if (b := aoP w m) (EvT.to (et_test (ev_eqD (EvN.dat (EvND.to (es := ((vals24.map fun v => btS v w.step m).map PyData.int)) (en_map (us := [4]) (mapI fun v => btS v w.step m) (ei_list (ev_var (i := 1) rfl)) ⟨rfl, trivial⟩ (by rw [List.length_map]; decide +kernel) (fun i d hd => by
          obtain ⟨v, hv, rfl⟩ := map_get hd
          exact ⟨_, _, tg_name, by decide, (ev_call (ea_cons (ev_var (i := 4) rfl) (ea_cons (ev_ixT (ev_var (i := 0) rfl) ev_int rfl) (ea_cons (ev_var (i := 3) rfl) ea_nil))) (mk_brought_to hw.ok.1 hw.ok.2.1))⟩)) (mapI_eq _ _))) (ev_var (i := 2) rfl) (ok_ints (n := 0) _).shaped (ok_ints (n := 0) _).shaped)) (eqv_rdd _ _)) (fun hb => ?_) (fun hb => nx_next ?_)
      · have e : aoR w = .ok (.str m) := by
          unfold aoR aoS
          rw [find_some_at h0 hm hb]
        rw [e] at k
        exact nx_retD (ev_var (i := 3) rfl) k
      · exact nx_forget 3 (nx_loop ⟨rfl, find_none_snoc h0 hm hb⟩)
    subst e
    rw [List.length_map, List.take_length] at h0
    have e : aoR w = .er "NotFound" := by
      unfold aoR aoS
      rw [h0]
    rw [e] at k
    exact nx_raise k
theorem sc_errors_of : FnScope ["way", "errors", "value"] ["way"] (defScope (tS 30)) := ⟨rfl, rfl, rfl, by decide +kernel, rfl, by decide +kernel, by decide +kernel⟩
theorem ok_errors_of (T : Tx K mg) : FnOk P w K mg base CX0 4 T.f_errors_of T.d_errors_of ["way"] (spD K fErrs) := by
  refine def_ok T.F_errors_of sc_errors_of (fun ds r h => ?_) (fun cdv A outer s H G E ds r hr h => ?_)
  · obtain ⟨w, rfl, hw, rfl⟩ := h; rfl
  · obtain ⟨w, rfl, hw, rfl⟩ := h
    refine ⟨_, (pss_cons (ps_expr (pe_call (ok_check_way T) (hr.mono (by decide)) (by rfl) T.g_check_way T.F_check_way.kp (b_check_way T) .nil pass0 (pa_cons (pv 0) pa_nil)))
      (pss_cons (ps_setLc (i := 1) (own := [("value", 2)]) rfl sc_errors_of.nd rfl rfl (sw_true rfl rfl rfl (by decide +kernel)) (pi_range2 rfl T.m_range (pa_cons (pe_un un_neg (pe_glob (v := .int _) rfl T.g_ROUND ⟨_, rfl⟩)) (pa_cons (pe_glob (v := .int _) rfl T.g_ROUND ⟨_, rfl⟩) pa_nil))) (blkOk_by (N := ["way", "errors", "value"]) (sc := defScope (tS 30)) (own := [("value", 2)]) (by decide +kernel)) (fun _ _ _ _ _ => (pg_name (i := 2) sc_errors_of.nd rfl (by first | exact Or.inl rfl | exact Or.inr rfl))) (fun _ _ _ _ _ => pts_nil) (fun _ _ _ _ _ => (pe_op op_sub (pe_call (ok_bring T) (hr.mono (by decide)) (by rfl) T.g_bring T.F_bring.kp (b_bring T) .nil pass0 (pa_cons (pv 0) (pa_cons (pv 2) pa_nil))) (pv 2))))
      (pss_one (ps_ret (pe_tup (pa_cons (pe_callB (r := rMin K) (cr_min rfl) (by rfl) T.m_min (by decide +kernel) (pa_cons (pv 1) pa_nil)) (pa_cons (pe_callB (r := rMax K) (cr_max rfl) (by rfl) T.m_max (by decide +kernel) (pa_cons (pv 1) pa_nil)) pa_nil))))))), fun Q k => ?_⟩
    refine nx_seq (nx_drop (ev_call (ea_cons (ev_var (i := 0) rfl) ea_nil) (mk_check_way hw.is)) ?_)
    dsimp only
    refine nx_seq (nx_asg (d := rdd (errs w)) (EvN.dat (EvND.to (es := ((vals24.map fun v => brS w v - v).map PyData.int)) (en_map (us := [2]) (mapI fun v => brS w v - v) (ei_range2 (ea_cons (ev_neg ev_int) (ea_cons ev_int ea_nil)) ⟨by decide, by decide, by decide, by decide⟩) ⟨rfl, trivial⟩ (by rw [List.length_map]; decide +kernel) (fun i d hd => by
          obtain ⟨v, hv, rfl⟩ := map_get hd
          exact ⟨_, _, tg_name, by decide, (ev_sub (ev_call (ea_cons (ev_var (i := 0) rfl) (ea_cons (ev_var (i := 2) rfl) ea_nil)) (mk_bring hw.ok)) (ev_var (i := 2) rfl))⟩)) (mapI_eq _ _))) ?_)
    have hne : errs w ≠ [] := by
      intro h
      have := congrArg List.length h
      unfold errs at this
      rw [List.length_map] at this
      revert this
      decide
    exact nx_retD (ev_tup (ea_cons (ev_min (ev_var (i := 1) rfl) (mnL_mem hne).1 (mnL_mem hne).2) (ea_cons (ev_max (ev_var (i := 1) rfl) (mxL_mem hne).1 (mxL_mem hne).2) ea_nil))) (k.to rfl)
theorem sc_mean_error : FnScope ["way", "errors", "value"] ["way"] (defScope (tS 31)) := ⟨rfl, rfl, rfl, by decide +kernel, rfl, by decide +kernel, by decide +kernel⟩
theorem ok_mean_error (T : Tx K mg) : FnOk P w K mg base CX0 4 T.f_mean_error T.d_mean_error ["way"] (spD K fMean) := by
  refine def_ok T.F_mean_error sc_mean_error (fun ds r h => ?_) (fun cdv A outer s H G E ds r hr h => ?_)
  · obtain ⟨w, rfl, hw, hs, rfl⟩ := h; rfl
  · obtain ⟨w, rfl, hw, hs, rfl⟩ := h
    refine ⟨_, (pss_cons (ps_expr (pe_call (ok_check_way T) (hr.mono (by decide)) (by rfl) T.g_check_way T.F_check_way.kp (b_check_way T) .nil pass0 (pa_cons (pv 0) pa_nil)))
      (pss_cons (ps_setLc (i := 1) (own := [("value", 2)]) rfl sc_mean_error.nd rfl rfl (sw_true rfl rfl rfl (by decide +kernel)) (pi_range2 rfl T.m_range (pa_cons (pe_un un_neg (pe_glob (v := .int _) rfl T.g_ROUND ⟨_, rfl⟩)) (pa_cons (pe_glob (v := .int _) rfl T.g_ROUND ⟨_, rfl⟩) pa_nil))) (blkOk_by (N := ["way", "errors", "value"]) (sc := defScope (tS 31)) (own := [("value", 2)]) (by decide +kernel)) (fun _ _ _ _ _ => (pg_name (i := 2) sc_mean_error.nd rfl (by first | exact Or.inl rfl | exact Or.inr rfl))) (fun _ _ _ _ _ => pts_nil) (fun _ _ _ _ _ => (pe_op op_sub (pe_call (ok_bring T) (hr.mono (by decide)) (by rfl) T.g_bring T.F_bring.kp (b_bring T) .nil pass0 (pa_cons (pv 0) (pa_cons (pv 2) pa_nil))) (pv 2))))
      (pss_one (ps_ret (pe_call (ok_lowest T) (hr.mono (by decide)) (by rfl) T.g_lowest T.F_lowest.kp (b_lowest T) .nil pass0 (pa_cons (pe_callB (r := rSum K) (cr_sum rfl) (by rfl) T.m_sum (by decide +kernel) (pa_cons (pv 1) pa_nil)) (pa_cons (pe_callB (r := rLenS K) call_len_seq (by rfl) T.m_len PySem.boot_len (pa_cons (pv 1) pa_nil)) pa_nil))))))), fun Q k => ?_⟩
    refine nx_seq (nx_drop (ev_call (ea_cons (ev_var (i := 0) rfl) ea_nil) (mk_check_way hw.is)) ?_)
    dsimp only
    refine nx_seq (nx_asg (d := rdd (errs w)) (EvN.dat (EvND.to (es := ((vals24.map fun v => brS w v - v).map PyData.int)) (en_map (us := [2]) (mapI fun v => brS w v - v) (ei_range2 (ea_cons (ev_neg ev_int) (ea_cons ev_int ea_nil)) ⟨by decide, by decide, by decide, by decide⟩) ⟨rfl, trivial⟩ (by rw [List.length_map]; decide +kernel) (fun i d hd => by
          obtain ⟨v, hv, rfl⟩ := map_get hd
          exact ⟨_, _, tg_name, by decide, (ev_sub (ev_call (ea_cons (ev_var (i := 0) rfl) (ea_cons (ev_var (i := 2) rfl) ea_nil)) (mk_bring hw.ok)) (ev_var (i := 2) rfl))⟩)) (mapI_eq _ _))) ?_)
    have hl : ((errs w).map PyData.int).length = 48 := by
      unfold errs
      rw [List.length_map, List.length_map]; rfl
    refine nx_retD (ev_call (ea_cons (ev_sum (ev_var (i := 1) rfl)) (ea_cons (((ev_lenL (ev_var (i := 1) rfl)) : EvD _ _ _ _ _).to (x := .int 48) ?_) ea_nil)) (mk_lowest (b := 48) (by decide) hs.1 hs.2)) (k.to rfl)
    rw [hl]; rfl
theorem sc__law_start : FnScope ["script"] ["script"] (defScope (tS 33)) := ⟨rfl, rfl, rfl, by decide +kernel, rfl, by decide +kernel, by decide +kernel⟩
theorem ok__law_start (T : Tx K mg) : FnOk P w K mg base CX0 1 T.f__law_start T.d__law_start ["script"] (spStart K) := by
  refine T.F__law_start.ok sc__law_start (fun vs H Q E h => ?_) (fun cdv A outer s H vs Q E hr h => ?_)
  · obtain ⟨a, ns, rfl, _⟩ := h; rfl
  · obtain ⟨a, ns, rfl, hS, hlen, kk⟩ := h
    refine ⟨_, (pss_one (ps_ret (pe_lst (pa_cons (pe_ifExp (pt_cmpR (op_neD hr.units) (pv 0) (pe_lst pa_nil) (nomark _)) (pe_callTy (r := rListS _) call_list_of (by rfl) T.m_list (by decide +kernel) (pa_cons (pv 0) pa_nil)) (pe_lst (pa_cons pe_int pa_nil))) (pa_cons pe_int pa_nil))))), ?_⟩
    refine ⟨.ref a, rfl, sz_of (by show 0 ≤ 100000; decide), fun e ne => ?_⟩
    have sq : ∀ {o : HO}, SqL K (upd H e o) a (ns.map V.int) := fun {o} => by
      rcases hS with (h | ⟨ob, h⟩) | h
      · exact .inl (.inl (Ex.new ne a _ h))
      · exact .inl (.inr ⟨ob, Ex.new ne a _ h⟩)
      · exact .inr h
    have da : DpAll K (upd H e (.lst [])) (ns.map V.int) (ns.map .int) := by
      clear sq kk hlen hS
      induction ns with
      | nil => exact .nil
      | cons n ns ih => exact .cons (.int n) ih
    refine ⟨.list (ns.map .int), .list [], .lst sq da, .lst (SqL.of upd_same) .nil, (ok_ints (n := 0) ns).shaped, by decide +kernel, _, rfl, ?_⟩
    cases hn : ns with
    | nil =>
      subst hn
      show if (!PyData.eqv (.list (([] : List Int).map .int)) (.list [])) = true then _ else _
      rw [if_neg (by decide +kernel)]
      refine ⟨sz_of (by show 1 ≤ 100000; decide), fun q nq => ⟨sz_of (by show 2 ≤ 100000; decide), fun p np => ?_⟩⟩
      have hpq : q ≠ p := ne_of_none (upd_same (H := upd H e (.lst []))) np
      refine kk p q _ ⟨rfl, Ne.symm hpq, [0], 0, upd_same, by rw [upd_ne hpq]; exact upd_same, by simp, by decide⟩
    | cons n r =>
      rw [if_pos (by simp [PyData.eqv, PyData.eqvAll])]
      refine ⟨.ref a, rfl, a, ns.map V.int, rfl, .inl sq, fun q nq => ⟨sz_of (by show 2 ≤ 100000; decide), fun p np => ?_⟩⟩
      have hpq : q ≠ p := ne_of_none (upd_same (H := upd H e (.lst []))) np
      refine kk p q _ ⟨rfl, Ne.symm hpq, ns, 0, upd_same, by rw [upd_ne hpq]; exact upd_same, by rw [hn]; simp, by omega⟩
theorem sc__law_draw : FnScope ["draws", "limit", "numbers", "at", "cell", "mixed"] ["draws", "limit"] (defScope (tS 34)) := ⟨rfl, rfl, rfl, by decide +kernel, rfl, by decide +kernel, by decide +kernel⟩
theorem ok__law_draw (T : Tx K mg) : FnOk P w K mg base CX0 1 T.f__law_draw T.d__law_draw ["draws", "limit"] (spW K preDraw fDraw) := by
  refine T.F__law_draw.ok sc__law_draw (fun vs H Q E h => ?_) (fun cdv A outer s H vs Q E hr h => ?_)
  · obtain ⟨G, p, q, us, ds, rfl, _, _, _, hd, _, ⟨n, rfl, _⟩, _⟩ := h
    rw [List.length_cons, hd.length]; rfl
  · obtain ⟨G, p, q, us, ds, rfl, ⟨_, hpq, ns, k, hp, hq, hne, hlen⟩, gp, gq, hd, he, ⟨n, rfl, hn1, hn2⟩, kk⟩ := h
    obtain ⟨v, rfl, hv⟩ := daL1 hd
    have ev := hv.int_inv
    subst ev
    refine ⟨_, (pss_cons (ps_set (i := 2) sc__law_draw.nd rfl (by first | exact Or.inl rfl | exact Or.inr rfl) (pe_ix (r := rIxL K) ix_list (pv 0) pe_int (fun _ _ => rfl)))
      (pss_cons (ps_asg (pe_op op_add (pe_ix (r := rIxL K) ix_list (pv 0) pe_int (fun _ _ => rfl)) pe_int) (pg_sub (pv 0) pe_int set_list))
      (pss_cons (ps_set (i := 3) sc__law_draw.nd rfl (by first | exact Or.inl rfl | exact Or.inr rfl) (pe_op op_mod (pe_ix (r := rIxL K) ix_list (pv 0) pe_int (fun _ _ => rfl)) (pe_callB (r := rLenS K) call_len_seq (by rfl) T.m_len PySem.boot_len (pa_cons (pv 2) pa_nil))))
      (pss_cons (ps_set (i := 4) sc__law_draw.nd rfl (by first | exact Or.inl rfl | exact Or.inr rfl) (pe_ix (r := rIxL K) ix_list (pv 2) (pv 3) (fun _ _ => rfl)))
      (pss_cons (ps_if (pt_cmpR op_ge (pv 4) pe_int (nomark _))
      (pss_cons (ps_asg (pe_op op_fdiv (pv 4) (pv 1)) (pg_sub (pv 2) (pv 3) set_list))
      (pss_one (ps_ret (pe_op op_mod (pv 4) (pv 1)))))
      pss_nil)
      (pss_cons (ps_set (i := 5) sc__law_draw.nd rfl (by first | exact Or.inl rfl | exact Or.inr rfl) (pe_op op_mod (pe_op op_add (pv 4) (pe_op op_mul pe_int (pe_ix (r := rIxL K) ix_list (pv 0) pe_int (fun _ _ => rfl)))) pe_int))
      (pss_cons (ps_set (i := 5) sc__law_draw.nd rfl (by first | exact Or.inl rfl | exact Or.inr rfl) (pe_op op_mod (pe_op op_pow (pv 5) pe_int) pe_int))
      (pss_one (ps_ret (pe_op op_mod (pe_op op_fdiv (pe_op op_mod (pe_op op_add (pe_op op_mul (pe_op op_fdiv (pv 5) pe_int) pe_int) (pv 5)) pe_int) pe_int) (pv 1))))))))))), ?_⟩
    have hl0 : 0 < ns.length := List.length_pos_iff.mpr hne
    refine ⟨.ref p, rfl, p, [.ref q, .int k], 0, .ref q, rfl, rfl, SqL.of hp, rfl, ?_⟩
    refine ⟨.ref p, rfl, p, [.ref q, .int k], 1, .int k, rfl, rfl, SqL.of hp, rfl, k, 1, rfl, rfl, ?_⟩
    refine ⟨.ref p, rfl, p, [.ref q, .int k], 1, 1, rfl, rfl, hp, rfl, ?_⟩
    have hq1 : upd H p (.lst [.ref q, .int (k + 1)]) q = some (.lst (ns.map V.int)) := by rw [upd_ne (Ne.symm hpq)]; exact hq
    have g1 : Grow [p, q] G H G (upd H p (.lst [.ref q, .int (k + 1)])) := Grow.put he gp (by simp)
    refine ⟨.ref p, rfl, p, [.ref q, .int (k + 1)], 1, .int (k + 1), rfl, rfl, SqL.of upd_same, rfl, .ref q, rfl, q, ns.map V.int, rfl, .inl (SqL.of hq1), k + 1, (ns.map V.int).length, rfl, rfl, by rw [List.length_map]; omega, ?_⟩
    have hm0 : 0 ≤ (k + 1) % ((ns.map V.int).length : Int) := Int.emod_nonneg _ (by rw [List.length_map]; omega)
    have hm1 : (k + 1) % ((ns.map V.int).length : Int) < ((ns.map V.int).length : Int) := Int.emod_lt_of_pos _ (by rw [List.length_map]; omega)
    generalize hat : (k + 1) % ((ns.map V.int).length : Int) = at0 at hm0 hm1
    obtain ⟨j, rfl⟩ := Int.eq_ofNat_of_zero_le hm0
    have hj : j < ns.length := by rw [List.length_map] at hm1; omega
    have hget : (ns.map V.int)[j]? = some (.int ns[j]) := by rw [List.getElem?_map, List.getElem?_eq_getElem hj]; rfl
    refine ⟨.ref q, rfl, .int (j : Nat), congrArg (fun z : Int => some (some (V.int z))) hat, q, ns.map V.int, (j : Nat), .int ns[j], rfl, rfl, SqL.of hq1, atI_nat hget, ?_⟩
    generalize ns[j] = cell at hget
    refine ⟨.int cell, rfl, cell, 1000000000000000000, rfl, rfl, _, rfl, ?_⟩
    refine ite2 (fun hc => ?_) (fun hc => ?_)
    · refine ⟨.int cell, rfl, .int n, rfl, cell, n, rfl, rfl, ⟨hn1, hn2⟩, ?_⟩
      refine ⟨.ref q, rfl, .int (j : Nat), congrArg (fun z : Int => some (some (V.int z))) hat, q, ns.map V.int, (j : Nat), j, rfl, rfl, hq1, ?_, ?_⟩
      · unfold ixN
        rw [if_pos (by omega), if_pos (by rw [List.length_map]; omega)]; simp
      · refine ⟨.int cell, rfl, .int n, rfl, cell, n, rfl, rfl, hn1, ?_⟩
        refine kk _ (.int (cell % n)) G _ ⟨n, cell % n, rfl, rfl, Int.emod_nonneg _ (by omega), Int.emod_lt_of_pos _ hn1⟩ (g1.trans (Grow.put g1.gh gq (by simp))) ⟨rfl, hpq, ns.set j (cell / n), k + 1, by rw [upd_ne hpq]; exact upd_same, ?_, ?_, by rw [List.length_set]; exact hlen⟩ (.int _)
        · rw [upd_same, List.map_set]
        · intro z
          have := congrArg List.length z
          rw [List.length_set] at this
          exact hne (List.length_eq_zero_iff.mp this)
    · refine ⟨.int cell, rfl, .ref p, rfl, p, [.ref q, .int (k + 1)], 1, .int (k + 1), rfl, rfl, SqL.of upd_same, rfl, 104729, k + 1, rfl, rfl, .inl (by decide), cell, _, rfl, rfl, _, 4294967291, rfl, rfl, (by show (0 : Int) < 4294967291; decide), ?_⟩
      have b1 := Int.emod_nonneg (cell + 104729 * (k + 1)) (show (4294967291 : Int) ≠ 0 by decide)
      have b2 := Int.emod_lt_of_pos (cell + 104729 * (k + 1)) (show (0 : Int) < 4294967291 by decide)
      generalize hm : (cell + 104729 * (k + 1)) % 4294967291 = m1 at b1 b2
      refine ⟨.int m1, congrArg (fun z : Int => some (some (V.int z))) hm, m1, 5, rfl, rfl, ⟨(by show (0 : Int) ≤ 5; decide), (by show (5 : Int) ≤ 1000000; decide), by omega⟩, _, 4294967279, rfl, rfl, (by show (0 : Int) < 4294967279; decide), ?_⟩
      generalize hm2 : (m1 ^ (5 : Int).toNat) % 4294967279 = m2
      refine ⟨.int m2, congrArg (fun z : Int => some (some (V.int z))) hm2, m2, 64, rfl, rfl, ⟨(by show (0 : Int) < 64; decide), (by show (64 : Int) < 1073741824; decide)⟩, _, 69621, rfl, rfl, .inr (by decide), .int m2, congrArg (fun z : Int => some (some (V.int z))) hm2, _, _, rfl, rfl, _, 4294967231, rfl, rfl, (by show (0 : Int) < 4294967231; decide), _, 8, rfl, rfl, ⟨(by show (0 : Int) < 8; decide), (by show (8 : Int) < 1073741824; decide)⟩, .int n, rfl, _, n, rfl, rfl, hn1, ?_⟩
      exact kk _ (.int _) G _ ⟨n, _, rfl, rfl, Int.emod_nonneg _ (by omega), Int.emod_lt_of_pos _ hn1⟩ g1 ⟨rfl, hpq, ns, k + 1, upd_same, hq1, hne, hlen⟩ (.int _)
theorem sc__law_pick : FnScope ["draws", "choices"] ["draws", "choices"] (defScope (tS 35)) := ⟨rfl, rfl, rfl, by decide +kernel, rfl, by decide +kernel, by decide +kernel⟩
theorem ok__law_pick (T : Tx K mg) : FnOk P w K mg base CX0 2 T.f__law_pick T.d__law_pick ["draws", "choices"] (spW K prePick fPick) := by
  refine def_okW T.F__law_pick sc__law_pick (fun ds h => ?_) (fun cdv A outer s H E B p q ds hr h => ?_)
  · obtain ⟨cs, rfl, hc1, hc2⟩ := h; rfl
  · obtain ⟨cs, rfl, hc1, hc2⟩ := h
    refine ⟨_, (pss_one (ps_ret (pe_ix (r := rIxL K) ix_list (pv 1) (pe_call (ok__law_draw T) (hr.mono (by decide)) (by rfl) T.g__law_draw T.F__law_draw.kp (b__law_draw T) .nil pass0 (pa_cons (pv 0) (pa_cons (pe_callB (r := rLenS K) call_len_seq (by rfl) T.m_len PySem.boot_len (pa_cons (pv 1) pa_nil)) pa_nil))) (fun _ _ => rfl)))), fun Q k => ?_⟩
    refine nx_ret (P := fun d => d ∈ cs) (ev_opP (ev_var (i := 1) rfl) (dr_drawD (i := 0) rfl (ev_lenL (ev_var (i := 1) rfl)) (by omega) (by omega)) (fun x y e1 ⟨j, e2, h1, h2⟩ => ?_)) (fun v d σ H' hd s => k v d _ _ _ _ ⟨cs, rfl, hd⟩ s)
    subst e1 e2
    obtain ⟨m, rfl⟩ := Int.eq_ofNat_of_zero_le h1
    have hm : m < cs.length := by omega
    exact ⟨cs[m], List.getElem_mem hm, rd_ixL (atI_nat (List.getElem?_eq_getElem hm))⟩
theorem sc__law_error : FnScope ["caught", "kinds"] ["caught"] (defScope (tS 36)) := ⟨rfl, rfl, rfl, by decide +kernel, rfl, by decide +kernel, by decide +kernel⟩
theorem ok__law_error (T : Tx K mg) : FnOk P w K mg base CX0 1 T.f__law_error T.d__law_error ["caught"] (spE K) := by
  refine def_okE T.F__law_error sc__law_error rfl (fun cdv A outer s H E B a c hr hc => ?_)
  refine ⟨_, (pss_cons (ps_set (i := 1) sc__law_error.nd rfl (by first | exact Or.inl rfl | exact Or.inr rfl) (pe_lst (pa_cons (pe_callB (r := rIsX K) call_isX (by rfl) T.m_isinstance boot_isinstance (pa_cons (pv 0) (pa_cons (pe_glob (v := .ref _) rfl T.g_BadWay rfl) pa_nil))) (pa_cons (pe_callB (r := rIsX K) call_isX (by rfl) T.m_isinstance boot_isinstance (pa_cons (pv 0) (pa_cons (pe_glob (v := .ref _) rfl T.g_BadRow rfl) pa_nil))) (pa_cons (pe_callB (r := rIsX K) call_isX (by rfl) T.m_isinstance boot_isinstance (pa_cons (pv 0) (pa_cons (pe_glob (v := .ref _) rfl T.g_BadWritten rfl) pa_nil))) pa_nil)))))
      (pss_cons (ps_set (i := 1) sc__law_error.nd rfl (by first | exact Or.inl rfl | exact Or.inr rfl) (pe_op op_cat (pv 1) (pe_lst (pa_cons (pe_callB (r := rIsX K) call_isX (by rfl) T.m_isinstance boot_isinstance (pa_cons (pv 0) (pa_cons (pe_glob (v := .ref _) rfl T.g_BadNumber rfl) pa_nil))) (pa_cons (pe_callB (r := rIsX K) call_isX (by rfl) T.m_isinstance boot_isinstance (pa_cons (pv 0) (pa_cons (pe_glob (v := .ref _) rfl T.g_BadText rfl) pa_nil))) (pa_cons (pe_callB (r := rIsX K) call_isX (by rfl) T.m_isinstance boot_isinstance (pa_cons (pv 0) (pa_cons (pe_glob (v := .ref _) rfl T.g_NotFound rfl) pa_nil))) pa_nil))))))
      (pss_cons (ps_if (PW.pt (pw_or (pt_cmpR op_ne (pe_bm (r := rCountL K) PySem.F.plainAttrs_list PySem.F.slot_list_count PySem.F.type_list_count mt_lcount (pv 1) (pa_cons pe_bl pa_nil)) pe_int (nomark _)) (pw_or (pt_not (pt_val (pe_callB (r := rIsX K) call_isX (by rfl) T.m_isinstance boot_isinstance (pa_cons (pv 0) (pa_cons (pe_glob (v := .ref _) rfl T.g_RestError rfl) pa_nil))))) (pw_or1 (pt_not (pt_val (pe_callB (r := rIsX K) call_isX (by rfl) T.m_isinstance boot_isinstance (pa_cons (pv 0) (pa_cons (pe_bltn (v := .ty "ValueError") rfl T.m_ValueError (by decide +kernel) rfl) pa_nil)))))))))
      (pss_one (ps_ret pe_str))
      pss_nil)
      (pss_one (ps_ret (pe_ix (r := rIxL K) ix_list (pe_lst (pa_cons pe_str (pa_cons pe_str (pa_cons pe_str (pa_cons pe_str (pa_cons pe_str (pa_cons pe_str pa_nil))))))) (pe_bm (r := rIndex K) PySem.F.plainAttrs_list PySem.F.slot_list_index PySem.F.type_list_index mt_index (pv 1) (pa_cons pe_bl pa_nil)) (fun _ _ => rfl))))))), fun Q k => ?_⟩
  have C := kits_ok T.ks hc
  have hcs := hc
  simp only [nsE, List.mem_cons, List.not_mem_nil, or_false] at hcs
  refine nx_seq (nx_asg (EvN.dat (en_lst (ea_cons (ev_isX (i := 0) rfl C.xc (fun _ => relv_ref) (C.kit "BadWay" (by decide))) (ea_cons (ev_isX (i := 0) rfl C.xc (fun _ => relv_ref) (C.kit "BadRow" (by decide))) (ea_cons (ev_isX (i := 0) rfl C.xc (fun _ => relv_ref) (C.kit "BadWritten" (by decide))) ea_nil))))) ?_)
  refine nx_seq (nx_asg (EvN.dat (en_cat (ev_var (i := 1) rfl) (EvN.dat (en_lst (ea_cons (ev_isX (i := 0) rfl C.xc (fun _ => relv_ref) (C.kit "BadNumber" (by decide))) (ea_cons (ev_isX (i := 0) rfl C.xc (fun _ => relv_ref) (C.kit "BadText" (by decide))) (ea_cons (ev_isX (i := 0) rfl C.xc (fun _ => relv_ref) (C.kit "NotFound" (by decide))) ea_nil))))) (by simp))) ?_)
  rcases hcs with rfl | rfl | rfl | rfl | rfl | rfl
  all_goals
    refine nx_seq (nx_if (b := false) ((et_or (et_test (ev_neI (ev_count (ev_var (i := 1) rfl) ev_bl rfl rfl) ev_int)) (fun _ => et_or (et_not (et_B (ev_isX (i := 0) rfl C.xc (fun _ => relv_ref) C.re))) (fun _ => et_not (et_B (ev_isX (i := 0) rfl C.xc (fun _ => relv_ty) C.ve))))).to ?_) (fun h => nomatch h) (fun _ => nx_next ?_))
    · decide +kernel
  · exact nx_ret (P := fun d => d = .str _) (ev_ixL (EvN.dat (en_lst (ea_cons ev_str (ea_cons ev_str (ea_cons ev_str (ea_cons ev_str (ea_cons ev_str (ea_cons ev_str ea_nil)))))))) (ev_index (j := 0) (w := .bool true) (ev_var (i := 1) rfl) ev_bl rfl rfl rfl (by decide +kernel) (fun m u hm hu => by exact absurd hm (Nat.not_lt_zero _))) rfl) (fun v d σ H' e s => by subst e; exact k v _ _ _ _ s)
  · exact nx_ret (P := fun d => d = .str _) (ev_ixL (EvN.dat (en_lst (ea_cons ev_str (ea_cons ev_str (ea_cons ev_str (ea_cons ev_str (ea_cons ev_str (ea_cons ev_str ea_nil)))))))) (ev_index (j := 1) (w := .bool true) (ev_var (i := 1) rfl) ev_bl rfl rfl rfl (by decide +kernel) (fun m u hm hu => by (have hq : m = 0 := by omega); rcases hq with rfl <;> (cases hu; decide +kernel))) rfl) (fun v d σ H' e s => by subst e; exact k v _ _ _ _ s)
  · exact nx_ret (P := fun d => d = .str _) (ev_ixL (EvN.dat (en_lst (ea_cons ev_str (ea_cons ev_str (ea_cons ev_str (ea_cons ev_str (ea_cons ev_str (ea_cons ev_str ea_nil)))))))) (ev_index (j := 2) (w := .bool true) (ev_var (i := 1) rfl) ev_bl rfl rfl rfl (by decide +kernel) (fun m u hm hu => by (have hq : m = 0 ∨ m = 1 := by omega); rcases hq with rfl | rfl <;> (cases hu; decide +kernel))) rfl) (fun v d σ H' e s => by subst e; exact k v _ _ _ _ s)
  · exact nx_ret (P := fun d => d = .str _) (ev_ixL (EvN.dat (en_lst (ea_cons ev_str (ea_cons ev_str (ea_cons ev_str (ea_cons ev_str (ea_cons ev_str (ea_cons ev_str ea_nil)))))))) (ev_index (j := 3) (w := .bool true) (ev_var (i := 1) rfl) ev_bl rfl rfl rfl (by decide +kernel) (fun m u hm hu => by (have hq : m = 0 ∨ m = 1 ∨ m = 2 := by omega); rcases hq with rfl | rfl | rfl <;> (cases hu; decide +kernel))) rfl) (fun v d σ H' e s => by subst e; exact k v _ _ _ _ s)
  · exact nx_ret (P := fun d => d = .str _) (ev_ixL (EvN.dat (en_lst (ea_cons ev_str (ea_cons ev_str (ea_cons ev_str (ea_cons ev_str (ea_cons ev_str (ea_cons ev_str ea_nil)))))))) (ev_index (j := 4) (w := .bool true) (ev_var (i := 1) rfl) ev_bl rfl rfl rfl (by decide +kernel) (fun m u hm hu => by (have hq : m = 0 ∨ m = 1 ∨ m = 2 ∨ m = 3 := by omega); rcases hq with rfl | rfl | rfl | rfl <;> (cases hu; decide +kernel))) rfl) (fun v d σ H' e s => by subst e; exact k v _ _ _ _ s)
  · exact nx_ret (P := fun d => d = .str _) (ev_ixL (EvN.dat (en_lst (ea_cons ev_str (ea_cons ev_str (ea_cons ev_str (ea_cons ev_str (ea_cons ev_str (ea_cons ev_str ea_nil)))))))) (ev_index (j := 5) (w := .bool true) (ev_var (i := 1) rfl) ev_bl rfl rfl rfl (by decide +kernel) (fun m u hm hu => by (have hq : m = 0 ∨ m = 1 ∨ m = 2 ∨ m = 3 ∨ m = 4 := by omega); rcases hq with rfl | rfl | rfl | rfl | rfl <;> (cases hu; decide +kernel))) rfl) (fun v d σ H' e s => by subst e; exact k v _ _ _ _ s)
theorem sc__law_true : FnScope ["value", "expected"] ["value", "expected"] (defScope (tS 37)) := ⟨rfl, rfl, rfl, by decide +kernel, rfl, by decide +kernel, by decide +kernel⟩
theorem ok__law_true (T : Tx K mg) : FnOk P w K mg base CX0 1 T.f__law_true T.d__law_true ["value", "expected"] (spD K fTrue) := by
  refine def_ok T.F__law_true sc__law_true (fun ds r h => ?_) (fun cdv A outer s H G E ds r hr h => ?_)
  · obtain ⟨a, b, rfl, rfl⟩ := h; rfl
  · obtain ⟨a, b, rfl, rfl⟩ := h
    refine ⟨_, (pss_one (ps_ret (pe_and (pe_callB (r := rIsi K) call_isi (by rfl) T.m_isinstance boot_isinstance (pa_cons (pv 0) (pa_cons (pe_bltn (v := .ty "bool") rfl T.m_bool (by decide +kernel) rfl) pa_nil))) (pe_one (pe_cmpR op_eq (pv 0) (pv 1) (nomark _)))))), fun Q k => ?_⟩
    refine nx_retD (ev_andV (ev_isi (ev_var (i := 0) rfl) (by first | rfl | decide +kernel | walk_at "zz_ob")) (fun hb => (ev_eqB (ev_var (i := 0) rfl) (ev_var (i := 1) rfl)))) (k.to ?_)
    rfl
theorem sc__law_low : FnScope ["top", "under", "one", "other"] ["top", "under"] (defScope (tS 38)) := ⟨rfl, rfl, rfl, by decide +kernel, rfl, by decide +kernel, by decide +kernel⟩
theorem ok__law_low (T : Tx K mg) : FnOk P w K mg base CX0 1 T.f__law_low T.d__law_low ["top", "under"] (spD K fLow) := by
  refine def_ok T.F__law_low sc__law_low (fun ds r h => ?_) (fun cdv A outer s H G E ds r hr h => ?_)
  · obtain ⟨t, b, rfl, hb1, hb2, ht1, ht2, rfl⟩ := h; rfl
  · obtain ⟨t, b, rfl, hb1, hb2, ht1, ht2, rfl⟩ := h
    refine ⟨_, (pss_cons (ps_par (i := 2) (j := 3) rfl sc__law_low.nd rfl rfl (by decide) rfl rfl (pa_cons (pe_callB call_abs (by rfl) T.m_abs (by decide +kernel) (pa_cons (pv 0) pa_nil)) (pa_cons (pv 1) pa_nil)) (by rfl))
      (pss_cons (ps_while PassesOwn.never (pt_cmpR op_ne (pv 3) pe_int (nomark _))
      (pss_one (ps_par (i := 2) (j := 3) rfl sc__law_low.nd rfl rfl (by decide) rfl rfl (pa_cons (pv 3) (pa_cons (pe_op op_mod (pv 2) (pv 3)) pa_nil)) (by rfl))))
      (pss_one (ps_ret (pe_tup (pa_cons (pe_op op_fdiv (pv 0) (pv 2)) (pa_cons (pe_op op_fdiv (pv 1) (pv 2)) pa_nil))))))), fun Q k => ?_⟩
    refine nx_seq (nx_par (em_D (ev_abs (ev_var (i := 0) rfl)) (em_D (ev_var (i := 1) rfl) em_nil)) (by rfl) ?_)
    rintro ms ⟨v1, _, _, rfl, ⟨v2, _, _, rfl, rfl, rfl⟩, rfl⟩
    refine ⟨rfl, ?_⟩
    refine nx_seq (nx_while (fun m Γ1 => ∃ x y : Int, Γ1 = [.dat (.int t), .dat (.int b), .dat (.int x), .dat (.int y)] ∧ 0 ≤ x ∧ 0 ≤ y ∧ (0 < x ∨ 0 < y) ∧ x ≤ 100000 ∧ y ≤ 100000 ∧ Nat.gcd x.toNat y.toNat = Nat.gcd t.natAbs b.toNat ∧ m = y.toNat) b.toNat ⟨_, b, rfl, ?_, ?_, ?_, ?_, ?_, ?_, rfl⟩ (fun m Γ1 ⟨x, y, e, h1, h2, h3, h4, h5, h6, h7⟩ => ?_))
    · split <;> omega
    · omega
    · omega
    · split <;> omega
    · omega
    · congr 1
      split <;> omega
    subst e h7
    refine ⟨_, (et_test (ev_neI (ev_var (i := 3) rfl) ev_int)), fun hb => ?_, fun hb => ?_⟩
    · have hy : 0 < y := by
        have : ¬ y = 0 := by simpa using hb
        omega
      refine nx_par (em_D (ev_var (i := 3) rfl) (em_D (ev_mod (ev_var (i := 2) rfl) (ev_var (i := 3) rfl) hy) em_nil)) (by rfl) ?_
      rintro ms ⟨v1, _, _, rfl, ⟨v2, _, _, rfl, rfl, rfl⟩, rfl⟩
      refine ⟨rfl, ?_⟩
      have m1 := Int.emod_nonneg x (Int.ne_of_gt hy)
      have m2 := Int.emod_lt_of_pos x hy
      refine nx_loopW (m' := (x % y).toNat) (by omega) ⟨y, x % y, rfl, by omega, m1, .inl hy, h5, by omega, ?_, rfl⟩
      rw [← h6]
      have e1 : (x % y).toNat = x.toNat % y.toNat := by
        obtain ⟨a, rfl⟩ := Int.eq_ofNat_of_zero_le h1
        obtain ⟨c, rfl⟩ := Int.eq_ofNat_of_zero_le h2
        rfl
      rw [e1, Nat.gcd_comm x.toNat y.toNat, Nat.gcd_rec y.toNat x.toNat]
      exact Nat.gcd_comm _ _
    · have hy : y = 0 := by simpa using hb
      subst hy
      have hx : 0 < x := by omega
      have eg : ((Nat.gcd t.natAbs b.toNat : Nat) : Int) = x := by
        rw [← h6]
        simp
        omega
      refine nx_retD (ev_tup (ea_cons (ev_fdiv (ev_var (i := 0) rfl) (ev_var (i := 2) rfl) ⟨hx, by omega⟩) (ea_cons (ev_fdiv (ev_var (i := 1) rfl) (ev_var (i := 2) rfl) ⟨hx, by omega⟩) ea_nil))) (k.to ?_)
      unfold lowS
      rw [eg]
theorem sc__law_steps : FnScope [] [] (defScope (tS 39)) := ⟨rfl, rfl, rfl, by decide +kernel, rfl, by decide +kernel, by decide +kernel⟩
theorem ok__law_steps (T : Tx K mg) : FnOk P w K mg base CX0 1 T.f__law_steps T.d__law_steps [] (spD K fSteps) := by
  refine def_ok T.F__law_steps sc__law_steps (fun ds r h => ?_) (fun cdv A outer s H G E ds r hr h => ?_)
  · obtain ⟨rfl, rfl⟩ := h; rfl
  · obtain ⟨rfl, rfl⟩ := h
    refine ⟨_, (pss_one (ps_ret (pe_lst (pa_cons (pe_tup (pa_cons pe_int (pa_cons pe_int pa_nil))) (pa_cons (pe_tup (pa_cons pe_int (pa_cons pe_int pa_nil))) (pa_cons (pe_tup (pa_cons pe_int (pa_cons pe_int pa_nil))) (pa_cons (pe_tup (pa_cons pe_int (pa_cons pe_int pa_nil))) (pa_cons (pe_tup (pa_cons pe_int (pa_cons pe_int pa_nil))) (pa_cons (pe_tup (pa_cons pe_int (pa_cons pe_int pa_nil))) (pa_cons (pe_tup (pa_cons pe_int (pa_cons pe_int pa_nil))) pa_nil)))))))))), fun Q k => ?_⟩
    refine nx_retD (EvN.dat (en_lst (ea_cons (ev_tup (ea_cons ev_int (ea_cons ev_int ea_nil))) (ea_cons (ev_tup (ea_cons ev_int (ea_cons ev_int ea_nil))) (ea_cons (ev_tup (ea_cons ev_int (ea_cons ev_int ea_nil))) (ea_cons (ev_tup (ea_cons ev_int (ea_cons ev_int ea_nil))) (ea_cons (ev_tup (ea_cons ev_int (ea_cons ev_int ea_nil))) (ea_cons (ev_tup (ea_cons ev_int (ea_cons ev_int ea_nil))) (ea_cons (ev_tup (ea_cons ev_int (ea_cons ev_int ea_nil))) ea_nil))))))))) (k.to ?_)
    rfl
theorem sc__law_modes : FnScope [] [] (defScope (tS 40)) := ⟨rfl, rfl, rfl, by decide +kernel, rfl, by decide +kernel, by decide +kernel⟩
theorem ok__law_modes (T : Tx K mg) : FnOk P w K mg base CX0 1 T.f__law_modes T.d__law_modes [] (spD K fModes) := by
  refine def_ok T.F__law_modes sc__law_modes (fun ds r h => ?_) (fun cdv A outer s H G E ds r hr h => ?_)
  · obtain ⟨rfl, rfl⟩ := h; rfl
  · obtain ⟨rfl, rfl⟩ := h
    refine ⟨_, (pss_one (ps_ret (pe_lst (pa_cons pe_str (pa_cons pe_str (pa_cons pe_str (pa_cons pe_str (pa_cons pe_str (pa_cons pe_str (pa_cons pe_str (pa_cons pe_str (pa_cons pe_str (pa_cons pe_str pa_nil))))))))))))), fun Q k => ?_⟩
    refine nx_retD (EvN.dat (en_lst (ea_cons ev_str (ea_cons ev_str (ea_cons ev_str (ea_cons ev_str (ea_cons ev_str (ea_cons ev_str (ea_cons ev_str (ea_cons ev_str (ea_cons ev_str (ea_cons ev_str ea_nil)))))))))))) (k.to ?_)
    rfl
end

section
variable {P : Program} {w : World} {K : FK} {mg : Str → Option Value} {base : Heap}
theorem sc__law_way : FnScope ["draws", "carry"] ["draws"] (defScope (tS 41)) := ⟨rfl, rfl, rfl, by decide +kernel, rfl, by decide +kernel, by decide +kernel⟩
theorem ok__law_way (T : Tx K mg) : FnOk P w K mg base CX0 3 T.f__law_way T.d__law_way ["draws"] (spW K preNo fWay) := by
  refine def_okW T.F__law_way sc__law_way (fun ds h => ?_) (fun cdv A outer s H E B p q ds hr h => ?_)
  · obtain rfl := h; rfl
  · obtain rfl := h
    refine ⟨_, (pss_cons (ps_set (i := 1) sc__law_way.nd rfl (by first | exact Or.inl rfl | exact Or.inr rfl) (pe_call (ok__law_pick T) (hr.mono (by decide)) (by rfl) T.g__law_pick T.F__law_pick.kp (b__law_pick T) .nil pass0 (pa_cons (pv 0) (pa_cons (pe_lst (pa_cons pe_str (pa_cons pe_str (pa_cons pe_str (pa_cons pe_str (pa_cons pe_str (pa_cons pe_str (pa_cons pe_str pa_nil)))))))) pa_nil))))
      (pss_one (ps_ret (pe_op (r := rCatT K) op_catT (pe_call (ok__law_pick T) (hr.mono (by decide)) (by rfl) T.g__law_pick T.F__law_pick.kp (b__law_pick T) .nil pass0 (pa_cons (pv 0) (pa_cons (pe_call0 (ok__law_steps T) (hr.mono (by decide)) (by rfl) T.g__law_steps T.F__law_steps.kp (b__law_steps T) .nil pass0) pa_nil))) (pe_tup (pa_cons (pe_call (ok__law_pick T) (hr.mono (by decide)) (by rfl) T.g__law_pick T.F__law_pick.kp (b__law_pick T) .nil pass0 (pa_cons (pv 0) (pa_cons (pe_call0 (ok__law_modes T) (hr.mono (by decide)) (by rfl) T.g__law_modes T.F__law_modes.kp (b__law_modes T) .nil pass0) pa_nil))) (pa_cons (pv 1) pa_nil))))))), fun Q k => ?_⟩
    refine nx_seq (nx_asgP (dr_pick (i := 0) rfl (EvN.dat (en_lst (ea_cons ev_str (ea_cons ev_str (ea_cons ev_str (ea_cons ev_str (ea_cons ev_str (ea_cons ev_str (ea_cons ev_str ea_nil)))))))))) (fun d hd => ?_))
    obtain ⟨c, rfl⟩ := carries_mem hd
    refine nx_ret (P := fun d => ∃ w : Way, d = w.dd) (ev_opP (dr_pick (i := 0) (cs := stepsD) rfl (ev_call ea_nil (mk__law_steps ))) (ev_tupP (P := fun d => ∃ m : Md, d = .tuple [.str m.str, .str c.str]) (ea_consP (Ps := fun ds => ∃ m : Md, ds = [.str m.str, .str c.str]) (dr_pick (i := 0) (cs := modesD) rfl (ev_call ea_nil (mk__law_modes ))) (ea_cons (ev_var (i := 1) rfl) ea_nil) (fun d ds h1 h2 => ?_)) (fun ds ⟨m, e⟩ => ⟨by rw [e]; show 2 ≤ 100000; decide, m, by rw [e]⟩)) (fun x y h1 ⟨m, e2⟩ => ?_)) (fun v d σ H' ⟨w, hw⟩ s => k v d _ _ _ _ ⟨rfl, w, hw⟩ s)
    · obtain ⟨m, rfl⟩ := modes_mem h1
      exact ⟨m, by rw [h2]⟩
    · obtain ⟨pr, rfl⟩ := steps_mem h1
      subst e2
      exact ⟨_, ⟨⟨pr, m, c⟩, rfl⟩, rd_catT (by simp) (by show 4 ≤ 100000; decide)⟩
theorem sc__law_at : FnScope ["value", "step", "mode", "near", "pair", "sizes", "inner", "outer", "far", "evens", "odds", "one", "k"] ["value", "step", "mode"] (defScope (tS 42)) := ⟨rfl, rfl, rfl, by decide +kernel, rfl, by decide +kernel, by decide +kernel⟩
theorem ok__law_at (T : Tx K mg) : FnOk P w K mg base CX0 1 T.f__law_at T.d__law_at ["value", "step", "mode"] (spD K fLawAt) := by
  refine def_ok T.F__law_at sc__law_at (fun ds r h => ?_) (fun cdv A outer s H G E ds r hr h => ?_)
  · obtain ⟨v, s, m, rfl, hs, rfl⟩ := h; rfl
  · obtain ⟨v, s, m, rfl, hs, rfl⟩ := h
    refine ⟨_, (pss_cons (ps_set (i := 3) sc__law_at.nd rfl (by first | exact Or.inl rfl | exact Or.inr rfl) (pe_ix (r := rIxL K) ix_list (pe_lc (own := [("k", 12)]) rfl sc__law_at.nd (pi_range1 rfl T.m_range (pa_cons (pv 1) pa_nil)) (blkOk_by (N := ["value", "step", "mode", "near", "pair", "sizes", "inner", "outer", "far", "evens", "odds", "one", "k"]) (sc := defScope (tS 42)) (own := [("k", 12)]) (by decide +kernel)) (fun _ _ _ _ _ => (pg_name (i := 12) sc__law_at.nd rfl (by first | exact Or.inl rfl | exact Or.inr rfl))) (fun _ _ _ _ _ => (pts_one (pt_cmpR op_eq (pe_op op_mod (pe_op op_sub (pv 0) (pv 12)) (pv 1)) pe_int (nomark _)))) (fun _ _ _ _ _ => (pe_op op_sub (pv 0) (pv 12)))) pe_int (fun _ _ => rfl)))
      (pss_cons (ps_set (i := 4) sc__law_at.nd rfl (by first | exact Or.inl rfl | exact Or.inr rfl) (pe_ifExp (pt_cmpR op_ne (pv 3) (pv 0) (nomark _)) (pe_lst (pa_cons (pv 3) (pa_cons (pe_op op_add (pv 3) (pv 1)) pa_nil))) (pe_lst (pa_cons (pv 3) pa_nil))))
      (pss_cons (ps_if (pt_cmpR op_eq (pe_callB (r := rLenS K) call_len_seq (by rfl) T.m_len PySem.boot_len (pa_cons (pv 4) pa_nil)) pe_int (nomark _))
      (pss_one (ps_ret (pv 3)))
      pss_nil)
      (pss_cons (ps_if (pt_cmpR (r := rIn K false) op_in_seq (pv 2) (pe_tup (pa_cons pe_str (pa_cons pe_str pa_nil))) rfl)
      (pss_one (ps_ret (pe_ifExp (pt_cmpR op_eq (pv 2) pe_str (nomark _)) (pe_callB (r := rMin K) (cr_min rfl) (by rfl) T.m_min (by decide +kernel) (pa_cons (pv 4) pa_nil)) (pe_callB (r := rMax K) (cr_max rfl) (by rfl) T.m_max (by decide +kernel) (pa_cons (pv 4) pa_nil)))))
      pss_nil)
      (pss_cons (ps_setLc (i := 5) (own := [("one", 11)]) rfl sc__law_at.nd rfl rfl (sw_true rfl rfl rfl (by decide +kernel)) (pi_list (pv 4)) (blkOk_by (N := ["value", "step", "mode", "near", "pair", "sizes", "inner", "outer", "far", "evens", "odds", "one", "k"]) (sc := defScope (tS 42)) (own := [("one", 11)]) (by decide +kernel)) (fun _ _ _ _ _ => (pg_name (i := 11) sc__law_at.nd rfl (by first | exact Or.inl rfl | exact Or.inr rfl))) (fun _ _ _ _ _ => pts_nil) (fun _ _ _ _ _ => (pe_callB call_abs (by rfl) T.m_abs (by decide +kernel) (pa_cons (pv 11) pa_nil))))
      (pss_cons (ps_par (i := 6) (j := 7) rfl sc__law_at.nd rfl rfl (by decide) rfl rfl (pa_cons (pe_ix (r := rIxL K) ix_list (pv 4) (pe_bm (r := rIndex K) PySem.F.plainAttrs_list PySem.F.slot_list_index PySem.F.type_list_index mt_index (pv 5) (pa_cons (pe_callB (r := rMin K) (cr_min rfl) (by rfl) T.m_min (by decide +kernel) (pa_cons (pv 5) pa_nil)) pa_nil)) (fun _ _ => rfl)) (pa_cons (pe_ix (r := rIxL K) ix_list (pv 4) (pe_bm (r := rIndex K) PySem.F.plainAttrs_list PySem.F.slot_list_index PySem.F.type_list_index mt_index (pv 5) (pa_cons (pe_callB (r := rMax K) (cr_max rfl) (by rfl) T.m_max (by decide +kernel) (pa_cons (pv 5) pa_nil)) pa_nil)) (fun _ _ => rfl)) pa_nil)) (by rfl))
      (pss_cons (ps_if (pt_cmpR (r := rIn K false) op_in_seq (pv 2) (pe_tup (pa_cons pe_str (pa_cons pe_str pa_nil))) rfl)
      (pss_one (ps_ret (pe_ifExp (pt_cmpR op_eq (pv 2) pe_str (nomark _)) (pv 6) (pv 7))))
      pss_nil)
      (pss_cons (ps_setLc (i := 8) (own := [("one", 11)]) rfl sc__law_at.nd rfl rfl (sw_true rfl rfl rfl (by decide +kernel)) (pi_list (pv 4)) (blkOk_by (N := ["value", "step", "mode", "near", "pair", "sizes", "inner", "outer", "far", "evens", "odds", "one", "k"]) (sc := defScope (tS 42)) (own := [("one", 11)]) (by decide +kernel)) (fun _ _ _ _ _ => (pg_name (i := 11) sc__law_at.nd rfl (by first | exact Or.inl rfl | exact Or.inr rfl))) (fun _ _ _ _ _ => pts_nil) (fun _ _ _ _ _ => (pe_callB call_abs (by rfl) T.m_abs (by decide +kernel) (pa_cons (pe_op op_sub (pv 11) (pv 0)) pa_nil))))
      (pss_cons (ps_if (pt_cmpR op_ne (pe_ix (r := rIxL K) ix_list (pv 8) pe_int (fun _ _ => rfl)) (pe_ix (r := rIxL K) ix_list (pv 8) pe_int (fun _ _ => rfl)) (nomark _))
      (pss_one (ps_ret (pe_ix (r := rIxL K) ix_list (pv 4) (pe_bm (r := rIndex K) PySem.F.plainAttrs_list PySem.F.slot_list_index PySem.F.type_list_index mt_index (pv 8) (pa_cons (pe_callB (r := rMin K) (cr_min rfl) (by rfl) T.m_min (by decide +kernel) (pa_cons (pv 8) pa_nil)) pa_nil)) (fun _ _ => rfl))))
      pss_nil)
      (pss_cons (ps_setLc (i := 9) (own := [("one", 11)]) rfl sc__law_at.nd rfl rfl (sw_true rfl rfl rfl (by decide +kernel)) (pi_list (pv 4)) (blkOk_by (N := ["value", "step", "mode", "near", "pair", "sizes", "inner", "outer", "far", "evens", "odds", "one", "k"]) (sc := defScope (tS 42)) (own := [("one", 11)]) (by decide +kernel)) (fun _ _ _ _ _ => (pg_name (i := 11) sc__law_at.nd rfl (by first | exact Or.inl rfl | exact Or.inr rfl))) (fun _ _ _ _ _ => (pts_one (pt_cmpR op_eq (pe_op op_mod (pe_op op_fdiv (pv 11) (pv 1)) pe_int) pe_int (nomark _)))) (fun _ _ _ _ _ => (pv 11)))
      (pss_cons (ps_setLc (i := 10) (own := [("one", 11)]) rfl sc__law_at.nd rfl rfl (sw_true rfl rfl rfl (by decide +kernel)) (pi_list (pv 4)) (blkOk_by (N := ["value", "step", "mode", "near", "pair", "sizes", "inner", "outer", "far", "evens", "odds", "one", "k"]) (sc := defScope (tS 42)) (own := [("one", 11)]) (by decide +kernel)) (fun _ _ _ _ _ => (pg_name (i := 11) sc__law_at.nd rfl (by first | exact Or.inl rfl | exact Or.inr rfl))) (fun _ _ _ _ _ => (pts_one (pt_cmpR op_eq (pe_op op_mod (pe_op op_fdiv (pv 11) (pv 1)) pe_int) pe_int (nomark _)))) (fun _ _ _ _ _ => (pv 11)))
      (pss_one (ps_ret (pe_dget (hu_of hr) (pe_disp (pps_cons pe_str (pe_ix (r := rIxL K) ix_list (pv 4) pe_int (fun _ _ => rfl)) (pps_cons pe_str (pe_ix (r := rIxL K) ix_list (pv 4) pe_int (fun _ _ => rfl)) (pps_cons pe_str (pv 6) (pps_cons pe_str (pv 7) (pps_cons pe_str (pe_ix (r := rIxL K) ix_list (pv 9) pe_int (fun _ _ => rfl)) (pps_cons pe_str (pe_ix (r := rIxL K) ix_list (pv 10) pe_int (fun _ _ => rfl)) pps_nil)))))) (by rfl) (by rfl) (fun z => by cases z) (by decide)) (pv 2) (fun _ _ => rfl))))))))))))))), fun Q k => ?_⟩
    have hs0 : 0 < s ∧ s < 7 := by rcases hs with h | h | h | h | h <;> omega
    generalize ea : v / s * s = a
    have hab : a / s = v / s := by
      rw [← ea]; exact Int.mul_ediv_cancel _ (by omega)
    refine nx_seq (nx_asg (ev_ixL (EvN.dat (EvND.to (es := [.int (v / s * s)]) (en_filter (us := [12]) (pk v s) (fk v) (ei_range1 (ea_cons (ev_var (i := 1) rfl) ea_nil) (by constructor <;> omega)) ⟨rfl, trivial⟩ (by rw [List.length_map, ints_len]; omega) (fun i d hd => by
            obtain ⟨k, hk, rfl⟩ := map_get hd
            exact ⟨_, _, tg_name, by decide, (et_test (ev_eqI (ev_mod (ev_sub (ev_var (i := 0) rfl) (ev_var (i := 12) rfl)) (ev_var (i := 1) rfl) (by walk_at "zz_ob")) ev_int)), fun hf => (ev_sub (ev_var (i := 0) rfl) (ev_var (i := 12) rfl))⟩)) (near_list hs))) ev_int rfl) ?_)
    rw [ea]
    by_cases hav : a = v
    · refine nx_seq (nx_asg (EvD.to (ev_ifL (et_test (ev_neI (ev_var (i := 3) rfl) (ev_var (i := 0) rfl))) (fun hb => (EvN.dat (en_lst (ea_cons (ev_var (i := 3) rfl) (ea_cons (ev_add (ev_var (i := 3) rfl) (ev_var (i := 1) rfl)) ea_nil))))) (fun hb => (EvN.dat (en_lst (ea_cons (ev_var (i := 3) rfl) ea_nil))))) (show _ = PyData.list [.int a] by simp [hav])) ?_)
      refine nx_seq (nx_if (b := true) (EvT.to (et_test (ev_eqI (ev_lenL (ev_var (i := 4) rfl)) ev_int)) rfl) (fun _ => ?_) (fun h => nomatch h))
      refine nx_retD (ev_var (i := 3) rfl) (k.to ?_)
      rw [bt_at hs, ea, if_pos hav]
    · refine nx_seq (nx_asg (EvD.to (ev_ifL (et_test (ev_neI (ev_var (i := 3) rfl) (ev_var (i := 0) rfl))) (fun hb => (EvN.dat (en_lst (ea_cons (ev_var (i := 3) rfl) (ea_cons (ev_add (ev_var (i := 3) rfl) (ev_var (i := 1) rfl)) ea_nil))))) (fun hb => (EvN.dat (en_lst (ea_cons (ev_var (i := 3) rfl) ea_nil))))) (show _ = PyData.list [.int a, .int (a + s)] by simp [hav])) ?_)
      refine nx_seq (nx_if (b := false) (EvT.to (et_test (ev_eqI (ev_lenL (ev_var (i := 4) rfl)) ev_int)) rfl) (fun h => nomatch h) (fun _ => nx_next ?_))
      have ebt : ∀ m : Md, btS v s m.str = laM v s a (a + s) m := fun m => by rw [bt_at hs, ea, if_neg hav]
      rw [ebt] at k
      refine nx_seq (nx_if ((et_test (ev_inT (ev_var (i := 2) rfl) (ev_tup (ea_cons ev_str (ea_cons ev_str ea_nil))))).to (md_in3 m)) (fun h => ?_) (fun h => nx_next ?_))
      · have hm : m = .down ∨ m = .up := of_decide_eq_true h
        refine nx_retD (ev_ifP (P := fun x => x = .int (laM v s a (a + s) m)) (et_test (ev_eqS (ev_var (i := 2) rfl) ev_str)) (fun hb => EvD.p (ev_min (ns := [a, a + s]) (m := a) (ev_var (i := 4) rfl) (by simp) (fun y hy => by simp at hy; omega)) ?_) (fun hb => EvD.p (ev_max (ns := [a, a + s]) (m := a + s) (ev_var (i := 4) rfl) (by simp) (fun y hy => by simp at hy; omega)) ?_)) k
        · have e1 : decide (m.str = ("down" : Str)) = decide (m = .down) := md_eq m .down
          rw [e1] at hb
          rw [of_decide_eq_true hb]; rfl
        · have e1 : decide (m.str = ("down" : Str)) = decide (m = .down) := md_eq m .down
          rw [e1] at hb
          rcases hm with e | e
          · rw [e] at hb; simp at hb
          · rw [e]; rfl
      · have hm : ¬ (m = .down ∨ m = .up) := of_decide_eq_false h
        refine nx_seq (nx_asg (EvN.dat (en_map (us := [11]) (fun d => match d with | .int k => .int (ab k) | d => d) (ei_list (ev_var (i := 4) rfl)) ⟨rfl, trivial⟩ (by show 2 < 100000; decide) (fun i d hd => by
            obtain ⟨k, rfl⟩ := two_int hd
            exact ⟨_, _, tg_name, by decide, (ev_abs (ev_var (i := 11) rfl))⟩))) ?_)
        have rin : ∃ j : Nat, (([.int a, .int (a + s)] : List DD)[j]? = some (.int (if ab a ≤ ab (a + s) then a else a + s))) ∧ (([.int (ab a), .int (ab (a + s))] : List DD)[j]? = some (.int (if ab a ≤ ab (a + s) then ab a else ab (a + s)))) ∧ (∀ (n : Nat) (u : DD), n < j → ([.int (ab a), .int (ab (a + s))] : List DD)[n]? = some u → PyData.eqv u (.int (if ab a ≤ ab (a + s) then ab a else ab (a + s))) = false) := pick_le _ _ _ _
        have rout : ∃ j : Nat, (([.int a, .int (a + s)] : List DD)[j]? = some (.int (if ab (a + s) ≤ ab a then a else a + s))) ∧ (([.int (ab a), .int (ab (a + s))] : List DD)[j]? = some (.int (if ab (a + s) ≤ ab a then ab a else ab (a + s)))) ∧ (∀ (n : Nat) (u : DD), n < j → ([.int (ab a), .int (ab (a + s))] : List DD)[n]? = some u → PyData.eqv u (.int (if ab (a + s) ≤ ab a then ab a else ab (a + s))) = false) := pick_ge _ _ _ _
        obtain ⟨j1, p1, p2, p3⟩ := rin
        obtain ⟨j2, q1, q2, q3⟩ := rout
        refine nx_seq (nx_par (em_D (ev_ixL (ev_var (i := 4) rfl) (ev_index (ev_var (i := 5) rfl) (ev_min (ns := [ab a, ab (a + s)]) (ev_var (i := 5) rfl) ?_ ?_) rfl rfl p2 (by simp [PyData.eqv]) p3) (atI_nat p1)) (em_D (ev_ixL (ev_var (i := 4) rfl) (ev_index (ev_var (i := 5) rfl) (ev_max (ns := [ab a, ab (a + s)]) (ev_var (i := 5) rfl) ?_ ?_) rfl rfl q2 (by simp [PyData.eqv]) q3) (atI_nat q1)) em_nil)) (by rfl) ?_)
        · split <;> simp
        · intro y hy; simp at hy; split <;> omega
        · split <;> simp
        · intro y hy; simp at hy; split <;> omega
        rintro ms ⟨v1, _, _, rfl, ⟨v2, _, _, rfl, rfl, rfl⟩, rfl⟩
        refine ⟨rfl, ?_⟩
        generalize ein : (if ab a ≤ ab (a + s) then a else a + s) = inner
        generalize eout : (if ab (a + s) ≤ ab a then a else a + s) = outer
        refine nx_seq (nx_if ((et_test (ev_inT (ev_var (i := 2) rfl) (ev_tup (ea_cons ev_str (ea_cons ev_str ea_nil))))).to (md_in1 m)) (fun h => ?_) (fun h => nx_next ?_))
        · have hm2 : m = .inn ∨ m = .out := of_decide_eq_true h
          refine nx_retD (ev_ifI (et_test (ev_eqS (ev_var (i := 2) rfl) ev_str)) (fun hb => (ev_var (i := 6) rfl)) (fun hb => (ev_var (i := 7) rfl))) (k.to ?_)
          have e1 : decide (m.str = ("in" : Str)) = decide (m = .inn) := md_eq m .inn
          rw [e1]
          rcases hm2 with e | e
          · rw [e]; simp [laM, ein]
          · rw [e]; simp [laM, eout]
        · have hm2 : ¬ (m = .inn ∨ m = .out) := of_decide_eq_false h
          refine nx_seq (nx_asg (EvN.dat (en_map (us := [11]) (fun d => match d with | .int k => .int (ab (k - v)) | d => d) (ei_list (ev_var (i := 4) rfl)) ⟨rfl, trivial⟩ (by show 2 < 100000; decide) (fun i d hd => by
            obtain ⟨k, rfl⟩ := two_int hd
            exact ⟨_, _, tg_name, by decide, (ev_abs (ev_sub (ev_var (i := 11) rfl) (ev_var (i := 0) rfl)))⟩))) ?_)
          refine nx_seq (nx_if (et_test (ev_neI (ev_ixL (ev_var (i := 8) rfl) ev_int rfl) (ev_ixL (ev_var (i := 8) rfl) ev_int rfl))) (fun h => ?_) (fun h => nx_next ?_))
          · have hne : ab (a - v) ≠ ab (a + s - v) := by simpa using h
            obtain ⟨j3, r1, r2, r3⟩ := pick_le a (a + s) (ab (a - v)) (ab (a + s - v))
            refine nx_retD (ev_ixL (ev_var (i := 4) rfl) (ev_index (ev_var (i := 8) rfl) (ev_min (ns := [ab (a - v), ab (a + s - v)]) (ev_var (i := 8) rfl) ?_ ?_) rfl rfl r2 (by simp [PyData.eqv]) r3) (atI_nat r1)) (k.to ?_)
            · split <;> simp
            · intro y hy; simp at hy; split <;> omega
            · cases m <;> simp at hm hm2 <;> simp [laM, hne]
          · have heq : ab (a - v) = ab (a + s - v) := by simpa using h
            have e2 : (a + s) / s = a / s + 1 := Int.add_ediv_of_dvd_right ⟨1, by omega⟩ |>.trans (by rw [Int.ediv_self (by omega)])
            have hev : ∃ x, ((([.int a, .int (a + s)] : List DD).filter (fun d => match d with | .int k => decide (k / s % 2 = 0) | _ => false)).map (fun d => d)) = [.int x] ∧ x = if a / s % 2 = 0 then a else a + s := by
              by_cases h0 : a / s % 2 = 0
              · have h1 : ¬ (a + s) / s % 2 = 0 := by rw [e2]; omega
                exact ⟨a, by simp [h0, h1], by rw [if_pos h0]⟩
              · have h1 : (a + s) / s % 2 = 0 := by rw [e2]; omega
                exact ⟨a + s, by simp [h0, h1], by rw [if_neg h0]⟩
            have hod : ∃ x, ((([.int a, .int (a + s)] : List DD).filter (fun d => match d with | .int k => decide (k / s % 2 = 1) | _ => false)).map (fun d => d)) = [.int x] ∧ x = if a / s % 2 = 1 then a else a + s := by
              by_cases h0 : a / s % 2 = 1
              · have h1 : ¬ (a + s) / s % 2 = 1 := by rw [e2]; omega
                exact ⟨a, by simp [h0, h1], by rw [if_pos h0]⟩
              · have h1 : (a + s) / s % 2 = 1 := by rw [e2]; omega
                exact ⟨a + s, by simp [h0, h1], by rw [if_neg h0]⟩
            obtain ⟨xe, he1, he2⟩ := hev
            obtain ⟨xo, ho1, ho2⟩ := hod
            refine nx_seq (nx_asg (EvN.dat (EvND.to (en_filter (us := [11]) (fun d => match d with | .int k => decide (k / s % 2 = 0) | _ => false) (fun d => d) (ei_list (ev_var (i := 4) rfl)) ⟨rfl, trivial⟩ (by show 2 < 100000; decide) (fun i d hd => by
            obtain ⟨k, rfl⟩ := two_int hd
            exact ⟨_, _, tg_name, by decide, (et_test (ev_eqI (ev_mod (ev_fdiv (ev_var (i := 11) rfl) (ev_var (i := 1) rfl) (by walk_at "zz_ob")) ev_int (by walk_at "zz_ob")) ev_int)), fun hf => (ev_var (i := 11) rfl)⟩)) he1)) ?_)
            refine nx_seq (nx_asg (EvN.dat (EvND.to (en_filter (us := [11]) (fun d => match d with | .int k => decide (k / s % 2 = 1) | _ => false) (fun d => d) (ei_list (ev_var (i := 4) rfl)) ⟨rfl, trivial⟩ (by show 2 < 100000; decide) (fun i d hd => by
            obtain ⟨k, rfl⟩ := two_int hd
            exact ⟨_, _, tg_name, by decide, (et_test (ev_eqI (ev_mod (ev_fdiv (ev_var (i := 11) rfl) (ev_var (i := 1) rfl) (by walk_at "zz_ob")) ev_int (by walk_at "zz_ob")) ev_int)), fun hf => (ev_var (i := 11) rfl)⟩)) ho1)) ?_)
            refine nx_retD (ev_getR (k := Sum.inr _) (er_disp (ep_cons (k := Sum.inr "neardown") ev_str (ev_ixL (ev_var (i := 4) rfl) ev_int rfl) (ep_cons (k := Sum.inr "nearup") ev_str (ev_ixL (ev_var (i := 4) rfl) ev_int rfl) (ep_cons (k := Sum.inr "nearin") ev_str (ev_var (i := 6) rfl) (ep_cons (k := Sum.inr "nearout") ev_str (ev_var (i := 7) rfl) (ep_cons (k := Sum.inr "neareven") ev_str (ev_ixL (ev_var (i := 9) rfl) ev_int rfl) (ep_cons (k := Sum.inr "nearodd") ev_str (ev_ixL (ev_var (i := 10) rfl) ev_int rfl) ep_nil))))))) (ev_var (i := 2) rfl) (by
              subst ein eout he2 ho2
              cases m <;> simp at hm hm2 <;> simp [laM, heq] <;> rfl)) k
theorem sc__law_bring : FnScope ["way", "value"] ["way", "value"] (defScope (tS 43)) := ⟨rfl, rfl, rfl, by decide +kernel, rfl, by decide +kernel, by decide +kernel⟩
theorem ok__law_bring (T : Tx K mg) : FnOk P w K mg base CX0 2 T.f__law_bring T.d__law_bring ["way", "value"] (spD K fLawBring) := by
  refine def_ok T.F__law_bring sc__law_bring (fun ds r h => ?_) (fun cdv A outer s H G E ds r hr h => ?_)
  · obtain ⟨w, v, rfl, rfl⟩ := h; rfl
  · obtain ⟨w, v, rfl, rfl⟩ := h
    refine ⟨_, (pss_one (ps_ret (pe_call (ok__law_at T) (hr.mono (by decide)) (by rfl) T.g__law_at T.F__law_at.kp (b__law_at T) .nil pass0 (pa_cons (pe_call (ok__law_at T) (hr.mono (by decide)) (by rfl) T.g__law_at T.F__law_at.kp (b__law_at T) .nil pass0 (pa_cons (pv 1) (pa_cons (pe_ix (r := rIxT K) ix_tup (pv 0) pe_int (fun _ _ => rfl)) (pa_cons (pe_ix (r := rIxT K) ix_tup (pv 0) pe_int (fun _ _ => rfl)) pa_nil)))) (pa_cons (pe_ix (r := rIxT K) ix_tup (pv 0) pe_int (fun _ _ => rfl)) (pa_cons (pe_ix (r := rIxT K) ix_tup (pv 0) pe_int (fun _ _ => rfl)) pa_nil)))))), fun Q k => ?_⟩
    refine nx_retD (ev_call (ea_cons (ev_call (ea_cons (ev_var (i := 1) rfl) (ea_cons (ev_ixT (ev_var (i := 0) rfl) ev_int rfl) (ea_cons (ev_ixT (ev_var (i := 0) rfl) ev_int rfl) ea_nil))) (mk__law_at w.m (Pr.so w.p).2 rfl)) (ea_cons (ev_ixT (ev_var (i := 0) rfl) ev_int rfl) (ea_cons (ev_ixT (ev_var (i := 0) rfl) ev_int rfl) ea_nil))) (mk__law_at w.m (Pr.so w.p).1 rfl)) (k.to ?_)
    rfl
theorem sc__law_call : FnScope ["kind", "way", "found", "caught", "e"] ["kind", "way"] (defScope (tS 44)) := ⟨rfl, rfl, rfl, by decide +kernel, rfl, by decide +kernel, by decide +kernel⟩
theorem ok__law_call (T : Tx K mg) : FnOk P w K mg base CX0 6 T.f__law_call T.d__law_call ["kind", "way"] (spD K fCall) := by
  refine def_ok T.F__law_call sc__law_call (fun ds r h => ?_) (fun cdv A outer s H G E ds r hr h => ?_)
  · obtain ⟨i, w, rfl, hw, rfl⟩ := h; rfl
  · obtain ⟨i, w, rfl, hw, rfl⟩ := h
    refine ⟨_, (pss_cons (ps_set (i := 2) sc__law_call.nd rfl (by first | exact Or.inl rfl | exact Or.inr rfl) pe_non)
      (pss_cons (ps_set (i := 3) sc__law_call.nd rfl (by first | exact Or.inl rfl | exact Or.inr rfl) pe_non)
      (pss_cons (ps_try_keep (i := 4) rfl rfl sc__law_call.nd rfl rfl ⟨by rfl, by decide, .inl T.g_RestError⟩ takes0 (fun W pn xe tk po => (pss_one (ps_set (i := 2) sc__law_call.nd rfl (by first | exact Or.inl rfl | exact Or.inr rfl) (pe_ifExp (pt_cmpR op_eq (pv 0) pe_int (nomark _)) (pe_callS (ok_first_unmirrored T) (hr.mono (by decide)) (by rfl) T.g_first_unmirrored T.F_first_unmirrored.kp (b_first_unmirrored T) (fun σ => passAt tk σ) (pa_cons (pv 1) pa_nil)) (pe_callS (ok_at_once T) (hr.mono (by decide)) (by rfl) T.g_at_once T.F_at_once.kp (b_at_once T) (fun σ => passAt tk σ) (pa_cons (pv 1) pa_nil)))))) (fun a pn => (pss_one (ps_set (i := 3) sc__law_call.nd rfl (by first | exact Or.inl rfl | exact Or.inr rfl) (pv 4)))))
      (pss_one (ps_ret (pe_ifExp (pt_cmpR op_isN (pv 3) pe_non (nomark _)) (pv 2) (pe_call (ok__law_error T) (hr.mono (by decide)) (by rfl) T.g__law_error T.F__law_error.kp (b__law_error T) .nil pass0 (pa_cons (pv 3) pa_nil)))))))), fun Q k => ?_⟩
    refine nx_seq (nx_asg ev_non ?_)
    dsimp only
    refine nx_seq (nx_asg ev_non ?_)
    dsimp only
    refine nx_seq ?_
    dsimp only
    refine (nx_tryK (i := 4) (j := 2) (k := 3) (P := fun r => r = if i = 0 then fuR w else aoR w) (ex_if (et_test (ev_eqI (ev_var (i := 0) rfl) ev_int)) (fun hb => (ex_callS (ea_cons (ev_var (i := 1) rfl) ea_nil) (mk_first_unmirrored hw)).imp ?_) (fun hb => (ex_callS (ea_cons (ev_var (i := 1) rfl) ea_nil) (mk_at_once hw)).imp ?_)) (fun d hd => ?_) (fun c hc => ?_))
    · intro r e
      have h : i = 0 := by simpa using hb
      rw [if_pos h]; exact e
    · intro r e
      have h : ¬ i = 0 := by simpa using hb
      rw [if_neg h]; exact e
    · refine nx_retD (ev_ifP (b := true) (EvT.to (et_test (ev_isN (ev_var (i := 3) rfl))) rfl) (fun _ => (ev_var (i := 2) rfl)) (fun h => nomatch h)) (k.to ?_)
      rw [← hd]; rfl
    · have hcn : c ∈ nsE := by
        split at hc
        · exact fuR_er hc.symm
        · exact aoR_er hc.symm
      refine ⟨(kits_ok T.ks hcn).exm, fun a => ?_⟩
      refine nx_retD (ev_ifP (et_test (ev_isNO (i := 3) rfl)) (fun h => nomatch h) (fun _ => ev_err (i := 3) rfl hcn)) (k.to ?_)
      rw [← hc]; rfl
end


def btM (v s : Int) (m : Md) : Int :=
  if v / s * s = v then v / s * s else
  match m with
  | .down => v / s * s
  | .up => v / s * s + s
  | .inn => if 0 ≤ v then v / s * s else v / s * s + s
  | .out => if 0 ≤ v then v / s * s + s else v / s * s
  | m => if v - v / s * s < v / s * s + s - v then v / s * s else if v / s * s + s - v < v - v / s * s then v / s * s + s else
    match m with
    | .neardown => v / s * s
    | .nearup => v / s * s + s
    | .nearin => if 0 ≤ v / s * s then v / s * s else v / s * s + s
    | .nearout => if 0 ≤ v / s * s then v / s * s + s else v / s * s
    | .neareven => if v / s * s / s % 2 = 0 then v / s * s else v / s * s + s
    | _ => if v / s * s / s % 2 = 0 then v / s * s + s else v / s * s
set_option maxHeartbeats 4000000 in
theorem bt_M {v s : Int} (hs : StepOk s) (m : Md) : btS v s m.str = btM v s m := by
  rw [bt_md]
  unfold btM
  by_cases h : v / s * s = v
  · rw [if_pos h]
    simp only [h, if_true, ne_eq, not_true_eq_false, if_false]
    repeat' split
    all_goals first | rfl | omega
  · rw [if_neg h]
    simp only [h, if_false]
    cases m <;> simp only [reduceCtorEq, if_true, if_false, or_self, or_true, true_or, iff_true, iff_false] <;> rcases hs with rfl | rfl | rfl | rfl | rfl <;> (repeat' split) <;> first | rfl | omega
def brM (p : Pr) (m : Md) (v : Int) : Int := btM (btM v p.fi m) p.st m
theorem br_M (w : Way) (v : Int) : brS w.wy v = brM w.p w.m v := by
  show btS (btS v w.p.fi w.m.str) w.p.st w.m.str = _
  rw [bt_M (Pr.so w.p).1, bt_M (Pr.so w.p).2]; rfl
def unmQ (p : Pr) (m : Md) (v : Int) : Bool := !decide (brM p m (-v) = -(brM p m v))
def spoQ (p : Pr) (m : Md) (v : Int) : Bool := !decide (brM p m v = btM v p.st m)
theorem unmP_Q (w : Way) : unmP w.wy = unmQ w.p w.m := by
  funext v
  unfold unmP unmQ
  rw [br_M, br_M]
theorem spoP_Q (w : Way) : spoP w.wy = spoQ w.p w.m := by
  funext v
  show (!decide (brS w.wy v = btS v w.p.st w.m.str)) = _
  rw [br_M, bt_M (Pr.so w.p).1]; rfl
def badS (w : Way) : List Int := (intsF 1 60).filter (unmP w.wy)
def lostS (w : Way) : List Int := (intsF 0 61).filter (spoP w.wy)
theorem k_bad : ∀ (p : Pr) (m : Md), ((intsF 1 60).filter (unmQ p m)).head? = (intsF 1 24).find? (unmQ p m) := by
  intro p m
  cases p <;> cases m <;> decide +kernel
theorem k_lost : ∀ (p : Pr) (m : Md), ((intsF 0 61).filter (spoQ p m)).head? = (intsF 0 24).find? (spoQ p m) := by
  intro p m
  cases p <;> cases m <;> decide +kernel
theorem bad_head (w : Way) : (badS w).head? = unmS w.wy := by
  unfold badS unmS
  rw [unmP_Q]; exact k_bad _ _
theorem lost_head (w : Way) : (lostS w).head? = spoS w.wy := by
  unfold lostS spoS
  rw [spoP_Q]; exact k_lost _ _
def vals60 : List Int := intsF (-60) 121
def goP (w : Wy) (m : Str) : Bool := decide (vals60.map (fun v => btS v w.step m) = vals60.map (brS w))
def goodS (w : Wy) : List Str := modesS.filter (goP w)
def goQ (p : Pr) (m k : Md) : Bool := decide (vals60.map (fun v => btM v p.st k) = vals60.map (brM p m))
def aoQ (p : Pr) (m k : Md) : Bool := decide (vals24.map (fun v => btM v p.st k) = vals24.map (brM p m))
theorem goP_Q (w : Way) (k : Md) : goP w.wy k.str = goQ w.p w.m k := by
  unfold goP goQ
  have e1 : (fun v => btS v w.wy.step k.str) = fun v => btM v w.p.st k := by
    funext v
    exact bt_M (Pr.so w.p).1 k
  have e2 : brS w.wy = brM w.p w.m := by
    funext v
    exact br_M w v
  rw [e1, e2]
theorem aoP_Q (w : Way) (k : Md) : aoP w.wy k.str = aoQ w.p w.m k := by
  unfold aoP aoQ
  have e1 : (fun v => btS v w.wy.step k.str) = fun v => btM v w.p.st k := by
    funext v
    exact bt_M (Pr.so w.p).1 k
  have e2 : brS w.wy = brM w.p w.m := by
    funext v
    exact br_M w v
  rw [e1, e2]
theorem modes_str : modesS = allMd.map Md.str := by decide +kernel
theorem filter_str (f : Str → Bool) (g : Md → Bool) (h : ∀ k, f k.str = g k) : ∀ l : List Md, (l.map Md.str).filter f = (l.filter g).map Md.str
  | [] => rfl
  | k :: l => by
    simp only [List.map_cons, List.filter_cons, h k]
    split
    · rw [List.map_cons, filter_str f g h l]
    · exact filter_str f g h l
theorem find_str (f : Str → Bool) (g : Md → Bool) (h : ∀ k, f k.str = g k) : ∀ l : List Md, (l.map Md.str).find? f = (l.find? g).map Md.str
  | [] => rfl
  | k :: l => by
    simp only [List.map_cons, List.find?_cons, h k]
    split
    · rfl
    · exact find_str f g h l
theorem k_good : ∀ (p : Pr) (m : Md), (allMd.filter (goQ p m)).head? = allMd.find? (aoQ p m) := by
  intro p m
  cases p <;> cases m <;> decide +kernel
theorem good_head (w : Way) : (goodS w.wy).head? = aoS w.wy := by
  unfold goodS aoS
  rw [modes_str, filter_str _ _ (goP_Q w), find_str _ _ (aoP_Q w), List.head?_map, k_good]
def err60 (w : Way) : List Int := (intsF 0 121).map fun k => brS w.wy (k - 60) - (k - 60)
theorem k_err : ∀ (p : Pr) (m : Md), mnL ((intsF 0 121).map fun k => brM p m (k - 60) - (k - 60)) = mnL (vals24.map fun v => brM p m v - v) ∧ mxL ((intsF 0 121).map fun k => brM p m (k - 60) - (k - 60)) = mxL (vals24.map fun v => brM p m v - v) ∧ -100000 ≤ (vals24.map fun v => brM p m v - v).sum ∧ (vals24.map fun v => brM p m v - v).sum ≤ 100000 := by
  intro p m
  cases p <;> cases m <;> decide +kernel
theorem err_eq (w : Way) : mnL (err60 w) = mnL (errs w.wy) ∧ mxL (err60 w) = mxL (errs w.wy) ∧ -100000 ≤ (errs w.wy).sum ∧ (errs w.wy).sum ≤ 100000 := by
  have h := k_err w.p w.m
  have e1 : err60 w = (intsF 0 121).map fun k => brM w.p w.m (k - 60) - (k - 60) := by
    unfold err60
    congr 1
    funext k
    rw [br_M]
  have e2 : errs w.wy = vals24.map fun v => brM w.p w.m v - v := by
    unfold errs
    congr 1
    funext k
    rw [br_M]
  rw [e1, e2]; exact h
theorem k_mir : ∀ (p : Pr) (m : Md), ((intsF 1 24).find? (unmQ p m)).isNone = (decide (m = .inn ∨ m = .out ∨ m = .nearin ∨ m = .nearout ∨ m = .neareven ∨ m = .nearodd) || (decide (p.st = 3) && !decide (m = .down ∨ m = .up))) := by
  intro p m
  cases p <;> cases m <;> decide +kernel
theorem k_fi : ∀ (p : Pr) (m : Md), p.fi = 1 → (intsF 0 24).find? (spoQ p m) = none ∧ allMd.find? (aoQ p m) ≠ none := by
  intro p m
  cases p <;> cases m <;> decide +kernel
theorem k_mono : ∀ (p : Pr) (m : Md), ∀ v ∈ intsF (-50) 100, brM p m v ≤ brM p m (v + 1) := by
  intro p m
  cases p <;> cases m <;> decide +kernel
theorem k_zero : ∀ (p : Pr) (m : Md), brM p m 0 = 0 ∧ ((m = .down ∨ m = .up ∨ m = .inn ∨ m = .out) → (intsF 0 24).find? (spoQ p m) = none) := by
  intro p m
  cases p <;> cases m <;> decide +kernel
theorem spo_Q (w : Way) : spoS w.wy = (intsF 0 24).find? (spoQ w.p w.m) := by unfold spoS; rw [spoP_Q]
theorem unm_Q (w : Way) : unmS w.wy = (intsF 1 24).find? (unmQ w.p w.m) := by unfold unmS; rw [unmP_Q]
theorem ao_Q (w : Way) : aoS w.wy = (allMd.find? (aoQ w.p w.m)).map Md.str := by unfold aoS; rw [modes_str, find_str _ _ (aoP_Q w)]
theorem isNone_opt (o : Option Int) : isNone (optI o) = o.isNone := by cases o <;> rfl
theorem mono50 (w : Way) {v : Int} (h1 : -50 ≤ v) (h2 : v < 50) : brS w.wy v ≤ brS w.wy (v + 1) := by
  rw [br_M, br_M]
  refine k_mono w.p w.m v ?_
  refine List.mem_map.mpr ⟨(v + 50).toNat, List.mem_range.mpr (by omega), by omega⟩
def hdD : List Int → DD
  | [] => .str "none"
  | n :: _ => .int n
def hdN : List Int → DD
  | [] => .none
  | n :: _ => .int n
def hdS : List Str → DD
  | [] => .str "none"
  | n :: _ => .str n
theorem fu_hd (w : Way) : rsD (fuR w.wy) = hdD (badS w) := by
  have h := bad_head w
  unfold fuR
  rw [← h]
  cases badS w with
  | nil => exact congrArg PyData.str (by decide +kernel)
  | cons n r => rfl
theorem spo_hd (w : Way) : optI (spoS w.wy) = hdN (lostS w) := by
  have h := lost_head w
  rw [← h]
  cases lostS w <;> rfl
theorem ao_hd (w : Way) : rsD (aoR w.wy) = hdS (goodS w.wy) := by
  have h := good_head w
  unfold aoR
  rw [← h]
  cases goodS w.wy with
  | nil => exact congrArg PyData.str (by decide +kernel)
  | cons n r => rfl
theorem ok_strC {n : Nat} {i : Str} (h : PyData.canLay0 (.str i) = true) : okD n (.str i) := ⟨h, by simp [PyData.depth]⟩
theorem ok_hdD (l : List Int) : okD 0 (hdD l) := by cases l <;> first | exact ok_int _ | exact ok_strC (by decide +kernel)
theorem ok_hdN (l : List Int) : okD 0 (hdN l) := by cases l <;> first | exact ok_none | exact ok_int _
theorem ok_good (w : Wy) : okD 0 (hdS (goodS w)) := by
  cases hg : goodS w with
  | nil => exact ok_strC (by decide +kernel)
  | cons n r =>
    have hm : n ∈ modesS := (List.mem_filter.mp (show n ∈ modesS.filter (goP w) from by rw [show modesS.filter (goP w) = goodS w from rfl, hg]; simp)).1
    simp only [modesS, List.mem_cons, List.not_mem_nil, or_false] at hm
    rcases hm with rfl | rfl | rfl | rfl | rfl | rfl | rfl | rfl | rfl | rfl <;> exact ok_strC (by decide +kernel)
theorem fuR_i (w : Wy) : rsD (if (0 : Int) = 0 then fuR w else aoR w) = rsD (fuR w) := rfl
theorem aoR_i (w : Wy) : rsD (if (1 : Int) = 0 then fuR w else aoR w) = rsD (aoR w) := rfl


def preKnown (ds : List DD) : Prop := ∃ w : Way, ds = [w.wy.dd]
def fKnown (ds : List DD) (r : DD) : Prop := r = .bool true
theorem bt_mult {v s : Int} (m : Str) (hs : StepOk s) : btS v s m % s = 0 := by
  have h := bt_cases v s m
  generalize btS v s m = y at h
  rcases hs with rfl | rfl | rfl | rfl | rfl <;> omega
theorem bt_self {v s : Int} (m : Str) (hs : StepOk s) (h0 : v % s = 0) : btS v s m = v := by
  have h := bt_cases v s m
  generalize btS v s m = y at h
  rcases hs with rfl | rfl | rfl | rfl | rfl <;> omega
theorem br_mult (w : Way) (v : Int) : brS w.wy v % w.p.st = 0 := bt_mult _ (Pr.so w.p).1
theorem mult_fi (w : Way) {v : Int} (h : v % w.p.st = 0) : v % w.p.fi = 0 := by
  obtain ⟨p, m, c⟩ := w
  cases p <;> simp only [Pr.st, Pr.fi] at h ⊢ <;> omega
theorem br_self (w : Way) {v : Int} (h : v % w.p.st = 0) : brS w.wy v = v := by
  show btS (btS v w.p.fi w.m.str) w.p.st w.m.str = v
  rw [bt_self _ (Pr.so w.p).2 (mult_fi w h), bt_self _ (Pr.so w.p).1 h]
theorem br_idem (w : Way) (v : Int) : brS w.wy (brS w.wy v) = brS w.wy v := br_self w (br_mult w v)


theorem v60 {i : Nat} {v : Int} (h : vals60[i]? = some v) : -60 ≤ v ∧ v ≤ 60 := by
  have : ∀ v ∈ vals60, -60 ≤ v ∧ v ≤ 60 := by decide +kernel
  exact this v (List.mem_of_getElem? h)
theorem ints0 {n i : Nat} {x : Int} (h : (intsF 0 n)[i]? = some x) : i < n ∧ x = (i : Int) := by
  have hl : i < (intsF 0 n).length := (List.getElem?_eq_some_iff.mp h).1
  rw [ints_len] at hl
  rw [ints_get hl] at h
  cases h
  exact ⟨hl, by omega⟩
theorem v60_get {i : Nat} (h : i < 121) : vals60[i]? = some ((i : Int) - 60) := by
  unfold vals60
  rw [ints_get h]
  exact congrArg some (by omega)
theorem told_get (f : Int → Int) {i : Nat} (h : i < 121) : (vals60.map f)[i]? = some (f ((i : Int) - 60)) := by
  rw [List.getElem?_map, v60_get h]; rfl
theorem mode_md {i : Nat} {m : Str} (h : modesS[i]? = some m) : ∃ md : Md, m = md.str := by
  have hm := List.mem_of_getElem? h
  rw [modes_str] at hm
  obtain ⟨md, _, rfl⟩ := List.mem_map.mp hm
  exact ⟨md, rfl⟩
def pS (c : Str → Bool) (d : DD) : Bool := match d with | .str v => c v | _ => false
theorem filtS_eq (c : Str → Bool) : ∀ xs : List Str, (((xs.map PyData.str).filter (pS c)).map (fun d => d)) = (xs.filter c).map PyData.str
  | [] => rfl
  | n :: r => by
    have e0 : pS c (.str n) = c n := rfl
    rw [List.map_cons, List.filter_cons, List.filter_cons, e0]
    by_cases e : c n = true
    · rw [if_pos e, if_pos e, List.map_cons, List.map_cons, filtS_eq c r]
    · rw [if_neg e, if_neg e]; exact filtS_eq c r
theorem ok_pair (a b : Int) : okD 1 (.tuple [.int a, .int b]) := ok_tuple (n := 0) (by intro d hd; simp at hd; rcases hd with e | e <;> rw [e] <;> exact ok_int _)
theorem err60_ne (w : Way) : err60 w ≠ [] := by
  intro h
  have := congrArg List.length h
  unfold err60 at this
  rw [List.length_map, ints_len] at this
  cases this
theorem ok_strs (l : List Str) (h : ∀ x ∈ l, x ∈ modesS) : okD 1 (.list (l.map PyData.str)) := ok_list (n := 0) fun d hd => by
  obtain ⟨n, hn, rfl⟩ := List.mem_map.mp hd
  have hm := h n hn
  simp only [modesS, List.mem_cons, List.not_mem_nil, or_false] at hm
  rcases hm with rfl | rfl | rfl | rfl | rfl | rfl | rfl | rfl | rfl | rfl <;> exact ok_strC (by decide +kernel)
theorem ok_goods (w : Wy) : okD 1 (.list ((goodS w).map PyData.str)) := ok_strs _ fun x hx => (List.mem_filter.mp hx).1

theorem atI_hd (d : DD) (l : List DD) : atI (d :: l) 0 = some d := atI_nat (xs := d :: l) (j := 0) rfl

theorem lost_sym (w : Way) : (intsF 0 61).filter (fun v => !decide (btS v w.p.st w.m.str = brS w.wy v)) = lostS w := by
  unfold lostS
  congr 1
  funext v
  show _ = (!decide (brS w.wy v = btS v w.p.st w.m.str))
  rw [decide_eq_decide.mpr (show btS v w.p.st w.m.str = brS w.wy v ↔ brS w.wy v = btS v w.p.st w.m.str from ⟨Eq.symm, Eq.symm⟩)]

section
variable {P : Program} {w : World} {K : FK} {mg : Str → Option Value} {base : Heap}
theorem sc__law_known : FnScope ["draws", "way", "turn", "value"] ["draws", "way"] (defScope (tS 45)) := ⟨rfl, rfl, rfl, by decide +kernel, rfl, by decide +kernel, by decide +kernel⟩
theorem ok__law_known (T : Tx K mg) : FnOk P w K mg base CX0 7 T.f__law_known T.d__law_known ["draws", "way"] (spW K preKnown fKnown) := by
  refine def_okW T.F__law_known sc__law_known (fun ds h => ?_) (fun cdv A outer s H E B p q ds hr h => ?_)
  · obtain ⟨w, rfl⟩ := h; rfl
  · obtain ⟨w, rfl⟩ := h
    refine ⟨_, (pss_cons (ps_if (pt_cmpR op_ne (pe_call (ok_mirrored T) (hr.mono (by decide)) (by rfl) T.g_mirrored T.F_mirrored.kp (b_mirrored T) .nil pass0 (pa_cons (pv 1) pa_nil)) (pe_or (pe_cmpR (r := rIn K false) op_in_seq (pe_ix (r := rIxT K) ix_tup (pv 1) pe_int (fun _ _ => rfl)) (pe_tup (pa_cons pe_str (pa_cons pe_str (pa_cons pe_str (pa_cons pe_str (pa_cons pe_str (pa_cons pe_str pa_nil))))))) rfl) (pe_one (pe_and (pe_cmpR (r := rEqD K) (op_eqD hr.units) (pe_slice (r := rSlT K) sl_tup (pv 1) po_none (po_some pe_int)) (pe_tup (pa_cons pe_int (pa_cons pe_int pa_nil))) (nomark _)) (pe_one (pe_cmpR (r := rIn K true) op_notIn_seq (pe_ix (r := rIxT K) ix_tup (pv 1) pe_int (fun _ _ => rfl)) (pe_tup (pa_cons pe_str (pa_cons pe_str pa_nil))) rfl))))) (nomark _))
      (pss_one (ps_ret pe_bl))
      pss_nil)
      (pss_cons (ps_if (PW.pt (pw_and (pt_cmpR op_eq (pe_ix (r := rIxT K) ix_tup (pv 1) pe_int (fun _ _ => rfl)) pe_int (nomark _)) (pw_and1 (PW.pt (pw_or (pt_cmpR op_notN (pe_call (ok_spoiled T) (hr.mono (by decide)) (by rfl) T.g_spoiled T.F_spoiled.kp (b_spoiled T) .nil pass0 (pa_cons (pv 1) pa_nil)) pe_non (nomark _)) (pw_or1 (pt_cmpR (r := rEqD K) (op_eqD hr.units) (pe_call (ok__law_call T) (hr.mono (by decide)) (by rfl) T.g__law_call T.F__law_call.kp (b__law_call T) .nil pass0 (pa_cons pe_int (pa_cons (pv 1) pa_nil))) pe_str (nomark _))))))))
      (pss_one (ps_ret pe_bl))
      pss_nil)
      (pss_cons (ps_for PassesOwn.never rfl (pi_range1 rfl T.m_range (pa_cons pe_int pa_nil)) (pg_name (i := 2) sc__law_known.nd rfl (by first | exact Or.inl rfl | exact Or.inr rfl))
      (pss_cons (ps_set (i := 3) sc__law_known.nd rfl (by first | exact Or.inl rfl | exact Or.inr rfl) (pe_op op_sub (pe_call (ok__law_draw T) (hr.mono (by decide)) (by rfl) T.g__law_draw T.F__law_draw.kp (b__law_draw T) .nil pass0 (pa_cons (pv 0) (pa_cons pe_int pa_nil))) pe_int))
      (pss_cons (ps_if (PW.pt (pw_or (pt_cmpR op_gt (pe_call (ok_brought T) (hr.mono (by decide)) (by rfl) T.g_brought T.F_brought.kp (b_brought T) .nil pass0 (pa_cons (pv 1) (pa_cons (pv 3) pa_nil))) (pe_call (ok_brought T) (hr.mono (by decide)) (by rfl) T.g_brought T.F_brought.kp (b_brought T) .nil pass0 (pa_cons (pv 1) (pa_cons (pe_op op_add (pv 3) pe_int) pa_nil))) (nomark _)) (pw_or1 (pt_cmpR op_ne (pe_call (ok_brought T) (hr.mono (by decide)) (by rfl) T.g_brought T.F_brought.kp (b_brought T) .nil pass0 (pa_cons (pv 1) (pa_cons (pe_call (ok_brought T) (hr.mono (by decide)) (by rfl) T.g_brought T.F_brought.kp (b_brought T) .nil pass0 (pa_cons (pv 1) (pa_cons (pv 3) pa_nil))) pa_nil))) (pe_call (ok_brought T) (hr.mono (by decide)) (by rfl) T.g_brought T.F_brought.kp (b_brought T) .nil pass0 (pa_cons (pv 1) (pa_cons (pv 3) pa_nil))) (nomark _)))))
      (pss_one (ps_ret pe_bl))
      pss_nil)
      (pss_one (ps_if (pt_cmpR op_ge (pe_callB call_abs (by rfl) T.m_abs (by decide +kernel) (pa_cons (pe_op op_sub (pe_call (ok_brought T) (hr.mono (by decide)) (by rfl) T.g_brought T.F_brought.kp (b_brought T) .nil pass0 (pa_cons (pv 1) (pa_cons (pv 3) pa_nil))) (pv 3)) pa_nil)) (pe_ix (r := rIxT K) ix_tup (pv 1) pe_int (fun _ _ => rfl)) (nomark _))
      (pss_one (ps_ret pe_bl))
      pss_nil)))))
      (pss_one (ps_ret (pe_or (pe_and (pe_cmpR op_eq (pe_call (ok_brought T) (hr.mono (by decide)) (by rfl) T.g_brought T.F_brought.kp (b_brought T) .nil pass0 (pa_cons (pv 1) (pa_cons pe_int pa_nil))) pe_int (nomark _)) (pe_one (pe_cmpR (r := rIn K true) op_notIn_seq (pe_ix (r := rIxT K) ix_tup (pv 1) pe_int (fun _ _ => rfl)) (pe_tup (pa_cons pe_str (pa_cons pe_str (pa_cons pe_str (pa_cons pe_str pa_nil))))) rfl))) (pe_one (pe_and (pe_cmpR op_isN (pe_call (ok_spoiled T) (hr.mono (by decide)) (by rfl) T.g_spoiled T.F_spoiled.kp (b_spoiled T) .nil pass0 (pa_cons (pv 1) pa_nil)) pe_non (nomark _)) (pe_one (pe_cmpR op_eq (pe_call (ok_brought T) (hr.mono (by decide)) (by rfl) T.g_brought T.F_brought.kp (b_brought T) .nil pass0 (pa_cons (pv 1) (pa_cons pe_int pa_nil))) pe_int (nomark _))))))))))), fun Q k => ?_⟩
    have e1 : isNone (optI (unmS w.wy)) = (decide (w.m = .inn ∨ w.m = .out ∨ w.m = .nearin ∨ w.m = .nearout ∨ w.m = .neareven ∨ w.m = .nearodd) || (decide (w.p.st = 3) && !decide (w.m = .down ∨ w.m = .up))) := by
      rw [isNone_opt, unm_Q]; exact k_mir w.p w.m
    have m6 : inD (.str w.m.str) [.str "in", .str "out", .str "nearin", .str "nearout", .str "neareven", .str "nearodd"] = decide (w.m = .inn ∨ w.m = .out ∨ w.m = .nearin ∨ w.m = .nearout ∨ w.m = .neareven ∨ w.m = .nearodd) := by cases w.m <;> decide +kernel
    have p31 : PyData.eqv (.tuple [.int w.p.st, .int w.p.fi]) (.tuple [.int 3, .int 1]) = decide (w.p.st = 3) := by cases w.p <;> decide +kernel
    have hao : rsD (if (1 : Int) = 0 then fuR w.wy else aoR w.wy) = hdS (goodS w.wy) := ao_hd w
    refine nx_seq (nx_if (b := false) (EvT.to (et_test (ev_neB (ev_call (ea_cons (ev_var (i := 1) rfl) ea_nil) (mk_mirrored (Way.ok w))) (ev_orV (ev_inT (ev_ixT (ev_var (i := 1) rfl) ev_int rfl) (ev_tup (ea_cons ev_str (ea_cons ev_str (ea_cons ev_str (ea_cons ev_str (ea_cons ev_str (ea_cons ev_str ea_nil)))))))) (fun hb => (ev_andV (ev_eqD (ev_slT (ev_var (i := 1) rfl) eo_none (eo_some ev_int)) (ev_tup (ea_cons ev_int (ea_cons ev_int ea_nil))) (by rfl) (by rfl)) (fun hb => (ev_niT (ev_ixT (ev_var (i := 1) rfl) ev_int rfl) (ev_tup (ea_cons ev_str (ea_cons ev_str ea_nil)))))))))) ?_) (fun h => nomatch h) (fun _ => nx_next ?_))
    · show (!decide (isNone (optI (unmS w.wy)) = (inD (.str w.m.str) [.str "in", .str "out", .str "nearin", .str "nearout", .str "neareven", .str "nearodd"] || (PyData.eqv (.tuple [.int w.p.st, .int w.p.fi]) (.tuple [.int 3, .int 1]) && !inD (.str w.m.str) [.str "down", .str "up"])))) = false
      rw [e1, m6, p31, md_in3]
      simp
    dsimp only
    refine nx_seq (nx_if (b := false) (EvT.to (et_and (et_test (ev_eqI (ev_ixT (ev_var (i := 1) rfl) ev_int rfl) ev_int)) (fun hb => et_or (et_test (ev_notN (ev_call (ea_cons (ev_var (i := 1) rfl) ea_nil) (mk_spoiled (Way.ok w))))) (fun _ => et_test (ev_eqD (EvD.to (ev_call (ea_cons ev_int (ea_cons (ev_var (i := 1) rfl) ea_nil)) (mk__law_call (Way.ok w))) hao) ev_str (ok_good w.wy).shaped (by decide +kernel))))) ?_) (fun h => nomatch h) (fun _ => nx_next ?_))
    · by_cases hf : w.p.fi = 1
      · obtain ⟨h1, h2⟩ := k_fi w.p w.m hf
        refine Bool.and_eq_false_iff.mpr (.inr (Bool.or_eq_false_iff.mpr ⟨?_, ?_⟩))
        · rw [spo_Q, h1]; rfl
        · have h3 := good_head w
          rw [ao_Q] at h3
          cases hg : goodS w.wy with
          | nil =>
            rw [hg] at h3
            cases ha : allMd.find? (aoQ w.p w.m) with
            | none => exact absurd ha h2
            | some k => rw [ha] at h3; cases h3
          | cons n r =>
            have hm : n ∈ modesS := (List.mem_filter.mp (show n ∈ modesS.filter (goP w.wy) from by rw [show modesS.filter (goP w.wy) = goodS w.wy from rfl, hg]; simp)).1
            show PyData.eqv (.str n) (.str "none") = false
            clear hg
            simp only [modesS, List.mem_cons, List.not_mem_nil, or_false] at hm
            rcases hm with rfl | rfl | rfl | rfl | rfl | rfl | rfl | rfl | rfl | rfl <;> decide +kernel
      · exact Bool.and_eq_false_iff.mpr (.inl (decide_eq_false hf))
    dsimp only
    refine nx_seq (nx_forC (ei_range1 (ea_cons ev_int ea_nil) ⟨by decide, by decide⟩) (fun i d F' hd => ?_) ?_)
    · refine ⟨_, _, tg_name, ?_⟩
      refine nx_seq (nx_asgP (i := 3) (ev_subP (dr_drawD (i := 0) rfl ev_int (by decide) (by decide)) ev_int (fun d ⟨k, e, _⟩ => ⟨k, e⟩)) (fun d ⟨n, ⟨k', e, h1, h2⟩, e2⟩ => ?_))
      obtain ⟨v, hv⟩ : ∃ v : Int, v = n - 50 := ⟨_, rfl⟩
      rw [← hv] at e2
      subst e2
      cases e
      have hv1 : -50 ≤ v := by omega
      have hv2 : v < 50 := by omega
      have ho := w.off v
      have hst := w.p.st_le
      dsimp only
      refine nx_seq (nx_if (b := false) (EvT.to (et_or (et_test (ev_gt (ev_call (ea_cons (ev_var (i := 1) rfl) (ea_cons (ev_var (i := 3) rfl) ea_nil)) (mk_brought (Way.ok w) (by omega))) (ev_call (ea_cons (ev_var (i := 1) rfl) (ea_cons (ev_add (ev_var (i := 3) rfl) ev_int) ea_nil)) (mk_brought (Way.ok w) (by omega))))) (fun _ => (et_test (ev_neI (ev_call (ea_cons (ev_var (i := 1) rfl) (ea_cons (ev_call (ea_cons (ev_var (i := 1) rfl) (ea_cons (ev_var (i := 3) rfl) ea_nil)) (mk_brought (Way.ok w) (by omega))) ea_nil)) (mk_brought (Way.ok w) (by omega))) (ev_call (ea_cons (ev_var (i := 1) rfl) (ea_cons (ev_var (i := 3) rfl) ea_nil)) (mk_brought (Way.ok w) (by omega))))))) ?_) (fun h => nomatch h) (fun _ => nx_next ?_))
      · have := mono50 w hv1 hv2
        refine Bool.or_eq_false_iff.mpr ⟨decide_eq_false (by omega), ?_⟩
        rw [br_idem]; simp
      dsimp only
      refine nx_if (b := false) (EvT.to (et_test (ev_ge (ev_abs (ev_sub (ev_call (ea_cons (ev_var (i := 1) rfl) (ea_cons (ev_var (i := 3) rfl) ea_nil)) (mk_brought (Way.ok w) (by omega))) (ev_var (i := 3) rfl))) (ev_ixT (ev_var (i := 1) rfl) ev_int rfl))) ?_) (fun h => nomatch h) (fun _ => nx_next (nx_forget 2 (nx_forget 3 (nx_loopE rfl))))
      refine decide_eq_false ?_
      show ¬ w.p.st ≤ (if brS w.wy v - v < 0 then -(brS w.wy v - v) else brS w.wy v - v)
      split <;> omega
    dsimp only
    refine nx_ret (P := fun d => d = .bool true) (EvD.to (ev_orV (ev_andV (ev_eqI (ev_call (ea_cons (ev_var (i := 1) rfl) (ea_cons ev_int ea_nil)) (mk_brought (Way.ok w) (by decide))) ev_int) (fun _ => (ev_niT (ev_ixT (ev_var (i := 1) rfl) ev_int rfl) (ev_tup (ea_cons ev_str (ea_cons ev_str (ea_cons ev_str (ea_cons ev_str ea_nil)))))))) (fun _ => ev_andV (ev_isN (ev_call (ea_cons (ev_var (i := 1) rfl) ea_nil) (mk_spoiled (Way.ok w)))) (fun _ => (ev_eqI (ev_call (ea_cons (ev_var (i := 1) rfl) (ea_cons ev_int ea_nil)) (mk_brought (Way.ok w) (by decide))) ev_int)))) ?_) (fun v d σ H' e s => k v d _ _ _ _ e s)
    obtain ⟨z1, z2⟩ := k_zero w.p w.m
    have z0 : brS w.wy 0 = 0 := by rw [br_M]; exact z1
    have m4 : inD (.str w.m.str) [.str "down", .str "up", .str "in", .str "out"] = decide (w.m = .down ∨ w.m = .up ∨ w.m = .inn ∨ w.m = .out) := by cases w.m <;> decide +kernel
    show PyData.bool ((decide (brS w.wy 0 = 0) && !inD (.str w.m.str) [.str "down", .str "up", .str "in", .str "out"]) || (isNone (optI (spoS w.wy)) && decide (brS w.wy 0 = 0))) = .bool true
    rw [z0, m4, isNone_opt, spo_Q]
    by_cases hm : w.m = .down ∨ w.m = .up ∨ w.m = .inn ∨ w.m = .out
    · rw [z2 hm]; simp
    · simp [hm]
end

section
variable {P : Program} {w : World} {K : FK} {mg : Str → Option Value} {base : Heap}
theorem sc_law : FnScope ["script", "draws", "way", "values", "told", "bad", "lost", "good", "errors", "whole", "value", "mode", "k"] ["script"] (defScope (tS 46)) := ⟨rfl, rfl, rfl, by decide +kernel, rfl, by decide +kernel, by decide +kernel⟩
theorem ok_law (T : Tx K mg) : FnOk P w K mg base CX0 8 T.f_law T.d_law ["script"] (spLaw K) := by
  refine T.F_law.ok sc_law (fun vs H Q E h => ?_) (fun cdv A outer s H vs Q E hr h => ?_)
  · obtain ⟨a, ns, rfl, _⟩ := h; rfl
  · obtain ⟨a, ns, rfl, hS, hl, kk⟩ := h
    refine ⟨_, (pss_cons (ps_set (i := 1) sc_law.nd rfl (by first | exact Or.inl rfl | exact Or.inr rfl) (pe_call (ok__law_start T) (hr.mono (by decide)) (by rfl) T.g__law_start T.F__law_start.kp (b__law_start T) .nil pass0 (pa_cons (pv 0) pa_nil)))
      (pss_cons (ps_set (i := 2) sc_law.nd rfl (by first | exact Or.inl rfl | exact Or.inr rfl) (pe_call (ok__law_way T) (hr.mono (by decide)) (by rfl) T.g__law_way T.F__law_way.kp (b__law_way T) .nil pass0 (pa_cons (pv 1) pa_nil)))
      (pss_cons (ps_set (i := 3) sc_law.nd rfl (by first | exact Or.inl rfl | exact Or.inr rfl) (pe_listRg rfl (by rfl) T.m_list (prg_2 (by rfl) T.m_range (pe_un un_neg pe_int) pe_int)))
      (pss_cons (ps_set (i := 4) sc_law.nd rfl (by first | exact Or.inl rfl | exact Or.inr rfl) (pe_lc (own := [("value", 10)]) rfl sc_law.nd (pi_list (pv 3)) (blkOk_by (N := ["script", "draws", "way", "values", "told", "bad", "lost", "good", "errors", "whole", "value", "mode", "k"]) (sc := defScope (tS 46)) (own := [("value", 10)]) (by decide +kernel)) (fun _ _ _ _ _ => (pg_name (i := 10) sc_law.nd rfl (by first | exact Or.inl rfl | exact Or.inr rfl))) (fun _ _ _ _ _ => pts_nil) (fun _ _ _ _ _ => (pe_call (ok__law_bring T) (hr.mono (by decide)) (by rfl) T.g__law_bring T.F__law_bring.kp (b__law_bring T) .nil pass0 (pa_cons (pv 2) (pa_cons (pv 10) pa_nil))))))
      (pss_cons (ps_if (pt_cmpR (r := rNeD K) (op_neD hr.units) (pe_lc (own := [("value", 10)]) rfl sc_law.nd (pi_list (pv 3)) (blkOk_by (N := ["script", "draws", "way", "values", "told", "bad", "lost", "good", "errors", "whole", "value", "mode", "k"]) (sc := defScope (tS 46)) (own := [("value", 10)]) (by decide +kernel)) (fun _ _ _ _ _ => (pg_name (i := 10) sc_law.nd rfl (by first | exact Or.inl rfl | exact Or.inr rfl))) (fun _ _ _ _ _ => pts_nil) (fun _ _ _ _ _ => (pe_call (ok_brought T) (hr.mono (by decide)) (by rfl) T.g_brought T.F_brought.kp (b_brought T) .nil pass0 (pa_cons (pv 2) (pa_cons (pv 10) pa_nil))))) (pv 4) (nomark _))
      (pss_one (ps_ret pe_bl))
      pss_nil)
      (pss_cons (ps_setLc (i := 5) (own := [("value", 10)]) rfl sc_law.nd rfl rfl (sw_true rfl rfl rfl (by decide +kernel)) (pi_range2 rfl T.m_range (pa_cons pe_int (pa_cons pe_int pa_nil))) (blkOk_by (N := ["script", "draws", "way", "values", "told", "bad", "lost", "good", "errors", "whole", "value", "mode", "k"]) (sc := defScope (tS 46)) (own := [("value", 10)]) (by decide +kernel)) (fun _ _ _ _ _ => (pg_name (i := 10) sc_law.nd rfl (by first | exact Or.inl rfl | exact Or.inr rfl))) (fun _ _ _ _ _ => (pts_one (pt_cmpR op_ne (pe_call (ok__law_bring T) (hr.mono (by decide)) (by rfl) T.g__law_bring T.F__law_bring.kp (b__law_bring T) .nil pass0 (pa_cons (pv 2) (pa_cons (pe_un un_neg (pv 10)) pa_nil))) (pe_un un_neg (pe_call (ok__law_bring T) (hr.mono (by decide)) (by rfl) T.g__law_bring T.F__law_bring.kp (b__law_bring T) .nil pass0 (pa_cons (pv 2) (pa_cons (pv 10) pa_nil)))) (nomark _)))) (fun _ _ _ _ _ => (pv 10)))
      (pss_cons (ps_if (PW.pt (pw_or (pt_not (pt_val (pe_call (ok__law_true T) (hr.mono (by decide)) (by rfl) T.g__law_true T.F__law_true.kp (b__law_true T) .nil pass0 (pa_cons (pe_call (ok_mirrored T) (hr.mono (by decide)) (by rfl) T.g_mirrored T.F_mirrored.kp (b_mirrored T) .nil pass0 (pa_cons (pv 2) pa_nil)) (pa_cons (pe_cmpR (r := rEqD K) (op_eqD hr.units) (pv 5) (pe_lst pa_nil) (nomark _)) pa_nil))))) (pw_or1 (pt_cmpR (r := rNeD K) (op_neD hr.units) (pe_call (ok__law_call T) (hr.mono (by decide)) (by rfl) T.g__law_call T.F__law_call.kp (b__law_call T) .nil pass0 (pa_cons pe_int (pa_cons (pv 2) pa_nil))) (pe_ifExp (pt_cmpR (r := rNeD K) (op_neD hr.units) (pv 5) (pe_lst pa_nil) (nomark _)) (pe_ix (r := rIxL K) ix_list (pv 5) pe_int (fun _ _ => rfl)) pe_str) (nomark _)))))
      (pss_one (ps_ret pe_bl))
      pss_nil)
      (pss_cons (ps_setLc (i := 6) (own := [("value", 10)]) rfl sc_law.nd rfl rfl (sw_true rfl rfl rfl (by decide +kernel)) (pi_range1 rfl T.m_range (pa_cons pe_int pa_nil)) (blkOk_by (N := ["script", "draws", "way", "values", "told", "bad", "lost", "good", "errors", "whole", "value", "mode", "k"]) (sc := defScope (tS 46)) (own := [("value", 10)]) (by decide +kernel)) (fun _ _ _ _ _ => (pg_name (i := 10) sc_law.nd rfl (by first | exact Or.inl rfl | exact Or.inr rfl))) (fun _ _ _ _ _ => (pts_one (pt_cmpR op_ne (pe_call (ok__law_at T) (hr.mono (by decide)) (by rfl) T.g__law_at T.F__law_at.kp (b__law_at T) .nil pass0 (pa_cons (pv 10) (pa_cons (pe_ix (r := rIxT K) ix_tup (pv 2) pe_int (fun _ _ => rfl)) (pa_cons (pe_ix (r := rIxT K) ix_tup (pv 2) pe_int (fun _ _ => rfl)) pa_nil)))) (pe_call (ok__law_bring T) (hr.mono (by decide)) (by rfl) T.g__law_bring T.F__law_bring.kp (b__law_bring T) .nil pass0 (pa_cons (pv 2) (pa_cons (pv 10) pa_nil))) (nomark _)))) (fun _ _ _ _ _ => (pv 10)))
      (pss_cons (ps_if (pt_cmpR (r := rNeD K) (op_neD hr.units) (pe_call (ok_spoiled T) (hr.mono (by decide)) (by rfl) T.g_spoiled T.F_spoiled.kp (b_spoiled T) .nil pass0 (pa_cons (pv 2) pa_nil)) (pe_ifExp (pt_cmpR (r := rNeD K) (op_neD hr.units) (pv 6) (pe_lst pa_nil) (nomark _)) (pe_ix (r := rIxL K) ix_list (pv 6) pe_int (fun _ _ => rfl)) pe_non) (nomark _))
      (pss_one (ps_ret pe_bl))
      pss_nil)
      (pss_cons (ps_setLc (i := 7) (own := [("mode", 11)]) rfl sc_law.nd rfl rfl (sw_true rfl rfl rfl (by decide +kernel)) (pi_list (pe_call0 (ok__law_modes T) (hr.mono (by decide)) (by rfl) T.g__law_modes T.F__law_modes.kp (b__law_modes T) .nil pass0)) (blkOk_by (N := ["script", "draws", "way", "values", "told", "bad", "lost", "good", "errors", "whole", "value", "mode", "k"]) (sc := defScope (tS 46)) (own := [("mode", 11)]) (by decide +kernel)) (fun _ _ _ _ _ => (pg_name (i := 11) sc_law.nd rfl (by first | exact Or.inl rfl | exact Or.inr rfl))) (fun _ _ _ _ _ => (pts_one (pt_cmpR (r := rEqD K) (op_eqD hr.units) (pe_lc (own := [("value", 10)]) rfl sc_law.nd (show PI _ _ _ (iList K _) from pi_list (pv 3)) (blkOk_by (by kernel_rfl)) (fun _ _ _ _ _ => (pg_name (i := 10) sc_law.nd rfl (by first | exact Or.inl rfl | exact Or.inr rfl))) (fun _ _ _ _ _ => pts_nil) (fun _ _ _ _ _ => (pe_call (ok__law_at T) (hr.mono (by decide)) (by rfl) T.g__law_at T.F__law_at.kp (b__law_at T) .nil pass0 (pa_cons (pv 10) (pa_cons (pe_ix (r := rIxT K) ix_tup (pv 2) pe_int (fun _ _ => rfl)) (pa_cons (pv 11) pa_nil)))))) (pv 4) (nomark _)))) (fun _ _ _ _ _ => (pv 11)))
      (pss_cons (ps_if (pt_cmpR (r := rNeD K) (op_neD hr.units) (pe_call (ok__law_call T) (hr.mono (by decide)) (by rfl) T.g__law_call T.F__law_call.kp (b__law_call T) .nil pass0 (pa_cons pe_int (pa_cons (pv 2) pa_nil))) (pe_ifExp (pt_cmpR (r := rNeD K) (op_neD hr.units) (pv 7) (pe_lst pa_nil) (nomark _)) (pe_ix (r := rIxL K) ix_list (pv 7) pe_int (fun _ _ => rfl)) pe_str) (nomark _))
      (pss_one (ps_ret pe_bl))
      pss_nil)
      (pss_cons (ps_setLc (i := 8) (own := [("k", 12)]) rfl sc_law.nd rfl rfl (sw_true rfl rfl rfl (by decide +kernel)) (pi_range1 rfl T.m_range (pa_cons pe_int pa_nil)) (blkOk_by (N := ["script", "draws", "way", "values", "told", "bad", "lost", "good", "errors", "whole", "value", "mode", "k"]) (sc := defScope (tS 46)) (own := [("k", 12)]) (by decide +kernel)) (fun _ _ _ _ _ => (pg_name (i := 12) sc_law.nd rfl (by first | exact Or.inl rfl | exact Or.inr rfl))) (fun _ _ _ _ _ => pts_nil) (fun _ _ _ _ _ => (pe_op op_sub (pe_ix (r := rIxL K) ix_list (pv 4) (pv 12) (fun _ _ => rfl)) (pe_ix (r := rIxL K) ix_list (pv 3) (pv 12) (fun _ _ => rfl)))))
      (pss_cons (ps_if (pt_cmpR (r := rNeD K) (op_neD hr.units) (pe_call (ok_errors_of T) (hr.mono (by decide)) (by rfl) T.g_errors_of T.F_errors_of.kp (b_errors_of T) .nil pass0 (pa_cons (pv 2) pa_nil)) (pe_tup (pa_cons (pe_callB (r := rMin K) (cr_min rfl) (by rfl) T.m_min (by decide +kernel) (pa_cons (pv 8) pa_nil)) (pa_cons (pe_callB (r := rMax K) (cr_max rfl) (by rfl) T.m_max (by decide +kernel) (pa_cons (pv 8) pa_nil)) pa_nil))) (nomark _))
      (pss_one (ps_ret pe_bl))
      pss_nil)
      (pss_cons (ps_setLc (i := 9) (own := [("value", 10)]) rfl sc_law.nd rfl rfl (sw_true rfl rfl rfl (by decide +kernel)) (pi_range2 rfl T.m_range (pa_cons (pe_un un_neg pe_int) (pa_cons pe_int pa_nil))) (blkOk_by (N := ["script", "draws", "way", "values", "told", "bad", "lost", "good", "errors", "whole", "value", "mode", "k"]) (sc := defScope (tS 46)) (own := [("value", 10)]) (by decide +kernel)) (fun _ _ _ _ _ => (pg_name (i := 10) sc_law.nd rfl (by first | exact Or.inl rfl | exact Or.inr rfl))) (fun _ _ _ _ _ => pts_nil) (fun _ _ _ _ _ => (pe_op op_sub (pe_call (ok__law_bring T) (hr.mono (by decide)) (by rfl) T.g__law_bring T.F__law_bring.kp (b__law_bring T) .nil pass0 (pa_cons (pv 2) (pa_cons (pv 10) pa_nil))) (pv 10))))
      (pss_cons (ps_if (pt_cmpR (r := rNeD K) (op_neD hr.units) (pe_call (ok_mean_error T) (hr.mono (by decide)) (by rfl) T.g_mean_error T.F_mean_error.kp (b_mean_error T) .nil pass0 (pa_cons (pv 2) pa_nil)) (pe_call (ok__law_low T) (hr.mono (by decide)) (by rfl) T.g__law_low T.F__law_low.kp (b__law_low T) .nil pass0 (pa_cons (pe_callB (r := rSum K) (cr_sum rfl) (by rfl) T.m_sum (by decide +kernel) (pa_cons (pv 9) pa_nil)) (pa_cons pe_int pa_nil))) (nomark _))
      (pss_one (ps_ret pe_bl))
      pss_nil)
      (pss_one (ps_ret (pe_call (ok__law_known T) (hr.mono (by decide)) (by rfl) T.g__law_known T.F__law_known.kp (b__law_known T) .nil pass0 (pa_cons (pv 1) (pa_cons (pv 2) pa_nil)))))))))))))))))))), ?_⟩
    refine law_start (by decide) hS hl (fun B p q => ?_)
    refine nx_seq (nx_asgP (i := 2) (dr_no (i := 1) rfl) (fun d ⟨_, w, e⟩ => ?_))
    subst e
    refine nx_to (Γ' := [.no, .own (drwR p q), .dat w.wy.dd, .no, .no, .no, .no, .no, .no, .no, .no, .no, .no]) rfl ?_
    dsimp only
    refine nx_seq (nx_asg (d := rdd vals60) (EvN.dat (en_listRg2 (ev_neg ev_int) ev_int ⟨by decide, by decide, by decide, by decide, by decide⟩)) ?_)
    dsimp only
    refine nx_seq (nx_asg (d := .list ((vals60.map fun v => brS w.wy v).map PyData.int)) (EvN.dat (EvND.to (es := ((vals60.map fun v => brS w.wy v).map PyData.int)) (en_map (us := [10]) (mapI fun v => brS w.wy v) (ei_list (ev_var (i := 3) rfl)) ⟨rfl, trivial⟩ (by rw [List.length_map]; decide +kernel) (fun i d hd => by
            obtain ⟨v, hv, rfl⟩ := map_get hd
            exact ⟨_, _, tg_name, by decide, (ev_call (ea_cons (ev_var (i := 2) rfl) (ea_cons (ev_var (i := 10) rfl) ea_nil)) (mk__law_bring ))⟩)) (mapI_eq _ _))) ?_)
    dsimp only
    refine nx_to (Γ' := [.no, .own (drwR p q), .dat w.wy.dd, .dat (rdd vals60), .dat (.list ((vals60.map fun v => brS w.wy v).map PyData.int)), .no, .no, .no, .no, .no, .no, .no, .no]) rfl ?_
    refine nx_seq (nx_if (b := false) (EvT.to (et_test (ev_neD (EvN.dat (EvND.to (es := ((vals60.map fun v => brS w.wy v).map PyData.int)) (en_map (us := [10]) (mapI fun v => brS w.wy v) (ei_list (ev_var (i := 3) rfl)) ⟨rfl, trivial⟩ (by rw [List.length_map]; decide +kernel) (fun i d hd => by
            obtain ⟨v, hv, rfl⟩ := map_get hd
            exact ⟨_, _, tg_name, by decide, (ev_call (ea_cons (ev_var (i := 2) rfl) (ea_cons (ev_var (i := 10) rfl) ea_nil)) (mk_brought (Way.ok w) (v60 hv)))⟩)) (mapI_eq _ _))) (ev_var (i := 4) rfl) (ok_ints (n := 0) _).shaped (ok_ints (n := 0) _).shaped)) ?_) (fun h => nomatch h) (fun _ => nx_next ?_))
    · exact ok_ne (ok_ints (n := 0) _) rfl
    dsimp only
    refine nx_seq (nx_asg (d := rdd (badS w)) (EvN.dat (EvND.to (es := ((badS w).map PyData.int)) (en_filter (us := [10]) (pI (unmP w.wy)) (fun d => d) (ei_range2 (ea_cons ev_int (ea_cons ev_int ea_nil)) ⟨by decide, by decide, by decide, by decide⟩) ⟨rfl, trivial⟩ (by rw [List.length_map]; decide +kernel) (fun i d hd => by
            obtain ⟨v, hv, rfl⟩ := map_get hd
            exact ⟨_, _, tg_name, by decide, (et_test (ev_neI (ev_call (ea_cons (ev_var (i := 2) rfl) (ea_cons (ev_neg (ev_var (i := 10) rfl)) ea_nil)) (mk__law_bring )) (ev_neg (ev_call (ea_cons (ev_var (i := 2) rfl) (ea_cons (ev_var (i := 10) rfl) ea_nil)) (mk__law_bring ))))), fun hf => (ev_var (i := 10) rfl)⟩)) (filtI_eq _ _))) ?_)
    dsimp only
    refine nx_to (Γ' := [.no, .own (drwR p q), .dat w.wy.dd, .dat (rdd vals60), .dat (.list ((vals60.map fun v => brS w.wy v).map PyData.int)), .dat (rdd (badS w)), .no, .no, .no, .no, .no, .no, .no]) rfl ?_
    refine nx_seq (nx_if (b := false) (EvT.to (et_or (et_not (et_B (ev_call (ea_cons (ev_call (ea_cons (ev_var (i := 2) rfl) ea_nil) (mk_mirrored (Way.ok w))) (ea_cons (ev_eqD (ev_var (i := 5) rfl) (EvN.dat (en_lst ea_nil)) (by first | exact (ok_ints (n := 0) _).shaped | exact (ok_ints (n := 0) []).shaped | exact (ok_goods _).shaped) (by first | exact (ok_ints (n := 0) _).shaped | exact (ok_ints (n := 0) []).shaped | exact (ok_goods _).shaped)) ea_nil)) (mk__law_true )))) (fun _ => et_test (ev_neD (y := hdD (badS w)) (EvD.to (ev_call (ea_cons ev_int (ea_cons (ev_var (i := 2) rfl) ea_nil)) (mk__law_call (Way.ok w))) (fu_hd w)) ?_ (ok_hdD _).shaped (ok_hdD _).shaped))) ?_) (fun h => nomatch h) (fun _ => nx_next ?_))
    · generalize badS w = bad
      cases bad with
      | nil => exact ev_ifP (b := false) (EvT.to (et_test (ev_neD (ev_var (i := 5) rfl) (EvN.dat (en_lst ea_nil)) (by first | exact (ok_ints (n := 0) _).shaped | exact (ok_ints (n := 0) []).shaped | exact (ok_goods _).shaped) (by first | exact (ok_ints (n := 0) _).shaped | exact (ok_ints (n := 0) []).shaped | exact (ok_goods _).shaped))) rfl) (fun h => nomatch h) (fun _ => ev_str)
      | cons n r => exact ev_ifP (b := true) (EvT.to (et_test (ev_neD (ev_var (i := 5) rfl) (EvN.dat (en_lst ea_nil)) (by first | exact (ok_ints (n := 0) _).shaped | exact (ok_ints (n := 0) []).shaped | exact (ok_goods _).shaped) (by first | exact (ok_ints (n := 0) _).shaped | exact (ok_ints (n := 0) []).shaped | exact (ok_goods _).shaped))) rfl) (fun _ => (ev_ixL (ev_var (i := 5) rfl) ev_int (atI_hd _ _))) (fun h => nomatch h)
    · refine Bool.or_eq_false_iff.mpr ⟨?_, ok_ne (ok_hdD _) rfl⟩
      show (!decide (isNone (optI (unmS w.wy)) = PyData.eqv (.list ((badS w).map PyData.int)) (.list (([] : List Int).map PyData.int)))) = false
      rw [eqv_rdd, isNone_opt, ← bad_head]
      cases badS w <;> simp
    dsimp only
    refine nx_seq (nx_asg (d := rdd (lostS w)) (EvN.dat (EvND.to (es := ((lostS w).map PyData.int)) (en_filter (us := [10]) (pI fun v => !decide (btS v w.p.st w.m.str = brS w.wy v)) (fun d => d) (ei_range1 (ea_cons ev_int ea_nil) ⟨by decide, by decide⟩) ⟨rfl, trivial⟩ (by rw [List.length_map]; decide +kernel) (fun i d hd => by
            obtain ⟨v, hv, rfl⟩ := map_get hd
            exact ⟨_, _, tg_name, by decide, (et_test (ev_neI (ev_call (ea_cons (ev_var (i := 10) rfl) (ea_cons (ev_ixT (ev_var (i := 2) rfl) ev_int rfl) (ea_cons (ev_ixT (ev_var (i := 2) rfl) ev_int rfl) ea_nil))) (mk__law_at w.m (Pr.so w.p).1 rfl)) (ev_call (ea_cons (ev_var (i := 2) rfl) (ea_cons (ev_var (i := 10) rfl) ea_nil)) (mk__law_bring )))), fun hf => (ev_var (i := 10) rfl)⟩)) ((filtI_eq _ _).trans (congrArg (List.map PyData.int) (lost_sym w))))) ?_)
    dsimp only
    refine nx_to (Γ' := [.no, .own (drwR p q), .dat w.wy.dd, .dat (rdd vals60), .dat (.list ((vals60.map fun v => brS w.wy v).map PyData.int)), .dat (rdd (badS w)), .dat (rdd (lostS w)), .no, .no, .no, .no, .no, .no]) rfl ?_
    refine nx_seq (nx_if (b := false) (EvT.to (et_test (ev_neD (y := hdN (lostS w)) (EvD.to (ev_call (ea_cons (ev_var (i := 2) rfl) ea_nil) (mk_spoiled (Way.ok w))) (spo_hd w)) ?_ (ok_hdN _).shaped (ok_hdN _).shaped)) ?_) (fun h => nomatch h) (fun _ => nx_next ?_))
    · generalize lostS w = lost
      cases lost with
      | nil => exact ev_ifP (b := false) (EvT.to (et_test (ev_neD (ev_var (i := 6) rfl) (EvN.dat (en_lst ea_nil)) (by first | exact (ok_ints (n := 0) _).shaped | exact (ok_ints (n := 0) []).shaped | exact (ok_goods _).shaped) (by first | exact (ok_ints (n := 0) _).shaped | exact (ok_ints (n := 0) []).shaped | exact (ok_goods _).shaped))) rfl) (fun h => nomatch h) (fun _ => ev_non)
      | cons n r => exact ev_ifP (b := true) (EvT.to (et_test (ev_neD (ev_var (i := 6) rfl) (EvN.dat (en_lst ea_nil)) (by first | exact (ok_ints (n := 0) _).shaped | exact (ok_ints (n := 0) []).shaped | exact (ok_goods _).shaped) (by first | exact (ok_ints (n := 0) _).shaped | exact (ok_ints (n := 0) []).shaped | exact (ok_goods _).shaped))) rfl) (fun _ => (ev_ixL (ev_var (i := 6) rfl) ev_int (atI_hd _ _))) (fun h => nomatch h)
    · exact ok_ne (ok_hdN _) rfl
    dsimp only
    refine nx_seq (nx_asg (d := .list ((goodS w.wy).map PyData.str)) (EvN.dat (EvND.to (es := ((goodS w.wy).map PyData.str)) (en_filter (us := [11]) (pS (goP w.wy)) (fun d => d) (ei_list (ev_call ea_nil (mk__law_modes ))) ⟨rfl, trivial⟩ (by decide +kernel) (fun i d hd => by
            obtain ⟨m, hm, rfl⟩ := map_get (f := PyData.str) (l := modesS) hd
            obtain ⟨md, rfl⟩ := mode_md hm
            exact ⟨_, _, tg_name, by decide, (EvT.to (et_test (ev_eqD (EvN.dat (EvND.to (es := ((vals60.map fun v => btS v w.p.st md.str).map PyData.int)) (en_map (us := [10]) (mapI fun v => btS v w.p.st md.str) (ei_list (ev_var (i := 3) rfl)) ⟨rfl, trivial⟩ (by rw [List.length_map]; decide +kernel) (fun i d hd => by
            obtain ⟨v, hv, rfl⟩ := map_get hd
            exact ⟨_, _, tg_name, by decide, (ev_call (ea_cons (ev_var (i := 10) rfl) (ea_cons (ev_ixT (ev_var (i := 2) rfl) ev_int rfl) (ea_cons (ev_var (i := 11) rfl) ea_nil))) (mk__law_at md (Pr.so w.p).1 rfl))⟩)) (mapI_eq _ _))) (ev_var (i := 4) rfl) (ok_ints (n := 0) _).shaped (ok_ints (n := 0) _).shaped)) (eqv_rdd _ _)), fun hf => (ev_var (i := 11) rfl)⟩)) (filtS_eq _ modesS))) ?_)
    dsimp only
    refine nx_to (Γ' := [.no, .own (drwR p q), .dat w.wy.dd, .dat (rdd vals60), .dat (.list ((vals60.map fun v => brS w.wy v).map PyData.int)), .dat (rdd (badS w)), .dat (rdd (lostS w)), .dat (.list ((goodS w.wy).map PyData.str)), .no, .no, .no, .no, .no]) rfl ?_
    refine nx_seq (nx_if (b := false) (EvT.to (et_test (ev_neD (y := hdS (goodS w.wy)) (EvD.to (ev_call (ea_cons ev_int (ea_cons (ev_var (i := 2) rfl) ea_nil)) (mk__law_call (Way.ok w))) (ao_hd w)) ?_ (ok_good _).shaped (ok_good _).shaped)) ?_) (fun h => nomatch h) (fun _ => nx_next ?_))
    · have hsub : ∀ x ∈ goodS w.wy, x ∈ modesS := fun x hx => (List.mem_filter.mp hx).1
      revert hsub
      generalize goodS w.wy = good
      intro hsub
      cases good with
      | nil => exact ev_ifP (b := false) (EvT.to (et_test (ev_neD (ev_var (i := 7) rfl) (EvN.dat (en_lst ea_nil)) (ok_strs _ hsub).shaped (ok_strs [] (fun _ h => nomatch h)).shaped)) rfl) (fun h => nomatch h) (fun _ => ev_str)
      | cons n r => exact ev_ifP (b := true) (EvT.to (et_test (ev_neD (ev_var (i := 7) rfl) (EvN.dat (en_lst ea_nil)) (ok_strs _ hsub).shaped (ok_strs [] (fun _ h => nomatch h)).shaped)) rfl) (fun _ => (ev_ixL (ev_var (i := 7) rfl) ev_int (atI_hd _ _))) (fun h => nomatch h)
    · exact ok_ne (ok_good _) rfl
    dsimp only
    refine nx_seq (nx_asg (d := rdd (err60 w)) (EvN.dat (EvND.to (es := ((err60 w).map PyData.int)) (en_map (us := [12]) (mapI fun v => brS w.wy (v - 60) - (v - 60)) (ei_range1 (ea_cons ev_int ea_nil) ⟨by decide, by decide⟩) ⟨rfl, trivial⟩ (by rw [List.length_map]; decide +kernel) (fun i d hd => by
            obtain ⟨x, hx, rfl⟩ := map_get hd
            have hi : i < 121 ∧ x = (i : Int) := ints0 hx
            obtain ⟨_, rfl⟩ := id hi
            exact ⟨_, _, tg_name, by decide, (ev_sub (ev_ixL (ev_var (i := 4) rfl) (ev_var (i := 12) rfl) (atI_map (told_get _ hi.1))) (ev_ixL (ev_var (i := 3) rfl) (ev_var (i := 12) rfl) (atI_map (v60_get hi.1))))⟩)) (mapI_eq _ _))) ?_)
    dsimp only
    refine nx_to (Γ' := [.no, .own (drwR p q), .dat w.wy.dd, .dat (rdd vals60), .dat (.list ((vals60.map fun v => brS w.wy v).map PyData.int)), .dat (rdd (badS w)), .dat (rdd (lostS w)), .dat (.list ((goodS w.wy).map PyData.str)), .dat (rdd (err60 w)), .no, .no, .no, .no]) rfl ?_
    refine nx_seq (nx_if (b := false) (EvT.to (et_test (ev_neD (ev_call (ea_cons (ev_var (i := 2) rfl) ea_nil) (mk_errors_of (Way.ok w))) (ev_tup (ea_cons (ev_min (ev_var (i := 8) rfl) (mnL_mem (err60_ne w)).1 (mnL_mem (err60_ne w)).2) (ea_cons (ev_max (ev_var (i := 8) rfl) (mxL_mem (err60_ne w)).1 (mxL_mem (err60_ne w)).2) ea_nil))) (ok_pair _ _).shaped (ok_pair _ _).shaped)) ?_) (fun h => nomatch h) (fun _ => nx_next ?_))
    · exact ok_ne (ok_pair _ _) (by rw [(err_eq w).1, (err_eq w).2.1])
    dsimp only
    refine nx_seq (nx_asg (d := rdd (errs w.wy)) (EvN.dat (EvND.to (es := ((errs w.wy).map PyData.int)) (en_map (us := [10]) (mapI fun v => brS w.wy v - v) (ei_range2 (ea_cons (ev_neg ev_int) (ea_cons ev_int ea_nil)) ⟨by decide, by decide, by decide, by decide⟩) ⟨rfl, trivial⟩ (by rw [List.length_map]; decide +kernel) (fun i d hd => by
            obtain ⟨v, hv, rfl⟩ := map_get hd
            exact ⟨_, _, tg_name, by decide, (ev_sub (ev_call (ea_cons (ev_var (i := 2) rfl) (ea_cons (ev_var (i := 10) rfl) ea_nil)) (mk__law_bring )) (ev_var (i := 10) rfl))⟩)) (mapI_eq _ _))) ?_)
    dsimp only
    refine nx_to (Γ' := [.no, .own (drwR p q), .dat w.wy.dd, .dat (rdd vals60), .dat (.list ((vals60.map fun v => brS w.wy v).map PyData.int)), .dat (rdd (badS w)), .dat (rdd (lostS w)), .dat (.list ((goodS w.wy).map PyData.str)), .dat (rdd (err60 w)), .dat (rdd (errs w.wy)), .no, .no, .no]) rfl ?_
    refine nx_seq (nx_if (b := false) (EvT.to (et_test (ev_neD (ev_call (ea_cons (ev_var (i := 2) rfl) ea_nil) (mk_mean_error (Way.ok w) ⟨(err_eq w).2.2.1, (err_eq w).2.2.2⟩)) (ev_call (ea_cons (ev_sum (ev_var (i := 9) rfl)) (ea_cons ev_int ea_nil)) (mk__law_low (by decide) (err_eq w).2.2.1 (err_eq w).2.2.2)) (ok_pair _ _).shaped (ok_pair _ _).shaped)) ?_) (fun h => nomatch h) (fun _ => nx_next ?_))
    · exact ok_ne (ok_pair _ _) rfl
    dsimp only
    refine law_ret (ev_callW (i := 1) rfl (ea_cons (ev_var (i := 2) rfl) ea_nil) (fun ds e => ⟨w, e⟩) (fun ds r e h => h)) kk
end

def fn_ : List He.DefD := ([⟨("is_int", none), "is_int", "is_int", defArgs (tS 8), defBody (tS 8), defScope (tS 8), [], []⟩,
  ⟨("lowest", none), "lowest", "lowest", defArgs (tS 9), defBody (tS 9), defScope (tS 9), [], []⟩,
  ⟨("nearer", none), "nearer", "nearer", defArgs (tS 11), defBody (tS 11), defScope (tS 11), [], []⟩,
  ⟨("brought_to", none), "brought_to", "brought_to", defArgs (tS 12), defBody (tS 12), defScope (tS 12), [], []⟩,
  ⟨("bring", none), "bring", "bring", defArgs (tS 13), defBody (tS 13), defScope (tS 13), [], []⟩,
  ⟨("is_word", none), "is_word", "is_word", defArgs (tS 18), defBody (tS 18), defScope (tS 18), [], []⟩,
  ⟨("is_way", none), "is_way", "is_way", defArgs (tS 19), defBody (tS 19), defScope (tS 19), [], []⟩,
  ⟨("check_way", none), "check_way", "check_way", defArgs (tS 20), defBody (tS 20), defScope (tS 20), [], []⟩,
  ⟨("brought", none), "brought", "brought", defArgs (tS 24), defBody (tS 24), defScope (tS 24), [], []⟩,
  ⟨("unmirrored", none), "unmirrored", "unmirrored", defArgs (tS 25), defBody (tS 25), defScope (tS 25), [], []⟩,
  ⟨("mirrored", none), "mirrored", "mirrored", defArgs (tS 26), defBody (tS 26), defScope (tS 26), [], []⟩,
  ⟨("first_unmirrored", none), "first_unmirrored", "first_unmirrored", defArgs (tS 27), defBody (tS 27), defScope (tS 27), [], []⟩,
  ⟨("spoiled", none), "spoiled", "spoiled", defArgs (tS 28), defBody (tS 28), defScope (tS 28), [], []⟩,
  ⟨("at_once", none), "at_once", "at_once", defArgs (tS 29), defBody (tS 29), defScope (tS 29), [], []⟩,
  ⟨("errors_of", none), "errors_of", "errors_of", defArgs (tS 30), defBody (tS 30), defScope (tS 30), [], []⟩] : List He.DefD) ++ ([⟨("mean_error", none), "mean_error", "mean_error", defArgs (tS 31), defBody (tS 31), defScope (tS 31), [], []⟩,
  ⟨("_law_start", none), "_law_start", "_law_start", defArgs (tS 33), defBody (tS 33), defScope (tS 33), [], []⟩,
  ⟨("_law_draw", none), "_law_draw", "_law_draw", defArgs (tS 34), defBody (tS 34), defScope (tS 34), [], []⟩,
  ⟨("_law_pick", none), "_law_pick", "_law_pick", defArgs (tS 35), defBody (tS 35), defScope (tS 35), [], []⟩,
  ⟨("_law_error", none), "_law_error", "_law_error", defArgs (tS 36), defBody (tS 36), defScope (tS 36), [], []⟩,
  ⟨("_law_true", none), "_law_true", "_law_true", defArgs (tS 37), defBody (tS 37), defScope (tS 37), [], []⟩,
  ⟨("_law_low", none), "_law_low", "_law_low", defArgs (tS 38), defBody (tS 38), defScope (tS 38), [], []⟩,
  ⟨("_law_steps", none), "_law_steps", "_law_steps", defArgs (tS 39), defBody (tS 39), defScope (tS 39), [], []⟩,
  ⟨("_law_modes", none), "_law_modes", "_law_modes", defArgs (tS 40), defBody (tS 40), defScope (tS 40), [], []⟩,
  ⟨("_law_way", none), "_law_way", "_law_way", defArgs (tS 41), defBody (tS 41), defScope (tS 41), [], []⟩,
  ⟨("_law_at", none), "_law_at", "_law_at", defArgs (tS 42), defBody (tS 42), defScope (tS 42), [], []⟩,
  ⟨("_law_bring", none), "_law_bring", "_law_bring", defArgs (tS 43), defBody (tS 43), defScope (tS 43), [], []⟩,
  ⟨("_law_call", none), "_law_call", "_law_call", defArgs (tS 44), defBody (tS 44), defScope (tS 44), [], []⟩,
  ⟨("_law_known", none), "_law_known", "_law_known", defArgs (tS 45), defBody (tS 45), defScope (tS 45), [], []⟩,
  ⟨("law", none), "law", "law", defArgs (tS 46), defBody (tS 46), defScope (tS 46), [], []⟩] : List He.DefD)
def fa_ : List He.Fa := ([.glo "is_int", .glo "lowest", .glo "nearer", .glo "brought_to", .glo "bring", .glo "is_word", .glo "is_way", .glo "check_way", .glo "brought", .glo "unmirrored", .glo "mirrored", .glo "first_unmirrored", .glo "spoiled", .glo "at_once", .glo "errors_of", .glo "mean_error", .glo "_law_start", .glo "_law_draw", .glo "_law_pick", .glo "_law_error"] : List He.Fa) ++ ([.glo "_law_true", .glo "_law_low", .glo "_law_steps", .glo "_law_modes", .glo "_law_way", .glo "_law_at", .glo "_law_bring", .glo "_law_call", .glo "_law_known", .glo "law", .glo "STEPS", .glo "MODES", .glo "CARRIES", .int "ROUND" (24), .int "WIDEST_VALUE" (60), .free "ValueError", .free "abs", .free "bool", .free "int", .free "isinstance"] : List He.Fa) ++ ([.free "len", .free "list", .free "max", .free "min", .free "range", .free "str", .free "sum", .free "tuple", .glo "RestError", .glo "BadWay", .glo "BadRow", .glo "BadWritten", .glo "BadNumber", .glo "BadText", .glo "NotFound"] : List He.Fa)
def ex_ (K : FK) : Bool := conB K "STEPS" (.tuple [.tuple [.int 2, .int 1], .tuple [.int 3, .int 1], .tuple [.int 4, .int 1], .tuple [.int 4, .int 2], .tuple [.int 6, .int 1], .tuple [.int 6, .int 2], .tuple [.int 6, .int 3]]) && (conB K "MODES" (.tuple [.str "down", .str "up", .str "in", .str "out", .str "neardown", .str "nearup", .str "nearin", .str "nearout", .str "neareven", .str "nearodd"]) && (conB K "CARRIES" (.tuple [.str "none", .str "all", .str "signs", .str "pairs"]) && (kitsB K)))
abbrev R_ : PySem.W.OpenRow := PySem.W.OpenLaw.row PySem.Challenge.rw_carriedrests_k08_whole_singles
abbrev hk_ : PySem.W.Hook := He.hookX 5 fa_ fn_ [] [] ex_
def ob_ (s : PySem.W.SharedT) : He.AlX := He.obsX 5 fa_ fn_ [] [] ex_ (HandSHeadRun.getT s)
theorem ob_eq (s : PySem.W.SharedT) : ob_ s = hk_.obs s.abs := He.obsX_eq (HandSHeadRun.getT_eq s)
def loose_ : List Str := (["is_int", "lowest", "nearer", "brought_to", "bring", "is_word", "is_way", "check_way", "brought", "unmirrored", "mirrored", "first_unmirrored", "spoiled", "at_once", "errors_of"] : List Str) ++ (["mean_error", "_law_start", "_law_draw", "_law_pick", "_law_error", "_law_true", "_law_low", "_law_steps", "_law_modes", "_law_way", "_law_at", "_law_bring", "_law_call", "_law_known", "STEPS"] : List Str) ++ (["MODES", "CARRIES", "ROUND", "WIDEST_VALUE", "RestError", "BadWay", "BadRow", "BadWritten", "BadNumber", "BadText", "NotFound"] : List Str)
theorem run_ (w : World) : HandSHeadRun.RunEq R_ (PySem.W.view R_.prog [46]) hk_ ob_ 4000 loose_ w := by
  intro os
  kernel_rfl
theorem tx_of {w : World} {K : FK} {h : Heap} {mg : Str → Option Value} (X : K.In h) (G : h.Ns mainGlobals mg) (c : He.SaysX fa_ fn_ [] [] ex_ w h K) : ∃ T : Tx K mg, T.f_law = He.ga K "law" := by
  have c0 := c.t.d
  have cx : ex_ K = true := c.more
  unfold ex_ at cx
  simp only [Bool.and_eq_true] at cx
  obtain ⟨x0, x1, x2, x3⟩ := cx
  obtain ⟨d0, F0⟩ := c0.def_ 0 rfl
  obtain ⟨d1, F1⟩ := c0.def_ 1 rfl
  obtain ⟨d2, F2⟩ := c0.def_ 2 rfl
  obtain ⟨d3, F3⟩ := c0.def_ 3 rfl
  obtain ⟨d4, F4⟩ := c0.def_ 4 rfl
  obtain ⟨d5, F5⟩ := c0.def_ 5 rfl
  obtain ⟨d6, F6⟩ := c0.def_ 6 rfl
  obtain ⟨d7, F7⟩ := c0.def_ 7 rfl
  obtain ⟨d8, F8⟩ := c0.def_ 8 rfl
  obtain ⟨d9, F9⟩ := c0.def_ 9 rfl
  obtain ⟨d10, F10⟩ := c0.def_ 10 rfl
  obtain ⟨d11, F11⟩ := c0.def_ 11 rfl
  obtain ⟨d12, F12⟩ := c0.def_ 12 rfl
  obtain ⟨d13, F13⟩ := c0.def_ 13 rfl
  obtain ⟨d14, F14⟩ := c0.def_ 14 rfl
  obtain ⟨d15, F15⟩ := c0.def_ 15 rfl
  obtain ⟨d16, F16⟩ := c0.def_ 16 rfl
  obtain ⟨d17, F17⟩ := c0.def_ 17 rfl
  obtain ⟨d18, F18⟩ := c0.def_ 18 rfl
  obtain ⟨d19, F19⟩ := c0.def_ 19 rfl
  obtain ⟨d20, F20⟩ := c0.def_ 20 rfl
  obtain ⟨d21, F21⟩ := c0.def_ 21 rfl
  obtain ⟨d22, F22⟩ := c0.def_ 22 rfl
  obtain ⟨d23, F23⟩ := c0.def_ 23 rfl
  obtain ⟨d24, F24⟩ := c0.def_ 24 rfl
  obtain ⟨d25, F25⟩ := c0.def_ 25 rfl
  obtain ⟨d26, F26⟩ := c0.def_ 26 rfl
  obtain ⟨d27, F27⟩ := c0.def_ 27 rfl
  obtain ⟨d28, F28⟩ := c0.def_ 28 rfl
  obtain ⟨d29, F29⟩ := c0.def_ 29 rfl
  obtain ⟨t_ROUND, g_ROUND⟩ := He.int_ok X G (c0.fact 33 (f := .int "ROUND" (24)) rfl)
  obtain ⟨t_WIDEST_VALUE, g_WIDEST_VALUE⟩ := He.int_ok X G (c0.fact 34 (f := .int "WIDEST_VALUE" (60)) rfl)
  let T : Tx K mg := {
    f_is_int := He.ga K "is_int"
    d_is_int := d0
    F_is_int := funD_fun F0
    g_is_int := He.glo_ok X G (c0.fact 0 (f := .glo "is_int") rfl)
    f_lowest := He.ga K "lowest"
    d_lowest := d1
    F_lowest := funD_fun F1
    g_lowest := He.glo_ok X G (c0.fact 1 (f := .glo "lowest") rfl)
    f_nearer := He.ga K "nearer"
    d_nearer := d2
    F_nearer := funD_fun F2
    g_nearer := He.glo_ok X G (c0.fact 2 (f := .glo "nearer") rfl)
    f_brought_to := He.ga K "brought_to"
    d_brought_to := d3
    F_brought_to := funD_fun F3
    g_brought_to := He.glo_ok X G (c0.fact 3 (f := .glo "brought_to") rfl)
    f_bring := He.ga K "bring"
    d_bring := d4
    F_bring := funD_fun F4
    g_bring := He.glo_ok X G (c0.fact 4 (f := .glo "bring") rfl)
    f_is_word := He.ga K "is_word"
    d_is_word := d5
    F_is_word := funD_fun F5
    g_is_word := He.glo_ok X G (c0.fact 5 (f := .glo "is_word") rfl)
    f_is_way := He.ga K "is_way"
    d_is_way := d6
    F_is_way := funD_fun F6
    g_is_way := He.glo_ok X G (c0.fact 6 (f := .glo "is_way") rfl)
    f_check_way := He.ga K "check_way"
    d_check_way := d7
    F_check_way := funD_fun F7
    g_check_way := He.glo_ok X G (c0.fact 7 (f := .glo "check_way") rfl)
    f_brought := He.ga K "brought"
    d_brought := d8
    F_brought := funD_fun F8
    g_brought := He.glo_ok X G (c0.fact 8 (f := .glo "brought") rfl)
    f_unmirrored := He.ga K "unmirrored"
    d_unmirrored := d9
    F_unmirrored := funD_fun F9
    g_unmirrored := He.glo_ok X G (c0.fact 9 (f := .glo "unmirrored") rfl)
    f_mirrored := He.ga K "mirrored"
    d_mirrored := d10
    F_mirrored := funD_fun F10
    g_mirrored := He.glo_ok X G (c0.fact 10 (f := .glo "mirrored") rfl)
    f_first_unmirrored := He.ga K "first_unmirrored"
    d_first_unmirrored := d11
    F_first_unmirrored := funD_fun F11
    g_first_unmirrored := He.glo_ok X G (c0.fact 11 (f := .glo "first_unmirrored") rfl)
    f_spoiled := He.ga K "spoiled"
    d_spoiled := d12
    F_spoiled := funD_fun F12
    g_spoiled := He.glo_ok X G (c0.fact 12 (f := .glo "spoiled") rfl)
    f_at_once := He.ga K "at_once"
    d_at_once := d13
    F_at_once := funD_fun F13
    g_at_once := He.glo_ok X G (c0.fact 13 (f := .glo "at_once") rfl)
    f_errors_of := He.ga K "errors_of"
    d_errors_of := d14
    F_errors_of := funD_fun F14
    g_errors_of := He.glo_ok X G (c0.fact 14 (f := .glo "errors_of") rfl)
    f_mean_error := He.ga K "mean_error"
    d_mean_error := d15
    F_mean_error := funD_fun F15
    g_mean_error := He.glo_ok X G (c0.fact 15 (f := .glo "mean_error") rfl)
    f__law_start := He.ga K "_law_start"
    d__law_start := d16
    F__law_start := funD_fun F16
    g__law_start := He.glo_ok X G (c0.fact 16 (f := .glo "_law_start") rfl)
    f__law_draw := He.ga K "_law_draw"
    d__law_draw := d17
    F__law_draw := funD_fun F17
    g__law_draw := He.glo_ok X G (c0.fact 17 (f := .glo "_law_draw") rfl)
    f__law_pick := He.ga K "_law_pick"
    d__law_pick := d18
    F__law_pick := funD_fun F18
    g__law_pick := He.glo_ok X G (c0.fact 18 (f := .glo "_law_pick") rfl)
    f__law_error := He.ga K "_law_error"
    d__law_error := d19
    F__law_error := funD_fun F19
    g__law_error := He.glo_ok X G (c0.fact 19 (f := .glo "_law_error") rfl)
    f__law_true := He.ga K "_law_true"
    d__law_true := d20
    F__law_true := funD_fun F20
    g__law_true := He.glo_ok X G (c0.fact 20 (f := .glo "_law_true") rfl)
    f__law_low := He.ga K "_law_low"
    d__law_low := d21
    F__law_low := funD_fun F21
    g__law_low := He.glo_ok X G (c0.fact 21 (f := .glo "_law_low") rfl)
    f__law_steps := He.ga K "_law_steps"
    d__law_steps := d22
    F__law_steps := funD_fun F22
    g__law_steps := He.glo_ok X G (c0.fact 22 (f := .glo "_law_steps") rfl)
    f__law_modes := He.ga K "_law_modes"
    d__law_modes := d23
    F__law_modes := funD_fun F23
    g__law_modes := He.glo_ok X G (c0.fact 23 (f := .glo "_law_modes") rfl)
    f__law_way := He.ga K "_law_way"
    d__law_way := d24
    F__law_way := funD_fun F24
    g__law_way := He.glo_ok X G (c0.fact 24 (f := .glo "_law_way") rfl)
    f__law_at := He.ga K "_law_at"
    d__law_at := d25
    F__law_at := funD_fun F25
    g__law_at := He.glo_ok X G (c0.fact 25 (f := .glo "_law_at") rfl)
    f__law_bring := He.ga K "_law_bring"
    d__law_bring := d26
    F__law_bring := funD_fun F26
    g__law_bring := He.glo_ok X G (c0.fact 26 (f := .glo "_law_bring") rfl)
    f__law_call := He.ga K "_law_call"
    d__law_call := d27
    F__law_call := funD_fun F27
    g__law_call := He.glo_ok X G (c0.fact 27 (f := .glo "_law_call") rfl)
    f__law_known := He.ga K "_law_known"
    d__law_known := d28
    F__law_known := funD_fun F28
    g__law_known := He.glo_ok X G (c0.fact 28 (f := .glo "_law_known") rfl)
    f_law := He.ga K "law"
    d_law := d29
    F_law := funD_fun F29
    g_law := He.glo_ok X G (c0.fact 29 (f := .glo "law") rfl)
    a_STEPS := He.ga K "STEPS"
    g_STEPS := He.glo_ok X G (c0.fact 30 (f := .glo "STEPS") rfl)
    k_STEPS := con_ok x0
    a_MODES := He.ga K "MODES"
    g_MODES := He.glo_ok X G (c0.fact 31 (f := .glo "MODES") rfl)
    k_MODES := con_ok x1
    a_CARRIES := He.ga K "CARRIES"
    g_CARRIES := He.glo_ok X G (c0.fact 32 (f := .glo "CARRIES") rfl)
    k_CARRIES := con_ok x2
    t_ROUND := t_ROUND
    g_ROUND := g_ROUND
    t_WIDEST_VALUE := t_WIDEST_VALUE
    g_WIDEST_VALUE := g_WIDEST_VALUE
    m_ValueError := He.free_ok X G (c0.fact 35 (f := .free "ValueError") rfl)
    m_abs := He.free_ok X G (c0.fact 36 (f := .free "abs") rfl)
    m_bool := He.free_ok X G (c0.fact 37 (f := .free "bool") rfl)
    m_int := He.free_ok X G (c0.fact 38 (f := .free "int") rfl)
    m_isinstance := He.free_ok X G (c0.fact 39 (f := .free "isinstance") rfl)
    m_len := He.free_ok X G (c0.fact 40 (f := .free "len") rfl)
    m_list := He.free_ok X G (c0.fact 41 (f := .free "list") rfl)
    m_max := He.free_ok X G (c0.fact 42 (f := .free "max") rfl)
    m_min := He.free_ok X G (c0.fact 43 (f := .free "min") rfl)
    m_range := He.free_ok X G (c0.fact 44 (f := .free "range") rfl)
    m_str := He.free_ok X G (c0.fact 45 (f := .free "str") rfl)
    m_sum := He.free_ok X G (c0.fact 46 (f := .free "sum") rfl)
    m_tuple := He.free_ok X G (c0.fact 47 (f := .free "tuple") rfl)
    g_RestError := He.glo_ok X G (c0.fact 48 (f := .glo "RestError") rfl)
    g_BadWay := He.glo_ok X G (c0.fact 49 (f := .glo "BadWay") rfl)
    g_BadRow := He.glo_ok X G (c0.fact 50 (f := .glo "BadRow") rfl)
    g_BadWritten := He.glo_ok X G (c0.fact 51 (f := .glo "BadWritten") rfl)
    g_BadNumber := He.glo_ok X G (c0.fact 52 (f := .glo "BadNumber") rfl)
    g_BadText := He.glo_ok X G (c0.fact 53 (f := .glo "BadText") rfl)
    g_NotFound := He.glo_ok X G (c0.fact 54 (f := .glo "NotFound") rfl)
    ks := x3 }
  exact ⟨T, rfl⟩
theorem facts_ {P : Program} {w : World} {K : FK} {h : Heap} {mg : Str → Option Value} {f : Addr} (X : K.In h) (G : h.Ns mainGlobals mg) (hfa : mg ("law" : Str) = some (.ref f)) (c : He.SaysX fa_ fn_ [] [] ex_ w h K) :
    ∃ fd : FuncData, (∀ (s : Shared) (v : Value), BindsTo s fd ⟨[v], []⟩ [("script", v)]) ∧ ∀ base : Heap, K.In base → base.Ns mainGlobals mg → FnOk P w K mg base CX0 8 f fd ["script"] (spLaw K) := by
  obtain ⟨T, eT⟩ := tx_of X G c
  have e := hfa.symm.trans T.g_law
  cases e
  refine ⟨T.d_law, fun s v => ?_, fun base _ _ => ok_law T⟩
  obtain ⟨oc, od, kV, doc, pm, an, cdv, ct, osl, e, l, c'⟩ := T.F_law.ex
  rw [e]
  exact .of_eq rfl

end Pf

open PySem PySem.W PySem.Calls PyProof.Rows
set_option maxHeartbeats 0 in
theorem PySem.Challenge.cw_carriedrests_k08_whole_singles_holds : PySem.Challenge.rw_carriedrests_k08_whole_singles.Holds := by
  w_on; o_law
  refine HandSHeadRun.head_any (r := OpenLaw.row PySem.Challenge.rw_carriedrests_k08_whole_singles) (q := view (OpenLaw.row PySem.Challenge.rw_carriedrests_k08_whole_singles).prog [46]) (H := Pf.hk_) (ob := Pf.ob_) (M := 4000) (loose := Pf.loose_) (d := HandSHeadRun.topDef (OpenLaw.row PySem.Challenge.rw_carriedrests_k08_whole_singles).prog 46) (kwd := []) Pf.ob_eq
    (by kernel_rfl) (fun s => by kernel_rfl) Pf.run_ (by kernel_rfl) (by kernel_rfl) (by kernel_rfl) (by rfl) (by first | assumption | decide +kernel) (by decide +kernel) ⟨rfl, rfl, rfl, rfl, rfl, by decide +kernel⟩ ?hw ?hc
  case hw => w_witness2
  case hc =>
    refine L2.walk_ofE (l := PySem.Challenge.rw_carriedrests_k08_whole_singles) (n := 63) (k := 8) (x := "script") (CX := L2.CX0) rfl (by decide) (by kernel_rfl) ⟨rfl, by decide, by decide⟩ ?F (fun _ _ _ _ z => z)
    intro w mg fa h Y G hmg0
    obtain ⟨K, KX, c⟩ := Y
    have hmg : mg ("law" : PySem.Str) = some (.ref fa) := by
      have e : (HandSHeadRun.topDef (OpenLaw.row PySem.Challenge.rw_carriedrests_k08_whole_singles).prog 46).name = ("law" : PySem.Str) := by kernel_rfl
      rw [← e]
      exact hmg0
    obtain ⟨fd, hb, hF⟩ := Pf.facts_ (P := (PySem.Challenge.rw_carriedrests_k08_whole_singles).prog) (w := w) KX G hmg c
    exact ⟨K, fd, Ly.spLaw K, KX, hb, fun H a ns hl _ hS => ⟨a, ns, rfl, hS, hl, fun _ => rfl⟩, hF⟩
