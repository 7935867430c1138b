import PyProof.Rows.All
import Wide.All
import OpenK.AllK
import Wide.FinOn
import HandS.ForMost
import HandS.Wide
import KE.KeyNested
import KE.KDictKeyed
import KE.KDictDisplayH
import HandS.IsInst
import HandS.Style
import HandS.NoneIn
import HandS.Exc
import HandS.ExcOwn
import HandS.ExcIs
import HandS.ExcValue
import HandS.WordsExc
import HandS.HeadHook1
import HandS.Conv
import HandS.Codes
import KE.KDictZip
import PyProof.Draws
import HandS.TupLen
import KE.SortData
import PyProof.InstSpecial
import KE.KOpsOwn
import HandS.SetKeys
import KE.KDictSum
import HandS.TupSets
import HandS.DictEq
import KE.KDictCopyH
import HandS.TupAny
import HandS.Text
import HandS.RaiseMore
import PyProof.StrBlock2
import KE.GoesRaise
import HandS.More
import HandS.Defaults
import HandS.Head0
import HandS.Head1
import HandS.Head2
import HandS.HeadEnd
import HandS.HeadHook2
import HandS.HeadHook3
import HandS.HeadHook4
import KE.KStateDown
import PySem.Challenge.RW_carriedrests_k15_whole_texts
set_option Elab.async false
set_option linter.all false
set_option maxRecDepth 100000
namespace Ly
open PySem PySem.Spec PyProof.Rows L2
abbrev NK := NestedKey
mutual
/-- no text within -/
def plainK : NK → Bool
  | .none => true
  | .num _ => true
  | .text _ => false
  | .tup ks => plainKs ks
def plainKs : List NK → Bool
  | [] => true
  | k :: ks => plainK k && plainKs ks
end
mutual
theorem hash_plain {w w' : World} : ∀ k : NK, plainK k = true → k.hash w = k.hash w'
  | .none, _ => rfl
  | .num _, _ => rfl
  | .text _, h => by simp [plainK] at h
  | .tup ks, h => by
    simp only [NestedKey.hash, hashes_plain (w := w) (w' := w') ks (by simpa [plainK] using h)]
theorem hashes_plain {w w' : World} : ∀ ks : List NK, plainKs ks = true → NestedKey.hashes w ks = NestedKey.hashes w' ks
  | [], _ => rfl
  | k :: ks, h => by
    simp only [plainKs, Bool.and_eq_true] at h
    simp only [NestedKey.hashes, hash_plain (w := w) (w' := w') k h.1, hashes_plain (w := w) (w' := w') ks h.2]
end
mutual
theorem data_inj : ∀ (a b : NK), a.data = b.data → a = b
  | .none, b, h => by
    cases b <;> simp [NestedKey.data] at h
    rfl
  | .num i, b, h => by
    cases b <;> simp [NestedKey.data] at h
    rw [h]
  | .text x, b, h => by
    cases b <;> simp [NestedKey.data] at h
    rw [h]
  | .tup ks, b, h => by
    cases b with
    | tup ls =>
      simp only [NestedKey.data, PyData.tuple.injEq] at h
      rw [datas_inj ks ls h]
    | none => simp [NestedKey.data] at h
    | num i => simp [NestedKey.data] at h
    | text x => simp [NestedKey.data] at h
theorem datas_inj : ∀ (as bs : List NK), NestedKey.datas as = NestedKey.datas bs → as = bs
  | [], [], _ => rfl
  | [], _ :: _, h => by simp [NestedKey.datas] at h
  | _ :: _, [], h => by simp [NestedKey.datas] at h
  | a :: as, b :: bs, h => by
    simp only [NestedKey.datas, List.cons.injEq] at h
    rw [data_inj a b h.1, datas_inj as bs h.2]
end
abbrev KVs := List (NK × V × V)
def entD (w : World) (x : NK × Value × Value) : DictEntry := ⟨x.1.hash w, x.2.1, x.2.2⟩
def RelD (p : NK × V × V) (q : NK × Value × Value) : Prop := p.1 = q.1 ∧ RelV p.2.1 q.2.1 ∧ RelV p.2.2 q.2.2
/-- the dict at a: its keys and values, its epoch -/
def RawD (a : Addr) (ep : Nat) (kvs : KVs) (h : Heap) : Prop := kvs.length ≤ sizeLine ∧ (a == sysModules) = false ∧ (∀ p ∈ kvs, plainK p.1 = true) ∧ ∃ xs : List (NK × Value × Value), Paired RelD kvs xs ∧
  ∃ o es w, h.get? a = some o ∧ o.ExactDict ∧ o.data = .dict es ep ∧ es.toList = xs.map (entD w) ∧ (xs.map (·.1)).Nodup
def ddO (a : Addr) (ep : Nat) (kvs : KVs) : HO := .ext (RawD a ep kvs)
theorem ddO_ok {P : Program} {w : World} {H : Hp} {h : Heap} {a : Addr} {ep : Nat} {kvs : KVs} (x : RawD a ep kvs h) : ObjOk P w H h a (ddO a ep kvs) := by
  obtain ⟨z, y, pl, xs, r, o, es, w, h1, h2⟩ := id x
  exact ⟨x, ⟨o, h1⟩, fun h1 h2 ⟨z, y, pl, xs, r, o, es, w, q1, q2⟩ k => ⟨z, y, pl, xs, r, o, es, w, k o q1, q2⟩⟩
theorem paired_keys : ∀ {l : KVs} {m : List (NK × Value × Value)}, Paired RelD l m → m.map (·.1) = l.map (·.1)
  | _, _, .nil => rfl
  | _, _, .cons h t => by rw [List.map_cons, List.map_cons, paired_keys t, h.1]
theorem ent_any {w w' : World} : ∀ {l : KVs} {m : List (NK × Value × Value)}, Paired RelD l m → (∀ p ∈ l, plainK p.1 = true) → m.map (entD w) = m.map (entD w')
  | _, _, .nil, _ => rfl
  | _, _, .cons (a := p) (b := q) h t, hp => by
    rw [List.map_cons, List.map_cons, ent_any (w := w) (w' := w') t fun p hp' => hp p (by simp [hp'])]
    have e : q.1.hash w = q.1.hash w' := hash_plain _ (by rw [← h.1]; exact hp p (by simp))
    unfold entD
    rw [e]
/-- as the library has it, keys by their addresses -/
theorem rawD_at {X : Cx} {H : Hp} {h : Heap} {a : Addr} {ep : Nat} {kvs : KVs} (x : RawD a ep kvs h) : kvs.length ≤ sizeLine ∧ (a == sysModules) = false ∧ ∃ xs : List (NK × Value × Value), Paired RelD kvs xs ∧ ∃ o es, h.get? a = some o ∧ o.ExactDict ∧ o.data = .dict es ep ∧ es.toList = xs.map (entD X.w) ∧ (xs.map (·.1)).Nodup := by
  obtain ⟨z, y, pl, xs, r, o, es, w, h1, h2, h3, h4, h5⟩ := x
  exact ⟨z, y, xs, r, o, es, h1, h2, h3, h4.trans (ent_any r pl), h5⟩
end Ly

namespace Ly
open PySem L2

abbrev DD := PyData
abbrev FK := PySem.W.Frag

def Ex (H H' : Hp) : Prop := ∀ a o, H a = some o → H' a = some o
theorem Ex.refl (H : Hp) : Ex H H := fun _ _ h => h
theorem Ex.trans {H H1 H2 : Hp} (a : Ex H H1) (b : Ex H1 H2) : Ex H H2 := fun x o h => b x o (a x o h)
theorem Ex.new {H : Hp} {p : Addr} {o : HO} (h : H p = none) : Ex H (upd H p o) := fun a u e => by
  rw [upd_ne (ne_of_none e h)]; exact e
theorem Ex.none {H H' : Hp} {p : Addr} (e : Ex H H') (h : H' p = none) : H p = none := by
  cases h1 : H p with
  | none => rfl
  | some o => rw [e p o h1] at h; cases h
theorem ex_t {K : FK} {H H' : Hp} {a : Addr} {xs : List V} (e : Ex H H') (h : SqT K H a xs) : SqT K H' a xs := by
  rcases h with (h | ⟨o, h⟩) | h
  · exact .inl (.inl (e _ _ h))
  · exact .inl (.inr ⟨o, e _ _ h⟩)
  · exact .inr h

/-- from (G, H) to (G', H'): what stood in H stays but at L; G grows by new things alone -/
structure Grow (L : List Addr) (G H G' H' : Hp) : Prop where
  g : Ex G G'
  gh : Ex G' H'
  fr : ∀ a o, a ∉ L → H a = some o → H' a = some o
  new : ∀ a o, H a = some o → G a = none → G' a = none
  dom : ∀ a o, H a = some o → ∃ o', H' a = some o'
theorem Grow.refl {L : List Addr} {G H : Hp} (e : Ex G H) : Grow L G H G H := ⟨Ex.refl G, e, fun _ _ _ h => h, fun _ _ _ h => h, fun _ o h => ⟨o, h⟩⟩
theorem Grow.trans {L : List Addr} {G H G1 H1 G2 H2 : Hp} (a : Grow L G H G1 H1) (b : Grow L G1 H1 G2 H2) : Grow L G H G2 H2 :=
  ⟨a.g.trans b.g, b.gh, fun x o n h => b.fr x o n (a.fr x o n h), fun x o h n => by
    obtain ⟨o', h'⟩ := a.dom x o h
    exact b.new x o' h' (a.new x o h n), fun x o h => by
    obtain ⟨o', h'⟩ := a.dom x o h
    exact b.dom x o' h'⟩
theorem Grow.mono {L L' : List Addr} {G H G1 H1 : Hp} (h : ∀ a ∈ L, a ∈ L') (a : Grow L G H G1 H1) : Grow L' G H G1 H1 :=
  ⟨a.g, a.gh, fun x o n q => a.fr x o (fun z => n (h x z)) q, a.new, a.dom⟩
theorem Grow.laid {L : List Addr} {G H : Hp} {p : Addr} {o : HO} (e : Ex G H) (h : H p = none) : Grow L G H (upd G p o) (upd H p o) := by
  have hg : G p = none := e.none h
  refine ⟨Ex.new hg, fun a u q => ?_, fun a u _ q => Ex.new h a u q, fun a u q n => ?_, fun a u q => ⟨u, Ex.new h a u q⟩⟩
  · by_cases ha : a = p
    · subst ha; rw [upd_same] at q ⊢; exact q
    · rw [upd_ne ha] at q ⊢; exact e a u q
  · rw [upd_ne (ne_of_none q h)]; exact n
/-- a new thing that is not frozen -/
theorem Grow.free {L : List Addr} {G H : Hp} {p : Addr} {o : HO} (e : Ex G H) (h : H p = none) : Grow L G H G (upd H p o) :=
  ⟨Ex.refl G, e.trans (Ex.new h), fun a u _ q => Ex.new h a u q, fun _ _ _ n => n, fun a u q => ⟨u, Ex.new h a u q⟩⟩
/-- a thing of ours is written -/
theorem Grow.put {L : List Addr} {G H : Hp} {p : Addr} {o : HO} (e : Ex G H) (h : G p = none) (hl : p ∈ L) : Grow L G H G (upd H p o) :=
  ⟨Ex.refl G, fun a u q => by rw [upd_ne (ne_of_none q h)]; exact e a u q, fun a u n q => by rw [upd_ne (fun z => n (by rw [z]; exact hl))]; exact q, fun _ _ _ n => n, fun a u q => by
    by_cases ha : a = p
    · subst ha; exact ⟨o, upd_same⟩
    · exact ⟨u, by rw [upd_ne ha]; exact q⟩⟩

mutual
inductive Da (K : FK) (G : Hp) : V → DD → Prop
  | non : Da K G .non .none
  | bl (b : Bool) : Da K G (.bl b) (.bool b)
  | int (i : Int) : Da K G (.int i) (.int i)
  | str (x : Str) : Da K G (.str x) (.str x)
  | lst {a : Addr} {xs : List V} {ds : List DD} : G a = some (.lst xs) → DaL K G xs ds → Da K G (.ref a) (.list ds)
  | tup {a : Addr} {xs : List V} {ds : List DD} : SqT K G a xs → DaL K G xs ds → Da K G (.ref a) (.tuple ds)
  | dct {a : Addr} {ep : Nat} {kvs : KVs} {ds : List (DD × DD)} : G a = some (ddO a ep kvs) → DaD K G kvs ds → Da K G (.ref a) (.dict ds)
inductive DaL (K : FK) (G : Hp) : List V → List DD → Prop
  | nil : DaL K G [] []
  | cons {v : V} {vs : List V} {d : DD} {ds : List DD} : Da K G v d → DaL K G vs ds → DaL K G (v :: vs) (d :: ds)
inductive DaD (K : FK) (G : Hp) : KVs → List (DD × DD) → Prop
  | nil : DaD K G [] []
  | cons {k : NK} {u v : V} {d : DD} {xs : KVs} {ds : List (DD × DD)} : Da K G u k.data → k.depth ≤ 8 → Da K G v d → DaD K G xs ds → DaD K G ((k, u, v) :: xs) ((k.data, d) :: ds)
end
section
variable {K : FK} {G G' : Hp}
mutual
theorem Da.mono (e : Ex G G') : ∀ {v : V} {d : DD}, Da K G v d → Da K G' v d
  | _, _, .non => .non
  | _, _, .bl b => .bl b
  | _, _, .int i => .int i
  | _, _, .str x => .str x
  | _, _, .lst h hs => .lst (e _ _ h) (DaL.mono e hs)
  | _, _, .tup h hs => .tup (ex_t e h) (DaL.mono e hs)
  | _, _, .dct h hs => .dct (e _ _ h) (DaD.mono e hs)
theorem DaL.mono (e : Ex G G') : ∀ {vs : List V} {ds : List DD}, DaL K G vs ds → DaL K G' vs ds
  | _, _, .nil => .nil
  | _, _, .cons h hs => .cons (Da.mono e h) (DaL.mono e hs)
theorem DaD.mono (e : Ex G G') : ∀ {vs : KVs} {ds : List (DD × DD)}, DaD K G vs ds → DaD K G' vs ds
  | _, _, .nil => .nil
  | _, _, .cons h1 h2 h3 hs => .cons (Da.mono e h1) h2 (Da.mono e h3) (DaD.mono e hs)
end
mutual
theorem Da.dp : ∀ {v : V} {d : DD}, Da K G v d → d.canLay0 = true → Dp K G v d
  | _, _, .non, _ => .non
  | _, _, .bl b, _ => .bl b
  | _, _, .int i, _ => .int i
  | _, _, .str x, _ => .str x
  | _, _, .lst h hs, c => .lst (SqL.of h) (DaL.dp hs (by simpa [PyData.canLay0] using c))
  | _, _, .tup h hs, c => .tup h (DaL.dp hs (by simpa [PyData.canLay0] using c))
  | _, _, .dct _ _, c => by simp [PyData.canLay0] at c
theorem DaL.dp : ∀ {vs : List V} {ds : List DD}, DaL K G vs ds → PyData.canLayAll0 ds = true → DpAll K G vs ds
  | _, _, .nil, _ => .nil
  | _, _, .cons h hs, c => by
    simp only [PyData.canLayAll0, Bool.and_eq_true] at c
    exact .cons (Da.dp h c.1) (DaL.dp hs c.2)
end
theorem DaL.length : ∀ {vs : List V} {ds : List DD}, DaL K G vs ds → vs.length = ds.length
  | _, _, .nil => rfl
  | _, _, .cons _ hs => congrArg (· + 1) hs.length
theorem DaL.append : ∀ {vs ws : List V} {ds es : List DD}, DaL K G vs ds → DaL K G ws es → DaL K G (vs ++ ws) (ds ++ es)
  | _, _, _, _, .nil, s => s
  | _, _, _, _, .cons h t, s => .cons h (t.append s)
theorem DaL.get : ∀ {vs : List V} {ds : List DD} {i : Nat} {d : DD}, DaL K G vs ds → ds[i]? = some d → ∃ v, vs[i]? = some v ∧ Da K G v d
  | _, _, _, _, .nil, e => by simp at e
  | _, _, 0, _, .cons h _, e => by simp at e; subst e; exact ⟨_, rfl, h⟩
  | _, _, i + 1, d, .cons _ t, e => by
    obtain ⟨v, h1, h2⟩ := DaL.get (i := i) (d := d) t (by simpa using e)
    exact ⟨v, by simpa using h1, h2⟩
theorem DaL.getV : ∀ {vs : List V} {ds : List DD} {i : Nat} {v : V}, DaL K G vs ds → vs[i]? = some v → ∃ d, ds[i]? = some d ∧ Da K G v d
  | _, _, _, _, .nil, e => by simp at e
  | _, _, 0, _, .cons h _, e => by simp at e; subst e; exact ⟨_, rfl, h⟩
  | _, _, i + 1, v, .cons _ t, e => by
    obtain ⟨d, h1, h2⟩ := DaL.getV (i := i) (v := v) t (by simpa using e)
    exact ⟨d, by simpa using h1, h2⟩
theorem DaL.take : ∀ {vs : List V} {ds : List DD} (n : Nat), DaL K G vs ds → DaL K G (vs.take n) (ds.take n)
  | _, _, 0, _ => .nil
  | _, _, _ + 1, .nil => .nil
  | _, _, n + 1, .cons h t => .cons h (t.take n)
theorem DaL.drop : ∀ {vs : List V} {ds : List DD} (n : Nat), DaL K G vs ds → DaL K G (vs.drop n) (ds.drop n)
  | _, _, 0, h => h
  | _, _, _ + 1, .nil => .nil
  | _, _, n + 1, .cons _ t => t.drop n
theorem DaL.rep {vs : List V} {ds : List DD} (h : DaL K G vs ds) : ∀ k : Nat, DaL K G (List.replicate k vs).flatten (List.replicate k ds).flatten
  | 0 => .nil
  | k + 1 => by
    rw [List.replicate_succ, List.replicate_succ, List.flatten_cons, List.flatten_cons]
    exact h.append (h.rep k)
theorem DaL.set {v : V} {d : DD} (h : Da K G v d) : ∀ {vs : List V} {ds : List DD} (i : Nat), DaL K G vs ds → DaL K G (vs.set i v) (ds.set i d)
  | _, _, _, .nil => .nil
  | _, _, 0, .cons _ t => .cons h t
  | _, _, i + 1, .cons q t => .cons q (t.set h i)
theorem DaL.at {vs : List V} {ds : List DD} {i : Int} {d : DD} (h : DaL K G vs ds) (e : atI ds i = some d) : ∃ v, atI vs i = some v ∧ Da K G v d := by
  unfold atI at e ⊢
  rw [h.length]
  cases q : ixN ds.length i with
  | none => rw [q] at e; cases e
  | some j => rw [q] at e; exact h.get e
theorem Da.int_inv {v : V} {i : Int} (h : Da K G v (.int i)) : v = .int i := by cases h; rfl
theorem Da.bl_inv {v : V} {b : Bool} (h : Da K G v (.bool b)) : v = .bl b := by cases h; rfl
theorem Da.str_inv {v : V} {x : Str} (h : Da K G v (.str x)) : v = .str x := by cases h; rfl
theorem Da.non_inv {v : V} (h : Da K G v .none) : v = .non := by cases h; rfl
theorem Da.lst_inv {v : V} {ds : List DD} (h : Da K G v (.list ds)) : ∃ a xs, v = .ref a ∧ G a = some (.lst xs) ∧ DaL K G xs ds := by cases h with | lst h hs => exact ⟨_, _, rfl, h, hs⟩
theorem Da.tup_inv {v : V} {ds : List DD} (h : Da K G v (.tuple ds)) : ∃ a xs, v = .ref a ∧ SqT K G a xs ∧ DaL K G xs ds := by cases h with | tup h hs => exact ⟨_, _, rfl, h, hs⟩
theorem Da.dct_inv {v : V} {ds : List (DD × DD)} (h : Da K G v (.dict ds)) : ∃ a ep kvs, v = .ref a ∧ G a = some (ddO a ep kvs) ∧ DaD K G kvs ds := by cases h with | dct h hs => exact ⟨_, _, _, rfl, h, hs⟩
theorem DaL.ints : ∀ {vs : List V} {ns : List Int}, DaL K G vs (ns.map .int) → vs = ns.map V.int
  | _, [], .nil => rfl
  | _, n :: ns, .cons h t => by rw [h.int_inv, t.ints]; rfl
theorem DaL.bls : ∀ {vs : List V} {ns : List Bool}, DaL K G vs (ns.map .bool) → vs = ns.map V.bl
  | _, [], .nil => rfl
  | _, n :: ns, .cons h t => by rw [h.bl_inv, t.bls]; rfl
theorem DaL.strs : ∀ {vs : List V} {ns : List Str}, DaL K G vs (ns.map .str) → vs = ns.map V.str
  | _, [], .nil => rfl
  | _, n :: ns, .cons h t => by rw [h.str_inv, t.strs]; rfl
theorem DaL.ofInts : ∀ ns : List Int, DaL K G (ns.map V.int) (ns.map .int)
  | [] => .nil
  | n :: ns => .cons (.int n) (DaL.ofInts ns)
theorem DaL.ofStrs : ∀ ns : List Str, DaL K G (ns.map V.str) (ns.map .str)
  | [] => .nil
  | n :: ns => .cons (.str n) (DaL.ofStrs ns)
end

structure Res where
  as : List Addr
  ok : FK → Hp → V → Hp → Prop
  mono : ∀ {K : FK} {G G' : Hp} {v : V} {H : Hp}, Ex G G' → ok K G v H → ok K G' v H
  loc : ∀ {K : FK} {G : Hp} {v : V} {H H' : Hp}, (∀ a o, a ∈ as → H a = some o → H' a = some o) → ok K G v H → ok K G v H'
  dom : ∀ {K : FK} {G : Hp} {v : V} {H : Hp}, ok K G v H → ∀ a ∈ as, ∃ o, H a = some o

/-- an own list of data -/
def lstR (p : Addr) (ds : List DD) : Res where
  as := [p]
  ok := fun K G v H => v = .ref p ∧ ∃ xs, H p = some (.lst xs) ∧ DaL K G xs ds
  mono := fun e ⟨h1, xs, h2, h3⟩ => ⟨h1, xs, h2, h3.mono e⟩
  loc := fun e ⟨h1, xs, h2, h3⟩ => ⟨h1, xs, e p _ (by simp) h2, h3⟩
  dom := fun ⟨_, xs, h2, _⟩ a ha => by
    have e : a = p := by simpa using ha
    subst e; exact ⟨_, h2⟩

inductive Sl where
  | no
  | dat (d : DD)
  | own (r : Res)
def Sl.as : Sl → List Addr
  | .own r => r.as
  | _ => []
def SlOk (K : FK) (G H : Hp) (s : Sl) (o : Option (Option V)) : Prop := match s with
  | .no => True
  | .dat d => ∃ v, o = some (some v) ∧ Da K G v d
  | .own r => ∃ v, o = some (some v) ∧ r.ok K G v H

/-- the entry of a def: what is lent to it, the ghost heap and the heap there -/
structure Bs where
  L : List Addr
  G : Hp
  H : Hp
  hL : ∀ a ∈ L, ∃ o, H a = some o
/-- what stands around: data held on the way, owned things held on the way -/
structure Fra where
  T : List (V × DD)
  X : List (V × Res)
abbrev Fra.dat (F : Fra) (v : V) (d : DD) : Fra := ⟨(v, d) :: F.T, F.X⟩
abbrev Fra.dats (F : Fra) (ps : List (V × DD)) : Fra := ⟨ps ++ F.T, F.X⟩
abbrev Fra.res (F : Fra) (v : V) (r : Res) : Fra := ⟨F.T, (v, r) :: F.X⟩

/-- all owned things, by place: slots, then those held -/
def ownAt (Γ : List Sl) (F : Fra) (i : Nat) : List Addr := if i < Γ.length then ((Γ[i]?).getD .no).as else match F.X[i - Γ.length]? with | some q => q.2.as | none => []

structure S0 (K : FK) (B : Bs) (Γ : List Sl) (F : Fra) (σ : St) (H G : Hp) : Prop where
  len : σ.length = Γ.length
  grow : Grow B.L B.G B.H G H
  sl : ∀ (i : Nat) (s : Sl), Γ[i]? = some s → SlOk K G H s σ[i]?
  tm : ∀ p ∈ F.T, Da K G p.1 p.2
  xm : ∀ p ∈ F.X, p.2.ok K G p.1 H
  apart : ∀ i j a, a ∈ ownAt Γ F i → a ∈ ownAt Γ F j → i = j
  mine : ∀ i a, a ∈ ownAt Γ F i → G a = none ∧ (a ∈ B.L ∨ B.H a = none)
def S (K : FK) (B : Bs) (Γ : List Sl) (F : Fra) (σ : St) (H : Hp) : Prop := ∃ G, S0 K B Γ F σ H G

section
variable {K : FK} {B : Bs} {Γ : List Sl} {F : Fra} {σ : St} {H : Hp}
theorem SlOk.step {G G' H' : Hp} {s : Sl} {o : Option (Option V)} (h : SlOk K G H s o) (e : Ex G G') (k : ∀ a u, a ∈ s.as → H a = some u → H' a = some u) : SlOk K G' H' s o := by
  cases s with
  | no => trivial
  | dat d => obtain ⟨v, h1, h2⟩ := h; exact ⟨v, h1, h2.mono e⟩
  | own r => obtain ⟨v, h1, h2⟩ := h; exact ⟨v, h1, r.mono e (r.loc k h2)⟩
theorem ownAt_slot {i : Nat} {s : Sl} (h : Γ[i]? = some s) : ownAt Γ F i = s.as := by
  obtain ⟨hi, e⟩ := List.getElem?_eq_some_iff.mp h
  unfold ownAt
  rw [if_pos hi, h]; rfl
theorem ownAt_fra {i : Nat} {q : V × Res} (h : F.X[i]? = some q) : ownAt Γ F (Γ.length + i) = q.2.as := by
  unfold ownAt
  rw [if_neg (by omega), Nat.add_sub_cancel_left, h]
theorem S0.dom {G : Hp} (h : S0 K B Γ F σ H G) {i : Nat} {a : Addr} (ha : a ∈ ownAt Γ F i) : ∃ o, H a = some o := by
  unfold ownAt at ha
  split at ha
  · rename_i hi
    rw [List.getElem?_eq_getElem hi] at ha
    have q := h.sl i _ (List.getElem?_eq_getElem hi)
    simp only [Option.getD_some] at ha
    revert ha q
    cases Γ[i] with
    | no => intro ha q; exact nomatch ha
    | dat d => intro ha q; exact nomatch ha
    | own r => intro ha q; obtain ⟨v, _, z⟩ := q; exact r.dom z a ha
  · split at ha
    · rename_i q hq
      exact q.2.dom (h.xm q (List.mem_of_getElem? hq)) a ha
    · cases ha
/-- all is kept (but new things): the state stands -/
theorem S0.step {G G' H' : Hp} {T' : List (V × DD)} (h : S0 K B Γ F σ H G) (g : Grow [] G H G' H') (ht : ∀ p ∈ T', Da K G' p.1 p.2) : S0 K B Γ ⟨T', F.X⟩ σ H' G' := by
  refine ⟨h.len, h.grow.trans (g.mono fun _ z => absurd z (by simp)), fun i s e => (h.sl i s e).step g.g fun a u _ q => g.fr a u (by simp) q, ht, fun p hp => p.2.mono g.g (p.2.loc (fun a o _ q => g.fr a o (by simp) q) (h.xm p hp)), h.apart, fun i a ha => ?_⟩
  obtain ⟨o, ho⟩ := h.dom ha
  obtain ⟨m1, m2⟩ := h.mine i a ha
  exact ⟨g.new a o ho m1, m2⟩
theorem S0.ex {G : Hp} (h : S0 K B Γ F σ H G) : Ex G H := h.grow.gh
theorem S0.drop {G : Hp} {T' : List (V × DD)} (h : S0 K B Γ F σ H G) (ht : ∀ p ∈ T', p ∈ F.T) : S0 K B Γ ⟨T', F.X⟩ σ H G :=
  ⟨h.len, h.grow, h.sl, fun p hp => h.tm p (ht p hp), h.xm, h.apart, h.mine⟩
theorem S.drop {T' : List (V × DD)} (h : S K B Γ F σ H) (ht : ∀ p ∈ T', p ∈ F.T) : S K B Γ ⟨T', F.X⟩ σ H := let ⟨G, h⟩ := h; ⟨G, h.drop ht⟩
theorem S.pop {v : V} {d : DD} (h : S K B Γ (F.dat v d) σ H) : S K B Γ F σ H := h.drop fun p hp => List.mem_cons_of_mem _ hp
/-- the slot's value -/
theorem S0.dat {G : Hp} (h : S0 K B Γ F σ H G) {i : Nat} {d : DD} (e : Γ[i]? = some (.dat d)) : ∃ v, σ[i]? = some (some v) ∧ Da K G v d := h.sl i _ e
theorem S0.own {G : Hp} (h : S0 K B Γ F σ H G) {i : Nat} {r : Res} (e : Γ[i]? = some (.own r)) : ∃ v, σ[i]? = some (some v) ∧ r.ok K G v H := h.sl i _ e

variable (K B) in
/-- te yields some d with P d, whatever stands around -/
def Ev (te : TE) (Γ : List Sl) (P : DD → Prop) : Prop := ∀ F σ H, S K B Γ F σ H → ∀ Q : VK, (∀ v d H', P d → S K B Γ (F.dat v d) σ H' → Q v H') → te σ H Q
variable (K B) in
abbrev EvD (te : TE) (Γ : List Sl) (d : DD) : Prop := Ev K B te Γ (fun x => x = d)
variable (K B) in
def EvT (tt : TT) (Γ : List Sl) (b : Bool) : Prop := ∀ F σ H, S K B Γ F σ H → ∀ Q : Bool → Hp → Prop, (∀ H', S K B Γ F σ H' → Q b H') → tt σ H Q
variable (K B) in
def EvA (ta : TA) (Γ : List Sl) (P : List DD → Prop) : Prop := ∀ F σ H, S K B Γ F σ H → ∀ Q : List V → Hp → Prop, (∀ vs ds H', P ds → vs.length = ds.length → S K B Γ (F.dats (vs.zip ds)) σ H' → Q vs H') → ta σ H Q
variable (K B) in
abbrev EvAD (ta : TA) (Γ : List Sl) (ds : List DD) : Prop := EvA K B ta Γ (fun x => x = ds)
/-- an operation on values: from data x, y it yields z, laying new things at most -/
def RD (K : FK) (r : R2) (x y z : DD) : Prop := ∀ v u G H, Da K G v x → Da K G u y → Ex G H → ∀ Q : VK, (∀ v' G' H', Grow [] G H G' H' → Da K G' v' z → Q v' H') → r v u H Q
def RU (K : FK) (r : V → Hp → VK → Prop) (x z : DD) : Prop := ∀ v G H, Da K G v x → Ex G H → ∀ Q : VK, (∀ v' G' H', Grow [] G H G' H' → Da K G' v' z → Q v' H') → r v H Q
def RC (K : FK) (r : List V → Hp → VK → Prop) (ds : List DD) (z : DD) : Prop := ∀ vs G H, DaL K G vs ds → Ex G H → ∀ Q : VK, (∀ v' G' H', Grow [] G H G' H' → Da K G' v' z → Q v' H') → r vs H Q

variable {ta tb te : TE} {P P' : DD → Prop} {x y z d : DD}
theorem Ev.imp (h : Ev K B te Γ P) (k : ∀ d, P d → P' d) : Ev K B te Γ P' := fun F σ H s Q q => h F σ H s Q fun v d H' p => q v d H' (k d p)
theorem EvD.to (h : EvD K B te Γ d) (e : d = x) : EvD K B te Γ x := e ▸ h
theorem EvD.p (h : EvD K B te Γ d) (p : P d) : Ev K B te Γ P := h.imp fun x e => by rw [e]; exact p
theorem ev_var {i : Nat} (e : Γ[i]? = some (.dat d)) : EvD K B (tVar i) Γ d := fun F σ H ⟨G, s⟩ Q q => by
  obtain ⟨v, h1, h2⟩ := s.dat e
  exact ⟨v, h1, q v d H rfl ⟨G, s.step (T' := (v, d) :: F.T) (Grow.refl s.ex) fun p hp => by
    rcases List.mem_cons.mp hp with z | z
    · rw [z]; exact h2
    · exact s.tm p z⟩⟩
theorem S.c {v : V} (s : S K B Γ F σ H) (h : ∀ G, Da K G v d) : S K B Γ (F.dat v d) σ H := by
  obtain ⟨G, s⟩ := s
  refine ⟨G, s.len, s.grow, s.sl, fun p hp => ?_, s.xm, s.apart, s.mine⟩
  rcases List.mem_cons.mp hp with z | z
  · rw [z]; exact h G
  · exact s.tm p z
theorem ev_c {v : V} (h : ∀ G, Da K G v d) : EvD K B (tC v) Γ d := fun F σ H s Q q => q v d H rfl (s.c h)
theorem ev_int {i : Int} : EvD K B (tC (.int i)) Γ (.int i) := ev_c fun _ => .int i
theorem ev_str {i : Str} : EvD K B (tC (.str i)) Γ (.str i) := ev_c fun _ => .str i
theorem ev_bl {i : Bool} : EvD K B (tC (.bl i)) Γ (.bool i) := ev_c fun _ => .bl i
theorem ev_non : EvD K B (tC .non) Γ .none := ev_c fun _ => .non
theorem S.grown {G G' H' : Hp} {v : V} (s : S0 K B Γ F σ H G) (g : Grow [] G H G' H') (h : Da K G' v d) : S K B Γ (F.dat v d) σ H' :=
  ⟨G', s.step (T' := (v, d) :: F.T) g fun p hp => by
    rcases List.mem_cons.mp hp with z | z
    · rw [z]; exact h
    · exact (s.tm p z).mono g.g⟩
theorem ev_opP {r : R2} {Pa Pb : DD → Prop} (ha : Ev K B ta Γ Pa) (hb : Ev K B tb Γ Pb) (hr : ∀ x y, Pa x → Pb y → ∃ z, P z ∧ RD K r x y z) : Ev K B (tOp r ta tb) Γ P := fun F σ H s Q q =>
  ha F σ H s _ fun v x H1 px s1 => hb _ σ H1 s1 _ fun u y H2 py s2 => by
    obtain ⟨G, s2⟩ := s2
    obtain ⟨z, pz, hz⟩ := hr x y px py
    refine hz v u G H2 (s2.tm (v, x) (by simp)) (s2.tm (u, y) (by simp)) s2.ex Q fun v' G' H' g h => q v' z H' pz ?_
    exact (S.grown (d := z) s2 g h).drop fun p hp => by
      rcases List.mem_cons.mp hp with e | e
      · rw [e]; simp
      · simp [e]
theorem ev_op {r : R2} (ha : EvD K B ta Γ x) (hb : EvD K B tb Γ y) (hr : RD K r x y z) : EvD K B (tOp r ta tb) Γ z := ev_opP ha hb fun _ _ e1 e2 => ⟨z, rfl, by rw [e1, e2]; exact hr⟩
theorem ev_un {r : V → Hp → VK → Prop} (ha : EvD K B ta Γ x) (hr : RU K r x z) : EvD K B (tUn r ta) Γ z := fun F σ H s Q q =>
  ha F σ H s _ fun v x' H1 e s1 => by
    subst e
    obtain ⟨G, s1⟩ := s1
    refine hr v G H1 (s1.tm (v, x') (by simp)) s1.ex Q fun v' G' H' g h => q v' z H' rfl ?_
    exact (S.grown (d := z) s1 g h).drop fun p hp => by
      rcases List.mem_cons.mp hp with e | e
      · rw [e]; simp
      · simp [e]
end
end Ly

namespace Ly
open PySem L2
abbrev Fra.res1 (F : Fra) (v : V) (r : Res) : Fra := ⟨F.T, F.X ++ [(v, r)]⟩
section
variable {K : FK} {B : Bs} {Γ : List Sl} {F : Fra} {σ : St} {H G : Hp} {i : Nat} {v : V} {d : DD} {r r' : Res}
theorem ownAt_set {s : Sl} (j : Nat) (hi : i < Γ.length) : ownAt (Γ.set i s) F j = if j = i then s.as else ownAt Γ F j := by
  unfold ownAt
  rw [List.length_set]
  by_cases h : j = i
  · subst h
    rw [if_pos hi, if_pos rfl, List.getElem?_set_self hi]; rfl
  · rw [if_neg h, List.getElem?_set_ne (Ne.symm h)]
theorem ownAt_T {T' : List (V × DD)} (j : Nat) : ownAt Γ ⟨T', F.X⟩ j = ownAt Γ F j := rfl
theorem ownAt_res (j : Nat) : ownAt Γ (F.res1 v r) j = if j = Γ.length + F.X.length then r.as else ownAt Γ F j := by
  unfold ownAt
  by_cases h : j < Γ.length
  · rw [if_pos h, if_pos h, if_neg (by omega)]
  · rw [if_neg h, if_neg h]
    by_cases h2 : j = Γ.length + F.X.length
    · subst h2
      rw [if_pos rfl, Nat.add_sub_cancel_left, List.getElem?_append_right (Nat.le_refl _), Nat.sub_self]
      rfl
    · rw [if_neg h2]
      by_cases h3 : j - Γ.length < F.X.length
      · rw [List.getElem?_append_left h3]
      · rw [List.getElem?_append_right (by omega), List.getElem?_eq_none (by simp; omega), List.getElem?_eq_none (l := F.X) (by omega)]
theorem ownAt_end : ownAt Γ F (Γ.length + F.X.length) = [] := by
  unfold ownAt
  rw [if_neg (by omega), Nat.add_sub_cancel_left, List.getElem?_eq_none (Nat.le_refl _)]
theorem lt_len (s : S0 K B Γ F σ H G) {o : Option V} (h : σ[i]? = some o) : i < Γ.length := by
  have := (List.getElem?_eq_some_iff.mp h).1
  rw [← s.len]; exact this
theorem S0.setSl {s : Sl} {o : Option V} (h : S0 K B Γ F σ H G) (hi : i < Γ.length) (hs : SlOk K G H s (some o)) (ha : s.as = []) : S0 K B (Γ.set i s) F (σ.set i o) H G := by
  refine ⟨by simpa using h.len, h.grow, fun j t e => ?_, h.tm, h.xm, fun j k a h1 h2 => ?_, fun j a h1 => ?_⟩
  · by_cases hj : j = i
    · subst hj
      rw [List.getElem?_set_self hi] at e
      cases e
      rw [List.getElem?_set_self (by rw [h.len]; exact hi)]
      exact hs
    · rw [List.getElem?_set_ne (Ne.symm hj)] at e ⊢
      exact h.sl j t e
  · rw [ownAt_set _ hi] at h1 h2
    split at h1
    · rw [ha] at h1; cases h1
    · split at h2
      · rw [ha] at h2; cases h2
      · exact h.apart j k a h1 h2
  · rw [ownAt_set _ hi] at h1
    split at h1
    · rw [ha] at h1; cases h1
    · exact h.mine j a h1
theorem S0.setDat (h : S0 K B Γ F σ H G) (hi : i < Γ.length) (hd : (v, d) ∈ F.T) : S0 K B (Γ.set i (.dat d)) F (σ.set i (some v)) H G := h.setSl hi ⟨v, rfl, h.tm _ hd⟩ rfl
theorem S0.setNo {o : Option V} (h : S0 K B Γ F σ H G) (hi : i < Γ.length) : S0 K B (Γ.set i .no) F (σ.set i o) H G := h.setSl hi trivial rfl
/-- a slot forgotten -/
theorem S0.forget (h : S0 K B Γ F σ H G) : S0 K B (Γ.set i .no) F σ H G := by
  by_cases hi : i < Γ.length
  · have hσ : i < σ.length := by rw [h.len]; exact hi
    have e : σ.set i σ[i] = σ := List.set_getElem_self hσ
    have q := h.setNo (o := σ[i]) hi
    rw [e] at q; exact q
  · rw [List.set_eq_of_length_le (by omega)]; exact h
theorem S0.setOwn (h : S0 K B Γ (F.res1 v r) σ H G) (hi : i < Γ.length) : S0 K B (Γ.set i (.own r)) F (σ.set i (some v)) H G := by
  have hr : r.ok K G v H := h.xm (v, r) (by simp)
  refine ⟨by simpa using h.len, h.grow, fun j t e => ?_, h.tm, fun p hp => h.xm p (by simp [hp]), fun j k a h1 h2 => ?_, fun j a h1 => ?_⟩
  · by_cases hj : j = i
    · subst hj
      rw [List.getElem?_set_self hi] at e
      cases e
      rw [List.getElem?_set_self (by rw [h.len]; exact hi)]
      exact ⟨v, rfl, hr⟩
    · rw [List.getElem?_set_ne (Ne.symm hj)] at e ⊢
      exact h.sl j t e
  · rw [ownAt_set _ hi] at h1 h2
    have hA : ∀ j, a ∈ ownAt Γ F j → a ∈ ownAt Γ (F.res1 v r) j := fun j hj => by
      rw [ownAt_res]; split
      · rename_i e; subst e; rw [ownAt_end] at hj; cases hj
      · exact hj
    have hB : a ∈ r.as → a ∈ ownAt Γ (F.res1 v r) (Γ.length + F.X.length) := fun hj => by rw [ownAt_res, if_pos rfl]; exact hj
    split at h1 <;> split at h2
    · rename_i e1 e2; rw [e1, e2]
    · have := h.apart _ _ a (hB h1) (hA k h2)
      subst this; rw [ownAt_end] at h2; cases h2
    · have := h.apart _ _ a (hA j h1) (hB h2)
      subst this; rw [ownAt_end] at h1; cases h1
    · exact h.apart j k a (hA j h1) (hA k h2)
  · rw [ownAt_set _ hi] at h1
    split at h1
    · exact h.mine (Γ.length + F.X.length) a (by rw [ownAt_res, if_pos rfl]; exact h1)
    · refine h.mine j a ?_
      rw [ownAt_res]; split
      · rename_i e; subst e; rw [ownAt_end] at h1; cases h1
      · exact h1
/-- a new own thing -/
theorem S0.newRes {H' : Hp} (h : S0 K B Γ F σ H G) (g : Grow [] G H G H') (hr : r.ok K G v H') (hn : ∀ a ∈ r.as, H a = none) : S0 K B Γ (F.res1 v r) σ H' G := by
  have h' := h.step (T' := F.T) g fun p hp => h.tm p hp
  refine ⟨h'.len, h'.grow, h'.sl, h'.tm, fun p hp => ?_, fun j k a h1 h2 => ?_, fun j a h1 => ?_⟩
  · rcases List.mem_append.mp hp with z | z
    · exact h'.xm p z
    · rw [List.mem_singleton.mp z]; exact hr
  · rw [ownAt_res] at h1 h2
    split at h1 <;> split at h2
    · rename_i e1 e2; rw [e1, e2]
    · obtain ⟨o, ho⟩ := h.dom h2; rw [hn a h1] at ho; cases ho
    · obtain ⟨o, ho⟩ := h.dom h1; rw [hn a h2] at ho; cases ho
    · exact h.apart j k a h1 h2
  · rw [ownAt_res] at h1
    split at h1
    · have e := hn a h1
      refine ⟨h.ex.none e, ?_⟩
      cases q : B.H a with
      | none => exact .inr rfl
      | some o =>
        obtain ⟨o', e'⟩ := h.grow.dom a o q
        rw [e] at e'; cases e'
    · exact h'.mine j a h1
theorem S0.notLent {p : Addr} (h : S0 K B Γ F σ H G) (hp : H p = none) : p ∉ B.L := fun z => by
  obtain ⟨o, e⟩ := B.hL p z
  obtain ⟨o', e'⟩ := h.grow.dom p o e
  rw [hp] at e'; cases e'
theorem S0.newLst {p : Addr} {xs : List V} {ds : List DD} (h : S0 K B Γ F σ H G) (hp : H p = none) (hd : DaL K G xs ds) : S0 K B Γ (F.res1 (.ref p) (lstR p ds)) σ (upd H p (.lst xs)) G :=
  h.newRes (Grow.free h.ex hp) ⟨rfl, xs, upd_same, hd⟩ fun a ha => by
    have e : a = p := by simpa [lstR] using ha
    rw [e]; exact hp
/-- an own thing of a slot turns -/
theorem S0.updOwn {G' H' : Hp} {T' : List (V × DD)} (h : S0 K B Γ F σ H G) (hg : Γ[i]? = some (.own r)) (g : Grow r.as G H G' H') (ha : r'.as = r.as) (hv : σ[i]? = some (some v)) (hr : r'.ok K G' v H') (ht : ∀ p ∈ T', Da K G' p.1 p.2) :
    S0 K B (Γ.set i (.own r')) ⟨T', F.X⟩ σ H' G' := by
  have hi : i < Γ.length := (List.getElem?_eq_some_iff.mp hg).1
  have own : ∀ a, a ∈ r.as → a ∈ ownAt Γ F i := fun a z => by rw [ownAt_slot hg]; exact z
  have kp : ∀ j a o, j ≠ i → a ∈ ownAt Γ F j → H a = some o → H' a = some o := fun j a o hj z q => g.fr a o (fun y => hj (h.apart j i a z (own a y))) q
  have same : ∀ j, ownAt (Γ.set i (.own r')) ⟨T', F.X⟩ j = ownAt Γ F j := fun j => by
    rw [ownAt_set _ hi]; split
    · rename_i e; subst e; rw [ownAt_slot hg]; exact ha
    · exact ownAt_T j
  refine ⟨by simpa using h.len, ⟨h.grow.g.trans g.g, g.gh, fun a o n q => ?_, fun a o q n => ?_, fun a o q => ?_⟩, fun j t e => ?_, ht, fun p hp => ?_, fun j k a h1 h2 => ?_, fun j a h1 => ?_⟩
  · refine g.fr a o (fun z => ?_) (h.grow.fr a o n q)
    rcases (h.mine i a (own a z)).2 with y | y
    · exact n y
    · rw [y] at q; cases q
  · obtain ⟨o', q'⟩ := h.grow.dom a o q
    exact g.new a o' q' (h.grow.new a o q n)
  · obtain ⟨o', q'⟩ := h.grow.dom a o q
    exact g.dom a o' q'
  · by_cases hj : j = i
    · subst hj
      rw [List.getElem?_set_self hi] at e
      cases e
      exact ⟨v, hv, hr⟩
    · rw [List.getElem?_set_ne (Ne.symm hj)] at e
      exact (h.sl j t e).step g.g fun a u z q => kp j a u hj (by rw [ownAt_slot e]; exact z) q
  · obtain ⟨k, hk, ek⟩ := List.getElem_of_mem hp
    have ek' : F.X[k]? = some p := by rw [List.getElem?_eq_getElem hk, ek]
    refine p.2.mono g.g (p.2.loc (fun a o z q => kp (Γ.length + k) a o (by omega) (by rw [ownAt_fra ek']; exact z) q) (h.xm p hp))
  · rw [same] at h1 h2; exact h.apart j k a h1 h2
  · rw [same] at h1
    obtain ⟨o, ho⟩ := h.dom h1
    obtain ⟨m1, m2⟩ := h.mine j a h1
    exact ⟨g.new a o ho m1, m2⟩
/-- the last held own thing turns -/
theorem S0.updX {G' H' : Hp} {T' : List (V × DD)} (h : S0 K B Γ (F.res1 v r) σ H G) (g : Grow r.as G H G' H') (ha : r'.as = r.as) (hr : r'.ok K G' v H') (ht : ∀ p ∈ T', Da K G' p.1 p.2) :
    S0 K B Γ ⟨T', F.X ++ [(v, r')]⟩ σ H' G' := by
  have own : ∀ a, a ∈ r.as → a ∈ ownAt Γ (F.res1 v r) (Γ.length + F.X.length) := fun a z => by rw [ownAt_res, if_pos rfl]; exact z
  have kp : ∀ j a o, j ≠ Γ.length + F.X.length → a ∈ ownAt Γ (F.res1 v r) j → H a = some o → H' a = some o := fun j a o hj z q => g.fr a o (fun y => hj (h.apart j _ a z (own a y))) q
  have same : ∀ j, ownAt Γ ⟨T', F.X ++ [(v, r')]⟩ j = ownAt Γ (F.res1 v r) j := fun j => by
    have e := ownAt_res (Γ := Γ) (F := ⟨T', F.X⟩) (v := v) (r := r') j
    rw [show (⟨T', F.X ++ [(v, r')]⟩ : Fra) = Fra.res1 ⟨T', F.X⟩ v r' from rfl, e, ownAt_res]
    split
    · exact ha
    · rfl
  refine ⟨h.len, ⟨h.grow.g.trans g.g, g.gh, fun a o n q => ?_, fun a o q n => ?_, fun a o q => ?_⟩, fun j t e => ?_, ht, fun p hp => ?_, fun j k a h1 h2 => ?_, fun j a h1 => ?_⟩
  · refine g.fr a o (fun z => ?_) (h.grow.fr a o n q)
    rcases (h.mine _ a (own a z)).2 with y | y
    · exact n y
    · rw [y] at q; cases q
  · obtain ⟨o', q'⟩ := h.grow.dom a o q
    exact g.new a o' q' (h.grow.new a o q n)
  · obtain ⟨o', q'⟩ := h.grow.dom a o q
    exact g.dom a o' q'
  · have hj : j < Γ.length := (List.getElem?_eq_some_iff.mp e).1
    exact (h.sl j t e).step g.g fun a u z q => kp j a u (by omega) (by rw [ownAt_slot e]; exact z) q
  · rcases List.mem_append.mp hp with z | z
    · obtain ⟨k, hk, ek⟩ := List.getElem_of_mem z
      have ek' : (F.res1 v r).X[k]? = some p := by
        show (F.X ++ [(v, r)])[k]? = some p
        rw [List.getElem?_append_left hk, List.getElem?_eq_getElem hk, ek]
      exact p.2.mono g.g (p.2.loc (fun a o z q => kp (Γ.length + k) a o (by omega) (by rw [ownAt_fra ek']; exact z) q) (h.xm p (List.mem_append_left _ z)))
    · rw [List.mem_singleton.mp z]; exact hr
  · rw [same] at h1 h2; exact h.apart j k a h1 h2
  · rw [same] at h1
    obtain ⟨o, ho⟩ := h.dom h1
    obtain ⟨m1, m2⟩ := h.mine j a h1
    exact ⟨g.new a o ho m1, m2⟩
/-- what is owned and not at p -/
theorem S0.thaw {p : Addr} {ob : HO} (h : S0 K B Γ F σ H G) (hp : H p = some ob) (hg : G p = none) (hb : p ∈ B.L ∨ B.H p = none) (ha : ∀ j, p ∉ ownAt Γ F j) (hl : p ∉ B.L) : S0 K B Γ F σ H (upd G p ob) := by
  have e : Ex G (upd G p ob) := Ex.new hg
  refine ⟨h.len, ⟨h.grow.g.trans e, fun a o q => ?_, h.grow.fr, fun a o q n => ?_, h.grow.dom⟩, fun j t z => (h.sl j t z).step e fun _ _ _ q => q, fun q hq => (h.tm q hq).mono e, fun q hq => q.2.mono e (h.xm q hq), h.apart, fun j a z => ?_⟩
  · by_cases hx : a = p
    · subst hx; rw [upd_same] at q; cases q; exact hp
    · rw [upd_ne hx] at q; exact h.ex a o q
  · rw [upd_ne (fun z => ?_)]
    · exact h.grow.new a o q n
    · subst z
      rcases hb with y | y
      · exact hl y
      · rw [y] at q; cases q
  · rw [upd_ne (fun y => ha j (by rw [← y]; exact z))]
    exact h.mine j a z
/-- an own list (made here) becomes data -/
theorem S0.freeze {p : Addr} {ds : List DD} (h : S0 K B Γ F σ H G) (hg : Γ[i]? = some (.own (lstR p ds))) (hl : p ∉ B.L) : S K B (Γ.set i (.dat (.list ds))) F σ H := by
  have hi : i < Γ.length := (List.getElem?_eq_some_iff.mp hg).1
  obtain ⟨v, hv, rfl, xs, hp, hd⟩ := h.own hg
  have hm : p ∈ ownAt Γ F i := by rw [ownAt_slot hg]; simp [Sl.as, lstR]
  obtain ⟨m1, m2⟩ := h.mine i p hm
  have hs : i < σ.length := by rw [h.len]; exact hi
  have eσ : σ.set i (some (.ref p)) = σ := by
    have : σ[i] = some (.ref p) := by
      rw [List.getElem?_eq_getElem hs] at hv; exact Option.some.inj hv
    rw [← this]; exact List.set_getElem_self hs
  have h0 : S0 K B (Γ.set i .no) F σ H G := h.forget
  have h1 := h0.thaw (p := p) (ob := .lst xs) hp m1 m2 (fun j z => by
    rw [ownAt_set _ hi] at z
    split at z
    · cases z
    · rename_i hj; exact hj (h.apart j i p z hm)) hl
  have h2 := h1.setSl (i := i) (s := .dat (.list ds)) (o := some (.ref p)) (by simpa using hi) ⟨_, rfl, .lst upd_same (hd.mono (Ex.new m1))⟩ rfl
  rw [List.set_set, eσ] at h2
  exact ⟨_, h2⟩
theorem S0.freezeX {p : Addr} {ds : List DD} (h : S0 K B Γ (F.res1 (.ref p) (lstR p ds)) σ H G) (hl : p ∉ B.L) : S K B Γ (F.dat (.ref p) (.list ds)) σ H := by
  obtain ⟨_, xs, hp, hd⟩ := h.xm (.ref p, lstR p ds) (by simp)
  have hm : p ∈ ownAt Γ (F.res1 (.ref p) (lstR p ds)) (Γ.length + F.X.length) := by rw [ownAt_res, if_pos rfl]; simp [lstR]
  obtain ⟨m1, m2⟩ := h.mine _ p hm
  have hA : ∀ j a, a ∈ ownAt Γ F j → a ∈ ownAt Γ (F.res1 (.ref p) (lstR p ds)) j := fun j a hj => by
    rw [ownAt_res]; split
    · rename_i e; subst e; rw [ownAt_end] at hj; cases hj
    · exact hj
  have h0 : S0 K B Γ F σ H G := ⟨h.len, h.grow, h.sl, h.tm, fun q hq => h.xm q (by simp [hq]), fun j k a z y => h.apart j k a (hA j a z) (hA k a y), fun j a z => h.mine j a (hA j a z)⟩
  have h1 := h0.thaw (p := p) (ob := .lst xs) hp m1 m2 (fun j z => by
    have := h.apart _ _ p (hA j p z) hm
    subst this; rw [ownAt_end] at z; cases z) hl
  refine ⟨_, h1.len, h1.grow, h1.sl, fun q hq => ?_, h1.xm, h1.apart, h1.mine⟩
  rcases List.mem_cons.mp hq with z | z
  · rw [z]; exact .lst upd_same (hd.mono (Ex.new m1))
  · exact h1.tm q z
/-- an own thing of one object becomes data -/
theorem S0.freezeR {p : Addr} {d : DD} (h : S0 K B Γ F σ H G) (hg : Γ[i]? = some (.own r)) (has : r.as = [p]) (hd : ∀ v, r.ok K G v H → v = .ref p ∧ ∃ o, H p = some o ∧ ∀ G', Ex G G' → G' p = some o → Da K G' (.ref p) d) (hl : p ∉ B.L) : S K B (Γ.set i (.dat d)) F σ H := by
  have hi : i < Γ.length := (List.getElem?_eq_some_iff.mp hg).1
  obtain ⟨v, hv, hr⟩ := h.own hg
  obtain ⟨rfl, o, hp, hdd⟩ := hd v hr
  have hm : p ∈ ownAt Γ F i := by rw [ownAt_slot hg]; simp [Sl.as, has]
  obtain ⟨m1, m2⟩ := h.mine i p hm
  have hs : i < σ.length := by rw [h.len]; exact hi
  have eσ : σ.set i (some (.ref p)) = σ := by
    have : σ[i] = some (.ref p) := by
      rw [List.getElem?_eq_getElem hs] at hv; exact Option.some.inj hv
    rw [← this]; exact List.set_getElem_self hs
  have h0 : S0 K B (Γ.set i .no) F σ H G := h.forget
  have h1 := h0.thaw (p := p) (ob := o) hp m1 m2 (fun j z => by
    rw [ownAt_set _ hi] at z
    split at z
    · cases z
    · rename_i hj; exact hj (h.apart j i p z hm)) hl
  have h2 := h1.setSl (i := i) (s := .dat d) (o := some (.ref p)) (by simpa using hi) ⟨_, rfl, hdd _ (Ex.new m1) upd_same⟩ rfl
  rw [List.set_set, eσ] at h2
  exact ⟨_, h2⟩
theorem S0.freezeRX {p : Addr} {d : DD} (h : S0 K B Γ (F.res1 (.ref p) r) σ H G) (has : r.as = [p]) (hd : ∀ v, r.ok K G v H → v = .ref p ∧ ∃ o, H p = some o ∧ ∀ G', Ex G G' → G' p = some o → Da K G' (.ref p) d) (hl : p ∉ B.L) : S K B Γ (F.dat (.ref p) d) σ H := by
  obtain ⟨_, o, hp, hdd⟩ := hd _ (h.xm (.ref p, r) (by simp))
  have hm : p ∈ ownAt Γ (F.res1 (.ref p) r) (Γ.length + F.X.length) := by rw [ownAt_res, if_pos rfl]; simp [has]
  obtain ⟨m1, m2⟩ := h.mine _ p hm
  have hA : ∀ j a, a ∈ ownAt Γ F j → a ∈ ownAt Γ (F.res1 (.ref p) r) j := fun j a hj => by
    rw [ownAt_res]; split
    · rename_i e; subst e; rw [ownAt_end] at hj; cases hj
    · exact hj
  have h0 : S0 K B Γ F σ H G := ⟨h.len, h.grow, h.sl, h.tm, fun q hq => h.xm q (by simp [hq]), fun j k a z y => h.apart j k a (hA j a z) (hA k a y), fun j a z => h.mine j a (hA j a z)⟩
  have h1 := h0.thaw (p := p) (ob := o) hp m1 m2 (fun j z => by
    have := h.apart _ _ p (hA j p z) hm
    subst this; rw [ownAt_end] at z; cases z) hl
  refine ⟨_, h1.len, h1.grow, h1.sl, fun q hq => ?_, h1.xm, h1.apart, h1.mine⟩
  rcases List.mem_cons.mp hq with z | z
  · rw [z]; exact hdd _ (Ex.new m1) upd_same
  · exact h1.tm q z
end
end Ly

namespace Ly
open PySem L2
section
variable {K : FK} {B : Bs} {Γ : List Sl} {ta tb tc te : TE} {P : DD → Prop} {x y z d : DD}
theorem rd_I0 {g : Int → Int → V} {a b : Int} (h : ∀ G, Da K G (g a b) z) : RD K (rI0 g) (.int a) (.int b) z := fun v u G H hv hu e Q q => by
  rw [hv.int_inv, hu.int_inv]
  exact ⟨a, b, rfl, rfl, q _ G H (Grow.refl e) (h G)⟩
theorem rd_I {C : Int → Int → Prop} {g : Int → Int → V} {a b : Int} (hc : C a b) (h : ∀ G, Da K G (g a b) z) : RD K (rI C g) (.int a) (.int b) z := fun v u G H hv hu e Q q => by
  rw [hv.int_inv, hu.int_inv]
  exact ⟨a, b, rfl, rfl, hc, q _ G H (Grow.refl e) (h G)⟩
section
variable {a b : Int}
theorem ev_add (ha : EvD K B ta Γ (.int a)) (hb : EvD K B tb Γ (.int b)) : EvD K B (tOp (rI0 fun i j => .int (i + j)) ta tb) Γ (.int (a + b)) := ev_op ha hb (rd_I0 fun _ => .int _)
theorem ev_sub (ha : EvD K B ta Γ (.int a)) (hb : EvD K B tb Γ (.int b)) : EvD K B (tOp (rI0 fun i j => .int (i - j)) ta tb) Γ (.int (a - b)) := ev_op ha hb (rd_I0 fun _ => .int _)
theorem ev_mul (ha : EvD K B ta Γ (.int a)) (hb : EvD K B tb Γ (.int b)) (hc : CMul a b) : EvD K B (tOp (rI CMul fun i j => .int (i * j)) ta tb) Γ (.int (a * b)) := ev_op ha hb (rd_I hc fun _ => .int _)
theorem ev_fdiv (ha : EvD K B ta Γ (.int a)) (hb : EvD K B tb Γ (.int b)) (hc : CDiv a b) : EvD K B (tOp (rI CDiv fun i j => .int (i / j)) ta tb) Γ (.int (a / b)) := ev_op ha hb (rd_I hc fun _ => .int _)
theorem ev_mod (ha : EvD K B ta Γ (.int a)) (hb : EvD K B tb Γ (.int b)) (hc : 0 < b) : EvD K B (tOp (rI (fun _ j => 0 < j) fun i j => .int (i % j)) ta tb) Γ (.int (a % b)) := ev_op ha hb (rd_I hc fun _ => .int _)
theorem ev_pow (ha : EvD K B ta Γ (.int a)) (hb : EvD K B tb Γ (.int b)) (hc : CPow a b) : EvD K B (tOp (rI CPow fun i j => .int (i ^ j.toNat)) ta tb) Γ (.int (a ^ b.toNat)) := ev_op ha hb (rd_I hc fun _ => .int _)
theorem ev_lt (ha : EvD K B ta Γ (.int a)) (hb : EvD K B tb Γ (.int b)) : EvD K B (tOp (rI0 fun i j => .bl (decide (i < j))) ta tb) Γ (.bool (decide (a < b))) := ev_op ha hb (rd_I0 fun _ => .bl _)
theorem ev_le (ha : EvD K B ta Γ (.int a)) (hb : EvD K B tb Γ (.int b)) : EvD K B (tOp (rI0 fun i j => .bl (decide (i ≤ j))) ta tb) Γ (.bool (decide (a ≤ b))) := ev_op ha hb (rd_I0 fun _ => .bl _)
theorem ev_gt (ha : EvD K B ta Γ (.int a)) (hb : EvD K B tb Γ (.int b)) : EvD K B (tOp (rI0 fun i j => .bl (decide (j < i))) ta tb) Γ (.bool (decide (b < a))) := ev_op ha hb (rd_I0 fun _ => .bl _)
theorem ev_ge (ha : EvD K B ta Γ (.int a)) (hb : EvD K B tb Γ (.int b)) : EvD K B (tOp (rI0 fun i j => .bl (decide (j ≤ i))) ta tb) Γ (.bool (decide (b ≤ a))) := ev_op ha hb (rd_I0 fun _ => .bl _)
theorem ev_neg (ha : EvD K B ta Γ (.int a)) : EvD K B (tUn (rU fun i => .int (-i)) ta) Γ (.int (-a)) := ev_un ha fun v G H hv e Q q => by
  rw [hv.int_inv]
  exact ⟨a, rfl, q _ G H (Grow.refl e) (.int _)⟩
end
theorem dp_ex {G H : Hp} {v : V} (e : Ex G H) (h : Da K G v d) (c : SeqAt.shaped d = true) : Dp K H v d := (h.mono e).dp (SeqAt.canLay_of_shaped c)
theorem ev_eqD (ha : EvD K B ta Γ x) (hb : EvD K B tb Γ y) (sx : SeqAt.shaped x = true) (sy : SeqAt.shaped y = true) : EvD K B (tOp (rEqD K) ta tb) Γ (.bool (PyData.eqv x y)) :=
  ev_op ha hb fun v u G H hv hu e Q q => ⟨x, y, dp_ex e hv sx, dp_ex e hu sy, sx, sy, q _ G H (Grow.refl e) (.bl _)⟩
theorem ev_neD (ha : EvD K B ta Γ x) (hb : EvD K B tb Γ y) (sx : SeqAt.shaped x = true) (sy : SeqAt.shaped y = true) : EvD K B (tOp (rNeD K) ta tb) Γ (.bool (!PyData.eqv x y)) :=
  ev_op ha hb fun v u G H hv hu e Q q => ⟨x, y, dp_ex e hv sx, dp_ex e hu sy, sx, sy, q _ G H (Grow.refl e) (.bl _)⟩
/-- == of scalars by the plain rule -/
theorem ev_eqS {s1 s2 : Str} (ha : EvD K B ta Γ (.str s1)) (hb : EvD K B tb Γ (.str s2)) : EvD K B (tOp rEq ta tb) Γ (.bool (decide (s1 = s2))) :=
  ev_op ha hb fun v u G H hv hu e Q q => by
    rw [hv.str_inv, hu.str_inv]
    refine ⟨rfl, ?_⟩
    have : decide (V.str s1 = V.str s2) = decide (s1 = s2) := by simp
    rw [this]
    exact q _ G H (Grow.refl e) (.bl _)
theorem ev_eqI {a b : Int} (ha : EvD K B ta Γ (.int a)) (hb : EvD K B tb Γ (.int b)) : EvD K B (tOp rEq ta tb) Γ (.bool (decide (a = b))) :=
  ev_op ha hb fun v u G H hv hu e Q q => by
    rw [hv.int_inv, hu.int_inv]
    refine ⟨rfl, ?_⟩
    have : decide (V.int a = V.int b) = decide (a = b) := by simp
    rw [this]
    exact q _ G H (Grow.refl e) (.bl _)
theorem ev_eqB {a b : Bool} (ha : EvD K B ta Γ (.bool a)) (hb : EvD K B tb Γ (.bool b)) : EvD K B (tOp rEq ta tb) Γ (.bool (decide (a = b))) :=
  ev_op ha hb fun v u G H hv hu e Q q => by
    rw [hv.bl_inv, hu.bl_inv]
    refine ⟨rfl, ?_⟩
    have : decide (V.bl a = V.bl b) = decide (a = b) := by simp
    rw [this]
    exact q _ G H (Grow.refl e) (.bl _)
theorem ev_neS {s1 s2 : Str} (ha : EvD K B ta Γ (.str s1)) (hb : EvD K B tb Γ (.str s2)) : EvD K B (tOp rNe ta tb) Γ (.bool (!decide (s1 = s2))) :=
  ev_op ha hb fun v u G H hv hu e Q q => by
    rw [hv.str_inv, hu.str_inv]
    refine ⟨rfl, ?_⟩
    have : decide (V.str s1 = V.str s2) = decide (s1 = s2) := by simp
    rw [this]
    exact q _ G H (Grow.refl e) (.bl _)
theorem ev_neI {a b : Int} (ha : EvD K B ta Γ (.int a)) (hb : EvD K B tb Γ (.int b)) : EvD K B (tOp rNe ta tb) Γ (.bool (!decide (a = b))) :=
  ev_op ha hb fun v u G H hv hu e Q q => by
    rw [hv.int_inv, hu.int_inv]
    refine ⟨rfl, ?_⟩
    have : decide (V.int a = V.int b) = decide (a = b) := by simp
    rw [this]
    exact q _ G H (Grow.refl e) (.bl _)
def isNone : DD → Bool
  | .none => true
  | _ => false
theorem Da.isNone {G : Hp} {v : V} (h : Da K G v d) : decide (v = .non) = isNone d := by
  cases h <;> simp [Ly.isNone]
theorem ev_isN (ha : EvD K B ta Γ x) : EvD K B (tOp (fun x y H Q => y = .non ∧ Q (.bl (decide (x = .non))) H) ta (tC .non)) Γ (.bool (isNone x)) :=
  ev_op ha ev_non fun v u G H hv hu e Q q => by
    rw [hu.non_inv, hv.isNone]
    exact ⟨rfl, q _ G H (Grow.refl e) (.bl _)⟩
theorem ev_notN (ha : EvD K B ta Γ x) : EvD K B (tOp (fun x y H Q => y = .non ∧ Q (.bl (!decide (x = .non))) H) ta (tC .non)) Γ (.bool (!isNone x)) :=
  ev_op ha ev_non fun v u G H hv hu e Q q => by
    rw [hu.non_inv, hv.isNone]
    exact ⟨rfl, q _ G H (Grow.refl e) (.bl _)⟩
variable {tt tu : TT} {b c : Bool}
theorem et_test (h : EvD K B te Γ (.bool b)) : EvT K B (tTest te) Γ b := fun F σ H s Q q => h F σ H s _ fun v d H' e s' => by
  subst e
  obtain ⟨G, s1⟩ := id s'
  have hv := (s1.tm (v, .bool b) (by simp)).bl_inv
  exact ⟨b, hv, q H' s'.pop⟩
theorem et_B (h : EvD K B te Γ (.bool b)) : EvT K B (tB te) Γ b := et_test h
theorem et_not (h : EvT K B tt Γ b) : EvT K B (tNot tt) Γ (!b) := fun F σ H s Q q => h F σ H s _ fun H' s' => q H' s'
theorem et_and (h : EvT K B tt Γ b) (h2 : b = true → EvT K B tu Γ c) : EvT K B (tAnd tt tu) Γ (b && c) := fun F σ H s Q q => h F σ H s _ fun H' s' => by
  cases b with
  | true => exact h2 rfl F σ H' s' Q q
  | false => exact q H' s'
theorem et_or (h : EvT K B tt Γ b) (h2 : b = false → EvT K B tu Γ c) : EvT K B (tOr tt tu) Γ (b || c) := fun F σ H s Q q => h F σ H s _ fun H' s' => by
  cases b with
  | true => exact q H' s'
  | false => exact h2 rfl F σ H' s' Q q
theorem EvT.to (h : EvT K B tt Γ b) (e : b = c) : EvT K B tt Γ c := e ▸ h
theorem ev_andV (h : EvD K B ta Γ (.bool b)) (h2 : b = true → EvD K B tb Γ (.bool c)) : EvD K B (tAndV ta tb) Γ (.bool (b && c)) := fun F σ H s Q q => h F σ H s _ fun v d H' e s' => by
  subst e
  obtain ⟨G, s1⟩ := id s'
  have hv := (s1.tm (v, .bool b) (by simp)).bl_inv
  refine ⟨b, hv, ?_⟩
  cases b with
  | true => exact h2 rfl F σ H' s'.pop Q q
  | false => exact q (.bl false) _ H' rfl (s'.pop.c fun _ => .bl false)
theorem ev_orV (h : EvD K B ta Γ (.bool b)) (h2 : b = false → EvD K B tb Γ (.bool c)) : EvD K B (tOrV ta tb) Γ (.bool (b || c)) := fun F σ H s Q q => h F σ H s _ fun v d H' e s' => by
  subst e
  obtain ⟨G, s1⟩ := id s'
  have hv := (s1.tm (v, .bool b) (by simp)).bl_inv
  refine ⟨b, hv, ?_⟩
  cases b with
  | true => exact q (.bl true) _ H' rfl (s'.pop.c fun _ => .bl true)
  | false => exact h2 rfl F σ H' s'.pop Q q
theorem ev_notV (h : EvD K B ta Γ (.bool b)) : EvD K B (tNotV ta) Γ (.bool (!b)) := fun F σ H s Q q => h F σ H s _ fun v d H' e s' => by
  subst e
  obtain ⟨G, s1⟩ := id s'
  have hv := (s1.tm (v, .bool b) (by simp)).bl_inv
  exact ⟨b, hv, q (.bl (!b)) _ H' rfl (s'.pop.c fun _ => .bl _)⟩
theorem ev_ifP (h : EvT K B tt Γ b) (h1 : b = true → Ev K B ta Γ P) (h2 : b = false → Ev K B tb Γ P) : Ev K B (tIf tt ta tb) Γ P := fun F σ H s Q q => h F σ H s _ fun H' s' => by
  cases b with
  | true => exact h1 rfl F σ H' s' Q q
  | false => exact h2 rfl F σ H' s' Q q
theorem ev_if (h : EvT K B tt Γ b) (h1 : b = true → EvD K B ta Γ x) (h2 : b = false → EvD K B tb Γ y) : EvD K B (tIf tt ta tb) Γ (if b = true then x else y) :=
  ev_ifP h (fun e => by rw [if_pos e]; exact h1 e) (fun e => by rw [if_neg (by simp [e])]; exact h2 e)
theorem ev_ifI {i j : Int} (h : EvT K B tt Γ b) (h1 : b = true → EvD K B ta Γ (.int i)) (h2 : b = false → EvD K B tb Γ (.int j)) : EvD K B (tIf tt ta tb) Γ (.int (if b = true then i else j)) :=
  ev_ifP h (fun e => by rw [if_pos e]; exact h1 e) (fun e => by rw [if_neg (by simp [e])]; exact h2 e)
theorem ev_ifS {i j : Str} (h : EvT K B tt Γ b) (h1 : b = true → EvD K B ta Γ (.str i)) (h2 : b = false → EvD K B tb Γ (.str j)) : EvD K B (tIf tt ta tb) Γ (.str (if b = true then i else j)) :=
  ev_ifP h (fun e => by rw [if_pos e]; exact h1 e) (fun e => by rw [if_neg (by simp [e])]; exact h2 e)
theorem ev_ifL {i j : List DD} (h : EvT K B tt Γ b) (h1 : b = true → EvD K B ta Γ (.list i)) (h2 : b = false → EvD K B tb Γ (.list j)) : EvD K B (tIf tt ta tb) Γ (.list (if b = true then i else j)) :=
  ev_ifP h (fun e => by rw [if_pos e]; exact h1 e) (fun e => by rw [if_neg (by simp [e])]; exact h2 e)
theorem ev_ifU {i j : List DD} (h : EvT K B tt Γ b) (h1 : b = true → EvD K B ta Γ (.tuple i)) (h2 : b = false → EvD K B tb Γ (.tuple j)) : EvD K B (tIf tt ta tb) Γ (.tuple (if b = true then i else j)) :=
  ev_ifP h (fun e => by rw [if_pos e]; exact h1 e) (fun e => by rw [if_neg (by simp [e])]; exact h2 e)
theorem ev_ifB {i j : Bool} (h : EvT K B tt Γ b) (h1 : b = true → EvD K B ta Γ (.bool i)) (h2 : b = false → EvD K B tb Γ (.bool j)) : EvD K B (tIf tt ta tb) Γ (.bool (if b = true then i else j)) :=
  ev_ifP h (fun e => by rw [if_pos e]; exact h1 e) (fun e => by rw [if_neg (by simp [e])]; exact h2 e)
/-- a <= b <= c -/
theorem ev_chain {r r' : R2} {w : DD} (ha : EvD K B ta Γ x) (hb : EvD K B tb Γ y) (hc : b = true → EvD K B tc Γ w) (h1 : RD K r x y (.bool b)) (h2 : b = true → RD K r' y w (.bool c)) : EvD K B (tChain r r' ta tb tc) Γ (.bool (b && c)) :=
  fun F σ H s Q q => ha F σ H s _ fun v x' H1 e1 s1 => hb _ σ H1 s1 _ fun u y' H2 e2 s2 => by
    subst e1 e2
    obtain ⟨G, s2⟩ := s2
    refine h1 v u G H2 (s2.tm (v, x') (by simp)) (s2.tm (u, y') (by simp)) s2.ex _ fun v' G' H' g hv' => ⟨b, hv'.bl_inv, ?_⟩
    have s3 : S K B Γ (Fra.dat ⟨(u, y') :: F.T, F.X⟩ v' (.bool b)) σ H' := (S.grown (d := .bool b) s2 g hv').drop fun p hp => by
      simp at hp ⊢
      rcases hp with e | e | e <;> simp [e]
    cases b with
    | false => exact q (.bl false) _ H' rfl ((s3.drop (T' := F.T) fun p hp => by simp [hp]).c fun _ => .bl false)
    | true =>
      show tc σ H' _
      refine hc rfl _ σ H' s3 _ fun w' x3 H4 e3 s4 => ?_
      subst e3
      obtain ⟨G4, s4⟩ := s4
      refine h2 rfl u w' G4 H4 (s4.tm (u, y') (by simp)) (s4.tm (w', x3) (by simp)) s4.ex Q fun v5 G5 H5 g5 hv5 => q v5 _ H5 rfl ?_
      exact (S.grown (d := .bool c) s4 g5 hv5).drop fun p hp => by
        simp at hp ⊢
        rcases hp with e | e <;> simp [e]
theorem ea_nil : EvAD K B tNil Γ [] := fun F σ H s Q q => q [] [] H rfl rfl s
theorem ea_consP {tr : TA} {Ps : List DD → Prop} {Pr : List DD → Prop} (h : Ev K B te Γ P) (hr : EvA K B tr Γ Pr) (k : ∀ d ds, P d → Pr ds → Ps (d :: ds)) : EvA K B (tCons te tr) Γ Ps := fun F σ H s Q q =>
  h F σ H s _ fun v d H1 p1 s1 => hr _ σ H1 s1 _ fun vs ds H2 p2 l2 s2 => q (v :: vs) (d :: ds) H2 (k d ds p1 p2) (congrArg (· + 1) l2) (s2.drop fun p hp => by
    simp only [List.zip_cons_cons, List.cons_append, List.mem_cons, List.mem_append] at hp ⊢
    rcases hp with e | e | e
    · exact .inr (.inl e)
    · exact .inl e
    · exact .inr (.inr e))
theorem ea_cons {tr : TA} {ds : List DD} (h : EvD K B te Γ d) (hr : EvAD K B tr Γ ds) : EvAD K B (tCons te tr) Γ (d :: ds) := ea_consP h hr fun _ _ e1 e2 => by rw [e1, e2]
theorem daL_zip {G : Hp} : ∀ {vs : List V} {ds : List DD}, vs.length = ds.length → (∀ p ∈ vs.zip ds, Da K G p.1 p.2) → DaL K G vs ds
  | [], [], _, _ => .nil
  | [], _ :: _, e, _ => by cases e
  | _ :: _, [], e, _ => by cases e
  | v :: vs, d :: ds, e, h => .cons (h (v, d) (by simp)) (daL_zip (Nat.succ.inj e) fun p hp => h p (by simp [hp]))
theorem sz_of {n : Nat} (h : n ≤ 16000000) : n ≤ sizeLine := Nat.le_trans h (by decide)
theorem sz_lt {n : Nat} (h : n < 16000000) : n < sizeLine := Nat.lt_of_lt_of_le h (by decide)
theorem ev_tupP {ta : TA} {Ps : List DD → Prop} (h : EvA K B ta Γ Ps) (hl : ∀ ds, Ps ds → ds.length ≤ 16000000 ∧ P (.tuple ds)) : Ev K B (tTup ta) Γ P := fun F σ H s Q q =>
  h F σ H s _ fun vs ds H1 p l s1 => by
    obtain ⟨G, s1⟩ := s1
    refine ⟨sz_of (by rw [l]; exact (hl ds p).1), fun a ha => q (.ref a) (.tuple ds) _ (hl ds p).2 ?_⟩
    have hd : DaL K G vs ds := daL_zip l fun p hp => s1.tm p (by simp [hp])
    exact (S.grown (d := .tuple ds) s1 (Grow.laid s1.ex ha) (.tup (SqT.of upd_same) (hd.mono (Ex.new (s1.ex.none ha))))).drop fun p hp => by
      simp at hp ⊢
      rcases hp with e | e <;> simp [e]
theorem ev_tup {ta : TA} {ds : List DD} (h : EvAD K B ta Γ ds) (hl : Nat.ble ds.length 16000000 = true := by rfl) : EvD K B (tTup ta) Γ (.tuple ds) := ev_tupP h fun es e => by rw [e]; exact ⟨Nat.le_of_ble_eq_true hl, rfl⟩
variable (K B) in
/-- a new own list comes -/
def EvN (te : TE) (Γ : List Sl) (P : List DD → Prop) : Prop := ∀ F σ H, S K B Γ F σ H → ∀ Q : VK, (∀ p ds H', P ds → p ∉ B.L → S K B Γ (F.res1 (.ref p) (lstR p ds)) σ H' → Q (.ref p) H') → te σ H Q
variable (K B) in
abbrev EvND (te : TE) (Γ : List Sl) (ds : List DD) : Prop := EvN K B te Γ (fun x => x = ds)
theorem EvN.ev {Ps : List DD → Prop} (h : EvN K B te Γ Ps) (k : ∀ ds, Ps ds → P (.list ds)) : Ev K B te Γ P := fun F σ H s Q q =>
  h F σ H s _ fun p ds H' hp hl ⟨G, s'⟩ => q (.ref p) (.list ds) H' (k ds hp) (s'.freezeX hl)
theorem EvN.dat {ds : List DD} (h : EvND K B te Γ ds) : EvD K B te Γ (.list ds) := EvN.ev (P := fun x => x = .list ds) h fun _ e => by rw [e]
theorem EvND.to {ds es : List DD} (h : EvND K B te Γ ds) (e : ds = es) : EvND K B te Γ es := e ▸ h
theorem en_lstP {ta : TA} {Ps : List DD → Prop} (h : EvA K B ta Γ Ps) (hl : ∀ ds, Ps ds → ds.length ≤ 16000000) : EvN K B (tLst ta) Γ Ps := fun F σ H s Q q =>
  h F σ H s _ fun vs ds H1 p l s1 => by
    obtain ⟨G, s1⟩ := s1
    refine ⟨sz_of (by rw [l]; exact hl ds p), fun a ha => q a ds _ p (s1.notLent ha) ?_⟩
    have hd : DaL K G vs ds := daL_zip l fun p hp => s1.tm p (by simp [hp])
    exact ⟨G, (s1.newLst ha hd).drop fun p hp => by simp [hp]⟩
theorem en_lst {ta : TA} {ds : List DD} (h : EvAD K B ta Γ ds) (hl : Nat.ble ds.length 16000000 = true := by rfl) : EvND K B (tLst ta) Γ ds := en_lstP h fun es e => by rw [e]; exact Nat.le_of_ble_eq_true hl
/-- an operation that lays a new list -/
def RN (K : FK) (r : R2) (x y : DD) (zs : List DD) : Prop := ∀ v u G H, Da K G v x → Da K G u y → Ex G H → ∀ Q : VK, (∀ p xs, H p = none → DaL K G xs zs → Q (.ref p) (upd H p (.lst xs))) → r v u H Q
theorem en_opP {r : R2} {Pa Pb : DD → Prop} {Ps : List DD → Prop} (ha : Ev K B ta Γ Pa) (hb : Ev K B tb Γ Pb) (hr : ∀ x y, Pa x → Pb y → ∃ zs, Ps zs ∧ RN K r x y zs) : EvN K B (tOp r ta tb) Γ Ps := fun F σ H s Q q =>
  ha F σ H s _ fun v x' H1 e1 s1 => hb _ σ H1 s1 _ fun u y' H2 e2 s2 => by
    obtain ⟨G, s2⟩ := s2
    obtain ⟨zs, pz, hz⟩ := hr x' y' e1 e2
    refine hz v u G H2 (s2.tm (v, x') (by simp)) (s2.tm (u, y') (by simp)) s2.ex Q fun p xs hp hx => q p zs _ pz (s2.notLent hp) ⟨G, (s2.newLst hp hx).drop fun p hp => by simp [hp]⟩
theorem en_op {r : R2} {zs : List DD} (ha : EvD K B ta Γ x) (hb : EvD K B tb Γ y) (hr : RN K r x y zs) : EvND K B (tOp r ta tb) Γ zs := en_opP ha hb fun _ _ e1 e2 => ⟨zs, rfl, by rw [e1, e2]; exact hr⟩
theorem rn_cat {xs ys : List DD} (hl : xs.length + ys.length ≤ 16000000) : RN K rCat (.list xs) (.list ys) (xs ++ ys) := fun v u G H hv hu e Q q => by
  obtain ⟨a, vs, rfl, ha, hs⟩ := hv.lst_inv
  obtain ⟨b, us, rfl, hb, ht⟩ := hu.lst_inv
  exact ⟨a, b, vs, us, rfl, rfl, e _ _ ha, e _ _ hb, sz_of (by rw [hs.length, ht.length]; exact hl), fun p hp => q p _ hp (hs.append ht)⟩
theorem en_cat {xs ys : List DD} (ha : EvD K B ta Γ (.list xs)) (hb : EvD K B tb Γ (.list ys)) (hl : xs.length + ys.length ≤ 16000000) : EvND K B (tOp rCat ta tb) Γ (xs ++ ys) := en_op ha hb (rn_cat hl)
theorem rn_rep {xs : List DD} {k : Int} (hk : -(2 ^ 63) ≤ k) (hk2 : k < 2 ^ 63) (hl : xs.length * k.toNat ≤ 16000000) : RN K rRep (.list xs) (.int k) (List.replicate k.toNat xs).flatten := fun v u G H hv hu e Q q => by
  obtain ⟨a, vs, rfl, ha, hs⟩ := hv.lst_inv
  rw [hu.int_inv]
  exact ⟨a, k, vs, rfl, rfl, e _ _ ha, hk, hk2, sz_of (by rw [hs.length]; exact hl), fun p hp => q p _ hp (hs.rep _)⟩
theorem en_rep {xs : List DD} {k : Int} (ha : EvD K B ta Γ (.list xs)) (hb : EvD K B tb Γ (.int k)) (hk : -(2 ^ 63) ≤ k) (hk2 : k < 2 ^ 63) (hl : xs.length * k.toNat ≤ 16000000) : EvND K B (tOp rRep ta tb) Γ (List.replicate k.toNat xs).flatten := en_op ha hb (rn_rep hk hk2 hl)
theorem rd_catT {xs ys : List DD} (hx : xs ≠ []) (hl : xs.length + ys.length ≤ 16000000) : RD K (rCatT K) (.tuple xs) (.tuple ys) (.tuple (xs ++ ys)) := fun v u G H hv hu e Q q => by
  obtain ⟨a, vs, rfl, ha, hs⟩ := hv.tup_inv
  obtain ⟨b, us, rfl, hb, ht⟩ := hu.tup_inv
  refine ⟨a, b, vs, us, rfl, rfl, ex_t e ha, ex_t e hb, fun z => hx ?_, sz_of (by rw [hs.length, ht.length]; exact hl), fun z => ?_, fun _ p hp => ?_⟩
  · have := hs.length; rw [z] at this; exact List.length_eq_zero_iff.mp this.symm
  · have hy : ys = [] := by
      have := ht.length; rw [z] at this; exact List.length_eq_zero_iff.mp this.symm
    refine q _ G H (Grow.refl e) ?_
    rw [hy, List.append_nil]
    exact .tup ha hs
  · exact q _ _ _ (Grow.laid e hp) (.tup (SqT.of upd_same) ((hs.append ht).mono (Ex.new (e.none hp))))
theorem ev_catT {xs ys : List DD} (ha : EvD K B ta Γ (.tuple xs)) (hb : EvD K B tb Γ (.tuple ys)) (hx : xs.isEmpty = false := by rfl) (hl : Nat.ble (xs.length + ys.length) 16000000 = true := by rfl) : EvD K B (tOp (rCatT K) ta tb) Γ (.tuple (xs ++ ys)) := ev_op ha hb (rd_catT (fun e => by rw [e] at hx; cases hx) (Nat.le_of_ble_eq_true hl))
theorem rd_ixL {ds : List DD} {i : Int} (h : atI ds i = some d) : RD K (rIxL K) (.list ds) (.int i) d := fun v u G H hv hu e Q q => by
  obtain ⟨a, vs, rfl, ha, hs⟩ := hv.lst_inv
  rw [hu.int_inv]
  obtain ⟨w, h1, h2⟩ := hs.at h
  exact ⟨a, vs, i, w, rfl, rfl, SqL.of (e _ _ ha), h1, q w G H (Grow.refl e) h2⟩
theorem rd_ixT {ds : List DD} {i : Int} (h : atI ds i = some d) : RD K (rIxT K) (.tuple ds) (.int i) d := fun v u G H hv hu e Q q => by
  obtain ⟨a, vs, rfl, ha, hs⟩ := hv.tup_inv
  rw [hu.int_inv]
  obtain ⟨w, h1, h2⟩ := hs.at h
  exact ⟨a, vs, i, w, rfl, rfl, ex_t e ha, h1, q w G H (Grow.refl e) h2⟩
theorem ev_ixL {ds : List DD} {i : Int} (ha : EvD K B ta Γ (.list ds)) (hb : EvD K B tb Γ (.int i)) (h : atI ds i = some d) : EvD K B (tOp (rIxL K) ta tb) Γ d := ev_op ha hb (rd_ixL h)
theorem ev_ixT {ds : List DD} {i : Int} (ha : EvD K B ta Γ (.tuple ds)) (hb : EvD K B tb Γ (.int i)) (h : atI ds i = some d) : EvD K B (tOp (rIxT K) ta tb) Γ d := ev_op ha hb (rd_ixT h)
/-- an item of an own list of a slot -/
theorem ev_ixO {j : Nat} {p : Addr} {ds : List DD} {i : Int} (hj : Γ[j]? = some (.own (lstR p ds))) (hb : EvD K B tb Γ (.int i)) (h : atI ds i = some d) : EvD K B (tOp (rIxL K) (tVar j) tb) Γ d := fun F σ H s Q q => by
  obtain ⟨G, s0⟩ := id s
  obtain ⟨v, hv, _⟩ := s0.own hj
  refine ⟨v, hv, ?_⟩
  refine hb F σ H s _ fun u y' H2 e2 s2 => ?_
  subst e2
  obtain ⟨G2, s2⟩ := s2
  obtain ⟨v2, hv2, rfl, xs, hp, hd⟩ := s2.own hj
  have ev : v = .ref p := by rw [hv] at hv2; exact Option.some.inj (Option.some.inj hv2)
  obtain ⟨w, h1, h2⟩ := hd.at h
  refine ⟨p, xs, i, w, ev, (s2.tm (u, .int i) (by simp)).int_inv, SqL.of hp, h1, q w d H2 rfl ?_⟩
  exact (S.grown (d := d) s2 (Grow.refl s2.ex) h2).drop fun p hp => by
    simp at hp ⊢
    rcases hp with e | e <;> simp [e]
theorem atI_lastD (xs : List DD) (v : DD) : atI (xs ++ [v]) (-1) = some v := atI_last xs v
variable (K B) in
def EvO (to : TO) (Γ : List Sl) (o : Option Int) : Prop := ∀ F σ H, S K B Γ F σ H → ∀ Q : Option Int → Hp → Prop, (∀ H', S K B Γ F σ H' → Q o H') → to σ H Q
theorem eo_none : EvO K B tNoPart Γ none := fun _ _ H s _ q => q H s
theorem eo_some {i : Int} (h : EvD K B te Γ (.int i)) : EvO K B (tPart te) Γ (some i) := fun F σ H s Q q => h F σ H s _ fun v d H' e s' => by
  subst e
  obtain ⟨G, s1⟩ := id s'
  exact ⟨i, (s1.tm (v, .int i) (by simp)).int_inv, q H' s'.pop⟩
def cutD (xs : List DD) (lo hi : Option Int) : List DD := (xs.drop (HT.sIx xs.length 0 lo)).take (HT.sIx xs.length xs.length hi - HT.sIx xs.length 0 lo)
theorem DaL.cut {G : Hp} {vs : List V} {ds : List DD} (h : DaL K G vs ds) (lo hi : Option Int) : DaL K G (cutV vs lo hi) (cutD ds lo hi) := by
  unfold cutV cutD
  rw [h.length]
  exact (h.drop _).take _
theorem en_slL {tl th : TO} {ds : List DD} {lo hi : Option Int} (h : EvD K B te Γ (.list ds)) (h1 : EvO K B tl Γ lo) (h2 : EvO K B th Γ hi) : EvND K B (tSl (rSlL K) te tl th) Γ (cutD ds lo hi) := fun F σ H s Q q =>
  h F σ H s _ fun v d H1 e s1 => h1 _ σ H1 s1 _ fun H2 s2 => h2 _ σ H2 s2 _ fun H3 s3 => by
    subst e
    obtain ⟨G, s3⟩ := s3
    obtain ⟨a, vs, rfl, ha, hs⟩ := (s3.tm (v, .list ds) (by simp)).lst_inv
    exact ⟨a, vs, rfl, SqL.of (s3.ex _ _ ha), fun p hp => q p _ _ rfl (s3.notLent hp) ⟨G, (s3.newLst hp (hs.cut lo hi)).drop fun p hp => by simp [hp]⟩⟩
theorem ev_slT {tl th : TO} {ds : List DD} {lo hi : Option Int} (h : EvD K B te Γ (.tuple ds)) (h1 : EvO K B tl Γ lo) (h2 : EvO K B th Γ hi) (hw : decide (HT.sIx ds.length 0 lo = 0 ∧ HT.sIx ds.length ds.length hi = ds.length) = false := by rfl) : EvD K B (tSl (rSlT K) te tl th) Γ (.tuple (cutD ds lo hi)) := fun F σ H s Q q =>
  h F σ H s _ fun v d H1 e s1 => h1 _ σ H1 s1 _ fun H2 s2 => h2 _ σ H2 s2 _ fun H3 s3 => by
    subst e
    obtain ⟨G, s3⟩ := s3
    obtain ⟨a, vs, rfl, ha, hs⟩ := (s3.tm (v, .tuple ds) (by simp)).tup_inv
    refine ⟨a, vs, rfl, ex_t s3.ex ha, by rw [hs.length]; exact of_decide_eq_false hw, fun p hp => q (.ref p) _ _ rfl ?_⟩
    exact (S.grown (d := .tuple (cutD ds lo hi)) s3 (Grow.laid s3.ex hp) (.tup (SqT.of upd_same) ((hs.cut lo hi).mono (Ex.new (s3.ex.none hp))))).drop fun p hp => by
      simp at hp ⊢
      rcases hp with e | e <;> simp [e]
def flatD : DD → Bool
  | .none => true
  | .bool _ => true
  | .int _ => true
  | .str _ => true
  | _ => false
theorem Da.flat {G : Hp} {v : V} (h : Da K G v d) : flatV v = flatD d := by cases h <;> rfl
theorem Da.eqV {G : Hp} {v u : V} (h : Da K G v x) (k : Da K G u y) (fx : flatD x = true) (fy : flatD y = true) : L2.eqV v u = PyData.eqv x y := by
  cases h <;> cases k <;> first | rfl | (simp [flatD] at fx; done) | (simp [flatD] at fy; done) | simp [L2.eqV, PyData.eqv]
def inD (x : DD) (xs : List DD) : Bool := xs.any fun y => PyData.eqv y x
theorem DaL.flat {G : Hp} : ∀ {vs : List V} {ds : List DD}, DaL K G vs ds → vs.all flatV = ds.all flatD
  | _, _, .nil => rfl
  | _, _, .cons h t => by rw [List.all_cons, List.all_cons, h.flat, t.flat]
theorem DaL.inV {G : Hp} {v : V} (h : Da K G v x) (fx : flatD x = true) : ∀ {vs : List V} {ds : List DD}, DaL K G vs ds → ds.all flatD = true → L2.inV v vs = inD x ds
  | _, _, .nil, _ => rfl
  | _, _, .cons k t, f => by
    rw [List.all_cons, Bool.and_eq_true] at f
    have e := t.inV h fx f.2
    unfold L2.inV inD at e ⊢
    rw [List.any_cons, List.any_cons, k.eqV h f.1 fx, e]
theorem rd_inT {neg : Bool} {ds : List DD} (fx : flatD x = true) (fd : ds.all flatD = true) : RD K (rIn K neg) x (.tuple ds) (.bool (if neg then !inD x ds else inD x ds)) := fun v u G H hv hu e Q q => by
  obtain ⟨a, vs, rfl, ha, hs⟩ := hu.tup_inv
  refine ⟨a, vs, rfl, .inr (ex_t e ha), by rw [hv.flat]; exact fx, by rw [hs.flat]; exact fd, ?_⟩
  rw [hs.inV hv fx fd]
  exact q _ G H (Grow.refl e) (.bl _)
theorem rd_inL {neg : Bool} {ds : List DD} (fx : flatD x = true) (fd : ds.all flatD = true) : RD K (rIn K neg) x (.list ds) (.bool (if neg then !inD x ds else inD x ds)) := fun v u G H hv hu e Q q => by
  obtain ⟨a, vs, rfl, ha, hs⟩ := hu.lst_inv
  refine ⟨a, vs, rfl, .inl (SqL.of (e _ _ ha)), by rw [hv.flat]; exact fx, by rw [hs.flat]; exact fd, ?_⟩
  rw [hs.inV hv fx fd]
  exact q _ G H (Grow.refl e) (.bl _)
theorem ev_inT {ds : List DD} (ha : EvD K B ta Γ x) (hb : EvD K B tb Γ (.tuple ds)) (fx : flatD x = true := by rfl) (fd : ds.all flatD = true := by rfl) : EvD K B (tOp (rIn K false) ta tb) Γ (.bool (inD x ds)) := ev_op ha hb (rd_inT fx fd)
theorem ev_niT {ds : List DD} (ha : EvD K B ta Γ x) (hb : EvD K B tb Γ (.tuple ds)) (fx : flatD x = true := by rfl) (fd : ds.all flatD = true := by rfl) : EvD K B (tOp (rIn K true) ta tb) Γ (.bool (!inD x ds)) := ev_op ha hb (rd_inT fx fd)
theorem ev_inL {ds : List DD} (ha : EvD K B ta Γ x) (hb : EvD K B tb Γ (.list ds)) (fx : flatD x = true) (fd : ds.all flatD = true) : EvD K B (tOp (rIn K false) ta tb) Γ (.bool (inD x ds)) := ev_op ha hb (rd_inL fx fd)
theorem ev_cb {r : List V → Hp → VK → Prop} {ta : TA} {ds : List DD} (h : EvAD K B ta Γ ds) (hr : RC K r ds z) : EvD K B (tCB r ta) Γ z := fun F σ H s Q q =>
  h F σ H s _ fun vs es H1 p l s1 => by
    subst p
    obtain ⟨G, s1⟩ := s1
    refine hr vs G H1 (daL_zip l fun p hp => s1.tm p (by simp [hp])) s1.ex Q fun v' G' H' g hv => q v' z H' rfl ?_
    exact (S.grown (d := z) s1 g hv).drop fun p hp => by
      simp at hp ⊢
      rcases hp with e | e <;> simp [e]
def rLenS (K : FK) : List V → Hp → VK → Prop := fun xs H Q => ∃ p ys, xs = [.ref p] ∧ (SqL K H p ys ∨ SqT K H p ys) ∧ Q (.int ys.length) H
theorem daL1 {G : Hp} {vs : List V} (h : DaL K G vs [d]) : ∃ v, vs = [v] ∧ Da K G v d := by
  cases h with
  | cons h t => cases t; exact ⟨_, rfl, h⟩
theorem daL2 {G : Hp} {vs : List V} (h : DaL K G vs [x, y]) : ∃ v u, vs = [v, u] ∧ Da K G v x ∧ Da K G u y := by
  cases h with
  | cons h t =>
    cases t with
    | cons h2 t2 => cases t2; exact ⟨_, _, rfl, h, h2⟩
theorem ev_lenL {ds : List DD} (h : EvD K B te Γ (.list ds)) : EvD K B (tCB (rLenS K) (tCons te tNil)) Γ (.int ds.length) := ev_cb (ea_cons h ea_nil) fun vs G H hv e Q q => by
  obtain ⟨v, rfl, hw⟩ := daL1 hv
  obtain ⟨a, xs, rfl, ha, hs⟩ := hw.lst_inv
  refine ⟨a, xs, rfl, .inl (SqL.of (e _ _ ha)), ?_⟩
  rw [hs.length]
  exact q _ G H (Grow.refl e) (.int _)
theorem ev_lenT {ds : List DD} (h : EvD K B te Γ (.tuple ds)) : EvD K B (tCB (rLenS K) (tCons te tNil)) Γ (.int ds.length) := ev_cb (ea_cons h ea_nil) fun vs G H hv e Q q => by
  obtain ⟨v, rfl, hw⟩ := daL1 hv
  obtain ⟨a, xs, rfl, ha, hs⟩ := hw.tup_inv
  refine ⟨a, xs, rfl, .inr (ex_t e ha), ?_⟩
  rw [hs.length]
  exact q _ G H (Grow.refl e) (.int _)
theorem ev_lenO {j : Nat} {p : Addr} {ds : List DD} (hj : Γ[j]? = some (.own (lstR p ds))) : EvD K B (tCB (rLenS K) (tCons (tVar j) tNil)) Γ (.int ds.length) := fun F σ H s Q q => by
  obtain ⟨G, s0⟩ := id s
  obtain ⟨v, hv, rfl, xs, hp, hd⟩ := s0.own hj
  refine ⟨.ref p, hv, p, xs, rfl, .inl (SqL.of hp), ?_⟩
  rw [hd.length]
  exact q _ _ H rfl (s.c fun _ => .int _)
theorem ev_abs {i : Int} (h : EvD K B te Γ (.int i)) : EvD K B (tCB (fun xs H Q => ∃ i, xs = [.int i] ∧ Q (.int (if i < 0 then -i else i)) H) (tCons te tNil)) Γ (.int (if i < 0 then -i else i)) := ev_cb (ea_cons h ea_nil) fun vs G H hv e Q q => by
  obtain ⟨v, rfl, hw⟩ := daL1 hv
  rw [hw.int_inv]
  exact ⟨i, rfl, q _ G H (Grow.refl e) (.int _)⟩
theorem ev_sum {ns : List Int} (h : EvD K B te Γ (.list (ns.map .int))) : EvD K B (tCB (rSum K) (tCons te tNil)) Γ (.int ns.sum) := ev_cb (ea_cons h ea_nil) fun vs G H hv e Q q => by
  obtain ⟨v, rfl, hw⟩ := daL1 hv
  obtain ⟨a, xs, rfl, ha, hs⟩ := hw.lst_inv
  exact ⟨a, ns, rfl, SqL.of (by rw [← hs.ints]; exact e _ _ ha), q _ G H (Grow.refl e) (.int _)⟩
theorem ev_all {bs : List Bool} (h : EvD K B te Γ (.list (bs.map .bool))) : EvD K B (tCB (rAll K) (tCons te tNil)) Γ (.bool (bs.all id)) := ev_cb (ea_cons h ea_nil) fun vs G H hv e Q q => by
  obtain ⟨v, rfl, hw⟩ := daL1 hv
  obtain ⟨a, xs, rfl, ha, hs⟩ := hw.lst_inv
  exact ⟨a, bs, rfl, SqL.of (by rw [← hs.bls]; exact e _ _ ha), q _ G H (Grow.refl e) (.bl _)⟩
theorem ev_any {bs : List Bool} (h : EvD K B te Γ (.list (bs.map .bool))) : EvD K B (tCB (rAny K) (tCons te tNil)) Γ (.bool (bs.any id)) := ev_cb (ea_cons h ea_nil) fun vs G H hv e Q q => by
  obtain ⟨v, rfl, hw⟩ := daL1 hv
  obtain ⟨a, xs, rfl, ha, hs⟩ := hw.lst_inv
  exact ⟨a, bs, rfl, SqL.of (by rw [← hs.bls]; exact e _ _ ha), q _ G H (Grow.refl e) (.bl _)⟩
theorem ev_max {ns : List Int} {m : Int} (h : EvD K B te Γ (.list (ns.map .int))) (hm : m ∈ ns) (hle : ∀ y, y ∈ ns → y ≤ m) : EvD K B (tCB (rMax K) (tCons te tNil)) Γ (.int m) := ev_cb (ea_cons h ea_nil) fun vs G H hv e Q q => by
  obtain ⟨v, rfl, hw⟩ := daL1 hv
  obtain ⟨a, xs, rfl, ha, hs⟩ := hw.lst_inv
  refine ⟨a, ns, rfl, SqL.of (by rw [← hs.ints]; exact e _ _ ha), List.length_pos_of_mem hm, fun m' h1 h2 => ?_⟩
  have : m' = m := Int.le_antisymm (hle _ h1) (h2 _ hm)
  rw [this]
  exact q _ G H (Grow.refl e) (.int _)
theorem ev_min {ns : List Int} {m : Int} (h : EvD K B te Γ (.list (ns.map .int))) (hm : m ∈ ns) (hle : ∀ y, y ∈ ns → m ≤ y) : EvD K B (tCB (rMin K) (tCons te tNil)) Γ (.int m) := ev_cb (ea_cons h ea_nil) fun vs G H hv e Q q => by
  obtain ⟨v, rfl, hw⟩ := daL1 hv
  obtain ⟨a, xs, rfl, ha, hs⟩ := hw.lst_inv
  refine ⟨a, ns, rfl, SqL.of (by rw [← hs.ints]; exact e _ _ ha), List.length_pos_of_mem hm, fun m' h1 h2 => ?_⟩
  have : m' = m := Int.le_antisymm (h2 _ hm) (hle _ h1)
  rw [this]
  exact q _ G H (Grow.refl e) (.int _)
def rListS (K : FK) : List V → Hp → VK → Prop := fun xs H Q => ∃ p ys, xs = [.ref p] ∧ (SqL K H p ys ∨ SqT K H p ys) ∧ ∀ l, H l = none → Q (.ref l) (upd H l (.lst ys))
theorem en_listL {ds : List DD} (h : EvD K B te Γ (.list ds)) : EvND K B (tCB (rListS K) (tCons te tNil)) Γ ds := fun F σ H s Q q =>
  h F σ H s _ fun v d H1 e s1 => by
    subst e
    obtain ⟨G, s1⟩ := s1
    obtain ⟨a, xs, rfl, ha, hs⟩ := (s1.tm (v, .list ds) (by simp)).lst_inv
    exact ⟨a, xs, rfl, .inl (SqL.of (s1.ex _ _ ha)), fun p hp => q p _ _ rfl (s1.notLent hp) ⟨G, (s1.newLst hp hs).drop fun p hp => by simp [hp]⟩⟩
theorem en_listT {ds : List DD} (h : EvD K B te Γ (.tuple ds)) : EvND K B (tCB (rListS K) (tCons te tNil)) Γ ds := fun F σ H s Q q =>
  h F σ H s _ fun v d H1 e s1 => by
    subst e
    obtain ⟨G, s1⟩ := s1
    obtain ⟨a, xs, rfl, ha, hs⟩ := (s1.tm (v, .tuple ds) (by simp)).tup_inv
    exact ⟨a, xs, rfl, .inr (ex_t s1.ex ha), fun p hp => q p _ _ rfl (s1.notLent hp) ⟨G, (s1.newLst hp hs).drop fun p hp => by simp [hp]⟩⟩
def tyD : DD → String
  | .none => "NoneType"
  | .bool _ => "bool"
  | .int _ => "int"
  | .str _ => "str"
  | .list _ => "list"
  | .tuple _ => "tuple"
  | .dict _ => "dict"
inductive TyD (K : FK) (H : Hp) : V → Value → Prop
  | old {v : V} {t : Value} (h : TyX K H v t) : TyD K H v t
  | dct {a : Addr} {ep : Nat} {kvs : KVs} (h : H a = some (ddO a ep kvs)) : TyD K H (.ref a) (.type "dict")
def rIsiD (K : FK) : List V → Hp → VK → Prop := fun xs H Q => ∃ (x c : V) (t u : Value) (b : Bool), xs = [x, c] ∧ ClsV c u ∧ TyD K H x t ∧ PySem.W.kitOne K t u = some b ∧ Q (.bl b) H
theorem call_isiD {X : Cx} : CallR X (.builtin "isinstance") (rIsiD X.K) := by
  intro pins s σ H xs us Q I r h
  obtain ⟨x, c, t, u, b, rfl, k, ty, e, q⟩ := h
  cases ty with
  | old ty => exact call_isi pins s σ H _ us Q I r ⟨x, c, t, u, b, rfl, k, ty, e, q⟩
  | @dct a ep kvs ha =>
    obtain ⟨u1, u2, rfl, r1, r2⟩ := vals2 r
    have e2 := k.eq r2
    subst e2
    cases (show u1 = Value.ref a from r1)
    obtain ⟨⟨_, _, _, _, _, o, _, _, h1, h2, _⟩, _⟩ := I.hok a _ ha
    exact PySem.W.kia_one PySem.W.kitx_dict I.kIn ⟨o, h1, h2.1⟩ e (fun z => nomatch z) fun tk => ⟨.bl b, H, I.tok tk, rfl, q⟩
theorem Da.ty {G H : Hp} {v : V} (e : Ex G H) (h : Da K G v d) : TyD K H v (.type (tyD d)) := by
  cases h with
  | non => exact .old (.base .non)
  | bl b => exact .old (.base (.bl b))
  | int i => exact .old (.base (.int i))
  | str x => exact .old (.base (.str x))
  | lst h _ => exact .old (.base (.lst (e _ _ h)))
  | tup h _ =>
    rcases h with (h | ⟨o, h⟩) | ⟨o, its, n, h, hc, _⟩
    · exact .old (.base (.tup (e _ _ h)))
    · exact .old (.fTuple (e _ _ h))
    · exact .old (.kTuple h hc)
  | dct h _ => exact .dct (e _ _ h)
theorem ev_isi {n : String} {b : Bool} (h : EvD K B te Γ d) (hk : kitB (tyD d) n = some b) : EvD K B (tCB (rIsiD K) (tCons te (tCons (tC (.ty n)) tNil))) Γ (.bool b) := fun F σ H s Q q =>
  h F σ H s _ fun v d' H1 e s1 => by
    subst e
    obtain ⟨G, s0⟩ := id s1
    refine ⟨v, .ty n, .type (tyD d'), .type n, b, rfl, .ty n, (s0.tm (v, d') (by simp)).ty s0.ex, kit_ty hk, q _ _ H1 rfl (s1.pop.c fun _ => .bl b)⟩
end
end Ly

namespace Ly
open PySem L2
section
variable (K : FK) (B : Bs)
/-- what is wanted of the state Γ -/
def Nx (n : St → Hp → Prop) (Γ : List Sl) (F : Fra) : Prop := ∀ σ H, S K B Γ F σ H → n σ H
/-- the target g takes the datum d: Γ becomes Γ', nothing but the slots vs turns -/
def Tg (g : TG) (d : DD) (Γ Γ' : List Sl) (vs : List Nat) : Prop := (Γ'.length = Γ.length ∧ ∀ i : Nat, i ∉ vs → Γ'[i]? = Γ[i]?) ∧ ∀ F v σ H, S K B Γ F σ H → (v, d) ∈ F.T → ∀ Q : St → Hp → Prop,
  (∀ σ' H', S K B Γ' F σ' H' → (∀ i, i ∉ vs → σ'[i]? = σ[i]?) → Q σ' H') → g v σ H Q
def Tgs (g : TGs) (ds : List DD) (Γ Γ' : List Sl) (vs : List Nat) : Prop := (Γ'.length = Γ.length ∧ ∀ i : Nat, i ∉ vs → Γ'[i]? = Γ[i]?) ∧ ∀ F us σ H, S K B Γ F σ H → us.length = ds.length → (∀ p ∈ us.zip ds, p ∈ F.T) → ∀ Q : St → Hp → Prop,
  (∀ σ' H', S K B Γ' F σ' H' → (∀ i, i ∉ vs → σ'[i]? = σ[i]?) → Q σ' H') → g us σ H Q
end
section
variable {K : FK} {B : Bs} {Γ Γ' Γ2 : List Sl} {F : Fra} {te ta tb : TE} {tt : TT} {D : Ends} {t u : TS} {d : DD} {P : DD → Prop} {i : Nat} {vs vs' : List Nat} {g : TG}
theorem of_blt {i n : Nat} (h : Nat.blt i n = true) : i < n := Nat.le_of_ble_eq_true h
theorem tg_name (hi : Nat.blt i Γ.length = true := by rfl) : Tg K B (gName i) d Γ (Γ.set i (.dat d)) [i] := ⟨⟨by simp, fun j hj => List.getElem?_set_ne (fun e => hj (by simp [e]))⟩, fun F v σ H ⟨G, s⟩ hd Q q =>
  q _ _ ⟨G, s.setDat (of_blt hi) hd⟩ fun j hj => List.getElem?_set_ne (fun e => hj (by simp [e]))⟩
theorem tgs_nil : Tgs K B gNil [] Γ Γ [] := ⟨⟨rfl, fun _ _ => rfl⟩, fun F us σ H s l _ Q q => ⟨List.length_eq_zero_iff.mp l, q σ H s fun _ _ => rfl⟩⟩
theorem tgs_cons {gs : TGs} {ds : List DD} (h : Tg K B g d Γ Γ' vs) (h2 : Tgs K B gs ds Γ' Γ2 vs') : Tgs K B (gCons g gs) (d :: ds) Γ Γ2 (vs ++ vs') := ⟨⟨h2.1.1.trans h.1.1, fun i hi => (h2.1.2 i fun z => hi (by simp [z])).trans (h.1.2 i fun z => hi (by simp [z]))⟩, fun F us σ H s l hz Q q => by
  cases us with
  | nil => cases l
  | cons w us =>
    refine ⟨w, us, rfl, h.2 F w σ H s (hz (w, d) (by simp)) _ fun σ1 H1 s1 e1 => ?_⟩
    refine h2.2 F us σ1 H1 s1 (Nat.succ.inj l) (fun p hp => hz p (by simp [hp])) Q fun σ2 H2 s2 e2 => q σ2 H2 s2 fun i hi => ?_
    rw [e2 i (fun z => hi (by simp [z])), e1 i (fun z => hi (by simp [z]))]⟩
theorem tg_tup {gs : TGs} {ds : List DD} {n : Nat} (hn : ds.length = n) (h : Tgs K B gs ds Γ Γ' vs) : Tg K B (gTup K n gs) (.tuple ds) Γ Γ' vs := ⟨h.1, fun F v σ H ⟨G, s⟩ hd Q q => by
  obtain ⟨a, xs, rfl, ha, hs⟩ := (s.tm _ hd).tup_inv
  refine ⟨a, xs, rfl, ex_t s.ex ha, hs.length.trans hn, ?_⟩
  have s1 : S K B Γ (F.dats (xs.zip ds)) σ H := ⟨G, s.len, s.grow, s.sl, fun p hp => by
    rcases List.mem_append.mp hp with z | z
    · obtain ⟨k, hk, ek⟩ := List.getElem_of_mem z
      have hk' : k < xs.length := by rw [List.length_zip] at hk; omega
      have hk2 : k < ds.length := by rw [List.length_zip] at hk; omega
      obtain ⟨w, hw1, hw2⟩ := hs.get (List.getElem?_eq_getElem hk2)
      rw [List.getElem?_eq_getElem hk'] at hw1
      rw [← ek, List.getElem_zip]
      rw [Option.some.inj hw1]
      exact hw2
    · exact s.tm p z, s.xm, s.apart, s.mine⟩
  exact h.2 _ xs σ H s1 hs.length (fun p hp => by simp [hp]) Q fun σ' H' s' e' => q σ' H' (s'.drop fun p hp => by simp [hp]) e'⟩

theorem nx_seq (h : Nx K B (t { D with nx := u D }) Γ F) : Nx K B (tSeq t u D) Γ F := h
theorem nx_next (h : Nx K B D.nx Γ F) : Nx K B (tNext D) Γ F := h
theorem nx_asgG (h : Ev K B te Γ P) (k : ∀ d, P d → ∃ Γ' vs, Tg K B g d Γ Γ' vs ∧ Nx K B D.nx Γ' F) : Nx K B (tAsg te g D) Γ F := fun σ H s =>
  h F σ H s _ fun v d H' p s' => by
    obtain ⟨Γ', vs, ht, hn⟩ := k d p
    exact ht.2 _ v σ H' s' (by simp) _ fun σ2 H2 s2 _ => hn σ2 H2 s2.pop
theorem nx_asgP (h : Ev K B te Γ P) (k : ∀ d, P d → Nx K B D.nx (Γ.set i (.dat d)) F) (hi : Nat.blt i Γ.length = true := by rfl) : Nx K B (tAsg te (gName i) D) Γ F := nx_asgG h fun d p => ⟨_, _, tg_name hi, k d p⟩
theorem nx_asg (h : EvD K B te Γ d) (k : Nx K B D.nx (Γ.set i (.dat d)) F) (hi : Nat.blt i Γ.length = true := by rfl) : Nx K B (tAsg te (gName i) D) Γ F := nx_asgP h (fun x e => by rw [e]; exact k) hi
theorem nx_asgT (h : EvD K B te Γ d) (ht : Tg K B g d Γ Γ' vs) (k : Nx K B D.nx Γ' F) : Nx K B (tAsg te g D) Γ F := nx_asgG h fun x e => by rw [e]; exact ⟨_, _, ht, k⟩
/-- x = a new own list -/
theorem nx_asgN {Ps : List DD → Prop} (h : EvN K B te Γ Ps) (k : ∀ p ds, Ps ds → p ∉ B.L → Nx K B D.nx (Γ.set i (.own (lstR p ds))) F) (hi : Nat.blt i Γ.length = true := by rfl) : Nx K B (tAsg te (gName i) D) Γ F := fun σ H s =>
  h F σ H s _ fun p ds H' hp hl ⟨G, s'⟩ => k p ds hp hl _ _ ⟨G, s'.setOwn (of_blt hi)⟩
theorem nx_asgO {ds : List DD} (h : EvND K B te Γ ds) (k : ∀ p, p ∉ B.L → Nx K B D.nx (Γ.set i (.own (lstR p ds))) F) (hi : Nat.blt i Γ.length = true := by rfl) : Nx K B (tAsg te (gName i) D) Γ F := nx_asgN h (fun p es e hl => by rw [e]; exact k p hl) hi
theorem nx_ret (h : Ev K B te Γ P) (k : ∀ v d σ H', P d → S K B Γ (F.dat v d) σ H' → D.rt v H') : Nx K B (tRet te D) Γ F := fun σ H s =>
  h F σ H s _ fun v d H' p s' => k v d σ H' p s'
theorem nx_drop (h : Ev K B te Γ P) (k : Nx K B D.nx Γ F) : Nx K B (tDrop te D) Γ F := fun σ H s => h F σ H s _ fun v d H' _ s' => k σ H' s'.pop
theorem nx_if {b : Bool} (h : EvT K B tt Γ b) (h1 : b = true → Nx K B (t D) Γ F) (h2 : b = false → Nx K B (u D) Γ F) : Nx K B (tIfS tt t u D) Γ F := fun σ H s =>
  h F σ H s _ fun H' s' => by
    cases b with
    | true => exact h1 rfl σ H' s'
    | false => exact h2 rfl σ H' s'
theorem nx_aug {f : Int → Int → Int} {a b : Int} (hx : Γ[i]? = some (.dat (.int a))) (h : EvD K B te Γ (.int b)) (k : Nx K B D.nx (Γ.set i (.dat (.int (f a b)))) F) : Nx K B (tAug i te (ipI f) D) Γ F := fun σ H s => by
  have hi : i < Γ.length := (List.getElem?_eq_some_iff.mp hx).1
  obtain ⟨G, s0⟩ := id s
  obtain ⟨v, hv, hd⟩ := s0.dat hx
  rw [hd.int_inv] at hv
  refine ⟨.int a, hv, ?_⟩
  refine h F σ H s _ fun w d' H' e s' => ?_
  subst e
  obtain ⟨G', s1⟩ := id s'
  refine ⟨a, b, rfl, (s1.tm (w, .int b) (by simp)).int_inv, ?_⟩
  have s2 : S K B Γ (F.dat (.int (f a b)) (.int (f a b))) σ H' := s'.pop.c fun _ => .int _
  obtain ⟨G2, s2⟩ := s2
  exact k _ _ (S.pop ⟨G2, s2.setDat hi (by simp)⟩)
/-- an own list grows -/
theorem nx_append {p : Addr} {ds : List DD} (hx : Γ[i]? = some (.own (lstR p ds))) (h : Ev K B te Γ P) (hz : ds.length < 16000000) (k : ∀ d, P d → Nx K B D.nx (Γ.set i (.own (lstR p (ds ++ [d])))) F) :
    Nx K B (tDrop (tBM K "list" rAppend (tVar i) (tCons te tNil)) D) Γ F := fun σ H s => by
  obtain ⟨G, s0⟩ := id s
  obtain ⟨v, hv, rfl, xs, hp, hd⟩ := s0.own hx
  refine ⟨.ref p, hv, .inl ⟨rfl, xs, SqL.of hp⟩, ?_⟩
  refine h F σ H s _ fun w d' H' e s' => ?_
  obtain ⟨G', s1⟩ := s'
  obtain ⟨v2, hv2, rfl, ys, hp2, hd2⟩ := s1.own hx
  refine ⟨p, ys, w, rfl, rfl, hp2, sz_lt (by rw [hd2.length]; exact hz), ?_⟩
  have hm : p ∈ ownAt Γ (F.dat w d') i := by rw [ownAt_slot hx]; simp [Sl.as, lstR]
  have hg : G' p = none := (s1.mine i p hm).1
  have s2 := s1.updOwn (r' := lstR p (ds ++ [d'])) (T' := F.T) hx (Grow.put (o := .lst (ys ++ [w])) s1.ex hg (by simp [lstR])) rfl hv2 ⟨rfl, _, upd_same, hd2.append (.cons (s1.tm (w, d') (by simp)) .nil)⟩ fun q hq => s1.tm q (by simp [hq])
  exact k d' e _ _ ⟨G', s2⟩
/-- an own list's item is stored -/
theorem nx_setO {p : Addr} {ds : List DD} {j : Int} {n : Nat} {ti : TE} (hx : Γ[i]? = some (.own (lstR p ds))) (h : EvD K B te Γ d) (hi : EvD K B ti Γ (.int j)) (hn : ixN ds.length j = some n) (k : Nx K B D.nx (Γ.set i (.own (lstR p (ds.set n d)))) F) :
    Nx K B (tAsg te (gSub (tVar i) ti rSetL) D) Γ F := fun σ H s => by
  refine h F σ H s _ fun w d' H' e s' => ?_
  subst e
  obtain ⟨G', s1⟩ := id s'
  obtain ⟨v2, hv2, rfl, ys, hp2, hd2⟩ := s1.own hx
  refine ⟨.ref p, hv2, ?_⟩
  refine hi _ σ H' s' _ fun w2 d2 H2 e2 s2 => ?_
  subst e2
  obtain ⟨G2, s2⟩ := s2
  obtain ⟨v3, hv3, rfl, zs, hp3, hd3⟩ := s2.own hx
  refine ⟨p, zs, j, n, rfl, (s2.tm (w2, .int j) (by simp)).int_inv, hp3, by rw [hd3.length]; exact hn, ?_⟩
  have hm : p ∈ ownAt Γ (Fra.dat (F.dat w d') w2 (.int j)) i := by rw [ownAt_slot hx]; simp [Sl.as, lstR]
  have hg : G2 p = none := (s2.mine i p hm).1
  have s3 := s2.updOwn (r' := lstR p (ds.set n d')) (T' := F.T) hx (Grow.put (o := .lst (zs.set n w)) s2.ex hg (by simp [lstR])) rfl hv3 ⟨rfl, _, upd_same, hd3.set (s2.tm (w, d') (by simp)) n⟩ fun q hq => s2.tm q (by simp [hq])
  exact k _ _ ⟨G2, s3⟩
/-- an own list becomes data -/
theorem nx_freeze {n : St → Hp → Prop} {p : Addr} {ds : List DD} (i : Nat) (hx : Γ[i]? = some (.own (lstR p ds))) (hl : p ∉ B.L) (k : Nx K B n (Γ.set i (.dat (.list ds))) F) : Nx K B n Γ F := fun σ H ⟨G, s⟩ => k σ H (s.freeze hx hl)
theorem nx_forget {n : St → Hp → Prop} (i : Nat) (k : Nx K B n (Γ.set i .no) F) : Nx K B n Γ F := fun σ H ⟨G, s⟩ => k σ H ⟨G, s.forget⟩
theorem nx_to {n : St → Hp → Prop} (e : Γ = Γ') (k : Nx K B n Γ' F) : Nx K B n Γ F := e ▸ k
theorem nx_dropT {n : St → Hp → Prop} {T' : List (V × DD)} (h : ∀ p ∈ T', p ∈ F.T) (k : Nx K B n Γ ⟨T', F.X⟩) : Nx K B n Γ F := fun σ H s => k σ H (s.drop h)

variable (K B) in
/-- the iterator J gives the data ds, while the data T0 stand -/
def Goes (J : It) (T0 : List (V × DD)) (ds : List DD) : Prop := ∀ Γ F σ H, S K B Γ F σ H → (∀ p ∈ T0, p ∈ F.T) → ∀ i, (∀ d, ds[i]? = some d → J.go i H ∧ ∀ x H', J.yld i H x H' → S K B Γ (F.dat x d) σ H') ∧ (i = ds.length → J.stop i H)
variable (K B) in
def EvI0 (wi : TI) (Γ : List Sl) (ds : List DD) : Prop := ∀ F σ H, S K B Γ F σ H → ∀ R : It → Hp → Prop, (∀ J T0 H', Goes K B J T0 ds → S K B Γ (F.dats T0) σ H' → R J H') → wi σ H R
variable (K B) in
/-- .. while the data T0 stand and the held things X0 -/
def GoesX (J : It) (T0 : List (V × DD)) (X0 : List (V × Res)) (ds : List DD) : Prop := ∀ Γ F σ H, S K B Γ F σ H → (∀ p ∈ T0, p ∈ F.T) → (∀ p ∈ X0, p ∈ F.X) → ∀ i, (∀ d, ds[i]? = some d → J.go i H ∧ ∀ x H', J.yld i H x H' → S K B Γ (F.dat x d) σ H') ∧ (i = ds.length → J.stop i H)
variable (K B) in
def EvI (wi : TI) (Γ : List Sl) (ds : List DD) : Prop := ∀ F σ H, S K B Γ F σ H → ∀ R : It → Hp → Prop, (∀ J T0 X0 H', GoesX K B J T0 X0 ds → S K B Γ ⟨T0 ++ F.T, F.X ++ X0⟩ σ H' → R J H') → wi σ H R
theorem EvI0.gen {wi : TI} {ds : List DD} (h : EvI0 K B wi Γ ds) : EvI K B wi Γ ds := fun F σ H s R q => h F σ H s R fun J T0 H' g s' => q J T0 [] H' (fun Γ F σ H s h1 _ => g Γ F σ H s h1) (by rw [List.append_nil]; exact s')
/-- a held thing is let go -/
theorem S0.rmX {σ : St} {H G : Hp} {T : List (V × DD)} {A C : List (V × Res)} {v : V} {r : Res} (h : S0 K B Γ ⟨T, A ++ (v, r) :: C⟩ σ H G) : S0 K B Γ ⟨T, A ++ C⟩ σ H G := by
  have own : ∀ j, ownAt Γ ⟨T, A ++ C⟩ j = ownAt Γ ⟨T, A ++ (v, r) :: C⟩ (if j < Γ.length + A.length then j else j + 1) := fun j => by
    unfold ownAt
    by_cases h1 : j < Γ.length
    · rw [if_pos h1, if_pos (show j < Γ.length + A.length by omega), if_pos h1]
    · by_cases h2 : j < Γ.length + A.length
      · rw [if_neg h1, if_pos h2, if_neg h1]
        show (match (A ++ C)[j - Γ.length]? with | some q => q.2.as | none => []) = (match (A ++ (v, r) :: C)[j - Γ.length]? with | some q => q.2.as | none => [])
        rw [List.getElem?_append_left (by omega), List.getElem?_append_left (by omega)]
      · rw [if_neg h1, if_neg h2, if_neg (show ¬ j + 1 < Γ.length by omega)]
        show (match (A ++ C)[j - Γ.length]? with | some q => q.2.as | none => []) = (match (A ++ (v, r) :: C)[j + 1 - Γ.length]? with | some q => q.2.as | none => [])
        rw [List.getElem?_append_right (by omega), List.getElem?_append_right (by omega), show j + 1 - Γ.length - A.length = (j - Γ.length - A.length) + 1 by omega, List.getElem?_cons_succ]
  refine ⟨h.len, h.grow, h.sl, h.tm, fun p hp => h.xm p ?_, fun i j a h1 h2 => ?_, fun i a h1 => ?_⟩
  · rcases List.mem_append.mp hp with z | z
    · exact List.mem_append_left _ z
    · exact List.mem_append_right _ (List.mem_cons_of_mem _ z)
  · rw [own] at h1 h2
    have := h.apart _ _ a h1 h2
    split at this <;> split at this <;> omega
  · rw [own] at h1
    exact h.mine _ a h1
theorem S0.rmXs {σ : St} {H G : Hp} {T : List (V × DD)} {A C : List (V × Res)} : ∀ {X0 : List (V × Res)}, S0 K B Γ ⟨T, A ++ X0 ++ C⟩ σ H G → S0 K B Γ ⟨T, A ++ C⟩ σ H G
  | [], h => by rw [List.append_nil] at h; exact h
  | (v, r) :: X0, h => by
    rw [List.append_assoc, List.cons_append] at h
    exact S0.rmXs (X0 := X0) (by rw [List.append_assoc]; exact h.rmX)
theorem S.rmXs {σ : St} {H : Hp} {T : List (V × DD)} {A X0 : List (V × Res)} (h : S K B Γ ⟨T, A ++ X0⟩ σ H) : S K B Γ ⟨T, A⟩ σ H := by
  obtain ⟨G, z⟩ := h
  have z2 : S0 K B Γ ⟨T, A ++ X0 ++ []⟩ σ H G := by rw [List.append_nil]; exact z
  have z3 := z2.rmXs
  rw [List.append_nil] at z3
  exact ⟨G, z3⟩
theorem ei_list {tl : TE} {ds : List DD} (h : EvD K B tl Γ (.list ds)) : EvI K B (iList K tl) Γ ds := EvI0.gen (fun F σ H s R q =>
  h F σ H s _ fun v d H' e s' => by
    subst e
    obtain ⟨G, s1⟩ := id s'
    obtain ⟨a, xs, rfl, ha, hs⟩ := (s1.tm (v, .list ds) (by simp)).lst_inv
    refine ⟨a, rfl, ⟨xs, SqL.of (s1.ex _ _ ha)⟩, q _ [(.ref a, .list ds)] H' (fun Γ2 F2 σ2 H2 s2 hT i => ?_) s'⟩
    obtain ⟨G2, s3⟩ := id s2
    obtain ⟨a2, xs2, e2, ha2, hs2⟩ := (s3.tm (.ref a, .list ds) (hT _ (by simp))).lst_inv
    cases e2
    have sq : SqL K H2 a xs2 := SqL.of (s3.ex _ _ ha2)
    refine ⟨fun d hd => ?_, fun e => ⟨xs2, sq, by rw [hs2.length, e]; exact Nat.le_refl _⟩⟩
    obtain ⟨w, hw, hdw⟩ := hs2.get hd
    refine ⟨⟨xs2, w, sq, hw⟩, fun x H3 hy => ?_⟩
    obtain ⟨rfl, hy⟩ := hy
    have := hy xs2 sq
    rw [hw] at this
    cases this
    exact S.grown s3 (Grow.refl s3.ex) hdw)
theorem ei_tup {tl : TE} {ds : List DD} (h : EvD K B tl Γ (.tuple ds)) : EvI K B (iTup K tl) Γ ds := EvI0.gen (fun F σ H s R q =>
  h F σ H s _ fun v d H' e s' => by
    subst e
    obtain ⟨G, s1⟩ := id s'
    obtain ⟨a, xs, rfl, ha, hs⟩ := (s1.tm (v, .tuple ds) (by simp)).tup_inv
    refine ⟨a, rfl, ⟨xs, ex_t s1.ex ha⟩, q _ [(.ref a, .tuple ds)] H' (fun Γ2 F2 σ2 H2 s2 hT i => ?_) s'⟩
    obtain ⟨G2, s3⟩ := id s2
    obtain ⟨a2, xs2, e2, ha2, hs2⟩ := (s3.tm (.ref a, .tuple ds) (hT _ (by simp))).tup_inv
    cases e2
    have sq : SqT K H2 a xs2 := ex_t s3.ex ha2
    refine ⟨fun d hd => ?_, fun e => ⟨xs2, sq, by rw [hs2.length, e]; exact Nat.le_refl _⟩⟩
    obtain ⟨w, hw, hdw⟩ := hs2.get hd
    refine ⟨⟨xs2, w, sq, hw⟩, fun x H3 hy => ?_⟩
    obtain ⟨rfl, hy⟩ := hy
    have := hy xs2 sq
    rw [hw] at this
    cases this
    exact S.grown s3 (Grow.refl s3.ex) hdw)
/-- the ints lo, lo + 1, .. -/
def intsF (lo : Int) (n : Nat) : List Int := (List.range n).map fun (i : Nat) => lo + (i : Int)
theorem ints_get {lo : Int} {n i : Nat} (h : i < n) : (intsF lo n)[i]? = some (lo + i) := by
  unfold intsF
  rw [List.getElem?_map, List.getElem?_range h]; rfl
theorem ints_len {lo : Int} {n : Nat} : (intsF lo n).length = n := by simp [intsF]
theorem goes_range {lo : Int} {n : Nat} : Goes K B (Itr lo n) [] ((intsF lo n).map .int) := fun Γ F σ H s _ i => by
  refine ⟨fun d hd => ?_, fun e => by simp [ints_len] at e; show n ≤ i; omega⟩
  rw [List.getElem?_map] at hd
  by_cases hi : i < n
  · rw [ints_get hi] at hd
    cases hd
    refine ⟨hi, fun x H' hy => ?_⟩
    obtain ⟨rfl, rfl⟩ := hy
    exact s.c fun _ => .int _
  · rw [List.getElem?_eq_none (by rw [ints_len]; omega)] at hd
    cases hd
theorem ei_range1 {n : Int} {ta : TA} (h : EvAD K B ta Γ [.int n]) (hn : -(2 ^ 62) ≤ n ∧ n < 2 ^ 62) : EvI K B (iRng1 ta) Γ ((intsF 0 n.toNat).map .int) := EvI0.gen (fun F σ H s R q =>
  h F σ H s _ fun vs ds H' e l s' => by
    subst e
    obtain ⟨G, s1⟩ := id s'
    obtain ⟨v, rfl, hv⟩ := daL1 (daL_zip l fun p hp => s1.tm p (by simp [hp]))
    exact ⟨n, by rw [hv.int_inv], hn.1, hn.2, q _ [] H' goes_range (s'.drop fun p hp => by simp at hp; simp [hp])⟩)
theorem ei_range2 {lo n : Int} {ta : TA} (h : EvAD K B ta Γ [.int lo, .int n]) (hn : -(2 ^ 62) ≤ lo ∧ lo < 2 ^ 62 ∧ -(2 ^ 62) ≤ n ∧ n < 2 ^ 62) : EvI K B (iRng2 ta) Γ ((intsF lo (n - lo).toNat).map .int) := EvI0.gen (fun F σ H s R q =>
  h F σ H s _ fun vs ds H' e l s' => by
    subst e
    obtain ⟨G, s1⟩ := id s'
    obtain ⟨v, u, rfl, hv, hu⟩ := daL2 (daL_zip l fun p hp => s1.tm p (by simp [hp]))
    exact ⟨lo, n, by rw [hv.int_inv, hu.int_inv], hn, q _ [] H' goes_range (s'.drop fun p hp => by simp at hp; simp [hp])⟩)
/-- for: W by the turn -/
theorem nx_for {wi : TI} {ds : List DD} (hi : EvI K B wi Γ ds) (W : Nat → List Sl → Prop) (h0 : W 0 Γ)
    (hs : ∀ (i : Nat) d Γ1 F', ds[i]? = some d → W i Γ1 → ∃ Γ2 vs, Tg K B g d Γ1 Γ2 vs ∧ Nx K B (t { D with nx := fun σ H => ∃ Γ3, W (i + 1) Γ3 ∧ S K B Γ3 F' σ H, ct := fun σ H => ∃ Γ3, W (i + 1) Γ3 ∧ S K B Γ3 F' σ H, bk := D.nx }) Γ2 F')
    (hd : ∀ Γ1, W ds.length Γ1 → Nx K B D.nx Γ1 F) : Nx K B (tFor wi g t D) Γ F := fun σ H s =>
  hi F σ H s _ fun J T0 X0 H' hJ s' => by
    refine ⟨fun i m σ H => m = ds.length - i ∧ i ≤ ds.length ∧ ∃ Γ1, W i Γ1 ∧ S K B Γ1 ⟨T0 ++ F.T, F.X ++ X0⟩ σ H, ⟨ds.length, by simp, Nat.zero_le _, Γ, h0, s'⟩, ?_⟩
    rintro i m σ H ⟨rfl, hle, Γ1, hW, s1⟩
    obtain ⟨j1, j2⟩ := hJ Γ1 _ σ H s1 (fun p hp => by simp [hp]) (fun p hp => by simp [hp]) i
    by_cases hlt : i < ds.length
    · obtain ⟨go, y⟩ := j1 _ (List.getElem?_eq_getElem hlt)
      refine .inr ⟨go, fun σ' H' => ∃ Γ3, W (i + 1) Γ3 ∧ S K B Γ3 ⟨T0 ++ F.T, F.X ++ X0⟩ σ' H', fun σ' H' h' => ⟨ds.length - (i + 1), by omega, rfl, hlt, h'⟩, fun x H2 hy => ?_⟩
      obtain ⟨Γ2, vs, ht, hn⟩ := hs i _ Γ1 ⟨T0 ++ F.T, F.X ++ X0⟩ (List.getElem?_eq_getElem hlt) hW
      exact ht.2 _ x σ H2 (y x H2 hy) (by simp) _ fun σ2 H3 s3 _ => hn σ2 H3 s3.pop
    · have e : i = ds.length := by omega
      exact .inl ⟨j2 e, hd Γ1 (e ▸ hW) σ H (s1.rmXs.drop fun p hp => by simp [hp])⟩
/-- while -/
theorem nx_while (W : Nat → List Sl → Prop) (m : Nat) (h0 : W m Γ)
    (hs : ∀ m Γ1, W m Γ1 → ∃ b, EvT K B tt Γ1 b ∧ (b = true → Nx K B (t { D with nx := fun σ H => ∃ m' Γ3, m' < m ∧ W m' Γ3 ∧ S K B Γ3 F σ H, ct := fun σ H => ∃ m' Γ3, m' < m ∧ W m' Γ3 ∧ S K B Γ3 F σ H, bk := D.nx }) Γ1 F) ∧ (b = false → Nx K B D.nx Γ1 F)) :
    Nx K B (tWhile tt t D) Γ F := fun σ H s => by
  refine ⟨fun m σ H => ∃ Γ1, W m Γ1 ∧ S K B Γ1 F σ H, ⟨m, Γ, h0, s⟩, ?_⟩
  rintro m σ H ⟨Γ1, hW, s1⟩
  obtain ⟨b, hb, h1, h2⟩ := hs m Γ1 hW
  refine hb F σ H s1 _ fun H' s' => ?_
  cases b with
  | true => exact ⟨_, fun σ' H' ⟨m', Γ3, l, w3, s3⟩ => ⟨m', l, Γ3, w3, s3⟩, h1 rfl σ H' s'⟩
  | false => exact h2 rfl σ H' s'
def AllNo (Γ : List Sl) : List Nat → Prop
  | [] => True
  | v :: vs => Γ[v]? = some .no ∧ AllNo Γ vs
theorem AllNo.at : ∀ {vs : List Nat} {i : Nat}, AllNo Γ vs → i ∈ vs → Γ[i]? = some .no
  | [], _, _, h => nomatch h
  | v :: vs, i, ⟨h1, h2⟩, h => by
    rcases List.mem_cons.mp h with e | e
    · rw [e]; exact h1
    · exact h2.at e
theorem wipe_at {σ : St} {i : Nat} : ∀ {vs : List Nat}, (L2.wipe σ vs)[i]? = if i ∈ vs then (if i < σ.length then some none else none) else σ[i]?
  | [] => by simp [L2.wipe]
  | v :: vs => by
    unfold L2.wipe
    by_cases hv : v = i
    · subst hv
      simp only [List.mem_cons, true_or, if_true]
      by_cases hl : v < σ.length
      · rw [List.getElem?_set_self (by rw [wipe_length]; exact hl), if_pos hl]
      · rw [List.getElem?_eq_none (by rw [List.length_set, wipe_length]; omega), if_neg hl]
    · rw [List.getElem?_set_ne hv, wipe_at]
      have : (i ∈ v :: vs) ↔ i ∈ vs := by simp [Ne.symm hv]
      simp only [this]
theorem wipe_same {σ σ' : St} {vs : List Nat} (hl : σ'.length = σ.length) (h : ∀ i, i ∉ vs → σ'[i]? = (L2.wipe σ vs)[i]?) : L2.wipe σ' vs = L2.wipe σ vs := by
  apply List.ext_getElem?
  intro i
  rw [wipe_at, wipe_at]
  by_cases hi : i ∈ vs
  · rw [if_pos hi, if_pos hi, hl]
  · rw [if_neg hi, if_neg hi, h i hi, wipe_at, if_neg hi]
/-- slots that nothing is known of may hold anything -/
theorem S0.turn {σ σ' : St} {H G : Hp} (h : S0 K B Γ F σ H G) (hl : Γ'.length = Γ.length) (hσ : σ'.length = Γ.length) (us : List Nat) (h1 : ∀ i : Nat, i ∉ us → Γ'[i]? = Γ[i]? ∧ σ'[i]? = σ[i]?) (h2 : AllNo Γ' us) : S0 K B Γ' F σ' H G := by
  have own : ∀ j a, a ∈ ownAt Γ' F j → a ∈ ownAt Γ F j := fun j a ha => by
    unfold ownAt at ha ⊢
    rw [hl] at ha
    split at ha
    · rename_i hj
      rw [if_pos hj]
      by_cases hu : j ∈ us
      · rw [h2.at hu] at ha
        exact nomatch ha
      · rw [(h1 j hu).1] at ha; exact ha
    · rename_i hj
      rw [if_neg hj]; exact ha
  refine ⟨by rw [hσ, hl], h.grow, fun i s e => ?_, h.tm, h.xm, fun i j a x y => h.apart i j a (own i a x) (own j a y), fun i a x => h.mine i a (own i a x)⟩
  by_cases hu : i ∈ us
  · rw [h2.at hu] at e; cases e; trivial
  · obtain ⟨e1, e2⟩ := h1 i hu
    rw [e1] at e; rw [e2]; exact h.sl i s e
/-- a comprehension: Wl by the turn, the list so far -/
theorem en_lc {wi : TI} {ds : List DD} {tt : TT} {us : List Nat} (hi : EvI K B wi Γ ds) (hno : AllNo Γ us) (Wl : Nat → List DD → Prop) (h0 : Wl 0 []) (hsz : ∀ i l, Wl i l → l.length < 16000000)
    (hs : ∀ (i : Nat) d l, ds[i]? = some d → Wl i l → ∃ Γ2 vs b P, Tg K B g d Γ Γ2 vs ∧ (∀ v ∈ vs, v ∈ us) ∧ EvT K B tt Γ2 b ∧ (b = true → Ev K B te Γ2 P) ∧ (b = true → ∀ x, P x → Wl (i + 1) (l ++ [x])) ∧ (b = false → Wl (i + 1) l)) :
    EvN K B (tLc wi g tt te us) Γ (Wl ds.length) := fun F σ H s Q q =>
  hi F σ H s _ fun J T0 X0 H1 hJ s1 Dl hD => by
    have hDl : Dl ∉ B.L := by obtain ⟨G1, z⟩ := id s1; exact z.notLent hD
    have hlen : σ.length = Γ.length := by obtain ⟨G1, z⟩ := id s1; exact z.len
    let F0 : Fra := ⟨T0 ++ F.T, F.X ++ X0⟩
    refine ⟨fun i m H => m = ds.length - i ∧ i ≤ ds.length ∧ ∃ l, Wl i l ∧ S K B Γ (F0.res1 (.ref Dl) (lstR Dl l)) σ H, ⟨ds.length, by simp, Nat.zero_le _, [], h0, ?_⟩, ?_⟩
    · obtain ⟨G1, z⟩ := id s1
      exact ⟨G1, z.newLst hD .nil⟩
    rintro i m H2 ⟨rfl, hle, l, hW, s2⟩
    obtain ⟨j1, j2⟩ := hJ Γ _ σ H2 s2 (fun p hp => by simp [F0, hp]) (fun p hp => by simp [F0, hp]) i
    by_cases hlt : i < ds.length
    · obtain ⟨go, y⟩ := j1 _ (List.getElem?_eq_getElem hlt)
      refine .inr ⟨go, fun H' => ∃ l', Wl (i + 1) l' ∧ S K B Γ (F0.res1 (.ref Dl) (lstR Dl l')) σ H', fun H' ⟨l', w', s'⟩ => ⟨ds.length - (i + 1), by omega, rfl, hlt, l', w', s'⟩, fun x H3 hy => ?_⟩
      obtain ⟨Γ2, vs, b, P, ht, hv, htt, hte, hw1, hw2⟩ := hs i _ l (List.getElem?_eq_getElem hlt) hW
      have sx : S K B Γ (Fra.dat (F0.res1 (.ref Dl) (lstR Dl l)) x ds[i]) (L2.wipe σ us) H3 := by
        obtain ⟨G3, z⟩ := y x H3 hy
        exact ⟨G3, z.turn rfl (by rw [wipe_length, hlen]) us (fun k hk => ⟨rfl, by rw [wipe_at, if_neg hk]⟩) hno⟩
      have back : ∀ {F' : Fra} {σ2 : St} {H' G' : Hp}, (∀ k, k ∉ vs → σ2[k]? = (L2.wipe σ us)[k]?) → S0 K B Γ2 F' σ2 H' G' → S0 K B Γ F' σ H' G' := fun e z =>
        z.turn ht.1.1.symm (by rw [hlen, ht.1.1]) us (fun k hk => ⟨(ht.1.2 k fun w => hk (hv k w)).symm, by rw [e k (fun w => hk (hv k w)), wipe_at, if_neg hk]⟩) hno
      refine ht.2 _ x (L2.wipe σ us) H3 sx (by simp) _ fun σ2 H4 s4 e4 => ⟨wipe_same ?_ fun k hk => e4 k fun z => hk (hv k z), ?_⟩
      · obtain ⟨G4, z4⟩ := id s4
        rw [z4.len, ht.1.1, hlen]
      · refine htt _ σ2 H4 s4 _ fun H5 s5 => ?_
        cases b with
        | false =>
          obtain ⟨G5, z5⟩ := s5
          exact ⟨l, hw2 rfl, G5, (back e4 z5).drop fun p hp => by simp [hp]⟩
        | true =>
          show te σ2 H5 _
          refine hte rfl _ σ2 H5 s5 _ fun yv yd H6 py s6 => ?_
          obtain ⟨G6, z6⟩ := s6
          have z7 := back e4 z6
          have z8 : S0 K B Γ (Fra.res1 ⟨(yv, yd) :: F0.T, F0.X⟩ (.ref Dl) (lstR Dl l)) σ H6 G6 := z7.drop fun p hp => by
            simp at hp ⊢
            rcases hp with e | e
            · simp [e]
            · simp [e]
          obtain ⟨_, xs, hp, hd⟩ := z8.xm (.ref Dl, lstR Dl l) (by simp)
          refine ⟨xs, hp, sz_lt (by rw [hd.length]; exact hsz i l hW), l ++ [yd], hw1 rfl yd py, G6, ?_⟩
          have hm : Dl ∈ ownAt Γ (Fra.res1 ⟨(yv, yd) :: F0.T, F0.X⟩ (.ref Dl) (lstR Dl l)) (Γ.length + F0.X.length) := by rw [ownAt_res, if_pos rfl]; simp [lstR]
          exact z8.updX (r' := lstR Dl (l ++ [yd])) (T' := F0.T) (Grow.put z8.ex (z8.mine _ Dl hm).1 (by simp [lstR])) rfl ⟨rfl, _, upd_same, hd.append (.cons (z8.tm (yv, yd) (by simp)) .nil)⟩ fun p hp => z8.tm p (by simp [hp])
    · have e : i = ds.length := by omega
      obtain ⟨G2, z2⟩ := s2
      have z3 : S0 K B Γ ⟨T0 ++ F.T, F.X ++ X0 ++ [(.ref Dl, lstR Dl l)]⟩ σ H2 G2 := z2
      exact .inl ⟨j2 e, q Dl l H2 (e ▸ hW) hDl ⟨G2, z3.rmXs.drop fun p hp => by simp [hp]⟩⟩
/-- [e(x) for x in ds]: a map -/
theorem en_map {wi : TI} {ds : List DD} {us : List Nat} (e : DD → DD) (hi : EvI K B wi Γ ds) (hno : AllNo Γ us) (hl : ds.length < 16000000)
    (hs : ∀ (i : Nat) d, ds[i]? = some d → ∃ Γ2 vs, Tg K B g d Γ Γ2 vs ∧ (∀ v ∈ vs, v ∈ us) ∧ EvD K B te Γ2 (e d)) : EvND K B (tLc wi g tYes te us) Γ (ds.map e) := fun F σ H s Q q =>
  en_lc (us := us) hi hno (fun i l => i ≤ ds.length ∧ l = (ds.take i).map e) ⟨Nat.zero_le _, rfl⟩ (fun i l ⟨h1, h2⟩ => by rw [h2, List.length_map, List.length_take]; omega) (fun i d l hd ⟨h1, h2⟩ => by
    obtain ⟨Γ2, vs, ht, hv, he⟩ := hs i d hd
    have hlt : i < ds.length := (List.getElem?_eq_some_iff.mp hd).1
    refine ⟨Γ2, vs, true, _, ht, hv, fun F σ H s Q q => q H s, fun _ => he, fun _ x hx => ⟨hlt, ?_⟩, fun z => by cases z⟩
    rw [h2, hx, List.take_add_one, hd, List.map_append]; rfl) F σ H s Q fun p l H' ⟨_, hl⟩ => q p l H' (by rw [hl, List.take_length])
/-- [e(x) for x in ds if f(x)] -/
theorem en_filter {wi : TI} {ds : List DD} {tt : TT} {us : List Nat} (f : DD → Bool) (e : DD → DD) (hi : EvI K B wi Γ ds) (hno : AllNo Γ us) (hl : ds.length < 16000000)
    (hs : ∀ (i : Nat) d, ds[i]? = some d → ∃ Γ2 vs, Tg K B g d Γ Γ2 vs ∧ (∀ v ∈ vs, v ∈ us) ∧ EvT K B tt Γ2 (f d) ∧ (f d = true → EvD K B te Γ2 (e d))) : EvND K B (tLc wi g tt te us) Γ ((ds.filter f).map e) := fun F σ H s Q q =>
  en_lc (us := us) hi hno (fun i l => i ≤ ds.length ∧ l = ((ds.take i).filter f).map e) ⟨Nat.zero_le _, rfl⟩ (fun i l ⟨h1, h2⟩ => by
      rw [h2, List.length_map]
      have := List.length_filter_le f (ds.take i)
      rw [List.length_take] at this
      omega) (fun i d l hd ⟨h1, h2⟩ => by
    obtain ⟨Γ2, vs, ht, hv, ht2, he⟩ := hs i d hd
    have hlt : i < ds.length := (List.getElem?_eq_some_iff.mp hd).1
    have et : ds.take (i + 1) = ds.take i ++ [d] := by rw [List.take_add_one, hd]; rfl
    refine ⟨Γ2, vs, f d, _, ht, hv, ht2, he, fun hf x hx => ⟨hlt, ?_⟩, fun hf => ⟨hlt, ?_⟩⟩
    · rw [h2, hx, et, List.filter_append, List.map_append, List.filter_cons, if_pos hf]; rfl
    · rw [h2, et, List.filter_append, List.map_append, List.filter_cons, if_neg (by simp [hf])]; simp) F σ H s Q fun p l H' ⟨_, hl⟩ => q p l H' (by rw [hl, List.take_length])
end
/-- the promise of a def on data: f tells what it returns -/
def spD (K : FK) (f : List DD → DD → Prop) : Sp := fun vs H Q _ => ∃ G ds r, DaL K G vs ds ∧ Ex G H ∧ f ds r ∧ ∀ v G' H', Grow [] G H G' H' → Da K G' v r → Q v H'
section
variable {K : FK} {B : Bs} {Γ : List Sl} {F : Fra} {D : Ends} {te : TE}
theorem ev_call {f : List DD → DD → Prop} {E : XK} {ta : TA} {ds : List DD} {r : DD} (h : EvAD K B ta Γ ds) (hf : f ds r) : EvD K B (tCall (spD K f) [] E ta) Γ r := fun F σ H s Q q =>
  h F σ H s _ fun vs es H1 p l s1 => by
    subst p
    obtain ⟨G, s1⟩ := s1
    rw [List.append_nil]
    refine ⟨G, es, r, daL_zip l fun p hp => s1.tm p (by simp [hp]), s1.ex, hf, fun v G' H' g hv => q v r H' rfl ?_⟩
    exact (S.grown (d := r) s1 g hv).drop fun p hp => by
      simp at hp ⊢
      rcases hp with e | e <;> simp [e]
/-- the entry of a def on data -/
abbrev bs0 (G H : Hp) : Bs := ⟨[], G, H, fun _ z => nomatch z⟩
theorem daL_get {G : Hp} : ∀ {vs : List V} {ds : List DD}, DaL K G vs ds → ∀ (i : Nat) (d : DD), ds[i]? = some d → ∃ v, vs[i]? = some v ∧ Da K G v d := fun h i d e => h.get e
/-- the slots at the start -/
def slots0 (ds : List DD) (n : Nat) : List Sl := ds.map .dat ++ List.replicate (n - ds.length) .no
theorem start_S {G H : Hp} {N : List Str} {vs : List V} {ds : List DD} (e : Ex G H) (h : DaL K G vs ds) (hN : ds.length ≤ N.length) : S K (bs0 G H) (slots0 ds N.length) ⟨[], []⟩ (start N vs) H := by
  have hl := h.length
  have own : ∀ j, ownAt (slots0 ds N.length) ⟨[], []⟩ j = [] := fun j => by
    unfold ownAt
    split
    · rename_i hj
      cases q : (slots0 ds N.length)[j]? with
      | none => rfl
      | some s =>
        unfold slots0 at q
        have hm := List.mem_of_getElem? q
        rcases List.mem_append.mp hm with z | z
        · obtain ⟨d, _, rfl⟩ := List.mem_map.mp z; rfl
        · rw [(List.mem_replicate.mp z).2]; rfl
    · rfl
  have hst : (start N vs).length = N.length := by
    unfold L2.start
    rw [List.length_append, List.length_map, List.length_replicate]
    omega
  refine ⟨G, by rw [hst]; simp [slots0]; omega, Grow.refl e, fun i s es => ?_, fun p hp => (nomatch hp), fun p hp => (nomatch hp), fun i j a ha _ => (by rw [own] at ha; cases ha), fun i a ha => (by rw [own] at ha; cases ha)⟩
  unfold slots0 at es
  by_cases hi : i < ds.length
  · rw [List.getElem?_append_left (by simpa using hi), List.getElem?_map, List.getElem?_eq_getElem hi] at es
    cases es
    obtain ⟨v, hv, hd⟩ := h.get (List.getElem?_eq_getElem hi)
    refine ⟨v, ?_, hd⟩
    unfold L2.start
    rw [List.getElem?_append_left (by rw [List.length_map]; omega), List.getElem?_map, hv]; rfl
  · rw [List.getElem?_append_right (by simpa using hi)] at es
    have := List.mem_of_getElem? es
    rw [(List.mem_replicate.mp this).2]
    trivial
end
end Ly

namespace Ly
open PySem PySem.Spec PyProof.Rows L2
section
variable (K : FK) (B : Bs)
def RetD (Q : VK) (r : DD) : Prop := ∀ v Γ F σ H', S K B Γ (Fra.dat F v r) σ H' → Q v H'
end
section
variable {K : FK} {B : Bs} {Γ : List Sl} {F : Fra} {D : Ends} {te : TE} {r : DD} {Q : VK}
theorem nx_retD (h : EvD K B te Γ r) (k : RetD K B D.rt r) : Nx K B (tRet te D) Γ F := nx_ret h fun v d σ H' e s => by subst e; exact k v Γ F σ H' s
theorem nx_retP {P : DD → Prop} (h : Ev K B te Γ P) (k : ∀ d, P d → RetD K B D.rt d) : Nx K B (tRet te D) Γ F := nx_ret h fun v d σ H' e s => k d e v Γ F σ H' s
theorem nx_end (k : RetD K B Q .none) : Nx K B (fun _ H' => Q .non H') Γ F := fun σ H s => k .non Γ F σ H (s.c fun _ => .non)
theorem nx_retN (k : RetD K B D.rt .none) : Nx K B (tRetN D) Γ F := fun σ H s => k .non Γ F σ H (s.c fun _ => .non)
theorem ret0 {G H : Hp} (q : ∀ v G' H', Grow [] G H G' H' → Da K G' v r → Q v H') : RetD K (bs0 G H) Q r := fun v Γ F σ H' ⟨G', s⟩ => q v G' H' s.grow (s.tm (v, r) (by simp))
end
/-- THE RULE for a def on data that raises nothing -/
theorem def_ok {P : Program} {w : World} {K : FK} {mg : Str → Option Value} {base : Heap} {x qual : Str} {st : Stmt} {fa : Addr} {fd : FuncData} {N ps : List Str} {k : Nat} {f : List DD → DD → Prop}
    (F : Fun K x qual st fa fd) (S : FnScope N ps (defScope st)) (hl : ∀ ds r, f ds r → ds.length = ps.length)
    (hb : ∀ (cdv : Value) (A : Around) (outer : List Env) (s : Shared) (H G : Hp) (E : XK) (ds : List DD) (r : DD), Room k (A.deeper (envOfC qual (defScope st) s.heap.objs.size fa cdv)) → f ds r →
      ∃ t, PSs (cxOf CX0 P w K mg base N qual (defScope st) fa cdv A outer s H E).nox (defBody st) t ∧ ∀ Q, RetD K (bs0 G H) Q r → Nx K (bs0 G H) (t { nx := fun _ H' => Q .non H', rt := Q }) (slots0 ds N.length) ⟨[], []⟩) :
    FnOk P w K mg base CX0 (k + 1) fa fd ps (spD K f) := by
  refine F.ok S (fun vs H Q E h => ?_) (fun cdv A outer s H vs Q E hr h => ?_)
  · obtain ⟨G, ds, r, hd, _, hf, _⟩ := h
    rw [hd.length]; exact hl ds r hf
  · obtain ⟨G, ds, r, hd, he, hf, q⟩ := h
    obtain ⟨t, ht, hn⟩ := hb cdv A outer s H G E ds r hr hf
    refine ⟨t, ht, hn Q (ret0 q) _ _ (start_S he hd ?_)⟩
    have h1 : (N.take ps.length).length = ps.length := by rw [S.pre]
    rw [List.length_take] at h1
    rw [hl ds r hf]; omega
/-- the numbers of a script and a counter of draws: a list that holds a list -/
def drwR (p q : Addr) : Res where
  as := [p, q]
  ok := fun K G v H => v = .ref p ∧ p ≠ q ∧ ∃ (ns : List Int) (k : Int), H p = some (.lst [.ref q, .int k]) ∧ H q = some (.lst (ns.map V.int)) ∧ ns ≠ [] ∧ ns.length ≤ 64
  mono := fun _ h => h
  loc := fun e ⟨h1, h2, ns, k, h3, h4, h5⟩ => ⟨h1, h2, ns, k, e p _ (by simp) h3, e q _ (by simp) h4, h5⟩
  dom := fun ⟨_, _, ns, k, h3, h4, _⟩ a ha => by
    simp at ha
    rcases ha with e | e
    · rw [e]; exact ⟨_, h3⟩
    · rw [e]; exact ⟨_, h4⟩
/-- the promise of a def that draws: its first argument the draws -/
def spW (K : FK) (pre : List DD → Prop) (f : List DD → DD → Prop) : Sp := fun vs H Q _ => ∃ G p q us ds, vs = .ref p :: us ∧ (drwR p q).ok K G (.ref p) H ∧ G p = none ∧ G q = none ∧ DaL K G us ds ∧ Ex G H ∧ pre ds ∧
  ∀ v r G' H', f ds r → Grow [p, q] G H G' H' → (drwR p q).ok K G' (.ref p) H' → Da K G' v r → Q v H'
section
variable {K : FK} {B : Bs} {Γ : List Sl} {F : Fra} {D : Ends} {te : TE} {r : DD} {Q : VK} {i : Nat} {p q : Addr}
theorem ev_callW {pre : List DD → Prop} {f : List DD → DD → Prop} {E : XK} {tr : TA} {Ps : List DD → Prop} {P : DD → Prop} (hi : Γ[i]? = some (.own (drwR p q))) (h : EvA K B tr Γ Ps) (hp : ∀ ds, Ps ds → pre ds) (hf : ∀ ds r, Ps ds → f ds r → P r) : Ev K B (tCall (spW K pre f) [] E (tCons (tVar i) tr)) Γ P := fun F σ H s Q k => by
  obtain ⟨G, s0⟩ := id s
  obtain ⟨v, hv, hok⟩ := s0.own hi
  refine ⟨v, hv, ?_⟩
  refine h F σ H s _ fun vs es H1 e l s1 => ?_
  obtain ⟨G1, s1⟩ := s1
  obtain ⟨v1, hv1, hok1⟩ := s1.own hi
  have ev : v = v1 := by rw [hv] at hv1; exact Option.some.inj (Option.some.inj hv1)
  subst ev
  have evp : v = .ref p := hok1.1
  subst evp
  rw [List.append_nil]
  have own : ∀ a ∈ [p, q], a ∈ ownAt Γ (F.dats (vs.zip es)) i := fun a ha => by rw [ownAt_slot hi]; exact ha
  refine ⟨G1, p, q, vs, es, rfl, hok1, (s1.mine i p (own p (by simp))).1, (s1.mine i q (own q (by simp))).1, daL_zip l fun p hp => s1.tm p (by simp [hp]), s1.ex, hp es e, fun v' r G' H' fr g ok' da => k v' r H' (hf es r e fr) ?_⟩
  have hset : Γ.set i (.own (drwR p q)) = Γ := by
    obtain ⟨hlt, hget⟩ := List.getElem?_eq_some_iff.mp hi
    rw [← hget]; exact List.set_getElem_self hlt
  have s2 := s1.updOwn (r' := drwR p q) (T' := (v', r) :: F.T) hi g rfl hv ok' fun p hp => by
    rcases List.mem_cons.mp hp with e | e
    · rw [e]; exact da
    · exact (s1.tm p (by simp [e])).mono g.g
  rw [hset] at s2
  exact ⟨G', s2⟩
/-- the entry of a def that draws -/
theorem bsW_hL {G : Hp} {p q : Addr} {H : Hp} (h : (drwR p q).ok K G (.ref p) H) : ∀ a ∈ [p, q], ∃ o, H a = some o := fun a ha => (drwR p q).dom h a ha
theorem start_W {G H : Hp} {N : List Str} {us : List V} {ds : List DD} (hok : (drwR p q).ok K G (.ref p) H) (gp : G p = none) (gq : G q = none) (e : Ex G H) (h : DaL K G us ds) (hN : ds.length + 1 ≤ N.length) :
    S K ⟨[p, q], G, H, bsW_hL hok⟩ (.own (drwR p q) :: slots0 ds (N.length - 1)) ⟨[], []⟩ (L2.start N (.ref p :: us)) H := by
  have hl := h.length
  have own : ∀ j a, a ∈ ownAt (.own (drwR p q) :: slots0 ds (N.length - 1)) ⟨[], []⟩ j → j = 0 ∧ a ∈ [p, q] := fun j a ha => by
    unfold ownAt at ha
    split at ha
    · rename_i hj
      cases j with
      | zero => exact ⟨rfl, ha⟩
      | succ j =>
        exfalso
        rw [List.getElem?_cons_succ] at ha
        cases z : (slots0 ds (N.length - 1))[j]? with
        | none => rw [z] at ha; cases ha
        | some s =>
          rw [z] at ha
          unfold slots0 at z
          have hm := List.mem_of_getElem? z
          rcases List.mem_append.mp hm with y | y
          · obtain ⟨d, _, rfl⟩ := List.mem_map.mp y; cases ha
          · rw [(List.mem_replicate.mp y).2] at ha; cases ha
    · cases ha
  have hst : (L2.start N (.ref p :: us)).length = N.length := by
    unfold L2.start
    rw [List.length_append, List.length_map, List.length_replicate, List.length_cons]
    omega
  refine ⟨G, by rw [hst]; simp [slots0]; omega, Grow.refl e, fun i s es => ?_, fun p hp => (by cases hp), fun p hp => (by cases hp), fun i j a ha hb => by rw [(own i a ha).1, (own j a hb).1], fun i a ha => ?_⟩
  · cases i with
    | zero =>
      cases es
      exact ⟨.ref p, by simp [L2.start], hok⟩
    | succ i =>
      rw [List.getElem?_cons_succ] at es
      have e2 : (L2.start N (.ref p :: us))[i + 1]? = (us.map some ++ List.replicate (N.length - (us.length + 1)) none)[i]? := by
        unfold L2.start
        rw [List.map_cons, List.cons_append, List.getElem?_cons_succ]; rfl
      rw [e2]
      unfold slots0 at es
      by_cases hi : i < ds.length
      · rw [List.getElem?_append_left (by simpa using hi), List.getElem?_map, List.getElem?_eq_getElem hi] at es
        cases es
        obtain ⟨v, hv, hd⟩ := h.get (List.getElem?_eq_getElem hi)
        refine ⟨v, ?_, hd⟩
        rw [List.getElem?_append_left (by rw [List.length_map]; omega), List.getElem?_map, hv]; rfl
      · rw [List.getElem?_append_right (by simpa using hi)] at es
        have := List.mem_of_getElem? es
        rw [(List.mem_replicate.mp this).2]
        trivial
  · have := (own i a ha).2
    simp at this
    rcases this with e | e
    · rw [e]; exact ⟨gp, .inl (by simp)⟩
    · rw [e]; exact ⟨gq, .inl (by simp)⟩
end
/-- THE RULE for a def that draws: whatever it returns keeps f -/
theorem def_okW {P : Program} {w : World} {K : FK} {mg : Str → Option Value} {base : Heap} {x qual : Str} {st : Stmt} {fa : Addr} {fd : FuncData} {N ps : List Str} {k : Nat} {pre : List DD → Prop} {f : List DD → DD → Prop}
    (F : Fun K x qual st fa fd) (S0' : FnScope N ps (defScope st)) (hl : ∀ ds, pre ds → ds.length + 1 = ps.length)
    (hb : ∀ (cdv : Value) (A : Around) (outer : List Env) (s : Shared) (H : Hp) (E : XK) (B : Bs) (p q : Addr) (ds : List DD), Room k (A.deeper (envOfC qual (defScope st) s.heap.objs.size fa cdv)) → pre ds →
      ∃ t, PSs (cxOf CX0 P w K mg base N qual (defScope st) fa cdv A outer s H E).nox (defBody st) t ∧ ∀ Q, (∀ v r Γ F σ H', f ds r → S K B (.own (drwR p q) :: Γ) (Fra.dat F v r) σ H' → Q v H') → Nx K B (t { nx := fun _ H' => Q .non H', rt := Q }) (.own (drwR p q) :: slots0 ds (N.length - 1)) ⟨[], []⟩) :
    FnOk P w K mg base CX0 (k + 1) fa fd ps (spW K pre f) := by
  refine F.ok S0' (fun vs H Q E h => ?_) (fun cdv A outer s H vs Q E hr h => ?_)
  · obtain ⟨G, p, q, us, ds, rfl, _, _, _, hd, _, hp, _⟩ := h
    rw [List.length_cons, hd.length]; exact hl ds hp
  · obtain ⟨G, p, q, us, ds, rfl, hok, gp, gq, hd, he, hp, k⟩ := h
    obtain ⟨t, ht, hn⟩ := hb cdv A outer s H E ⟨[p, q], G, H, bsW_hL hok⟩ p q ds hr hp
    refine ⟨t, ht, hn Q (fun v r Γ F σ H' fr ⟨G', z⟩ => ?_) _ _ (start_W hok gp gq he hd ?_)⟩
    · obtain ⟨v0, _, ok0⟩ := z.own (i := 0) rfl
      have : v0 = .ref p := ok0.1
      subst this
      exact k v r G' H' fr z.grow ok0 (z.tm (v, r) (by simp))
    · have h1 : (N.take ps.length).length = ps.length := by rw [S0'.pre]
      rw [List.length_take] at h1
      have := hl ds hp
      omega
def spStart (K : FK) : Sp := fun vs H Q _ => ∃ (a : Addr) (ns : List Int), vs = [.ref a] ∧ SqL K H a (ns.map V.int) ∧ ns.length ≤ 63 ∧ ∀ p q H', (drwR p q).ok K (fun _ => none) (.ref p) H' → Q (.ref p) H'
abbrev noG : Hp := fun _ => none
theorem law_start {K : FK} {E : XK} {tz : TS} {D : Ends} {N : List Str} {a : Addr} {ns : List Int} {H : Hp} (hN : 2 ≤ N.length) (hS : SqL K H a (ns.map V.int)) (hl : ns.length ≤ 63)
    (h : ∀ B p q, Nx K B (tz D) (.no :: .own (drwR p q) :: List.replicate (N.length - 2) .no) ⟨[], []⟩) : tSeq (tAsg (tCall (spStart K) [] E (tCons (tVar 0) tNil)) (gName 1)) tz D (L2.start N [.ref a]) H := by
  refine ⟨.ref a, by simp [L2.start], a, ns, rfl, hS, hl, fun p q H' ok => ?_⟩
  refine h ⟨[p, q], noG, H', fun b hb => (drwR p q).dom ok b hb⟩ p q _ _ ⟨noG, ?_⟩
  have own : ∀ j b, b ∈ ownAt (.no :: .own (drwR p q) :: List.replicate (N.length - 2) .no) ⟨[], []⟩ j → j = 1 ∧ b ∈ [p, q] := fun j b hb => by
    unfold ownAt at hb
    split at hb
    · match j with
      | 0 => cases hb
      | 1 => exact ⟨rfl, hb⟩
      | j + 2 =>
        exfalso
        rw [List.getElem?_cons_succ, List.getElem?_cons_succ] at hb
        cases z : (List.replicate (N.length - 2) Sl.no)[j]? with
        | none => rw [z] at hb; cases hb
        | some s =>
          rw [z] at hb
          rw [(List.mem_replicate.mp (List.mem_of_getElem? z)).2] at hb; cases hb
    · cases hb
  refine ⟨?_, Grow.refl (fun b o z => by cases z), fun i s es => ?_, fun p hp => (by cases hp), fun p hp => (by cases hp), fun i j b hb hc => by rw [(own i b hb).1, (own j b hc).1], fun i b hb => ⟨rfl, .inl (own i b hb).2⟩⟩
  · show (((L2.start N [.ref a]).set 1 (some (.ref p))).length = _)
    rw [List.length_set]
    unfold L2.start
    simp
    omega
  · match i with
    | 0 => cases es; trivial
    | 1 =>
      cases es
      refine ⟨.ref p, ?_, ok⟩
      show ((L2.start N [.ref a]).set 1 (some (.ref p)))[1]? = _
      rw [List.getElem?_set_self]
      unfold L2.start
      simp
      omega
    | i + 2 =>
      rw [List.getElem?_cons_succ, List.getElem?_cons_succ] at es
      rw [(List.mem_replicate.mp (List.mem_of_getElem? es)).2]
      trivial
theorem law_ret {K : FK} {B : Bs} {Γ : List Sl} {F : Fra} {D : Ends} {te : TE} (h : EvD K B te Γ (.bool true)) (q : ∀ H', D.rt (.bl true) H') : Nx K B (tRet te D) Γ F := nx_ret h fun v d σ H' e ⟨G, s⟩ => by
  subst e
  have e : v = .bl true := (s.tm (v, .bool true) (by simp)).bl_inv
  rw [e]; exact q H'
def spLaw (K : FK) : Sp := fun vs H Q _ => ∃ (a : Addr) (ns : List Int), vs = [.ref a] ∧ SqL K H a (ns.map V.int) ∧ ns.length ≤ 63 ∧ ∀ H', Q (.bl true) H'
end Ly

namespace Ly
open PySem L2
theorem RetD.to {K : FK} {B : Bs} {Q : VK} {r r' : DD} (h : RetD K B Q r) (e : r = r') : RetD K B Q r' := e ▸ h
section
variable {K : FK} {B : Bs} {Γ : List Sl} {F : Fra} {σ : St} {H G : Hp} {i : Nat} {v : V} {d : DD} {r : Res} {D : Ends} {te : TE}
/-- a held own thing goes into a slot -/
theorem S0.takeX {A C : List (V × Res)} (h : S0 K B Γ ⟨F.T, A ++ (v, r) :: C⟩ σ H G) (hi : i < Γ.length) : S0 K B (Γ.set i (.own r)) ⟨F.T, A ++ C⟩ (σ.set i (some v)) H G := by
  let φ : Nat → Nat := fun j => if j < Γ.length then (if j = i then Γ.length + A.length else j) else if j - Γ.length < A.length then j else j + 1
  have own : ∀ j a, a ∈ ownAt (Γ.set i (.own r)) ⟨F.T, A ++ C⟩ j → a ∈ ownAt Γ ⟨F.T, A ++ (v, r) :: C⟩ (φ j) := fun j a ha => by
    rw [ownAt_set _ hi] at ha
    by_cases hj : j < Γ.length
    · by_cases e : j = i
      · rw [if_pos e] at ha
        have : φ j = Γ.length + A.length := by simp only [φ]; rw [if_pos hj, if_pos e]
        rw [this]
        have q : (⟨F.T, A ++ (v, r) :: C⟩ : Fra).X[A.length]? = some (v, r) := by simp
        rw [ownAt_fra q]; exact ha
      · rw [if_neg e] at ha
        have : φ j = j := by simp only [φ]; rw [if_pos hj, if_neg e]
        rw [this]
        unfold ownAt at ha ⊢
        rw [if_pos hj] at ha ⊢; exact ha
    · have e : j ≠ i := by omega
      rw [if_neg e] at ha
      unfold ownAt at ha ⊢
      rw [if_neg hj] at ha
      by_cases hA : j - Γ.length < A.length
      · have : φ j = j := by simp only [φ]; rw [if_neg hj, if_pos hA]
        rw [this, if_neg hj]
        simp only [List.getElem?_append_left hA] at ha ⊢
        exact ha
      · have : φ j = j + 1 := by simp only [φ]; rw [if_neg hj, if_neg hA]
        rw [this, if_neg (by omega)]
        have e1 : (A ++ C)[j - Γ.length]? = C[j - Γ.length - A.length]? := List.getElem?_append_right (by omega)
        have e2 : (A ++ (v, r) :: C)[j + 1 - Γ.length]? = C[j - Γ.length - A.length]? := by
          rw [List.getElem?_append_right (by omega), show j + 1 - Γ.length - A.length = (j - Γ.length - A.length) + 1 by omega, List.getElem?_cons_succ]
        simp only [e1] at ha
        simp only [e2]
        exact ha
  have inj : ∀ j k, φ j = φ k → j = k := fun j k e => by
    simp only [φ] at e
    repeat' split at e
    all_goals omega
  refine ⟨by simpa using h.len, h.grow, fun j t e => ?_, h.tm, fun p hp => h.xm p (by
    rcases List.mem_append.mp hp with z | z
    · exact List.mem_append_left _ z
    · exact List.mem_append_right _ (List.mem_cons_of_mem _ z)), fun j k a h1 h2 => inj j k (h.apart _ _ a (own j a h1) (own k a h2)), fun j a h1 => h.mine _ a (own j a h1)⟩
  by_cases hj : j = i
  · subst hj
    rw [List.getElem?_set_self hi] at e
    cases e
    rw [List.getElem?_set_self (by rw [h.len]; exact hi)]
    exact ⟨v, rfl, h.xm (v, r) (by simp)⟩
  · rw [List.getElem?_set_ne (Ne.symm hj)] at e ⊢
    exact h.sl j t e
inductive Mx where
  | dat (v : V) (d : DD)
  | res (v : V) (r : Res)
def Mx.vl : Mx → V
  | .dat v _ => v
  | .res v _ => v
def Mx.sl : Mx → Sl
  | .dat _ d => .dat d
  | .res _ r => .own r
def mxT : List Mx → List (V × DD)
  | [] => []
  | .dat v d :: ms => (v, d) :: mxT ms
  | .res _ _ :: ms => mxT ms
def mxX : List Mx → List (V × Res)
  | [] => []
  | .dat _ _ :: ms => mxX ms
  | .res v r :: ms => (v, r) :: mxX ms
def setMx (Γ : List Sl) : List Nat → List Mx → List Sl
  | i :: is, m :: ms => setMx (Γ.set i m.sl) is ms
  | _, _ => Γ
def gNames : List Nat → TGs
  | [] => gNil
  | i :: is => gCons (gName i) (gNames is)
variable (K B) in
def EvM (ta : TA) (Γ : List Sl) (Ps : List Mx → Prop) : Prop := ∀ F σ H, S K B Γ F σ H → ∀ Q : List V → Hp → Prop, (∀ ms T' H', Ps ms → (∀ p ∈ mxT ms ++ F.T, p ∈ T') → S K B Γ ⟨T', F.X ++ mxX ms⟩ σ H' → Q (ms.map Mx.vl) H') → ta σ H Q
theorem em_nil : EvM K B tNil Γ (fun ms => ms = []) := fun F σ H s Q q => q [] F.T H rfl (fun p hp => by simpa [mxT] using hp) (by rw [show mxX [] = [] from rfl, List.append_nil]; exact s)
theorem em_D {tr : TA} {P : DD → Prop} {Pr : List Mx → Prop} (h : Ev K B te Γ P) (hr : EvM K B tr Γ Pr) : EvM K B (tCons te tr) Γ (fun ms => ∃ v d ms', P d ∧ Pr ms' ∧ ms = .dat v d :: ms') := fun F σ H s Q q =>
  h F σ H s _ fun v d H1 p1 s1 => hr _ σ H1 s1 _ fun ms T' H2 p2 ht s2 => q (.dat v d :: ms) T' H2 ⟨v, d, ms, p1, p2, rfl⟩ (fun p hp => ht p (by
    simp [mxT] at hp ⊢
    rcases hp with e | e | e <;> simp [e])) s2
theorem em_N {tr : TA} {P : List DD → Prop} {Pr : List Mx → Prop} (h : EvN K B te Γ P) (hr : EvM K B tr Γ Pr) : EvM K B (tCons te tr) Γ (fun ms => ∃ p ds ms', P ds ∧ p ∉ B.L ∧ Pr ms' ∧ ms = .res (.ref p) (lstR p ds) :: ms') := fun F σ H s Q q =>
  h F σ H s _ fun p ds H1 p1 hl s1 => hr _ σ H1 s1 _ fun ms T' H2 p2 ht s2 => q (.res (.ref p) (lstR p ds) :: ms) T' H2 ⟨p, ds, ms, p1, hl, p2, rfl⟩ (fun p hp => ht p hp) (by
    have e : (F.res1 (.ref p) (lstR p ds)).X ++ mxX ms = F.X ++ mxX (.res (.ref p) (lstR p ds) :: ms) := by simp [mxX]
    rw [e] at s2; exact s2)
theorem EvM.imp {ta : TA} {Ps Ps' : List Mx → Prop} (h : EvM K B ta Γ Ps) (k : ∀ ms, Ps ms → Ps' ms) : EvM K B ta Γ Ps' := fun F σ H s Q q => h F σ H s Q fun ms T' H' p => q ms T' H' (k ms p)
theorem g_mix {T' : List (V × DD)} {X : List (V × Res)} {Q : St → Hp → Prop} : ∀ (is : List Nat) (ms : List Mx) (Γ : List Sl) (σ : St) (H : Hp), is.length = ms.length → (∀ i ∈ is, i < Γ.length) → (∀ p ∈ mxT ms, p ∈ T') → S K B Γ ⟨T', X ++ mxX ms⟩ σ H →
    (∀ σ', S K B (setMx Γ is ms) ⟨T', X⟩ σ' H → Q σ' H) → gNames is (ms.map Mx.vl) σ H Q
  | [], [], Γ, σ, H, _, _, _, s, q => ⟨rfl, q σ (by rw [show mxX [] = [] from rfl, List.append_nil] at s; exact s)⟩
  | [], _ :: _, _, _, _, e, _, _, _, _ => by cases e
  | _ :: _, [], _, _, _, e, _, _, _, _ => by cases e
  | i :: is, .dat v d :: ms, Γ, σ, H, e, hi, ht, s, q => by
    obtain ⟨G, s⟩ := s
    refine ⟨v, ms.map Mx.vl, rfl, ?_⟩
    show gNames is (ms.map Mx.vl) (σ.set i (some v)) H Q
    exact g_mix is ms (Γ.set i (.dat d)) _ H (Nat.succ.inj e) (fun j hj => by rw [List.length_set]; exact hi j (by simp [hj])) (fun p hp => ht p (by simp [mxT, hp])) ⟨G, s.setDat (hi i (by simp)) (ht (v, d) (by simp [mxT]))⟩ q
  | i :: is, .res v r :: ms, Γ, σ, H, e, hi, ht, s, q => by
    obtain ⟨G, s⟩ := s
    refine ⟨v, ms.map Mx.vl, rfl, ?_⟩
    show gNames is (ms.map Mx.vl) (σ.set i (some v)) H Q
    exact g_mix is ms (Γ.set i (.own r)) _ H (Nat.succ.inj e) (fun j hj => by rw [List.length_set]; exact hi j (by simp [hj])) (fun p hp => ht p (by simpa [mxT] using hp)) ⟨G, s.takeX (F := ⟨T', []⟩) (hi i (by simp))⟩ q
/-- a, b = (x, y): new own things among them -/
theorem nx_mix {ta : TA} {Ps : List Mx → Prop} {n : Nat} (is : List Nat) (h : EvM K B ta Γ Ps) (hn : is.length = n) (hi : (is.all fun i => Nat.blt i Γ.length) = true) (hsz : Nat.ble n 100 = true) (k : ∀ ms, Ps ms → ms.length = n ∧ Nx K B D.nx (setMx Γ is ms) F) :
    Nx K B (tAsg (tTup ta) (gTup K n (gNames is)) D) Γ F := fun σ H s =>
  h F σ H s _ fun ms T' H' p ht s' => by
    obtain ⟨hl, hk⟩ := k ms p
    refine ⟨sz_of (by rw [List.length_map, hl]; have := Nat.le_of_ble_eq_true hsz; omega), fun a ha => ⟨a, ms.map Mx.vl, rfl, SqT.of upd_same, by rw [List.length_map, hl], ?_⟩⟩
    obtain ⟨G, s'⟩ := s'
    have s2 : S K B Γ ⟨T', F.X ++ mxX ms⟩ σ (upd H' a (.tup (ms.map Mx.vl))) := ⟨G, s'.step (T' := T') (Grow.free s'.ex ha) fun q hq => s'.tm q hq⟩
    exact g_mix is ms Γ σ _ (by rw [hn, hl]) (fun i h => of_blt (List.all_eq_true.mp hi i h)) (fun q hq => ht q (by simp [hq])) s2 fun σ' s3 => hk σ' _ (s3.drop fun q hq => ht q (by simp [hq]))
/-- a, b = x, y of plain local names -/
theorem nx_par {ta : TA} {Ps : List Mx → Prop} {i j : Nat} (h : EvM K B ta Γ Ps) (hi : (Nat.blt i Γ.length && Nat.blt j Γ.length) = true) (k : ∀ ms, Ps ms → ms.length = 2 ∧ Nx K B D.nx (setMx Γ [i, j] ms) F) : Nx K B (tPar i j ta D) Γ F := fun σ H s =>
  h F σ H s _ fun ms T' H' p ht s' => by
    obtain ⟨hl, hk⟩ := k ms p
    obtain ⟨h1, h2⟩ := Bool.and_eq_true_iff.mp hi
    obtain ⟨v, r, e1, w, r', e2, e3, q⟩ := g_mix (Q := D.nx) [i, j] ms Γ σ H' (by simp [hl]) (fun a ha => by
      simp at ha
      rcases ha with e | e <;> rw [e]
      · exact of_blt h1
      · exact of_blt h2) (fun q hq => ht q (by simp [hq])) s' fun σ' s3 => hk σ' _ (s3.drop fun q hq => ht q (by simp [hq]))
    exact ⟨v, w, by rw [e1, e2, e3], q⟩
theorem nx_par3 {ta : TA} {Ps : List Mx → Prop} {i j l : Nat} (h : EvM K B ta Γ Ps) (hi : (Nat.blt i Γ.length && (Nat.blt j Γ.length && Nat.blt l Γ.length)) = true) (k : ∀ ms, Ps ms → ms.length = 3 ∧ Nx K B D.nx (setMx Γ [i, j, l] ms) F) : Nx K B (tPar3 i j l ta D) Γ F := fun σ H s =>
  h F σ H s _ fun ms T' H' p ht s' => by
    obtain ⟨hl, hk⟩ := k ms p
    obtain ⟨h1, h23⟩ := Bool.and_eq_true_iff.mp hi
    obtain ⟨h2, h3⟩ := Bool.and_eq_true_iff.mp h23
    obtain ⟨v, r, e1, w, r', e2, z, r2, e3, e4, q⟩ := g_mix (Q := D.nx) [i, j, l] ms Γ σ H' (by simp [hl]) (fun a ha => by
      simp at ha
      rcases ha with e | e | e <;> rw [e]
      · exact of_blt h1
      · exact of_blt h2
      · exact of_blt h3) (fun q hq => ht q (by simp [hq])) s' fun σ' s3 => hk σ' _ (s3.drop fun q hq => ht q (by simp [hq]))
    exact ⟨v, w, z, by rw [e1, e2, e3, e4], q⟩
theorem nx_loop {W : List Sl → Prop} {F' : Fra} (h : W Γ) : Nx K B (fun σ H => ∃ Γ3, W Γ3 ∧ S K B Γ3 F' σ H) Γ F' := fun σ H s => ⟨Γ, h, s⟩
theorem nx_loopW {W : Nat → List Sl → Prop} {m m' : Nat} (hm : m' < m) (h : W m' Γ) : Nx K B (fun σ H => ∃ m' Γ3, m' < m ∧ W m' Γ3 ∧ S K B Γ3 F σ H) Γ F := fun σ H s => ⟨m', Γ, hm, h, s⟩
/-- for: Γ at the turn i is Γi i -/
theorem nx_forE {wi : TI} {g : TG} {t : TS} {ds : List DD} (hi : EvI K B wi Γ ds) (Γi : Nat → List Sl) (h0 : Γ = Γi 0)
    (hs : ∀ (i : Nat) d F', ds[i]? = some d → ∃ Γ2 vs, Tg K B g d (Γi i) Γ2 vs ∧ Nx K B (t { D with nx := fun σ H => ∃ Γ3, Γ3 = Γi (i + 1) ∧ S K B Γ3 F' σ H, ct := fun σ H => ∃ Γ3, Γ3 = Γi (i + 1) ∧ S K B Γ3 F' σ H, bk := D.nx }) Γ2 F')
    (hd : Nx K B D.nx (Γi ds.length) F) : Nx K B (tFor wi g t D) Γ F :=
  nx_for hi (fun i Γ1 => Γ1 = Γi i) h0 (fun i d Γ1 F' h e => by rw [e]; exact hs i d F' h) (fun Γ1 e => by rw [e]; exact hd)
theorem nx_loopE {Γ' : List Sl} {F' : Fra} (h : Γ = Γ') : Nx K B (fun σ H => ∃ Γ3, Γ3 = Γ' ∧ S K B Γ3 F' σ H) Γ F' := nx_loop (W := fun Γ3 => Γ3 = Γ') h
theorem nx_never : (∀ σ H, S K B Γ F σ H → False) → Nx K B (tNever D) Γ F := fun h => h
theorem nx_absurd {n : St → Hp → Prop} (h : False) : Nx K B n Γ F := h.elim
end
end Ly

namespace Ly
open PySem PySem.Spec PyProof.Rows L2
section
variable {X : Cx}
def rInTD (K : FK) (neg : Bool) : R2 := fun x y H Q => ∃ d ds, Dp K H x d ∧ Dp K H y (.tuple ds) ∧ SeqAt.shaped d = true ∧ SeqAt.shaped (.tuple ds) = true ∧ Q (.bl (if neg then !inD d ds else inD d ds)) H
theorem op_inTD {k : Nat} (hr : Room k X.A) : OpR X (compareOp .In) (rInTD X.K false) := by
  intro pins s σ H x y v u Q I rx ry h
  obtain ⟨d, ds, hd, he, sd, se, q⟩ := h
  obtain ⟨as, r1⟩ := Dp.reads I d x v hd rx
  obtain ⟨bs, r2⟩ := Dp.reads I (.tuple ds) y u he ry
  have hu : X.A.units + 65 < cLine := by have := hr.un; omega
  exact SeqAt.in_tuple_reads r2 r1 (SeqAt.canLay_of_shaped se) (SeqAt.canLay_of_shaped sd) (room_in_shaped sd hu) ⟨.bl _, H, I, rfl, q⟩
theorem op_notInTD {k : Nat} (hr : Room k X.A) : OpR X (compareOp .NotIn) (rInTD X.K true) := by
  intro pins s σ H x y v u Q I rx ry h
  obtain ⟨d, ds, hd, he, sd, se, q⟩ := h
  obtain ⟨as, r1⟩ := Dp.reads I d x v hd rx
  obtain ⟨bs, r2⟩ := Dp.reads I (.tuple ds) y u he ry
  have hu : X.A.units + 65 < cLine := by have := hr.un; omega
  exact SeqAt.notIn_tuple_reads r2 r1 (SeqAt.canLay_of_shaped se) (SeqAt.canLay_of_shaped sd) (room_in_shaped sd hu) ⟨.bl _, H, I, rfl, q⟩
end
section
variable {K : FK} {B : Bs} {Γ : List Sl} {ta tb te : TE} {x y z d : DD}
theorem ev_inTD {ds : List DD} (ha : EvD K B ta Γ x) (hb : EvD K B tb Γ (.tuple ds)) (sx : SeqAt.shaped x = true) (sy : SeqAt.shaped (.tuple ds) = true) : EvD K B (tOp (rInTD K false) ta tb) Γ (.bool (inD x ds)) :=
  ev_op ha hb fun v u G H hv hu e Q q => ⟨x, ds, dp_ex e hv sx, dp_ex e hu sy, sx, sy, q _ G H (Grow.refl e) (.bl _)⟩
theorem ev_niTD {ds : List DD} (ha : EvD K B ta Γ x) (hb : EvD K B tb Γ (.tuple ds)) (sx : SeqAt.shaped x = true) (sy : SeqAt.shaped (.tuple ds) = true) : EvD K B (tOp (rInTD K true) ta tb) Γ (.bool (!inD x ds)) :=
  ev_op ha hb fun v u G H hv hu e Q q => ⟨x, ds, dp_ex e hv sx, dp_ex e hu sy, sx, sy, q _ G H (Grow.refl e) (.bl _)⟩
end
section
variable {K : FK} {B : Bs} {Γ Γ' : List Sl} {ta tb te : TE} {x y z d : DD} {vs : List Nat}
theorem tg_unl {gs : TGs} {ds : List DD} {n : Nat} (hn : ds.length = n) (h : Tgs K B gs ds Γ Γ' vs) : Tg K B (gUnl K n gs) (.list ds) Γ Γ' vs := ⟨h.1, fun F v σ H ⟨G, s⟩ hd Q q => by
  obtain ⟨a, xs, rfl, ha, hs⟩ := (s.tm _ hd).lst_inv
  refine ⟨a, xs, rfl, SqL.of (s.ex _ _ ha), hs.length.trans hn, ?_⟩
  have s1 : S K B Γ (F.dats (xs.zip ds)) σ H := ⟨G, s.len, s.grow, s.sl, fun p hp => by
    rcases List.mem_append.mp hp with z | z
    · obtain ⟨k, hk, ek⟩ := List.getElem_of_mem z
      have hk' : k < xs.length := by rw [List.length_zip] at hk; omega
      have hk2 : k < ds.length := by rw [List.length_zip] at hk; omega
      obtain ⟨w, hw1, hw2⟩ := hs.get (List.getElem?_eq_getElem hk2)
      rw [List.getElem?_eq_getElem hk'] at hw1
      rw [← ek, List.getElem_zip]
      rw [Option.some.inj hw1]
      exact hw2
    · exact s.tm p z, s.xm, s.apart, s.mine⟩
  exact h.2 _ xs σ H s1 hs.length (fun p hp => by simp [hp]) Q fun σ' H' s' e' => q σ' H' (s'.drop fun p hp => by simp [hp]) e'⟩
/-- the ints lo, lo + c, .. -/
def intsC (lo c : Int) (n : Nat) : List Int := (List.range n).map fun (i : Nat) => lo + (i : Int) * c
theorem intsC_get {lo c : Int} {n i : Nat} (h : i < n) : (intsC lo c n)[i]? = some (lo + i * c) := by
  unfold intsC
  rw [List.getElem?_map, List.getElem?_range h]; rfl
theorem intsC_len {lo c : Int} {n : Nat} : (intsC lo c n).length = n := by simp [intsC]
theorem goes_rangeC {lo c : Int} {n : Nat} : Goes K B (Itc lo c n) [] ((intsC lo c n).map .int) := fun Γ F σ H s _ i => by
  refine ⟨fun d hd => ?_, fun e => by simp [intsC_len] at e; show n ≤ i; omega⟩
  rw [List.getElem?_map] at hd
  by_cases hi : i < n
  · rw [intsC_get hi] at hd
    cases hd
    refine ⟨hi, fun x H' hy => ?_⟩
    obtain ⟨rfl, rfl⟩ := hy
    exact s.c fun _ => .int _
  · rw [List.getElem?_eq_none (by rw [intsC_len]; omega)] at hd
    cases hd
theorem daL3 {G : Hp} {vs : List V} (h : DaL K G vs [x, y, z]) : ∃ v u w, vs = [v, u, w] ∧ Da K G v x ∧ Da K G u y ∧ Da K G w z := by
  cases h with
  | cons h t =>
    cases t with
    | cons h2 t2 =>
      cases t2 with
      | cons h3 t3 => cases t3; exact ⟨_, _, _, rfl, h, h2, h3⟩
theorem ei_range3 {i j c : Int} {n : Nat} {ta : TA} (h : EvAD K B ta Γ [.int i, .int j, .int c]) (hn : RgC i j c n) : EvI K B (iRng3 ta) Γ ((intsC i c n).map .int) := EvI0.gen (fun F σ H s R q =>
  h F σ H s _ fun vs ds H' e l s' => by
    subst e
    obtain ⟨G, s1⟩ := id s'
    obtain ⟨v, u, w, rfl, hv, hu, hw⟩ := daL3 (daL_zip l fun p hp => s1.tm p (by simp [hp]))
    exact ⟨i, j, c, n, by rw [hv.int_inv, hu.int_inv, hw.int_inv], hn, q _ [] H' goes_rangeC (s'.drop fun p hp => by simp at hp; simp [hp])⟩)
end
theorem kit_NoneType_int : kitB "NoneType" "int" = some false := by decide +kernel
theorem kit_bool_int : kitB "bool" "int" = some true := by decide +kernel
theorem kit_int_int : kitB "int" "int" = some true := by decide +kernel
theorem kit_str_int : kitB "str" "int" = some false := by decide +kernel
theorem kit_list_int : kitB "list" "int" = some false := by decide +kernel
theorem kit_tuple_int : kitB "tuple" "int" = some false := by decide +kernel
theorem kit_dict_int : kitB "dict" "int" = some false := by decide +kernel
theorem kit_NoneType_bool : kitB "NoneType" "bool" = some false := by decide +kernel
theorem kit_bool_bool : kitB "bool" "bool" = some true := by decide +kernel
theorem kit_int_bool : kitB "int" "bool" = some false := by decide +kernel
theorem kit_str_bool : kitB "str" "bool" = some false := by decide +kernel
theorem kit_list_bool : kitB "list" "bool" = some false := by decide +kernel
theorem kit_tuple_bool : kitB "tuple" "bool" = some false := by decide +kernel
theorem kit_dict_bool : kitB "dict" "bool" = some false := by decide +kernel
theorem kit_NoneType_str : kitB "NoneType" "str" = some false := by decide +kernel
theorem kit_bool_str : kitB "bool" "str" = some false := by decide +kernel
theorem kit_int_str : kitB "int" "str" = some false := by decide +kernel
theorem kit_str_str : kitB "str" "str" = some true := by decide +kernel
theorem kit_list_str : kitB "list" "str" = some false := by decide +kernel
theorem kit_tuple_str : kitB "tuple" "str" = some false := by decide +kernel
theorem kit_dict_str : kitB "dict" "str" = some false := by decide +kernel
theorem kit_NoneType_list : kitB "NoneType" "list" = some false := by decide +kernel
theorem kit_bool_list : kitB "bool" "list" = some false := by decide +kernel
theorem kit_int_list : kitB "int" "list" = some false := by decide +kernel
theorem kit_str_list : kitB "str" "list" = some false := by decide +kernel
theorem kit_list_list : kitB "list" "list" = some true := by decide +kernel
theorem kit_tuple_list : kitB "tuple" "list" = some false := by decide +kernel
theorem kit_dict_list : kitB "dict" "list" = some false := by decide +kernel
theorem kit_NoneType_tuple : kitB "NoneType" "tuple" = some false := by decide +kernel
theorem kit_bool_tuple : kitB "bool" "tuple" = some false := by decide +kernel
theorem kit_int_tuple : kitB "int" "tuple" = some false := by decide +kernel
theorem kit_str_tuple : kitB "str" "tuple" = some false := by decide +kernel
theorem kit_list_tuple : kitB "list" "tuple" = some false := by decide +kernel
theorem kit_tuple_tuple : kitB "tuple" "tuple" = some true := by decide +kernel
theorem kit_dict_tuple : kitB "dict" "tuple" = some false := by decide +kernel
/-- data that can be compared: no dicts, texts in order, of depth n at most -/
def okD (n : Nat) (d : DD) : Prop := d.canLay0 = true ∧ d.depth ≤ n
theorem okD.shaped {n : Nat} {d : DD} (h : okD n d) (hn : n ≤ 64 := by decide) : SeqAt.shaped d = true := by
  unfold SeqAt.shaped
  rw [h.1, Bool.true_and]
  exact decide_eq_true (Nat.le_trans h.2 hn)
theorem okD.mono {n m : Nat} {d : DD} (h : okD n d) (hn : n ≤ m) : okD m d := ⟨h.1, Nat.le_trans h.2 hn⟩
theorem ok_int {n : Nat} (i : Int) : okD n (.int i) := ⟨rfl, by simp [PyData.depth]⟩
theorem ok_none {n : Nat} : okD n .none := ⟨rfl, by simp [PyData.depth]⟩
theorem ok_bool {n : Nat} (i : Bool) : okD n (.bool i) := ⟨rfl, by simp [PyData.depth]⟩
theorem ok_all {n : Nat} : ∀ {ds : List DD}, (∀ d ∈ ds, okD n d) → PyData.canLayAll0 ds = true ∧ PyData.depthAll ds ≤ n
  | [], _ => ⟨rfl, by simp [PyData.depthAll]⟩
  | d :: ds, h => by
    obtain ⟨h1, h2⟩ := ok_all (ds := ds) fun x hx => h x (by simp [hx])
    obtain ⟨h3, h4⟩ := h d (by simp)
    refine ⟨by simp [PyData.canLayAll0, h3, h1], ?_⟩
    simp only [PyData.depthAll]
    exact Nat.max_le.mpr ⟨h4, h2⟩
theorem ok_list {n : Nat} {ds : List DD} (h : ∀ d ∈ ds, okD n d) : okD (n + 1) (.list ds) := by
  obtain ⟨h1, h2⟩ := ok_all h
  exact ⟨by simpa [PyData.canLay0] using h1, by simp only [PyData.depth]; omega⟩
theorem ok_tuple {n : Nat} {ds : List DD} (h : ∀ d ∈ ds, okD n d) : okD (n + 1) (.tuple ds) := by
  obtain ⟨h1, h2⟩ := ok_all h
  exact ⟨by simpa [PyData.canLay0] using h1, by simp only [PyData.depth]; omega⟩
theorem ok_ints {n : Nat} (ns : List Int) : okD (n + 1) (.list (ns.map .int)) := ok_list fun d hd => by
  obtain ⟨i, _, rfl⟩ := List.mem_map.mp hd; exact ok_int i
theorem okD.refl {n : Nat} {d : DD} (h : okD n d) : PyData.eqv d d = true := SeqAt.eqv_refl d h.1
theorem ok_ne {n : Nat} {d e : DD} (h : okD n d) (k : d = e) : (!PyData.eqv d e) = false := by rw [← k, h.refl]; rfl
theorem eqv_ints : ∀ (xs ys : List Int), PyData.eqvAll (xs.map .int) (ys.map .int) = decide (xs = ys)
  | [], [] => by simp [PyData.eqvAll]
  | [], _ :: _ => by simp [PyData.eqvAll]
  | _ :: _, [] => by simp [PyData.eqvAll]
  | x :: xs, y :: ys => by
    simp only [List.map_cons, PyData.eqvAll, PyData.eqv, eqv_ints xs ys]
    by_cases h : x = y <;> simp [h]
end Ly

namespace Ly
open PySem L2
section
variable {K : FK} {B : Bs} {Γ : List Sl} {F : Fra} {D : Ends} {ta tb te to : TE} {P : DD → Prop} {x y z d : DD} {i : Nat}
theorem ev_isB {a b : Bool} (ha : EvD K B ta Γ (.bool a)) (hb : EvD K B tb Γ (.bool b)) : EvD K B (tOp rIsB ta tb) Γ (.bool (decide (a = b))) :=
  ev_op ha hb fun v u G H hv hu e Q q => by
    rw [hv.bl_inv, hu.bl_inv]
    exact ⟨a, b, rfl, rfl, q _ G H (Grow.refl e) (.bl _)⟩
theorem ev_notB {a b : Bool} (ha : EvD K B ta Γ (.bool a)) (hb : EvD K B tb Γ (.bool b)) : EvD K B (tOp rNotB ta tb) Γ (.bool (!decide (a = b))) :=
  ev_op ha hb fun v u G H hv hu e Q q => by
    rw [hv.bl_inv, hu.bl_inv]
    exact ⟨a, b, rfl, rfl, q _ G H (Grow.refl e) (.bl _)⟩
/-- xs.index(y), flat items -/
theorem ev_index {ds : List DD} {j : Nat} {w : DD} (h : EvD K B to Γ (.list ds)) (h2 : EvD K B te Γ y) (fy : flatD y = true) (fd : ds.all flatD = true) (hj : ds[j]? = some w) (he : PyData.eqv w y = true) (hno : ∀ (m : Nat) (u : DD), m < j → ds[m]? = some u → PyData.eqv u y = false) :
    EvD K B (tBM K "list" (rIndex K) to (tCons te tNil)) Γ (.int (j : Nat)) := fun F σ H s Q q =>
  h F σ H s _ fun v d' H1 e1 s1 => by
    subst e1
    obtain ⟨G1, z1⟩ := id s1
    obtain ⟨a, xs, rfl, ha, hs⟩ := (z1.tm (v, .list ds) (by simp)).lst_inv
    refine ⟨.inl ⟨rfl, xs, SqL.of (z1.ex _ _ ha)⟩, ?_⟩
    refine h2 _ σ H1 s1 _ fun u d2 H2 e2 s2 => ?_
    subst e2
    obtain ⟨G2, z2⟩ := id s2
    obtain ⟨a', xs', ee, ha', hs'⟩ := (z2.tm (.ref a, .list ds) (by simp)).lst_inv
    cases ee
    have hu := z2.tm (u, d2) (by simp)
    obtain ⟨wv, hw1, hw2⟩ := hs'.get hj
    have fw : flatD w = true := List.all_eq_true.mp fd w (List.mem_of_getElem? hj)
    refine ⟨a, xs', u, j, wv, rfl, rfl, SqL.of (z2.ex _ _ ha'), by rw [hu.flat]; exact fy, by rw [hs'.flat]; exact fd, hw1, by rw [hw2.eqV hu fw fy]; exact he, fun m z' hm hz' => ?_, q _ _ H2 rfl ((s2.drop (T' := F.T) fun p hp => by simp [hp]).c fun _ => .int _)⟩
    obtain ⟨dz, hd1, hd2⟩ := hs'.getV hz'
    rw [hd2.eqV hu (List.all_eq_true.mp fd dz (List.mem_of_getElem? hd1)) fy]
    exact hno m dz hm hd1
inductive KvOk (K : FK) (G : Hp) : List (Key × V) → List (Key × DD) → Prop
  | nil : KvOk K G [] []
  | cons {k : Key} {v : V} {d : DD} {xs : List (Key × V)} {ds : List (Key × DD)} : Da K G v d → KvOk K G xs ds → KvOk K G ((k, v) :: xs) ((k, d) :: ds)
theorem KvOk.mono {G G' : Hp} (e : Ex G G') : ∀ {xs : List (Key × V)} {ds : List (Key × DD)}, KvOk K G xs ds → KvOk K G' xs ds
  | _, _, .nil => .nil
  | _, _, .cons h t => .cons (h.mono e) (t.mono e)
def getK (ds : List (Key × DD)) (k : Key) : Option DD := (ds.find? fun kv => decide (kv.1 = k)).map (·.2)
def putD (ds : List (Key × DD)) (k : Key) (v : DD) : List (Key × DD) :=
  if (ds.any fun kv => decide (kv.1 = k)) = true then ds.map (fun kv => if kv.1 = k then (kv.1, v) else kv) else ds ++ [(k, v)]
theorem KvOk.get {G : Hp} {k : Key} : ∀ {xs : List (Key × V)} {ds : List (Key × DD)}, KvOk K G xs ds → (∀ d, getK ds k = some d → ∃ v, valV xs k = some v ∧ Da K G v d) ∧ (getK ds k = none → valV xs k = none)
  | _, _, .nil => ⟨fun d h => (by simp [getK] at h), fun _ => rfl⟩
  | _, _, .cons (k := k') h t => by
    obtain ⟨t1, t2⟩ := t.get (k := k)
    by_cases e : k' = k
    · subst e
      refine ⟨fun d hd => ?_, fun hn => ?_⟩
      · simp [getK] at hd
        subst hd
        exact ⟨_, valV_pos rfl, h⟩
      · simp [getK] at hn
    · have e1 : ∀ (d : DD) (r : List (Key × DD)), getK ((k', d) :: r) k = getK r k := fun d r => by simp [getK, e]
      refine ⟨fun d hd => ?_, fun hn => ?_⟩
      · rw [e1] at hd
        obtain ⟨v, h1, h2⟩ := t1 d hd
        exact ⟨v, by rw [valV_neg e]; exact h1, h2⟩
      · rw [e1] at hn
        rw [valV_neg e]; exact t2 hn
theorem KvOk.any {G : Hp} {k : Key} : ∀ {xs : List (Key × V)} {ds : List (Key × DD)}, KvOk K G xs ds → (xs.any fun kv => decide (kv.1 = k)) = ds.any fun kv => decide (kv.1 = k)
  | _, _, .nil => rfl
  | _, _, .cons h t => by rw [List.any_cons, List.any_cons, t.any]
theorem KvOk.map {G : Hp} {k : Key} {v : V} {d : DD} (hv : Da K G v d) : ∀ {xs : List (Key × V)} {ds : List (Key × DD)}, KvOk K G xs ds → KvOk K G (xs.map fun kv => if kv.1 = k then (kv.1, v) else kv) (ds.map fun kv => if kv.1 = k then (kv.1, d) else kv)
  | _, _, .nil => .nil
  | _, _, .cons (k := k') h t => by
    rw [List.map_cons, List.map_cons]
    by_cases e : k' = k
    · simp only [e, if_true]
      exact .cons hv (t.map hv)
    · simp only [e, if_false]
      exact .cons h (t.map hv)
theorem KvOk.snoc {G : Hp} {k : Key} {v : V} {d : DD} (hv : Da K G v d) : ∀ {xs : List (Key × V)} {ds : List (Key × DD)}, KvOk K G xs ds → KvOk K G (xs ++ [(k, v)]) (ds ++ [(k, d)])
  | _, _, .nil => .cons hv .nil
  | _, _, .cons h t => .cons h (t.snoc hv)
theorem KvOk.put {G : Hp} {k : Key} {v : V} {d : DD} (hv : Da K G v d) {xs : List (Key × V)} {ds : List (Key × DD)} (h : KvOk K G xs ds) : KvOk K G (putK xs k v) (putD ds k d) := by
  unfold putK putD
  rw [h.any]
  split
  · exact h.map hv
  · exact h.snoc hv
theorem KvOk.len {G : Hp} : ∀ {xs : List (Key × V)} {ds : List (Key × DD)}, KvOk K G xs ds → xs.length = ds.length
  | _, _, .nil => rfl
  | _, _, .cons _ t => congrArg (· + 1) t.len
/-- an own dict -/
def dkR (p : Addr) (ds : List (Key × DD)) : Res where
  as := [p]
  ok := fun K G v H => v = .ref p ∧ ∃ xs, H p = some (.dK xs) ∧ KvOk K G xs ds
  mono := fun e ⟨h1, xs, h2, h3⟩ => ⟨h1, xs, h2, h3.mono e⟩
  loc := fun e ⟨h1, xs, h2, h3⟩ => ⟨h1, xs, e p _ (by simp) h2, h3⟩
  dom := fun ⟨_, xs, h2, _⟩ a ha => by
    have e : a = p := by simpa using ha
    subst e; exact ⟨_, h2⟩
def kD : Key → DD
  | .inl n => .int n
  | .inr s => .str s
theorem Da.kV {G : Hp} {v : V} {k : Key} (h : Da K G v (kD k)) : v = kV k := by
  cases k with
  | inl n => exact h.int_inv
  | inr s => exact h.str_inv
variable (K B) in
/-- the pairs of a display -/
def EvP (trs : List (TE × TE)) (Γ : List Sl) (kds : List (Key × DD)) : Prop := ∀ F σ H, S K B Γ F σ H → ∀ Q : List (V × V) → Hp → Prop,
  (∀ (kvs : List (Key × V)) (H' : Hp), kvs.length = kds.length → kvs.map Prod.fst = kds.map Prod.fst → S K B Γ (F.dats ((kvs.map Prod.snd).zip (kds.map Prod.snd))) σ H' → Q (kvs.map fun kv => (kV kv.1, kv.2)) H') → tPairs trs σ H Q
theorem ep_nil : EvP K B [] Γ [] := fun F σ H s Q q => q [] H rfl rfl s
theorem ep_cons {tk tv : TE} {trs : List (TE × TE)} {k : Key} {kds : List (Key × DD)} (hk : EvD K B tk Γ (kD k)) (hv : EvD K B tv Γ d) (hr : EvP K B trs Γ kds) : EvP K B ((tk, tv) :: trs) Γ ((k, d) :: kds) := fun F σ H s Q q =>
  hk F σ H s _ fun v1 d1 H1 e1 s1 => by
    subst e1
    obtain ⟨G1, z1⟩ := id s1
    have ek : v1 = kV k := (z1.tm (v1, kD k) (by simp)).kV
    refine hv F σ H1 s1.pop _ fun v2 d2 H2 e2 s2 => ?_
    subst e2
    refine hr _ σ H2 s2 _ fun kvs H3 l3 k3 s3 => ?_
    subst ek
    exact q ((k, v2) :: kvs) H3 (congrArg Nat.succ l3) (by simp [k3]) (s3.drop fun p hp => by
      simp only [List.map_cons, List.zip_cons_cons, List.cons_append, List.mem_cons, List.mem_append] at hp ⊢
      rcases hp with e | e | e
      · exact .inr (.inl e)
      · exact .inl e
      · exact .inr (.inr e))
theorem kvOk_of {G : Hp} : ∀ {kvs : List (Key × V)} {kds : List (Key × DD)}, kvs.length = kds.length → kvs.map Prod.fst = kds.map Prod.fst → (∀ p ∈ (kvs.map Prod.snd).zip (kds.map Prod.snd), Da K G p.1 p.2) → KvOk K G kvs kds
  | [], [], _, _, _ => .nil
  | [], _ :: _, e, _, _ => by cases e
  | _ :: _, [], e, _, _ => by cases e
  | (k, v) :: kvs, (k', d) :: kds, e, f, h => by
    simp at f
    obtain ⟨rfl, f⟩ := f
    exact .cons (h (v, d) (by simp)) (kvOk_of (Nat.succ.inj e) (by simpa using f) fun p hp => h p (by simp at hp ⊢; exact .inr hp))
def mergeD (kds more : List (Key × DD)) : List (Key × DD) := more.foldl (fun acc kv => putD acc kv.1 kv.2) kds
theorem KvOk.merge {G : Hp} : ∀ {more : List (Key × V)} {dmore : List (Key × DD)} {xs : List (Key × V)} {ds : List (Key × DD)}, KvOk K G more dmore → KvOk K G xs ds → KvOk K G (mergeK xs more) (mergeD ds dmore)
  | _, _, _, _, .nil, h => h
  | _, _, _, _, .cons hv t, h => by
    unfold mergeK mergeD
    rw [List.foldl_cons, List.foldl_cons]
    exact KvOk.merge t (h.put hv)
variable (K B) in
/-- a new own thing comes -/
def EvR (te : TE) (Γ : List Sl) (Pr : V → Res → Prop) : Prop := ∀ F σ H, S K B Γ F σ H → ∀ Q : VK, (∀ v r H', Pr v r → S K B Γ (F.res1 v r) σ H' → Q v H') → te σ H Q
theorem er_disp {trs : List (TE × TE)} {kds : List (Key × DD)} (h : EvP K B trs Γ kds) (hl : Nat.ble kds.length 15 = true := by rfl) : EvR K B (tDisp trs) Γ (fun v r => ∃ p, v = .ref p ∧ p ∉ B.L ∧ r = dkR p (mergeD [] kds)) := fun F σ H ⟨G, s⟩ Q q p hp => by
  have s1 : S0 K B Γ (F.res1 (.ref p) (dkR p [])) σ (upd H p (.dK [])) G := s.newRes (Grow.free s.ex hp) ⟨rfl, [], upd_same, .nil⟩ fun a ha => by
    have e : a = p := by simpa [dkR] using ha
    rw [e]; exact hp
  refine h _ σ _ ⟨G, s1⟩ _ fun kvs H2 l2 k2 s2 => ?_
  obtain ⟨G2, z2⟩ := s2
  obtain ⟨_, xs, hx, hk⟩ := z2.xm (.ref p, dkR p []) (by simp)
  cases hk
  refine ⟨hx, kvs, rfl, by rw [l2]; exact Nat.le_of_ble_eq_true hl, ?_⟩
  have hm : p ∈ ownAt Γ (Fra.res1 ⟨(kvs.map Prod.snd).zip (kds.map Prod.snd) ++ F.T, F.X⟩ (.ref p) (dkR p [])) (Γ.length + F.X.length) := by rw [ownAt_res, if_pos rfl]; simp [dkR]
  have hg := (z2.mine _ p hm).1
  have ko : KvOk K G2 kvs kds := kvOk_of l2 k2 fun q hq => z2.tm q (by simp [hq])
  exact q _ _ _ ⟨p, rfl, s.notLent hp, rfl⟩ ⟨G2, z2.updX (F := ⟨(kvs.map Prod.snd).zip (kds.map Prod.snd) ++ F.T, F.X⟩) (r' := dkR p (mergeD [] kds)) (T' := F.T) (Grow.put z2.ex hg (by simp [dkR])) rfl ⟨rfl, _, upd_same, ko.merge .nil⟩ fun q hq => z2.tm q (by simp [hq])⟩
theorem S.unres {σ : St} {H : Hp} {v : V} {r : Res} (s : S K B Γ (F.res1 v r) σ H) : S K B Γ F σ H := by
  obtain ⟨G, h⟩ := s
  have hA : ∀ j a, a ∈ ownAt Γ F j → a ∈ ownAt Γ (F.res1 v r) j := fun j a hj => by
    rw [ownAt_res]; split
    · rename_i e; subst e; rw [ownAt_end] at hj; cases hj
    · exact hj
  exact ⟨G, h.len, h.grow, h.sl, h.tm, fun q hq => h.xm q (by simp [hq]), fun j k a z y => h.apart j k a (hA j a z) (hA k a y), fun j a z => h.mine j a (hA j a z)⟩
/-- {..}[k] -/
theorem ev_getR {td tk : TE} {kds : List (Key × DD)} {k : Key} (h : EvR K B td Γ (fun v r => ∃ p, v = .ref p ∧ p ∉ B.L ∧ r = dkR p kds)) (hk : EvD K B tk Γ (kD k)) (hg : getK kds k = some d) : EvD K B (tDGet td tk) Γ d := fun F σ H s Q q =>
  h F σ H s _ fun v r H1 ⟨p, e, _, er⟩ s1 => by
    subst e er
    refine hk _ σ H1 s1 _ fun u d2 H2 e2 s2 => ?_
    subst e2
    obtain ⟨G2, z2⟩ := id s2
    obtain ⟨_, xs, hx, ko⟩ := z2.xm (.ref p, dkR p kds) (by simp)
    obtain ⟨w, hw, hd⟩ := ko.get.1 d hg
    have eu : u = kV k := (z2.tm (u, kD k) (by simp)).kV
    refine ⟨p, w, rfl, .inl ⟨xs, k, .inl hx, eu, hw.symm⟩, q w d H2 rfl ?_⟩
    have s3 : S K B Γ (Fra.res1 ⟨(w, d) :: F.T, F.X⟩ (.ref p) (dkR p kds)) σ H2 := (S.grown (d := d) z2 (Grow.refl z2.ex) hd).drop fun p hp => by
      simp at hp ⊢
      rcases hp with e | e <;> simp [e]
    exact s3.unres
/-- xs += ys, xs an own list -/
theorem nx_augL {p : Addr} {ds zs : List DD} (hx : Γ[i]? = some (.own (lstR p ds))) (h : EvD K B te Γ (.list zs)) (hz : ds.length + zs.length ≤ 16000000) (k : Nx K B D.nx (Γ.set i (.own (lstR p (ds ++ zs)))) F) : Nx K B (tAug i te rExt2 D) Γ F := fun σ H s => by
  have hi : i < Γ.length := (List.getElem?_eq_some_iff.mp hx).1
  obtain ⟨G, s0⟩ := id s
  obtain ⟨v, hv, ev, _⟩ := s0.own hx
  subst ev
  refine ⟨.ref p, hv, ?_⟩
  refine h F σ H s _ fun w d' H' e s' => ?_
  subst e
  obtain ⟨G', s1⟩ := s'
  obtain ⟨v2, hv2, rfl, ys, hp2, hd2⟩ := s1.own hx
  obtain ⟨b, us, rfl, hb, hs⟩ := (s1.tm (w, .list zs) (by simp)).lst_inv
  have hm : p ∈ ownAt Γ (F.dat (.ref b) (.list zs)) i := by rw [ownAt_slot hx]; simp [Sl.as, lstR]
  have hg : G' p = none := (s1.mine i p hm).1
  refine ⟨p, b, ys, us, rfl, rfl, hp2, s1.ex _ _ hb, sz_of (by rw [hd2.length, hs.length]; exact hz), ?_⟩
  have s2 := s1.updOwn (r' := lstR p (ds ++ zs)) (T' := F.T) hx (Grow.put (o := .lst (ys ++ us)) s1.ex hg (by simp [lstR])) rfl hv2 ⟨rfl, _, upd_same, hd2.append hs⟩ fun q hq => s1.tm q (by simp [hq])
  have eσ : σ.set i (some (.ref p)) = σ := by
    have hl : i < σ.length := (List.getElem?_eq_some_iff.mp hv2).1
    have : σ[i] = some (.ref p) := by
      rw [List.getElem?_eq_getElem hl] at hv2; exact Option.some.inj hv2
    rw [← this]; exact List.set_getElem_self hl
  show D.nx (σ.set i (some (.ref p))) _
  rw [eσ]
  exact k _ _ ⟨G', s2⟩
end
end Ly

namespace Ly
open PySem L2
section
variable {K : FK} {B : Bs} {Γ : List Sl} {F : Fra} {D : Ends} {te : TE} {t : TS} {g : TG}
variable (K B) in
def EvIP (wi : TI) (Γ : List Sl) (Ps : List DD → Prop) : Prop := ∀ F σ H, S K B Γ F σ H → ∀ R : It → Hp → Prop, (∀ J T0 ds H', Ps ds → Goes K B J T0 ds → S K B Γ (F.dats T0) σ H' → R J H') → wi σ H R
theorem ei_listP {tl : TE} {Ps : List DD → Prop} {P : DD → Prop} (h : Ev K B tl Γ P) (hp : ∀ d, P d → ∃ ds, d = .list ds ∧ Ps ds) : EvIP K B (iList K tl) Γ Ps := fun F σ H s R q =>
  h F σ H s _ fun v d H' pd s' => by
    obtain ⟨ds, rfl, hds⟩ := hp d pd
    obtain ⟨G, s1⟩ := id s'
    obtain ⟨a, xs, rfl, ha, hs⟩ := (s1.tm (v, .list ds) (by simp)).lst_inv
    refine ⟨a, rfl, ⟨xs, SqL.of (s1.ex _ _ ha)⟩, q _ [(.ref a, .list ds)] ds H' hds (fun Γ2 F2 σ2 H2 s2 hT i => ?_) s'⟩
    obtain ⟨G2, s3⟩ := id s2
    obtain ⟨a2, xs2, e2, ha2, hs2⟩ := (s3.tm (.ref a, .list ds) (hT _ (by simp))).lst_inv
    cases e2
    have sq : SqL K H2 a xs2 := SqL.of (s3.ex _ _ ha2)
    refine ⟨fun d hd => ?_, fun e => ⟨xs2, sq, by rw [hs2.length, e]; exact Nat.le_refl _⟩⟩
    obtain ⟨w, hw, hdw⟩ := hs2.get hd
    refine ⟨⟨xs2, w, sq, hw⟩, fun x H3 hy => ?_⟩
    obtain ⟨rfl, hy⟩ := hy
    have := hy xs2 sq
    rw [hw] at this
    cases this
    exact S.grown s3 (Grow.refl s3.ex) hdw
theorem nx_forP {wi : TI} {Ps : List DD → Prop} (hi : EvIP K B wi Γ Ps) (W : List DD → Nat → List Sl → Prop) (h0 : ∀ ds, Ps ds → W ds 0 Γ)
    (hs : ∀ ds, Ps ds → ∀ (i : Nat) d Γ1 F', ds[i]? = some d → W ds i Γ1 → ∃ Γ2 vs, Tg K B g d Γ1 Γ2 vs ∧ Nx K B (t { D with nx := fun σ H => ∃ Γ3, W ds (i + 1) Γ3 ∧ S K B Γ3 F' σ H, ct := fun σ H => ∃ Γ3, W ds (i + 1) Γ3 ∧ S K B Γ3 F' σ H, bk := D.nx }) Γ2 F')
    (hd : ∀ ds, Ps ds → ∀ Γ1, W ds ds.length Γ1 → Nx K B D.nx Γ1 F) : Nx K B (tFor wi g t D) Γ F := fun σ H s =>
  hi F σ H s _ fun J T0 ds H' hds hJ s' => by
    refine ⟨fun i m σ H => m = ds.length - i ∧ i ≤ ds.length ∧ ∃ Γ1, W ds i Γ1 ∧ S K B Γ1 (F.dats T0) σ H, ⟨ds.length, by simp, Nat.zero_le _, Γ, h0 ds hds, s'⟩, ?_⟩
    rintro i m σ H ⟨rfl, hle, Γ1, hW, s1⟩
    obtain ⟨j1, j2⟩ := hJ Γ1 _ σ H s1 (fun p hp => by simp [hp]) i
    by_cases hlt : i < ds.length
    · obtain ⟨go, y⟩ := j1 _ (List.getElem?_eq_getElem hlt)
      refine .inr ⟨go, fun σ' H' => ∃ Γ3, W ds (i + 1) Γ3 ∧ S K B Γ3 (F.dats T0) σ' H', fun σ' H' h' => ⟨ds.length - (i + 1), by omega, rfl, hlt, h'⟩, fun x H2 hy => ?_⟩
      obtain ⟨Γ2, vs, ht, hn⟩ := hs ds hds i _ Γ1 (F.dats T0) (List.getElem?_eq_getElem hlt) hW
      exact ht.2 _ x σ H2 (y x H2 hy) (by simp) _ fun σ2 H3 s3 _ => hn σ2 H3 s3.pop
    · have e : i = ds.length := by omega
      exact .inl ⟨j2 e, hd ds hds Γ1 (e ▸ hW) σ H (s1.drop fun p hp => by simp [hp])⟩
/-- a loop that changes nothing that is known -/
theorem nx_forC {wi : TI} {ds : List DD} (hi : EvI K B wi Γ ds)
    (hs : ∀ (i : Nat) d F', ds[i]? = some d → ∃ Γ2 vs, Tg K B g d Γ Γ2 vs ∧ Nx K B (t { D with nx := fun σ H => ∃ Γ3, Γ3 = Γ ∧ S K B Γ3 F' σ H, ct := fun σ H => ∃ Γ3, Γ3 = Γ ∧ S K B Γ3 F' σ H, bk := D.nx }) Γ2 F')
    (hd : Nx K B D.nx Γ F) : Nx K B (tFor wi g t D) Γ F :=
  nx_for hi (fun _ Γ1 => Γ1 = Γ) rfl (fun i d Γ1 F' h e => by rw [e]; exact hs i d F' h) (fun Γ1 e => by rw [e]; exact hd)
theorem nx_forPC {wi : TI} {Ps : List DD → Prop} (hi : EvIP K B wi Γ Ps)
    (hs : ∀ ds, Ps ds → ∀ (i : Nat) d F', ds[i]? = some d → ∃ Γ2 vs, Tg K B g d Γ Γ2 vs ∧ Nx K B (t { D with nx := fun σ H => ∃ Γ3, Γ3 = Γ ∧ S K B Γ3 F' σ H, ct := fun σ H => ∃ Γ3, Γ3 = Γ ∧ S K B Γ3 F' σ H, bk := D.nx }) Γ2 F')
    (hd : Nx K B D.nx Γ F) : Nx K B (tFor wi g t D) Γ F :=
  nx_forP hi (fun _ _ Γ1 => Γ1 = Γ) (fun _ _ => rfl) (fun ds h i d Γ1 F' hd e => by rw [e]; exact hs ds h i d F' hd) (fun ds h Γ1 e => by rw [e]; exact hd)
/-- [e(x) for x in ds], e drawn -/
theorem en_mapP {wi : TI} {ds : List DD} {us : List Nat} (Pe : DD → Prop) (hi : EvI K B wi Γ ds) (hno : AllNo Γ us) (hl : ds.length < 16000000)
    (hs : ∀ (i : Nat) d, ds[i]? = some d → ∃ Γ2 vs, Tg K B g d Γ Γ2 vs ∧ (∀ v ∈ vs, v ∈ us) ∧ Ev K B te Γ2 Pe) : EvN K B (tLc wi g tYes te us) Γ (fun l => l.length = ds.length ∧ ∀ x ∈ l, Pe x) := fun F σ H s Q q =>
  en_lc (us := us) hi hno (fun i l => i ≤ ds.length ∧ l.length = i ∧ ∀ x ∈ l, Pe x) ⟨Nat.zero_le _, rfl, fun x hx => by cases hx⟩ (fun i l ⟨h1, h2, _⟩ => by omega) (fun i d l hd ⟨h1, h2, h3⟩ => by
    obtain ⟨Γ2, vs, ht, hv, he⟩ := hs i d hd
    have hlt : i < ds.length := (List.getElem?_eq_some_iff.mp hd).1
    refine ⟨Γ2, vs, true, _, ht, hv, fun F σ H s Q q => q H s, fun _ => he, fun _ x hx => ⟨hlt, by simp [h2], fun y hy => ?_⟩, fun z => by cases z⟩
    rcases List.mem_append.mp hy with z | z
    · exact h3 y z
    · rw [List.mem_singleton.mp z]; exact hx) F σ H s Q fun p l H' ⟨_, h2, h3⟩ => q p l H' ⟨h2, h3⟩
end
end Ly

namespace Ly
open PySem PySem.Spec PyProof.Rows L2
def CgO (cls : Value) (a : Addr) : HO := .ext fun h => ∃ (oe : Obj) (vs : Array Value), h.get? a = some oe ∧ Zc cls none oe ∧ oe.data = .fields vs
theorem cgO_ok {P : Program} {w : World} {H : Hp} {h : Heap} {a : Addr} {cls : Value} {oe : Obj} {vs : Array Value} (e : h.get? a = some oe) (z : Zc cls none oe) (d : oe.data = .fields vs) : ObjOk P w H h a (CgO cls a) :=
  ⟨⟨oe, vs, e, z, d⟩, ⟨oe, e⟩, fun _ _ ⟨o, v, q, r⟩ k => ⟨o, v, k o q, r⟩⟩
section
variable {X : Cx} {pins : List (Addr × Obj)} {σ : L2.St} {H : Hp} {sI s s' : Shared} {B : Heap}
theorem landedO {a : Addr} {o : HO} (I : Inv X pins σ H sI) (nb : ∀ b o, sI.heap.get? b = some o → b ∉ frs X.stack → B.get? b = some o) (st : B.StaysIn s'.heap) (up : sI.heap.UpToSlots s'.heap) (os : s'.os = sI.os) (ag : AllBare s'.gens)
    (Ba : B.get? a = none) (nfr : a ∉ frs X.stack) (na : H a = none) (new : ObjOk X.prog X.w (upd H a o) s'.heap a o) : Inv X pins σ (upd H a o) s' := by
  have nf : ∀ b ∈ frs X.stack, ∀ o, sI.heap.get? b = some o → ∃ sl, s'.heap.get? b = some { o with slots := sl } := fun b hb o e => by
    obtain ⟨_, o', e', hd⟩ := I.stack.mem hb
    rw [e] at e'; cases e'
    exact up b o e hd
  have J := I.call (ch := []) (h' := s'.heap) (g' := s'.gens) (t' := s'.toks) (d' := s'.drawn) (H' := upd H a o)
    ⟨fun b o e _ hb _ => st b o (nb b o e hb), fun b o e _ hb _ => nf b hb o e, fun b u e n _ => by
      rw [upd_ne (fun z => ?_)]
      · exact n
      · subst z
        have := nb b u e nfr
        rw [Ba] at this
        exact (nomatch this), fun b o e _ => by
      by_cases hb : b ∈ frs X.stack
      · obtain ⟨sl, q⟩ := nf b hb o e
        exact ⟨_, q⟩
      · exact ⟨o, st b o (nb b o e hb)⟩, fun b xs e => by rw [upd_ne (ne_of_none e na)]; exact e, fun b u xs e => by rw [upd_ne (ne_of_none e na)]; exact e, fun b ps e => ⟨#[], by rw [upd_ne (ne_of_none e na), e]; simp⟩⟩
    (HOk.laidN ((I.inGround nb).kept st) (fun _ _ q => q) na new) ag (fun _ z => nomatch z)
  obtain ⟨a1, a2, a3, a4, a5⟩ := s'
  have e5 : a5 = sI.os := os
  subst e5
  exact J
theorem suite0 (I : Inv X pins σ H s) (a : Addr) : Inv (X.suite a (X.pn ++ pins)) [] σ H s :=
  ⟨I.ok.suite _ _, I.os, I.bare, I.base, I.loc, I.cell, I.free, I.freeC, fun p hp => I.pin p (by rw [List.append_nil] at hp; exact hp), I.hok, I.len⟩
theorem unsuite0 {a : Addr} {pn' : List (Addr × Obj)} (I : Inv (X.suite a (X.pn ++ pins)) pn' σ H s) (ok : X.Ok) : Inv X pins σ H s :=
  ⟨ok, I.os, I.bare, I.base, I.loc, I.cell, I.free, I.freeC, fun p hp => I.pin p (List.mem_append_left _ hp), I.hok, I.len⟩
end
/-- what the clause 'except x as n' wishes of an exception of the body, which is kept -/
def wKeep (K : FK) (c : Value) (i : Nat) (ts : TS) (Wout : WX) (D : Ends) : WX := fun cls d σ H =>
  ∃ b, PySem.W.exmOne K cls c = some b ∧ (b = true → d = none ∧ ∀ a, H a = none → ts { nx := fun σ' H' => D.nx (σ'.set i none) H', rt := D.rt, bk := fun σ' H' => D.bk (σ'.set i none) H', ct := fun σ' H' => D.ct (σ'.set i none) H' } (σ.set i (some (.ref a))) (upd H a (CgO cls a))) ∧
    (b = false → Wout cls d σ H)
section
variable {X : Cx} {x n : Str} {c : Value} {i : Nat} {body suite : List Stmt} {b₀ : Stmt} {np pos pos' : Pos} {tb : WX → TS} {ts : TS} {Wout : WX}
theorem ps_try_keep (hs : X.stack = X.env :: X.outer) (hf : X.env.frame = some X.env.locals) (hN : X.N.Nodup) (hi : X.N[i]? = some n) (hln : X.env.kindOf n = some .local) (hc : Names X x c) (tk : Takes X Wout)
    (hb : ∀ (W : WX) (pn : List (Addr × Obj)) (xe : Value → Shared → Prop), Takes (X.tr pn xe) W → PassesOwn (model X.prog X.w) X.A X.env xe → PSs (X.tr pn xe) body (tb W))
    (hsu : ∀ (a : Addr) (pn : List (Addr × Obj)), PSs (X.suite a pn) (b₀ :: suite) ts) :
    PS X (.Try body [.ExceptHandler (some (.Name x np)) (some n) (b₀ :: suite) pos'] [] [] pos) (fun D σ H => tb (wKeep X.K c i ts Wout D) D σ H) := by
  refine ⟨fun pins s σ H D I h => ?_⟩
  have ok := I.ok
  have hfr : X.A.frames = some (X.env :: X.outer) := by rw [ok.frames, hs]
  have hloc : Loc X.env.scope n := .inl hln
  refine wpAny_Try_except ?_
  refine wpAny_mono ((hb (wKeep X.K c i ts Wout D) (X.pn ++ pins) (fun e s₁ => wpAny (model X.prog X.w) X.A (noteFrame e X.env) (fun _ s₂ => wpAny (model X.prog X.w) X.A (setFlight e none) (fun _ s₃ =>
    wpAny (model X.prog X.w) X.A (handleBy e X.env [.ExceptHandler (some (.Name x np)) (some n) (b₀ :: suite) pos']) (SP X pins D) X.xe s₃) X.xe s₂) X.xe s₁) (fun u s' xx => ?_) PassesOwn.looking).run [] s σ H D (I.toTry _) h) (fun f s1 hsp => ?_) (fun e s1 he => he)
  · obtain ⟨a, B, sI, pins', σ', H', cls, d, rfl, J', nb, up, sky, na, os, ag, b, hb1, hyes, hno⟩ := xx
    have J : Inv X pins σ' H' sI := J'.ofTry ok
    have sky' : Sky B (X.env :: X.outer) a (Zc cls d) X.env.locals s'.heap := by rw [← hs]; exact sky
    show wpAny (model X.prog X.w) X.A (noteFrame (.ref a) X.env) _ _ _
    refine Sky.land Zc.steady hfr hf sky' fun h3 fl3 up3 => ?_
    have J3 : Inv X pins σ' H' { s' with heap := h3 } := J.landed nb fl3.1 (up.trans up3) os ag
    obtain ⟨oe3, vs3, he3, hz3, hd3⟩ := fl3.there
    have notFr : ∀ {h : Heap} {o : Obj} {vs : Array Value}, h.FunFrames B (X.env :: X.outer) → h.get? a = some o → o.data = .fields vs → a ∉ frs (X.env :: X.outer) := fun {h o vs} ff e dd hm => by
      obtain ⟨_, o', e', hnf⟩ := ff.mem hm
      rw [e] at e'; cases e'
      exact hnf _ dd
    have nfr := notFr fl3.2.2.1 he3 hd3
    have nL : a ≠ X.env.locals := fun z => nfr (List.mem_filterMap.mpr ⟨X.env, List.mem_cons_self, by rw [hf, z]⟩)
    have nF : a ∉ X.fs := fun hm => by
      obtain ⟨e, he, q⟩ := List.mem_filterMap.mp hm
      exact nfr (List.mem_filterMap.mpr ⟨e, List.mem_cons_of_mem _ he, q⟩)
    have S3 := J3.suite he3 hd3 na nL nF
    refine wpAny_handleBy_cons (codeAny_handlers_test ?_) (by intro q; cases q)
    have LT : PySem.W.Looks (model X.prog X.w) h3 (typeOf (.ref a)) cls := fun A Q E s k q => wpAny_typeOf_ref (k _ _ he3) (by rw [hz3.1]; exact q)
    have LM := PySem.W.exm_one (M := model X.prog X.w) (J3.kIn) LT hb1
    have test : ∀ {Q : Value → Shared → Prop} {E : Value → Shared → Prop}, Q c { s' with heap := h3 } → wpAny (model X.prog X.w) (X.A.mark (some (.ref a))) (eval (.Name x np) X.env) Q E { s' with heap := h3 } := fun {Q E} q => by
      obtain ⟨hg, hdbg, hm | ⟨hm, hv, hnn⟩⟩ := hc
      · exact ld_glob (X := X.suite a ((a, oe3) :: (X.pn ++ pins))) S3 hg hm q hdbg
      · exact ld_blt (X := X.suite a ((a, oe3) :: (X.pn ++ pins))) S3 hg hm hv q hnn hdbg
    refine test (LM.here ?_)
    cases b with
    | true =>
      refine codeAny_handlers_suite_as ?_
      refine HandSPX.lands_againZ fl3 fun h4 fl4 up4 => ?_
      obtain ⟨oe4, vs4, he4, hz4, hd4⟩ := fl4.there
      obtain ⟨hdn, hy2⟩ := hyes rfl
      subst hdn
      have J4 : Inv X pins σ' (upd H' a (CgO cls a)) { s' with heap := h4 } := landedO J nb fl4.1 ((up.trans up3).trans up4) os ag fl4.2.1 (by rw [hs]; exact nfr) na (cgO_ok he4 hz4 hd4)
      have S4 := suite0 J4 a
      refine store_ok (X := X.suite a (X.pn ++ pins)) (v := .ref a) S4 hN hi hloc rfl (fun s5 S5 => ?_) (.inr hln)
      refine wpAny_mono ((hsu a (X.pn ++ pins)).run [] s5 _ _ _ S5 (hy2 a na)) (fun f s6 hsp => ?_) (fun _ _ z => False.elim z)
      have end_ : ∀ {σ6 : L2.St} {H6 : Hp} {Q : Shared → Prop}, Inv (X.suite a (X.pn ++ pins)) [] σ6 H6 s6 → (∀ s7, Inv X pins (σ6.set i none) H6 s7 → Q s7) →
          wpAny (model X.prog X.w) X.A (do bindName X.env n .none; unbindBehindTheSuite X.env n pos') (fun _ s7 => Q s7) X.xe s6 := fun {σ6 H6 Q} S6 hq => gone_ok (unsuite0 S6 ok) hN hi hln hq
      cases f with
      | next =>
        obtain ⟨σ6, H6, S6, q6⟩ := hsp
        exact end_ S6 fun s7 J7 => ⟨_, _, J7, q6⟩
      | brk =>
        obtain ⟨σ6, H6, S6, q6⟩ := hsp
        exact end_ S6 fun s7 J7 => ⟨_, _, J7, q6⟩
      | cont =>
        obtain ⟨σ6, H6, S6, q6⟩ := hsp
        exact end_ S6 fun s7 J7 => ⟨_, _, J7, q6⟩
      | ret u =>
        obtain ⟨v6, σ6, H6, S6, r6, q6⟩ := hsp
        exact end_ S6 fun s7 J7 => ⟨_, _, _, J7, r6, q6⟩
    | false =>
      show wpAny _ X.A (handleBy (.ref a) X.env []) _ _ _
      refine wpAny_handleBy_nil ?_
      obtain ⟨k1, k2, k3, oe, vs, T, oT, ts', he, hz, hd, h1, hr⟩ := id fl3
      unfold PySem.passOn
      refine wpAny_bind (wpAny_field he hd h1 ?_)
      rw [if_neg (show ¬ ((Value.ref T == Value.none) = true) from by simp)]
      have fin : wpAny (model X.prog X.w) X.A (setFlight (.ref a) X.env.frame) (fun _ s4 => wpAny (model X.prog X.w) X.A (throw (.ref a) : Sem Flow) (SP X pins D) X.xe s4) X.xe { s' with heap := h3 } := by
        rw [hf]
        refine HandSPX.setFlight_upZ fl3 fun h4 hh4 up4 => wpAny_throw (tk _ _ ?_)
        exact ⟨a, B, sI, pins, σ', H', cls, d, rfl, J, nb, (up.trans up3).trans up4, .inr (.inr (by rw [hs]; exact hh4)), na, os, ag, hno rfl⟩
      first
        | exact wpAny_bind (wpAny_pure (wpAny_bind fin))
        | exact wpAny_bind fin
  · cases f with
    | next =>
      obtain ⟨σ', H', J', q⟩ := hsp
      exact wpAny_execs_nil ⟨σ', H', J'.ofTry ok, q⟩
    | brk =>
      obtain ⟨σ', H', J', q⟩ := hsp
      exact ⟨σ', H', J'.ofTry ok, q⟩
    | cont =>
      obtain ⟨σ', H', J', q⟩ := hsp
      exact ⟨σ', H', J'.ofTry ok, q⟩
    | ret u =>
      obtain ⟨v, σ', H', J', r, q⟩ := hsp
      exact ⟨v, σ', H', J'.ofTry ok, r, q⟩
theorem PS.nox {X : Cx} {st : Stmt} {t : TS} (h : PS X.nox st t) : PS X st t := ⟨fun pins s σ H D I hw =>
  wpAny_mono (h.run pins s σ H D (I.wish _) hw) (fun _ _ q => q.unwish) fun _ _ z => False.elim z⟩
end
def rIsX (K : FK) : List V → Hp → VK → Prop := fun xs H Q => ∃ (a D : Addr) (c : V) (cv : Value) (b : Bool), xs = [.ref a, c] ∧ H a = some (CgO (.ref D) a) ∧ ExcC K D ∧ (∀ u, RelV c u → u = cv) ∧ PySem.W.kitOne K (.ref D) cv = some b ∧ Q (.bl b) H
theorem call_isX {X : Cx} : CallR X (.builtin "isinstance") (rIsX X.K) := by
  intro pins s σ H xs us Q I r h
  obtain ⟨a, D, c, cv, b, rfl, ha, C, hcv, e, q⟩ := h
  cases r with
  | cons rx rr =>
    cases rr with
    | cons rt rr =>
      cases rr
      cases rx
      have ec := hcv _ rt
      subst ec
      obtain ⟨⟨oe, vs, hget, hz, hv⟩, _, _⟩ := I.hok a _ ha
      have J : PySem.W.InstAt s.heap a oe D none := by
        obtain ⟨oc, od, oda, osl⟩ := oe
        obtain ⟨h1, h2⟩ := hz
        dsimp only at h1 h2 hv
        subst h1 h2 hv
        exact ⟨hget, rfl, rfl, trivial⟩
      exact PySem.W.kia_one (PySem.W.handS_kitx_exc C.hg C.hk C.hs C.hd C.ha C.hn C.ht C.hm) I.kIn J e (fun z => nomatch z) fun tk => ⟨.bl b, H, I.kept (t' := tk) fun _ _ z => z, rfl, q⟩
def nsE : List Str := ["BadWay", "BadRow", "BadWritten", "BadNumber", "BadText", "NotFound"]
def wordE (c : Str) : Str := if c = "BadWay" then "way" else if c = "BadRow" then "row" else if c = "BadWritten" then "written" else if c = "BadNumber" then "number" else if c = "BadText" then "text" else "none"
def bt (o : Option Bool) (b : Bool) : Bool := decide (o = some b)
def excCB (K : FK) (D : Addr) : Bool := He.eqO (PySem.W.findIn K (.ref D) "__getattribute__") (some (some (.builtin "BaseException.__getattribute__"))) && (He.eqO (PySem.W.findIn K (.ref D) "__getattr__") (some none) &&
  (bt (PySem.W.subIn K (.ref D) (.type "BaseException")) true && (PySem.W.hasDictIn K D && (He.eqO (PySem.W.findIn K (.ref D) "__class__") (some (some (.builtin "object.__class__"))) &&
  (He.eqO (PySem.W.specialIn K (.builtin "object.__class__") "__get__") (some (some (.builtin "getset_descriptor.__get__"))) && (bt (PySem.W.takesIn K (.builtin "object.__class__")) true && bt (PySem.W.mroIn K D (.type "object")) true))))))
theorem excCB_ok {K : FK} {D : Addr} (h : excCB K D = true) : ExcC K D := by
  unfold excCB at h
  simp only [Bool.and_eq_true] at h
  obtain ⟨h1, h2, h3, h4, h5, h6, h7, h8⟩ := h
  exact ⟨He.eqO_ok h1, He.eqO_ok h2, of_decide_eq_true h3, h4, He.eqO_ok h5, He.eqO_ok h6, of_decide_eq_true h7, of_decide_eq_true h8⟩
def clsB (K : FK) (x : Str) : Bool := excCB K (He.ga K x) && ((He.Fa.exc x).ok K && (bt (PySem.W.exmOne K (.ref (He.ga K x)) (.ref (He.ga K "RestError"))) true && (bt (PySem.W.kitOne K (.ref (He.ga K x)) (.ref (He.ga K "RestError"))) true &&
  (bt (PySem.W.kitOne K (.ref (He.ga K x)) (.type "ValueError")) true && nsE.all fun y => bt (PySem.W.kitOne K (.ref (He.ga K x)) (.ref (He.ga K y))) (decide (x = y))))))
def kitsB (K : FK) : Bool := nsE.all (clsB K)
structure ClsOk (K : FK) (x : Str) : Prop where
  xc : ExcC K (He.ga K x)
  fa : (He.Fa.exc x).ok K = true
  exm : PySem.W.exmOne K (.ref (He.ga K x)) (.ref (He.ga K "RestError")) = some true
  re : PySem.W.kitOne K (.ref (He.ga K x)) (.ref (He.ga K "RestError")) = some true
  ve : PySem.W.kitOne K (.ref (He.ga K x)) (.type "ValueError") = some true
  kit : ∀ y ∈ nsE, PySem.W.kitOne K (.ref (He.ga K x)) (.ref (He.ga K y)) = some (decide (x = y))
theorem kits_ok {K : FK} (h : kitsB K = true) {x : Str} (hx : x ∈ nsE) : ClsOk K x := by
  have q := List.all_eq_true.mp h x hx
  unfold clsB at q
  simp only [Bool.and_eq_true] at q
  obtain ⟨h1, h2, h3, h4, h5, h6⟩ := q
  exact ⟨excCB_ok h1, h2, of_decide_eq_true h3, of_decide_eq_true h4, of_decide_eq_true h5, fun y hy => of_decide_eq_true (List.all_eq_true.mp h6 y hy)⟩
/-- raise X('m') -/
theorem mkE {X : Cx} {x m : Str} {j : Nat} {p p2 pos : Pos} (ks : kitsB X.K = true) (hx : x ∈ nsE) (gC : X.mg x = some (.ref (He.ga X.K x))) (hg : Gl X x) (hdb : (x == ("__debug__" : Str)) = false := by decide) :
    PMk X (.Call (.Name x p) [.Constant (.str m) j p2] [] pos) (fun _ H Q => Q (.ref (He.ga X.K x)) none H) := by
  obtain ⟨h1, h2, h3, h4⟩ := He.exc_ok (kits_ok ks hx).fa
  exact pmk_own PySem.F.excBase_ValueError h1 gC h2 (raises_own h3 h4) hg hdb
inductive Rs where
  | ok (d : DD)
  | er (c : Str)
def excR (a : Addr) (c : Str) : Res where
  as := [a]
  ok := fun K G v H => v = .ref a ∧ H a = some (CgO (.ref (He.ga K c)) a)
  mono := fun _ h => h
  loc := fun e ⟨h1, h2⟩ => ⟨h1, e a _ (by simp) h2⟩
  dom := fun ⟨_, h2⟩ b hb => by
    have e : b = a := by simpa using hb
    subst e; exact ⟨_, h2⟩
def spX (K : FK) (f : List DD → Rs → Prop) : Sp := fun vs H Q E => ∃ G ds r, DaL K G vs ds ∧ Ex G H ∧ f ds r ∧ (∀ d, r = .ok d → ∀ v G' H', Grow [] G H G' H' → Da K G' v d → Q v H') ∧ (∀ c, r = .er c → ∀ G' H', Grow [] G H G' H' → E (.ref (He.ga K c)) none H')
section
variable {K : FK} {B : Bs} {Γ : List Sl} {F : Fra} {D : Ends} {ta tb te : TE} {tt : TT} {W : WX} {P : Rs → Prop} {i j k : Nat} {b : Bool}
variable (K B) in
/-- te yields some d, or lets an exception out, which W takes -/
def EvX (te : TE) (Γ : List Sl) (W : WX) (P : Rs → Prop) : Prop := ∀ F σ H, S K B Γ F σ H → ∀ Q : VK, (∀ v d H', P (.ok d) → S K B Γ (F.dat v d) σ H' → Q v H') → (∀ c H', P (.er c) → S K B Γ F σ H' → W (.ref (He.ga K c)) none σ H') → te σ H Q
theorem ex_callS {f : List DD → Rs → Prop} {ta : TA} {ds : List DD} {r : Rs} (h : EvAD K B ta Γ ds) (hf : f ds r) : EvX K B (tCallS (spX K f) (WE W) ta) Γ W (fun x => x = r) := fun F σ H s Q q qe =>
  h F σ H s _ fun vs es H1 p l s1 => by
    subst p
    obtain ⟨G, s1⟩ := s1
    refine ⟨G, es, r, daL_zip l fun p hp => s1.tm p (by simp [hp]), s1.ex, hf, fun d e v G' H' g hv => q v d H' e.symm ?_, fun c e G' H' g => qe c H' e.symm ?_⟩
    · exact (S.grown (d := d) s1 g hv).drop fun p hp => by
        simp at hp ⊢
        rcases hp with e | e <;> simp [e]
    · exact ⟨G', s1.step (T' := F.T) g fun p hp => (s1.tm p (by simp [hp])).mono g.g⟩
theorem ex_call {f : List DD → Rs → Prop} {ta : TA} {ds : List DD} {r : Rs} {E : XK} (h : EvAD K B ta Γ ds) (hf : f ds r) : EvX K B (tCall (spX K f) [] E ta) Γ (fun c d _ H => E c d H) (fun x => x = r) := fun F σ H s Q q qe =>
  h F σ H s _ fun vs es H1 p l s1 => by
    subst p
    obtain ⟨G, s1⟩ := s1
    rw [List.append_nil]
    refine ⟨G, es, r, daL_zip l fun p hp => s1.tm p (by simp [hp]), s1.ex, hf, fun d e v G' H' g hv => q v d H' e.symm ?_, fun c e G' H' g => qe c H' e.symm ?_⟩
    · exact (S.grown (d := d) s1 g hv).drop fun p hp => by
        simp at hp ⊢
        rcases hp with e | e <;> simp [e]
    · exact ⟨G', s1.step (T' := F.T) g fun p hp => (s1.tm p (by simp [hp])).mono g.g⟩
theorem EvX.imp {P' : Rs → Prop} (h : EvX K B te Γ W P) (k : ∀ r, P r → P' r) : EvX K B te Γ W P' := fun F σ H s Q q qe => h F σ H s Q (fun v d H' p => q v d H' (k _ p)) fun c H' p => qe c H' (k _ p)
theorem ex_of {P' : DD → Prop} (h : Ev K B te Γ P') : EvX K B te Γ W (fun r => ∃ d, r = .ok d ∧ P' d) := fun F σ H s Q q _ => h F σ H s Q fun v d H' p => q v d H' ⟨d, rfl, p⟩
/-- a call that does not raise here -/
theorem ev_callX {f : List DD → Rs → Prop} {ta : TA} {ds : List DD} {d : DD} {E : XK} (h : EvAD K B ta Γ ds) (hf : f ds (.ok d)) : EvD K B (tCall (spX K f) [] E ta) Γ d := fun F σ H s Q q =>
  ex_call h hf F σ H s Q (fun v d' H' e => q v d' H' (by cases e; rfl)) fun c H' e => by cases e
theorem ev_callXS {f : List DD → Rs → Prop} {ta : TA} {ds : List DD} {d : DD} (h : EvAD K B ta Γ ds) (hf : f ds (.ok d)) : EvD K B (tCallS (spX K f) (WE W) ta) Γ d := fun F σ H s Q q =>
  ex_callS h hf F σ H s Q (fun v d' H' e => q v d' H' (by cases e; rfl)) fun c H' e => by cases e
theorem ex_if (h : EvT K B tt Γ b) (h1 : b = true → EvX K B ta Γ W P) (h2 : b = false → EvX K B tb Γ W P) : EvX K B (tIf tt ta tb) Γ W P := fun F σ H s Q q qe => h F σ H s _ fun H' s' => by
  cases b with
  | true => exact h1 rfl F σ H' s' Q q qe
  | false => exact h2 rfl F σ H' s' Q q qe
/-- try: x = te(W) / except RestError as e: caught = e -/
theorem nx_tryK {te : TE} {c : Value} {Wout : WX} (hx : EvX K B te Γ (wKeep K c i (tAsg (tVar i) (gName k)) Wout D) P)
    (h1 : ∀ d, P (.ok d) → Nx K B D.nx (Γ.set j (.dat d)) F)
    (h2 : ∀ x, P (.er x) → PySem.W.exmOne K (.ref (He.ga K x)) c = some true ∧ ∀ a, Nx K B D.nx (((Γ.set i .no).set k (.own (excR a x))).set i .no) F)
    (hi : (Nat.blt i Γ.length && (Nat.blt j Γ.length && Nat.blt k Γ.length)) = true := by rfl) :
    Nx K B (tAsg te (gName j) D) Γ F := fun σ H s => by
  obtain ⟨i1, i23⟩ := Bool.and_eq_true_iff.mp hi
  obtain ⟨i2, i3⟩ := Bool.and_eq_true_iff.mp i23
  refine hx F σ H s _ (fun v d H' p ⟨G, z⟩ => h1 d p _ _ ?_) (fun x H' p ⟨G, z⟩ => ?_)
  · exact ⟨G, (z.setDat (of_blt i2) (by simp)).drop fun q hq => by simp [hq]⟩
  · obtain ⟨e, hn⟩ := h2 x p
    refine ⟨true, e, fun _ => ⟨rfl, fun a ha => ?_⟩, fun z => by cases z⟩
    have hl : i < Γ.length := of_blt i1
    have z1 : S0 K B Γ (F.res1 (.ref a) (excR a x)) σ (upd H' a (CgO (.ref (He.ga K x)) a)) G := z.newRes (Grow.free z.ex ha) ⟨rfl, upd_same⟩ fun b hb => by
      have e : b = a := by simpa [excR] using hb
      rw [e]; exact ha
    have z2 := z1.setNo (i := i) (o := some (.ref a)) hl
    refine ⟨.ref a, by rw [List.getElem?_set_self (by rw [z.len]; exact hl)], ?_⟩
    have z3 := z2.setOwn (i := k) (by rw [List.length_set]; exact of_blt i3)
    exact hn a _ _ ⟨G, z3.setNo (i := i) (o := none) (by rw [List.length_set, List.length_set]; exact hl)⟩
theorem ev_isNO {a : Addr} {c : Str} (h : Γ[i]? = some (.own (excR a c))) : EvD K B (tOp (fun x y H Q => y = .non ∧ Q (.bl (decide (x = .non))) H) (tVar i) (tC .non)) Γ (.bool false) := fun F σ H s Q q => by
  obtain ⟨G, z⟩ := id s
  obtain ⟨v, hv, rfl, _⟩ := z.own h
  exact ⟨.ref a, hv, rfl, q (.bl false) _ H rfl (s.c fun _ => .bl false)⟩
theorem relv_ref {a : Addr} {u : Value} (h : RelV (.ref a) u) : u = .ref a := by cases h; rfl
theorem relv_ty {n : String} {u : Value} (h : RelV (.ty n) u) : u = .type n := by cases h; rfl
/-- isinstance(caught, Y) -/
theorem ev_isX {a : Addr} {c : Str} {y : V} {cv : Value} {b : Bool} (h : Γ[i]? = some (.own (excR a c))) (C : ExcC K (He.ga K c)) (hy : ∀ u, RelV y u → u = cv) (hk : PySem.W.kitOne K (.ref (He.ga K c)) cv = some b) :
    EvD K B (tCB (rIsX K) (tCons (tVar i) (tCons (tC y) tNil))) Γ (.bool b) := fun F σ H s Q q => by
  obtain ⟨G, z⟩ := id s
  obtain ⟨v, hv, rfl, ha⟩ := z.own h
  exact ⟨.ref a, hv, a, _, y, cv, b, rfl, ha, C, hy, hk, q (.bl b) _ H rfl (s.c fun _ => .bl b)⟩
end
def RaiD (K : FK) (B : Bs) (E : XK) (c : Str) : Prop := ∀ Γ F σ H', S K B Γ F σ H' → E (.ref (He.ga K c)) none H'
def RetX (K : FK) (B : Bs) (Q : VK) (E : XK) : Rs → Prop
  | .ok d => RetD K B Q d
  | .er c => RaiD K B E c
theorem def_okX {P : Program} {w : World} {K : FK} {mg : Str → Option Value} {base : Heap} {x qual : Str} {st : Stmt} {fa : Addr} {fd : FuncData} {N ps : List Str} {k : Nat} {f : List DD → Rs → Prop}
    (F : Fun K x qual st fa fd) (S : FnScope N ps (defScope st)) (hl : ∀ ds r, f ds r → ds.length = ps.length)
    (hb : ∀ (cdv : Value) (A : Around) (outer : List Env) (s : Shared) (H G : Hp) (E : XK) (ds : List DD) (r : Rs), Room k (A.deeper (envOfC qual (defScope st) s.heap.objs.size fa cdv)) → f ds r →
      ∃ t, PSs (cxOf (L2.CX P w) P w K mg base N qual (defScope st) fa cdv A outer s H E) (defBody st) t ∧ ∀ Q, RetX K (bs0 G H) Q E r → Nx K (bs0 G H) (t { nx := fun _ H' => Q .non H', rt := Q }) (slots0 ds N.length) ⟨[], []⟩) :
    FnOk P w K mg base (L2.CX P w) (k + 1) fa fd ps (spX K f) := by
  refine F.okX S (fun vs H Q E h => ?_) (fun cdv A outer s H vs Q E hr h => ?_)
  · obtain ⟨G, ds, r, hd, _, hf, _⟩ := h
    rw [hd.length]; exact hl ds r hf
  · obtain ⟨G, ds, r, hd, he, hf, q1, q2⟩ := h
    obtain ⟨t, ht, hn⟩ := hb cdv A outer s H G E ds r hr hf
    refine ⟨t, ht, hn Q ?_ _ _ (start_S he hd ?_)⟩
    · cases r with
      | ok d => exact ret0 fun v G' H' g h => q1 d rfl v G' H' g h
      | er c => exact fun Γ F σ H' ⟨G', z⟩ => q2 c rfl G' H' z.grow
    · have h1 : (N.take ps.length).length = ps.length := by rw [S.pre]
      rw [List.length_take] at h1
      rw [hl ds r hf]; omega
theorem nx_raise {K : FK} {B : Bs} {Γ : List Sl} {F : Fra} {E : XK} {c : Str} (k : RaiD K B E c) : Nx K B (fun σ H => E (.ref (He.ga K c)) none H) Γ F := fun σ H s => k Γ F σ H s
theorem start_R {K : FK} {r : Res} {v : V} {G H : Hp} {N : List Str} {us : List V} {ds : List DD} (hok : r.ok K G v H) (hg : ∀ a ∈ r.as, G a = none) (e : Ex G H) (h : DaL K G us ds) (hN : ds.length + 1 ≤ N.length) :
    S K ⟨r.as, G, H, fun a ha => r.dom hok a ha⟩ (.own r :: slots0 ds (N.length - 1)) ⟨[], []⟩ (L2.start N (v :: us)) H := by
  have hl := h.length
  have own : ∀ j a, a ∈ ownAt (.own r :: slots0 ds (N.length - 1)) ⟨[], []⟩ j → j = 0 ∧ a ∈ r.as := fun j a ha => by
    unfold ownAt at ha
    split at ha
    · rename_i hj
      cases j with
      | zero => exact ⟨rfl, ha⟩
      | succ j =>
        exfalso
        rw [List.getElem?_cons_succ] at ha
        cases z : (slots0 ds (N.length - 1))[j]? with
        | none => rw [z] at ha; cases ha
        | some s =>
          rw [z] at ha
          unfold slots0 at z
          have hm := List.mem_of_getElem? z
          rcases List.mem_append.mp hm with y | y
          · obtain ⟨d, _, rfl⟩ := List.mem_map.mp y; cases ha
          · rw [(List.mem_replicate.mp y).2] at ha; cases ha
    · cases ha
  have hst : (L2.start N (v :: us)).length = N.length := by
    unfold L2.start
    rw [List.length_append, List.length_map, List.length_replicate, List.length_cons]
    omega
  refine ⟨G, by rw [hst]; simp [slots0]; omega, Grow.refl e, fun i s es => ?_, fun p hp => (by cases hp), fun p hp => (by cases hp), fun i j a ha hb => by rw [(own i a ha).1, (own j a hb).1], fun i a ha => ⟨hg a (own i a ha).2, .inl (own i a ha).2⟩⟩
  cases i with
  | zero =>
    cases es
    exact ⟨v, by simp [L2.start], hok⟩
  | succ i =>
    rw [List.getElem?_cons_succ] at es
    have e2 : (L2.start N (v :: us))[i + 1]? = (us.map some ++ List.replicate (N.length - (us.length + 1)) none)[i]? := by
      unfold L2.start
      rw [List.map_cons, List.cons_append, List.getElem?_cons_succ]; rfl
    rw [e2]
    unfold slots0 at es
    by_cases hi : i < ds.length
    · rw [List.getElem?_append_left (by simpa using hi), List.getElem?_map, List.getElem?_eq_getElem hi] at es
      cases es
      obtain ⟨u, hv, hd⟩ := h.get (List.getElem?_eq_getElem hi)
      refine ⟨u, ?_, hd⟩
      rw [List.getElem?_append_left (by rw [List.length_map]; omega), List.getElem?_map, hv]; rfl
    · rw [List.getElem?_append_right (by simpa using hi)] at es
      have := List.mem_of_getElem? es
      rw [(List.mem_replicate.mp this).2]
      trivial
/-- the promise of _law_error -/
def spE (K : FK) : Sp := fun vs H Q _ => ∃ G a c, vs = [.ref a] ∧ (excR a c).ok K G (.ref a) H ∧ c ∈ nsE ∧ G a = none ∧ Ex G H ∧ ∀ v G' H', Grow [a] G H G' H' → (excR a c).ok K G' (.ref a) H' → Da K G' v (.str (wordE c)) → Q v H'
theorem ev_err {K : FK} {B : Bs} {Γ : List Sl} {E : XK} {i : Nat} {a : Addr} {c : Str} (hi : Γ[i]? = some (.own (excR a c))) (hc : c ∈ nsE) : EvD K B (tCall (spE K) [] E (tCons (tVar i) tNil)) Γ (.str (wordE c)) := fun F σ H s Q k => by
  obtain ⟨G, s0⟩ := id s
  obtain ⟨v, hv, hok⟩ := s0.own hi
  refine ⟨v, hv, ?_⟩
  have evp : v = .ref a := hok.1
  subst evp
  have own : a ∈ ownAt Γ F i := by rw [ownAt_slot hi]; simp [Sl.as, excR]
  refine ⟨G, a, c, rfl, hok, hc, (s0.mine i a own).1, s0.ex, fun v' G' H' g ok' da => k v' _ H' rfl ?_⟩
  have hset : Γ.set i (.own (excR a c)) = Γ := by
    obtain ⟨hlt, hget⟩ := List.getElem?_eq_some_iff.mp hi
    rw [← hget]; exact List.set_getElem_self hlt
  have s2 := s0.updOwn (r' := excR a c) (T' := (v', .str (wordE c)) :: F.T) hi g rfl hv ok' fun p hp => by
    rcases List.mem_cons.mp hp with e | e
    · rw [e]; exact da
    · exact (s0.tm p e).mono g.g
  rw [hset] at s2
  exact ⟨G', s2⟩
theorem def_okE {P : Program} {w : World} {K : FK} {mg : Str → Option Value} {base : Heap} {x qual : Str} {st : Stmt} {fa : Addr} {fd : FuncData} {N ps : List Str} {k : Nat}
    (F : Fun K x qual st fa fd) (S0' : FnScope N ps (defScope st)) (hl : ps.length = 1)
    (hb : ∀ (cdv : Value) (A : Around) (outer : List Env) (s : Shared) (H : Hp) (E : XK) (B : Bs) (a : Addr) (c : Str), Room k (A.deeper (envOfC qual (defScope st) s.heap.objs.size fa cdv)) → c ∈ nsE →
      ∃ t, PSs (cxOf CX0 P w K mg base N qual (defScope st) fa cdv A outer s H E).nox (defBody st) t ∧ ∀ Q, (∀ v Γ F σ H', S K B (.own (excR a c) :: Γ) (Fra.dat F v (.str (wordE c))) σ H' → Q v H') → Nx K B (t { nx := fun _ H' => Q .non H', rt := Q }) (.own (excR a c) :: slots0 [] (N.length - 1)) ⟨[], []⟩) :
    FnOk P w K mg base CX0 (k + 1) fa fd ps (spE K) := by
  refine F.ok S0' (fun vs H Q E h => ?_) (fun cdv A outer s H vs Q E hr h => ?_)
  · obtain ⟨G, a, c, rfl, _⟩ := h
    rw [hl]; rfl
  · obtain ⟨G, a, c, rfl, hok, hc, hg, he, q⟩ := h
    obtain ⟨t, ht, hn⟩ := hb cdv A outer s H E ⟨(excR a c).as, G, H, fun b hb => (excR a c).dom hok b hb⟩ a c hr hc
    refine ⟨t, ht, hn Q (fun v Γ F σ H' ⟨G', z⟩ => ?_) _ _ (start_R hok (fun b hb => ?_) he .nil ?_)⟩
    · obtain ⟨v0, _, ok0⟩ := z.own (i := 0) rfl
      have : v0 = .ref a := ok0.1
      subst this
      exact q v G' H' z.grow ok0 (z.tm (v, _) (by simp))
    · have e : b = a := by simpa [excR] using hb
      rw [e]; exact hg
    · have h1 : (N.take ps.length).length = ps.length := by rw [S0'.pre]
      rw [List.length_take] at h1
      simp
      omega
def rCountL (K : FK) : V → List V → Hp → VK → Prop := fun x xs H Q => ∃ (a : Addr) (ys : List V) (y : V), x = V.ref a ∧ xs = [y] ∧ SqL K H a ys ∧ flatV y = true ∧ ys.all flatV = true ∧ Q (.int ((ys.countP fun z => eqV z y : Nat) : Int)) H
theorem countU {y : V} : ∀ {ys : List V} {us : List Value}, Vals ys us → ys.all flatV = true → us.countP (eqU y) = ys.countP fun z => eqV z y
  | _, _, .nil, _ => rfl
  | z :: zs, u :: us, .cons r t, f => by
    rw [List.all_cons, Bool.and_eq_true] at f
    rw [List.countP_cons, List.countP_cons, countU t f.2, eqU_of r f.1]
theorem mt_lcount {X : Cx} : MtR X "list.count" (rCountL X.K) := by
  intro pins s σ H x xs v us Q I rx rxs h
  obtain ⟨a, ys, y, rfl, rfl, hs, fy, fys, q⟩ := h
  cases rx
  cases rxs with
  | cons ry rt =>
    rename_i uy ut
    cases rt
    obtain ⟨its, rv, ⟨⟨cls, dd, data, sl⟩, n, ho, hc, hdn, hd⟩, hlen⟩ := I.list hs
    simp only at hc hd
    subst hc hd
    refine call_meets PySem.F.slot_list_count ⟨_, ho, rfl⟩ PySem.F.entry_list_count (PySem.F.args_list_count_2 _ _)
      (SeqAt.list_countAt a its.toArray n dd sl uy (eqU y)) ⟨ho, fun u' hu' => mem_eqAt ry fy rv fys u' (by simpa using hu'), ?_⟩
    have e : (its.toArray.toList.countP (eqU y)) = ys.countP fun z => eqV z y := by
      rw [List.toList_toArray]; exact countU rv fys
    rw [e]
    exact ⟨.int _, H, I.tok _, ⟨_, rfl⟩, q⟩
theorem DaL.countP {K : FK} {G : Hp} {u : V} {y : DD} (hu : Da K G u y) (fy : flatD y = true) : ∀ {xs : List V} {ds : List DD}, DaL K G xs ds → ds.all flatD = true → (xs.countP fun z => eqV z u) = ds.countP fun z => PyData.eqv z y
  | _, _, .nil, _ => rfl
  | _, _, .cons h t, f => by
    rw [List.all_cons, Bool.and_eq_true] at f
    rw [List.countP_cons, List.countP_cons, DaL.countP hu fy t f.2, h.eqV hu f.1 fy]
theorem ev_count {K : FK} {B : Bs} {Γ : List Sl} {te to : TE} {y : DD} {ds : List DD} (h : EvD K B to Γ (.list ds)) (h2 : EvD K B te Γ y) (fy : flatD y = true) (fd : ds.all flatD = true) :
    EvD K B (tBM K "list" (rCountL K) to (tCons te tNil)) Γ (.int ((ds.countP fun z => PyData.eqv z y : Nat) : Int)) := fun F σ H s Q q =>
  h F σ H s _ fun v d' H1 e1 s1 => by
    subst e1
    obtain ⟨G1, z1⟩ := id s1
    obtain ⟨a, xs, rfl, ha, hs⟩ := (z1.tm (v, .list ds) (by simp)).lst_inv
    refine ⟨.inl ⟨rfl, xs, SqL.of (z1.ex _ _ ha)⟩, ?_⟩
    refine h2 _ σ H1 s1 _ fun u d2 H2 e2 s2 => ?_
    subst e2
    obtain ⟨G2, z2⟩ := id s2
    obtain ⟨a', xs', ee, ha', hs'⟩ := (z2.tm (.ref a, .list ds) (by simp)).lst_inv
    cases ee
    have hu := z2.tm (u, d2) (by simp)
    refine ⟨a, xs', u, rfl, rfl, SqL.of (z2.ex _ _ ha'), by rw [hu.flat]; exact fy, by rw [hs'.flat]; exact fd, ?_⟩
    rw [hs'.countP hu fy fd]
    exact q _ _ H2 rfl ((s2.drop (T' := F.T) fun p hp => by simp [hp]).c fun _ => .int _)
section
variable {K : FK} {B : Bs} {Γ : List Sl} {ta tb : TE}
theorem rgV_da {G : Hp} (a b : Int) : DaL K G (rgV a b) ((intsF a (b - a).toNat).map .int) := by
  have e : rgV a b = (intsF a (b - a).toNat).map V.int := by
    unfold rgV intsF
    rw [List.map_map]; rfl
  rw [e]
  exact DaL.ofInts _
theorem S.lay {F : Fra} {σ : L2.St} {H : Hp} {p : Addr} {xs : List V} {ds : List DD} (s : S K B Γ F σ H) (hp : H p = none) (hd : ∀ G, DaL K G xs ds) : S K B Γ (F.res1 (.ref p) (lstR p ds)) σ (upd H p (.lst xs)) := by
  obtain ⟨G, z⟩ := s
  exact ⟨G, z.newLst hp (hd G)⟩
theorem en_listRg2 {a b : Int} (ha : EvD K B ta Γ (.int a)) (hb : EvD K B tb Γ (.int b)) (ok : RgOk a b) : EvND K B (tLstRg (tRg2 ta tb)) Γ ((intsF a (b - a).toNat).map .int) := fun F σ H s Q q =>
  ha F σ H s _ fun v d H1 e1 s1 => hb _ σ H1 s1 _ fun u d2 H2 e2 s2 => by
    subst e1 e2
    obtain ⟨G, z⟩ := id s2
    refine ⟨a, b, (z.tm (v, .int a) (by simp)).int_inv, (z.tm (u, .int b) (by simp)).int_inv, ok, fun p hp => q p _ _ rfl (z.notLent hp) ?_⟩
    exact (s2.drop (T' := F.T) fun p hp => by simp [hp]).lay hp fun _ => rgV_da a b
theorem en_listRg1 {b : Int} (hb : EvD K B tb Γ (.int b)) (ok : RgOk 0 b) : EvND K B (tLstRg (tRg1 tb)) Γ ((intsF 0 b.toNat).map .int) := fun F σ H s Q q =>
  hb _ σ H s _ fun u d2 H2 e2 s2 => by
    subst e2
    obtain ⟨G, z⟩ := id s2
    refine ⟨b, (z.tm (u, .int b) (by simp)).int_inv, ok, fun p hp => q p _ _ rfl (z.notLent hp) ?_⟩
    have := (s2.drop (T' := F.T) fun p hp => by simp [hp]).lay hp fun G => rgV_da (K := K) (G := G) 0 b
    rw [Int.sub_zero] at this
    exact this
end
theorem ev_neB {K : FK} {B : Bs} {Γ : List Sl} {ta tb : TE} {a b : Bool} (ha : EvD K B ta Γ (.bool a)) (hb : EvD K B tb Γ (.bool b)) : EvD K B (tOp rNe ta tb) Γ (.bool (!decide (a = b))) :=
  ev_op ha hb fun v u G H hv hu e Q q => by
    rw [hv.bl_inv, hu.bl_inv]
    refine ⟨rfl, ?_⟩
    have : decide (V.bl a = V.bl b) = decide (a = b) := by simp
    rw [this]
    exact q _ G H (Grow.refl e) (.bl _)
end Ly

namespace Ly
open PySem L2
inductive M (α : Type) where
  | ok (a : α)
  | er (c : Str)
  | no
inductive Fl (σ ρ : Type) where
  | nx (s : σ)
  | bk (s : σ)
  | rt (r : ρ)
section
variable {α β γ σ ρ τ : Type}
def mb (m : M α) (f : α → M β) : M β := match m with
  | .ok a => f a
  | .er c => .er c
  | .no => .no
def ob (o : Option α) (f : α → M β) : M β := match o with
  | some a => f a
  | none => .no
def gd (b : Bool) (m : M β) : M β := match b with
  | true => m
  | false => .no
def lt (a : α) (f : α → β) : β := f a
def oo (o : Option α) (f : α → Option β) : Option β := match o with
  | some a => f a
  | none => none
def og (b : Bool) (m : Option β) : Option β := match b with
  | true => m
  | false => none
def sel (b : Bool) (x y : α) : α := match b with
  | true => x
  | false => y
def M.o : M α → Option α
  | .ok a => some a
  | _ => none
def fb (m : M (Fl σ ρ)) (j : ρ → M τ) (f : σ → M τ) : M τ := match m with
  | .ok (.nx s) => f s
  | .ok (.bk s) => f s
  | .ok (.rt r) => j r
  | .er c => .er c
  | .no => .no
def forM (body : σ → α → M (Fl σ ρ)) : List α → σ → M (Fl σ ρ)
  | [], s => .ok (.nx s)
  | x :: xs, s => match body s x with
    | .ok (.nx s') => forM body xs s'
    | r => r
def whM (c : σ → M Bool) (body : σ → M (Fl σ ρ)) : Nat → σ → M (Fl σ ρ)
  | 0, _ => .no
  | n + 1, s => mb (c s) fun b => match b with
    | true => (match body s with
      | .ok (.nx s') => whM c body n s'
      | r => r)
    | false => .ok (.nx s)
/-- [f(x) for x in xs], where f may fail; with a test: f gives none for what is left out -/
def mpO (f : α → Option β) : List α → Option (List β)
  | [] => some []
  | x :: xs => match f x with
    | none => none
    | some y => (mpO f xs).map (y :: ·)
def lcO (f : α → Option (Option β)) : List α → Option (List β)
  | [] => some []
  | x :: xs => match f x with
    | none => none
    | some none => lcO f xs
    | some (some y) => (lcO f xs).map (y :: ·)
def Wp (p : α → Prop) (r : Str → Prop) : M α → Prop
  | .ok a => p a
  | .er c => r c
  | .no => False
def noR : Str → Prop := fun _ => False
variable {p : α → Prop} {q : β → Prop} {r : Str → Prop}
theorem wp_ob {o : Option α} {f : α → M β} (k : Wp q r (ob o f)) : ∃ a, o = some a ∧ Wp q r (f a) := by
  cases o with
  | none => exact k.elim
  | some a => exact ⟨a, rfl, k⟩
theorem wp_gd {b : Bool} {m : M β} (k : Wp q r (gd b m)) : b = true ∧ Wp q r m := by
  cases b with
  | false => exact k.elim
  | true => exact ⟨rfl, k⟩
theorem wp_lt {a : α} {f : α → M β} (k : Wp q r (lt a f)) : ∃ x, a = x ∧ Wp q r (f x) := ⟨a, rfl, k⟩
theorem wp_mb0 {m : M α} {f : α → M β} (k : Wp q noR (mb m f)) : ∃ a, m = .ok a ∧ Wp q noR (f a) := by
  cases m with
  | ok a => exact ⟨a, rfl, k⟩
  | er c => exact k.elim
  | no => exact k.elim
theorem wp_mb {m : M α} {f : α → M β} (k : Wp q r (mb m f)) : (∃ a, m = .ok a ∧ Wp q r (f a)) ∨ ∃ c, m = .er c ∧ r c := by
  cases m with
  | ok a => exact .inl ⟨a, rfl, k⟩
  | er c => exact .inr ⟨c, rfl, k⟩
  | no => exact k.elim
theorem wp_t {b : Bool} {m n : M β} (k : Wp q r (sel b m n)) (h : b = true) : Wp q r m := by subst h; exact k
theorem wp_f {b : Bool} {m n : M β} (k : Wp q r (sel b m n)) (h : b = false) : Wp q r n := by subst h; exact k
theorem oo_some {o : Option α} {f : α → Option β} {y : β} (k : oo o f = some y) : ∃ a, o = some a ∧ f a = some y := by
  cases o with
  | none => cases k
  | some a => exact ⟨a, rfl, k⟩
theorem og_some {b : Bool} {m : Option β} {y : β} (k : og b m = some y) : b = true ∧ m = some y := by
  cases b with
  | false => cases k
  | true => exact ⟨rfl, k⟩
theorem ol_some {a : α} {f : α → Option β} {y : β} (k : lt a f = some y) : ∃ x, a = x ∧ f x = some y := ⟨a, rfl, k⟩
theorem sel_t {b : Bool} {x y z : α} (k : sel b x y = z) (h : b = true) : x = z := by subst h; exact k
theorem sel_f {b : Bool} {x y z : α} (k : sel b x y = z) (h : b = false) : y = z := by subst h; exact k
theorem M.o_some {m : M α} {a : α} (h : m.o = some a) : m = .ok a := by
  cases m with
  | ok b => cases h; rfl
  | er c => cases h
  | no => cases h
/-- what is wanted of a turn: of its end, of a break, of a return -/
def pl (A : σ → Prop) (Bk : σ → Prop) (C : ρ → Prop) : Fl σ ρ → Prop
  | .nx s => A s
  | .bk s => Bk s
  | .rt v => C v
theorem wp_for {t : τ → Prop} {body : σ → α → M (Fl σ ρ)} {x : α} {xs : List α} {s : σ} {j : ρ → M τ} {f : σ → M τ} (k : Wp t r (fb (forM body (x :: xs) s) j f)) :
    Wp (pl (fun s' => Wp t r (fb (forM body xs s') j f)) (fun s' => Wp t r (f s')) (fun v => Wp t r (j v))) r (body s x) := by
  unfold forM at k
  cases e : body s x with
  | ok a =>
    rw [e] at k
    cases a with
    | nx s' => exact k
    | bk s' => exact k
    | rt v => exact k
  | er c => rw [e] at k; exact k
  | no => rw [e] at k; exact k
theorem wp_wh {t : τ → Prop} {c : σ → M Bool} {body : σ → M (Fl σ ρ)} {n : Nat} {s : σ} {j : ρ → M τ} {f : σ → M τ} (k : Wp t r (fb (whM c body n s) j f)) :
    ∃ m, n = m + 1 ∧ Wp (fun b => (b = true → Wp (pl (fun s' => Wp t r (fb (whM c body m s') j f)) (fun s' => Wp t r (f s')) (fun v => Wp t r (j v))) r (body s)) ∧ (b = false → Wp t r (f s))) r (c s) := by
  cases n with
  | zero => exact k.elim
  | succ m =>
    refine ⟨m, rfl, ?_⟩
    unfold whM at k
    cases e : c s with
    | ok b =>
      rw [e] at k
      cases b with
      | false => exact ⟨(fun z => nomatch z), fun _ => k⟩
      | true =>
        refine ⟨fun _ => ?_, fun z => by cases z⟩
        show Wp _ r (body s)
        have k' : Wp t r (fb (match body s with | .ok (.nx s') => whM c body m s' | r => r) j f) := k
        cases e2 : body s with
        | ok a =>
          rw [e2] at k'
          cases a with
          | nx s' => exact k'
          | bk s' => exact k'
          | rt v => exact k'
        | er c => rw [e2] at k'; exact k'
        | no => rw [e2] at k'; exact k'
    | er c => rw [e] at k; exact k
    | no => rw [e] at k; exact k
end
@[irreducible] def r1Ok (n : Int) : Bool := decide (-(2 ^ 62) ≤ n ∧ n < 2 ^ 62)
@[irreducible] def r2Ok (lo n : Int) : Bool := decide (-(2 ^ 62) ≤ lo ∧ lo < 2 ^ 62 ∧ -(2 ^ 62) ≤ n ∧ n < 2 ^ 62)
@[irreducible] def szLt (n : Nat) : Bool := decide (n < 16000000)
@[irreducible] def szLe (n : Nat) : Bool := decide (n ≤ 16000000)
@[irreducible] def divOk (b : Int) : Bool := decide (0 < b ∧ b < 1073741824)
@[irreducible] def modOk (b : Int) : Bool := decide (0 < b)
theorem szLt_of {n : Nat} (h : szLt n = true) : n < 16000000 := by
  unfold szLt at h
  exact of_decide_eq_true h
theorem szLe_of {n : Nat} (h : szLe n = true) : n ≤ 16000000 := by
  unfold szLe at h
  exact of_decide_eq_true h
theorem divOk_of {n : Int} (h : divOk n = true) : 0 < n ∧ n < 1073741824 := by
  unfold divOk at h
  exact of_decide_eq_true h
theorem modOk_of {n : Int} (h : modOk n = true) : 0 < n := by
  unfold modOk at h
  exact of_decide_eq_true h
section
variable {α β γ δ : Type}
def eD (d : DD) : DD := d
def eN (_ : Unit) : DD := .none
def eL (e : α → DD) (xs : List α) : DD := .list (xs.map e)
def eU (e : α → DD) (xs : List α) : DD := .tuple (xs.map e)
def e2 (ea : α → DD) (eb : β → DD) (p : α × β) : DD := .tuple [ea p.1, eb p.2]
def e3 (ea : α → DD) (eb : β → DD) (ec : γ → DD) (p : α × β × γ) : DD := .tuple [ea p.1, eb p.2.1, ec p.2.2]
def e4 (ea : α → DD) (eb : β → DD) (ec : γ → DD) (ed : δ → DD) (p : α × β × γ × δ) : DD := .tuple [ea p.1, eb p.2.1, ec p.2.2.1, ed p.2.2.2]
def e1 (ea : α → DD) (p : α) : DD := .tuple [ea p]
def eO (e : α → DD) : Option α → DD
  | none => .none
  | some a => e a
theorem eO_some {e : α → DD} {o : Option α} {a : α} (h : o = some a) : eO e o = e a := by rw [h]; rfl
theorem eO_none {e : α → DD} {o : Option α} (h : o = none) : eO e o = .none := by rw [h]; rfl
theorem eL_D {e : α → DD} {xs : List α} : PyData.list (xs.map e) = .list ((xs.map e).map eD) := by
  rw [List.map_map]; rfl
def asL : DD → Option (List DD)
  | .list xs => some xs
  | _ => none
def asU : DD → Option (List DD)
  | .tuple xs => some xs
  | _ => none
def asI : DD → Option Int
  | .int i => some i
  | _ => none
def asS : DD → Option Str
  | .str i => some i
  | _ => none
theorem asL_eq {d : DD} {xs : List DD} (h : asL d = some xs) : d = .list (xs.map eD) := by
  have e : ∀ l : List DD, l.map eD = l := fun l => by rw [show eD = id from rfl, List.map_id]
  cases d <;> simp [asL] at h
  subst h; rw [e]
theorem asU_eq {d : DD} {xs : List DD} (h : asU d = some xs) : d = .tuple (xs.map eD) := by
  have e : ∀ l : List DD, l.map eD = l := fun l => by rw [show eD = id from rfl, List.map_id]
  cases d <;> simp [asU] at h
  subst h; rw [e]
theorem asI_eq {d : DD} {i : Int} (h : asI d = some i) : d = .int i := by
  cases d <;> simp [asI] at h
  subst h; rfl
theorem asS_eq {d : DD} {i : Str} (h : asS d = some i) : d = .str i := by
  cases d <;> simp [asS] at h
  subst h; rfl
/-- decode by a decoder of the items -/
def deL (f : DD → Option α) (d : DD) : Option (List α) := oo (asL d) fun xs => mpO f xs
theorem mpO_eq {f : DD → Option α} {e : α → DD} (h : ∀ d a, f d = some a → d = e a) : ∀ {xs : List DD} {ys : List α}, mpO f xs = some ys → xs = ys.map e
  | [], ys, q => by cases q; rfl
  | x :: xs, ys, q => by
    unfold mpO at q
    cases e1 : f x with
    | none => rw [e1] at q; cases q
    | some y =>
      rw [e1] at q
      cases e2 : mpO f xs with
      | none => rw [e2] at q; cases q
      | some zs =>
        rw [e2] at q
        cases q
        rw [List.map_cons, ← h x y e1, ← mpO_eq h e2]
theorem deL_eq {f : DD → Option α} {e : α → DD} (h : ∀ d a, f d = some a → d = e a) {d : DD} {ys : List α} (q : deL f d = some ys) : d = .list (ys.map e) := by
  obtain ⟨xs, h1, h2⟩ := oo_some q
  have e1 : xs = ys.map e := mpO_eq h h2
  cases d <;> simp [asL] at h1
  subst h1; rw [e1]
theorem mpO_map {f : DD → Option α} {e : α → DD} (h : ∀ a, f (e a) = some a) : ∀ ys : List α, mpO f (ys.map e) = some ys
  | [] => rfl
  | y :: ys => by
    rw [List.map_cons]; unfold mpO
    rw [h y]; dsimp only
    rw [mpO_map h ys]; rfl
theorem deL_enc {f : DD → Option α} {e : α → DD} (h : ∀ a, f (e a) = some a) (ys : List α) : deL f (.list (ys.map e)) = some ys := mpO_map h ys
end
structure Tq {α : Type} [DecidableEq α] (e : α → DD) (n : Nat) : Prop where
  eq : ∀ x y, PyData.eqv (e x) (e y) = decide (x = y)
  ok : ∀ x, okD n (e x)
section
variable {α β γ : Type} [DecidableEq α] [DecidableEq β] [DecidableEq γ] {ea : α → DD} {eb : β → DD} {ec : γ → DD} {n m k : Nat}
theorem tqI : Tq PyData.int 0 := ⟨fun x y => by show (x == y) = decide (x = y); by_cases h : x = y <;> simp [h], fun x => ok_int x⟩
theorem tqB : Tq PyData.bool 0 := ⟨fun x y => by cases x <;> cases y <;> decide, fun x => ok_bool x⟩
theorem eqvAll_map (h : ∀ x y, PyData.eqv (ea x) (ea y) = decide (x = y)) : ∀ xs ys : List α, PyData.eqvAll (xs.map ea) (ys.map ea) = decide (xs = ys)
  | [], [] => by simp [PyData.eqvAll]
  | [], _ :: _ => by simp [PyData.eqvAll]
  | _ :: _, [] => by simp [PyData.eqvAll]
  | x :: xs, y :: ys => by
    simp only [List.map_cons, PyData.eqvAll, h, eqvAll_map h xs ys]
    by_cases h : x = y <;> simp [h]
theorem tqL (h : Tq ea n) : Tq (eL ea) (n + 1) := ⟨fun x y => by simp only [eL, PyData.eqv]; exact eqvAll_map h.eq x y, fun x => ok_list fun d hd => by
  obtain ⟨z, _, rfl⟩ := List.mem_map.mp hd; exact h.ok z⟩
theorem tqU (h : Tq ea n) : Tq (eU ea) (n + 1) := ⟨fun x y => by simp only [eU, PyData.eqv]; exact eqvAll_map h.eq x y, fun x => ok_tuple fun d hd => by
  obtain ⟨z, _, rfl⟩ := List.mem_map.mp hd; exact h.ok z⟩
theorem tq2 (h : Tq ea n) (h2 : Tq eb n) : Tq (e2 ea eb) (n + 1) := ⟨fun x y => by
  obtain ⟨x1, x2⟩ := x
  obtain ⟨y1, y2⟩ := y
  simp only [e2, PyData.eqv, PyData.eqvAll, h.eq, h2.eq, Bool.and_true]
  by_cases h : x1 = y1 <;> by_cases h' : x2 = y2 <;> simp [h, h'], fun x => ok_tuple fun d hd => by
  simp at hd
  rcases hd with rfl | rfl
  · exact h.ok _
  · exact h2.ok _⟩
theorem tq3 (h : Tq ea n) (h2 : Tq eb n) (h3 : Tq ec n) : Tq (e3 ea eb ec) (n + 1) := ⟨fun x y => by
  obtain ⟨x1, x2, x3⟩ := x
  obtain ⟨y1, y2, y3⟩ := y
  simp only [e3, PyData.eqv, PyData.eqvAll, h.eq, h2.eq, h3.eq, Bool.and_true]
  by_cases h : x1 = y1 <;> by_cases h' : x2 = y2 <;> by_cases h'' : x3 = y3 <;> simp [h, h', h''], fun x => ok_tuple fun d hd => by
  simp at hd
  rcases hd with rfl | rfl | rfl
  · exact h.ok _
  · exact h2.ok _
  · exact h3.ok _⟩
theorem Tq.up (h : Tq ea n) (hn : n ≤ m) : Tq ea m := ⟨h.eq, fun x => (h.ok x).mono hn⟩
end
section
variable {K : FK} {B : Bs} {Γ Γ' : List Sl} {F : Fra} {te ta tb to : TE} {tt : TT} {D : Ends} {t u : TS} {i j : Nat} {g : TG} {α β γ σ : Type} {e : α → DD} {e' : β → DD}
theorem et_eq [DecidableEq α] {n : Nat} (q : Tq e n) {x y : α} (ha : EvD K B ta Γ (e x)) (hb : EvD K B tb Γ (e y)) (hn : n ≤ 64 := by decide) : EvD K B (tOp (rEqD K) ta tb) Γ (.bool (decide (x = y))) :=
  EvD.to (ev_eqD ha hb ((q.ok x).shaped hn) ((q.ok y).shaped hn)) (by rw [q.eq])
theorem et_ne [DecidableEq α] {n : Nat} (q : Tq e n) {x y : α} (ha : EvD K B ta Γ (e x)) (hb : EvD K B tb Γ (e y)) (hn : n ≤ 64 := by decide) : EvD K B (tOp (rNeD K) ta tb) Γ (.bool (!decide (x = y))) :=
  EvD.to (ev_neD ha hb ((q.ok x).shaped hn) ((q.ok y).shaped hn)) (by rw [q.eq])
def cutL (xs : List α) (lo hi : Option Int) : List α := (xs.drop (HT.sIx xs.length 0 lo)).take (HT.sIx xs.length xs.length hi - HT.sIx xs.length 0 lo)
theorem cut_map {xs : List α} {lo hi : Option Int} : cutD (xs.map e) lo hi = (cutL xs lo hi).map e := by
  unfold cutD cutL
  rw [List.length_map, List.map_take, List.map_drop]
theorem et_cut {tl th : TO} {xs : List α} {lo hi : Option Int} (h : EvD K B te Γ (.list (xs.map e))) (h1 : EvO K B tl Γ lo) (h2 : EvO K B th Γ hi) : EvND K B (tSl (rSlL K) te tl th) Γ ((cutL xs lo hi).map e) := EvND.to (en_slL h h1 h2) cut_map
theorem et_cat {xs ys : List α} (ha : EvD K B ta Γ (.list (xs.map e))) (hb : EvD K B tb Γ (.list (ys.map e))) (hl : szLe (xs.length + ys.length) = true) : EvND K B (tOp rCat ta tb) Γ ((xs ++ ys).map e) :=
  EvND.to (en_cat ha hb (by rw [List.length_map, List.length_map]; exact szLe_of hl)) List.map_append.symm
def repL (k : Int) (xs : List α) : List α := (List.replicate k.toNat xs).flatten
@[irreducible] def repOk (k : Int) (xs : List α) : Bool := decide (-(2 ^ 63) ≤ k) && (decide (k < 2 ^ 63) && decide (xs.length * k.toNat ≤ 16000000))
theorem et_rep {xs : List α} {k : Int} (ha : EvD K B ta Γ (.list (xs.map e))) (hb : EvD K B tb Γ (.int k)) (hl : repOk k xs = true) : EvND K B (tOp rRep ta tb) Γ ((repL k xs).map e) := by
  unfold repOk at hl
  simp only [Bool.and_eq_true, decide_eq_true_eq] at hl
  refine EvND.to (en_rep ha hb hl.1 hl.2.1 (by rw [List.length_map]; exact hl.2.2)) ?_
  unfold repL
  rw [List.map_flatten, List.map_replicate]
theorem atI_map {xs : List α} {i : Int} {x : α} (h : atI xs i = some x) : atI (xs.map e) i = some (e x) := by
  unfold atI at h ⊢
  rw [List.length_map]
  cases q : ixN xs.length i with
  | none => rw [q] at h; cases h
  | some m =>
    rw [q] at h
    show (xs.map e)[m]? = _
    rw [List.getElem?_map, show xs[m]? = some x from h]; rfl
theorem et_ix {xs : List α} {i : Int} {x : α} (ha : EvD K B ta Γ (.list (xs.map e))) (hb : EvD K B tb Γ (.int i)) (h : atI xs i = some x) : EvD K B (tOp (rIxL K) ta tb) Γ (e x) := ev_ixL ha hb (atI_map h)
theorem et_ixU {xs : List α} {i : Int} {x : α} (ha : EvD K B ta Γ (.tuple (xs.map e))) (hb : EvD K B tb Γ (.int i)) (h : atI xs i = some x) : EvD K B (tOp (rIxT K) ta tb) Γ (e x) := ev_ixT ha hb (atI_map h)
theorem et_ixO {p : Addr} {xs : List α} {i : Int} {x : α} (hj : Γ[j]? = some (.own (lstR p (xs.map e)))) (hb : EvD K B tb Γ (.int i)) (h : atI xs i = some x) : EvD K B (tOp (rIxL K) (tVar j) tb) Γ (e x) := ev_ixO hj hb (atI_map h)
theorem et_len {xs : List α} (h : EvD K B te Γ (.list (xs.map e))) : EvD K B (tCB (rLenS K) (tCons te tNil)) Γ (.int xs.length) := EvD.to (ev_lenL h) (by rw [List.length_map])
theorem et_lenU {xs : List α} (h : EvD K B te Γ (.tuple (xs.map e))) : EvD K B (tCB (rLenS K) (tCons te tNil)) Γ (.int xs.length) := EvD.to (ev_lenT h) (by rw [List.length_map])
theorem et_lenO {p : Addr} {xs : List α} (hj : Γ[j]? = some (.own (lstR p (xs.map e)))) : EvD K B (tCB (rLenS K) (tCons (tVar j) tNil)) Γ (.int xs.length) := EvD.to (ev_lenO hj) (by rw [List.length_map])
theorem ev_isNO2 {o : Option α} (hn : ∀ a, isNone (e a) = false) (ha : EvD K B ta Γ (eO e o)) : EvD K B (tOp (fun x y H Q => y = .non ∧ Q (.bl (decide (x = .non))) H) ta (tC .non)) Γ (.bool o.isNone) := EvD.to (ev_isN ha) (by
  cases o with
  | none => rfl
  | some a => show PyData.bool (isNone (e a)) = _; rw [hn a]; rfl)
theorem ev_notNO2 {o : Option α} (hn : ∀ a, isNone (e a) = false) (ha : EvD K B ta Γ (eO e o)) : EvD K B (tOp (fun x y H Q => y = .non ∧ Q (.bl (!decide (x = .non))) H) ta (tC .non)) Γ (.bool o.isSome) := EvD.to (ev_notN ha) (by
  cases o with
  | none => rfl
  | some a => show PyData.bool (!isNone (e a)) = _; rw [hn a]; rfl)
theorem ev_andO {a v : Bool} {m : Option Bool} (ha : EvD K B ta Γ (.bool a)) (h : sel a m (some false) = some v) (hb : a = true → m = some v → EvD K B tb Γ (.bool v)) : EvD K B (tAndV ta tb) Γ (.bool v) := by
  cases a with
  | false =>
    have e : v = false := by cases h; rfl
    subst e
    exact EvD.to (ev_andV (c := false) ha fun z => by cases z) rfl
  | true => exact EvD.to (ev_andV (c := v) ha fun _ => hb rfl h) rfl
theorem ev_orO {a v : Bool} {m : Option Bool} (ha : EvD K B ta Γ (.bool a)) (h : sel a (some true) m = some v) (hb : a = false → m = some v → EvD K B tb Γ (.bool v)) : EvD K B (tOrV ta tb) Γ (.bool v) := by
  cases a with
  | true =>
    have e : v = true := by cases h; rfl
    subst e
    exact EvD.to (ev_orV (c := true) ha fun z => by cases z) rfl
  | false => exact EvD.to (ev_orV (c := v) ha fun _ => hb rfl h) rfl
theorem et_andO {tu : TT} {a v : Bool} {m : Option Bool} (ha : EvT K B tt Γ a) (h : sel a m (some false) = some v) (hb : a = true → m = some v → EvT K B tu Γ v) : EvT K B (tAnd tt tu) Γ v := by
  cases a with
  | false =>
    have e : v = false := by cases h; rfl
    subst e
    exact (et_and (c := false) ha fun z => by cases z).to rfl
  | true => exact (et_and (c := v) ha fun _ => hb rfl h).to rfl
theorem et_orO {tu : TT} {a v : Bool} {m : Option Bool} (ha : EvT K B tt Γ a) (h : sel a (some true) m = some v) (hb : a = false → m = some v → EvT K B tu Γ v) : EvT K B (tOr tt tu) Γ v := by
  cases a with
  | true =>
    have e : v = true := by cases h; rfl
    subst e
    exact (et_or (c := true) ha fun z => by cases z).to rfl
  | false => exact (et_or (c := v) ha fun _ => hb rfl h).to rfl
theorem ev_ifO {b : Bool} {m n : Option α} {v : α} (ht : EvT K B tt Γ b) (h : sel b m n = some v) (h1 : b = true → m = some v → EvD K B ta Γ (e v)) (h2 : b = false → n = some v → EvD K B tb Γ (e v)) : EvD K B (tIf tt ta tb) Γ (e v) :=
  ev_ifP ht (fun q => h1 q (sel_t h q)) (fun q => h2 q (sel_f h q))
theorem ev_ifT {b : Bool} {x y : α} (ht : EvT K B tt Γ b) (h1 : b = true → EvD K B ta Γ (e x)) (h2 : b = false → EvD K B tb Γ (e y)) : EvD K B (tIf tt ta tb) Γ (e (sel b x y)) :=
  ev_ifP ht (fun q => by subst q; exact h1 rfl) (fun q => by subst q; exact h2 rfl)
theorem mpO_len {f : α → Option β} : ∀ {xs : List α} {ys : List β}, mpO f xs = some ys → ys.length = xs.length
  | [], ys, q => by cases q; rfl
  | x :: xs, ys, q => by
    unfold mpO at q
    cases e1 : f x with
    | none => rw [e1] at q; cases q
    | some y =>
      rw [e1] at q
      cases e2 : mpO f xs with
      | none => rw [e2] at q; cases q
      | some zs => rw [e2] at q; cases q; simp [mpO_len e2]
theorem lcO_app {f : α → Option (Option β)} {x : α} : ∀ {xs : List α} {ys : List β}, lcO f xs = some ys → lcO f (xs ++ [x]) = match f x with | none => none | some none => some ys | some (some y) => some (ys ++ [y])
  | [], ys, q => by
    cases q
    simp only [List.nil_append, lcO]
    cases f x with
    | none => rfl
    | some o => cases o <;> rfl
  | z :: xs, ys, q => by
    unfold lcO at q
    simp only [List.cons_append, lcO]
    cases e1 : f z with
    | none => rw [e1] at q; cases q
    | some o =>
      rw [e1] at q
      cases o with
      | none => exact lcO_app q
      | some y =>
        dsimp only at q ⊢
        cases e2 : lcO f xs with
        | none => rw [e2] at q; cases q
        | some zs =>
          rw [e2] at q
          cases q
          rw [lcO_app e2]
          cases f x with
          | none => rfl
          | some o => cases o <;> rfl
theorem lcO_take {f : α → Option (Option β)} : ∀ {xs : List α} {ys : List β}, lcO f xs = some ys → ∀ i : Nat, ∃ zs, lcO f (xs.take i) = some zs
  | xs, ys, q, 0 => ⟨[], by rw [List.take_zero]; rfl⟩
  | [], ys, q, i + 1 => ⟨[], rfl⟩
  | x :: xs, ys, q, i + 1 => by
    unfold lcO at q
    rw [List.take_succ_cons]
    unfold lcO
    cases e1 : f x with
    | none => rw [e1] at q; cases q
    | some o =>
      rw [e1] at q
      cases o with
      | none => exact lcO_take q i
      | some y =>
        dsimp only at q ⊢
        cases e2 : lcO f xs with
        | none => rw [e2] at q; cases q
        | some zs =>
          obtain ⟨us, hu⟩ := lcO_take e2 i
          exact ⟨y :: us, by rw [hu]; rfl⟩
theorem lcO_len {f : α → Option (Option β)} : ∀ {xs : List α} {ys : List β}, lcO f xs = some ys → ys.length ≤ xs.length
  | [], ys, q => by cases q; simp
  | x :: xs, ys, q => by
    unfold lcO at q
    cases e1 : f x with
    | none => rw [e1] at q; cases q
    | some o =>
      rw [e1] at q
      cases o with
      | none => have := lcO_len q; simp; omega
      | some y =>
        dsimp only at q
        cases e2 : lcO f xs with
        | none => rw [e2] at q; cases q
        | some zs => rw [e2] at q; cases q; have := lcO_len e2; simp; omega
theorem lcO_mem {f : α → Option (Option β)} : ∀ {xs : List α} {ys : List β}, lcO f xs = some ys → ∀ x ∈ xs, ∃ o, f x = some o
  | x :: xs, ys, q, z, hz => by
    unfold lcO at q
    cases e1 : f x with
    | none => rw [e1] at q; cases q
    | some o =>
      rcases List.mem_cons.mp hz with rfl | hz
      · exact ⟨o, e1⟩
      · rw [e1] at q
        cases o with
        | none => exact lcO_mem q z hz
        | some y =>
          dsimp only at q
          cases e2 : lcO f xs with
          | none => rw [e2] at q; cases q
          | some zs => exact lcO_mem e2 z hz
/-- a comprehension with a test, by lcO -/
theorem en_lcO {wi : TI} {tt : TT} {us : List Nat} {xs : List α} {ys : List β} {f : α → Option (Option β)} (hi : EvI K B wi Γ (xs.map e)) (hno : AllNo Γ us) (hm : lcO f xs = some ys) (hl : szLt xs.length = true)
    (hs : ∀ x o, x ∈ xs → f x = some o → ∃ Γ2 vs b, Tg K B g (e x) Γ Γ2 vs ∧ (∀ v ∈ vs, v ∈ us) ∧ EvT K B tt Γ2 b ∧ (b = true → ∃ y, o = some y ∧ EvD K B te Γ2 (e' y)) ∧ (b = false → o = none)) :
    EvND K B (tLc wi g tt te us) Γ (ys.map e') := fun F σ H s Q q =>
  en_lc (us := us) hi hno (fun i l => i ≤ xs.length ∧ ∃ zs, lcO f (xs.take i) = some zs ∧ l = zs.map e') ⟨Nat.zero_le _, [], rfl, rfl⟩ (fun i l ⟨h1, zs, h2, h3⟩ => by
      have h4 := lcO_len h2
      have h5 := szLt_of hl
      rw [h3, List.length_map]
      rw [List.length_take] at h4
      omega) (fun i d l hd ⟨h1, zs, h2, h3⟩ => by
    rw [List.getElem?_map] at hd
    cases hx : xs[i]? with
    | none => rw [hx] at hd; cases hd
    | some x =>
      rw [hx] at hd
      cases hd
      have hlt : i < xs.length := (List.getElem?_eq_some_iff.mp hx).1
      have hmem : x ∈ xs := List.mem_of_getElem? hx
      have et : xs.take (i + 1) = xs.take i ++ [x] := by rw [List.take_add_one, hx]; rfl
      obtain ⟨o, ho⟩ := lcO_mem hm x hmem
      obtain ⟨Γ2, vs, b, ht, hv, ht2, hb1, hb2⟩ := hs x o hmem ho
      have happ := lcO_app (x := x) h2
      rw [ho] at happ
      cases b with
      | true =>
        obtain ⟨y, rfl, hy⟩ := hb1 rfl
        refine ⟨Γ2, vs, true, _, ht, hv, ht2, fun _ => hy, fun _ z hz => ⟨hlt, zs ++ [y], by rw [et]; exact happ, by rw [h3, hz, List.map_append]; rfl⟩, fun z => by cases z⟩
      | false =>
        have := hb2 rfl
        subst this
        exact ⟨Γ2, vs, false, fun _ => False, ht, hv, ht2, (fun z => nomatch z), (fun z => nomatch z), fun _ => ⟨hlt, zs, by rw [et]; exact happ, h3⟩⟩) F σ H s Q fun p l H' ⟨_, zs, h2, h3⟩ => q p l H' (by
    rw [List.length_map, List.take_length, hm] at h2
    cases h2
    exact h3)
theorem mpO_lc {f : α → Option β} : ∀ xs : List α, lcO (fun x => (f x).map some) xs = mpO f xs
  | [] => rfl
  | x :: xs => by
    unfold lcO mpO
    rw [mpO_lc xs]
    cases f x <;> rfl
theorem en_mpO {wi : TI} {us : List Nat} {xs : List α} {ys : List β} {f : α → Option β} (hi : EvI K B wi Γ (xs.map e)) (hno : AllNo Γ us) (hm : mpO f xs = some ys) (hl : szLt xs.length = true)
    (hs : ∀ x y, x ∈ xs → f x = some y → ∃ Γ2 vs, Tg K B g (e x) Γ Γ2 vs ∧ (∀ v ∈ vs, v ∈ us) ∧ EvD K B te Γ2 (e' y)) :
    EvND K B (tLc wi g tYes te us) Γ (ys.map e') := by
  rw [← mpO_lc] at hm
  refine en_lcO hi hno hm hl fun x o hx ho => ?_
  cases e1 : f x with
  | none => rw [e1] at ho; cases ho
  | some y =>
    rw [e1] at ho
    cases ho
    obtain ⟨Γ2, vs, h1, h2, h3⟩ := hs x y hx e1
    exact ⟨Γ2, vs, true, h1, h2, fun F σ H s Q q => q H s, fun _ => ⟨y, rfl, h3⟩, fun z => by cases z⟩
theorem nx_asgD {d d' : DD} (h : EvD K B te Γ d) (q : d = d') (k : Nx K B D.nx (Γ.set i (.dat d')) F) (hi : Nat.blt i Γ.length = true := by rfl) : Nx K B (tAsg te (gName i) D) Γ F := nx_asg (EvD.to h q) k hi
theorem nx_asgL {xs ys : List α} (h : EvND K B te Γ (xs.map e)) (q : xs = ys) (k : ∀ p, p ∉ B.L → Nx K B D.nx (Γ.set i (.own (lstR p (ys.map e)))) F) (hi : Nat.blt i Γ.length = true := by rfl) : Nx K B (tAsg te (gName i) D) Γ F := nx_asgO (EvND.to h (by rw [q])) k hi
theorem nx_app {p : Addr} {xs ys : List α} {x : α} (hx : Γ[i]? = some (.own (lstR p (xs.map e)))) (h : EvD K B te Γ (e x)) (hz : szLt xs.length = true) (q : xs ++ [x] = ys) (k : Nx K B D.nx (Γ.set i (.own (lstR p (ys.map e)))) F) :
    Nx K B (tDrop (tBM K "list" rAppend (tVar i) (tCons te tNil)) D) Γ F := nx_append hx h (by rw [List.length_map]; exact szLt_of hz) (fun d hd => by
  subst hd q
  rw [List.map_append] at k
  exact k)
theorem nx_ext {p : Addr} {xs ys zs : List α} (hx : Γ[i]? = some (.own (lstR p (xs.map e)))) (h : EvD K B te Γ (.list (ys.map e))) (hz : szLe (xs.length + ys.length) = true) (q : xs ++ ys = zs) (k : Nx K B D.nx (Γ.set i (.own (lstR p (zs.map e)))) F) :
    Nx K B (tAug i te rExt2 D) Γ F := nx_augL hx h (by rw [List.length_map, List.length_map]; exact szLe_of hz) (by
  subst q
  rw [List.map_append] at k
  exact k)
def setO (xs : List α) (i : Int) (x : α) : Option (List α) := (ixN xs.length i).map fun n => xs.set n x
theorem nx_setI {p : Addr} {xs ys : List α} {x : α} {jj : Int} {ti : TE} (hx : Γ[i]? = some (.own (lstR p (xs.map e)))) (h : EvD K B te Γ (e x)) (hi : EvD K B ti Γ (.int jj)) (q : setO xs jj x = some ys) (k : Nx K B D.nx (Γ.set i (.own (lstR p (ys.map e)))) F) :
    Nx K B (tAsg te (gSub (tVar i) ti rSetL) D) Γ F := by
  unfold setO at q
  cases h1 : ixN xs.length jj with
  | none => rw [h1] at q; cases q
  | some n =>
    rw [h1] at q
    cases q
    refine nx_setO (n := n) hx h hi (by rw [List.length_map]; exact h1) ?_
    rw [List.map_set] at k
    exact k
theorem nx_augI {f : Int → Int → Int} {a b c : Int} (hx : Γ[i]? = some (.dat (.int a))) (h : EvD K B te Γ (.int b)) (q : f a b = c) (k : Nx K B D.nx (Γ.set i (.dat (.int c))) F) : Nx K B (tAug i te (ipI f) D) Γ F := nx_aug hx h (by rw [q]; exact k)
theorem nx_forgets {n : St → Hp → Prop} (is : List Nat) (k : Nx K B n (is.foldl (fun Γ i => Γ.set i .no) Γ) F) : Nx K B n Γ F := by
  induction is generalizing Γ with
  | nil => exact k
  | cons a is ih => exact nx_forget a (ih k)
def tCut (t u : TS) : TS := C8.tCut t u
theorem pss_cut {X : Cx} {st : Stmt} {rest : List Stmt} {t u : TS} (h1 : PS X st t) (h2 : PSs X rest u) : PSs X (st :: rest) (tCut t u) := C8.pss_cut h1 h2
theorem nx_cut {γ : Type} (R : γ → Prop) (sl : γ → List Sl) (h1 : Nx K B (t { D with nx := fun σ H => ∃ j, R j ∧ S K B (sl j) F σ H }) Γ F) (h2 : ∀ j, R j → Nx K B (u D) (sl j) F) : Nx K B (tCut t u D) Γ F := fun σ H s =>
  ⟨_, h1 σ H s, fun σ' H' ⟨j, hj, s'⟩ => h2 j hj σ' H' s'⟩
theorem nx_mid {γ : Type} {R : γ → Prop} {sl : γ → List Sl} (j : γ) (hj : R j) (h : Γ = sl j) : Nx K B (fun σ H => ∃ j, R j ∧ S K B (sl j) F σ H) Γ F := fun σ H s => ⟨j, hj, h ▸ s⟩
theorem nx_forR {wi : TI} {xs : List α} (R : List α → σ → Prop) (Rb : σ → Prop) (sl : σ → List Sl) (hi : EvI K B wi Γ (xs.map e)) (s0 : σ) (h0 : Γ = sl s0) (k : R xs s0) (he : ∀ s, R [] s → Rb s)
    (hs : ∀ x rest s F', R (x :: rest) s → (∀ s, Rb s → Nx K B D.nx (sl s) F') → ∃ Γ2 vs, Tg K B g (e x) (sl s) Γ2 vs ∧ Nx K B (t { D with nx := fun σ H => ∃ s', R rest s' ∧ S K B (sl s') F' σ H, ct := fun σ H => ∃ s', R rest s' ∧ S K B (sl s') F' σ H, bk := D.nx }) Γ2 F')
    (hd : ∀ s, Rb s → Nx K B D.nx (sl s) F) : Nx K B (tFor wi g t D) Γ F := fun σ0 H0 S0' =>
  hi F σ0 H0 S0' _ fun J T0 X0 H' hJ s' => by
    refine ⟨fun i m σ H => m = xs.length - i ∧ i ≤ xs.length ∧ ∃ s, R (xs.drop i) s ∧ S K B (sl s) ⟨T0 ++ F.T, F.X ++ X0⟩ σ H, ⟨xs.length, by simp, Nat.zero_le _, s0, by rw [List.drop_zero]; exact k, h0 ▸ s'⟩, ?_⟩
    rintro i m σ1 H1 ⟨rfl, hle, s, hR, s1⟩
    obtain ⟨j1, j2⟩ := hJ (sl s) _ σ1 H1 s1 (fun p hp => by simp [hp]) (fun p hp => by simp [hp]) i
    have hbk : ∀ s, Rb s → Nx K B D.nx (sl s) ⟨T0 ++ F.T, F.X ++ X0⟩ := fun s hs' σ H z => hd s hs' σ H (z.rmXs.drop fun p hp => by simp [hp])
    by_cases hlt : i < xs.length
    · obtain ⟨go, y⟩ := j1 (e xs[i]) (by rw [List.getElem?_map, List.getElem?_eq_getElem hlt]; rfl)
      refine .inr ⟨go, fun σ' H' => ∃ s', R (xs.drop (i + 1)) s' ∧ S K B (sl s') ⟨T0 ++ F.T, F.X ++ X0⟩ σ' H', fun σ' H' ⟨s3, h3, h4⟩ => ⟨xs.length - (i + 1), by omega, rfl, hlt, s3, h3, h4⟩, fun x H2 hy => ?_⟩
      rw [List.drop_eq_getElem_cons hlt] at hR
      obtain ⟨Γ2, vs, ht, hn⟩ := hs _ _ s ⟨T0 ++ F.T, F.X ++ X0⟩ hR hbk
      exact ht.2 _ x σ1 H2 (y x H2 hy) (by simp) _ fun σ2 H3 s3 _ => hn σ2 H3 s3.pop
    · have e1 : i = xs.length := by omega
      rw [e1, List.drop_length] at hR
      exact .inl ⟨j2 (by rw [List.length_map]; exact e1), hbk s (he s hR) σ1 H1 s1⟩
theorem nx_whR (R : Nat → σ → Prop) (sl : σ → List Sl) (n : Nat) (s0 : σ) (h0 : Γ = sl s0) (k : R n s0)
    (hs : ∀ n s, R n s → ∃ b, EvT K B tt (sl s) b ∧ (b = true → Nx K B (t { D with nx := fun σ H => ∃ n' s', n' < n ∧ R n' s' ∧ S K B (sl s') F σ H, ct := fun σ H => ∃ n' s', n' < n ∧ R n' s' ∧ S K B (sl s') F σ H, bk := D.nx }) (sl s) F) ∧ (b = false → Nx K B D.nx (sl s) F)) :
    Nx K B (tWhile tt t D) Γ F := fun σ0 H0 S0' => by
  refine ⟨fun m σ H => ∃ s, R m s ∧ S K B (sl s) F σ H, ⟨n, s0, k, h0 ▸ S0'⟩, ?_⟩
  rintro m σ1 H1 ⟨s, hR, s1⟩
  obtain ⟨b, hb, h1, h2⟩ := hs m s hR
  refine hb F σ1 H1 s1 _ fun H' s' => ?_
  cases b with
  | true => exact ⟨_, fun σ' H' ⟨m', s3, l, w3, z3⟩ => ⟨m', l, s3, w3, z3⟩, h1 rfl σ1 H' s'⟩
  | false => exact h2 rfl σ1 H' s'
theorem nx_lp {α : Type} {R : σ → Prop} {sl : σ → List Sl} (s : σ) (h : R s) (q : Γ = sl s) : Nx K B (fun σ H => ∃ s', R s' ∧ S K B (sl s') F σ H) Γ F := fun _ _ z => ⟨s, h, q ▸ z⟩
theorem nx_lw {R : Nat → σ → Prop} {sl : σ → List Sl} {m n : Nat} (s : σ) (hm : m < n) (h : R m s) (q : Γ = sl s) : Nx K B (fun σ H => ∃ n' s', n' < n ∧ R n' s' ∧ S K B (sl s') F σ H) Γ F := fun _ _ z => ⟨m, s, hm, h, q ▸ z⟩
def enumL : Int → List α → List (Int × α)
  | _, [] => []
  | n, x :: xs => (n, x) :: enumL (n + 1) xs
theorem enumL_get : ∀ {xs : List α} {n : Int} {i : Nat} {x : α}, xs[i]? = some x → (enumL n xs)[i]? = some (n + i, x)
  | y :: ys, n, 0, x, h => by
    simp only [List.getElem?_cons_zero, Option.some.injEq] at h
    subst h
    simp [enumL]
  | y :: ys, n, i + 1, x, h => by
    simp only [List.getElem?_cons_succ] at h
    have := enumL_get (n := n + 1) h
    simp only [enumL, List.getElem?_cons_succ, this]
    congr 2
    omega
theorem enumL_len : ∀ {xs : List α} {n : Int}, (enumL n xs).length = xs.length
  | [], _ => rfl
  | _ :: xs, n => by simp [enumL, enumL_len (xs := xs)]
theorem ei_enum {xs : List α} {te : TE} (h : EvD K B te Γ (.list (xs.map e))) : EvI K B (iEnum K (tCons te tNil)) Γ ((enumL 0 xs).map (e2 PyData.int e)) := EvI0.gen (fun F σ H s R q =>
  h F σ H s _ fun v d H' ed s' => by
    subst ed
    obtain ⟨G, s1⟩ := id s'
    obtain ⟨a, ws, rfl, ha, hs⟩ := (s1.tm (v, .list (xs.map e)) (by simp)).lst_inv
    refine ⟨a, ws, rfl, SqL.of (s1.ex _ _ ha), q _ [(.ref a, .list (xs.map e))] H' (fun Γ2 F2 σ2 H2 s2 hT i => ?_) s'⟩
    obtain ⟨G2, s3⟩ := id s2
    obtain ⟨a2, xs2, e2', ha2, hs2⟩ := (s3.tm (.ref a, .list (xs.map e)) (hT _ (by simp))).lst_inv
    cases e2'
    have sq : SqL K H2 a xs2 := SqL.of (s3.ex _ _ ha2)
    refine ⟨fun d hd => ?_, fun ee => ⟨xs2, sq, by rw [hs2.length, List.length_map, ee, List.length_map, enumL_len]; exact Nat.le_refl _⟩⟩
    rw [List.getElem?_map] at hd
    cases hx : xs[i]? with
    | none =>
      have : (enumL 0 xs)[i]? = none := by
        rw [List.getElem?_eq_none_iff, enumL_len]; exact List.getElem?_eq_none_iff.mp hx
      rw [this] at hd; cases hd
    | some x =>
      rw [enumL_get hx] at hd
      cases hd
      obtain ⟨w, hw, hdw⟩ := hs2.get (i := i) (d := e x) (by rw [List.getElem?_map, hx]; rfl)
      refine ⟨⟨xs2, w, sq, hw⟩, fun y H3 hy => ?_⟩
      obtain ⟨T, x', rfl, hT', rfl, hy⟩ := hy
      have := hy xs2 sq
      rw [hw] at this
      cases this
      have hG : G2 T = none := s3.ex.none hT'
      refine S.grown s3 (Grow.laid s3.ex hT') (.tup (SqT.of upd_same) (.cons ?_ (.cons (hdw.mono (Ex.new hG)) .nil)))
      rw [Int.zero_add]; exact .int _)
theorem ei_zip {xs : List α} {ys : List β} {te tb : TE} (h : EvD K B te Γ (.list (xs.map e))) (h2 : EvD K B tb Γ (.list (ys.map e'))) : EvI K B (iZip K (tCons te (tCons tb tNil))) Γ ((xs.zip ys).map (e2 e e')) := EvI0.gen (fun F σ H s R q =>
  h F σ H s _ fun v d H' ed s' => h2 _ σ H' s' _ fun u d2 H'' ed2 s'' => by
    subst ed ed2
    obtain ⟨G, s1⟩ := id s''
    obtain ⟨a, ws, rfl, ha, hs⟩ := (s1.tm (v, .list (xs.map e)) (by simp)).lst_inv
    obtain ⟨b, zs, rfl, hb, ht⟩ := (s1.tm (u, .list (ys.map e')) (by simp)).lst_inv
    refine ⟨a, b, ws, zs, rfl, SqL.of (s1.ex _ _ ha), SqL.of (s1.ex _ _ hb), q _ [(.ref a, .list (xs.map e)), (.ref b, .list (ys.map e'))] H'' (fun Γ2 F2 σ2 H2 s2 hT i => ?_) (s''.drop fun p hp => by
      simp at hp ⊢
      rcases hp with ee | ee | ee <;> simp [ee])⟩
    obtain ⟨G2, s3⟩ := id s2
    obtain ⟨a2, xs2, e2', ha2, hs2⟩ := (s3.tm (.ref a, .list (xs.map e)) (hT _ (by simp))).lst_inv
    obtain ⟨b2, ys2, e3', hb2, ht2⟩ := (s3.tm (.ref b, .list (ys.map e')) (hT _ (by simp))).lst_inv
    cases e2'
    cases e3'
    have sq : SqL K H2 a xs2 := SqL.of (s3.ex _ _ ha2)
    have sq2 : SqL K H2 b ys2 := SqL.of (s3.ex _ _ hb2)
    refine ⟨fun d hd => ?_, fun ee => ⟨xs2, ys2, sq, sq2, ?_⟩⟩
    · rw [List.getElem?_map] at hd
      cases hx : (xs.zip ys)[i]? with
      | none => rw [hx] at hd; cases hd
      | some xy =>
        rw [hx] at hd
        cases hd
        obtain ⟨x, y⟩ := xy
        rw [List.getElem?_zip_eq_some] at hx
        obtain ⟨w, hw, hdw⟩ := hs2.get (i := i) (d := e x) (by rw [List.getElem?_map, hx.1]; rfl)
        obtain ⟨w2, hw2, hdw2⟩ := ht2.get (i := i) (d := e' y) (by rw [List.getElem?_map, hx.2]; rfl)
        refine ⟨⟨xs2, ys2, w, w2, sq, sq2, hw, hw2⟩, fun yv H3 hy => ?_⟩
        obtain ⟨T, x', y', rfl, hT', rfl, hy1, hy2⟩ := hy
        have h3 := hy1 xs2 sq
        have h4 := hy2 ys2 sq2
        rw [hw] at h3
        rw [hw2] at h4
        cases h3
        cases h4
        have hG : G2 T = none := s3.ex.none hT'
        exact S.grown s3 (Grow.laid s3.ex hT') (.tup (SqT.of upd_same) (.cons (hdw.mono (Ex.new hG)) (.cons (hdw2.mono (Ex.new hG)) .nil)))
    · rw [List.length_map, List.length_zip] at ee
      have h5 := hs2.length
      have h6 := ht2.length
      rw [List.length_map] at h5 h6
      omega)
theorem eiR1 {n : Int} {ta : TA} (h : EvAD K B ta Γ [.int n]) (hn : r1Ok n = true) : EvI K B (iRng1 ta) Γ ((intsF 0 n.toNat).map .int) := ei_range1 h (by unfold r1Ok at hn; exact of_decide_eq_true hn)
theorem eiR2 {lo n : Int} {ta : TA} (h : EvAD K B ta Γ [.int lo, .int n]) (hn : r2Ok lo n = true) : EvI K B (iRng2 ta) Γ ((intsF lo (n - lo).toNat).map .int) := ei_range2 h (by unfold r2Ok at hn; exact of_decide_eq_true hn)
end
def isiB (n : String) (d : DD) : Bool := (kitB (tyD d) n).getD false
theorem isi_int (d : DD) : kitB (tyD d) "int" = some (match d with | .int _ => true | .bool _ => true | _ => false) := by
  cases d
  · exact kit_NoneType_int
  · exact kit_bool_int
  · exact kit_int_int
  · exact kit_str_int
  · exact kit_list_int
  · exact kit_tuple_int
  · exact kit_dict_int
theorem isi_bool (d : DD) : kitB (tyD d) "bool" = some (match d with | .bool _ => true | _ => false) := by
  cases d
  · exact kit_NoneType_bool
  · exact kit_bool_bool
  · exact kit_int_bool
  · exact kit_str_bool
  · exact kit_list_bool
  · exact kit_tuple_bool
  · exact kit_dict_bool
theorem isi_str (d : DD) : kitB (tyD d) "str" = some (match d with | .str _ => true | _ => false) := by
  cases d
  · exact kit_NoneType_str
  · exact kit_bool_str
  · exact kit_int_str
  · exact kit_str_str
  · exact kit_list_str
  · exact kit_tuple_str
  · exact kit_dict_str
theorem isi_list (d : DD) : kitB (tyD d) "list" = some (match d with | .list _ => true | _ => false) := by
  cases d
  · exact kit_NoneType_list
  · exact kit_bool_list
  · exact kit_int_list
  · exact kit_str_list
  · exact kit_list_list
  · exact kit_tuple_list
  · exact kit_dict_list
theorem isi_tuple (d : DD) : kitB (tyD d) "tuple" = some (match d with | .tuple _ => true | _ => false) := by
  cases d
  · exact kit_NoneType_tuple
  · exact kit_bool_tuple
  · exact kit_int_tuple
  · exact kit_str_tuple
  · exact kit_list_tuple
  · exact kit_tuple_tuple
  · exact kit_dict_tuple
def isInt (d : DD) : Bool := match d with | .int _ => true | .bool _ => true | _ => false
def isBool (d : DD) : Bool := match d with | .bool _ => true | _ => false
def isStr (d : DD) : Bool := match d with | .str _ => true | _ => false
def isList (d : DD) : Bool := match d with | .list _ => true | _ => false
def isTuple (d : DD) : Bool := match d with | .tuple _ => true | _ => false
end Ly
namespace Ly
open PySem PySem.Spec PyProof.Rows L2
section
variable {K : FK} {B : Bs} {Γ Γ' : List Sl} {F : Fra} {te ta tb to : TE} {tt : TT} {D : Ends} {t u v : TS} {i j : Nat} {g : TG} {α β γ σ ρ τ : Type} {e : α → DD} {e' : β → DD}
abbrev FU : Nat := 1000000000
theorem wp_c {A C : Bool → Prop} {r : Str → Prop} {b : Bool} (k : Wp (fun b => A b ∧ C b) r (.ok b)) : A b ∧ C b := k
/-- a for, by what is left of its mirror -/
theorem nx_forK {wi : TI} {xs : List α} {body : σ → α → M (Fl σ ρ)} {jj : ρ → M τ} {f : σ → M τ} {p : τ → Prop} {r : Str → Prop} {s0 : σ} (k : Wp p r (fb (forM body xs s0) jj f)) (sl : σ → List Sl) (hi : EvI K B wi Γ (xs.map e)) (h0 : Γ = sl s0)
    (hs : ∀ (R Rb : σ → Prop) (q : Fl σ ρ → Prop), (∀ s, q (.nx s) → R s) → (∀ s, q (.bk s) → Rb s) → (∀ v, q (.rt v) → Wp p r (jj v)) → ∀ x s F', (∀ s, Rb s → Nx K B D.nx (sl s) F') → Wp q r (body s x) →
      ∃ Γ2 vs, Tg K B g (e x) (sl s) Γ2 vs ∧ Nx K B (t { D with nx := fun σ H => ∃ s', R s' ∧ S K B (sl s') F' σ H, ct := fun σ H => ∃ s', R s' ∧ S K B (sl s') F' σ H, bk := D.nx }) Γ2 F')
    (hd : ∀ s, Wp p r (f s) → Nx K B D.nx (sl s) F) : Nx K B (tFor wi g t D) Γ F :=
  nx_forR (fun l s => Wp p r (fb (forM body l s) jj f)) (fun s => Wp p r (f s)) sl hi s0 h0 k (fun _ k => k) (fun x rest s F' k hb => hs _ _ _ (fun _ k => k) (fun _ k => k) (fun _ k => k) x s F' hb (wp_for k)) hd
theorem nx_whK {c : σ → M Bool} {body : σ → M (Fl σ ρ)} {jj : ρ → M τ} {f : σ → M τ} {p : τ → Prop} {r : Str → Prop} {n : Nat} {s0 : σ} (k : Wp p r (fb (whM c body n s0) jj f)) (sl : σ → List Sl) (h0 : Γ = sl s0)
    (hs : ∀ (R : Nat → σ → Prop) (Rb : σ → Prop) (q : Fl σ ρ → Prop) m, (∀ s, q (.nx s) → R m s) → (∀ s, q (.bk s) → Rb s) → (∀ v, q (.rt v) → Wp p r (jj v)) → ∀ s, (∀ s, Rb s → Nx K B D.nx (sl s) F) → Wp (fun b => (b = true → Wp q r (body s)) ∧ (b = false → Rb s)) r (c s) →
      ∃ b, EvT K B tt (sl s) b ∧ (b = true → Nx K B (t { D with nx := fun σ H => ∃ n' s', n' < m + 1 ∧ R n' s' ∧ S K B (sl s') F σ H, ct := fun σ H => ∃ n' s', n' < m + 1 ∧ R n' s' ∧ S K B (sl s') F σ H, bk := D.nx }) (sl s) F) ∧ (b = false → Nx K B D.nx (sl s) F))
    (hd : ∀ s, Wp p r (f s) → Nx K B D.nx (sl s) F) : Nx K B (tWhile tt t D) Γ F :=
  nx_whR (fun n s => Wp p r (fb (whM c body n s) jj f)) sl n s0 h0 k fun n s k => by
    obtain ⟨m, rfl, k2⟩ := wp_wh k
    exact hs (fun n s => Wp p r (fb (whM c body n s) jj f)) (fun s => Wp p r (f s)) _ m (fun _ k => k) (fun _ k => k) (fun _ k => k) s hd k2
theorem nx_lw' {R : Nat → σ → Prop} {sl : σ → List Sl} {m : Nat} (s : σ) (h : R m s) (q : Γ = sl s) : Nx K B (fun σ H => ∃ n' s', n' < m + 1 ∧ R n' s' ∧ S K B (sl s') F σ H) Γ F := nx_lw s (Nat.lt_succ_self m) h q
/-- if, both ways go on -/
theorem nx_ifJ {b : Bool} {A C : M γ} {f : γ → M τ} {p : τ → Prop} {r : Str → Prop} (k : Wp p r (mb (sel b A C) f)) (sl : γ → List Sl) (ht : EvT K B tt Γ b)
    (h1 : ∀ q : γ → Prop, b = true → Wp q r A → Nx K B (t { D with nx := fun σ H => ∃ j, q j ∧ S K B (sl j) F σ H }) Γ F)
    (h2 : ∀ q : γ → Prop, b = false → Wp q r C → Nx K B (v { D with nx := fun σ H => ∃ j, q j ∧ S K B (sl j) F σ H }) Γ F)
    (h3 : ∀ j, Wp p r (f j) → Nx K B (u D) (sl j) F) : Nx K B (tCut (tIfS tt t v) u D) Γ F := by
  have km : Wp (fun j => Wp p r (f j)) r (sel b A C) := by
    cases e : sel b A C with
    | ok a => rw [e] at k; exact k
    | er c => rw [e] at k; exact k
    | no => rw [e] at k; exact k
  exact nx_cut (fun j => Wp p r (f j)) sl (nx_if ht (fun h => h1 _ h (wp_t km h)) (fun h => h2 _ h (wp_f km h))) h3
theorem wp_op {p : α → Prop} {r : Str → Prop} {m : M α} {G : Prop} (k : Wp p r m) (h : ∀ q : α → Prop, (∀ a, q a → p a) → Wp q r m → G) : G := h p (fun _ z => z) k
theorem nx_brk (h : Nx K B D.bk Γ F) : Nx K B (tBreak D) Γ F := h
theorem nx_cont (h : Nx K B D.ct Γ F) : Nx K B (tCont D) Γ F := h
/-- maps and filters that cannot fail -/
theorem mpO_some {f : α → β} : ∀ xs : List α, mpO (fun x => some (f x)) xs = some (xs.map f)
  | [] => rfl
  | x :: xs => by unfold mpO; rw [mpO_some xs]; rfl
theorem lcO_some {c : α → Bool} {f : α → β} : ∀ xs : List α, lcO (fun x => some (sel (c x) (some (f x)) none)) xs = some ((xs.filter c).map f)
  | [] => rfl
  | x :: xs => by
    unfold lcO
    rw [lcO_some xs]
    cases e1 : c x with
    | true => simp [sel, e1]
    | false => simp [sel, e1]
theorem en_mapT {wi : TI} {us : List Nat} {xs : List α} (f : α → β) (hi : EvI K B wi Γ (xs.map e)) (hno : AllNo Γ us) (hl : szLt xs.length = true)
    (hs : ∀ x, x ∈ xs → ∃ Γ2 vs, Tg K B g (e x) Γ Γ2 vs ∧ (∀ v ∈ vs, v ∈ us) ∧ EvD K B te Γ2 (e' (f x))) : EvND K B (tLc wi g tYes te us) Γ ((xs.map f).map e') :=
  en_mpO hi hno (mpO_some xs) hl fun x y hx hy => by cases hy; exact hs x hx
theorem en_filT {wi : TI} {tt : TT} {us : List Nat} {xs : List α} (c : α → Bool) (f : α → β) (hi : EvI K B wi Γ (xs.map e)) (hno : AllNo Γ us) (hl : szLt xs.length = true)
    (hs : ∀ x, x ∈ xs → ∃ Γ2 vs, Tg K B g (e x) Γ Γ2 vs ∧ (∀ v ∈ vs, v ∈ us) ∧ EvT K B tt Γ2 (c x) ∧ (c x = true → EvD K B te Γ2 (e' (f x)))) : EvND K B (tLc wi g tt te us) Γ (((xs.filter c).map f).map e') :=
  en_lcO hi hno (lcO_some xs) hl fun x o hx ho => by
    obtain ⟨Γ2, vs, h1, h2, h3, h4⟩ := hs x hx
    refine ⟨Γ2, vs, c x, h1, h2, h3, fun hc => ⟨f x, ?_, h4 hc⟩, fun hc => ?_⟩
    · rw [hc] at ho; exact (Option.some.inj ho).symm
    · rw [hc] at ho; exact (Option.some.inj ho).symm
theorem all_flat (h : ∀ a, flatD (e a) = true) (xs : List α) : (xs.map e).all flatD = true := by
  rw [List.all_map, List.all_eq_true]
  intro a _
  exact h a
def memB [DecidableEq α] (x : α) (xs : List α) : Bool := xs.any fun y => decide (y = x)
theorem memB_iff [DecidableEq α] {x : α} {xs : List α} : memB x xs = true ↔ x ∈ xs := by
  unfold memB
  rw [List.any_eq_true]
  constructor
  · rintro ⟨y, h1, h2⟩
    rw [← of_decide_eq_true h2]; exact h1
  · intro h
    exact ⟨x, h, decide_eq_true rfl⟩
theorem inD_map [DecidableEq α] {n : Nat} (q : Tq e n) (x : α) (xs : List α) : inD (e x) (xs.map e) = memB x xs := by
  unfold inD memB
  induction xs with
  | nil => simp
  | cons y ys ih =>
    rw [List.map_cons, List.any_cons, q.eq, ih, List.any_cons]
theorem et_in [DecidableEq α] {n : Nat} (q : Tq e n) (hf : ∀ a, flatD (e a) = true) {x : α} {xs : List α} (ha : EvD K B ta Γ (e x)) (hb : EvD K B tb Γ (.list (xs.map e))) : EvD K B (tOp (rIn K false) ta tb) Γ (.bool (memB x xs)) :=
  EvD.to (ev_op ha hb (rd_inL (hf x) (all_flat hf xs))) (by rw [inD_map q]; rfl)
theorem et_ni [DecidableEq α] {n : Nat} (q : Tq e n) (hf : ∀ a, flatD (e a) = true) {x : α} {xs : List α} (ha : EvD K B ta Γ (e x)) (hb : EvD K B tb Γ (.list (xs.map e))) : EvD K B (tOp (rIn K true) ta tb) Γ (.bool (!memB x xs)) :=
  EvD.to (ev_op ha hb (rd_inL (hf x) (all_flat hf xs))) (by rw [inD_map q]; rfl)
end
def rInLD (K : FK) (neg : Bool) : R2 := fun x y H Q => ∃ d ds, Dp K H x d ∧ Dp K H y (.list ds) ∧ SeqAt.shaped d = true ∧ SeqAt.shaped (.list ds) = true ∧ Q (.bl (if neg then !inD d ds else inD d ds)) H
section
variable {X : Cx}
theorem op_inLD {k : Nat} (hr : Room k X.A) : OpR X (compareOp .In) (rInLD X.K false) := by
  intro pins s σ H x y v u Q I rx ry h
  obtain ⟨d, ds, hd, he, sd, se, q⟩ := h
  obtain ⟨as, r1⟩ := Dp.reads I d x v hd rx
  obtain ⟨bs, r2⟩ := Dp.reads I (.list ds) y u he ry
  have hu : X.A.units + 65 < cLine := by have := hr.un; omega
  exact SeqAt.in_list_reads r2 r1 (SeqAt.canLay_of_shaped se) (SeqAt.canLay_of_shaped sd) (room_in_shaped sd hu) ⟨.bl _, H, I, rfl, q⟩
theorem op_notInLD {k : Nat} (hr : Room k X.A) : OpR X (compareOp .NotIn) (rInLD X.K true) := by
  intro pins s σ H x y v u Q I rx ry h
  obtain ⟨d, ds, hd, he, sd, se, q⟩ := h
  obtain ⟨as, r1⟩ := Dp.reads I d x v hd rx
  obtain ⟨bs, r2⟩ := Dp.reads I (.list ds) y u he ry
  have hu : X.A.units + 65 < cLine := by have := hr.un; omega
  exact SeqAt.notIn_list_reads r2 r1 (SeqAt.canLay_of_shaped se) (SeqAt.canLay_of_shaped sd) (room_in_shaped sd hu) ⟨.bl _, H, I, rfl, q⟩
end
section
variable {K : FK} {B : Bs} {Γ : List Sl} {ta tb : TE} {α : Type} {e : α → DD}
theorem et_inD [DecidableEq α] {n : Nat} (q : Tq e n) {x : α} {xs : List α} (ha : EvD K B ta Γ (e x)) (hb : EvD K B tb Γ (.list (xs.map e))) (hn : n + 1 ≤ 64 := by decide) : EvD K B (tOp (rInLD K false) ta tb) Γ (.bool (memB x xs)) :=
  EvD.to (ev_op ha hb fun v u G H hv hu ex Q k => ⟨e x, xs.map e, dp_ex ex hv ((q.ok x).shaped (by omega)), dp_ex ex hu (((tqL q).ok xs).shaped hn), (q.ok x).shaped (by omega), ((tqL q).ok xs).shaped hn, k _ G H (Grow.refl ex) (.bl _)⟩) (by rw [inD_map q]; rfl)
theorem et_niD [DecidableEq α] {n : Nat} (q : Tq e n) {x : α} {xs : List α} (ha : EvD K B ta Γ (e x)) (hb : EvD K B tb Γ (.list (xs.map e))) (hn : n + 1 ≤ 64 := by decide) : EvD K B (tOp (rInLD K true) ta tb) Γ (.bool (!memB x xs)) :=
  EvD.to (ev_op ha hb fun v u G H hv hu ex Q k => ⟨e x, xs.map e, dp_ex ex hv ((q.ok x).shaped (by omega)), dp_ex ex hu (((tqL q).ok xs).shaped hn), (q.ok x).shaped (by omega), ((tqL q).ok xs).shaped hn, k _ G H (Grow.refl ex) (.bl _)⟩) (by rw [inD_map q]; rfl)
end
end Ly

namespace Ly
open PySem PySem.Spec PyProof.Rows L2
section
variable {K : FK} {B : Bs} {Γ Γ' : List Sl} {F : Fra} {σ0 : L2.St} {H : Hp} {te ta tb to : TE} {tt tu : TT} {D : Ends} {t u v : TS} {i j : Nat} {g : TG} {P P' Pa Pb : DD → Prop} {d x : DD}
/-- all that is owned -/
def owned (Γ : List Sl) (F : Fra) : List Addr := (Γ.map Sl.as).flatten ++ (F.X.map fun q => q.2.as).flatten
theorem mem_owned {n : Nat} {a : Addr} (h : a ∈ ownAt Γ F n) : a ∈ owned Γ F := by
  unfold ownAt at h
  unfold owned
  split at h
  · rename_i hn
    rw [List.getElem?_eq_getElem hn] at h
    simp only [Option.getD_some] at h
    exact List.mem_append_left _ (List.mem_flatten.mpr ⟨_, List.mem_map.mpr ⟨_, List.getElem_mem hn, rfl⟩, h⟩)
  · split at h
    · rename_i q hq
      exact List.mem_append_right _ (List.mem_flatten.mpr ⟨_, List.mem_map.mpr ⟨q, List.mem_of_getElem? hq, rfl⟩, h⟩)
    · cases h
theorem of_owned {a : Addr} (h : a ∈ owned Γ F) : ∃ n, a ∈ ownAt Γ F n := by
  unfold owned at h
  rcases List.mem_append.mp h with h | h
  · obtain ⟨l, hl, ha⟩ := List.mem_flatten.mp h
    obtain ⟨s, hs, rfl⟩ := List.mem_map.mp hl
    obtain ⟨n, hn, e⟩ := List.getElem_of_mem hs
    exact ⟨n, by rw [ownAt_slot (s := s) (by rw [List.getElem?_eq_getElem hn, e])]; exact ha⟩
  · obtain ⟨l, hl, ha⟩ := List.mem_flatten.mp h
    obtain ⟨q, hq, rfl⟩ := List.mem_map.mp hl
    obtain ⟨n, hn, e⟩ := List.getElem_of_mem hq
    exact ⟨Γ.length + n, by rw [ownAt_fra (q := q) (by rw [List.getElem?_eq_getElem hn, e])]; exact ha⟩
/-- a new base: from here on -/
theorem S0.rebase {G : Hp} (s : S0 K B Γ F σ0 H G) : ∃ B' : Bs, B'.G = G ∧ S0 K B' Γ F σ0 H G ∧ (∀ a, a ∉ B'.L → a ∉ B.L) ∧ ∀ (F' : Fra) (σ' : L2.St) (Γ' : List Sl) (H' : Hp), (∀ a, a ∈ owned Γ' F' → a ∈ owned Γ F ∨ H a = none) → S K B' Γ' F' σ' H' → S K B Γ' F' σ' H' := by
  have hL : ∀ a ∈ owned Γ F ++ B.L, ∃ o, H a = some o := fun a ha => by
    rcases List.mem_append.mp ha with z | z
    · obtain ⟨n, hn⟩ := of_owned z
      exact s.dom hn
    · obtain ⟨o, ho⟩ := B.hL a z
      exact s.grow.dom a o ho
  refine ⟨⟨owned Γ F ++ B.L, G, H, hL⟩, rfl, ⟨s.len, Grow.refl s.ex, s.sl, s.tm, s.xm, s.apart, fun n a ha => ⟨(s.mine n a ha).1, .inl (List.mem_append_left _ (mem_owned ha))⟩⟩, fun a h z => h (List.mem_append_right _ z), fun F' σ' Γ' H' hown ⟨G', z⟩ => ⟨G', z.len, ?_, z.sl, z.tm, z.xm, z.apart, fun n a ha => ?_⟩⟩
  · refine ⟨s.grow.g.trans z.grow.g, z.grow.gh, fun a o hn ha => z.grow.fr a o (fun hz => ?_) (s.grow.fr a o hn ha), fun a o ha hg => ?_, fun a o ha => ?_⟩
    · rcases List.mem_append.mp hz with y | y
      · obtain ⟨n, hn'⟩ := of_owned y
        rcases (s.mine n a hn').2 with w | w
        · exact hn w
        · rw [w] at ha; cases ha
      · exact hn y
    · obtain ⟨o', ho'⟩ := s.grow.dom a o ha
      exact z.grow.new a o' ho' (s.grow.new a o ha hg)
    · obtain ⟨o', ho'⟩ := s.grow.dom a o ha
      exact z.grow.dom a o' ho'
  · refine ⟨(z.mine n a ha).1, ?_⟩
    rcases hown a (mem_owned ha) with y | y
    · obtain ⟨m, hm⟩ := of_owned y
      exact (s.mine m a hm).2
    · cases q : B.H a with
      | none => exact .inr rfl
      | some o =>
        obtain ⟨o', e'⟩ := s.grow.dom a o q
        rw [y] at e'; cases e'
variable (K) in
def Held (B : Bs) (v : V) (d : DD) : Prop := Da K B.G v d
theorem ev_held {v : V} (h : Held K B v d) : EvD K B (tC v) Γ d := fun F σ H ⟨G, s⟩ Q q => q v d H rfl ⟨G, s.step (T' := (v, d) :: F.T) (Grow.refl s.ex) fun p hp => by
  rcases List.mem_cons.mp hp with z | z
  · rw [z]; exact Da.mono s.grow.g h
  · exact s.tm p z⟩
/-- what is held is evaluated with: the frame's held things stay -/
theorem S.hold {T : List (V × DD)} (s : S K B Γ F σ0 H) (hT : ∀ p ∈ T, p ∈ F.T) (h : ∀ B' : Bs, (∀ p ∈ T, Held K B' p.1 p.2) → Ev K B' te Γ P) {Q : VK} (q : ∀ v d H', P d → S K B Γ (F.dat v d) σ0 H' → Q v H') : te σ0 H Q := by
  obtain ⟨G, z⟩ := s
  obtain ⟨B', eG, z', _, back⟩ := z.rebase
  refine h B' (fun p hp => ?_) F σ0 H ⟨G, z'⟩ Q fun v d H' pd s' => q v d H' pd (back _ _ _ _ (fun a ha => .inl ha) s')
  unfold Held
  rw [eG]; exact z.tm p (hT p hp)
/-- an operation on what is drawn -/
theorem ev_hop {r : R2} (ha : Ev K B ta Γ Pa) (hb : Ev K B tb Γ Pb) (hc : ∀ (B' : Bs) va a vb b, Pa a → Pb b → Held K B' va a → Held K B' vb b → Ev K B' (tOp r (tC va) (tC vb)) Γ P) : Ev K B (tOp r ta tb) Γ P := fun F σ H s Q q =>
  ha F σ H s _ fun va a H1 pa s1 => hb _ σ H1 s1 _ fun vb b H2 pb s2 => by
    show tOp r (tC va) (tC vb) σ H2 Q
    refine S.hold (T := [(va, a), (vb, b)]) s2 (fun p hp => by simp at hp; rcases hp with z | z <;> simp [z]) (fun B' hB => hc B' va a vb b pa pb (hB (va, a) (by simp)) (hB (vb, b) (by simp))) fun v d H' pd s' => q v d H' pd (s'.drop fun p hp => by
      simp at hp ⊢
      rcases hp with z | z <;> simp [z])
theorem ev_hun {r : V → Hp → VK → Prop} (ha : Ev K B ta Γ Pa) (hc : ∀ (B' : Bs) va a, Pa a → Held K B' va a → Ev K B' (tUn r (tC va)) Γ P) : Ev K B (tUn r ta) Γ P := fun F σ H s Q q =>
  ha F σ H s _ fun va a H1 pa s1 => by
    show tUn r (tC va) σ H1 Q
    refine S.hold (T := [(va, a)]) s1 (fun p hp => by simp at hp; simp [hp]) (fun B' hB => hc B' va a pa (hB (va, a) (by simp))) fun v d H' pd s' => q v d H' pd (s'.drop fun p hp => by
      simp at hp ⊢
      rcases hp with z | z <;> simp [z])
theorem ev_hcb {r : List V → Hp → VK → Prop} (ha : Ev K B ta Γ Pa) (hc : ∀ (B' : Bs) va a, Pa a → Held K B' va a → Ev K B' (tCB r (tCons (tC va) tNil)) Γ P) : Ev K B (tCB r (tCons ta tNil)) Γ P := fun F σ H s Q q =>
  ha F σ H s _ fun va a H1 pa s1 => by
    show tCB r (tCons (tC va) tNil) σ H1 Q
    refine S.hold (T := [(va, a)]) s1 (fun p hp => by simp at hp; simp [hp]) (fun B' hB => hc B' va a pa (hB (va, a) (by simp))) fun v d H' pd s' => q v d H' pd (s'.drop fun p hp => by
      simp at hp ⊢
      rcases hp with z | z <;> simp [z])
theorem ev_hsl {r : V → Option Int → Option Int → Hp → VK → Prop} {tl th : TO} (ha : Ev K B ta Γ Pa) (hc : ∀ (B' : Bs) va a, Pa a → Held K B' va a → Ev K B' (tSl r (tC va) tl th) Γ P) : Ev K B (tSl r ta tl th) Γ P := fun F σ H s Q q =>
  ha F σ H s _ fun va a H1 pa s1 => by
    show tSl r (tC va) tl th σ H1 Q
    refine S.hold (T := [(va, a)]) s1 (fun p hp => by simp at hp; simp [hp]) (fun B' hB => hc B' va a pa (hB (va, a) (by simp))) fun v d H' pd s' => q v d H' pd (s'.drop fun p hp => by
      simp at hp ⊢
      rcases hp with z | z <;> simp [z])
theorem ev_callP {f : List DD → DD → Prop} {E : XK} {ta : TA} {Ps : List DD → Prop} (h : EvA K B ta Γ Ps) (hf : ∀ ds, Ps ds → ∃ r, f ds r ∧ P r) : Ev K B (tCall (spD K f) [] E ta) Γ P := fun F σ H s Q q =>
  h F σ H s _ fun vs es H1 p l s1 => by
    obtain ⟨r, fr, pr⟩ := hf es p
    obtain ⟨G, s1⟩ := s1
    rw [List.append_nil]
    refine ⟨G, es, r, daL_zip l fun p hp => s1.tm p (by simp [hp]), s1.ex, fr, fun v G' H' g hv => q v r H' pr ?_⟩
    exact (S.grown (d := r) s1 g hv).drop fun p hp => by
      simp at hp ⊢
      rcases hp with e | e <;> simp [e]
theorem ev_callXP {f : List DD → Rs → Prop} {E : XK} {ta : TA} {Ps : List DD → Prop} (h : EvA K B ta Γ Ps) (hf : ∀ ds, Ps ds → ∃ r, f ds (.ok r) ∧ P r) : Ev K B (tCall (spX K f) [] E ta) Γ P := fun F σ H s Q q =>
  h F σ H s _ fun vs es H1 p l s1 => by
    obtain ⟨r, fr, pr⟩ := hf es p
    obtain ⟨G, s1⟩ := s1
    rw [List.append_nil]
    refine ⟨G, es, .ok r, daL_zip l fun p hp => s1.tm p (by simp [hp]), s1.ex, fr, fun d e v G' H' g hv => ?_, fun c e => by cases e⟩
    cases e
    exact q v r H' pr ((S.grown (d := r) s1 g hv).drop fun p hp => by
      simp at hp ⊢
      rcases hp with e | e <;> simp [e])
theorem nx_asgQ {τ : Type} {e : τ → DD} {C : τ → Prop} (h : Ev K B te Γ (fun d => ∃ b, C b ∧ d = e b)) (k : ∀ b, C b → Nx K B D.nx (Γ.set i (.dat (e b))) F) (hi : Nat.blt i Γ.length = true := by rfl) : Nx K B (tAsg te (gName i) D) Γ F :=
  nx_asgP h (fun d ⟨b, hb, ed⟩ => by subst ed; exact k b hb) hi
theorem nx_asgTQ {τ : Type} {e : τ → DD} {C : τ → Prop} {Γ2 : τ → List Sl} {vs : List Nat} (h : Ev K B te Γ (fun d => ∃ b, C b ∧ d = e b)) (ht : ∀ b, Tg K B g (e b) Γ (Γ2 b) vs) (k : ∀ b, C b → Nx K B D.nx (Γ2 b) F) : Nx K B (tAsg te g D) Γ F :=
  nx_asgG h (fun d ⟨b, hb, ed⟩ => by subst ed; exact ⟨_, _, ht b, k b hb⟩)
theorem nx_ifQ {τ : Type} {e : τ → Bool} {C : τ → Prop} (h : Ev K B te Γ (fun d => ∃ b, C b ∧ d = .bool (e b))) (k : ∀ b, C b → (e b = true → Nx K B (t D) Γ F) ∧ (e b = false → Nx K B (u D) Γ F)) : Nx K B (tIfS (tTest te) t u D) Γ F := fun σ H s =>
  h F σ H s _ fun v d H' ⟨b, hb, ed⟩ s' => by
    subst ed
    obtain ⟨G, z⟩ := id s'
    refine ⟨e b, (z.tm (v, .bool (e b)) (by simp)).bl_inv, ?_⟩
    obtain ⟨k1, k2⟩ := k b hb
    cases q : e b with
    | true => exact k1 q σ H' s'.pop
    | false => exact k2 q σ H' s'.pop
variable (K B) in
/-- a test on what is drawn -/
def EvTP (tt : TT) (Γ : List Sl) (Pb : Bool → Prop) : Prop := ∀ F σ H, S K B Γ F σ H → ∀ Q : Bool → Hp → Prop, (∀ b H', Pb b → S K B Γ F σ H' → Q b H') → tt σ H Q
theorem EvT.p {b : Bool} (h : EvT K B tt Γ b) : EvTP K B tt Γ (fun x => x = b) := fun F σ H s Q q => h F σ H s Q fun H' s' => q b H' rfl s'
theorem ep_test (h : Ev K B te Γ P) {Pq : Bool → Prop} (hp : ∀ d, P d → ∃ b, d = .bool b ∧ Pq b) : EvTP K B (tTest te) Γ Pq := fun F σ H s Q q =>
  h F σ H s _ fun v d H' pd s' => by
    obtain ⟨b, rfl, hb⟩ := hp d pd
    obtain ⟨G, z⟩ := id s'
    exact ⟨b, (z.tm (v, .bool b) (by simp)).bl_inv, q b H' hb s'.pop⟩
theorem ep_and {b : Bool} {Pq : Bool → Prop} (h : EvT K B tt Γ b) (h2 : b = true → EvTP K B tu Γ Pq) (hf : b = false → Pq false) : EvTP K B (tAnd tt tu) Γ Pq := fun F σ H s Q q => h F σ H s _ fun H' s' => by
  cases b with
  | true => exact h2 rfl F σ H' s' Q q
  | false => exact q false H' (hf rfl) s'
theorem nx_ifP {Pq : Bool → Prop} (h : EvTP K B tt Γ Pq) (k : ∀ b, Pq b → (b = true → Nx K B (t D) Γ F) ∧ (b = false → Nx K B (u D) Γ F)) : Nx K B (tIfS tt t u D) Γ F := fun σ H s =>
  h F σ H s _ fun b H' pb s' => by
    obtain ⟨k1, k2⟩ := k b pb
    cases b with
    | true => exact k1 rfl σ H' s'
    | false => exact k2 rfl σ H' s'
end
section
variable {α β γ σ ρ τ : Type}
def forP (body : σ → α → (Fl σ ρ → Prop) → Prop) : List α → σ → (Fl σ ρ → Prop) → Prop
  | [], s, q => q (.nx s)
  | x :: xs, s, q => body s x fun r => match r with
    | .nx s' => forP body xs s' q
    | .bk s' => q (.bk s')
    | .rt v => q (.rt v)
def whP (c : σ → (Bool → Prop) → Prop) (body : σ → (Fl σ ρ → Prop) → Prop) : Nat → σ → (Fl σ ρ → Prop) → Prop
  | 0, _, _ => False
  | n + 1, s, q => c s fun b => (b = true → body s fun r => match r with
    | .nx s' => whP c body n s' q
    | .bk s' => q (.bk s')
    | .rt v => q (.rt v)) ∧ (b = false → q (.nx s))
def pQ (f : σ → Prop) (g : ρ → Prop) : Fl σ ρ → Prop
  | .nx s => f s
  | .bk s => f s
  | .rt v => g v
theorem ps_t {b : Bool} {A C : Prop} (k : sel b A C) (h : b = true) : A := by subst h; exact k
theorem ps_f {b : Bool} {A C : Prop} (k : sel b A C) (h : b = false) : C := by subst h; exact k
variable {K : FK} {B : Bs} {Γ Γ' : List Sl} {F : Fra} {te ta tb to : TE} {tt : TT} {D : Ends} {t u v : TS} {i j : Nat} {g : TG} {e : α → DD}
theorem nx_forQ {wi : TI} {xs : List α} {body : σ → α → (Fl σ ρ → Prop) → Prop} {f : σ → Prop} {gg : ρ → Prop} {s0 : σ} (k : forP body xs s0 (pQ f gg)) (sl : σ → List Sl) (hi : EvI K B wi Γ (xs.map e)) (h0 : Γ = sl s0)
    (hs : ∀ (R Rb : σ → Prop) (q : Fl σ ρ → Prop), (∀ s, q (.nx s) → R s) → (∀ s, q (.bk s) → Rb s) → (∀ v, q (.rt v) → gg v) → ∀ x s F', (∀ s, Rb s → Nx K B D.nx (sl s) F') → body s x q →
      ∃ Γ2 vs, Tg K B g (e x) (sl s) Γ2 vs ∧ Nx K B (t { D with nx := fun σ H => ∃ s', R s' ∧ S K B (sl s') F' σ H, ct := fun σ H => ∃ s', R s' ∧ S K B (sl s') F' σ H, bk := D.nx }) Γ2 F')
    (hd : ∀ s, f s → Nx K B D.nx (sl s) F) : Nx K B (tFor wi g t D) Γ F :=
  nx_forR (fun l s => forP body l s (pQ f gg)) f sl hi s0 h0 k (fun _ k => k) (fun x rest s F' k hb => hs _ _ _ (fun _ k => k) (fun _ k => k) (fun _ k => k) x s F' hb k) hd
theorem nx_whQ {c : σ → (Bool → Prop) → Prop} {body : σ → (Fl σ ρ → Prop) → Prop} {f : σ → Prop} {gg : ρ → Prop} {n : Nat} {s0 : σ} (k : whP c body n s0 (pQ f gg)) (sl : σ → List Sl) (h0 : Γ = sl s0)
    (hs : ∀ (R : Nat → σ → Prop) (Rb : σ → Prop) (q : Fl σ ρ → Prop) m, (∀ s, q (.nx s) → R m s) → (∀ s, q (.bk s) → Rb s) → (∀ v, q (.rt v) → gg v) → ∀ s, (∀ s, Rb s → Nx K B D.nx (sl s) F) → c s (fun b => (b = true → body s q) ∧ (b = false → Rb s)) →
      ∃ b, EvT K B tt (sl s) b ∧ (b = true → Nx K B (t { D with nx := fun σ H => ∃ n' s', n' < m + 1 ∧ R n' s' ∧ S K B (sl s') F σ H, ct := fun σ H => ∃ n' s', n' < m + 1 ∧ R n' s' ∧ S K B (sl s') F σ H, bk := D.nx }) (sl s) F) ∧ (b = false → Nx K B D.nx (sl s) F))
    (hd : ∀ s, f s → Nx K B D.nx (sl s) F) : Nx K B (tWhile tt t D) Γ F :=
  nx_whR (fun n s => whP c body n s (pQ f gg)) sl n s0 h0 k fun n s k => by
    cases n with
    | zero => exact k.elim
    | succ m => exact hs (fun n s => whP c body n s (pQ f gg)) f _ m (fun _ k => k) (fun _ k => k) (fun _ k => k) s hd k
def jnP (b : Bool) (A C : (γ → Prop) → Prop) (f : γ → Prop) : Prop := sel b (A f) (C f)
theorem nx_ifJQ {b : Bool} {A C : (γ → Prop) → Prop} {f : γ → Prop} (k : jnP b A C f) (sl : γ → List Sl) (ht : EvT K B tt Γ b)
    (h1 : ∀ q : γ → Prop, b = true → A q → Nx K B (t { D with nx := fun σ H => ∃ j, q j ∧ S K B (sl j) F σ H }) Γ F)
    (h2 : ∀ q : γ → Prop, b = false → C q → Nx K B (v { D with nx := fun σ H => ∃ j, q j ∧ S K B (sl j) F σ H }) Γ F)
    (h3 : ∀ j, f j → Nx K B (u D) (sl j) F) : Nx K B (tCut (tIfS tt t v) u D) Γ F :=
  nx_cut f sl (nx_if ht (fun h => h1 f h (ps_t k h)) (fun h => h2 f h (ps_f k h))) h3
theorem nx_ifJP {Pq : Bool → Prop} {A C : (γ → Prop) → Prop} {f : γ → Prop} (k : ∀ b, Pq b → jnP b A C f) (sl : γ → List Sl) (ht : EvTP K B tt Γ Pq)
    (h1 : ∀ q : γ → Prop, A q → Nx K B (t { D with nx := fun σ H => ∃ j, q j ∧ S K B (sl j) F σ H }) Γ F)
    (h2 : ∀ q : γ → Prop, C q → Nx K B (v { D with nx := fun σ H => ∃ j, q j ∧ S K B (sl j) F σ H }) Γ F)
    (h3 : ∀ j, f j → Nx K B (u D) (sl j) F) : Nx K B (tCut (tIfS tt t v) u D) Γ F :=
  nx_cut f sl (nx_ifP ht fun b pb => ⟨fun h => h1 f (ps_t (k b pb) h), fun h => h2 f (ps_f (k b pb) h)⟩) h3
end
section
variable {K : FK} {B : Bs} {Γ : List Sl} {F : Fra} {te ta tb : TE} {D : Ends} {W : WX} {E : XK} {c : Str} {g : TG} {x : DD}
variable (K B) in
def EvE (te : TE) (Γ : List Sl) (E : XK) (c : Str) : Prop := ∀ F σ H, S K B Γ F σ H → ∀ Q : VK, (∀ H' F', S K B Γ F' σ H' → E (.ref (He.ga K c)) none H') → te σ H Q
theorem ee_call {f : List DD → Rs → Prop} {ta : TA} {ds : List DD} (h : EvAD K B ta Γ ds) (hf : f ds (.er c)) : EvE K B (tCall (spX K f) [] E ta) Γ E c := fun F σ H s Q q =>
  ex_call h hf F σ H s Q (fun v d H' e => by cases e) (fun c' H' e s' => by cases e; exact q H' _ s')
theorem ee_op1 {r : R2} (h : EvE K B ta Γ E c) : EvE K B (tOp r ta tb) Γ E c := fun F σ H s Q q => h F σ H s _ q
theorem ee_op2 {r : R2} (ha : EvD K B ta Γ x) (h : EvE K B tb Γ E c) : EvE K B (tOp r ta tb) Γ E c := fun F σ H s Q q => ha F σ H s _ fun v d H' _ s' => h _ σ H' s' _ q
theorem ee_cb {r : List V → Hp → VK → Prop} (h : EvE K B te Γ E c) : EvE K B (tCB r (tCons te tNil)) Γ E c := fun F σ H s Q q => h F σ H s _ q
theorem nx_dropE (h : EvE K B te Γ E c) (k : RaiD K B E c) : Nx K B (tDrop te D) Γ F := fun σ H s => h F σ H s _ fun H' F' s' => k Γ F' σ H' s'
theorem nx_asgE (h : EvE K B te Γ E c) (k : RaiD K B E c) : Nx K B (tAsg te g D) Γ F := fun σ H s => h F σ H s _ fun H' F' s' => k Γ F' σ H' s'
theorem nx_retE (h : EvE K B te Γ E c) (k : RaiD K B E c) : Nx K B (tRet te D) Γ F := fun σ H s => h F σ H s _ fun H' F' s' => k Γ F' σ H' s'
theorem nx_ifE {t u : TS} (h : EvE K B te Γ E c) (k : RaiD K B E c) : Nx K B (tIfS (tTest te) t u D) Γ F := fun σ H s => h F σ H s _ fun H' F' s' => k Γ F' σ H' s'
end
section
variable {α β : Type}
/-- try: f(v) of what comes, g(c) of an exception of the six classes -/
def tc (m : M α) (f : α → M β) (g : Str → M β) : M β := match m with
  | .ok a => f a
  | .er c => gd (memB c nsE) (g c)
  | .no => .no
theorem wp_tc {p : β → Prop} {r : Str → Prop} {m : M α} {f : α → M β} {g : Str → M β} (k : Wp p r (tc m f g)) : (∃ a, m = .ok a ∧ Wp p r (f a)) ∨ ∃ c, c ∈ nsE ∧ m = .er c ∧ Wp p r (g c) := by
  cases m with
  | ok a => exact .inl ⟨a, rfl, k⟩
  | er c =>
    obtain ⟨h, k⟩ := wp_gd (show Wp p r (gd (memB c nsE) (g c)) from k)
    exact .inr ⟨c, memB_iff.mp h, rfl, k⟩
  | no => exact k.elim
end
section
variable {K : FK} {B : Bs} {Γ : List Sl} {F : Fra} {te ta tb : TE} {tt : TT} {D : Ends} {t : TS} {g : TG} {x : DD} {i : Nat} {p q : Addr} {E : XK} {α β τ σ ρ : Type} {e : α → DD} {e' : β → DD}
theorem ev_ifK1 (ht : EvT K B tt Γ true) (ha : EvD K B ta Γ x) : EvD K B (tIf tt ta tb) Γ x := ev_ifP ht (fun _ => ha) (fun h => nomatch h)
theorem ev_ifK0 (ht : EvT K B tt Γ false) (hb : EvD K B tb Γ x) : EvD K B (tIf tt ta tb) Γ x := ev_ifP ht (fun h => nomatch h) (fun _ => hb)
@[irreducible] def drawOk (n : Int) : Bool := decide (0 < n ∧ n < 1073741824)
@[irreducible] def pickOk (n : Nat) : Bool := decide (0 < n ∧ n < 1000)
@[irreducible] def rowOk (n : Int) : Bool := decide (0 ≤ n ∧ n ≤ 100)
/-- loops over what is drawn -/
theorem ei_range1P {n : τ → Int} {C : τ → Prop} (h : Ev K B te Γ (fun d => ∃ b, C b ∧ d = .int (n b))) (hn : ∀ b, C b → r1Ok (n b) = true) : EvIP K B (iRng1 (tCons te tNil)) Γ (fun ds => ∃ b, C b ∧ ds = (intsF 0 (n b).toNat).map .int) := fun F σ H s R q =>
  h F σ H s _ fun v d H' ⟨b, hb, ed⟩ s' => by
    subst ed
    obtain ⟨G, s1⟩ := id s'
    have hv := (s1.tm (v, .int (n b)) (by simp)).int_inv
    have h1 := hn b hb
    unfold r1Ok at h1
    have h2 := of_decide_eq_true h1
    have hv' : v = .int (n b) := hv
    exact ⟨n b, by rw [hv'], h2.1, h2.2, q _ [] _ H' ⟨b, hb, rfl⟩ goes_range s'.pop⟩
theorem nx_forQP {wi : TI} {xs : τ → List α} {C : τ → Prop} {body : σ → α → (Fl σ ρ → Prop) → Prop} {f : σ → Prop} {gg : ρ → Prop} {s0 : σ} (k : ∀ b, C b → forP body (xs b) s0 (pQ f gg)) (sl : σ → List Sl) (hi : EvIP K B wi Γ (fun ds => ∃ b, C b ∧ ds = (xs b).map e)) (h0 : Γ = sl s0)
    (hs : ∀ (R Rb : σ → Prop) (q : Fl σ ρ → Prop), (∀ s, q (.nx s) → R s) → (∀ s, q (.bk s) → Rb s) → (∀ v, q (.rt v) → gg v) → ∀ x s F', (∀ s, Rb s → Nx K B D.nx (sl s) F') → body s x q →
      ∃ Γ2 vs, Tg K B g (e x) (sl s) Γ2 vs ∧ Nx K B (t { D with nx := fun σ H => ∃ s', R s' ∧ S K B (sl s') F' σ H, ct := fun σ H => ∃ s', R s' ∧ S K B (sl s') F' σ H, bk := D.nx }) Γ2 F')
    (hd : ∀ s, f s → Nx K B D.nx (sl s) F) : Nx K B (tFor wi g t D) Γ F := fun σ0 H0 S0' =>
  hi F σ0 H0 S0' _ fun J T0 ds H' ⟨b, hb, eds⟩ hJ s' => by
    subst eds
    let R : List α → σ → Prop := fun l s => forP body l s (pQ f gg)
    have k' : R (xs b) s0 := k b hb
    refine ⟨fun i m σ H => m = (xs b).length - i ∧ i ≤ (xs b).length ∧ ∃ s, R ((xs b).drop i) s ∧ S K B (sl s) (F.dats T0) σ H, ⟨(xs b).length, by simp, Nat.zero_le _, s0, by rw [List.drop_zero]; exact k', h0 ▸ s'⟩, ?_⟩
    rintro i m σ1 H1 ⟨rfl, hle, s, hR, s1⟩
    obtain ⟨j1, j2⟩ := hJ (sl s) _ σ1 H1 s1 (fun p hp => by simp [hp]) i
    have hbk : ∀ s, f s → Nx K B D.nx (sl s) (F.dats T0) := fun s hs' σ H z => hd s hs' σ H (z.drop fun p hp => by simp [hp])
    by_cases hlt : i < (xs b).length
    · obtain ⟨go, y⟩ := j1 (e (xs b)[i]) (by rw [List.getElem?_map, List.getElem?_eq_getElem hlt]; rfl)
      refine .inr ⟨go, fun σ' H' => ∃ s', R ((xs b).drop (i + 1)) s' ∧ S K B (sl s') (F.dats T0) σ' H', fun σ' H' ⟨s3, h3, h4⟩ => ⟨(xs b).length - (i + 1), by omega, rfl, hlt, s3, h3, h4⟩, fun x H2 hy => ?_⟩
      rw [List.drop_eq_getElem_cons hlt] at hR
      obtain ⟨Γ2, vs, ht, hn⟩ := hs (fun s => R ((xs b).drop (i + 1)) s) f _ (fun _ k => k) (fun _ k => k) (fun _ k => k) _ s (F.dats T0) hbk hR
      exact ht.2 _ x σ1 H2 (y x H2 hy) (by simp) _ fun σ2 H3 s3 _ => hn σ2 H3 s3.pop
    · have e1 : i = (xs b).length := by omega
      rw [e1, List.drop_length] at hR
      exact .inl ⟨j2 (by rw [List.length_map]; exact e1), hbk s hR σ1 H1 s1⟩
theorem ev_inLD {ds : List DD} (ha : EvD K B ta Γ x) (hb : EvD K B tb Γ (.list ds)) (sx : SeqAt.shaped x = true) (sy : SeqAt.shaped (.list ds) = true) : EvD K B (tOp (rInLD K false) ta tb) Γ (.bool (inD x ds)) :=
  ev_op ha hb fun v u G H hv hu e Q q => ⟨x, ds, dp_ex e hv sx, dp_ex e hu sy, sx, sy, q _ G H (Grow.refl e) (.bl _)⟩
theorem ev_niLD {ds : List DD} (ha : EvD K B ta Γ x) (hb : EvD K B tb Γ (.list ds)) (sx : SeqAt.shaped x = true) (sy : SeqAt.shaped (.list ds) = true) : EvD K B (tOp (rInLD K true) ta tb) Γ (.bool (!inD x ds)) :=
  ev_op ha hb fun v u G H hv hu e Q q => ⟨x, ds, dp_ex e hv sx, dp_ex e hu sy, sx, sy, q _ G H (Grow.refl e) (.bl _)⟩
/-- [drawn for .. in ..] -/
theorem mem_enc {C : τ → Prop} {en : τ → DD} : ∀ {l : List DD}, (∀ x ∈ l, ∃ b, C b ∧ x = en b) → ∃ ys : List τ, (∀ y ∈ ys, C y) ∧ l = ys.map en
  | [], _ => ⟨[], (fun _ h => nomatch h), rfl⟩
  | x :: l, h => by
    obtain ⟨b, hb, e⟩ := h x (by simp)
    obtain ⟨ys, h1, h2⟩ := mem_enc (l := l) fun z hz => h z (by simp [hz])
    exact ⟨b :: ys, fun y hy => by
      rcases List.mem_cons.mp hy with z | z
      · rw [z]; exact hb
      · exact h1 y z, by rw [e, h2]; rfl⟩
theorem nd_map {wi : TI} {us : List Nat} {xs : List α} {C : τ → Prop} {en : τ → DD} (hi : EvI K B wi Γ (xs.map e)) (hno : AllNo Γ us) (hl : szLt xs.length = true)
    (hs : ∀ x, x ∈ xs → ∃ Γ2 vs, Tg K B g (e x) Γ Γ2 vs ∧ (∀ v ∈ vs, v ∈ us) ∧ Ev K B te Γ2 (fun d => ∃ b, C b ∧ d = en b)) : Ev K B (tLc wi g tYes te us) Γ (fun d => ∃ ys : List τ, (ys.length = xs.length ∧ ∀ y ∈ ys, C y) ∧ d = .list (ys.map en)) :=
  EvN.ev (en_mapP (us := us) (fun d => ∃ b, C b ∧ d = en b) hi hno (by rw [List.length_map]; exact szLt_of hl) fun i d hd => by
    rw [List.getElem?_map] at hd
    cases hx : xs[i]? with
    | none => rw [hx] at hd; cases hd
    | some x =>
      rw [hx] at hd
      cases hd
      exact hs x (List.mem_of_getElem? hx)) fun ds ⟨h1, h2⟩ => by
    obtain ⟨ys, h3, h4⟩ := mem_enc h2
    refine ⟨ys, ⟨?_, h3⟩, by rw [h4]⟩
    rw [h4, List.length_map, List.length_map] at h1
    exact h1
end
end Ly

namespace Ly
open PySem PySem.Spec PyProof.Rows L2
section
variable {κ β : Type} [DecidableEq κ]
def getA (l : List (κ × β)) (k : κ) : Option β := (l.find? fun p => decide (p.1 = k)).map (·.2)
def hasA (l : List (κ × β)) (k : κ) : Bool := l.any fun p => decide (p.1 = k)
def putA (l : List (κ × β)) (k : κ) (v : β) : List (κ × β) := match hasA l k with
  | true => l.map fun p => if p.1 = k then (p.1, v) else p
  | false => l ++ [(k, v)]
theorem getA_has (l : List (κ × β)) (k : κ) : (getA l k).isSome = hasA l k := by
  unfold getA hasA
  induction l with
  | nil => rfl
  | cons p l ih =>
    rw [List.find?_cons, List.any_cons]
    by_cases h : p.1 = k
    · simp [h]
    · simp only [h, decide_false, Bool.false_or]; exact ih
end
/-- the kind of a key: as a nested key, as data -/
structure Kc {κ : Type} (nk : κ → NK) (e : κ → DD) (n : Nat) : Prop where
  data : ∀ x, (nk x).data = e x
  inj : ∀ x y, nk x = nk y → x = y
  dep : ∀ x, (nk x).depth ≤ n
  pl : ∀ x, plainK (nk x) = true
section
variable {α β γ : Type} {na : α → NK} {nb : β → NK} {nc : γ → NK} {ea : α → DD} {eb : β → DD} {ec : γ → DD} {n m : Nat}
def n2 (na : α → NK) (nb : β → NK) (p : α × β) : NK := .tup [na p.1, nb p.2]
def n3 (na : α → NK) (nb : β → NK) (nc : γ → NK) (p : α × β × γ) : NK := .tup [na p.1, nb p.2.1, nc p.2.2]
def nU (na : α → NK) (xs : List α) : NK := .tup (xs.map na)
theorem kcI : Kc NestedKey.num PyData.int 0 := ⟨fun _ => rfl, fun _ _ h => by cases h; rfl, fun _ => Nat.le_refl _, fun _ => rfl⟩
theorem Kc.up (h : Kc na ea n) (hn : n ≤ m) : Kc na ea m := ⟨h.data, h.inj, fun x => Nat.le_trans (h.dep x) hn, h.pl⟩
theorem kc2 (h1 : Kc na ea n) (h2 : Kc nb eb n) : Kc (n2 na nb) (e2 ea eb) (n + 1) := ⟨fun x => by simp [n2, e2, NestedKey.data, NestedKey.datas, h1.data, h2.data], fun x y h => by
  unfold n2 at h
  injection h with h
  injection h with a b
  injection b with b _
  exact Prod.ext (h1.inj _ _ a) (h2.inj _ _ b), fun x => by
  have a := h1.dep x.1
  have b := h2.dep x.2
  simp only [n2, NestedKey.depth, NestedKey.depthAll]; omega, fun x => by simp [n2, plainK, plainKs, h1.pl, h2.pl]⟩
theorem kc3 (h1 : Kc na ea n) (h2 : Kc nb eb n) (h3 : Kc nc ec n) : Kc (n3 na nb nc) (e3 ea eb ec) (n + 1) := ⟨fun x => by simp [n3, e3, NestedKey.data, NestedKey.datas, h1.data, h2.data, h3.data], fun x y h => by
  unfold n3 at h
  injection h with h
  injection h with a b
  injection b with b c
  injection c with c _
  exact Prod.ext (h1.inj _ _ a) (Prod.ext (h2.inj _ _ b) (h3.inj _ _ c)), fun x => by
  have a := h1.dep x.1
  have b := h2.dep x.2.1
  have c := h3.dep x.2.2
  simp only [n3, NestedKey.depth, NestedKey.depthAll]; omega, fun x => by simp [n3, plainK, plainKs, h1.pl, h2.pl, h3.pl]⟩
theorem map_inj (h : ∀ x y, na x = na y → x = y) : ∀ xs ys : List α, xs.map na = ys.map na → xs = ys
  | [], [], _ => rfl
  | [], _ :: _, q => by cases q
  | _ :: _, [], q => by cases q
  | x :: xs, y :: ys, q => by
    rw [List.map_cons, List.map_cons] at q
    injection q with a b
    rw [h x y a, map_inj h xs ys b]
theorem kcU (h1 : Kc na ea n) : Kc (nU na) (eU ea) (n + 1) := ⟨fun x => by
  simp only [nU, eU, NestedKey.data]
  congr 1
  induction x with
  | nil => rfl
  | cons a l ih => simp [NestedKey.datas, h1.data, ih], fun x y h => by
  unfold nU at h
  injection h with h
  exact map_inj h1.inj _ _ h, fun x => by
  have : NestedKey.depthAll (x.map na) ≤ n := by
    induction x with
    | nil => simp [NestedKey.depthAll]
    | cons a l ih =>
      have := h1.dep a
      simp only [List.map_cons, NestedKey.depthAll]; omega
  simp only [nU, NestedKey.depth]; omega, fun x => by
  simp only [nU, plainK]
  induction x with
  | nil => rfl
  | cons a l ih => simp [plainKs, h1.pl, ih]⟩
end
section
variable {κ β : Type} [DecidableEq κ] {nk : κ → NK} {e : κ → DD} {ev : β → DD} {n : Nat}
abbrev kdsOf (nk : κ → NK) (ev : β → DD) (l : List (κ × β)) : List (NK × DD) := l.map fun p => (nk p.1, ev p.2)
theorem get_kds (h : Kc nk e n) (l : List (κ × β)) (x : κ) : getA (kdsOf nk ev l) (nk x) = (getA l x).map ev := by
  induction l with
  | nil => rfl
  | cons p l ih =>
    unfold getA kdsOf at ih ⊢
    rw [List.map_cons, List.find?_cons, List.find?_cons]
    by_cases q : p.1 = x
    · have q' : nk p.1 = nk x := by rw [q]
      simp only [q', q, decide_true]; rfl
    · have q' : ¬ nk p.1 = nk x := fun z => q (h.inj _ _ z)
      simp only [q', q, decide_false]; exact ih
theorem has_kds (h : Kc nk e n) (l : List (κ × β)) (x : κ) : hasA (kdsOf nk ev l) (nk x) = hasA l x := by
  rw [← getA_has, ← getA_has, get_kds h, Option.isSome_map]
theorem put_kds (h : Kc nk e n) (l : List (κ × β)) (x : κ) (v : β) : putA (kdsOf nk ev l) (nk x) (ev v) = kdsOf nk ev (putA l x v) := by
  unfold putA
  rw [has_kds h]
  cases hasA l x with
  | true =>
    simp only [kdsOf, List.map_map]
    refine List.map_congr_left fun p _ => ?_
    simp only [Function.comp]
    by_cases q : p.1 = x
    · have q' : nk p.1 = nk x := by rw [q]
      rw [if_pos q, if_pos q']
    · have q' : ¬ nk p.1 = nk x := fun z => q (h.inj _ _ z)
      rw [if_neg q, if_neg q']
  | false => simp [kdsOf]
end
inductive DnOk (K : FK) (G : Hp) : KVs → List (NK × DD) → Prop
  | nil : DnOk K G [] []
  | cons {k : NK} {u v : V} {d : DD} {xs : KVs} {ds : List (NK × DD)} : Da K G u k.data → k.depth ≤ 8 → Da K G v d → DnOk K G xs ds → DnOk K G ((k, u, v) :: xs) ((k, d) :: ds)
section
variable {K : FK} {G G' : Hp}
theorem DnOk.mono (e : Ex G G') : ∀ {xs : KVs} {ds : List (NK × DD)}, DnOk K G xs ds → DnOk K G' xs ds
  | _, _, .nil => .nil
  | _, _, .cons h1 h2 h3 t => .cons (h1.mono e) h2 (h3.mono e) (t.mono e)
theorem DnOk.len : ∀ {xs : KVs} {ds : List (NK × DD)}, DnOk K G xs ds → xs.length = ds.length
  | _, _, .nil => rfl
  | _, _, .cons _ _ _ t => congrArg (· + 1) t.len
abbrev dkv (kds : List (NK × DD)) : List (DD × DD) := kds.map fun p => (p.1.data, p.2)
theorem DnOk.daD : ∀ {xs : KVs} {ds : List (NK × DD)}, DnOk K G xs ds → DaD K G xs (dkv ds)
  | _, _, .nil => .nil
  | _, _, .cons h1 h2 h3 t => .cons h1 h2 h3 t.daD
theorem DaD.dn : ∀ {xs : KVs} {es : List (DD × DD)} {ds : List (NK × DD)}, DaD K G xs es → es = dkv ds → DnOk K G xs ds
  | _, _, [], .nil, _ => .nil
  | _, _, _ :: _, .nil, h => by simp at h
  | _, _, [], .cons _ _ _ _, h => by simp at h
  | _, _, (k, d) :: ds, .cons h1 h2 h3 t, h => by
    simp only [List.map_cons, List.cons.injEq, Prod.mk.injEq] at h
    obtain ⟨⟨e1, e2⟩, e3⟩ := h
    have e4 := data_inj _ _ e1
    subst e2 e4
    exact .cons h1 h2 h3 (t.dn e3)
def putV (l : KVs) (k : NK) (u v : V) : KVs := match l.any fun x => decide (x.1 = k) with
  | true => l.map fun x => if x.1 = k then (x.1, x.2.1, v) else x
  | false => l ++ [(k, u, v)]
theorem DnOk.any {k : NK} : ∀ {xs : KVs} {ds : List (NK × DD)}, DnOk K G xs ds → (xs.any fun x => decide (x.1 = k)) = hasA ds k
  | _, _, .nil => rfl
  | _, _, .cons _ _ _ t => by
    unfold hasA
    rw [List.any_cons, List.any_cons, t.any]; rfl
theorem DnOk.map {k : NK} {v : V} {d : DD} (hv : Da K G v d) : ∀ {xs : KVs} {ds : List (NK × DD)}, DnOk K G xs ds → DnOk K G (xs.map fun x => if x.1 = k then (x.1, x.2.1, v) else x) (ds.map fun p => if p.1 = k then (p.1, d) else p)
  | _, _, .nil => .nil
  | _, _, .cons (k := k') h1 h2 h3 t => by
    rw [List.map_cons, List.map_cons]
    by_cases e : k' = k
    · simp only [e, if_true]
      exact .cons (e ▸ h1) (e ▸ h2) hv (t.map hv)
    · simp only [e, if_false]
      exact .cons h1 h2 h3 (t.map hv)
theorem DnOk.snoc {k : NK} {u v : V} {d : DD} (hq : Da K G u k.data) (hk : k.depth ≤ 8) (hv : Da K G v d) : ∀ {xs : KVs} {ds : List (NK × DD)}, DnOk K G xs ds → DnOk K G (xs ++ [(k, u, v)]) (ds ++ [(k, d)])
  | _, _, .nil => .cons hq hk hv .nil
  | _, _, .cons h1 h2 h3 t => .cons h1 h2 h3 (t.snoc hq hk hv)
theorem DnOk.put {k : NK} {u v : V} {d : DD} (hq : Da K G u k.data) (hk : k.depth ≤ 8) (hv : Da K G v d) {xs : KVs} {ds : List (NK × DD)} (h : DnOk K G xs ds) : DnOk K G (putV xs k u v) (putA ds k d) := by
  unfold putV putA
  rw [h.any]
  cases hasA ds k with
  | true => exact h.map hv
  | false => exact h.snoc hq hk hv
theorem putV_len (l : KVs) (k : NK) (u v : V) : (putV l k u v).length ≤ l.length + 1 := by
  unfold putV
  split <;> simp
theorem putV_plain {l : KVs} {k : NK} {u v : V} (h : ∀ p ∈ l, plainK p.1 = true) (hk : plainK k = true) : ∀ p ∈ putV l k u v, plainK p.1 = true := by
  unfold putV
  split
  · intro p hp
    obtain ⟨x, hx, rfl⟩ := List.mem_map.mp hp
    by_cases e : x.1 = k
    · rw [if_pos e]; exact h x hx
    · rw [if_neg e]; exact h x hx
  · intro p hp
    rcases List.mem_append.mp hp with z | z
    · exact h p z
    · rw [List.mem_singleton.mp z]; exact hk
end
def AllT (kds : List (NK × DD)) : Prop := ∀ p ∈ kds, ∃ ks, p.1 = .tup ks
def RelT (p : NK × V × V) (q : NK × Addr × Value) : Prop := p.1 = q.1 ∧ p.2.1 = .ref q.2.1 ∧ RelV p.2.2 q.2.2
section
variable {X : Cx} {pins : List (Addr × Obj)} {σ : L2.St} {H G : Hp} {s : Shared}
mutual
theorem key_is (I : Inv X pins σ H s) (e : Ex G H) : ∀ (k : NK) (v : V) (u : Value), Da X.K G v k.data → RelV v u → NestedIs s.heap k u
  | .none, v, u, h, r => by
    have := Da.non_inv h
    subst this
    cases (show u = Value.none from r)
    exact .none
  | .num i, v, u, h, r => by
    have := Da.int_inv h
    subst this
    obtain ⟨t, rfl⟩ := r
    exact .int i t
  | .text x, v, u, h, r => by
    have := Da.str_inv h
    subst this
    obtain ⟨t, rfl⟩ := r
    exact .text x t
  | .tup ks, v, u, h, r => by
    obtain ⟨a, xs, rfl, ha, hs⟩ := Da.tup_inv (show Da X.K G v (.tuple (NestedKey.datas ks)) from h)
    cases (show u = Value.ref a from r)
    obtain ⟨its, rv, ⟨o, ho, hc, n, hd⟩, _⟩ := I.tuple (ex_t e ha)
    exact .tup ho hc hd (by simpa using keys_are I e ks xs its hs rv)
theorem keys_are (I : Inv X pins σ H s) (e : Ex G H) : ∀ (ks : List NK) (vs : List V) (us : List Value), DaL X.K G vs (NestedKey.datas ks) → Vals vs us → NestedAll s.heap ks us
  | [], vs, us, h, r => by
    cases h
    cases r
    exact .nil
  | k :: ks, vs, us, h, r => by
    cases h with
    | cons h1 h2 =>
      cases r with
      | cons r1 r2 => exact .cons (key_is I e k _ _ h1 r1) (keys_are I e ks _ _ h2 r2)
end
theorem key_at (I : Inv X pins σ H s) (e : Ex G H) {k : NK} {q : Addr} (h : Da X.K G (.ref q) k.data) (hk : k.depth ≤ 8) : (nestedKind X.prog X.w).is s.heap k q := ⟨key_is I e k _ _ h rfl, hk⟩
theorem tup_ref {K : FK} {v : V} {ks : List NK} (h : Da K G v (NestedKey.tup ks).data) : ∃ a, v = .ref a := by
  obtain ⟨a, xs, rfl, _⟩ := Da.tup_inv (show Da K G v (.tuple (NestedKey.datas ks)) from h)
  exact ⟨a, rfl⟩
theorem to_addr {K : FK} (P : Program) (w : World) {l : KVs} {m : List (NK × Value × Value)} {kd : List (NK × DD)} (r : Paired RelD l m) : DnOk K G l kd → AllT kd → ∃ ys : List (NK × Addr × Value), Paired RelT l ys ∧ m.map (entD w) = ys.map (entryOfKey (nestedKind P w)) ∧ ys.map (·.1) = m.map (·.1) := by
  induction r generalizing kd with
  | nil => exact fun _ _ => ⟨[], .nil, rfl, rfl⟩
  | @cons p q ps qs h t ih =>
    intro hd ht
    cases hd with
    | @cons k u v d xs ds d1 d2 d3 dt =>
      obtain ⟨ys, r1, r2, r3⟩ := ih dt fun p hp => ht p (by simp [hp])
      obtain ⟨ks, hk⟩ := ht (k, d) (by simp)
      simp only at hk
      subst hk
      obtain ⟨a, rfl⟩ := tup_ref d1
      obtain ⟨e1, e2, e3⟩ := h
      have e2' : q.2.1 = Value.ref a := e2
      refine ⟨(q.1, a, q.2.2) :: ys, .cons ⟨e1, rfl, e3⟩ r1, ?_, ?_⟩
      · rw [List.map_cons, List.map_cons, r2]
        unfold entD entryOfKey
        rw [e2']; rfl
      · rw [List.map_cons, List.map_cons, r3]
theorem dn_at (I : Inv X pins σ H s) (e : Ex G H) {a : Addr} {ep : Nat} {kvs : KVs} {kds : List (NK × DD)} (ha : H a = some (ddO a ep kvs)) (hk : DnOk X.K G kvs kds) (ht : AllT kds) :
    kvs.length ≤ sizeLine ∧ (a == sysModules) = false ∧ (∀ p ∈ kvs, plainK p.1 = true) ∧ ∃ ys : List (NK × Addr × Value), Paired RelT kvs ys ∧ s.heap.DictOfH (nestedKind X.prog X.w) a ys := by
  have raw : RawD a ep kvs s.heap := (I.hok a _ ha).1
  have pl := raw.2.2.1
  obtain ⟨z, y, xs, r, o, es, h1, h2, h3, h4, h5⟩ := rawD_at (X := X) (H := H) raw
  obtain ⟨ys, r1, r2, r3⟩ := to_addr X.prog X.w r hk ht
  refine ⟨z, y, pl, ys, r1, o, es, ep, h1, h2, h3, by rw [h4, r2], ?_, by rw [r3]; exact h5⟩
  have all : ∀ {l : KVs} {m : List (NK × Addr × Value)} {kd : List (NK × DD)}, Paired RelT l m → DnOk X.K G l kd → ∀ x ∈ m, (nestedKind X.prog X.w).is s.heap x.1 x.2.1 := by
    intro l m kd q
    induction q generalizing kd with
    | nil => intro _ x hx; exact nomatch hx
    | @cons p q ps qs hq t ih =>
      intro hd x hx
      cases hd with
      | cons d1 d2 d3 dt =>
        rcases List.mem_cons.mp hx with ee | hx
        · subst ee
          obtain ⟨q1, q2, q3⟩ := hq
          simp only at q1 q2
          rw [← q1]
          exact key_at I e (q2 ▸ d1) d2
        · exact ih dt x hx
  exact all r1 hk
theorem dn_get {K : FK} {k : NK} : ∀ {l : KVs} {m : List (NK × Addr × Value)} {kd : List (NK × DD)}, Paired RelT l m → DnOk K G l kd →
    (∀ d, getA kd k = some d → ∃ p v, atKey m k = some p ∧ RelV v p.2 ∧ Da K G v d) ∧ (getA kd k = none → atKey m k = none) := by
  intro l m kd r
  induction r generalizing kd with
  | nil =>
    intro h
    cases h
    exact ⟨fun d q => by simp [getA] at q, fun _ => rfl⟩
  | @cons p q ps qs hq t ih =>
    intro h
    cases h with
    | @cons k' u' v' d' xs ds d1 d2 d3 dt =>
      obtain ⟨q1, q2, q3⟩ := hq
      obtain ⟨i1, i2⟩ := ih dt
      simp only at q1
      by_cases e : k' = k
      · have e1 : atKey (q :: qs) k = some q.2 := by simp [atKey, ← q1, e]
        refine ⟨fun d hd => ?_, fun hn => ?_⟩
        · simp [getA, e] at hd
          subst hd
          exact ⟨q.2, v', e1, q3, d3⟩
        · simp [getA, e] at hn
      · have e1 : atKey (q :: qs) k = atKey qs k := by simp [atKey, ← q1, e]
        have e2 : getA ((k', d') :: ds) k = getA ds k := by simp [getA, e]
        rw [e1, e2]
        exact ⟨i1, i2⟩
theorem dn_some {K : FK} {k : NK} {l : KVs} {m : List (NK × Addr × Value)} {kd : List (NK × DD)} (r : Paired RelT l m) (h : DnOk K G l kd) : (atKey m k).isSome = hasA kd k := by
  rw [← getA_has]
  obtain ⟨h1, h2⟩ := dn_get (k := k) r h
  cases q : getA kd k with
  | none => rw [h2 q]; rfl
  | some d =>
    obtain ⟨p, v, e, _⟩ := h1 d q
    rw [e]; rfl
theorem dn_put {k : NK} {q : Addr} {v : V} {u : Value} (rv : RelV v u) {l : KVs} {m : List (NK × Addr × Value)} (r : Paired RelT l m) :
    Paired RelT (putV l k (.ref q) v) (storedH m k q u) := by
  have any : ∀ {l : KVs} {m : List (NK × Addr × Value)}, Paired RelT l m → (l.any fun x => decide (x.1 = k)) = (atKey m k).isSome := by
    intro l m r
    induction r with
    | nil => rfl
    | @cons p q ps qs hq t ih =>
      rw [List.any_cons, ih]
      by_cases e : q.1 = k
      · simp [atKey, hq.1, e]
      · simp [atKey, hq.1, e]
  unfold putV storedH
  rw [any r]
  cases e : (atKey m k).isSome with
  | true =>
    simp only [if_true]
    clear any e
    induction r with
    | nil => exact .nil
    | @cons p q ps qs hq t ih =>
      rw [List.map_cons, List.map_cons]
      refine .cons ?_ ih
      unfold putAt
      by_cases e : q.1 = k
      · have e' : p.1 = k := hq.1.trans e
        rw [if_pos e', if_pos e]
        exact ⟨hq.1, hq.2.1, rv⟩
      · have e' : ¬ p.1 = k := fun z => e (hq.1.symm.trans z)
        rw [if_neg e', if_neg e]
        exact hq
  | false =>
    simp only [Bool.false_eq_true, if_false]
    exact Paired.snoc r ⟨rfl, rfl, rv⟩
/-- back from the library's -/
theorem raw_of {P : Program} {w : World} {h : Heap} {a : Addr} {kvs : KVs} {ys : List (NK × Addr × Value)} (hz : kvs.length ≤ sizeLine) (hs : (a == sysModules) = false) (pl : ∀ p ∈ kvs, plainK p.1 = true) (r : Paired RelT kvs ys) (d : h.DictOfH (nestedKind P w) a ys) : ∃ ep, RawD a ep kvs h := by
  obtain ⟨o, es, ep, h1, h2, h3, h4, h6, h5⟩ := d
  refine ⟨ep, hz, hs, pl, ys.map fun y => (y.1, .ref y.2.1, y.2.2), ?_, o, es, w, h1, h2, h3, ?_, ?_⟩
  · clear h4 h5 h6 hz pl
    induction r with
    | nil => exact .nil
    | @cons p q ps qs hq t ih => exact .cons ⟨hq.1, by rw [hq.2.1]; rfl, hq.2.2⟩ ih
  · rw [h4, List.map_map]; rfl
  · rw [List.map_map]; exact h5
end
def dnK (K : FK) (H : Hp) (a q : Addr) (k : NK) (ep : Nat) (kvs : KVs) (kds : List (NK × DD)) (G : Hp) : Prop := Ex G H ∧ H a = some (ddO a ep kvs) ∧ DnOk K G kvs kds ∧ AllT kds ∧ Da K G (.ref q) k.data ∧ k.depth ≤ 8 ∧ plainK k = true
def rInN (K : FK) (neg : Bool) : R2 := fun y x H Q => ∃ a q k ep kvs kds G, y = .ref q ∧ x = .ref a ∧ dnK K H a q k ep kvs kds G ∧ Q (.bl (if neg then !hasA kds k else hasA kds k)) H
def rIxN (K : FK) : R2 := fun x y H Q => ∃ a q k ep kvs kds G d, x = .ref a ∧ y = .ref q ∧ dnK K H a q k ep kvs kds G ∧ getA kds k = some d ∧ ∀ v, Da K G v d → Q v H
def rSetN (K : FK) : TSet := fun x y v H Q => ∃ a q k ep kvs kds G, x = .ref a ∧ y = .ref q ∧ dnK K H a q k ep kvs kds G ∧ kvs.length < sizeLine ∧ ∀ ep', Q (upd H a (ddO a ep' (putV kvs k (.ref q) v)))
section
variable {X : Cx}
theorem op_inN {n : Nat} (hr : Room n X.A) : OpR X (compareOp .In) (rInN X.K false) := by
  intro pins s σ H y x v u Q I ry rx h
  obtain ⟨a, q, k, ep, kvs, kds, G, rfl, rfl, ⟨e, ha, hk, ht, hq, hd, _⟩, z⟩ := h
  cases ry
  cases rx
  obtain ⟨_, hs, _, xs, r, dd⟩ := dn_at I e ha hk ht
  have hu : X.A.units + 65 < cLine := by have := hr.un; omega
  refine wpAny_in_heap (knd := nestedKind X.prog X.w) (by show X.A.in1.units + 8 < cLine; rw [Around.in1_units]; omega) (key_at I e hq hd) hs dd ?_
  rw [dn_some r hk]
  exact ⟨.bl _, H, I.tok _, rfl, z⟩
theorem op_niN {n : Nat} (hr : Room n X.A) : OpR X (compareOp .NotIn) (rInN X.K true) := by
  intro pins s σ H y x v u Q I ry rx h
  obtain ⟨a, q, k, ep, kvs, kds, G, rfl, rfl, ⟨e, ha, hk, ht, hq, hd, _⟩, z⟩ := h
  cases ry
  cases rx
  obtain ⟨_, hs, _, xs, r, dd⟩ := dn_at I e ha hk ht
  have hu : X.A.units + 65 < cLine := by have := hr.un; omega
  refine wpAny_notIn_heap (knd := nestedKind X.prog X.w) (by show X.A.in1.units + 8 < cLine; rw [Around.in1_units]; omega) (key_at I e hq hd) hs dd ?_
  rw [dn_some r hk]
  exact ⟨.bl _, H, I.tok _, rfl, z⟩
theorem set_dn {n : Nat} (hr : Room n X.A) : PSet X (rSetN X.K) := by
  intro pins s σ H x y v ov iv u Q I rx ry rv h
  obtain ⟨a, q, k, ep, kvs, kds, G, rfl, rfl, ⟨e, ha, hk, ht, hq, hd, hp⟩, hl, z⟩ := h
  cases ry
  cases rx
  obtain ⟨hz, hs, pl, xs, r, dd⟩ := dn_at I e ha hk ht
  have hu : X.A.units + 65 < cLine := by have := hr.un; omega
  refine wpAny_setItem_heap (knd := nestedKind X.prog X.w) (hsz := by rw [← Paired.length r]; exact hz) (by show X.A.in1.units + 8 < cLine; rw [Around.in1_units]; omega) (key_at I e hq hd) dd fun h' dd' hs' => ?_
  obtain ⟨o, es, ep0, h1, _⟩ := id dd'
  obtain ⟨ep', rw'⟩ := raw_of (by have := putV_len kvs k (.ref q) v; omega) hs (putV_plain pl hp) (dn_put rv r) dd'
  exact ⟨_, d_write I (by rw [ha]; exact True.intro) hs' ⟨o, h1⟩ (ddO_ok rw'), z ep'⟩
end
section
variable {X : Cx} {o i : Expr} {td ty : TE} {pos : Pos}
def tGetN (K : FK) (td ty : TE) : TE := tOp (rIxN K) td ty
theorem pe_getN {n : Nat} (hr : Room n X.A) (ho : PE X o td) (hi : PE X i ty) (hs : NoSl i) : PE X (.Subscript o i pos) (tGetN X.K td ty) := by
  refine ⟨fun pins s σ H Q I h => ?_⟩
  refine subD_of PySem.F.slot_dict_getitem.lookup hs (thn (ho.run pins s σ H _ I h) fun u s1 ⟨x, H1, I1, rx, q1⟩ => thn (hi.run pins s1 σ H1 _ I1 q1) fun iv s2 ⟨y, H2, I2, ry, hh⟩ => ?_)
  obtain ⟨a, q, k, ep, kvs, kds, G, d, rfl, rfl, ⟨e, ha, hk, ht, hq, hd, _⟩, hg, z⟩ := hh
  cases ry
  cases rx
  obtain ⟨_, hs, _, xs, r, dd⟩ := dn_at I2 e ha hk ht
  have hu : X.A.units + 65 < cLine := by have := hr.un; omega
  obtain ⟨p, v, hp, rv, hv⟩ := (dn_get r hk).1 d hg
  exact ⟨dd.typeIs, wpAny_getItem_heap (knd := nestedKind X.prog X.w) (by show X.A.in1.units + 8 < cLine; rw [Around.in1_units]; omega) (key_at I2 e hq hd) dd hp ⟨v, H2, I2.tok _, rv, z v hv⟩⟩
end
def tNewN : TE := fun _ H Q => ∀ p, H p = none → Q (.ref p) (upd H p (ddO p 0 []))
theorem rawN_empty (w : World) (h : Heap) (hb : sysModules < h.objs.size) : RawD h.objs.size 0 [] (h.push { cls := .type "dict", data := .dict #[] }) :=
  ⟨Nat.zero_le _, beq_eq_false_iff_ne.mpr (Ne.symm (Nat.ne_of_lt hb)), (by intro p hp; cases hp), [], .nil, _, #[], w, Heap.get?_push_size _ rfl, ⟨rfl, rfl, rfl⟩, rfl, rfl, List.nodup_nil⟩
theorem pe_newN {X : Cx} {pos : Pos} : PE X (.Dict [] [] pos) tNewN := ⟨fun pins s σ H Q I h =>
  wpAny_Dict_empty ⟨.ref s.heap.objs.size, _, I.laid (a := s.heap.objs.size) (o := ddO s.heap.objs.size 0 []) (t' := s.toks) (fun _ _ q => Heap.get?_push_of_some _ q) (Nat.le_refl _) (ddO_ok (rawN_empty X.w s.heap I.big)), rfl, h _ (I.hok.fresh (Nat.le_refl _))⟩⟩
def tDispN (K : FK) (tk tv : TE) : TE := fun σ H Q => ∀ p, H p = none → tk σ (upd H p (ddO p 0 [])) fun y H1 => tv σ H1 fun v H2 => ∃ q k G, y = .ref q ∧ Ex G H2 ∧ (∃ ep0, H2 p = some (ddO p ep0 [])) ∧ Da K G (.ref q) k.data ∧ k.depth ≤ 8 ∧ plainK k = true ∧ ∀ ep, Q (.ref p) (upd H2 p (ddO p ep [(k, .ref q, v)]))
theorem pe_dispN {X : Cx} {pos : Pos} {n : Nat} {ek ev : Expr} {tk tv : TE} (hr : Room n X.A) (hk : PE X ek tk) (hv : PE X ev tv) : PE X (.Dict [some ek] [ev] pos) (tDispN X.K tk tv) := by
  refine ⟨fun pins s σ H Q I h => ?_⟩
  have hn := I.hok.fresh (Nat.le_refl s.heap.objs.size)
  have I1 := I.laid (a := s.heap.objs.size) (o := ddO s.heap.objs.size 0 []) (h' := s.heap.push { cls := .type "dict", data := .dict #[] }) (t' := s.toks) (fun _ _ q => Heap.get?_push_of_some _ q) (Nat.le_refl _) (ddO_ok (rawN_empty X.w s.heap I.big))
  have hu : X.A.units + 65 < cLine := by have := hr.un; omega
  have hl := pairTrees_length [some ek] [ev] X.env pos rfl rfl
  have h0 : pairTrees [some ek] [ev] X.env pos ≠ [] := fun e => by
    rw [e] at hl
    cases hl
  have h15 : (pairTrees [some ek] [ev] X.env pos).length ≤ 15 := by
    rw [hl]; show 1 ≤ 15; omega
  rw [arm_eval_Dict, zip_pairTrees [some ek] [ev] X.env pos rfl rfl, dictDisplay_pairs _ h0 (by omega)]
  refine wpAny_bind (wpAny_standAt (wpAny_bind (wpAny_subDictH (knd := nestedKind X.prog X.w) (Q := fun d s' => wpAny (model X.prog X.w) X.A (pure (Value.ref d)) (EP X pins σ Q) X.xe s') (by show X.A.units + 8 < cLine; omega) h15 ?_)))
  refine pairTrees_cons_walk (thn (hk.run pins _ σ _ _ I1 (h _ hn)) fun u s1 ⟨y, H1, I1', ry, q1⟩ => thn (hv.run pins s1 σ H1 _ I1' q1) fun w2 s2 ⟨v, H2, I2, rv, q, k, G, ey, e, ⟨ep0, hp⟩, hq, hd, hpl, z⟩ => pairTrees_nil_walk ?_)
  subst ey
  cases ry
  obtain ⟨hz, hs, _, xs, r, dd⟩ := dn_at (G := G) I2 e hp .nil (fun _ z => nomatch z)
  cases r
  refine ⟨[(k, q, w2)], ⟨rfl, rfl, key_at I2 e hq hd, trivial⟩, dd, fun h' tk dd' hs' => ?_⟩
  obtain ⟨o, es, _, h1, _⟩ := id dd'
  obtain ⟨ep', rw'⟩ := raw_of (kvs := [(k, .ref q, v)]) (by show 1 ≤ sizeLine; rw [sizeLine_eq]; omega) hs (fun p hp => by rw [List.mem_singleton.mp hp]; exact hpl) (.cons ⟨rfl, rfl, rv⟩ .nil) dd'
  exact wpAny_pure ⟨.ref s.heap.objs.size, _, d_write I2 (by rw [hp]; exact True.intro) hs' ⟨o, h1⟩ (ddO_ok rw'), rfl, z ep'⟩
def dnR (p : Addr) (kds : List (NK × DD)) : Res where
  as := [p]
  ok := fun K G v H => v = .ref p ∧ ∃ ep kvs, H p = some (ddO p ep kvs) ∧ DnOk K G kvs kds
  mono := fun e ⟨h1, ep, kvs, h2, h3⟩ => ⟨h1, ep, kvs, h2, h3.mono e⟩
  loc := fun e ⟨h1, ep, kvs, h2, h3⟩ => ⟨h1, ep, kvs, e p _ (by simp) h2, h3⟩
  dom := fun ⟨_, ep, kvs, h2, _⟩ a ha => by
    have e : a = p := by simpa using ha
    subst e; exact ⟨_, h2⟩
section
variable {K : FK} {B : Bs} {Γ : List Sl}
variable (K B) in
/-- the dict at p is so in each state that holds T0 -/
def DcAt (Γ : List Sl) (p : Addr) (T0 : List (V × DD)) (kds : List (NK × DD)) : Prop := ∀ F σ H G, S0 K B Γ F σ H G → (∀ q ∈ T0, q ∈ F.T) → ∃ ep kvs, H p = some (ddO p ep kvs) ∧ DnOk K G kvs kds
variable (K B) in
/-- td yields a dict, an own one or data -/
def EvDc (td : TE) (Γ : List Sl) (kds : List (NK × DD)) : Prop := ∀ F σ H, S K B Γ F σ H → ∀ Q : VK, (∀ p T0 H', DcAt K B Γ p T0 kds → S K B Γ (F.dats T0) σ H' → Q (.ref p) H') → td σ H Q
theorem edc_own {j : Nat} {p : Addr} {kds : List (NK × DD)} (hj : Γ[j]? = some (.own (dnR p kds))) : EvDc K B (tVar j) Γ kds := fun F σ H s Q q => by
  obtain ⟨G, z⟩ := id s
  obtain ⟨v, hv, rfl, _⟩ := z.own hj
  refine ⟨_, hv, q p [] H (fun F σ H G z _ => ?_) s⟩
  obtain ⟨v, _, _, h⟩ := z.own hj
  exact h
theorem edc_dat {td : TE} {kds : List (NK × DD)} (h : EvD K B td Γ (.dict (dkv kds))) : EvDc K B td Γ kds := fun F σ H s Q q =>
  h F σ H s _ fun v d H' e s' => by
    subst e
    obtain ⟨G, z⟩ := id s'
    obtain ⟨a, ep, kvs, rfl, _, _⟩ := (z.tm (v, .dict (dkv kds)) (by simp)).dct_inv
    refine q a [(.ref a, .dict (dkv kds))] H' (fun F2 σ2 H2 G2 z2 hT => ?_) s'
    obtain ⟨a2, ep2, kvs2, e2, h1, h2⟩ := (z2.tm (.ref a, .dict (dkv kds)) (hT _ (by simp))).dct_inv
    cases e2
    exact ⟨ep2, kvs2, z2.ex _ _ h1, h2.dn rfl⟩
end
section
variable {K : FK} {B : Bs} {Γ : List Sl} {F : Fra} {D : Ends} {td tk tv te : TE} {j : Nat} {p : Addr} {κ β : Type} [DecidableEq κ] {nk : κ → NK} {ek : κ → DD} {ev : β → DD} {l m : List (κ × β)} {x : κ} {y : β} {n : Nat}
/-- a key: tuples alone -/
def IsTup (nk : κ → NK) : Prop := ∀ x, ∃ ks, nk x = .tup ks
theorem IsTup.all (ht : IsTup nk) (l : List (κ × β)) : AllT (kdsOf nk ev l) := fun q hq => by
  obtain ⟨z, _, rfl⟩ := List.mem_map.mp hq
  exact ht z.1
theorem Kc.ref {G : Hp} {v : V} (h : Kc nk ek n) (ht : IsTup nk) (q : Da K G v (ek x)) : ∃ a, v = .ref a ∧ Da K G (.ref a) (nk x).data := by
  obtain ⟨ks, hks⟩ := ht x
  rw [← h.data] at q
  rw [hks] at q
  obtain ⟨a, xs, rfl, _⟩ := Da.tup_inv (show Da K G v (.tuple (NestedKey.datas ks)) from q)
  exact ⟨a, rfl, by rw [hks]; exact q⟩
theorem et_inN {neg : Bool} (h : Kc nk ek n) (ht : IsTup nk) (hx : EvD K B tk Γ (ek x)) (hd : EvDc K B td Γ (kdsOf nk ev l)) (hn : n ≤ 8 := by decide) : EvD K B (tOp (rInN K neg) tk td) Γ (.bool (if neg then !hasA l x else hasA l x)) := fun F σ H s Q q =>
  hx F σ H s _ fun u d H1 e s1 => by
    subst e
    refine hd _ σ H1 s1 _ fun p T0 H2 at0 s2 => ?_
    obtain ⟨G, z⟩ := id s2
    obtain ⟨ep, kvs, hp, hk⟩ := at0 _ _ _ _ z (fun q hq => by simp [hq])
    obtain ⟨a, rfl, ha⟩ := h.ref ht (z.tm (u, ek x) (by simp))
    refine ⟨p, a, nk x, ep, kvs, _, G, rfl, rfl, ⟨z.ex, hp, hk, ht.all l, ha, Nat.le_trans (h.dep x) hn, h.pl x⟩, ?_⟩
    rw [has_kds h]
    exact q _ _ H2 rfl ((s2.drop fun q hq => by simp [hq]).c fun _ => .bl _)
theorem et_getN (h : Kc nk ek n) (ht : IsTup nk) (hd : EvDc K B td Γ (kdsOf nk ev l)) (hx : EvD K B tk Γ (ek x)) (hg : getA l x = some y) (hn : n ≤ 8 := by decide) : EvD K B (tGetN K td tk) Γ (ev y) := fun F σ H s Q q =>
  hd F σ H s _ fun p T0 H1 at0 s1 => by
    refine hx _ σ H1 s1 _ fun u d H2 e s2 => ?_
    subst e
    obtain ⟨G, z⟩ := id s2
    obtain ⟨ep, kvs, hp, hk⟩ := at0 _ _ _ _ z (fun q hq => by simp [hq])
    obtain ⟨a, rfl, ha⟩ := h.ref ht (z.tm (u, ek x) (by simp))
    refine ⟨p, a, nk x, ep, kvs, _, G, ev y, rfl, rfl, ⟨z.ex, hp, hk, ht.all l, ha, Nat.le_trans (h.dep x) hn, h.pl x⟩, by rw [get_kds h, hg]; rfl, fun v' hv' => q v' _ H2 rfl ?_⟩
    exact (S.grown (d := ev y) z (Grow.refl z.ex) hv').drop fun p hp => by
      simp at hp ⊢
      rcases hp with ee | ee <;> simp [ee]
theorem nx_putN (h : Kc nk ek n) (ht : IsTup nk) (hj : Γ[j]? = some (.own (dnR p (kdsOf nk ev l)))) (hy : EvD K B tv Γ (ev y)) (hx : EvD K B tk Γ (ek x)) (hz : szLt l.length = true) (hm : putA l x y = m) (k : Nx K B D.nx (Γ.set j (.own (dnR p (kdsOf nk ev m)))) F) (hn : n ≤ 8 := by decide) :
    Nx K B (tAsg tv (gSub (tVar j) tk (rSetN K)) D) Γ F := fun σ H s => by
  subst hm
  refine hy F σ H s _ fun v1 d1 H1 e1 s1 => ?_
  subst e1
  obtain ⟨G1, z1⟩ := id s1
  obtain ⟨v0, hv0, e0, _⟩ := z1.own hj
  subst e0
  refine ⟨.ref p, hv0, ?_⟩
  refine hx _ σ H1 s1 _ fun u d H2 e s2 => ?_
  subst e
  obtain ⟨G, z⟩ := s2
  obtain ⟨v, hv, rfl, ep, kvs, hp, hk⟩ := z.own hj
  obtain ⟨a, rfl, ha⟩ := h.ref ht (z.tm (u, ek x) (by simp))
  have hd : (nk x).depth ≤ 8 := Nat.le_trans (h.dep x) hn
  refine ⟨p, a, nk x, ep, kvs, _, G, rfl, rfl, ⟨z.ex, hp, hk, ht.all l, ha, hd, h.pl x⟩, sz_lt (by rw [hk.len, List.length_map]; exact szLt_of hz), fun ep' => ?_⟩
  have hmm : p ∈ ownAt Γ (Fra.dat (F.dat v1 (ev y)) (.ref a) (ek x)) j := by rw [ownAt_slot hj]; simp [Sl.as, dnR]
  have hg : G p = none := (z.mine j p hmm).1
  have ok' := hk.put ha hd (z.tm (v1, ev y) (by simp))
  rw [put_kds h] at ok'
  have z3 := z.updOwn (r' := dnR p (kdsOf nk ev (putA l x y))) (T' := F.T) hj (Grow.put (o := ddO p ep' (putV kvs (nk x) (.ref a) v1)) z.ex hg (by simp [dnR])) rfl hv ⟨rfl, _, _, upd_same, ok'⟩ fun q hq => z.tm q (by simp [hq])
  exact k _ _ ⟨G, z3⟩
/-- {} and {k: v} as new own things -/
theorem er_newN : EvR K B tNewN Γ (fun v r => ∃ p, v = .ref p ∧ p ∉ B.L ∧ r = dnR p []) := fun F σ H ⟨G, s⟩ Q q p hp =>
  q _ _ _ ⟨p, rfl, s.notLent hp, rfl⟩ ⟨G, s.newRes (Grow.free s.ex hp) ⟨rfl, 0, [], upd_same, .nil⟩ fun a ha => by
    have e : a = p := by simpa [dnR] using ha
    rw [e]; exact hp⟩
theorem er_dispN (h : Kc nk ek n) (ht : IsTup nk) (hx : EvD K B tk Γ (ek x)) (hy : EvD K B tv Γ (ev y)) (hn : n ≤ 8 := by decide) : EvR K B (tDispN K tk tv) Γ (fun v r => ∃ p, v = .ref p ∧ p ∉ B.L ∧ r = dnR p (kdsOf nk ev [(x, y)])) := fun F σ H ⟨G, s⟩ Q q p hp => by
  have s1 : S0 K B Γ (F.res1 (.ref p) (dnR p [])) σ (upd H p (ddO p 0 [])) G := s.newRes (Grow.free s.ex hp) ⟨rfl, 0, [], upd_same, .nil⟩ fun a ha => by
    have e : a = p := by simpa [dnR] using ha
    rw [e]; exact hp
  refine hx _ σ _ ⟨G, s1⟩ _ fun u d1 H1 e1 s2 => hy _ σ H1 s2 _ fun v d2 H2 e2 s3 => ?_
  subst e1 e2
  obtain ⟨G3, z⟩ := s3
  obtain ⟨_, ep, kvs, hx', hk⟩ := z.xm (.ref p, dnR p []) (by simp)
  cases hk
  obtain ⟨a, rfl, ha⟩ := h.ref ht (z.tm (u, ek x) (by simp))
  have hd : (nk x).depth ≤ 8 := Nat.le_trans (h.dep x) hn
  refine ⟨a, nk x, G3, rfl, z.ex, ⟨ep, hx'⟩, ha, hd, h.pl x, fun ep' => ?_⟩
  have hm : p ∈ ownAt Γ (Fra.res1 ⟨(v, ev y) :: (.ref a, ek x) :: F.T, F.X⟩ (.ref p) (dnR p [])) (Γ.length + F.X.length) := by rw [ownAt_res, if_pos rfl]; simp [dnR]
  have hg := (z.mine _ p hm).1
  exact q _ _ _ ⟨p, rfl, s.notLent hp, rfl⟩ ⟨G3, z.updX (F := ⟨(v, ev y) :: (.ref a, ek x) :: F.T, F.X⟩) (r' := dnR p (kdsOf nk ev [(x, y)])) (T' := F.T) (Grow.put z.ex hg (by simp [dnR])) rfl ⟨rfl, _, _, upd_same, .cons ha hd (z.tm (v, ev y) (by simp)) .nil⟩ fun q hq => z.tm q (by simp [hq])⟩
theorem nx_asgR {i : Nat} {r : Addr → Res} (h : EvR K B te Γ (fun v q => ∃ p, v = .ref p ∧ p ∉ B.L ∧ q = r p)) (k : ∀ p, p ∉ B.L → Nx K B D.nx (Γ.set i (.own (r p))) F) (hi : Nat.blt i Γ.length = true := by rfl) : Nx K B (tAsg te (gName i) D) Γ F := fun σ H s =>
  h F σ H s _ fun v q H' ⟨p, ev, hl, eq⟩ ⟨G, s'⟩ => by
    subst ev eq
    exact k p hl _ _ ⟨G, s'.setOwn (of_blt hi)⟩
theorem em_R {r : Addr → Res} {tr : TA} {Pr : List Mx → Prop} (h : EvR K B te Γ (fun v q => ∃ p, v = .ref p ∧ p ∉ B.L ∧ q = r p)) (hr : EvM K B tr Γ Pr) : EvM K B (tCons te tr) Γ (fun ms => ∃ p ms', p ∉ B.L ∧ Pr ms' ∧ ms = .res (.ref p) (r p) :: ms') := fun F σ H s Q q =>
  h F σ H s _ fun v z H1 ⟨p, e1, hl, e2⟩ s1 => by
    subst e1 e2
    exact hr _ σ H1 s1 _ fun ms T' H2 p2 ht s2 => q (.res (.ref p) (r p) :: ms) T' H2 ⟨p, ms, hl, p2, rfl⟩ (fun p hp => ht p hp) (by
      have e : (F.res1 (.ref p) (r p)).X ++ mxX ms = F.X ++ mxX (.res (.ref p) (r p) :: ms) := by simp [mxX]
      rw [e] at s2; exact s2)
theorem et_in1 (h : Kc nk ek n) (ht : IsTup nk) (hx : EvD K B tk Γ (ek x)) (hd : EvDc K B td Γ (kdsOf nk ev l)) (hn : n ≤ 8 := by decide) : EvD K B (tOp (rInN K false) tk td) Γ (.bool (hasA l x)) := et_inN (neg := false) h ht hx hd hn
theorem et_ni1 (h : Kc nk ek n) (ht : IsTup nk) (hx : EvD K B tk Γ (ek x)) (hd : EvDc K B td Γ (kdsOf nk ev l)) (hn : n ≤ 8 := by decide) : EvD K B (tOp (rInN K true) tk td) Γ (.bool (!hasA l x)) := et_inN (neg := true) h ht hx hd hn
/-- the last item -/
def lastO {α : Type} (xs : List α) : Option (α × List α) := (xs.getLast?).map fun x => (x, xs.dropLast)
theorem nx_pop {α : Type} {e : α → DD} {i : Nat} {xs : List α} {r : α × List α} (hx : Γ[j]? = some (.own (lstR p (xs.map e)))) (hr : lastO xs = some r) (k : Nx K B D.nx ((Γ.set j (.own (lstR p (r.2.map e)))).set i (.dat (e r.1))) F) (hi : Nat.blt i Γ.length = true := by rfl) :
    Nx K B (tAsg (tBM0 K "list" rPop (tVar j)) (gName i) D) Γ F := fun σ H s => by
  obtain ⟨G, z⟩ := s
  obtain ⟨v, hv, rfl, ys, hp, hd⟩ := z.own hx
  unfold lastO at hr
  cases hl : xs.getLast? with
  | none => rw [hl] at hr; cases hr
  | some a =>
    rw [hl] at hr
    cases hr
    rw [List.getLast?_eq_getElem?] at hl
    obtain ⟨u, hu, hdu⟩ := hd.get (i := xs.length - 1) (d := e a) (by rw [List.getElem?_map, hl]; rfl)
    have hlen := hd.length
    rw [List.length_map] at hlen
    refine ⟨.ref p, hv, .inl ⟨rfl, ys, SqL.of hp⟩, p, ys, u, rfl, rfl, hp, by rw [hlen]; exact hu, ?_⟩
    have hm : p ∈ ownAt Γ F j := by rw [ownAt_slot hx]; simp [Sl.as, lstR]
    have hg : G p = none := (z.mine j p hm).1
    have hd2 : DaL K G ys.dropLast (xs.dropLast.map e) := by
      rw [List.map_dropLast, List.dropLast_eq_take, List.dropLast_eq_take, hd.length]
      exact hd.take _
    have s2 := z.updOwn (r' := lstR p (xs.dropLast.map e)) (T' := (u, e a) :: F.T) hx (Grow.put (o := .lst ys.dropLast) z.ex hg (by simp [lstR])) rfl hv ⟨rfl, _, upd_same, hd2⟩ fun q hq => by
      rcases List.mem_cons.mp hq with ee | ee
      · rw [ee]; exact hdu
      · exact z.tm q ee
    exact k _ _ ⟨G, (s2.setDat (i := i) (v := u) (d := e a) (by rw [List.length_set]; exact of_blt hi) (by simp)).drop fun q hq => by simp [hq]⟩
/-- == of an own list -/
theorem own_dp {α : Type} {e : α → DD} {G H : Hp} {xs : List α} {ys : List V} (hp : H p = some (.lst ys)) (hd : DaL K G ys (xs.map e)) (ex : Ex G H) (c : SeqAt.shaped (.list (xs.map e)) = true) : Dp K H (.ref p) (.list (xs.map e)) := .lst (SqL.of hp) ((hd.mono ex).dp (by have := SeqAt.canLay_of_shaped c; simpa [PyData.canLay0] using this))
theorem et_neO {α : Type} [DecidableEq α] {e : α → DD} {xs ys : List α} {n : Nat} (q : Tq e n) (hj : Γ[j]? = some (.own (lstR p (xs.map e)))) (hb : EvD K B te Γ (.list (ys.map e))) (hn : n + 1 ≤ 64 := by decide) : EvD K B (tOp (rNeD K) (tVar j) te) Γ (.bool (!decide (xs = ys))) := fun F σ H s Q k => by
  obtain ⟨G0, z0⟩ := id s
  obtain ⟨v0, hv0, e0, _⟩ := z0.own hj
  subst e0
  refine ⟨.ref p, hv0, ?_⟩
  refine hb F σ H s _ fun u d H1 e1 s1 => ?_
  subst e1
  obtain ⟨G, z⟩ := id s1
  obtain ⟨v, hv, ev, zs, hp, hd⟩ := z.own hj
  refine ⟨_, _, own_dp hp hd z.ex (((tqL q).ok xs).shaped hn), dp_ex z.ex (z.tm (u, .list (ys.map e)) (by simp)) (((tqL q).ok ys).shaped hn), ((tqL q).ok xs).shaped hn, ((tqL q).ok ys).shaped hn, ?_⟩
  have he : PyData.eqv (.list (xs.map e)) (.list (ys.map e)) = decide (xs = ys) := (tqL q).eq xs ys
  rw [he]
  exact k _ _ H1 rfl (s1.pop.c fun _ => .bl _)
theorem et_inO {α : Type} [DecidableEq α] {e : α → DD} {x : α} {xs : List α} {n : Nat} {neg : Bool} (q : Tq e n) (ha : EvD K B te Γ (e x)) (hj : Γ[j]? = some (.own (lstR p (xs.map e)))) (hn : n + 1 ≤ 64 := by decide) : EvD K B (tOp (rInLD K neg) te (tVar j)) Γ (.bool (if neg then !memB x xs else memB x xs)) := fun F σ H s Q k =>
  ha F σ H s _ fun u d H1 e1 s1 => by
    subst e1
    obtain ⟨G, z⟩ := id s1
    obtain ⟨v, hv, rfl, zs, hp, hd⟩ := z.own hj
    refine ⟨.ref p, hv, e x, xs.map e, dp_ex z.ex (z.tm (u, e x) (by simp)) ((q.ok x).shaped (by omega)), own_dp hp hd z.ex (((tqL q).ok xs).shaped hn), (q.ok x).shaped (by omega), ((tqL q).ok xs).shaped hn, ?_⟩
    rw [inD_map q]
    exact k _ _ H1 rfl (s1.pop.c fun _ => .bl _)
theorem et_in2 {α : Type} [DecidableEq α] {e : α → DD} {x : α} {xs : List α} {n : Nat} (q : Tq e n) (ha : EvD K B te Γ (e x)) (hj : Γ[j]? = some (.own (lstR p (xs.map e)))) (hn : n + 1 ≤ 64 := by decide) : EvD K B (tOp (rInLD K false) te (tVar j)) Γ (.bool (memB x xs)) := et_inO (neg := false) q ha hj hn
theorem et_ni2 {α : Type} [DecidableEq α] {e : α → DD} {x : α} {xs : List α} {n : Nat} (q : Tq e n) (ha : EvD K B te Γ (e x)) (hj : Γ[j]? = some (.own (lstR p (xs.map e)))) (hn : n + 1 ≤ 64 := by decide) : EvD K B (tOp (rInLD K true) te (tVar j)) Γ (.bool (!memB x xs)) := et_inO (neg := true) q ha hj hn
end
end Ly

namespace Ly
open PySem L2
section
variable {α β γ σ ρ τ : Type}
theorem szLt_mk {n : Nat} (h : n < 16000000) : szLt n = true := by unfold szLt; exact decide_eq_true h
theorem szLe_mk {n : Nat} (h : n ≤ 16000000) : szLe n = true := by unfold szLe; exact decide_eq_true h
theorem r1Ok_mk {n : Int} (h : -(2 ^ 62) ≤ n ∧ n < 2 ^ 62) : r1Ok n = true := by unfold r1Ok; exact decide_eq_true h
theorem drawOk_mk {n : Int} (h : 0 < n ∧ n < 1073741824) : drawOk n = true := by unfold drawOk; exact decide_eq_true h
theorem pickOk_mk {n : Nat} (h : 0 < n ∧ n < 1000) : pickOk n = true := by unfold pickOk; exact decide_eq_true h
theorem rowOk_mk {n : Int} (h : 0 ≤ n ∧ n ≤ 100) : rowOk n = true := by unfold rowOk; exact decide_eq_true h
theorem ob_some (a : α) (f : α → M β) : ob (some a) f = f a := rfl
theorem oo_mk (a : α) (f : α → Option β) : oo (some a) f = f a := rfl
theorem mb_ok (a : α) (f : α → M β) : mb (.ok a) f = f a := rfl
theorem mb_er (c : Str) (f : α → M β) : mb (.er c) f = .er c := rfl
theorem gd_t (m : M β) : gd true m = m := rfl
theorem og_t (m : Option β) : og true m = m := rfl
theorem lt_mk (a : α) (f : α → β) : lt a f = f a := rfl
theorem sel_tt (x y : α) : sel true x y = x := rfl
theorem sel_ff (x y : α) : sel false x y = y := rfl
theorem mo_ok (a : α) : (M.ok a).o = some a := rfl
theorem fb_nx (s : σ) (j : ρ → M τ) (f : σ → M τ) : fb (.ok (.nx s)) j f = f s := rfl
theorem fb_rt (v : ρ) (j : ρ → M τ) (f : σ → M τ) : fb (.ok (.rt v)) j f = j v := rfl
theorem forM_nil (body : σ → α → M (Fl σ ρ)) (s : σ) : forM body [] s = .ok (.nx s) := rfl
theorem forM_nx {body : σ → α → M (Fl σ ρ)} {x : α} {xs : List α} {s s' : σ} (h : body s x = .ok (.nx s')) : forM body (x :: xs) s = forM body xs s' := by
  show (match body s x with | .ok (.nx s') => forM body xs s' | r => r) = _
  rw [h]
theorem forM_rt {body : σ → α → M (Fl σ ρ)} {x : α} {xs : List α} {s : σ} {v : ρ} (h : body s x = .ok (.rt v)) : forM body (x :: xs) s = .ok (.rt v) := by
  show (match body s x with | .ok (.nx s') => forM body xs s' | r => r) = _
  rw [h]
theorem forM_bk {body : σ → α → M (Fl σ ρ)} {x : α} {xs : List α} {s s' : σ} (h : body s x = .ok (.bk s')) : forM body (x :: xs) s = .ok (.bk s') := by
  show (match body s x with | .ok (.nx s') => forM body xs s' | r => r) = _
  rw [h]
/-- what a step leads to -/
def Stp (I : σ → Prop) (Post : Fl σ ρ → Prop) : Fl σ ρ → Prop
  | .nx s => I s
  | r => Post r
/-- a for by an invariant over what is done -/
theorem forM_run {body : σ → α → M (Fl σ ρ)} {I : List α → σ → Prop} {Post : Fl σ ρ → Prop} : ∀ (todo done : List α) (s : σ), I done s →
    (∀ pre x post s, done ++ todo = pre ++ x :: post → I pre s → ∃ r, body s x = .ok r ∧ Stp (I (pre ++ [x])) Post r) → (∀ s, I (done ++ todo) s → Post (.nx s)) → ∃ r, forM body todo s = .ok r ∧ Post r
  | [], done, s, h0, _, he => ⟨.nx s, rfl, he s (by rw [List.append_nil]; exact h0)⟩
  | x :: todo, done, s, h0, hs, he => by
    obtain ⟨r, h1, h2⟩ := hs done x todo s rfl h0
    cases r with
    | nx s' =>
      rw [forM_nx h1]
      refine forM_run todo (done ++ [x]) s' h2 (fun pre y post s e => hs pre y post s (by rw [← e]; simp)) (fun s h => he s (by rw [List.append_assoc] at h; exact h))
    | bk s' => exact ⟨.bk s', forM_bk h1, h2⟩
    | rt v => exact ⟨.rt v, forM_rt h1, h2⟩
theorem forM_fold {body : σ → α → M (Fl σ ρ)} {f : σ → α → σ} (I : σ → Prop) : ∀ (xs : List α) (s : σ), I s → (∀ s x, x ∈ xs → I s → body s x = .ok (.nx (f s x)) ∧ I (f s x)) → forM body xs s = .ok (.nx (xs.foldl f s)) ∧ I (xs.foldl f s)
  | [], s, h, _ => ⟨rfl, h⟩
  | x :: xs, s, h, hs => by
    obtain ⟨h1, h2⟩ := hs s x (by simp) h
    rw [forM_nx h1]
    exact forM_fold I xs _ h2 fun s y hy => hs s y (by simp [hy])
/-- a while by an invariant and a measure -/
theorem whM_run {c : σ → M Bool} {body : σ → M (Fl σ ρ)} (I : σ → Prop) (μ : σ → Nat) (Post : Fl σ ρ → Prop)
    (h : ∀ s, I s → ∃ b, c s = .ok b ∧ (b = false → Post (.nx s)) ∧ (b = true → ∃ r, body s = .ok r ∧ Stp (fun s' => I s' ∧ μ s' < μ s) Post r)) : ∀ (n : Nat) (s : σ), I s → μ s < n → ∃ r, whM c body n s = .ok r ∧ Post r
  | 0, _, _, hn => absurd hn (Nat.not_lt_zero _)
  | n + 1, s, hI, hn => by
    obtain ⟨b, hb, h0, h1⟩ := h s hI
    have e : whM c body (n + 1) s = mb (c s) fun b => match b with | true => (match body s with | .ok (.nx s') => whM c body n s' | r => r) | false => .ok (.nx s) := rfl
    rw [e, hb, mb_ok]
    cases b with
    | false => exact ⟨_, rfl, h0 rfl⟩
    | true =>
      obtain ⟨r, h2, h3⟩ := h1 rfl
      dsimp only
      rw [h2]
      cases r with
      | nx s' => exact whM_run I μ Post h n s' h3.1 (by have := h3.2; omega)
      | bk s' => exact ⟨_, rfl, h3⟩
      | rt v => exact ⟨_, rfl, h3⟩
theorem mpO_all {f : α → Option β} {g : α → β} : ∀ {xs : List α}, (∀ x ∈ xs, f x = some (g x)) → mpO f xs = some (xs.map g)
  | [], _ => rfl
  | x :: xs, h => by
    unfold mpO
    rw [h x (by simp)]
    dsimp only
    rw [mpO_all fun y hy => h y (by simp [hy])]; rfl
theorem lcO_all {f : α → Option (Option β)} {c : α → Bool} {g : α → β} : ∀ {xs : List α}, (∀ x ∈ xs, f x = some (if c x then some (g x) else none)) → lcO f xs = some ((xs.filter c).map g)
  | [], _ => rfl
  | x :: xs, h => by
    have ih := lcO_all (f := f) (c := c) (g := g) (xs := xs) fun y hy => h y (by simp [hy])
    unfold lcO
    rw [h x (by simp)]
    cases e : c x with
    | true => simp [ih, e]
    | false => simp [ih, e]
/-- the law's loops -/
theorem forP_run {body : σ → α → (Fl σ ρ → Prop) → Prop} {I : List α → σ → Prop} {q : Fl σ ρ → Prop} : ∀ (todo done : List α) (s : σ), I done s →
    (∀ pre x post s (q' : Fl σ ρ → Prop), done ++ todo = pre ++ x :: post → I pre s → (∀ r, Stp (I (pre ++ [x])) q r → q' r) → body s x q') → (∀ s, I (done ++ todo) s → q (.nx s)) → forP body todo s q
  | [], done, s, h0, _, he => he s (by rw [List.append_nil]; exact h0)
  | x :: todo, done, s, h0, hs, he => by
    refine hs done x todo s _ rfl h0 fun r hr => ?_
    cases r with
    | nx s' => exact forP_run todo (done ++ [x]) s' hr (fun pre y post s q' e => hs pre y post s q' (by rw [← e]; simp)) (fun s h => he s (by rw [List.append_assoc] at h; exact h))
    | bk s' => exact hr
    | rt v => exact hr
theorem forP_fold {body : σ → α → (Fl σ ρ → Prop) → Prop} {f : σ → α → σ} {q : Fl σ ρ → Prop} (I : σ → Prop) : ∀ (xs : List α) (s : σ), I s → (∀ s x (q' : Fl σ ρ → Prop), x ∈ xs → I s → q' (.nx (f s x)) → body s x q' ∧ I (f s x)) → (I (xs.foldl f s) → q (.nx (xs.foldl f s))) → forP body xs s q
  | [], s, h, _, he => he h
  | x :: xs, s, h, hs, he => by
    have hI := (hs s x (fun _ => True) (by simp) h trivial).2
    exact (hs s x _ (by simp) h (forP_fold I xs _ hI (fun s y q' hy => hs s y q' (by simp [hy])) he)).1
/-- counting -/
theorem nodup_len [DecidableEq α] : ∀ (l U : List α), l.Nodup → (∀ x ∈ l, x ∈ U) → l.length ≤ U.length
  | [], U, _, _ => Nat.zero_le _
  | x :: l, U, hn, hs => by
    rw [List.nodup_cons] at hn
    have hx : x ∈ U := hs x (by simp)
    have ih := nodup_len l (U.erase x) hn.2 fun y hy => by
      have hne : y ≠ x := fun e => hn.1 (e ▸ hy)
      exact (List.mem_erase_of_ne hne).mpr (hs y (by simp [hy]))
    rw [List.length_erase_of_mem hx] at ih
    have : 0 < U.length := List.length_pos_of_mem hx
    rw [List.length_cons]; omega
variable {κ : Type} [DecidableEq κ]
theorem hasA_iff {l : List (κ × β)} {k : κ} : hasA l k = true ↔ k ∈ l.map (·.1) := by
  unfold hasA
  rw [List.any_eq_true]
  constructor
  · rintro ⟨p, h1, h2⟩
    exact List.mem_map.mpr ⟨p, h1, of_decide_eq_true h2⟩
  · intro h
    obtain ⟨p, h1, h2⟩ := List.mem_map.mp h
    exact ⟨p, h1, decide_eq_true h2⟩
theorem putA_new {l : List (κ × β)} {k : κ} {v : β} (h : hasA l k = false) : putA l k v = l ++ [(k, v)] := by
  unfold putA; rw [h]
theorem lastO_snoc (l : List α) (x : α) : lastO (l ++ [x]) = some (x, l) := by
  unfold lastO
  simp
theorem lastO_ne {l : List α} (h : l ≠ []) : ∃ x l', l = l' ++ [x] ∧ lastO l = some (x, l') := by
  refine ⟨l.getLast h, l.dropLast, (List.dropLast_concat_getLast h).symm, ?_⟩
  conv => lhs; rw [← List.dropLast_concat_getLast h]
  exact lastO_snoc _ _
end
end Ly

namespace Ly
open PySem PySem.Spec PyProof.Rows L2
def insI (x : Int) : List Int → List Int
  | [] => [x]
  | y :: ys => if x ≤ y then x :: y :: ys else y :: insI x ys
def sortI : List Int → List Int
  | [] => []
  | x :: xs => insI x (sortI xs)
theorem insI_perm (x : Int) : ∀ l : List Int, (insI x l).Perm (x :: l)
  | [] => .refl _
  | y :: ys => by
    unfold insI
    split
    · exact .refl _
    · exact ((insI_perm x ys).cons y).trans (.swap x y ys)
theorem sortI_perm : ∀ l : List Int, (sortI l).Perm l
  | [] => .refl _
  | x :: xs => (insI_perm x (sortI xs)).trans ((sortI_perm xs).cons x)
theorem insI_pw (x : Int) : ∀ l : List Int, l.Pairwise (· ≤ ·) → (insI x l).Pairwise (· ≤ ·)
  | [], _ => by simp [insI]
  | y :: ys, h => by
    rw [List.pairwise_cons] at h
    unfold insI
    split
    · rename_i hxy
      refine List.pairwise_cons.mpr ⟨fun z hz => ?_, List.pairwise_cons.mpr h⟩
      rcases List.mem_cons.mp hz with e | e
      · rw [e]; exact hxy
      · exact Int.le_trans hxy (h.1 z e)
    · rename_i hxy
      refine List.pairwise_cons.mpr ⟨fun z hz => ?_, insI_pw x ys h.2⟩
      rcases List.mem_cons.mp ((insI_perm x ys).mem_iff.mp hz) with e | e
      · rw [e]; omega
      · exact h.1 z e
theorem sortI_pw : ∀ l : List Int, (sortI l).Pairwise (· ≤ ·)
  | [] => .nil
  | x :: xs => insI_pw x _ (sortI_pw xs)
theorem sort_uniq : ∀ {a b : List Int}, a.Perm b → a.Pairwise (· ≤ ·) → b.Pairwise (· ≤ ·) → a = b
  | [], b, h, _, _ => by rw [List.Perm.nil_eq h]
  | x :: a, [], h, _, _ => by have := h.length_eq; simp at this
  | x :: a, y :: b, h, ha, hb => by
    rw [List.pairwise_cons] at ha hb
    have e : x = y := by
      have h1 : x ∈ y :: b := h.mem_iff.mp (by simp)
      have h2 : y ∈ x :: a := h.mem_iff.mpr (by simp)
      rcases List.mem_cons.mp h1 with e | e
      · exact e
      · rcases List.mem_cons.mp h2 with e2 | e2
        · exact e2.symm
        · have := hb.1 x e
          have := ha.1 y e2
          omega
    subst e
    rw [sort_uniq h.cons_inv ha.2 hb.2]
@[irreducible] def srtOk (n : Nat) : Bool := decide (n < 64)
theorem srtOk_mk {n : Nat} (h : n < 64) : srtOk n = true := by unfold srtOk; exact decide_eq_true h
variable {K : FK} {B : Bs} {Γ : List Sl} {te : TE}
theorem en_sorted {ns : List Int} (h : EvD K B te Γ (.list (ns.map .int))) (hn : srtOk ns.length = true) : EvND K B (tCB (rSorted K) (tCons te tNil)) Γ ((sortI ns).map .int) := fun F σ H s Q q =>
  h F σ H s _ fun v d H1 e s1 => by
    subst e
    unfold srtOk at hn
    obtain ⟨G, s1⟩ := s1
    obtain ⟨a, xs, rfl, ha, hs⟩ := (s1.tm (v, .list (ns.map .int)) (by simp)).lst_inv
    refine ⟨a, ns, rfl, SqL.of (by rw [← hs.ints]; exact s1.ex _ _ ha), of_decide_eq_true hn, fun ns' p hp hw hH => ?_⟩
    have e2 : ns' = sortI ns := sort_uniq (hp.trans (sortI_perm ns).symm) hw (sortI_pw ns)
    subst e2
    exact q p _ _ rfl (s1.notLent hH) ⟨G, (s1.newLst hH (DaL.ofInts _)).drop fun p hp => by simp [hp]⟩
end Ly

namespace Ly
open PySem PySem.Spec PyProof.Rows L2
/-- a zip's record: v0 what it has handed out, v1 whether that is known to be held -/
abbrev ZR (g : Heap) (z ti to : Addr) (v0 v1 : Value) : Prop := g.get? z = some { cls := .type "zip", dict := none, data := .fields #[v0, v1, .bool false, .ref ti, .ref to], slots := #[] }
def ZSt (g : Heap) (z ti to : Addr) : Prop := ZR g z ti to .none (.bool false) ∨ ∃ (t : Addr) (b : Bool), ZR g z ti to (rawInt t) (.bool b)
section
variable {prog : Program} {w : World} {A : Around} {E : Value → Shared → Prop} {s : Shared} {z ti to j1 j2 m1 m2 : Addr} {k1 k2 : Nat} {xs ys : Array Value} {x y v0 v1 : Value}
theorem dead_load {a : Addr} {Q : Option Obj → Shared → Prop} (ho : s.heap.get? a = none) (h : Q none s) : wpAny (model prog w) A (loadIfAlive a) Q E s := by
  have h' : Q (s.heap.get? a) s := by rw [ho]; exact h
  exact fun _ _ _ => h'
/-- the tuple is free: none is out, or it is gone -/
theorem free_none {Q : Bool → Shared → Prop} (r : ZR s.heap z ti to .none v1) (h : Q true s) : wpAny (model prog w) A (Builtin.SmallTypes.ownedTupleIsFree (.ref z)) Q E s := by
  unfold Builtin.SmallTypes.ownedTupleIsFree; exact wpAny_bind (wpAny_field r rfl (x := .none) rfl (wpAny_pure h))
theorem free_dead {t : Addr} {Q : Bool → Shared → Prop} (r : ZR s.heap z ti to (rawInt t) v1) (ht : s.heap.get? t = none) (h : Q true s) : wpAny (model prog w) A (Builtin.SmallTypes.ownedTupleIsFree (.ref z)) Q E s := by
  unfold Builtin.SmallTypes.ownedTupleIsFree; refine wpAny_bind (wpAny_field r rfl (x := rawInt t) rfl ?_)
  show wpAny (model prog w) A (loadIfAlive ((t : Int).toNat) >>= _) Q E s; rw [Int.toNat_natCast]
  refine wpAny_bind (dead_load ht ?_); simp only [Option.isNone_none, if_true]; exact wpAny_pure h
/-- the next pair where the tuple is free -/
theorem zip_free {Q : Value → Shared → Prop} (D : ZipApart z ti to j1 j2 m1 m2) (r : ZR s.heap z ti to v0 v1) (hf : ∀ Q' : Bool → Shared → Prop, Q' true s → wpAny (model prog w) A (Builtin.SmallTypes.ownedTupleIsFree (.ref z)) Q' E s)
    (ri : IsPair s.heap ti (.ref j1) (.ref j2)) {a b : Value} (ro : IsPair s.heap to a b) (q1 : s.heap.IsListIter j1 m1 k1) (q2 : s.heap.IsListIter j2 m2 k2) (l1 : s.heap.IsList m1 xs) (l2 : s.heap.IsList m2 ys) (hx : xs[k1]? = some x) (hy : ys[k2]? = some y)
    (hQ : ∀ g, ZR g z ti to (rawInt s.heap.objs.size) (.bool false) → IsPair g to x y → g.IsListIter j1 m1 (k1 + 1) → g.IsListIter j2 m2 (k2 + 1) → IsPair g s.heap.objs.size x y → g.objs.size = s.heap.objs.size + 1 →
      (∀ c o, c ≠ z → c ≠ to → c ≠ j1 → c ≠ j2 → s.heap.get? c = some o → g.get? c = some o) → Q (.ref s.heap.objs.size) { s with heap := g }) :
    wpAny (model prog w) A (Builtin.«zip.__next__» ⟨[.ref z], []⟩) (fun fin s' => ∃ v, fin = .done (.ret v) ∧ Q v s') E s := by
  show wpAny (model prog w) A (field (.ref z) 2 >>= _) _ E s; refine wpAny_bind (wpAny_field r rfl (x := .bool false) rfl ?_)
  show wpAny (model prog w) A (field (.ref z) 3 >>= _) _ E s; refine wpAny_bind (wpAny_field r rfl (x := .ref ti) rfl ?_)
  refine wpAny_bind (wpAny_seqItems ri rfl ?_); show wpAny (model prog w) A (Builtin.SmallTypes.ownedTupleIsFree (.ref z) >>= _) _ E s
  refine wpAny_bind (hf _ ?_); simp only [if_true]
  refine wpAny_bind (wpAny_rule (wpAny_bind (wpAny_field r rfl (x := .ref to) rfl (wpAny_bind (wpAny_setField_rec r (by simp) fun g1 r1 e1 => ?_)))))
  replace r1 : ZR g1 z ti to .ellipsis v1 := r1
  refine wpAny_bind ?_; simp only [List.zipIdx_cons, List.zipIdx_nil, List.forIn_cons, List.forIn_nil]
  refine wpAny_bind (wpAny_bind (wpAny_onRaise ?_)); show wpAny (model prog w) A (Builtin.SmallTypes.nextOf (.ref j1) >>= _) _ _ _
  refine wpAny_bind (wpAny_nextOf_list_item (s := { s with heap := g1 }) (q1.extBut e1.extBut D.i1z) (l1.extBut e1.extBut D.l1z) hx fun g2 q12 e2 => wpAny_pure ?_)
  have ro2 : IsPair g2 to a b := e2.extBut _ _ D.TOi1 (e1.extBut _ _ D.TOz ro)
  refine wpAny_bind (wpAny_seqItems ro2 rfl (wpAny_bind (wpAny_updateSeq_pair ro2 fun g3 ro3 e3 => ?_)))
  replace ro3 : IsPair g3 to x b := ro3
  refine wpAny_bind (wpAny_letGo (wpAny_pure (wpAny_bind (wpAny_bind (wpAny_onRaise ?_))))); show wpAny (model prog w) A (Builtin.SmallTypes.nextOf (.ref j2) >>= _) _ _ _
  refine wpAny_bind (wpAny_nextOf_list_item (s := { s with heap := g3 }) (((q2.extBut e1.extBut D.i2z).extBut e2.extBut D.i12.symm).extBut e3.extBut D.TOi2.symm) (((l2.extBut e1.extBut D.l2z).extBut e2.extBut D.l2i1).extBut e3.extBut D.l2TO) hy fun g4 q24 e4 => wpAny_pure ?_)
  have ro4 : IsPair g4 to x b := e4.extBut _ _ D.TOi2 ro3
  refine wpAny_bind (wpAny_seqItems ro4 rfl (wpAny_bind (wpAny_updateSeq_pair ro4 fun g5 ro5 e5 => ?_)))
  replace ro5 : IsPair g5 to x y := ro5
  refine wpAny_bind (wpAny_letGo (wpAny_pure (wpAny_pure (wpAny_bind (wpAny_seqItems ro5 rfl (wpAny_bind (wpAny_newTuple ?_)))))))
  have sz : g5.objs.size = s.heap.objs.size := by rw [e5.1, e4.1, e3.1, e2.1, e1.1]
  have r5 : ZR g5 z ti to .ellipsis v1 := e5.extBut _ _ D.TOz.symm (e4.extBut _ _ D.i2z.symm (e3.extBut _ _ D.TOz.symm (e2.extBut _ _ D.i1z.symm r1)))
  have kp : ∀ c o, c ≠ z → c ≠ to → c ≠ j1 → c ≠ j2 → s.heap.get? c = some o → g5.get? c = some o := fun c o n1 n2 n3 n4 e => e5.extBut _ _ n2 (e4.extBut _ _ n4 (e3.extBut _ _ n2 (e2.extBut _ _ n3 (e1.extBut _ _ n1 e))))
  have q15 : g5.IsListIter j1 m1 (k1 + 1) := ((q12.extBut e3.extBut D.TOi1.symm).extBut e4.extBut D.i12).extBut e5.extBut D.TOi1.symm
  have q25 : g5.IsListIter j2 m2 (k2 + 1) := q24.extBut e5.extBut D.TOi2.symm
  have zl : z < g5.objs.size := Heap.lt_size r5
  show wpAny (model prog w) A (Builtin.SmallTypes.ownedTupleHandOut (.ref z) (.ref g5.objs.size) >>= _) _ _ _
  refine wpAny_bind ?_; unfold Builtin.SmallTypes.ownedTupleHandOut
  have r6 : ZR (g5.push { cls := .type "tuple", data := .seq #[x, y] }) z ti to .ellipsis v1 := Heap.get?_push_of_some _ r5
  refine wpAny_bind (wpAny_setField_rec r6 (by simp) fun g7 r7 e7 => ?_)
  replace r7 : ZR g7 z ti to (rawInt g5.objs.size) v1 := r7
  refine wpAny_setField_rec r7 (by simp) fun g8 r8 e8 => ?_
  replace r8 : ZR g8 z ti to (rawInt g5.objs.size) (.bool false) := r8
  have up : ∀ c o, c ≠ z → g5.get? c = some o → g8.get? c = some o := fun c o n e => e8.extBut _ _ n (e7.extBut _ _ n (Heap.get?_push_of_some _ e))
  have t8 : IsPair g8 g5.objs.size x y := e8.extBut _ _ (Nat.ne_of_gt zl) (e7.extBut _ _ (Nat.ne_of_gt zl) (Heap.get?_push_size _ rfl))
  have s8 : g8.objs.size = g5.objs.size + 1 := by rw [e8.1, e7.1, Heap.size_push]
  rw [sz] at r8 t8 s8
  refine wpAny_pure ⟨_, rfl, ?_⟩; show Q (.ref g5.objs.size) _; rw [sz]
  exact hQ g8 r8 (up _ _ D.TOz ro5) (q15.at fun o e => up _ o D.i1z e) (q25.at fun o e => up _ o D.i2z e) t8 s8 fun c o n1 n2 n3 n4 e => up c o n1 (kp c o n1 n2 n3 n4 e)
/-- the end where the tuple is free -/
theorem zip_freeEnd {Q : Fin → Shared → Prop} (hh : A.handled = none) (D : ZipApart z ti to j1 j2 m1 m2) (r : ZR s.heap z ti to v0 v1) (hf : ∀ Q' : Bool → Shared → Prop, Q' true s → wpAny (model prog w) A (Builtin.SmallTypes.ownedTupleIsFree (.ref z)) Q' E s)
    (ri : IsPair s.heap ti (.ref j1) (.ref j2)) {a b : Value} (ro : IsPair s.heap to a b) (q1 : s.heap.IsListIter j1 m1 k1) (q2 : s.heap.IsListIter j2 m2 k2) (l1 : s.heap.IsList m1 xs) (l2 : s.heap.IsList m2 ys) (hend : xs[k1]? = none ∨ ys[k2]? = none)
    (hE : ∀ g e, (∀ c o, c ≠ z → c ≠ to → c ≠ j1 → c ≠ j2 → s.heap.get? c = some o → g.get? c = some o) → (∃ o, g.get? e = some o ∧ o.cls = .type "StopIteration") → E (.ref e) { s with heap := g }) :
    wpAny (model prog w) A (Builtin.«zip.__next__» ⟨[.ref z], []⟩) Q E s := by
  show wpAny (model prog w) A (field (.ref z) 2 >>= _) _ E s; refine wpAny_bind (wpAny_field r rfl (x := .bool false) rfl ?_)
  show wpAny (model prog w) A (field (.ref z) 3 >>= _) _ E s; refine wpAny_bind (wpAny_field r rfl (x := .ref ti) rfl ?_)
  refine wpAny_bind (wpAny_seqItems ri rfl ?_); show wpAny (model prog w) A (Builtin.SmallTypes.ownedTupleIsFree (.ref z) >>= _) _ E s
  refine wpAny_bind (hf _ ?_); simp only [if_true]
  refine wpAny_bind (wpAny_rule (wpAny_bind (wpAny_field r rfl (x := .ref to) rfl (wpAny_bind (wpAny_setField_rec r (by simp) fun g1 r1 e1 => ?_)))))
  replace r1 : ZR g1 z ti to .ellipsis v1 := r1
  refine wpAny_bind ?_; simp only [List.zipIdx_cons, List.zipIdx_nil, List.forIn_cons, List.forIn_nil]
  refine wpAny_bind (wpAny_bind (wpAny_onRaise ?_)); show wpAny (model prog w) A (Builtin.SmallTypes.nextOf (.ref j1) >>= _) _ _ _
  cases hx : xs[k1]? with
  | none =>
    refine wpAny_bind (wpAny_nextOf_list_end (s := { s with heap := g1 }) hh (q1.extBut e1.extBut D.i1z) (l1.extBut e1.extBut D.l1z) hx fun g2 e e2 ⟨oe, he, ce⟩ => ?_)
    have r2 : ZR g2 z ti to .ellipsis v1 := e2 _ _ D.i1z.symm r1
    have ne : e ≠ z := fun q => by subst q; rw [r2] at he; cases he; simp at ce
    exact wpAny_setField_rec r2 (by simp) fun g3 _ e3 => hE g3 e (fun c o n1 _ n3 _ q => e3.extBut _ _ n1 (e2 _ _ n3 (e1.extBut _ _ n1 q))) ⟨oe, e3.extBut _ _ ne he, ce⟩
  | some x =>
    have hy : ys[k2]? = none := by
      rcases hend with h | h
      · rw [hx] at h; cases h
      · exact h
    refine wpAny_bind (wpAny_nextOf_list_item (s := { s with heap := g1 }) (q1.extBut e1.extBut D.i1z) (l1.extBut e1.extBut D.l1z) hx fun g2 q12 e2 => wpAny_pure ?_)
    have ro2 : IsPair g2 to a b := e2.extBut _ _ D.TOi1 (e1.extBut _ _ D.TOz ro)
    refine wpAny_bind (wpAny_seqItems ro2 rfl (wpAny_bind (wpAny_updateSeq_pair ro2 fun g3 ro3 e3 => ?_)))
    refine wpAny_bind (wpAny_letGo (wpAny_pure (wpAny_bind (wpAny_bind (wpAny_onRaise ?_))))); show wpAny (model prog w) A (Builtin.SmallTypes.nextOf (.ref j2) >>= _) _ _ _
    refine wpAny_bind (wpAny_nextOf_list_end (s := { s with heap := g3 }) hh (((q2.extBut e1.extBut D.i2z).extBut e2.extBut D.i12.symm).extBut e3.extBut D.TOi2.symm) (((l2.extBut e1.extBut D.l2z).extBut e2.extBut D.l2i1).extBut e3.extBut D.l2TO) hy fun g4 e e4 ⟨oe, he, ce⟩ => ?_)
    have r4 : ZR g4 z ti to .ellipsis v1 := e4 _ _ D.i2z.symm (e3.extBut _ _ D.TOz.symm (e2.extBut _ _ D.i1z.symm r1))
    have ne : e ≠ z := fun q => by subst q; rw [r4] at he; cases he; simp at ce
    exact wpAny_setField_rec r4 (by simp) fun g5 _ e5 => hE g5 e (fun c o n1 n2 n3 n4 q => e5.extBut _ _ n1 (e4 _ _ n4 (e3.extBut _ _ n2 (e2.extBut _ _ n3 (e1.extBut _ _ n1 q))))) ⟨oe, e5.extBut _ _ ne he, ce⟩
/-- the next pair, whatever is out -/
theorem zip_any {Q : Value → Shared → Prop} (D : ZipApart z ti to j1 j2 m1 m2) (r : ZSt s.heap z ti to) (ri : IsPair s.heap ti (.ref j1) (.ref j2)) (ro : ∃ a b, IsPair s.heap to a b) (q1 : s.heap.IsListIter j1 m1 k1) (q2 : s.heap.IsListIter j2 m2 k2) (l1 : s.heap.IsList m1 xs) (l2 : s.heap.IsList m2 ys) (hx : xs[k1]? = some x) (hy : ys[k2]? = some y)
    (hQ : ∀ g, ZSt g z ti to → (∃ a b, IsPair g to a b) → g.IsListIter j1 m1 (k1 + 1) → g.IsListIter j2 m2 (k2 + 1) → IsPair g s.heap.objs.size x y → g.objs.size = s.heap.objs.size + 1 →
      (∀ c o, c ≠ z → c ≠ to → c ≠ j1 → c ≠ j2 → s.heap.get? c = some o → g.get? c = some o) → Q (.ref s.heap.objs.size) { s with heap := g }) :
    wpAny (model prog w) A (Builtin.SmallTypes.nextOf (.ref z)) Q E s := by
  have ty : s.TypeIs (.ref z) "zip" := by
    rcases r with r | ⟨t, b, r⟩
    · exact ⟨_, r, rfl⟩
    · exact ⟨_, r, rfl⟩
  obtain ⟨a, b, ro⟩ := ro
  unfold Builtin.SmallTypes.nextOf; refine wpAny_bind (wpAny_callSpecial?_slot (name := Str.ofString "__next__") ty F.slot_zip_next (wpAny_call_entry F.slot_zip_next ty F.entry_zip_next ?_ (F.args_zip_next_1 _)))
  rcases r with r | ⟨t, f, r⟩
  · exact zip_free D r (fun Q' h => free_none r h) ri ro q1 q2 l1 l2 hx hy fun g b1 b2 b3 b4 b5 b6 b7 => wpAny_pure (hQ g (.inr ⟨_, _, b1⟩) ⟨_, _, b2⟩ b3 b4 b5 b6 b7)
  · cases ht : s.heap.get? t with
    | none => exact zip_free D r (fun Q' h => free_dead r ht h) ri ro q1 q2 l1 l2 hx hy fun g b1 b2 b3 b4 b5 b6 b7 => wpAny_pure (hQ g (.inr ⟨_, _, b1⟩) ⟨_, _, b2⟩ b3 b4 b5 b6 b7)
    | some oT => exact zip_next_item_held D r ht ri q1 q2 l1 l2 hx hy fun g b1 b3 b4 b5 b6 b7 => wpAny_pure (hQ g (.inr ⟨_, _, b1⟩) ⟨a, b, b7 _ _ D.TOz D.TOi1 D.TOi2 ro⟩ b3 b4 b5 b6 fun c o n1 _ n3 n4 e => b7 c o n1 n3 n4 e)
theorem zip_anyEnd {Q : Value → Shared → Prop} (hh : A.handled = none) (D : ZipApart z ti to j1 j2 m1 m2) (r : ZSt s.heap z ti to) (ri : IsPair s.heap ti (.ref j1) (.ref j2)) (ro : ∃ a b, IsPair s.heap to a b) (q1 : s.heap.IsListIter j1 m1 k1) (q2 : s.heap.IsListIter j2 m2 k2) (l1 : s.heap.IsList m1 xs) (l2 : s.heap.IsList m2 ys) (hend : xs[k1]? = none ∨ ys[k2]? = none)
    (hE : ∀ g e, (∀ c o, c ≠ z → c ≠ to → c ≠ j1 → c ≠ j2 → s.heap.get? c = some o → g.get? c = some o) → (∃ o, g.get? e = some o ∧ o.cls = .type "StopIteration") → E (.ref e) { s with heap := g }) :
    wpAny (model prog w) A (Builtin.SmallTypes.nextOf (.ref z)) Q E s := by
  have ty : s.TypeIs (.ref z) "zip" := by
    rcases r with r | ⟨t, b, r⟩
    · exact ⟨_, r, rfl⟩
    · exact ⟨_, r, rfl⟩
  obtain ⟨a, b, ro⟩ := ro
  unfold Builtin.SmallTypes.nextOf; refine wpAny_bind (wpAny_callSpecial?_slot (name := Str.ofString "__next__") ty F.slot_zip_next (wpAny_call_entry F.slot_zip_next ty F.entry_zip_next ?_ (F.args_zip_next_1 _)))
  rcases r with r | ⟨t, f, r⟩
  · exact zip_freeEnd hh D r (fun Q' h => free_none r h) ri ro q1 q2 l1 l2 hend hE
  · cases ht : s.heap.get? t with
    | none => exact zip_freeEnd hh D r (fun Q' h => free_dead r ht h) ri ro q1 q2 l1 l2 hend hE
    | some oT => exact zip_next_end_held hh D r ht ri q1 q2 l1 l2 hend fun g e k o => hE g e (fun c o n1 _ n3 n4 q => k c o n1 n3 n4 q) o
/-- enumerate's next pair over a zip -/
theorem ez_item {e : Addr} {i : Nat} {old : Value} {Q : Option Value → Shared → Prop} (D : ZipApart z ti to j1 j2 m1 m2) (ne : e ≠ z ∧ e ≠ to ∧ e ≠ j1 ∧ e ≠ j2) (eti : e ≠ ti) (he : IsEnum s.heap e z i old) (r : ZSt s.heap z ti to) (ri : IsPair s.heap ti (.ref j1) (.ref j2)) (ro : ∃ a b, IsPair s.heap to a b)
    (q1 : s.heap.IsListIter j1 m1 k1) (q2 : s.heap.IsListIter j2 m2 k2) (l1 : s.heap.IsList m1 xs) (l2 : s.heap.IsList m2 ys) (hx : xs[k1]? = some x) (hy : ys[k2]? = some y)
    (hQ : ∀ g, IsEnumOut g e z ((i : Int) + 1) (.ref s.heap.objs.size) (s.heap.objs.size + 1) → ZSt g z ti to → IsPair g ti (.ref j1) (.ref j2) → (∃ a b, IsPair g to a b) → g.IsListIter j1 m1 (k1 + 1) → g.IsListIter j2 m2 (k2 + 1) → IsPair g s.heap.objs.size x y →
      IsPair g (s.heap.objs.size + 1) (.int i s.toks) (.ref s.heap.objs.size) → g.objs.size = s.heap.objs.size + 2 →
      (∀ c o, c ≠ e → c ≠ z → c ≠ to → c ≠ j1 → c ≠ j2 → s.heap.get? c = some o → g.get? c = some o) → Q (some (.ref (s.heap.objs.size + 1))) { s with heap := g, toks := s.toks + 1 }) :
    wpAny (model prog w) A (pyNext (.ref e)) Q E s := by
  have ty : s.TypeIs (.ref e) "enumerate" := ⟨_, he, rfl⟩
  unfold pyNext; refine wpAny_bind (wpAny_attempt (wpAny_callSpecial?_slot (name := Str.ofString "__next__") ty F.slot_enumerate_next (wpAny_call_entry F.slot_enumerate_next ty F.entry_enumerate_next ?_ (F.args_enumerate_next_1 _))))
  show wpAny (model prog w) _ (field (.ref e) 2 >>= _) _ _ s; refine wpAny_bind (wpAny_field he rfl (x := .ref z) rfl ?_)
  refine wpAny_bind (zip_any D r ri ro q1 q2 l1 l2 hx hy fun g1 r1 ro1 a1 a2 t1 s1 k1' => ?_)
  have he1 : IsEnum g1 e z i old := k1' _ _ ne.1 ne.2.1 ne.2.2.1 ne.2.2.2 he
  have ri1 : IsPair g1 ti (.ref j1) (.ref j2) := k1' _ _ D.TIz D.TITO D.TIi1 D.TIi2 ri
  have elt : e < s.heap.objs.size := Heap.lt_size he
  show wpAny (model prog w) _ (field (.ref e) 3 >>= _) _ _ _; refine wpAny_bind (wpAny_field he1 rfl (x := rawInt i) rfl ?_)
  show wpAny (model prog w) _ (field (.ref e) 4 >>= _) _ _ _; refine wpAny_bind (wpAny_field he1 rfl (x := .none) rfl ?_)
  show wpAny (model prog w) _ (mkInt i >>= _) _ _ _; refine wpAny_bind (wpAny_mkInt ?_)
  refine wpAny_bind (wpAny_setField_rec (s := { s with heap := g1, toks := s.toks + 1 }) (x := rawInt ((i : Int) + 1)) he1 (by simp) fun g2 he2 e2 => ?_)
  replace he2 : IsEnum g2 e z ((i : Int) + 1) old := he2
  refine wpAny_bind (wpAny_setField_rec (s := { s with heap := g2, toks := s.toks + 1 }) (x := .none) he2 (by simp) fun g3 he3 e3 => ?_)
  replace he3 : IsEnum g3 e z ((i : Int) + 1) old := he3
  show wpAny (model prog w) _ (newTuple [.int i s.toks, .ref s.heap.objs.size] >>= _) _ _ _; refine wpAny_bind (wpAny_newTuple ?_)
  have sz3 : g3.objs.size = s.heap.objs.size + 1 := by rw [e3.1, e2.1]; exact s1
  have he4 : IsEnum (g3.push { cls := .type "tuple", data := .seq #[.int i s.toks, .ref s.heap.objs.size] }) e z ((i : Int) + 1) old := Heap.get?_push_of_some _ he3
  have t4 : IsPair (g3.push { cls := .type "tuple", data := .seq #[.int i s.toks, .ref s.heap.objs.size] }) (s.heap.objs.size + 1) (.int i s.toks) (.ref s.heap.objs.size) := by rw [← sz3]; exact Heap.get?_push_size _ rfl
  have s4 : (g3.push { cls := .type "tuple", data := .seq #[.int i s.toks, .ref s.heap.objs.size] }).objs.size = s.heap.objs.size + 2 := by rw [Heap.size_push, sz3]
  have k4 : ∀ c o, c ≠ e → g1.get? c = some o → (g3.push { cls := .type "tuple", data := .seq #[.int i s.toks, .ref s.heap.objs.size] }).get? c = some o := fun c o n q => Heap.get?_push_of_some _ (e3.extBut c o n (e2.extBut c o n q))
  show wpAny (model prog w) _ (Builtin.SmallTypes.ownedTupleIsFree (.ref e) >>= _) _ _ { s with heap := g3.push { cls := .type "tuple", data := .seq #[.int i s.toks, .ref s.heap.objs.size] }, toks := s.toks + 1 }
  show wpAny (model prog w) _ _ _ _ { s with heap := g3.push { cls := .type "tuple", data := .seq #[.int i s.toks, .ref s.heap.objs.size] }, toks := s.toks + 1 }
  rw [sz3]
  generalize g3.push { cls := .type "tuple", data := .seq #[.int i s.toks, .ref s.heap.objs.size] } = g4 at he4 t4 s4 k4 ⊢
  refine wpAny_bind ?_; unfold Builtin.SmallTypes.ownedTupleIsFree; refine wpAny_bind (wpAny_field he4 rfl (x := .none) rfl (wpAny_pure ?_))
  simp only [if_true]; refine wpAny_bind (wpAny_rule (wpAny_bind (wpAny_field he4 rfl (x := old) rfl ?_)))
  refine wpAny_bind (wpAny_setField_rec (s := { s with heap := g4, toks := s.toks + 1 }) he4 (by simp) fun g5 he5 e5 => ?_)
  replace he5 : IsEnum g5 e z ((i : Int) + 1) (.ref s.heap.objs.size) := he5
  show wpAny (model prog w) _ (Builtin.SmallTypes.ownedTupleHandOut (.ref e) (.ref (s.heap.objs.size + 1)) >>= _) _ _ _; refine wpAny_bind ?_; unfold Builtin.SmallTypes.ownedTupleHandOut
  refine wpAny_bind (wpAny_setField_rec (s := { s with heap := g5, toks := s.toks + 1 }) he5 (by simp) fun g6 he6 e6 => ?_)
  replace he6 : IsEnumOut g6 e z ((i : Int) + 1) (.ref s.heap.objs.size) (s.heap.objs.size + 1) := he6
  refine wpAny_setField_rec (s := { s with heap := g6, toks := s.toks + 1 }) he6 (by simp) fun g7 he7 e7 => ?_
  replace he7 : IsEnumOut g7 e z ((i : Int) + 1) (.ref s.heap.objs.size) (s.heap.objs.size + 1) := he7
  have k7 : ∀ c o, c ≠ e → g4.get? c = some o → g7.get? c = some o := fun c o n q => e7.extBut c o n (e6.extBut c o n (e5.extBut c o n q))
  have up : ∀ c o, c ≠ e → g1.get? c = some o → g7.get? c = some o := fun c o n q => k7 c o n (k4 c o n q)
  have n1 : s.heap.objs.size ≠ e := Nat.ne_of_gt elt
  have n2 : s.heap.objs.size + 1 ≠ e := Nat.ne_of_gt (Nat.lt_succ_of_lt elt)
  refine wpAny_bind (wpAny_letGo (wpAny_pure ⟨_, rfl, wpAny_pure (hQ g7 he7 ?_ (up _ _ eti.symm ri1) ?_ (a1.at fun o q => up _ o ne.2.2.1.symm q) (a2.at fun o q => up _ o ne.2.2.2.symm q) (up _ _ n1 t1) (k7 _ _ n2 t4) ?_ fun c o c1 c2 c3 c4 c5 q => up c o c1 (k1' c o c2 c3 c4 c5 q))⟩))
  · rcases r1 with r1 | ⟨t, b, r1⟩
    · exact .inl (up _ _ ne.1.symm r1)
    · exact .inr ⟨t, b, up _ _ ne.1.symm r1⟩
  · obtain ⟨a, b, p⟩ := ro1
    exact ⟨a, b, up _ _ ne.2.1.symm p⟩
  · rw [e7.1, e6.1, e5.1, s4]
theorem ez_end {e : Addr} {i : Int} {old : Value} {Q : Option Value → Shared → Prop} (hh : A.handled = none) (D : ZipApart z ti to j1 j2 m1 m2) (he : IsEnum s.heap e z i old) (r : ZSt s.heap z ti to) (ri : IsPair s.heap ti (.ref j1) (.ref j2)) (ro : ∃ a b, IsPair s.heap to a b)
    (q1 : s.heap.IsListIter j1 m1 k1) (q2 : s.heap.IsListIter j2 m2 k2) (l1 : s.heap.IsList m1 xs) (l2 : s.heap.IsList m2 ys) (hend : xs[k1]? = none ∨ ys[k2]? = none)
    (hQ : ∀ g, (∀ c o, c ≠ z → c ≠ to → c ≠ j1 → c ≠ j2 → s.heap.get? c = some o → g.get? c = some o) → Q none { s with heap := g }) : wpAny (model prog w) A (pyNext (.ref e)) Q E s := by
  have ty : s.TypeIs (.ref e) "enumerate" := ⟨_, he, rfl⟩
  unfold pyNext; refine wpAny_bind (wpAny_attempt (wpAny_callSpecial?_slot (name := Str.ofString "__next__") ty F.slot_enumerate_next (wpAny_call_entry F.slot_enumerate_next ty F.entry_enumerate_next ?_ (F.args_enumerate_next_1 _))))
  show wpAny (model prog w) _ (field (.ref e) 2 >>= _) _ _ s; refine wpAny_bind (wpAny_field he rfl (x := .ref z) rfl ?_)
  refine wpAny_bind (zip_anyEnd (by first | exact hh | simpa using hh) D r ri ro q1 q2 l1 l2 hend fun g ex k ⟨o, ho, hc⟩ => ?_)
  refine wpAny_bind (wpAny_isInstance (T := "StopIteration") (b := true) ⟨o, ho, hc⟩ isSubtype_stop ?_); exact wpAny_pure (hQ _ k)
end
section
variable {X : Cx} {pins : List (Addr × Obj)} {σ : List (Option V)} {H : Hp} {s : Shared} {g : Heap}
/-- two new things at once, while things of an iterator turn -/
theorem inv_two {n : Nat} {fp : List Addr} {T U : Addr} {o1 o2 : HO} (I : Inv X pins σ H s) (kp : ∀ c o, c ∉ fp → s.heap.get? c = some o → g.get? c = some o) (hf : ∀ c ∈ fp, FpOk X pins H c) (hT : s.heap.objs.size ≤ T) (hU : s.heap.objs.size ≤ U) (hTU : U ≠ T)
    (n1 : ObjOk X.prog X.w (upd (upd H T o1) U o2) g T o1) (n2 : ObjOk X.prog X.w (upd (upd H T o1) U o2) g U o2) : Inv X pins σ (upd (upd H T o1) U o2) { s with heap := g, toks := n } := by
  have eT : H T = none := I.hok.fresh hT
  have eU : H U = none := I.hok.fresh hU
  have up : ∀ c o, H c = some o → (upd (upd H T o1) U o2) c = some o := fun c o q => by
    rw [upd_ne (ne_of_none q eU), upd_ne (ne_of_none q eT)]; exact q
  have off : ∀ c o, H c = some o → c ∉ fp := fun c o q z => by
    have := (hf c z).1
    rw [this] at q; cases q
  refine I.step (g' := s.gens) (d' := s.drawn) (ch := fp) (fun c hc => ⟨(hf c hc).2.2.2.1, (hf c hc).2.1, (hf c hc).2.2.2.2.1, (hf c hc).2.2.2.2.2⟩) (fun c o _ _ hc q _ => kp c o hc q) (fun c o _ _ hc q _ => ⟨o.slots, kp c o hc q⟩)
    (fun c o _ q nn => ?_) (fun c o hc q => ⟨o, kp c o hc q⟩) (fun c xs q => up c _ q) (fun c o u q => up c _ q) (fun c ps q => ⟨#[], by rw [up c _ q]; simp⟩) (fun m hm => ?_) (fun c u q => ?_) I.bare
  · have lt := Heap.lt_size q
    rw [upd_ne (Nat.ne_of_lt (Nat.lt_of_lt_of_le lt hU)), upd_ne (Nat.ne_of_lt (Nat.lt_of_lt_of_le lt hT))]; exact nn
  · obtain ⟨o, es, ep, ho, rr⟩ := hm
    exact ⟨o, es, ep, kp _ o (fun zz => (hf _ zz).2.1 rfl) ho, rr⟩
  · by_cases hcU : c = U
    · subst hcU
      rw [upd_same] at q; cases q; exact n2
    · rw [upd_ne hcU] at q
      by_cases hcT : c = T
      · subst hcT
        rw [upd_same] at q; cases q; exact n1
      · rw [upd_ne hcT] at q
        refine (I.hok c u q).stay (fun d v hd e => kp d v ?_ e) (fun d e => up d _ e) fun d xs e => up d _ e
        rcases hd with zz | zz
        · rw [zz]; exact off c u q
        · exact off d _ zz
end
/-- the pairs of the lists at a and b with their places, in new tuples -/
def Itez (K : FK) (a b : Addr) : It :=
  ⟨fun i H => ∃ (xs ys : List V) (x y : V), SqL K H a xs ∧ SqL K H b ys ∧ xs[i]? = some x ∧ ys[i]? = some y,
   fun i H v H' => ∃ T x y, v = .ref (T + 1) ∧ H T = none ∧ H (T + 1) = none ∧ H' = upd (upd H T (.tup [x, y])) (T + 1) (.tup [.int (i : Nat), .ref T]) ∧ (∀ xs, SqL K H a xs → xs[i]? = some x) ∧ ∀ ys, SqL K H b ys → ys[i]? = some y,
   fun i H => ∃ xs ys : List V, SqL K H a xs ∧ SqL K H b ys ∧ (xs.length ≤ i ∨ ys.length ≤ i)⟩
section
variable {P : Program} {w : World} {K : FK} {elts : List Expr} {kk : Nat} {tpos : Pos} {a b e z ti to j1 j2 : Addr}
def EzSt (a b e z ti to j1 j2 : Addr) (i : Nat) (h : Heap) : Prop := (∃ old, IsEnum h e z ((i : Nat) : Int) old) ∧ ZSt h z ti to ∧ IsPair h ti (.ref j1) (.ref j2) ∧ (∃ x y, IsPair h to x y) ∧ h.IsListIter j1 a i ∧ h.IsListIter j2 b i
theorem turn_ez (D : ZipApart z ti to j1 j2 a b) (ne : e ≠ z ∧ e ≠ to ∧ e ≠ j1 ∧ e ≠ j2) (eti : e ≠ ti) (ea : e ≠ a ∧ e ≠ b) : Turn P w K (.Tuple elts kk tpos) (Itez K a b) [e, z, ti, to, j1, j2] e (EzSt a b e z ti to j1 j2) where
  mem := by simp
  obj := fun i h st c hc => by
    obtain ⟨⟨old, he⟩, hz, hi, ⟨x, y, ho⟩, ⟨o1, e1, _, d1⟩, ⟨o2, e2, _, d2⟩⟩ := st
    have e' : c = e ∨ c = z ∨ c = ti ∨ c = to ∨ c = j1 ∨ c = j2 := by simpa using hc
    rcases e' with q | q | q | q | q | q <;> rw [q]
    · exact ⟨_, he, fun v q => nomatch q⟩
    · rcases hz with hz | ⟨t, f, hz⟩
      · exact ⟨_, hz, fun v q => nomatch q⟩
      · exact ⟨_, hz, fun v q => nomatch q⟩
    · exact ⟨_, hi, fun v q => nomatch q⟩
    · exact ⟨_, ho, fun v q => nomatch q⟩
    · exact ⟨o1, e1, fun v q => by rw [d1] at q; cases q⟩
    · exact ⟨o2, e2, fun v q => by rw [d2] at q; cases q⟩
  keep := fun i h h' st k => by
    obtain ⟨⟨old, he⟩, hz, hi, ⟨x, y, ho⟩, h1, h2⟩ := st
    refine ⟨⟨old, k e (by simp) _ he⟩, ?_, k ti (by simp) _ hi, ⟨x, y, k to (by simp) _ ho⟩, h1.at fun o q => k j1 (by simp) o q, h2.at fun o q => k j2 (by simp) o q⟩
    rcases hz with hz | ⟨t, f, hz⟩
    · exact .inl (k z (by simp) _ hz)
    · exact .inr ⟨t, f, k z (by simp) _ hz⟩
  item := by
    intro X hP hw hK hc i pins s σ H E I hf st hg
    subst hP hw hK
    obtain ⟨⟨old, he⟩, hz, hi, ho, h1, h2⟩ := st
    obtain ⟨xs, ys, x, y, hqx, hqy, hx, hy⟩ := hg
    obtain ⟨its, rv, p, _⟩ := I.list hqx
    obtain ⟨its2, rv2, p2, _⟩ := I.list hqy
    obtain ⟨u, hu, ru⟩ := rv.get hx
    obtain ⟨u2, hu2, ru2⟩ := rv2.get hy
    have hel : e < s.heap.objs.size := Heap.lt_size he
    have hlt : ∀ c ∈ [e, z, ti, to, j1, j2], c < s.heap.objs.size := fun c hcm => by
      have e' : c = e ∨ c = z ∨ c = ti ∨ c = to ∨ c = j1 ∨ c = j2 := by simpa using hcm
      rcases e' with q | q | q | q | q | q <;> rw [q]
      · exact hel
      · rcases hz with hz | ⟨t, f, hz⟩ <;> exact Heap.lt_size hz
      · exact Heap.lt_size hi
      · obtain ⟨_, _, q⟩ := ho; exact Heap.lt_size q
      · obtain ⟨_, q, _⟩ := h1; exact Heap.lt_size q
      · obtain ⟨_, q, _⟩ := h2; exact Heap.lt_size q
    refine ez_item D ne eti he hz hi ho h1 h2 p.isList p2.isList (x := u) (y := u2) (by simpa using hu) (by simpa using hu2) fun g b1 b2 b3 b4 b5 b6 b7 b8 b9 b10 => ?_
    refine ⟨_, rfl, wpAny_letOwnedTupleGo_enum (s := { s with heap := g, toks := s.toks + 1 }) b1 fun g2 c1 sb => ?_⟩
    have n1 : s.heap.objs.size ≠ e := Nat.ne_of_gt hel
    have n2 : s.heap.objs.size + 1 ≠ e := Nat.ne_of_gt (Nat.lt_succ_of_lt hel)
    have t1 : IsPair g2 s.heap.objs.size u u2 := (sb.2 _ n1).trans b7
    have t2 : IsPair g2 (s.heap.objs.size + 1) (.int i s.toks) (.ref s.heap.objs.size) := (sb.2 _ n2).trans b8
    have fr : ∀ c o, c ∉ [e, z, ti, to, j1, j2] → s.heap.get? c = some o → g2.get? c = some o := fun c o hcm q => (sb.2 c (fun q' => hcm (by simp [q']))).trans (b10 c o (fun q' => hcm (by simp [q'])) (fun q' => hcm (by simp [q'])) (fun q' => hcm (by simp [q'])) (fun q' => hcm (by simp [q'])) (fun q' => hcm (by simp [q'])) q)
    have new1 : ObjOk X.prog X.w (upd (upd H s.heap.objs.size (.tup [x, y])) (s.heap.objs.size + 1) (.tup [.int (i : Nat), .ref s.heap.objs.size])) g2 s.heap.objs.size (.tup [x, y]) := ⟨by show 2 ≤ sizeLine; decide, [u, u2], .cons ru (.cons ru2 .nil), ⟨_, t1, rfl, _, rfl⟩⟩
    have new2 : ObjOk X.prog X.w (upd (upd H s.heap.objs.size (.tup [x, y])) (s.heap.objs.size + 1) (.tup [.int (i : Nat), .ref s.heap.objs.size])) g2 (s.heap.objs.size + 1) (.tup [.int (i : Nat), .ref s.heap.objs.size]) :=
      ⟨by show 2 ≤ sizeLine; decide, [.int i s.toks, .ref s.heap.objs.size], .cons ⟨_, rfl⟩ (.cons rfl .nil), ⟨_, t2, rfl, _, rfl⟩⟩
    have I1 := inv_two (n := s.toks + 1) (fp := [e, z, ti, to, j1, j2]) I fr hf (Nat.le_refl _) (Nat.le_succ _) (Nat.succ_ne_self _) new1 new2
    refine ⟨.ref (s.heap.objs.size + 1), _, I1, rfl, ⟨s.heap.objs.size, x, y, rfl, I.hok.fresh (Nat.le_refl _), I.hok.fresh (Nat.le_succ _), rfl, fun l hl => by rw [I.list_inj hl hqx]; exact hx, fun l hl => by rw [I.list_inj hl hqy]; exact hy⟩, ⟨⟨.ref s.heap.objs.size, ?_⟩, ?_, ?_, ?_, ?_, ?_⟩, fun c hcm => ?_⟩
    · have e1 : ((i + 1 : Nat) : Int) = (i : Int) + 1 := by omega
      rw [e1]; exact c1
    · rcases b2 with b2 | ⟨t, f, b2⟩
      · exact .inl ((sb.2 _ ne.1.symm).trans b2)
      · exact .inr ⟨t, f, (sb.2 _ ne.1.symm).trans b2⟩
    · exact (sb.2 _ eti.symm).trans b3
    · obtain ⟨p1, p2, p3⟩ := b4
      exact ⟨p1, p2, (sb.2 _ ne.2.1.symm).trans p3⟩
    · exact b5.at fun o q => (sb.2 _ ne.2.2.1.symm).trans q
    · exact b6.at fun o q => (sb.2 _ ne.2.2.2.symm).trans q
    · have hl := hlt c hcm
      rw [upd_ne (Nat.ne_of_lt (Nat.lt_succ_of_lt hl)), upd_ne (Nat.ne_of_lt hl)]
      exact (hf c hcm).1
  done := by
    intro X hP hw hK hc i pins s σ H E I hf st hg
    subst hP hw hK
    obtain ⟨⟨old, he⟩, hz, hi, ho, h1, h2⟩ := st
    obtain ⟨xs, ys, hqx, hqy, hend⟩ := hg
    obtain ⟨its, rv, p, _⟩ := I.list hqx
    obtain ⟨its2, rv2, p2, _⟩ := I.list hqy
    have l1 := rv.length
    have l2 := rv2.length
    have hne : its.toArray[i]? = none ∨ its2.toArray[i]? = none := by
      rcases hend with q | q
      · exact .inl (by simp; omega)
      · exact .inr (by simp; omega)
    exact ez_end (I.ok.hd hc) D he hz hi ho h1 h2 p.isList p2.isList hne fun g hk => ⟨rfl, I.turnedL (t' := s.toks) (ch := [e, z, ti, to, j1, j2]) (fun c o hb q => hk c o (fun q' => hb (by simp [q'])) (fun q' => hb (by simp [q'])) (fun q' => hb (by simp [q'])) (fun q' => hb (by simp [q'])) q) hf⟩
  self := fun A i s Q E st h => let ⟨⟨_, he⟩, _⟩ := st; wpAny_pyIter_enum he h
end
theorem meets_enum_zip (z ti to : Addr) :
    Meets (Builtin.«enumerate.__new__» ⟨[.type "enumerate", .ref z], []⟩) (fun _ R s => IsZip s.heap z ti to .none ∧
      R (.ok (.ret (.ref s.heap.objs.size))) { s with heap := s.heap.push { cls := .type "enumerate", data := .fields #[.none, .bool false, .ref z, rawInt 0, .none, .none] } }) :=
  .of_wp fun prog w A R s h => by
    obtain ⟨hp, g, d, tk, os⟩ := s; obtain ⟨hz, h⟩ := h
    have hsub := sub_enumerate
    have hZ : IsZip (Shared.heap ⟨hp, g, d, tk, os⟩) z ti to .none := hz
    wp_walk using wpAny_pyIter_zip hZ
    refine wpAny_stack_any fun st => wpAny_pure ?_
    split
    · rename_i c _ _ _ _ _
      cases (c == Value.type "enumerate") <;> (wp_walk using wpAny_pyIter_zip hZ; exact ⟨_, rfl, h⟩)
    · wp_walk using wpAny_pyIter_zip hZ
      exact ⟨_, rfl, h⟩
section
variable {prog : Program} {w : World} {A : Around} {E : Value → Shared → Prop} {s : Shared}
theorem call_enum_zip {z ti to : Addr} {Q : Value → Shared → Prop} (hz : IsZip s.heap z ti to .none)
    (h : ∀ g, IsEnum g s.heap.objs.size z 0 .none → g.objs.size = s.heap.objs.size + 1 → (∀ c o, s.heap.get? c = some o → g.get? c = some o) → Q (.ref s.heap.objs.size) { s with heap := g }) :
    wpAny (model prog w) A (call (.type "enumerate") [.ref z]) Q E s := by
  refine callType_new F.called_enumerate (by decide) (F.typeCall_enumerate_1 _) (F.newCall_enumerate_1 _) (fun obj => F.args_object_init_2 obj _) F.entry_enumerate_new (meets_enum_zip z ti to) ⟨hz, ?_⟩
  have ge : IsEnum (s.heap.push { cls := .type "enumerate", data := .fields #[.none, .bool false, .ref z, rawInt 0, .none, .none] }) s.heap.objs.size z 0 .none := Heap.get?_push_size _ rfl
  exact ⟨⟨_, ge, rfl⟩, h _ ge (Heap.size_push ..) fun c o q => Heap.get?_push_of_some _ q⟩
end
def iEz (K : FK) (ta : TA) : TI := fun σ H R => ta σ H fun vs H1 => ∃ a b xs ys, vs = [.ref a, .ref b] ∧ SqL K H1 a xs ∧ SqL K H1 b ys ∧ R (Itez K a b) H1
theorem pi_ez {X : Cx} {e e2 : Expr} {ta : TA} {p p2 pos pos2 tpos : Pos} {elts : List Expr} {kk : Nat} (hg : Gl X "enumerate") (hm : X.mg "enumerate" = none) (hgz : Gl X "zip") (hmz : X.mg "zip" = none) (ha : PA X [e, e2] ta)
    (hs : starEach [e, e2] X.env = (false, eval e X.env) :: starEach [e2] X.env := by rfl) (hpl : (backTo pos2 (starEach [e2] X.env)).any (·.1) = false := by rfl) :
    PI X (.Tuple elts kk tpos) (.Call (.Name "enumerate" p) [.Call (.Name "zip" p2) [e, e2] [] pos2] [] pos) (iEz X.K ta) := by
  refine ⟨fun pins s σ H R I h => ?_⟩
  refine Call_ (ld_blt I hg hm boot_enumerate (PyProof.Rows.callWith_type1 (PyProof.Rows.args_cons ?_)))
  refine Call_ (ld_blt I hgz hmz PyProof.Rows.boot_zip (PyProof.Rows.callWith_type1 (thn (ha.run pos2 pins s σ H _ I h) fun us s1 ⟨vs, H1, I1, r1, q1⟩ => ?_) hs hpl))
  obtain ⟨a, b, xs, ys, ex, hqx, hqy, q⟩ := q1
  subst ex
  obtain ⟨its, rv, p1, _⟩ := I1.list hqx
  obtain ⟨its2, rv2, p3, _⟩ := I1.list hqy
  have la : a < s1.heap.objs.size := p1.lt
  have lb : b < s1.heap.objs.size := p3.lt
  cases r1 with
  | cons r rr =>
    cases rr with
    | cons r' rr =>
      cases rr
      cases r
      cases r'
      refine call_zip_2 p1.isList p3.isList fun g1 hz hTI hTO h1 h2 hsz hk => PyProof.Rows.args_nil ?_
      refine call_enum_zip (s := { s1 with heap := g1 }) hz fun g2 he sz2 kp => wpAny_pyIter_enum he ?_
      have I2 : Inv X pins σ H1 { s1 with heap := g2 } := I1.kept (t' := s1.toks) fun c o q => kp c o (hk c o q)
      have sz : g1.objs.size = s1.heap.objs.size + 5 := hsz
      have he' : IsEnum g2 (s1.heap.objs.size + 5) (s1.heap.objs.size + 4) 0 .none := by rw [← sz]; exact he
      show PIE X pins σ (.Tuple elts kk tpos) R (.ref g1.objs.size) { s1 with heap := g2 }
      rw [sz]
      refine ⟨s1.heap.objs.size + 5, [s1.heap.objs.size + 5, s1.heap.objs.size + 4, s1.heap.objs.size + 2, s1.heap.objs.size + 3, s1.heap.objs.size, s1.heap.objs.size + 1], _, _, H1, rfl, I2, turn_ez (PySem.W.ktu_apart s1.heap.objs.size a b la lb) ⟨?_, ?_, ?_, ?_⟩ ?_ ⟨?_, ?_⟩, ⟨⟨_, he'⟩, .inl (kp _ _ hz), kp _ _ hTI, ⟨_, _, kp _ _ hTO⟩, h1.at fun o q => kp _ o q, h2.at fun o q => kp _ o q⟩, fun c hcm => ?_, q⟩
      all_goals first | exact Nat.ne_of_gt (Nat.lt_of_lt_of_le la (Nat.le_add_right _ _)) | exact Nat.ne_of_gt (Nat.lt_of_lt_of_le lb (Nat.le_add_right _ _)) | exact Nat.ne_of_gt (Nat.add_lt_add_left (by decide) _) | exact Nat.ne_of_gt (Nat.lt_add_of_pos_right (by decide)) | skip
      have hle : s1.heap.objs.size ≤ c := by
        have e' : c = s1.heap.objs.size + 5 ∨ c = s1.heap.objs.size + 4 ∨ c = s1.heap.objs.size + 2 ∨ c = s1.heap.objs.size + 3 ∨ c = s1.heap.objs.size ∨ c = s1.heap.objs.size + 1 := by simpa using hcm
        rcases e' with z | z | z | z | z | z <;> rw [z] <;> first | exact Nat.le_add_right _ _ | exact Nat.le_refl _
      exact I1.fpOk hle (I1.hok.fresh hle)
end Ly

namespace Ly
open PySem PySem.Spec PyProof.Rows L2
section
variable {K : FK} {B : Bs} {Γ : List Sl} {α β : Type} {e : α → DD} {e' : β → DD}
theorem ei_ez {xs : List α} {ys : List β} {te tb : TE} (h : EvD K B te Γ (.list (xs.map e))) (h2 : EvD K B tb Γ (.list (ys.map e'))) : EvI K B (iEz K (tCons te (tCons tb tNil))) Γ ((enumL 0 (xs.zip ys)).map (e2 PyData.int (e2 e e'))) := EvI0.gen (fun F σ H s R q =>
  h F σ H s _ fun v d H' ed s' => h2 _ σ H' s' _ fun u d2 H'' ed2 s'' => by
    subst ed ed2
    obtain ⟨G, s1⟩ := id s''
    obtain ⟨a, ws, rfl, ha, hs⟩ := (s1.tm (v, .list (xs.map e)) (by simp)).lst_inv
    obtain ⟨b, zs, rfl, hb, ht⟩ := (s1.tm (u, .list (ys.map e')) (by simp)).lst_inv
    refine ⟨a, b, ws, zs, rfl, SqL.of (s1.ex _ _ ha), SqL.of (s1.ex _ _ hb), q _ [(.ref a, .list (xs.map e)), (.ref b, .list (ys.map e'))] H'' (fun Γ2 F2 σ2 H2 s2 hT i => ?_) (s''.drop fun p hp => by
      simp at hp ⊢
      rcases hp with ee | ee | ee <;> simp [ee])⟩
    obtain ⟨G2, s3⟩ := id s2
    obtain ⟨a2, xs2, e2', ha2, hs2⟩ := (s3.tm (.ref a, .list (xs.map e)) (hT _ (by simp))).lst_inv
    obtain ⟨b2, ys2, e3', hb2, ht2⟩ := (s3.tm (.ref b, .list (ys.map e')) (hT _ (by simp))).lst_inv
    cases e2'
    cases e3'
    have sq : SqL K H2 a xs2 := SqL.of (s3.ex _ _ ha2)
    have sq2 : SqL K H2 b ys2 := SqL.of (s3.ex _ _ hb2)
    refine ⟨fun d hd => ?_, fun ee => ⟨xs2, ys2, sq, sq2, ?_⟩⟩
    · rw [List.getElem?_map] at hd
      cases hx : (xs.zip ys)[i]? with
      | none =>
        have : (enumL 0 (xs.zip ys))[i]? = none := by
          rw [List.getElem?_eq_none_iff, enumL_len]; exact List.getElem?_eq_none_iff.mp hx
        rw [this] at hd; cases hd
      | some xy =>
        rw [enumL_get hx] at hd
        cases hd
        obtain ⟨x, y⟩ := xy
        rw [List.getElem?_zip_eq_some] at hx
        obtain ⟨w, hw, hdw⟩ := hs2.get (i := i) (d := e x) (by rw [List.getElem?_map, hx.1]; rfl)
        obtain ⟨w2, hw2, hdw2⟩ := ht2.get (i := i) (d := e' y) (by rw [List.getElem?_map, hx.2]; rfl)
        refine ⟨⟨xs2, ys2, w, w2, sq, sq2, hw, hw2⟩, fun yv H3 hy => ?_⟩
        obtain ⟨T, x', y', rfl, hT', hT2, rfl, hy1, hy2⟩ := hy
        have h3 := hy1 xs2 sq
        have h4 := hy2 ys2 sq2
        rw [hw] at h3
        rw [hw2] at h4
        cases h3
        cases h4
        have hG : G2 T = none := s3.ex.none hT'
        have hH : (upd H2 T (.tup [w, w2])) (T + 1) = none := by rw [upd_ne (Nat.succ_ne_self _)]; exact hT2
        have g1 : Grow [] G2 H2 (upd G2 T (.tup [w, w2])) (upd H2 T (.tup [w, w2])) := Grow.laid s3.ex hT'
        have hG2 := g1.gh.none hH
        refine S.grown s3 (g1.trans (Grow.laid g1.gh hH)) (.tup (SqT.of upd_same) (.cons ?_ (.cons ?_ .nil)))
        · rw [Int.zero_add]; exact .int _
        · refine Da.mono (Ex.new hG2) (.tup (SqT.of upd_same) (.cons (hdw.mono (Ex.new hG)) (.cons (hdw2.mono (Ex.new hG)) .nil)))
    · rw [List.length_map, enumL_len, List.length_zip] at ee
      have h5 := hs2.length
      have h6 := ht2.length
      rw [List.length_map] at h5 h6
      omega)
end
section
variable {K : FK} {B : Bs} {Γ : List Sl} {F : Fra} {σ : L2.St} {H G : Hp} {v v' : V} {r r' : Res} {i j : Nat}
/-- a call has brought an own thing -/
theorem S0.adopt {G' H' : Hp} {T' : List (V × DD)} (h : S0 K B Γ F σ H G) (g : Grow [] G H G' H') (hr : r.ok K G' v H') (hn : ∀ a ∈ r.as, H a = none ∧ G' a = none) (ht : ∀ p ∈ T', Da K G' p.1 p.2) : S0 K B Γ ⟨T', F.X ++ [(v, r)]⟩ σ H' G' := by
  have h' := h.step (T' := T') g ht
  have hF : ∀ j, ownAt Γ ⟨T', F.X ++ [(v, r)]⟩ j = ownAt Γ (F.res1 v r) j := fun j => rfl
  refine ⟨h'.len, h'.grow, h'.sl, h'.tm, fun p hp => ?_, fun j k a h1 h2 => ?_, fun j a h1 => ?_⟩
  · rcases List.mem_append.mp hp with z | z
    · exact h'.xm p z
    · rw [List.mem_singleton.mp z]; exact hr
  · rw [hF, ownAt_res] at h1 h2
    split at h1 <;> split at h2
    · rename_i e1 e2; rw [e1, e2]
    · obtain ⟨o, ho⟩ := h.dom h2; rw [(hn a h1).1] at ho; cases ho
    · obtain ⟨o, ho⟩ := h.dom h1; rw [(hn a h2).1] at ho; cases ho
    · exact h.apart j k a h1 h2
  · rw [hF, ownAt_res] at h1
    split at h1
    · obtain ⟨e1, e2⟩ := hn a h1
      refine ⟨e2, ?_⟩
      cases q : B.H a with
      | none => exact .inr rfl
      | some o =>
        obtain ⟨o', e'⟩ := h.grow.dom a o q
        rw [e1] at e'; cases e'
    · exact h'.mine j a h1
/-- an own thing goes from its slot into the frame -/
theorem S0.untie (h : S0 K B Γ F σ H G) (hg : Γ[i]? = some (.own r)) (hv : σ[i]? = some (some v)) : S0 K B (Γ.set i .no) (F.res1 v r) σ H G := by
  have hi : i < Γ.length := (List.getElem?_eq_some_iff.mp hg).1
  have own : ∀ k a, a ∈ ownAt (Γ.set i .no) (F.res1 v r) k → (k = Γ.length + F.X.length ∧ a ∈ ownAt Γ F i) ∨ (k ≠ i ∧ k ≠ Γ.length + F.X.length ∧ a ∈ ownAt Γ F k) := fun k a ha => by
    rw [ownAt_set _ hi] at ha
    split at ha
    · cases ha
    · rename_i hk
      rw [ownAt_res] at ha
      split at ha
      · rename_i e; exact .inl ⟨e, by rw [ownAt_slot hg]; exact ha⟩
      · rename_i e; exact .inr ⟨hk, e, ha⟩
  refine ⟨by simpa using h.len, h.grow, fun k t e => ?_, h.tm, fun p hp => ?_, fun k l a h1 h2 => ?_, fun k a h1 => ?_⟩
  · by_cases hk : k = i
    · subst hk
      rw [List.getElem?_set_self hi] at e
      cases e
      trivial
    · rw [List.getElem?_set_ne (Ne.symm hk)] at e
      exact h.sl k t e
  · rcases List.mem_append.mp hp with z | z
    · exact h.xm p z
    · rw [List.mem_singleton.mp z]
      obtain ⟨v', e1, e2⟩ := h.own hg
      rw [hv] at e1
      cases e1
      exact e2
  · rcases own k a h1 with ⟨e1, z1⟩ | ⟨n1, m1, z1⟩ <;> rcases own l a h2 with ⟨e2, z2⟩ | ⟨n2, m2, z2⟩
    · rw [e1, e2]
    · exact absurd (h.apart _ _ a z1 z2) (Ne.symm n2)
    · exact absurd (h.apart _ _ a z1 z2) n1
    · exact h.apart k l a z1 z2
  · rcases own k a h1 with ⟨_, z1⟩ | ⟨_, _, z1⟩
    · exact h.mine i a z1
    · exact h.mine k a z1
/-- an own thing turns into another of fewer parts -/
theorem S0.swapX {T' : List (V × DD)} (h : S0 K B Γ (F.res1 v r) σ H G) (hr : r'.ok K G v' H) (ha : ∀ a ∈ r'.as, a ∈ r.as) (ht : ∀ p ∈ T', Da K G p.1 p.2) : S0 K B Γ ⟨T', F.X ++ [(v', r')]⟩ σ H G := by
  have own : ∀ k a, a ∈ ownAt Γ (F.res1 v' r') k → a ∈ ownAt Γ (F.res1 v r) k := fun k a z => by
    rw [ownAt_res] at z ⊢
    split at z
    · rename_i e; rw [if_pos e]; exact ha a z
    · rename_i e; rw [if_neg e]; exact z
  refine ⟨h.len, h.grow, h.sl, ht, fun p hp => ?_, fun k l a h1 h2 => h.apart k l a (own k a h1) (own l a h2), fun k a h1 => h.mine k a (own k a h1)⟩
  rcases List.mem_append.mp hp with z | z
  · exact h.xm p (by simp [z])
  · rw [List.mem_singleton.mp z]; exact hr
/-- two own things become one -/
theorem S0.joinX {v1 v2 : V} {r1 r2 : Res} (h : S0 K B Γ ((F.res1 v1 r1).res1 v2 r2) σ H G) (hr : r.ok K G v H) (ha : ∀ a ∈ r.as, a ∈ r1.as ∨ a ∈ r2.as) : S0 K B Γ (F.res1 v r) σ H G := by
  have own : ∀ k a, a ∈ ownAt Γ (F.res1 v r) k → (k = Γ.length + F.X.length ∧ (a ∈ r1.as ∨ a ∈ r2.as)) ∨ (k ≠ Γ.length + F.X.length ∧ a ∈ ownAt Γ F k) := fun k a z => by
    rw [ownAt_res] at z
    split at z
    · rename_i e; exact .inl ⟨e, ha a z⟩
    · rename_i e; exact .inr ⟨e, z⟩
  have i1 : ∀ a, a ∈ r1.as → a ∈ ownAt Γ ((F.res1 v1 r1).res1 v2 r2) (Γ.length + F.X.length) := fun a z => by
    rw [ownAt_res, if_neg (by simp), ownAt_res, if_pos rfl]; exact z
  have i2 : ∀ a, a ∈ r2.as → a ∈ ownAt Γ ((F.res1 v1 r1).res1 v2 r2) (Γ.length + F.X.length + 1) := fun a z => by
    rw [ownAt_res, if_pos (by simp; omega)]; exact z
  have i3 : ∀ k a, a ∈ ownAt Γ F k → a ∈ ownAt Γ ((F.res1 v1 r1).res1 v2 r2) k ∧ k ≠ Γ.length + F.X.length ∧ k ≠ Γ.length + F.X.length + 1 := fun k a z => by
    have n1 : k ≠ Γ.length + F.X.length := fun e => by subst e; rw [ownAt_end] at z; cases z
    have n2 : k ≠ Γ.length + F.X.length + 1 := fun e => by
      subst e
      unfold ownAt at z
      rw [if_neg (by omega), List.getElem?_eq_none (by omega)] at z
      cases z
    refine ⟨?_, n1, n2⟩
    rw [ownAt_res, if_neg (by simp; omega), ownAt_res, if_neg n1]; exact z
  have mv : ∀ k a, a ∈ ownAt Γ (F.res1 v r) k → ∃ l, a ∈ ownAt Γ ((F.res1 v1 r1).res1 v2 r2) l ∧ (l = k ∨ k = Γ.length + F.X.length ∧ l = Γ.length + F.X.length + 1) := fun k a z => by
    rcases own k a z with ⟨e, y | y⟩ | ⟨e, y⟩
    · exact ⟨_, i1 a y, .inl e.symm⟩
    · exact ⟨_, i2 a y, .inr ⟨e, rfl⟩⟩
    · exact ⟨k, (i3 k a y).1, .inl rfl⟩
  refine ⟨h.len, h.grow, h.sl, h.tm, fun p hp => ?_, fun k l a h1 h2 => ?_, fun k a h1 => ?_⟩
  · rcases List.mem_append.mp hp with z | z
    · exact h.xm p (by simp [z])
    · rw [List.mem_singleton.mp z]; exact hr
  · rcases own k a h1 with ⟨e1, y1⟩ | ⟨e1, y1⟩ <;> rcases own l a h2 with ⟨e2, y2⟩ | ⟨e2, y2⟩
    · rw [e1, e2]
    · exfalso
      obtain ⟨z1, n1, n2⟩ := i3 l a y2
      rcases y1 with y1 | y1
      · exact n1 (h.apart _ _ a z1 (i1 a y1))
      · exact n2 (h.apart _ _ a z1 (i2 a y1))
    · exfalso
      obtain ⟨z1, n1, n2⟩ := i3 k a y1
      rcases y2 with y2 | y2
      · exact n1 (h.apart _ _ a z1 (i1 a y2))
      · exact n2 (h.apart _ _ a z1 (i2 a y2))
    · exact h.apart k l a (i3 k a y1).1 (i3 l a y2).1
  · obtain ⟨l, z, _⟩ := mv k a h1
    exact h.mine l a z
end
def spO (K : FK) (f : List DD → (V → Res → Prop) → Prop) : Sp := fun vs H Q _ => ∃ G ds Pr, DaL K G vs ds ∧ Ex G H ∧ f ds Pr ∧ ∀ v r G' H', Pr v r → Grow [] G H G' H' → (∀ a ∈ r.as, H a = none ∧ G' a = none) → r.ok K G' v H' → Q v H'
def RetR (K : FK) (B : Bs) (Q : VK) (Pr : V → Res → Prop) : Prop := ∀ v r Γ F σ H', Pr v r → S K B Γ (Fra.res1 F v r) σ H' → Q v H'
section
variable {K : FK} {B : Bs} {Γ : List Sl} {F : Fra} {D : Ends} {te : TE} {Pr Pr' : V → Res → Prop} {Q : VK}
theorem er_callO {f : List DD → (V → Res → Prop) → Prop} {E : XK} {ta : TA} {ds : List DD} (h : EvAD K B ta Γ ds) (hf : f ds Pr) : EvR K B (tCall (spO K f) [] E ta) Γ (fun v r => Pr v r ∧ ∀ a ∈ r.as, a ∉ B.L) := fun F σ H s Q q =>
  h F σ H s _ fun vs es H1 p l s1 => by
    subst p
    obtain ⟨G, s1⟩ := s1
    rw [List.append_nil]
    refine ⟨G, es, Pr, daL_zip l fun p hp => s1.tm p (by simp [hp]), s1.ex, hf, fun v r G' H' pr g hn hr => q v r H' ⟨pr, fun a ha => s1.notLent (hn a ha).1⟩ ⟨G', s1.adopt (T' := F.T) g hr hn fun p hp => (s1.tm p (by simp [hp])).mono g.g⟩⟩
theorem nx_retR (h : EvR K B te Γ Pr) (k : RetR K B D.rt Pr) : Nx K B (tRet te D) Γ F := fun σ H s => h F σ H s _ fun v r H' pr s' => k v r Γ F σ H' pr s'
theorem ret0R {G H : Hp} (q : ∀ v r G' H', Pr v r → Grow [] G H G' H' → (∀ a ∈ r.as, H a = none ∧ G' a = none) → r.ok K G' v H' → Q v H') : RetR K (bs0 G H) Q Pr := fun v r Γ F σ H' pr ⟨G', s⟩ => q v r G' H' pr s.grow (fun a ha => by
  obtain ⟨m1, m2⟩ := s.mine (Γ.length + F.X.length) a (by rw [ownAt_res, if_pos rfl]; exact ha)
  rcases m2 with z | z
  · exact nomatch z
  · exact ⟨z, m1⟩) (s.xm (v, r) (by simp))
theorem RetR.imp (h : RetR K B Q Pr) (k : ∀ v r, Pr' v r → Pr v r) : RetR K B Q Pr' := fun v r Γ F σ H' p s => h v r Γ F σ H' (k v r p) s
/-- own lists -/
def PrL (ds : List DD) : V → Res → Prop := fun v r => ∃ p, v = .ref p ∧ r = lstR p ds
theorem EvR.imp (h : EvR K B te Γ Pr) (k : ∀ v r, Pr v r → Pr' v r) : EvR K B te Γ Pr' := fun F σ H s Q q => h F σ H s Q fun v r H' p => q v r H' (k v r p)
theorem er_N {ds : List DD} (h : EvND K B te Γ ds) : EvR K B te Γ (PrL ds) := fun F σ H s Q q => h F σ H s Q fun p es H' e _ s' => by
  subst e
  exact q _ _ H' ⟨p, rfl, rfl⟩ s'
theorem en_R {ds : List DD} (h : EvR K B te Γ (fun v r => PrL ds v r ∧ ∀ a ∈ r.as, a ∉ B.L)) : EvND K B te Γ ds := fun F σ H s Q q => h F σ H s Q fun v r H' ⟨⟨p, e1, e2⟩, hl⟩ s' => by
  subst e1 e2
  exact q p ds H' rfl (hl p (by simp [lstR])) s'
theorem en_callO {f : List DD → (V → Res → Prop) → Prop} {E : XK} {ta : TA} {ds es : List DD} (h : EvAD K B ta Γ ds) (hf : f ds (PrL es)) : EvND K B (tCall (spO K f) [] E ta) Γ es := en_R (er_callO h hf)
theorem nx_retO {i : Nat} {p : Addr} {ds : List DD} (hg : Γ[i]? = some (.own (lstR p ds))) (k : RetR K B D.rt (PrL ds)) : Nx K B (tRet (tVar i) D) Γ F := fun σ H ⟨G, s⟩ => by
  obtain ⟨v, hv, hr⟩ := s.own hg
  obtain ⟨rfl, _⟩ := id hr
  exact ⟨_, hv, k (.ref p) (lstR p ds) _ F σ H ⟨p, rfl, rfl⟩ ⟨G, s.untie hg hv⟩⟩
end
/-- THE RULE for a def on data that returns an own thing -/
theorem def_okO {P : Program} {w : World} {K : FK} {mg : Str → Option Value} {base : Heap} {x qual : Str} {st : Stmt} {fa : Addr} {fd : FuncData} {N ps : List Str} {k : Nat} {f : List DD → (V → Res → Prop) → Prop}
    (F : Fun K x qual st fa fd) (S : FnScope N ps (defScope st)) (hl : ∀ ds r, f ds r → ds.length = ps.length)
    (hb : ∀ (cdv : Value) (A : Around) (outer : List Env) (s : Shared) (H G : Hp) (E : XK) (ds : List DD) (Pr : V → Res → Prop), Room k (A.deeper (envOfC qual (defScope st) s.heap.objs.size fa cdv)) → f ds Pr →
      ∃ t, PSs (cxOf CX0 P w K mg base N qual (defScope st) fa cdv A outer s H E).nox (defBody st) t ∧ ∀ Q, RetR K (bs0 G H) Q Pr → Nx K (bs0 G H) (t { nx := fun _ H' => Q .non H', rt := Q }) (slots0 ds N.length) ⟨[], []⟩) :
    FnOk P w K mg base CX0 (k + 1) fa fd ps (spO K f) := by
  refine F.ok S (fun vs H Q E h => ?_) (fun cdv A outer s H vs Q E hr h => ?_)
  · obtain ⟨G, ds, r, hd, _, hf, _⟩ := h
    rw [hd.length]; exact hl ds r hf
  · obtain ⟨G, ds, r, hd, he, hf, q⟩ := h
    obtain ⟨t, ht, hn⟩ := hb cdv A outer s H G E ds r hr hf
    refine ⟨t, ht, hn Q (ret0R q) _ _ (start_S he hd ?_)⟩
    have h1 : (N.take ps.length).length = ps.length := by rw [S.pre]
    rw [List.length_take] at h1
    rw [hl ds r hf]; omega
def pairR (t p q : Addr) (rs ss : List DD) : Res where
  as := [p, q]
  ok := fun K G v H => v = .ref t ∧ SqT K G t [.ref p, .ref q] ∧ (∃ xs, H p = some (.lst xs) ∧ DaL K G xs rs) ∧ ∃ ys, H q = some (.lst ys) ∧ DaL K G ys ss
  mono := fun e ⟨h1, h2, ⟨xs, h3, h4⟩, ys, h5, h6⟩ => ⟨h1, ex_t e h2, ⟨xs, h3, h4.mono e⟩, ys, h5, h6.mono e⟩
  loc := fun e ⟨h1, h2, ⟨xs, h3, h4⟩, ys, h5, h6⟩ => ⟨h1, h2, ⟨xs, e p _ (by simp) h3, h4⟩, ys, e q _ (by simp) h5, h6⟩
  dom := fun ⟨_, _, ⟨xs, h3, _⟩, ys, h5, _⟩ a ha => by
    have e : a = p ∨ a = q := by simpa using ha
    rcases e with e | e
    · subst e; exact ⟨_, h3⟩
    · subst e; exact ⟨_, h5⟩
def PrP (rs ss : List DD) : V → Res → Prop := fun v r => ∃ t p q, v = .ref t ∧ r = pairR t p q rs ss
section
variable {K : FK} {B : Bs} {Γ : List Sl} {F : Fra} {D : Ends} {te : TE}
theorem nx_retLL {i j : Nat} {p q : Addr} {rs ss : List DD} (hi : Γ[i]? = some (.own (lstR p rs))) (hj : Γ[j]? = some (.own (lstR q ss))) (hij : i ≠ j) (k : RetR K B D.rt (PrP rs ss)) : Nx K B (tRet (tTup (tCons (tVar i) (tCons (tVar j) tNil))) D) Γ F := fun σ H ⟨G, s⟩ => by
  obtain ⟨v, hv, hr⟩ := s.own hi
  obtain ⟨u, hu, hs⟩ := s.own hj
  obtain ⟨rfl, xs, hp, hx⟩ := id hr
  obtain ⟨rfl, ys, hq, hy⟩ := id hs
  refine ⟨_, hv, _, hu, by show 2 ≤ sizeLine; decide, fun t ht => ?_⟩
  have z1 := s.untie hi hv
  have z2 := z1.untie (i := j) (r := lstR q ss) (by rw [List.getElem?_set_ne hij]; exact hj) hu
  have g : Grow [] G H (upd G t (.tup [.ref p, .ref q])) (upd H t (.tup [.ref p, .ref q])) := Grow.laid s.ex ht
  have z3 := z2.step (T' := F.T) g fun a ha => (s.tm a ha).mono g.g
  have np : p ≠ t := fun e => by rw [e, ht] at hp; cases hp
  have nq : q ≠ t := fun e => by rw [e, ht] at hq; cases hq
  refine k (.ref t) (pairR t p q rs ss) _ F σ _ ⟨t, p, q, rfl, rfl⟩ ⟨_, z3.joinX ?_ ?_⟩
  · exact ⟨rfl, SqT.of upd_same, ⟨xs, by rw [upd_ne np]; exact hp, hx.mono g.g⟩, ys, by rw [upd_ne nq]; exact hq, hy.mono g.g⟩
  · intro a ha
    have e : a = p ∨ a = q := by simpa [pairR] using ha
    rcases e with e | e
    · exact .inl (by simp [lstR, e])
    · exact .inr (by simp [lstR, e])
/-- f(..)[0] of such a pair -/
theorem en_fst {rs ss : List DD} (h : EvR K B te Γ (fun v r => PrP rs ss v r ∧ ∀ a ∈ r.as, a ∉ B.L)) : EvND K B (tOp (rIxT K) te (tC (.int 0))) Γ rs := fun F σ H s Q q =>
  h F σ H s _ fun v r H' ⟨⟨t, p, q', e1, e2⟩, hl⟩ ⟨G, s'⟩ => by
    subst e1 e2
    obtain ⟨_, h2, h3, h4⟩ := s'.xm (.ref t, pairR t p q' rs ss) (by simp)
    exact ⟨t, [.ref p, .ref q'], 0, .ref p, rfl, rfl, ex_t s'.ex h2, rfl, q p rs H' rfl (hl p (by simp [pairR])) ⟨G, s'.swapX (T' := F.T) (r' := lstR p rs) ⟨rfl, h3⟩ (fun a ha => by
      have e : a = p := by simpa [lstR] using ha
      simp [pairR, e]) s'.tm⟩⟩
end
section
variable {α β : Type} {f : DD → Option α} {g : DD → Option β} {ea : α → DD} {eb : β → DD}
def de2 (f : DD → Option α) (g : DD → Option β) : DD → Option (α × β)
  | .tuple [x, y] => oo (f x) fun a => oo (g y) fun b => some (a, b)
  | _ => none
theorem de2_eq (hf : ∀ d a, f d = some a → d = ea a) (hg : ∀ d b, g d = some b → d = eb b) {d : DD} {p : α × β} (h : de2 f g d = some p) : d = e2 ea eb p := by
  unfold de2 at h
  split at h
  · obtain ⟨a, h1, h⟩ := oo_some h
    obtain ⟨b, h2, h⟩ := oo_some h
    cases h
    rw [hf _ _ h1, hg _ _ h2]; rfl
  · cases h
theorem de2_enc (hf : ∀ a, f (ea a) = some a) (hg : ∀ b, g (eb b) = some b) (p : α × β) : de2 f g (e2 ea eb p) = some p := by
  show oo (f (ea p.1)) _ = _
  rw [hf]
  show oo (g (eb p.2)) _ = _
  rw [hg]; rfl
variable [DecidableEq α] {n : Nat}
theorem tqO (h : Tq ea n) (hn : ∀ x, PyData.eqv .none (ea x) = false ∧ PyData.eqv (ea x) .none = false) : Tq (eO ea) n := ⟨fun x y => by
  cases x with
  | none =>
    cases y with
    | none =>
      have z : PyData.eqv .none .none = true := by decide +kernel
      show PyData.eqv .none .none = _
      rw [z]; simp
    | some y =>
      show PyData.eqv .none (ea y) = _
      rw [(hn y).1]; simp
  | some x =>
    cases y with
    | none =>
      show PyData.eqv (ea x) .none = _
      rw [(hn x).2]; simp
    | some y =>
      show PyData.eqv (ea x) (ea y) = _
      rw [h.eq]; simp, fun x => by
  cases x with
  | none => exact ⟨rfl, Nat.zero_le _⟩
  | some x => exact h.ok x⟩
end
theorem and_g {a b : Bool} (h : (!a || b) = true) (ha : a = true) : b = true := by subst ha; simpa using h
theorem EvTP.imp {K : FK} {B : Bs} {Γ : List Sl} {tt : TT} {Pq Pr : Bool → Prop} (h : EvTP K B tt Γ Pq) (k : ∀ b, Pq b → Pr b) : EvTP K B tt Γ Pr := fun F σ H s Q q => h F σ H s Q fun b H' p s' => q b H' (k b p) s'
section
variable {K : FK} {B : Bs} {Γ : List Sl} {te te' : TE} {tt : TT} {g : TG} {us : List Nat} {τ : Type} {C : τ → Prop} {n : τ → Int} {P : DD → Prop}
def iCst (J : It) : TI := fun _ H R => R J H
theorem ei_cst {n : Nat} : EvI K B (iCst (Itr 0 n)) Γ ((intsF 0 n).map .int) := EvI0.gen (fun F σ H s R q => q _ [] H goes_range s)
theorem ev_lcR (h : Ev K B te Γ (fun d => ∃ b, C b ∧ d = .int (n b))) (hn : ∀ b, C b → r1Ok (n b) = true) (k : ∀ b, C b → Ev K B (tLc (iCst (Itr 0 (n b).toNat)) g tt te' us) Γ P) : Ev K B (tLc (iRng1 (tCons te tNil)) g tt te' us) Γ P := fun F σ H s Q q =>
  h F σ H s _ fun v d H1 ⟨b, hb, ed⟩ s1 => by
    subst ed
    obtain ⟨G, z⟩ := id s1
    have hr : -(2 ^ 62) ≤ n b ∧ n b < 2 ^ 62 := by
      have := hn b hb
      unfold r1Ok at this
      exact of_decide_eq_true this
    exact ⟨n b, congrArg (fun x => [x]) (z.tm (v, .int (n b)) (by simp)).int_inv, hr.1, hr.2, k b hb F σ H1 s1.pop Q q⟩
theorem ei_rangeP (h : Ev K B te Γ (fun d => ∃ b, C b ∧ d = .int (n b))) (hn : ∀ b, C b → r1Ok (n b) = true) : EvIP K B (iRng1 (tCons te tNil)) Γ (fun ds => ∃ b, C b ∧ ds = (intsF 0 (n b).toNat).map .int) := fun F σ H s R q =>
  h F σ H s _ fun v d H1 ⟨b, hb, ed⟩ s1 => by
    subst ed
    obtain ⟨G, z⟩ := id s1
    have hr : -(2 ^ 62) ≤ n b ∧ n b < 2 ^ 62 := by
      have := hn b hb
      unfold r1Ok at this
      exact of_decide_eq_true this
    exact ⟨n b, congrArg (fun x => [x]) (z.tm (v, .int (n b)) (by simp)).int_inv, hr.1, hr.2, q _ [] _ H1 ⟨b, hb, rfl⟩ goes_range s1.pop⟩
end
end Ly

namespace Ly
open PySem PySem.Spec PyProof.Rows L2
section
variable {κ β : Type}
def eDc (ek : κ → DD) (ev : β → DD) (l : List (κ × β)) : DD := .dict (l.map fun p => (ek p.1, ev p.2))
variable [DecidableEq κ] {nk : κ → NK} {ek : κ → DD} {ev : β → DD} {n : Nat} {l m : List (κ × β)} {x : κ} {y : β}
theorem dkv_of (h : Kc nk ek n) (l : List (κ × β)) : dkv (kdsOf nk ev l) = l.map fun p => (ek p.1, ev p.2) := by
  unfold dkv kdsOf
  rw [List.map_map]
  refine List.map_congr_left fun p _ => ?_
  show ((nk p.1).data, ev p.2) = _
  rw [h.data]
variable {K : FK} {B : Bs} {Γ : List Sl} {F : Fra} {D : Ends} {td tk tv te : TE} {j i : Nat} {p : Addr}
theorem edc_D (h : Kc nk ek n) (hd : EvD K B td Γ (eDc ek ev l)) : EvDc K B td Γ (kdsOf nk ev l) := edc_dat (by
  rw [dkv_of h]; exact hd)
theorem dn_frz {G H : Hp} {kds : List (NK × DD)} {v : V} (h : (dnR p kds).ok K G v H) : v = .ref p ∧ ∃ o, H p = some o ∧ ∀ G', Ex G G' → G' p = some o → Da K G' (.ref p) (.dict (dkv kds)) := by
  obtain ⟨e, ep, kvs, h1, h2⟩ := h
  exact ⟨e, _, h1, fun G' ex hg => .dct hg (h2.mono ex).daD⟩
theorem nx_freezeD {q : L2.St → Hp → Prop} (i : Nat) (h : Kc nk ek n) (hx : Γ[i]? = some (.own (dnR p (kdsOf nk ev l)))) (hl : p ∉ B.L) (k : Nx K B q (Γ.set i (.dat (eDc ek ev l))) F) : Nx K B q Γ F := fun σ H ⟨G, s⟩ => k σ H (by
  have := s.freezeR (d := .dict (dkv (kdsOf nk ev l))) hx rfl (fun v hr => dn_frz hr) hl
  rw [dkv_of h] at this
  exact this)
/-- a new own dict as data -/
theorem er_dat (h : Kc nk ek n) (hd : EvR K B td Γ (fun v r => ∃ p, v = .ref p ∧ p ∉ B.L ∧ r = dnR p (kdsOf nk ev l))) : EvD K B td Γ (eDc ek ev l) := fun F σ H s Q q =>
  hd F σ H s _ fun v r H' ⟨p, e1, hl, e2⟩ ⟨G, s'⟩ => by
    subst e1 e2
    refine q _ _ H' rfl ?_
    have := s'.freezeRX (d := .dict (dkv (kdsOf nk ev l))) rfl (fun v hr => dn_frz hr) hl
    rw [dkv_of h] at this
    exact this
end
def rLenN (K : FK) : List V → Hp → VK → Prop := fun xs H Q => ∃ a ep kvs kds G, xs = [.ref a] ∧ Ex G H ∧ H a = some (ddO a ep kvs) ∧ DnOk K G kvs kds ∧ AllT kds ∧ Q (.int (kvs.length : Nat)) H
def tDM (r : V → List V → Hp → VK → Prop) (to : TE) (t : TA) : TE := fun σ H Q => to σ H fun x H1 => (∃ a ep kvs, x = .ref a ∧ H1 a = some (ddO a ep kvs)) ∧ t σ H1 fun xs H2 => r x xs H2 Q
section
variable {X : Cx} {o e : Expr} {es : List Expr} {to : TE} {t : TA} {name : Str} {apos cpos : Pos} {id : String} {r : V → List V → Hp → VK → Prop}
theorem dd_ty {pins : List (Addr × Obj)} {σ : L2.St} {H : Hp} {s : Shared} (I : Inv X pins σ H s) {a : Addr} {ep : Nat} {kvs : KVs} (h : H a = some (ddO a ep kvs)) : s.TypeIs (.ref a) "dict" ∧ ∀ b, Value.ref a = .ref b → ∃ ob, s.heap.get? b = some ob ∧ ob.dict = none := by
  obtain ⟨⟨_, _, _, _, _, o, es, w, h1, h2, _⟩, _⟩ := I.hok a _ h
  refine ⟨⟨o, h1, h2.1⟩, fun b e => ?_⟩
  cases e
  exact ⟨o, h1, h2.2.1⟩
theorem pe_dm (slot : Slot "dict" name id) (hty : typeOf (.builtin id) = pure (.type "method_descriptor")) (hm : MtR X id r) (ho : PE X o to) (ha : PA X (e :: es) t)
    (hbase : attributeBase o name X.env (eval o X.env) = eval o X.env := by rfl)
    (hfew : ((backTo cpos (starEach (e :: es) X.env)).all (fun x => !x.1) && (backToKw cpos (keywordEach [] X.env)).all (fun x => x.1.isSome) && decide ((e :: es).length + ([] : List Keyword).length + (if ([] : List Keyword).isEmpty then 0 else 1) < 30)) = true := by rfl)
    (hline : (apos.endLine == cpos.line) = true := by rfl) (hs : starEach (e :: es) X.env = (false, eval e X.env) :: starEach es X.env := by rfl) (hplain : (backTo cpos (starEach es X.env)).any (·.1) = false := by rfl) :
    PE X (.Call (.Attribute o name apos) (e :: es) [] cpos) (tDM r to t) := by
  refine ⟨fun pins s σ H Q I h => ?_⟩
  refine wpAny_Call_method_late hbase hfew hline rfl (thn (ho.run pins s σ H _ I h) fun v s1 ⟨x, H1, I1, r1, ⟨a, ep, kvs, ex, hh⟩, q1⟩ => ?_)
  subst ex
  cases (show v = Value.ref a from r1)
  obtain ⟨h1, h2⟩ := dd_ty I1 hh
  refine ⟨"dict", id, PySem.F.plainAttrs_dict, slot, hty, h1, h2, ?_⟩
  have hA := ha.run cpos pins s1 σ H1 _ I1 q1
  rw [hs] at hA ⊢
  refine Calls.callWith_builtin (by show (false || (backTo cpos (starEach es X.env)).any (·.1)) = false; rw [hplain] <;> rfl) (Calls.evalArgs_plain ?_)
  exact thn hA fun us s2 ⟨vs, H2, I2, r2, q2⟩ => hm pins s2 σ H2 (.ref a) vs _ us Q I2 rfl r2 q2
end
def rGetN (K : FK) : V → List V → Hp → VK → Prop := fun x xs H Q => ∃ a q dv k ep kvs kds G, x = .ref a ∧ xs = [.ref q, dv] ∧ dnK K H a q k ep kvs kds G ∧ ((∀ d, getA kds k = some d → ∀ v, Da K G v d → Q v H) ∧ (getA kds k = none → Q dv H))
def rSdN (K : FK) : V → List V → Hp → VK → Prop := fun x xs H Q => ∃ a q dv k ep kvs kds G, x = .ref a ∧ xs = [.ref q, dv] ∧ dnK K H a q k ep kvs kds G ∧ kvs.length < sizeLine ∧ ((∀ d, getA kds k = some d → ∀ v, Da K G v d → Q v H) ∧ (getA kds k = none → ∀ ep', Q dv (upd H a (ddO a ep' (putV kvs k (.ref q) dv)))))
section
variable {X : Cx}
theorem call_lenN : CallR X (.builtin "len") (rLenN X.K) := by
  intro pins s σ H xs us Q I r h
  obtain ⟨a, ep, kvs, kds, G, rfl, e, ha, hk, ht, z⟩ := h
  obtain ⟨u, rfl, rx⟩ := vals1 r
  cases (show u = Value.ref a from rx)
  obtain ⟨hz, hs, _, ys, rr, dd⟩ := dn_at I e ha hk ht
  have hl : kvs.length = ys.length := Paired.length rr
  refine call_len_dictH hs dd (by rw [← hl]; rw [sizeLine_eq] at hz; omega) ?_
  rw [← hl]
  exact ⟨.int _, H, I.tok _, ⟨_, rfl⟩, z⟩
theorem mt_getN {n : Nat} (hr : Room n X.A) : MtR X "dict.get" (rGetN X.K) := by
  intro pins s σ H x xs v us Q I rx rxs h
  obtain ⟨a, q, dv, k, ep, kvs, kds, G, rfl, rfl, ⟨e, ha, hk, ht, hq, hd, _⟩, h1, h2⟩ := h
  cases (show v = Value.ref a from rx)
  obtain ⟨u1, u2, rfl, r1, r2⟩ := vals2 rxs
  cases (show u1 = Value.ref q from r1)
  obtain ⟨_, hs, _, ys, r, dd⟩ := dn_at I e ha hk ht
  have hu : X.A.units + 65 < cLine := by have := hr.un; omega
  refine call_meetsIn F.slot_dict_get dd.typeIs F.entry_dict_get (F.args_dict_get_3 _ _ _) (meetsH_dict_get_default (nestedKind X.prog X.w) a q hs u2) ⟨(by show X.A.in1.units + 8 < cLine; rw [Around.in1_units]; omega), k, ys, key_at I e hq hd, dd, ?_⟩
  obtain ⟨g1, g2⟩ := dn_get (k := k) r hk
  cases hg : getA kds k with
  | none =>
    rw [g2 hg]
    exact ⟨dv, H, I.tok _, r2, h2 hg⟩
  | some d =>
    obtain ⟨p, w, e1, rw', hw⟩ := g1 d hg
    rw [e1]
    exact ⟨w, H, I.tok _, rw', h1 d hg w hw⟩
theorem mt_sdN {n : Nat} (hr : Room n X.A) : MtR X "dict.setdefault" (rSdN X.K) := by
  intro pins s σ H x xs v us Q I rx rxs h
  obtain ⟨a, q, dv, k, ep, kvs, kds, G, rfl, rfl, ⟨e, ha, hk, ht, hq, hd, hp⟩, hl, h1, h2⟩ := h
  cases (show v = Value.ref a from rx)
  obtain ⟨u1, u2, rfl, r1, r2⟩ := vals2 rxs
  cases (show u1 = Value.ref q from r1)
  obtain ⟨hz, hs, pl, ys, r, dd⟩ := dn_at I e ha hk ht
  have hu : X.A.units + 65 < cLine := by have := hr.un; omega
  obtain ⟨g1, g2⟩ := dn_get (k := k) r hk
  refine call_setdefault_heap (knd := nestedKind X.prog X.w) (hsz := by rw [← Paired.length r]; exact hz) (by show X.A.in1.units + 8 < cLine; rw [Around.in1_units]; omega) (key_at I e hq hd) hs dd (fun p hp' => ?_) fun hn h' dd' hs' => ?_
  · cases hg : getA kds k with
    | none => rw [g2 hg] at hp'; cases hp'
    | some d =>
      obtain ⟨p', w, e1, rw', hw⟩ := g1 d hg
      rw [e1] at hp'
      cases hp'
      exact ⟨w, H, I.tok _, rw', h1 d hg w hw⟩
  · have hg : getA kds k = none := by
      cases hg : getA kds k with
      | none => rfl
      | some d =>
        obtain ⟨p', w, e1, _⟩ := g1 d hg
        rw [e1] at hn; cases hn
    obtain ⟨o, es, ep0, h3, _⟩ := id dd'
    obtain ⟨ep', rw'⟩ := raw_of (by have := putV_len kvs k (.ref q) dv; omega) hs (putV_plain pl hp) (dn_put r2 r) dd'
    exact ⟨dv, _, d_write I (by rw [ha]; exact True.intro) hs' ⟨o, h3⟩ (ddO_ok rw'), r2, h2 hg ep'⟩
end
section
variable {κ β : Type} [DecidableEq κ] {nk : κ → NK} {ek : κ → DD} {ev : β → DD} {n : Nat} {l m : List (κ × β)} {x : κ} {y : β}
variable {K : FK} {B : Bs} {Γ Γ' : List Sl} {F : Fra} {D : Ends} {td tk tv te : TE} {j i : Nat} {p : Addr}
theorem et_lenN (ht : IsTup nk) (hd : EvDc K B td Γ (kdsOf nk ev l)) : EvD K B (tCB (rLenN K) (tCons td tNil)) Γ (.int ((l.length : Nat) : Int)) := fun F σ H s Q q =>
  hd F σ H s _ fun p T0 H1 at0 s1 => by
    obtain ⟨G, z⟩ := id s1
    obtain ⟨ep, kvs, hp, hk⟩ := at0 _ _ _ _ z (fun q hq => by simp [hq])
    refine ⟨p, ep, kvs, _, G, rfl, z.ex, hp, hk, ht.all l, ?_⟩
    rw [hk.len, List.length_map]
    exact q _ _ H1 rfl ((s1.drop fun q hq => by simp [hq]).c fun _ => .int _)
def getD (l : List (κ × β)) (x : κ) (y : β) : β := (getA l x).getD y
theorem et_gdN (h : Kc nk ek n) (ht : IsTup nk) (hd : EvDc K B td Γ (kdsOf nk ev l)) (hx : EvD K B tk Γ (ek x)) (hy : EvD K B tv Γ (ev y)) (hn : n ≤ 8 := by decide) : EvD K B (tDM (rGetN K) td (tCons tk (tCons tv tNil))) Γ (ev (getD l x y)) := fun F σ H s Q q =>
  hd F σ H s _ fun p T0 H1 at0 s1 => by
    obtain ⟨G1, z1⟩ := id s1
    obtain ⟨ep1, kvs1, hp1, _⟩ := at0 _ _ _ _ z1 (fun q hq => by simp [hq])
    refine ⟨⟨p, ep1, kvs1, rfl, hp1⟩, ?_⟩
    refine hx _ σ H1 s1 _ fun u d H2 e s2 => hy _ σ H2 s2 _ fun w d2 H3 e2 s3 => ?_
    subst e e2
    obtain ⟨G, z⟩ := id s3
    obtain ⟨ep, kvs, hp, hk⟩ := at0 _ _ _ _ z (fun q hq => by simp [hq])
    obtain ⟨a, rfl, ha⟩ := h.ref ht (z.tm (u, ek x) (by simp))
    refine ⟨p, a, w, nk x, ep, kvs, _, G, rfl, rfl, ⟨z.ex, hp, hk, ht.all l, ha, Nat.le_trans (h.dep x) hn, h.pl x⟩, fun d hd' v hv => ?_, fun hn' => ?_⟩
    · rw [get_kds h] at hd'
      obtain ⟨b, hb, rfl⟩ := Option.map_eq_some_iff.mp hd'
      have e3 : getD l x y = b := by unfold getD; rw [hb]; rfl
      rw [e3] at q
      exact q v _ H3 rfl ((S.grown (d := ev b) z (Grow.refl z.ex) hv).drop fun p hp => by
        simp at hp ⊢
        rcases hp with ee | ee <;> simp [ee])
    · rw [get_kds h] at hn'
      have hb : getA l x = none := Option.map_eq_none_iff.mp hn'
      have e3 : getD l x y = y := by unfold getD; rw [hb]; rfl
      rw [e3] at q
      exact q w _ H3 rfl (s3.drop fun p hp => by
        simp at hp ⊢
        rcases hp with ee | ee <;> simp [ee])
variable (K B) in
def EvG (te : TE) (Γ Γ' : List Sl) (d : DD) : Prop := ∀ F σ H, S K B Γ F σ H → ∀ Q : VK, (∀ v H', S K B Γ' (F.dat v d) σ H' → Q v H') → te σ H Q
def setdA (l : List (κ × β)) (x : κ) (y : β) : β × List (κ × β) := match getA l x with
  | some r => (r, l)
  | none => (y, putA l x y)
theorem eg_sd {r : β × List (κ × β)} (h : Kc nk ek n) (ht : IsTup nk) (hj : Γ[j]? = some (.own (dnR p (kdsOf nk ev l)))) (hx : EvD K B tk Γ (ek x)) (hy : EvD K B tv Γ (ev y)) (hz : szLt l.length = true) (hr : setdA l x y = r) (hn : n ≤ 8 := by decide) :
    EvG K B (tDM (rSdN K) (tVar j) (tCons tk (tCons tv tNil))) Γ (Γ.set j (.own (dnR p (kdsOf nk ev r.2)))) (ev r.1) := fun F σ H s Q q => by
  subst hr
  obtain ⟨G0, z0⟩ := id s
  obtain ⟨v0, hv0, e0, ep0, kvs0, hp0, _⟩ := z0.own hj
  subst e0
  refine ⟨.ref p, hv0, ⟨p, ep0, kvs0, rfl, hp0⟩, ?_⟩
  refine hx F σ H s _ fun u d H2 e s2 => hy _ σ H2 s2 _ fun w d2 H3 e2 s3 => ?_
  subst e e2
  obtain ⟨G, z⟩ := id s3
  obtain ⟨v, hv, e1, ep, kvs, hp, hk⟩ := z.own hj
  obtain ⟨a, rfl, ha⟩ := h.ref ht (z.tm (u, ek x) (by simp))
  have hd : (nk x).depth ≤ 8 := Nat.le_trans (h.dep x) hn
  refine ⟨p, a, w, nk x, ep, kvs, _, G, rfl, rfl, ⟨z.ex, hp, hk, ht.all l, ha, hd, h.pl x⟩, sz_lt (by rw [hk.len, List.length_map]; exact szLt_of hz), fun d hd' v' hv' => ?_, fun hn' ep' => ?_⟩
  · rw [get_kds h] at hd'
    obtain ⟨b, hb, rfl⟩ := Option.map_eq_some_iff.mp hd'
    have e3 : setdA l x y = (b, l) := by unfold setdA; rw [hb]
    rw [e3] at q
    have e4 : Γ.set j (.own (dnR p (kdsOf nk ev l))) = Γ := by
      have hi : j < Γ.length := (List.getElem?_eq_some_iff.mp hj).1
      have : Γ[j] = .own (dnR p (kdsOf nk ev l)) := (List.getElem?_eq_some_iff.mp hj).2
      rw [← this]; exact List.set_getElem_self hi
    rw [e4] at q
    exact q v' H3 ((S.grown (d := ev b) z (Grow.refl z.ex) hv').drop fun p hp => by
      simp at hp ⊢
      rcases hp with ee | ee <;> simp [ee])
  · rw [get_kds h] at hn'
    have hb : getA l x = none := Option.map_eq_none_iff.mp hn'
    have e3 : setdA l x y = (y, putA l x y) := by unfold setdA; rw [hb]
    rw [e3] at q
    have hmm : p ∈ ownAt Γ (Fra.dat (F.dat (.ref a) (ek x)) w (ev y)) j := by rw [ownAt_slot hj]; simp [Sl.as, dnR]
    have hg : G p = none := (z.mine j p hmm).1
    have ok' := hk.put ha hd (z.tm (w, ev y) (by simp))
    rw [put_kds h] at ok'
    have z3 := z.updOwn (r' := dnR p (kdsOf nk ev (putA l x y))) (T' := (w, ev y) :: F.T) hj (Grow.put (o := ddO p ep' (putV kvs (nk x) (.ref a) w)) z.ex hg (by simp [dnR])) rfl hv ⟨e1, _, _, upd_same, ok'⟩ fun q hq => by
      rcases List.mem_cons.mp hq with ee | ee
      · rw [ee]; exact z.tm (w, ev y) (by simp)
      · exact z.tm q (by simp [ee])
    exact q w _ ⟨G, z3⟩
variable {κ' : Type} [DecidableEq κ'] {nk' : κ' → NK} {ek' : κ' → DD} {l' m' : List (κ' × β)} {x' : κ'} {n' : Nat} {p' : Addr} {j' : Nat}
/-- d[k] = e, e changes an own thing -/
theorem nx_putG (h : Kc nk' ek' n') (ht : IsTup nk') (hy : EvG K B tv Γ Γ' (ev y)) (hj : Γ'[j]? = some (.own (dnR p' (kdsOf nk' ev l')))) (hx : EvD K B tk Γ' (ek' x')) (hz : szLt l'.length = true) (hm : putA l' x' y = m') (k : Nx K B D.nx (Γ'.set j (.own (dnR p' (kdsOf nk' ev m')))) F) (hn : n' ≤ 8 := by decide) :
    Nx K B (tAsg tv (gSub (tVar j) tk (rSetN K)) D) Γ F := fun σ H s => by
  subst hm
  refine hy F σ H s _ fun v1 H1 s1 => ?_
  obtain ⟨G1, z1⟩ := id s1
  obtain ⟨v0, hv0, e0, _⟩ := z1.own hj
  subst e0
  refine ⟨.ref p', hv0, ?_⟩
  refine hx _ σ H1 s1 _ fun u d H2 e s2 => ?_
  subst e
  obtain ⟨G, z⟩ := s2
  obtain ⟨v, hv, rfl, ep, kvs, hp, hk⟩ := z.own hj
  obtain ⟨a, rfl, ha⟩ := h.ref ht (z.tm (u, ek' x') (by simp))
  have hd : (nk' x').depth ≤ 8 := Nat.le_trans (h.dep x') hn
  refine ⟨p', a, nk' x', ep, kvs, _, G, rfl, rfl, ⟨z.ex, hp, hk, ht.all l', ha, hd, h.pl x'⟩, sz_lt (by rw [hk.len, List.length_map]; exact szLt_of hz), fun ep' => ?_⟩
  have hmm : p' ∈ ownAt Γ' (Fra.dat (F.dat v1 (ev y)) (.ref a) (ek' x')) j := by rw [ownAt_slot hj]; simp [Sl.as, dnR]
  have hg : G p' = none := (z.mine j p' hmm).1
  have ok' := hk.put ha hd (z.tm (v1, ev y) (by simp))
  rw [put_kds h] at ok'
  have z3 := z.updOwn (r' := dnR p' (kdsOf nk' ev (putA l' x' y))) (T' := F.T) hj (Grow.put (o := ddO p' ep' (putV kvs (nk' x') (.ref a) v1)) z.ex hg (by simp [dnR])) rfl hv ⟨rfl, _, _, upd_same, ok'⟩ fun q hq => z.tm q (by simp [hq])
  exact k _ _ ⟨G, z3⟩
end
def rTupS (K : FK) : List V → Hp → VK → Prop := fun xs H Q => ∃ p ys, xs = [.ref p] ∧ ((SqL K H p ys ∧ ∀ l, H l = none → Q (.ref l) (upd H l (.tup ys))) ∨ (SqT K H p ys ∧ Q (.ref p) H))
section
variable {α : Type} {e : α → DD} {xs : List α} {K : FK} {B : Bs} {Γ : List Sl} {te : TE} {j : Nat} {p : Addr}
theorem et_tupL (h : EvD K B te Γ (.list (xs.map e))) : EvD K B (tCB (rTupS K) (tCons te tNil)) Γ (eU e xs) := fun F σ H s Q q =>
  h F σ H s _ fun v d H1 ed s1 => by
    subst ed
    obtain ⟨G, z⟩ := id s1
    obtain ⟨a, ys, rfl, ha, hs⟩ := (z.tm (v, .list (xs.map e)) (by simp)).lst_inv
    refine ⟨a, ys, rfl, .inl ⟨SqL.of (z.ex _ _ ha), fun t ht => ?_⟩⟩
    have hG : G t = none := z.ex.none ht
    exact q _ _ _ rfl ((S.grown (d := eU e xs) z (Grow.laid z.ex ht) (.tup (SqT.of upd_same) (hs.mono (Ex.new hG)))).drop fun p hp => by
      simp at hp ⊢
      rcases hp with ee | ee <;> simp [ee])
theorem et_tupO (hj : Γ[j]? = some (.own (lstR p (xs.map e)))) : EvD K B (tCB (rTupS K) (tCons (tVar j) tNil)) Γ (eU e xs) := fun F σ H s Q q => by
  obtain ⟨G, z⟩ := id s
  obtain ⟨v, hv, rfl, ys, hp, hd⟩ := z.own hj
  refine ⟨.ref p, hv, p, ys, rfl, .inl ⟨SqL.of hp, fun t ht => ?_⟩⟩
  have hG : G t = none := z.ex.none ht
  exact q _ _ _ rfl (S.grown (d := eU e xs) z (Grow.laid z.ex ht) (.tup (SqT.of upd_same) (hd.mono (Ex.new hG))))
theorem et_tupU (h : EvD K B te Γ (eU e xs)) : EvD K B (tCB (rTupS K) (tCons te tNil)) Γ (eU e xs) := fun F σ H s Q q =>
  h F σ H s _ fun v d H1 ed s1 => by
    subst ed
    obtain ⟨G, z⟩ := id s1
    obtain ⟨a, ys, rfl, ha, hs⟩ := (z.tm (v, .tuple (xs.map e)) (by simp [eU])).tup_inv
    exact ⟨a, ys, rfl, .inr ⟨ex_t z.ex ha, q _ _ H1 rfl s1⟩⟩
end
def rCatS : R2 := fun x y H Q => ∃ i j : Str, x = .str i ∧ y = .str j ∧ i.length + j.length ≤ sizeLine ∧ Q (.str (i ++ j)) H
theorem ev_catS {K : FK} {B : Bs} {Γ : List Sl} {ta tb : TE} {a b : Str} (ha : EvD K B ta Γ (.str a)) (hb : EvD K B tb Γ (.str b)) (hl : szLe (a.length + b.length) = true) : EvD K B (tOp rCatS ta tb) Γ (.str (a ++ b)) :=
  ev_op ha hb fun v u G H hv hu e Q q => ⟨a, b, hv.str_inv, hu.str_inv, sz_of (szLe_of hl), q _ G H (Grow.refl e) (.str _)⟩
theorem ev_lstP {K : FK} {B : Bs} {Γ : List Sl} {ta : TA} {Ps : List DD → Prop} {P : DD → Prop} (h : EvA K B ta Γ Ps) (hl : ∀ ds, Ps ds → ds.length ≤ 16000000 ∧ P (.list ds)) : Ev K B (tLst ta) Γ P := EvN.ev (en_lstP h fun ds p => (hl ds p).1) fun ds p => (hl ds p).2
theorem ev_ifPP {K : FK} {B : Bs} {Γ : List Sl} {tt : TT} {ta tb : TE} {P : DD → Prop} {Pq : Bool → Prop} (ht : EvTP K B tt Γ Pq) (h : ∀ b, Pq b → (b = true → Ev K B ta Γ P) ∧ (b = false → Ev K B tb Γ P)) : Ev K B (tIf tt ta tb) Γ P := fun F σ H s Q q => ht F σ H s _ fun b H' pb s' => by
  obtain ⟨h1, h2⟩ := h b pb
  cases b with
  | true => exact h1 rfl F σ H' s' Q q
  | false => exact h2 rfl F σ H' s' Q q
end Ly

namespace Ly
open PySem PySem.Spec PyProof.Rows L2
open PySem.W (dataLe AllAlike Sortable EachIs alike alikeAll sorted_data)
def srtP (xs : List (V × DD)) : List (V × DD) := xs.mergeSort (dataLe false fun p => p.2)
def rSortDD (K : FK) : List V → Hp → VK → Prop := fun vs H Q => ∃ a xs ds, vs = [.ref a] ∧ SqL K H a xs ∧ DpAll K H xs ds ∧ AllAlike ds ∧ Sortable ds ∧ (∀ d ∈ ds, d.depth ≤ 32) ∧ ∀ p, H p = none → Q (.ref p) (upd H p (.lst ((srtP (xs.zip ds)).map (·.1))))
section
variable {X : Cx} {pins : List (Addr × Obj)} {σ : L2.St} {H : Hp} {s : Shared}
theorem each_zip (I : Inv X pins σ H s) : ∀ {xs : List V} {ds : List DD} {us : List Value}, Vals xs us → DpAll X.K H xs ds → EachIs (fun u (b : V × DD) => RelV b.1 u) us (xs.zip ds) ∧ EachIs (fun u (b : V × DD) => ∃ as, Reads s.heap u b.2 as) us (xs.zip ds) ∧ (xs.zip ds).map (·.2) = ds
  | _, _, _, .nil, .nil => ⟨.nil, .nil, rfl⟩
  | _, _, _, .cons r rs, .cons h hs => by
    obtain ⟨a, b, c⟩ := each_zip I rs hs
    exact ⟨.cons r a, .cons (Dp.reads I _ _ _ h r) b, by rw [List.zip_cons_cons, List.map_cons, c]⟩
theorem vals_each : ∀ {bs : List (V × DD)} {us : List Value}, EachIs (fun u (b : V × DD) => RelV b.1 u) us bs → Vals (bs.map (·.1)) us
  | _, _, .nil => .nil
  | _, _, .cons r t => .cons r (vals_each t)
end
theorem dpAll_len {K : FK} {H : Hp} : ∀ {xs : List V} {ds : List DD}, DpAll K H xs ds → xs.length = ds.length
  | _, _, .nil => rfl
  | _, _, .cons _ t => congrArg (· + 1) (dpAll_len t)
theorem cr_sortDD {X : Cx} {n : Nat} (hr : Room n X.A) : CallR X (.builtin "sorted") (rSortDD X.K) := by
  intro pins s σ H vs us Q I r h
  obtain ⟨a, xs, ds, rfl, hs, hd, hal, hk, hdep, q⟩ := h
  obtain ⟨its, rv, hl, hz⟩ := I.list hs
  rw [Vals.ref1 r]
  obtain ⟨e1, e2, e3⟩ := each_zip I rv hd
  have hu : X.A.units + 65 < cLine := by have := hr.un; omega
  have hzl : (xs.zip ds).length = xs.length := by
    rw [List.length_zip, dpAll_len hd, Nat.min_self]
  refine sorted_data (enc := fun p : V × DD => p.2) hl.isList e1 e2 (by rw [e3]; exact hal) (by rw [e3]; exact hk) (by rw [hzl]; exact hz) (fun b hb => ?_) fun out hlen he => ?_
  · have := hdep b.2 (by rw [← e3]; exact List.mem_map.mpr ⟨b, hb, rfl⟩)
    omega
  · obtain ⟨ep, he'⟩ := PyProof.Rows.sortedAll_at s.heap its out.toArray
    have hv := vals_each he
    have hln : ((srtP (xs.zip ds)).map (·.1)).length ≤ sizeLine := by
      rw [List.length_map]
      unfold srtP
      rw [List.length_mergeSort, hzl]; exact hz
    exact ⟨.ref _, upd H (s.heap.objs.size + 1) (.lst ((srtP (xs.zip ds)).map (·.1))), I.laid (t' := s.toks) (fun _ _ => PyProof.Rows.sortedAll_old) (Nat.le_succ _) ⟨hln, out, ep, hv, he'⟩, rfl, q _ (I.hok.fresh (Nat.le_succ _))⟩
section
variable {α : Type} {e : α → DD} {xs : List α} {K : FK} {B : Bs} {Γ : List Sl} {te : TE} {j : Nat} {p : Addr}
def srtT (e : α → DD) (xs : List α) : List α := xs.mergeSort (dataLe false e)
/-- what can be sorted -/
structure Sq (e : α → DD) : Prop where
  al : ∀ x y, alike (e x) (e y) = true
  so : ∀ xs : List α, Sortable (xs.map e)
  dp : ∀ x, (e x).depth ≤ 32
  ok : ∀ x, (e x).canLay0 = true
theorem sqI : Sq PyData.int := ⟨fun _ _ => rfl, fun _ => Sortable.others fun b => ⟨by simp, fun _ => by simp⟩, fun _ => by simp [PyData.depth], fun _ => rfl⟩
theorem zip_snd : ∀ {us : List V} {ds : List DD}, us.length = ds.length → (us.zip ds).map (·.2) = ds
  | [], [], _ => rfl
  | [], _ :: _, h => by simp at h
  | _ :: _, [], h => by simp at h
  | _ :: us, _ :: ds, h => by rw [List.zip_cons_cons, List.map_cons, zip_snd (by simpa using h)]
theorem srtP_snd {us : List V} (h : us.length = xs.length) : (srtP (us.zip (xs.map e))).map (·.2) = (srtT e xs).map e := by
  unfold srtP srtT
  have h1 : ∀ l : List (V × DD), (l.mergeSort (dataLe false fun p => p.2)).map (·.2) = (l.map (·.2)).mergeSort (dataLe false id) := fun l => List.map_mergeSort fun a _ b _ => rfl
  have h2 : ∀ l : List α, (l.mergeSort (dataLe false e)).map e = (l.map e).mergeSort (dataLe false id) := fun l => List.map_mergeSort fun a _ b _ => rfl
  rw [h1, h2, zip_snd (by rw [List.length_map]; exact h)]
theorem daL_pairs {G : Hp} : ∀ {ps : List (V × DD)}, (∀ p ∈ ps, Da K G p.1 p.2) → DaL K G (ps.map (·.1)) (ps.map (·.2))
  | [], _ => .nil
  | p :: ps, h => .cons (h p (by simp)) (daL_pairs fun q hq => h q (by simp [hq]))
theorem zip_da {G : Hp} : ∀ {us : List V} {ds : List DD}, DaL K G us ds → ∀ p ∈ us.zip ds, Da K G p.1 p.2
  | _, _, .nil, p, hp => nomatch hp
  | _, _, .cons h t, p, hp => by
    rw [List.zip_cons_cons] at hp
    rcases List.mem_cons.mp hp with z | z
    · rw [z]; exact h
    · exact zip_da t p z
theorem srt_da {G : Hp} {us : List V} (h : DaL K G us (xs.map e)) : DaL K G ((srtP (us.zip (xs.map e))).map (·.1)) ((srtT e xs).map e) := by
  rw [← srtP_snd (us := us) (by rw [h.length, List.length_map])]
  refine daL_pairs fun p hp => zip_da h p ?_
  unfold srtP at hp
  exact (List.mergeSort_perm _ _).mem_iff.mp hp
theorem canAll (h : ∀ x, (e x).canLay0 = true) : ∀ xs : List α, PyData.canLayAll0 (xs.map e) = true
  | [] => rfl
  | x :: xs => by rw [List.map_cons]; simp [PyData.canLayAll0, h x, canAll h xs]
theorem en_srtD (q : Sq e) (h : EvD K B te Γ (.list (xs.map e))) : EvND K B (tCB (rSortDD K) (tCons te tNil)) Γ ((srtT e xs).map e) := fun F σ H s Q k =>
  h F σ H s _ fun v d H1 ed s1 => by
    subst ed
    obtain ⟨G, z⟩ := s1
    obtain ⟨a, us, rfl, ha, hs⟩ := (z.tm (v, .list (xs.map e)) (by simp)).lst_inv
    refine ⟨a, us, xs.map e, rfl, SqL.of (z.ex _ _ ha), (hs.mono z.ex).dp (canAll q.ok xs), AllAlike.of q.al, q.so xs, fun d hd => ?_, fun p hp => ?_⟩
    · obtain ⟨x, _, rfl⟩ := List.mem_map.mp hd
      exact q.dp x
    · exact k p _ _ rfl (z.notLent hp) ⟨G, (z.newLst hp (srt_da hs)).drop fun p hp => by simp [hp]⟩
theorem en_srtO (q : Sq e) (hj : Γ[j]? = some (.own (lstR p (xs.map e)))) : EvND K B (tCB (rSortDD K) (tCons (tVar j) tNil)) Γ ((srtT e xs).map e) := fun F σ H ⟨G, z⟩ Q k => by
  obtain ⟨v, hv, rfl, us, hp, hs⟩ := z.own hj
  refine ⟨.ref p, hv, p, us, xs.map e, rfl, SqL.of hp, (hs.mono z.ex).dp (canAll q.ok xs), AllAlike.of q.al, q.so xs, fun d hd => ?_, fun p' hp' => ?_⟩
  · obtain ⟨x, _, rfl⟩ := List.mem_map.mp hd
    exact q.dp x
  · exact k p' _ _ rfl (z.notLent hp') ⟨G, z.newLst hp' (srt_da hs)⟩
end
section
variable {α β γ : Type} {ea : α → DD} {eb : β → DD} {ec : γ → DD}
theorem alikeAll_map (h : ∀ x y, alike (ea x) (ea y) = true) : ∀ xs ys : List α, alikeAll (xs.map ea) (ys.map ea) = true
  | [], _ => by rw [List.map_nil]; simp [alikeAll]
  | _ :: _, [] => by rw [List.map_nil, List.map_cons]; simp [alikeAll]
  | x :: xs, y :: ys => by rw [List.map_cons, List.map_cons]; simp [alikeAll, h x y, alikeAll_map h xs ys]
theorem sqL {n : Nat} (h : Sq ea) (hd : ∀ x, (ea x).depth ≤ n) (hn : n ≤ 31) : Sq (eL ea) := ⟨fun x y => by simp [eL, alike, alikeAll_map h.al], fun _ => Sortable.others fun b => ⟨by simp [eL], fun _ => by simp [eL]⟩, fun x => by
  have := (ok_list (n := n) (ds := x.map ea) fun d hdm => by
    obtain ⟨y, _, rfl⟩ := List.mem_map.mp hdm
    exact ⟨h.ok y, hd y⟩).2
  show (PyData.list (x.map ea)).depth ≤ 32
  omega, fun x => by simp [eL, PyData.canLay0, canAll h.ok]⟩
end
end Ly

set_option maxHeartbeats 1000000
namespace Ly
open PySem PySem.Spec PyProof.Rows L2
/-- what a field holds: data, an own list, an own dict -/
inductive Fd where
  | dat (d : DD)
  | lst (q : Addr) (ds : List DD)
  | dct (q : Addr) (kds : List (NK × DD))
  | pin (q : Addr) (ep : Nat) (kvs : KVs) (kds : List (NK × DD))
def Fd.as : Fd → List Addr
  | .dat _ => []
  | .lst q _ => [q]
  | .dct q _ => [q]
  | .pin q _ _ _ => [q]
def Fd.ok (K : FK) (G H : Hp) (x : Fd) (v : V) : Prop := match x with
  | .dat d => Da K G v d
  | .lst q ds => v = .ref q ∧ ∃ xs, H q = some (.lst xs) ∧ DaL K G xs ds
  | .dct q kds => v = .ref q ∧ ∃ ep kvs, H q = some (ddO q ep kvs) ∧ DnOk K G kvs kds
  | .pin q ep kvs kds => v = .ref q ∧ H q = some (ddO q ep kvs) ∧ DnOk K G kvs kds
theorem Fd.ok_mono {K : FK} {G G' H : Hp} {x : Fd} {v : V} (e : Ex G G') (h : x.ok K G H v) : x.ok K G' H v := by
  cases x with
  | dat d => exact Da.mono e h
  | lst q ds => obtain ⟨h1, xs, h2, h3⟩ := h; exact ⟨h1, xs, h2, h3.mono e⟩
  | dct q kds => obtain ⟨h1, ep, kvs, h2, h3⟩ := h; exact ⟨h1, ep, kvs, h2, h3.mono e⟩
  | pin q ep kvs kds => obtain ⟨h1, h2, h3⟩ := h; exact ⟨h1, h2, h3.mono e⟩
theorem Fd.ok_loc {K : FK} {G H H' : Hp} {x : Fd} {v : V} (e : ∀ a o, a ∈ x.as → H a = some o → H' a = some o) (h : x.ok K G H v) : x.ok K G H' v := by
  cases x with
  | dat d => exact h
  | lst q ds => obtain ⟨h1, xs, h2, h3⟩ := h; exact ⟨h1, xs, e q _ (by simp [Fd.as]) h2, h3⟩
  | dct q kds => obtain ⟨h1, ep, kvs, h2, h3⟩ := h; exact ⟨h1, ep, kvs, e q _ (by simp [Fd.as]) h2, h3⟩
  | pin q ep kvs kds => obtain ⟨h1, h2, h3⟩ := h; exact ⟨h1, e q _ (by simp [Fd.as]) h2, h3⟩
theorem Fd.ok_dom {K : FK} {G H : Hp} {x : Fd} {v : V} (h : x.ok K G H v) : ∀ a ∈ x.as, ∃ o, H a = some o := by
  intro a ha
  cases x with
  | dat d => cases ha
  | lst q ds =>
    obtain ⟨_, xs, h2, _⟩ := h
    rw [List.mem_singleton.mp ha]; exact ⟨_, h2⟩
  | dct q kds =>
    obtain ⟨_, ep, kvs, h2, _⟩ := h
    rw [List.mem_singleton.mp ha]; exact ⟨_, h2⟩
  | pin q ep kvs kds =>
    obtain ⟨_, h2, _⟩ := h
    rw [List.mem_singleton.mp ha]; exact ⟨_, h2⟩
abbrev Fds := List (Str × Fd)
def fAs : Fds → List Addr
  | [] => []
  | p :: r => p.2.as ++ fAs r
inductive FsOk (K : FK) (G H : Hp) : Fds → List (Str × V) → Prop
  | nil : FsOk K G H [] []
  | cons {n : Str} {x : Fd} {v : V} {fds : Fds} {fs : List (Str × V)} (h : x.ok K G H v) (t : FsOk K G H fds fs) : FsOk K G H ((n, x) :: fds) ((n, v) :: fs)
theorem FsOk.mono {K : FK} {G G' H : Hp} (e : Ex G G') : ∀ {fds : Fds} {fs : List (Str × V)}, FsOk K G H fds fs → FsOk K G' H fds fs
  | _, _, .nil => .nil
  | _, _, .cons h t => .cons (Fd.ok_mono e h) (t.mono e)
theorem FsOk.loc {K : FK} {G H H' : Hp} : ∀ {fds : Fds} {fs : List (Str × V)}, (∀ a o, a ∈ fAs fds → H a = some o → H' a = some o) → FsOk K G H fds fs → FsOk K G H' fds fs
  | _, _, _, .nil => .nil
  | _, _, e, .cons h t => .cons (Fd.ok_loc (fun a o ha => e a o (by unfold fAs; exact List.mem_append_left _ ha)) h) (t.loc fun a o ha => e a o (by unfold fAs; exact List.mem_append_right _ ha))
theorem FsOk.dom {K : FK} {G H : Hp} : ∀ {fds : Fds} {fs : List (Str × V)}, FsOk K G H fds fs → ∀ a ∈ fAs fds, ∃ o, H a = some o
  | _, _, .nil, a, ha => by cases ha
  | _, _, .cons h t, a, ha => by
    unfold fAs at ha
    rcases List.mem_append.mp ha with z | z
    · exact Fd.ok_dom h a z
    · exact t.dom a z
theorem FsOk.len {K : FK} {G H : Hp} : ∀ {fds : Fds} {fs : List (Str × V)}, FsOk K G H fds fs → fs.length = fds.length
  | _, _, .nil => rfl
  | _, _, .cons _ t => congrArg (· + 1) t.len
/-- the field of a name -/
def getF : Fds → Str → Option Fd
  | [], _ => none
  | p :: r, f => if p.1 = f then some p.2 else getF r f
def setF : Fds → Str → Fd → Fds
  | [], _, _ => []
  | p :: r, f, x => if p.1 = f then (p.1, x) :: r else p :: setF r f x
theorem lookup_cons_ne {f n : Str} {v : V} {fs : List (Str × V)} (h : ¬ n = f) : ((n, v) :: fs).lookup f = fs.lookup f := by
  have hb : (f == n) = false := beq_eq_false_iff_ne.mpr fun e => h e.symm
  rw [List.lookup_cons, hb]
theorem lookup_cons_eq {f : Str} {v : V} {fs : List (Str × V)} : ((f, v) :: fs).lookup f = some v := by
  have hb : (f == f) = true := beq_iff_eq.mpr rfl
  rw [List.lookup_cons, hb]
theorem FsOk.get {K : FK} {G H : Hp} {f : Str} {x : Fd} : ∀ {fds : Fds} {fs : List (Str × V)}, FsOk K G H fds fs → getF fds f = some x → ∃ v, fs.lookup f = some v ∧ x.ok K G H v
  | _, _, .nil, h => by cases h
  | _, _, .cons (n := n) hx t, h => by
    unfold getF at h
    split at h
    · rename_i e
      have e' : n = f := e
      subst e'
      cases h
      exact ⟨_, lookup_cons_eq, hx⟩
    · rename_i e
      obtain ⟨v, h1, h2⟩ := t.get h
      exact ⟨v, by rw [lookup_cons_ne e]; exact h1, h2⟩
theorem FsOk.no {K : FK} {G H : Hp} {f : Str} : ∀ {fds : Fds} {fs : List (Str × V)}, FsOk K G H fds fs → getF fds f = none → fs.lookup f = none
  | _, _, .nil, _ => rfl
  | _, _, .cons (n := n) hx t, h => by
    unfold getF at h
    split at h
    · cases h
    · rename_i e
      rw [lookup_cons_ne e]
      exact t.no h
theorem getF_mem {f : Str} {x : Fd} : ∀ {fds : Fds}, getF fds f = some x → ∀ a ∈ x.as, a ∈ fAs fds
  | [], h, _, _ => by cases h
  | p :: r, h, a, ha => by
    unfold getF at h
    unfold fAs
    split at h
    · cases h; exact List.mem_append_left _ ha
    · exact List.mem_append_right _ (getF_mem h a ha)
theorem setF_as {f : Str} {x y : Fd} (e : y.as = x.as) : ∀ {fds : Fds}, getF fds f = some x → fAs (setF fds f y) = fAs fds
  | [], h => by cases h
  | p :: r, h => by
    unfold getF at h
    unfold setF
    split at h
    · rename_i q
      cases h
      rw [if_pos q]
      unfold fAs
      rw [e]
    · rename_i q
      rw [if_neg q]
      show p.2.as ++ fAs (setF r f y) = p.2.as ++ fAs r
      rw [setF_as e h]
/-- one own cell of a field is written anew -/
theorem FsOk.put {K : FK} {G H : Hp} {f : Str} {x y : Fd} {q : Addr} {o : HO} (ex : x.as = [q]) (ey : y.as = [q]) (hy : y.ok K G (upd H q o) (.ref q)) (hx : ∀ v, x.ok K G H v → v = .ref q) : ∀ {fds : Fds} {fs : List (Str × V)}, FsOk K G H fds fs → getF fds f = some x → (fAs fds).Nodup → FsOk K G (upd H q o) (setF fds f y) fs
  | _, _, .nil, h, _ => by cases h
  | (n, x0) :: fds, _, .cons hx0 t, h, nd => by
    unfold getF at h
    unfold setF
    have nd' : (x0.as ++ fAs fds).Nodup := nd
    obtain ⟨n1, n2, n3⟩ := List.nodup_append.mp nd'
    split at h
    · rename_i e
      rw [if_pos e]
      cases h
      have := hx _ hx0
      subst this
      refine .cons hy (t.loc fun a u ha hu => ?_)
      rw [upd_ne]
      · exact hu
      · intro z
        exact n3 q (by rw [ex]; simp) a ha z.symm
    · rename_i e
      rw [if_neg e]
      have hq : q ∈ fAs fds := getF_mem h q (by rw [ex]; simp)
      refine .cons (Fd.ok_loc (fun a u ha hu => ?_) hx0) (t.put ex ey hy hx h n2)
      rw [upd_ne]
      · exact hu
      · intro z
        exact n3 a ha q hq z
def objR (C p : Addr) (fds : Fds) : Res where
  as := p :: fAs fds
  ok := fun K G v H => v = .ref p ∧ (p :: fAs fds).Nodup ∧ ∃ dx fs, H p = some (.ins C dx fs) ∧ FsOk K G H fds fs
  mono := fun e ⟨h1, h2, dx, fs, h3, h4⟩ => ⟨h1, h2, dx, fs, h3, h4.mono e⟩
  loc := fun e ⟨h1, h2, dx, fs, h3, h4⟩ => ⟨h1, h2, dx, fs, e p _ (by simp) h3, h4.loc fun a o ha => e a o (by simp [ha])⟩
  dom := fun ⟨_, _, dx, fs, h3, h4⟩ a ha => by
    rcases List.mem_cons.mp ha with e | e
    · rw [e]; exact ⟨_, h3⟩
    · exact h4.dom a e
section
variable {K : FK} {B : Bs} {Γ : List Sl} {F : Fra} {D : Ends} {C p q : Addr} {fds : Fds} {f : Str} {j : Nat} {te tb : TE} {d : DD} {ds : List DD}
/-- e.f of an own object -/
theorem fld_at (hj : Γ[j]? = some (.own (objR C p fds))) (hc : Cls K C) (hn : NoAttr K C f) {x : Fd} (hf : getF fds f = some x) {F : Fra} {σ : L2.St} {H : Hp} {Q : VK} {G : Hp} (z : S0 K B Γ F σ H G) (k : ∀ v, x.ok K G H v → Q v H) : tFld K (tVar j) f σ H Q := by
  obtain ⟨v, hv, rfl, nd, dx, fs, hp, hfs⟩ := z.own hj
  obtain ⟨v, h1, h2⟩ := hfs.get hf
  exact ⟨_, hv, p, C, dx, fs, v, rfl, hp, hc, hn, h1, k v h2⟩
theorem fld_cell (hj : Γ[j]? = some (.own (objR C p fds))) {x : Fd} (hf : getF fds f = some x) {F : Fra} {σ : L2.St} {H G : Hp} (z : S0 K B Γ F σ H G) : ∃ v, x.ok K G H v := by
  obtain ⟨v, hv, rfl, nd, dx, fs, hp, hfs⟩ := z.own hj
  obtain ⟨v, h1, h2⟩ := hfs.get hf
  exact ⟨v, h2⟩
theorem ev_fld (hj : Γ[j]? = some (.own (objR C p fds))) (hc : Cls K C) (hn : NoAttr K C f) (hf : getF fds f = some (.dat d)) : EvD K B (tFld K (tVar j) f) Γ d := fun F σ H ⟨G, z⟩ Q k =>
  fld_at hj hc hn hf z fun v h => k v d H rfl (S.grown (d := d) z (Grow.refl z.ex) h)
theorem ev_fldLen (hj : Γ[j]? = some (.own (objR C p fds))) (hc : Cls K C) (hn : NoAttr K C f) (hf : getF fds f = some (.lst q ds)) : EvD K B (tCB (rLenS K) (tCons (tFld K (tVar j) f) tNil)) Γ (.int ds.length) := fun F σ H s Q k => by
  obtain ⟨G, z⟩ := id s
  refine fld_at hj hc hn hf z fun v h => ?_
  obtain ⟨rfl, xs, h1, h2⟩ := h
  refine ⟨q, xs, rfl, .inl (SqL.of h1), ?_⟩
  rw [h2.length]
  exact k _ _ H rfl (s.c fun _ => .int _)

theorem ev_fldIx {i : Int} (hj : Γ[j]? = some (.own (objR C p fds))) (hc : Cls K C) (hn : NoAttr K C f) (hf : getF fds f = some (.lst q ds)) (hb : EvD K B tb Γ (.int i)) (h : atI ds i = some d) : EvD K B (tOp (rIxL K) (tFld K (tVar j) f) tb) Γ d := fun F σ H s Q k => by
  obtain ⟨G, z⟩ := id s
  refine fld_at hj hc hn hf z fun v hv => ?_
  obtain ⟨rfl, _⟩ := hv
  refine hb F σ H s _ fun u y' H2 e2 s2 => ?_
  subst e2
  obtain ⟨G2, z2⟩ := s2
  obtain ⟨v2, rfl, xs, h1, h2⟩ := fld_cell hj hf z2
  obtain ⟨w, h3, h4⟩ := h2.at h
  refine ⟨q, xs, i, w, rfl, (z2.tm (u, .int i) (by simp)).int_inv, SqL.of h1, h3, k w d H2 rfl ?_⟩
  exact (S.grown (d := d) z2 (Grow.refl z2.ex) h4).drop fun p hp => by
    simp at hp ⊢
    rcases hp with e | e <;> simp [e]
theorem en_fldList (hj : Γ[j]? = some (.own (objR C p fds))) (hc : Cls K C) (hn : NoAttr K C f) (hf : getF fds f = some (.lst q ds)) : EvND K B (tCB (rListS K) (tCons (tFld K (tVar j) f) tNil)) Γ ds := fun F σ H ⟨G, z⟩ Q k =>
  fld_at hj hc hn hf z fun v h => by
    obtain ⟨rfl, xs, h1, h2⟩ := h
    exact ⟨q, xs, rfl, .inl (SqL.of h1), fun a ha => k a _ _ rfl (z.notLent ha) ⟨G, z.newLst ha h2⟩⟩
/-- the own list of a field is written anew -/
theorem S0.fldPut {F : Fra} {σ : L2.St} {H G : Hp} {xs' : List V} {ds' : List DD} {T' : List (V × DD)} (z : S0 K B Γ F σ H G) (hj : Γ[j]? = some (.own (objR C p fds))) (hf : getF fds f = some (.lst q ds)) (hd : DaL K G xs' ds') (ht : ∀ x ∈ T', Da K G x.1 x.2) :
    S0 K B (Γ.set j (.own (objR C p (setF fds f (.lst q ds'))))) ⟨T', F.X⟩ σ (upd H q (.lst xs')) G := by
  obtain ⟨v, hv, e, nd, dx, fs, hp, hfs⟩ := z.own hj
  subst e
  have hqm : q ∈ fAs fds := getF_mem hf q (by simp [Fd.as])
  have hm : q ∈ ownAt Γ F j := by rw [ownAt_slot hj]; exact List.mem_cons_of_mem _ hqm
  have hg : G q = none := (z.mine j q hm).1
  have nd' := List.nodup_cons.mp nd
  have has : fAs (setF fds f (.lst q ds')) = fAs fds := setF_as (x := .lst q ds) (y := .lst q ds') rfl hf
  refine z.updOwn (r' := objR C p (setF fds f (.lst q ds'))) hj (Grow.put (o := .lst xs') z.ex hg (List.mem_cons_of_mem _ hqm)) (by show p :: fAs _ = p :: fAs _; rw [has]) hv ⟨rfl, by rw [has]; exact nd, dx, fs, ?_, ?_⟩ ht
  · rw [upd_ne]
    · exact hp
    · intro e
      exact nd'.1 (e ▸ hqm)
  · exact hfs.put (x := .lst q ds) (y := .lst q ds') rfl rfl ⟨rfl, xs', upd_same, hd⟩ (fun v h => h.1) hf nd'.2
theorem nx_fldApp (hj : Γ[j]? = some (.own (objR C p fds))) (hc : Cls K C) (hn : NoAttr K C f) (hf : getF fds f = some (.lst q ds)) (h : EvD K B te Γ d) (hz : ds.length < 16000000) (k : Nx K B D.nx (Γ.set j (.own (objR C p (setF fds f (.lst q (ds ++ [d])))))) F) :
    Nx K B (tDrop (tBM K "list" rAppend (tFld K (tVar j) f) (tCons te tNil)) D) Γ F := fun σ H s => by
  obtain ⟨G, z⟩ := id s
  unfold tDrop tBM
  refine fld_at hj hc hn hf z fun v hv => ?_
  obtain ⟨rfl, xs, h1, h2⟩ := hv
  refine ⟨.inl ⟨rfl, xs, SqL.of h1⟩, ?_⟩
  refine h F σ H s _ fun w d' H' e s' => ?_
  subst e
  obtain ⟨G', z1⟩ := s'
  obtain ⟨_, rfl, ys, h3, h4⟩ := fld_cell hj hf z1
  refine ⟨q, ys, w, rfl, rfl, h3, sz_lt (by rw [h4.length]; exact hz), ?_⟩
  exact k _ _ ⟨G', z1.fldPut hj hf (h4.append (.cons (z1.tm (w, d') (by simp)) .nil)) fun x hx => z1.tm x (by simp [hx])⟩
/-- e.f.pop() -/
theorem eg_fldPop (hj : Γ[j]? = some (.own (objR C p fds))) (hc : Cls K C) (hn : NoAttr K C f) (hf : getF fds f = some (.lst q (ds ++ [d]))) : EvG K B (tBM0 K "list" rPop (tFld K (tVar j) f)) Γ (Γ.set j (.own (objR C p (setF fds f (.lst q ds))))) d := fun F σ H ⟨G, z⟩ Q k => by
  refine fld_at hj hc hn hf z fun v hv => ?_
  obtain ⟨rfl, ys, h1, h2⟩ := hv
  have hlen := h2.length
  rw [List.length_append, List.length_singleton] at hlen
  obtain ⟨u, hu, hdu⟩ := h2.get (i := ds.length) (d := d) (by rw [List.getElem?_append_right (Nat.le_refl _)]; simp)
  have e1 : ys.length - 1 = ds.length := by omega
  refine ⟨.inl ⟨rfl, ys, SqL.of h1⟩, q, ys, u, rfl, rfl, h1, by first | exact e1 ▸ hu | (rw [e1]; exact hu) | (rw [hlen]; exact hu), ?_⟩
  have hd2 : DaL K G ys.dropLast ds := by
    have e2 : ds = (ds ++ [d]).dropLast := by simp
    rw [e2, List.dropLast_eq_take, List.dropLast_eq_take, h2.length]
    exact h2.take _
  exact k u _ ⟨G, z.fldPut (T' := (u, d) :: F.T) hj hf hd2 fun x hx => by
    rcases List.mem_cons.mp hx with e | e
    · rw [e]; exact hdu
    · exact z.tm x e⟩
theorem nx_dropG {Γ' : List Sl} (h : EvG K B te Γ Γ' d) (k : Nx K B D.nx Γ' F) : Nx K B (tDrop te D) Γ F := fun σ H s => h F σ H s _ fun v H' s' => k _ _ s'.pop
end
end Ly

set_option maxHeartbeats 1000000
namespace Ly
open PySem PySem.Spec PyProof.Rows L2
/-- the promise: the first argument an own thing at p, the others data; it yields data and leaves the thing as r', or it raises and leaves it as it was -/
def spM (K : FK) (f : Addr → Res → List DD → Rs → Res → Prop) : Sp := fun vs H Q E => ∃ G p us ds r rs r', vs = .ref p :: us ∧ r.ok K G (.ref p) H ∧ (∀ a ∈ r.as, G a = none) ∧ DaL K G us ds ∧ Ex G H ∧ f p r ds rs r' ∧
  (∀ d, rs = .ok d → ∀ v G' H', Grow r.as G H G' H' → r'.ok K G' (.ref p) H' → Da K G' v d → Q v H') ∧ (∀ c, rs = .er c → ∀ G' H', Grow r.as G H G' H' → r.ok K G' (.ref p) H' → E (.ref (He.ga K c)) none H')
section
variable {K : FK} {B : Bs} {Γ : List Sl} {F : Fra} {D : Ends} {te : TE} {r r' : Res} {Q : VK} {i j : Nat} {p : Addr}
theorem bsM_hL {G H : Hp} {v : V} (h : r.ok K G v H) : ∀ a ∈ r.as, ∃ o, H a = some o := fun a ha => r.dom h a ha
theorem ownAt_one {ds : List DD} {n : Nat} : ∀ j a, a ∈ ownAt (.own r :: slots0 ds n) ⟨[], []⟩ j → j = 0 ∧ a ∈ r.as := fun j a ha => by
  unfold ownAt at ha
  split at ha
  · rename_i hj
    cases j with
    | zero => exact ⟨rfl, ha⟩
    | succ j =>
      exfalso
      rw [List.getElem?_cons_succ] at ha
      cases z : (slots0 ds n)[j]? with
      | none => rw [z] at ha; cases ha
      | some s =>
        rw [z] at ha
        unfold slots0 at z
        rcases List.mem_append.mp (List.mem_of_getElem? z) with y | y
        · obtain ⟨d, _, rfl⟩ := List.mem_map.mp y; cases ha
        · rw [(List.mem_replicate.mp y).2] at ha; cases ha
  · cases ha
theorem start_M {G H : Hp} {N : List Str} {us : List V} {ds : List DD} (hok : r.ok K G (.ref p) H) (gp : ∀ a ∈ r.as, G a = none) (e : Ex G H) (h : DaL K G us ds) (hN : ds.length + 1 ≤ N.length) :
    S K ⟨r.as, G, H, bsM_hL hok⟩ (.own r :: slots0 ds (N.length - 1)) ⟨[], []⟩ (L2.start N (.ref p :: us)) H := by
  have hl := h.length
  have hst : (L2.start N (.ref p :: us)).length = N.length := by
    unfold L2.start
    rw [List.length_append, List.length_map, List.length_replicate, List.length_cons]
    omega
  refine ⟨G, by rw [hst]; simp [slots0]; omega, Grow.refl e, fun i s es => ?_, fun p hp => (by cases hp), fun p hp => (by cases hp), fun i j a ha hb => by rw [(ownAt_one i a ha).1, (ownAt_one j a hb).1], fun i a ha => ⟨gp a (ownAt_one i a ha).2, .inl (ownAt_one i a ha).2⟩⟩
  cases i with
  | zero =>
    cases es
    exact ⟨.ref p, by simp [L2.start], hok⟩
  | succ i =>
    rw [List.getElem?_cons_succ] at es
    have e2 : (L2.start N (.ref p :: us))[i + 1]? = (us.map some ++ List.replicate (N.length - (us.length + 1)) none)[i]? := by
      unfold L2.start
      rw [List.map_cons, List.cons_append, List.getElem?_cons_succ]; rfl
    rw [e2]
    unfold slots0 at es
    by_cases hi : i < ds.length
    · rw [List.getElem?_append_left (by simpa using hi), List.getElem?_map, List.getElem?_eq_getElem hi] at es
      cases es
      obtain ⟨v, hv, hd⟩ := h.get (List.getElem?_eq_getElem hi)
      refine ⟨v, ?_, hd⟩
      rw [List.getElem?_append_left (by rw [List.length_map]; omega), List.getElem?_map, hv]; rfl
    · rw [List.getElem?_append_right (by simpa using hi)] at es
      have := List.mem_of_getElem? es
      rw [(List.mem_replicate.mp this).2]
      trivial
/-- what a return or a raise must meet -/
def RetM (K : FK) (B : Bs) (Q : VK) (E : XK) (r r' : Res) : Rs → Prop
  | .ok d => ∀ v Γ F σ H', S K B (.own r' :: Γ) (Fra.dat F v d) σ H' → Q v H'
  | .er c => ∀ Γ F σ H', S K B (.own r :: Γ) F σ H' → E (.ref (He.ga K c)) none H'
end
/-- what stands at the place of an own thing -/
def AtP (p : Addr) (r : Res) : Prop := ∀ (K : FK) (G : Hp) (v : V) (H : Hp), r.ok K G v H → v = .ref p
theorem objR_at {C p : Addr} {fds : Fds} : AtP p (objR C p fds) := fun _ _ _ _ h => h.1
theorem def_okM {P : Program} {w : World} {K : FK} {mg : Str → Option Value} {base : Heap} {x qual : Str} {st : Stmt} {fa : Addr} {fd : FuncData} {N ps : List Str} {k : Nat} {f : Addr → Res → List DD → Rs → Res → Prop}
    (F : Fun K x qual st fa fd) (S0' : FnScope N ps (defScope st)) (hl : ∀ p r ds rs r', f p r ds rs r' → ds.length + 1 = ps.length ∧ AtP p r ∧ AtP p r')
    (hb : ∀ (cdv : Value) (A : Around) (outer : List Env) (s : Shared) (H : Hp) (E : XK) (B : Bs) (p : Addr) (r : Res) (ds : List DD) (rs : Rs) (r' : Res), Room k (A.deeper (envOfC qual (defScope st) s.heap.objs.size fa cdv)) → f p r ds rs r' →
      ∃ t, PSs (cxOf (L2.CX P w) P w K mg base N qual (defScope st) fa cdv A outer s H E) (defBody st) t ∧ ∀ Q, RetM K B Q E r r' rs → Nx K B (t { nx := fun _ H' => Q .non H', rt := Q }) (.own r :: slots0 ds (N.length - 1)) ⟨[], []⟩) :
    FnOk P w K mg base (L2.CX P w) (k + 1) fa fd ps (spM K f) := by
  refine F.okX S0' (fun vs H Q E h => ?_) (fun cdv A outer s H vs Q E hr h => ?_)
  · obtain ⟨G, p, us, ds, r, rs, r', rfl, _, _, hd, _, hf, _⟩ := h
    rw [List.length_cons, hd.length]; exact (hl _ _ _ _ _ hf).1
  · obtain ⟨G, p, us, ds, r, rs, r', rfl, hok, gp, hd, he, hf, q1, q2⟩ := h
    obtain ⟨t, ht, hn⟩ := hb cdv A outer s H E ⟨r.as, G, H, bsM_hL hok⟩ p r ds rs r' hr hf
    obtain ⟨l1, l2, l3⟩ := hl _ _ _ _ _ hf
    refine ⟨t, ht, hn Q ?_ _ _ (start_M hok gp he hd ?_)⟩
    · cases rs with
      | ok d =>
        intro v Γ F σ H' ⟨G', z⟩
        obtain ⟨v0, _, ok0⟩ := z.own (i := 0) rfl
        have := l3 _ _ _ _ ok0
        subst this
        exact q1 d rfl v G' H' z.grow ok0 (z.tm (v, d) (by simp))
      | er c =>
        intro Γ F σ H' ⟨G', z⟩
        obtain ⟨v0, _, ok0⟩ := z.own (i := 0) rfl
        have := l2 _ _ _ _ ok0
        subst this
        exact q2 c rfl G' H' z.grow ok0
    · have h1 : (N.take ps.length).length = ps.length := by rw [S0'.pre]
      rw [List.length_take] at h1
      omega
/-- an instance of C, without an own attribute m -/
def InsP (K : FK) (C : Addr) (m : Str) (r : Res) : Prop := ∀ (G : Hp) (v : V) (H : Hp), r.ok K G v H → ∃ a dx fs, v = .ref a ∧ H a = some (.ins C dx fs) ∧ fs.lookup m = none
theorem objR_ins {K : FK} {C p : Addr} {fds : Fds} {m : Str} (h : getF fds m = none) : InsP K C m (objR C p fds) := fun G v H ⟨h1, _, dx, fs, h3, h4⟩ => ⟨p, dx, fs, h1, h3, h4.no h⟩
section
variable {K : FK} {B : Bs} {Γ : List Sl} {F : Fra} {D : Ends} {te : TE} {W : WX} {r r' : Res} {i j : Nat} {p C : Addr} {m : Str} {f : Addr → Res → List DD → Rs → Res → Prop} {ta : TA} {ds : List DD} {rs : Rs}
variable (K B) in
/-- te changes an own thing and yields data, or lets an exception out and changes nothing -/
def EvGX (te : TE) (Γ Γ' : List Sl) (W : WX) (rs : Rs) : Prop := ∀ F σ H, S K B Γ F σ H → ∀ Q : VK, (∀ v d H', rs = .ok d → S K B Γ' (F.dat v d) σ H' → Q v H') → (∀ c H', rs = .er c → S K B Γ F σ H' → W (.ref (He.ga K c)) none σ H') → te σ H Q
theorem EvGX.g {d : DD} {Γ' : List Sl} (h : EvGX K B te Γ Γ' W (.ok d)) : EvG K B te Γ Γ' d := fun F σ H s Q q => h F σ H s Q (fun v d' H' e s' => by cases e; exact q v H' s') fun c H' e => by cases e
theorem EvG.d {d : DD} (h : EvG K B te Γ Γ d) : EvD K B te Γ d := fun F σ H s Q q => h F σ H s Q fun v H' s' => q v d H' rfl s'
theorem set_same {s : Sl} (h : Γ[j]? = some s) : Γ.set j s = Γ := by
  obtain ⟨hlt, hget⟩ := List.getElem?_eq_some_iff.mp h
  rw [← hget]; exact List.set_getElem_self hlt
/-- what a call of a promise spM does to the state -/
theorem callM {F : Fra} {σ : L2.St} {H1 : Hp} {E : XK} {Q : VK} {vs : List V} {es : List DD} {v : V} (hj : Γ[j]? = some (.own r)) (hp : AtP p r) (ha : r'.as = r.as) (hf : f p r es rs r') (l : vs.length = es.length) (s1 : S K B Γ (F.dats (vs.zip es)) σ H1) (hv : σ[j]? = some (some v))
    (q1 : ∀ v d H', rs = .ok d → S K B (Γ.set j (.own r')) (F.dat v d) σ H' → Q v H') (q2 : ∀ c H', rs = .er c → S K B Γ F σ H' → E (.ref (He.ga K c)) none H') : spM K f (v :: vs) H1 Q E := by
  obtain ⟨G, z⟩ := s1
  obtain ⟨v1, hv1, ok1⟩ := z.own hj
  have ev : v = v1 := by rw [hv] at hv1; exact Option.some.inj (Option.some.inj hv1)
  subst ev
  have evp := hp _ _ _ _ ok1
  subst evp
  have own : ∀ a ∈ r.as, a ∈ ownAt Γ (F.dats (vs.zip es)) j := fun a ha => by rw [ownAt_slot hj]; exact ha
  refine ⟨G, p, vs, es, r, rs, r', rfl, ok1, fun a ha => (z.mine j a (own a ha)).1, daL_zip l fun p hp => z.tm p (by simp [hp]), z.ex, hf, fun d e u G' H' g ok' da => q1 u d H' e ⟨G', ?_⟩, fun c e G' H' g ok' => q2 c H' e ⟨G', ?_⟩⟩
  · exact z.updOwn (r' := r') (T' := (u, d) :: F.T) hj g ha hv ok' fun x hx => by
      rcases List.mem_cons.mp hx with e | e
      · rw [e]; exact da
      · exact (z.tm x (by simp [e])).mono g.g
  · have z2 := z.updOwn (r' := r) (T' := F.T) hj g rfl hv ok' fun x hx => (z.tm x (by simp [hx])).mono g.g
    rw [set_same hj] at z2
    exact z2
/-- o.m(..) within a try -/
def tMethW (C : Addr) (m : Str) (sp : Sp) (E : L2.St → XK) (ta : TE) (t : TA) : TE := fun σ H Q => ta σ H fun x H1 => ∃ a dx fs, x = .ref a ∧ H1 a = some (.ins C dx fs) ∧ fs.lookup m = none ∧ t σ H1 fun vs H2 => sp (x :: vs) H2 Q (E σ)
theorem egx_methW (hj : Γ[j]? = some (.own r)) (hp : AtP p r) (hi : InsP K C m r) (ha : r'.as = r.as) (h : EvAD K B ta Γ ds) (hf : f p r ds rs r') : EvGX K B (tMethW C m (spM K f) (WE W) (tVar j) ta) Γ (Γ.set j (.own r')) W rs := fun F σ H s Q q1 q2 => by
  obtain ⟨G, z⟩ := id s
  obtain ⟨v, hv, ok⟩ := z.own hj
  obtain ⟨a, dx, fs, e1, e2, e3⟩ := hi _ _ _ ok
  refine ⟨v, hv, a, dx, fs, e1, e2, e3, ?_⟩
  refine h F σ H s _ fun vs es H1 pe l s1 => ?_
  subst pe
  exact callM hj hp ha hf l s1 hv q1 q2
theorem egx_meth {E : XK} (hj : Γ[j]? = some (.own r)) (hp : AtP p r) (hi : InsP K C m r) (ha : r'.as = r.as) (h : EvAD K B ta Γ ds) (hf : f p r ds rs r') : EvGX K B (tMeth C m (spM K f) [] E (tVar j) ta) Γ (Γ.set j (.own r')) (fun c d _ H => E c d H) rs := fun F σ H s Q q1 q2 => by
  obtain ⟨G, z⟩ := id s
  obtain ⟨v, hv, ok⟩ := z.own hj
  obtain ⟨a, dx, fs, e1, e2, e3⟩ := hi _ _ _ ok
  refine ⟨v, hv, a, dx, fs, e1, e2, e3, ?_⟩
  refine h F σ H s _ fun vs es H1 pe l s1 => ?_
  subst pe
  rw [List.append_nil]
  exact callM hj hp ha hf l s1 hv q1 q2
theorem egx_callM {E : XK} (hj : Γ[j]? = some (.own r)) (hp : AtP p r) (ha : r'.as = r.as) (h : EvAD K B ta Γ ds) (hf : f p r ds rs r') : EvGX K B (tCall (spM K f) [] E (tCons (tVar j) ta)) Γ (Γ.set j (.own r')) (fun c d _ H => E c d H) rs := fun F σ H s Q q1 q2 => by
  obtain ⟨G, z⟩ := id s
  obtain ⟨v, hv, ok⟩ := z.own hj
  refine ⟨v, hv, ?_⟩
  refine h F σ H s _ fun vs es H1 pe l s1 => ?_
  subst pe
  rw [List.append_nil]
  exact callM hj hp ha hf l s1 hv q1 q2
end
end Ly

set_option maxHeartbeats 1000000
namespace Ly
open PySem PySem.Spec PyProof.Rows L2
theorem fAs_append : ∀ (a b : Fds), fAs (a ++ b) = fAs a ++ fAs b
  | [], b => rfl
  | x :: a, b => by
    show x.2.as ++ fAs (a ++ b) = (x.2.as ++ fAs a) ++ fAs b
    rw [fAs_append a b, List.append_assoc]
theorem FsOk.snoc {K : FK} {G H : Hp} {f : Str} {x : Fd} {v : V} (hx : x.ok K G H v) : ∀ {fds : Fds} {fs : List (Str × V)}, FsOk K G H fds fs → getF fds f = none → FsOk K G H (fds ++ [(f, x)]) (putF f v fs)
  | _, _, .nil, _ => .cons hx .nil
  | (n, x0) :: fds, _, .cons h t, e => by
    unfold getF at e
    split at e
    · cases e
    · rename_i q
      unfold putF
      rw [if_neg q]
      exact .cons h (t.snoc hx e)
section
variable {K : FK} {B : Bs} {Γ : List Sl} {F : Fra} {D : Ends} {C p q : Addr} {fds : Fds} {f : Str} {j : Nat} {te tb : TE} {d : DD} {ds : List DD}
/-- a data field is laid -/
theorem nx_fldSet (hj : Γ[j]? = some (.own (objR C p fds))) (hc : Cls K C) (hn : NoAttr K C f) (hf : getF fds f = none) (hl : Nat.blt fds.length 1000 = true) (h : EvD K B te Γ d) (k : Nx K B D.nx (Γ.set j (.own (objR C p (fds ++ [(f, .dat d)])))) F) :
    Nx K B (sFld K (tVar j) te f D) Γ F := fun σ H s => by
  refine h F σ H s _ fun w d' H' e s' => ?_
  subst e
  obtain ⟨G, z⟩ := s'
  obtain ⟨v, hv, rfl, nd, dx, fs, hp, hfs⟩ := z.own hj
  refine ⟨.ref p, hv, p, C, dx, fs, rfl, hp, hc, hn, by rw [hfs.len]; exact of_blt hl, ?_⟩
  have hm : p ∈ ownAt Γ (F.dat w d') j := by rw [ownAt_slot hj]; simp [Sl.as, objR]
  have hg : G p = none := (z.mine j p hm).1
  have nd' := List.nodup_cons.mp nd
  have has : fAs (fds ++ [(f, .dat d')]) = fAs fds := by rw [fAs_append]; simp [fAs, Fd.as]
  refine k _ _ ⟨G, z.updOwn (r' := objR C p (fds ++ [(f, .dat d')])) (T' := F.T) hj (Grow.put (o := .ins C dx (putF f w fs)) z.ex hg (by simp [objR])) (by show p :: fAs _ = p :: fAs _; rw [has]) hv ⟨rfl, by rw [has]; exact nd, dx, _, upd_same, ?_⟩ fun x hx => z.tm x (by simp [hx])⟩
  have h2 : FsOk K G (upd H' p (.ins C dx (putF f w fs))) fds fs := hfs.loc fun a o ha ho => by
    rw [upd_ne]
    · exact ho
    · intro e
      exact nd'.1 (e ▸ ha)
  exact h2.snoc (x := .dat d') (v := w) (show Da K G w d' from z.tm (w, d') (by simp)) hf
/-- an own thing goes into a field -/
theorem S0.fldJoin {F : Fra} {σ : L2.St} {H G : Hp} {v : V} {rX : Res} {x : Fd} (z : S0 K B Γ (F.res1 v rX) σ H G) (hj : Γ[j]? = some (.own (objR C p fds))) (hx : ∀ H', (∀ a o, a ∈ rX.as → H a = some o → H' a = some o) → x.ok K G H' v) (has : x.as = rX.as) (ndx : x.as.Nodup) (hf : getF fds f = none) :
    ∃ dx fs, σ[j]? = some (some (.ref p)) ∧ H p = some (.ins C dx fs) ∧ fs.length = fds.length ∧ S0 K B (Γ.set j (.own (objR C p (fds ++ [(f, x)])))) F σ (upd H p (.ins C dx (putF f v fs))) G := by
  obtain ⟨v0, hv, e0, nd, dx, fs, hp, hfs⟩ := z.own hj
  subst e0
  refine ⟨dx, fs, hv, hp, hfs.len, ?_⟩
  have hi : j < Γ.length := (List.getElem?_eq_some_iff.mp hj).1
  have nd' := List.nodup_cons.mp nd
  have oB : ∀ a ∈ rX.as, a ∈ ownAt Γ (F.res1 v rX) (Γ.length + F.X.length) := fun a ha => by rw [ownAt_res, if_pos rfl]; exact ha
  have oA : ∀ i a, a ∈ ownAt Γ F i → a ∈ ownAt Γ (F.res1 v rX) i := fun i a ha => by
    rw [ownAt_res]; split
    · rename_i e; subst e; rw [ownAt_end] at ha; cases ha
    · exact ha
  have oJ : ∀ a, a ∈ (objR C p fds).as → a ∈ ownAt Γ F j := fun a ha => by rw [ownAt_slot hj]; exact ha
  have apX : ∀ i a, a ∈ ownAt Γ F i → a ∈ rX.as → False := fun i a h1 h2 => by
    have := z.apart _ _ a (oA i a h1) (oB a h2)
    subst this
    rw [ownAt_end] at h1; cases h1
  have hg : G p = none := (z.mine j p (oA j p (oJ p (by simp [objR])))).1
  have asN : (objR C p (fds ++ [(f, x)])).as = (objR C p fds).as ++ rX.as := by
    show p :: fAs (fds ++ [(f, x)]) = (p :: fAs fds) ++ rX.as
    rw [fAs_append]
    simp [fAs, has]
  have own : ∀ i, ownAt (Γ.set j (.own (objR C p (fds ++ [(f, x)])))) F i = if i = j then (objR C p fds).as ++ rX.as else ownAt Γ F i := fun i => by
    rw [ownAt_set _ hi]; split
    · exact asN
    · rfl
  have kp : ∀ a o, a ≠ p → H a = some o → upd H p (.ins C dx (putF f v fs)) a = some o := fun a o n e => by rw [upd_ne n]; exact e
  have g := Grow.put (L := [p]) (o := .ins C dx (putF f v fs)) z.ex hg (by simp)
  have pX : ∀ a ∈ rX.as, a ≠ p := fun a ha e => apX j p (oJ p (by simp [objR])) (e ▸ ha)
  refine ⟨by simpa using z.len, ⟨z.grow.g, g.gh, fun a o n e => ?_, z.grow.new, fun a o e => ?_⟩, fun i t e => ?_, z.tm, fun y hy => ?_, fun i k a h1 h2 => ?_, fun i a h1 => ?_⟩
  · have e' := z.grow.fr a o n e
    refine kp a o (fun q => ?_) e'
    subst q
    rcases (z.mine j a (oA j a (oJ a (by simp [objR])))).2 with y | y
    · exact n y
    · rw [y] at e; cases e
  · obtain ⟨o', e'⟩ := z.grow.dom a o e
    exact g.dom a o' e'
  · by_cases hij : i = j
    · subst hij
      rw [List.getElem?_set_self hi] at e
      cases e
      refine ⟨.ref p, hv, rfl, ?_, dx, _, upd_same, ?_⟩
      · show (objR C p (fds ++ [(f, x)])).as.Nodup
        rw [asN]
        refine List.nodup_append.mpr ⟨nd, has ▸ ndx, fun a ha b hb e => ?_⟩
        subst e
        exact apX i a (oJ a ha) hb
      · have h2 : FsOk K G (upd H p (.ins C dx (putF f v fs))) fds fs := hfs.loc fun a o ha ho => kp a o (fun e => nd'.1 (e ▸ ha)) ho
        exact h2.snoc (hx _ fun a o ha ho => kp a o (pX a ha) ho) hf
    · rw [List.getElem?_set_ne (Ne.symm hij)] at e
      refine (z.sl i t e).step (Ex.refl G) fun a u ha hu => kp a u (fun q => ?_) hu
      have h1 : a ∈ ownAt Γ F i := by rw [ownAt_slot e]; exact ha
      exact hij (z.apart i j a (oA i a h1) (oA j a (oJ a (by rw [q]; simp [objR]))))
  · have hy' : y ∈ (F.res1 v rX).X := List.mem_append_left _ hy
    refine y.2.loc (fun a o ha ho => kp a o (fun e => ?_) ho) (z.xm y hy')
    obtain ⟨k, hk, ek⟩ := List.getElem_of_mem hy
    have ek' : F.X[k]? = some y := by rw [List.getElem?_eq_getElem hk, ek]
    have h1 : a ∈ ownAt Γ F (Γ.length + k) := by rw [ownAt_fra ek']; exact ha
    have := z.apart _ _ a (oA _ a h1) (oA j a (oJ a (by rw [e]; simp [objR])))
    omega
  · rw [own] at h1 h2
    split at h1 <;> split at h2
    · rename_i e1 e2; rw [e1, e2]
    · rename_i e1 e2
      rcases List.mem_append.mp h1 with y | y
      · exact absurd (z.apart j k a (oA j a (oJ a y)) (oA k a h2)) (Ne.symm e2)
      · exact (apX k a h2 y).elim
    · rename_i e1 e2
      rcases List.mem_append.mp h2 with y | y
      · exact absurd (z.apart i j a (oA i a h1) (oA j a (oJ a y))) e1
      · exact (apX i a h1 y).elim
    · exact z.apart i k a (oA i a h1) (oA k a h2)
  · rw [own] at h1
    split at h1
    · rcases List.mem_append.mp h1 with y | y
      · exact z.mine j a (oA j a (oJ a y))
      · exact z.mine _ a (oB a y)
    · exact z.mine i a (oA i a h1)
theorem nx_fldNewL (hj : Γ[j]? = some (.own (objR C p fds))) (hc : Cls K C) (hn : NoAttr K C f) (hf : getF fds f = none) (hl : Nat.blt fds.length 1000 = true) (h : EvND K B te Γ ds) (k : ∀ q, Nx K B D.nx (Γ.set j (.own (objR C p (fds ++ [(f, .lst q ds)])))) F) :
    Nx K B (sFld K (tVar j) te f D) Γ F := fun σ H s => by
  refine h F σ H s _ fun q ds' H' e nl s' => ?_
  subst e
  obtain ⟨G, z⟩ := s'
  obtain ⟨_, xs, h1, h2⟩ := z.xm (.ref q, lstR q ds') (by simp)
  obtain ⟨dx, fs, hv, hp, hlen, z2⟩ := z.fldJoin (f := f) (x := .lst q ds') hj (fun H2 e => ⟨rfl, xs, e q _ (by simp [lstR]) h1, h2⟩) rfl (by simp [Fd.as]) hf
  exact ⟨.ref p, hv, p, C, dx, fs, rfl, hp, hc, hn, by rw [hlen]; exact of_blt hl, k q _ _ ⟨G, z2⟩⟩
theorem nx_fldNewD (hj : Γ[j]? = some (.own (objR C p fds))) (hc : Cls K C) (hn : NoAttr K C f) (hf : getF fds f = none) (hl : Nat.blt fds.length 1000 = true) (h : EvR K B te Γ (fun v r => ∃ q, v = .ref q ∧ q ∉ B.L ∧ r = dnR q [])) (k : ∀ q, Nx K B D.nx (Γ.set j (.own (objR C p (fds ++ [(f, .dct q [])])))) F) :
    Nx K B (sFld K (tVar j) te f D) Γ F := fun σ H s => by
  refine h F σ H s _ fun v r H' e s' => ?_
  obtain ⟨q, rfl, _, rfl⟩ := e
  obtain ⟨G, z⟩ := s'
  obtain ⟨_, ep, kvs, h1, h2⟩ := z.xm (.ref q, dnR q []) (by simp)
  obtain ⟨dx, fs, hv, hp, hlen, z2⟩ := z.fldJoin (f := f) (x := .dct q []) hj (fun H2 e => ⟨rfl, ep, kvs, e q _ (by simp [dnR]) h1, h2⟩) rfl (by simp [Fd.as]) hf
  exact ⟨.ref p, hv, p, C, dx, fs, rfl, hp, hc, hn, by rw [hlen]; exact of_blt hl, k q _ _ ⟨G, z2⟩⟩
end
/-- the promise of an __init__ that raises nothing here -/
def spI (K : FK) (C : Addr) (f : List DD → (Addr → Res → Prop) → Prop) : Sp := fun vs H Q _ => ∃ G p dx us ds Pr, vs = .ref p :: us ∧ H p = some (.ins C dx []) ∧ G p = none ∧ DaL K G us ds ∧ Ex G H ∧ f ds Pr ∧
  ∀ r G' H', Pr p r → Grow [p] G H G' H' → (∀ a ∈ r.as, G' a = none ∧ (a = p ∨ H a = none)) → r.ok K G' (.ref p) H' → Q .non H'
theorem obj0 {K : FK} {C p dx : Addr} {G H : Hp} (h : H p = some (.ins C dx [])) : (objR C p []).ok K G (.ref p) H := ⟨rfl, by simp [fAs], dx, [], h, .nil⟩
theorem def_okI {P : Program} {w : World} {K : FK} {mg : Str → Option Value} {base : Heap} {x qual : Str} {st : Stmt} {fa : Addr} {fd : FuncData} {N ps : List Str} {k : Nat} {C : Addr} {f : List DD → (Addr → Res → Prop) → Prop}
    (F : Fun K x qual st fa fd) (S0' : FnScope N ps (defScope st)) (hl : ∀ ds Pr, f ds Pr → ds.length + 1 = ps.length ∧ ∀ p r, Pr p r → AtP p r)
    (hb : ∀ (cdv : Value) (A : Around) (outer : List Env) (s : Shared) (H : Hp) (E : XK) (B : Bs) (p : Addr) (ds : List DD) (Pr : Addr → Res → Prop), Room k (A.deeper (envOfC qual (defScope st) s.heap.objs.size fa cdv)) → f ds Pr →
      ∃ t, PSs (cxOf (L2.CX P w) P w K mg base N qual (defScope st) fa cdv A outer s H E) (defBody st) t ∧ ∀ Q, (∀ r Γ F σ H', Pr p r → S K B (.own r :: Γ) F σ H' → Q .non H') → Nx K B (t { nx := fun _ H' => Q .non H', rt := Q }) (.own (objR C p []) :: slots0 ds (N.length - 1)) ⟨[], []⟩) :
    FnOk P w K mg base (L2.CX P w) (k + 1) fa fd ps (spI K C f) := by
  refine F.okX S0' (fun vs H Q E h => ?_) (fun cdv A outer s H vs Q E hr h => ?_)
  · obtain ⟨G, p, dx, us, ds, Pr, rfl, _, _, hd, _, hf, _⟩ := h
    rw [List.length_cons, hd.length]; exact (hl _ _ hf).1
  · obtain ⟨G, p, dx, us, ds, Pr, rfl, hp, gp, hd, he, hf, q⟩ := h
    obtain ⟨t, ht, hn⟩ := hb cdv A outer s H E ⟨(objR C p []).as, G, H, bsM_hL (K := K) (G := G) (obj0 (K := K) (G := G) hp)⟩ p ds Pr hr hf
    obtain ⟨l1, l2⟩ := hl _ _ hf
    refine ⟨t, ht, hn Q (fun r Γ F σ H' hPr hS => ?_) _ _ (start_M (obj0 hp) (fun a ha => ?_) he hd ?_)⟩
    · obtain ⟨G', z⟩ := hS
      obtain ⟨v0, _, ok0⟩ := z.own (i := 0) rfl
      have := l2 p r hPr _ _ _ _ ok0
      subst this
      refine q r G' H' hPr z.grow (fun a ha => ?_) ok0
      obtain ⟨m1, m2⟩ := z.mine 0 a (by rw [ownAt_slot (s := .own r) rfl]; exact ha)
      refine ⟨m1, ?_⟩
      rcases m2 with y | y
      · exact .inl (by simpa [objR, fAs] using y)
      · exact .inr y
    · have : a = p := by simpa [objR, fAs] using ha
      rw [this]; exact gp
    · have h1 : (N.take ps.length).length = ps.length := by rw [S0'.pre]
      rw [List.length_take] at h1
      omega
section
variable {K : FK} {B : Bs} {Γ : List Sl} {C : Addr} {f : List DD → (Addr → Res → Prop) → Prop} {ta : TA} {ds : List DD} {Pr : Addr → Res → Prop} {E : XK}
/-- C(..) -/
theorem er_make (h : EvAD K B ta Γ ds) (hf : f ds Pr) : EvR K B (tMake C (spI K C f) [] E ta) Γ (fun v r => ∃ p, v = .ref p ∧ Pr p r) := fun F σ H s Q q =>
  h F σ H s _ fun vs es H1 pe l s1 => by
    subst pe
    obtain ⟨G, z⟩ := s1
    intro x dx hx hdx hne
    rw [List.append_nil]
    have gx : G x = none := z.ex.none hx
    have gdx : G dx = none := z.ex.none hdx
    have g0 : Grow [] G H1 G (upd (upd H1 dx (.own x)) x (.ins C dx [])) := by
      have a1 := Grow.free (L := []) (o := .own x) z.ex hdx
      have a2 := Grow.free (L := []) (o := .ins C dx []) a1.gh (p := x) (by rw [upd_ne (Ne.symm hne)]; exact hx)
      exact a1.trans a2
    refine ⟨G, x, dx, vs, es, Pr, rfl, upd_same, gx, daL_zip l fun p hp => z.tm p (by simp [hp]), g0.gh, hf, fun r G' H' hPr g hr ok => ⟨rfl, ?_⟩⟩
    have hx' : ∀ a ∈ r.as, H1 a = none := fun a ha => by
      rcases (hr a ha).2 with e | e
      · rw [e]; exact hx
      · cases e1 : H1 a with
        | none => rfl
        | some o =>
          obtain ⟨o', e2⟩ := g0.dom a o e1
          rw [e] at e2; cases e2
    refine q (.ref x) r H' ⟨x, rfl, hPr⟩ ⟨G', ?_⟩
    have g1 : Grow [] G H1 G' H' := by
      refine ⟨g.g, g.gh, fun a o _ e => ?_, fun a o e n => ?_, fun a o e => ?_⟩
      · have e2 := g0.fr a o (by simp) e
        refine g.fr a o (fun y => ?_) e2
        rw [List.mem_singleton.mp y, hx] at e; cases e
      · obtain ⟨o', e2⟩ := g0.dom a o e
        exact g.new a o' e2 n
      · obtain ⟨o', e2⟩ := g0.dom a o e
        exact g.dom a o' e2
    have z2 := z.step (T' := F.T) g1 fun y hy => (z.tm y (by simp [hy])).mono g.g
    refine ⟨z2.len, z2.grow, z2.sl, z2.tm, fun y hy => ?_, fun i k a h1 h2 => ?_, fun i a h1 => ?_⟩
    · rcases List.mem_append.mp hy with e | e
      · exact z2.xm y e
      · rw [List.mem_singleton.mp e]; exact ok
    · rw [ownAt_res] at h1 h2
      split at h1 <;> split at h2
      · rename_i e1 e2; rw [e1, e2]
      · obtain ⟨o, ho⟩ := z.dom h2; rw [hx' a h1] at ho; cases ho
      · obtain ⟨o, ho⟩ := z.dom h1; rw [hx' a h2] at ho; cases ho
      · exact z2.apart i k a h1 h2
    · rw [ownAt_res] at h1
      split at h1
      · refine ⟨(hr a h1).1, ?_⟩
        cases e : B.H a with
        | none => exact .inr rfl
        | some o =>
          obtain ⟨o', e'⟩ := z.grow.dom a o e
          rw [hx' a h1] at e'; cases e'
      · exact z2.mine i a h1
end
end Ly

set_option maxHeartbeats 1000000
namespace L2
open PySem PySem.Spec PyProof.Rows
section
variable {X : Cx} {CX : CXT} {k : Nat} {f C : Addr} {fd : FuncData} {ps : List Str} {sp : Sp} {E : St → XK} {m : Str} {pos apos : Pos} {e o : Expr} {es : List Expr} {ta : TE} {t : TA}
theorem pe_methW {pl : Sem Bool} (he : PE X o ta) (c : Cls X.K C) (hm : Meth X.K C m f) (F : FnOk X.prog X.w X.K X.mg X.base CX k f fd ps sp) (hr : Room k X.A) (hb : Binds X.K fd ps []) (hx : ∀ σ, PassesAt CX X σ (E σ)) (ha : PA X (e :: es) t) (hst : starEach (e :: es) X.env = (false, eval e X.env) :: starEach es X.env := by rfl) (hpl : (backTo pos (starEach es X.env)).any (·.1) = false := by rfl)
    (ht : eval (.Call (.Attribute o m apos) (e :: es) [] pos) X.env = (eval o X.env >>= fun ov => standAt apos.atName >>= fun _ => holding [ov] (getMethod ov m pl) >>= fun fm => callWith pos fm.1 fm.2 (backTo pos (starEach (e :: es) X.env)) (backToKw pos (keywordEach [] X.env))) := by rfl) :
    PE X (.Call (.Attribute o m apos) (e :: es) [] pos) (Ly.tMethW C m sp E ta t) :=
  ⟨fun pins s σ H Q I h => PySem.W.methodCall_KW (pl := pl) (thn (he.run pins s σ H _ I h) fun u s1 hh => by
    obtain ⟨x, H1, I1, rx, a, dx, fs, ex, ea, l, q⟩ := hh
    subst ex
    have eu : u = Value.ref a := rx
    subst eu
    refine getmeth_ok (m := m) (g := f) I1 ea c hm l ?_
    refine PySem.W.callWith_K (first := [.ref a]) (h₀ := X.base) I.ok.mod.kin hm.kp (thn (ha.run pos pins s1 σ H1 _ I1 q) fun us s2 h2 => ?_) hst hpl
    obtain ⟨vs, H2, I2, r, q2⟩ := h2
    exact ⟨I2.kIn, run_fnS (us := .ref a :: us) (vs := .ref a :: vs) F hr hb (hx σ) I2 (.cons rfl r) q2⟩) ht⟩
theorem pe_methW0 {pl : Sem Bool} (he : PE X o ta) (c : Cls X.K C) (hm : Meth X.K C m f) (F : FnOk X.prog X.w X.K X.mg X.base CX k f fd ps sp) (hr : Room k X.A) (hb : Binds X.K fd ps []) (hx : ∀ σ, PassesAt CX X σ (E σ))
    (ht : eval (.Call (.Attribute o m apos) [] [] pos) X.env = (eval o X.env >>= fun ov => standAt apos.atName >>= fun _ => holding [ov] (getMethod ov m pl) >>= fun fm => callWith pos fm.1 fm.2 (backTo pos (starEach [] X.env)) (backToKw pos (keywordEach [] X.env))) := by rfl) :
    PE X (.Call (.Attribute o m apos) [] [] pos) (Ly.tMethW C m sp E ta tNil) :=
  ⟨fun pins s σ H Q I h => PySem.W.methodCall_KW (pl := pl) (thn (he.run pins s σ H _ I h) fun u s1 hh => by
    obtain ⟨x, H1, I1, rx, a, dx, fs, ex, ea, l, q⟩ := hh
    subst ex
    have eu : u = Value.ref a := rx
    subst eu
    refine getmeth_ok (m := m) (g := f) I1 ea c hm l ?_
    exact PySem.W.callWith_K0 I1.kIn hm.kp (run_fnS (us := [.ref a]) (vs := [.ref a]) F hr hb (hx σ) I1 (.cons rfl .nil) q)) ht⟩
end
end L2
namespace Ly
open PySem PySem.Spec PyProof.Rows L2
section
variable {K : FK} {B : Bs} {Γ Γ' : List Sl} {F : Fra} {D : Ends} {ta tb te : TE} {tt : TT} {W : WX} {rs : Rs} {i j k : Nat} {b : Bool}
theorem egx_if (h : EvT K B tt Γ b) (h1 : b = true → EvGX K B ta Γ Γ' W rs) (h2 : b = false → EvGX K B tb Γ Γ' W rs) : EvGX K B (tIf tt ta tb) Γ Γ' W rs := fun F σ H s Q q qe => h F σ H s _ fun H' s' => by
  cases b with
  | true => exact h1 rfl F σ H' s' Q q qe
  | false => exact h2 rfl F σ H' s' Q q qe
/-- try: x = te / except RestError as e: caught = e, where te changes an own thing -/
theorem nx_tryG {c : Value} {Wout : WX} (hx : EvGX K B te Γ Γ' (wKeep K c i (tAsg (tVar i) (gName k)) Wout D) rs) (hl' : Γ'.length = Γ.length)
    (h1 : ∀ d, rs = .ok d → Nx K B D.nx (Γ'.set j (.dat d)) F)
    (h2 : ∀ x, rs = .er x → PySem.W.exmOne K (.ref (He.ga K x)) c = some true ∧ ∀ a, Nx K B D.nx (((Γ.set i .no).set k (.own (excR a x))).set i .no) F)
    (hi : (Nat.blt i Γ.length && (Nat.blt j Γ.length && Nat.blt k Γ.length)) = true := by rfl) :
    Nx K B (tAsg te (gName j) D) Γ F := fun σ H s => by
  obtain ⟨i1, i23⟩ := Bool.and_eq_true_iff.mp hi
  obtain ⟨i2, i3⟩ := Bool.and_eq_true_iff.mp i23
  refine hx F σ H s _ (fun v d H' p z' => h1 d p _ _ ?_) (fun x H' p z' => ?_)
  · obtain ⟨G, z⟩ := z'
    exact ⟨G, (z.setDat (by rw [hl']; exact of_blt i2) (by simp)).drop fun q hq => by simp [hq]⟩
  · obtain ⟨G, z⟩ := z'
    obtain ⟨e, hn⟩ := h2 x p
    refine ⟨true, e, fun _ => ⟨rfl, fun a ha => ?_⟩, fun z => by cases z⟩
    have hl : i < Γ.length := of_blt i1
    have z1 : S0 K B Γ (F.res1 (.ref a) (excR a x)) σ (upd H' a (CgO (.ref (He.ga K x)) a)) G := z.newRes (Grow.free z.ex ha) ⟨rfl, upd_same⟩ fun b hb => by
      have e : b = a := by simpa [excR] using hb
      rw [e]; exact ha
    have z2 := z1.setNo (i := i) (o := some (.ref a)) hl
    refine ⟨.ref a, by rw [List.getElem?_set_self (by rw [z.len]; exact hl)], ?_⟩
    have z3 := z2.setOwn (i := k) (by rw [List.length_set]; exact of_blt i3)
    exact hn a _ _ ⟨G, z3.setNo (i := i) (o := none) (by rw [List.length_set, List.length_set]; exact hl)⟩
end
end Ly

set_option maxHeartbeats 1000000
namespace L2
open PySem PySem.Spec PyProof.Rows
section
variable {X : Cx} {CX : CXT} {k : Nat} {f C : Addr} {fd : FuncData} {sp : Sp} {E : XK}
def rLenC (C : Addr) (sp : Sp) (E : XK) : List V → Hp → VK → Prop := fun xs H Q => ∃ a dx fs, xs = [.ref a] ∧ H a = some (.ins C dx fs) ∧ sp [.ref a] H (fun v H' => ∃ n : Int, v = .int n ∧ 0 ≤ n ∧ n < 2 ^ 63 ∧ Q (.int n) H') E
theorem cr_lenC (hm : Meth X.K C "__len__" f) (F : FnOk X.prog X.w X.K X.mg X.base CX k f fd ["self"] sp) (hr : Room (k + 1) X.A) (hb : Binds X.K fd ["self"] []) (hx : Passes CX X E) : CallR X (.builtin "len") (rLenC C sp E) := by
  intro pins s σ H xs us Q I r h
  obtain ⟨a, dx, fs, rfl, ea, hsp⟩ := h
  obtain ⟨u, rfl, rx⟩ := vals1 r
  cases rx
  obtain ⟨mA, O, rr, _, _, _⟩ := ins_get I.hok ea
  obtain ⟨od, Iat, _⟩ := O.look
  have e0 := I.env0
  have e1 : Env0 X.prog X.w X.K X.mg X.base X.A.in1 X.stack s H := ⟨e0.frames, e0.mod, e0.bs, e0.bsz, e0.funs, e0.frf, e0.hok, e0.bare⟩
  have b := hb s [.ref a] I.kIn rfl
  rw [List.append_nil] at b
  refine Calls.call_function_entry kind_len plain_len entry_len (args_len1 (Value.ref a)) ?_
  unfold Builtin.«len»
  refine wpAny_bind (m := oneArg "len" ⟨[Value.ref a], []⟩) (wpAny_pure ?_)
  refine wpAny_bind (m := callSpecial? (.ref a) (Str.ofString "__len__")) (PySem.W.special_fn I.kIn Iat hm.at_ (beq_iff_eq.mp hm.fn) (wpAny_call (codeAny_mono (F.run X.A.in1 X.stack s H ⟨[.ref a], []⟩ [.ref a] [.ref a] _ E hr.in1 e1 b r hsp) fun rs s' hq => ?_)))
  cases rs with
  | error er => exact hx pins σ H s er s' I hq
  | ok fl =>
    cases fl with
    | ret u =>
      obtain ⟨v, H', I', rv, n, rfl, h0, h1, q⟩ := I.after hq
      obtain ⟨tk, rfl⟩ : ∃ tk, u = Value.int n tk := rv
      show wpAny _ _ _ _ _ s'
      refine wpAny_bind (wpAny_holding (wpAny_pure (wpAny_bind (wpAny_letGo ?_))))
      show wpAny _ _ (if n < 0 then _ else _) _ _ _; rw [if_neg (Int.not_lt.mpr h0)]
      show wpAny _ _ (if n ≥ 2 ^ 63 then _ else _) _ _ _; rw [if_neg (Int.not_le.mpr h1)]
      exact wpAny_bind (wpAny_mkInt (wpAny_pure ⟨_, rfl, ⟨.int n, H', I'.tok _, ⟨_, rfl⟩, q⟩⟩))
    | next => exact False.elim hq
    | brk => exact False.elim hq
    | cont => exact False.elim hq
end
end L2
namespace Ly
open PySem PySem.Spec PyProof.Rows L2
section
variable {K : FK} {B : Bs} {Γ : List Sl} {r : Res} {j : Nat} {p C : Addr} {f : Addr → Res → List DD → Rs → Res → Prop} {E : XK} {n : Int}
theorem ev_lenC (hj : Γ[j]? = some (.own r)) (hp : AtP p r) (hi : InsP K C "__len__" r) (hf : f p r [] (.ok (.int n)) r) (h0 : 0 ≤ n) (h1 : n < 2 ^ 63) : EvD K B (tCB (rLenC C (spM K f) E) (tCons (tVar j) tNil)) Γ (.int n) := fun F σ H s Q q => by
  obtain ⟨G, z⟩ := id s
  obtain ⟨v, hv, ok⟩ := z.own hj
  obtain ⟨a, dx, fs, e1, e2, _⟩ := hi _ _ _ ok
  subst e1
  refine ⟨.ref a, hv, a, dx, fs, rfl, e2, ?_⟩
  refine callM (F := F) (vs := []) (es := []) hj hp rfl hf rfl s hv (fun u d H' e s' => ?_) (fun c H' e => by cases e)
  cases e
  rw [set_same hj] at s'
  obtain ⟨G', z'⟩ := id s'
  have eu := (z'.tm (u, .int n) (by simp)).int_inv
  subst eu
  exact ⟨n, rfl, h0, h1, q _ _ H' rfl s'⟩
end
end Ly

set_option maxHeartbeats 1000000
namespace Ly
open PySem PySem.Spec PyProof.Rows L2
section
variable {K : FK} {B : Bs} {Γ Γ' Γ2 : List Sl} {F : Fra} {D : Ends} {ta tb te : TE} {t u : TS} {tt ts : TT} {x y d : DD} {b c : Bool}
theorem eg_of (h : EvD K B te Γ d) : EvG K B te Γ Γ d := fun F σ H s Q q => h F σ H s Q fun v d' H' e s' => by subst e; exact q v H' s'
/-- x op y, the left side may change a thing, then the right side -/
theorem eg_op {r : R2} {z : DD} (ha : EvG K B ta Γ Γ' x) (hb : EvG K B tb Γ' Γ2 y) (hr : RD K r x y z) : EvG K B (tOp r ta tb) Γ Γ2 z := fun F σ H s Q q =>
  ha F σ H s _ fun v H1 s1 => hb _ σ H1 s1 _ fun w H2 s2 => by
    obtain ⟨G, z2⟩ := s2
    refine hr v w G H2 (z2.tm (v, x) (by simp)) (z2.tm (w, y) (by simp)) z2.ex _ fun v' G' H' g hd => q v' H' ?_
    exact (S.grown (d := z) z2 g hd).drop fun p hp => by
      simp at hp ⊢
      rcases hp with e | e <;> simp [e]
theorem eg_neD (ha : EvG K B ta Γ Γ' x) (hb : EvG K B tb Γ' Γ2 y) (sx : SeqAt.shaped x = true) (sy : SeqAt.shaped y = true) : EvG K B (tOp (rNeD K) ta tb) Γ Γ2 (.bool (!PyData.eqv x y)) :=
  eg_op ha hb fun v u G H hv hu e Q q => ⟨x, y, dp_ex e hv sx, dp_ex e hu sy, sx, sy, q _ G H (Grow.refl e) (.bl _)⟩
theorem eg_eqD (ha : EvG K B ta Γ Γ' x) (hb : EvG K B tb Γ' Γ2 y) (sx : SeqAt.shaped x = true) (sy : SeqAt.shaped y = true) : EvG K B (tOp (rEqD K) ta tb) Γ Γ2 (.bool (PyData.eqv x y)) :=
  eg_op ha hb fun v u G H hv hu e Q q => ⟨x, y, dp_ex e hv sx, dp_ex e hu sy, sx, sy, q _ G H (Grow.refl e) (.bl _)⟩
variable (K B) in
/-- a test that may change a thing -/
def EvTG (tt : TT) (Γ Γ' : List Sl) (b : Bool) : Prop := ∀ F σ H, S K B Γ F σ H → ∀ Q : Bool → Hp → Prop, (∀ H', S K B Γ' F σ H' → Q b H') → tt σ H Q
theorem etg_test (h : EvG K B te Γ Γ' (.bool b)) : EvTG K B (tTest te) Γ Γ' b := fun F σ H s Q q => h F σ H s _ fun v H' s' => by
  obtain ⟨G, s1⟩ := id s'
  exact ⟨b, (s1.tm (v, .bool b) (by simp)).bl_inv, q H' s'.pop⟩
theorem etg_of (h : EvT K B tt Γ b) : EvTG K B tt Γ Γ b := fun F σ H s Q q => h F σ H s Q q
theorem nx_ifG (h : EvTG K B tt Γ Γ' b) (h1 : b = true → Nx K B (t D) Γ' F) (h2 : b = false → Nx K B (u D) Γ' F) : Nx K B (tIfS tt t u D) Γ F := fun σ H s =>
  h F σ H s _ fun H' s' => by
    cases b with
    | true => exact h1 rfl σ H' s'
    | false => exact h2 rfl σ H' s'
variable {r : Res} {j : Nat} {p C : Addr} {m : Str} {f : Addr → Res → List DD → Rs → Res → Prop} {tr : TA} {ds : List DD} {E : XK}
/-- o.m(..) that leaves the thing as it was -/
theorem ev_methS (hj : Γ[j]? = some (.own r)) (hp : AtP p r) (hi : InsP K C m r) (h : EvAD K B tr Γ ds) (hf : f p r ds (.ok d) r) : EvD K B (tMeth C m (spM K f) [] E (tVar j) tr) Γ d := by
  have := (egx_meth (E := E) hj hp hi rfl h hf).g
  rw [set_same hj] at this
  exact this.d
/-- an own result among the parts of a tuple -/
theorem em_O {Pr : V → Res → Prop} {Pm : List Mx → Prop} (h : EvR K B te Γ Pr) (hr : EvM K B tr Γ Pm) : EvM K B (tCons te tr) Γ (fun ms => ∃ v q ms', Pr v q ∧ Pm ms' ∧ ms = .res v q :: ms') := fun F σ H s Q k =>
  h F σ H s _ fun v z H1 e1 s1 => hr _ σ H1 s1 _ fun ms T' H2 e2 ht s2 => k (.res v z :: ms) T' H2 ⟨v, z, ms, e1, e2, rfl⟩ (fun y hy => ht y hy) (by
    have e : (F.res1 v z).X ++ mxX ms = F.X ++ mxX (.res v z :: ms) := by simp [mxX]
    rw [e] at s2; exact s2)
theorem etg_or0 (ha : EvTG K B tt Γ Γ' false) (hb : EvTG K B ts Γ' Γ2 b) : EvTG K B (tOr tt ts) Γ Γ2 b := fun F σ H s Q q => ha F σ H s _ fun H1 s1 => by
  rw [if_neg (by decide)]
  exact hb F σ H1 s1 Q q
theorem etg_and1 (ha : EvTG K B tt Γ Γ' true) (hb : EvTG K B ts Γ' Γ2 b) : EvTG K B (tAnd tt ts) Γ Γ2 b := fun F σ H s Q q => ha F σ H s _ fun H1 s1 => by
  rw [if_pos rfl]
  exact hb F σ H1 s1 Q q
theorem eg_andV1 (ha : EvG K B ta Γ Γ' (.bool true)) (hb : EvG K B tb Γ' Γ2 d) : EvG K B (tAndV ta tb) Γ Γ2 d := fun F σ H s Q q => ha F σ H s _ fun v H1 s1 => by
  obtain ⟨G, z⟩ := id s1
  refine ⟨true, (z.tm (v, .bool true) (by simp)).bl_inv, ?_⟩
  rw [if_pos rfl]
  exact hb F σ H1 s1.pop Q q
theorem eg_orV0 (ha : EvG K B ta Γ Γ' (.bool false)) (hb : EvG K B tb Γ' Γ2 d) : EvG K B (tOrV ta tb) Γ Γ2 d := fun F σ H s Q q => ha F σ H s _ fun v H1 s1 => by
  obtain ⟨G, z⟩ := id s1
  refine ⟨false, (z.tm (v, .bool false) (by simp)).bl_inv, ?_⟩
  rw [if_neg (by decide)]
  exact hb F σ H1 s1.pop Q q
end
end Ly

set_option maxHeartbeats 1000000
namespace Ly
open PySem PySem.Spec PyProof.Rows L2
def AllN (kds : List (NK × DD)) : Prop := ∀ p ∈ kds, ∃ i, p.1 = NestedKey.num i
def RelI (p : NK × V × V) (q : Int × Value) : Prop := p.1 = .num q.1 ∧ p.2.1 = .int q.1 ∧ RelV p.2.2 q.2
section
variable {K : FK} {G : Hp} {P : Program} {w : World}
theorem to_int {l : KVs} {m : List (NK × Value × Value)} {kd : List (NK × DD)} (r : Paired RelD l m) : DnOk K G l kd → AllN kd → ∃ ys : List (Int × Value), Paired RelI l ys ∧ Pairs (intKind P w) (m.map (entD w)) ys ∧ (∀ e ∈ m.map (entD w), ∃ k, Value.isInt k e.key = true ∧ e.hash = hashInt k) ∧ m.map (·.1) = ys.map fun y => NestedKey.num y.1 := by
  induction r generalizing kd with
  | nil => exact fun _ _ => ⟨[], .nil, .nil, (fun e he => nomatch he), rfl⟩
  | @cons a b as bs h t ih =>
    intro hd hn
    cases hd with
    | @cons k u v d xs ds d1 d2 d3 dt =>
      obtain ⟨ys, r1, r2, r3, r4⟩ := ih dt fun y hy => hn y (by simp [hy])
      obtain ⟨i, hi⟩ := hn (k, d) (by simp)
      simp only at hi
      subst hi
      have hu : u = .int i := Da.int_inv d1
      subst hu
      obtain ⟨e1, ⟨tk, e2⟩, e3⟩ := h
      simp only at e1
      refine ⟨(i, b.2.2) :: ys, .cons ⟨rfl, rfl, e3⟩ r1, .cons ?_ rfl r2, fun e he => ?_, ?_⟩
      · show Value.isInt i b.2.1 = true
        rw [e2]; simp [Value.isInt]
      · rcases List.mem_cons.mp he with z | z
        · subst z
          refine ⟨i, ?_, ?_⟩
          · show Value.isInt i b.2.1 = true
            rw [e2]; simp [Value.isInt]
          · show b.1.hash w = _
            rw [← e1]; rfl
        · exact r3 e z
      · rw [List.map_cons, List.map_cons, r4, ← e1]
theorem num_nodup : ∀ {ys : List (Int × Value)}, (ys.map fun y => NestedKey.num y.1).Nodup → (ys.map (·.1)).Nodup
  | [], _ => List.nodup_nil
  | y :: ys, h => by
    rw [List.map_cons, List.nodup_cons] at h
    rw [List.map_cons, List.nodup_cons]
    refine ⟨fun z => h.1 ?_, num_nodup h.2⟩
    obtain ⟨q, hq, e⟩ := List.mem_map.mp z
    exact List.mem_map.mpr ⟨q, hq, by rw [e]⟩
theorem num_nodup' : ∀ {ys : List (Int × Value)}, (ys.map (·.1)).Nodup → (ys.map fun y => NestedKey.num y.1).Nodup
  | [], _ => List.nodup_nil
  | y :: ys, h => by
    rw [List.map_cons, List.nodup_cons] at h
    rw [List.map_cons, List.nodup_cons]
    refine ⟨fun z => h.1 ?_, num_nodup' h.2⟩
    obtain ⟨q, hq, e⟩ := List.mem_map.mp z
    injection e with e
    exact List.mem_map.mpr ⟨q, hq, e⟩
theorem di_raw {h : Heap} {a : Addr} {ep : Nat} {kvs : KVs} {kds : List (NK × DD)} (raw : RawD a ep kvs h) (hk : DnOk K G kvs kds) (hn : AllN kds) : ∃ ys : List (Int × Value), Paired RelI kvs ys ∧ h.DictOf (intKind P w) a ys := by
  obtain ⟨z, y, pl, xs, r, o, es, w0, h1, h2, h3, h4, h5⟩ := raw
  have h4' : es.toList = xs.map (entD w) := h4.trans (ent_any r pl)
  obtain ⟨ys, r1, r2, r3, r4⟩ := to_int (P := P) (w := w) r hk hn
  refine ⟨ys, r1, o, es, ep, h1, h2, h3, fun e he => ?_, ?_, ?_⟩
  · exact r3 e (by rw [← h4']; exact Array.mem_toList_iff.mpr he)
  · rw [h4']; exact r2
  · rw [r4] at h5; exact num_nodup h5
theorem raw_pairs {w : World} : ∀ {kvs : KVs} {ys : List (Int × Value)} {l : List DictEntry}, Paired RelI kvs ys → Pairs (intKind P w) l ys → (∀ e ∈ l, ∃ k, Value.isInt k e.key = true ∧ e.hash = hashInt k) → ∃ xs : List (NK × Value × Value), Paired RelD kvs xs ∧ l = xs.map (entD w) ∧ xs.map (·.1) = ys.map fun y => NestedKey.num y.1 := by
  intro kvs ys l r
  induction r generalizing l with
  | nil => intro p _; cases p; exact ⟨[], .nil, rfl, rfl⟩
  | @cons a b as bs h t ih =>
    intro p hh
    cases p with
    | @cons e _ el _ p1 p2 p3 =>
      obtain ⟨xs, x1, x2, x3⟩ := ih p3 fun e he => hh e (by simp [he])
      obtain ⟨q1, q2, q3⟩ := h
      obtain ⟨tk, hk⟩ := Value.isInt_shape (show Value.isInt b.1 e.key = true from p1)
      obtain ⟨k', hk1, hk2⟩ := hh e (by simp)
      rw [hk] at hk1
      have ek : b.1 = k' := by simpa [Value.isInt] using hk1
      refine ⟨(.num b.1, e.key, e.val) :: xs, .cons ⟨q1, ?_, ?_⟩ x1, ?_, ?_⟩
      · rw [q2, hk]; exact ⟨tk, rfl⟩
      · rw [p2]; exact q3
      · rw [List.map_cons, ← x2]
        congr 1
        show e = ⟨hashInt b.1, e.key, e.val⟩
        rw [ek, ← hk2]
      · rw [List.map_cons, List.map_cons, x3]
theorem raw_ofI {h : Heap} {a : Addr} {kvs : KVs} {ys : List (Int × Value)} (hz : kvs.length ≤ sizeLine) (hs : (a == sysModules) = false) (r : Paired RelI kvs ys) (d : h.DictOf (intKind P w) a ys) : ∃ ep, RawD a ep kvs h := by
  obtain ⟨o, es, ep, h1, h2, h3, h4, h5, h6⟩ := d
  obtain ⟨xs, x1, x2, x3⟩ := raw_pairs r h5 fun e he => h4 e (Array.mem_toList_iff.mp he)
  refine ⟨ep, hz, hs, fun p hp => ?_, xs, x1, o, es, w, h1, h2, h3, x2, ?_⟩
  · have : ∀ {l : KVs} {m : List (Int × Value)}, Paired RelI l m → ∀ p ∈ l, plainK p.1 = true := by
      intro l m q
      induction q with
      | nil => intro p hp; exact nomatch hp
      | @cons a b as bs h t ih =>
        intro p hp
        rcases List.mem_cons.mp hp with e | e
        · rw [e, h.1]; rfl
        · exact ih p e
    exact this r p hp
  · rw [x3]; exact num_nodup' h6
theorem di_get {i : Int} : ∀ {l : KVs} {m : List (Int × Value)} {kd : List (NK × DD)}, Paired RelI l m → DnOk K G l kd →
    (∀ d, getA kd (.num i) = some d → ∃ u v, valueAt m i = some u ∧ RelV v u ∧ Da K G v d) ∧ (getA kd (.num i) = none → valueAt m i = none) := by
  intro l m kd r
  induction r generalizing kd with
  | nil =>
    intro h
    cases h
    exact ⟨fun d q => by simp [getA] at q, fun _ => rfl⟩
  | @cons p q ps qs hq t ih =>
    intro h
    cases h with
    | @cons k' u' v' d' xs ds d1 d2 d3 dt =>
      obtain ⟨q1, q2, q3⟩ := hq
      obtain ⟨i1, i2⟩ := ih dt
      simp only at q1
      subst q1
      by_cases e : q.1 = i
      · have e1 : valueAt (q :: qs) i = some q.2 := by simp [valueAt, e]
        refine ⟨fun d hd => ?_, fun hn => ?_⟩
        · simp [getA, e] at hd
          subst hd
          exact ⟨q.2, v', e1, q3, d3⟩
        · simp [getA, e] at hn
      · have e1 : valueAt (q :: qs) i = valueAt qs i := by simp [valueAt, e]
        have e2 : getA ((NestedKey.num q.1, d') :: ds) (NestedKey.num i) = getA ds (.num i) := by simp [getA, e]
        rw [e1, e2]
        exact ⟨i1, i2⟩
theorem di_some {i : Int} {l : KVs} {m : List (Int × Value)} {kd : List (NK × DD)} (r : Paired RelI l m) (h : DnOk K G l kd) : (valueAt m i).isSome = hasA kd (.num i) := by
  rw [← getA_has]
  obtain ⟨h1, h2⟩ := di_get (i := i) r h
  cases q : getA kd (.num i) with
  | none => rw [h2 q]; rfl
  | some d =>
    obtain ⟨p, v, e, _⟩ := h1 d q
    rw [e]; rfl
theorem di_put {i : Int} {v : V} {u : Value} (rv : RelV v u) {l : KVs} {m : List (Int × Value)} (r : Paired RelI l m) : Paired RelI (putV l (.num i) (.int i) v) (stored m i u) := by
  have any : ∀ {l : KVs} {m : List (Int × Value)}, Paired RelI l m → (l.any fun x => decide (x.1 = NestedKey.num i)) = (m.any fun kv => decide (kv.1 = i)) := by
    intro l m r
    induction r with
    | nil => rfl
    | @cons p q ps qs hq t ih =>
      rw [List.any_cons, List.any_cons, ih, hq.1]
      by_cases e : q.1 = i
      · simp [e]
      · simp [e]
  unfold putV stored
  rw [any r]
  cases e : (m.any fun kv => decide (kv.1 = i)) with
  | true =>
    simp only [if_true]
    clear any e
    induction r with
    | nil => exact .nil
    | @cons p q ps qs hq t ih =>
      rw [List.map_cons, List.map_cons]
      refine .cons ?_ ih
      obtain ⟨q1, q2, q3⟩ := hq
      by_cases e : q.1 = i
      · have e' : p.1 = NestedKey.num i := by rw [q1, e]
        rw [if_pos e', if_pos e]
        exact ⟨q1, q2, rv⟩
      · have e' : ¬ p.1 = NestedKey.num i := fun z => e (by rw [q1] at z; injection z)
        rw [if_neg e', if_neg e]
        exact ⟨q1, q2, q3⟩
  | false =>
    simp only [Bool.false_eq_true, if_false]
    exact Paired.snoc r ⟨rfl, rfl, rv⟩
end
/-- the dict at a, asked at i -/
def diK (K : FK) (H : Hp) (a : Addr) (ep : Nat) (kvs : KVs) (kds : List (NK × DD)) (G : Hp) : Prop := Ex G H ∧ H a = some (ddO a ep kvs) ∧ DnOk K G kvs kds ∧ AllN kds
def rInI (K : FK) (neg : Bool) : R2 := fun y x H Q => ∃ a i ep kvs kds G, y = .int i ∧ x = .ref a ∧ diK K H a ep kvs kds G ∧ Q (.bl (if neg then !hasA kds (.num i) else hasA kds (.num i))) H
def rIxI (K : FK) : R2 := fun x y H Q => ∃ a i ep kvs kds G d, x = .ref a ∧ y = .int i ∧ diK K H a ep kvs kds G ∧ getA kds (.num i) = some d ∧ ∀ v, Da K G v d → Q v H
def rSetI (K : FK) : TSet := fun x y v H Q => ∃ a i ep kvs kds G, x = .ref a ∧ y = .int i ∧ diK K H a ep kvs kds G ∧ kvs.length < sizeLine ∧ ∀ ep', Q (upd H a (ddO a ep' (putV kvs (.num i) (.int i) v)))
def rGetI (K : FK) : V → List V → Hp → VK → Prop := fun x xs H Q => ∃ a i dv ep kvs kds G, x = .ref a ∧ xs = [.int i, dv] ∧ diK K H a ep kvs kds G ∧ ((∀ d, getA kds (.num i) = some d → ∀ v, Da K G v d → Q v H) ∧ (getA kds (.num i) = none → Q dv H))
def rSdI (K : FK) : V → List V → Hp → VK → Prop := fun x xs H Q => ∃ a i dv ep kvs kds G, x = .ref a ∧ xs = [.int i, dv] ∧ diK K H a ep kvs kds G ∧ kvs.length < sizeLine ∧ ((∀ d, getA kds (.num i) = some d → ∀ v, Da K G v d → Q v H) ∧ (getA kds (.num i) = none → ∀ ep', Q dv (upd H a (ddO a ep' (putV kvs (.num i) (.int i) dv)))))
def rLenI (K : FK) : List V → Hp → VK → Prop := fun xs H Q => ∃ a ep kvs, xs = [.ref a] ∧ H a = some (ddO a ep kvs) ∧ Q (.int (kvs.length : Nat)) H
section
variable {X : Cx}
theorem int_key {P : Program} {w : World} {i : Int} {u : Value} (r : RelV (.int i) u) : (intKind P w).is i u = true := by
  obtain ⟨t, rfl⟩ := r
  show Value.isInt i (.int i t) = true
  simp [Value.isInt]
theorem di_at {pins : List (Addr × Obj)} {σ : L2.St} {H : Hp} {s : Shared} (I : Inv X pins σ H s) {a : Addr} {ep : Nat} {kvs : KVs} {kds : List (NK × DD)} {G : Hp} (h : diK X.K H a ep kvs kds G) :
    kvs.length ≤ sizeLine ∧ (a == sysModules) = false ∧ ∃ ys : List (Int × Value), Paired RelI kvs ys ∧ s.heap.DictOf (intKind X.prog X.w) a ys := by
  obtain ⟨e, ha, hk, hn⟩ := h
  have raw : RawD a ep kvs s.heap := (I.hok a _ ha).1
  exact ⟨raw.1, raw.2.1, di_raw raw hk hn⟩
theorem op_inI : OpR X (compareOp .In) (rInI X.K false) := by
  intro pins s σ H y x v u Q I ry rx h
  obtain ⟨a, i, ep, kvs, kds, G, rfl, rfl, hh, z⟩ := h
  cases rx
  obtain ⟨_, hs, ys, r, dd⟩ := di_at I hh
  refine wpAny_in_of (int_key ry) hs dd.mapOf ?_
  rw [di_some r hh.2.2.1]
  exact ⟨.bl _, H, I.tok _, rfl, z⟩
theorem op_niI : OpR X (compareOp .NotIn) (rInI X.K true) := by
  intro pins s σ H y x v u Q I ry rx h
  obtain ⟨a, i, ep, kvs, kds, G, rfl, rfl, hh, z⟩ := h
  cases rx
  obtain ⟨_, hs, ys, r, dd⟩ := di_at I hh
  refine wpAny_notIn_of (int_key ry) hs dd.mapOf ?_
  rw [di_some r hh.2.2.1]
  exact ⟨.bl _, H, I.tok _, rfl, z⟩
theorem set_di : PSet X (rSetI X.K) := by
  intro pins s σ H x y v ov iv u Q I rx ry rv h
  obtain ⟨a, i, ep, kvs, kds, G, rfl, rfl, hh, hl, z⟩ := h
  cases rx
  obtain ⟨hz, hs, ys, r, dd⟩ := di_at I hh
  refine wpAny_setItem_pairs (hsz := by rw [← Paired.length r]; exact hz) (int_key ry) dd fun h' dd' hs' => ?_
  obtain ⟨o, es, ep0, h1, _⟩ := id dd'
  obtain ⟨ep', rw'⟩ := raw_ofI (by have := putV_len kvs (.num i) (.int i) v; omega) hs (di_put rv r) dd'
  exact ⟨_, d_write I (by rw [hh.2.1]; exact True.intro) hs' ⟨o, h1⟩ (ddO_ok rw'), z ep'⟩
theorem mt_getI : MtR X "dict.get" (rGetI X.K) := by
  intro pins s σ H x xs v us Q I rx rxs h
  obtain ⟨a, i, dv, ep, kvs, kds, G, rfl, rfl, hh, h1, h2⟩ := h
  cases (show v = Value.ref a from rx)
  obtain ⟨u1, u2, rfl, r1, r2⟩ := vals2 rxs
  obtain ⟨_, hs, ys, r, dd⟩ := di_at I hh
  refine call_meetsIn F.slot_dict_get dd.typeIs F.entry_dict_get (F.args_dict_get_3 _ _ _) (meets_dict_get_default (intKind X.prog X.w) a (int_key r1) hs u2) ⟨_, dd.mapOf, ?_⟩
  obtain ⟨g1, g2⟩ := di_get (i := i) r hh.2.2.1
  cases hg : getA kds (.num i) with
  | none =>
    rw [g2 hg]
    exact ⟨dv, H, I.tok _, r2, h2 hg⟩
  | some d =>
    obtain ⟨p, w, e1, rw', hw⟩ := g1 d hg
    rw [e1]
    exact ⟨w, H, I.tok _, rw', h1 d hg w hw⟩
theorem mt_sdI : MtR X "dict.setdefault" (rSdI X.K) := by
  intro pins s σ H x xs v us Q I rx rxs h
  obtain ⟨a, i, dv, ep, kvs, kds, G, rfl, rfl, hh, hl, h1, h2⟩ := h
  cases (show v = Value.ref a from rx)
  obtain ⟨u1, u2, rfl, r1, r2⟩ := vals2 rxs
  obtain ⟨hz, hs, ys, r, dd⟩ := di_at I hh
  obtain ⟨g1, g2⟩ := di_get (i := i) r hh.2.2.1
  refine call_meetsIn F.slot_dict_setdefault dd.typeIs F.entry_dict_setdefault (F.args_dict_setdefault_3 _ _ _) (kt_meets_setdefault (intKind X.prog X.w) a (int_key r1) hs u2) ⟨ys, dd, by rw [← Paired.length r]; exact hz, fun u hu => ?_, fun hn h' dd' hs' => ?_⟩
  · cases hg : getA kds (.num i) with
    | none => rw [g2 hg] at hu; cases hu
    | some d =>
      obtain ⟨p, w, e1, rw', hw⟩ := g1 d hg
      rw [e1] at hu
      cases hu
      exact ⟨w, H, I.tok _, rw', h1 d hg w hw⟩
  · have hg : getA kds (.num i) = none := by
      cases hg : getA kds (.num i) with
      | none => rfl
      | some d =>
        obtain ⟨p, w, e1, _⟩ := g1 d hg
        rw [e1] at hn; cases hn
    obtain ⟨o, es, ep0, h3, _⟩ := id dd'
    obtain ⟨ep', rw'⟩ := raw_ofI (by have := putV_len kvs (.num i) (.int i) dv; omega) hs (di_put r2 r) dd'
    exact ⟨dv, _, d_write (t' := s.toks + 1) I (by rw [hh.2.1]; exact True.intro) hs' ⟨o, h3⟩ (ddO_ok rw'), r2, h2 hg ep'⟩
end
section
variable {X : Cx} {o i : Expr} {td ty : TE} {pos : Pos}
def tGetI (K : FK) (td ty : TE) : TE := tOp (rIxI K) td ty
theorem pe_getI (ho : PE X o td) (hi : PE X i ty) (hs : NoSl i) : PE X (.Subscript o i pos) (tGetI X.K td ty) := by
  refine ⟨fun pins s σ H Q I h => ?_⟩
  refine subD_of PySem.F.slot_dict_getitem.lookup hs (thn (ho.run pins s σ H _ I h) fun u s1 ⟨x, H1, I1, rx, q1⟩ => thn (hi.run pins s1 σ H1 _ I1 q1) fun iv s2 ⟨y, H2, I2, ry, hh⟩ => ?_)
  obtain ⟨a, i, ep, kvs, kds, G, d, rfl, rfl, hk, hg, z⟩ := hh
  cases rx
  obtain ⟨_, hs, ys, r, dd⟩ := di_at I2 hk
  obtain ⟨p, v, hp, rv, hv⟩ := (di_get (i := i) r hk.2.2.1).1 d hg
  exact ⟨dd.typeIs, wpAny_getItem_of (int_key ry) dd.mapOf hp ⟨v, H2, I2.tok _, rv, z v hv⟩⟩
end
section
variable {K : FK} {B : Bs} {Γ Γ' : List Sl} {F : Fra} {D : Ends} {td tk tv te : TE} {j : Nat} {p : Addr} {β : Type} {ev : β → DD} {l m : List (Int × β)} {x : Int} {y : β}
abbrev kdsI (ev : β → DD) (l : List (Int × β)) : List (NK × DD) := kdsOf NestedKey.num ev l
theorem allN (l : List (Int × β)) : AllN (kdsI ev l) := fun q hq => by
  obtain ⟨z, _, rfl⟩ := List.mem_map.mp hq
  exact ⟨z.1, rfl⟩
theorem et_inI {neg : Bool} (hx : EvD K B tk Γ (.int x)) (hd : EvDc K B td Γ (kdsI ev l)) : EvD K B (tOp (rInI K neg) tk td) Γ (.bool (if neg then !hasA l x else hasA l x)) := fun F σ H s Q q =>
  hx F σ H s _ fun u d H1 e s1 => by
    subst e
    refine hd _ σ H1 s1 _ fun p T0 H2 at0 s2 => ?_
    obtain ⟨G, z⟩ := id s2
    obtain ⟨ep, kvs, hp, hk⟩ := at0 _ _ _ _ z (fun q hq => by simp [hq])
    refine ⟨p, x, ep, kvs, _, G, (z.tm (u, .int x) (by simp)).int_inv, rfl, ⟨z.ex, hp, hk, allN l⟩, ?_⟩
    rw [has_kds kcI]
    exact q _ _ H2 rfl ((s2.drop fun q hq => by simp [hq]).c fun _ => .bl _)
theorem et_getI (hd : EvDc K B td Γ (kdsI ev l)) (hx : EvD K B tk Γ (.int x)) (hg : getA l x = some y) : EvD K B (tGetI K td tk) Γ (ev y) := fun F σ H s Q q =>
  hd F σ H s _ fun p T0 H1 at0 s1 => by
    refine hx _ σ H1 s1 _ fun u d H2 e s2 => ?_
    subst e
    obtain ⟨G, z⟩ := id s2
    obtain ⟨ep, kvs, hp, hk⟩ := at0 _ _ _ _ z (fun q hq => by simp [hq])
    refine ⟨p, x, ep, kvs, _, G, ev y, rfl, (z.tm (u, .int x) (by simp)).int_inv, ⟨z.ex, hp, hk, allN l⟩, by rw [get_kds kcI, hg]; rfl, fun v' hv' => q v' _ H2 rfl ?_⟩
    exact (S.grown (d := ev y) z (Grow.refl z.ex) hv').drop fun p hp => by
      simp at hp ⊢
      rcases hp with ee | ee <;> simp [ee]
theorem et_gdI (hd : EvDc K B td Γ (kdsI ev l)) (hx : EvD K B tk Γ (.int x)) (hy : EvD K B tv Γ (ev y)) : EvD K B (tDM (rGetI K) td (tCons tk (tCons tv tNil))) Γ (ev (getD l x y)) := fun F σ H s Q q =>
  hd F σ H s _ fun p T0 H1 at0 s1 => by
    obtain ⟨G1, z1⟩ := id s1
    obtain ⟨ep1, kvs1, hp1, _⟩ := at0 _ _ _ _ z1 (fun q hq => by simp [hq])
    refine ⟨⟨p, ep1, kvs1, rfl, hp1⟩, ?_⟩
    refine hx _ σ H1 s1 _ fun u d H2 e s2 => hy _ σ H2 s2 _ fun w d2 H3 e2 s3 => ?_
    subst e e2
    obtain ⟨G, z⟩ := id s3
    obtain ⟨ep, kvs, hp, hk⟩ := at0 _ _ _ _ z (fun q hq => by simp [hq])
    have hu : u = .int x := (z.tm (u, .int x) (by simp)).int_inv
    refine ⟨p, x, w, ep, kvs, _, G, rfl, by rw [hu], ⟨z.ex, hp, hk, allN l⟩, fun d hd' v' hv' => ?_, fun hn' => ?_⟩
    · rw [get_kds kcI] at hd'
      obtain ⟨b, hb, rfl⟩ := Option.map_eq_some_iff.mp hd'
      have e3 : getD l x y = b := by unfold getD; rw [hb]; rfl
      rw [e3] at q
      exact q v' _ H3 rfl ((S.grown (d := ev b) z (Grow.refl z.ex) hv').drop fun p hp => by
        simp at hp ⊢
        rcases hp with ee | ee <;> simp [ee])
    · rw [get_kds kcI] at hn'
      have hb : getA l x = none := Option.map_eq_none_iff.mp hn'
      have e3 : getD l x y = y := by unfold getD; rw [hb]; rfl
      rw [e3] at q
      exact q w _ H3 rfl (s3.drop fun p hp => by
        simp at hp ⊢
        rcases hp with ee | ee <;> simp [ee])
theorem nx_putI (hj : Γ[j]? = some (.own (dnR p (kdsI ev l)))) (hy : EvD K B tv Γ (ev y)) (hx : EvD K B tk Γ (.int x)) (hz : szLt l.length = true) (hm : putA l x y = m) (k : Nx K B D.nx (Γ.set j (.own (dnR p (kdsI ev m)))) F) :
    Nx K B (tAsg tv (gSub (tVar j) tk (rSetI K)) D) Γ F := fun σ H s => by
  subst hm
  refine hy F σ H s _ fun v1 d1 H1 e1 s1 => ?_
  subst e1
  obtain ⟨G1, z1⟩ := id s1
  obtain ⟨v0, hv0, e0, _⟩ := z1.own hj
  subst e0
  refine ⟨.ref p, hv0, ?_⟩
  refine hx _ σ H1 s1 _ fun u d H2 e s2 => ?_
  subst e
  obtain ⟨G, z⟩ := s2
  obtain ⟨v, hv, rfl, ep, kvs, hp, hk⟩ := z.own hj
  have hu : u = .int x := (z.tm (u, .int x) (by simp)).int_inv
  refine ⟨p, x, ep, kvs, _, G, rfl, hu, ⟨z.ex, hp, hk, allN l⟩, sz_lt (by rw [hk.len, List.length_map]; exact szLt_of hz), fun ep' => ?_⟩
  have hmm : p ∈ ownAt Γ (Fra.dat (F.dat v1 (ev y)) u (.int x)) j := by rw [ownAt_slot hj]; simp [Sl.as, dnR]
  have hg : G p = none := (z.mine j p hmm).1
  have ok' := hk.put (k := .num x) (u := .int x) (.int x) (by simp [NestedKey.depth]) (z.tm (v1, ev y) (by simp))
  rw [put_kds kcI] at ok'
  have z3 := z.updOwn (r' := dnR p (kdsI ev (putA l x y))) (T' := F.T) hj (Grow.put (o := ddO p ep' (putV kvs (.num x) (.int x) v1)) z.ex hg (by simp [dnR])) rfl hv ⟨rfl, _, _, upd_same, ok'⟩ fun q hq => z.tm q (by simp [hq])
  exact k _ _ ⟨G, z3⟩
theorem eg_sdI {r : β × List (Int × β)} (hj : Γ[j]? = some (.own (dnR p (kdsI ev l)))) (hx : EvD K B tk Γ (.int x)) (hy : EvD K B tv Γ (ev y)) (hz : szLt l.length = true) (hr : setdA l x y = r) :
    EvG K B (tDM (rSdI K) (tVar j) (tCons tk (tCons tv tNil))) Γ (Γ.set j (.own (dnR p (kdsI ev r.2)))) (ev r.1) := fun F σ H s Q q => by
  subst hr
  obtain ⟨G0, z0⟩ := id s
  obtain ⟨v0, hv0, e0, ep0, kvs0, hp0, _⟩ := z0.own hj
  subst e0
  refine ⟨.ref p, hv0, ⟨p, ep0, kvs0, rfl, hp0⟩, ?_⟩
  refine hx F σ H s _ fun u d H2 e s2 => hy _ σ H2 s2 _ fun w d2 H3 e2 s3 => ?_
  subst e e2
  obtain ⟨G, z⟩ := id s3
  obtain ⟨v, hv, e1, ep, kvs, hp, hk⟩ := z.own hj
  have hu : u = .int x := (z.tm (u, .int x) (by simp)).int_inv
  refine ⟨p, x, w, ep, kvs, _, G, rfl, by rw [hu], ⟨z.ex, hp, hk, allN l⟩, sz_lt (by rw [hk.len, List.length_map]; exact szLt_of hz), fun d hd' v' hv' => ?_, fun hn' ep' => ?_⟩
  · rw [get_kds kcI] at hd'
    obtain ⟨b, hb, rfl⟩ := Option.map_eq_some_iff.mp hd'
    have e3 : setdA l x y = (b, l) := by unfold setdA; rw [hb]
    rw [e3, set_same hj] at q
    exact q v' H3 ((S.grown (d := ev b) z (Grow.refl z.ex) hv').drop fun p hp => by
      simp at hp ⊢
      rcases hp with ee | ee <;> simp [ee])
  · rw [get_kds kcI] at hn'
    have hb : getA l x = none := Option.map_eq_none_iff.mp hn'
    have e3 : setdA l x y = (y, putA l x y) := by unfold setdA; rw [hb]
    rw [e3] at q
    have hmm : p ∈ ownAt Γ (Fra.dat (F.dat u (.int x)) w (ev y)) j := by rw [ownAt_slot hj]; simp [Sl.as, dnR]
    have hg : G p = none := (z.mine j p hmm).1
    have ok' := hk.put (k := .num x) (u := .int x) (.int x) (by simp [NestedKey.depth]) (z.tm (w, ev y) (by simp))
    rw [put_kds kcI] at ok'
    have z3 := z.updOwn (r' := dnR p (kdsI ev (putA l x y))) (T' := (w, ev y) :: F.T) hj (Grow.put (o := ddO p ep' (putV kvs (.num x) (.int x) w)) z.ex hg (by simp [dnR])) rfl hv ⟨e1, _, _, upd_same, ok'⟩ fun q hq => by
      rcases List.mem_cons.mp hq with ee | ee
      · rw [ee]; exact z.tm (w, ev y) (by simp)
      · exact z.tm q (by simp [ee])
    exact q w _ ⟨G, z3⟩
end
end Ly

set_option maxHeartbeats 1000000
namespace Ly
open PySem PySem.Spec PyProof.Rows L2
theorem paired_nth {α β : Type} {R : α → β → Prop} : ∀ {l : List α} {m : List β}, Paired R l m → ∀ {i : Nat} {a : α}, l[i]? = some a → ∃ b, m[i]? = some b ∧ R a b
  | _, _, .nil, i, a, h => by simp at h
  | _, _, .cons r t, 0, a, h => by simp at h; subst h; exact ⟨_, rfl, r⟩
  | _, _, .cons r t, i + 1, a, h => by
    obtain ⟨b, h1, h2⟩ := paired_nth t (i := i) (a := a) (by simpa using h)
    exact ⟨b, by simpa using h1, h2⟩
structure RawAt (h : Heap) (a : Addr) (ep : Nat) (kvs : KVs) (o : Obj) (es : Array DictEntry) : Prop where
  at_ : h.get? a = some o
  ex : o.ExactDict
  dt : o.data = .dict es ep
  sm : (a == sysModules) = false
  sz : es.size = kvs.length
  ln : kvs.length ≤ sizeLine
  en : ∀ (i : Nat) (k : NK) (u v : V), kvs[i]? = some (k, u, v) → ∃ e : DictEntry, es[i]? = some e ∧ RelV u e.key ∧ RelV v e.val
theorem rawAt {h : Heap} {a : Addr} {ep : Nat} {kvs : KVs} (raw : RawD a ep kvs h) : ∃ o es, RawAt h a ep kvs o es := by
  obtain ⟨z, y, pl, xs, r, o, es, w0, h1, h2, h3, h4, h5⟩ := raw
  have hl : es.size = xs.length := by rw [← Array.length_toList, h4, List.length_map]
  refine ⟨o, es, h1, h2, h3, y, by rw [hl]; exact (Paired.length r).symm, z, fun i k u v e => ?_⟩
  obtain ⟨b, hb, hr⟩ := paired_nth r e
  refine ⟨entD w0 b, ?_, hr.2.1, hr.2.2⟩
  rw [← Array.getElem?_toList, h4, List.getElem?_map, hb]; rfl
def Itkn (d : Addr) (ep : Nat) (kvs : KVs) : It := ⟨fun i H => H d = some (ddO d ep kvs) ∧ i < kvs.length, fun i H x H' => H' = H ∧ ∃ k v, kvs[i]? = some (k, x, v), fun i H => H d = some (ddO d ep kvs) ∧ kvs.length ≤ i⟩
theorem turn_kn {P : Program} {w : World} {K : FK} {tg : Expr} {dd : Addr} {ep : Nat} {kvs : KVs} (ita : Addr) : Turn P w K tg (Itkn dd ep kvs) [ita] ita (fun n hp => hp.IsKeyIter ita dd n kvs.length ep) where
  mem := by simp
  obj := fun n hp tn c hc => by
    obtain rfl : c = ita := by simpa using hc
    obtain ⟨ob, e1, e2, e3⟩ := tn
    exact ⟨ob, e1, fun v z => by rw [e3] at z; cases z⟩
  keep := fun n hp hp' tn kk => tn.at fun ob e => kk ita (by simp) ob e
  item := by
    intro X hP hw hK hc n pins s σ H E I hf tn hg
    subst hP hw hK
    obtain ⟨hd, hi⟩ := hg
    obtain ⟨g0, g1, g2, g3, g4, g5⟩ := hf ita (by simp)
    obtain ⟨ob, es, R⟩ := rawAt (I.hok dd _ hd).1
    obtain ⟨⟨kk, uu, vv⟩, hkv⟩ : ∃ p, kvs[n]? = some p := ⟨kvs[n], List.getElem?_eq_getElem hi⟩
    obtain ⟨en, hen, hk1, hk2⟩ := R.en n kk uu vv hkv
    refine next_key_item tn R.at_ R.dt R.sz hen fun h2 tn2 sb => ?_
    have J : Inv X pins σ H { s with heap := h2 } := I.turned (t' := s.toks) (fun b ob hb e => (sb.2 b hb).trans e) g0 g1 g3 g4 g5
    obtain ⟨oi, e1, e2, e3⟩ := id tn2
    exact ⟨en.key, rfl, go_of (s := { s with heap := h2 }) e1 e2 e3 (by decide) ⟨uu, H, J, hk1, ⟨rfl, kk, vv, hkv⟩, tn2, fun b hb => (hf b hb).1⟩⟩
  done := by
    intro X hP hw hK hc n pins s σ H E I hf tn hg
    subst hP hw hK
    obtain ⟨hd, hi⟩ := hg
    obtain ⟨g0, g1, g2, g3, g4, g5⟩ := hf ita (by simp)
    obtain ⟨ob, es, R⟩ := rawAt (I.hok dd _ hd).1
    exact next_key_end (I.ok.hd hc) tn R.at_ R.dt R.sz hi fun h2 eb => ⟨rfl, I.turned (t' := s.toks) (fun b ob hb e => eb b ob hb e) g0 g1 g3 g4 g5⟩
  self := fun A n s Q E tn hq => wpAny_pyIter_keyiter tn hq
def iKeysN (td : TE) : TI := fun σ H R => td σ H fun x H1 => ∃ d ep kvs, x = .ref d ∧ H1 d = some (ddO d ep kvs) ∧ R (Itkn d ep kvs) H1
theorem pi_keysN {X : Cx} {tg e : Expr} {td : TE} (he : PE X e td) : PI X tg e (iKeysN td) := by
  refine ⟨fun pins s σ H R I h => ?_⟩
  refine thn (he.run pins s σ H _ I h) fun u s1 ⟨x, H1, I1, rx, d, ep, kvs, ex, hd, q⟩ => ?_
  subst ex
  obtain rfl : u = Value.ref d := rx
  obtain ⟨ob, es, RR⟩ := rawAt (I1.hok d _ hd).1
  refine iter_keys RR.sm RR.at_ RR.ex RR.dt (pi_one (tk := s1.toks) I1 _ (turn_kn _) ⟨_, Heap.get?_push_size _ rfl, rfl, ?_⟩ q)
  rw [RR.sz] <;> rfl
theorem DaD.nth {K : FK} {G : Hp} : ∀ {kvs : KVs} {ds : List (DD × DD)}, DaD K G kvs ds → ∀ {i : Nat} {p : DD × DD}, ds[i]? = some p → ∃ k u v, kvs[i]? = some (k, u, v) ∧ Da K G u p.1 ∧ Da K G v p.2
  | _, _, .nil, i, p, h => by simp at h
  | _, _, .cons h1 h2 h3 t, 0, p, h => by simp at h; subst h; exact ⟨_, _, _, rfl, h1, h3⟩
  | _, _, .cons h1 h2 h3 t, i + 1, p, h => by
    obtain ⟨k, u, v, e, q⟩ := t.nth (i := i) (p := p) (by simpa using h)
    exact ⟨k, u, v, by simpa using e, q⟩
theorem DaD.leng {K : FK} {G : Hp} : ∀ {kvs : KVs} {ds : List (DD × DD)}, DaD K G kvs ds → kvs.length = ds.length
  | _, _, .nil => rfl
  | _, _, .cons _ _ _ t => congrArg (· + 1) t.leng
/-- the dict at a is frozen, with this epoch -/
def pinD (a : Addr) (ep : Nat) (kvs : KVs) (ds : List (DD × DD)) : Res where
  as := []
  ok := fun K G _ _ => G a = some (ddO a ep kvs) ∧ DaD K G kvs ds
  mono := fun e h => ⟨e a _ h.1, h.2.mono e⟩
  loc := fun _ h => h
  dom := fun _ a ha => nomatch ha
section
variable {K : FK} {B : Bs} {Γ : List Sl} {F : Fra} {D : Ends} {td tk tv te : TE} {j : Nat} {p : Addr} {κ β : Type} [DecidableEq κ] {nk : κ → NK} {ek : κ → DD} {ev : β → DD} {l m : List (κ × β)} {x : κ} {y : β} {n : Nat}
theorem S0.pin {σ : L2.St} {H G : Hp} {a : Addr} {v : V} {ep : Nat} {kvs : KVs} {ds : List (DD × DD)} (z : S0 K B Γ F σ H G) (h1 : G a = some (ddO a ep kvs)) (h2 : DaD K G kvs ds) : S0 K B Γ (F.res1 v (pinD a ep kvs ds)) σ H G :=
  z.newRes (Grow.refl z.ex) ⟨h1, h2⟩ fun a ha => nomatch ha
theorem ei_keys (hd : EvD K B td Γ (eDc ek ev l)) : EvI K B (iKeysN td) Γ ((l.map (·.1)).map ek) := fun F σ H s R q =>
  hd F σ H s _ fun v d H' e s' => by
    subst e
    obtain ⟨G, z⟩ := id s'
    obtain ⟨a, ep, kvs, rfl, ha, hs⟩ := (z.tm (v, eDc ek ev l) (by simp)).dct_inv
    refine ⟨a, ep, kvs, rfl, z.ex _ _ ha, q (Itkn a ep kvs) [(.ref a, eDc ek ev l)] [(.ref a, pinD a ep kvs (l.map fun p : κ × β => (ek p.1, ev p.2)))] H' (fun Γ2 F2 σ2 H2 s2 hT hX i => ?_) ⟨G, z.pin ha hs⟩⟩
    obtain ⟨G2, z2⟩ := id s2
    obtain ⟨ha2, hs2⟩ : G2 a = some (ddO a ep kvs) ∧ DaD K G2 kvs (l.map fun p : κ × β => (ek p.1, ev p.2)) := z2.xm (.ref a, pinD a ep kvs (l.map fun p : κ × β => (ek p.1, ev p.2))) (hX _ (by simp))
    have hln : kvs.length = l.length := by rw [hs2.leng, List.length_map]
    refine ⟨fun d hdd => ?_, fun ee => ⟨z2.ex _ _ ha2, by rw [hln, ee, List.length_map, List.length_map]; exact Nat.le_refl _⟩⟩
    rw [List.getElem?_map, List.getElem?_map] at hdd
    cases hx : l[i]? with
    | none => rw [hx] at hdd; cases hdd
    | some xy =>
      rw [hx] at hdd
      cases hdd
      obtain ⟨k, u, v, e1, e2, e3⟩ := hs2.nth (i := i) (p := (ek xy.1, ev xy.2)) (by rw [List.getElem?_map, hx]; rfl)
      refine ⟨⟨z2.ex _ _ ha2, by rw [hln]; exact (List.getElem?_eq_some_iff.mp hx).1⟩, fun x H3 hy => ?_⟩
      obtain ⟨rfl, k', v', e4⟩ := hy
      rw [e1] at e4
      cases e4
      exact S.grown z2 (Grow.refl z2.ex) e2
end
def rListN : List V → Hp → VK → Prop := fun xs H Q => ∃ a ep kvs, xs = [.ref a] ∧ H a = some (ddO a ep kvs) ∧ ∀ q, H q = none → Q (.ref q) (upd H q (.lst (kvs.map fun x => x.2.1)))
theorem vals_keys {kvs : KVs} {es : Array DictEntry} {vs : List Value} (hl : vs.length = kvs.length) (hv : ∀ (i : Nat) (k : NK) (u v : V), kvs[i]? = some (k, u, v) → ∃ e : DictEntry, es[i]? = some e ∧ RelV u e.key ∧ RelV v e.val) (hk : ∀ (i : Nat) (w : Value), vs[i]? = some w → ∃ en : DictEntry, es[i]? = some en ∧ w = en.key) : Vals (kvs.map fun x => x.2.1) vs :=
  vals_of_at (by rw [List.length_map, hl]) fun i x w h1 h2 => by
    rw [List.getElem?_map] at h1
    cases hx : kvs[i]? with
    | none => rw [hx] at h1; cases h1
    | some q =>
      rw [hx] at h1
      cases h1
      obtain ⟨e, e1, e2, _⟩ := hv i q.1 q.2.1 q.2.2 hx
      obtain ⟨e', e3, rfl⟩ := hk i w h2
      rw [e1] at e3
      cases e3
      exact e2
theorem call_listN {X : Cx} (hc : X.calm = true) : CallR X (.type "list") rListN := by
  intro pins s σ H xs us Q I r h
  obtain ⟨a, ep, kvs, rfl, ha, q⟩ := h
  rw [Vals.ref1 r]
  obtain ⟨ob, es, R⟩ := rawAt (I.hok a _ ha).1
  refine PySem.W.kdl_call (kdl_raw R.sm R.ex R.dt) (I.ok.hd hc) R.at_ (by rw [R.sz]; exact R.ln) fun h2 tk acc c kp e it => ?_
  have hz : acc.toList.length = kvs.length := by rw [Array.length_toList, it.1, R.sz]
  refine ⟨.ref s.heap.objs.size, _, I.laid (t' := tk) (o := .lst (kvs.map fun x => x.2.1)) kp (Nat.le_refl _) ⟨by rw [List.length_map]; exact R.ln, acc.toList, c, vals_keys hz R.en (fun i w hw => it.2 i w (by rw [← Array.getElem?_toList]; exact hw)), by rw [Array.toArray_toList]; exact e⟩, rfl, q _ (I.hok.fresh (Nat.le_refl _))⟩
open PySem.W (dataLe AllAlike Sortable EachIs alike alikeAll sorted_data sortingHeap sortingHeap_old dataKind SortsAt list_sort_vals each_map sortVals sortVals_data sortVals_length)
/-- a new list of values, sorted -/
theorem sort_new {X : Cx} {pins : List (Addr × Obj)} {σ : L2.St} {H : Hp} {s : Shared} {vs : List Value} {xs : List V} {ds : List DD} {Q : Value → Shared → Prop} {A : Around} (I : Inv X pins σ H s) (hA : A.units + 40 < cLine) (rv : Vals xs vs) (hd : DpAll X.K H xs ds) (hal : AllAlike ds) (hk : Sortable ds) (hdep : ∀ d ∈ ds, d.depth ≤ 32) (hz : xs.length ≤ sizeLine)
    (q : ∀ p s', H p = none → Inv X pins σ (upd H p (.lst ((srtP (xs.zip ds)).map (·.1)))) s' → Q (.ref p) s') (E : Value → Shared → Prop) :
    wpAny (model X.prog X.w) A (newList vs >>= fun l => holding [l] (call (.builtin "list.sort") [l]) >>= fun _ => ret l) (fun f s' => ∃ v, f = .done (.ret v) ∧ Q v s') E s := by
  obtain ⟨e1, e2, e3⟩ := each_zip I rv hd
  have hvl : vs.length = xs.length := by rw [← rv.length]
  have hzl : (xs.zip ds).length = xs.length := by rw [List.length_zip, dpAll_len hd, Nat.min_self]
  refine wpAny_bind (wpAny_newList ?_ (by rw [hvl]; exact hz))
  have hoL : (s.heap.push (seqObj "list" vs.toArray 0)).get? s.heap.objs.size = some (seqObj "list" vs.toArray 0) := Heap.get?_push_size _ rfl
  show wpAny _ _ _ _ _ { s with heap := s.heap.push (seqObj "list" vs.toArray 0) }
  have keep : ∀ b o, s.heap.get? b = some o → (sortingHeap (s.heap.push (seqObj "list" vs.toArray 0)) s.heap.objs.size vs).get? b = some o := fun b o e => sortingHeap_old (Nat.ne_of_lt (Heap.lt_size e)) (Heap.get?_push_of_some _ e)
  have er' : EachIs (fun v (b : V × DD) => ∃ as, Reads (sortingHeap (s.heap.push (seqObj "list" vs.toArray 0)) s.heap.objs.size vs) v b.2 as) vs (xs.zip ds) := e2.mono fun _ _ ⟨as, r⟩ => ⟨as, PyProof.Rows.Reads.keeps keep r⟩
  have hal' : AllAlike ((xs.zip ds).map fun b => b.2) := by rw [e3]; exact hal
  have hk' : Sortable ((xs.zip ds).map fun b => b.2) := by rw [e3]; exact hk
  refine wpAny_bind (wpAny_holding (wpAny_call_entry slot_list_sort ⟨_, hoL, rfl⟩ entry_list_sort (list_sort_vals (s := { s with heap := s.heap.push (seqObj "list" vs.toArray 0) }) (κ := dataKind (sortingHeap (s.heap.push (seqObj "list" vs.toArray 0)) s.heap.objs.size vs) ((xs.zip ds).map fun b => b.2)) hoL
    (SortsAt.data (s := { s with heap := sortingHeap (s.heap.push (seqObj "list" vs.toArray 0)) s.heap.objs.size vs }) (each_map (R := fun v d => ∃ as, Reads (sortingHeap (s.heap.push (seqObj "list" vs.toArray 0)) s.heap.objs.size vs) v d as) (fun b : V × DD => b.2) er') hal' hk' (fun d hd' => ?_)) (by rw [hvl]; exact hz) ⟨.none, rfl, ?_⟩) (args_list_sort _)))
  · rw [e3] at hd'
    have := hdep d hd'
    show A.in1.units + d.depth < cLine
    rw [Around.in1_units]
    omega
  · have hev := sortVals_data false e1 er' hal'
    obtain ⟨ep, he'⟩ := sortedHeap_at (vs := vs) (out := (sortVals (dataKind (sortingHeap (s.heap.push (seqObj "list" vs.toArray 0)) s.heap.objs.size vs) ((xs.zip ds).map fun b => b.2)) false vs vs).toArray) hoL
    have hv := vals_each hev
    have hln : ((srtP (xs.zip ds)).map (·.1)).length ≤ sizeLine := by
      rw [List.length_map]
      unfold srtP
      rw [List.length_mergeSort, hzl]; exact hz
    refine wpAny_pure ⟨_, rfl, q _ _ (I.hok.fresh (Nat.le_refl _)) (I.laid (t' := s.toks) (fun b u e => ?_) (Nat.le_refl _) ⟨hln, _, ep, hv, he'⟩)⟩
    have hb : b < s.heap.objs.size := Heap.lt_size e
    rw [sortedHeap_old (Nat.ne_of_lt hb) (by rw [size_push']; exact Nat.lt_succ_of_lt hb)]
    exact Heap.get?_push_of_some _ e
def rSortN (K : FK) : List V → Hp → VK → Prop := fun vs H Q => ∃ a ep kvs ds, vs = [.ref a] ∧ H a = some (ddO a ep kvs) ∧ DpAll K H (kvs.map fun x => x.2.1) ds ∧ AllAlike ds ∧ Sortable ds ∧ (∀ d ∈ ds, d.depth ≤ 32) ∧ ∀ p, H p = none → Q (.ref p) (upd H p (.lst ((srtP ((kvs.map fun x => x.2.1).zip ds)).map (·.1))))
theorem cr_sortN {X : Cx} {n : Nat} (hc : X.calm = true) (hr : Room n X.A) : CallR X (.builtin "sorted") (rSortN X.K) := by
  intro pins s σ H vs us Q I r h
  obtain ⟨a, ep, kvs, ds, rfl, ha, hd, hal, hk, hdep, q⟩ := h
  rw [Vals.ref1 r]
  obtain ⟨ob, es, R⟩ := rawAt (I.hok a _ ha).1
  have hu : X.A.units + 65 < cLine := by have := hr.un; omega
  refine Calls.call_function_entry kind_sorted plain_sorted entry_sorted (args_sorted1 _) ?_
  unfold Builtin.«sorted»
  refine wpAny_bind (m := checkCount "sorted" 1 1 _) (wpAny_pure ?_)
  refine wpAny_bind (PySem.W.kdu_collect (A := X.A.in1) (kdl_raw R.sm R.ex R.dt) (I.ok.hd hc) R.at_ (by rw [R.sz]; exact R.ln) fun h2 tk acc kp it => ?_)
  have hz : acc.toList.length = kvs.length := by rw [Array.length_toList, it.1, R.sz]
  have J : Inv X pins σ H { s with heap := h2, toks := tk } := I.kept kp
  have rv : Vals (kvs.map fun x => x.2.1) acc.toList := vals_keys hz R.en (fun i w hw => it.2 i w (by rw [← Array.getElem?_toList]; exact hw))
  exact sort_new (A := X.A.in1) J (by rw [Around.in1_units]; omega) rv hd hal hk hdep (by rw [List.length_map]; exact R.ln) (fun p s' hp J' => ⟨.ref p, _, J', rfl, q p hp⟩) _
section
variable {K : FK} {B : Bs} {Γ : List Sl} {F : Fra} {D : Ends} {td tk tv te : TE} {j : Nat} {p : Addr} {κ β : Type} [DecidableEq κ] {nk : κ → NK} {ek : κ → DD} {ev : β → DD} {l m : List (κ × β)} {x : κ} {y : β} {n : Nat}
theorem DnOk.keysL {G : Hp} (h : Kc nk ek n) : ∀ {kvs : KVs} {l : List (κ × β)}, DnOk K G kvs (kdsOf nk ev l) → DaL K G (kvs.map fun x => x.2.1) ((l.map (·.1)).map ek)
  | _, [], .nil => .nil
  | _, a :: l, .cons h1 h2 h3 t => .cons (by rw [← h.data]; exact h1) (DnOk.keysL h t)
theorem en_listK (h : Kc nk ek n) (hd : EvDc K B td Γ (kdsOf nk ev l)) : EvND K B (tCB rListN (tCons td tNil)) Γ ((l.map (·.1)).map ek) := fun F σ H s Q k =>
  hd F σ H s _ fun p T0 H1 at0 s1 => by
    obtain ⟨G, z⟩ := id s1
    obtain ⟨ep, kvs, hp, hk⟩ := at0 _ _ _ _ z (fun q hq => by simp [hq])
    refine ⟨p, ep, kvs, rfl, hp, fun q hq => ?_⟩
    exact k q _ _ rfl (z.notLent hq) ⟨G, (z.newLst hq (hk.keysL h)).drop fun p hp => by simp [hp]⟩
theorem en_sortK (h : Kc nk ek n) (sq : Sq ek) (hd : EvDc K B td Γ (kdsOf nk ev l)) : EvND K B (tCB (rSortN K) (tCons td tNil)) Γ ((srtT ek (l.map (·.1))).map ek) := fun F σ H s Q k =>
  hd F σ H s _ fun p T0 H1 at0 s1 => by
    obtain ⟨G, z⟩ := id s1
    obtain ⟨ep, kvs, hp, hk⟩ := at0 _ _ _ _ z (fun q hq => by simp [hq])
    have hs := hk.keysL h
    refine ⟨p, ep, kvs, (l.map (·.1)).map ek, rfl, hp, (hs.mono z.ex).dp (canAll sq.ok _), AllAlike.of sq.al, sq.so _, fun d hd => ?_, fun q hq => ?_⟩
    · obtain ⟨x, _, rfl⟩ := List.mem_map.mp hd
      exact sq.dp x
    · exact k q _ _ rfl (z.notLent hq) ⟨G, (z.newLst hq (srt_da hs)).drop fun p hp => by simp [hp]⟩
end
end Ly

set_option maxHeartbeats 1000000
namespace Ly
open PySem PySem.Spec PyProof.Rows L2
structure Good (m : Nat) : Prop where
  odd : m % 2 = 1
  big : m < 600
  meet : ∀ (h : Int) (j : Nat), j ≤ m → ∃ n, n ≤ m + 12 ∧ runI m (SetTable.bits h) n = j
def orb : Nat → Nat → List Nat
  | 0, _ => []
  | n + 1, x => x :: orb n ((x * 5 + 1) % 512)
theorem lcgI_next (m x : Nat) : ∀ k, lcgI m ((x * 5 + 1) % (m + 1)) k = lcgI m x (k + 1)
  | 0 => rfl
  | k + 1 => by
    have ih := lcgI_next m x k
    unfold lcgI
    rw [ih]
theorem orb_at : ∀ n x k, k < n → (orb n x)[k]? = some (lcgI 511 x k)
  | 0, _, _, h => absurd h (Nat.not_lt_zero _)
  | n + 1, x, 0, _ => rfl
  | n + 1, x, k + 1, h => by
    have := orb_at n ((x * 5 + 1) % 512) k (Nat.lt_of_succ_lt_succ h)
    rw [lcgI_next] at this
    exact this
theorem orb_len : ∀ n x, (orb n x).length = n
  | 0, _ => rfl
  | n + 1, x => congrArg (· + 1) (orb_len n _)
theorem orb_all : ((List.range 512).all fun j => (orb 512 0).contains j) = true := by decide +kernel
theorem lcgN_I (m : Nat) : ∀ k, lcgN m k = lcgI m 0 k
  | 0 => rfl
  | k + 1 => by
    unfold lcgN lcgI
    rw [lcgN_I m k]
theorem orb_hit {j : Nat} (hj : j ≤ 511) : ∃ b, b ≤ 511 ∧ lcgN 511 b = j := by
  have h := List.all_eq_true.mp orb_all j (List.mem_range.mpr (by omega))
  obtain ⟨b, hb, e⟩ := List.getElem_of_mem (List.contains_iff_mem.mp h)
  rw [orb_len] at hb
  have h2 := orb_at 512 0 b hb
  rw [List.getElem?_eq_getElem (by rw [orb_len]; exact hb), e] at h2
  exact ⟨b, by omega, by rw [lcgN_I]; exact (Option.some.inj h2).symm⟩
theorem orb_back : lcgN 511 512 = 0 := by decide +kernel
theorem orb_mod : ∀ k, lcgN 511 (512 + k) = lcgN 511 k
  | 0 => orb_back
  | k + 1 => congrArg (fun z => (z * 5 + 1) % 512) (orb_mod k)
theorem orb_from {i j : Nat} (hi : i ≤ 511) (hj : j ≤ 511) : ∃ k, k ≤ 511 ∧ lcgI 511 i k = j := by
  obtain ⟨a, ha, rfl⟩ := orb_hit hi
  obtain ⟨b, hb, rfl⟩ := orb_hit hj
  by_cases c : a ≤ b
  · exact ⟨b - a, by omega, by rw [lcgN_add]; congr 1; omega⟩
  · refine ⟨512 + b - a, by omega, ?_⟩
    rw [lcgN_add, ← orb_mod b]
    congr 1
    omega
theorem good_of {m : Nat} (hm : MaskOk m) : Good m := ⟨mask_odd hm, by rcases hm with e | e | e <;> omega, fun h j hj => run_meets hm h hj⟩
theorem good511 : Good 511 := ⟨rfl, by decide, fun h j hj => by
  obtain ⟨k, hk, e⟩ := orb_from (runI_le 511 (SetTable.bits h) 12) hj
  exact ⟨12 + k, by omega, by rw [runI_tail (bits_lt h)]; exact e⟩⟩
/-- where a search with hash h stands at its c-th step -/
abbrev pr (m : Nat) (h : Int) (c : Nat) : SetTable.Probe := nth m (runAt m (SetTable.bits h % (m + 1)) (SetTable.bits h)) c
theorem pr_le {m : Nat} {h : Int} {k : Nat} : (pr m h k).j ≤ m := by
  have b := runEnd_bd (m := m) (i := SetTable.bits h % (m + 1)) (Nat.le_of_lt_succ (Nat.mod_lt _ (Nat.succ_pos _)))
  have := nth_in (m := m) k (runAt m (SetTable.bits h % (m + 1)) (SetTable.bits h)) (show SetTable.bits h % (m + 1) + (SetTable.runEnd m (SetTable.bits h % (m + 1)) - SetTable.bits h % (m + 1)) ≤ m by omega)
  exact Nat.le_trans (Nat.le_add_right _ _) this
theorem pr_dm (m : Nat) (h : Int) (c : Nat) : (pr m h c).dummy = none := by
  have key : ∀ (n : Nat) (p : SetTable.Probe), p.dummy = none → (nth m p n).dummy = none := by
    intro n
    induction n with
    | zero => exact fun p h => h
    | succ n ih =>
      intro p h
      refine ih _ ?_
      unfold adv
      split <;> exact h
  exact key c _ rfl
structure TabW (t : SetTable) (hs : List Int) : Prop where
  up : Ris t.place.toList
  nod : t.dummies = #[]
  len : t.place.size = hs.length
  good : Good t.mask
  le : ∀ x ∈ t.place.toList, x ≤ t.mask
  back : ∀ (i : Nat) (h : Int) (j : Nat), hs[i]? = some h → t.place.toList[i]? = some j → ∃ c, (pr t.mask h c).j = j ∧ ∀ c', c' < c → (pr t.mask h c').j ∈ t.place.toList
section
variable {t : SetTable} {hs : List Int} {h : Int}
theorem TabW.hole (W : TabW t hs) (hl : hs.length ≤ t.mask) (h : Int) : ∃ N, N < 10 * SetTable.turns t.mask ∧ (pr t.mask h N).j ∉ t.place.toList ∧ ∀ c, c < N → (pr t.mask h c).j ∈ t.place.toList := by
  obtain ⟨j, hj, hn⟩ := st_missing t.place.toList (t.mask + 1) (by rw [Array.length_toList, W.len]; omega)
  obtain ⟨n, n1, n2⟩ := W.good.meet h j (by omega)
  obtain ⟨k, k1, k2⟩ := run_nth t.mask (SetTable.bits h) n
  obtain ⟨N, a1, a2, a3⟩ := st_least (p := fun c => (pr t.mask h c).j ∉ t.place.toList) k (fun z => hn (((congrArg SetTable.Probe.j k2).trans n2) ▸ z))
  exact ⟨N, by unfold SetTable.turns; omega, a2, fun c hc => Classical.byContradiction fun z => a3 c hc z⟩
theorem TabW.ahead (W : TabW t hs) {N i j : Nat} (hN : (pr t.mask h N).j ∉ t.place.toList) (h1 : hs[i]? = some h) (h2 : t.place.toList[i]? = some j) : ∃ c, c < N ∧ (pr t.mask h c).j = j := by
  obtain ⟨c, e, q⟩ := W.back i h j h1 h2
  refine ⟨c, Nat.lt_of_not_le fun z => ?_, e⟩
  rcases Nat.lt_or_ge N c with y | y
  · exact hN (q N y)
  · rw [Nat.le_antisymm y z] at e
    exact hN (e ▸ List.mem_of_getElem? h2)
theorem TabW.add (W : TabW t hs) {N : Nat} (hN : (pr t.mask h N).j ∉ t.place.toList) (hb : ∀ c, c < N → (pr t.mask h c).j ∈ t.place.toList) (p : Nat) (hp : SetTable.below t.place (pr t.mask h N).j = p) :
    p ≤ hs.length ∧ TabW (t.put (pr t.mask h N).j).1 (hs.take p ++ h :: hs.drop p) ∧ (t.put (pr t.mask h N).j).1.fill = hs.length + 1 := by
  obtain ⟨j, ej⟩ : ∃ j, j = (pr t.mask h N).j := ⟨_, rfl⟩
  have jm : j ≤ t.mask := ej ▸ pr_le
  rw [← ej] at hN hp ⊢
  subst hp
  have c1 := (below_cut W.up j).1
  have b1 : SetTable.below t.place j ≤ t.place.toList.length := by simpa using c1
  have b2 : SetTable.below t.place j ≤ hs.length := W.len ▸ c1
  have pp := put_place t j
  have pl : (t.put j).1.place.size = hs.length + 1 := by
    rw [← Array.length_toList, pp, len_ins _ b1, Array.length_toList, W.len]
  have grow : ∀ {x : Nat}, x ∈ t.place.toList → x ∈ (t.put j).1.place.toList := fun hx => by rw [pp]; exact mem_ins.2 (.inr hx)
  refine ⟨b2, ⟨ris_insert W.up fun e => hN (List.mem_of_getElem? (by rw [Array.getElem?_toList]; exact e)), put_dm W.nod j, by rw [len_ins _ b2]; exact pl, W.good, fun x hx => ?_, fun i g y h1 h2 => ?_⟩, ?_⟩
  · rw [pp] at hx
    rcases mem_ins.1 hx with z | z
    · exact z ▸ jm
    · exact W.le x z
  · have old : ∀ i0, hs[i0]? = some g → t.place.toList[i0]? = some y → ∃ c, (pr t.mask g c).j = y ∧ ∀ c', c' < c → (pr t.mask g c').j ∈ (t.put j).1.place.toList := fun i0 a1 a2 => by
      obtain ⟨c, e, q⟩ := W.back i0 g y a1 a2
      exact ⟨c, e, fun c' hc => grow (q c' hc)⟩
    rw [tins_get hs b2] at h1
    rw [pp, tins_get _ b1] at h2
    show ∃ c, (pr t.mask g c).j = y ∧ ∀ c', c' < c → (pr t.mask g c').j ∈ (t.put j).1.place.toList
    by_cases c : i < SetTable.below t.place j
    · rw [if_pos c] at h1 h2
      exact old i h1 h2
    · rw [if_neg c] at h1 h2
      by_cases d : i = SetTable.below t.place j
      · rw [if_pos d] at h1 h2
        cases h1
        cases h2
        exact ⟨N, ej.symm, fun c' hc => grow (hb c' hc)⟩
      · rw [if_neg d] at h1 h2
        exact old (i - 1) h1 h2
  · show (t.put j).1.place.size + (t.put j).1.dummies.size = hs.length + 1
    rw [pl, put_dm W.nod j]
    rfl
end
theorem spot {m : Nat} (g : Good m) (owner : Array (Option Nat)) (h : Int) {j : Nat} (hj : j ≤ m) (hf : oAt owner j = none) :
    ∃ N, SetTable.layClean.free m owner (SetTable.turns m) (SetTable.bits h % (m + 1)) (SetTable.bits h) = some (pr m h N).j ∧ oAt owner (pr m h N).j = none ∧ ∀ c, c < N → oAt owner (pr m h c).j ≠ none := by
  obtain ⟨n, n1, n2⟩ := g.meet h j hj
  have e : (pr m h (off m (SetTable.bits h % (m + 1)) (SetTable.bits h) n)).j = j := by
    show (nth m _ _).j = j
    rw [nth_off, itL_run]
    exact n2
  obtain ⟨N, a1, a2, a3⟩ := st_least (p := fun c => oAt owner (pr m h c).j = none) _ (e.symm ▸ hf)
  refine ⟨N, free_spec m owner _ n _ _ N (by unfold SetTable.turns; omega) a1 (fun c hc => ?_) (by rw [show oAt owner (pr m h N).j = none from a2]; rfl), a2, a3⟩
  cases z : oAt owner (pr m h c).j with
  | none => exact absurd z (a3 c hc)
  | some _ => rfl
theorem seat {m : Nat} (g : Good m) {done : List Int} {owner : Array (Option Nat)} (W : Own m done owner) (hl : done.length ≤ m) (h : Int) :
    ∃ j, SetTable.layClean.free m owner (SetTable.turns m) (SetTable.bits h % (m + 1)) (SetTable.bits h) = some j ∧ Own m (done ++ [h]) (owner.setIfInBounds j (some done.length)) := by
  obtain ⟨ps, p1, p2⟩ := W.ps
  obtain ⟨j0, q1, q2⟩ := st_missing ps (m + 1) (by omega)
  have free0 : oAt owner j0 = none := Classical.byContradiction fun z => q2 (p2 j0 (by omega) z)
  obtain ⟨N, e1, e2, e3⟩ := spot g owner h (Nat.le_of_lt_succ q1) free0
  obtain ⟨j, ej⟩ : ∃ j, j = (pr m h N).j := ⟨_, rfl⟩
  have jm : j ≤ m := ej ▸ pr_le
  rw [← ej] at e1 e2
  have self := oAt_set_self (owner := owner) (j := j) (some done.length) (by rw [W.sz]; omega)
  have keep : ∀ {i : Nat}, oAt owner i ≠ none → oAt (owner.setIfInBounds j (some done.length)) i ≠ none := fun {i} hi => by
    by_cases c : i = j
    · rw [c, self]; simp
    · rw [oAt_set_ne _ c]; exact hi
  refine ⟨j, e1, by rw [Array.size_setIfInBounds]; exact W.sz, fun y k hy e => ?_, fun k hk => ?_, j :: ps, by simp [p1], fun y hy e => ?_⟩
  · by_cases c : y = j
    · rw [c, self] at e
      cases e
      exact ⟨h, N, by simp, by rw [c]; exact ej.symm, fun c' hc => keep (e3 c' hc)⟩
    · rw [oAt_set_ne _ c] at e
      obtain ⟨g', N', a1, a2, a3⟩ := W.at_ y k hy e
      exact ⟨g', N', by rw [List.getElem?_append_left (List.getElem?_eq_some_iff.mp a1).1]; exact a1, a2, fun c' hc => keep (a3 c' hc)⟩
  · rw [List.length_append, List.length_singleton] at hk
    rcases Nat.lt_or_ge k done.length with c | c
    · obtain ⟨y, hy, e⟩ := W.all k c
      exact ⟨y, hy, by rw [oAt_set_ne _ fun z => by rw [z, e2] at e; cases e]; exact e⟩
    · exact ⟨j, jm, by rw [self]; congr 1; omega⟩
  · by_cases c : y = j
    · rw [c]; simp
    · rw [oAt_set_ne _ c] at e
      exact List.mem_cons_of_mem _ (p2 y hy e)
theorem seats {m : Nat} (g : Good m) : ∀ (todo done : List Int) (owner : Array (Option Nat)), Own m done owner → done.length + todo.length ≤ m →
    ∃ owner', todo.foldl (stepF m) (some (owner, done.length)) = some (owner', (done ++ todo).length) ∧ Own m (done ++ todo) owner'
  | [], done, owner, W, _ => by rw [List.append_nil]; exact ⟨owner, rfl, W⟩
  | h :: todo, done, owner, W, hl => by
    rw [List.length_cons] at hl
    obtain ⟨j, e, W1⟩ := seat g W (by omega) h
    obtain ⟨o2, f, W2⟩ := seats g todo (done ++ [h]) _ W1 (by simp; omega)
    have a : done ++ [h] ++ todo = done ++ h :: todo := by simp
    rw [a] at f W2
    refine ⟨o2, ?_, W2⟩
    rw [List.foldl_cons, stepF_some e, ← f]
    simp
theorem lay_all {m : Nat} (g : Good m) {hs : Array Int} (hn : hs.size ≤ m) : ∃ owner, SetTable.layClean m hs = some owner ∧ Own m hs.toList owner := by
  obtain ⟨o, f, W⟩ := seats g hs.toList [] _ (Own.init m) (by simpa using hn)
  refine ⟨o, ?_, by simpa using W⟩
  rw [layClean_eq]
  have f' : hs.toList.foldl (stepF m) (some (Array.replicate (m + 1) none, 0)) = some (o, ([] ++ hs.toList).length) := f
  rw [f']
  rfl
theorem relaid_w (t : SetTable) {hs : Array Int} {wanted M : Nat} (hw : SetTable.sizeAbove wanted - 1 = M) (g : Good M) (hn : hs.size ≤ M) :
    ∃ t' order, t.relaid hs wanted = some (t', order) ∧ order.toList.Perm (List.range hs.size) ∧ TabW t' (order.toList.map fun i => hs.getD i 0) ∧ t'.mask = M ∧ t'.led = t.led ∧ t'.plain = t.plain := by
  obtain ⟨o, e, W⟩ := lay_all g hn
  have ris := ris_live (fun j => o.getD j none) (List.range (M + 1)) (by unfold Ris; first | exact List.pairwise_lt_range | exact List.pairwise_lt_range _)
  have up : Ris ((liveOf M o).map (·.1)) := ris.1
  have sat : ∀ k, k < hs.size → k ∈ (liveOf M o).map (·.2) := fun k hk => by
    obtain ⟨j, b1, b2⟩ := W.all k (by simpa using hk)
    exact List.mem_map.mpr ⟨(j, k), (mem_live W.sz).2 ⟨b1, b2⟩, rfl⟩
  have many : (liveOf M o).length = hs.size := by
    obtain ⟨ps, p1, p2⟩ := W.ps
    have nd : ((liveOf M o).map (·.1)).Nodup := List.Pairwise.imp (fun h => Nat.ne_of_lt h) up
    have a := nat_nodup_len ((liveOf M o).map (·.1)) ps nd fun x hx => by
      obtain ⟨⟨y, k⟩, hq, rfl⟩ := List.mem_map.mp hx
      obtain ⟨b1, b2⟩ := (mem_live W.sz).1 hq
      exact p2 y b1 (by rw [b2]; simp)
    have b := nat_nodup_len (List.range hs.size) _ List.nodup_range fun k hk => sat k (List.mem_range.mp hk)
    simp only [List.length_map, List.length_range, p1, Array.length_toList] at a b
    omega
  refine ⟨tabOf t M o, ((liveOf M o).map (·.2)).toArray, by rw [relaid_eq, hw, e]; rfl, perm_range hs.size _ (by simpa using many) sat, ⟨up, rfl, by simp [tabOf], g, fun x hx => Nat.le_of_lt_succ (List.mem_range.mp (ris.2 x hx)), fun i h j h1 h2 => ?_⟩, rfl, rfl, rfl⟩
  have h1' : (((liveOf M o).map (·.2)).map fun i => hs.getD i 0)[i]? = some h := h1
  have h2' : ((liveOf M o).map (·.1))[i]? = some j := h2
  rw [List.getElem?_map, List.getElem?_map] at h1'
  rw [List.getElem?_map] at h2'
  cases hq : (liveOf M o)[i]? with
  | none => rw [hq] at h2'; cases h2'
  | some q =>
    obtain ⟨y, k⟩ := q
    rw [hq] at h1' h2'
    cases h2'
    obtain ⟨b1, b2⟩ := (mem_live W.sz).1 (List.mem_of_getElem? hq)
    obtain ⟨g0, N, a1, a2, a3⟩ := W.at_ y k b1 b2
    have e0 : hs.getD k 0 = g0 := by
      rw [Array.getD_eq_getD_getElem?, ← Array.getElem?_toList, a1]
      rfl
    have : g0 = h := e0.symm.trans (Option.some.inj h1')
    subst this
    refine ⟨N, a2, fun c hc => ?_⟩
    show (pr M g0 c).j ∈ (liveOf M o).map (·.1)
    cases z : oAt o (pr M g0 c).j with
    | none => exact absurd z (a3 c hc)
    | some k2 => exact List.mem_map.mpr ⟨((pr M g0 c).j, k2), (mem_live W.sz).2 ⟨pr_le, z⟩, rfl⟩

structure SetW (P : Program) (w : World) (h : Heap) (a : Addr) (L : List (Addr × List Int)) (es : Array (Int × Value)) (ep : Nat) (t : SetTable) : Prop where
  obj : ∃ o, h.get? a = some o ∧ o.ExactSet ∧ o.data = .set es ep t
  ent : es.toList = rowsOf P w L
  tab : TabW t (L.map fun q => thash P w q.2)
  nod : (L.map (·.2)).Nodup
  isT : ∀ q ∈ L, IsT P w h q.2 q.1
  pln : t.plain = true
  led : w.params.followText "set-order" = true ∨ t.led = true
  room : L.length * 5 < t.mask * 3
  kind : t.mask = 7 ∨ t.mask = 31 ∨ t.mask = 127 ∨ t.mask = 511
section
variable {P : Program} {w : World} {A : Around} {E : Value → Shared → Prop} {s : Shared} {a : Addr} {L : List (Addr × List Int)} {es : Array (Int × Value)} {ep : Nat} {t : SetTable}
theorem ent_len (h : es.toList = rowsOf P w L) : es.size = L.length := by
  have := congrArg List.length h
  unfold rowsOf at this
  simpa using this
theorem fits_w {n : Nat} (h1 : t.place.size = n) (h2 : t.dummies = #[]) (h3 : n ≤ t.mask) : t.fits n = true := by
  unfold SetTable.fits SetTable.fill
  rw [h2, Bool.and_eq_true, beq_iff_eq, decide_eq_true_eq]
  exact ⟨h1, by simpa [h1] using h3⟩
theorem SetW.fits (W : SetW P w s.heap a L es ep t) : t.fits es.size = true := by
  have h1 := W.tab.len
  rw [List.length_map, ← ent_len W.ent] at h1
  have h2 := ent_len W.ent
  have h3 := W.room
  exact fits_w h1 W.tab.nod (by omega)
theorem SetW.row (W : SetW P w s.heap a L es ep t) {i : Nat} {q : Addr × List Int} (h : L[i]? = some q) : es[i]? = some (thash P w q.2, Value.ref q.1) := by
  rw [← Array.getElem?_toList, W.ent]
  unfold rowsOf
  rw [List.getElem?_map, h]
  rfl
theorem SetW.sound (W : SetW P w s.heap a L es ep t) : ¬ t.gaveWay = true := by
  unfold SetTable.gaveWay
  rw [W.tab.good.odd]
  decide
theorem SetW.hashes (W : SetW P w s.heap a L es ep t) {i : Nat} {q : Addr × List Int} (h : L[i]? = some q) : (es[i]?.map (·.1)).getD 0 = thash P w q.2 := by
  rw [W.row h]
  rfl
/-- the search for adding, from step c of the way on; N: the first empty slot -/
theorem seek (W : SetW P w s.heap a L es ep t) {x : Addr} {k : List Int} (hx : IsT P w s.heap k x) (hu : A.units < cLine) {N : Nat} (n1 : N < 10 * SetTable.turns t.mask)
    (n2 : (pr t.mask (thash P w k) N).j ∉ t.place.toList) (n3 : ∀ c, c < N → (pr t.mask (thash P w k) c).j ∈ t.place.toList) {Q : SetFound → Shared → Prop}
    (yes : k ∈ L.map (·.2) → Q (.there none) s) (no : k ∉ L.map (·.2) → Q (.free (pr t.mask (thash P w k) N).j false) s) :
    ∀ (f c : Nat) (st : Option SetTable.Probe), st.getD (t.probeStart (thash P w k)) = pr t.mask (thash P w k) c → c ≤ N → N - c < f →
      (∀ (i : Nat) q, L[i]? = some q → q.2 = k → ∃ d, c ≤ d ∧ d < N ∧ t.place.toList[i]? = some (pr t.mask (thash P w k) d).j) →
      wpAny (model P w) A (setSearchFrom a (.ref x) (thash P w k) true f st) Q E s := by
  generalize hh : thash P w k = hk at *
  intro f
  induction f with
  | zero => exact fun c st _ _ z => absurd z (Nat.not_lt_zero _)
  | succ f ih =>
    intro c st e0 cN cf left
    obtain ⟨o, ho, hex, hd⟩ := W.obj
    rw [setSearchFrom_succ]
    refine wpAny_bind (wpAny_setState_of ho hd W.fits ?_)
    dsimp only
    refine wp_if_neg W.sound ?_
    try refine wpAny_bind (wpAny_pure ?_)
    have go : ∀ q, nth t.mask (pr t.mask hk c) q = pr t.mask hk (c + q) := fun q => (nth_add t.mask c _ q).symm
    have sp := go_spec t W.tab.up W.tab.nod (fun i => (es[i]?.map (·.1)).getD 0) hk (10 * SetTable.turns t.mask) (N - c) (pr t.mask hk c) (pr_dm t.mask hk c) (by omega)
      (fun q hq => by rw [go]; exact n3 (c + q) (by omega)) (by rw [go, show c + (N - c) = N by omega]; exact n2)
    rcases sp with ⟨q, i, hq, hi, _, hno, ans⟩ | ⟨hno, ans⟩
    · rw [go] at hi ans
      rw [go] at ans
      rw [e0]
      unfold SetTable.probe
      rw [ans]
      dsimp only
      have il : i < L.length := by
        have z1 := (List.getElem?_eq_some_iff.mp hi).1
        have z2 := W.tab.len
        rw [List.length_map] at z2
        rw [Array.length_toList] at z1
        omega
      obtain ⟨y, hy⟩ : ∃ y, L[i]? = some y := ⟨_, List.getElem?_eq_getElem il⟩
      have ym : y ∈ L := List.mem_of_getElem? hy
      have more : wpAny (model P w) A (searchRest a (.ref x) hk true f es t (pr t.mask hk (c + q)).j i (pr t.mask hk (c + (q + 1)))) Q E s := by
        unfold searchRest
        rw [W.row hy]
        dsimp only
        refine wpAny_bind (wpAny_holding (wpAny_eqBool_tuple hu (W.isT y ym) hx ?_))
        refine wpAny_bind (wpAny_setState_of ho hd W.fits ?_)
        dsimp only
        by_cases same : y.2 = k
        · exact wp_if_pos (by simp [same]) (wpAny_pure (yes (List.mem_map.mpr ⟨y, ym, same⟩)))
        · refine wp_if_neg (by simp [same]) ?_
          try refine wpAny_bind (wpAny_pure ?_)
          rw [sameMem]
          dsimp only
          have live := slot_live W.tab.up hi
          simp only [if_true, live, W.row hy]
          refine wpAny_bind (wpAny_isSame_ref_self (wpAny_bind (wpAny_pure ?_)))
          simp only [if_true]
          refine wp_if_neg (by simp [same]) ?_
          refine ih (c + (q + 1)) _ rfl (by omega) (by omega) fun i0 y0 h0 hy0 => ?_
          obtain ⟨d, a1, a2, a3⟩ := left i0 y0 h0 hy0
          refine ⟨d, ?_, a2, a3⟩
          rcases Nat.lt_trichotomy d (c + q) with z | z | z
          · exact absurd ((W.hashes h0).trans ((congrArg (thash P w) hy0).trans hh)) (hno (d - c) i0 (by omega) (by rw [go, show c + (d - c) = d by omega]; exact a3))
          · rw [z] at a3
            have l0 := slot_live W.tab.up a3
            rw [live] at l0
            injection l0 with l0
            rw [← l0, hy] at h0
            exact absurd ((congrArg Prod.snd (Option.some.inj h0)).trans hy0) same
          · omega
      by_cases hl : t.led = true
      · refine wp_if_neg (by simp [hl]) ?_
        try refine wpAny_bind (wpAny_pure ?_)
        exact more
      · refine wp_if_pos (by simp [hl]) ?_
        refine wpAny_bind (seen_tup hx (fun u hu' => ?_) ?_)
        · obtain ⟨e, he, rfl⟩ := List.mem_map.mp hu'
          have he1 : e ∈ es ∧ e.1 = hk := by simpa using he
          have he2 : e ∈ es.toList := by simpa using he1.1
          rw [W.ent] at he2
          obtain ⟨q2, hq2, rfl⟩ := List.mem_map.mp he2
          exact ⟨q2.2, q2.1, rfl, W.isT q2 hq2⟩
        · refine wp_if_neg (by decide) ?_
          try refine wpAny_bind (wpAny_pure ?_)
          exact more
    · rw [go, show c + (N - c) = N by omega] at ans
      rw [e0]
      unfold SetTable.probe
      rw [ans]
      dsimp only
      refine wpAny_pure (no fun hm => ?_)
      obtain ⟨y0, m0, hy0⟩ := List.mem_map.mp hm
      obtain ⟨i0, hi0, e2⟩ := List.getElem_of_mem m0
      have h0 : L[i0]? = some y0 := by rw [List.getElem?_eq_getElem hi0, e2]
      obtain ⟨d, a1, a2, a3⟩ := left i0 y0 h0 hy0
      exact hno (d - c) i0 (by omega) (by rw [go, show c + (d - c) = d by omega]; exact a3) ((W.hashes h0).trans ((congrArg (thash P w) hy0).trans hh))
theorem seek_at (W : SetW P w s.heap a L es ep t) {x : Addr} {k : List Int} (hx : IsT P w s.heap k x) (hu : A.units < cLine) {Q : SetFound → Shared → Prop} (yes : k ∈ L.map (·.2) → Q (.there none) s)
    (no : ∀ N, k ∉ L.map (·.2) → (pr t.mask (thash P w k) N).j ∉ t.place.toList → (∀ c, c < N → (pr t.mask (thash P w k) c).j ∈ t.place.toList) → Q (.free (pr t.mask (thash P w k) N).j false) s) :
    wpAny (model P w) A (setSearch a (.ref x) (thash P w k) true) Q E s := by
  have rm := W.room
  obtain ⟨N, n1, n2, n3⟩ := W.tab.hole (by rw [List.length_map]; omega) (thash P w k)
  have lim : N < 100000 := by
    have := W.tab.good.big
    unfold SetTable.turns at n1
    omega
  unfold setSearch
  refine seek W hx hu n1 n2 n3 yes (fun z => no N z n2 n3) 100000 0 none rfl (Nat.zero_le _) (by omega) fun i q hq hk => ?_
  have il : i < t.place.toList.length := by
    have z := W.tab.len
    rw [List.length_map] at z
    rw [Array.length_toList, z]
    exact (List.getElem?_eq_some_iff.mp hq).1
  obtain ⟨c, c1, c2⟩ := W.tab.ahead n2 (i := i) (by rw [List.getElem?_map, hq, ← hk]; rfl) (List.getElem?_eq_getElem il)
  exact ⟨c, Nat.zero_le _, c1, by rw [List.getElem?_eq_getElem il, c2]⟩
/-- laid anew -/
theorem relay_w {o : Obj} (ho : s.heap.get? a = some o) (hex : o.ExactSet) (hd : o.data = .set es ep t) (ent : es.toList = rowsOf P w L) (h1 : t.place.size = es.size) (h2 : t.dummies = #[]) (h3 : es.size ≤ t.mask)
    (nd : (L.map (·.2)).Nodup) (tup : ∀ q ∈ L, IsT P w s.heap q.2 q.1) (pl : t.plain = true) (ld : w.params.followText "set-order" = true ∨ t.led = true) {wanted M : Nat}
    (hw : SetTable.sizeAbove wanted = M + 1) (hM : M = 31 ∨ M = 127 ∨ M = 511) (hn : L.length * 5 < M * 3) {Q : Unit → Shared → Prop}
    (q : ∀ h' L' es' ep' t', Heap.SameBut a s.heap h' → SetW P w h' a L' es' ep' t' → L'.Perm L → Q () { s with heap := h' }) : wpAny (model P w) A (setRelay a wanted) Q E s := by
  have el := ent_len ent
  have gM : Good M := by
    rcases hM with e | e | e
    · exact e ▸ good_of (.inr (.inl rfl))
    · exact e ▸ good_of (.inr (.inr rfl))
    · exact e ▸ good511
  obtain ⟨t', order, e, pm, T, e1, e2, e3⟩ := relaid_w t (hs := es.map (·.1)) (wanted := wanted) (by rw [hw]; rfl) gM (by rw [Array.size_map, el]; omega)
  rw [Array.size_map, el] at pm
  obtain ⟨L2, r1, r2, r3⟩ := order_rows L es order ent pm
  rw [← r3] at T
  have e4 : (order.filterMap (es[·]?)).size = es.size := by rw [ent_len r1, r2.length_eq, el]
  rw [setRelay_eq]
  refine wpAny_bind (wpAny_setState_of ho hd (fits_w h1 h2 h3) ?_)
  dsimp only
  refine wp_if_neg (by rw [sizeLine_eq, hw]; rcases hM with z | z | z <;> omega) ?_
  try refine wpAny_bind (wpAny_pure ?_)
  rw [e]
  dsimp only
  refine wpAny_bind ?_
  refine wp_if_neg (by rw [e4]; simp) ?_
  try refine wpAny_bind (wpAny_pure ?_)
  refine wpAny_pure ?_
  dsimp only
  refine wpAny_storeSet_of ho hd ?_ (by rw [e4, el, sizeLine_eq]; rcases hM with z | z | z <;> omega)
  have sb : Heap.SameBut a s.heap (s.heap.update a (Obj.putSet (order.filterMap (es[·]?)) t')) := Heap.SameBut.update ..
  refine q _ L2 _ (ep + 1) t' sb ⟨⟨_, store_at ho hd, ⟨hex.1, hex.2.1, hex.2.2⟩, rfl⟩, r1, T, (r2.map (·.2)).nodup_iff.mpr nd, fun y hy => isT_same (tup y (r2.mem_iff.mp hy)) ho hd sb, e3 ▸ pl, by rw [e2]; exact ld, by rw [r2.length_eq, e1]; exact hn, by rw [e1]; exact .inr hM⟩ r2
theorem sz_5 : SetTable.sizeAbove (SetTable.grown 5) = 32 := by decide +kernel
theorem sz_19 : SetTable.sizeAbove (SetTable.grown 19) = 128 := by decide +kernel
theorem sz_77 : SetTable.sizeAbove (SetTable.grown 77) = 512 := by decide +kernel
/-- adding a tuple -/
theorem add_w (W : SetW P w s.heap a L es ep t) {x : Addr} {k : List Int} (hx : IsT P w s.heap k x) (hu : A.units < cLine) (lim : L.length + 1 < 306) {Q : Bool → Shared → Prop}
    (q : ∀ b h' L' es' ep' t', Heap.SameBut a s.heap h' → SetW P w h' a L' es' ep' t' → (k ∈ L.map (·.2) → L' = L) → (k ∉ L.map (·.2) → L'.Perm ((x, k) :: L)) → Q b { s with heap := h' }) :
    wpAny (model P w) A (setAddHashed a (.ref x) (thash P w k)) Q E s := by
  obtain ⟨o, ho, hex, hd⟩ := W.obj
  have el := ent_len W.ent
  have rm := W.room
  unfold setAddHashed
  refine wpAny_holding ?_
  rw [show (100000 : Nat) = 99999 + 1 from rfl, setAddHashedIn_succ]
  refine wpAny_bind (wpAny_setState_of ho hd W.fits ?_)
  dsimp only
  refine wp_if_neg (by simp [byScan, Value.scannable]) ?_
  try refine wpAny_bind (wpAny_pure ?_)
  refine wpAny_bind (seek_at W hx hu (fun hm => ?_) fun N hm n2 n3 => ?_)
  · exact wpAny_pure (q false s.heap L es ep t (Heap.SameBut.refl a s.heap) W (fun _ => rfl) fun z => absurd hm z)
  · dsimp only
    refine wpAny_bind (wpAny_setState_of ho hd W.fits ?_)
    dsimp only
    obtain ⟨p, hp⟩ : ∃ p, SetTable.below t.place (pr t.mask (thash P w k) N).j = p := ⟨_, rfl⟩
    obtain ⟨q2, q3, q9⟩ := W.tab.add n2 n3 p hp
    have f1 : (t.put (pr t.mask (thash P w k) N).j).1.plain = true := W.pln
    have f2 : (t.put (pr t.mask (thash P w k) N).j).1.led = t.led := rfl
    have f3 : (t.put (pr t.mask (thash P w k) N).j).1.mask = t.mask := rfl
    have f4 : (t.put (pr t.mask (thash P w k) N).j).2 = p := hp
    generalize t.put (pr t.mask (thash P w k) N).j = pt at q3 q9 f1 f2 f3 f4 ⊢
    obtain ⟨t1, p'⟩ := pt
    dsimp only at q3 q9 f1 f2 f3 f4 ⊢
    subst f4
    first
      | (refine wpAny_bind ?_; refine wp_if_pos f1 ?_; refine hashBy_tup hx ?_)
      | refine wp_if_pos f1 (wpAny_bind (hashBy_tup hx ?_))
    simp only [if_true]
    have ent1 : (SetTable.insertAt es p' (thash P w k, Value.ref x)).toList = rowsOf P w (L.take p' ++ (x, k) :: L.drop p') := by rw [SetTable.toList_insertAt, rows_put, W.ent]
    have pm := put_perm L p' (x, k)
    have e5 : (L.map fun q => thash P w q.2).take p' ++ thash P w k :: (L.map fun q => thash P w q.2).drop p' = (L.take p' ++ (x, k) :: L.drop p').map fun q => thash P w q.2 := by
      rw [List.map_append, List.map_cons, List.map_take, List.map_drop]
    rw [e5] at q3
    have nd1 : ((L.take p' ++ (x, k) :: L.drop p').map (·.2)).Nodup := (pm.map (·.2)).nodup_iff.mpr (List.nodup_cons.mpr ⟨hm, W.nod⟩)
    have len1 : (L.take p' ++ (x, k) :: L.drop p').length = L.length + 1 := pm.length_eq
    have el1 := ent_len ent1
    rw [len1] at el1
    rw [List.length_map] at q9
    generalize SetTable.insertAt es p' (thash P w k, Value.ref x) = es1 at ent1 el1 ⊢
    generalize L.take p' ++ (x, k) :: L.drop p' = L1 at pm len1 q3 nd1 ent1
    refine wpAny_bind (wpAny_storeSet_of ho hd ?_ (by rw [el1, sizeLine_eq]; omega))
    have sb : Heap.SameBut a s.heap (s.heap.update a (Obj.putSet es1 t1)) := Heap.SameBut.update ..
    have ho1 := store_at (es' := es1) (t' := t1) ho hd
    generalize s.heap.update a (Obj.putSet es1 t1) = h1 at sb ho1 ⊢
    have tup1 : ∀ y ∈ L1, IsT P w h1 y.2 y.1 := fun y hy => by
      rcases List.mem_cons.mp (pm.mem_iff.mp hy) with e | z
      · rw [e]; exact isT_same hx ho hd sb
      · exact isT_same (W.isT y z) ho hd sb
    have ld1 : w.params.followText "set-order" = true ∨ t1.led = true := by rw [f2]; exact W.led
    have kind1 : t1.mask = 7 ∨ t1.mask = 31 ∨ t1.mask = 127 ∨ t1.mask = 511 := by rw [f3]; exact W.kind
    have full : t1.tooFull = decide ((L.length + 1) * 5 ≥ t1.mask * 3) := by unfold SetTable.tooFull; rw [q9]
    by_cases hf : t1.tooFull = true
    · first
        | (refine wpAny_bind ?_; refine wp_if_pos (by simp [hf]) ?_)
        | (refine wp_if_pos (by simp [hf]) ?_; refine wpAny_bind ?_)
      rw [full, decide_eq_true_eq] at hf
      rw [el]
      have ps : t1.place.size = es1.size := by
        have z := q3.len
        rw [List.length_map, len1] at z
        rw [z, el1]
      have go : ∀ M, SetTable.sizeAbove (SetTable.grown (L.length + 1)) = M + 1 → (M = 31 ∨ M = 127 ∨ M = 511) → (L.length + 1) * 5 < M * 3 → L.length + 1 ≤ t1.mask →
          wpAny (model P w) A (setRelay a (SetTable.grown (L.length + 1))) (fun _ s' => wpAny (model P w) A (pure true) Q E s') E { s with heap := h1 } := fun M m1 m2 m3 m4 => by
        refine relay_w (s := { s with heap := h1 }) ho1 ⟨hex.1, hex.2.1, hex.2.2⟩ rfl ent1 ps q3.nod (by rw [el1]; exact m4) nd1 tup1 f1 ld1 m1 m2 (by rw [len1]; exact m3) ?_
        exact fun h2 L2 es2 ep2 t2 sb2 W2 pm2 => wpAny_pure (q true h2 L2 es2 ep2 t2 (sb.trans sb2) W2 (fun z => absurd z hm) fun _ => pm2.trans pm)
      rcases W.kind with e | e | e | e
      · rw [e] at rm; rw [f3, e] at hf
        have n : L.length = 4 := by omega
        exact go 31 (by rw [n, sz_5]) (.inl rfl) (by omega) (by rw [f3, e]; omega)
      · rw [e] at rm; rw [f3, e] at hf
        have n : L.length = 18 := by omega
        exact go 127 (by rw [n, sz_19]) (.inr (.inl rfl)) (by omega) (by rw [f3, e]; omega)
      · rw [e] at rm; rw [f3, e] at hf
        have n : L.length = 76 := by omega
        exact go 511 (by rw [n, sz_77]) (.inr (.inr rfl)) (by omega) (by rw [f3, e]; omega)
      · rw [f3, e] at hf
        omega
    · first
        | refine wp_if_neg (by simp [hf]) ?_
        | (refine wpAny_bind ?_; refine wp_if_neg (by simp [hf]) ?_; refine wpAny_pure ?_)
      rw [full, decide_eq_true_eq] at hf
      exact wpAny_pure (q true h1 L1 es1 (ep + 1) t1 sb ⟨⟨_, ho1, ⟨hex.1, hex.2.1, hex.2.2⟩, rfl⟩, ent1, q3, nd1, tup1, f1, ld1, by rw [len1]; omega, kind1⟩ (fun z => absurd z hm) fun _ => pm)
theorem SetW.stay {h h' : Heap} (W : SetW P w h a L es ep t) (ha : ∀ o, h.get? a = some o → h'.get? a = some o) (ht : ∀ q ∈ L, IsT P w h' q.2 q.1) : SetW P w h' a L es ep t := by
  obtain ⟨o, ho, r⟩ := W.obj
  exact { W with obj := ⟨o, ha o ho, r⟩, isT := ht }
theorem setW_new {h : Heap} (ho : h.get? a = some { cls := .type "set", dict := none, data := .set #[] 0 (.fresh 0 0 (!w.params.followText "set-order")) }) : SetW P w h a [] #[] 0 (.fresh 0 0 (!w.params.followText "set-order")) where
  obj := ⟨_, ho, ⟨rfl, rfl, rfl⟩, rfl⟩
  ent := rfl
  tab := ⟨List.Pairwise.nil, rfl, rfl, good_of (.inl rfl), fun x hx => (by cases hx), fun i h j hi => (by simp at hi)⟩
  nod := List.nodup_nil
  isT := fun p hp => (by cases hp)
  pln := rfl
  led := by
    show _ ∨ (!w.params.followText "set-order") = true
    cases w.params.followText "set-order"
    · exact .inr rfl
    · exact .inl rfl
  room := show 0 * 5 < 7 * 3 from by omega
  kind := .inl rfl
end
end Ly

set_option maxHeartbeats 1000000
namespace Ly
open PySem PySem.Spec PyProof.Rows L2
section
variable {P : Program} {w : World} {A : Around} {E : Value → Shared → Prop} {s : Shared}
abbrev setNew (w : World) : Obj := { cls := .type "set", dict := none, data := .set #[] 0 (.fresh 0 0 (!w.params.followText "set-order")) }
abbrev itNew (l : Addr) : Obj := { cls := .type "list_iterator", data := .fields #[.ref l, .int 0 0] }
set_option maxHeartbeats 3200000 in
/-- set(xs), by the loop that adds -/
theorem set_by {l : Addr} {its : Array Value} {Q : Value → Shared → Prop} {Post : Heap → Prop} (hA : A.handled = none) (hl : s.heap.IsList l its)
    (loop : ∀ R : Result → Shared → Prop, (∀ h2 tk, Post h2 → R (.ok (.ret .none)) { s with heap := h2, toks := tk }) → codeAny (model P w) A.in1.in1 (.builtin "set.update.loop" ⟨[.ref s.heap.objs.size, .ref (s.heap.push (setNew w)).objs.size], []⟩) R { s with heap := (s.heap.push (setNew w)).push (itNew l) })
    (fin : ∀ h2 tk, Post h2 → Q (.ref s.heap.objs.size) { s with heap := h2, toks := tk }) : wpAny (model P w) A (call (.type "set") [.ref l]) Q E s := by
  obtain ⟨c0, tl0, hmro⟩ := F.called_set.mro
  have hmade := F.called_set.made
  have hsub := F.called_set.sub
  refine wpAny_call (codeAny_of_tree ?_)
  show wpAny _ _ (callAny (.type "set") _) _ _ _
  refine wpAny_pure ⟨Code.quiet_builtin _ (by decide +kernel), codeAny_builtin F.entry_type_call ?_⟩
  rw [Around.under_plain (weight_type_call_type "set" [.ref l] []) rfl]
  have y1 := F.called_set.notType
  have y2 := F.called_set.canCreate
  have y3 := F.typeCall_set_1 (.ref l)
  repeat (any_goals (first | assumption | wp_step))
  refine codeAny_mono (code_set_led1 (.ref l) (E := E) (Q₁ := fun ob s1 => ob = .ref s.heap.objs.size ∧ s1 = { s with heap := s.heap.push (setNew w) }) ⟨rfl, rfl⟩) fun r s1 hr => ?_
  cases r with
  | error e => exact hr
  | ok fl =>
    cases fl with
    | ret ob =>
      obtain ⟨rfl, rfl⟩ := hr
      have z1 : (s.heap.push (setNew w)).get? s.heap.objs.size = some (setNew w) := Heap.get?_push_size _ rfl
      have z2 : Shared.TypeIs { s with heap := s.heap.push (setNew w) } (.ref s.heap.objs.size) "set" := ⟨_, z1, rfl⟩
      have z3 := F.called_set.init.lookup
      have z4 := F.called_set.init.bind (.ref s.heap.objs.size)
      repeat (any_goals (first | assumption | wp_step))
      refine codeAny_mono (codeAny_call_builtin (R := wants (fun r s2 => r = .none ∧ ∃ h2 tk, s2 = { s with heap := h2, toks := tk } ∧ Post h2) E) F.called_set.init.plain F.entry_set_init (check_set_init_1 z2 ?_)) fun r2 s2 hr2 => ?_
      · obtain ⟨ol, hol, hcl, nl, hdl⟩ := hl
        obtain ⟨ocls, odict, odata, oslots⟩ := ol
        simp only at hcl hdl
        subst hcl; subst hdl
        have x1 : (s.heap.push (setNew w)).get? l = some { cls := .type "list", dict := odict, data := .seq its nl, slots := oslots } := Heap.get?_push_of_some _ hol
        have x2 := F.sub_list_set
        have x3 := F.sub_list_frozenset
        have x4 : (Value.type "list" == Value.type "dict") = false := by decide
        have x5 : (s.heap.push (setNew w)).IsList l its := ⟨_, x1, rfl, nl, rfl⟩
        unfold Builtin.«set.__init__» noKeywords Builtin.Frozenset.updateFrom
        generalize hPI : pyIter = PI
        wp_walk
        subst hPI
        refine wpAny_pyIter_list x5 ?_
        refine wpAny_bind (wpAny_runValue ?_)
        refine loop _ fun h2 tk hp => ?_
        show wpAny _ _ _ _ _ _
        refine wpAny_pure ?_
        show wpAny _ _ (ret Value.none) _ _ _
        exact wpAny_pure ⟨rfl, h2, tk, rfl, hp⟩
      · cases r2 with
        | error e => exact hr2
        | ok f2 =>
          cases f2 with
          | ret r =>
            obtain ⟨rfl, h2, tk, rfl, hp⟩ := hr2
            repeat (any_goals (first | assumption | wp_step))
            exact fin _ _ hp
          | _ => exact hr2.elim
    | _ => exact hr.elim

theorem setR_room {h : Heap} {a : Addr} {Sf : Int → Bool} {c : Nat} {ns : List Int} (R : SetR w h a Sf c) (hs : ∀ k, Sf k = true → k ∈ ns) (few : ∀ L : List Int, L.Nodup → (∀ x ∈ L, x ∈ ns) → L.length + 1 < scanBound) : c + 1 < scanBound := by
  obtain ⟨o, es, ep, t, h1, h2, h3, h4, h5, h6, h7, h8, h9, h10, h11⟩ := R
  have := few _ h5 fun k hk => hs k ((h6 k).mpr hk)
  rw [List.length_map, Array.length_toList, h9] at this
  exact this
theorem loop_int {I : Addr} {fp wr : List Addr} {G : Array GenState → Array GenState → Prop} {n : Nat} {Pv : Nat → Value → Prop} {St : Nat → Shared → Prop} {R : Result → Shared → Prop}
    (W : WalksS P w A.in1 I fp wr G n Pv St) (Sa : Addr) (nf : Sa ∉ fp) (ns : List Int) (hn : n = ns.length) (few : ∀ L : List Int, L.Nodup → (∀ x ∈ L, x ∈ ns) → L.length + 1 < scanBound) (hval : ∀ i v, Pv i v → ∃ k t, ns[i]? = some k ∧ v = .int k t) :
    ∀ (m i : Nat) (s : Shared), n - i = m → i ≤ n → St i s → (∃ c, SetR w s.heap Sa (fun j => decide (j ∈ ns.take i)) c) →
      (∀ s2 c, Moved (Sa :: wr) G s s2 → SetR w s2.heap Sa (fun j => decide (j ∈ ns)) c → R (.ok (.ret .none)) s2) → codeAny (model P w) A (.builtin "set.update.loop" ⟨[.ref Sa, .ref I], []⟩) R s := by
  have nw : Sa ∉ wr := fun z => nf (W.sub _ z)
  have inc : ∀ b ∈ wr, b ∈ Sa :: wr := fun b z => List.mem_cons_of_mem _ z
  intro m
  induction m with
  | zero =>
    intro i s e1 le st ⟨c, hS⟩ fin
    obtain rfl : i = n := by omega
    refine codeAny_builtin F.entry_set_update_loop ?_
    rw [Around.under_plainId F.plain_set_update_loop _]
    show wpAny _ A.in1 (pyNext (.ref I) >>= _) _ _ s
    refine wpAny_bind (W.done s _ _ st fun s2 mv => ?_)
    show wpAny _ A.in1 (ret Value.none) _ _ s2
    rw [List.take_of_length_le (show ns.length ≤ i by omega)] at hS
    exact wpAny_pure (fin s2 c (mv.mono inc) (hS.at fun o e => mv.heap Sa o nw e))
  | succ m ih =>
    intro i s e1 le st ⟨c, hS⟩ fin
    have lt : i < n := by omega
    refine codeAny_builtin F.entry_set_update_loop ?_
    rw [Around.under_plainId F.plain_set_update_loop _]
    show wpAny _ A.in1 (pyNext (.ref I) >>= _) _ _ s
    refine wpAny_bind (W.item i s _ _ lt st fun v s2 hP st2 mv => ?_)
    obtain ⟨z, t, hz, rfl⟩ := hval i v hP
    have hS2 : SetR w s2.heap Sa (fun j => decide (j ∈ ns.take i)) c := hS.at fun o e => mv.heap Sa o nw e
    show wpAny _ A.in1 (holding [Value.int z t] (setAdd Sa (.int z t)) >>= _) _ _ s2
    refine wpAny_bind (wpAny_holding ?_)
    unfold setAdd
    refine wpAny_holding ?_
    refine wpAny_bind ((intKind P w).pyHash (k := z) (intKind_is _ _ _ _) ?_)
    refine setR_add_hashed (s := { s2 with toks := s2.toks + 1 }) hS2 (setR_room hS2 (fun k hk => List.mem_of_mem_take (of_decide_eq_true hk)) few) fun h3 sb hS3 => ?_
    have hS4 : SetR w h3 Sa (fun j => decide (j ∈ ns.take (i + 1))) (if decide (z ∈ ns.take i) = true then c else c + 1) := hS3.congr fun j => by
      rw [List.take_add_one, hz]
      simp [List.mem_append]
    refine wpAny_pure ⟨plainId_quiet F.plain_set_update_loop _, ih (i + 1) _ (by omega) lt (W.frame _ s2 _ _ st2 (Nat.le_succ _) fun b hb o e => ?_) ⟨_, hS4⟩ fun s5 c5 mv5 hS5 => ?_⟩
    · rw [sb.2 b (fun q : b = Sa => nf (by rw [← q]; exact hb))]; exact e
    · refine fin s5 c5 (Moved.trans W.gtrans ((mv.mono inc).then_heap (Nat.le_succ _) fun b o hb e => ?_) mv5) hS5
      rw [sb.2 b (fun q : b = Sa => hb (by rw [q]; exact List.mem_cons_self))]; exact e
theorem setT_room {h : Heap} {a : Addr} {L ks : List (Addr × List Int)} {es : Array (Int × Value)} {ep : Nat} {t : SetTable} (R : SetW P w h a L es ep t) (hs : ∀ p ∈ L, p ∈ ks) (few : ∀ M : List (List Int), M.Nodup → (∀ x ∈ M, x ∈ ks.map (·.2)) → M.length + 1 < 306) : L.length + 1 < 306 := by
  have := few _ R.nod fun x hx => by
    obtain ⟨q, hq, rfl⟩ := List.mem_map.mp hx
    exact List.mem_map.mpr ⟨q, hs q hq, rfl⟩
  rw [List.length_map] at this
  exact this
theorem loop_tup {I : Addr} {fp wr : List Addr} {G : Array GenState → Array GenState → Prop} {n : Nat} {Pv : Nat → Value → Prop} {St : Nat → Shared → Prop} {R : Result → Shared → Prop}
    (W : WalksS P w A.in1 I fp wr G n Pv St) (Sa : Addr) (nf : Sa ∉ fp) (ks : List (Addr × List Int)) (hn : n = ks.length) (few : ∀ M : List (List Int), M.Nodup → (∀ x ∈ M, x ∈ ks.map (·.2)) → M.length + 1 < 306) (hval : ∀ i v, Pv i v → ∃ p, ks[i]? = some p ∧ v = .ref p.1)
    (hp0 : Heap) (hk : ∀ p ∈ ks, IsT P w hp0 p.2 p.1) (hS0 : hp0.get? Sa = none) (hw0 : ∀ b ∈ wr, hp0.get? b = none) (hu : A.in1.units < cLine) :
    ∀ (m i : Nat) (s : Shared), n - i = m → i ≤ n → St i s → (∀ b o, hp0.get? b = some o → s.heap.get? b = some o) → (∃ L es ep t, SetW P w s.heap Sa L es ep t ∧ Got ks i L) →
      (∀ s2 L es ep t, Moved (Sa :: wr) G s s2 → SetW P w s2.heap Sa L es ep t → Got ks n L → (∀ b o, hp0.get? b = some o → s2.heap.get? b = some o) → R (.ok (.ret .none)) s2) → codeAny (model P w) A (.builtin "set.update.loop" ⟨[.ref Sa, .ref I], []⟩) R s := by
  have nw : Sa ∉ wr := fun z => nf (W.sub _ z)
  have inc : ∀ b ∈ wr, b ∈ Sa :: wr := fun b z => List.mem_cons_of_mem _ z
  have kM : ∀ {s s2 : Shared}, Moved wr G s s2 → (∀ b o, hp0.get? b = some o → s.heap.get? b = some o) → ∀ b o, hp0.get? b = some o → s2.heap.get? b = some o := fun mv kp b o e => mv.heap b o (fun z => by rw [hw0 b z] at e; cases e) (kp b o e)
  intro m
  induction m with
  | zero =>
    intro i s e1 le st kp ⟨L, es, ep, t, hS, g⟩ fin
    obtain rfl : i = n := by omega
    refine codeAny_builtin F.entry_set_update_loop ?_
    rw [Around.under_plainId F.plain_set_update_loop _]
    show wpAny _ A.in1 (pyNext (.ref I) >>= _) _ _ s
    refine wpAny_bind (W.done s _ _ st fun s2 mv => ?_)
    show wpAny _ A.in1 (ret Value.none) _ _ s2
    have kp2 := kM mv kp
    exact wpAny_pure (fin s2 L es ep t (mv.mono inc) (hS.stay (fun o e => mv.heap Sa o nw e) fun p hp => isT_keep (hk p (List.mem_of_mem_take (g.sub p hp))) kp2) g kp2)
  | succ m ih =>
    intro i s e1 le st kp ⟨L, es, ep, t, hS, g⟩ fin
    have lt : i < n := by omega
    refine codeAny_builtin F.entry_set_update_loop ?_
    rw [Around.under_plainId F.plain_set_update_loop _]
    show wpAny _ A.in1 (pyNext (.ref I) >>= _) _ _ s
    refine wpAny_bind (W.item i s _ _ lt st fun v s2 hP st2 mv => ?_)
    obtain ⟨p, hp, rfl⟩ := hval i v hP
    have kp2 := kM mv kp
    have hS2 : SetW P w s2.heap Sa L es ep t := hS.stay (fun o e => mv.heap Sa o nw e) fun q hq => isT_keep (hk q (List.mem_of_mem_take (g.sub q hq))) kp2
    have hx : IsT P w s2.heap p.2 p.1 := isT_keep (hk p (List.mem_of_getElem? hp)) kp2
    show wpAny _ A.in1 (holding [Value.ref p.1] (setAdd Sa (.ref p.1)) >>= _) _ _ s2
    refine wpAny_bind (wpAny_holding ?_)
    unfold setAdd
    refine wpAny_holding ?_
    refine wpAny_bind (wpAny_pyHash_tuple hu hx ?_)
    refine add_w (s := { s2 with toks := s2.toks + (p.2.length + 1) }) hS2 hx hu (setT_room hS2 (fun q hq => List.mem_of_mem_take (g.sub q hq)) few) fun b h3 L3 es3 ep3 t3 sb hS3 c1 c2 => ?_
    have g3 : Got ks (i + 1) L3 := by
      rcases Classical.em (p.2 ∈ L.map (·.2)) with c | c
      · rw [c1 c]; exact g.same hp c
      · exact g.more hp (c2 c)
    have kp3 : ∀ b o, hp0.get? b = some o → h3.get? b = some o := fun b o e => (sb.2 b (fun z => by rw [z, hS0] at e; cases e)).trans (kp2 b o e)
    refine wpAny_pure ⟨plainId_quiet F.plain_set_update_loop _, ih (i + 1) _ (by omega) lt (W.frame _ s2 _ _ st2 (Nat.le_add_right _ _) fun b hb o e => ?_) kp3 ⟨L3, es3, ep3, t3, hS3, g3⟩ fun s5 L5 es5 ep5 t5 mv5 hS5 g5 kp5 => ?_⟩
    · rw [sb.2 b (fun q : b = Sa => nf (by rw [← q]; exact hb))]; exact e
    · refine fin s5 L5 es5 ep5 t5 (Moved.trans W.gtrans ((mv.mono inc).then_heap (Nat.le_add_right _ _) fun b o hb e => ?_) mv5) hS5 g5 kp5
      rw [sb.2 b (fun q : b = Sa => hb (by rw [q]; exact List.mem_cons_self))]; exact e
end
end Ly

set_option maxHeartbeats 1000000
namespace Ly
open PySem PySem.Spec PyProof.Rows L2
open PySem.W (dataLe AllAlike Sortable EachIs alike alikeAll)
/-- the set at a: its members' values, in some order -/
def SetV (w : World) (a : Addr) (vs : List V) (h : Heap) : Prop := ∃ o es ep t, h.get? a = some o ∧ o.ExactSet ∧ o.data = .set es ep t ∧ Vals vs (es.toList.map (·.2)) ∧ t.fits es.size = true ∧ es.size < scanBound ∧ Ris t.place.toList ∧ (w.params.followText "set-order" = true ∨ t.led = true)
def svO (w : World) (a : Addr) (vs : List V) : HO := .ext (SetV w a vs)
theorem svO_ok {P : Program} {w : World} {H : Hp} {h : Heap} {a : Addr} {vs : List V} (x : SetV w a vs h) : ObjOk P w H h a (svO w a vs) := by
  obtain ⟨o, es, ep, t, h1, h2⟩ := id x
  exact ⟨x, ⟨o, h1⟩, fun k1 k2 ⟨o, es, ep, t, q1, q2⟩ k => ⟨o, es, ep, t, k o q1, q2⟩⟩
theorem setV_int {w : World} {h : Heap} {a : Addr} {Sf : Int → Bool} {c : Nat} (R : SetR w h a Sf c) : ∃ ms : List Int, ms.Nodup ∧ (∀ k, k ∈ ms ↔ Sf k = true) ∧ SetV w a (ms.map V.int) h := by
  obtain ⟨o, es, ep, t, h1, h2, h3, h4, h5, h6, h7, h8, h9, h10, h11⟩ := R
  refine ⟨es.toList.map keyOf, h5, fun k => (h6 k).symm, o, es, ep, t, h1, h2, h3, ?_, h8, h7, h10, h11⟩
  have : ∀ l : List (Int × Value), (∀ e ∈ l, GoodE e) → Vals ((l.map keyOf).map V.int) (l.map (·.2)) := by
    intro l
    induction l with
    | nil => intro _; exact .nil
    | cons e l ih =>
      intro hg
      obtain ⟨k, tk, e1, _⟩ := hg e (by simp)
      refine .cons ?_ (ih fun x hx => hg x (by simp [hx]))
      show RelV (.int (keyOf e)) e.2
      unfold keyOf
      rw [e1]
      exact ⟨tk, rfl⟩
  exact this es.toList h4
theorem setV_tup {P : Program} {w : World} {s : Shared} {a : Addr} {L : List (Addr × List Int)} {es : Array (Int × Value)} {ep : Nat} {t : SetTable} (R : SetW P w s.heap a L es ep t) : SetV w a (L.map fun p => V.ref p.1) s.heap := by
  obtain ⟨o, ho, hex, hd⟩ := R.obj
  refine ⟨o, es, ep, t, ho, hex, hd, ?_, R.fits, ?_, R.tab.up, R.led⟩
  · rw [R.ent]
    unfold rowsOf
    rw [List.map_map]
    exact vals_of_refs L
  · have := R.room
    have := R.tab.good.big
    rw [ent_len R.ent]
    unfold scanBound
    omega
def rSetI' (K : FK) (w : World) : List V → Hp → VK → Prop := fun xs H Q => ∃ (l : Addr) (ns : List Int), xs = [.ref l] ∧ SqL K H l (ns.map V.int) ∧ (∀ L : List Int, L.Nodup → (∀ x ∈ L, x ∈ ns) → L.length + 1 < scanBound) ∧ ∀ (a : Addr) (ms : List Int), H a = none → ms.Nodup → (∀ k, k ∈ ms ↔ k ∈ ns) → Q (.ref a) (upd H a (svO w a (ms.map V.int)))
def rSetT' (K : FK) (w : World) : List V → Hp → VK → Prop := fun xs H Q => ∃ (l : Addr) (ks : List (Addr × List Int)), xs = [.ref l] ∧ SqL K H l (ks.map fun p => V.ref p.1) ∧ (∀ p ∈ ks, SqT K H p.1 (p.2.map V.int)) ∧ (∀ M : List (List Int), M.Nodup → (∀ x ∈ M, x ∈ ks.map (·.2)) → M.length + 1 < 306) ∧
  ∀ (a : Addr) (L : List (Addr × List Int)), H a = none → (∀ p ∈ L, p ∈ ks) → (L.map (·.2)).Nodup → (∀ p ∈ ks, p.2 ∈ L.map (·.2)) → Q (.ref a) (upd H a (svO w a (L.map fun p => V.ref p.1)))
theorem vals_nth : ∀ {vs : List V} {us : List Value}, Vals vs us → ∀ {i : Nat} {u : Value}, us[i]? = some u → ∃ v, vs[i]? = some v ∧ RelV v u
  | _, _, .nil, i, u, h => by simp at h
  | _, _, .cons r t, 0, u, h => by simp at h; subst h; exact ⟨_, rfl, r⟩
  | _, _, .cons r t, i + 1, u, h => by
    obtain ⟨v, h1, h2⟩ := vals_nth t (i := i) (u := u) (by simpa using h)
    exact ⟨v, by simpa using h1, h2⟩
section
variable {X : Cx}
theorem none_ge {h : Heap} {b : Addr} (hb : h.objs.size ≤ b) : h.get? b = none := by
  cases q : h.get? b with
  | none => rfl
  | some o => exact absurd (Nat.lt_of_lt_of_le (Heap.lt_size q) hb) (Nat.lt_irrefl _)
theorem cr_setI (hc : X.calm = true) : CallR X (.type "set") (rSetI' X.K X.w) := by
  intro pins s σ H xs us Q I r h
  obtain ⟨l, ns, rfl, hl, few, q⟩ := h
  rw [Vals.ref1 r]
  obtain ⟨its, rv, pl, hz⟩ := I.list hl
  have hn : H s.heap.objs.size = none := I.hok.fresh (Nat.le_refl _)
  have hil : its.length = ns.length := by rw [← rv.length, List.length_map]
  obtain ⟨ol, hol, _⟩ := id pl.isList
  have hlS : l < s.heap.objs.size := Heap.lt_size hol
  have hz1 : (s.heap.push (setNew X.w)).objs.size = s.heap.objs.size + 1 := Heap.size_push ..
  have hneI : l ≠ (s.heap.push (setNew X.w)).objs.size := by rw [hz1]; exact Nat.ne_of_lt (Nat.lt_succ_of_lt hlS)
  have hSf : s.heap.objs.size ∉ [(s.heap.push (setNew X.w)).objs.size, l] := by
    rw [hz1]
    intro z
    rcases List.mem_cons.mp z with e | e
    · exact Nat.ne_of_lt (Nat.lt_succ_self _) e
    · exact Nat.ne_of_gt hlS (List.mem_singleton.mp e)
  have hl1 : (s.heap.push (setNew X.w)).IsList l its.toArray := pl.isList.push _
  have hh3 : X.A.in1.in1.in1.handled = none := I.ok.hd hc
  refine set_by (Post := fun h2 => (∀ b o, s.heap.get? b = some o → h2.get? b = some o) ∧ ∃ c, SetR X.w h2 s.heap.objs.size (fun j => decide (j ∈ ns)) c) (I.ok.hd hc) pl.isList (fun R fin => ?_) fun h2 tk ⟨kp, c, hS⟩ => ?_
  · refine loop_int ((Walks.list hh3 _ l hneI its.toArray).toS) s.heap.objs.size hSf ns (by simp [hil]) few (fun i v hv => ?_) _ 0 _ rfl (Nat.zero_le _) ⟨⟨_, Heap.get?_push_size _ rfl, rfl, rfl⟩, hl1.push _⟩ ⟨0, ?_⟩ fun s2 c mv hS => ?_
    · have hv' : its[i]? = some v := by simpa using hv
      obtain ⟨x, h1, h2⟩ := vals_nth rv hv'
      rw [List.getElem?_map] at h1
      cases hk : ns[i]? with
      | none => rw [hk] at h1; cases h1
      | some k =>
        rw [hk] at h1
        cases h1
        obtain ⟨t, e⟩ := h2
        exact ⟨k, t, rfl, e⟩
    · exact setR_new_at (Heap.get?_push_of_some _ (Heap.get?_push_size _ rfl))
    · have kp : ∀ b o, s.heap.get? b = some o → s2.heap.get? b = some o := fun b o e => by
        have hb := Heap.lt_size e
        refine mv.heap b o ?_ (Heap.get?_push_of_some _ (Heap.get?_push_of_some _ e))
        rw [hz1]
        intro z
        rcases List.mem_cons.mp z with e | e
        · exact Nat.ne_of_lt hb e
        · exact Nat.ne_of_lt (Nat.lt_succ_of_lt hb) (List.mem_singleton.mp e)
      have e := Moved.eq_with mv
      rw [e]
      exact fin s2.heap s2.toks ⟨kp, c, hS⟩
  · obtain ⟨ms, m1, m2, m3⟩ := setV_int hS
    exact ⟨.ref s.heap.objs.size, _, I.laid (t' := tk) kp (Nat.le_refl _) (svO_ok m3), rfl, q _ ms hn m1 fun k => by rw [m2 k]; exact decide_eq_true_iff⟩
theorem cr_setT (hc : X.calm = true) {n : Nat} (hr : Room n X.A) : CallR X (.type "set") (rSetT' X.K X.w) := by
  intro pins s σ H xs us Q I r h
  obtain ⟨l, ks, rfl, hl, hk, few, q⟩ := h
  rw [Vals.ref1 r]
  obtain ⟨its, rv, pl, hz⟩ := I.list hl
  have hn : H s.heap.objs.size = none := I.hok.fresh (Nat.le_refl _)
  have hil : its.length = ks.length := by rw [← rv.length, List.length_map]
  have hit := refs_of_vals rv
  obtain ⟨ol, hol, _⟩ := id pl.isList
  have hlS : l < s.heap.objs.size := Heap.lt_size hol
  have hz1 : (s.heap.push (setNew X.w)).objs.size = s.heap.objs.size + 1 := Heap.size_push ..
  have hneI : l ≠ (s.heap.push (setNew X.w)).objs.size := by rw [hz1]; exact Nat.ne_of_lt (Nat.lt_succ_of_lt hlS)
  have hSf : s.heap.objs.size ∉ [(s.heap.push (setNew X.w)).objs.size, l] := by
    rw [hz1]
    intro z
    rcases List.mem_cons.mp z with e | e
    · exact Nat.ne_of_lt (Nat.lt_succ_self _) e
    · exact Nat.ne_of_gt hlS (List.mem_singleton.mp e)
  have hl1 : (s.heap.push (setNew X.w)).IsList l its.toArray := pl.isList.push _
  have hh3 : X.A.in1.in1.in1.handled = none := I.ok.hd hc
  have hu : X.A.in1.in1.in1.units < cLine := by
    have := hr.un
    simp only [Around.in1_units]
    omega
  refine set_by (Post := fun h2 => (∀ b o, s.heap.get? b = some o → h2.get? b = some o) ∧ ∃ L es ep t, SetW X.prog X.w h2 s.heap.objs.size L es ep t ∧ Got ks ks.length L) (I.ok.hd hc) pl.isList (fun R fin => ?_) fun h2 tk ⟨kp, L, es, ep, t, hS, g⟩ => ?_
  · refine loop_tup ((Walks.list hh3 _ l hneI its.toArray).toS) s.heap.objs.size hSf ks (by simp [hil]) few (fun i v hv => ?_) s.heap (fun p hp => I.isT (hk p hp)) (none_ge (Nat.le_refl _)) (fun b hb => none_ge (by rw [List.mem_singleton.mp hb, hz1]; exact Nat.le_succ _)) hu _ 0 _ rfl (Nat.zero_le _) ⟨⟨_, Heap.get?_push_size _ rfl, rfl, rfl⟩, hl1.push _⟩ (fun b o e => Heap.get?_push_of_some _ (Heap.get?_push_of_some _ e)) ⟨[], #[], 0, _, setW_new (Heap.get?_push_of_some _ (Heap.get?_push_size _ rfl)), Got.zero ks⟩ fun s2 L es ep t mv hS g kp => ?_
    · have hv' : its[i]? = some v := by simpa using hv
      rw [hit, List.getElem?_map] at hv'
      cases hq : ks[i]? with
      | none => rw [hq] at hv'; cases hv'
      | some p =>
        rw [hq] at hv'
        exact ⟨p, rfl, (Option.some.inj hv').symm⟩
    · have e := Moved.eq_with mv
      rw [e]
      refine fin s2.heap s2.toks ⟨kp, L, es, ep, t, hS, ?_⟩
      have e2 : its.toArray.size = ks.length := by simp [hil]
      rw [e2] at g
      exact g
  · refine ⟨.ref s.heap.objs.size, _, I.laid (t' := tk) kp (Nat.le_refl _) (svO_ok (setV_tup (s := { s with heap := h2 }) hS)), rfl, q _ L hn (fun p hp => List.mem_of_mem_take (g.sub p hp)) hS.nod fun p hp => g.all p (by rw [List.take_length]; exact hp)⟩
end
theorem paired_perm {α β : Type} {R : α → β → Prop} {bs cs : List β} (p : bs.Perm cs) : ∀ {as : List α}, Paired R as bs → ∃ as', as'.Perm as ∧ Paired R as' cs := by
  induction p with
  | nil => intro as h; exact ⟨as, .refl _, h⟩
  | cons x _ ih =>
    intro as h
    cases h with
    | cons r t =>
      obtain ⟨as', p', h'⟩ := ih t
      exact ⟨_ :: as', p'.cons _, .cons r h'⟩
  | swap x y l =>
    intro as h
    cases h with
    | cons r t =>
      cases t with
      | cons r2 t2 => exact ⟨_ :: _ :: _, .swap _ _ _, .cons r2 (.cons r t2)⟩
  | trans _ _ ih1 ih2 =>
    intro as h
    obtain ⟨as1, p1, h1⟩ := ih1 h
    obtain ⟨as2, p2, h2⟩ := ih2 h1
    exact ⟨as2, p2.trans p1, h2⟩
theorem paired_of_vals {K : FK} {H : Hp} : ∀ {vs : List V} {us : List Value} {ds : List DD}, Vals vs us → DpAll K H vs ds → Paired (fun (b : V × DD) u => RelV b.1 u ∧ Dp K H b.1 b.2) (vs.zip ds) us
  | _, _, _, .nil, .nil => .nil
  | _, _, _, .cons r t, .cons h hs => .cons ⟨r, h⟩ (paired_of_vals t hs)
theorem vals_of_paired {K : FK} {H : Hp} : ∀ {ps : List (V × DD)} {us : List Value}, Paired (fun (b : V × DD) u => RelV b.1 u ∧ Dp K H b.1 b.2) ps us → Vals (ps.map (·.1)) us ∧ DpAll K H (ps.map (·.1)) (ps.map (·.2))
  | _, _, .nil => ⟨.nil, .nil⟩
  | _, _, .cons r t => by
    obtain ⟨a, b⟩ := vals_of_paired t
    exact ⟨.cons r.1 a, .cons r.2 b⟩
theorem zip_fs (ps : List (V × DD)) : (ps.map (·.1)).zip (ps.map (·.2)) = ps := by
  induction ps with
  | nil => rfl
  | cons p ps ih => simp [ih]
def rSortV (K : FK) (w : World) : List V → Hp → VK → Prop := fun xs H Q => ∃ a vs ds, xs = [.ref a] ∧ H a = some (svO w a vs) ∧ DpAll K H vs ds ∧ AllAlike ds ∧ Sortable ds ∧ (∀ d ∈ ds, d.depth ≤ 32) ∧ ∀ p ps, ps.Perm (vs.zip ds) → H p = none → Q (.ref p) (upd H p (.lst ((srtP ps).map (·.1))))
theorem cr_sortV {X : Cx} {n : Nat} (hc : X.calm = true) (hr : Room n X.A) : CallR X (.builtin "sorted") (rSortV X.K X.w) := by
  intro pins s σ H vs us Q I r h
  obtain ⟨a, vs, ds, rfl, ha, hd, hal, hk, hdep, q⟩ := h
  rw [Vals.ref1 r]
  obtain ⟨o, es, ep, t, h1, h2, h3, h4, h5, h6, h7, h8⟩ : SetV X.w a vs s.heap := (I.hok a _ ha).1
  have hu : X.A.units + 65 < cLine := by have := hr.un; omega
  refine Calls.call_function_entry kind_sorted plain_sorted entry_sorted (args_sorted1 _) ?_
  unfold Builtin.«sorted»
  refine wpAny_bind (m := checkCount "sorted" 1 1 _) (wpAny_pure ?_)
  refine wpAny_bind (collect_set (A := X.A.in1) (I.ok.hd hc) ⟨o, h1, h2.1, h3⟩ h5 h6 h7 h8 fun s2 out kp sz gg oo pm => ?_)
  obtain ⟨ps, pp, pr⟩ := paired_perm pm.symm (paired_of_vals h4 hd)
  obtain ⟨rv, hd2⟩ := vals_of_paired pr
  have J : Inv X pins σ H { s with heap := s2.heap, gens := s2.gens, drawn := s2.drawn, toks := s2.toks } := I.call (ch := []) (Un.kept kp) (I.hok.kept kp) (by rw [gg]; exact I.bare) (fun _ z => nomatch z)
  have e : s2 = { s with heap := s2.heap, gens := s2.gens, drawn := s2.drawn, toks := s2.toks } := by
    cases s2
    cases s
    cases oo
    rfl
  rw [← e] at J
  have e3 : ps.map (·.2) = (ps.map (·.2)) := rfl
  have mem : ∀ d ∈ ps.map (·.2), d ∈ ds := fun d hd' => by
    obtain ⟨p, hp, rfl⟩ := List.mem_map.mp hd'
    have := pp.mem_iff.mp hp
    exact (List.of_mem_zip this).2
  have hl : (ps.map (·.1)).length ≤ sizeLine := by
    rw [List.length_map, pp.length_eq, List.length_zip, h4.length, List.length_map, Array.length_toList, sizeLine_eq]
    have : scanBound = 4096 := rfl
    omega
  refine sort_new (A := X.A.in1) J (by rw [Around.in1_units]; omega) rv hd2 (fun d h d' h' => hal d (mem d h) d' (mem d' h')) ?_ (fun d h => hdep d (mem d h)) hl (fun p s' hp J' => ⟨.ref p, _, J', rfl, ?_⟩) _
  · rcases hk with z | z
    · exact .inl fun d h => z d (mem d h)
    · exact .inr fun d h => z d (mem d h)
  · rw [zip_fs]
    exact q p ps pp hp
end Ly

set_option maxHeartbeats 1000000
namespace Ly
open PySem PySem.Spec PyProof.Rows L2
open PySem.W (dataLe AllAlike Sortable EachIs alike alikeAll)
section
variable {α : Type} [DecidableEq α]
/-- each once -/
def ddp : List α → List α
  | [] => []
  | x :: xs => if x ∈ xs then ddp xs else x :: ddp xs
theorem mem_ddp {x : α} : ∀ {xs : List α}, x ∈ ddp xs ↔ x ∈ xs
  | [] => Iff.rfl
  | y :: ys => by
    unfold ddp
    split
    · rename_i h
      rw [mem_ddp, List.mem_cons]
      exact ⟨.inr, fun z => z.elim (fun e => e ▸ h) id⟩
    · rw [List.mem_cons, List.mem_cons, mem_ddp]
theorem nodup_ddp : ∀ xs : List α, (ddp xs).Nodup
  | [] => List.nodup_nil
  | y :: ys => by
    unfold ddp
    split
    · exact nodup_ddp ys
    · rename_i h
      exact List.nodup_cons.mpr ⟨fun z => h (mem_ddp.mp z), nodup_ddp ys⟩
theorem perm_ddp {xs ys : List α} (h : ys.Nodup) (hm : ∀ y, y ∈ ys ↔ y ∈ xs) : ys.Perm (ddp xs) := (List.perm_ext_iff_of_nodup h (nodup_ddp xs)).mpr fun y => by rw [hm, mem_ddp]
end
section
variable {α : Type} {e : α → DD}
/-- a total order, antisymmetric -/
structure So (e : α → DD) : Prop where
  tr : ∀ a b c, dataLe false e a b = true → dataLe false e b c = true → dataLe false e a c = true
  to : ∀ a b, (dataLe false e a b || dataLe false e b a) = true
  an : ∀ a b, dataLe false e a b = true → dataLe false e b a = true → a = b
theorem sorted_uniq {le : α → α → Bool} (an : ∀ a b, le a b = true → le b a = true → a = b) : ∀ {l m : List α}, l.Pairwise (fun a b => le a b = true) → m.Pairwise (fun a b => le a b = true) → l.Perm m → l = m
  | [], m, _, _, p => by rw [List.nil_perm] at p; exact p.symm
  | a :: l, [], _, _, p => by rw [List.perm_nil] at p; exact p
  | a :: l, b :: m, hl, hm, p => by
    obtain ⟨l1, l2⟩ := List.pairwise_cons.mp hl
    obtain ⟨m1, m2⟩ := List.pairwise_cons.mp hm
    have e : a = b := by
      have ha : a ∈ b :: m := p.mem_iff.mp (by simp)
      have hb : b ∈ a :: l := p.mem_iff.mpr (by simp)
      rcases List.mem_cons.mp ha with z | z
      · exact z
      · rcases List.mem_cons.mp hb with y | y
        · exact y.symm
        · exact an _ _ (l1 b y) (m1 a z)
    subst e
    rw [sorted_uniq an l2 m2 (p.cons_inv)]
theorem srt_pw (so : So e) (xs : List α) : (srtT e xs).Pairwise (fun a b => dataLe false e a b = true) := List.pairwise_mergeSort (le := dataLe false e) so.tr so.to xs
theorem srt_perm (so : So e) {xs ys : List α} (p : xs.Perm ys) : srtT e xs = srtT e ys :=
  sorted_uniq (le := dataLe false e) so.an (srt_pw so xs) (srt_pw so ys) (((List.mergeSort_perm xs _).trans p).trans (List.mergeSort_perm ys _).symm)
theorem so_rows (x : α → List Int) (inj : ∀ a b, x a = x b → a = b) (he : dataLe false e = fun p q => decide (x p ≤ x q)) : So e where
  tr := fun a b c h1 h2 => by
    rw [he] at *
    simp only [decide_eq_true_eq] at *
    exact List.le_trans h1 h2
  to := fun a b => by
    rw [he]
    simp only [Bool.or_eq_true, decide_eq_true_eq]
    exact List.le_total _ _
  an := fun a b h1 h2 => by
    rw [he] at *
    simp only [decide_eq_true_eq] at *
    exact inj _ _ (List.le_antisymm h1 h2)
theorem so_tup (x : α → List Int) (inj : ∀ a b, x a = x b → a = b) (he : ∀ a, e a = .tuple ((x a).map .int)) : So e := so_rows x inj (by
  have h1 : e = fun b => PyData.tuple ((x b).map .int) := funext he
  have h2 := PySem.W.dataLe_rows x
  rw [h1, ← h2]
  rfl)
theorem so_int : So PyData.int := by
  have he := PySem.W.dataLe_int (fun b : Int => b)
  refine ⟨fun a b c h1 h2 => ?_, fun a b => ?_, fun a b h1 h2 => ?_⟩
  · rw [show (PyData.int : Int → DD) = fun b => PyData.int b from rfl, he] at *
    simp only [decide_eq_true_eq] at *
    omega
  · rw [show (PyData.int : Int → DD) = fun b => PyData.int b from rfl, he]
    simp only [Bool.or_eq_true, decide_eq_true_eq]
    omega
  · rw [show (PyData.int : Int → DD) = fun b => PyData.int b from rfl, he] at *
    simp only [decide_eq_true_eq] at *
    omega
def unq [DecidableEq α] (e : α → DD) (xs : List α) : List α := srtT e (ddp xs)
theorem mem_unq [DecidableEq α] {xs : List α} {x : α} : x ∈ unq e xs ↔ x ∈ xs := by
  unfold unq srtT
  rw [(List.mergeSort_perm _ _).mem_iff, mem_ddp]
theorem nodup_unq [DecidableEq α] (xs : List α) : (unq e xs).Nodup := by
  unfold unq srtT
  exact ((List.mergeSort_perm _ _).nodup_iff).mpr (nodup_ddp xs)
end
theorem perm_map_inv {β γ : Type} {f : β → γ} (inj : ∀ a b, f a = f b → a = b) {ms : List β} : ∀ {l : List γ}, l.Perm (ms.map f) → ∃ qs : List β, l = qs.map f ∧ qs.Perm ms := by
  intro l p
  have : ∀ d ∈ l, ∃ b ∈ ms, f b = d := fun d hd => List.mem_map.mp (p.mem_iff.mp hd)
  have ex : ∀ l : List γ, (∀ d ∈ l, ∃ b ∈ ms, f b = d) → ∃ qs : List β, l = qs.map f := by
    intro l
    induction l with
    | nil => intro _; exact ⟨[], rfl⟩
    | cons d l ih =>
      intro h
      obtain ⟨qs, e⟩ := ih fun x hx => h x (by simp [hx])
      obtain ⟨b, _, rfl⟩ := h d (by simp)
      exact ⟨b :: qs, by rw [List.map_cons, e]⟩
  obtain ⟨qs, e⟩ := ex l this
  refine ⟨qs, e, ?_⟩
  rw [e] at p
  clear e this ex
  induction ms generalizing qs l with
  | nil =>
    rw [List.map_nil, List.perm_nil, List.map_eq_nil_iff] at p
    rw [p]
  | cons m ms ih =>
    have hm : f m ∈ qs.map f := p.mem_iff.mpr (by simp)
    obtain ⟨b, hb, e⟩ := List.mem_map.mp hm
    have e2 := inj _ _ e
    subst e2
    obtain ⟨s, t, rfl⟩ := List.append_of_mem hb
    have p2 : ((s ++ t).map f).Perm (ms.map f) := by
      have q : ((s ++ b :: t).map f).Perm (f b :: (s ++ t).map f) := by
        simp only [List.map_append, List.map_cons]
        exact List.perm_middle
      exact (q.symm.trans p).cons_inv
    exact List.perm_middle.trans ((ih (l := (s ++ t).map f) _ p2).cons b)
theorem ints_inj : ∀ xs ys : List Int, xs.map PyData.int = ys.map PyData.int → xs = ys
  | [], [], _ => rfl
  | [], _ :: _, q => by cases q
  | _ :: _, [], q => by cases q
  | x :: xs, y :: ys, q => by
    rw [List.map_cons, List.map_cons] at q
    injection q with a b
    injection a with a
    rw [a, ints_inj xs ys b]
@[irreducible] def setOkI (xs : List Int) : Bool := decide ((ddp xs).length < 4000)
@[irreducible] def setOkT {α : Type} [DecidableEq α] (xs : List α) : Bool := decide ((ddp xs).length < 300)
theorem nod_len {α : Type} [DecidableEq α] {L xs : List α} (h : L.Nodup) (hs : ∀ x ∈ L, x ∈ xs) : L.length ≤ (ddp xs).length := nodup_len L (ddp xs) h fun x hx => mem_ddp.mpr (hs x hx)
section
variable {K : FK} {B : Bs} {Γ : List Sl} {te : TE} {w : World} {α : Type} [DecidableEq α] {e : α → DD} {xs : List α} {ns : List Int}
theorem S0.ghost {F : Fra} {σ : L2.St} {H G : Hp} {p : Addr} {o : HO} (z : S0 K B Γ F σ H G) (hp : H p = none) : S0 K B Γ F σ (upd H p o) G := z.step (T' := F.T) (Grow.free z.ex hp) fun q hq => z.tm q hq
theorem en_sortSetI (h : EvD K B te Γ (.list (ns.map .int))) (hk : setOkI ns = true) : EvND K B (tCB (rSortV K w) (tCons (tCB (rSetI' K w) (tCons te tNil)) tNil)) Γ ((unq PyData.int ns).map .int) := fun F σ H s Q k =>
  h F σ H s _ fun v d H1 ed s1 => by
    subst ed
    obtain ⟨G, z⟩ := s1
    obtain ⟨a, us, rfl, ha, hs⟩ := (z.tm (v, .list (ns.map .int)) (by simp)).lst_inv
    have hu := hs.ints
    subst hu
    unfold setOkI at hk
    have hk := of_decide_eq_true hk
    refine ⟨a, ns, rfl, SqL.of (z.ex _ _ ha), fun L h1 h2 => ?_, fun a2 ms hn nd hm => ?_⟩
    · have := nod_len h1 h2
      have e : scanBound = 4096 := rfl
      omega
    have z2 : S0 K B Γ F σ (upd H1 a2 (svO w a2 (ms.map V.int))) G := (z.ghost hn).drop fun p hp => by simp [hp]
    have hd : DaL K G (ms.map V.int) (ms.map .int) := DaL.ofInts ms
    refine ⟨a2, _, _, rfl, upd_same, (hd.mono z2.ex).dp (canAll sqI.ok ms), AllAlike.of sqI.al, sqI.so ms, fun d hd => ?_, fun p ps hp hnp => ?_⟩
    · obtain ⟨x, _, rfl⟩ := List.mem_map.mp hd
      exact sqI.dp x
    · have hps : (srtP ps).map (·.2) = (unq PyData.int ns).map .int := by
        have h1 : (srtP ps).map (·.2) = (ps.map (·.2)).mergeSort (dataLe false id) := List.map_mergeSort fun a _ b _ => rfl
        have h3 : (ps.map (·.2)).Perm (ms.map .int) := by
          have := hp.map (·.2)
          rw [zip_snd (by rw [List.length_map, List.length_map])] at this
          exact this
        obtain ⟨qs, hq1, hq2⟩ := perm_map_inv (f := PyData.int) (fun a b q => by injection q) h3
        have h2 : (srtT PyData.int qs).map PyData.int = (qs.map PyData.int).mergeSort (dataLe false id) := List.map_mergeSort fun a _ b _ => rfl
        rw [h1, hq1, ← h2, srt_perm so_int (hq2.trans (perm_ddp nd hm))]
        rfl
      have hda : DaL K G ((srtP ps).map (·.1)) ((unq PyData.int ns).map .int) := by
        rw [← hps]
        refine daL_pairs fun q hq => ?_
        unfold srtP at hq
        exact zip_da hd q (hp.mem_iff.mp ((List.mergeSort_perm _ _).mem_iff.mp hq))
      exact k p _ _ rfl (z2.notLent hnp) ⟨G, z2.newLst hnp hda⟩
/-- things that are tuples of whole numbers -/
structure Tn (e : α → DD) (x : α → List Int) : Prop where
  is : ∀ a, e a = .tuple ((x a).map .int)
  inj : ∀ a b, x a = x b → a = b
  ne : ∀ a, x a ≠ []
theorem Tn.so {x : α → List Int} (t : Tn e x) : So e := so_tup x t.inj t.is
theorem tupKeys {G H : Hp} {x : α → List Int} (t : Tn e x) (ex : Ex G H) : ∀ {vs : List V} {xs : List α}, DaL K G vs (xs.map e) → ∃ ks : List (Addr × List Int), vs = ks.map (fun p => V.ref p.1) ∧ ks.map (·.2) = xs.map x ∧ ∀ p ∈ ks, SqT K H p.1 (p.2.map V.int)
  | _, [], .nil => ⟨[], rfl, rfl, fun p hp => nomatch hp⟩
  | _, a :: xs, .cons h hs => by
    obtain ⟨ks, h1, h2, h3⟩ := tupKeys t ex hs
    rw [t.is a] at h
    obtain ⟨b, ys, rfl, hb, hy⟩ := h.tup_inv
    have e := hy.ints
    subst e
    refine ⟨(b, x a) :: ks, by rw [h1]; rfl, by rw [List.map_cons, List.map_cons, h2], fun p hp => ?_⟩
    rcases List.mem_cons.mp hp with z | z
    · rw [z]; exact ex_t ex hb
    · exact h3 p z
theorem sq_tn {x : α → List Int} (t : Tn e x) : Sq e := ⟨fun a b => by
    rw [t.is, t.is]
    show alikeAll _ _ = true
    exact PySem.W.alike_ints _ _, fun ys => Sortable.tuples fun b => by
    rw [t.is]
    cases h : x b with
    | nil => exact absurd h (t.ne b)
    | cons i r => exact ⟨_, _, rfl⟩, fun a => by
    have := (ok_tuple (n := 0) (ds := (x a).map PyData.int) fun d hd => by
      obtain ⟨i, _, rfl⟩ := List.mem_map.mp hd
      exact ok_int i).2
    rw [t.is]
    omega, fun a => by
    have := (ok_tuple (n := 0) (ds := (x a).map PyData.int) fun d hd => by
      obtain ⟨i, _, rfl⟩ := List.mem_map.mp hd
      exact ok_int i).1
    rw [t.is]
    exact this⟩
theorem pick_data {x : α → List Int} (t : Tn e x) {G : Hp} : ∀ {ks : List (Addr × List Int)} {xs : List α}, ks.map (·.2) = xs.map x → DaL K G (ks.map fun p => V.ref p.1) (xs.map e) → ∀ {L : List (Addr × List Int)}, (∀ p ∈ L, p ∈ ks) → ∃ ys : List α, L.map (·.2) = ys.map x ∧ (∀ y ∈ ys, y ∈ xs) ∧ DaL K G (L.map fun p => V.ref p.1) (ys.map e) := by
  intro ks xs hk hd L
  have one : ∀ {ks : List (Addr × List Int)} {xs : List α}, ks.map (·.2) = xs.map x → DaL K G (ks.map fun p => V.ref p.1) (xs.map e) → ∀ p ∈ ks, ∃ y ∈ xs, x y = p.2 ∧ Da K G (.ref p.1) (e y) := by
    intro ks
    induction ks with
    | nil => intro xs _ _ p hp; exact nomatch hp
    | cons q ks ih =>
      intro xs h1 h2 p hp
      cases xs with
      | nil => simp at h1
      | cons y ys =>
        rw [List.map_cons, List.map_cons] at h1
        injection h1 with e1 e2
        rw [List.map_cons, List.map_cons] at h2
        cases h2 with
        | cons d1 d2 =>
          rcases List.mem_cons.mp hp with z | z
          · subst z; exact ⟨y, by simp, e1.symm, d1⟩
          · obtain ⟨y', m, r⟩ := ih e2 d2 p z
            exact ⟨y', by simp [m], r⟩
  induction L with
  | nil => intro _; exact ⟨[], rfl, (fun y hy => nomatch hy), .nil⟩
  | cons p L ih =>
    intro hs
    obtain ⟨ys, h1, h2, h3⟩ := ih fun q hq => hs q (by simp [hq])
    obtain ⟨y, m, e1, e2⟩ := one hk hd p (hs p (by simp))
    refine ⟨y :: ys, by rw [List.map_cons, List.map_cons, h1, e1], fun z hz => ?_, .cons e2 h3⟩
    rcases List.mem_cons.mp hz with q | q
    · rw [q]; exact m
    · exact h2 z q
theorem en_sortSetT {x : α → List Int} (t : Tn e x) (h : EvD K B te Γ (.list (xs.map e))) (hk : setOkT xs = true) : EvND K B (tCB (rSortV K w) (tCons (tCB (rSetT' K w) (tCons te tNil)) tNil)) Γ ((unq e xs).map e) := fun F σ H s Q k =>
  h F σ H s _ fun v d H1 ed s1 => by
    subst ed
    obtain ⟨G, z⟩ := s1
    obtain ⟨a, us, rfl, ha, hs⟩ := (z.tm (v, .list (xs.map e)) (by simp)).lst_inv
    obtain ⟨ks, rfl, hk2, hk3⟩ := tupKeys t z.ex hs
    unfold setOkT at hk
    have hk := of_decide_eq_true hk
    refine ⟨a, ks, rfl, SqL.of (z.ex _ _ ha), hk3, fun M h1 h2 => ?_, fun a2 L hn hsub nd hall => ?_⟩
    · have e1 : (ddp ((ddp xs).map x)).length ≤ (ddp xs).length := by
        have := nodup_len (ddp ((ddp xs).map x)) ((ddp xs).map x) (nodup_ddp _) fun y hy => mem_ddp.mp hy
        rw [List.length_map] at this
        exact this
      have e2 := nod_len (xs := (ddp xs).map x) h1 fun y hy => by
        have := h2 y hy
        rw [hk2] at this
        obtain ⟨q, hq, rfl⟩ := List.mem_map.mp this
        exact List.mem_map.mpr ⟨q, mem_ddp.mpr hq, rfl⟩
      omega
    have z2 : S0 K B Γ F σ (upd H1 a2 (svO w a2 (L.map fun p => V.ref p.1))) G := (z.ghost hn).drop fun p hp => by simp [hp]
    obtain ⟨ys, y1, y2, hd⟩ := pick_data t hk2 hs hsub
    have ynd : ys.Nodup := by
      rw [y1] at nd
      exact List.Pairwise.of_map x (fun _ _ hne e => hne (congrArg x e)) nd
    have ymem : ∀ y, y ∈ ys ↔ y ∈ xs := fun y => ⟨y2 y, fun hy => by
      have h1 : x y ∈ ks.map (·.2) := by rw [hk2]; exact List.mem_map.mpr ⟨y, hy, rfl⟩
      obtain ⟨p, hp, e1⟩ := List.mem_map.mp h1
      have h2 := hall p hp
      rw [y1, e1] at h2
      obtain ⟨y', hy', e2⟩ := List.mem_map.mp h2
      rw [← t.inj _ _ e2]; exact hy'⟩
    have sq := sq_tn t
    refine ⟨a2, _, _, rfl, upd_same, (hd.mono z2.ex).dp (canAll sq.ok ys), AllAlike.of sq.al, sq.so ys, fun d hd => ?_, fun p ps hp hnp => ?_⟩
    · obtain ⟨x', _, rfl⟩ := List.mem_map.mp hd
      exact sq.dp x'
    · have einj : ∀ a b, e a = e b → a = b := fun a b q => by
        rw [t.is, t.is] at q
        injection q with q
        refine t.inj _ _ ?_
        exact ints_inj _ _ q
      have hps : (srtP ps).map (·.2) = (unq e xs).map e := by
        have h1 : (srtP ps).map (·.2) = (ps.map (·.2)).mergeSort (dataLe false id) := List.map_mergeSort fun a _ b _ => rfl
        have h3 : (ps.map (·.2)).Perm (ys.map e) := by
          have := hp.map (·.2)
          rw [zip_snd hd.length] at this
          exact this
        obtain ⟨qs, hq1, hq2⟩ := perm_map_inv einj h3
        have h2 : (srtT e qs).map e = (qs.map e).mergeSort (dataLe false id) := List.map_mergeSort fun a _ b _ => rfl
        rw [h1, hq1, ← h2, srt_perm t.so (hq2.trans (perm_ddp ynd ymem))]
        rfl
      have hda : DaL K G ((srtP ps).map (·.1)) ((unq e xs).map e) := by
        rw [← hps]
        refine daL_pairs fun q hq => ?_
        unfold srtP at hq
        exact zip_da hd q (hp.mem_iff.mp ((List.mergeSort_perm _ _).mem_iff.mp hq))
      exact k p _ _ rfl (z2.notLent hnp) ⟨G, z2.newLst hnp hda⟩
end
end Ly

set_option maxHeartbeats 1000000
namespace Ly
open PySem PySem.Spec PyProof.Rows L2
def mergeV (kvs : KVs) : List (Int × V) → KVs
  | [] => kvs
  | p :: r => mergeV (putV kvs (.num p.1) (.int p.1) p.2) r
def mergA {β : Type} (l : List (Int × β)) : List (Int × β) → List (Int × β)
  | [] => l
  | p :: r => mergA (putA l p.1 p.2) r
abbrev inK (ys : List (Int × Value)) : List (Key × Value) := ys.map fun y => (Sum.inl y.1, y.2)
theorem inK_stored (ys : List (Int × Value)) (i : Int) (u : Value) : stored (inK ys) (Sum.inl i) u = inK (stored ys i u) := by
  unfold stored inK
  have hany : ((ys.map fun y => ((Sum.inl y.1 : Key), y.2)).any fun kv => decide (kv.1 = Sum.inl i)) = ys.any fun kv => decide (kv.1 = i) := by
    rw [List.any_map]
    congr 1
    funext y
    simp
  rw [hany]
  cases ys.any fun kv => decide (kv.1 = i) with
  | true =>
    simp only [if_true, List.map_map]
    refine List.map_congr_left fun y _ => ?_
    simp only [Function.comp]
    by_cases e : y.1 = i
    · simp [e]
    · simp [e]
  | false => simp
def mergI (ys : List (Int × Value)) : List (Int × Value) → List (Int × Value)
  | [] => ys
  | p :: r => mergI (stored ys p.1 p.2) r
theorem merged_inK : ∀ (rs ys : List (Int × Value)), merged (inK ys) (inK rs) = inK (mergI ys rs)
  | [], ys => rfl
  | p :: r, ys => by
    show merged (stored (inK ys) (Sum.inl p.1) p.2) (inK r) = _
    rw [inK_stored, merged_inK r]
    rfl
theorem merg_rel : ∀ {kvs : List (Int × V)} {rs : List (Int × Value)}, Paired (fun (p : Int × V) q => p.1 = q.1 ∧ RelV p.2 q.2) kvs rs → ∀ {l : KVs} {m : List (Int × Value)}, Paired RelI l m → Paired RelI (mergeV l kvs) (mergI m rs)
  | _, _, .nil, _, _, h => h
  | _, _, .cons (a := p) (b := q) r t, l, m, h => by
    unfold mergeV mergI
    rw [r.1]
    exact merg_rel t (di_put r.2 h)
theorem mergeV_len : ∀ (kvs : List (Int × V)) (l : KVs), (mergeV l kvs).length ≤ l.length + kvs.length
  | [], l => Nat.le_refl _
  | p :: r, l => by
    unfold mergeV
    have h1 := mergeV_len r (putV l (.num p.1) (.int p.1) p.2)
    have h2 := putV_len l (.num p.1) (.int p.1) p.2
    rw [List.length_cons]
    omega
theorem mix_pairs {P : Program} {w : World} : ∀ {l : List DictEntry} {ys : List (Int × Value)}, Pairs (mixKind P w) l (inK ys) → Pairs (intKind P w) l ys ∧ ∀ e ∈ l, ∃ i t, e.key = Value.int i t
  | [], [], .nil => ⟨.nil, fun e he => nomatch he⟩
  | e :: l, y :: ys, .cons h1 h2 h3 => by
    obtain ⟨q1, q2⟩ := mix_pairs h3
    have h1' : keyIs (Sum.inl y.1) e.key = true := h1
    obtain ⟨i, t, e1, e2⟩ : ∃ i t, (Sum.inl y.1 : Key) = Sum.inl i ∧ e.key = Value.int i t := by
      rcases keyIs_shape h1' with ⟨i, t, a, b⟩ | ⟨x, t, a, b⟩
      · exact ⟨i, t, a, b⟩
      · cases a
    injection e1 with e1
    refine ⟨.cons ?_ h2 q1, fun e' he => ?_⟩
    · show Value.isInt y.1 e.key = true
      rw [e2, e1]; simp [Value.isInt]
    · rcases List.mem_cons.mp he with z | z
      · rw [z]; exact ⟨i, t, e2⟩
      · exact q2 e' z
theorem mix_int {P : Program} {w : World} {h : Heap} {a : Addr} {ys : List (Int × Value)} (d : h.DictOf (mixKind P w) a (inK ys)) : h.DictOf (intKind P w) a ys := by
  obtain ⟨o, es, ep, h1, h2, h3, h4, h5, h6⟩ := d
  obtain ⟨q1, q2⟩ := mix_pairs h5
  refine ⟨o, es, ep, h1, h2, h3, fun e he => ?_, q1, ?_⟩
  · obtain ⟨i, t, e1⟩ := q2 e (Array.mem_toList_iff.mpr he)
    obtain ⟨k, k1, k2⟩ := h4 e he
    have k1' : keyIs k e.key = true := k1
    rw [e1] at k1'
    rcases keyIs_shape k1' with ⟨j, t', a1, b1⟩ | ⟨x, t', a1, b1⟩
    · injection b1 with b1
      subst a1
      refine ⟨j, ?_, k2⟩
      show Value.isInt j e.key = true
      rw [e1, b1]; simp [Value.isInt]
    · cases b1
  · have : (inK ys).map (·.1) = (ys.map (·.1)).map Sum.inl := by rw [List.map_map, List.map_map]; rfl
    rw [this] at h6
    exact List.Pairwise.of_map _ (fun _ _ hne e => hne (congrArg _ e)) h6
def rDictI (K : FK) : List V → Hp → VK → Prop := fun xs H Q => ∃ (a : Addr) (ps : List Addr) (kvs : List (Int × V)), xs = [.ref a] ∧ SqL K H a (ps.map V.ref) ∧ Paired (fun p (kv : Int × V) => SqT K H p [.int kv.1, kv.2]) ps kvs ∧ ∀ p ep, H p = none → Q (.ref p) (upd H p (ddO p ep (mergeV [] kvs)))
theorem kv_inl {X : Cx} {H : Hp} : ∀ {ps : List Addr} {kvs : List (Int × V)}, Paired (fun p (kv : Int × V) => SqT X.K H p [.int kv.1, kv.2]) ps kvs → Paired (fun p (kv : Key × V) => SqT X.K H p [kV kv.1, kv.2]) ps (kvs.map fun y => (Sum.inl y.1, y.2))
  | _, _, .nil => .nil
  | _, _, .cons r t => .cons r (kv_inl t)
theorem kv_back : ∀ {kvs : List (Int × V)} {prs : List (Key × Value)}, KV (kvs.map fun y => ((Sum.inl y.1 : Key), y.2)) prs → ∃ rs : List (Int × Value), prs = inK rs ∧ Paired (fun (p : Int × V) q => p.1 = q.1 ∧ RelV p.2 q.2) kvs rs
  | [], _, .nil => ⟨[], rfl, .nil⟩
  | y :: kvs, _, .cons (b := q) r t => by
    obtain ⟨rs, e, h⟩ := kv_back t
    obtain ⟨r1, r2⟩ := r
    refine ⟨(y.1, q.2) :: rs, ?_, .cons ⟨rfl, r2⟩ h⟩
    rw [e]
    show q :: _ = (Sum.inl y.1, q.2) :: _
    congr 1
    exact Prod.ext r1.symm rfl
theorem cr_dictI {X : Cx} (hc : X.calm = true) : CallR X (.type "dict") (rDictI X.K) := by
  intro pins s σ H xs us Q I r h
  obtain ⟨a, ps, kvs, rfl, hq, hp, q⟩ := h
  rw [Vals.ref1 r]
  obtain ⟨its, rv, pl, hz⟩ := I.list hq
  have ei := refs_at rv
  subst ei
  rw [List.length_map] at hz
  obtain ⟨prs, rel, hl, hpr⟩ := pairs_of I (kv_inl hp)
  obtain ⟨rs, rfl, rel2⟩ := kv_back rel
  obtain ⟨ob, n, ho, hcl, hd, hdat⟩ := pl
  refine call_dict_pairs (prs := inK rs) (I.ok.hd hc) ho hcl hd hdat (by simp [← hl]) (by rw [hl]; exact hz) (fun j y ey => ?_) fun h2 tk dd kp => ?_
  · obtain ⟨b, u, e1, e2, e3⟩ := hpr j y ey
    exact ⟨b, u, by simp [e1], e2, e3⟩
  · have hm : (s.heap.objs.size == sysModules) = false := beq_eq_false_iff_ne.mpr (Nat.ne_of_gt I.big)
    have dd' : h2.DictOf (intKind X.prog X.w) s.heap.objs.size (mergI [] rs) := mix_int (by rw [← merged_inK]; exact dd)
    have hln : (mergeV [] kvs).length ≤ sizeLine := by
      have h1 := mergeV_len kvs []
      have h3 : kvs.length = rs.length := Paired.length rel2
      have h4 : (inK rs).length = rs.length := by simp
      rw [List.length_nil] at h1
      omega
    obtain ⟨ep, raw⟩ := raw_ofI hln hm (merg_rel rel2 .nil) dd'
    exact ⟨.ref s.heap.objs.size, _, I.laid (t' := tk) kp (Nat.le_refl _) (ddO_ok raw), rfl, q _ ep (I.hok.fresh (Nat.le_refl _))⟩
section
variable {K : FK} {B : Bs} {Γ : List Sl} {te td : TE} {β : Type} {ev : β → DD} {ps : List (Int × β)}
theorem pairsA {G H : Hp} (ex : Ex G H) : ∀ {vs : List V} {ps : List (Int × β)}, DaL K G vs (ps.map (e2 PyData.int ev)) → ∃ (as : List Addr) (kvs : List (Int × V)), vs = as.map V.ref ∧ Paired (fun p (kv : Int × V) => SqT K H p [.int kv.1, kv.2]) as kvs ∧ Paired (fun (kv : Int × V) (p : Int × β) => kv.1 = p.1 ∧ Da K G kv.2 (ev p.2)) kvs ps
  | _, [], .nil => ⟨[], [], rfl, .nil, .nil⟩
  | _, p :: ps, .cons h hs => by
    obtain ⟨as, kvs, h1, h2, h3⟩ := pairsA ex hs
    obtain ⟨a, ys, rfl, ha, hy⟩ := Da.tup_inv (show Da K G _ (.tuple [.int p.1, ev p.2]) from h)
    obtain ⟨u, v, rfl, hu, hv⟩ := daL2 hy
    have e := hu.int_inv
    subst e
    exact ⟨a :: as, (p.1, v) :: kvs, by rw [h1]; rfl, .cons (ex_t ex ha) h2, .cons ⟨rfl, hv⟩ h3⟩
theorem merge_dn {G : Hp} : ∀ {kvs : List (Int × V)} {ps : List (Int × β)}, Paired (fun (kv : Int × V) (p : Int × β) => kv.1 = p.1 ∧ Da K G kv.2 (ev p.2)) kvs ps → ∀ {l : KVs} {m : List (Int × β)}, DnOk K G l (kdsI ev m) → DnOk K G (mergeV l kvs) (kdsI ev (mergA m ps))
  | _, _, .nil, _, _, h => h
  | _, _, .cons (a := a) (b := b) r t, l, m, h => by
    unfold mergeV mergA
    rw [r.1]
    refine merge_dn t ?_
    have := h.put (k := .num b.1) (u := .int b.1) (.int b.1) (by simp [NestedKey.depth]) r.2
    rw [put_kds kcI] at this
    exact this
theorem er_dictI (h : EvD K B te Γ (.list (ps.map (e2 PyData.int ev)))) : EvR K B (tCB (rDictI K) (tCons te tNil)) Γ (fun v r => ∃ p, v = .ref p ∧ p ∉ B.L ∧ r = dnR p (kdsI ev (mergA [] ps))) := fun F σ H s Q k =>
  h F σ H s _ fun v d H1 ed s1 => by
    subst ed
    obtain ⟨G, z⟩ := s1
    obtain ⟨a, us, rfl, ha, hs⟩ := (z.tm (v, .list (ps.map (e2 PyData.int ev))) (by simp)).lst_inv
    obtain ⟨as, kvs, rfl, h2, h3⟩ := pairsA z.ex hs
    refine ⟨a, as, kvs, rfl, SqL.of (z.ex _ _ ha), h2, fun p ep hp => ?_⟩
    have z2 := z.newRes (r := dnR p (kdsI ev (mergA [] ps))) (v := .ref p) (Grow.free (o := ddO p ep (mergeV [] kvs)) z.ex hp) ⟨rfl, ep, _, upd_same, merge_dn h3 (m := []) .nil⟩ fun b hb => by
      have e : b = p := by simpa [dnR] using hb
      rw [e]; exact hp
    exact k _ _ _ ⟨p, rfl, z.notLent hp, rfl⟩ ⟨G, z2.drop fun q hq => by simp [hq]⟩
end
def viewO (r d : Addr) : HO := .ext fun h => h.IsValuesView r d
theorem viewO_ok {P : Program} {w : World} {H : Hp} {h : Heap} {r d : Addr} (x : h.IsValuesView r d) : ObjOk P w H h r (viewO r d) := by
  obtain ⟨o, h1, h2⟩ := id x
  exact ⟨x, ⟨o, h1⟩, fun k1 k2 ⟨o, q1, q2⟩ k => ⟨o, k o q1, q2⟩⟩
theorem dictRaw {h : Heap} {a : Addr} {ep : Nat} {kvs : KVs} {o : Obj} {es : Array DictEntry} (R : RawAt h a ep kvs o es) : h.DictRaw a es ep := ⟨o, R.at_, R.ex, R.dt⟩
def tVals (td : TE) : TE := fun σ H Q => td σ H fun x H1 => ∃ d ep kvs, x = .ref d ∧ H1 d = some (ddO d ep kvs) ∧ ∀ r, H1 r = none → Q (.ref r) (upd H1 r (viewO r d))
theorem pe_values {X : Cx} {e : Expr} {td : TE} {apos cpos : Pos} (he : PE X e td) (hbase : attributeBase e "values" X.env (eval e X.env) = eval e X.env := by rfl) (hline : (apos.endLine == cpos.line) = true := by rfl) : PE X (.Call (.Attribute e "values" apos) [] [] cpos) (tVals td) := by
  refine ⟨fun pins s σ H Q I h => ?_⟩
  refine wpAny_Call_method (T := "dict") (id := "dict.values") hbase rfl hline F.plainAttrs_dict F.slot_dict_values F.type_dict_values (thn (he.run pins s σ H _ I h) fun u s1 ⟨x, H1, I1, rx, d, ep, kvs, ex, hd, q⟩ => ?_)
  subst ex
  obtain rfl : u = Value.ref d := rx
  obtain ⟨ob, es, R⟩ := rawAt (I1.hok d _ hd).1
  have hm := dictRaw R
  refine ⟨hm.typeIs, fun b e => ?_, ?_⟩
  · cases e
    exact ⟨ob, R.at_, R.ex.2.1⟩
  show wpAny _ _ (callWith cpos (.builtin "dict.values") [.ref d] [] []) _ X.xe s1
  refine method_meetsIn F.slot_dict_values F.entry_dict_values rfl (PySem.evalArgs_none ⟨rfl, hm.typeIs, F.args_dict_values_1 _, _, PySem.meets_dict_values_raw d R.sm, ⟨es, ep, hm⟩, ?_⟩)
  exact ⟨.ref s1.heap.objs.size, _, I1.laid (t' := s1.toks) (fun b ob q => Heap.get?_push_of_some _ q) (Nat.le_refl _) (viewO_ok ⟨_, Heap.get?_push_size _ rfl, rfl, rfl⟩), rfl, q _ (I1.hok.fresh (Nat.le_refl _))⟩
def rSumV : List V → Hp → VK → Prop := fun xs H Q => ∃ (r d : Addr) (ep : Nat) (kvs : KVs) (ns : List Int), xs = [.ref r] ∧ H r = some (viewO r d) ∧ H d = some (ddO d ep kvs) ∧ kvs.map (fun x => x.2.2) = ns.map V.int ∧ Q (.int ns.sum) H
theorem preSum_list : ∀ ns : List Int, preSum (fun i => ns.getD i 0) ns.length = ns.sum
  | [] => rfl
  | n :: ns => by
    have h : ∀ (f : Nat → Int) (k : Nat), preSum f (k + 1) = f 0 + preSum (fun i => f (i + 1)) k := fun f k => PySem.W.kdu_shift f k
    show preSum _ (ns.length + 1) = _
    rw [h, List.sum_cons]
    have e := preSum_list ns
    simp only [List.getD_cons_zero, List.getD_cons_succ]
    rw [e]
theorem cr_sumV {X : Cx} (hc : X.calm = true) : CallR X (.builtin "sum") rSumV := by
  intro pins s σ H xs us Q I r h
  obtain ⟨v, d, ep, kvs, ns, rfl, hv, hd, hn, q⟩ := h
  rw [Vals.ref1 r]
  obtain ⟨ob, es, R⟩ := rawAt (I.hok d _ hd).1
  have hw : s.heap.IsValuesView v d := (I.hok v _ hv).1
  have K := PySem.KdlSrc.rawValues (prog := X.prog) (w := X.w) (r := v) (d := d) (es := es) (ep := ep)
  have hok : s.heap.IsValuesView v d ∧ s.heap.DictRaw d es ep := ⟨hw, dictRaw R⟩
  have hln : ns.length = es.size := by
    have := congrArg List.length hn
    rw [List.length_map, List.length_map] at this
    rw [R.sz, this]
  refine call_sum_walkAnyS ?_
  obtain ⟨oI, St, hit, W, st⟩ := K.iter X.A.in1 s (I.ok.hd hc) hok
  refine hit _ _ ⟨s.heap.objs.size, _, _, _, es.size, _, _, fun i => ns.getD i 0, rfl, W.toS, st, fun b hb => ?_, fun i u hu => ?_, fun s2 t mv => ?_⟩
  · show b < (s.heap.push oI).objs.size
    rw [size_push']
    rcases List.mem_cons.mp hb with z | z
    · rw [z]; exact Nat.lt_succ_self _
    · rw [List.mem_singleton.mp z]; exact Nat.lt_succ_of_lt (K.there _ hok).2
  · obtain ⟨hi, rfl⟩ := hu
    have hi2 : i < kvs.length := by rw [← R.sz]; exact hi
    obtain ⟨e, e1, e2, e3⟩ := R.en i kvs[i].1 kvs[i].2.1 kvs[i].2.2 (List.getElem?_eq_getElem hi2)
    have e4 : es[i]? = some es[i] := Array.getElem?_eq_getElem hi
    rw [e4] at e1
    cases e1
    have e5 : (kvs.map fun x => x.2.2)[i]? = some kvs[i].2.2 := by rw [List.getElem?_map, List.getElem?_eq_getElem hi2]; rfl
    rw [hn, List.getElem?_map] at e5
    cases e6 : ns[i]? with
    | none => rw [e6] at e5; cases e5
    | some n =>
      rw [e6] at e5
      have e7 : kvs[i].2.2 = V.int n := (Option.some.inj e5).symm
      rw [e7] at e3
      obtain ⟨tk, e8⟩ := e3
      exact ⟨tk, by rw [e8]; show _ = Value.int (ns.getD i 0) tk; rw [List.getD_eq_getElem?_getD, e6]; rfl⟩
  · have kp : ∀ b o, s.heap.get? b = some o → s2.heap.get? b = some o := fun b o e => mv.heap b o (fun z => absurd (Heap.lt_size e) (by rw [List.mem_singleton.mp z]; exact Nat.lt_irrefl _)) (Heap.get?_push_of_some _ e)
    rw [Moved.eq_with mv, ← hln, preSum_list]
    exact ⟨.int ns.sum, H, I.kept kp, ⟨t, rfl⟩, q⟩
section
variable {K : FK} {B : Bs} {Γ : List Sl} {te td : TE} {κ : Type} [DecidableEq κ] {nk : κ → NK} {ek : κ → DD} {l : List (κ × Int)} {n : Nat}
theorem DnOk.ints {G : Hp} : ∀ {kvs : KVs} {l : List (κ × Int)}, DnOk K G kvs (kdsOf nk PyData.int l) → kvs.map (fun x => x.2.2) = (l.map (·.2)).map V.int
  | _, [], .nil => rfl
  | _, a :: l, .cons h1 h2 h3 t => by
    have e := h3.int_inv
    subst e
    rw [List.map_cons, List.map_cons, List.map_cons, DnOk.ints t]
theorem ev_sumV (hd : EvDc K B td Γ (kdsOf nk PyData.int l)) : EvD K B (tCB rSumV (tCons (tVals td) tNil)) Γ (.int (l.map (·.2)).sum) := fun F σ H s Q q =>
  hd F σ H s _ fun p T0 H1 at0 s1 => by
    obtain ⟨G, z⟩ := id s1
    obtain ⟨ep, kvs, hp, hk⟩ := at0 _ _ _ _ z (fun q hq => by simp [hq])
    refine ⟨p, ep, kvs, rfl, hp, fun r hr => ?_⟩
    have hpr : p ≠ r := fun e => by rw [e, hr] at hp; cases hp
    refine ⟨r, p, ep, kvs, _, rfl, upd_same, by rw [upd_ne hpr]; exact hp, hk.ints, ?_⟩
    refine q _ _ _ rfl (S.c ⟨G, ?_⟩ fun _ => .int _)
    exact (z.ghost hr).drop fun q hq => by simp [hq]
end
def rEqE (neg : Bool) : R2 := fun x y H Q => ∃ a b ep kvs ep', x = .ref a ∧ y = .ref b ∧ H a = some (ddO a ep kvs) ∧ H b = some (ddO b ep' []) ∧ Q (.bl (if neg then !kvs.isEmpty else kvs.isEmpty)) H
theorem rc_empty {P : Program} {w : World} {A : Around} {s : Shared} {a b : Addr} {es : Array DictEntry} {ep ep' : Nat} (ha : (a == sysModules) = false) (hb : (b == sysModules) = false) (da : s.heap.DictRaw a es ep) (db : s.heap.DictRaw b #[] ep') (hu : A.units < cLine) (E Q : Value → Shared → Prop) (h : Q (.bool (es.size == 0)) s) : wpAny (model P w) A (richCompare .Eq (.ref a) (.ref b)) Q E s := by
  refine wpAny_richCompare_same_room (op := .Eq) da.typeIs db.typeIs PySem.F.slot_dict_eq (wpAny_call_entry PySem.F.slot_dict_eq da.typeIs PySem.F.entry_dict_eq ?_ (PySem.F.args_dict_eq_2 _ _)) hu
  show wpAny _ _ (Builtin.Dict.dictSlotArgs "__eq__" ⟨[.ref a, .ref b], []⟩ >>= _) _ _ s
  refine wpAny_bind ?_
  unfold Builtin.Dict.dictSlotArgs
  refine wpAny_bind (wpAny_notOrdered_dict da.typeIs ?_)
  show wpAny _ _ (pure (Value.ref a, Value.ref b)) _ _ s
  refine wpAny_pure ?_
  refine wpAny_bind (wpAny_isInstance (T := "dict") db.typeIs PySem.F.sub_dict_dict ?_)
  simp only [Bool.not_true, Bool.false_eq_true, if_false]
  refine wpAny_bind (wpAny_pure (wpAny_bind (wpAny_pure ?_)))
  have key : ∀ (Q2 : Bool → Shared → Prop) (E2 : Value → Shared → Prop) (A2 : Around) (nm : String), Q2 (es.size == 0) s → wpAny (model P w) A2 (Builtin.Dict.samePairs nm a b) Q2 E2 s := by
    intro Q2 E2 A2 nm hq
    obtain ⟨oa, hoa, _, hda⟩ := da
    obtain ⟨ob, hob, _, hdb⟩ := db
    unfold Builtin.Dict.samePairs Builtin.Dict.showsAll
    rw [if_neg (show ¬ (a == sysModules) = true by rw [ha]; exact Bool.false_ne_true), if_neg (show ¬ (b == sysModules) = true by rw [hb]; exact Bool.false_ne_true)]
    refine wpAny_bind (wpAny_pure (wpAny_bind (wpAny_pure ?_)))
    refine wpAny_bind (wpAny_dictEntries hoa hda ?_)
    dsimp only
    refine wpAny_bind (wpAny_dictEntries hob hdb ?_)
    by_cases hsz : es.size = 0
    · have e0 : es = #[] := Array.size_eq_zero_iff.mp hsz
      subst e0
      rw [if_neg (by simp)]
      refine wpAny_bind (wpAny_dictEpoch hoa hda ?_)
      refine wpAny_bind ?_
      rw [Std.Legacy.Range.forIn_eq_forIn_range']
      simp only [Std.Legacy.Range.size, Nat.sub_zero, Nat.add_sub_cancel, Nat.div_one]
      refine wpAny_forIn_list _ (fun rest q s' => s' = s ∧ q = (none, ()) ∧ rest = []) _ ?_ ?_ _ _ ⟨rfl, rfl, by simp⟩
      · rintro x rest q s' ⟨_, _, e⟩
        cases e
      · rintro q s' ⟨rfl, rfl, _⟩
        exact wpAny_pure hq
    · rw [if_pos (by simpa using hsz)]
      have e : (es.size == 0) = false := by simpa using hsz
      rw [e] at hq
      exact wpAny_bind (wpAny_rule (wpAny_pure hq))
  refine wpAny_bind (key _ _ _ _ ?_)
  refine wpAny_pure ⟨_, rfl, ?_, ?_⟩
  · exact fun x => nomatch x
  · simpa using h
theorem op_eqE {X : Cx} {n : Nat} (hr : Room n X.A) : OpR X (compareOp .Eq) (rEqE false) := by
  intro pins s σ H x y v u Q I rx ry h
  obtain ⟨a, b, ep, kvs, ep', rfl, rfl, ea, eb, q⟩ := h
  obtain rfl : v = Value.ref a := rx
  obtain rfl : u = Value.ref b := ry
  obtain ⟨oa, es, RA⟩ := rawAt (I.hok a _ ea).1
  obtain ⟨ob, es', RB⟩ := rawAt (I.hok b _ eb).1
  have e0 : es' = #[] := Array.size_eq_zero_iff.mp RB.sz
  subst e0
  have hu : X.A.units + 65 < cLine := by have := hr.un; omega
  refine rc_empty RA.sm RB.sm (dictRaw RA) (dictRaw RB) (by omega) _ _ ?_
  have e : (es.size == 0) = kvs.isEmpty := by
    rw [RA.sz]
    cases kvs <;> rfl
  rw [e]
  exact ⟨.bl kvs.isEmpty, H, I, rfl, q⟩
section
variable {K : FK} {B : Bs} {Γ : List Sl} {te td : TE} {κ β : Type} [DecidableEq κ] {nk : κ → NK} {ev : β → DD} {l : List (κ × β)}
theorem et_eqE (hd : EvDc K B td Γ (kdsOf nk ev l)) : EvD K B (tOp (rEqE false) td tNewN) Γ (.bool l.isEmpty) := fun F σ H s Q q =>
  hd F σ H s _ fun p T0 H1 at0 s1 r hr => by
    obtain ⟨G, z⟩ := id s1
    obtain ⟨ep, kvs, hp, hk⟩ := at0 _ _ _ _ z (fun q hq => by simp [hq])
    have hpr : p ≠ r := fun e => by rw [e, hr] at hp; cases hp
    refine ⟨p, r, ep, kvs, 0, rfl, rfl, by rw [upd_ne hpr]; exact hp, upd_same, ?_⟩
    have e : kvs.isEmpty = l.isEmpty := by
      have h1 := hk.len
      rw [List.length_map] at h1
      cases kvs <;> cases l <;> simp at h1 <;> rfl
    refine q _ _ _ rfl ?_
    show S K B Γ (F.dat (.bl kvs.isEmpty) (.bool l.isEmpty)) σ _
    rw [e]
    exact S.c ⟨G, (z.ghost hr).drop fun q hq => by simp [hq]⟩ fun _ => .bl _
end
end Ly

set_option maxHeartbeats 1000000
namespace Ly
open PySem PySem.Spec PyProof.Rows L2
section
variable {K : FK} {B : Bs} {Γ Γ' : List Sl} {F : Fra} {D : Ends} {C p q : Addr} {fds fds' : Fds} {f : Str} {j : Nat} {te tb td tk tv : TE} {d : DD} {ds : List DD}
variable {κ β : Type} [DecidableEq κ] {nk : κ → NK} {ek : κ → DD} {ev : β → DD} {l m : List (κ × β)} {x : κ} {y : β} {n : Nat} {kds : List (NK × DD)}
/-- e.f, a dict of the object's own -/
theorem edc_fld (hj : Γ[j]? = some (.own (objR C p fds))) (hc : Cls K C) (hn : NoAttr K C f) (hf : getF fds f = some (.dct q kds)) : EvDc K B (tFld K (tVar j) f) Γ kds := fun F σ H s Q k => by
  obtain ⟨G, z⟩ := id s
  refine fld_at hj hc hn hf z fun v h => ?_
  obtain ⟨rfl, _⟩ := h
  refine k q [] H (fun F2 σ2 H2 G2 z2 _ => ?_) s
  obtain ⟨v2, _, h2⟩ := fld_cell hj hf z2
  exact h2
theorem S0.fldPutD {F : Fra} {σ : L2.St} {H G : Hp} {ep : Nat} {kvs : KVs} {kds' : List (NK × DD)} {T' : List (V × DD)} (z : S0 K B Γ F σ H G) (hj : Γ[j]? = some (.own (objR C p fds))) (hf : getF fds f = some (.dct q kds)) (hd : DnOk K G kvs kds') (ht : ∀ x ∈ T', Da K G x.1 x.2) :
    S0 K B (Γ.set j (.own (objR C p (setF fds f (.dct q kds'))))) ⟨T', F.X⟩ σ (upd H q (ddO q ep kvs)) G := by
  obtain ⟨v, hv, e, nd, dx, fs, hp, hfs⟩ := z.own hj
  subst e
  have hqm : q ∈ fAs fds := getF_mem hf q (by simp [Fd.as])
  have hm : q ∈ ownAt Γ F j := by rw [ownAt_slot hj]; exact List.mem_cons_of_mem _ hqm
  have hg : G q = none := (z.mine j q hm).1
  have nd' := List.nodup_cons.mp nd
  have has : fAs (setF fds f (.dct q kds')) = fAs fds := setF_as (x := .dct q kds) (y := .dct q kds') rfl hf
  refine z.updOwn (r' := objR C p (setF fds f (.dct q kds'))) hj (Grow.put (o := ddO q ep kvs) z.ex hg (List.mem_cons_of_mem _ hqm)) (by show p :: fAs _ = p :: fAs _; rw [has]) hv ⟨rfl, by rw [has]; exact nd, dx, fs, ?_, ?_⟩ ht
  · rw [upd_ne]
    · exact hp
    · intro e
      exact nd'.1 (e ▸ hqm)
  · exact hfs.put (x := .dct q kds) (y := .dct q kds') rfl rfl ⟨rfl, ep, kvs, upd_same, hd⟩ (fun v h => h.1) hf nd'.2
theorem nx_fldPutN (h : Kc nk ek n) (ht : IsTup nk) (hj : Γ[j]? = some (.own (objR C p fds))) (hc : Cls K C) (hn' : NoAttr K C f) (hf : getF fds f = some (.dct q (kdsOf nk ev l))) (hy : EvD K B tv Γ (ev y)) (hx : EvD K B tk Γ (ek x)) (hz : szLt l.length = true) (hs : setF fds f (.dct q (kdsOf nk ev (putA l x y))) = fds') (k : Nx K B D.nx (Γ.set j (.own (objR C p fds'))) F) (hn : n ≤ 8 := by decide) :
    Nx K B (tAsg tv (gSub (tFld K (tVar j) f) tk (rSetN K)) D) Γ F := fun σ H s => by
  subst hs
  refine hy F σ H s _ fun v1 d1 H1 e1 s1 => ?_
  subst e1
  obtain ⟨G1, z1⟩ := id s1
  refine fld_at hj hc hn' hf z1 fun v0 h0 => ?_
  obtain ⟨rfl, _⟩ := h0
  refine hx _ σ H1 s1 _ fun u d H2 e s2 => ?_
  subst e
  obtain ⟨G, z⟩ := s2
  obtain ⟨_, _, ep, kvs, hp, hk⟩ := fld_cell hj hf z
  obtain ⟨a, rfl, ha⟩ := h.ref ht (z.tm (u, ek x) (by simp))
  have hd : (nk x).depth ≤ 8 := Nat.le_trans (h.dep x) hn
  refine ⟨q, a, nk x, ep, kvs, _, G, rfl, rfl, ⟨z.ex, hp, hk, ht.all l, ha, hd, h.pl x⟩, sz_lt (by rw [hk.len, List.length_map]; exact szLt_of hz), fun ep' => ?_⟩
  have ok' := hk.put ha hd (z.tm (v1, ev y) (by simp))
  rw [put_kds h] at ok'
  exact k _ _ ⟨G, z.fldPutD hj hf ok' fun x hx => z.tm x (by simp [hx])⟩
variable {r r' : Res}
theorem S0.redesc {σ : L2.St} {H G : Hp} (z : S0 K B Γ F σ H G) (hj : Γ[j]? = some (.own r)) (ha : r'.as = r.as) (hk : ∀ v, r.ok K G v H → r'.ok K G v H) : S0 K B (Γ.set j (.own r')) F σ H G := by
  obtain ⟨v, hv, ok⟩ := z.own hj
  exact z.updOwn (r' := r') (T' := F.T) hj (Grow.refl z.ex) ha hv (hk v ok) fun x hx => z.tm x hx
theorem nx_hide {nx : L2.St → Hp → Prop} (j : Nat) (hj : Γ[j]? = some (.own r)) (ha : r'.as = r.as) (hk : ∀ G v H, r.ok K G v H → r'.ok K G v H) (k : Nx K B nx (Γ.set j (.own r')) F) : Nx K B nx Γ F := fun σ H ⟨G, z⟩ => k σ H ⟨G, z.redesc hj ha fun v h => hk G v H h⟩
theorem nx_show {nx : L2.St → Hp → Prop} {γ : Type} {rr : γ → Res} {P : γ → Prop} (j : Nat) (hj : Γ[j]? = some (.own r)) (ha : ∀ c, (rr c).as = r.as) (hk : ∀ G v H, r.ok K G v H → ∃ c, P c ∧ (rr c).ok K G v H) (k : ∀ c, P c → Nx K B nx (Γ.set j (.own (rr c))) F) : Nx K B nx Γ F := fun σ H ⟨G, z⟩ => by
  obtain ⟨v, hv, ok⟩ := z.own hj
  obtain ⟨c, hc, ok'⟩ := hk G v H ok
  refine k c hc σ H ⟨G, ?_⟩
  exact z.updOwn (r' := rr c) (T' := F.T) hj (Grow.refl z.ex) (ha c) hv ok' fun x hx => z.tm x hx
variable {fM : Addr → Res → List DD → Rs → Res → Prop} {tr : TA} {E : XK} {mth : Str}
theorem callX {F : Fra} {σ : L2.St} {H1 : Hp} {Q : VK} {vs : List V} {es : List DD} (hf : fM p r es (.ok d) r) (lq : vs.length = es.length) (s1 : S K B Γ ((F.res1 (.ref p) r).dats (vs.zip es)) σ H1) (q1 : ∀ v H', S K B Γ (F.dat v d) σ H' → Q v H') : spM K fM (.ref p :: vs) H1 Q E := by
  obtain ⟨G, z⟩ := s1
  have ok1 : r.ok K G (.ref p) H1 := z.xm (.ref p, r) (by simp)
  have z' : S0 K B Γ (Fra.res1 ⟨vs.zip es ++ F.T, F.X⟩ (.ref p) r) σ H1 G := z
  have own : ∀ a ∈ r.as, a ∈ ownAt Γ (Fra.res1 ⟨vs.zip es ++ F.T, F.X⟩ (.ref p) r) (Γ.length + F.X.length) := fun a ha => by
    have e := ownAt_res (Γ := Γ) (F := ⟨vs.zip es ++ F.T, F.X⟩) (v := .ref p) (r := r) (Γ.length + F.X.length)
    rw [e, if_pos rfl]; exact ha
  refine ⟨G, p, vs, es, r, .ok d, r, rfl, ok1, fun a ha => (z'.mine _ a (own a ha)).1, daL_zip lq fun x hx => z.tm x (by simp [hx]), z.ex, hf, fun d' e u G' H' g ok' da => ?_, fun c e => by cases e⟩
  cases e
  refine q1 u H' ⟨G', ?_⟩
  have z2 := z'.updX (r' := r) (T' := (u, d) :: F.T) g rfl ok' fun x hx => by
    rcases List.mem_cons.mp hx with e | e
    · rw [e]; exact da
    · exact (z.tm x (by simp [e])).mono g.g
  have z3 : S0 K B Γ ⟨(u, d) :: F.T, F.X ++ [(.ref p, r)] ++ []⟩ σ H' G' := by rw [List.append_nil]; exact z2
  have z4 := z3.rmXs (A := F.X) (C := [])
  rw [List.append_nil] at z4
  exact z4
theorem ev_methT {Pr : V → Res → Prop} (h : EvR K B te Γ Pr) (hp : ∀ v r, Pr v r → ∃ p, v = .ref p ∧ InsP K C mth r ∧ (∀ G v H, r.ok K G v H → v = .ref p) ∧ fM p r ds (.ok d) r) (ht : EvAD K B tr Γ ds) : EvD K B (tMeth C mth (spM K fM) [] E te tr) Γ d := fun F σ H s Q q =>
  h F σ H s _ fun v r H1 pr s1 => by
    obtain ⟨p, rfl, hi, ha, hf⟩ := hp v r pr
    obtain ⟨G, z⟩ := id s1
    have ok1 : r.ok K G (.ref p) H1 := z.xm (.ref p, r) (by simp)
    obtain ⟨a, dx, fs, e1, e2, e3⟩ := hi _ _ _ ok1
    cases e1
    refine ⟨p, dx, fs, rfl, e2, e3, ?_⟩
    refine ht _ σ H1 s1 _ fun vs es H2 pe lq s2 => ?_
    subst pe
    rw [List.append_nil]
    exact callX hf lq s2 fun v H' s' => q v d H' rfl s'
theorem ev_callT {Pr : V → Res → Prop} (h : EvR K B te Γ Pr) (hp : ∀ v r, Pr v r → ∃ p, v = .ref p ∧ fM p r ds (.ok d) r) (ht : EvAD K B tr Γ ds) : EvD K B (tCall (spM K fM) [] E (tCons te tr)) Γ d := fun F σ H s Q q =>
  h F σ H s _ fun v r H1 pr s1 => by
    obtain ⟨p, rfl, hf⟩ := hp v r pr
    refine ht _ σ H1 s1 _ fun vs es H2 pe lq s2 => ?_
    subst pe
    rw [List.append_nil]
    exact callX hf lq s2 fun v H' s' => q v d H' rfl s'
/-- f(o, ..) that leaves the thing as it was -/
theorem ev_callS (hj : Γ[j]? = some (.own r)) (hp : AtP p r) (h : EvAD K B tr Γ ds) (hf : fM p r ds (.ok d) r) : EvD K B (tCall (spM K fM) [] E (tCons (tVar j) tr)) Γ d := by
  have := (egx_callM (E := E) hj hp rfl h hf).g
  rw [set_same hj] at this
  exact this.d
def twoR (t p1 p2 : Addr) (r1 r2 : Res) : Res where
  as := r1.as ++ r2.as
  ok := fun K G v H => v = .ref t ∧ SqT K G t [.ref p1, .ref p2] ∧ (r1.as ++ r2.as).Nodup ∧ r1.ok K G (.ref p1) H ∧ r2.ok K G (.ref p2) H
  mono := fun e ⟨h1, h2, h3, h4, h5⟩ => ⟨h1, ex_t e h2, h3, r1.mono e h4, r2.mono e h5⟩
  loc := fun e ⟨h1, h2, h3, h4, h5⟩ => ⟨h1, h2, h3, r1.loc (fun a o ha => e a o (List.mem_append_left _ ha)) h4, r2.loc (fun a o ha => e a o (List.mem_append_right _ ha)) h5⟩
  dom := fun ⟨_, _, _, h4, h5⟩ a ha => by
    rcases List.mem_append.mp ha with z | z
    · exact r1.dom h4 a z
    · exact r2.dom h5 a z
theorem two_meth (i : Nat) {t p1 p2 : Addr} {r1 r2 : Res} {rc : Res} {pc : Addr} (hi : (i = 0 ∧ rc = r1 ∧ pc = p1) ∨ (i = 1 ∧ rc = r2 ∧ pc = p2)) (hj : Γ[j]? = some (.own (twoR t p1 p2 r1 r2))) (hins : InsP K C mth rc) (h : EvAD K B tr Γ ds) (hf : fM pc rc ds (.ok d) rc) : EvD K B (tMeth C mth (spM K fM) [] E (tOp (rIxT K) (tVar j) (tC (.int (i : Int)))) tr) Γ d := fun F σ H s Q q => by
  obtain ⟨G, z⟩ := id s
  obtain ⟨v, hv, rfl, ht, nd, ok1, ok2⟩ := z.own hj
  have okc : rc.ok K G (.ref pc) H := by
    rcases hi with ⟨_, rfl, rfl⟩ | ⟨_, rfl, rfl⟩
    · exact ok1
    · exact ok2
  have hat : atI [V.ref p1, V.ref p2] (i : Int) = some (.ref pc) := by
    rcases hi with ⟨rfl, _, rfl⟩ | ⟨rfl, _, rfl⟩ <;> rfl
  refine ⟨_, hv, t, [.ref p1, .ref p2], (i : Int), .ref pc, rfl, rfl, ex_t z.ex ht, hat, ?_⟩
  obtain ⟨a, dx, fs, e1, e2, e3⟩ := hins _ _ _ okc
  cases e1
  refine ⟨pc, dx, fs, rfl, e2, e3, ?_⟩
  refine h F σ H s _ fun vs es H2 pe lq s2 => ?_
  subst pe
  rw [List.append_nil]
  obtain ⟨G2, z2⟩ := s2
  obtain ⟨v2, hv2, e5, ht2, nd2, ok12, ok22⟩ := z2.own hj
  have okc2 : rc.ok K G2 (.ref pc) H2 := by
    rcases hi with ⟨_, rfl, rfl⟩ | ⟨_, rfl, rfl⟩
    · exact ok12
    · exact ok22
  have sub : ∀ a ∈ rc.as, a ∈ r1.as ++ r2.as := fun a ha => by
    rcases hi with ⟨_, rfl, _⟩ | ⟨_, rfl, _⟩
    · exact List.mem_append_left _ ha
    · exact List.mem_append_right _ ha
  have own : ∀ a ∈ rc.as, a ∈ ownAt Γ (F.dats (vs.zip es)) j := fun a ha => by rw [ownAt_slot hj]; exact sub a ha
  refine ⟨G2, pc, vs, es, rc, .ok d, rc, rfl, okc2, fun a ha => (z2.mine j a (own a ha)).1, daL_zip lq fun x hx => z2.tm x (by simp [hx]), z2.ex, hf, fun d' e u G' H' g ok' da => ?_, fun c e => by cases e⟩
  cases e
  refine q u d H' rfl ⟨G', ?_⟩
  have gw : Grow (twoR t p1 p2 r1 r2).as G2 H2 G' H' := g.mono sub
  have nd3 := List.nodup_append.mp nd2
  have z3 := z2.updOwn (r' := twoR t p1 p2 r1 r2) (T' := (u, d) :: F.T) hj gw rfl hv2 ⟨e5, ex_t g.g ht2, nd2, ?_, ?_⟩ fun x hx => by
    rcases List.mem_cons.mp hx with e | e
    · rw [e]; exact da
    · exact (z2.tm x (by simp [e])).mono g.g
  · rw [set_same hj] at z3
    exact z3
  · rcases hi with ⟨_, rfl, rfl⟩ | ⟨_, rfl, rfl⟩
    · exact ok'
    · exact r1.mono g.g (r1.loc (fun a o ha ho => g.fr a o (fun z => nd3.2.2 a ha a z rfl) ho) ok12)
  · rcases hi with ⟨_, rfl, rfl⟩ | ⟨_, rfl, rfl⟩
    · exact r2.mono g.g (r2.loc (fun a o ha ho => g.fr a o (fun z => nd3.2.2 a z a ha rfl) ho) ok22)
    · exact ok'
end
end Ly

set_option maxHeartbeats 1000000
namespace Ly
open PySem PySem.Spec PyProof.Rows L2
def keysA {κ β : Type} (l : List (κ × β)) : List κ := l.map (·.1)
def valsA {κ β : Type} (l : List (κ × β)) : List β := l.map (·.2)
/-- the first place of x -/
def idxO {α : Type} [DecidableEq α] (x : α) : List α → Option Nat
  | [] => none
  | y :: ys => if y = x then some 0 else (idxO x ys).map (· + 1)
theorem idxO_at {α : Type} [DecidableEq α] {x : α} : ∀ {xs : List α} {j : Nat}, idxO x xs = some j → xs[j]? = some x ∧ ∀ m y, m < j → xs[m]? = some y → y ≠ x
  | [], j, h => by cases h
  | y :: ys, j, h => by
    unfold idxO at h
    split at h
    · rename_i e
      cases h
      exact ⟨by rw [e]; rfl, fun m y hm => absurd hm (Nat.not_lt_zero _)⟩
    · rename_i e
      cases hq : idxO x ys with
      | none => rw [hq] at h; cases h
      | some k =>
        rw [hq] at h
        cases h
        obtain ⟨h1, h2⟩ := idxO_at hq
        refine ⟨by simpa using h1, fun m z hm hz => ?_⟩
        cases m with
        | zero => simp at hz; subst hz; exact e
        | succ m => exact h2 m z (by have : m + 1 < k + 1 := hm; omega) (by simpa using hz)
section
variable {K : FK} {B : Bs} {Γ : List Sl} {F : Fra} {D : Ends} {td tk tv te to : TE} {j : Nat} {p : Addr} {κ β α : Type} [DecidableEq κ] [DecidableEq α] {nk : κ → NK} {ek : κ → DD} {ev : β → DD} {l m : List (κ × β)} {x : κ} {y : β} {n : Nat} {li : List (Int × β)} {i : Int} {e : α → DD} {xs : List α} {a : α}
theorem et_inI1 (hx : EvD K B tk Γ (.int i)) (hd : EvDc K B td Γ (kdsI ev li)) : EvD K B (tOp (rInI K false) tk td) Γ (.bool (hasA li i)) := et_inI (neg := false) hx hd
theorem et_niI1 (hx : EvD K B tk Γ (.int i)) (hd : EvDc K B td Γ (kdsI ev li)) : EvD K B (tOp (rInI K true) tk td) Γ (.bool (!hasA li i)) := et_inI (neg := true) hx hd
theorem ei_keysA (hd : EvD K B td Γ (eDc ek ev l)) : EvI K B (iKeysN td) Γ ((keysA l).map ek) := ei_keys hd
theorem en_listKA (h : Kc nk ek n) (hd : EvDc K B td Γ (kdsOf nk ev l)) : EvND K B (tCB rListN (tCons td tNil)) Γ ((keysA l).map ek) := en_listK h hd
theorem en_sortKA (h : Kc nk ek n) (sq : Sq ek) (hd : EvDc K B td Γ (kdsOf nk ev l)) : EvND K B (tCB (rSortN K) (tCons td tNil)) Γ ((srtT ek (keysA l)).map ek) := en_sortK h sq hd
theorem ev_sumVA {l : List (κ × Int)} (hd : EvDc K B td Γ (kdsOf nk PyData.int l)) : EvD K B (tCB rSumV (tCons (tVals td) tNil)) Γ (.int (valsA l).sum) := ev_sumV hd
theorem en_rev (h : EvD K B te Γ (.list (xs.map e))) : EvND K B (tRevL K te) Γ (xs.reverse.map e) := fun F σ H s Q k =>
  h F σ H s _ fun v d H1 ed s1 => by
    subst ed
    obtain ⟨G, z⟩ := s1
    obtain ⟨b, us, rfl, hb, hs⟩ := (z.tm (v, .list (xs.map e)) (by simp)).lst_inv
    refine ⟨b, us, rfl, SqL.of (z.ex _ _ hb), fun q hq => k q _ _ rfl (z.notLent hq) ⟨G, (z.newLst hq ?_).drop fun p hp => by simp [hp]⟩⟩
    have rev : ∀ {us : List V} {ds : List DD}, DaL K G us ds → DaL K G us.reverse ds.reverse := by
      intro us ds hh
      induction us generalizing ds with
      | nil => cases hh; exact .nil
      | cons u us ih =>
        cases hh with
        | cons h1 h2 =>
          rw [List.reverse_cons, List.reverse_cons]
          exact (ih h2).append (.cons h1 .nil)
    rw [List.map_reverse]
    exact rev hs
theorem et_idx {n : Nat} {jj : Nat} (q : Tq e n) (hf : ∀ a, flatD (e a) = true) (h : EvD K B to Γ (.list (xs.map e))) (h2 : EvD K B te Γ (e a)) (hj : idxO a xs = some jj) : EvD K B (tBM K "list" (rIndex K) to (tCons te tNil)) Γ (.int (jj : Nat)) := by
  obtain ⟨h3, h4⟩ := idxO_at hj
  refine ev_index (w := e a) h h2 (hf a) (all_flat hf xs) (by rw [List.getElem?_map, h3]; rfl) (by rw [q.eq]; exact decide_eq_true rfl) fun m u hm hu => ?_
  rw [List.getElem?_map] at hu
  cases hx : xs[m]? with
  | none => rw [hx] at hu; cases hu
  | some z =>
    rw [hx] at hu
    cases hu
    rw [q.eq]
    exact decide_eq_false (h4 m z hm hx)
/-- a set of one kind: data dicts read through a tuple -/
theorem er_dictD {ps : List (Int × β)} (h : EvD K B te Γ (.list (ps.map (e2 PyData.int ev)))) : EvD K B (tCB (rDictI K) (tCons te tNil)) Γ (eDc PyData.int ev (mergA [] ps)) := er_dat kcI (er_dictI h)
end
end Ly

set_option maxHeartbeats 1000000
namespace Ly
open PySem PySem.Spec PyProof.Rows L2
section
variable {K : FK} {B : Bs} {Γ : List Sl} {F : Fra} {D : Ends} {te : TE} {Q : VK} {r r' : Res} {d : DD} {i : Nat} {p C : Addr}
/-- x = a new own thing -/
theorem nx_asgX {Pr : V → Res → Prop} (h : EvR K B te Γ Pr) (k : ∀ v r, Pr v r → Nx K B D.nx (Γ.set i (.own r)) F) (hi : Nat.blt i Γ.length = true := by rfl) : Nx K B (tAsg te (gName i) D) Γ F := fun σ H s =>
  h F σ H s _ fun v r H' pr ⟨G, z⟩ => k v r pr _ _ ⟨G, z.setOwn (of_blt hi)⟩
/-- return, where the first slot is described otherwise behind -/
theorem nx_retMh (h : EvD K B te (.own r :: Γ) d) (ha : r'.as = r.as) (hk : ∀ G v H, r.ok K G v H → r'.ok K G v H) (k : ∀ v Γ F σ H', S K B (.own r' :: Γ) (Fra.dat F v d) σ H' → Q v H') : Nx K B (tRet te { nx := fun _ H' => Q .non H', rt := Q }) (.own r :: Γ) F := fun σ H s =>
  h F σ H s _ fun v d' H' e s' => by
    subst e
    obtain ⟨G, z⟩ := s'
    exact k v Γ F σ H' ⟨G, z.redesc (j := 0) (r := r) (r' := r') rfl ha fun v h => hk G v H' h⟩
theorem nx_retM' (h : EvD K B te (.own r' :: Γ) d) (k : ∀ v Γ F σ H', S K B (.own r' :: Γ) (Fra.dat F v d) σ H' → Q v H') : Nx K B (tRet te { nx := fun _ H' => Q .non H', rt := Q }) (.own r' :: Γ) F := fun σ H s => h F σ H s _ fun v d' H' e s' => by subst e; exact k v Γ F σ H' s'
end
section
variable {κ β : Type} [DecidableEq κ]
theorem getA_put (l : List (κ × β)) (k : κ) (v : β) : getA (putA l k v) k = some v := by
  unfold putA
  cases h : hasA l k with
  | true =>
    show getA (l.map fun p => if p.1 = k then (p.1, v) else p) k = some v
    induction l with
    | nil => cases h
    | cons p l ih =>
      rw [List.map_cons]
      by_cases e : p.1 = k
      · unfold getA
        rw [if_pos e, List.find?_cons]
        simp [e]
      · unfold getA
        rw [if_neg e, List.find?_cons]
        have h' : hasA l k = true := by
          unfold hasA at h ⊢
          rw [List.any_cons, decide_eq_false e, Bool.false_or] at h
          exact h
        have := ih h'
        unfold getA at this
        simp only [e, decide_false]
        exact this
  | false =>
    show getA (l ++ [(k, v)]) k = some v
    unfold getA hasA at *
    have hn : l.find? (fun p => decide (p.1 = k)) = none := by
      rw [List.find?_eq_none]
      intro p hp
      have := List.any_eq_false.mp h p hp
      simpa using this
    rw [List.find?_append, hn]
    simp
theorem mem_putA {l : List (κ × β)} {k : κ} {v : β} {x : κ × β} (h : x ∈ putA l k v) : x ∈ l ∨ x = (k, v) := by
  unfold putA at h
  split at h
  · obtain ⟨p, hp, rfl⟩ := List.mem_map.mp h
    by_cases e : p.1 = k
    · rw [if_pos e, e]; exact .inr rfl
    · rw [if_neg e]; exact .inl hp
  · rcases List.mem_append.mp h with z | z
    · exact .inl z
    · exact .inr (List.mem_singleton.mp z)
theorem getA_mem {l : List (κ × β)} {k : κ} {v : β} (h : getA l k = some v) : (k, v) ∈ l := by
  unfold getA at h
  obtain ⟨p, hp, rfl⟩ := Option.map_eq_some_iff.mp h
  have h1 := List.find?_some hp
  have h2 := List.mem_of_find?_eq_some hp
  have e : p.1 = k := of_decide_eq_true h1
  rw [← e]; exact h2
theorem hasA_get {l : List (κ × β)} {k : κ} (h : hasA l k = true) : ∃ v, getA l k = some v := by
  rw [← getA_has] at h
  exact Option.isSome_iff_exists.mp h
end
end Ly

set_option maxHeartbeats 1000000
namespace Ly
open PySem PySem.Spec PyProof.Rows L2
section
variable {K : FK} {B : Bs} {Γ : List Sl} {F : Fra} {D : Ends} {te ti : TE} {i : Nat} {p : Addr} {P : DD → Prop} {α : Type} {e : α → DD}
theorem nx_setIP {xs : List α} {jj : Int} (hx : Γ[i]? = some (.own (lstR p (xs.map e)))) (h : Ev K B te Γ P) (hi : EvD K B ti Γ (.int jj)) (k : ∀ d, P d → ∃ x ys, d = e x ∧ setO xs jj x = some ys ∧ Nx K B D.nx (Γ.set i (.own (lstR p (ys.map e)))) F) :
    Nx K B (tAsg te (gSub (tVar i) ti rSetL) D) Γ F := fun σ H s => by
  refine h F σ H s _ fun w d1 H' pd s' => ?_
  obtain ⟨x, ys, rfl, q, kk⟩ := k d1 pd
  unfold setO at q
  cases h1 : ixN xs.length jj with
  | none => rw [h1] at q; cases q
  | some n =>
    rw [h1] at q
    cases q
    rw [List.map_set] at kk
    obtain ⟨G', s1⟩ := id s'
    obtain ⟨v2, hv2, rfl, us, hp2, hd2⟩ := s1.own hx
    refine ⟨.ref p, hv2, hi _ σ H' s' _ fun w2 d2 H2 e2 s2 => ?_⟩
    subst e2
    obtain ⟨G2, z2⟩ := s2
    obtain ⟨v3, hv3, rfl, zs, hp3, hd3⟩ := z2.own hx
    refine ⟨p, zs, jj, n, rfl, (z2.tm (w2, .int jj) (by simp)).int_inv, hp3, by rw [hd3.length, List.length_map]; exact h1, ?_⟩
    have hm : p ∈ ownAt Γ (Fra.dat (F.dat w (e x)) w2 (.int jj)) i := by rw [ownAt_slot hx]; simp [Sl.as, lstR]
    have s3 := z2.updOwn (r' := lstR p ((xs.map e).set n (e x))) (T' := F.T) hx (Grow.put (o := .lst (zs.set n w)) z2.ex (z2.mine i p hm).1 (by simp [lstR])) rfl hv3 ⟨rfl, _, upd_same, hd3.set (z2.tm (w, e x) (by simp)) n⟩ fun q hq => z2.tm q (by simp [hq])
    exact kk _ _ ⟨G2, s3⟩
end
end Ly

set_option maxHeartbeats 1000000
namespace Ly
open PySem PySem.Spec PyProof.Rows L2
section
variable {K : FK} {B : Bs} {Γ : List Sl} {F : Fra} {D : Ends} {t1 t2 : TE} {i : Nat} {r1 r2 rT : Res} {v1 v2 vT : V}
theorem nx_asgTwo {P1 P2 : V → Res → Prop} (h1 : EvR K B t1 Γ P1) (h2 : EvR K B t2 Γ P2) (m1 : ∀ v r, P1 v r → ∀ G H, r.ok K G v H → r.as.Nodup) (m2 : ∀ v r, P2 v r → ∀ G H, r.ok K G v H → r.as.Nodup) (k : ∀ t v1 r1 v2 r2, P1 v1 r1 → P2 v2 r2 → ∃ p1 p2, v1 = .ref p1 ∧ v2 = .ref p2 ∧ Nx K B D.nx (Γ.set i (.own (twoR t p1 p2 r1 r2))) F) (hi : Nat.blt i Γ.length = true := by rfl) : Nx K B (tAsg (tTup (tCons t1 (tCons t2 tNil))) (gName i) D) Γ F := fun σ H s =>
  h1 F σ H s _ fun v1 r1 H1 p1 s1 => h2 _ σ H1 s1 _ fun v2 r2 H2 p2 s2 => by
    refine ⟨by show 2 ≤ sizeLine; rw [sizeLine_eq]; decide, fun t ht => ?_⟩
    obtain ⟨q1, q2, rfl, rfl, kk⟩ := k t v1 r1 v2 r2 p1 p2
    obtain ⟨G, z⟩ := s2
    have z2 := z.step (T' := F.T) (Grow.laid (o := .tup [.ref q1, .ref q2]) z.ex ht) fun x hx => (z.tm x hx).mono (Grow.laid (L := []) (o := .tup [.ref q1, .ref q2]) z.ex ht).g
    have z2' : S0 K B Γ ((F.res1 (.ref q1) r1).res1 (.ref q2) r2) σ (upd H2 t (.tup [.ref q1, .ref q2])) (upd G t (.tup [.ref q1, .ref q2])) := z2
    have e1 : ∀ a, a ∈ r1.as → a ∈ ownAt Γ ((F.res1 (.ref q1) r1).res1 (.ref q2) r2) (Γ.length + F.X.length) := fun a ha => by
      rw [ownAt_res, if_neg (by show ¬ _ = Γ.length + (F.X ++ [_]).length; rw [List.length_append]; show ¬ _ = _ + (_ + 1); omega), ownAt_res, if_pos rfl]; exact ha
    have e2 : ∀ a, a ∈ r2.as → a ∈ ownAt Γ ((F.res1 (.ref q1) r1).res1 (.ref q2) r2) (Γ.length + F.X.length + 1) := fun a ha => by
      rw [ownAt_res, if_pos (by show _ = Γ.length + (F.X ++ [_]).length; rw [List.length_append]; rfl)]; exact ha
    have ok1 := z2'.xm (.ref q1, r1) (by show _ ∈ F.X ++ [_] ++ [_]; simp)
    have ok2 := z2'.xm (.ref q2, r2) (by show _ ∈ F.X ++ [_] ++ [_]; simp)
    have n1 := m1 _ _ p1 _ _ ok1
    have n2 := m2 _ _ p2 _ _ ok2
    have nd : (r1.as ++ r2.as).Nodup := List.nodup_append.mpr ⟨n1, n2, fun a ha b hb e => by
      subst e
      have := z2'.apart _ _ a (e1 a ha) (e2 a hb)
      omega⟩
    have z3 := z2'.joinX (v := .ref t) (r := twoR t q1 q2 r1 r2) (show (twoR t q1 q2 r1 r2).ok _ _ _ _ from ⟨rfl, .inl (by first | exact upd_same | exact .inl upd_same | exact ⟨_, upd_same⟩), nd, ok1, ok2⟩) (fun a ha => List.mem_append.mp ha)
    exact kk _ _ ⟨_, z3.setOwn (of_blt hi)⟩
end
end Ly

set_option maxHeartbeats 1000000
namespace Ly
open PySem PySem.Spec PyProof.Rows L2
def rMaxV : List V → Hp → VK → Prop := fun xs H Q => ∃ (r d : Addr) (ep : Nat) (kvs : KVs) (ns : List Int), xs = [.ref r] ∧ H r = some (viewO r d) ∧ H d = some (ddO d ep kvs) ∧ kvs.map (fun x => x.2.2) = ns.map V.int ∧ 0 < ns.length ∧ ∀ m, m ∈ ns → (∀ y, y ∈ ns → y ≤ m) → Q (.int m) H
theorem cr_maxV {X : Cx} (hc : X.calm = true) : CallR X (.builtin "max") rMaxV := by
  intro pins s σ H xs us Q I r h
  obtain ⟨v, d, ep, kvs, ns, rfl, hv, hd, hn, hne, q⟩ := h
  rw [Vals.ref1 r]
  obtain ⟨ob, es, R⟩ := rawAt (I.hok d _ hd).1
  have hw : s.heap.IsValuesView v d := (I.hok v _ hv).1
  have K := PySem.KdlSrc.rawValues (prog := X.prog) (w := X.w) (r := v) (d := d) (es := es) (ep := ep)
  have hok : s.heap.IsValuesView v d ∧ s.heap.DictRaw d es ep := ⟨hw, dictRaw R⟩
  have hln : ns.length = es.size := by
    have := congrArg List.length hn
    rw [List.length_map, List.length_map] at this
    rw [R.sz, this]
  refine call_max_walkS ?_
  obtain ⟨oI, St, hit, W, st⟩ := K.iter X.A.in1 s (I.ok.hd hc) hok
  refine hit _ _ ⟨s.heap.objs.size, _, _, _, es.size, _, _, fun i j => decide (ns.getD i 0 > ns.getD j 0), rfl, W.toS, st, fun b hb => ?_, by omega, CmpOf.ints_gt (fun i => ns.getD i 0) (fun i u hu => ?_), fun u s2 hu mv => ?_⟩
  · show b < (s.heap.push oI).objs.size
    rw [size_push']
    rcases List.mem_cons.mp hb with z | z
    · rw [z]; exact Nat.lt_succ_self _
    · rw [List.mem_singleton.mp z]; exact Nat.lt_succ_of_lt (K.there _ hok).2
  all_goals
    have key : ∀ (i : Nat) (u : Value), (∃ hi : i < es.size, es[i].val = u) → ∃ tk, u = Value.int (ns.getD i 0) tk := by
      rintro i u ⟨hi, rfl⟩
      have hi2 : i < kvs.length := by rw [← R.sz]; exact hi
      obtain ⟨e, e1, e2, e3⟩ := R.en i kvs[i].1 kvs[i].2.1 kvs[i].2.2 (List.getElem?_eq_getElem hi2)
      have e4 : es[i]? = some es[i] := Array.getElem?_eq_getElem hi
      rw [e4] at e1
      cases e1
      have e5 : (kvs.map fun x => x.2.2)[i]? = some kvs[i].2.2 := by rw [List.getElem?_map, List.getElem?_eq_getElem hi2]; rfl
      rw [hn, List.getElem?_map] at e5
      cases e6 : ns[i]? with
      | none => rw [e6] at e5; cases e5
      | some n =>
        rw [e6] at e5
        have e7 : kvs[i].2.2 = V.int n := (Option.some.inj e5).symm
        rw [e7] at e3
        obtain ⟨tk, e8⟩ := e3
        exact ⟨tk, by rw [e8]; show _ = Value.int (ns.getD i 0) tk; rw [List.getD_eq_getElem?_getD, e6]; rfl⟩
  · obtain ⟨hi, e⟩ := hu
    exact key i u ⟨hi, e.symm⟩
  · obtain ⟨hi, e⟩ := hu
    obtain ⟨t, rfl⟩ := key _ u ⟨hi, e.symm⟩
    obtain ⟨m1', m2'⟩ := argBest_gt (fun i => ns.getD i 0) (es.size - 1)
    have m1 : argBest (fun i j => decide (ns.getD i 0 > ns.getD j 0)) (es.size - 1) ≤ es.size - 1 := m1'
    have m2 : ∀ j, j ≤ es.size - 1 → ns.getD j 0 ≤ ns.getD (argBest (fun i j => decide (ns.getD i 0 > ns.getD j 0)) (es.size - 1)) 0 := m2'
    have kp : ∀ b o, s.heap.get? b = some o → s2.heap.get? b = some o := fun b o e => mv.heap b o (fun z => absurd (Heap.lt_size e) (by rw [List.mem_singleton.mp z]; exact Nat.lt_irrefl _)) (Heap.get?_push_of_some _ e)
    rw [Moved.eq_with mv]
    refine ⟨.int _, H, I.kept kp, ⟨t, rfl⟩, q _ (PySem.getD_mem (by omega)) fun y hy => ?_⟩
    obtain ⟨j, hj, e⟩ := List.mem_iff_getElem.mp hy
    have z := m2 j (by omega)
    have e3 : ns.getD j 0 = y := by rw [List.getD_eq_getElem?_getD, List.getElem?_eq_getElem hj, ← e] <;> rfl
    rw [e3] at z
    exact z
section
variable {K : FK} {B : Bs} {Γ : List Sl} {te td : TE} {κ : Type} [DecidableEq κ] {nk : κ → NK} {ek : κ → DD} {l : List (κ × Int)} {n : Nat}
theorem ev_maxV {m : Int} (hd : EvDc K B td Γ (kdsOf nk PyData.int l)) (hm : m ∈ l.map (·.2)) (hle : ∀ y, y ∈ l.map (·.2) → y ≤ m) : EvD K B (tCB rMaxV (tCons (tVals td) tNil)) Γ (.int m) := fun F σ H s Q q =>
  hd F σ H s _ fun p T0 H1 at0 s1 => by
    obtain ⟨G, z⟩ := id s1
    obtain ⟨ep, kvs, hp, hk⟩ := at0 _ _ _ _ z (fun q hq => by simp [hq])
    refine ⟨p, ep, kvs, rfl, hp, fun r hr => ?_⟩
    have hpr : p ≠ r := fun e => by rw [e, hr] at hp; cases hp
    refine ⟨r, p, ep, kvs, _, rfl, upd_same, by rw [upd_ne hpr]; exact hp, hk.ints, List.length_pos_of_mem hm, fun m' h1 h2 => ?_⟩
    have e : m' = m := Int.le_antisymm (hle m' h1) (h2 m hm)
    subst e
    refine q _ _ _ rfl (S.c ⟨G, ?_⟩ fun _ => .int _)
    exact (z.ghost hr).drop fun q hq => by simp [hq]
end
def getV (l : KVs) (k : NK) : Option V := (l.find? fun x => decide (x.1 = k)).map (·.2.2)
def rIxH (K : FK) : R2 := fun x y H Q => ∃ a q k ep kvs kds G v, x = .ref a ∧ y = .ref q ∧ dnK K H a q k ep kvs kds G ∧ getV kvs k = some v ∧ Q v H
def tGetH (K : FK) (td ty : TE) : TE := tOp (rIxH K) td ty
theorem dn_getV {k : NK} : ∀ {l : KVs} {m : List (NK × Addr × Value)} {v : V}, Paired RelT l m → getV l k = some v → ∃ p, atKey m k = some p ∧ RelV v p.2 := by
  intro l m v r
  induction r with
  | nil => intro h; simp [getV] at h
  | @cons p q ps qs hq t ih =>
    intro h
    obtain ⟨q1, q2, q3⟩ := hq
    by_cases e : p.1 = k
    · have e1 : atKey (q :: qs) k = some q.2 := by simp [atKey, ← q1, e]
      have e2 : v = p.2.2 := by simp [getV, e] at h; exact h.symm
      exact ⟨q.2, e1, e2 ▸ q3⟩
    · have e1 : atKey (q :: qs) k = atKey qs k := by simp [atKey, ← q1, e]
      have e2 : getV (p :: ps) k = getV ps k := by simp [getV, e]
      rw [e1]
      exact ih (e2 ▸ h)
section
variable {X : Cx} {o i : Expr} {td ty : TE} {pos : Pos}
theorem pe_getH {n : Nat} (hr : Room n X.A) (ho : PE X o td) (hi : PE X i ty) (hs : NoSl i) : PE X (.Subscript o i pos) (tGetH X.K td ty) := by
  refine ⟨fun pins s σ H Q I h => ?_⟩
  refine subD_of PySem.F.slot_dict_getitem.lookup hs (thn (ho.run pins s σ H _ I h) fun u s1 ⟨x, H1, I1, rx, q1⟩ => thn (hi.run pins s1 σ H1 _ I1 q1) fun iv s2 ⟨y, H2, I2, ry, hh⟩ => ?_)
  obtain ⟨a, q, k, ep, kvs, kds, G, v, rfl, rfl, ⟨e, ha, hk, ht, hq, hd, _⟩, hg, z⟩ := hh
  cases ry
  cases rx
  obtain ⟨_, hs, _, xs, r, dd⟩ := dn_at I2 e ha hk ht
  have hu : X.A.units + 65 < cLine := by have := hr.un; omega
  obtain ⟨p, hp, rv⟩ := dn_getV r hg
  exact ⟨dd.typeIs, wpAny_getItem_heap (knd := nestedKind X.prog X.w) (by show X.A.in1.units + 8 < cLine; rw [Around.in1_units]; omega) (key_at I2 e hq hd) dd hp ⟨v, H2, I2.tok _, rv, z⟩⟩
end
def dhR (p a : Addr) (kds : List (NK × DD)) (k0 : NK) (ds : List DD) : Res where
  as := [p, a]
  ok := fun K G v H => v = .ref p ∧ p ≠ a ∧ hasA kds k0 = false ∧ ∃ ep kvs u xs, H p = some (ddO p ep (kvs ++ [(k0, u, .ref a)])) ∧ DnOk K G kvs kds ∧ Da K G u k0.data ∧ k0.depth ≤ 8 ∧ H a = some (.lst xs) ∧ DaL K G xs ds
  mono := fun e ⟨h1, h2, h3, ep, kvs, u, xs, h4, h5, h6, h7, h8, h9⟩ => ⟨h1, h2, h3, ep, kvs, u, xs, h4, h5.mono e, h6.mono e, h7, h8, h9.mono e⟩
  loc := fun e ⟨h1, h2, h3, ep, kvs, u, xs, h4, h5, h6, h7, h8, h9⟩ => ⟨h1, h2, h3, ep, kvs, u, xs, e p _ (by simp) h4, h5, h6, h7, e _ _ (by simp) h8, h9⟩
  dom := fun ⟨_, _, _, ep, kvs, u, xs, h4, _, _, _, h8, _⟩ a ha => by
    rcases List.mem_cons.mp ha with e | e
    · rw [e]; exact ⟨_, h4⟩
    · rw [List.mem_singleton.mp e]; exact ⟨_, h8⟩
section
variable {K : FK} {B : Bs} {Γ : List Sl} {F : Fra} {σ : L2.St} {H G : Hp} {i : Nat} {v v2 : V} {r r' r2 : Res}
/-- a slot's own thing takes in the last held one -/
theorem S0.absorb {G' H' : Hp} {T' : List (V × DD)} (h : S0 K B Γ (F.res1 v2 r2) σ H G) (hg : Γ[i]? = some (.own r)) (g : Grow r.as G H G' H') (ha : ∀ a ∈ r'.as, a ∈ r.as ∨ a ∈ r2.as) (hv : σ[i]? = some (some v)) (hr : r'.ok K G' v H') (ht : ∀ p ∈ T', Da K G' p.1 p.2) :
    S0 K B (Γ.set i (.own r')) ⟨T', F.X⟩ σ H' G' := by
  have hi : i < Γ.length := (List.getElem?_eq_some_iff.mp hg).1
  have own : ∀ a, a ∈ r.as → a ∈ ownAt Γ (F.res1 v2 r2) i := fun a z => by rw [ownAt_slot hg]; exact z
  have own2 : ∀ a, a ∈ r2.as → a ∈ ownAt Γ (F.res1 v2 r2) (Γ.length + F.X.length) := fun a z => by rw [ownAt_res, if_pos rfl]; exact z
  have old : ∀ j a, a ∈ ownAt Γ F j → a ∈ ownAt Γ (F.res1 v2 r2) j ∧ j ≠ Γ.length + F.X.length := fun j a z => by
    rw [ownAt_res]; split
    · rename_i e; subst e; rw [ownAt_end] at z; cases z
    · rename_i e; exact ⟨z, e⟩
  have kp : ∀ j a o, j ≠ i → a ∈ ownAt Γ (F.res1 v2 r2) j → H a = some o → H' a = some o := fun j a o hj z q => g.fr a o (fun y => hj (h.apart j i a z (own a y))) q
  have mx : ∀ a, a ∈ r'.as → ∃ j, (j = i ∨ j = Γ.length + F.X.length) ∧ a ∈ ownAt Γ (F.res1 v2 r2) j := fun a z => by
    rcases ha a z with y | y
    · exact ⟨i, .inl rfl, own a y⟩
    · exact ⟨_, .inr rfl, own2 a y⟩
  have at_ : ∀ j a, a ∈ ownAt (Γ.set i (.own r')) ⟨T', F.X⟩ j → (j = i ∧ a ∈ r'.as) ∨ (j ≠ i ∧ a ∈ ownAt Γ F j) := fun j a z => by
    rw [ownAt_set _ hi] at z
    split at z
    · rename_i e; exact .inl ⟨e, z⟩
    · rename_i e; exact .inr ⟨e, z⟩
  refine ⟨by simpa using h.len, ⟨h.grow.g.trans g.g, g.gh, fun a o n q => ?_, fun a o q n => ?_, fun a o q => ?_⟩, fun j t e => ?_, ht, fun p hp => ?_, fun j k a h1 h2 => ?_, fun j a h1 => ?_⟩
  · refine g.fr a o (fun z => ?_) (h.grow.fr a o n q)
    rcases (h.mine i a (own a z)).2 with y | y
    · exact n y
    · rw [y] at q; cases q
  · obtain ⟨o', q'⟩ := h.grow.dom a o q
    exact g.new a o' q' (h.grow.new a o q n)
  · obtain ⟨o', q'⟩ := h.grow.dom a o q
    exact g.dom a o' q'
  · by_cases hj : j = i
    · subst hj
      rw [List.getElem?_set_self hi] at e
      cases e
      exact ⟨v, hv, hr⟩
    · rw [List.getElem?_set_ne (Ne.symm hj)] at e
      exact (h.sl j t e).step g.g fun a u z q => kp j a u hj (by rw [ownAt_slot e]; exact z) q
  · obtain ⟨k, hk, ek⟩ := List.getElem_of_mem hp
    have ek' : (F.res1 v2 r2).X[k]? = some p := by
      show (F.X ++ [(v2, r2)])[k]? = some p
      rw [List.getElem?_append_left hk, List.getElem?_eq_getElem hk, ek]
    exact p.2.mono g.g (p.2.loc (fun a o z q => kp (Γ.length + k) a o (by omega) (by rw [ownAt_fra ek']; exact z) q) (h.xm p (List.mem_append_left _ hp)))
  · rcases at_ j a h1 with ⟨e1, z1⟩ | ⟨e1, z1⟩ <;> rcases at_ k a h2 with ⟨e2, z2⟩ | ⟨e2, z2⟩
    · rw [e1, e2]
    · obtain ⟨j', hj', y⟩ := mx a z1
      obtain ⟨y2, n2⟩ := old k a z2
      have := h.apart _ _ a y y2
      rcases hj' with q | q
      · exact absurd (this.symm.trans q) e2
      · exact absurd (this.symm.trans q) n2
    · obtain ⟨j', hj', y⟩ := mx a z2
      obtain ⟨y2, n2⟩ := old j a z1
      have := h.apart _ _ a y2 y
      rcases hj' with q | q
      · exact absurd (this.trans q) e1
      · exact absurd (this.trans q) n2
    · exact h.apart j k a (old j a z1).1 (old k a z2).1
  · have : ∃ j', a ∈ ownAt Γ (F.res1 v2 r2) j' := by
      rcases at_ j a h1 with ⟨e1, z1⟩ | ⟨e1, z1⟩
      · obtain ⟨j', _, y⟩ := mx a z1; exact ⟨j', y⟩
      · exact ⟨j, (old j a z1).1⟩
    obtain ⟨j', y⟩ := this
    obtain ⟨o, ho⟩ := h.dom y
    obtain ⟨m1, m2⟩ := h.mine j' a y
    exact ⟨g.new a o ho m1, m2⟩
/-- a part of a slot's own thing becomes data -/
theorem S0.cool {a : Addr} {ob : HO} (h : S0 K B Γ F σ H G) (hg : Γ[i]? = some (.own r)) (ha : a ∈ r.as) (hs : ∀ b ∈ r'.as, b ∈ r.as) (hn : a ∉ r'.as) (hp : H a = some ob) (hl : a ∉ B.L) (hok : ∀ v, r.ok K G v H → r'.ok K (upd G a ob) v H) : S0 K B (Γ.set i (.own r')) F σ H (upd G a ob) := by
  have hi : i < Γ.length := (List.getElem?_eq_some_iff.mp hg).1
  have own : ∀ a, a ∈ r.as → a ∈ ownAt Γ F i := fun a z => by rw [ownAt_slot hg]; exact z
  obtain ⟨ga, gb⟩ := h.mine i a (own a ha)
  have e : Ex G (upd G a ob) := Ex.new ga
  have sub : ∀ j b, b ∈ ownAt (Γ.set i (.own r')) F j → b ∈ ownAt Γ F j ∧ b ≠ a := fun j b z => by
    rw [ownAt_set _ hi] at z
    split at z
    · rename_i ej
      subst ej
      exact ⟨own b (hs b z), fun y => hn (y ▸ z)⟩
    · rename_i ej
      exact ⟨z, fun y => ej (h.apart j i a (y ▸ z) (own a ha))⟩
  refine ⟨by simpa using h.len, ⟨h.grow.g.trans e, fun b o q => ?_, h.grow.fr, fun b o q n => ?_, h.grow.dom⟩, fun j t z => ?_, fun q hq => (h.tm q hq).mono e, fun q hq => q.2.mono e (h.xm q hq), fun j k b h1 h2 => h.apart j k b (sub j b h1).1 (sub k b h2).1, fun j b z => ?_⟩
  · by_cases hx : b = a
    · subst hx; rw [upd_same] at q; cases q; exact hp
    · rw [upd_ne hx] at q; exact h.ex b o q
  · rw [upd_ne (fun z => ?_)]
    · exact h.grow.new b o q n
    · subst z
      rcases gb with y | y
      · exact hl y
      · rw [y] at q; cases q
  · by_cases hj : j = i
    · subst hj
      rw [List.getElem?_set_self hi] at z
      cases z
      obtain ⟨v, hv, hr⟩ := h.own hg
      exact ⟨v, hv, hok v hr⟩
    · rw [List.getElem?_set_ne (Ne.symm hj)] at z
      exact (h.sl j t z).step e fun _ _ _ q => q
  · obtain ⟨z1, z2⟩ := sub j b z
    rw [upd_ne z2]
    exact h.mine j b z1
end
section
variable {K : FK} {B : Bs} {Γ : List Sl} {F : Fra} {D : Ends} {tk tv te tw : TE} {i j : Nat} {p a : Addr} {κ β α : Type} [DecidableEq κ] {nk : κ → NK} {ek : κ → DD} {ev : β → DD} {e : α → DD} {l m : List (κ × β)} {x : κ} {y : β} {n : Nat} {xs ys : List α} {d2 : DD}
theorem putV_new {l : KVs} {k : NK} {u v : V} (h : (l.any fun x => decide (x.1 = k)) = false) : putV l k u v = l ++ [(k, u, v)] := by unfold putV; rw [h]
/-- d[k] = a new list that is written later on -/
theorem nx_putH (h : Kc nk ek n) (ht : IsTup nk) (hj : Γ[j]? = some (.own (dnR p (kdsOf nk ev l)))) (hy : EvND K B tv Γ (xs.map e)) (hx : EvD K B tk Γ (ek x)) (hz : szLt l.length = true) (hh : (!hasA l x) = true) (k : ∀ a, a ∉ B.L → Nx K B D.nx (Γ.set j (.own (dhR p a (kdsOf nk ev l) (nk x) (xs.map e)))) F) (hn : n ≤ 8 := by decide) :
    Nx K B (tAsg tv (gSub (tVar j) tk (rSetN K)) D) Γ F := fun σ H s => by
  refine hy F σ H s _ fun a ds H1 e1 hl s1 => ?_
  subst e1
  obtain ⟨G1, z1⟩ := id s1
  obtain ⟨v0, hv0, e0, _⟩ := z1.own hj
  subst e0
  refine ⟨.ref p, hv0, ?_⟩
  refine hx _ σ H1 s1 _ fun u d H2 ed s2 => ?_
  subst ed
  obtain ⟨G, z⟩ := s2
  obtain ⟨v, hv, rfl, ep, kvs, hp, hk⟩ := z.own hj
  obtain ⟨q, rfl, hq⟩ := h.ref ht (z.tm (u, ek x) (by simp))
  have hd : (nk x).depth ≤ 8 := Nat.le_trans (h.dep x) hn
  refine ⟨p, q, nk x, ep, kvs, _, G, rfl, rfl, ⟨z.ex, hp, hk, ht.all l, hq, hd, h.pl x⟩, sz_lt (by rw [hk.len, List.length_map]; exact szLt_of hz), fun ep' => ?_⟩
  have hf : hasA l x = false := by simpa using hh
  have hf2 : hasA (kdsOf nk ev l) (nk x) = false := by rw [has_kds h]; exact hf
  rw [putV_new (by rw [hk.any]; exact hf2)]
  have z' : S0 K B Γ (Fra.res1 (F.dat (.ref q) (ek x)) (.ref a) (lstR a (xs.map e))) σ H2 G := z
  have hmm : p ∈ ownAt Γ (Fra.res1 (F.dat (.ref q) (ek x)) (.ref a) (lstR a (xs.map e))) j := by rw [ownAt_slot hj]; simp [Sl.as, dnR]
  have hma : a ∈ ownAt Γ (Fra.res1 (F.dat (.ref q) (ek x)) (.ref a) (lstR a (xs.map e))) (Γ.length + F.X.length) := by rw [ownAt_res, if_pos rfl]; simp [lstR]
  have hg : G p = none := (z'.mine j p hmm).1
  have hji : j < Γ.length := (List.getElem?_eq_some_iff.mp hj).1
  have hne : p ≠ a := fun ee => by
    subst ee
    have := z'.apart _ _ p hmm hma
    omega
  obtain ⟨_, zs, hla, hld⟩ := z'.xm (.ref a, lstR a (xs.map e)) (by simp)
  have z3 := z'.absorb (r' := dhR p a (kdsOf nk ev l) (nk x) (xs.map e)) (T' := F.T) hj (Grow.put (o := ddO p ep' (kvs ++ [(nk x, .ref q, .ref a)])) z.ex hg (by simp [dnR])) (fun b hb => by
    rcases List.mem_cons.mp hb with w | w
    · left; rw [w]; simp [dnR]
    · right; rw [List.mem_singleton.mp w]; simp [lstR]) hv ⟨rfl, hne, hf2, ep', kvs, .ref q, zs, upd_same, hk, hq, hd, by rw [upd_ne (Ne.symm hne)]; exact hla, hld⟩ fun w hw => z.tm w (by simp [hw])
  exact k a hl _ _ ⟨G, z3⟩
/-- d[k].append(v) of that list -/
theorem nx_appH {y : α} (h : Kc nk ek n) (ht : IsTup nk) (hj : Γ[j]? = some (.own (dhR p a (kdsOf nk ev l) (nk x) (xs.map e)))) (hx : EvD K B tk Γ (ek x)) (hy : EvD K B te Γ (e y)) (hz : szLt xs.length = true) (q : xs ++ [y] = ys) (k : Nx K B D.nx (Γ.set j (.own (dhR p a (kdsOf nk ev l) (nk x) (ys.map e)))) F) (hn : n ≤ 8 := by decide) :
    Nx K B (tDrop (tBM K "list" rAppend (tGetH K (tVar j) tk) (tCons te tNil)) D) Γ F := fun σ H s => by
  obtain ⟨G0, s0⟩ := id s
  obtain ⟨v0, hv0, e0, _⟩ := s0.own hj
  subst e0
  refine ⟨.ref p, hv0, ?_⟩
  refine hx _ σ H s _ fun u d H1 e1 s1 => ?_
  subst e1
  obtain ⟨G1, z1⟩ := id s1
  obtain ⟨v1, hv1, e1, hne, hf, ep, kvs, ku, zs, hp, hk, hku, hkd, hla, hld⟩ := z1.own hj
  subst e1
  obtain ⟨q1, rfl, hq⟩ := h.ref ht (z1.tm (u, ek x) (by simp))
  have hma : a ∈ ownAt Γ (F.dat (.ref q1) (ek x)) j := by rw [ownAt_slot hj]; simp [Sl.as, dhR]
  have hga : G1 a = none := (z1.mine j a hma).1
  have ex' : Ex (upd G1 a (.lst zs)) H1 := fun b o w => by
    by_cases hb : b = a
    · subst hb; rw [upd_same] at w; cases w; exact hla
    · rw [upd_ne hb] at w; exact z1.ex b o w
  have eg : Ex G1 (upd G1 a (.lst zs)) := Ex.new hga
  have hk' : DnOk K (upd G1 a (.lst zs)) (kvs ++ [(nk x, ku, .ref a)]) (kdsOf nk ev l ++ [(nk x, .list (xs.map e))]) := (hk.mono eg).snoc (hku.mono eg) hkd (.lst upd_same (hld.mono eg))
  have ht' : AllT (kdsOf nk ev l ++ [(nk x, .list (xs.map e))]) := fun w hw => by
    rcases List.mem_append.mp hw with y | y
    · exact ht.all l w y
    · rw [List.mem_singleton.mp y]; exact ht x
  have hgv : getV (kvs ++ [(nk x, ku, .ref a)]) (nk x) = some (.ref a) := by
    have h0 : (kvs.find? fun w => decide (w.1 = nk x)) = none := by
      rw [List.find?_eq_none]
      intro w hw hc
      have h1 : (kvs.any fun w => decide (w.1 = nk x)) = true := List.any_eq_true.mpr ⟨w, hw, hc⟩
      rw [hk.any, hf] at h1
      cases h1
    unfold getV
    rw [List.find?_append, h0]
    simp
  refine ⟨p, q1, nk x, ep, _, _, upd G1 a (.lst zs), .ref a, rfl, rfl, ⟨ex', hp, hk', ht', hq.mono eg, Nat.le_trans (h.dep x) hn, h.pl x⟩, hgv, .inl ⟨rfl, zs, SqL.of hla⟩, ?_⟩
  refine hy _ σ H1 s1 _ fun w d' H2 e2 s2 => ?_
  subst e2
  obtain ⟨G, z⟩ := id s2
  obtain ⟨v2, hv2, rfl, _, _, ep2, kvs2, ku2, zs2, hp2, hk2, hku2, _, hla2, hld2⟩ := z.own hj
  refine ⟨a, zs2, w, rfl, rfl, hla2, sz_lt (by rw [hld2.length, List.length_map]; exact szLt_of hz), ?_⟩
  have hma2 : a ∈ ownAt Γ (Fra.dat (F.dat (.ref q1) (ek x)) w (e y)) j := by rw [ownAt_slot hj]; simp [Sl.as, dhR]
  have hg2 : G a = none := (z.mine j a hma2).1
  have s3 := z.updOwn (r' := dhR p a (kdsOf nk ev l) (nk x) (ys.map e)) (T' := F.T) hj (Grow.put (o := .lst (zs2 ++ [w])) z.ex hg2 (by simp [dhR])) rfl hv2 ⟨rfl, hne, hf, ep2, kvs2, ku2, _, by rw [upd_ne hne]; exact hp2, hk2, hku2, hkd, upd_same, by rw [← q, List.map_append]; exact hld2.append (.cons (z.tm (w, e y) (by simp)) .nil)⟩ fun q hq => z.tm q (by simp [hq])
  exact k _ _ ⟨G, s3⟩
/-- the list is not written any more -/
theorem nx_cool {tt : L2.St → Hp → Prop} {ew : List α → DD} {l' m' : List (κ × List α)} (j : Nat) (hj : Γ[j]? = some (.own (dhR p a (kdsOf nk ew l') (nk x) (xs.map e)))) (hl : a ∉ B.L) (q : l' ++ [(x, xs)] = m') (k : Nx K B tt (Γ.set j (.own (dnR p (kdsOf nk ew m')))) F) (hew : ew xs = .list (xs.map e) := by rfl) : Nx K B tt Γ F := fun σ H s => by
  obtain ⟨G, z⟩ := s
  obtain ⟨v, hv, ev, hne, hf, ep, kvs, ku, zs, hp, hk, hku, hkd, hla, hld⟩ := z.own hj
  subst q
  refine k σ H ⟨_, z.cool (r' := dnR p (kdsOf nk ew (l' ++ [(x, xs)]))) hj (a := a) (ob := .lst zs) (by simp [dhR]) (fun b hb => by simp [dnR] at hb; simp [dhR, hb]) (by simp [dnR]; exact Ne.symm hne) hla hl fun v' hr => ?_⟩
  obtain ⟨ev', _, _, ep', kvs', ku', zs', hp', hk', hku', hkd', hla', hld'⟩ := hr
  have hma : a ∈ ownAt Γ F j := by rw [ownAt_slot hj]; simp [Sl.as, dhR]
  have hga : G a = none := (z.mine j a hma).1
  have eg : Ex G (upd G a (.lst zs)) := Ex.new hga
  have : zs' = zs := by rw [hla] at hla'; cases hla'; rfl
  subst this
  refine ⟨ev', ep', _, hp', ?_⟩
  have : kdsOf nk ew (l' ++ [(x, xs)]) = kdsOf nk ew l' ++ [(nk x, .list (xs.map e))] := by simp [kdsOf, hew]
  rw [this]
  exact (hk'.mono eg).snoc (hku'.mono eg) hkd' (.lst upd_same (hld'.mono eg))
/-- d[k], x = (v, w) -/
theorem nx_putN2 (h : Kc nk ek n) (ht : IsTup nk) (hj : Γ[j]? = some (.own (dnR p (kdsOf nk ev l)))) (hy : EvD K B tv Γ (ev y)) (hw : EvD K B tw Γ d2) (hx : EvD K B tk Γ (ek x)) (hz : szLt l.length = true) (hm : putA l x y = m) (k : Nx K B D.nx ((Γ.set j (.own (dnR p (kdsOf nk ev m)))).set i (.dat d2)) F) (hi : Nat.blt i Γ.length = true := by rfl) (hn : n ≤ 8 := by decide) :
    Nx K B (tAsg (tTup (tCons tv (tCons tw tNil))) (gTup K 2 (gCons (gSub (tVar j) tk (rSetN K)) (gCons (gName i) gNil))) D) Γ F := fun σ H s => by
  subst hm
  refine hy F σ H s _ fun v1 d1 H1 e1 s1 => hw _ σ H1 s1 _ fun w1 d3 H2 e3 s2 => ?_
  subst e1 e3
  refine ⟨by show 2 ≤ sizeLine; rw [sizeLine_eq]; decide, fun t ht0 => ⟨t, [v1, w1], rfl, SqT.of upd_same, rfl, v1, [w1], rfl, ?_⟩⟩
  obtain ⟨G2, z2⟩ := id s2
  have z2' : S0 K B Γ (Fra.dat (F.dat v1 (ev y)) w1 d3) σ (upd H2 t (.tup [v1, w1])) G2 := z2.step (T' := (w1, d3) :: (v1, ev y) :: F.T) (Grow.free z2.ex ht0) fun q hq => z2.tm q hq
  obtain ⟨v0, hv0, e0, _⟩ := z2'.own hj
  subst e0
  refine ⟨.ref p, hv0, ?_⟩
  refine hx _ σ _ ⟨G2, z2'⟩ _ fun u d H3 e s3 => ?_
  subst e
  obtain ⟨G, z⟩ := s3
  obtain ⟨v, hv, rfl, ep, kvs, hp, hk⟩ := z.own hj
  obtain ⟨a, rfl, ha⟩ := h.ref ht (z.tm (u, ek x) (by simp))
  have hd : (nk x).depth ≤ 8 := Nat.le_trans (h.dep x) hn
  refine ⟨p, a, nk x, ep, kvs, _, G, rfl, rfl, ⟨z.ex, hp, hk, ht.all l, ha, hd, h.pl x⟩, sz_lt (by rw [hk.len, List.length_map]; exact szLt_of hz), fun ep' => ?_⟩
  have hmm : p ∈ ownAt Γ (Fra.dat (Fra.dat (F.dat v1 (ev y)) w1 d3) (.ref a) (ek x)) j := by rw [ownAt_slot hj]; simp [Sl.as, dnR]
  have hg : G p = none := (z.mine j p hmm).1
  have ok' := hk.put ha hd (z.tm (v1, ev y) (by simp))
  rw [put_kds h] at ok'
  have z3 := z.updOwn (r' := dnR p (kdsOf nk ev (putA l x y))) (T' := (w1, d3) :: F.T) hj (Grow.put (o := ddO p ep' (putV kvs (nk x) (.ref a) v1)) z.ex hg (by simp [dnR])) rfl hv ⟨rfl, _, _, upd_same, ok'⟩ fun q hq => by
    rcases List.mem_cons.mp hq with ee | ee
    · rw [ee]; exact z.tm _ (by simp)
    · exact z.tm q (by simp [ee])
  refine ⟨w1, [], rfl, rfl, k _ _ ⟨G, (z3.setDat (i := i) (v := w1) (d := d3) (by rw [List.length_set]; exact of_blt hi) (by simp)).drop fun q hq => by simp [hq]⟩⟩
end
end Ly

set_option maxHeartbeats 1000000
namespace Ly
open PySem PySem.Spec PyProof.Rows L2
section
variable {K : FK} {B : Bs} {Γ : List Sl} {F : Fra} {D : Ends} {ta tb te td tk : TE} {j : Nat} {p q : Addr} {β : Type} {ev : β → DD} {l : List (Str × β)} {x : Str} {y : β}
def kdsS (ev : β → DD) (l : List (Str × β)) : List (Key × DD) := l.map fun z => (.inr z.1, ev z.2)
theorem getK_S (x : Str) : ∀ l : List (Str × β), getK (kdsS ev l) (.inr x) = (getA l x).map ev
  | [] => rfl
  | z :: l => by
    have ih := getK_S x l
    unfold getK kdsS getA at *
    rw [List.map_cons, List.find?_cons, List.find?_cons]
    by_cases h : z.1 = x
    · simp [h]
    · have h2 : ¬ ((Sum.inr z.1 : Key) = Sum.inr x) := fun e => h (Sum.inr.inj e)
      simp only [h, h2, decide_false]
      exact ih
theorem er_dispS {trs : List (TE × TE)} (h : EvP K B trs Γ (kdsS ev l)) (hm : mergeD [] (kdsS ev l) = kdsS ev l) (hl : Nat.ble (kdsS ev l).length 15 = true := by rfl) : EvR K B (tDisp trs) Γ (fun v r => ∃ p, v = .ref p ∧ p ∉ B.L ∧ r = dkR p (kdsS ev l)) := fun F σ H s Q q =>
  er_disp h hl F σ H s Q fun v r H' ⟨p, h1, h2, h3⟩ => q v r H' ⟨p, h1, h2, by rw [h3, hm]⟩
theorem ev_inS (hx : EvD K B tk Γ (.str x)) (hj : Γ[j]? = some (.own (dkR p (kdsS ev l)))) : EvD K B (tDIn tk (tVar j)) Γ (.bool (hasA l x)) := fun F σ H s Q q =>
  hx F σ H s _ fun u d H1 e s1 => by
    subst e
    obtain ⟨G, z⟩ := id s1
    obtain ⟨v, hv, rfl, xs, hp, ko⟩ := z.own hj
    have eu : u = kV (.inr x) := Da.kV (k := .inr x) (z.tm (u, .str x) (by simp))
    have hb : (valV xs (.inr x)).isSome = hasA l x := by
      rw [← getA_has]
      obtain ⟨h1, h2⟩ := ko.get (k := .inr x)
      rw [getK_S] at h1 h2
      cases hg : getA l x with
      | none => rw [h2 (by rw [hg]; rfl)]; rfl
      | some y =>
        obtain ⟨v, e, _⟩ := h1 (ev y) (by rw [hg]; rfl)
        rw [e]; rfl
    refine ⟨.ref p, hv, p, valV xs (.inr x), rfl, .inl ⟨xs, .inr x, .inl hp, eu, rfl⟩, ?_⟩
    rw [hb]
    exact q _ _ H1 rfl (s1.pop.c fun _ => .bl _)
theorem ev_getS (hj : Γ[j]? = some (.own (dkR p (kdsS ev l)))) (hx : EvD K B tk Γ (.str x)) (hg : getA l x = some y) : EvD K B (tDGet (tVar j) tk) Γ (ev y) := fun F σ H s Q q => by
  obtain ⟨G0, z0⟩ := id s
  obtain ⟨v0, hv0, e0, _⟩ := z0.own hj
  subst e0
  refine ⟨.ref p, hv0, ?_⟩
  refine hx F σ H s _ fun u d H1 e s1 => ?_
  subst e
  obtain ⟨G, z⟩ := id s1
  obtain ⟨v, hv, ev', xs, hp, ko⟩ := z.own hj
  have eu : u = kV (.inr x) := Da.kV (k := .inr x) (z.tm (u, .str x) (by simp))
  obtain ⟨w, hw, hd⟩ := (ko.get (k := .inr x)).1 (ev y) (by rw [getK_S, hg]; rfl)
  refine ⟨p, w, rfl, .inl ⟨xs, .inr x, .inl hp, eu, hw.symm⟩, q w _ H1 rfl ?_⟩
  exact (S.grown (d := ev y) z (Grow.refl z.ex) hd).drop fun p hp => by
    simp at hp ⊢
    rcases hp with e | e <;> simp [e]
/-- max(a, b), min(a, b) -/
abbrev rMx2 : List V → Hp → VK → Prop := fun xs H Q => ∃ i j, xs = [.int i, .int j] ∧ Q (.int (if j > i then j else i)) H
abbrev rMn2 : List V → Hp → VK → Prop := fun xs H Q => ∃ i j, xs = [.int i, .int j] ∧ Q (.int (if j < i then j else i)) H
theorem ev_mx2 {a b : Int} (ha : EvD K B ta Γ (.int a)) (hb : EvD K B tb Γ (.int b)) : EvD K B (tCB rMx2 (tCons ta (tCons tb tNil))) Γ (.int (if b > a then b else a)) := ev_cb (ea_cons ha (ea_cons hb ea_nil)) fun vs G H hv e Q q => by
  cases hv with
  | cons h1 t =>
    cases t with
    | cons h2 t =>
      cases t
      have e1 := h1.int_inv
      have e2 := h2.int_inv
      subst e1 e2
      exact ⟨a, b, rfl, q _ G H (Grow.refl e) (.int _)⟩
theorem ev_mn2 {a b : Int} (ha : EvD K B ta Γ (.int a)) (hb : EvD K B tb Γ (.int b)) : EvD K B (tCB rMn2 (tCons ta (tCons tb tNil))) Γ (.int (if b < a then b else a)) := ev_cb (ea_cons ha (ea_cons hb ea_nil)) fun vs G H hv e Q q => by
  cases hv with
  | cons h1 t =>
    cases t with
    | cons h2 t =>
      cases t
      have e1 := h1.int_inv
      have e2 := h2.int_inv
      subst e1 e2
      exact ⟨a, b, rfl, q _ G H (Grow.refl e) (.int _)⟩
theorem nx_retW {Q : VK} {f : DD → Prop} {tr : Hp → Prop} (h : EvD K B te (.own (drwR p q) :: Γ) (.bool true)) (kk : ∀ v r Γ F σ H', r = .bool true → S K B (.own (drwR p q) :: Γ) (Fra.dat F v r) σ H' → Q v H') : Nx K B (tRet te { nx := fun _ H' => Q .non H', rt := Q }) (.own (drwR p q) :: Γ) F := nx_ret h fun v d σ H' e s => kk v d _ _ _ _ e s
end
end Ly

set_option maxHeartbeats 1000000
namespace Ly
open PySem PySem.Spec PyProof.Rows L2
inductive LLOk (K : FK) (G H : Hp) : List Addr → List (List DD) → Prop
  | nil : LLOk K G H [] []
  | cons {a : Addr} {as : List Addr} {ds : List DD} {dss : List (List DD)} {xs : List V} : H a = some (.lst xs) → DaL K G xs ds → LLOk K G H as dss → LLOk K G H (a :: as) (ds :: dss)
section
variable {K : FK} {G G' H H' : Hp}
theorem LLOk.mono (e : Ex G G') : ∀ {as : List Addr} {dss : List (List DD)}, LLOk K G H as dss → LLOk K G' H as dss
  | _, _, .nil => .nil
  | _, _, .cons h1 h2 h3 => .cons h1 (h2.mono e) (h3.mono e)
theorem LLOk.loc : ∀ {as : List Addr} {dss : List (List DD)}, (∀ a o, a ∈ as → H a = some o → H' a = some o) → LLOk K G H as dss → LLOk K G H' as dss
  | _, _, _, .nil => .nil
  | _, _, e, .cons h1 h2 h3 => .cons (e _ _ (by simp) h1) h2 (h3.loc fun a o ha => e a o (by simp [ha]))
theorem LLOk.dom : ∀ {as : List Addr} {dss : List (List DD)}, LLOk K G H as dss → ∀ a ∈ as, ∃ o, H a = some o
  | _, _, .nil => fun a h => nomatch h
  | _, _, .cons h1 h2 h3 => fun a h => by
    rcases List.mem_cons.mp h with e | e
    · rw [e]; exact ⟨_, h1⟩
    · exact h3.dom a e
theorem LLOk.len : ∀ {as : List Addr} {dss : List (List DD)}, LLOk K G H as dss → as.length = dss.length
  | _, _, .nil => rfl
  | _, _, .cons _ _ h => congrArg (· + 1) h.len
theorem LLOk.get : ∀ {as : List Addr} {dss : List (List DD)} {i : Nat} {ds : List DD}, LLOk K G H as dss → dss[i]? = some ds → ∃ a xs, as[i]? = some a ∧ H a = some (.lst xs) ∧ DaL K G xs ds
  | _, _, _, _, .nil, e => by simp at e
  | _, _, 0, _, .cons h1 h2 _, e => by simp at e; subst e; exact ⟨_, _, rfl, h1, h2⟩
  | _, _, i + 1, ds, .cons _ _ h, e => by
    obtain ⟨a, xs, h1, h2⟩ := h.get (i := i) (ds := ds) (by simpa using e)
    exact ⟨a, xs, by simpa using h1, h2⟩
theorem LLOk.snoc {a : Addr} {ds : List DD} {xs : List V} (h1 : H a = some (.lst xs)) (h2 : DaL K G xs ds) : ∀ {as : List Addr} {dss : List (List DD)}, LLOk K G H as dss → LLOk K G H (as ++ [a]) (dss ++ [ds])
  | _, _, .nil => .cons h1 h2 .nil
  | _, _, .cons q1 q2 q3 => .cons q1 q2 (q3.snoc h1 h2)
/-- all of them as data, where the ghost heap holds them -/
theorem LLOk.dat (e : Ex G G') : ∀ {as : List Addr} {dss : List (List DD)}, LLOk K G H as dss → (∀ a ∈ as, G' a = H a) → DaL K G' (as.map V.ref) (dss.map .list)
  | _, _, .nil, _ => .nil
  | _, _, .cons h1 h2 h3, g => .cons (.lst ((g _ (by simp)).trans h1) (h2.mono e)) (h3.dat e fun a ha => g a (by simp [ha]))
/-- one of them is written -/
theorem LLOk.put {a : Addr} {ds : List DD} {xs : List V} (h2 : DaL K G xs ds) : ∀ {as : List Addr} {dss : List (List DD)} {i : Nat}, LLOk K G H as dss → as.Nodup → as[i]? = some a → LLOk K G (upd H a (.lst xs)) as (dss.set i ds)
  | _, _, _, .nil, _, e => by simp at e
  | a0 :: as, _, 0, .cons h1 q2 h3, nd, e => by
    simp at e; subst e
    refine .cons upd_same h2 (h3.loc fun b o hb q => ?_)
    rw [upd_ne (fun (z : b = a0) => (List.nodup_cons.mp nd).1 (z ▸ hb))]; exact q
  | a0 :: as, _, i + 1, .cons h1 q2 h3, nd, e => by
    have e' : as[i]? = some a := by simpa using e
    have hm : a ∈ as := List.mem_of_getElem? e'
    refine .cons ?_ q2 (h3.put h2 (List.nodup_cons.mp nd).2 e')
    rw [upd_ne (fun (z : a0 = a) => (List.nodup_cons.mp nd).1 (z ▸ hm))]; exact h1
end
def llR (p : Addr) (ps : List Addr) (dss : List (List DD)) : Res where
  as := p :: ps
  ok := fun K G v H => v = .ref p ∧ (p :: ps).Nodup ∧ H p = some (.lst (ps.map V.ref)) ∧ LLOk K G H ps dss
  mono := fun e ⟨h1, h2, h3, h4⟩ => ⟨h1, h2, h3, h4.mono e⟩
  loc := fun e ⟨h1, h2, h3, h4⟩ => ⟨h1, h2, e _ _ (by simp) h3, h4.loc fun a o ha => e a o (by simp [ha])⟩
  dom := fun ⟨h1, h2, h3, h4⟩ a ha => by
    rcases List.mem_cons.mp ha with e | e
    · rw [e]; exact ⟨_, h3⟩
    · exact h4.dom a e
/-- an own list of values, nothing told of them -/
def rfR (q : Addr) (vs : List V) : Res where
  as := [q]
  ok := fun K G v H => v = .ref q ∧ H q = some (.lst vs)
  mono := fun e h => h
  loc := fun e ⟨h1, h2⟩ => ⟨h1, e _ _ (by simp) h2⟩
  dom := fun ⟨h1, h2⟩ a ha => by
    have e : a = q := by simpa using ha
    subst e; exact ⟨_, h2⟩
def Sl.isOwn : Sl → Bool
  | .own _ => true
  | _ => false
def noOwn (Γ : List Sl) : Bool := Γ.all fun s => !s.isOwn
theorem noOwn_as {Γ : List Sl} (h : noOwn Γ = true) {i : Nat} {s : Sl} (e : Γ[i]? = some s) : s.as = [] := by
  have := List.all_eq_true.mp h s (List.mem_of_getElem? e)
  cases s with
  | no => rfl
  | dat d => rfl
  | own r => simp [Sl.isOwn] at this
/-- the ghost heap with the things at as, as they stand -/
def gAt (G H : Hp) (as : List Addr) : Hp := fun a => if a ∈ as then H a else G a
section
variable {K : FK} {B : Bs} {Γ Γ' : List Sl} {F : Fra} {D : Ends} {σ : L2.St} {G G' H : Hp} {te : TE} {tt : TT} {i j k g : Nat} {p q : Addr} {ps : List Addr} {dss : List (List DD)} {r : Res}
theorem gAt_ex (hg : ∀ a ∈ as, G a = none) : Ex G (gAt G H as) := fun a o h => by
  unfold gAt
  split
  · rename_i ha; rw [hg a ha] at h; cases h
  · exact h
theorem gAt_exH (e : Ex G H) : Ex (gAt G H as) H := fun a o h => by
  unfold gAt at h
  split at h
  · exact h
  · exact e a o h
theorem gAt_mem {a : Addr} (h : a ∈ as) : gAt G H as a = H a := by unfold gAt; rw [if_pos h]
/-- the state as data alone, from here -/
theorem brw_S {σ2 : L2.St} (hl : Γ'.length = σ2.length) (e : Ex G' H) (hs : ∀ (i : Nat) s, Γ'[i]? = some s → s.as = [] ∧ SlOk K G' H s σ2[i]?) : S0 K (bs0 G' H) Γ' ⟨[], []⟩ σ2 H G' := by
  have own : ∀ j, ownAt Γ' ⟨[], []⟩ j = [] := fun j => by
    unfold ownAt
    split
    · rename_i hj
      rw [List.getElem?_eq_getElem hj]
      exact (hs j _ (List.getElem?_eq_getElem hj)).1
    · simp
  exact ⟨hl.symm, Grow.refl e, fun i s h => (hs i s h).2, fun p hp => (nomatch hp), fun p hp => (nomatch hp), fun i j a ha => (by rw [own] at ha; cases ha), fun i a ha => (by rw [own] at ha; cases ha)⟩
/-- back from there -/
theorem brw_back {G2 H' : Hp} {Γ2 : List Sl} {F2 : Fra} {σ2 : L2.St} (z : S0 K B Γ F σ H G) (e : Ex G G') (z2 : S0 K (bs0 G' H) Γ2 F2 σ2 H' G2) : S0 K B Γ F σ H' G := by
  have gr : Grow [] G H G H' := ⟨Ex.refl G, (e.trans z2.grow.g).trans z2.ex, z2.grow.fr, fun _ _ _ h => h, z2.grow.dom⟩
  exact z.step (T' := F.T) gr fun p hp => z.tm p hp
theorem brw_T {σ2 : L2.St} {c : Bool} {Q : Bool → Hp → Prop} (z : S0 K B Γ F σ H G) (e : Ex G G') (e2 : Ex G' H) (hl : Γ'.length = σ2.length) (hs : ∀ (i : Nat) s, Γ'[i]? = some s → s.as = [] ∧ SlOk K G' H s σ2[i]?) (h : EvT K (bs0 G' H) tt Γ' c) (q : ∀ H', S0 K B Γ F σ H' G → Q c H') : tt σ2 H Q :=
  h _ σ2 H ⟨G', brw_S hl e2 hs⟩ _ fun H' ⟨G2, z2⟩ => q H' (brw_back z e z2)
theorem brw_D {σ2 : L2.St} {d : DD} {Q : VK} (z : S0 K B Γ F σ H G) (e : Ex G G') (e2 : Ex G' H) (hl : Γ'.length = σ2.length) (hs : ∀ (i : Nat) s, Γ'[i]? = some s → s.as = [] ∧ SlOk K G' H s σ2[i]?) (h : EvD K (bs0 G' H) te Γ' d) (hd : ∀ v G2, Da K G2 v d → ∀ G3, Da K G3 v d) (q : ∀ v H', S K B Γ (F.dat v d) σ H' → Q v H') : te σ2 H Q :=
  h _ σ2 H ⟨G', brw_S hl e2 hs⟩ _ fun v d' H' ed ⟨G2, z2⟩ => by
    subst ed
    have hv := z2.tm (v, d') (by simp)
    refine q v H' (S.c ⟨G, brw_back z e z2⟩ fun G3 => hd v G2 hv G3)
/-- an own list of own lists as data: d; nothing else is owned -/
theorem brw_ll (z : S0 K B Γ F σ H G) (hj : Γ[j]? = some (.own (llR p ps dss))) (hn : noOwn (Γ.set j .no) = true) : ∃ G', Ex G G' ∧ Ex G' H ∧ (∀ a ∈ p :: ps, G' a = H a) ∧ ∀ (i : Nat) s, (Γ.set j (.dat (.list (dss.map .list))))[i]? = some s → s.as = [] ∧ SlOk K G' H s σ[i]? := by
  have hg : ∀ a ∈ p :: ps, G a = none := fun a ha => (z.mine j a (by rw [ownAt_slot hj]; exact ha)).1
  have e1 : Ex G (gAt G H (p :: ps)) := gAt_ex hg
  refine ⟨gAt G H (p :: ps), e1, gAt_exH z.ex, fun a ha => gAt_mem ha, fun i s h => ?_⟩
  have hlt : j < Γ.length := (List.getElem?_eq_some_iff.mp hj).1
  by_cases hi : i = j
  · subst hi
    rw [List.getElem?_set_self hlt] at h
    cases h
    obtain ⟨v, hv, rfl, nd, hp, hh⟩ := z.own hj
    exact ⟨rfl, _, hv, .lst ((gAt_mem (by simp)).trans hp) (hh.dat e1 fun a ha => gAt_mem (by simp [ha]))⟩
  · rw [List.getElem?_set_ne (Ne.symm hi)] at h
    have h0 : (Γ.set j .no)[i]? = some s := by rw [List.getElem?_set_ne (Ne.symm hi)]; exact h
    have ha := noOwn_as hn h0
    exact ⟨ha, (z.sl i s h).step e1 fun a u m => by rw [ha] at m; cases m⟩
/-- those that bs takes -/
def selB {α : Type} (bs : List Bool) (xs : List α) : List α := ((xs.zip bs).filter fun x => x.2).map fun x => x.1
def selA (bs : List Bool) (ps : List Addr) : List V := (selB bs ps).map V.ref
theorem selB_step {α : Type} {bs : List Bool} {xs : List α} {i : Nat} {a : α} {b : Bool} (h1 : xs[i]? = some a) (h2 : bs[i]? = some b) : selB (bs.take (i + 1)) (xs.take (i + 1)) = selB (bs.take i) (xs.take i) ++ (if b = true then [a] else []) := by
  have l1 : i < xs.length := (List.getElem?_eq_some_iff.mp h1).1
  have l2 : i < bs.length := (List.getElem?_eq_some_iff.mp h2).1
  unfold selB
  rw [List.take_add_one, List.take_add_one, h1, h2, Option.toList_some, Option.toList_some, List.zip_append (by rw [List.length_take, List.length_take]; omega), List.filter_append, List.map_append]
  congr 1
  simp only [List.zip_cons_cons, List.zip_nil_right, List.filter_cons, List.filter_nil]
  split <;> simp
theorem selA_step {bs : List Bool} {i : Nat} {a : Addr} {b : Bool} (h1 : ps[i]? = some a) (h2 : bs[i]? = some b) : selA (bs.take (i + 1)) (ps.take (i + 1)) = selA (bs.take i) (ps.take i) ++ (if b = true then [.ref a] else []) := by
  unfold selA
  rw [selB_step h1 h2, List.map_append]
  congr 1
  split <;> rfl
theorem selB_len {α : Type} {bs : List Bool} {xs : List α} : (selB bs xs).length ≤ xs.length := by
  unfold selB
  rw [List.length_map]
  refine Nat.le_trans (List.length_filter_le _ _) ?_
  rw [List.length_zip]; omega
theorem selA_len {bs : List Bool} : (selA bs ps).length ≤ ps.length := by
  unfold selA
  rw [List.length_map]
  exact selB_len
/-- [x for x in xs if ..], xs an own list of own lists: the references -/
theorem er_pick {us : List Nat} {bs : List Bool} (hj : Γ[j]? = some (.own (llR p ps dss))) (hn : noOwn (Γ.set j .no) = true) (hgj : g ≠ j) (hno : AllNo Γ us) (hu : g ∈ us) (hz : szLt ps.length = true) (hbl : bs.length = dss.length)
    (hs : ∀ (i : Nat) ds b, dss[i]? = some ds → bs[i]? = some b → ∀ G' H', EvT K (bs0 G' H') tt ((Γ.set j (.dat (.list (dss.map .list)))).set g (.dat (.list ds))) b) :
    EvR K B (tLc (iList K (tVar j)) (gName g) tt (tVar g) us) Γ (fun v r => ∃ q, v = .ref q ∧ q ∉ B.L ∧ r = rfR q (selA bs ps)) := fun F σ H s Q q => by
  obtain ⟨G0, s0⟩ := id s
  obtain ⟨v0, hv0, rfl, _, hp0, hl0⟩ := s0.own hj
  refine ⟨_, hv0, p, rfl, ⟨_, SqL.of hp0⟩, fun Dl hD => ?_⟩
  have hDl : Dl ∉ B.L := s0.notLent hD
  have hlen : σ.length = Γ.length := s0.len
  have hgl : g < Γ.length := (List.getElem?_eq_some_iff.mp (hno.at hu)).1
  have hll : ps.length = dss.length := hl0.len
  refine ⟨fun i m H => m = ps.length - i ∧ i ≤ ps.length ∧ S K B Γ (F.res1 (.ref Dl) (rfR Dl (selA (bs.take i) (ps.take i)))) σ H, ⟨ps.length, by simp, Nat.zero_le _, G0, ?_⟩, ?_⟩
  · exact s0.newRes (Grow.free s0.ex hD) ⟨rfl, by simp [selA, selB, upd_same]⟩ fun a ha => by
      have e : a = Dl := by simpa [rfR] using ha
      rw [e]; exact hD
  rintro i m H2 ⟨rfl, hle, G2, z2⟩
  obtain ⟨v1, hv1, rfl, nd, hp, hl⟩ := z2.own hj
  have sq : SqL K H2 p (ps.map V.ref) := SqL.of hp
  by_cases hlt : i < ps.length
  · have h1 : ps[i]? = some ps[i] := List.getElem?_eq_getElem hlt
    have h2 : dss[i]? = some (dss[i]'(hll ▸ hlt)) := List.getElem?_eq_getElem (hll ▸ hlt)
    have h4 : bs[i]? = some (bs[i]'(by omega)) := List.getElem?_eq_getElem (by omega)
    have h3 : (ps.map V.ref)[i]? = some (.ref ps[i]) := by rw [List.getElem?_map, h1]; rfl
    refine .inr ⟨⟨_, _, sq, h3⟩, fun H' => S K B Γ (F.res1 (.ref Dl) (rfR Dl (selA (bs.take (i + 1)) (ps.take (i + 1))))) σ H', fun H' s' => ⟨ps.length - (i + 1), by omega, rfl, hlt, s'⟩, fun x H3 hy => ?_⟩
    obtain ⟨rfl, hy⟩ := hy
    have hx := hy _ sq
    rw [h3] at hx
    cases hx
    have wl : (L2.wipe σ us).length = σ.length := wipe_length ..
    refine ⟨wipe_same (by rw [List.length_set, wl]) fun k hk => List.getElem?_set_ne (fun (e : g = k) => hk (e ▸ hu)), ?_⟩
    obtain ⟨G', e1, e2, hga, hsl⟩ := brw_ll z2 hj hn
    obtain ⟨a, xs, ha, hax, hda⟩ := hl.get h2
    rw [h1] at ha
    cases ha
    have hgj' : g < (Γ.set j (.dat (.list (dss.map .list)))).length := by rw [List.length_set]; exact hgl
    refine brw_T (Γ' := (Γ.set j (.dat (.list (dss.map .list)))).set g (.dat (.list (dss[i]'(hll ▸ hlt))))) z2 e1 e2 (by simp [wl, hlen]) (fun k s hk => ?_) (hs i _ _ h2 h4 G' _) fun H5 z5 => ?_
    · by_cases hkg : k = g
      · subst hkg
        rw [List.getElem?_set_self hgj'] at hk
        cases hk
        refine ⟨rfl, .ref ps[i], ?_, .lst ((hga _ (List.mem_cons_of_mem _ (List.getElem_mem hlt))).trans hax) (hda.mono e1)⟩
        exact List.getElem?_set_self (by rw [wl, hlen]; exact hgl)
      · rw [List.getElem?_set_ne (Ne.symm hkg)] at hk
        rw [List.getElem?_set_ne (Ne.symm hkg)]
        obtain ⟨q1, q2⟩ := hsl k s hk
        refine ⟨q1, ?_⟩
        by_cases hku : k ∈ us
        · have : (Γ.set j (.dat (.list (dss.map .list))))[k]? = some .no := by
            by_cases hkj : k = j
            · subst hkj
              rw [hno.at hku] at hj; cases hj
            · rw [List.getElem?_set_ne (Ne.symm hkj)]; exact hno.at hku
          rw [this] at hk
          cases hk
          trivial
        · rw [wipe_at, if_neg hku]; exact q2
    · have hx5 := z5.xm (.ref Dl, rfR Dl (selA (bs.take i) (ps.take i))) (by simp)
      obtain ⟨_, hq5⟩ := hx5
      cases hb : bs[i]'(by omega) with
      | false =>
        refine ⟨G2, ?_⟩
        rw [selA_step h1 h4, hb, if_neg (by simp), List.append_nil]
        exact z5
      | true =>
        refine ⟨.ref ps[i], List.getElem?_set_self (by rw [wl, hlen]; exact hgl), _, hq5, sz_lt (Nat.lt_of_le_of_lt selA_len (Nat.lt_of_le_of_lt (by rw [List.length_take]; omega) (szLt_of hz))), G2, ?_⟩
        rw [selA_step h1 h4, hb, if_pos rfl]
        have hm : Dl ∈ ownAt Γ (Fra.res1 F (.ref Dl) (rfR Dl (selA (bs.take i) (ps.take i)))) (Γ.length + F.X.length) := by rw [ownAt_res, if_pos rfl]; simp [rfR]
        exact z5.updX (r' := rfR Dl (selA (bs.take i) (ps.take i) ++ [.ref ps[i]])) (T' := F.T) (Grow.put z5.ex (z5.mine _ Dl hm).1 (by simp [rfR])) rfl ⟨rfl, upd_same⟩ fun p hp => z5.tm p hp
  · have e : i = ps.length := by omega
    refine .inl ⟨⟨_, sq, by rw [List.length_map, e]; exact Nat.le_refl _⟩, ?_⟩
    have e3 : selA (bs.take i) (ps.take i) = selA bs ps := by rw [e, List.take_length, hll, ← hbl, List.take_length]
    rw [e3] at z2
    exact q _ _ H2 ⟨Dl, rfl, hDl, rfl⟩ ⟨G2, z2⟩
end
end Ly

set_option maxHeartbeats 1000000
namespace Ly
open PySem PySem.Spec PyProof.Rows L2
theorem selB_map {α β : Type} (f : α → β) : ∀ (bs : List Bool) (xs : List α), selB bs (xs.map f) = (selB bs xs).map f
  | [], xs => by simp [selB]
  | b :: bs, [] => by simp [selB]
  | b :: bs, x :: xs => by
    have ih := selB_map f bs xs
    unfold selB at ih ⊢
    simp only [List.map_cons, List.zip_cons_cons, List.filter_cons]
    cases b
    · simpa using ih
    · simpa using ih
theorem DaL.sel {K : FK} {G : Hp} : ∀ (bs : List Bool) {vs : List V} {ds : List DD}, DaL K G vs ds → DaL K G (selB bs vs) (selB bs ds)
  | [], _, _, _ => by simp [selB]; exact .nil
  | _ :: _, _, _, .nil => by simp [selB]; exact .nil
  | b :: bs, _, _, .cons h t => by
    have ih := DaL.sel bs t
    unfold selB at ih ⊢
    simp only [List.zip_cons_cons, List.filter_cons]
    cases b
    · simpa using ih
    · simpa using DaL.cons h ih
section
variable {K : FK} {B : Bs} {Γ Γ' : List Sl} {F : Fra} {D : Ends} {σ : L2.St} {G G' H : Hp} {te : TE} {tt : TT} {i j k g : Nat} {p q : Addr} {ps : List Addr} {dss : List (List DD)} {r : Res} {bs : List Bool}
/-- a test on such lists and the references to some of them, both looked at as data -/
theorem et_sel {c : Bool} (hj : Γ[j]? = some (.own (llR p ps dss))) (hk : Γ[k]? = some (.own (rfR q (selA bs ps)))) (hjk : j ≠ k) (hn : noOwn ((Γ.set j .no).set k .no) = true)
    (hs : ∀ G' H', EvT K (bs0 G' H') tt ((Γ.set j (.dat (.list (dss.map .list)))).set k (.dat (.list ((selB bs dss).map .list)))) c) : EvT K B tt Γ c := fun F σ H ⟨G, z⟩ Q q0 => by
  have hg : ∀ a ∈ q :: p :: ps, G a = none := fun a ha => by
    rcases List.mem_cons.mp ha with e | e
    · exact (z.mine k a (by rw [ownAt_slot hk, e]; simp [Sl.as, rfR])).1
    · exact (z.mine j a (by rw [ownAt_slot hj]; exact e)).1
  have e1 : Ex G (gAt G H (q :: p :: ps)) := gAt_ex hg
  have hjl : j < Γ.length := (List.getElem?_eq_some_iff.mp hj).1
  have hkl : k < Γ.length := (List.getElem?_eq_some_iff.mp hk).1
  refine brw_T (Γ' := (Γ.set j (.dat (.list (dss.map .list)))).set k (.dat (.list ((selB bs dss).map .list)))) z e1 (gAt_exH z.ex) (by simp [z.len]) (fun i s h => ?_) (hs _ _) fun H' z' => q0 H' ⟨G, z'⟩
  obtain ⟨v, hv, rfl, nd, hp, hh⟩ := z.own hj
  obtain ⟨u, hu, rfl, hq⟩ := z.own hk
  have hd : DaL K (gAt G H (q :: p :: ps)) (ps.map V.ref) (dss.map .list) := hh.dat e1 fun a ha => gAt_mem (by simp [ha])
  by_cases hik : i = k
  · subst hik
    rw [List.getElem?_set_self (by simpa using hkl)] at h
    cases h
    refine ⟨rfl, _, hu, .lst ((gAt_mem (by simp)).trans hq) ?_⟩
    unfold selA
    rw [← selB_map, ← selB_map]
    exact hd.sel bs
  rw [List.getElem?_set_ne (Ne.symm hik)] at h
  by_cases hij : i = j
  · subst hij
    rw [List.getElem?_set_self hjl] at h
    cases h
    exact ⟨rfl, _, hv, .lst ((gAt_mem (by simp)).trans hp) hd⟩
  · rw [List.getElem?_set_ne (Ne.symm hij)] at h
    have h0 : ((Γ.set j .no).set k .no)[i]? = some s := by rw [List.getElem?_set_ne (Ne.symm hik), List.getElem?_set_ne (Ne.symm hij)]; exact h
    have ha := noOwn_as hn h0
    exact ⟨ha, (z.sl i s h).step e1 fun a u m => by rw [ha] at m; cases m⟩
/-- xs[0].append(e), xs the references to some of the own lists -/
theorem nx_appSel {a : Addr} {n : Nat} {ds : List DD} {d : DD} (hj : Γ[j]? = some (.own (llR p ps dss))) (hk : Γ[k]? = some (.own (rfR q (.ref a :: vs)))) (ha : ps[n]? = some a) (hd : dss[n]? = some ds) (h : EvD K B te Γ d) (hz : szLt ds.length = true)
    (kk : Nx K B D.nx (Γ.set j (.own (llR p ps (dss.set n (ds ++ [d]))))) F) :
    Nx K B (tDrop (tBM K "list" rAppend (tOp (rIxL K) (tVar k) (tC (.int 0))) (tCons te tNil)) D) Γ F := fun σ H s => by
  obtain ⟨G, s0⟩ := id s
  obtain ⟨v, hv, rfl, hq⟩ := s0.own hk
  have cell : ∀ {F' : Fra} {σ' : L2.St} {H' G' : Hp}, S0 K B Γ F' σ' H' G' → ∃ xs, H' a = some (.lst xs) ∧ DaL K G' xs ds := fun z => by
    obtain ⟨_, _, rfl, _, _, hl⟩ := z.own hj
    obtain ⟨a', xs, e1, e2, e3⟩ := hl.get hd
    rw [ha] at e1
    cases e1
    exact ⟨xs, e2, e3⟩
  obtain ⟨xs, hx, hxd⟩ := cell s0
  refine ⟨.ref q, hv, q, _, 0, .ref a, rfl, rfl, SqL.of hq, (by unfold atI ixN; simp), .inl ⟨rfl, xs, SqL.of hx⟩, ?_⟩
  refine h F σ H s _ fun w d' H' e s' => ?_
  subst e
  obtain ⟨G', s1⟩ := s'
  obtain ⟨ys, hy, hyd⟩ := cell s1
  refine ⟨a, ys, w, rfl, rfl, hy, sz_lt (by rw [hyd.length]; exact szLt_of hz), ?_⟩
  obtain ⟨v2, hv2, rfl, nd, hp, hl⟩ := s1.own hj
  have ham : a ∈ ps := List.mem_of_getElem? ha
  have hm : a ∈ ownAt Γ (F.dat w d') j := by rw [ownAt_slot hj]; simp [Sl.as, llR, ham]
  have hg : G' a = none := (s1.mine j a hm).1
  have hpa : p ≠ a := fun e => (List.nodup_cons.mp nd).1 (e ▸ ham)
  have s2 := s1.updOwn (r' := llR p ps (dss.set n (ds ++ [d']))) (T' := F.T) hj (Grow.put (o := .lst (ys ++ [w])) s1.ex hg (by simp [llR, ham])) rfl hv2 ⟨rfl, nd, by rw [upd_ne hpa]; exact hp, hl.put (hyd.append (.cons (s1.tm (w, d') (by simp)) .nil)) (List.nodup_cons.mp nd).2 ha⟩ fun q hq => s1.tm q (by simp [hq])
  exact kk _ _ ⟨G', s2⟩
/-- two own things in one -/
def cmbR (r r2 : Res) (u : V) : Res where
  as := r.as ++ r2.as
  ok := fun K G v H => r.ok K G v H ∧ r2.ok K G u H
  mono := fun e ⟨h1, h2⟩ => ⟨r.mono e h1, r2.mono e h2⟩
  loc := fun e ⟨h1, h2⟩ => ⟨r.loc (fun a o ha => e a o (List.mem_append_left _ ha)) h1, r2.loc (fun a o ha => e a o (List.mem_append_right _ ha)) h2⟩
  dom := fun ⟨h1, h2⟩ a ha => by
    rcases List.mem_append.mp ha with z | z
    · exact r.dom h1 a z
    · exact r2.dom h2 a z
theorem S0.joinSlot {r2 : Res} {u : V} (h : S0 K B Γ (F.res1 u r2) σ H G) (hj : Γ[j]? = some (.own r)) : S0 K B (Γ.set j (.own (cmbR r r2 u))) F σ H G := by
  have hi : j < Γ.length := (List.getElem?_eq_some_iff.mp hj).1
  have hr : r2.ok K G u H := h.xm (u, r2) (by simp)
  have hE : ∀ a, a ∈ r2.as → a ∈ ownAt Γ (F.res1 u r2) (Γ.length + F.X.length) := fun a ha => by rw [ownAt_res, if_pos rfl]; exact ha
  have hA : ∀ i a, a ∈ ownAt Γ F i → a ∈ ownAt Γ (F.res1 u r2) i := fun i a ha => by
    rw [ownAt_res]; split
    · rename_i e; subst e; rw [ownAt_end] at ha; cases ha
    · exact ha
  have hJ : ∀ a, a ∈ r.as → a ∈ ownAt Γ F j := fun a ha => by rw [ownAt_slot hj]; exact ha
  have own : ∀ i a, a ∈ ownAt (Γ.set j (.own (cmbR r r2 u))) F i → (a ∈ ownAt Γ F i) ∨ (i = j ∧ a ∈ r2.as) := fun i a ha => by
    rw [ownAt_set _ hi] at ha
    split at ha
    · rename_i e
      rcases List.mem_append.mp (show a ∈ r.as ++ r2.as from ha) with z | z
      · exact .inl (e ▸ hJ a z)
      · exact .inr ⟨e, z⟩
    · exact .inl ha
  refine ⟨by simpa using h.len, h.grow, fun i t e => ?_, h.tm, fun p hp => h.xm p (by simp [hp]), fun i i2 a h1 h2 => ?_, fun i a h1 => ?_⟩
  · by_cases hij : i = j
    · subst hij
      rw [List.getElem?_set_self hi] at e
      cases e
      obtain ⟨v, hv, ok⟩ := h.own hj
      exact ⟨v, hv, ok, hr⟩
    · rw [List.getElem?_set_ne (Ne.symm hij)] at e
      exact h.sl i t e
  · rcases own i a h1 with z1 | ⟨e1, z1⟩ <;> rcases own i2 a h2 with z2 | ⟨e2, z2⟩
    · exact h.apart i i2 a (hA i a z1) (hA i2 a z2)
    · have := h.apart i _ a (hA i a z1) (hE a z2)
      subst this; rw [ownAt_end] at z1; cases z1
    · have := h.apart _ i2 a (hE a z1) (hA i2 a z2)
      subst this; rw [ownAt_end] at z2; cases z2
    · rw [e1, e2]
  · rcases own i a h1 with z1 | ⟨e1, z1⟩
    · exact h.mine i a (hA i a z1)
    · exact h.mine _ a (hE a z1)
/-- xs.append([..]), a new own list -/
theorem nx_appLL {Ps : List DD → Prop} (hj : Γ[j]? = some (.own (llR p ps dss))) (h : EvN K B te Γ Ps) (hz : szLt dss.length = true) (kk : ∀ a ds, Ps ds → a ∉ B.L → Nx K B D.nx (Γ.set j (.own (llR p (ps ++ [a]) (dss ++ [ds])))) F) :
    Nx K B (tDrop (tBM K "list" rAppend (tVar j) (tCons te tNil)) D) Γ F := fun σ H s => by
  obtain ⟨G, s0⟩ := id s
  obtain ⟨v, hv, rfl, nd0, hp0, hl0⟩ := s0.own hj
  refine ⟨.ref p, hv, .inl ⟨rfl, _, SqL.of hp0⟩, ?_⟩
  refine h F σ H s _ fun a ds H' pd hB s' => ?_
  obtain ⟨G', s1⟩ := s'
  obtain ⟨v2, hv2, rfl, nd, hp, hl⟩ := s1.own hj
  have hlen := hl.len
  refine ⟨p, _, .ref a, rfl, rfl, hp, sz_lt (by rw [List.length_map, hlen]; exact szLt_of hz), ?_⟩
  have hma : a ∈ ownAt Γ (F.res1 (.ref a) (lstR a ds)) (Γ.length + F.X.length) := by rw [ownAt_res, if_pos rfl]; simp [lstR]
  have hjl : j < Γ.length := (List.getElem?_eq_some_iff.mp hj).1
  have hno : a ∉ p :: ps := fun z => by
    have hmj : a ∈ ownAt Γ (F.res1 (.ref a) (lstR a ds)) j := by rw [ownAt_res, if_neg (by omega), ownAt_slot hj]; exact z
    have := s1.apart _ _ a hma hmj
    omega
  have s2 := s1.joinSlot hj
  have hj2 : (Γ.set j (.own (cmbR (llR p ps dss) (lstR a ds) (.ref a))))[j]? = some (.own (cmbR (llR p ps dss) (lstR a ds) (.ref a))) := List.getElem?_set_self hjl
  have hm : p ∈ ownAt (Γ.set j (.own (cmbR (llR p ps dss) (lstR a ds) (.ref a)))) F j := by rw [ownAt_slot hj2]; simp [Sl.as, cmbR, llR]
  obtain ⟨_, xs, hax, had⟩ := s1.xm (.ref a, lstR a ds) (by simp)
  have hap : a ≠ p := fun e => hno (by simp [e])
  have hpp : p ∉ ps := (List.nodup_cons.mp nd).1
  have nd2 : (p :: (ps ++ [a])).Nodup := by
    have e : p :: (ps ++ [a]) = (p :: ps) ++ [a] := rfl
    rw [e]
    exact List.nodup_append.mpr ⟨nd, by simp, fun x hx y hy e2 => hno (by rw [List.mem_singleton.mp hy] at e2; rw [← e2]; exact hx)⟩
  have s3 := s2.updOwn (r' := llR p (ps ++ [a]) (dss ++ [ds])) (T' := F.T) hj2 (Grow.put (o := .lst (ps.map V.ref ++ [.ref a])) s2.ex (s2.mine j p hm).1 (by simp [cmbR, llR])) (by simp [cmbR, llR, lstR]) hv2 ⟨rfl, nd2, by rw [upd_same, List.map_append]; rfl, (hl.loc fun b o hb e => by rw [upd_ne (fun (z : b = p) => hpp (z ▸ hb))]; exact e).snoc (by rw [upd_ne hap]; exact hax) had⟩ fun q hq => s2.tm q hq
  rw [List.set_set] at s3
  exact kk a ds pd hB _ _ ⟨G', s3⟩
/-- many things frozen at once -/
theorem S0.thawAs {as : List Addr} (h : S0 K B Γ F σ H G) (hg : ∀ a ∈ as, G a = none ∧ (a ∈ B.L ∨ B.H a = none)) (ha : ∀ a ∈ as, ∀ j, a ∉ ownAt Γ F j) (hl : ∀ a ∈ as, a ∉ B.L) : S0 K B Γ F σ H (gAt G H as) := by
  have e : Ex G (gAt G H as) := gAt_ex fun a m => (hg a m).1
  refine ⟨h.len, ⟨h.grow.g.trans e, gAt_exH h.ex, h.grow.fr, fun a o q n => ?_, h.grow.dom⟩, fun j t z => (h.sl j t z).step e fun _ _ _ q => q, fun q hq => (h.tm q hq).mono e, fun q hq => q.2.mono e (h.xm q hq), h.apart, fun j a z => ?_⟩
  · unfold gAt
    split
    · rename_i m
      rcases (hg a m).2 with y | y
      · exact absurd y (hl a m)
      · rw [y] at q; cases q
    · exact h.grow.new a o q n
  · have : a ∉ as := fun m => ha a m j z
    unfold gAt
    rw [if_neg this]
    exact h.mine j a z
/-- an own thing becomes data -/
theorem nx_freezeAs {n : L2.St → Hp → Prop} {d : DD} (j : Nat) (hj : Γ[j]? = some (.own r)) (hl : ∀ a ∈ r.as, a ∉ B.L) (hd : ∀ G H v, r.ok K G v H → ∀ G', Ex G G' → (∀ a ∈ r.as, G' a = H a) → Da K G' v d) (k : Nx K B n (Γ.set j (.dat d)) F) : Nx K B n Γ F := fun σ H ⟨G, h⟩ => by
  have hi : j < Γ.length := (List.getElem?_eq_some_iff.mp hj).1
  obtain ⟨v, hv, ok⟩ := h.own hj
  have hm : ∀ a ∈ r.as, a ∈ ownAt Γ F j := fun a ha => by rw [ownAt_slot hj]; exact ha
  have hs : j < σ.length := by rw [h.len]; exact hi
  have eσ : σ.set j (some v) = σ := by
    have : σ[j] = some v := by
      rw [List.getElem?_eq_getElem hs] at hv; exact Option.some.inj hv
    rw [← this]; exact List.set_getElem_self hs
  have h0 : S0 K B (Γ.set j .no) F σ H G := h.forget
  have h1 := h0.thawAs (as := r.as) (fun a ha => h.mine j a (hm a ha)) (fun a ha i z => by
    rw [ownAt_set _ hi] at z
    split at z
    · cases z
    · rename_i hij; exact hij (h.apart i j a z (hm a ha))) hl
  have h2 := h1.setSl (i := j) (s := .dat d) (o := some v) (by simpa using hi) ⟨_, rfl, hd G H v ok _ (gAt_ex fun a ha => (h.mine j a (hm a ha)).1) fun a ha => gAt_mem ha⟩ rfl
  rw [List.set_set, eσ] at h2
  exact k _ _ ⟨_, h2⟩
theorem ll_dat {p : Addr} {ps : List Addr} {dss : List (List DD)} : ∀ G H v, (llR p ps dss).ok K G v H → ∀ G', Ex G G' → (∀ a ∈ (llR p ps dss).as, G' a = H a) → Da K G' v (.list (dss.map .list)) := fun G H v ⟨e, nd, hp, hl⟩ G' ex ha => by
  subst e
  exact .lst ((ha p (by simp [llR])).trans hp) (hl.dat ex fun a m => ha a (by simp [llR, m]))
/-- an empty own list as one of own lists -/
theorem nx_toLL {n : L2.St → Hp → Prop} (j : Nat) (hj : Γ[j]? = some (.own (lstR p []))) (k : Nx K B n (Γ.set j (.own (llR p [] []))) F) : Nx K B n Γ F :=
  nx_hide (r' := llR p [] []) j hj rfl (fun G v H ⟨h1, xs, h2, h3⟩ => ⟨h1, List.nodup_cons.mpr ⟨List.not_mem_nil, List.nodup_nil⟩, by cases h3; exact h2, .nil⟩) k
end

abbrev llI (p : Addr) (ps : List Addr) (gs : List (List Int)) : Res := llR p ps (gs.map fun g => g.map PyData.int)
theorem mpO_at {α β : Type} {f : α → Option β} : ∀ {xs : List α} {ys : List β}, mpO f xs = some ys → ∀ (i : Nat) x y, xs[i]? = some x → ys[i]? = some y → f x = some y
  | [], _, _, i, x, y, e, _ => by simp at e
  | a :: xs, ys, h, i, x, y, e1, e2 => by
    unfold mpO at h
    cases hf : f a with
    | none => rw [hf] at h; cases h
    | some b =>
      rw [hf] at h
      cases hm : mpO f xs with
      | none => rw [hm] at h; cases h
      | some zs =>
        rw [hm] at h
        cases h
        cases i with
        | zero => simp at e1 e2; subst e1 e2; exact hf
        | succ i => exact mpO_at hm i x y (by simpa using e1) (by simpa using e2)
def firstT : List Bool → Option Nat
  | [] => none
  | true :: _ => some 0
  | false :: bs => (firstT bs).map (· + 1)
def addFst (bs : List Bool) (x : Int) (gs : List (List Int)) : List (List Int) := match firstT bs with
  | none => gs ++ [[x]]
  | some n => gs.set n ((gs[n]?).getD [] ++ [x])
theorem firstT_none {α : Type} : ∀ {bs : List Bool} {xs : List α}, firstT bs = none → selB bs xs = []
  | [], xs, _ => by simp [selB]
  | true :: bs, xs, h => by cases h
  | false :: bs, [], h => by simp [selB]
  | false :: bs, x :: xs, h => by
    have h' : firstT bs = none := by
      unfold firstT at h
      cases e : firstT bs with
      | none => rfl
      | some n => rw [e] at h; cases h
    have ih := firstT_none (xs := xs) h'
    unfold selB at ih ⊢
    simpa using ih
theorem firstT_some {α : Type} : ∀ {bs : List Bool} {xs : List α} {n : Nat}, firstT bs = some n → bs.length = xs.length → ∃ x zs, xs[n]? = some x ∧ selB bs xs = x :: zs
  | [], xs, n, h, _ => by cases h
  | b :: bs, [], n, h, l => by simp at l
  | true :: bs, x :: xs, n, h, l => by
    cases h
    exact ⟨x, selB bs xs, rfl, by simp [selB]⟩
  | false :: bs, x :: xs, n, h, l => by
    unfold firstT at h
    cases e : firstT bs with
    | none => rw [e] at h; cases h
    | some m =>
      rw [e] at h
      cases h
      obtain ⟨y, zs, h1, h2⟩ := firstT_some (xs := xs) e (by simpa using l)
      refine ⟨y, zs, by simpa using h1, ?_⟩
      unfold selB at h2 ⊢
      simpa using h2
section
variable {K : FK} {B : Bs} {Γ Γ' : List Sl} {F : Fra} {D : Ends} {te tb : TE} {tt : TT} {i j k g : Nat} {p q : Addr} {ps : List Addr} {gs : List (List Int)} {bs : List Bool}
theorem er_pickI {us : List Nat} {f : List Int → Option Bool} (hj : Γ[j]? = some (.own (llI p ps gs))) (hn : noOwn (Γ.set j .no) = true) (hgj : g ≠ j) (hno : AllNo Γ us) (hu : g ∈ us) (hz : szLt gs.length = true) (hm : mpO f gs = some bs)
    (hs : ∀ x b, x ∈ gs → f x = some b → ∀ G' H', EvT K (bs0 G' H') tt ((Γ.set j (.dat (.list ((gs.map fun g => g.map PyData.int).map .list)))).set g (.dat (.list (x.map PyData.int)))) b) :
    EvR K B (tLc (iList K (tVar j)) (gName g) tt (tVar g) us) Γ (fun v r => ∃ q, v = .ref q ∧ q ∉ B.L ∧ r = rfR q (selA bs ps)) := fun F σ H s Q q => by
  obtain ⟨G0, s0⟩ := id s
  obtain ⟨v0, hv0, rfl, _, hp0, hl0⟩ := s0.own hj
  refine er_pick hj hn hgj hno hu (by rw [hl0.len, List.length_map]; exact hz) (by rw [mpO_len hm, List.length_map]) (fun i ds b h1 h2 G' H' => ?_) F σ H s Q q
  rw [List.getElem?_map] at h1
  cases hx : gs[i]? with
  | none => rw [hx] at h1; cases h1
  | some x =>
    rw [hx] at h1
    cases h1
    exact hs x b (List.mem_of_getElem? hx) (mpO_at hm i x b hx h2) G' H'
theorem selB_nil {gs : List (List Int)} (hl : bs.length = gs.length) : decide (selB bs gs = []) = decide (firstT bs = none) := by
  cases h : firstT bs with
  | none => rw [firstT_none h]; rfl
  | some n =>
    obtain ⟨x, zs, _, e⟩ := firstT_some (xs := gs) h hl
    rw [e]
    have : (some n = none) = False := by simp
    simp
theorem et_selI (hj : Γ[j]? = some (.own (llI p ps gs))) (hk : Γ[k]? = some (.own (rfR q (selA bs ps)))) (hjk : j ≠ k) (hn : noOwn ((Γ.set j .no).set k .no) = true) (hl : bs.length = gs.length)
    (hb : ∀ G' H', EvD K (bs0 G' H') tb ((Γ.set j (.dat (.list ((gs.map fun g => g.map PyData.int).map .list)))).set k (.dat (.list ((selB bs (gs.map fun g => g.map PyData.int)).map .list)))) (.list [])) :
    EvT K B (tTest (tOp (rEqD K) (tVar k) tb)) Γ (decide (firstT bs = none)) := by
  refine et_sel hj hk hjk hn fun G' H' => ?_
  have hkl : k < Γ.length := (List.getElem?_eq_some_iff.mp hk).1
  have hd : PyData.list ((selB bs (gs.map fun g => g.map PyData.int)).map .list) = eL (eL PyData.int) (selB bs gs) := by
    rw [selB_map, List.map_map]; rfl
  have h1 : EvD K (bs0 G' H') (tVar k) ((Γ.set j (.dat (.list ((gs.map fun g => g.map PyData.int).map .list)))).set k (.dat (.list ((selB bs (gs.map fun g => g.map PyData.int)).map .list)))) (eL (eL PyData.int) (selB bs gs)) :=
    EvD.to (ev_var (List.getElem?_set_self (by simpa using hkl))) hd
  have h2 := et_test (et_eq (tqL (tqL tqI)) (y := []) h1 (EvD.to (hb G' H') rfl))
  rw [selB_nil hl] at h2
  exact h2
theorem nx_appLLI (hj : Γ[j]? = some (.own (llI p ps gs))) {x : Int} (h : EvND K B te Γ [.int x]) (hz : szLt gs.length = true) (hf : firstT bs = none) (kk : ∀ ps', Nx K B D.nx (Γ.set j (.own (llI p ps' (addFst bs x gs)))) F) :
    Nx K B (tDrop (tBM K "list" rAppend (tVar j) (tCons te tNil)) D) Γ F := nx_appLL hj h (by rw [List.length_map]; exact hz) fun a ds e _ => by
  subst e
  have := kk (ps ++ [a])
  unfold addFst at this
  rw [hf] at this
  simpa [llI] using this
theorem nx_appSelI {x : Int} (hj : Γ[j]? = some (.own (llI p ps gs))) (hk : Γ[k]? = some (.own (rfR q (selA bs ps)))) (h : EvD K B te Γ (.int x)) (hl : bs.length = gs.length) (hz : (gs.all fun g => szLt g.length) = true) (hf : decide (firstT bs = none) = false) (kk : Nx K B D.nx (Γ.set j (.own (llI p ps (addFst bs x gs)))) F) :
    Nx K B (tDrop (tBM K "list" rAppend (tOp (rIxL K) (tVar k) (tC (.int 0))) (tCons te tNil)) D) Γ F := fun σ H s => by
  obtain ⟨G, s0⟩ := id s
  obtain ⟨_, _, rfl, _, _, hlo⟩ := s0.own hj
  have hps : ps.length = gs.length := by rw [hlo.len, List.length_map]
  cases e : firstT bs with
  | none => rw [e] at hf; simp at hf
  | some n =>
    obtain ⟨a, zs, h1, h2⟩ := firstT_some (xs := ps) e (by omega)
    obtain ⟨g, _, h3, _⟩ := firstT_some (xs := gs) e hl
    have hk' : Γ[k]? = some (.own (rfR q (.ref a :: zs.map V.ref))) := by
      rw [hk]; unfold selA; rw [h2]; rfl
    have e2 : addFst bs x gs = gs.set n (g ++ [x]) := by unfold addFst; rw [e]; dsimp only; rw [h3]; rfl
    rw [e2] at kk
    refine nx_appSel hj hk' h1 (ds := g.map PyData.int) (by rw [List.getElem?_map, h3]; rfl) h (by rw [List.length_map]; exact List.all_eq_true.mp hz g (List.mem_of_getElem? h3)) ?_ σ H s
    have e3 : (gs.map fun g => g.map PyData.int).set n (g.map PyData.int ++ [PyData.int x]) = (gs.set n (g ++ [x])).map fun g => g.map PyData.int := by rw [List.map_set]; simp
    rw [e3]
    exact kk
variable {α σ ρ τ : Type} {e : α → DD} {t : TS} {gt : TG}
/-- for, the state told by a relation -/
theorem nx_forKW {wi : TI} {xs : List α} {body : σ → α → M (Fl σ ρ)} {jj : ρ → M τ} {f : σ → M τ} {pp : τ → Prop} {r : Str → Prop} {s0 : σ} (k : Wp pp r (fb (forM body xs s0) jj f)) (Sw : σ → List Sl → Prop) (hi : EvI K B wi Γ (xs.map e)) (h0 : Sw s0 Γ)
    (hs : ∀ (R : σ → Prop) (q : Fl σ ρ → Prop), (∀ s, q (.nx s) → R s) → ∀ x s Γ1 F', Sw s Γ1 → Wp q r (body s x) →
      ∃ Γ2 vs, Tg K B gt (e x) Γ1 Γ2 vs ∧ Nx K B (t { D with nx := fun σ H => ∃ Γ3, (∃ s', R s' ∧ Sw s' Γ3) ∧ S K B Γ3 F' σ H, ct := fun σ H => ∃ Γ3, (∃ s', R s' ∧ Sw s' Γ3) ∧ S K B Γ3 F' σ H, bk := D.nx }) Γ2 F')
    (hd : ∀ s Γ1, Sw s Γ1 → Wp pp r (f s) → Nx K B D.nx Γ1 F) : Nx K B (tFor wi gt t D) Γ F := by
  refine nx_for hi (fun i Γ1 => ∃ s, Wp pp r (fb (forM body (xs.drop i) s) jj f) ∧ Sw s Γ1) ⟨s0, by rw [List.drop_zero]; exact k, h0⟩ (fun i d Γ1 F' hdi ⟨s, hw, hsw⟩ => ?_) (fun Γ1 ⟨s, hw, hsw⟩ => ?_)
  · rw [List.getElem?_map] at hdi
    cases hx : xs[i]? with
    | none => rw [hx] at hdi; cases hdi
    | some x =>
      rw [hx] at hdi
      cases hdi
      obtain ⟨hlt, ex⟩ := List.getElem?_eq_some_iff.mp hx
      rw [List.drop_eq_getElem_cons hlt, ex] at hw
      exact hs (fun s' => Wp pp r (fb (forM body (xs.drop (i + 1)) s') jj f)) _ (fun _ k => k) x s Γ1 F' hsw (wp_for hw)
  · rw [List.length_map, List.drop_length] at hw
    exact hd s Γ1 hsw hw
theorem nx_lpW {R : σ → Prop} {Sw : σ → List Sl → Prop} (s : σ) (h : R s) (q : Sw s Γ) : Nx K B (fun st H => ∃ Γ3, (∃ s', R s' ∧ Sw s' Γ3) ∧ S K B Γ3 F st H) Γ F := fun _ _ z => ⟨Γ, ⟨s, h, q⟩, z⟩
end
theorem ll_datI {K : FK} {p : Addr} {ps : List Addr} {gs : List (List Int)} : ∀ G H v, (llI p ps gs).ok K G v H → ∀ G', Ex G G' → (∀ a ∈ (llI p ps gs).as, G' a = H a) → Da K G' v (eL (eL PyData.int) gs) := fun G H v h G' e g => by
  have := ll_dat G H v h G' e g
  rw [List.map_map] at this
  exact this
theorem nx_toLLe {K : FK} {B : Bs} {Γ : List Sl} {F : Fra} {n : L2.St → Hp → Prop} {p : Addr} {e : List Int → DD} {v : List (List Int)} (j : Nat) (hv : [] = v) (hj : Γ[j]? = some (.own (lstR p (v.map e)))) (k : Nx K B n (Γ.set j (.own (llI p [] v))) F) : Nx K B n Γ F := by
  subst hv
  exact nx_toLL j hj k
end Ly

set_option maxHeartbeats 1000000
namespace Ly
open PySem PySem.Spec PyProof.Rows L2
section
variable {K : FK} {B : Bs} {Γ Γ' : List Sl} {F : Fra} {D : Ends} {σ : L2.St} {G G' H : Hp} {te tb ta : TE} {tt : TT} {i j k : Nat} {p q : Addr} {ps : List Addr} {dss : List (List DD)} {α β : Type} {e : α → DD} {e' : β → DD} {g : TG}
variable (B) in
def PrLL (dss : List (List DD)) : V → Res → Prop := fun v r => ∃ p ps, v = .ref p ∧ (∀ a ∈ p :: ps, a ∉ B.L) ∧ r = llR p ps dss
/-- two held things: a list and a new one that is put at its end -/
theorem S0.snocLL {a : Addr} {ds : List DD} {T' : List (V × DD)} (h : S0 K B Γ ((F.res1 (.ref p) (llR p ps dss)).res1 (.ref a) (lstR a ds)) σ H G) (ht : ∀ x ∈ T', Da K G x.1 x.2) : S0 K B Γ ⟨T', F.X ++ [(.ref p, llR p (ps ++ [a]) (dss ++ [ds]))]⟩ σ (upd H p (.lst (ps.map V.ref ++ [.ref a]))) G := by
  have h1 : (llR p ps dss).ok K G (.ref p) H := h.xm (.ref p, llR p ps dss) (by simp)
  have h2 : (lstR a ds).ok K G (.ref a) H := h.xm (.ref a, lstR a ds) (by simp)
  have hF : Γ.length + (F.res1 (.ref p) (llR p ps dss)).X.length ≠ Γ.length + F.X.length := by simp
  have own1 : ∀ x, x ∈ (llR p ps dss).as → x ∈ ownAt Γ ((F.res1 (.ref p) (llR p ps dss)).res1 (.ref a) (lstR a ds)) (Γ.length + F.X.length) := fun x hx => by
    rw [ownAt_res, if_neg (by simp), ownAt_res, if_pos rfl]; exact hx
  have own2 : a ∈ ownAt Γ ((F.res1 (.ref p) (llR p ps dss)).res1 (.ref a) (lstR a ds)) (Γ.length + (F.res1 (.ref p) (llR p ps dss)).X.length) := by
    rw [ownAt_res, if_pos rfl]; simp [lstR]
  obtain ⟨_, nd, hp, hl⟩ := h1
  obtain ⟨_, xs, hax, had⟩ := h2
  have hno : a ∉ p :: ps := fun z => by
    have := h.apart _ _ a own2 (own1 a z)
    exact hF this
  have h3 := h.joinX (r := cmbR (llR p ps dss) (lstR a ds) (.ref a)) (v := .ref p) ⟨⟨rfl, nd, hp, hl⟩, rfl, xs, hax, had⟩ (fun x hx => List.mem_append.mp hx)
  have hap : a ≠ p := fun z => hno (by simp [z])
  have hpp : p ∉ ps := (List.nodup_cons.mp nd).1
  have nd2 : (p :: (ps ++ [a])).Nodup := by
    have e : p :: (ps ++ [a]) = (p :: ps) ++ [a] := rfl
    rw [e]
    exact List.nodup_append.mpr ⟨nd, by simp, fun x hx y hy e2 => hno (by rw [List.mem_singleton.mp hy] at e2; rw [← e2]; exact hx)⟩
  have hm : p ∈ ownAt Γ (F.res1 (.ref p) (cmbR (llR p ps dss) (lstR a ds) (.ref a))) (Γ.length + F.X.length) := by rw [ownAt_res, if_pos rfl]; simp [cmbR, llR]
  exact h3.updX (r' := llR p (ps ++ [a]) (dss ++ [ds])) (T' := T') (Grow.put h3.ex (h3.mine _ p hm).1 (by simp [cmbR, llR])) (by simp [cmbR, llR, lstR]) ⟨rfl, nd2, by rw [upd_same, List.map_append]; rfl, (hl.loc fun b o hb e => by rw [upd_ne (fun (z : b = p) => hpp (z ▸ hb))]; exact e).snoc (by rw [upd_ne hap]; exact hax) had⟩ ht
/-- [[..] for x in xs] -/
theorem er_mapLL {wi : TI} {us : List Nat} {xs : List α} (f : α → List DD) (hi : EvI K B wi Γ (xs.map e)) (hno : AllNo Γ us) (hz : szLt xs.length = true)
    (hs : ∀ x, x ∈ xs → ∃ Γ2 vs, Tg K B g (e x) Γ Γ2 vs ∧ (∀ v ∈ vs, v ∈ us) ∧ EvND K B te Γ2 (f x)) : EvR K B (tLc wi g tYes te us) Γ (PrLL B (xs.map f)) := fun F σ H s Q q =>
  hi F σ H s _ fun J T0 X0 H1 hJ s1 Dl hD => by
    have hDl : Dl ∉ B.L := by obtain ⟨G1, z⟩ := id s1; exact z.notLent hD
    have hlen : σ.length = Γ.length := by obtain ⟨G1, z⟩ := id s1; exact z.len
    let F0 : Fra := ⟨T0 ++ F.T, F.X ++ X0⟩
    refine ⟨fun i m H => m = xs.length - i ∧ i ≤ xs.length ∧ ∃ ps, (∀ a ∈ Dl :: ps, a ∉ B.L) ∧ ps.length = i ∧ S K B Γ (F0.res1 (.ref Dl) (llR Dl ps ((xs.take i).map f))) σ H, ⟨xs.length, by simp, Nat.zero_le _, [], fun a ha => (by rw [List.mem_singleton.mp ha]; exact hDl), rfl, ?_⟩, ?_⟩
    · obtain ⟨G1, z⟩ := id s1
      refine ⟨G1, z.newRes (Grow.free z.ex hD) ⟨rfl, by simp, upd_same, .nil⟩ fun a ha => ?_⟩
      have e : a = Dl := by simpa [llR] using ha
      rw [e]; exact hD
    rintro i m H2 ⟨rfl, hle, ps, hpl, hpn, s2⟩
    obtain ⟨j1, j2⟩ := hJ Γ _ σ H2 s2 (fun p hp => by simp [F0, hp]) (fun p hp => by simp [F0, hp]) i
    by_cases hlt : i < xs.length
    · have hx : xs[i]? = some xs[i] := List.getElem?_eq_getElem hlt
      obtain ⟨go, y⟩ := j1 (e xs[i]) (by rw [List.getElem?_map, hx]; rfl)
      refine .inr ⟨go, fun H' => ∃ ps, (∀ a ∈ Dl :: ps, a ∉ B.L) ∧ ps.length = i + 1 ∧ S K B Γ (F0.res1 (.ref Dl) (llR Dl ps ((xs.take (i + 1)).map f))) σ H', fun H' h' => ⟨xs.length - (i + 1), by omega, rfl, hlt, h'⟩, fun x H3 hy => ?_⟩
      obtain ⟨Γ2, vs, ht, hv, hte⟩ := hs xs[i] (List.getElem_mem hlt)
      have sx : S K B Γ (Fra.dat (F0.res1 (.ref Dl) (llR Dl ps ((xs.take i).map f))) x (e xs[i])) (L2.wipe σ us) H3 := by
        obtain ⟨G3, z⟩ := y x H3 hy
        exact ⟨G3, z.turn rfl (by rw [wipe_length, hlen]) us (fun k hk => ⟨rfl, by rw [wipe_at, if_neg hk]⟩) hno⟩
      refine ht.2 _ x (L2.wipe σ us) H3 sx (by simp) _ fun σ2 H4 s4 e4 => ⟨wipe_same ?_ fun k hk => e4 k fun z => hk (hv k z), ?_⟩
      · obtain ⟨G4, z4⟩ := id s4
        rw [z4.len, ht.1.1, hlen]
      · show te σ2 H4 _
        refine hte _ σ2 H4 s4 _ fun a ds H6 py hB s6 => ?_
        subst py
        obtain ⟨G6, z6⟩ := s6
        have z7 : S0 K B Γ (((F0.res1 (.ref Dl) (llR Dl ps ((xs.take i).map f))).dat x (e xs[i])).res1 (.ref a) (lstR a (f xs[i]))) σ H6 G6 :=
          z6.turn ht.1.1.symm (by rw [hlen, ht.1.1]) us (fun k hk => ⟨(ht.1.2 k fun w => hk (hv k w)).symm, by rw [e4 k (fun w => hk (hv k w)), wipe_at, if_neg hk]⟩) hno
        have z8 : S0 K B Γ ((F0.res1 (.ref Dl) (llR Dl ps ((xs.take i).map f))).res1 (.ref a) (lstR a (f xs[i]))) σ H6 G6 := z7.drop fun p hp => by
          simp at hp ⊢
          exact .inr hp
        obtain ⟨_, _, hp, hl⟩ := z8.xm (.ref Dl, llR Dl ps ((xs.take i).map f)) (by simp)
        refine ⟨_, hp, sz_lt (by rw [List.length_map, hpn]; have := szLt_of hz; omega), ps ++ [a], fun b hb => ?_, by simp [hpn], G6, ?_⟩
        · rcases List.mem_cons.mp hb with z | z
          · rw [z]; exact hDl
          · rcases List.mem_append.mp z with z | z
            · exact hpl b (by simp [z])
            · rw [List.mem_singleton.mp z]; exact hB
        · have e5 : (xs.take (i + 1)).map f = (xs.take i).map f ++ [f xs[i]] := by rw [List.take_add_one, hx, List.map_append]; rfl
          rw [e5]
          exact z8.snocLL (T' := F0.T) fun p hp => z8.tm p hp
    · have e1 : i = xs.length := by omega
      obtain ⟨G2, z2⟩ := s2
      have z3 : S0 K B Γ ⟨T0 ++ F.T, F.X ++ X0 ++ [(.ref Dl, llR Dl ps ((xs.take i).map f))]⟩ σ H2 G2 := z2
      have e2 : (xs.take i).map f = xs.map f := by rw [e1, List.take_length]
      rw [e2] at z3
      exact .inl ⟨j2 (by rw [List.length_map]; exact e1), q _ _ H2 ⟨Dl, ps, rfl, hpl, rfl⟩ ⟨G2, z3.rmXs.drop fun p hp => by simp [hp]⟩⟩
abbrev llT (e : β → DD) (p : Addr) (ps : List Addr) (gs : List (List β)) : Res := llR p ps (gs.map fun g => g.map e)
theorem atI_ix {α : Type} {xs : List α} {a : Int} {x : α} (h : atI xs a = some x) : ∃ n, ixN xs.length a = some n ∧ xs[n]? = some x := by
  unfold atI at h
  cases e : ixN xs.length a with
  | none => rw [e] at h; cases h
  | some n => rw [e] at h; exact ⟨n, rfl, h⟩
/-- xs[a][b] -/
theorem ev_ixLL {gs : List (List β)} {a b : Int} {row : List β} {x : β} (hj : Γ[j]? = some (.own (llT e' p ps gs))) (ha : EvD K B ta Γ (.int a)) (hb : EvD K B tb Γ (.int b)) (h1 : atI gs a = some row) (h2 : atI row b = some x) : EvD K B (tOp (rIxL K) (tOp (rIxL K) (tVar j) ta) tb) Γ (e' x) := fun F σ H s Q q => by
  obtain ⟨G0, z0⟩ := id s
  obtain ⟨v0, hv0, rfl, _⟩ := z0.own hj
  refine ⟨_, hv0, ?_⟩
  refine ha F σ H s _ fun u d H1 ed s1 => ?_
  subst ed
  obtain ⟨G1, z1⟩ := id s1
  obtain ⟨v1, hv1, rfl, nd, hp, hl⟩ := z1.own hj
  obtain ⟨n, hn1, hn2⟩ := atI_ix h1
  have hlen := hl.len
  rw [List.length_map] at hlen
  obtain ⟨c, xs, hc, _, _⟩ := hl.get (i := n) (ds := row.map e') (by rw [List.getElem?_map, hn2]; rfl)
  refine ⟨p, _, a, .ref c, rfl, (z1.tm (u, .int a) (by simp)).int_inv, SqL.of hp, ?_, ?_⟩
  · unfold atI
    rw [List.length_map, hlen, hn1]
    show (ps.map V.ref)[n]? = _
    rw [List.getElem?_map, hc]; rfl
  refine hb _ σ H1 s1 _ fun u2 d2 H2 e2 s2 => ?_
  subst e2
  obtain ⟨G2, z2⟩ := id s2
  obtain ⟨v2, hv2, rfl, _, _, hl2⟩ := z2.own hj
  obtain ⟨c', ys, hc', hy, hyd⟩ := hl2.get (i := n) (ds := row.map e') (by rw [List.getElem?_map, hn2]; rfl)
  rw [hc] at hc'
  cases hc'
  obtain ⟨w, hw1, hw2⟩ := hyd.at (atI_map h2)
  exact ⟨c, ys, b, w, rfl, (z2.tm (u2, .int b) (by simp)).int_inv, SqL.of hy, hw1, q w _ H2 rfl ⟨G2, z2.step (T' := (w, e' x) :: F.T) (Grow.refl z2.ex) fun r hr => by
    rcases List.mem_cons.mp hr with z | z
    · rw [z]; exact hw2
    · exact z2.tm r (by simp [z])⟩⟩
def setLL (gs : List (List β)) (a b : Int) (v : β) : Option (List (List β)) := match ixN gs.length a with
  | none => none
  | some n => match gs[n]? with
    | none => none
    | some row => match ixN row.length b with
      | none => none
      | some m => some (gs.set n (row.set m v))
/-- xs[a][b] = v -/
theorem nx_setLL {gs gs' : List (List β)} {a b : Int} {v : β} (hj : Γ[j]? = some (.own (llT e' p ps gs))) (h : EvD K B te Γ (e' v)) (ha : EvD K B ta Γ (.int a)) (hb : EvD K B tb Γ (.int b)) (hs : setLL gs a b v = some gs') (kk : Nx K B D.nx (Γ.set j (.own (llT e' p ps gs'))) F) :
    Nx K B (tAsg te (gSub (tOp (rIxL K) (tVar j) ta) tb rSetL) D) Γ F := fun σ H s => by
  refine h F σ H s _ fun w d' H' ed s' => ?_
  subst ed
  obtain ⟨G', s1⟩ := id s'
  obtain ⟨v2, hv2, rfl, _, _⟩ := s1.own hj
  unfold setLL at hs
  cases hn : ixN gs.length a with
  | none => rw [hn] at hs; cases hs
  | some n =>
    rw [hn] at hs
    dsimp only at hs
    cases hr : gs[n]? with
    | none => rw [hr] at hs; cases hs
    | some row =>
      rw [hr] at hs
      dsimp only at hs
      cases hm : ixN row.length b with
      | none => rw [hm] at hs; cases hs
      | some m =>
        rw [hm] at hs
        cases hs
        refine ⟨_, hv2, ?_⟩
        refine ha _ σ H' s' _ fun u d H1 ed s1' => ?_
        subst ed
        obtain ⟨G1, z1⟩ := id s1'
        obtain ⟨v1, hv1, rfl, nd, hp, hl⟩ := z1.own hj
        have hlen := hl.len
        rw [List.length_map] at hlen
        obtain ⟨c, xs, hc, _, _⟩ := hl.get (i := n) (ds := row.map e') (by rw [List.getElem?_map, hr]; rfl)
        refine ⟨p, _, a, .ref c, rfl, (z1.tm (u, .int a) (by simp)).int_inv, SqL.of hp, ?_, ?_⟩
        · unfold atI
          rw [List.length_map, hlen, hn]
          show (ps.map V.ref)[n]? = _
          rw [List.getElem?_map, hc]; rfl
        refine hb _ σ H1 s1' _ fun u2 d2 H2 e2 s2 => ?_
        subst e2
        obtain ⟨G2, z2⟩ := s2
        obtain ⟨v2, hv2, rfl, nd2, hp2, hl2⟩ := z2.own hj
        obtain ⟨c', ys, hc', hy, hyd⟩ := hl2.get (i := n) (ds := row.map e') (by rw [List.getElem?_map, hr]; rfl)
        rw [hc] at hc'
        cases hc'
        have hyl : ys.length = row.length := by rw [hyd.length, List.length_map]
        refine ⟨c, ys, b, m, rfl, (z2.tm (u2, .int b) (by simp)).int_inv, hy, by rw [hyl]; exact hm, ?_⟩
        have hcm : c ∈ ps := List.mem_of_getElem? hc
        have hmm : c ∈ ownAt Γ (Fra.dat (Fra.dat (F.dat w (e' v)) u (.int a)) u2 (.int b)) j := by rw [ownAt_slot hj]; simp [Sl.as, llR, hcm]
        have hpc : p ≠ c := fun z => (List.nodup_cons.mp nd2).1 (z ▸ hcm)
        have s3 := z2.updOwn (r' := llT e' p ps (gs.set n (row.set m v))) (T' := F.T) hj (Grow.put (o := .lst (ys.set m w)) z2.ex (z2.mine j c hmm).1 (by simp [llR, hcm])) rfl hv2 ⟨rfl, nd2, by rw [upd_ne hpc]; exact hp2, by
          have h5 := hl2.put (a := c) (ds := (row.map e').set m (e' v)) (xs := ys.set m w) (i := n) (hyd.set (z2.tm (w, e' v) (by simp)) m) (List.nodup_cons.mp nd2).2 hc
          have e5 : (gs.map fun g => g.map e').set n ((row.map e').set m (e' v)) = (gs.set n (row.set m v)).map fun g => g.map e' := by rw [List.map_set, List.map_set]
          rw [e5] at h5
          exact h5⟩ fun q hq => z2.tm q (by simp [hq])
        exact kk _ _ ⟨G2, s3⟩
theorem ll_datT {gs : List (List β)} : ∀ G H v, (llT e' p ps gs).ok K G v H → ∀ G', Ex G G' → (∀ a ∈ (llT e' p ps gs).as, G' a = H a) → Da K G' v (eL (eL e') gs) := fun G H v h G' e g => by
  have := ll_dat G H v h G' e g
  rw [List.map_map] at this
  exact this
theorem nx_asgLL {xs : List α} {f : α → List β} {gs : List (List β)} (h : EvR K B te Γ (PrLL B (xs.map fun x => (f x).map e'))) (hq : xs.map f = gs) (k : ∀ p ps, (∀ a ∈ p :: ps, a ∉ B.L) → Nx K B D.nx (Γ.set i (.own (llT e' p ps gs))) F) (hi : Nat.blt i Γ.length = true := by rfl) : Nx K B (tAsg te (gName i) D) Γ F := by
  refine nx_asgX h (fun v r hr => ?_) hi
  obtain ⟨p, ps, rfl, hl, rfl⟩ := hr
  have e5 : (xs.map fun x => (f x).map e') = gs.map fun g => g.map e' := by rw [← hq, List.map_map]; rfl
  rw [e5]
  exact k p ps hl
end
end Ly

set_option maxHeartbeats 1000000
namespace Ly
open PySem PySem.Spec PyProof.Rows L2
section
variable {K : FK} {B : Bs} {Γ Γ' : List Sl} {F : Fra} {D : Ends} {te tb ta : TE} {P : DD → Prop}
theorem rd_catA {xs ys : List DD} (hl : xs.length + ys.length ≤ 16000000) : RD K (rCatA K) (.tuple xs) (.tuple ys) (.tuple (xs ++ ys)) := fun v u G H hv hu e Q q => by
  obtain ⟨a, vs, rfl, ha, hs⟩ := hv.tup_inv
  obtain ⟨b, us, rfl, hb, ht⟩ := hu.tup_inv
  have nil : ∀ {zs : List V} {zd : List DD}, DaL K G zs zd → zs = [] → zd = [] := fun h e => by
    have := h.length; rw [e] at this; exact List.length_eq_zero_iff.mp this.symm
  refine ⟨a, b, vs, us, rfl, rfl, ex_t e ha, ex_t e hb, sz_of (by rw [hs.length, ht.length]; exact hl), fun z => ?_, fun _ z => ?_, fun _ _ p hp => ?_⟩
  · refine q _ G H (Grow.refl e) ?_
    rw [nil hs z, List.nil_append]
    exact .tup hb ht
  · refine q _ G H (Grow.refl e) ?_
    rw [nil ht z, List.append_nil]
    exact .tup ha hs
  · exact q _ _ _ (Grow.laid e hp) (.tup (SqT.of upd_same) ((hs.append ht).mono (Ex.new (e.none hp))))
theorem ev_catAP {Pa Pb : DD → Prop} (ha : Ev K B ta Γ Pa) (hb : Ev K B tb Γ Pb) (h : ∀ x y, Pa x → Pb y → ∃ xs ys, x = .tuple xs ∧ y = .tuple ys ∧ xs.length + ys.length ≤ 16000000 ∧ P (.tuple (xs ++ ys))) : Ev K B (tOp (rCatA K) ta tb) Γ P := ev_opP ha hb fun x y px py => by
  obtain ⟨xs, ys, rfl, rfl, hl, hp⟩ := h x y px py
  exact ⟨_, hp, rd_catA hl⟩
theorem ev_slA {tl th : TO} {ds : List DD} {lo hi : Option Int} (h : EvD K B te Γ (.tuple ds)) (h1 : EvO K B tl Γ lo) (h2 : EvO K B th Γ hi) : EvD K B (tSl (rSlA K) te tl th) Γ (.tuple (cutD ds lo hi)) := fun F σ H s Q q =>
  h F σ H s _ fun v d' H1 e s1 => by
    subst e
    refine h1 _ σ H1 s1 _ fun H2 s2 => ?_
    refine h2 _ σ H2 s2 _ fun H3 s3 => ?_
    obtain ⟨G, s3⟩ := s3
    obtain ⟨a, xs, rfl, ha, hs⟩ := (s3.tm (v, .tuple ds) (by simp)).tup_inv
    have hd : ∀ p ∈ F.T, p ∈ (F.dat (.ref a) (.tuple ds)).T := fun p hp => by simp [hp]
    refine ⟨a, xs, rfl, ex_t s3.ex ha, fun hw => ?_, fun hw p hp => ?_⟩
    · refine q _ _ H3 rfl ⟨G, s3.step (T' := (.ref a, .tuple (cutD ds lo hi)) :: F.T) (Grow.refl s3.ex) fun p hp => ?_⟩
      rcases List.mem_cons.mp hp with z | z
      · rw [z]
        rw [hs.length] at hw
        have : cutD ds lo hi = ds := by unfold cutD; rw [hw.1, hw.2]; simp
        show Da K G (.ref a) (.tuple (cutD ds lo hi))
        rw [this]
        exact .tup ha hs
      · exact s3.tm p (hd p z)
    · have hc : DaL K G (cutV xs lo hi) (cutD ds lo hi) := by
        unfold cutD cutV
        rw [← hs.length]
        exact (hs.drop _).take _
      refine q _ _ _ rfl ?_
      exact (S.grown (d := .tuple (cutD ds lo hi)) s3 (Grow.laid s3.ex hp) (.tup (SqT.of upd_same) (hc.mono (Ex.new (s3.ex.none hp))))).drop (T' := (.ref p, .tuple (cutD ds lo hi)) :: F.T) fun x hx => by
        rcases List.mem_cons.mp hx with z | z
        · rw [z]; simp
        · simp [z]
/-- flat data, and tuples of it, don't hang on lists -/
theorem Da.flatG {G G3 : Hp} {v : V} {d : DD} (h : Da K G v d) (hf : flatD d = true) : Da K G3 v d := by
  cases h with
  | non => exact .non
  | bl b => exact .bl b
  | int i => exact .int i
  | str x => exact .str x
  | lst _ _ => cases hf
  | tup _ _ => cases hf
  | dct _ _ => cases hf
theorem DaL.flatG {G G3 : Hp} : ∀ {vs : List V} {ds : List DD}, DaL K G vs ds → ds.all flatD = true → DaL K G3 vs ds
  | _, _, .nil, _ => .nil
  | _, _, .cons h t, hf => by
    rw [List.all_cons, Bool.and_eq_true] at hf
    exact .cons (h.flatG hf.1) (t.flatG hf.2)
theorem Da.flatT {G G3 : Hp} {a : Addr} {xs : List V} {v : V} {ds : List DD} (ha : G a = some (.lst xs)) (e : ∀ x o, x ≠ a → G x = some o → G3 x = some o) (h : Da K G v (.tuple ds)) (hf : ds.all flatD = true) : Da K G3 v (.tuple ds) := by
  obtain ⟨b, vs, rfl, hb, hs⟩ := h.tup_inv
  refine .tup ?_ (hs.flatG hf)
  rcases hb with (h | ⟨o, h⟩) | h
  · exact .inl (.inl (e b _ (fun z => by rw [z, ha] at h; cases h) h))
  · exact .inl (.inr ⟨o, e b _ (fun z => by rw [z, ha] at h; cases h) h⟩)
  · exact .inr h
variable {i j : Nat} {p q a : Addr}
/-- a draw that reads an own list, and gives one of its tuples of flat data -/
theorem ev_pickO {pre : List DD → Prop} {f : List DD → DD → Prop} {E : XK} {ds : List DD} (hi : Γ[i]? = some (.own (drwR p q))) (hj : Γ[j]? = some (.own (lstR a ds))) (hij : i ≠ j) (hp : pre [.list ds]) (hf : ∀ r, f [.list ds] r → r ∈ ds) (ht : ∀ r ∈ ds, ∃ es, r = .tuple es ∧ es.all flatD = true) :
    Ev K B (tCall (spW K pre f) [] E (tCons (tVar i) (tCons (tVar j) tNil))) Γ (fun d => d ∈ ds) := fun F σ H s Q k => by
  obtain ⟨G, z⟩ := s
  obtain ⟨v, hv, hok⟩ := z.own hi
  obtain ⟨w, hw, hl⟩ := z.own hj
  have evp : v = .ref p := hok.1
  subst evp
  obtain ⟨rfl, xs, hax, hd⟩ := hl
  refine ⟨.ref p, hv, .ref a, hw, ?_⟩
  have oi : ∀ x ∈ [p, q], x ∈ ownAt Γ F i := fun x hx => by rw [ownAt_slot hi]; exact hx
  have oj : a ∈ ownAt Γ F j := by rw [ownAt_slot hj]; simp [Sl.as, lstR]
  have na : ∀ x ∈ [p, q], x ≠ a := fun x hx e => hij (z.apart i j a (e ▸ oi x hx) oj)
  have ga : G a = none := (z.mine j a oj).1
  have e1 : Ex G (upd G a (.lst xs)) := Ex.new ga
  have e2 : Ex (upd G a (.lst xs)) H := fun x o h => by
    by_cases hx : x = a
    · subst hx; rw [upd_same] at h; cases h; exact hax
    · rw [upd_ne hx] at h; exact z.ex x o h
  have gn : ∀ x ∈ [p, q], upd G a (.lst xs) x = none := fun x hx => by rw [upd_ne (na x hx)]; exact (z.mine i x (oi x hx)).1
  refine ⟨upd G a (.lst xs), p, q, [.ref a], [.list ds], rfl, hok, gn p (by simp), gn q (by simp), .cons (.lst upd_same (hd.mono e1)) .nil, e2, hp, fun v' r G' H' fr g ok' da => ?_⟩
  have hr := hf r fr
  obtain ⟨es, rfl, hes⟩ := ht r hr
  have ga' : G' a = some (.lst xs) := g.g a _ upd_same
  have g3 : Grow [p, q] G H (fun x => if x = a then none else G' x) H' := by
    refine ⟨fun x o h => ?_, fun x o h => ?_, g.fr, fun x o h n => ?_, g.dom⟩
    · have hx : x ≠ a := fun e => by rw [e, ga] at h; cases h
      show (if x = a then none else G' x) = some o
      rw [if_neg hx]; exact g.g x o (e1 x o h)
    · have h' : (if x = a then none else G' x) = some o := h
      by_cases hx : x = a
      · rw [if_pos hx] at h'; cases h'
      · rw [if_neg hx] at h'; exact g.gh x o h'
    · show (if x = a then none else G' x) = none
      by_cases hx : x = a
      · rw [if_pos hx]
      · rw [if_neg hx]; exact g.new x o h (by rw [upd_ne hx]; exact n)
  have hset : Γ.set i (.own (drwR p q)) = Γ := by
    obtain ⟨hlt, hget⟩ := List.getElem?_eq_some_iff.mp hi
    rw [← hget]; exact List.set_getElem_self hlt
  have s2 := z.updOwn (r' := drwR p q) (T' := (v', .tuple es) :: F.T) hi g3 rfl hv ok' fun x hx => by
    rcases List.mem_cons.mp hx with e | e
    · rw [e]
      exact da.flatT ga' (fun x o hx h => by rw [if_neg hx]; exact h) hes
    · exact (z.tm x e).mono g3.g
  rw [hset] at s2
  exact k v' _ H' hr ⟨_, s2⟩
end
end Ly

set_option maxHeartbeats 1000000
namespace Ly
open PySem PySem.Spec PyProof.Rows L2
section
variable {X : Cx} {K : FK} {B : Bs} {Γ : List Sl} {te to ta tb : TE}
def rStr : List V → Hp → VK → Prop := fun xs H Q => (∃ i : Int, xs = [.int i] ∧ i.natAbs.log2 < 1920 ∧ Q (.str (toString i)) H) ∨ (∃ a, xs = [.str a] ∧ Q (.str a) H)
theorem cr_str : CallR X (.type "str") rStr := CallR.or call_str_int SkE.call_str_str
def strI (i : Int) : Str := toString i
def strO (d : DD) : Option Str := match d with
  | .int i => if i.natAbs.log2 < 1920 then some (strI i) else none
  | .str a => some a
  | _ => none
def strIok (i : Int) : Bool := decide (i.natAbs.log2 < 1920)
theorem ev_strI {i : Int} (h : EvD K B te Γ (.int i)) (ok : strIok i = true) : EvD K B (tCB rStr (tCons te tNil)) Γ (.str (strI i)) := ev_cb (ea_cons h ea_nil) fun vs G H hv e Q q => by
  obtain ⟨v, rfl, hw⟩ := daL1 hv
  rw [hw.int_inv]
  exact .inl ⟨i, rfl, of_decide_eq_true ok, q _ G H (Grow.refl e) (.str _)⟩
theorem ev_strS {a : Str} (h : EvD K B te Γ (.str a)) : EvD K B (tCB rStr (tCons te tNil)) Γ (.str a) := ev_cb (ea_cons h ea_nil) fun vs G H hv e Q q => by
  obtain ⟨v, rfl, hw⟩ := daL1 hv
  rw [hw.str_inv]
  exact .inr ⟨a, rfl, q _ G H (Grow.refl e) (.str _)⟩
theorem ev_strO {d : DD} {a : Str} (h : EvD K B te Γ d) (ok : strO d = some a) : EvD K B (tCB rStr (tCons te tNil)) Γ (.str a) := by
  cases d with
  | int i =>
    unfold strO at ok
    dsimp only at ok
    split at ok
    · cases ok; exact ev_strI h (decide_eq_true ‹_›)
    · cases ok
  | str b => cases ok; exact ev_strS h
  | _ => cases ok
def rIntS : List V → Hp → VK → Prop := fun xs H Q => ∃ a n, xs = [.str a] ∧ PySem.intText? a = some n ∧ a.length ≤ 640 ∧ Q (.int n) H
def intO (a : Str) : Option Int := if a.length ≤ 640 then PySem.intText? a else none
theorem ev_intS {a : Str} {n : Int} (h : EvD K B te Γ (.str a)) (ok : intO a = some n) : EvD K B (tCB rIntS (tCons te tNil)) Γ (.int n) := ev_cb (ea_cons h ea_nil) fun vs G H hv e Q q => by
  obtain ⟨v, rfl, hw⟩ := daL1 hv
  rw [hw.str_inv]
  unfold intO at ok
  split at ok
  · exact ⟨a, n, rfl, ok, ‹_›, q _ G H (Grow.refl e) (.int _)⟩
  · cases ok
def rLenTx : List V → Hp → VK → Prop := fun xs H Q => ∃ z : Str, xs = [.str z] ∧ z.length ≤ sizeLine ∧ Q (.int z.length) H
theorem ev_lenS {a : Str} (h : EvD K B te Γ (.str a)) (hz : szLe a.length = true) : EvD K B (tCB rLenTx (tCons te tNil)) Γ (.int ((a.length : Nat) : Int)) := ev_cb (ea_cons h ea_nil) fun vs G H hv e Q q => by
  obtain ⟨v, rfl, hw⟩ := daL1 hv
  rw [hw.str_inv]
  exact ⟨a, rfl, sz_of (szLe_of hz), q _ G H (Grow.refl e) (.int _)⟩
theorem ev_slS {tl th : TO} {a : Str} {lo hi : Option Int} (h : EvD K B te Γ (.str a)) (h1 : EvO K B tl Γ lo) (h2 : EvO K B th Γ hi) (hz : szLe a.length = true) : EvD K B (tSl C8.rSlX te tl th) Γ (.str (Txt.slice a lo hi)) := fun F σ H s Q q =>
  h F σ H s _ fun v d' H1 e s1 => by
    subst e
    refine h1 _ σ H1 s1 _ fun H2 s2 => h2 _ σ H2 s2 _ fun H3 s3 => ?_
    obtain ⟨G, s3⟩ := s3
    have hv := (s3.tm (v, .str a) (by simp)).str_inv
    refine ⟨a, hv, sz_of (szLe_of hz), q _ _ H3 rfl ⟨G, s3.step (T' := (.str (Txt.slice a lo hi), .str (Txt.slice a lo hi)) :: F.T) (Grow.refl s3.ex) fun p hp => ?_⟩⟩
    rcases List.mem_cons.mp hp with z | z
    · rw [z]; exact .str _
    · exact s3.tm p (by simp [z])
def rMulS : R2 := fun x y H Q => ∃ (a : Str) (n : Int), x = .str a ∧ y = .int n ∧ MulOk a n ∧ Q (.str (Txt.mul a n)) H
theorem op_mulS : OpR X (binaryOp .Mult) rMulS := by
  intro pins s σ H x y v u Q I rx ry h
  obtain ⟨i, n, rfl, rfl, hz, q⟩ := h
  obtain ⟨t, rfl⟩ := rx
  obtain ⟨t', rfl⟩ := ry
  exact SB.mul hz fun t' k => ⟨.str (Txt.mul i n), H, I.tok _, ⟨_, rfl⟩, q⟩
def mulSOk (a : Str) (n : Int) : Bool := decide (1 ≤ n) && decide (n ≤ 16000000) && decide (a.length * n.toNat ≤ 16000000)
theorem mulS_ok {a : Str} {n : Int} (h : mulSOk a n = true) : MulOk a n := by
  unfold mulSOk at h
  rw [Bool.and_eq_true, Bool.and_eq_true] at h
  obtain ⟨⟨h1, h2⟩, h3⟩ := h
  have h1 := of_decide_eq_true h1
  have h2 := of_decide_eq_true h2
  have h3 := of_decide_eq_true h3
  refine ⟨?_, fun _ _ => ?_, fun _ _ => ?_⟩
  · have a1 : decide (n < -(2 ^ 63 : Int)) = false := decide_eq_false (by omega)
    have a2 : decide (n ≥ 2 ^ 63) = false := decide_eq_false (by omega)
    rw [a1, a2]; rfl
  · have h4 : (a.length : Int) * n ≤ 16000000 := by
      have e : (n.toNat : Int) = n := Int.toNat_of_nonneg (by omega)
      have := Int.ofNat_le.mpr h3
      rw [Int.natCast_mul, e] at this
      exact this
    have h5 : (a.length : Int) ≤ (2 ^ 63 - 1) / n := (Int.le_ediv_iff_mul_le (by omega)).mpr (by omega)
    omega
  · unfold Builtin.Str.tooLong
    have := sz_of h3
    exact decide_eq_false (by omega)
theorem ev_mulS {a : Str} {n : Int} (ha : EvD K B ta Γ (.str a)) (hb : EvD K B tb Γ (.int n)) (ok : mulSOk a n = true) : EvD K B (tOp rMulS ta tb) Γ (.str (Txt.mul a n)) :=
  ev_op ha hb fun v u G H hv hu e Q q => ⟨a, n, hv.str_inv, hu.int_inv, mulS_ok ok, q _ G H (Grow.refl e) (.str _)⟩
def rSplit : V → List V → Hp → VK → Prop := fun x xs H Q => ∃ a b, x = .str a ∧ xs = [.str b] ∧ (b.length == 0) = false ∧ a.length + 2 ≤ sizeLine ∧ rNewStrs (Txt.split a b) H Q
def splitOk (a b : Str) : Bool := !(b.length == 0) && szLe (a.length + 2)
theorem en_split {a b : Str} (ha : EvD K B to Γ (.str a)) (hb : EvD K B te Γ (.str b)) (ok : splitOk a b = true) : EvND K B (tM1 rSplit to te) Γ ((Txt.split a b).map PyData.str) := fun F σ H s Q q =>
  ha F σ H s _ fun v d H1 e s1 => ⟨by
    subst e
    obtain ⟨G, z⟩ := s1
    exact ⟨a, (z.tm (v, .str a) (by simp)).str_inv⟩, hb _ σ H1 s1 _ fun u d2 H2 e2 s2 => by
    subst e e2
    unfold splitOk at ok
    rw [Bool.and_eq_true] at ok
    obtain ⟨G, z⟩ := id s2
    refine ⟨a, b, (z.tm (v, .str a) (by simp)).str_inv, congrArg (fun t => [t]) (z.tm (u, .str b) (by simp)).str_inv, by have := ok.1; simpa using this, sz_of (szLe_of ok.2), fun p hp => q p _ _ rfl (z.notLent hp) ?_⟩
    exact (s2.drop (T' := F.T) fun p hp => by simp [hp]).lay hp fun _ => DaL.ofStrs _⟩
def rJoin (K : FK) : V → List V → Hp → VK → Prop := fun x xs H Q => ∃ a p, ∃ ys : List Str, x = .str a ∧ xs = [.ref p] ∧ (SqL K H p (ys.map V.str) ∨ SqT K H p (ys.map V.str)) ∧ (ys.map (·.length)).sum + ys.length * a.length ≤ 16777216 ∧ Q (.str (Txt.join a ys)) H
def joinOk (a : Str) (ys : List Str) : Bool := decide ((ys.map (·.length)).sum + ys.length * a.length ≤ 16000000)
theorem ev_join {a : Str} {ys : List Str} (ha : EvD K B to Γ (.str a)) (hb : EvD K B te Γ (.list (ys.map PyData.str))) (ok : joinOk a ys = true) : EvD K B (tM1 (rJoin K) to te) Γ (.str (Txt.join a ys)) := fun F σ H s Q q =>
  ha F σ H s _ fun v d H1 e s1 => ⟨by
    subst e
    obtain ⟨G, z⟩ := s1
    exact ⟨a, (z.tm (v, .str a) (by simp)).str_inv⟩, hb _ σ H1 s1 _ fun u d2 H2 e2 s2 => by
    subst e e2
    obtain ⟨G, z⟩ := s2
    obtain ⟨p, xs, rfl, hp, hs⟩ := (z.tm (u, .list (ys.map PyData.str)) (by simp)).lst_inv
    refine ⟨a, p, ys, (z.tm (v, .str a) (by simp)).str_inv, rfl, .inl (by rw [← hs.strs]; exact SqL.of (z.ex _ _ hp)), Nat.le_trans (of_decide_eq_true ok) (by decide), q _ _ H2 rfl ⟨G, z.step (T' := (.str (Txt.join a ys), .str (Txt.join a ys)) :: F.T) (Grow.refl z.ex) fun p hp => ?_⟩⟩
    rcases List.mem_cons.mp hp with w | w
    · rw [w]; exact .str _
    · exact z.tm p (by simp [w])⟩
theorem pe_splitT {o e : Expr} {to te : TE} {apos pos : Pos} (ho : PE X o to) (he : PE X e te) (hs : starEach [e] X.env = [(false, eval e X.env)] := by rfl) (hbase : attributeBase o "split" X.env (eval o X.env) = eval o X.env := by rfl) (hline : (apos.endLine == pos.line) = true := by rfl) :
    PE X (.Call (.Attribute o "split" apos) [e] [] pos) (tM1 rSplit to te) := pe_split ho he hs hbase hline
theorem pe_joinT {o e : Expr} {to te : TE} {apos pos : Pos} (ho : PE X o to) (he : PE X e te) (hs : starEach [e] X.env = [(false, eval e X.env)] := by rfl) (hbase : attributeBase o "join" X.env (eval o X.env) = eval o X.env := by rfl) (hline : (apos.endLine == pos.line) = true := by rfl) :
    PE X (.Call (.Attribute o "join" apos) [e] [] pos) (tM1 (rJoin X.K) to te) := pe_join ho he hs hbase hline
end
end Ly

set_option maxHeartbeats 1000000
namespace Ly
open PySem PySem.Spec PyProof.Rows L2
theorem Inv.xeTo {X : Cx} {pins : List (Addr × Obj)} {σ : L2.St} {H : Hp} {s : Shared} (xe : Value → Shared → Prop) (I : Inv X pins σ H s) : Inv { X with xe := xe } pins σ H s := by
  obtain ⟨⟨a1, a2, a3, a4, a5, a6, a7, a8, a9, a10, a11, a12, a13, a14, a15, a16, a17, a18⟩, b1, b2, b3, b4, b5, b6, b7, b8, b9, b10⟩ := I
  exact ⟨⟨a1, a2, a3, a4, a5, a6, a7, a8, a9, a10, a11, a12, a13, a14, a15, a16, a17, a18⟩, b1, b2, b3, b4, b5, b6, b7, b8, b9, b10⟩
theorem tracedZ_but {h h' base base' : Heap} {e L : Addr} {Z : Obj → Prop} {fl : Value} {m : Str → Option Value} (x : HandSPX.TracedZ h base e Z fl) (hn : h.Ns L m) (hs : Heap.SameBut L h h') (hb : ∀ b, base.get? b = none → base'.get? b = none) : HandSPX.TracedZ h' base' e Z fl := by
  obtain ⟨oe, vs, T, oT, ts, he, hz, hd, h1, hnT, hTe, hT, hdT, h3⟩ := x
  obtain ⟨oL, es, ep, hoL, hdL, _⟩ := hn
  have ne : ∀ {c : Addr} {o : Obj} {fs : Array Value}, h.get? c = some o → o.data = .fields fs → c ≠ L := fun {c o fs} hc hd q => by
    rw [q, hoL] at hc
    cases hc
    rw [hdL] at hd; cases hd
  exact ⟨oe, vs, T, oT, ts, (hs.2 e (ne he hd)).trans he, hz, hd, h1, hb T hnT, hTe, (hs.2 T (ne hT hdT)).trans hT, hdT, h3⟩
section
variable {X : Cx} {W : WX} {E : XK}
/-- a call in the element raised: the comprehension's block is let go, the exception goes on in the def's own frame -/
theorem comp_raise {ce : Env} {scope : Scope} {fp : List Addr} {pins pb : List (Addr × Obj)} {σ σ8 : L2.St} {H3 H9 : Hp} {s3 s9 s' : Shared} {u : Value} (tk : Takes X W) (hW : ∀ c d σ H, E c d H → W c d σ H)
    (hs : X.stack = X.env :: X.outer) (hf : X.env.frame = some X.env.locals) (I3 : Inv X pins σ H3 s3)
    (hfp : ∀ b ∈ fp, (b ∈ X.ex ∨ X.s_0.heap.objs.size ≤ b) ∧ b ≠ X.env.locals ∧ (∀ x c, X.env.cells.lookup x = some c → c ≠ b) ∧ ∀ p ∈ X.pn ++ pins, p.1 ≠ b)
    (hfC : ce.frame = X.env.frame) (hC : s3.heap.objs.size ≤ ce.locals) (I9 : Inv (X.blk s3 H3 scope ce fp) pb σ8 H9 s9) (c : CX X.prog X.w X.stack H9 s9 E u s') :
    notedBy (model X.prog X.w) X.A ce (CompFails (model X.prog X.w) X.A X.xe ce) u s' := by
  obtain ⟨a, B, H', cls, d, rfl, fl, hok, ub, na, os, ag, hE⟩ := c
  obtain ⟨m9, ⟨oC, esC, epC, hoC, hdC, rC⟩, _⟩ := I9.loc
  have hoC : s9.heap.get? ce.locals = some oC := hoC
  have H9C : H9 ce.locals = none := I9.free
  have old : ∀ b o, s3.heap.get? b = some o → b ≠ ce.locals := fun b o e q => by
    have := Heap.lt_size e
    rw [q] at this
    exact absurd (Nat.lt_of_lt_of_le this hC) (Nat.lt_irrefl _)
  have CnF : ce.locals ∉ frs X.stack := fun hm => by
    obtain ⟨_, o, e, _⟩ := I3.stack.mem hm
    exact old _ o e rfl
  have BC : B.get? ce.locals = some oC := ub.keep _ oC hoC H9C CnF
  have H'C : H' ce.locals = none := ub.free _ oC hoC H9C
  have hfr : X.A.frames = some (X.env :: X.outer) := by rw [I3.ok.frames, hs]
  show wpAny _ _ (noteFrame (.ref a) ce) _ _ s'
  rw [noteFrame_env _ hfC]
  rw [hs] at fl
  refine HandSPX.looks_onZ Zc.steady hfr hf fl fun h1 hh up => ?_
  have C1 : h1.get? ce.locals = some oC := hh.1 _ oC BC
  have hn1 : h1.Ns ce.locals m9 := ⟨oC, esC, epC, C1, hdC, rC⟩
  refine ⟨m9, hn1, fun h2 m2 hn2 hs2 => ?_⟩
  obtain ⟨B2, hB2⟩ : ∃ B2, B2 = PySem.W.hideAll B [ce.locals] := ⟨_, rfl⟩
  have q1 : ∀ b o, B2.get? b = some o → B.get? b = some o ∧ b ≠ ce.locals := fun b o e => by
    rw [hB2] at e
    refine ⟨PySem.W.of_hideAll _ e, fun q => ?_⟩
    rw [q, PySem.W.hideAll_none _ (List.mem_singleton.mpr rfl)] at e; cases e
  have q2 : ∀ b o, B.get? b = some o → b ≠ ce.locals → B2.get? b = some o := fun b o e n => by
    rw [hB2]
    exact PySem.W.hideAll_get _ e fun hm => n (List.mem_singleton.mp hm)
  have q3 : ∀ b, B.get? b = none → B2.get? b = none := fun b e => by
    cases e2 : B2.get? b with
    | none => rfl
    | some o => have := (q1 b o e2).1; rw [e] at this; cases this
  have st2 : B2.StaysIn h2 := fun b o e => (hs2.2 b (q1 b o e).2).trans (hh.1 b o (q1 b o e).1)
  have fr1 : h1.FunFrames B2 (X.env :: X.outer) := funFrames_none hh.2.2.1 fun b hb => q3 b (by
    obtain ⟨z, _⟩ := hh.2.2.1.mem hb
    exact z)
  have fr2 : h2.FunFrames B2 (X.env :: X.outer) := Heap.FunFrames.sameBut hs2 hn2 fr1
  have tr2 : HandSPX.TracedZ h2 B2 a (Zc cls d) (rawInt X.env.locals) := tracedZ_but hh.2.2.2 hn1 hs2 q3
  obtain ⟨oe, vs, T, oT, ts, he, hz, hd, h1', r⟩ := id tr2
  unfold PySem.passOn
  refine wpAny_bind (wpAny_field he hd h1' ?_)
  rw [if_neg (show ¬ ((Value.ref T == Value.none) = true) from by simp)]
  rw [hfC, hf]
  refine wpAny_bind (HandSPX.setFlight_onZ (l := X.env :: X.outer) ⟨st2, q3 a hh.2.1, fr2, tr2⟩ fun h3 hh3 up3 => ?_)
  refine wpAny_throw ?_
  obtain ⟨G, g1, g2⟩ := restrict s'.heap fun b => (B2.get? b).isSome || decide (b ∈ frs X.stack)
  have gB : ∀ b o, B2.get? b = some o → G.get? b = some o := fun b o e => by
    rw [g1 b (by simp [e])]
    exact fl.1 b o (q1 b o e).1
  have gF : ∀ b, b ∈ frs X.stack → G.get? b = s'.heap.get? b := fun b hb => g1 b (by simp [hb])
  have og : ∀ b o, G.get? b = some o → s'.heap.get? b = some o ∧ ((B2.get? b).isSome = true ∨ b ∈ frs X.stack) := fun b o e => by
    cases q : ((B2.get? b).isSome || decide (b ∈ frs X.stack)) with
    | false => rw [g2 b q] at e; cases e
    | true =>
      rw [g1 b q] at e
      exact ⟨e, by simpa [Bool.or_eq_true] using q⟩
  have nb : ∀ b o, G.get? b = some o → b ∉ frs X.stack → B2.get? b = some o := fun b o e hb => by
    obtain ⟨e', h⟩ := og b o e
    rcases h with h | h
    · obtain ⟨o', q⟩ := Option.isSome_iff_exists.mp h
      have z := fl.1 b o' (q1 b o' q).1
      rw [e'] at z; cases z
      exact q
    · exact absurd h hb
  have base9 : Un (frs X.stack) fp H3 H9 s3.heap s9.heap := I9.base
  have IX : Inv X pins σ H' { s9 with heap := G, gens := s'.gens, drawn := s'.drawn, toks := s'.toks } := by
    refine I3.call' (ch := fp) I9.os ⟨fun b o e n hb hx => ?_, fun b o e n hb hx => ?_, fun b o e n hx => ?_, fun b o e hx => ?_, fun b xs e => ub.tups _ _ (base9.tups _ _ e), fun b o xs e => ub.frzs _ _ _ (base9.frzs _ _ _ e), fun b ps e => ?_⟩ ?_ ag hfp
    · exact gB b o (q2 b o (ub.keep b o (base9.keep b o e n hb hx) (base9.free b o e n hx) hb) (old b o e))
    · obtain ⟨sl, e1⟩ := base9.slot b o e n hb hx
      obtain ⟨sl2, e2⟩ := ub.slot b _ e1 hb
      exact ⟨sl2, by rw [gF b hb]; exact e2⟩
    · obtain ⟨sl, e1⟩ := base9.any e n hx
      exact ub.free b _ e1 (base9.free b o e n hx)
    · obtain ⟨o1, e1⟩ := base9.there b o e hx
      by_cases hb : b ∈ frs X.stack
      · obtain ⟨sl2, e2⟩ := ub.slot b _ e1 hb
        exact ⟨_, by rw [gF b hb]; exact e2⟩
      · obtain ⟨o2, e2⟩ := ub.there b _ e1 hb
        exact ⟨o2, gB b o2 (q2 b o2 e2 (old b o e))⟩
    · obtain ⟨m1, e1⟩ := base9.tbls _ _ e
      obtain ⟨m2, e2⟩ := ub.tbls _ _ e1
      exact ⟨m1 ++ m2, by rw [e2, Array.append_assoc]⟩
    · exact fun b o q => (hok b o q).stay (fun c u hc r => gB c u (q2 c u r fun hm => by
        rw [hm] at hc
        rcases hc with hc | hc
        · rw [hc, q] at H'C; cases H'C
        · rw [hc] at H'C; cases H'C)) (fun _ r => r) fun _ _ r => r
  refine tk _ _ ⟨a, B2, _, pins, σ, H', cls, d, rfl, IX, nb, fun b o e hnf => ?_, .inr (.inr (by rw [hs]; exact hh3)), na, os, ag, hW _ _ _ _ hE⟩
  obtain ⟨e', h⟩ := og b o e
  rcases h with h | h
  · obtain ⟨o', q⟩ := Option.isSome_iff_exists.mp h
    have z := fl.1 b o' (q1 b o' q).1
    rw [e'] at z; cases z
    exact ⟨o.slots, hh3.1 b o q⟩
  · obtain ⟨sl, e1⟩ := up b o e' hnf
    have e2 := (hs2.2 b fun q => CnF (q ▸ h)).trans e1
    obtain ⟨sl2, e3⟩ := up3 b _ e2 hnf
    exact ⟨sl2, e3⟩
/-- the context of the element, whose exceptions leave the block -/
abbrev blkX (X : Cx) (s : Shared) (H : Hp) (scope : Scope) (ce : Env) (fp : List Addr) : Cx := { X.blk s H scope ce fp with xe := notedBy (model X.prog X.w) X.A ce (CompFails (model X.prog X.w) X.A X.xe ce) }
/-- [elt for target in iter], elt a call that may raise -/
theorem pe_lcX {elt tg iter : Expr} {scope : Scope} {own : List (Str × Nat)} {pos : Pos} {wi : TI} {g : TG} {te : TE} (hc : X.calm = true) (hN : X.N.Nodup) (tk : Takes X W) (hW : ∀ c d σ H, E c d H → W c d σ H)
    (hss : X.stack = X.env :: X.outer) (hf : X.env.frame = some X.env.locals) (hi : PI X tg iter wi) (ok : BlkOk X.N X.env.scope scope own)
    (hg : ∀ (s : Shared) (H : Hp) (C : Addr) (cl : List (Str × Addr)) (fp : List Addr), PG (X.blk s H scope (compEnvC scope cl C X.env) fp) tg g)
    (he : ∀ (s : Shared) (H : Hp) (C : Addr) (cl : List (Str × Addr)) (fp : List Addr), Passes (L2.CX X.prog X.w) (blkX X s H scope (compEnvC scope cl C X.env) fp) E → PE (blkX X s H scope (compEnvC scope cl C X.env) fp) elt te)
    (hs : ∀ x, foldedSetIterable iter X.env x = pure x := by intro _; rfl) :
    PE X (.ListComp elt [⟨tg, iter, [], 0⟩] scope pos) (tLc wi g tYes te (own.map (·.2))) := by
  refine ⟨fun pins s σ H Q I h => ?_⟩
  have hfree : ∀ y ∈ scope.names, y.2 = .free → ∃ c, X.env.cells.lookup y.1 = some c := fun y hy e => by
    rcases ok.free y hy e with k | k
    · exact I.ok.has _ (.inl k)
    · exact I.ok.has _ (.inr k)
  rw [eval_ListComp]
  refine comprehension_at (use := none) rfl hs (closure_ok hfree) ok.kind (fun y hy e => by rw [ok.uniq y hy, e]) (thn (hi.run pins s σ H _ I h) fun xv s1 hx => thn hx fun itv s2 h2 => ?_)
  obtain ⟨it, fp, tn, J, H2, e, I2, T, st2, f2, q⟩ := h2
  subst e
  refine wpAny_newObj_type (newEnv_comp ?_) (by show 0 ≤ sizeLine; decide)
  generalize hD : s2.heap.objs.size = D
  have hDn : H2 D = none := I2.hok.fresh (Nat.le_of_eq hD)
  obtain ⟨Wm, ⟨m0, w0⟩, turn⟩ := q D hDn
  generalize hs3 : ({ s2 with heap := s2.heap.push { cls := .type "list", data := .seq ([] : List Value).toArray } } : Shared) = s3
  have I3 : Inv X pins σ (upd H2 D (.lst [])) s3 := by
    rw [← hs3]
    refine I2.laid (t' := s2.toks) (fun b o e => Heap.get?_push_of_some _ e) (Nat.le_of_eq hD) ⟨Nat.zero_le _, [], 0, .nil, ?_⟩
    rw [← hD]
    exact Heap.get?_push_size _ rfl
  have h3 : s3.heap = s2.heap.push { cls := .type "list", data := .seq ([] : List Value).toArray } := by rw [← hs3]
  have f3 : ∀ b ∈ fp, FpOk X pins (upd H2 D (.lst [])) b ∧ b < s3.heap.objs.size := fun b hb => by
    obtain ⟨o, e, _⟩ := T.obj _ _ st2 b hb
    have hlt := Heap.lt_size e
    refine ⟨⟨?_, (f2 b hb).2⟩, by rw [h3, Heap.size_push]; exact Nat.lt_succ_of_lt hlt⟩
    rw [upd_ne (by rw [← hD]; exact Nat.ne_of_lt hlt)]
    exact (f2 b hb).1
  have hfp : ∀ b ∈ fp, (b ∈ X.ex ∨ X.s_0.heap.objs.size ≤ b) ∧ b ≠ X.env.locals ∧ (∀ x c, X.env.cells.lookup x = some c → c ≠ b) ∧ ∀ p ∈ X.pn ++ pins, p.1 ≠ b := fun b hb =>
    ⟨(f3 b hb).1.2.2.2.1, (f3 b hb).1.2.1, (f3 b hb).1.2.2.2.2.1, (f3 b hb).1.2.2.2.2.2⟩
  have st3 : tn 0 s3.heap := T.keep _ _ _ st2 fun b _ o e => by rw [h3]; exact Heap.get?_push_of_some _ e
  have I4 := block_start I3 ok hN f3
  have pg := hg s3 (upd H2 D (.lst [])) s3.heap.objs.size (cellsFrom (s3.heap.objs.size + 1) scope.names (cloFrom X.env.cells scope.names [])) fp
  have pe := he s3 (upd H2 D (.lst [])) s3.heap.objs.size (cellsFrom (s3.heap.objs.size + 1) scope.names (cloFrom X.env.cells scope.names [])) fp
  show codeAny _ _ (.compStart (.ListComp elt [⟨tg, iter, [], 0⟩] scope pos) 0 (.ref it) (.ref D) (compEnvC scope (cellsFrom (s3.heap.objs.size + 1) scope.names (cloFrom X.env.cells scope.names [])) s3.heap.objs.size X.env))
    (compEnds (model X.prog X.w) X.A X.xe none (EP X pins σ Q) (.ref D) (compEnvC scope (cellsFrom (s3.heap.objs.size + 1) scope.names (cloFrom X.env.cells scope.names [])) s3.heap.objs.size X.env)) { s3 with heap := pushCells (s3.heap.push { cls := .type "dict", data := .dict #[] }) scope.names }
  have nfp : ∀ b ∈ fp, (upd H2 D (.lst [])) b = none := fun b hb => (f3 b hb).1.1
  generalize hce : compEnvC scope (cellsFrom (s3.heap.objs.size + 1) scope.names (cloFrom X.env.cells scope.names [])) s3.heap.objs.size X.env = ce at I4 pg pe ⊢
  have cL : ce.locals = s3.heap.objs.size := by subst hce; rfl
  have cF : ce.frame = X.env.frame := by subst hce; rfl
  generalize hH3 : upd H2 D (.lst []) = H3 at I3 I4 pg pe w0 nfp f3
  generalize hs4 : ({ s3 with heap := pushCells (s3.heap.push { cls := .type "dict", data := .dict #[] }) scope.names } : Shared) = s4 at I4 ⊢
  have st4 : tn 0 s4.heap := T.keep _ _ _ st3 fun b _ o e => by rw [← hs4]; exact pushCells_keeps _ _ _ _ (Heap.get?_push_of_some _ e)
  have pe := pe fun pb σ8 H9 s9 u s' I9 cx => comp_raise tk hW hss hf I3 hfp cF (Nat.le_of_eq cL.symm) (Inv.xeTo (fun _ _ => False) I9) cx
  have stat : ∀ {σ' : L2.St} {H' : Hp} {s' : Shared}, Inv (X.blk s3 H3 scope ce fp) [] σ' H' s' → (∀ b ∈ fp, H' b = none) → ∀ b ∈ fp, FpOk (X.blk s3 H3 scope ce fp) [] H' b := fun {σ' H' s'} I' hn b hb =>
    ⟨hn b hb, (I'.ok.exf b hb).1, I'.ok.exfs b hb, .inl hb, fun x c e => (I'.ok.exf b hb).2 x c e, fun p hp => absurd (show p ∈ ([] : List (Addr × Obj)) ++ [] from hp) (by simp)⟩
  have loop : codeAny (model X.prog X.w) X.A (.compLoop (.ListComp elt [⟨tg, iter, [], 0⟩] scope pos) 0 (.ref it) (.ref D) ce) (compEnds (model X.prog X.w) X.A X.xe none (EP X pins σ Q) (.ref D) ce) s4 := by
    refine compLoop_any (fun n s' => ∃ i H', Inv (X.blk s3 H3 scope ce fp) [] (wipe σ (own.map (·.2))) H' s' ∧ tn i s'.heap ∧ (∀ b ∈ fp, H' b = none) ∧ Wm i n H') ?_ m0 ⟨0, H3, I4, st4, nfp, w0⟩
    rintro n s5 ⟨i, H5, I5, st5, n5, w5⟩
    rcases turn i n H5 w5 with ⟨stop, qq⟩ | ⟨go, Nx, hNx, step⟩
    · have td := T.done (X.blk s3 H3 scope ce fp) rfl rfl rfl hc i [] s5 _ H5 (fun _ _ => False) I5 (stat I5 n5) st5 stop
      refine thnF td fun r s6 ⟨hr, I6⟩ => ?_
      subst hr
      have I7 : Inv X pins σ H5 s6 := I3.call' (ch := fp) I6.os I6.base I6.hok I6.bare hfp
      have nC : H5 s3.heap.objs.size = none := by
        have z : H5 ce.locals = none := I6.free
        rw [cL] at z
        exact z
      obtain ⟨m, hn, _⟩ := I6.loc
      refine ⟨m, hn, fun h'' sb => ?_⟩
      rw [cL] at sb
      obtain ⟨k0, k1, k2, k3, k4, k5⟩ := I3.fpOk (Nat.le_refl _) nC
      exact ⟨.ref D, H5, I7.turned (t' := s6.toks) (fun b o hb e => (sb.2 b hb).trans e) k0 k1 k3 k4 k5, rfl, qq⟩
    · have ti := T.item (X.blk s3 H3 scope ce fp) rfl rfl rfl hc i [] s5 _ H5 (fun _ _ => False) I5 (stat I5 n5) st5 go
      refine thnF ti fun r s6 ⟨u, hr, h6⟩ => ?_
      subst hr
      refine thnF h6 fun _ s7 ⟨x, H7, I7, r7, y7, st7, n7⟩ => ?_
      have I7' := I7.pinned (stat I7 n7) (T.obj _ _ st7)
      refine thnF (pg.run _ s7 _ H7 x u _ I7' r7 (step x H7 y7)) fun _ s8 ⟨σ8, H8, I8, hw8, q8⟩ => ?_
      refine wpAny_tests_nil ?_
      rw [if_pos rfl]
      have q9 : te σ8 H8 (fun y H4 => ∃ acc, H4 D = some (.lst acc) ∧ acc.length < sizeLine ∧ Nx (upd H4 D (.lst (acc ++ [y])))) := q8
      refine wpAny_mono (pe.run _ s8 σ8 H8 _ (Inv.xeTo _ I8) q9) (fun z s10 ⟨yv, H10, I10, r10, acc, hD10, hz10, nx⟩ => ?_) fun u s' hx => hx
      refine app_ok (X := X.blk s3 H3 scope ce fp) (Inv.xeTo (fun _ _ => False) I10) hD10 hz10 r10 fun s11 I11 => ?_
      obtain ⟨m', hm, w'⟩ := hNx _ nx
      have pin' : ∀ b ∈ fp, ∀ o, s7.heap.get? b = some o → s11.heap.get? b = some o ∧ (upd H10 D (.lst (acc ++ [yv]))) b = none := fun b hb o e =>
        let z := I11.pin (b, o) (List.mem_append_right _ (List.mem_append_right _ (mem_pinsAt hb e)))
        ⟨z.1, z.2.1⟩
      have hl : (wipe σ (own.map (·.2))).length = σ8.length := by rw [← hw8, wipe_length]
      refine ⟨m', hm, i + 1, _, (I11.unpinned (pins := [])).weak hl (fun j v e => ?_), T.keep _ _ _ st7 fun b hb o e => (pin' b hb o e).1, fun b hb => ?_, w'⟩
      · rw [← hw8] at e
        exact (wipe_some e).1
      · obtain ⟨o, e, _⟩ := T.obj _ _ st7 b hb
        exact (pin' b hb o e).2
  exact codeAny_compStart_list loop (T.self X.A 0 _ _ _ st4 loop)
end
end Ly

set_option maxHeartbeats 1000000
namespace Ly
open PySem PySem.Spec PyProof.Rows L2
section
variable {α β : Type}
def mpM (f : α → M β) : List α → M (List β)
  | [] => .ok []
  | x :: xs => mb (f x) fun y => mb (mpM f xs) fun ys => .ok (y :: ys)
theorem mbOk {m : M α} {f : α → M β} {b : β} (h : mb m f = .ok b) : ∃ a, m = .ok a ∧ f a = .ok b := by
  cases m with
  | ok a => exact ⟨a, rfl, h⟩
  | er c => cases h
  | no => cases h
theorem mbEr {m : M α} {f : α → M β} {c : Str} (h : mb m f = .er c) : m = .er c ∨ ∃ a, m = .ok a ∧ f a = .er c := by
  cases m with
  | ok a => exact .inr ⟨a, rfl, h⟩
  | er c => cases h; exact .inl rfl
  | no => cases h
theorem gdOk {b : Bool} {m : M α} {x : α} (h : gd b m = .ok x) : b = true ∧ m = .ok x := by
  cases b with
  | true => exact ⟨rfl, h⟩
  | false => cases h
theorem gdEr {b : Bool} {m : M α} {c : Str} (h : gd b m = .er c) : b = true ∧ m = .er c := by
  cases b with
  | true => exact ⟨rfl, h⟩
  | false => cases h
theorem mpM_ok {f : α → M β} : ∀ {xs : List α} {ys : List β}, mpM f xs = .ok ys → mpO (fun x => (f x).o) xs = some ys
  | [], _, h => by cases h; rfl
  | x :: xs, _, h => by
    unfold mpM at h
    obtain ⟨y, h1, h2⟩ := mbOk h
    obtain ⟨ys, h3, h4⟩ := mbOk h2
    cases h4
    unfold mpO
    rw [h1, mpM_ok h3]; rfl
theorem mpM_er {f : α → M β} {c : Str} : ∀ {xs : List α}, mpM f xs = .er c → ∃ (i : Nat) (x : α), xs[i]? = some x ∧ f x = .er c ∧ ∀ j y, j < i → xs[j]? = some y → ∃ z, f y = .ok z
  | [], h => by cases h
  | x :: xs, h => by
    unfold mpM at h
    rcases mbEr h with h1 | ⟨y, h1, h2⟩
    · exact ⟨0, x, rfl, h1, fun j y hj => absurd hj (Nat.not_lt_zero _)⟩
    · rcases mbEr h2 with h3 | ⟨ys, _, h4⟩
      · obtain ⟨i, x', e1, e2, e3⟩ := mpM_er h3
        refine ⟨i + 1, x', e1, e2, fun j y' hj hy => ?_⟩
        cases j with
        | zero => cases hy; exact ⟨y, h1⟩
        | succ j => exact e3 j y' (by omega) hy
      · cases h4
variable {K : FK} {B : Bs} {Γ : List Sl} {F : Fra} {te ta tb : TE} {tt : TT} {D : Ends} {E : XK} {c : Str} {g : TG} {e : α → DD} {e' : β → DD} {P : DD → Prop}
theorem en_mpX {wi : TI} {us : List Nat} {xs : List α} {ys : List β} {f : α → M β} (hi : EvI K B wi Γ (xs.map e)) (hno : AllNo Γ us) (hm : mpM f xs = .ok ys) (hl : szLt xs.length = true)
    (hs : ∀ x, x ∈ xs → ∃ Γ2 vs, Tg K B g (e x) Γ Γ2 vs ∧ (∀ v ∈ vs, v ∈ us) ∧ (∀ y, f x = .ok y → EvD K B te Γ2 (e' y)) ∧ (∀ c, f x = .er c → EvE K B te Γ2 E c)) :
    EvND K B (tLc wi g tYes te us) Γ (ys.map e') := en_mpO (f := fun x => (f x).o) hi hno (mpM_ok hm) hl fun x y hx hy => by
  obtain ⟨Γ2, vs, h1, h2, h3, _⟩ := hs x hx
  exact ⟨Γ2, vs, h1, h2, h3 y (M.o_some hy)⟩
theorem ev_ofE (h : EvE K B te Γ E c) (k : RaiD K B E c) : Ev K B te Γ (fun _ => False) := fun F σ H s Q q => h F σ H s Q fun H' F' s' => k Γ F' σ H' s'
theorem en_mpF {wi : TI} {us : List Nat} {xs : List α} {f : α → M β} (k : RaiD K B E c) (hi : EvI K B wi Γ (xs.map e)) (hno : AllNo Γ us) (hm : mpM f xs = .er c) (hl : szLt xs.length = true)
    (hs : ∀ x, x ∈ xs → ∃ Γ2 vs, Tg K B g (e x) Γ Γ2 vs ∧ (∀ v ∈ vs, v ∈ us) ∧ (∀ y, f x = .ok y → EvD K B te Γ2 (e' y)) ∧ (∀ c, f x = .er c → EvE K B te Γ2 E c)) :
    Ev K B (tLc wi g tYes te us) Γ (fun _ => False) := by
  obtain ⟨i0, x0, e0, e1, e2⟩ := mpM_er hm
  have lt0 : i0 < xs.length := (List.getElem?_eq_some_iff.mp e0).1
  refine EvN.ev (Ps := fun _ => False) (fun F σ H s Q q => en_lc (us := us) hi hno (fun i l => i ≤ i0 ∧ l.length ≤ i) ⟨Nat.zero_le _, Nat.le_refl _⟩ (fun i l ⟨h1, h2⟩ => by
      have := szLt_of hl
      omega) (fun i d l hd ⟨h1, h2⟩ => by
    rw [List.getElem?_map] at hd
    cases hx : xs[i]? with
    | none => rw [hx] at hd; cases hd
    | some x =>
      rw [hx] at hd
      cases hd
      obtain ⟨Γ2, vs, t1, t2, t3, t4⟩ := hs x (List.mem_of_getElem? hx)
      by_cases hlt : i < i0
      · obtain ⟨y, hy⟩ := e2 i x hlt hx
        exact ⟨Γ2, vs, true, (· = e' y), t1, t2, fun F σ H s Q q => q H s, fun _ => t3 y hy, fun _ z hz => ⟨hlt, by rw [List.length_append]; simp; omega⟩, fun z => by cases z⟩
      · have ei : i = i0 := by omega
        subst ei
        rw [hx] at e0
        cases e0
        exact ⟨Γ2, vs, true, fun _ => False, t1, t2, fun F σ H s Q q => q H s, fun _ => ev_ofE (t4 c e1) k, fun _ z hz => hz.elim, fun z => by cases z⟩) F σ H s Q fun p l H' ⟨h, _⟩ => by
    rw [List.length_map] at h
    omega) fun _ h => h.elim
theorem ev_if1 (ht : EvT K B tt Γ true) (h : Ev K B ta Γ P) : Ev K B (tIf tt ta tb) Γ P := fun F σ H s Q q => ht F σ H s _ fun H' s' => h F σ H' s' Q q
theorem ev_if0 (ht : EvT K B tt Γ false) (h : Ev K B tb Γ P) : Ev K B (tIf tt ta tb) Γ P := fun F σ H s Q q => ht F σ H s _ fun H' s' => h F σ H' s' Q q
theorem nx_asgF (h : RaiD K B E c → Ev K B te Γ (fun _ => False)) (k : RaiD K B E c) : Nx K B (tAsg te g D) Γ F := fun σ H s => h k F σ H s _ fun v d H' f => f.elim
theorem ev_ifM {b : Bool} {m n : M α} {y : α} (ht : EvT K B tt Γ b) (h : sel b m n = .ok y) (h1 : m = .ok y → EvD K B ta Γ (e y)) (h2 : n = .ok y → EvD K B tb Γ (e y)) : EvD K B (tIf tt ta tb) Γ (e y) := by
  cases b with
  | true => exact ev_if1 ht (h1 h)
  | false => exact ev_if0 ht (h2 h)
theorem ev_ifF {b : Bool} {m n : M α} (ht : EvT K B tt Γ b) (h : sel b m n = .er c) (h1 : m = .er c → Ev K B ta Γ P) (h2 : n = .er c → Ev K B tb Γ P) : Ev K B (tIf tt ta tb) Γ P := by
  cases b with
  | true => exact ev_if1 ht (h1 h)
  | false => exact ev_if0 ht (h2 h)
end
section
variable {X : Cx} {K : FK} {B : Bs} {Γ : List Sl}
def iSeq (K : FK) (tl : TE) : TI := fun σ H R => tl σ H fun x H1 => ∃ a, x = .ref a ∧ (((∃ xs, SqL K H1 a xs) ∧ R (Itl K a) H1) ∨ ((∃ xs, SqT K H1 a xs) ∧ R (Itt K a) H1))
theorem pi_seq {tg l : Expr} {tl : TE} (hl : PE X l tl) : PI X tg l (iSeq X.K tl) := by
  refine ⟨fun pins s σ H R I h => ?_⟩
  refine thn (hl.run pins s σ H _ I h) fun v s1 ⟨x, H1, I1, r1, q1⟩ => ?_
  obtain ⟨a, e, q1⟩ := q1
  subst e
  cases r1
  have fin : ∀ b ∈ [s1.heap.objs.size], FpOk X pins H1 b := fun b hb => by
    have e : b = s1.heap.objs.size := by simpa using hb
    subst e
    exact I1.fpOk (Nat.le_refl _) (I1.hok.fresh (Nat.le_refl _))
  rcases q1 with ⟨⟨xs, hq⟩, q⟩ | ⟨⟨xs, hq⟩, q⟩
  · obtain ⟨its, rv, p, hz⟩ := I1.list hq
    refine wpAny_pyIter_list p.isList ?_
    exact ⟨s1.heap.objs.size, [s1.heap.objs.size], _, _, H1, rfl, I1.kept (t' := s1.toks) fun b o e => Heap.get?_push_of_some _ e, turn_list a _, ⟨_, Heap.get?_push_size _ rfl, rfl, rfl⟩, fin, q⟩
  · obtain ⟨its, rv, p, hz⟩ := I1.tuple hq
    refine wpAny_pyIter_tuple (show s1.heap.IsTuple a its.toArray from p) ?_
    exact ⟨s1.heap.objs.size, [s1.heap.objs.size], _, _, H1, rfl, I1.kept (t' := s1.toks) fun b o e => Heap.get?_push_of_some _ e, turn_tuple a _, ⟨_, Heap.get?_push_size _ rfl, rfl, rfl⟩, fin, q⟩
def seqO (d : DD) : Option (List DD) := match d with
  | .list ds => some ds
  | .tuple ds => some ds
  | _ => none
theorem ei_seq {tl : TE} {d : DD} {ds : List DD} (h : EvD K B tl Γ d) (hd : seqO d = some ds) : EvI K B (iSeq K tl) Γ ds := EvI0.gen (fun F σ H s R q => by
  cases d with
  | list ds' =>
    cases hd
    exact h F σ H s _ fun v d H' e s' => by
      subst e
      obtain ⟨G, s1⟩ := id s'
      obtain ⟨a, xs, rfl, ha, hs⟩ := (s1.tm (v, .list ds) (by simp)).lst_inv
      refine ⟨a, rfl, .inl ⟨⟨xs, SqL.of (s1.ex _ _ ha)⟩, q _ [(.ref a, .list ds)] H' (fun Γ2 F2 σ2 H2 s2 hT i => ?_) s'⟩⟩
      obtain ⟨G2, s3⟩ := id s2
      obtain ⟨a2, xs2, e2, ha2, hs2⟩ := (s3.tm (.ref a, .list ds) (hT _ (by simp))).lst_inv
      cases e2
      have sq : SqL K H2 a xs2 := SqL.of (s3.ex _ _ ha2)
      refine ⟨fun d hd => ?_, fun e => ⟨xs2, sq, by rw [hs2.length, e]; exact Nat.le_refl _⟩⟩
      obtain ⟨w, hw, hdw⟩ := hs2.get hd
      refine ⟨⟨xs2, w, sq, hw⟩, fun x H3 hy => ?_⟩
      obtain ⟨rfl, hy⟩ := hy
      have := hy xs2 sq
      rw [hw] at this
      cases this
      exact S.grown s3 (Grow.refl s3.ex) hdw
  | tuple ds' =>
    cases hd
    exact h F σ H s _ fun v d H' e s' => by
      subst e
      obtain ⟨G, s1⟩ := id s'
      obtain ⟨a, xs, rfl, ha, hs⟩ := (s1.tm (v, .tuple ds) (by simp)).tup_inv
      refine ⟨a, rfl, .inr ⟨⟨xs, ex_t s1.ex ha⟩, q _ [(.ref a, .tuple ds)] H' (fun Γ2 F2 σ2 H2 s2 hT i => ?_) s'⟩⟩
      obtain ⟨G2, s3⟩ := id s2
      obtain ⟨a2, xs2, e2, ha2, hs2⟩ := (s3.tm (.ref a, .tuple ds) (hT _ (by simp))).tup_inv
      cases e2
      have sq : SqT K H2 a xs2 := ex_t s3.ex ha2
      refine ⟨fun d hd => ?_, fun e => ⟨xs2, sq, by rw [hs2.length, e]; exact Nat.le_refl _⟩⟩
      obtain ⟨w, hw, hdw⟩ := hs2.get hd
      refine ⟨⟨xs2, w, sq, hw⟩, fun x H3 hy => ?_⟩
      obtain ⟨rfl, hy⟩ := hy
      have := hy xs2 sq
      rw [hw] at this
      cases this
      exact S.grown s3 (Grow.refl s3.ex) hdw
  | _ => cases hd)
theorem ei_seqD {tl : TE} {d : DD} {ds : List DD} (h : EvD K B tl Γ d) (hd : seqO d = some ds) : EvI K B (iSeq K tl) Γ (ds.map eD) := by
  have e : ds.map eD = ds := List.map_id'' (fun _ => rfl) ds
  rw [e]
  exact ei_seq h hd
end
theorem eqvS (x y : Str) : PyData.eqv (.str x) (.str y) = decide (x = y) := by show (x == y) = decide (x = y); by_cases h : x = y <;> simp [h]
section
variable {K : FK} {B : Bs} {Γ : List Sl} {ta tb to te : TE} {x : Str} {xs : List Str}
theorem inD_mapS : inD (.str x) (xs.map PyData.str) = memB x xs := by
  unfold inD memB
  induction xs with
  | nil => simp
  | cons y ys ih => rw [List.map_cons, List.any_cons, eqvS, ih, List.any_cons]
theorem et_inS (ha : EvD K B ta Γ (.str x)) (hb : EvD K B tb Γ (.list (xs.map PyData.str))) : EvD K B (tOp (rIn K false) ta tb) Γ (.bool (memB x xs)) :=
  EvD.to (ev_op ha hb (rd_inL rfl (all_flat (e := PyData.str) (fun _ => rfl) xs))) (by rw [inD_mapS]; rfl)
theorem et_niS (ha : EvD K B ta Γ (.str x)) (hb : EvD K B tb Γ (.list (xs.map PyData.str))) : EvD K B (tOp (rIn K true) ta tb) Γ (.bool (!memB x xs)) :=
  EvD.to (ev_op ha hb (rd_inL rfl (all_flat (e := PyData.str) (fun _ => rfl) xs))) (by rw [inD_mapS]; rfl)
theorem et_idxS {jj : Nat} (h : EvD K B to Γ (.list (xs.map PyData.str))) (h2 : EvD K B te Γ (.str x)) (hj : idxO x xs = some jj) : EvD K B (tBM K "list" (rIndex K) to (tCons te tNil)) Γ (.int (jj : Nat)) := by
  obtain ⟨h3, h4⟩ := idxO_at hj
  refine ev_index (w := .str x) h h2 rfl (all_flat (e := PyData.str) (fun _ => rfl) xs) (by rw [List.getElem?_map, h3]; rfl) (by rw [eqvS]; exact decide_eq_true rfl) fun m u hm hu => ?_
  rw [List.getElem?_map] at hu
  cases hx : xs[m]? with
  | none => rw [hx] at hu; cases hu
  | some z =>
    rw [hx] at hu
    cases hu
    show PyData.eqv (.str z) (.str x) = false
    rw [eqvS]
    exact decide_eq_false (h4 m z hm hx)
end
end Ly

namespace Ly
open PySem PySem.Spec PyProof.Rows L2
theorem funD_fun {K : FK} {x qual : Str} {st : Stmt} {f : Addr} {fd : FuncData} (F : FunD K x qual (defArgs st) (defBody st) (defScope st) [] [] f fd) : Fun K x qual st f fd := by
  obtain ⟨⟨oc, od, dV, kV, doc, pm, an, cdv, ct, osl, e, l, c, d, _⟩, kp⟩ := F
  rcases d with ⟨_, d⟩ | ⟨d, _⟩
  · subst d
    exact ⟨⟨oc, od, kV, doc, pm, an, cdv, ct, osl, e, l, c⟩, kp⟩
  · exact absurd rfl d
/-- data of the written part -/
def kdd (K : FK) : Nat → DD → Value → Bool
  | 0, _, _ => false
  | n + 1, d, u => match d with
    | .none => (match u with | .none => true | _ => false)
    | .bool b => (match u with | .bool c => b == c | _ => false)
    | .int i => (match u with | .int j _ => decide (i = j) | _ => false)
    | .str x => (match u with | .str y _ => decide (x = y) | _ => false)
    | .tuple ds => (match u with
      | .ref a => (match K.lookup a with
        | some ⟨.type c, _, .seq its _, _⟩ => decide (c = "tuple") && (decide (its.size ≤ sizeLine) && (decide (ds.length = its.toList.length) && (ds.zip its.toList).all fun p => kdd K n p.1 p.2))
        | _ => false)
      | _ => false)
    | _ => false
theorem kdd_all {K : FK} {n : Nat} (ih : ∀ d u, kdd K n d u = true → ∃ v, RelV v u ∧ ∀ G, Da K G v d) : ∀ (ds : List DD) (us : List Value), ds.length = us.length → ((ds.zip us).all fun p => kdd K n p.1 p.2) = true → ∃ vs, Vals vs us ∧ ∀ G, DaL K G vs ds
  | [], [], _, _ => ⟨[], .nil, fun _ => .nil⟩
  | [], _ :: _, e, _ => by cases e
  | _ :: _, [], e, _ => by cases e
  | d :: ds, u :: us, e, h => by
    rw [List.zip_cons_cons, List.all_cons, Bool.and_eq_true] at h
    obtain ⟨v, h1, h2⟩ := ih d u h.1
    obtain ⟨vs, h3, h4⟩ := kdd_all ih ds us (Nat.succ.inj e) h.2
    exact ⟨v :: vs, .cons h1 h3, fun G => .cons (h2 G) (h4 G)⟩
theorem kdd_ok {K : FK} : ∀ (n : Nat) (d : DD) (u : Value), kdd K n d u = true → ∃ v, RelV v u ∧ ∀ G, Da K G v d
  | 0, _, _, h => by cases h
  | n + 1, d, u, h => by
    cases d with
    | none => cases u <;> first | exact ⟨.non, rfl, fun _ => .non⟩ | cases h
    | bool b =>
      cases u with
      | bool c =>
        have e : b = c := eq_of_beq (show (b == c) = true from h)
        exact ⟨.bl b, by rw [e]; rfl, fun _ => .bl b⟩
      | _ => cases h
    | int i =>
      cases u with
      | int j t =>
        have e : i = j := of_decide_eq_true h
        exact ⟨.int i, ⟨t, by rw [e]⟩, fun _ => .int i⟩
      | _ => cases h
    | str i =>
      cases u with
      | str j t =>
        have e : i = j := of_decide_eq_true h
        exact ⟨.str i, ⟨t, by rw [e]⟩, fun _ => .str i⟩
      | _ => cases h
    | tuple ds =>
      cases u with
      | ref a =>
        have h' : (match K.lookup a with
          | some ⟨.type c, _, .seq its _, _⟩ => decide (c = "tuple") && (decide (its.size ≤ sizeLine) && (decide (ds.length = its.toList.length) && (ds.zip its.toList).all fun p => kdd K n p.1 p.2))
          | _ => false) = true := h
        cases q : K.lookup a with
        | none => rw [q] at h'; cases h'
        | some o =>
          obtain ⟨oc, od, dt, osl⟩ := o
          rw [q] at h'
          cases oc with
          | type c =>
            cases dt with
            | seq its m =>
              have h2 : (decide (c = "tuple") && (decide (its.size ≤ sizeLine) && (decide (ds.length = its.toList.length) && (ds.zip its.toList).all fun p => kdd K n p.1 p.2))) = true := h'
              simp only [Bool.and_eq_true, decide_eq_true_eq] at h2
              obtain ⟨h3, h4, h5, h6⟩ := h2
              obtain ⟨vs, h7, h8⟩ := kdd_all (kdd_ok n) ds its.toList h5 h6
              exact ⟨.ref a, rfl, fun G => .tup (.inr ⟨_, its, m, q, congrArg Value.type h3, rfl, h4, h7⟩) (h8 G)⟩
            | _ => cases h'
          | _ => cases dt <;> cases h'
      | _ => cases h
    | list ds => cases u <;> cases h
    | dict ds => cases u <;> cases h
def conB (K : FK) (x : Str) (d : DD) : Bool := kdd K 6 d (.ref (He.ga K x))
theorem con_ok {K : FK} {x : Str} {d : DD} (h : conB K x d = true) : ∀ G, Da K G (.ref (He.ga K x)) d := by
  obtain ⟨v, h1, h2⟩ := kdd_ok 6 d _ h
  have e : v = .ref (He.ga K x) := by
    cases v with
    | ref a => cases (show Value.ref (He.ga K x) = Value.ref a from h1); rfl
    | non => cases (show Value.ref (He.ga K x) = Value.none from h1)
    | bl b => cases (show Value.ref (He.ga K x) = Value.bool b from h1)
    | int i => obtain ⟨t, z⟩ := h1; cases z
    | str i => obtain ⟨t, z⟩ := h1; cases z
    | byt i => obtain ⟨t, z⟩ := h1; cases z
    | flt i => obtain ⟨t, z⟩ := h1; cases z
    | ty n => cases (show Value.ref (He.ga K x) = Value.type n from h1)
  rw [← e]; exact h2
end Ly

set_option maxHeartbeats 4000000
set_option synthInstance.maxSize 2000
namespace Pf
open PySem PySem.Spec PyProof.Rows L2 Ly

local macro_rules | `(tactic| walk_at "zz_sh") => `(tactic| first | exact (ok_ints (n := 0) _).shaped | exact (ok_sdd _).shaped | exact (ok_rows _).shaped)
local macro_rules | `(tactic| walk_at "zz_ob") => `(tactic| first | assumption | walk_at "zz_sh" | omega | decide | (constructor <;> omega) | (simp_all <;> done) | (simp_all <;> omega))
local macro_rules | `(tactic| walk_at "zz_leaf") => `(tactic| first | rfl | (simp_all <;> done) | (simp_all <;> omega))
local macro_rules | `(tactic| walk_at "zz_no") => `(tactic| first | omega | (simp_all <;> done) | (simp_all <;> omega))
def tS (i : Nat) : Stmt := PySem.Challenge.pw_carriedrests_k15_whole_texts.main.body.getD i (.Pass ⟨0, 0, 0, 0⟩)
structure Tx (K : FK) (mg : Str → Option Value) where
  f_is_int : Addr
  d_is_int : FuncData
  F_is_int : Fun K "is_int" "is_int" (tS 8) f_is_int d_is_int
  g_is_int : mg "is_int" = some (.ref f_is_int)
  f_is_number : Addr
  d_is_number : FuncData
  F_is_number : Fun K "is_number" "is_number" (tS 15) f_is_number d_is_number
  g_is_number : mg "is_number" = some (.ref f_is_number)
  f_is_row : Addr
  d_is_row : FuncData
  F_is_row : Fun K "is_row" "is_row" (tS 16) f_is_row d_is_row
  g_is_row : mg "is_row" = some (.ref f_is_row)
  f_check_row : Addr
  d_check_row : FuncData
  F_check_row : Fun K "check_row" "check_row" (tS 17) f_check_row d_check_row
  g_check_row : mg "check_row" = some (.ref f_check_row)
  f_is_word : Addr
  d_is_word : FuncData
  F_is_word : Fun K "is_word" "is_word" (tS 18) f_is_word d_is_word
  g_is_word : mg "is_word" = some (.ref f_is_word)
  f_is_way : Addr
  d_is_way : FuncData
  F_is_way : Fun K "is_way" "is_way" (tS 19) f_is_way d_is_way
  g_is_way : mg "is_way" = some (.ref f_is_way)
  f_check_way : Addr
  d_check_way : FuncData
  F_check_way : Fun K "check_way" "check_way" (tS 20) f_check_way d_check_way
  g_check_way : mg "check_way" = some (.ref f_check_way)
  f_format_way : Addr
  d_format_way : FuncData
  F_format_way : Fun K "format_way" "format_way" (tS 22) f_format_way d_format_way
  g_format_way : mg "format_way" = some (.ref f_format_way)
  f_format_row : Addr
  d_format_row : FuncData
  F_format_row : Fun K "format_row" "format_row" (tS 23) f_format_row d_format_row
  g_format_row : mg "format_row" = some (.ref f_format_row)
  f_check_text : Addr
  d_check_text : FuncData
  F_check_text : Fun K "check_text" "check_text" (tS 24) f_check_text d_check_text
  g_check_text : mg "check_text" = some (.ref f_check_text)
  f_item_in : Addr
  d_item_in : FuncData
  F_item_in : Fun K "item_in" "item_in" (tS 25) f_item_in d_item_in
  g_item_in : mg "item_in" = some (.ref f_item_in)
  f_parse_way : Addr
  d_parse_way : FuncData
  F_parse_way : Fun K "parse_way" "parse_way" (tS 26) f_parse_way d_parse_way
  g_parse_way : mg "parse_way" = some (.ref f_parse_way)
  f_number_in : Addr
  d_number_in : FuncData
  F_number_in : Fun K "number_in" "number_in" (tS 27) f_number_in d_number_in
  g_number_in : mg "number_in" = some (.ref f_number_in)
  f_parse_row : Addr
  d_parse_row : FuncData
  F_parse_row : Fun K "parse_row" "parse_row" (tS 28) f_parse_row d_parse_row
  g_parse_row : mg "parse_row" = some (.ref f_parse_row)
  f__law_start : Addr
  d__law_start : FuncData
  F__law_start : Fun K "_law_start" "_law_start" (tS 30) f__law_start d__law_start
  g__law_start : mg "_law_start" = some (.ref f__law_start)
  f__law_draw : Addr
  d__law_draw : FuncData
  F__law_draw : Fun K "_law_draw" "_law_draw" (tS 31) f__law_draw d__law_draw
  g__law_draw : mg "_law_draw" = some (.ref f__law_draw)
  f__law_pick : Addr
  d__law_pick : FuncData
  F__law_pick : Fun K "_law_pick" "_law_pick" (tS 32) f__law_pick d__law_pick
  g__law_pick : mg "_law_pick" = some (.ref f__law_pick)
  f__law_error : Addr
  d__law_error : FuncData
  F__law_error : Fun K "_law_error" "_law_error" (tS 33) f__law_error d__law_error
  g__law_error : mg "_law_error" = some (.ref f__law_error)
  f__law_steps : Addr
  d__law_steps : FuncData
  F__law_steps : Fun K "_law_steps" "_law_steps" (tS 34) f__law_steps d__law_steps
  g__law_steps : mg "_law_steps" = some (.ref f__law_steps)
  f__law_modes : Addr
  d__law_modes : FuncData
  F__law_modes : Fun K "_law_modes" "_law_modes" (tS 35) f__law_modes d__law_modes
  g__law_modes : mg "_law_modes" = some (.ref f__law_modes)
  f__law_way : Addr
  d__law_way : FuncData
  F__law_way : Fun K "_law_way" "_law_way" (tS 36) f__law_way d__law_way
  g__law_way : mg "_law_way" = some (.ref f__law_way)
  f__law_row : Addr
  d__law_row : FuncData
  F__law_row : Fun K "_law_row" "_law_row" (tS 37) f__law_row d__law_row
  g__law_row : mg "_law_row" = some (.ref f__law_row)
  f__law_parsed : Addr
  d__law_parsed : FuncData
  F__law_parsed : Fun K "_law_parsed" "_law_parsed" (tS 38) f__law_parsed d__law_parsed
  g__law_parsed : mg "_law_parsed" = some (.ref f__law_parsed)
  f__law_words : Addr
  d__law_words : FuncData
  F__law_words : Fun K "_law_words" "_law_words" (tS 39) f__law_words d__law_words
  g__law_words : mg "_law_words" = some (.ref f__law_words)
  f__law_rejected : Addr
  d__law_rejected : FuncData
  F__law_rejected : Fun K "_law_rejected" "_law_rejected" (tS 40) f__law_rejected d__law_rejected
  g__law_rejected : mg "_law_rejected" = some (.ref f__law_rejected)
  f_law : Addr
  d_law : FuncData
  F_law : Fun K "law" "law" (tS 41) f_law d_law
  g_law : mg "law" = some (.ref f_law)
  t_WIDEST : Tok
  g_WIDEST : mg "WIDEST" = some (.int (4) t_WIDEST)
  t_MOST_ROW : Tok
  g_MOST_ROW : mg "MOST_ROW" = some (.int (30) t_MOST_ROW)
  a_STEPS : Addr
  g_STEPS : mg "STEPS" = some (.ref a_STEPS)
  k_STEPS : ∀ G, Da K G (.ref a_STEPS) (.tuple [.tuple [.int 2, .int 1], .tuple [.int 3, .int 1], .tuple [.int 4, .int 1], .tuple [.int 4, .int 2], .tuple [.int 6, .int 1], .tuple [.int 6, .int 2], .tuple [.int 6, .int 3]])
  a_MODES : Addr
  g_MODES : mg "MODES" = some (.ref a_MODES)
  k_MODES : ∀ G, Da K G (.ref a_MODES) (.tuple [.str "down", .str "up", .str "in", .str "out", .str "neardown", .str "nearup", .str "nearin", .str "nearout", .str "neareven", .str "nearodd"])
  a_CARRIES : Addr
  g_CARRIES : mg "CARRIES" = some (.ref a_CARRIES)
  k_CARRIES : ∀ G, Da K G (.ref a_CARRIES) (.tuple [.str "none", .str "all", .str "signs", .str "pairs"])
  m_ValueError : mg "ValueError" = none
  m_all : mg "all" = none
  m_bool : mg "bool" = none
  m_int : mg "int" = none
  m_isinstance : mg "isinstance" = none
  m_len : mg "len" = none
  m_list : mg "list" = none
  m_range : mg "range" = none
  m_str : mg "str" = none
  m_tuple : mg "tuple" = none
  g_RestError : mg "RestError" = some (.ref (He.ga K "RestError"))
  g_BadWay : mg "BadWay" = some (.ref (He.ga K "BadWay"))
  g_BadRow : mg "BadRow" = some (.ref (He.ga K "BadRow"))
  g_BadWritten : mg "BadWritten" = some (.ref (He.ga K "BadWritten"))
  g_BadNumber : mg "BadNumber" = some (.ref (He.ga K "BadNumber"))
  g_BadText : mg "BadText" = some (.ref (He.ga K "BadText"))
  g_NotFound : mg "NotFound" = some (.ref (He.ga K "NotFound"))
  ks : kitsB K = true
theorem b_is_int {K : FK} {mg : Str → Option Value} (T : Tx K mg) : Binds K T.d_is_int ["value", "low", "high"] [] := T.F_is_int.binds fun _ _ _ _ _ _ us hl => match us, hl with | [_, _, _], _ => rfl
theorem b_is_number {K : FK} {mg : Str → Option Value} (T : Tx K mg) : Binds K T.d_is_number ["value"] [] := T.F_is_number.binds fun _ _ _ _ _ _ us hl => match us, hl with | [_], _ => rfl
theorem b_is_row {K : FK} {mg : Str → Option Value} (T : Tx K mg) : Binds K T.d_is_row ["value"] [] := T.F_is_row.binds fun _ _ _ _ _ _ us hl => match us, hl with | [_], _ => rfl
theorem b_check_row {K : FK} {mg : Str → Option Value} (T : Tx K mg) : Binds K T.d_check_row ["value"] [] := T.F_check_row.binds fun _ _ _ _ _ _ us hl => match us, hl with | [_], _ => rfl
theorem b_is_word {K : FK} {mg : Str → Option Value} (T : Tx K mg) : Binds K T.d_is_word ["value", "words"] [] := T.F_is_word.binds fun _ _ _ _ _ _ us hl => match us, hl with | [_, _], _ => rfl
theorem b_is_way {K : FK} {mg : Str → Option Value} (T : Tx K mg) : Binds K T.d_is_way ["value"] [] := T.F_is_way.binds fun _ _ _ _ _ _ us hl => match us, hl with | [_], _ => rfl
theorem b_check_way {K : FK} {mg : Str → Option Value} (T : Tx K mg) : Binds K T.d_check_way ["value"] [] := T.F_check_way.binds fun _ _ _ _ _ _ us hl => match us, hl with | [_], _ => rfl
theorem b_format_way {K : FK} {mg : Str → Option Value} (T : Tx K mg) : Binds K T.d_format_way ["way"] [] := T.F_format_way.binds fun _ _ _ _ _ _ us hl => match us, hl with | [_], _ => rfl
theorem b_format_row {K : FK} {mg : Str → Option Value} (T : Tx K mg) : Binds K T.d_format_row ["row"] [] := T.F_format_row.binds fun _ _ _ _ _ _ us hl => match us, hl with | [_], _ => rfl
theorem b_check_text {K : FK} {mg : Str → Option Value} (T : Tx K mg) : Binds K T.d_check_text ["text"] [] := T.F_check_text.binds fun _ _ _ _ _ _ us hl => match us, hl with | [_], _ => rfl
theorem b_item_in {K : FK} {mg : Str → Option Value} (T : Tx K mg) : Binds K T.d_item_in ["word"] [] := T.F_item_in.binds fun _ _ _ _ _ _ us hl => match us, hl with | [_], _ => rfl
theorem b_parse_way {K : FK} {mg : Str → Option Value} (T : Tx K mg) : Binds K T.d_parse_way ["text"] [] := T.F_parse_way.binds fun _ _ _ _ _ _ us hl => match us, hl with | [_], _ => rfl
theorem b_number_in {K : FK} {mg : Str → Option Value} (T : Tx K mg) : Binds K T.d_number_in ["word"] [] := T.F_number_in.binds fun _ _ _ _ _ _ us hl => match us, hl with | [_], _ => rfl
theorem b_parse_row {K : FK} {mg : Str → Option Value} (T : Tx K mg) : Binds K T.d_parse_row ["text"] [] := T.F_parse_row.binds fun _ _ _ _ _ _ us hl => match us, hl with | [_], _ => rfl
theorem b__law_start {K : FK} {mg : Str → Option Value} (T : Tx K mg) : Binds K T.d__law_start ["script"] [] := T.F__law_start.binds fun _ _ _ _ _ _ us hl => match us, hl with | [_], _ => rfl
theorem b__law_draw {K : FK} {mg : Str → Option Value} (T : Tx K mg) : Binds K T.d__law_draw ["draws", "limit"] [] := T.F__law_draw.binds fun _ _ _ _ _ _ us hl => match us, hl with | [_, _], _ => rfl
theorem b__law_pick {K : FK} {mg : Str → Option Value} (T : Tx K mg) : Binds K T.d__law_pick ["draws", "choices"] [] := T.F__law_pick.binds fun _ _ _ _ _ _ us hl => match us, hl with | [_, _], _ => rfl
theorem b__law_error {K : FK} {mg : Str → Option Value} (T : Tx K mg) : Binds K T.d__law_error ["caught"] [] := T.F__law_error.binds fun _ _ _ _ _ _ us hl => match us, hl with | [_], _ => rfl
theorem b__law_steps {K : FK} {mg : Str → Option Value} (T : Tx K mg) : Binds K T.d__law_steps [] [] := T.F__law_steps.binds fun _ _ _ _ _ _ us hl => match us, hl with | [], _ => rfl
theorem b__law_modes {K : FK} {mg : Str → Option Value} (T : Tx K mg) : Binds K T.d__law_modes [] [] := T.F__law_modes.binds fun _ _ _ _ _ _ us hl => match us, hl with | [], _ => rfl
theorem b__law_way {K : FK} {mg : Str → Option Value} (T : Tx K mg) : Binds K T.d__law_way ["draws"] [] := T.F__law_way.binds fun _ _ _ _ _ _ us hl => match us, hl with | [_], _ => rfl
theorem b__law_row {K : FK} {mg : Str → Option Value} (T : Tx K mg) : Binds K T.d__law_row ["draws", "longest"] [] := T.F__law_row.binds fun _ _ _ _ _ _ us hl => match us, hl with | [_, _], _ => rfl
theorem b__law_parsed {K : FK} {mg : Str → Option Value} (T : Tx K mg) : Binds K T.d__law_parsed ["kind", "text"] [] := T.F__law_parsed.binds fun _ _ _ _ _ _ us hl => match us, hl with | [_, _], _ => rfl
theorem b__law_words {K : FK} {mg : Str → Option Value} (T : Tx K mg) : Binds K T.d__law_words ["kind", "thing"] [] := T.F__law_words.binds fun _ _ _ _ _ _ us hl => match us, hl with | [_, _], _ => rfl
theorem b__law_rejected {K : FK} {mg : Str → Option Value} (T : Tx K mg) : Binds K T.d__law_rejected [] [] := T.F__law_rejected.binds fun _ _ _ _ _ _ us hl => match us, hl with | [], _ => rfl
theorem b_law {K : FK} {mg : Str → Option Value} (T : Tx K mg) : Binds K T.d_law ["script"] [] := T.F_law.binds fun _ _ _ _ _ _ us hl => match us, hl with | [_], _ => rfl

def nearerS (low high : Int) (mode : Str) (step : Int) : Int :=
  if decide (mode = "neardown") then low else if decide (mode = "nearup") then high else
  if inD (.str mode) [.str "neareven", .str "nearodd"] then
    (if decide (mode = "neareven") then (if decide (low / step % 2 = 0) then low else high) else (if decide ((if decide (low / step % 2 = 0) then low else high) = low) then high else low))
  else if decide (mode = "nearin") then (if decide (0 ≤ low) then low else high) else (if decide (0 ≤ low) then high else low)
def fNearer (ds : List DD) (r : DD) : Prop := ∃ low high mode step, ds = [.int low, .int high, .str mode, .int step] ∧ 0 < step ∧ step < 1000 ∧ r = .int (nearerS low high mode step)
theorem mk_nearer {low high step : Int} {mode : Str} (h1 : 0 < step) (h2 : step < 1000) : fNearer [.int low, .int high, .str mode, .int step] (.int (nearerS low high mode step)) := ⟨_, _, _, _, rfl, h1, h2, rfl⟩
def btS (value step : Int) (mode : Str) : Int :=
  let low := value / step * step
  let high := if decide (low = value) then low else low + step
  if decide (mode = "down") then low else if decide (mode = "up") then high else
  if inD (.str mode) [.str "in", .str "out"] then (if decide (decide (0 ≤ value) = decide (mode = "in")) then low else high) else
  if !decide (value - low = high - value) then (if decide (value - low < high - value) then low else high) else
  if !decide (low = high) then nearerS low high mode step else low
def fBt (ds : List DD) (r : DD) : Prop := ∃ value step mode, ds = [.int value, .int step, .str mode] ∧ 0 < step ∧ step < 1000 ∧ r = .int (btS value step mode)
theorem mk_brought_to {value step : Int} {mode : Str} (h1 : 0 < step) (h2 : step < 1000) : fBt [.int value, .int step, .str mode] (.int (btS value step mode)) := ⟨_, _, _, rfl, h1, h2, rfl⟩
/-- a way as the text has it -/
structure Wy where
  step : Int
  finer : Int
  mode : Str
  carry : Str
def Wy.ok (w : Wy) : Prop := 0 < w.step ∧ w.step < 1000 ∧ 0 < w.finer ∧ w.finer < 1000
def Wy.dd (w : Wy) : DD := .tuple [.int w.step, .int w.finer, .str w.mode, .str w.carry]
def brS (w : Wy) (v : Int) : Int := btS (btS v w.finer w.mode) w.step w.mode
def fBring (ds : List DD) (r : DD) : Prop := ∃ (w : Wy) (v : Int), ds = [w.dd, .int v] ∧ w.ok ∧ r = .int (brS w v)
theorem mk_bring {w : Wy} {v : Int} (h : w.ok) : fBring [w.dd, .int v] (.int (brS w v)) := ⟨_, _, rfl, h, rfl⟩
abbrev S3 := Int × Int × Int
def sdd (s : S3) : DD := .tuple [.int s.1, .int s.2.1, .int s.2.2]
def wrS (w : Wy) (s : S3) (n : Int) : Int × S3 :=
  let used := if (decide (w.carry = "signs") && decide (n < 0)) then s.2.1 else s.1
  let told := brS w (n + used)
  let left := n + used - told
  (told, if decide (w.carry = "none") then s else if decide (w.carry = "all") then (left, 0, 0) else if decide (w.carry = "pairs") then (if decide (s.2.2 = 0) then (left, 0, 1) else (0, 0, 0))
    else if decide (n < 0) then (s.1, left, 0) else (left, s.2.1, 0))
def fWrite (ds : List DD) (r : DD) : Prop := ∃ (w : Wy) (s : S3) (n : Int), ds = [w.dd, sdd s, .int n] ∧ w.ok ∧ r = .tuple [.int (wrS w s n).1, sdd (wrS w s n).2]
theorem mk_write {w : Wy} {s : S3} {n : Int} (h : w.ok) : fWrite [w.dd, sdd s, .int n] (.tuple [.int (wrS w s n).1, sdd (wrS w s n).2]) := ⟨_, _, _, rfl, h, rfl⟩

def isIntB (d : DD) (lo hi : Int) : Bool := match d with
  | .int v => decide (lo ≤ v) && decide (v ≤ hi)
  | _ => false
def fIsInt (ds : List DD) (r : DD) : Prop := ∃ d lo hi, ds = [d, .int lo, .int hi] ∧ r = .bool (isIntB d lo hi)
theorem mk_is_int {d : DD} {lo hi : Int} : fIsInt [d, .int lo, .int hi] (.bool (isIntB d lo hi)) := ⟨_, _, _, rfl, rfl⟩
def isNumB (d : DD) : Bool := isIntB d (-4) 4
def fIsNum (ds : List DD) (r : DD) : Prop := ∃ d, ds = [d] ∧ r = .bool (isNumB d)
theorem mk_is_number {d : DD} : fIsNum [d] (.bool (isNumB d)) := ⟨_, rfl, rfl⟩
def isRowB (d : DD) : Bool := match d with
  | .list ds => decide ((ds.length : Int) ≤ 30) && (ds.map isNumB).all id
  | _ => false
def fIsRow (ds : List DD) (r : DD) : Prop := ∃ d, ds = [d] ∧ r = .bool (isRowB d)
theorem mk_is_row {d : DD} : fIsRow [d] (.bool (isRowB d)) := ⟨_, rfl, rfl⟩
def fCheckRow (ds : List DD) (r : DD) : Prop := ∃ d, ds = [d] ∧ isRowB d = true ∧ r = .none
theorem mk_check_row {d : DD} (h : isRowB d = true) : fCheckRow [d] .none := ⟨_, rfl, h, rfl⟩
def isWordB (d : DD) (ws : List Str) : Bool := match d with
  | .str x => inD (.str x) (ws.map .str)
  | _ => false
def fIsWord (ds : List DD) (r : DD) : Prop := ∃ d ws, ds = [d, .tuple (ws.map .str)] ∧ r = .bool (isWordB d ws)
theorem mk_is_word {d : DD} (ws : List Str) {ws' : List DD} (h : ws' = ws.map .str) : fIsWord [d, .tuple ws'] (.bool (isWordB d ws)) := ⟨d, ws, by rw [h], rfl⟩
def stepsD : List DD := [.tuple [.int 2, .int 1], .tuple [.int 3, .int 1], .tuple [.int 4, .int 1], .tuple [.int 4, .int 2], .tuple [.int 6, .int 1], .tuple [.int 6, .int 2], .tuple [.int 6, .int 3]]
def modesS : List Str := ["down", "up", "in", "out", "neardown", "nearup", "nearin", "nearout", "neareven", "nearodd"]
def carriesS : List Str := ["none", "all", "signs", "pairs"]
def isWayB (d : DD) : Bool := match d with
  | .tuple [a, b, c, e] => (isIntB a 2 6 && (isIntB b 1 3 && inD (.tuple [a, b]) stepsD)) && (isWordB c modesS && isWordB e carriesS)
  | _ => false
def fIsWay (ds : List DD) (r : DD) : Prop := ∃ d, ds = [d] ∧ r = .bool (isWayB d)
theorem mk_is_way {d : DD} : fIsWay [d] (.bool (isWayB d)) := ⟨_, rfl, rfl⟩
def fCheckWay (ds : List DD) (r : DD) : Prop := ∃ d, ds = [d] ∧ isWayB d = true ∧ r = .none
theorem mk_check_way {d : DD} (h : isWayB d = true) : fCheckWay [d] .none := ⟨_, rfl, h, rfl⟩
/-! rows written -/
def stE (w : Wy) (s : S3) (row : List Int) : S3 := row.foldl (fun s n => (wrS w s n).2) s
def runT (w : Wy) : S3 → List Int → List Int
  | _, [] => []
  | s, n :: r => (wrS w s n).1 :: runT w (wrS w s n).2 r
def runS (w : Wy) : S3 → List Int → List S3
  | s, [] => [s]
  | s, n :: r => s :: runS w (wrS w s n).2 r
theorem stE_snoc (w : Wy) (s : S3) (row : List Int) (n : Int) : stE w s (row ++ [n]) = (wrS w (stE w s row) n).2 := by simp [stE]
theorem runT_snoc (w : Wy) : ∀ (row : List Int) (s : S3) (n : Int), runT w s (row ++ [n]) = runT w s row ++ [(wrS w (stE w s row) n).1]
  | [], s, n => rfl
  | m :: r, s, n => by simp only [List.cons_append, runT, runT_snoc w r, stE, List.foldl_cons]
theorem runS_snoc (w : Wy) : ∀ (row : List Int) (s : S3) (n : Int), runS w s (row ++ [n]) = runS w s row ++ [(wrS w (stE w s row) n).2]
  | [], s, n => rfl
  | m :: r, s, n => by simp only [List.cons_append, runS, runS_snoc w r, stE, List.foldl_cons]
theorem runS_last (w : Wy) : ∀ (row : List Int) (s : S3), ∃ l, runS w s row = l ++ [stE w s row]
  | [], s => ⟨[], rfl⟩
  | m :: r, s => by
    obtain ⟨l, e⟩ := runS_last w r (wrS w s m).2
    exact ⟨s :: l, by simp only [runS, e, List.cons_append, stE, List.foldl_cons]⟩
theorem runT_len (w : Wy) : ∀ (row : List Int) (s : S3), (runT w s row).length = row.length
  | [], _ => rfl
  | _ :: r, s => by simp only [runT, List.length_cons, runT_len w r]
theorem runS_len (w : Wy) : ∀ (row : List Int) (s : S3), (runS w s row).length = row.length + 1
  | [], _ => rfl
  | _ :: r, s => by simp only [runS, List.length_cons, runS_len w r]
theorem atI_st (w : Wy) (s : S3) (row : List Int) : atI ((runS w s row).map sdd) (-1) = some (sdd (stE w s row)) := by
  obtain ⟨l, e⟩ := runS_last w row s
  rw [e, List.map_append]
  exact atI_last _ _
def s0 : S3 := (0, 0, 0)
def rdd (row : List Int) : DD := .list (row.map .int)
def fRun (ds : List DD) (r : DD) : Prop := ∃ (w : Wy) (row : List Int), ds = [w.dd, rdd row] ∧ w.ok ∧ row.length < 1000 ∧ r = .tuple [rdd (runT w s0 row), .list ((runS w s0 row).map sdd)]
theorem mk_run {w : Wy} {row : List Int} (h : w.ok) (h2 : row.length < 1000) : fRun [w.dd, rdd row] (.tuple [rdd (runT w s0 row), .list ((runS w s0 row).map sdd)]) := ⟨_, _, rfl, h, h2, rfl⟩
/-- a way, a row that are valid -/
structure WOk (w : Wy) : Prop where
  ok : w.ok
  is : isWayB w.dd = true
structure ROk (row : List Int) : Prop where
  len : row.length ≤ 30
  num : ∀ n ∈ row, -4 ≤ n ∧ n ≤ 4
theorem ROk.is {row : List Int} (h : ROk row) : isRowB (rdd row) = true := by
  have h1 : ((row.map PyData.int).map isNumB).all id = true := by
    rw [List.all_eq_true]
    intro b hb
    simp only [List.mem_map] at hb
    obtain ⟨d, ⟨n, hn, rfl⟩, rfl⟩ := hb
    obtain ⟨h2, h3⟩ := h.num n hn
    simp [isNumB, isIntB, h2, h3]
  have h2 : decide (((row.map PyData.int).length : Int) ≤ 30) = true := by
    rw [List.length_map]
    have := h.len
    exact decide_eq_true (by omega)
  unfold isRowB rdd
  simp only [h1, h2, Bool.and_self]
def fWritten (ds : List DD) (r : DD) : Prop := ∃ (w : Wy) (row : List Int), ds = [w.dd, rdd row] ∧ WOk w ∧ ROk row ∧ r = rdd (runT w s0 row)
theorem mk_written {w : Wy} {row : List Int} (h : WOk w) (h2 : ROk row) : fWritten [w.dd, rdd row] (rdd (runT w s0 row)) := ⟨_, _, rfl, h, h2, rfl⟩
def fStatesAlong (ds : List DD) (r : DD) : Prop := ∃ (w : Wy) (row : List Int), ds = [w.dd, rdd row] ∧ WOk w ∧ ROk row ∧ r = .list ((runS w s0 row).map sdd)
theorem mk_states_along {w : Wy} {row : List Int} (h : WOk w) (h2 : ROk row) : fStatesAlong [w.dd, rdd row] (.list ((runS w s0 row).map sdd)) := ⟨_, _, rfl, h, h2, rfl⟩
def fStateAfter (ds : List DD) (r : DD) : Prop := ∃ (w : Wy) (row : List Int), ds = [w.dd, rdd row] ∧ WOk w ∧ ROk row ∧ r = sdd (stE w s0 row)
theorem mk_state_after {w : Wy} {row : List Int} (h : WOk w) (h2 : ROk row) : fStateAfter [w.dd, rdd row] (sdd (stE w s0 row)) := ⟨_, _, rfl, h, h2, rfl⟩
def fBrought (ds : List DD) (r : DD) : Prop := ∃ (w : Wy) (v : Int), ds = [w.dd, .int v] ∧ WOk w ∧ -60 ≤ v ∧ v ≤ 60 ∧ r = .int (brS w v)
theorem mk_brought {w : Wy} {v : Int} (h : WOk w) (h2 : -60 ≤ v ∧ v ≤ 60) : fBrought [w.dd, .int v] (.int (brS w v)) := ⟨_, _, rfl, h, h2.1, h2.2, rfl⟩

theorem map_get {α β : Type} {f : α → β} {l : List α} {i : Nat} {d : β} (h : (l.map f)[i]? = some d) : ∃ n, l[i]? = some n ∧ d = f n := by
  rw [List.getElem?_map] at h
  cases e : l[i]? with
  | none => rw [e] at h; cases h
  | some n => rw [e] at h; exact ⟨n, rfl, (Option.some.inj h).symm⟩


def preDraw (ds : List DD) : Prop := ∃ n : Int, ds = [.int n] ∧ 0 < n ∧ n < 1073741824
def fDraw (ds : List DD) (r : DD) : Prop := ∃ n k : Int, ds = [.int n] ∧ r = .int k ∧ 0 ≤ k ∧ k < n
def prePick (ds : List DD) : Prop := ∃ cs : List DD, ds = [.list cs] ∧ 0 < cs.length ∧ cs.length < 1000
def fPick (ds : List DD) (r : DD) : Prop := ∃ cs : List DD, ds = [.list cs] ∧ r ∈ cs
def preNo (ds : List DD) : Prop := ds = []
theorem dr__law_draw {K : FK} {B : Bs} {Γ : List Sl} {i : Nat} {p q : Addr} {E : XK} {te : TE} {P : DD → Prop} (hi : Γ[i]? = some (.own (drwR p q))) (h : Ev K B te Γ P) (hp : ∀ d, P d → ∃ n : Int, d = .int n ∧ 0 < n ∧ n < 1073741824) :
    Ev K B (tCall (spW K preDraw fDraw) [] E (tCons (tVar i) (tCons te tNil))) Γ (fun r => ∃ n k : Int, P (.int n) ∧ r = .int k ∧ 0 ≤ k ∧ k < n) :=
  ev_callW hi (ea_consP (Ps := fun ds => ∃ d, P d ∧ ds = [d]) h ea_nil fun d ds e1 e2 => ⟨d, e1, by rw [e2]⟩) (fun ds ⟨d, hd, e⟩ => by
    obtain ⟨n, e1, h1, h2⟩ := hp d hd
    exact ⟨n, by rw [e, e1], h1, h2⟩) (fun ds r ⟨d, hd, e⟩ ⟨n, k, e1, e2, h1, h2⟩ => ⟨n, k, by
      rw [e] at e1
      cases e1
      exact hd, e2, h1, h2⟩)
theorem dr_drawD {K : FK} {B : Bs} {Γ : List Sl} {i : Nat} {p q : Addr} {E : XK} {te : TE} {n : Int} (hi : Γ[i]? = some (.own (drwR p q))) (h : EvD K B te Γ (.int n)) (h1 : 0 < n) (h2 : n < 1073741824) :
    Ev K B (tCall (spW K preDraw fDraw) [] E (tCons (tVar i) (tCons te tNil))) Γ (fun r => ∃ k : Int, r = .int k ∧ 0 ≤ k ∧ k < n) :=
  (dr__law_draw hi h fun d e => ⟨n, e, h1, h2⟩).imp fun r ⟨m, k, e, e2, h3, h4⟩ => ⟨k, e2, h3, by cases e; exact h4⟩
theorem dr_pickP {K : FK} {B : Bs} {Γ : List Sl} {i : Nat} {p q : Addr} {E : XK} {te : TE} {P : DD → Prop} (hi : Γ[i]? = some (.own (drwR p q))) (h : Ev K B te Γ P) (h1 : ∀ d, P d → ∃ cs : List DD, d = .list cs ∧ 0 < cs.length ∧ cs.length < 1000) :
    Ev K B (tCall (spW K prePick fPick) [] E (tCons (tVar i) (tCons te tNil))) Γ (fun r => ∃ cs, P (.list cs) ∧ r ∈ cs) :=
  ev_callW hi (ea_consP (Ps := fun ds => ∃ d, P d ∧ ds = [d]) h ea_nil fun d ds e1 e2 => ⟨d, e1, by rw [e2]⟩) (fun ds ⟨d, hd, e⟩ => by
    obtain ⟨cs, e1, h1, h2⟩ := h1 d hd
    exact ⟨cs, by rw [e, e1], h1, h2⟩) (fun ds r ⟨d, hd, e⟩ ⟨cs, e1, hm⟩ => ⟨cs, by
      rw [e] at e1
      cases e1
      exact hd, hm⟩)
theorem dr_pick {K : FK} {B : Bs} {Γ : List Sl} {i : Nat} {p q : Addr} {E : XK} {te : TE} {cs : List DD} (hi : Γ[i]? = some (.own (drwR p q))) (h : EvD K B te Γ (.list cs)) (h1 : (Nat.blt 0 cs.length && Nat.blt cs.length 1000) = true := by rfl) :
    Ev K B (tCall (spW K prePick fPick) [] E (tCons (tVar i) (tCons te tNil))) Γ (fun r => r ∈ cs) :=
  (dr_pickP hi h fun d e => ⟨cs, e, of_blt (Bool.and_eq_true_iff.mp h1).1, of_blt (Bool.and_eq_true_iff.mp h1).2⟩).imp fun r ⟨c, e, hm⟩ => by cases e; exact hm
theorem dr_no {K : FK} {B : Bs} {Γ : List Sl} {i : Nat} {p q : Addr} {E : XK} {f : List DD → DD → Prop} (hi : Γ[i]? = some (.own (drwR p q))) :
    Ev K B (tCall (spW K preNo f) [] E (tCons (tVar i) tNil)) Γ (fun r => f [] r) := ev_callW hi (ea_nil) (fun ds e => e) (fun ds r e h => by rw [← e]; exact h)
theorem ev_subP {K : FK} {B : Bs} {Γ : List Sl} {ta tb : TE} {P : DD → Prop} {b : Int} (ha : Ev K B ta Γ P) (hb : EvD K B tb Γ (.int b)) (hp : ∀ d, P d → ∃ n, d = .int n) : Ev K B (tOp (rI0 fun i j => .int (i - j)) ta tb) Γ (fun r => ∃ n : Int, P (.int n) ∧ r = .int (n - b)) :=
  ev_opP ha hb fun x y hx e => by
    obtain ⟨n, e1⟩ := hp x hx
    subst e e1
    exact ⟨_, ⟨n, hx, rfl⟩, rd_I0 fun _ => .int _⟩

def modesD : List DD := modesS.map .str
def fSteps (ds : List DD) (r : DD) : Prop := ds = [] ∧ r = .list stepsD
theorem mk__law_steps : fSteps [] (.list stepsD) := ⟨rfl, rfl⟩
def fModes (ds : List DD) (r : DD) : Prop := ds = [] ∧ r = .list modesD
theorem mk__law_modes : fModes [] (.list modesD) := ⟨rfl, rfl⟩

inductive Md | down | up | inn | out | neardown | nearup | nearin | nearout | neareven | nearodd
  deriving DecidableEq, Repr
inductive Cr | none | all | signs | pairs
  deriving DecidableEq, Repr
inductive Pr | p21 | p31 | p41 | p42 | p61 | p62 | p63
  deriving DecidableEq, Repr
def Md.str : Md → Str
  | .down => "down" | .up => "up" | .inn => "in" | .out => "out" | .neardown => "neardown" | .nearup => "nearup" | .nearin => "nearin" | .nearout => "nearout" | .neareven => "neareven" | .nearodd => "nearodd"
def Cr.str : Cr → Str
  | .none => "none" | .all => "all" | .signs => "signs" | .pairs => "pairs"
def Pr.st : Pr → Int
  | .p21 => 2 | .p31 => 3 | .p41 => 4 | .p42 => 4 | .p61 => 6 | .p62 => 6 | .p63 => 6
def Pr.fi : Pr → Int
  | .p21 => 1 | .p31 => 1 | .p41 => 1 | .p42 => 2 | .p61 => 1 | .p62 => 2 | .p63 => 3
structure Way where
  p : Pr
  m : Md
  c : Cr
  deriving DecidableEq, Repr
def Way.wy (w : Way) : Wy := ⟨w.p.st, w.p.fi, w.m.str, w.c.str⟩
def allMd : List Md := [.down, .up, .inn, .out, .neardown, .nearup, .nearin, .nearout, .neareven, .nearodd]
def allCr : List Cr := [.none, .all, .signs, .pairs]
def allPr : List Pr := [.p21, .p31, .p41, .p42, .p61, .p62, .p63]
theorem mem_md (m : Md) : m ∈ allMd := by cases m <;> decide
theorem mem_cr (m : Cr) : m ∈ allCr := by cases m <;> decide
theorem mem_pr (m : Pr) : m ∈ allPr := by cases m <;> decide
theorem way_is : (allPr.all fun p => allMd.all fun m => allCr.all fun c => isWayB (Way.wy ⟨p, m, c⟩).dd) = true := by decide +kernel
theorem Way.ok (w : Way) : WOk w.wy := by
  refine ⟨?_, ?_⟩
  · obtain ⟨p, m, c⟩ := w
    cases p <;> simp [Wy.ok, Way.wy, Pr.st, Pr.fi]
  · have h := way_is
    simp only [List.all_eq_true] at h
    exact h w.p (mem_pr _) w.m (mem_md _) w.c (mem_cr _)
def Way.dd (w : Way) : DD := w.wy.dd
def fWay (ds : List DD) (r : DD) : Prop := ds = [] ∧ ∃ w : Way, r = w.dd
theorem steps_mem {d : DD} (h : d ∈ stepsD) : ∃ p : Pr, d = .tuple [.int p.st, .int p.fi] := by
  simp only [stepsD, List.mem_cons, List.not_mem_nil, or_false] at h
  rcases h with rfl | rfl | rfl | rfl | rfl | rfl | rfl
  · exact ⟨.p21, rfl⟩
  · exact ⟨.p31, rfl⟩
  · exact ⟨.p41, rfl⟩
  · exact ⟨.p42, rfl⟩
  · exact ⟨.p61, rfl⟩
  · exact ⟨.p62, rfl⟩
  · exact ⟨.p63, rfl⟩
theorem modes_mem {d : DD} (h : d ∈ modesD) : ∃ m : Md, d = .str m.str := by
  have h : d ∈ allMd.map fun m => PyData.str m.str := h
  obtain ⟨m, _, e⟩ := List.mem_map.mp h
  exact ⟨m, e.symm⟩
theorem carries_mem {d : DD} (h : d ∈ ([.str "none", .str "all", .str "all", .str "signs", .str "signs", .str "pairs", .str "pairs"] : List DD)) : ∃ c : Cr, d = .str c.str := by
  simp only [List.mem_cons, List.not_mem_nil, or_false] at h
  rcases h with rfl | rfl | rfl | rfl | rfl | rfl | rfl
  · exact ⟨.none, rfl⟩
  · exact ⟨.all, rfl⟩
  · exact ⟨.all, rfl⟩
  · exact ⟨.signs, rfl⟩
  · exact ⟨.signs, rfl⟩
  · exact ⟨.pairs, rfl⟩
  · exact ⟨.pairs, rfl⟩

def preRow (ds : List DD) : Prop := ∃ n : Int, ds = [.int n] ∧ 0 ≤ n ∧ n ≤ 100
def fRow (ds : List DD) (r : DD) : Prop := ∃ (n : Int) (row : List Int), ds = [.int n] ∧ r = rdd row ∧ (row.length : Int) ≤ n ∧ ∀ x ∈ row, -4 ≤ x ∧ x ≤ 4
theorem cut_take {xs : List DD} {m : Int} (h0 : 0 ≤ m) : Ly.cutD xs none (some m) = xs.take m.toNat := by
  obtain ⟨k, rfl⟩ := Int.eq_ofNat_of_zero_le h0
  unfold Ly.cutD
  have e : HT.sIx xs.length xs.length (some (k : Int)) = min k xs.length := HT.sIx_nat _ _ _
  rw [show HT.sIx xs.length 0 none = 0 from rfl, e]
  simp [List.take_eq_take_iff]
theorem cut_take' {xs : List DD} {m : Int} (h0 : 0 ≤ m) : xs.take (HT.sIx xs.length xs.length (some m)) = xs.take m.toNat := by
  obtain ⟨k, rfl⟩ := Int.eq_ofNat_of_zero_le h0
  rw [HT.sIx_nat]
  simp [List.take_eq_take_iff]
theorem rep_int (m : Int) (k : Nat) : (List.replicate k [(PyData.int m)]).flatten = (List.replicate k m).map .int := by
  induction k with
  | zero => rfl
  | succ k ih => rw [List.replicate_succ, List.flatten_cons, ih, List.replicate_succ]; rfl

/-! what is written by the four carries -/
def Wy.wc (w : Wy) (c : Str) : Wy := { w with carry := c }
theorem br_wc (w : Wy) (c : Str) (v : Int) : brS (w.wc c) v = brS w v := rfl
theorem s_ne1 : decide (("none" : Str) = "signs") = false := by decide
theorem s_ne2 : decide (("all" : Str) = "signs") = false := by decide
theorem s_ne3 : decide (("pairs" : Str) = "signs") = false := by decide
theorem s_ne4 : decide (("all" : Str) = "none") = false := by decide
theorem s_ne5 : decide (("pairs" : Str) = "none") = false := by decide
theorem s_ne6 : decide (("signs" : Str) = "none") = false := by decide
theorem s_ne7 : decide (("pairs" : Str) = "all") = false := by decide
theorem s_ne8 : decide (("signs" : Str) = "all") = false := by decide
theorem s_ne9 : decide (("signs" : Str) = "pairs") = false := by decide
theorem wr_none (w : Wy) (s : S3) (n : Int) : wrS (w.wc "none") s n = (brS w (n + s.1), s) := by
  simp only [wrS, Wy.wc, s_ne1, decide_true, Bool.false_and, Bool.false_eq_true, if_false, if_true]; rfl
theorem wr_all (w : Wy) (s : S3) (n : Int) : wrS (w.wc "all") s n = (brS w (n + s.1), (n + s.1 - brS w (n + s.1), 0, 0)) := by
  simp only [wrS, Wy.wc, s_ne2, s_ne4, decide_true, Bool.false_and, Bool.false_eq_true, if_false, if_true]; rfl
theorem wr_pairs (w : Wy) (s : S3) (n : Int) : wrS (w.wc "pairs") s n = (brS w (n + s.1), if s.2.2 = 0 then (n + s.1 - brS w (n + s.1), 0, 1) else (0, 0, 0)) := by
  simp only [wrS, Wy.wc, s_ne3, s_ne5, s_ne7, decide_true, Bool.false_and, Bool.false_eq_true, if_false, if_true, decide_eq_true_eq]; rfl
theorem wr_signs (w : Wy) (s : S3) (n : Int) : wrS (w.wc "signs") s n = if n < 0 then (brS w (n + s.2.1), (s.1, n + s.2.1 - brS w (n + s.2.1), 0)) else (brS w (n + s.1), (n + s.1 - brS w (n + s.1), s.2.1, 0)) := by
  by_cases h : n < 0
  · simp only [wrS, Wy.wc, s_ne6, s_ne8, s_ne9, h, decide_true, Bool.true_and, Bool.false_eq_true, if_false, if_true]; rfl
  · simp only [wrS, Wy.wc, s_ne6, s_ne8, s_ne9, h, decide_true, decide_false, Bool.and_false, Bool.false_eq_true, if_false, if_true]; rfl
theorem runT_app (w : Wy) : ∀ (a b : List Int) (s : S3), runT w s (a ++ b) = runT w s a ++ runT w (stE w s a) b
  | [], b, s => rfl
  | n :: a, b, s => by simp only [List.cons_append, runT, runT_app w a b, stE, List.foldl_cons]
theorem stE_app (w : Wy) (a b : List Int) (s : S3) : stE w s (a ++ b) = stE w (stE w s a) b := by simp [stE]

/-! how far the brought one is off -/
theorem nearer_cases (low high : Int) (mode : Str) (step : Int) : nearerS low high mode step = low ∨ nearerS low high mode step = high := by
  unfold nearerS
  repeat' split
  all_goals first | exact .inl rfl | exact .inr rfl
theorem bt_cases (v s : Int) (mode : Str) : btS v s mode = v / s * s ∨ (v / s * s ≠ v ∧ btS v s mode = v / s * s + s) := by
  by_cases h : v / s * s = v
  · left
    have hn := nearer_cases v v mode s
    unfold btS
    simp only [h, decide_true, if_true, Bool.not_true, Bool.false_eq_true, if_false]
    repeat' split
    all_goals rfl
  · have hn := nearer_cases (v / s * s) (v / s * s + s) mode s
    unfold btS
    simp only [h, decide_false, Bool.false_eq_true, if_false]
    repeat' split
    all_goals first | exact .inl rfl | exact .inr ⟨h, rfl⟩ | ((rcases hn with e | e) <;> rw [e] <;> first | exact .inl rfl | exact .inr ⟨h, rfl⟩)
theorem Way.off (w : Way) (v : Int) : -w.p.st < brS w.wy v - v ∧ brS w.wy v - v < w.p.st := by
  have h1 := bt_cases v w.p.fi w.m.str
  have h2 := bt_cases (btS v w.p.fi w.m.str) w.p.st w.m.str
  have e : brS w.wy v = btS (btS v w.p.fi w.m.str) w.p.st w.m.str := rfl
  rw [e]
  generalize btS v w.p.fi w.m.str = x at h1 h2
  generalize btS x w.p.st w.m.str = y at h2
  obtain ⟨p, m, c⟩ := w
  cases p <;> simp only [Pr.st, Pr.fi] at h1 h2 ⊢ <;> omega
theorem Pr.st_le (p : Pr) : 2 ≤ p.st ∧ p.st ≤ 6 := by cases p <;> decide

theorem dr_row {K : FK} {B : Bs} {Γ : List Sl} {i : Nat} {p q : Addr} {E : XK} {te : TE} {n : Int} (hi : Γ[i]? = some (.own (drwR p q))) (h : EvD K B te Γ (.int n)) (h1 : 0 ≤ n ∧ n ≤ 100) :
    Ev K B (tCall (spW K preRow fRow) [] E (tCons (tVar i) (tCons te tNil))) Γ (fun r => ∃ row : List Int, r = rdd row ∧ (row.length : Int) ≤ n ∧ ∀ x ∈ row, -4 ≤ x ∧ x ≤ 4) :=
  ev_callW hi (ea_cons h ea_nil) (fun ds e => ⟨n, e, h1.1, h1.2⟩) (fun ds r e ⟨m, row, e1, e2, h2, h3⟩ => ⟨row, e2, by rw [e] at e1; cases e1; exact h2, h3⟩)
theorem ok_rows (rs : List (List Int)) : okD 2 (.list (rs.map rdd)) := ok_list fun d hd => by
  obtain ⟨r, _, rfl⟩ := List.mem_map.mp hd; exact ok_ints r
theorem ok_sdd (s : S3) : okD 1 (sdd s) := ok_tuple (n := 0) (by intro d hd; simp at hd; rcases hd with e | e | e <;> rw [e] <;> exact ok_int _)
theorem ROk.filter {row : List Int} (h : ROk row) (f : Int → Bool) : ROk (row.filter f) := ⟨Nat.le_trans (List.length_filter_le f row) h.len, fun n hn => h.num n (List.mem_filter.mp hn).1⟩
theorem ROk.sub {row r : List Int} (h : ROk row) (hl : r.length ≤ 30) (hs : ∀ n ∈ r, n ∈ row) : ROk r := ⟨hl, fun n hn => h.num n (hs n hn)⟩
theorem rgc2 : ∀ L : _root_.Fin 31, RgC 0 (L.val : Int) 2 ((L.val + 1) / 2) := by
  unfold RgC
  decide +kernel
abbrev wC (w : Way) (c : Cr) : Wy := Way.wy ⟨w.p, w.m, c⟩
theorem wC_ok (w : Way) (c : Cr) : WOk (wC w c) := Way.ok _
theorem filter_ints (row : List Int) (f : Int → Bool) (g : DD → Bool) (h : ∀ n, g (.int n) = f n) : ((row.map PyData.int).filter g).map (fun d => d) = (row.filter f).map PyData.int := by
  induction row with
  | nil => rfl
  | cons n r ih =>
    simp only [List.map_cons, List.filter_cons, h n]
    by_cases e : f n = true
    · rw [if_pos e, if_pos e, List.map_cons, ih]; rfl
    · rw [if_neg e, if_neg e, ih]
def decI (d : DD) : List Int := match d with
  | .list ds => ds.map fun x => match x with | .int n => n | _ => 0
  | _ => []
theorem decI_rdd (l : List Int) : decI (rdd l) = l := by
  show (l.map PyData.int).map _ = l
  rw [List.map_map]
  exact List.map_id l
def ge0 (d : DD) : Bool := match d with | .int n => decide (0 ≤ n) | _ => false
def lt0 (d : DD) : Bool := match d with | .int n => decide (n < 0) | _ => false
theorem atI_map {α : Type} {l : List α} {f : α → DD} {i : Nat} {x : α} (h : l[i]? = some x) : atI (l.map f) (i : Int) = some (f x) := atI_nat (by rw [List.getElem?_map, h]; rfl)
theorem chunk2 (row : List Int) (i : Nat) : Ly.cutD (row.map PyData.int) (some (0 + (i : Int) * 2)) (some (0 + (i : Int) * 2 + 2)) = ((row.drop (2 * i)).take 2).map PyData.int := by
  unfold Ly.cutD
  have e1 : (0 + (i : Int) * 2) = ((2 * i : Nat) : Int) := by omega
  have e2 : (0 + (i : Int) * 2 + 2) = ((2 * i + 2 : Nat) : Int) := by omega
  rw [e1, show (((2 * i : Nat) : Int) + 2) = ((2 * i + 2 : Nat) : Int) by omega, HT.sIx_nat, HT.sIx_nat, List.length_map, ← List.map_drop, ← List.map_take]
  congr 1
  by_cases h : 2 * i ≤ row.length
  · rw [Nat.min_eq_left h]
    by_cases h2 : 2 * i + 2 ≤ row.length
    · rw [Nat.min_eq_left h2]; congr 1; omega
    · rw [Nat.min_eq_right (by omega), List.take_of_length_le (by rw [List.length_drop]; omega), List.take_of_length_le (by rw [List.length_drop]; omega)]
  · rw [Nat.min_eq_right (by omega), Nat.min_eq_right (by omega)]
    rw [List.drop_of_length_le (Nat.le_refl _), List.drop_of_length_le (by omega)]; simp

theorem tqS : Tq sdd 1 := tq3 tqI tqI tqI
theorem tqR : Tq rdd 1 := tqL tqI
theorem sqR : Sq rdd := sqL (n := 0) sqI (fun _ => by simp [PyData.depth]) (by decide)
theorem sqS : Sq sdd := ⟨fun _ _ => rfl, fun _ => PySem.W.Sortable.tuples fun b => ⟨_, _, rfl⟩, fun x => by have := (ok_sdd x).2; omega, fun _ => rfl⟩
abbrev nkS : S3 → NK := n3 NestedKey.num NestedKey.num NestedKey.num
theorem kcSt : Kc nkS sdd 1 := kc3 kcI kcI kcI
theorem tnS : Tn sdd (fun s : S3 => [s.1, s.2.1, s.2.2]) := ⟨fun _ => rfl, fun a b h => by
  obtain ⟨a1, a2, a3⟩ := a
  obtain ⟨b1, b2, b3⟩ := b
  simp at h
  obtain ⟨h1, h2, h3⟩ := h
  rw [h1, h2, h3], fun _ h => by cases h⟩
def deW : DD → Option Wy
  | .tuple [.int a, .int b, .str c, .str d] => some ⟨a, b, c, d⟩
  | _ => none
theorem deW_eq {d : DD} {w : Wy} (h : deW d = some w) : d = w.dd := by
  unfold deW at h
  split at h
  · cases h; rfl
  · cases h
theorem deW_enc (w : Wy) : deW w.dd = some w := rfl
def deR (d : DD) : Option (List Int) := deL asI d
theorem deR_eq {d : DD} {r : List Int} (h : deR d = some r) : d = rdd r := deL_eq (fun _ _ => asI_eq) h
theorem deR_enc (r : List Int) : deR (rdd r) = some r := deL_enc (f := asI) (e := PyData.int) (fun _ => rfl) r
@[irreducible] def rgOk (a b : Int) : Bool := decide (-16000000 ≤ a ∧ a ≤ 16000000 ∧ -16000000 ≤ b ∧ b ≤ 16000000 ∧ (b - a).toNat ≤ 16000000)
theorem rg_ok {a b : Int} (h : rgOk a b = true) : RgOk a b := by
  unfold rgOk at h
  have := of_decide_eq_true h
  exact ⟨by omega, by omega, by omega, by omega, by omega⟩
@[irreducible] def mulOk (a b : Int) : Bool := decide (-(2 ^ 64) < a ∧ a < 2 ^ 64) || decide (-(2 ^ 64) < b ∧ b < 2 ^ 64)
theorem mul_ok {a b : Int} (h : mulOk a b = true) : CMul a b := by
  unfold mulOk at h
  rcases Bool.or_eq_true_iff.mp h with h | h
  · exact .inl (of_decide_eq_true h)
  · exact .inr (of_decide_eq_true h)
def minO : List Int → Option Int
  | [] => none
  | x :: xs => match minO xs with
    | none => some x
    | some m => some (if x ≤ m then x else m)
def maxO : List Int → Option Int
  | [] => none
  | x :: xs => match maxO xs with
    | none => some x
    | some m => some (if m ≤ x then x else m)
theorem minO_mem : ∀ {xs : List Int} {m : Int}, minO xs = some m → m ∈ xs
  | x :: xs, m, h => by
    unfold minO at h
    cases e : minO xs with
    | none => rw [e] at h; cases h; simp
    | some n =>
      rw [e] at h
      cases h
      have := minO_mem e
      split
      · simp
      · simp [this]
theorem maxO_mem : ∀ {xs : List Int} {m : Int}, maxO xs = some m → m ∈ xs
  | x :: xs, m, h => by
    unfold maxO at h
    cases e : maxO xs with
    | none => rw [e] at h; cases h; simp
    | some n =>
      rw [e] at h
      cases h
      have := maxO_mem e
      split
      · simp
      · simp [this]
theorem minO_none : ∀ {xs : List Int}, minO xs = none → xs = []
  | [], _ => rfl
  | x :: xs, h => by
    unfold minO at h
    cases e : minO xs <;> rw [e] at h <;> cases h
theorem maxO_none : ∀ {xs : List Int}, maxO xs = none → xs = []
  | [], _ => rfl
  | x :: xs, h => by
    unfold maxO at h
    cases e : maxO xs <;> rw [e] at h <;> cases h
theorem minO_le : ∀ {xs : List Int} {m : Int}, minO xs = some m → ∀ y, y ∈ xs → m ≤ y
  | x :: xs, m, h, y, hy => by
    unfold minO at h
    cases e : minO xs with
    | none =>
      rw [e] at h; cases h
      have := minO_none e
      subst this
      simp at hy
      omega
    | some n =>
      rw [e] at h
      cases h
      rcases List.mem_cons.mp hy with z | z
      · split <;> omega
      · have := minO_le e y z
        split <;> omega
theorem maxO_le : ∀ {xs : List Int} {m : Int}, maxO xs = some m → ∀ y, y ∈ xs → y ≤ m
  | x :: xs, m, h, y, hy => by
    unfold maxO at h
    cases e : maxO xs with
    | none =>
      rw [e] at h; cases h
      have := maxO_none e
      subst this
      simp at hy
      omega
    | some n =>
      rw [e] at h
      cases h
      rcases List.mem_cons.mp hy with z | z
      · split <;> omega
      · have := maxO_le e y z
        split <;> omega
def wokB (w : Wy) : Bool := decide (0 < w.step ∧ w.step < 1000 ∧ 0 < w.finer ∧ w.finer < 1000)
theorem wokB_ok {w : Wy} (h : wokB w = true) : w.ok := by
  unfold wokB at h
  have h2 := of_decide_eq_true h
  exact h2
theorem gd_ok {α : Type} {b : Bool} {a x : α} (h : gd b (.ok a) = .ok x) : b = true ∧ a = x := by
  cases b with
  | false => cases h
  | true => cases h; exact ⟨rfl, rfl⟩
def m_is_int (d : DD) (lo hi : Int) : M Bool := .ok (isIntB d lo hi)
theorem mkw_is_int {d : DD} {lo hi : Int} {x : Bool} (h : m_is_int d lo hi = .ok x) : fIsInt [d, .int lo, .int hi] (.bool x) := by cases h; exact mk_is_int
def m_is_number (d : DD) : M Bool := .ok (isNumB d)
theorem mkw_is_number {d : DD} {x : Bool} (h : m_is_number d = .ok x) : fIsNum [d] (.bool x) := by cases h; exact mk_is_number
def m_is_row (d : DD) : M Bool := .ok (isRowB d)
theorem mkw_is_row {d : DD} {x : Bool} (h : m_is_row d = .ok x) : fIsRow [d] (.bool x) := by cases h; exact mk_is_row
def m_is_way (d : DD) : M Bool := .ok (isWayB d)
theorem mkw_is_way {d : DD} {x : Bool} (h : m_is_way d = .ok x) : fIsWay [d] (.bool x) := by cases h; exact mk_is_way
def m_run (w : Wy) (row : List Int) : M (List Int × List S3) := gd (wokB w && decide (row.length < 1000)) (.ok (runT w s0 row, runS w s0 row))
theorem mkw_run {w : Wy} {row : List Int} {x : List Int × List S3} (h : m_run w row = .ok x) : fRun [w.dd, rdd row] (e2 rdd (eL sdd) x) := by
  obtain ⟨h1, rfl⟩ := gd_ok h
  rw [Bool.and_eq_true] at h1
  exact mk_run (wokB_ok h1.1) (of_decide_eq_true h1.2)
def m_bring (w : Wy) (v : Int) : M Int := gd (wokB w) (.ok (brS w v))
theorem mkw_bring {w : Wy} {v : Int} {x : Int} (h : m_bring w v = .ok x) : fBring [w.dd, .int v] (.int x) := by
  obtain ⟨h1, rfl⟩ := gd_ok h
  exact mk_bring (wokB_ok h1)
def m_write (w : Wy) (s : S3) (n : Int) : M (Int × S3) := gd (wokB w) (.ok (wrS w s n))
theorem mkw_write {w : Wy} {s : S3} {n : Int} {x : Int × S3} (h : m_write w s n = .ok x) : fWrite [w.dd, sdd s, .int n] (e2 .int sdd x) := by
  obtain ⟨h1, rfl⟩ := gd_ok h
  exact mk_write (wokB_ok h1)


def fErrorOf (ds : List DD) (r : DD) : Prop := ∃ (w : Wy) (row : List Int), ds = [w.dd, rdd row] ∧ WOk w ∧ ROk row ∧ r = .int ((runT w s0 row).sum - row.sum)
theorem mk_error_of {w : Wy} {row : List Int} (h : WOk w) (h2 : ROk row) : fErrorOf [w.dd, rdd row] (.int ((runT w s0 row).sum - row.sum)) := ⟨_, _, rfl, h, h2, rfl⟩
def nums : List Int := [0, 1, -1, 2, -2, 3, -3, 4, -4]
def fNums (ds : List DD) (r : DD) : Prop := ds = [] ∧ r = rdd nums
theorem mk_all_numbers : fNums [] (rdd nums) := ⟨rfl, rfl⟩
theorem mk__law_numbers : fNums [] (rdd nums) := ⟨rfl, rfl⟩
/-! the law's own bringing -/
def ab (x : Int) : Int := if x < 0 then -x else x
def StepOk (s : Int) : Prop := s = 1 ∨ s = 2 ∨ s = 3 ∨ s = 4 ∨ s = 6
def pk (v : Int) (s : Int) (d : DD) : Bool := match d with | .int k => decide ((v - k) % s = 0) | _ => false
def fk (v : Int) (d : DD) : DD := match d with | .int k => .int (v - k) | d => d
theorem near_list {v s : Int} (hs : StepOk s) : ((((intsF 0 s.toNat).map PyData.int).filter (pk v s)).map (fk v)) = [.int (v / s * s)] := by
  have key : ∀ k : Int, fk v (.int k) = .int (v - k) := fun _ => rfl
  rcases hs with rfl | rfl | rfl | rfl | rfl
  · have e : (intsF 0 (1 : Int).toNat) = [0] := by decide
    rw [e]
    have h0 : pk v 1 (.int 0) = true := decide_eq_true (by omega)
    simp only [List.map_cons, List.map_nil, List.filter_cons, List.filter_nil, h0, if_true, Bool.false_eq_true, if_false, key]
    exact congrArg (fun z => [PyData.int z]) (by omega)
  · have e : (intsF 0 (2 : Int).toNat) = [0, 1] := by decide
    rw [e]
    have hr : v % 2 = 0 ∨ v % 2 = 1 := by omega
    rcases hr with hr | hr
    · have h0 : pk v 2 (.int 0) = true := decide_eq_true (by omega)
      have h1 : pk v 2 (.int 1) = false := decide_eq_false (by omega)
      simp only [List.map_cons, List.map_nil, List.filter_cons, List.filter_nil, h0, h1, if_true, Bool.false_eq_true, if_false, key]
      exact congrArg (fun z => [PyData.int z]) (by omega)
    · have h0 : pk v 2 (.int 0) = false := decide_eq_false (by omega)
      have h1 : pk v 2 (.int 1) = true := decide_eq_true (by omega)
      simp only [List.map_cons, List.map_nil, List.filter_cons, List.filter_nil, h0, h1, if_true, Bool.false_eq_true, if_false, key]
      exact congrArg (fun z => [PyData.int z]) (by omega)
  · have e : (intsF 0 (3 : Int).toNat) = [0, 1, 2] := by decide
    rw [e]
    have hr : v % 3 = 0 ∨ v % 3 = 1 ∨ v % 3 = 2 := by omega
    rcases hr with hr | hr | hr
    · have h0 : pk v 3 (.int 0) = true := decide_eq_true (by omega)
      have h1 : pk v 3 (.int 1) = false := decide_eq_false (by omega)
      have h2 : pk v 3 (.int 2) = false := decide_eq_false (by omega)
      simp only [List.map_cons, List.map_nil, List.filter_cons, List.filter_nil, h0, h1, h2, if_true, Bool.false_eq_true, if_false, key]
      exact congrArg (fun z => [PyData.int z]) (by omega)
    · have h0 : pk v 3 (.int 0) = false := decide_eq_false (by omega)
      have h1 : pk v 3 (.int 1) = true := decide_eq_true (by omega)
      have h2 : pk v 3 (.int 2) = false := decide_eq_false (by omega)
      simp only [List.map_cons, List.map_nil, List.filter_cons, List.filter_nil, h0, h1, h2, if_true, Bool.false_eq_true, if_false, key]
      exact congrArg (fun z => [PyData.int z]) (by omega)
    · have h0 : pk v 3 (.int 0) = false := decide_eq_false (by omega)
      have h1 : pk v 3 (.int 1) = false := decide_eq_false (by omega)
      have h2 : pk v 3 (.int 2) = true := decide_eq_true (by omega)
      simp only [List.map_cons, List.map_nil, List.filter_cons, List.filter_nil, h0, h1, h2, if_true, Bool.false_eq_true, if_false, key]
      exact congrArg (fun z => [PyData.int z]) (by omega)
  · have e : (intsF 0 (4 : Int).toNat) = [0, 1, 2, 3] := by decide
    rw [e]
    have hr : v % 4 = 0 ∨ v % 4 = 1 ∨ v % 4 = 2 ∨ v % 4 = 3 := by omega
    rcases hr with hr | hr | hr | hr
    · have h0 : pk v 4 (.int 0) = true := decide_eq_true (by omega)
      have h1 : pk v 4 (.int 1) = false := decide_eq_false (by omega)
      have h2 : pk v 4 (.int 2) = false := decide_eq_false (by omega)
      have h3 : pk v 4 (.int 3) = false := decide_eq_false (by omega)
      simp only [List.map_cons, List.map_nil, List.filter_cons, List.filter_nil, h0, h1, h2, h3, if_true, Bool.false_eq_true, if_false, key]
      exact congrArg (fun z => [PyData.int z]) (by omega)
    · have h0 : pk v 4 (.int 0) = false := decide_eq_false (by omega)
      have h1 : pk v 4 (.int 1) = true := decide_eq_true (by omega)
      have h2 : pk v 4 (.int 2) = false := decide_eq_false (by omega)
      have h3 : pk v 4 (.int 3) = false := decide_eq_false (by omega)
      simp only [List.map_cons, List.map_nil, List.filter_cons, List.filter_nil, h0, h1, h2, h3, if_true, Bool.false_eq_true, if_false, key]
      exact congrArg (fun z => [PyData.int z]) (by omega)
    · have h0 : pk v 4 (.int 0) = false := decide_eq_false (by omega)
      have h1 : pk v 4 (.int 1) = false := decide_eq_false (by omega)
      have h2 : pk v 4 (.int 2) = true := decide_eq_true (by omega)
      have h3 : pk v 4 (.int 3) = false := decide_eq_false (by omega)
      simp only [List.map_cons, List.map_nil, List.filter_cons, List.filter_nil, h0, h1, h2, h3, if_true, Bool.false_eq_true, if_false, key]
      exact congrArg (fun z => [PyData.int z]) (by omega)
    · have h0 : pk v 4 (.int 0) = false := decide_eq_false (by omega)
      have h1 : pk v 4 (.int 1) = false := decide_eq_false (by omega)
      have h2 : pk v 4 (.int 2) = false := decide_eq_false (by omega)
      have h3 : pk v 4 (.int 3) = true := decide_eq_true (by omega)
      simp only [List.map_cons, List.map_nil, List.filter_cons, List.filter_nil, h0, h1, h2, h3, if_true, Bool.false_eq_true, if_false, key]
      exact congrArg (fun z => [PyData.int z]) (by omega)
  · have e : (intsF 0 (6 : Int).toNat) = [0, 1, 2, 3, 4, 5] := by decide
    rw [e]
    have hr : v % 6 = 0 ∨ v % 6 = 1 ∨ v % 6 = 2 ∨ v % 6 = 3 ∨ v % 6 = 4 ∨ v % 6 = 5 := by omega
    rcases hr with hr | hr | hr | hr | hr | hr
    · have h0 : pk v 6 (.int 0) = true := decide_eq_true (by omega)
      have h1 : pk v 6 (.int 1) = false := decide_eq_false (by omega)
      have h2 : pk v 6 (.int 2) = false := decide_eq_false (by omega)
      have h3 : pk v 6 (.int 3) = false := decide_eq_false (by omega)
      have h4 : pk v 6 (.int 4) = false := decide_eq_false (by omega)
      have h5 : pk v 6 (.int 5) = false := decide_eq_false (by omega)
      simp only [List.map_cons, List.map_nil, List.filter_cons, List.filter_nil, h0, h1, h2, h3, h4, h5, if_true, Bool.false_eq_true, if_false, key]
      exact congrArg (fun z => [PyData.int z]) (by omega)
    · have h0 : pk v 6 (.int 0) = false := decide_eq_false (by omega)
      have h1 : pk v 6 (.int 1) = true := decide_eq_true (by omega)
      have h2 : pk v 6 (.int 2) = false := decide_eq_false (by omega)
      have h3 : pk v 6 (.int 3) = false := decide_eq_false (by omega)
      have h4 : pk v 6 (.int 4) = false := decide_eq_false (by omega)
      have h5 : pk v 6 (.int 5) = false := decide_eq_false (by omega)
      simp only [List.map_cons, List.map_nil, List.filter_cons, List.filter_nil, h0, h1, h2, h3, h4, h5, if_true, Bool.false_eq_true, if_false, key]
      exact congrArg (fun z => [PyData.int z]) (by omega)
    · have h0 : pk v 6 (.int 0) = false := decide_eq_false (by omega)
      have h1 : pk v 6 (.int 1) = false := decide_eq_false (by omega)
      have h2 : pk v 6 (.int 2) = true := decide_eq_true (by omega)
      have h3 : pk v 6 (.int 3) = false := decide_eq_false (by omega)
      have h4 : pk v 6 (.int 4) = false := decide_eq_false (by omega)
      have h5 : pk v 6 (.int 5) = false := decide_eq_false (by omega)
      simp only [List.map_cons, List.map_nil, List.filter_cons, List.filter_nil, h0, h1, h2, h3, h4, h5, if_true, Bool.false_eq_true, if_false, key]
      exact congrArg (fun z => [PyData.int z]) (by omega)
    · have h0 : pk v 6 (.int 0) = false := decide_eq_false (by omega)
      have h1 : pk v 6 (.int 1) = false := decide_eq_false (by omega)
      have h2 : pk v 6 (.int 2) = false := decide_eq_false (by omega)
      have h3 : pk v 6 (.int 3) = true := decide_eq_true (by omega)
      have h4 : pk v 6 (.int 4) = false := decide_eq_false (by omega)
      have h5 : pk v 6 (.int 5) = false := decide_eq_false (by omega)
      simp only [List.map_cons, List.map_nil, List.filter_cons, List.filter_nil, h0, h1, h2, h3, h4, h5, if_true, Bool.false_eq_true, if_false, key]
      exact congrArg (fun z => [PyData.int z]) (by omega)
    · have h0 : pk v 6 (.int 0) = false := decide_eq_false (by omega)
      have h1 : pk v 6 (.int 1) = false := decide_eq_false (by omega)
      have h2 : pk v 6 (.int 2) = false := decide_eq_false (by omega)
      have h3 : pk v 6 (.int 3) = false := decide_eq_false (by omega)
      have h4 : pk v 6 (.int 4) = true := decide_eq_true (by omega)
      have h5 : pk v 6 (.int 5) = false := decide_eq_false (by omega)
      simp only [List.map_cons, List.map_nil, List.filter_cons, List.filter_nil, h0, h1, h2, h3, h4, h5, if_true, Bool.false_eq_true, if_false, key]
      exact congrArg (fun z => [PyData.int z]) (by omega)
    · have h0 : pk v 6 (.int 0) = false := decide_eq_false (by omega)
      have h1 : pk v 6 (.int 1) = false := decide_eq_false (by omega)
      have h2 : pk v 6 (.int 2) = false := decide_eq_false (by omega)
      have h3 : pk v 6 (.int 3) = false := decide_eq_false (by omega)
      have h4 : pk v 6 (.int 4) = false := decide_eq_false (by omega)
      have h5 : pk v 6 (.int 5) = true := decide_eq_true (by omega)
      simp only [List.map_cons, List.map_nil, List.filter_cons, List.filter_nil, h0, h1, h2, h3, h4, h5, if_true, Bool.false_eq_true, if_false, key]
      exact congrArg (fun z => [PyData.int z]) (by omega)
/-- what a mode takes of two neighbours -/
def laM (v s a b : Int) : Md → Int
  | .down => a
  | .up => b
  | .inn => if ab a ≤ ab b then a else b
  | .out => if ab b ≤ ab a then a else b
  | m => if ab (a - v) ≠ ab (b - v) then (if ab (a - v) ≤ ab (b - v) then a else b) else match m with
    | .neardown => a
    | .nearup => b
    | .nearin => if ab a ≤ ab b then a else b
    | .nearout => if ab b ≤ ab a then a else b
    | .neareven => if a / s % 2 = 0 then a else b
    | _ => if a / s % 2 = 1 then a else b
theorem md_in1 (m : Md) : inD (.str m.str) [.str "in", .str "out"] = decide (m = .inn ∨ m = .out) := by cases m <;> decide +kernel
theorem md_in2 (m : Md) : inD (.str m.str) [.str "neareven", .str "nearodd"] = decide (m = .neareven ∨ m = .nearodd) := by cases m <;> decide +kernel
theorem md_in3 (m : Md) : inD (.str m.str) [.str "down", .str "up"] = decide (m = .down ∨ m = .up) := by cases m <;> decide +kernel
theorem md_eq (m k : Md) : decide (m.str = k.str) = decide (m = k) := by cases m <;> cases k <;> decide +kernel
theorem bt_md {v s : Int} (m : Md) : btS v s m.str = (let low := v / s * s; let high := if low = v then low else low + s; if m = .down then low else if m = .up then high else if m = .inn ∨ m = .out then (if (0 ≤ v ↔ m = .inn) then low else high) else if v - low ≠ high - v then (if v - low < high - v then low else high) else
    if low ≠ high then (if m = .neardown then low else if m = .nearup then high else if m = .neareven ∨ m = .nearodd then (if m = .neareven then (if low / s % 2 = 0 then low else high) else (if (if low / s % 2 = 0 then low else high) = low then high else low)) else if m = .nearin then (if 0 ≤ low then low else high) else (if 0 ≤ low then high else low)) else low) := by
  have e1 : decide (m.str = ("down" : Str)) = decide (m = .down) := md_eq m .down
  have e2 : decide (m.str = ("up" : Str)) = decide (m = .up) := md_eq m .up
  have e3 : decide (m.str = ("in" : Str)) = decide (m = .inn) := md_eq m .inn
  have e4 : decide (m.str = ("neardown" : Str)) = decide (m = .neardown) := md_eq m .neardown
  have e5 : decide (m.str = ("nearup" : Str)) = decide (m = .nearup) := md_eq m .nearup
  have e6 : decide (m.str = ("neareven" : Str)) = decide (m = .neareven) := md_eq m .neareven
  have e7 : decide (m.str = ("nearin" : Str)) = decide (m = .nearin) := md_eq m .nearin
  unfold btS nearerS
  simp only [e1, e2, e3, e4, e5, e6, e7, md_in1, md_in2, decide_eq_true_eq, Bool.not_eq_true', decide_eq_false_iff_not, ne_eq, decide_eq_decide]
set_option maxHeartbeats 4000000 in
theorem bt_at {v s : Int} (hs : StepOk s) (m : Md) : btS v s m.str = if v / s * s = v then v / s * s else laM v s (v / s * s) (v / s * s + s) m := by
  rw [bt_md]
  by_cases h : v / s * s = v
  · rw [if_pos h]
    simp only [h, if_true, ne_eq, not_true_eq_false, if_false]
    repeat' split
    all_goals first | rfl | omega
  · rw [if_neg h]
    simp only [h, if_false]
    cases m <;> simp only [laM, ab, reduceCtorEq, if_true, if_false, or_self, or_true, true_or, iff_true, iff_false] <;> rcases hs with rfl | rfl | rfl | rfl | rfl <;> (repeat' split) <;> first | rfl | omega
def fLawAt (ds : List DD) (r : DD) : Prop := ∃ (v s : Int) (m : Md), ds = [.int v, .int s, .str m.str] ∧ StepOk s ∧ r = .int (btS v s m.str)
theorem mk__law_at {v s : Int} (m : Md) {ms : Str} (h : StepOk s) (e : ms = m.str) : fLawAt [.int v, .int s, .str ms] (.int (btS v s m.str)) := ⟨v, s, m, by rw [e], h, rfl⟩
theorem Pr.so (p : Pr) : StepOk p.st ∧ StepOk p.fi := by cases p <;> simp [StepOk, Pr.st, Pr.fi]
def fLawBring (ds : List DD) (r : DD) : Prop := ∃ (w : Way) (v : Int), ds = [w.wy.dd, .int v] ∧ r = .int (brS w.wy v)
theorem mk__law_bring {w : Way} {v : Int} : fLawBring [w.wy.dd, .int v] (.int (brS w.wy v)) := ⟨_, _, rfl, rfl⟩
/-- the states that come by a way -/
def Rc (w : Way) (s : S3) : Prop := (w.c = .none → s = s0) ∧ (w.c = .all → s.2.1 = 0)
def fLawWrite (ds : List DD) (r : DD) : Prop := ∃ (w : Way) (s : S3) (n : Int), ds = [w.wy.dd, sdd s, .int n] ∧ Rc w s ∧ r = .tuple [.int (wrS w.wy s n).1, sdd (wrS w.wy s n).2]
theorem mk__law_write {w : Way} {s : S3} {n : Int} (h : Rc w s) : fLawWrite [w.wy.dd, sdd s, .int n] (.tuple [.int (wrS w.wy s n).1, sdd (wrS w.wy s n).2]) := ⟨_, _, _, rfl, h, rfl⟩
theorem Way.wc (w : Way) : w.wy = w.wy.wc w.c.str := rfl
theorem wr_c (w : Way) (s : S3) (n : Int) : wrS w.wy s n = match w.c with
    | .none => (brS w.wy (n + s.1), s)
    | .all => (brS w.wy (n + s.1), (n + s.1 - brS w.wy (n + s.1), 0, 0))
    | .pairs => (brS w.wy (n + s.1), if s.2.2 = 0 then (n + s.1 - brS w.wy (n + s.1), 0, 1) else (0, 0, 0))
    | .signs => if n < 0 then (brS w.wy (n + s.2.1), (s.1, n + s.2.1 - brS w.wy (n + s.2.1), 0)) else (brS w.wy (n + s.1), (n + s.1 - brS w.wy (n + s.1), s.2.1, 0)) := by
  obtain ⟨p, m, c⟩ := w
  cases c
  · exact wr_none (Way.wy ⟨p, m, .none⟩) s n
  · exact wr_all (Way.wy ⟨p, m, .all⟩) s n
  · exact wr_signs (Way.wy ⟨p, m, .signs⟩) s n
  · exact wr_pairs (Way.wy ⟨p, m, .pairs⟩) s n
theorem Rc.s0 (w : Way) : Rc w s0 := ⟨fun _ => rfl, fun _ => rfl⟩
theorem Rc.next {w : Way} {s : S3} (h : Rc w s) (n : Int) : Rc w (wrS w.wy s n).2 := by
  rw [wr_c]
  refine ⟨fun e => ?_, fun e => ?_⟩
  · rw [e]; exact h.1 e
  · rw [e]
theorem Rc.stE {w : Way} : ∀ (row : List Int) {s : S3}, Rc w s → Rc w (stE w.wy s row)
  | [], _, h => h
  | n :: r, _, h => Rc.stE r (h.next n)
def fLawRun (ds : List DD) (r : DD) : Prop := ∃ (w : Way) (row : List Int), ds = [w.wy.dd, rdd row] ∧ row.length < 1000 ∧ r = .tuple [rdd (runT w.wy s0 row), .list ((runS w.wy s0 row).map sdd)]
theorem mk__law_run {w : Way} {row : List Int} (h2 : row.length < 1000) : fLawRun [w.wy.dd, rdd row] (.tuple [rdd (runT w.wy s0 row), .list ((runS w.wy s0 row).map sdd)]) := ⟨_, _, rfl, h2, rfl⟩

theorem two_int {i : Nat} {a b : Int} {d : DD} (h : ([.int a, .int b] : List DD)[i]? = some d) : ∃ k, d = .int k := by
  have := List.mem_of_getElem? h
  simp at this
  rcases this with e | e
  · exact ⟨_, e⟩
  · exact ⟨_, e⟩
theorem pick_le (a b x y : Int) : ∃ j : Nat, (([.int a, .int b] : List DD)[j]? = some (.int (if x ≤ y then a else b))) ∧ (([.int x, .int y] : List DD)[j]? = some (.int (if x ≤ y then x else y))) ∧ (∀ (n : Nat) (u : DD), n < j → ([.int x, .int y] : List DD)[n]? = some u → PyData.eqv u (.int (if x ≤ y then x else y)) = false) := by
  by_cases h : x ≤ y
  · rw [if_pos h, if_pos h]
    exact ⟨0, rfl, rfl, fun n u hn => by omega⟩
  · rw [if_neg h, if_neg h]
    refine ⟨1, rfl, rfl, fun n u hn hu => ?_⟩
    have : n = 0 := by omega
    subst this
    cases hu
    simp [PyData.eqv]; omega
theorem pick_ge (a b x y : Int) : ∃ j : Nat, (([.int a, .int b] : List DD)[j]? = some (.int (if y ≤ x then a else b))) ∧ (([.int x, .int y] : List DD)[j]? = some (.int (if y ≤ x then x else y))) ∧ (∀ (n : Nat) (u : DD), n < j → ([.int x, .int y] : List DD)[n]? = some u → PyData.eqv u (.int (if y ≤ x then x else y)) = false) := by
  by_cases h : y ≤ x
  · rw [if_pos h, if_pos h]
    exact ⟨0, rfl, rfl, fun n u hn => by omega⟩
  · rw [if_neg h, if_neg h]
    refine ⟨1, rfl, rfl, fun n u hn hu => ?_⟩
    have : n = 0 := by omega
    subst this
    cases hu
    simp [PyData.eqv]; omega


section
variable {K : FK} {B : Bs} {Γ : List Sl} {i : Nat} {p q : Addr} {E : XK} {te : TE} {n : Int} {α : Type} {e : α → DD} {xs : List α}
theorem nd_draw (hi : Γ[i]? = some (.own (drwR p q))) (h : EvD K B te Γ (.int n)) (hn : drawOk n = true) :
    Ev K B (tCall (spW K preDraw fDraw) [] E (tCons (tVar i) (tCons te tNil))) Γ (fun d => ∃ b : Int, (0 ≤ b ∧ b < n) ∧ d = .int b) := by
  unfold drawOk at hn
  have h2 := of_decide_eq_true hn
  exact (dr_drawD hi h h2.1 h2.2).imp fun d ⟨k, e, h3, h4⟩ => ⟨k, ⟨h3, h4⟩, e⟩
theorem nd_pick (hi : Γ[i]? = some (.own (drwR p q))) (h : EvD K B te Γ (.list (xs.map e))) (hn : pickOk xs.length = true) :
    Ev K B (tCall (spW K prePick fPick) [] E (tCons (tVar i) (tCons te tNil))) Γ (fun d => ∃ b : α, b ∈ xs ∧ d = e b) := by
  unfold pickOk at hn
  have h2 := of_decide_eq_true hn
  refine (dr_pickP hi h fun d ed => ⟨xs.map e, ed, ?_, ?_⟩).imp fun d ⟨cs, ec, hm⟩ => ?_
  · rw [List.length_map]; exact h2.1
  · rw [List.length_map]; exact h2.2
  · cases ec
    obtain ⟨b, hb, rfl⟩ := List.mem_map.mp hm
    exact ⟨b, hb, rfl⟩
theorem nd_way (hi : Γ[i]? = some (.own (drwR p q))) : Ev K B (tCall (spW K preNo fWay) [] E (tCons (tVar i) tNil)) Γ (fun d => ∃ b : Way, True ∧ d = b.wy.dd) :=
  (dr_no hi).imp fun d ⟨_, w, e⟩ => ⟨w, trivial, e⟩
theorem nd_row (hi : Γ[i]? = some (.own (drwR p q))) (h : EvD K B te Γ (.int n)) (hn : rowOk n = true) :
    Ev K B (tCall (spW K preRow fRow) [] E (tCons (tVar i) (tCons te tNil))) Γ (fun d => ∃ b : List Int, ((b.length : Int) ≤ n ∧ ∀ x ∈ b, -4 ≤ x ∧ x ≤ 4) ∧ d = rdd b) := by
  unfold rowOk at hn
  have h2 := of_decide_eq_true hn
  refine ev_callW hi (ea_consP (Ps := fun ds => ds = [.int n]) h ea_nil fun d ds e1 e2 => by rw [e1, e2]) (fun ds ed => ⟨n, ed, h2.1, h2.2⟩) (fun ds r ed ⟨m, row, e1, e2, h3, h4⟩ => ?_)
  rw [ed] at e1
  cases e1
  exact ⟨row, ⟨h3, h4⟩, e2⟩
end

def prOf (a b : Int) : Option Pr := allPr.find? fun p => decide (p.st = a) && decide (p.fi = b)
def mdOf (m : Str) : Option Md := allMd.find? fun x => decide (x.str = m)
def crOf (m : Str) : Option Cr := allCr.find? fun x => decide (x.str = m)
def wayOf (w : Wy) : Option Way := oo (prOf w.step w.finer) fun p => oo (mdOf w.mode) fun m => oo (crOf w.carry) fun c => some ⟨p, m, c⟩
theorem wayOf_eq {w : Wy} {v : Way} (h : wayOf w = some v) : w = v.wy := by
  unfold wayOf at h
  obtain ⟨p, h1, h⟩ := oo_some h
  obtain ⟨m, h2, h⟩ := oo_some h
  obtain ⟨c, h3, h⟩ := oo_some h
  cases h
  have a := List.find?_some h1
  have b := List.find?_some h2
  have d := List.find?_some h3
  simp only [Bool.and_eq_true, decide_eq_true_eq] at a b d
  obtain ⟨s, f, mo, ca⟩ := w
  simp only [Way.wy]
  simp only at a b d
  rw [a.1, a.2, b, d]
theorem wayOf_wy (v : Way) : wayOf v.wy = some v := by
  obtain ⟨p, m, c⟩ := v
  have h1 : prOf p.st p.fi = some p := by cases p <;> decide
  have h2 : mdOf m.str = some m := by cases m <;> decide +kernel
  have h3 : crOf c.str = some c := by cases c <;> decide +kernel
  unfold wayOf Way.wy
  simp only [h1, h2, h3, oo]
def rcB (w : Way) (s : S3) : Bool := (!decide (w.c = .none) || decide (s = (0, 0, 0))) && (!decide (w.c = .all) || decide (s.2.1 = 0))
def m__law_write (w : Wy) (s : S3) (n : Int) : M (Int × S3) := ob (wayOf w) fun v => gd (rcB v s) (.ok (wrS w s n))
theorem mkw__law_write {w : Wy} {s : S3} {n : Int} {x : Int × S3} (h : m__law_write w s n = .ok x) : fLawWrite [w.dd, sdd s, .int n] (e2 .int sdd x) := by
  unfold m__law_write at h
  cases hv : wayOf w with
  | none => rw [hv] at h; cases h
  | some v =>
    rw [hv] at h
    obtain ⟨h1, rfl⟩ := gd_ok h
    have e := wayOf_eq hv
    subst e
    unfold rcB at h1
    simp only [Bool.and_eq_true, Bool.or_eq_true, Bool.not_eq_true', decide_eq_true_eq, decide_eq_false_iff_not] at h1
    exact mk__law_write ⟨fun z => h1.1.resolve_left (fun y => y z), fun z => h1.2.resolve_left (fun y => y z)⟩
def m__law_run (w : Wy) (row : List Int) : M (List Int × List S3) := ob (wayOf w) fun v => gd (decide (row.length < 1000)) (.ok (runT w s0 row, runS w s0 row))
theorem mkw__law_run {w : Wy} {row : List Int} {x : List Int × List S3} (h : m__law_run w row = .ok x) : fLawRun [w.dd, rdd row] (e2 rdd (eL sdd) x) := by
  unfold m__law_run at h
  cases hv : wayOf w with
  | none => rw [hv] at h; cases h
  | some v =>
    rw [hv] at h
    obtain ⟨h1, rfl⟩ := gd_ok h
    have e := wayOf_eq hv
    subst e
    exact mk__law_run (of_decide_eq_true h1)
def m__law_steps : M (List (Int × Int)) := .ok [(2, 1), (3, 1), (4, 1), (4, 2), (6, 1), (6, 2), (6, 3)]
theorem mkw__law_steps {x : List (Int × Int)} (h : m__law_steps = .ok x) : fSteps [] (eL (e2 PyData.int PyData.int) x) := by cases h; exact mk__law_steps
def m__law_modes : M (List Str) := .ok modesS
theorem mkw__law_modes {x : List Str} (h : m__law_modes = .ok x) : fModes [] (eL PyData.str x) := by cases h; exact mk__law_modes

def m_check_row (a_value : DD) : M Unit :=
  ob (M.o (m_is_row a_value)) fun b1 =>
  sel (!b1) (
  .er "BadRow") (
  .ok ())
def f_check_row (ds : List DD) (r : Rs) : Prop := ∃ (a_value : DD), ds = [eD a_value] ∧ ((∃ x, m_check_row a_value = .ok x ∧ r = .ok (eN x)) ∨ ∃ c, m_check_row a_value = .er c ∧ r = .er c)
theorem mx_check_row {a_value : DD} {x : Unit} (h : m_check_row a_value = .ok x) : f_check_row [eD a_value] (.ok (eN x)) := ⟨_, rfl, .inl ⟨x, h, rfl⟩⟩
theorem mxr_check_row {a_value : DD} {c : Str} (h : m_check_row a_value = .er c) : f_check_row [eD a_value] (.er c) := ⟨_, rfl, .inr ⟨c, h, rfl⟩⟩
def m_check_way (a_value : DD) : M Unit :=
  ob (M.o (m_is_way a_value)) fun b1 =>
  sel (!b1) (
  .er "BadWay") (
  .ok ())
def f_check_way (ds : List DD) (r : Rs) : Prop := ∃ (a_value : DD), ds = [eD a_value] ∧ ((∃ x, m_check_way a_value = .ok x ∧ r = .ok (eN x)) ∨ ∃ c, m_check_way a_value = .er c ∧ r = .er c)
theorem mx_check_way {a_value : DD} {x : Unit} (h : m_check_way a_value = .ok x) : f_check_way [eD a_value] (.ok (eN x)) := ⟨_, rfl, .inl ⟨x, h, rfl⟩⟩
theorem mxr_check_way {a_value : DD} {c : Str} (h : m_check_way a_value = .er c) : f_check_way [eD a_value] (.er c) := ⟨_, rfl, .inr ⟨c, h, rfl⟩⟩
def m_format_way (a_way : DD) : M Str :=
  mb (m_check_way a_way) fun b1 =>
  ob (asU a_way) fun b3 =>
  gd (szLt (List.length b3)) (
  ob (mpO (fun (x5 : DD) => (oo (strO x5) fun b6 => (some b6))) b3) fun b9 =>
  gd (joinOk (" " : Str) b9) (
  .ok (Txt.join (" " : Str) b9)))
def f_format_way (ds : List DD) (r : Rs) : Prop := ∃ (a_way : DD), ds = [eD a_way] ∧ ((∃ x, m_format_way a_way = .ok x ∧ r = .ok (PyData.str x)) ∨ ∃ c, m_format_way a_way = .er c ∧ r = .er c)
theorem mx_format_way {a_way : DD} {x : Str} (h : m_format_way a_way = .ok x) : f_format_way [eD a_way] (.ok (PyData.str x)) := ⟨_, rfl, .inl ⟨x, h, rfl⟩⟩
theorem mxr_format_way {a_way : DD} {c : Str} (h : m_format_way a_way = .er c) : f_format_way [eD a_way] (.er c) := ⟨_, rfl, .inr ⟨c, h, rfl⟩⟩
def m_format_row (a_row : DD) : M Str :=
  mb (m_check_row a_row) fun b1 =>
  ob (deR a_row) fun b3 =>
  gd (szLt (List.length b3)) (
  ob (mpO (fun (x5 : Int) => (og (strIok x5) (some (strI x5)))) b3) fun b8 =>
  gd (joinOk ("," : Str) b8) (
  .ok (Txt.join ("," : Str) b8)))
def f_format_row (ds : List DD) (r : Rs) : Prop := ∃ (a_row : DD), ds = [eD a_row] ∧ ((∃ x, m_format_row a_row = .ok x ∧ r = .ok (PyData.str x)) ∨ ∃ c, m_format_row a_row = .er c ∧ r = .er c)
theorem mx_format_row {a_row : DD} {x : Str} (h : m_format_row a_row = .ok x) : f_format_row [eD a_row] (.ok (PyData.str x)) := ⟨_, rfl, .inl ⟨x, h, rfl⟩⟩
theorem mxr_format_row {a_row : DD} {c : Str} (h : m_format_row a_row = .er c) : f_format_row [eD a_row] (.er c) := ⟨_, rfl, .inr ⟨c, h, rfl⟩⟩
def m_check_text (a_text : DD) : M Unit :=
  sel (!(isStr a_text)) (
  .er "BadText") (
  .ok ())
def f_check_text (ds : List DD) (r : Rs) : Prop := ∃ (a_text : DD), ds = [eD a_text] ∧ ((∃ x, m_check_text a_text = .ok x ∧ r = .ok (eN x)) ∨ ∃ c, m_check_text a_text = .er c ∧ r = .er c)
theorem mx_check_text {a_text : DD} {x : Unit} (h : m_check_text a_text = .ok x) : f_check_text [eD a_text] (.ok (eN x)) := ⟨_, rfl, .inl ⟨x, h, rfl⟩⟩
theorem mxr_check_text {a_text : DD} {c : Str} (h : m_check_text a_text = .er c) : f_check_text [eD a_text] (.er c) := ⟨_, rfl, .inr ⟨c, h, rfl⟩⟩
def m_item_in (a_word : Str) : M DD :=
  ob (sel (inD (PyData.str a_word) [PyData.str ("1" : Str), PyData.str ("2" : Str), PyData.str ("3" : Str), PyData.str ("4" : Str), PyData.str ("6" : Str)]) (oo (intO a_word) fun b1 => (some (PyData.int b1))) (some (PyData.str a_word))) fun b3 =>
  .ok b3
def f_item_in (ds : List DD) (r : DD) : Prop := ∃ (a_word : Str), ds = [PyData.str a_word] ∧ ∃ x, m_item_in a_word = .ok x ∧ r = eD x
theorem mx_item_in {a_word : Str} {x : DD} (h : m_item_in a_word = .ok x) : f_item_in [PyData.str a_word] (eD x) := ⟨_, rfl, x, h, rfl⟩
def m_parse_way (a_text : DD) : M (List DD) :=
  mb (m_check_text a_text) fun b1 =>
  ob (asS a_text) fun b3 =>
  gd (splitOk b3 (" " : Str)) (
  gd (szLt (List.length (Txt.split b3 (" " : Str)))) (
  ob (mpO (fun (x6 : Str) => (oo (m_item_in x6).o fun b7 => (some b7))) (Txt.split b3 (" " : Str))) fun b10 =>
  ob (M.o (m_is_way ((eU eD) b10))) fun b12 =>
  sel (!b12) (
  .er "BadText") (
  .ok b10)))
def f_parse_way (ds : List DD) (r : Rs) : Prop := ∃ (a_text : DD), ds = [eD a_text] ∧ ((∃ x, m_parse_way a_text = .ok x ∧ r = .ok ((eU eD) x)) ∨ ∃ c, m_parse_way a_text = .er c ∧ r = .er c)
theorem mx_parse_way {a_text : DD} {x : (List DD)} (h : m_parse_way a_text = .ok x) : f_parse_way [eD a_text] (.ok ((eU eD) x)) := ⟨_, rfl, .inl ⟨x, h, rfl⟩⟩
theorem mxr_parse_way {a_text : DD} {c : Str} (h : m_parse_way a_text = .er c) : f_parse_way [eD a_text] (.er c) := ⟨_, rfl, .inr ⟨c, h, rfl⟩⟩
def m_number_in (a_word : Str) : M Int :=
  gd (r2Ok (-(4 : Int)) ((4 : Int) + (1 : Int))) (
  gd (szLt (List.length (intsF (-(4 : Int)) (((4 : Int) + (1 : Int)) - (-(4 : Int))).toNat))) (
  ob (mpO (fun (x2 : Int) => (og (strIok x2) (some (strI x2)))) (intsF (-(4 : Int)) (((4 : Int) + (1 : Int)) - (-(4 : Int))).toNat)) fun b5 =>
  sel (!memB a_word b5) (
  .er "BadText") (
  ob (idxO a_word b5) fun b8 =>
  .ok (((b8 : Nat) : Int) - (4 : Int)))))
def f_number_in (ds : List DD) (r : Rs) : Prop := ∃ (a_word : Str), ds = [PyData.str a_word] ∧ ((∃ x, m_number_in a_word = .ok x ∧ r = .ok (PyData.int x)) ∨ ∃ c, m_number_in a_word = .er c ∧ r = .er c)
theorem mx_number_in {a_word : Str} {x : Int} (h : m_number_in a_word = .ok x) : f_number_in [PyData.str a_word] (.ok (PyData.int x)) := ⟨_, rfl, .inl ⟨x, h, rfl⟩⟩
theorem mxr_number_in {a_word : Str} {c : Str} (h : m_number_in a_word = .er c) : f_number_in [PyData.str a_word] (.er c) := ⟨_, rfl, .inr ⟨c, h, rfl⟩⟩
def m_parse_row (a_text : DD) : M (List Int) :=
  mb (m_check_text a_text) fun b1 =>
  ob (asS a_text) fun b3 =>
  mb (sel (!decide (b3 = ("" : Str))) (gd (splitOk b3 ("," : Str)) (
  gd (szLt (List.length (Txt.split b3 ("," : Str)))) (
  mpM (fun (x7 : Str) => m_number_in x7) (Txt.split b3 ("," : Str))))) (.ok ([] : List Int))) fun b8 =>
  ob (M.o (m_is_row (rdd b8))) fun b10 =>
  sel (!b10) (
  .er "BadText") (
  .ok b8)
def f_parse_row (ds : List DD) (r : Rs) : Prop := ∃ (a_text : DD), ds = [eD a_text] ∧ ((∃ x, m_parse_row a_text = .ok x ∧ r = .ok (rdd x)) ∨ ∃ c, m_parse_row a_text = .er c ∧ r = .er c)
theorem mx_parse_row {a_text : DD} {x : (List Int)} (h : m_parse_row a_text = .ok x) : f_parse_row [eD a_text] (.ok (rdd x)) := ⟨_, rfl, .inl ⟨x, h, rfl⟩⟩
theorem mxr_parse_row {a_text : DD} {c : Str} (h : m_parse_row a_text = .er c) : f_parse_row [eD a_text] (.er c) := ⟨_, rfl, .inr ⟨c, h, rfl⟩⟩
def m__law_parsed (a_kind : Int) (a_text : DD) : M DD :=
  lt (()) fun v_found_1 =>
  lt (()) fun v_caught_3 =>
  sel (decide (a_kind = (0 : Int))) (
  tc (m_parse_way a_text) (fun b5 =>
  .ok ((eU eD) b5)) (fun c6 =>
  .ok (PyData.str (wordE c6)))) (
  tc (m_parse_row a_text) (fun b9 =>
  .ok (rdd b9)) (fun c10 =>
  .ok (PyData.str (wordE c10))))
def f__law_parsed (ds : List DD) (r : DD) : Prop := ∃ (a_kind : Int), ∃ (a_text : DD), ds = [PyData.int a_kind, eD a_text] ∧ ∃ x, m__law_parsed a_kind a_text = .ok x ∧ r = eD x
theorem mx__law_parsed {a_kind : Int} {a_text : DD} {x : DD} (h : m__law_parsed a_kind a_text = .ok x) : f__law_parsed [PyData.int a_kind, eD a_text] (eD x) := ⟨_, _, rfl, x, h, rfl⟩
def m__law_words (a_kind : Int) (a_thing : DD) : M Str :=
  ob (seqO a_thing) fun b1 =>
  gd (szLt (List.length b1)) (
  ob (mpO (fun (x3 : DD) => (oo (strO x3) fun b4 => (some b4))) b1) fun b7 =>
  gd (joinOk (sel (decide (a_kind = (0 : Int))) (" " : Str) ("," : Str)) b7) (
  .ok (Txt.join (sel (decide (a_kind = (0 : Int))) (" " : Str) ("," : Str)) b7)))
def f__law_words (ds : List DD) (r : DD) : Prop := ∃ (a_kind : Int), ∃ (a_thing : DD), ds = [PyData.int a_kind, eD a_thing] ∧ ∃ x, m__law_words a_kind a_thing = .ok x ∧ r = PyData.str x
theorem mx__law_words {a_kind : Int} {a_thing : DD} {x : Str} (h : m__law_words a_kind a_thing = .ok x) : f__law_words [PyData.int a_kind, eD a_thing] (PyData.str x) := ⟨_, _, rfl, x, h, rfl⟩
def m__law_rejected  : M Bool :=
  lt ([(eN ()), (PyData.int (5 : Int)), (PyData.str ("" : Str)), (PyData.str (" " : Str)), (PyData.str ("4 1 nearup" : Str)), (PyData.str ("4 1 nearup all " : Str)), (PyData.str (" 4 1 nearup all" : Str)), (PyData.str ("4  1 nearup all" : Str)), (PyData.str ("5 1 nearup all" : Str)), (PyData.str ("4 3 nearup all" : Str)), (PyData.str ("2 2 nearup all" : Str)), (PyData.str ("4 1 Nearup all" : Str))]) fun v_odd_1 =>
  gd (szLe (List.length v_odd_1 + List.length [(PyData.str ("4 1 near all" : Str)), (PyData.str ("1 4 nearup all" : Str)), (PyData.str ("4 1 all nearup" : Str)), (PyData.str ("4,1,nearup,all" : Str)), (PyData.str ("04 1 nearup all" : Str)), (PyData.str ("4 1 nearup all
" : Str)), (PyData.str ("4	1 nearup all" : Str)), (Wy.dd (⟨(4 : Int), (1 : Int), ("nearup" : Str), ("all" : Str)⟩ : Wy)), ((eL PyData.str) [("4 1 nearup all" : Str)])])) (
  lt ((v_odd_1 ++ [(PyData.str ("4 1 near all" : Str)), (PyData.str ("1 4 nearup all" : Str)), (PyData.str ("4 1 all nearup" : Str)), (PyData.str ("4,1,nearup,all" : Str)), (PyData.str ("04 1 nearup all" : Str)), (PyData.str ("4 1 nearup all
" : Str)), (PyData.str ("4	1 nearup all" : Str)), (Wy.dd (⟨(4 : Int), (1 : Int), ("nearup" : Str), ("all" : Str)⟩ : Wy)), ((eL PyData.str) [("4 1 nearup all" : Str)])])) fun v_odd_4 =>
  gd (mulSOk ("1" : Str) (4000 : Int)) (
  gd (szLe (List.length v_odd_4 + List.length [(PyData.str ("4 1 nearup all 0" : Str)), (PyData.str ("4 1 1 all" : Str)), (PyData.str ("6 4 in all" : Str)), (PyData.str ("3 3 in all" : Str)), (PyData.str (Txt.mul ("1" : Str) (4000 : Int)))])) (
  lt ((v_odd_4 ++ [(PyData.str ("4 1 nearup all 0" : Str)), (PyData.str ("4 1 1 all" : Str)), (PyData.str ("6 4 in all" : Str)), (PyData.str ("3 3 in all" : Str)), (PyData.str (Txt.mul ("1" : Str) (4000 : Int)))])) fun v_odd_8 =>
  gd (szLt (List.length v_odd_8)) (
  ob (mpO (fun (x10 : DD) => (oo (m__law_parsed (0 : Int) x10).o fun b11 => (some b11))) v_odd_8) fun b14 =>
  gd (repOk (26 : Int) [("text" : Str)]) (
  gd (SeqAt.shaped ((eL eD) b14)) (
  gd (SeqAt.shaped ((eL PyData.str) (repL (26 : Int) [("text" : Str)]))) (
  sel (!PyData.eqv ((eL eD) b14) ((eL PyData.str) (repL (26 : Int) [("text" : Str)]))) (
  .ok false) (
  gd (repOk (31 : Int) [("1" : Str)]) (
  gd (joinOk ("," : Str) (repL (31 : Int) [("1" : Str)])) (
  lt ([(eN ()), (PyData.int (7 : Int)), (PyData.str (" " : Str)), (PyData.str ("5" : Str)), (PyData.str ("-5" : Str)), (PyData.str ("01" : Str)), (PyData.str ("1," : Str)), (PyData.str (",1" : Str)), (PyData.str ("1,,2" : Str)), (PyData.str ("1;2" : Str)), (PyData.str ("1 2" : Str)), (PyData.str ("x" : Str)), (PyData.str ("1
" : Str)), ((eL PyData.str) [("1" : Str)]), (PyData.str ("-0" : Str)), (PyData.str ("+1" : Str)), (PyData.str ("--1" : Str)), (PyData.str ("1.0" : Str)), (PyData.str (Txt.join ("," : Str) (repL (31 : Int) [("1" : Str)]))), (PyData.str ("1, 2" : Str))]) fun v_lone_22 =>
  gd (szLt (List.length v_lone_22)) (
  ob (mpO (fun (x24 : DD) => (oo (m__law_parsed (1 : Int) x24).o fun b25 => (some b25))) v_lone_22) fun b28 =>
  gd (repOk (20 : Int) [("text" : Str)]) (
  gd (SeqAt.shaped ((eL eD) b28)) (
  gd (SeqAt.shaped ((eL PyData.str) (repL (20 : Int) [("text" : Str)]))) (
  ob (sel (PyData.eqv ((eL eD) b28) ((eL PyData.str) (repL (20 : Int) [("text" : Str)]))) (oo (m__law_parsed (1 : Int) (PyData.str ("" : Str))).o fun b33 => (og (SeqAt.shaped (eD b33)) (og (SeqAt.shaped (eD (rdd ([] : List Int)))) (oo (sel (PyData.eqv (eD b33) (eD (rdd ([] : List Int)))) (og (repOk (30 : Int) [("-4" : Str)]) (og (joinOk ("," : Str) (repL (30 : Int) [("-4" : Str)])) (oo (m__law_parsed (1 : Int) (PyData.str (Txt.join ("," : Str) (repL (30 : Int) [("-4" : Str)])))).o fun b39 => (og (repOk (30 : Int) [(-(4 : Int))]) (og (SeqAt.shaped (eD b39)) (og (SeqAt.shaped (rdd (repL (30 : Int) [(-(4 : Int))]))) (some (PyData.eqv (eD b39) (rdd (repL (30 : Int) [(-(4 : Int))])))))))))) (some false)) fun b44 => (some b44))))) (some false)) fun b46 =>
  .ok b46))))))))))))))
def f__law_rejected (ds : List DD) (r : DD) : Prop := ds = [] ∧ ∃ x, m__law_rejected = .ok x ∧ r = PyData.bool x
theorem mx__law_rejected  {x : Bool} (h : m__law_rejected = .ok x) : f__law_rejected [] (PyData.bool x) := ⟨rfl, x, h, rfl⟩

section
variable {P : Program} {w : World} {K : FK} {mg : Str → Option Value} {base : Heap}
theorem sc_is_int : FnScope ["value", "low", "high"] ["value", "low", "high"] (defScope (tS 8)) := ⟨rfl, rfl, rfl, by decide +kernel, rfl, by decide +kernel, by decide +kernel⟩
theorem ok_is_int (T : Tx K mg) : FnOk P w K mg base CX0 1 T.f_is_int T.d_is_int ["value", "low", "high"] (spD K fIsInt) := by
  refine def_ok T.F_is_int sc_is_int (fun ds r h => ?_) (fun cdv A outer s H G E ds r hr h => ?_)
  · obtain ⟨d, lo, hi, rfl, rfl⟩ := h; rfl
  · obtain ⟨d, lo, hi, rfl, rfl⟩ := h
    refine ⟨_, (pss_one (ps_ret (pe_and (pe_callB (r := rIsiD K) call_isiD (by rfl) T.m_isinstance boot_isinstance (pa_cons (pv 0) (pa_cons (pe_bltn (v := .ty "int") rfl T.m_int (by decide +kernel) rfl) pa_nil))) (pe_and (pe_not (pe_callB (r := rIsiD K) call_isiD (by rfl) T.m_isinstance boot_isinstance (pa_cons (pv 0) (pa_cons (pe_bltn (v := .ty "bool") rfl T.m_bool (by decide +kernel) rfl) pa_nil)))) (pe_one (pe_chain op_le op_le (pv 1) (pv 0) (pv 2))))))), fun Q k => ?_⟩
    cases d with
    | int v => exact nx_retD (ev_andV (ev_isi (ev_var (i := 0) rfl) (b := true) kit_int_int) (fun _ => ev_andV (ev_notV (ev_isi (ev_var (i := 0) rfl) (b := false) kit_int_bool)) (fun _ => ev_chain (ev_var (i := 1) rfl) (ev_var (i := 0) rfl) (fun _ => ev_var (i := 2) rfl) (rd_I0 fun _ => .bl _) (fun _ => rd_I0 fun _ => .bl _)))) (k.to rfl)
    | bool v => exact nx_retD (ev_andV (ev_isi (ev_var (i := 0) rfl) (b := true) kit_bool_int) (fun _ => ev_andV (c := false) (ev_notV (ev_isi (ev_var (i := 0) rfl) (b := true) kit_bool_bool)) (fun h => nomatch h))) (k.to rfl)
    | none => exact nx_retD (ev_andV (c := false) (ev_isi (ev_var (i := 0) rfl) (b := false) kit_NoneType_int) (fun h => nomatch h)) (k.to rfl)
    | str v => exact nx_retD (ev_andV (c := false) (ev_isi (ev_var (i := 0) rfl) (b := false) kit_str_int) (fun h => nomatch h)) (k.to rfl)
    | list v => exact nx_retD (ev_andV (c := false) (ev_isi (ev_var (i := 0) rfl) (b := false) kit_list_int) (fun h => nomatch h)) (k.to rfl)
    | tuple v => exact nx_retD (ev_andV (c := false) (ev_isi (ev_var (i := 0) rfl) (b := false) kit_tuple_int) (fun h => nomatch h)) (k.to rfl)
    | dict v => exact nx_retD (ev_andV (c := false) (ev_isi (ev_var (i := 0) rfl) (b := false) kit_dict_int) (fun h => nomatch h)) (k.to rfl)
theorem sc_is_number : FnScope ["value"] ["value"] (defScope (tS 15)) := ⟨rfl, rfl, rfl, by decide +kernel, rfl, by decide +kernel, by decide +kernel⟩
theorem ok_is_number (T : Tx K mg) : FnOk P w K mg base CX0 2 T.f_is_number T.d_is_number ["value"] (spD K fIsNum) := by
  refine def_ok T.F_is_number sc_is_number (fun ds r h => ?_) (fun cdv A outer s H G E ds r hr h => ?_)
  · obtain ⟨d, rfl, rfl⟩ := h; rfl
  · obtain ⟨d, rfl, rfl⟩ := h
    refine ⟨_, (pss_one (ps_ret (pe_call (ok_is_int T) (hr.mono (by decide)) (by rfl) T.g_is_int T.F_is_int.kp (b_is_int T) .nil pass0 (pa_cons (pv 0) (pa_cons (pe_un un_neg (pe_glob (v := .int _) rfl T.g_WIDEST ⟨_, rfl⟩)) (pa_cons (pe_glob (v := .int _) rfl T.g_WIDEST ⟨_, rfl⟩) pa_nil)))))), fun Q k => ?_⟩
    exact nx_retD (ev_call (ea_cons (ev_var (i := 0) rfl) (ea_cons (ev_neg ev_int) (ea_cons ev_int ea_nil))) (mk_is_int )) k
theorem sc_is_row : FnScope ["value", "one"] ["value"] (defScope (tS 16)) := ⟨rfl, rfl, rfl, by decide +kernel, rfl, by decide +kernel, by decide +kernel⟩
theorem ok_is_row (T : Tx K mg) : FnOk P w K mg base CX0 3 T.f_is_row T.d_is_row ["value"] (spD K fIsRow) := by
  refine def_ok T.F_is_row sc_is_row (fun ds r h => ?_) (fun cdv A outer s H G E ds r hr h => ?_)
  · obtain ⟨d, rfl, rfl⟩ := h; rfl
  · obtain ⟨d, rfl, rfl⟩ := h
    refine ⟨_, (pss_one (ps_ret (pe_and (pe_callB (r := rIsiD K) call_isiD (by rfl) T.m_isinstance boot_isinstance (pa_cons (pv 0) (pa_cons (pe_bltn (v := .ty "list") rfl T.m_list (by decide +kernel) rfl) pa_nil))) (pe_and (pe_cmpR op_le (pe_callB (r := rLenS K) call_len_seq (by rfl) T.m_len PySem.boot_len (pa_cons (pv 0) pa_nil)) (pe_glob (v := .int _) rfl T.g_MOST_ROW ⟨_, rfl⟩) (nomark _)) (pe_one (pe_callB (r := rAll K) (cr_all rfl) (by rfl) T.m_all (by decide +kernel) (pa_cons (pe_lc (own := [("one", 1)]) rfl sc_is_row.nd (pi_list (pv 0)) (blkOk_by (N := ["value", "one"]) (sc := defScope (tS 16)) (own := [("one", 1)]) (by decide +kernel)) (fun _ _ _ _ _ => (pg_name (i := 1) sc_is_row.nd rfl (by first | exact Or.inl rfl | exact Or.inr rfl))) (fun _ _ _ _ _ => pts_nil) (fun _ _ _ _ _ => (pe_call (ok_is_number T) (hr.mono (by decide)) (by rfl) T.g_is_number T.F_is_number.kp (b_is_number T) .nil pass0 (pa_cons (pv 1) pa_nil)))) pa_nil))))))), fun Q k => ?_⟩
    cases d with
    | list es =>
      refine nx_retD (ev_andV (ev_isi (ev_var (i := 0) rfl) (b := true) kit_list_list) (fun _ => ev_andV (ev_le (ev_lenL (ev_var (i := 0) rfl)) ev_int) (fun hb => ev_all (EvN.dat (EvND.to (en_map (us := [1]) (fun d => .bool (isNumB d)) (ei_list (ev_var (i := 0) rfl)) ⟨rfl, trivial⟩ (by have := of_decide_eq_true hb; omega) (fun i d hd => ⟨_, _, tg_name, by decide, (ev_call (ea_cons (ev_var (i := 1) rfl) ea_nil) (mk_is_number ))⟩)) ?_))))) (k.to rfl)
      rw [List.map_map]; rfl
    | none => exact nx_retD (ev_andV (c := false) (ev_isi (ev_var (i := 0) rfl) (b := false) kit_NoneType_list) (fun h => nomatch h)) (k.to rfl)
    | bool v => exact nx_retD (ev_andV (c := false) (ev_isi (ev_var (i := 0) rfl) (b := false) kit_bool_list) (fun h => nomatch h)) (k.to rfl)
    | int v => exact nx_retD (ev_andV (c := false) (ev_isi (ev_var (i := 0) rfl) (b := false) kit_int_list) (fun h => nomatch h)) (k.to rfl)
    | str v => exact nx_retD (ev_andV (c := false) (ev_isi (ev_var (i := 0) rfl) (b := false) kit_str_list) (fun h => nomatch h)) (k.to rfl)
    | tuple v => exact nx_retD (ev_andV (c := false) (ev_isi (ev_var (i := 0) rfl) (b := false) kit_tuple_list) (fun h => nomatch h)) (k.to rfl)
    | dict v => exact nx_retD (ev_andV (c := false) (ev_isi (ev_var (i := 0) rfl) (b := false) kit_dict_list) (fun h => nomatch h)) (k.to rfl)
theorem sc_check_row : FnScope ["value"] ["value"] (defScope (tS 17)) := ⟨rfl, rfl, rfl, by decide +kernel, rfl, by decide +kernel, by decide +kernel⟩
theorem ok_check_row (T : Tx K mg) : FnOk P w K mg base (L2.CX P w) 4 T.f_check_row T.d_check_row ["value"] (spX K f_check_row) := by
  refine def_okX T.F_check_row sc_check_row (fun ds r h => ?_) (fun cdv A outer s H G E ds r hr h => ?_)
  · obtain ⟨a_value, rfl, _⟩ := h; rfl
  · obtain ⟨a_value, rfl, hm⟩ := h
    refine ⟨_, (pss_one (ps_if (PT.nox (pt_not (pt_val (pe_call (ok_is_row T) (hr.mono (by decide)) (by rfl) T.g_is_row T.F_is_row.kp (b_is_row T) .nil pass0 (pa_cons (pv 0) pa_nil)))))
      (pss_one (ps_raise rfl (takes_of rfl rfl rfl rfl) (mkE T.ks (by decide) T.g_BadRow (by rfl))))
      pss_nil)), fun Q k => ?_⟩
    replace k : Wp (fun x => RetD K (bs0 G H) Q (eN x)) (RaiD K (bs0 G H) E) (m_check_row a_value) := by
      rcases hm with ⟨x, hm, rfl⟩ | ⟨c, hm, rfl⟩
      · rw [hm]; exact k
      · rw [hm]; exact k
    unfold m_check_row at k
    refine wp_op k (fun p0 hp0 k => ?_)
    try dsimp only at k
    obtain ⟨b1, h2, k⟩ := wp_ob k
    replace h2 := M.o_some h2
    refine nx_if (et_not (et_B (ev_call (ea_cons (ev_var (i := 0) rfl) ea_nil) (mkw_is_row h2)))) (fun c3 => ?_) (fun c3 => ?_)
    · replace k := wp_t k c3
      exact nx_raise k
    · replace k := wp_f k c3
      refine nx_next ?_
      exact nx_end (hp0 _ k)
theorem sc_is_word : FnScope ["value", "words"] ["value", "words"] (defScope (tS 18)) := ⟨rfl, rfl, rfl, by decide +kernel, rfl, by decide +kernel, by decide +kernel⟩
theorem ok_is_word (T : Tx K mg) : FnOk P w K mg base CX0 1 T.f_is_word T.d_is_word ["value", "words"] (spD K fIsWord) := by
  refine def_ok T.F_is_word sc_is_word (fun ds r h => ?_) (fun cdv A outer s H G E ds r hr h => ?_)
  · obtain ⟨d, ws, rfl, rfl⟩ := h; rfl
  · obtain ⟨d, ws, rfl, rfl⟩ := h
    refine ⟨_, (pss_one (ps_ret (pe_and (pe_callB (r := rIsiD K) call_isiD (by rfl) T.m_isinstance boot_isinstance (pa_cons (pv 0) (pa_cons (pe_bltn (v := .ty "str") rfl T.m_str (by decide +kernel) rfl) pa_nil))) (pe_one (pe_cmpR (r := rIn K false) op_in_seq (pv 0) (pv 1) rfl))))), fun Q k => ?_⟩
    cases d with
    | str x =>
      refine nx_retD (ev_andV (ev_isi (ev_var (i := 0) rfl) (b := true) kit_str_str) (fun _ => ev_inT (ev_var (i := 0) rfl) (ev_var (i := 1) rfl) rfl ?_)) (k.to rfl)
      rw [List.all_map, List.all_eq_true]; intro z _; rfl
    | none => exact nx_retD (ev_andV (c := false) (ev_isi (ev_var (i := 0) rfl) (b := false) kit_NoneType_str) (fun h => nomatch h)) (k.to rfl)
    | bool v => exact nx_retD (ev_andV (c := false) (ev_isi (ev_var (i := 0) rfl) (b := false) kit_bool_str) (fun h => nomatch h)) (k.to rfl)
    | int v => exact nx_retD (ev_andV (c := false) (ev_isi (ev_var (i := 0) rfl) (b := false) kit_int_str) (fun h => nomatch h)) (k.to rfl)
    | list v => exact nx_retD (ev_andV (c := false) (ev_isi (ev_var (i := 0) rfl) (b := false) kit_list_str) (fun h => nomatch h)) (k.to rfl)
    | tuple v => exact nx_retD (ev_andV (c := false) (ev_isi (ev_var (i := 0) rfl) (b := false) kit_tuple_str) (fun h => nomatch h)) (k.to rfl)
    | dict v => exact nx_retD (ev_andV (c := false) (ev_isi (ev_var (i := 0) rfl) (b := false) kit_dict_str) (fun h => nomatch h)) (k.to rfl)
theorem sc_is_way : FnScope ["value"] ["value"] (defScope (tS 19)) := ⟨rfl, rfl, rfl, by decide +kernel, rfl, by decide +kernel, by decide +kernel⟩
theorem ok_is_way (T : Tx K mg) : FnOk P w K mg base CX0 2 T.f_is_way T.d_is_way ["value"] (spD K fIsWay) := by
  refine def_ok T.F_is_way sc_is_way (fun ds r h => ?_) (fun cdv A outer s H G E ds r hr h => ?_)
  · obtain ⟨d, rfl, rfl⟩ := h; rfl
  · obtain ⟨d, rfl, rfl⟩ := h
    refine ⟨_, (pss_cons (ps_if (PW.pt (pw_or (pt_not (pt_val (pe_callB (r := rIsiD K) call_isiD (by rfl) T.m_isinstance boot_isinstance (pa_cons (pv 0) (pa_cons (pe_bltn (v := .ty "tuple") rfl T.m_tuple (by decide +kernel) rfl) pa_nil))))) (pw_or1 (pt_cmpR op_ne (pe_callB (r := rLenS K) call_len_seq (by rfl) T.m_len PySem.boot_len (pa_cons (pv 0) pa_nil)) pe_int (nomark _)))))
      (pss_one (ps_ret pe_bl))
      pss_nil)
      (pss_cons (ps_if (PW.pt (pw_or (pt_not (pt_val (pe_call (ok_is_int T) (hr.mono (by decide)) (by rfl) T.g_is_int T.F_is_int.kp (b_is_int T) .nil pass0 (pa_cons (pe_ix (r := rIxT K) ix_tup (pv 0) pe_int (fun _ _ => rfl)) (pa_cons pe_int (pa_cons pe_int pa_nil)))))) (pw_or (pt_not (pt_val (pe_call (ok_is_int T) (hr.mono (by decide)) (by rfl) T.g_is_int T.F_is_int.kp (b_is_int T) .nil pass0 (pa_cons (pe_ix (r := rIxT K) ix_tup (pv 0) pe_int (fun _ _ => rfl)) (pa_cons pe_int (pa_cons pe_int pa_nil)))))) (pw_or1 (pt_cmpR (r := rInTD K true) (op_notInTD hr) (pe_slice (r := rSlT K) sl_tup (pv 0) po_none (po_some pe_int)) (pe_glob (v := .ref _) rfl T.g_STEPS rfl) rfl)))))
      (pss_one (ps_ret pe_bl))
      pss_nil)
      (pss_one (ps_ret (pe_and (pe_call (ok_is_word T) (hr.mono (by decide)) (by rfl) T.g_is_word T.F_is_word.kp (b_is_word T) .nil pass0 (pa_cons (pe_ix (r := rIxT K) ix_tup (pv 0) pe_int (fun _ _ => rfl)) (pa_cons (pe_glob (v := .ref _) rfl T.g_MODES rfl) pa_nil))) (pe_one (pe_call (ok_is_word T) (hr.mono (by decide)) (by rfl) T.g_is_word T.F_is_word.kp (b_is_word T) .nil pass0 (pa_cons (pe_ix (r := rIxT K) ix_tup (pv 0) pe_int (fun _ _ => rfl)) (pa_cons (pe_glob (v := .ref _) rfl T.g_CARRIES rfl) pa_nil))))))))), fun Q k => ?_⟩
    cases d with
    | tuple es =>
      by_cases hl : es.length = 4
      · obtain ⟨a, b, c, e, rfl⟩ : ∃ a b c e, es = [a, b, c, e] := by
          match es, hl with
          | [a, b, c, e], _ => exact ⟨a, b, c, e, rfl⟩
        refine nx_seq (nx_if (et_or (et_not (et_B (ev_isi (ev_var (i := 0) rfl) (b := true) kit_tuple_tuple))) (fun _ => et_test (ev_neI (ev_lenT (ev_var (i := 0) rfl)) ev_int))) (fun h => by simp at h) (fun h => nx_next ?_))
        refine nx_seq (nx_if (et_or (et_not (et_B (ev_call (ea_cons (ev_ixT (ev_var (i := 0) rfl) ev_int rfl) (ea_cons ev_int (ea_cons ev_int ea_nil))) (mk_is_int )))) (fun h1 => et_or (et_not (et_B (ev_call (ea_cons (ev_ixT (ev_var (i := 0) rfl) ev_int rfl) (ea_cons ev_int (ea_cons ev_int ea_nil))) (mk_is_int )))) (fun h2 => et_test (ev_niTD (ev_slT (ev_var (i := 0) rfl) eo_none (eo_some ev_int)) (ev_c T.k_STEPS) ?_ ?_)))) (fun h => ?_) (fun h => nx_next ?_))
        · have h1' : isIntB a 2 6 = true := by simpa using h1
          have h2' : isIntB b 1 3 = true := by simpa using h2
          obtain ⟨i, rfl⟩ : ∃ i, a = .int i := by
            cases a <;> first | exact ⟨_, rfl⟩ | simp [isIntB] at h1'
          obtain ⟨j, rfl⟩ : ∃ i, b = .int i := by
            cases b <;> first | exact ⟨_, rfl⟩ | simp [isIntB] at h2'
          exact (ok_tuple (n := 0) (ds := [.int i, .int j]) (by simp [ok_int])).shaped
        · decide +kernel
        · refine nx_retD ev_bl (k.to ?_)
          have h' : (!isIntB a 2 6 || (!isIntB b 1 3 || !inD (.tuple [a, b]) stepsD)) = true := h
          simp only [isWayB]
          have : (isIntB a 2 6 && (isIntB b 1 3 && inD (.tuple [a, b]) stepsD)) = false := by
            rcases Bool.eq_false_or_eq_true (isIntB a 2 6) with e1 | e1 <;> rcases Bool.eq_false_or_eq_true (isIntB b 1 3) with e2 | e2 <;> simp_all
          rw [this]; rfl
        · refine nx_retD (ev_andV (ev_call (ea_cons (ev_ixT (ev_var (i := 0) rfl) ev_int rfl) (ea_cons (ev_c T.k_MODES) ea_nil)) (mk_is_word modesS rfl)) (fun _ => (ev_call (ea_cons (ev_ixT (ev_var (i := 0) rfl) ev_int rfl) (ea_cons (ev_c T.k_CARRIES) ea_nil)) (mk_is_word carriesS rfl)))) (k.to ?_)
          have h' : (!isIntB a 2 6 || (!isIntB b 1 3 || !inD (.tuple [a, b]) stepsD)) = false := h
          simp only [isWayB]
          have : (isIntB a 2 6 && (isIntB b 1 3 && inD (.tuple [a, b]) stepsD)) = true := by
            rcases Bool.eq_false_or_eq_true (isIntB a 2 6) with e1 | e1 <;> rcases Bool.eq_false_or_eq_true (isIntB b 1 3) with e2 | e2 <;> simp_all
          rw [this]; rfl
      · refine nx_seq (nx_if (et_or (et_not (et_B (ev_isi (ev_var (i := 0) rfl) (b := true) kit_tuple_tuple))) (fun _ => et_test (ev_neI (ev_lenT (ev_var (i := 0) rfl)) ev_int))) (fun h => nx_retD ev_bl (k.to ?_)) (fun h => ?_))
        · have : isWayB (.tuple es) = false := by
            unfold isWayB
            split
            · rename_i heq; cases heq; exact absurd rfl hl
            · rfl
          rw [this]
        · exfalso
          simp at h
          omega
    | none =>
      exact nx_seq (nx_if (et_or (c := true) (et_not (et_B (ev_isi (ev_var (i := 0) rfl) (b := false) kit_NoneType_tuple))) (fun h => nomatch h)) (fun _ => nx_retD ev_bl (k.to rfl)) (fun h => nomatch h))
    | bool v =>
      exact nx_seq (nx_if (et_or (c := true) (et_not (et_B (ev_isi (ev_var (i := 0) rfl) (b := false) kit_bool_tuple))) (fun h => nomatch h)) (fun _ => nx_retD ev_bl (k.to rfl)) (fun h => nomatch h))
    | int v =>
      exact nx_seq (nx_if (et_or (c := true) (et_not (et_B (ev_isi (ev_var (i := 0) rfl) (b := false) kit_int_tuple))) (fun h => nomatch h)) (fun _ => nx_retD ev_bl (k.to rfl)) (fun h => nomatch h))
    | list v =>
      exact nx_seq (nx_if (et_or (c := true) (et_not (et_B (ev_isi (ev_var (i := 0) rfl) (b := false) kit_list_tuple))) (fun h => nomatch h)) (fun _ => nx_retD ev_bl (k.to rfl)) (fun h => nomatch h))
    | str v =>
      exact nx_seq (nx_if (et_or (c := true) (et_not (et_B (ev_isi (ev_var (i := 0) rfl) (b := false) kit_str_tuple))) (fun h => nomatch h)) (fun _ => nx_retD ev_bl (k.to rfl)) (fun h => nomatch h))
    | dict v =>
      exact nx_seq (nx_if (et_or (c := true) (et_not (et_B (ev_isi (ev_var (i := 0) rfl) (b := false) kit_dict_tuple))) (fun h => nomatch h)) (fun _ => nx_retD ev_bl (k.to rfl)) (fun h => nomatch h))
theorem sc_check_way : FnScope ["value"] ["value"] (defScope (tS 20)) := ⟨rfl, rfl, rfl, by decide +kernel, rfl, by decide +kernel, by decide +kernel⟩
theorem ok_check_way (T : Tx K mg) : FnOk P w K mg base (L2.CX P w) 3 T.f_check_way T.d_check_way ["value"] (spX K f_check_way) := by
  refine def_okX T.F_check_way sc_check_way (fun ds r h => ?_) (fun cdv A outer s H G E ds r hr h => ?_)
  · obtain ⟨a_value, rfl, _⟩ := h; rfl
  · obtain ⟨a_value, rfl, hm⟩ := h
    refine ⟨_, (pss_one (ps_if (PT.nox (pt_not (pt_val (pe_call (ok_is_way T) (hr.mono (by decide)) (by rfl) T.g_is_way T.F_is_way.kp (b_is_way T) .nil pass0 (pa_cons (pv 0) pa_nil)))))
      (pss_one (ps_raise rfl (takes_of rfl rfl rfl rfl) (mkE T.ks (by decide) T.g_BadWay (by rfl))))
      pss_nil)), fun Q k => ?_⟩
    replace k : Wp (fun x => RetD K (bs0 G H) Q (eN x)) (RaiD K (bs0 G H) E) (m_check_way a_value) := by
      rcases hm with ⟨x, hm, rfl⟩ | ⟨c, hm, rfl⟩
      · rw [hm]; exact k
      · rw [hm]; exact k
    unfold m_check_way at k
    refine wp_op k (fun p0 hp0 k => ?_)
    try dsimp only at k
    obtain ⟨b1, h2, k⟩ := wp_ob k
    replace h2 := M.o_some h2
    refine nx_if (et_not (et_B (ev_call (ea_cons (ev_var (i := 0) rfl) ea_nil) (mkw_is_way h2)))) (fun c3 => ?_) (fun c3 => ?_)
    · replace k := wp_t k c3
      exact nx_raise k
    · replace k := wp_f k c3
      refine nx_next ?_
      exact nx_end (hp0 _ k)
theorem sc_format_way : FnScope ["way", "one"] ["way"] (defScope (tS 22)) := ⟨rfl, rfl, rfl, by decide +kernel, rfl, by decide +kernel, by decide +kernel⟩
theorem ok_format_way (T : Tx K mg) : FnOk P w K mg base (L2.CX P w) 4 T.f_format_way T.d_format_way ["way"] (spX K f_format_way) := by
  refine def_okX T.F_format_way sc_format_way (fun ds r h => ?_) (fun cdv A outer s H G E ds r hr h => ?_)
  · obtain ⟨a_way, rfl, _⟩ := h; rfl
  · obtain ⟨a_way, rfl, hm⟩ := h
    refine ⟨_, (pss_cons (ps_expr (pe_call (ok_check_way T) (hr.mono (by decide)) (by rfl) T.g_check_way T.F_check_way.kp (b_check_way T) .nil (passes_call (takes_of rfl rfl rfl rfl) (fun _ _ _ _ h => h)) (pa_cons (pv 0) pa_nil)))
      (pss_one (PS.nox (ps_ret (pe_joinT pe_str (pe_lc (own := [("one", 1)]) rfl sc_format_way.nd (show PI _ _ _ (iTup K _) from pi_tup (pv 0)) (blkOk_by (N := ["way", "one"]) (sc := defScope (tS 22)) (own := [("one", 1)]) (by decide +kernel)) (fun _ _ _ _ _ => (pg_name (i := 1) sc_format_way.nd rfl (by first | exact Or.inl rfl | exact Or.inr rfl))) (fun _ _ _ _ _ => pts_nil) (fun _ _ _ _ _ => (pe_callTy (r := rStr) cr_str (by rfl) T.m_str (by decide +kernel) (pa_cons (pv 1) pa_nil))))))))), fun Q k => ?_⟩
    replace k : Wp (fun x => RetD K (bs0 G H) Q (PyData.str x)) (RaiD K (bs0 G H) E) (m_format_way a_way) := by
      rcases hm with ⟨x, hm, rfl⟩ | ⟨c, hm, rfl⟩
      · rw [hm]; exact k
      · rw [hm]; exact k
    unfold m_format_way at k
    refine wp_op k (fun p0 hp0 k => ?_)
    try dsimp only at k
    obtain ⟨b1, h2, k⟩ | ⟨c_, h2, k⟩ := wp_mb k
    rotate_left
    · exact nx_dropE (ee_call (ea_cons (ev_var (i := 0) rfl) ea_nil) (mxr_check_way h2)) k
    refine nx_seq (nx_drop (ev_callX (ea_cons (ev_var (i := 0) rfl) ea_nil) (mx_check_way h2)) ?_)
    obtain ⟨b3, h4, k⟩ := wp_ob k
    obtain ⟨h8, k⟩ := wp_gd k
    obtain ⟨b9, h10, k⟩ := wp_ob k
    obtain ⟨h11, k⟩ := wp_gd k
    try dsimp only
    exact nx_retD (ev_join ev_str (EvN.dat (en_mpO (e := eD) (e' := PyData.str) (us := [1]) (ei_tup (EvD.to (ev_var (i := 0) rfl) (asU_eq h4))) ⟨rfl, trivial⟩ h10 h8 (fun x5 y_ hx ho => by obtain ⟨b6, h7, ho⟩ := oo_some ho; exact ⟨_, _, tg_name, by decide, EvD.to (ev_strO (ev_var (i := 1) rfl) h7) (congrArg PyData.str (Option.some.inj ho))⟩))) h11) (hp0 _ k)
end

section
variable {P : Program} {w : World} {K : FK} {mg : Str → Option Value} {base : Heap}
theorem sc_format_row : FnScope ["row", "number"] ["row"] (defScope (tS 23)) := ⟨rfl, rfl, rfl, by decide +kernel, rfl, by decide +kernel, by decide +kernel⟩
theorem ok_format_row (T : Tx K mg) : FnOk P w K mg base (L2.CX P w) 5 T.f_format_row T.d_format_row ["row"] (spX K f_format_row) := by
  refine def_okX T.F_format_row sc_format_row (fun ds r h => ?_) (fun cdv A outer s H G E ds r hr h => ?_)
  · obtain ⟨a_row, rfl, _⟩ := h; rfl
  · obtain ⟨a_row, rfl, hm⟩ := h
    refine ⟨_, (pss_cons (ps_expr (pe_call (ok_check_row T) (hr.mono (by decide)) (by rfl) T.g_check_row T.F_check_row.kp (b_check_row T) .nil (passes_call (takes_of rfl rfl rfl rfl) (fun _ _ _ _ h => h)) (pa_cons (pv 0) pa_nil)))
      (pss_one (PS.nox (ps_ret (pe_joinT pe_str (pe_lc (own := [("number", 1)]) rfl sc_format_row.nd (show PI _ _ _ (iList K _) from pi_list (pv 0)) (blkOk_by (N := ["row", "number"]) (sc := defScope (tS 23)) (own := [("number", 1)]) (by decide +kernel)) (fun _ _ _ _ _ => (pg_name (i := 1) sc_format_row.nd rfl (by first | exact Or.inl rfl | exact Or.inr rfl))) (fun _ _ _ _ _ => pts_nil) (fun _ _ _ _ _ => (pe_callTy (r := rStr) cr_str (by rfl) T.m_str (by decide +kernel) (pa_cons (pv 1) pa_nil))))))))), fun Q k => ?_⟩
    replace k : Wp (fun x => RetD K (bs0 G H) Q (PyData.str x)) (RaiD K (bs0 G H) E) (m_format_row a_row) := by
      rcases hm with ⟨x, hm, rfl⟩ | ⟨c, hm, rfl⟩
      · rw [hm]; exact k
      · rw [hm]; exact k
    unfold m_format_row at k
    refine wp_op k (fun p0 hp0 k => ?_)
    try dsimp only at k
    obtain ⟨b1, h2, k⟩ | ⟨c_, h2, k⟩ := wp_mb k
    rotate_left
    · exact nx_dropE (ee_call (ea_cons (ev_var (i := 0) rfl) ea_nil) (mxr_check_row h2)) k
    refine nx_seq (nx_drop (ev_callX (ea_cons (ev_var (i := 0) rfl) ea_nil) (mx_check_row h2)) ?_)
    obtain ⟨b3, h4, k⟩ := wp_ob k
    have kz := k
    have e_row := deR_eq h4
    subst e_row
    have k := kz
    clear kz
    obtain ⟨h7, k⟩ := wp_gd k
    obtain ⟨b8, h9, k⟩ := wp_ob k
    obtain ⟨h10, k⟩ := wp_gd k
    try dsimp only
    exact nx_retD (ev_join ev_str (EvN.dat (en_mpO (e := PyData.int) (e' := PyData.str) (us := [1]) (ei_list (ev_var (i := 0) rfl)) ⟨rfl, trivial⟩ h9 h7 (fun x5 y_ hx ho => by obtain ⟨h6, ho⟩ := og_some ho; exact ⟨_, _, tg_name, by decide, EvD.to (ev_strI (ev_var (i := 1) rfl) h6) (congrArg PyData.str (Option.some.inj ho))⟩))) h10) (hp0 _ k)
theorem sc_check_text : FnScope ["text"] ["text"] (defScope (tS 24)) := ⟨rfl, rfl, rfl, by decide +kernel, rfl, by decide +kernel, by decide +kernel⟩
theorem ok_check_text (T : Tx K mg) : FnOk P w K mg base (L2.CX P w) 1 T.f_check_text T.d_check_text ["text"] (spX K f_check_text) := by
  refine def_okX T.F_check_text sc_check_text (fun ds r h => ?_) (fun cdv A outer s H G E ds r hr h => ?_)
  · obtain ⟨a_text, rfl, _⟩ := h; rfl
  · obtain ⟨a_text, rfl, hm⟩ := h
    refine ⟨_, (pss_one (ps_if (PT.nox (pt_not (pt_val (pe_callB (r := rIsiD K) call_isiD (by rfl) T.m_isinstance boot_isinstance (pa_cons (pv 0) (pa_cons (pe_bltn (v := .ty "str") rfl T.m_str (by decide +kernel) rfl) pa_nil))))))
      (pss_one (ps_raise rfl (takes_of rfl rfl rfl rfl) (mkE T.ks (by decide) T.g_BadText (by rfl))))
      pss_nil)), fun Q k => ?_⟩
    replace k : Wp (fun x => RetD K (bs0 G H) Q (eN x)) (RaiD K (bs0 G H) E) (m_check_text a_text) := by
      rcases hm with ⟨x, hm, rfl⟩ | ⟨c, hm, rfl⟩
      · rw [hm]; exact k
      · rw [hm]; exact k
    unfold m_check_text at k
    refine wp_op k (fun p0 hp0 k => ?_)
    try dsimp only at k
    refine nx_if (et_not (et_B (ev_isi (ev_var (i := 0) rfl) (isi_str _)))) (fun c1 => ?_) (fun c1 => ?_)
    · replace k := wp_t k c1
      exact nx_raise k
    · replace k := wp_f k c1
      refine nx_next ?_
      exact nx_end (hp0 _ k)
theorem sc_item_in : FnScope ["word"] ["word"] (defScope (tS 25)) := ⟨rfl, rfl, rfl, by decide +kernel, rfl, by decide +kernel, by decide +kernel⟩
theorem ok_item_in (T : Tx K mg) : FnOk P w K mg base CX0 1 T.f_item_in T.d_item_in ["word"] (spD K f_item_in) := by
  refine def_ok T.F_item_in sc_item_in (fun ds r h => ?_) (fun cdv A outer s H G E ds r hr h => ?_)
  · obtain ⟨a_word, rfl, _, _, rfl⟩ := h; rfl
  · obtain ⟨a_word, rfl, x0, hm, rfl⟩ := h
    refine ⟨_, (pss_one (ps_ret (pe_ifExp (pt_cmpR (r := rIn K false) op_in_seq (pv 0) (pe_tup (pa_cons pe_str (pa_cons pe_str (pa_cons pe_str (pa_cons pe_str (pa_cons pe_str pa_nil)))))) rfl) (pe_callTy (r := rIntS) call_int_str (by rfl) T.m_int (by decide +kernel) (pa_cons (pv 0) pa_nil)) (pv 0)))), fun Q k => ?_⟩
    replace k : Wp (fun x => RetD K (bs0 G H) Q (eD x)) noR (m_item_in a_word) := by rw [hm]; exact k
    unfold m_item_in at k
    refine wp_op k (fun p0 hp0 k => ?_)
    try dsimp only at k
    obtain ⟨b3, h4, k⟩ := wp_ob k
    exact nx_retD (ev_ifO (e := eD) (et_test (ev_inT (ev_var (i := 0) rfl) (ev_tup (ea_cons ev_str (ea_cons ev_str (ea_cons ev_str (ea_cons ev_str (ea_cons ev_str ea_nil)))))))) h4 (fun hb hm => by obtain ⟨b1, h2, hm⟩ := oo_some hm;  exact EvD.to (d := eD (PyData.int b1)) (ev_intS (ev_var (i := 0) rfl) h2) (congrArg eD (Option.some.inj hm))) (fun hb hm => by  exact EvD.to (d := eD (PyData.str a_word)) (ev_var (i := 0) rfl) (congrArg eD (Option.some.inj hm)))) (hp0 _ k)
theorem sc_parse_way : FnScope ["text", "found", "word"] ["text"] (defScope (tS 26)) := ⟨rfl, rfl, rfl, by decide +kernel, rfl, by decide +kernel, by decide +kernel⟩
theorem ok_parse_way (T : Tx K mg) : FnOk P w K mg base (L2.CX P w) 3 T.f_parse_way T.d_parse_way ["text"] (spX K f_parse_way) := by
  refine def_okX T.F_parse_way sc_parse_way (fun ds r h => ?_) (fun cdv A outer s H G E ds r hr h => ?_)
  · obtain ⟨a_text, rfl, _⟩ := h; rfl
  · obtain ⟨a_text, rfl, hm⟩ := h
    refine ⟨_, (pss_cons (ps_expr (pe_call (ok_check_text T) (hr.mono (by decide)) (by rfl) T.g_check_text T.F_check_text.kp (b_check_text T) .nil (passes_call (takes_of rfl rfl rfl rfl) (fun _ _ _ _ h => h)) (pa_cons (pv 0) pa_nil)))
      (pss_cons (PS.nox (ps_set (i := 1) sc_parse_way.nd rfl (by first | exact Or.inl rfl | exact Or.inr rfl) (pe_callTy (r := rTupS K) call_tuple_of (by rfl) T.m_tuple (by decide +kernel) (pa_cons (pe_lc (own := [("word", 2)]) rfl sc_parse_way.nd (show PI _ _ _ (iList K _) from pi_list (pe_splitT (pv 0) pe_str)) (blkOk_by (N := ["text", "found", "word"]) (sc := defScope (tS 26)) (own := [("word", 2)]) (by decide +kernel)) (fun _ _ _ _ _ => (pg_name (i := 2) sc_parse_way.nd rfl (by first | exact Or.inl rfl | exact Or.inr rfl))) (fun _ _ _ _ _ => pts_nil) (fun _ _ _ _ _ => (pe_call (ok_item_in T) (hr.mono (by decide)) (by rfl) T.g_item_in T.F_item_in.kp (b_item_in T) .nil pass0 (pa_cons (pv 2) pa_nil)))) pa_nil))))
      (pss_cons (ps_if (PT.nox (pt_not (pt_val (pe_call (ok_is_way T) (hr.mono (by decide)) (by rfl) T.g_is_way T.F_is_way.kp (b_is_way T) .nil pass0 (pa_cons (pv 1) pa_nil)))))
      (pss_one (ps_raise rfl (takes_of rfl rfl rfl rfl) (mkE T.ks (by decide) T.g_BadText (by rfl))))
      pss_nil)
      (pss_one (PS.nox (ps_ret (pv 1))))))), fun Q k => ?_⟩
    replace k : Wp (fun x => RetD K (bs0 G H) Q ((eU eD) x)) (RaiD K (bs0 G H) E) (m_parse_way a_text) := by
      rcases hm with ⟨x, hm, rfl⟩ | ⟨c, hm, rfl⟩
      · rw [hm]; exact k
      · rw [hm]; exact k
    unfold m_parse_way at k
    refine wp_op k (fun p0 hp0 k => ?_)
    try dsimp only at k
    obtain ⟨b1, h2, k⟩ | ⟨c_, h2, k⟩ := wp_mb k
    rotate_left
    · exact nx_dropE (ee_call (ea_cons (ev_var (i := 0) rfl) ea_nil) (mxr_check_text h2)) k
    refine nx_seq (nx_drop (ev_callX (ea_cons (ev_var (i := 0) rfl) ea_nil) (mx_check_text h2)) ?_)
    obtain ⟨b3, h4, k⟩ := wp_ob k
    have kz := k
    have e_text := asS_eq h4
    subst e_text
    have k := kz
    clear kz
    obtain ⟨h5, k⟩ := wp_gd k
    obtain ⟨h9, k⟩ := wp_gd k
    obtain ⟨b10, h11, k⟩ := wp_ob k
    try dsimp only
    refine nx_seq (nx_asgD (d' := (eU eD) b10) (et_tupL (e := eD) (EvN.dat (en_mpO (e := PyData.str) (e' := eD) (us := [2]) (ei_list (EvN.dat (en_split (ev_var (i := 0) rfl) ev_str h5))) ⟨rfl, trivial⟩ h11 h9 (fun x6 y_ hx ho => by obtain ⟨b7, h8, ho⟩ := oo_some ho; replace h8 := M.o_some h8; exact ⟨_, _, tg_name, by decide, EvD.to (ev_call (ea_cons (ev_var (i := 2) rfl) ea_nil) (mx_item_in h8)) (congrArg eD (Option.some.inj ho))⟩)))) rfl ?_)
    obtain ⟨b12, h13, k⟩ := wp_ob k
    replace h13 := M.o_some h13
    try dsimp only
    refine nx_seq (nx_if (et_not (et_B (ev_call (ea_cons (ev_var (i := 1) rfl) ea_nil) (mkw_is_way h13)))) (fun c14 => ?_) (fun c14 => ?_))
    · replace k := wp_t k c14
      exact nx_raise k
    · replace k := wp_f k c14
      refine nx_next ?_
      try dsimp only
      exact nx_retD (ev_var (i := 1) rfl) (hp0 _ k)
theorem sc_number_in : FnScope ["word", "words", "number"] ["word"] (defScope (tS 27)) := ⟨rfl, rfl, rfl, by decide +kernel, rfl, by decide +kernel, by decide +kernel⟩
theorem ok_number_in (T : Tx K mg) : FnOk P w K mg base (L2.CX P w) 1 T.f_number_in T.d_number_in ["word"] (spX K f_number_in) := by
  refine def_okX T.F_number_in sc_number_in (fun ds r h => ?_) (fun cdv A outer s H G E ds r hr h => ?_)
  · obtain ⟨a_word, rfl, _⟩ := h; rfl
  · obtain ⟨a_word, rfl, hm⟩ := h
    refine ⟨_, (pss_cons (PS.nox (ps_setLc (i := 1) (own := [("number", 2)]) rfl sc_number_in.nd rfl rfl (sw_true rfl rfl rfl (by decide +kernel)) (pi_range2 rfl T.m_range (pa_cons (pe_un un_neg (pe_glob (v := .int _) rfl T.g_WIDEST ⟨_, rfl⟩)) (pa_cons (pe_op op_add (pe_glob (v := .int _) rfl T.g_WIDEST ⟨_, rfl⟩) pe_int) pa_nil))) (blkOk_by (N := ["word", "words", "number"]) (sc := defScope (tS 27)) (own := [("number", 2)]) (by decide +kernel)) (fun _ _ _ _ _ => (pg_name (i := 2) sc_number_in.nd rfl (by first | exact Or.inl rfl | exact Or.inr rfl))) (fun _ _ _ _ _ => pts_nil) (fun _ _ _ _ _ => (pe_callTy (r := rStr) cr_str (by rfl) T.m_str (by decide +kernel) (pa_cons (pv 2) pa_nil)))))
      (pss_cons (ps_if (PT.nox (pt_cmpR (r := rIn K true) op_notIn_seq (pv 0) (pv 1) rfl))
      (pss_one (ps_raise rfl (takes_of rfl rfl rfl rfl) (mkE T.ks (by decide) T.g_BadText (by rfl))))
      pss_nil)
      (pss_one (PS.nox (ps_ret (pe_op op_sub (pe_bm (r := rIndex K) PySem.F.plainAttrs_list PySem.F.slot_list_index PySem.F.type_list_index mt_index (pv 1) (pa_cons (pv 0) pa_nil)) (pe_glob (v := .int _) rfl T.g_WIDEST ⟨_, rfl⟩))))))), fun Q k => ?_⟩
    replace k : Wp (fun x => RetD K (bs0 G H) Q (PyData.int x)) (RaiD K (bs0 G H) E) (m_number_in a_word) := by
      rcases hm with ⟨x, hm, rfl⟩ | ⟨c, hm, rfl⟩
      · rw [hm]; exact k
      · rw [hm]; exact k
    unfold m_number_in at k
    refine wp_op k (fun p0 hp0 k => ?_)
    try dsimp only at k
    obtain ⟨h1, k⟩ := wp_gd k
    obtain ⟨h4, k⟩ := wp_gd k
    obtain ⟨b5, h6, k⟩ := wp_ob k
    refine nx_seq (nx_asgD (d' := (eL PyData.str) b5) (EvN.dat (en_mpO (e := PyData.int) (e' := PyData.str) (us := [2]) (eiR2 (ea_cons (ev_neg ev_int) (ea_cons (ev_add ev_int ev_int) ea_nil)) h1) ⟨rfl, trivial⟩ h6 h4 (fun x2 y_ hx ho => by obtain ⟨h3, ho⟩ := og_some ho; exact ⟨_, _, tg_name, by decide, EvD.to (ev_strI (ev_var (i := 2) rfl) h3) (congrArg PyData.str (Option.some.inj ho))⟩))) rfl ?_)
    try dsimp only
    refine nx_seq (nx_if (et_test (et_niS (ev_var (i := 0) rfl) (ev_var (i := 1) rfl))) (fun c7 => ?_) (fun c7 => ?_))
    · replace k := wp_t k c7
      exact nx_raise k
    · replace k := wp_f k c7
      refine nx_next ?_
      try dsimp only
      obtain ⟨b8, h9, k⟩ := wp_ob k
      try dsimp only
      exact nx_retD (ev_sub (et_idxS (ev_var (i := 1) rfl) (ev_var (i := 0) rfl) h9) ev_int) (hp0 _ k)
theorem sc_parse_row : FnScope ["text", "found", "word"] ["text"] (defScope (tS 28)) := ⟨rfl, rfl, rfl, by decide +kernel, rfl, by decide +kernel, by decide +kernel⟩
theorem ok_parse_row (T : Tx K mg) : FnOk P w K mg base (L2.CX P w) 4 T.f_parse_row T.d_parse_row ["text"] (spX K f_parse_row) := by
  refine def_okX T.F_parse_row sc_parse_row (fun ds r h => ?_) (fun cdv A outer s H G E ds r hr h => ?_)
  · obtain ⟨a_text, rfl, _⟩ := h; rfl
  · obtain ⟨a_text, rfl, hm⟩ := h
    refine ⟨_, (pss_cons (ps_expr (pe_call (ok_check_text T) (hr.mono (by decide)) (by rfl) T.g_check_text T.F_check_text.kp (b_check_text T) .nil (passes_call (takes_of rfl rfl rfl rfl) (fun _ _ _ _ h => h)) (pa_cons (pv 0) pa_nil)))
      (pss_cons (ps_set (i := 1) sc_parse_row.nd rfl (by first | exact Or.inl rfl | exact Or.inr rfl) (pe_ifExp (pt_cmpR op_ne (pv 0) pe_str (nomark _)) (pe_lcX (own := [("word", 2)]) rfl sc_parse_row.nd (takes_of rfl rfl rfl rfl) (fun _ _ _ _ h => h) rfl rfl (show PI _ _ _ (iList K _) from pi_list (pe_splitT (pv 0) pe_str)) (blkOk_by (N := ["text", "found", "word"]) (sc := defScope (tS 28)) (own := [("word", 2)]) (by decide +kernel)) (fun _ _ _ _ _ => (pg_name (i := 2) sc_parse_row.nd rfl (by first | exact Or.inl rfl | exact Or.inr rfl))) (fun _ _ _ _ _ hp => (pe_call (ok_number_in T) (hr.mono (by decide)) (by rfl) T.g_number_in T.F_number_in.kp (b_number_in T) .nil hp (pa_cons (pv 2) pa_nil)))) (pe_lst pa_nil)))
      (pss_cons (ps_if (PT.nox (pt_not (pt_val (pe_call (ok_is_row T) (hr.mono (by decide)) (by rfl) T.g_is_row T.F_is_row.kp (b_is_row T) .nil pass0 (pa_cons (pv 1) pa_nil)))))
      (pss_one (ps_raise rfl (takes_of rfl rfl rfl rfl) (mkE T.ks (by decide) T.g_BadText (by rfl))))
      pss_nil)
      (pss_one (PS.nox (ps_ret (pv 1))))))), fun Q k => ?_⟩
    replace k : Wp (fun x => RetD K (bs0 G H) Q (rdd x)) (RaiD K (bs0 G H) E) (m_parse_row a_text) := by
      rcases hm with ⟨x, hm, rfl⟩ | ⟨c, hm, rfl⟩
      · rw [hm]; exact k
      · rw [hm]; exact k
    unfold m_parse_row at k
    refine wp_op k (fun p0 hp0 k => ?_)
    try dsimp only at k
    obtain ⟨b1, h2, k⟩ | ⟨c_, h2, k⟩ := wp_mb k
    rotate_left
    · exact nx_dropE (ee_call (ea_cons (ev_var (i := 0) rfl) ea_nil) (mxr_check_text h2)) k
    refine nx_seq (nx_drop (ev_callX (ea_cons (ev_var (i := 0) rfl) ea_nil) (mx_check_text h2)) ?_)
    obtain ⟨b3, h4, k⟩ := wp_ob k
    have kz := k
    have e_text := asS_eq h4
    subst e_text
    have k := kz
    clear kz
    obtain ⟨b8, h9, k⟩ | ⟨c_, h9, k⟩ := wp_mb k
    rotate_left
    · exact nx_asgF (fun kr => ev_ifF (et_test (ev_neS (ev_var (i := 0) rfl) ev_str)) h9 (fun hm => by obtain ⟨h5, hm⟩ := gdEr hm; obtain ⟨h6, hm⟩ := gdEr hm; exact en_mpF (e := PyData.str) (e' := PyData.int) (us := [2]) kr (ei_list (EvN.dat (en_split (ev_var (i := 0) rfl) ev_str h5))) ⟨rfl, trivial⟩ hm h6 (fun x7 hx => ⟨_, _, tg_name, by decide, fun y_ hy => ev_callX (ea_cons (ev_var (i := 2) rfl) ea_nil) (mx_number_in hy), fun c_ hy => ee_call (ea_cons (ev_var (i := 2) rfl) ea_nil) (mxr_number_in hy)⟩)) (fun hm => nomatch hm)) k
    try dsimp only
    refine nx_seq (nx_asgD (d' := rdd b8) (ev_ifM (e := rdd) (et_test (ev_neS (ev_var (i := 0) rfl) ev_str)) h9 (fun hm => by obtain ⟨h5, hm⟩ := gdOk hm; obtain ⟨h6, hm⟩ := gdOk hm; exact EvN.dat (en_mpX (e := PyData.str) (e' := PyData.int) (us := [2]) (ei_list (EvN.dat (en_split (ev_var (i := 0) rfl) ev_str h5))) ⟨rfl, trivial⟩ hm h6 (fun x7 hx => ⟨_, _, tg_name, by decide, fun y_ hy => ev_callX (ea_cons (ev_var (i := 2) rfl) ea_nil) (mx_number_in hy), fun c_ hy => ee_call (ea_cons (ev_var (i := 2) rfl) ea_nil) (mxr_number_in hy)⟩))) (fun hm => EvD.to (EvN.dat (en_lst ea_nil)) (congrArg rdd (M.ok.inj hm)))) rfl ?_)
    obtain ⟨b10, h11, k⟩ := wp_ob k
    replace h11 := M.o_some h11
    try dsimp only
    refine nx_seq (nx_if (et_not (et_B (ev_call (ea_cons (ev_var (i := 1) rfl) ea_nil) (mkw_is_row h11)))) (fun c12 => ?_) (fun c12 => ?_))
    · replace k := wp_t k c12
      exact nx_raise k
    · replace k := wp_f k c12
      refine nx_next ?_
      try dsimp only
      exact nx_retD (ev_var (i := 1) rfl) (hp0 _ k)
theorem sc__law_start : FnScope ["script"] ["script"] (defScope (tS 30)) := ⟨rfl, rfl, rfl, by decide +kernel, rfl, by decide +kernel, by decide +kernel⟩
theorem ok__law_start (T : Tx K mg) : FnOk P w K mg base CX0 1 T.f__law_start T.d__law_start ["script"] (spStart K) := by
  refine T.F__law_start.ok sc__law_start (fun vs H Q E h => ?_) (fun cdv A outer s H vs Q E hr h => ?_)
  · obtain ⟨a, ns, rfl, _⟩ := h; rfl
  · obtain ⟨a, ns, rfl, hS, hlen, kk⟩ := h
    refine ⟨_, (pss_one (ps_ret (pe_lst (pa_cons (pe_ifExp (pt_cmpR (op_neD hr.units) (pv 0) (pe_lst pa_nil) (nomark _)) (pe_callTy (r := rListS _) call_list_of (by rfl) T.m_list (by decide +kernel) (pa_cons (pv 0) pa_nil)) (pe_lst (pa_cons pe_int pa_nil))) (pa_cons pe_int pa_nil))))), ?_⟩
    refine ⟨.ref a, rfl, sz_of (by show 0 ≤ 16000000; decide), fun e ne => ?_⟩
    have sq : ∀ {o : HO}, SqL K (upd H e o) a (ns.map V.int) := fun {o} => by
      rcases hS with (h | ⟨ob, h⟩) | h
      · exact .inl (.inl (Ex.new ne a _ h))
      · exact .inl (.inr ⟨ob, Ex.new ne a _ h⟩)
      · exact .inr h
    have da : DpAll K (upd H e (.lst [])) (ns.map V.int) (ns.map .int) := by
      clear sq kk hlen hS
      induction ns with
      | nil => exact .nil
      | cons n ns ih => exact .cons (.int n) ih
    refine ⟨.list (ns.map .int), .list [], .lst sq da, .lst (SqL.of upd_same) .nil, (ok_ints (n := 0) ns).shaped, by decide +kernel, _, rfl, ?_⟩
    cases hn : ns with
    | nil =>
      subst hn
      show if (!PyData.eqv (.list (([] : List Int).map .int)) (.list [])) = true then _ else _
      rw [if_neg (by decide +kernel)]
      refine ⟨sz_of (by show 1 ≤ 16000000; decide), fun q nq => ⟨sz_of (by show 2 ≤ 16000000; decide), fun p np => ?_⟩⟩
      have hpq : q ≠ p := ne_of_none (upd_same (H := upd H e (.lst []))) np
      refine kk p q _ ⟨rfl, Ne.symm hpq, [0], 0, upd_same, by rw [upd_ne hpq]; exact upd_same, by simp, by decide⟩
    | cons n r =>
      rw [if_pos (by simp [PyData.eqv, PyData.eqvAll])]
      refine ⟨.ref a, rfl, a, ns.map V.int, rfl, .inl sq, fun q nq => ⟨sz_of (by show 2 ≤ 16000000; decide), fun p np => ?_⟩⟩
      have hpq : q ≠ p := ne_of_none (upd_same (H := upd H e (.lst []))) np
      refine kk p q _ ⟨rfl, Ne.symm hpq, ns, 0, upd_same, by rw [upd_ne hpq]; exact upd_same, by rw [hn]; simp, by omega⟩
theorem sc__law_draw : FnScope ["draws", "limit", "numbers", "at", "cell", "mixed"] ["draws", "limit"] (defScope (tS 31)) := ⟨rfl, rfl, rfl, by decide +kernel, rfl, by decide +kernel, by decide +kernel⟩
theorem ok__law_draw (T : Tx K mg) : FnOk P w K mg base CX0 1 T.f__law_draw T.d__law_draw ["draws", "limit"] (spW K preDraw fDraw) := by
  refine T.F__law_draw.ok sc__law_draw (fun vs H Q E h => ?_) (fun cdv A outer s H vs Q E hr h => ?_)
  · obtain ⟨G, p, q, us, ds, rfl, _, _, _, hd, _, ⟨n, rfl, _⟩, _⟩ := h
    rw [List.length_cons, hd.length]; rfl
  · obtain ⟨G, p, q, us, ds, rfl, ⟨_, hpq, ns, k, hp, hq, hne, hlen⟩, gp, gq, hd, he, ⟨n, rfl, hn1, hn2⟩, kk⟩ := h
    obtain ⟨v, rfl, hv⟩ := daL1 hd
    have ev := hv.int_inv
    subst ev
    refine ⟨_, (pss_cons (ps_set (i := 2) sc__law_draw.nd rfl (by first | exact Or.inl rfl | exact Or.inr rfl) (pe_ix (r := rIxL K) ix_list (pv 0) pe_int (fun _ _ => rfl)))
      (pss_cons (ps_asg (pe_op op_add (pe_ix (r := rIxL K) ix_list (pv 0) pe_int (fun _ _ => rfl)) pe_int) (pg_sub (pv 0) pe_int set_list))
      (pss_cons (ps_set (i := 3) sc__law_draw.nd rfl (by first | exact Or.inl rfl | exact Or.inr rfl) (pe_op op_mod (pe_ix (r := rIxL K) ix_list (pv 0) pe_int (fun _ _ => rfl)) (pe_callB (r := rLenS K) call_len_seq (by rfl) T.m_len PySem.boot_len (pa_cons (pv 2) pa_nil))))
      (pss_cons (ps_set (i := 4) sc__law_draw.nd rfl (by first | exact Or.inl rfl | exact Or.inr rfl) (pe_ix (r := rIxL K) ix_list (pv 2) (pv 3) (fun _ _ => rfl)))
      (pss_cons (ps_if (pt_cmpR op_ge (pv 4) pe_int (nomark _))
      (pss_cons (ps_asg (pe_op op_fdiv (pv 4) (pv 1)) (pg_sub (pv 2) (pv 3) set_list))
      (pss_one (ps_ret (pe_op op_mod (pv 4) (pv 1)))))
      pss_nil)
      (pss_cons (ps_set (i := 5) sc__law_draw.nd rfl (by first | exact Or.inl rfl | exact Or.inr rfl) (pe_op op_mod (pe_op op_add (pv 4) (pe_op op_mul pe_int (pe_ix (r := rIxL K) ix_list (pv 0) pe_int (fun _ _ => rfl)))) pe_int))
      (pss_cons (ps_set (i := 5) sc__law_draw.nd rfl (by first | exact Or.inl rfl | exact Or.inr rfl) (pe_op op_mod (pe_op op_pow (pv 5) pe_int) pe_int))
      (pss_one (ps_ret (pe_op op_mod (pe_op op_fdiv (pe_op op_mod (pe_op op_add (pe_op op_mul (pe_op op_fdiv (pv 5) pe_int) pe_int) (pv 5)) pe_int) pe_int) (pv 1))))))))))), ?_⟩
    have hl0 : 0 < ns.length := List.length_pos_iff.mpr hne
    refine ⟨.ref p, rfl, p, [.ref q, .int k], 0, .ref q, rfl, rfl, SqL.of hp, rfl, ?_⟩
    refine ⟨.ref p, rfl, p, [.ref q, .int k], 1, .int k, rfl, rfl, SqL.of hp, rfl, k, 1, rfl, rfl, ?_⟩
    refine ⟨.ref p, rfl, p, [.ref q, .int k], 1, 1, rfl, rfl, hp, rfl, ?_⟩
    have hq1 : upd H p (.lst [.ref q, .int (k + 1)]) q = some (.lst (ns.map V.int)) := by rw [upd_ne (Ne.symm hpq)]; exact hq
    have g1 : Grow [p, q] G H G (upd H p (.lst [.ref q, .int (k + 1)])) := Grow.put he gp (by simp)
    refine ⟨.ref p, rfl, p, [.ref q, .int (k + 1)], 1, .int (k + 1), rfl, rfl, SqL.of upd_same, rfl, .ref q, rfl, q, ns.map V.int, rfl, .inl (SqL.of hq1), k + 1, (ns.map V.int).length, rfl, rfl, by rw [List.length_map]; omega, ?_⟩
    have hm0 : 0 ≤ (k + 1) % ((ns.map V.int).length : Int) := Int.emod_nonneg _ (by rw [List.length_map]; omega)
    have hm1 : (k + 1) % ((ns.map V.int).length : Int) < ((ns.map V.int).length : Int) := Int.emod_lt_of_pos _ (by rw [List.length_map]; omega)
    generalize hat : (k + 1) % ((ns.map V.int).length : Int) = at0 at hm0 hm1
    obtain ⟨j, rfl⟩ := Int.eq_ofNat_of_zero_le hm0
    have hj : j < ns.length := by rw [List.length_map] at hm1; omega
    have hget : (ns.map V.int)[j]? = some (.int ns[j]) := by rw [List.getElem?_map, List.getElem?_eq_getElem hj]; rfl
    refine ⟨.ref q, rfl, .int (j : Nat), congrArg (fun z : Int => some (some (V.int z))) hat, q, ns.map V.int, (j : Nat), .int ns[j], rfl, rfl, SqL.of hq1, atI_nat hget, ?_⟩
    generalize ns[j] = cell at hget
    refine ⟨.int cell, rfl, cell, 1000000000000000000, rfl, rfl, _, rfl, ?_⟩
    refine ite2 (fun hc => ?_) (fun hc => ?_)
    · refine ⟨.int cell, rfl, .int n, rfl, cell, n, rfl, rfl, ⟨hn1, hn2⟩, ?_⟩
      refine ⟨.ref q, rfl, .int (j : Nat), congrArg (fun z : Int => some (some (V.int z))) hat, q, ns.map V.int, (j : Nat), j, rfl, rfl, hq1, ?_, ?_⟩
      · unfold ixN
        rw [if_pos (by omega), if_pos (by rw [List.length_map]; omega)]; simp
      · refine ⟨.int cell, rfl, .int n, rfl, cell, n, rfl, rfl, hn1, ?_⟩
        refine kk _ (.int (cell % n)) G _ ⟨n, cell % n, rfl, rfl, Int.emod_nonneg _ (by omega), Int.emod_lt_of_pos _ hn1⟩ (g1.trans (Grow.put g1.gh gq (by simp))) ⟨rfl, hpq, ns.set j (cell / n), k + 1, by rw [upd_ne hpq]; exact upd_same, ?_, ?_, by rw [List.length_set]; exact hlen⟩ (.int _)
        · rw [upd_same, List.map_set]
        · intro z
          have := congrArg List.length z
          rw [List.length_set] at this
          exact hne (List.length_eq_zero_iff.mp this)
    · refine ⟨.int cell, rfl, .ref p, rfl, p, [.ref q, .int (k + 1)], 1, .int (k + 1), rfl, rfl, SqL.of upd_same, rfl, 104729, k + 1, rfl, rfl, .inl (by decide), cell, _, rfl, rfl, _, 4294967291, rfl, rfl, (by show (0 : Int) < 4294967291; decide), ?_⟩
      have b1 := Int.emod_nonneg (cell + 104729 * (k + 1)) (show (4294967291 : Int) ≠ 0 by decide)
      have b2 := Int.emod_lt_of_pos (cell + 104729 * (k + 1)) (show (0 : Int) < 4294967291 by decide)
      generalize hm : (cell + 104729 * (k + 1)) % 4294967291 = m1 at b1 b2
      refine ⟨.int m1, congrArg (fun z : Int => some (some (V.int z))) hm, m1, 5, rfl, rfl, ⟨(by show (0 : Int) ≤ 5; decide), (by show (5 : Int) ≤ 1000000; decide), by omega⟩, _, 4294967279, rfl, rfl, (by show (0 : Int) < 4294967279; decide), ?_⟩
      generalize hm2 : (m1 ^ (5 : Int).toNat) % 4294967279 = m2
      refine ⟨.int m2, congrArg (fun z : Int => some (some (V.int z))) hm2, m2, 64, rfl, rfl, ⟨(by show (0 : Int) < 64; decide), (by show (64 : Int) < 1073741824; decide)⟩, _, 69621, rfl, rfl, .inr (by decide), .int m2, congrArg (fun z : Int => some (some (V.int z))) hm2, _, _, rfl, rfl, _, 4294967231, rfl, rfl, (by show (0 : Int) < 4294967231; decide), _, 8, rfl, rfl, ⟨(by show (0 : Int) < 8; decide), (by show (8 : Int) < 1073741824; decide)⟩, .int n, rfl, _, n, rfl, rfl, hn1, ?_⟩
      exact kk _ (.int _) G _ ⟨n, _, rfl, rfl, Int.emod_nonneg _ (by omega), Int.emod_lt_of_pos _ hn1⟩ g1 ⟨rfl, hpq, ns, k + 1, upd_same, hq1, hne, hlen⟩ (.int _)
end

section
variable {P : Program} {w : World} {K : FK} {mg : Str → Option Value} {base : Heap}
theorem sc__law_pick : FnScope ["draws", "choices"] ["draws", "choices"] (defScope (tS 32)) := ⟨rfl, rfl, rfl, by decide +kernel, rfl, by decide +kernel, by decide +kernel⟩
theorem ok__law_pick (T : Tx K mg) : FnOk P w K mg base CX0 2 T.f__law_pick T.d__law_pick ["draws", "choices"] (spW K prePick fPick) := by
  refine def_okW T.F__law_pick sc__law_pick (fun ds h => ?_) (fun cdv A outer s H E B p q ds hr h => ?_)
  · obtain ⟨cs, rfl, hc1, hc2⟩ := h; rfl
  · obtain ⟨cs, rfl, hc1, hc2⟩ := h
    refine ⟨_, (pss_one (ps_ret (pe_ix (r := rIxL K) ix_list (pv 1) (pe_call (ok__law_draw T) (hr.mono (by decide)) (by rfl) T.g__law_draw T.F__law_draw.kp (b__law_draw T) .nil pass0 (pa_cons (pv 0) (pa_cons (pe_callB (r := rLenS K) call_len_seq (by rfl) T.m_len PySem.boot_len (pa_cons (pv 1) pa_nil)) pa_nil))) (fun _ _ => rfl)))), fun Q k => ?_⟩
    refine nx_ret (P := fun d => d ∈ cs) (ev_opP (ev_var (i := 1) rfl) (dr_drawD (i := 0) rfl (ev_lenL (ev_var (i := 1) rfl)) (by omega) (by omega)) (fun x y e1 ⟨j, e2, h1, h2⟩ => ?_)) (fun v d σ H' hd s => k v d _ _ _ _ ⟨cs, rfl, hd⟩ s)
    subst e1 e2
    obtain ⟨m, rfl⟩ := Int.eq_ofNat_of_zero_le h1
    have hm : m < cs.length := by omega
    exact ⟨cs[m], List.getElem_mem hm, rd_ixL (atI_nat (List.getElem?_eq_getElem hm))⟩
theorem sc__law_error : FnScope ["caught", "kinds"] ["caught"] (defScope (tS 33)) := ⟨rfl, rfl, rfl, by decide +kernel, rfl, by decide +kernel, by decide +kernel⟩
theorem ok__law_error (T : Tx K mg) : FnOk P w K mg base CX0 1 T.f__law_error T.d__law_error ["caught"] (spE K) := by
  refine def_okE T.F__law_error sc__law_error rfl (fun cdv A outer s H E B a c hr hc => ?_)
  refine ⟨_, (pss_cons (ps_set (i := 1) sc__law_error.nd rfl (by first | exact Or.inl rfl | exact Or.inr rfl) (pe_lst (pa_cons (pe_callB (r := rIsX K) call_isX (by rfl) T.m_isinstance boot_isinstance (pa_cons (pv 0) (pa_cons (pe_glob (v := .ref _) rfl T.g_BadWay rfl) pa_nil))) (pa_cons (pe_callB (r := rIsX K) call_isX (by rfl) T.m_isinstance boot_isinstance (pa_cons (pv 0) (pa_cons (pe_glob (v := .ref _) rfl T.g_BadRow rfl) pa_nil))) (pa_cons (pe_callB (r := rIsX K) call_isX (by rfl) T.m_isinstance boot_isinstance (pa_cons (pv 0) (pa_cons (pe_glob (v := .ref _) rfl T.g_BadWritten rfl) pa_nil))) pa_nil)))))
      (pss_cons (ps_set (i := 1) sc__law_error.nd rfl (by first | exact Or.inl rfl | exact Or.inr rfl) (pe_op op_cat (pv 1) (pe_lst (pa_cons (pe_callB (r := rIsX K) call_isX (by rfl) T.m_isinstance boot_isinstance (pa_cons (pv 0) (pa_cons (pe_glob (v := .ref _) rfl T.g_BadNumber rfl) pa_nil))) (pa_cons (pe_callB (r := rIsX K) call_isX (by rfl) T.m_isinstance boot_isinstance (pa_cons (pv 0) (pa_cons (pe_glob (v := .ref _) rfl T.g_BadText rfl) pa_nil))) (pa_cons (pe_callB (r := rIsX K) call_isX (by rfl) T.m_isinstance boot_isinstance (pa_cons (pv 0) (pa_cons (pe_glob (v := .ref _) rfl T.g_NotFound rfl) pa_nil))) pa_nil))))))
      (pss_cons (ps_if (PW.pt (pw_or (pt_cmpR op_ne (pe_bm (r := rCountL K) PySem.F.plainAttrs_list PySem.F.slot_list_count PySem.F.type_list_count mt_lcount (pv 1) (pa_cons pe_bl pa_nil)) pe_int (nomark _)) (pw_or (pt_not (pt_val (pe_callB (r := rIsX K) call_isX (by rfl) T.m_isinstance boot_isinstance (pa_cons (pv 0) (pa_cons (pe_glob (v := .ref _) rfl T.g_RestError rfl) pa_nil))))) (pw_or1 (pt_not (pt_val (pe_callB (r := rIsX K) call_isX (by rfl) T.m_isinstance boot_isinstance (pa_cons (pv 0) (pa_cons (pe_bltn (v := .ty "ValueError") rfl T.m_ValueError (by decide +kernel) rfl) pa_nil)))))))))
      (pss_one (ps_ret pe_str))
      pss_nil)
      (pss_one (ps_ret (pe_ix (r := rIxL K) ix_list (pe_lst (pa_cons pe_str (pa_cons pe_str (pa_cons pe_str (pa_cons pe_str (pa_cons pe_str (pa_cons pe_str pa_nil))))))) (pe_bm (r := rIndex K) PySem.F.plainAttrs_list PySem.F.slot_list_index PySem.F.type_list_index mt_index (pv 1) (pa_cons pe_bl pa_nil)) (fun _ _ => rfl))))))), fun Q k => ?_⟩
  have C := kits_ok T.ks hc
  have hcs := hc
  simp only [nsE, List.mem_cons, List.not_mem_nil, or_false] at hcs
  refine nx_seq (nx_asg (EvN.dat (en_lst (ea_cons (ev_isX (i := 0) rfl C.xc (fun _ => relv_ref) (C.kit "BadWay" (by decide))) (ea_cons (ev_isX (i := 0) rfl C.xc (fun _ => relv_ref) (C.kit "BadRow" (by decide))) (ea_cons (ev_isX (i := 0) rfl C.xc (fun _ => relv_ref) (C.kit "BadWritten" (by decide))) ea_nil))))) ?_)
  refine nx_seq (nx_asg (EvN.dat (en_cat (ev_var (i := 1) rfl) (EvN.dat (en_lst (ea_cons (ev_isX (i := 0) rfl C.xc (fun _ => relv_ref) (C.kit "BadNumber" (by decide))) (ea_cons (ev_isX (i := 0) rfl C.xc (fun _ => relv_ref) (C.kit "BadText" (by decide))) (ea_cons (ev_isX (i := 0) rfl C.xc (fun _ => relv_ref) (C.kit "NotFound" (by decide))) ea_nil))))) (by simp))) ?_)
  rcases hcs with rfl | rfl | rfl | rfl | rfl | rfl
  all_goals
    refine nx_seq (nx_if (b := false) ((et_or (et_test (ev_neI (ev_count (ev_var (i := 1) rfl) ev_bl rfl rfl) ev_int)) (fun _ => et_or (et_not (et_B (ev_isX (i := 0) rfl C.xc (fun _ => relv_ref) C.re))) (fun _ => et_not (et_B (ev_isX (i := 0) rfl C.xc (fun _ => relv_ty) C.ve))))).to ?_) (fun h => nomatch h) (fun _ => nx_next ?_))
    · decide +kernel
  · exact nx_ret (P := fun d => d = .str _) (ev_ixL (EvN.dat (en_lst (ea_cons ev_str (ea_cons ev_str (ea_cons ev_str (ea_cons ev_str (ea_cons ev_str (ea_cons ev_str ea_nil)))))))) (ev_index (j := 0) (w := .bool true) (ev_var (i := 1) rfl) ev_bl rfl rfl rfl (by decide +kernel) (fun m u hm hu => by exact absurd hm (Nat.not_lt_zero _))) rfl) (fun v d σ H' e s => by subst e; exact k v _ _ _ _ s)
  · exact nx_ret (P := fun d => d = .str _) (ev_ixL (EvN.dat (en_lst (ea_cons ev_str (ea_cons ev_str (ea_cons ev_str (ea_cons ev_str (ea_cons ev_str (ea_cons ev_str ea_nil)))))))) (ev_index (j := 1) (w := .bool true) (ev_var (i := 1) rfl) ev_bl rfl rfl rfl (by decide +kernel) (fun m u hm hu => by (have hq : m = 0 := by omega); rcases hq with rfl <;> (cases hu; decide +kernel))) rfl) (fun v d σ H' e s => by subst e; exact k v _ _ _ _ s)
  · exact nx_ret (P := fun d => d = .str _) (ev_ixL (EvN.dat (en_lst (ea_cons ev_str (ea_cons ev_str (ea_cons ev_str (ea_cons ev_str (ea_cons ev_str (ea_cons ev_str ea_nil)))))))) (ev_index (j := 2) (w := .bool true) (ev_var (i := 1) rfl) ev_bl rfl rfl rfl (by decide +kernel) (fun m u hm hu => by (have hq : m = 0 ∨ m = 1 := by omega); rcases hq with rfl | rfl <;> (cases hu; decide +kernel))) rfl) (fun v d σ H' e s => by subst e; exact k v _ _ _ _ s)
  · exact nx_ret (P := fun d => d = .str _) (ev_ixL (EvN.dat (en_lst (ea_cons ev_str (ea_cons ev_str (ea_cons ev_str (ea_cons ev_str (ea_cons ev_str (ea_cons ev_str ea_nil)))))))) (ev_index (j := 3) (w := .bool true) (ev_var (i := 1) rfl) ev_bl rfl rfl rfl (by decide +kernel) (fun m u hm hu => by (have hq : m = 0 ∨ m = 1 ∨ m = 2 := by omega); rcases hq with rfl | rfl | rfl <;> (cases hu; decide +kernel))) rfl) (fun v d σ H' e s => by subst e; exact k v _ _ _ _ s)
  · exact nx_ret (P := fun d => d = .str _) (ev_ixL (EvN.dat (en_lst (ea_cons ev_str (ea_cons ev_str (ea_cons ev_str (ea_cons ev_str (ea_cons ev_str (ea_cons ev_str ea_nil)))))))) (ev_index (j := 4) (w := .bool true) (ev_var (i := 1) rfl) ev_bl rfl rfl rfl (by decide +kernel) (fun m u hm hu => by (have hq : m = 0 ∨ m = 1 ∨ m = 2 ∨ m = 3 := by omega); rcases hq with rfl | rfl | rfl | rfl <;> (cases hu; decide +kernel))) rfl) (fun v d σ H' e s => by subst e; exact k v _ _ _ _ s)
  · exact nx_ret (P := fun d => d = .str _) (ev_ixL (EvN.dat (en_lst (ea_cons ev_str (ea_cons ev_str (ea_cons ev_str (ea_cons ev_str (ea_cons ev_str (ea_cons ev_str ea_nil)))))))) (ev_index (j := 5) (w := .bool true) (ev_var (i := 1) rfl) ev_bl rfl rfl rfl (by decide +kernel) (fun m u hm hu => by (have hq : m = 0 ∨ m = 1 ∨ m = 2 ∨ m = 3 ∨ m = 4 := by omega); rcases hq with rfl | rfl | rfl | rfl | rfl <;> (cases hu; decide +kernel))) rfl) (fun v d σ H' e s => by subst e; exact k v _ _ _ _ s)
theorem sc__law_steps : FnScope [] [] (defScope (tS 34)) := ⟨rfl, rfl, rfl, by decide +kernel, rfl, by decide +kernel, by decide +kernel⟩
theorem ok__law_steps (T : Tx K mg) : FnOk P w K mg base CX0 1 T.f__law_steps T.d__law_steps [] (spD K fSteps) := by
  refine def_ok T.F__law_steps sc__law_steps (fun ds r h => ?_) (fun cdv A outer s H G E ds r hr h => ?_)
  · obtain ⟨rfl, rfl⟩ := h; rfl
  · obtain ⟨rfl, rfl⟩ := h
    refine ⟨_, (pss_one (ps_ret (pe_lst (pa_cons (pe_tup (pa_cons pe_int (pa_cons pe_int pa_nil))) (pa_cons (pe_tup (pa_cons pe_int (pa_cons pe_int pa_nil))) (pa_cons (pe_tup (pa_cons pe_int (pa_cons pe_int pa_nil))) (pa_cons (pe_tup (pa_cons pe_int (pa_cons pe_int pa_nil))) (pa_cons (pe_tup (pa_cons pe_int (pa_cons pe_int pa_nil))) (pa_cons (pe_tup (pa_cons pe_int (pa_cons pe_int pa_nil))) (pa_cons (pe_tup (pa_cons pe_int (pa_cons pe_int pa_nil))) pa_nil)))))))))), fun Q k => ?_⟩
    refine nx_retD (EvN.dat (en_lst (ea_cons (ev_tup (ea_cons ev_int (ea_cons ev_int ea_nil))) (ea_cons (ev_tup (ea_cons ev_int (ea_cons ev_int ea_nil))) (ea_cons (ev_tup (ea_cons ev_int (ea_cons ev_int ea_nil))) (ea_cons (ev_tup (ea_cons ev_int (ea_cons ev_int ea_nil))) (ea_cons (ev_tup (ea_cons ev_int (ea_cons ev_int ea_nil))) (ea_cons (ev_tup (ea_cons ev_int (ea_cons ev_int ea_nil))) (ea_cons (ev_tup (ea_cons ev_int (ea_cons ev_int ea_nil))) ea_nil))))))))) (k.to ?_)
    rfl
theorem sc__law_modes : FnScope [] [] (defScope (tS 35)) := ⟨rfl, rfl, rfl, by decide +kernel, rfl, by decide +kernel, by decide +kernel⟩
theorem ok__law_modes (T : Tx K mg) : FnOk P w K mg base CX0 1 T.f__law_modes T.d__law_modes [] (spD K fModes) := by
  refine def_ok T.F__law_modes sc__law_modes (fun ds r h => ?_) (fun cdv A outer s H G E ds r hr h => ?_)
  · obtain ⟨rfl, rfl⟩ := h; rfl
  · obtain ⟨rfl, rfl⟩ := h
    refine ⟨_, (pss_one (ps_ret (pe_lst (pa_cons pe_str (pa_cons pe_str (pa_cons pe_str (pa_cons pe_str (pa_cons pe_str (pa_cons pe_str (pa_cons pe_str (pa_cons pe_str (pa_cons pe_str (pa_cons pe_str pa_nil))))))))))))), fun Q k => ?_⟩
    refine nx_retD (EvN.dat (en_lst (ea_cons ev_str (ea_cons ev_str (ea_cons ev_str (ea_cons ev_str (ea_cons ev_str (ea_cons ev_str (ea_cons ev_str (ea_cons ev_str (ea_cons ev_str (ea_cons ev_str ea_nil)))))))))))) (k.to ?_)
    rfl
theorem sc__law_way : FnScope ["draws", "carry"] ["draws"] (defScope (tS 36)) := ⟨rfl, rfl, rfl, by decide +kernel, rfl, by decide +kernel, by decide +kernel⟩
theorem ok__law_way (T : Tx K mg) : FnOk P w K mg base CX0 3 T.f__law_way T.d__law_way ["draws"] (spW K preNo fWay) := by
  refine def_okW T.F__law_way sc__law_way (fun ds h => ?_) (fun cdv A outer s H E B p q ds hr h => ?_)
  · obtain rfl := h; rfl
  · obtain rfl := h
    refine ⟨_, (pss_cons (ps_set (i := 1) sc__law_way.nd rfl (by first | exact Or.inl rfl | exact Or.inr rfl) (pe_call (ok__law_pick T) (hr.mono (by decide)) (by rfl) T.g__law_pick T.F__law_pick.kp (b__law_pick T) .nil pass0 (pa_cons (pv 0) (pa_cons (pe_lst (pa_cons pe_str (pa_cons pe_str (pa_cons pe_str (pa_cons pe_str (pa_cons pe_str (pa_cons pe_str (pa_cons pe_str pa_nil)))))))) pa_nil))))
      (pss_one (ps_ret (pe_op (r := rCatT K) op_catT (pe_call (ok__law_pick T) (hr.mono (by decide)) (by rfl) T.g__law_pick T.F__law_pick.kp (b__law_pick T) .nil pass0 (pa_cons (pv 0) (pa_cons (pe_call0 (ok__law_steps T) (hr.mono (by decide)) (by rfl) T.g__law_steps T.F__law_steps.kp (b__law_steps T) .nil pass0) pa_nil))) (pe_tup (pa_cons (pe_call (ok__law_pick T) (hr.mono (by decide)) (by rfl) T.g__law_pick T.F__law_pick.kp (b__law_pick T) .nil pass0 (pa_cons (pv 0) (pa_cons (pe_call0 (ok__law_modes T) (hr.mono (by decide)) (by rfl) T.g__law_modes T.F__law_modes.kp (b__law_modes T) .nil pass0) pa_nil))) (pa_cons (pv 1) pa_nil))))))), fun Q k => ?_⟩
    refine nx_seq (nx_asgP (dr_pick (i := 0) rfl (EvN.dat (en_lst (ea_cons ev_str (ea_cons ev_str (ea_cons ev_str (ea_cons ev_str (ea_cons ev_str (ea_cons ev_str (ea_cons ev_str ea_nil)))))))))) (fun d hd => ?_))
    obtain ⟨c, rfl⟩ := carries_mem hd
    refine nx_ret (P := fun d => ∃ w : Way, d = w.dd) (ev_opP (dr_pick (i := 0) (cs := stepsD) rfl (ev_call ea_nil (mk__law_steps ))) (ev_tupP (P := fun d => ∃ m : Md, d = .tuple [.str m.str, .str c.str]) (ea_consP (Ps := fun ds => ∃ m : Md, ds = [.str m.str, .str c.str]) (dr_pick (i := 0) (cs := modesD) rfl (ev_call ea_nil (mk__law_modes ))) (ea_cons (ev_var (i := 1) rfl) ea_nil) (fun d ds h1 h2 => ?_)) (fun ds ⟨m, e⟩ => ⟨by rw [e]; show 2 ≤ 16000000; decide, m, by rw [e]⟩)) (fun x y h1 ⟨m, e2⟩ => ?_)) (fun v d σ H' ⟨w, hw⟩ s => k v d _ _ _ _ ⟨rfl, w, hw⟩ s)
    · obtain ⟨m, rfl⟩ := modes_mem h1
      exact ⟨m, by rw [h2]⟩
    · obtain ⟨pr, rfl⟩ := steps_mem h1
      subst e2
      exact ⟨_, ⟨⟨pr, m, c⟩, rfl⟩, rd_catT (by simp) (by show 4 ≤ 16000000; decide)⟩
theorem sc__law_row : FnScope ["draws", "longest", "found", "most"] ["draws", "longest"] (defScope (tS 37)) := ⟨rfl, rfl, rfl, by decide +kernel, rfl, by decide +kernel, by decide +kernel⟩
theorem ok__law_row (T : Tx K mg) : FnOk P w K mg base CX0 3 T.f__law_row T.d__law_row ["draws", "longest"] (spW K preRow fRow) := by
  refine def_okW T.F__law_row sc__law_row (fun ds h => ?_) (fun cdv A outer s H E B p q ds hr h => ?_)
  · obtain ⟨n, rfl, hn0, hn1⟩ := h; rfl
  · obtain ⟨n, rfl, hn0, hn1⟩ := h
    refine ⟨_, (pss_cons (ps_set (i := 2) sc__law_row.nd rfl (by first | exact Or.inl rfl | exact Or.inr rfl) (pe_lst pa_nil))
      (pss_cons (ps_set (i := 3) sc__law_row.nd rfl (by first | exact Or.inl rfl | exact Or.inr rfl) (pe_call (ok__law_draw T) (hr.mono (by decide)) (by rfl) T.g__law_draw T.F__law_draw.kp (b__law_draw T) .nil pass0 (pa_cons (pv 0) (pa_cons (pe_op op_add (pv 1) pe_int) pa_nil))))
      (pss_cons (ps_while PassesOwn.never (pt_cmpR op_lt (pe_callB (r := rLenS K) call_len_seq (by rfl) T.m_len PySem.boot_len (pa_cons (pv 2) pa_nil)) (pv 3) (nomark _))
      (pss_one (ps_set (i := 2) sc__law_row.nd rfl (by first | exact Or.inl rfl | exact Or.inr rfl) (pe_op op_cat (pv 2) (pe_op op_rep (pe_lst (pa_cons (pe_op op_sub (pe_call (ok__law_draw T) (hr.mono (by decide)) (by rfl) T.g__law_draw T.F__law_draw.kp (b__law_draw T) .nil pass0 (pa_cons (pv 0) (pa_cons pe_int pa_nil))) pe_int) pa_nil)) (pe_call (ok__law_pick T) (hr.mono (by decide)) (by rfl) T.g__law_pick T.F__law_pick.kp (b__law_pick T) .nil pass0 (pa_cons (pv 0) (pa_cons (pe_lst (pa_cons pe_int (pa_cons pe_int (pa_cons pe_int (pa_cons pe_int pa_nil))))) pa_nil))))))))
      (pss_one (ps_ret (pe_slice (r := rSlL K) sl_list (pv 2) po_none (po_some (pv 3)))))))), fun Q k => ?_⟩
    refine nx_seq (nx_asg (EvN.dat (en_lst ea_nil)) ?_)
    refine nx_seq (nx_asgP (dr_drawD (i := 0) rfl (ev_add (ev_var (i := 1) rfl) ev_int) (by omega) (by omega)) (fun d ⟨m, e, hm0, hm1⟩ => ?_))
    subst e
    refine nx_seq (nx_while (fun k Γ1 => ∃ xs : List Int, Γ1 = [.own (drwR p q), .dat (.int n), .dat (rdd xs), .dat (.int m)] ∧ (∀ x ∈ xs, -4 ≤ x ∧ x ≤ 4) ∧ xs.length ≤ 104 ∧ k = 104 - xs.length) 104 ⟨[], rfl, (by intro x hx; cases hx), by decide, rfl⟩ (fun c Γ1 ⟨xs, e, hx, hl, hc⟩ => ?_))
    subst e
    refine ⟨_, (et_test (ev_lt (ev_lenL (ev_var (i := 2) rfl)) (ev_var (i := 3) rfl))), fun hb => ?_, fun hb => ?_⟩
    · have hlt : ((xs.map PyData.int).length : Int) < m := of_decide_eq_true hb
      rw [List.length_map] at hlt
      refine nx_asgN (Ps := fun ds => ∃ ys : List Int, ds = ys.map .int ∧ (∀ x ∈ ys, -4 ≤ x ∧ x ≤ 4) ∧ xs.length < ys.length ∧ ys.length ≤ xs.length + 4) ?_ (fun pp ds ⟨ys, e, hy, h1, h2⟩ hpl => ?_)
      · refine en_opP (ev_var (i := 2) rfl) (EvN.ev (P := fun d => ∃ (v : Int) (k : Nat), d = rdd (List.replicate k v) ∧ -4 ≤ v ∧ v ≤ 4 ∧ 0 < k ∧ k ≤ 4) (en_opP (Ps := fun ds => ∃ (v : Int) (k : Nat), ds = (List.replicate k v).map .int ∧ -4 ≤ v ∧ v ≤ 4 ∧ 0 < k ∧ k ≤ 4) (EvN.ev (P := fun d => ∃ v : Int, d = .list [.int v] ∧ -4 ≤ v ∧ v ≤ 4) (en_lstP (Ps := fun ds => ∃ v : Int, ds = [.int v] ∧ -4 ≤ v ∧ v ≤ 4) (ea_consP (ev_subP (dr_drawD (i := 0) rfl ev_int (by decide) (by decide)) ev_int (fun d ⟨k, e, _⟩ => ⟨k, e⟩)) ea_nil (fun d ds ⟨j, ⟨j', e, h1, h2⟩, e2⟩ e3 => ?_)) (fun ds ⟨v, e, _⟩ => by rw [e]; show 1 ≤ 16000000; decide)) (fun ds ⟨v, e, hv⟩ => ⟨v, by rw [e], hv⟩)) (dr_pick (i := 0) rfl (EvN.dat (en_lst (ea_cons ev_int (ea_cons ev_int (ea_cons ev_int (ea_cons ev_int ea_nil))))))) (fun x y ⟨v, e, h1, h2⟩ hy => ?_)) (fun ds ⟨v, k, e, hv⟩ => ⟨v, k, by rw [e]; rfl, hv⟩)) (fun x y e ⟨v, k, e2, h1, h2, h3, h4⟩ => ?_)
        · cases e
          subst e2 e3
          exact ⟨j - 4, rfl, by omega, by omega⟩
        · subst e
          obtain ⟨k, rfl, hk0, hk1⟩ : ∃ k : Nat, y = .int k ∧ 0 < k ∧ k ≤ 4 := by
            simp only [List.mem_cons, List.not_mem_nil, or_false] at hy
            rcases hy with rfl | rfl | rfl | rfl
            · exact ⟨1, rfl, by decide, by decide⟩
            · exact ⟨1, rfl, by decide, by decide⟩
            · exact ⟨2, rfl, by decide, by decide⟩
            · exact ⟨4, rfl, by decide, by decide⟩
          refine ⟨_, ⟨v, k, rfl, h1, h2, hk0, hk1⟩, ?_⟩
          have := rn_rep (K := K) (xs := [.int v]) (k := (k : Int)) (by omega) (by omega) (by simp; omega)
          rw [Int.toNat_natCast, rep_int] at this
          exact this
        · subst e e2
          refine ⟨_, ⟨xs ++ List.replicate k v, rfl, fun x hx' => ?_, by simp; omega, by simp; omega⟩, ?_⟩
          · rcases List.mem_append.mp hx' with z | z
            · exact hx x z
            · rw [(List.mem_replicate.mp z).2]; exact ⟨h1, h2⟩
          · rw [List.map_append]
            exact rn_cat (by simp; omega)
      · subst e
        refine nx_freeze 2 rfl hpl (nx_loopW (m' := 104 - ys.length) (W := fun k Γ1 => ∃ xs : List Int, Γ1 = [.own (drwR p q), .dat (.int n), .dat (rdd xs), .dat (.int m)] ∧ (∀ x ∈ xs, -4 ≤ x ∧ x ≤ 4) ∧ xs.length ≤ 104 ∧ k = 104 - xs.length) (by omega) ⟨ys, rfl, hy, by omega, rfl⟩)
    · refine nx_ret (P := fun d => ∃ row : List Int, d = rdd row ∧ (row.length : Int) ≤ n ∧ ∀ x ∈ row, -4 ≤ x ∧ x ≤ 4) (EvD.p (EvN.dat (en_slL (ev_var (i := 2) rfl) eo_none (eo_some (ev_var (i := 3) rfl)))) ⟨xs.take m.toNat, ?_, ?_, fun x hx' => hx x (List.mem_of_mem_take hx')⟩) (fun v d σ H' ⟨row, h1, h2, h3⟩ s => k v d _ _ _ _ ⟨n, row, rfl, h1, h2, h3⟩ s)
      · rw [cut_take hm0, ← List.map_take]; rfl
      · rw [List.length_take]; omega
theorem sc__law_parsed : FnScope ["kind", "text", "found", "caught", "e"] ["kind", "text"] (defScope (tS 38)) := ⟨rfl, rfl, rfl, by decide +kernel, rfl, by decide +kernel, by decide +kernel⟩
theorem ok__law_parsed (T : Tx K mg) : FnOk P w K mg base CX0 5 T.f__law_parsed T.d__law_parsed ["kind", "text"] (spD K f__law_parsed) := by
  refine def_ok T.F__law_parsed sc__law_parsed (fun ds r h => ?_) (fun cdv A outer s H G E ds r hr h => ?_)
  · obtain ⟨a_kind, a_text, rfl, _, _, rfl⟩ := h; rfl
  · obtain ⟨a_kind, a_text, rfl, x0, hm, rfl⟩ := h
    refine ⟨_, (pss_cons (ps_set (i := 2) sc__law_parsed.nd rfl (by first | exact Or.inl rfl | exact Or.inr rfl) pe_non)
      (pss_cons (ps_set (i := 3) sc__law_parsed.nd rfl (by first | exact Or.inl rfl | exact Or.inr rfl) pe_non)
      (pss_cons (ps_try_keep (i := 4) rfl rfl sc__law_parsed.nd rfl rfl ⟨by rfl, by decide, .inl T.g_RestError⟩ takes0 (fun W pn xe tk po => (pss_one (ps_set (i := 2) sc__law_parsed.nd rfl (by first | exact Or.inl rfl | exact Or.inr rfl) (pe_ifExp (pt_cmpR op_eq (pv 0) pe_int (nomark _)) (pe_callS (ok_parse_way T) (hr.mono (by decide)) (by rfl) T.g_parse_way T.F_parse_way.kp (b_parse_way T) (fun σ => passAt tk σ) (pa_cons (pv 1) pa_nil)) (pe_callS (ok_parse_row T) (hr.mono (by decide)) (by rfl) T.g_parse_row T.F_parse_row.kp (b_parse_row T) (fun σ => passAt tk σ) (pa_cons (pv 1) pa_nil)))))) (fun a pn => (pss_one (ps_set (i := 3) sc__law_parsed.nd rfl (by first | exact Or.inl rfl | exact Or.inr rfl) (pv 4)))))
      (pss_one (ps_ret (pe_ifExp (pt_cmpR op_isN (pv 3) pe_non (nomark _)) (pv 2) (pe_call (ok__law_error T) (hr.mono (by decide)) (by rfl) T.g__law_error T.F__law_error.kp (b__law_error T) .nil pass0 (pa_cons (pv 3) pa_nil)))))))), fun Q k => ?_⟩
    replace k : Wp (fun x => RetD K (bs0 G H) Q (eD x)) noR (m__law_parsed a_kind a_text) := by rw [hm]; exact k
    unfold m__law_parsed at k
    refine wp_op k (fun p0 hp0 k => ?_)
    try dsimp only at k
    obtain ⟨v_found_1, h2, k⟩ := wp_lt k
    refine nx_seq (nx_asgD ev_non (congrArg eN h2) ?_)
    obtain ⟨v_caught_3, h4, k⟩ := wp_lt k
    try dsimp only
    refine nx_seq (nx_asgD ev_non (congrArg eN h4) ?_)
    rcases Bool.eq_false_or_eq_true (decide (a_kind = (0 : Int))) with hb0 | hb0
    · replace k := wp_t k hb0
      obtain ⟨b5, h7, k⟩ | ⟨c6, h8, h7, k⟩ := wp_tc k
      · refine nx_seq (nx_tryK (i := 4) (j := 2) (k := 3) (P := fun x => x = .ok ((eU eD) b5)) (ex_if (et_test (ev_eqI (ev_var (i := 0) rfl) ev_int)) (fun hb => (ex_callS (ea_cons (ev_var (i := 1) rfl) ea_nil) (mx_parse_way h7))) (fun hb => by rw [hb0] at hb; cases hb)) (fun d hd => ?_) (fun x hx => by cases hx))
        cases hd
        try dsimp only
        exact nx_retD (ev_ifK1 (EvT.to (et_test (ev_isN (ev_var (i := 3) rfl))) rfl) (ev_var (i := 2) rfl)) (hp0 _ k)
      · refine nx_seq (nx_tryK (i := 4) (j := 2) (k := 3) (P := fun x => x = .er c6) (ex_if (et_test (ev_eqI (ev_var (i := 0) rfl) ev_int)) (fun hb => (ex_callS (ea_cons (ev_var (i := 1) rfl) ea_nil) (mxr_parse_way h7))) (fun hb => by rw [hb0] at hb; cases hb)) (fun d hd => by cases hd) (fun x hx => ?_))
        cases hx
        refine ⟨(kits_ok T.ks h8).exm, fun a_exc => ?_⟩
        try dsimp only
        exact nx_retD (ev_ifK0 (EvT.to (et_test (ev_isNO (i := 3) rfl)) rfl) (ev_err (i := 3) rfl h8)) (hp0 _ k)
    · replace k := wp_f k hb0
      obtain ⟨b9, h11, k⟩ | ⟨c10, h12, h11, k⟩ := wp_tc k
      · refine nx_seq (nx_tryK (i := 4) (j := 2) (k := 3) (P := fun x => x = .ok (rdd b9)) (ex_if (et_test (ev_eqI (ev_var (i := 0) rfl) ev_int)) (fun hb => by rw [hb0] at hb; cases hb) (fun hb => (ex_callS (ea_cons (ev_var (i := 1) rfl) ea_nil) (mx_parse_row h11)))) (fun d hd => ?_) (fun x hx => by cases hx))
        cases hd
        try dsimp only
        exact nx_retD (ev_ifK1 (EvT.to (et_test (ev_isN (ev_var (i := 3) rfl))) rfl) (ev_var (i := 2) rfl)) (hp0 _ k)
      · refine nx_seq (nx_tryK (i := 4) (j := 2) (k := 3) (P := fun x => x = .er c10) (ex_if (et_test (ev_eqI (ev_var (i := 0) rfl) ev_int)) (fun hb => by rw [hb0] at hb; cases hb) (fun hb => (ex_callS (ea_cons (ev_var (i := 1) rfl) ea_nil) (mxr_parse_row h11)))) (fun d hd => by cases hd) (fun x hx => ?_))
        cases hx
        refine ⟨(kits_ok T.ks h12).exm, fun a_exc => ?_⟩
        try dsimp only
        exact nx_retD (ev_ifK0 (EvT.to (et_test (ev_isNO (i := 3) rfl)) rfl) (ev_err (i := 3) rfl h12)) (hp0 _ k)
theorem sc__law_words : FnScope ["kind", "thing", "one"] ["kind", "thing"] (defScope (tS 39)) := ⟨rfl, rfl, rfl, by decide +kernel, rfl, by decide +kernel, by decide +kernel⟩
theorem ok__law_words (T : Tx K mg) : FnOk P w K mg base CX0 1 T.f__law_words T.d__law_words ["kind", "thing"] (spD K f__law_words) := by
  refine def_ok T.F__law_words sc__law_words (fun ds r h => ?_) (fun cdv A outer s H G E ds r hr h => ?_)
  · obtain ⟨a_kind, a_thing, rfl, _, _, rfl⟩ := h; rfl
  · obtain ⟨a_kind, a_thing, rfl, x0, hm, rfl⟩ := h
    refine ⟨_, (pss_one (ps_ret (pe_joinT (pe_ifExp (pt_cmpR op_eq (pv 0) pe_int (nomark _)) pe_str pe_str) (pe_lc (own := [("one", 2)]) rfl sc__law_words.nd (show PI _ _ _ (iSeq K _) from pi_seq (pv 1)) (blkOk_by (N := ["kind", "thing", "one"]) (sc := defScope (tS 39)) (own := [("one", 2)]) (by decide +kernel)) (fun _ _ _ _ _ => (pg_name (i := 2) sc__law_words.nd rfl (by first | exact Or.inl rfl | exact Or.inr rfl))) (fun _ _ _ _ _ => pts_nil) (fun _ _ _ _ _ => (pe_callTy (r := rStr) cr_str (by rfl) T.m_str (by decide +kernel) (pa_cons (pv 2) pa_nil))))))), fun Q k => ?_⟩
    replace k : Wp (fun x => RetD K (bs0 G H) Q (PyData.str x)) noR (m__law_words a_kind a_thing) := by rw [hm]; exact k
    unfold m__law_words at k
    refine wp_op k (fun p0 hp0 k => ?_)
    try dsimp only at k
    obtain ⟨b1, h2, k⟩ := wp_ob k
    obtain ⟨h6, k⟩ := wp_gd k
    obtain ⟨b7, h8, k⟩ := wp_ob k
    obtain ⟨h9, k⟩ := wp_gd k
    exact nx_retD (ev_join (ev_ifT (e := PyData.str) (x := (" " : Str)) (y := ("," : Str)) (et_test (ev_eqI (ev_var (i := 0) rfl) ev_int)) (fun hb => ev_str) (fun hb => ev_str)) (EvN.dat (en_mpO (e := eD) (e' := PyData.str) (us := [2]) (ei_seqD (ev_var (i := 1) rfl) h2) ⟨rfl, trivial⟩ h8 h6 (fun x3 y_ hx ho => by obtain ⟨b4, h5, ho⟩ := oo_some ho; exact ⟨_, _, tg_name, by decide, EvD.to (ev_strO (ev_var (i := 2) rfl) h5) (congrArg PyData.str (Option.some.inj ho))⟩))) h9) (hp0 _ k)
end

section
variable {P : Program} {w : World} {K : FK} {mg : Str → Option Value} {base : Heap}
theorem sc__law_rejected : FnScope ["odd", "lone", "bad"] [] (defScope (tS 40)) := ⟨rfl, rfl, rfl, by decide +kernel, rfl, by decide +kernel, by decide +kernel⟩
theorem ok__law_rejected (T : Tx K mg) : FnOk P w K mg base CX0 6 T.f__law_rejected T.d__law_rejected [] (spD K f__law_rejected) := by
  refine def_ok T.F__law_rejected sc__law_rejected (fun ds r h => ?_) (fun cdv A outer s H G E ds r hr h => ?_)
  · obtain ⟨rfl, _, _, rfl⟩ := h; rfl
  · obtain ⟨rfl, x0, hm, rfl⟩ := h
    refine ⟨_, (pss_cons (ps_set (i := 0) sc__law_rejected.nd rfl (by first | exact Or.inl rfl | exact Or.inr rfl) (pe_lst (pa_cons pe_non (pa_cons pe_int (pa_cons pe_str (pa_cons pe_str (pa_cons pe_str (pa_cons pe_str (pa_cons pe_str (pa_cons pe_str (pa_cons pe_str (pa_cons pe_str (pa_cons pe_str (pa_cons pe_str pa_nil))))))))))))))
      (pss_cons (ps_set (i := 0) sc__law_rejected.nd rfl (by first | exact Or.inl rfl | exact Or.inr rfl) (pe_op op_cat (pv 0) (pe_lst (pa_cons pe_str (pa_cons pe_str (pa_cons pe_str (pa_cons pe_str (pa_cons pe_str (pa_cons pe_str (pa_cons pe_str (pa_cons (pe_tup (pa_cons pe_int (pa_cons pe_int (pa_cons pe_str (pa_cons pe_str pa_nil))))) (pa_cons (pe_lst (pa_cons pe_str pa_nil)) pa_nil))))))))))))
      (pss_cons (ps_set (i := 0) sc__law_rejected.nd rfl (by first | exact Or.inl rfl | exact Or.inr rfl) (pe_op op_cat (pv 0) (pe_lst (pa_cons pe_str (pa_cons pe_str (pa_cons pe_str (pa_cons pe_str (pa_cons (pe_op (r := rMulS) op_mulS pe_str pe_int) pa_nil))))))))
      (pss_cons (ps_if (pt_cmpR (r := rNeD K) (op_neD hr.units) (pe_lc (own := [("bad", 2)]) rfl sc__law_rejected.nd (show PI _ _ _ (iList K _) from pi_list (pv 0)) (blkOk_by (N := ["odd", "lone", "bad"]) (sc := defScope (tS 40)) (own := [("bad", 2)]) (by decide +kernel)) (fun _ _ _ _ _ => (pg_name (i := 2) sc__law_rejected.nd rfl (by first | exact Or.inl rfl | exact Or.inr rfl))) (fun _ _ _ _ _ => pts_nil) (fun _ _ _ _ _ => (pe_call (ok__law_parsed T) (hr.mono (by decide)) (by rfl) T.g__law_parsed T.F__law_parsed.kp (b__law_parsed T) .nil pass0 (pa_cons pe_int (pa_cons (pv 2) pa_nil))))) (pe_op op_rep (pe_lst (pa_cons pe_str pa_nil)) pe_int) (nomark _))
      (pss_one (ps_ret pe_bl))
      pss_nil)
      (pss_cons (ps_set (i := 1) sc__law_rejected.nd rfl (by first | exact Or.inl rfl | exact Or.inr rfl) (pe_lst (pa_cons pe_non (pa_cons pe_int (pa_cons pe_str (pa_cons pe_str (pa_cons pe_str (pa_cons pe_str (pa_cons pe_str (pa_cons pe_str (pa_cons pe_str (pa_cons pe_str (pa_cons pe_str (pa_cons pe_str (pa_cons pe_str (pa_cons (pe_lst (pa_cons pe_str pa_nil)) (pa_cons pe_str (pa_cons pe_str (pa_cons pe_str (pa_cons pe_str (pa_cons (pe_joinT pe_str (pe_op op_rep (pe_lst (pa_cons pe_str pa_nil)) pe_int)) (pa_cons pe_str pa_nil))))))))))))))))))))))
      (pss_one (ps_ret (pe_and (pe_cmpR (r := rEqD K) (op_eqD hr.units) (pe_lc (own := [("bad", 2)]) rfl sc__law_rejected.nd (show PI _ _ _ (iList K _) from pi_list (pv 1)) (blkOk_by (N := ["odd", "lone", "bad"]) (sc := defScope (tS 40)) (own := [("bad", 2)]) (by decide +kernel)) (fun _ _ _ _ _ => (pg_name (i := 2) sc__law_rejected.nd rfl (by first | exact Or.inl rfl | exact Or.inr rfl))) (fun _ _ _ _ _ => pts_nil) (fun _ _ _ _ _ => (pe_call (ok__law_parsed T) (hr.mono (by decide)) (by rfl) T.g__law_parsed T.F__law_parsed.kp (b__law_parsed T) .nil pass0 (pa_cons pe_int (pa_cons (pv 2) pa_nil))))) (pe_op op_rep (pe_lst (pa_cons pe_str pa_nil)) pe_int) (nomark _)) (pe_and (pe_cmpR (r := rEqD K) (op_eqD hr.units) (pe_call (ok__law_parsed T) (hr.mono (by decide)) (by rfl) T.g__law_parsed T.F__law_parsed.kp (b__law_parsed T) .nil pass0 (pa_cons pe_int (pa_cons pe_str pa_nil))) (pe_lst pa_nil) (nomark _)) (pe_one (pe_cmpR (r := rEqD K) (op_eqD hr.units) (pe_call (ok__law_parsed T) (hr.mono (by decide)) (by rfl) T.g__law_parsed T.F__law_parsed.kp (b__law_parsed T) .nil pass0 (pa_cons pe_int (pa_cons (pe_joinT pe_str (pe_op op_rep (pe_lst (pa_cons pe_str pa_nil)) pe_int)) pa_nil))) (pe_op op_rep (pe_lst (pa_cons (pe_un un_neg pe_int) pa_nil)) pe_int) (nomark _)))))))))))), fun Q k => ?_⟩
    replace k : Wp (fun x => RetD K (bs0 G H) Q (PyData.bool x)) noR (m__law_rejected) := by rw [hm]; exact k
    unfold m__law_rejected at k
    refine wp_op k (fun p0 hp0 k => ?_)
    try dsimp only at k
    obtain ⟨v_odd_1, h2, k⟩ := wp_lt k
    refine nx_seq (nx_asgD (EvN.dat (en_lst (ea_cons ev_non (ea_cons ev_int (ea_cons ev_str (ea_cons ev_str (ea_cons ev_str (ea_cons ev_str (ea_cons ev_str (ea_cons ev_str (ea_cons ev_str (ea_cons ev_str (ea_cons ev_str (ea_cons ev_str ea_nil)))))))))))))) (congrArg (eL eD) h2) ?_)
    obtain ⟨h3, k⟩ := wp_gd k
    obtain ⟨v_odd_4, h5, k⟩ := wp_lt k
    try dsimp only
    refine nx_seq (nx_asgD (EvN.dat (et_cat (e := eD) (xs := v_odd_1) (ys := [(PyData.str ("4 1 near all" : Str)), (PyData.str ("1 4 nearup all" : Str)), (PyData.str ("4 1 all nearup" : Str)), (PyData.str ("4,1,nearup,all" : Str)), (PyData.str ("04 1 nearup all" : Str)), (PyData.str ("4 1 nearup all
" : Str)), (PyData.str ("4	1 nearup all" : Str)), (Wy.dd (⟨(4 : Int), (1 : Int), ("nearup" : Str), ("all" : Str)⟩ : Wy)), ((eL PyData.str) [("4 1 nearup all" : Str)])]) (ev_var (i := 0) rfl) (EvN.dat (en_lst (ea_cons ev_str (ea_cons ev_str (ea_cons ev_str (ea_cons ev_str (ea_cons ev_str (ea_cons ev_str (ea_cons ev_str (ea_cons (ev_tup (ea_cons ev_int (ea_cons ev_int (ea_cons ev_str (ea_cons ev_str ea_nil))))) (ea_cons (EvN.dat (en_lst (ea_cons ev_str ea_nil))) ea_nil))))))))))) h3)) (congrArg (eL eD) h5) ?_)
    obtain ⟨h6, k⟩ := wp_gd k
    obtain ⟨h7, k⟩ := wp_gd k
    obtain ⟨v_odd_8, h9, k⟩ := wp_lt k
    try dsimp only
    refine nx_seq (nx_asgD (EvN.dat (et_cat (e := eD) (xs := v_odd_4) (ys := [(PyData.str ("4 1 nearup all 0" : Str)), (PyData.str ("4 1 1 all" : Str)), (PyData.str ("6 4 in all" : Str)), (PyData.str ("3 3 in all" : Str)), (PyData.str (Txt.mul ("1" : Str) (4000 : Int)))]) (ev_var (i := 0) rfl) (EvN.dat (en_lst (ea_cons ev_str (ea_cons ev_str (ea_cons ev_str (ea_cons ev_str (ea_cons (ev_mulS ev_str ev_int h6) ea_nil))))))) h7)) (congrArg (eL eD) h9) ?_)
    obtain ⟨h13, k⟩ := wp_gd k
    obtain ⟨b14, h15, k⟩ := wp_ob k
    obtain ⟨h16, k⟩ := wp_gd k
    obtain ⟨h17, k⟩ := wp_gd k
    obtain ⟨h18, k⟩ := wp_gd k
    try dsimp only
    refine nx_seq (nx_if (et_test (ev_neD (x := ((eL eD) b14)) (y := ((eL PyData.str) (repL (26 : Int) [("text" : Str)]))) (EvN.dat (en_mpO (e := eD) (e' := eD) (us := [2]) (ei_list (ev_var (i := 0) rfl)) ⟨rfl, trivial⟩ h15 h13 (fun x10 y_ hx ho => by obtain ⟨b11, h12, ho⟩ := oo_some ho; replace h12 := M.o_some h12; exact ⟨_, _, tg_name, by decide, EvD.to (ev_call (ea_cons ev_int (ea_cons (ev_var (i := 2) rfl) ea_nil)) (mx__law_parsed h12)) (congrArg eD (Option.some.inj ho))⟩))) (EvN.dat (et_rep (EvN.dat (en_lst (ea_cons ev_str ea_nil))) ev_int h16)) h17 h18)) (fun c19 => ?_) (fun c19 => ?_))
    · replace k := wp_t k c19
      try dsimp only
      exact nx_retD ev_bl (hp0 _ k)
    · replace k := wp_f k c19
      refine nx_next ?_
      try dsimp only
      obtain ⟨h20, k⟩ := wp_gd k
      obtain ⟨h21, k⟩ := wp_gd k
      obtain ⟨v_lone_22, h23, k⟩ := wp_lt k
      try dsimp only
      refine nx_seq (nx_asgD (EvN.dat (en_lst (ea_cons ev_non (ea_cons ev_int (ea_cons ev_str (ea_cons ev_str (ea_cons ev_str (ea_cons ev_str (ea_cons ev_str (ea_cons ev_str (ea_cons ev_str (ea_cons ev_str (ea_cons ev_str (ea_cons ev_str (ea_cons ev_str (ea_cons (EvN.dat (en_lst (ea_cons ev_str ea_nil))) (ea_cons ev_str (ea_cons ev_str (ea_cons ev_str (ea_cons ev_str (ea_cons (ev_join ev_str (EvN.dat (et_rep (EvN.dat (en_lst (ea_cons ev_str ea_nil))) ev_int h20)) h21) (ea_cons ev_str ea_nil)))))))))))))))))))))) (congrArg (eL eD) h23) ?_)
      obtain ⟨h27, k⟩ := wp_gd k
      obtain ⟨b28, h29, k⟩ := wp_ob k
      obtain ⟨h30, k⟩ := wp_gd k
      obtain ⟨h31, k⟩ := wp_gd k
      obtain ⟨h32, k⟩ := wp_gd k
      obtain ⟨b46, h47, k⟩ := wp_ob k
      try dsimp only
      exact nx_retD (ev_andO (ev_eqD (x := ((eL eD) b28)) (y := ((eL PyData.str) (repL (20 : Int) [("text" : Str)]))) (EvN.dat (en_mpO (e := eD) (e' := eD) (us := [2]) (ei_list (ev_var (i := 1) rfl)) ⟨rfl, trivial⟩ h29 h27 (fun x24 y_ hx ho => by obtain ⟨b25, h26, ho⟩ := oo_some ho; replace h26 := M.o_some h26; exact ⟨_, _, tg_name, by decide, EvD.to (ev_call (ea_cons ev_int (ea_cons (ev_var (i := 2) rfl) ea_nil)) (mx__law_parsed h26)) (congrArg eD (Option.some.inj ho))⟩))) (EvN.dat (et_rep (EvN.dat (en_lst (ea_cons ev_str ea_nil))) ev_int h30)) h31 h32) h47 (fun hb hm => by obtain ⟨b33, h34, hm⟩ := oo_some hm; replace h34 := M.o_some h34; obtain ⟨h35, hm⟩ := og_some hm; obtain ⟨h36, hm⟩ := og_some hm; obtain ⟨b44, h45, hm⟩ := oo_some hm; exact EvD.to (ev_andO (ev_eqD (x := (eD b33)) (y := (eD (rdd ([] : List Int)))) (ev_call (ea_cons ev_int (ea_cons ev_str ea_nil)) (mx__law_parsed h34)) (EvN.dat (en_lst ea_nil)) h35 h36) h45 (fun hb hm => by obtain ⟨h37, hm⟩ := og_some hm; obtain ⟨h38, hm⟩ := og_some hm; obtain ⟨b39, h40, hm⟩ := oo_some hm; replace h40 := M.o_some h40; obtain ⟨h41, hm⟩ := og_some hm; obtain ⟨h42, hm⟩ := og_some hm; obtain ⟨h43, hm⟩ := og_some hm; exact EvD.to (ev_eqD (x := (eD b39)) (y := (rdd (repL (30 : Int) [(-(4 : Int))]))) (ev_call (ea_cons ev_int (ea_cons (ev_join ev_str (EvN.dat (et_rep (EvN.dat (en_lst (ea_cons ev_str ea_nil))) ev_int h37)) h38) ea_nil)) (mx__law_parsed h40)) (EvN.dat (et_rep (EvN.dat (en_lst (ea_cons (ev_neg ev_int) ea_nil))) ev_int h41)) h42 h43) (congrArg PyData.bool (Option.some.inj hm)))) (congrArg PyData.bool (Option.some.inj hm)))) (hp0 _ k)
end

def lawP : Prop :=
  (rowOk (12 : Int)) = true ∧
  (∀ w1 : Way, (True) →
  (∀ w3 : List Int, (((List.length w3 : Nat) : Int) ≤ (12 : Int) ∧ ∀ x ∈ w3, -4 ≤ x ∧ x ≤ 4) →
  (∃ b8, (atI [(Wy.dd w1.wy), (rdd w3)] (0 : Int)) = some b8 ∧
  (∃ b10, (m_format_way b8) = M.ok b10 ∧
  (∃ b14, (atI [(Wy.dd w1.wy), (rdd w3)] (1 : Int)) = some b14 ∧
  (∃ b16, (m_format_row b14) = M.ok b16 ∧
  (∃ v_texts_18, ([b10, b16]) = v_texts_18 ∧
  ((r1Ok (2 : Int)) = true ∧
  (forP (σ := Unit) (α := Int) (ρ := Bool) (fun s21 x23 q29 =>
  ∃ b38, (atI v_texts_18 x23) = some b38 ∧
  (∃ b42, (atI [(Wy.dd w1.wy), (rdd w3)] x23) = some b42 ∧
  (∃ b44, (m__law_words x23 b42) = M.ok b44 ∧
  (∃ b64, (sel (!decide (b38 = b44)) (some true) (oo (atI v_texts_18 x23) fun b56 => (oo (m__law_parsed x23 (PyData.str b56)).o fun b58 => (oo (atI [(Wy.dd w1.wy), (rdd w3)] x23) fun b60 => (og (SeqAt.shaped (eD b58)) (og (SeqAt.shaped (eD b60)) (some (!PyData.eqv (eD b58) (eD b60))))))))) = some b64 ∧
  (sel b64 (
  q29 (.rt false)) (
  q29 (.nx ()))))))) (intsF 0 ((2 : Int)).toNat) () (pQ (fun (s22 : Unit) =>
  ∃ v_marks_67, ([("0" : Str), ("1" : Str), ("2" : Str), ("3" : Str), ("4" : Str), ("6" : Str), ("-" : Str), ("," : Str), (" " : Str), ("in" : Str), ("all" : Str), ("x" : Str), ("" : Str), ("-4" : Str)]) = v_marks_67 ∧
  ((r1Ok (16 : Int)) = true ∧
  (forP (σ := Unit) (α := Int) (ρ := Bool) (fun s70 x72 q78 =>
  (drawOk (2 : Int)) = true ∧
  (∀ w79 : Int, (0 ≤ w79 ∧ w79 < (2 : Int)) →
  (∃ b82, (atI v_texts_18 w79) = some b82 ∧
  ((szLe (Str.length b82)) = true ∧
  ((drawOk (((Str.length b82 : Nat) : Int) + (1 : Int))) = true ∧
  (∀ w84 : Int, (0 ≤ w84 ∧ w84 < (((Str.length b82 : Nat) : Int) + (1 : Int))) →
  ((pickOk (List.length v_marks_67)) = true ∧
  (∀ w89 : Str, (w89 ∈ v_marks_67) →
  ((szLe (Str.length b82)) = true ∧
  ((szLe (Str.length (Txt.slice b82 none (some w84)) + Str.length w89)) = true ∧
  ((szLe (Str.length b82)) = true ∧
  ((szLe (Str.length ((Txt.slice b82 none (some w84)) ++ w89) + Str.length (Txt.slice b82 (some (w84 + (1 : Int))) none))) = true ∧
  ((szLe (Str.length b82)) = true ∧
  ((szLe (Str.length (Txt.slice b82 none (some w84)) + Str.length w89)) = true ∧
  ((szLe (Str.length b82)) = true ∧
  ((szLe (Str.length ((Txt.slice b82 none (some w84)) ++ w89) + Str.length (Txt.slice b82 (some w84) none))) = true ∧
  ((szLe (Str.length b82)) = true ∧
  ((szLe (Str.length (Txt.slice b82 none (some w84)) + Str.length ("," : Str))) = true ∧
  ((szLe (Str.length ((Txt.slice b82 none (some w84)) ++ ("," : Str)) + Str.length w89)) = true ∧
  ((szLe (Str.length b82)) = true ∧
  ((szLe (Str.length (((Txt.slice b82 none (some w84)) ++ ("," : Str)) ++ w89) + Str.length (Txt.slice b82 (some w84) none))) = true ∧
  ((pickOk (List.length [(((Txt.slice b82 none (some w84)) ++ w89) ++ (Txt.slice b82 (some (w84 + (1 : Int))) none)), (((Txt.slice b82 none (some w84)) ++ w89) ++ (Txt.slice b82 (some w84) none)), ((((Txt.slice b82 none (some w84)) ++ ("," : Str)) ++ w89) ++ (Txt.slice b82 (some w84) none))])) = true ∧
  (∀ w92 : Str, (w92 ∈ [(((Txt.slice b82 none (some w84)) ++ w89) ++ (Txt.slice b82 (some (w84 + (1 : Int))) none)), (((Txt.slice b82 none (some w84)) ++ w89) ++ (Txt.slice b82 (some w84) none)), ((((Txt.slice b82 none (some w84)) ++ ("," : Str)) ++ w89) ++ (Txt.slice b82 (some w84) none))]) →
  (∃ b130, (m__law_parsed w79 (PyData.str w92)) = M.ok b130 ∧
  ((SeqAt.shaped (eD b130)) = true ∧
  ((SeqAt.shaped (PyData.str ("text" : Str))) = true ∧
  (∃ b138, (sel (!PyData.eqv (eD b130) (PyData.str ("text" : Str))) (oo (m__law_words w79 b130).o fun b136 => (some (!decide (b136 = w92)))) (some false)) = some b138 ∧
  (sel b138 (
  q78 (.rt false)) (
  (SeqAt.shaped (eD b130)) = true ∧
  ((SeqAt.shaped (PyData.str ("text" : Str))) = true ∧
  (∃ b149, (sel (!PyData.eqv (eD b130) (PyData.str ("text" : Str))) (oo (sel (decide (w79 = (0 : Int))) (oo (m_is_way b130).o fun b143 => (some b143)) (oo (m_is_row b130).o fun b145 => (some b145))) fun b147 => (some (!decide (b147 = true)))) (some false)) = some b149 ∧
  (sel b149 (
  q78 (.rt false)) (
  q78 (.nx ())))))))))))))))))))))))))))))))))) (intsF 0 ((16 : Int)).toNat) () (pQ (fun (s71 : Unit) =>
  ∃ b152, (m__law_rejected) = M.ok b152 ∧
  (b152 = true)) (fun r_ => r_ = true))))) (fun r_ => r_ = true)))))))))))


/-! ### texts cut and joined again -/
theorem pre1 {c d : Nat} {r : List Nat} : TL.pre [c] (d :: r) = decide (d = c) := by
  unfold TL.pre
  by_cases h : d = c
  · subst h; simp
  · simp [h]
theorem spl_ne {c : Nat} : ∀ (l acc : List Nat), TL.spl [c] 0 acc l ≠ []
  | [], acc => by rw [TL.spl_nil]; simp
  | d :: r, acc => by
    by_cases h : d = c
    · rw [TL.spl_hit (by rw [pre1, h]; exact decide_eq_true rfl)]; simp
    · rw [TL.spl_miss (by rw [pre1]; exact decide_eq_false h)]; exact spl_ne r _
theorem joinl_spl {c : Nat} : ∀ (l acc : List Nat), TL.joinL [c] (TL.spl [c] 0 acc l) = acc ++ l
  | [], acc => by rw [TL.spl_nil, List.append_nil]; rfl
  | d :: r, acc => by
    by_cases h : d = c
    · rw [TL.spl_hit (by rw [pre1, h]; exact decide_eq_true rfl)]
      have ih := joinl_spl (c := c) r []
      have ne := spl_ne (c := c) r []
      show TL.joinL [c] (acc :: TL.spl [c] 0 [] r) = _
      cases hx : TL.spl [c] 0 [] r with
      | nil => exact absurd hx ne
      | cons q qs =>
        rw [hx] at ih
        show acc ++ ([c] ++ TL.joinL [c] (q :: qs)) = _
        rw [ih, h]; rfl
    · rw [TL.spl_miss (by rw [pre1]; exact decide_eq_false h), joinl_spl r, List.append_assoc]; rfl
theorem spl_len {c : Nat} : ∀ (l acc : List Nat), (TL.spl [c] 0 acc l).length ≤ l.length + 1 ∧ ((TL.spl [c] 0 acc l).map List.length).sum ≤ acc.length + l.length
  | [], acc => by rw [TL.spl_nil]; simp
  | d :: r, acc => by
    by_cases h : d = c
    · rw [TL.spl_hit (by rw [pre1, h]; exact decide_eq_true rfl)]
      have ih := spl_len (c := c) r []
      show ((acc :: TL.spl [c] 0 [] r).length ≤ _) ∧ ((acc :: TL.spl [c] 0 [] r).map List.length).sum ≤ _
      simp only [List.length_cons, List.map_cons, List.sum_cons, List.length_nil] at ih ⊢
      omega
    · rw [TL.spl_miss (by rw [pre1]; exact decide_eq_false h)]
      have ih := spl_len (c := c) r (acc ++ [d])
      simp only [List.length_cons, List.length_append, List.length_nil] at ih ⊢
      omega
theorem split_all (c : Nat) (hc : c < 256) (t : Str) : Txt.join (SX.S [c]) (Txt.split t (SX.S [c])) = t ∧ (Txt.split t (SX.S [c])).length ≤ t.length + 1 ∧ ((Txt.split t (SX.S [c])).map (·.length)).sum ≤ t.length := by
  have e : SX.S t.cps.toList = t := SX.S_tl t
  generalize t.cps.toList = l at e
  subst e
  rw [SX.split_S (by simp) (by simp [hc])]
  refine ⟨?_, ?_, ?_⟩
  · rw [SX.join_S, joinl_spl]; rfl
  · rw [List.length_map, SX.S_len]; exact (spl_len l []).1
  · rw [SX.lens, SX.S_len]
    have := (spl_len (c := c) l []).2
    simpa using this
theorem sp32 : (" " : Str) = SX.S [32] := by kernel_rfl
theorem sp44 : ("," : Str) = SX.S [44] := by kernel_rfl
theorem split_w (t : Str) : Txt.join " " (Txt.split t " ") = t ∧ (Txt.split t " ").length ≤ t.length + 1 ∧ ((Txt.split t " ").map (·.length)).sum ≤ t.length := by rw [sp32]; exact split_all 32 (by decide) t
theorem split_r (t : Str) : Txt.join "," (Txt.split t ",") = t ∧ (Txt.split t ",").length ≤ t.length + 1 ∧ ((Txt.split t ",").map (·.length)).sum ≤ t.length := by rw [sp44]; exact split_all 44 (by decide) t
theorem split_join_r {ws : List Str} (hne : ws ≠ []) (h : ∀ w ∈ ws, 44 ∉ w.cps.toList) : Txt.split (Txt.join "," ws) "," = ws := by
  have e : (ws.map (·.cps.toList)).map SX.S = ws := by
    rw [List.map_map]
    exact List.map_id'' (fun w => SX.S_tl w) ws
  rw [sp44, ← e, SX.join_S, SX.split_S (by simp) (by decide), SX.spl_join (by simpa using hne)]
  intro p hp
  obtain ⟨w, hw, rfl⟩ := List.mem_map.mp hp
  exact h w hw
/-! ### numbers -/
def numT : List Str := ["-4", "-3", "-2", "-1", "0", "1", "2", "3", "4"]
theorem numT_eq : mpO (fun x2 : Int => og (strIok x2) (some (strI x2))) (intsF (-(4 : Int)) (((4 : Int) + (1 : Int)) - (-(4 : Int))).toNat) = some numT := by kernel_rfl
theorem num_of {n : Int} (h1 : -4 ≤ n) (h2 : n ≤ 4) : m_number_in (strI n) = .ok n ∧ strIok n = true ∧ 44 ∉ (strI n).cps.toList ∧ 1 ≤ (strI n).length ∧ (strI n).length ≤ 2 := by
  have : n = -4 ∨ n = -3 ∨ n = -2 ∨ n = -1 ∨ n = 0 ∨ n = 1 ∨ n = 2 ∨ n = 3 ∨ n = 4 := by omega
  rcases this with rfl | rfl | rfl | rfl | rfl | rfl | rfl | rfl | rfl <;> exact ⟨by kernel_rfl, by kernel_rfl, by decide +kernel, by decide +kernel, by decide +kernel⟩
theorem num_in (w : Str) : (∃ n, m_number_in w = .ok n ∧ strI n = w ∧ -4 ≤ n ∧ n ≤ 4) ∨ m_number_in w = .er "BadText" := by
  by_cases h : w ∈ numT
  · refine .inl ?_
    unfold numT at h
    simp only [List.mem_cons, List.not_mem_nil, or_false] at h
    rcases h with rfl | rfl | rfl | rfl | rfl | rfl | rfl | rfl | rfl
    · exact ⟨-4, by kernel_rfl, by kernel_rfl, by decide, by decide⟩
    · exact ⟨-3, by kernel_rfl, by kernel_rfl, by decide, by decide⟩
    · exact ⟨-2, by kernel_rfl, by kernel_rfl, by decide, by decide⟩
    · exact ⟨-1, by kernel_rfl, by kernel_rfl, by decide, by decide⟩
    · exact ⟨0, by kernel_rfl, by kernel_rfl, by decide, by decide⟩
    · exact ⟨1, by kernel_rfl, by kernel_rfl, by decide, by decide⟩
    · exact ⟨2, by kernel_rfl, by kernel_rfl, by decide, by decide⟩
    · exact ⟨3, by kernel_rfl, by kernel_rfl, by decide, by decide⟩
    · exact ⟨4, by kernel_rfl, by kernel_rfl, by decide, by decide⟩
  · refine .inr ?_
    have hm : memB w numT = false := by
      cases e : memB w numT with
      | false => rfl
      | true => exact absurd (memB_iff.mp e) h
    unfold m_number_in
    rw [numT_eq, show r2Ok (-(4 : Int)) ((4 : Int) + (1 : Int)) = true from by kernel_rfl, show szLt (List.length (intsF (-(4 : Int)) (((4 : Int) + (1 : Int)) - (-(4 : Int))).toNat)) = true from by kernel_rfl]
    show sel (!memB w numT) _ _ = _
    rw [hm]; rfl
theorem mp_num : ∀ ws : List Str, (∃ ns, mpM (fun (x7 : Str) => m_number_in x7) ws = .ok ns ∧ ns.map strI = ws ∧ ∀ n ∈ ns, -4 ≤ n ∧ n ≤ 4) ∨ mpM (fun (x7 : Str) => m_number_in x7) ws = .er "BadText"
  | [] => .inl ⟨[], rfl, rfl, fun _ h => nomatch h⟩
  | w :: ws => by
    rcases num_in w with ⟨n, h1, h2, h3⟩ | h1
    · rcases mp_num ws with ⟨ns, e1, e2, e3⟩ | e1
      · refine .inl ⟨n :: ns, by unfold mpM; rw [h1, e1]; rfl, by rw [List.map_cons, h2, e2], fun m hm => ?_⟩
        rcases List.mem_cons.mp hm with e | e
        · rw [e]; exact h3
        · exact e3 m e
      · exact .inr (by unfold mpM; rw [h1, e1]; rfl)
    · exact .inr (by unfold mpM; rw [h1]; rfl)
theorem mp_of : ∀ {ns : List Int}, (∀ n ∈ ns, -4 ≤ n ∧ n ≤ 4) → mpM (fun (x7 : Str) => m_number_in x7) (ns.map strI) = .ok ns
  | [], _ => rfl
  | n :: ns, h => by
    have h1 := h n (List.mem_cons_self ..)
    rw [List.map_cons]
    unfold mpM
    rw [(num_of h1.1 h1.2).1, mp_of fun m hm => h m (List.mem_cons_of_mem _ hm)]; rfl


theorem parse_row_eq (t : Str) : m_parse_row (.str t) = mb (sel (!decide (t = ("" : Str))) (gd (splitOk t ("," : Str)) (gd (szLt (List.length (Txt.split t ("," : Str)))) (mpM (fun (x7 : Str) => m_number_in x7) (Txt.split t ("," : Str))))) (.ok ([] : List Int))) fun b8 => sel (!isRowB (rdd b8)) (.er "BadText") (.ok b8) := rfl
theorem splitOk_mk {t c : Str} (hc : (c.length == 0) = false) (hl : t.length ≤ 1000000) : splitOk t c = true := by
  unfold splitOk
  rw [hc]
  show szLe (t.length + 2) = true
  unfold szLe
  exact decide_eq_true (by omega)
theorem szLt_mk' {n : Nat} (h : n < 16000000) : szLt n = true := by unfold szLt; exact decide_eq_true h
theorem szLe_mk' {n : Nat} (h : n ≤ 16000000) : szLe n = true := by unfold szLe; exact decide_eq_true h
/-- a text that shows a row, or none -/
theorem parse_row_or {t : Str} (hl : t.length ≤ 1000000) : (∃ ns, m_parse_row (.str t) = .ok ns ∧ isRowB (rdd ns) = true ∧ Txt.join "," (ns.map strI) = t ∧ (∀ n ∈ ns, -4 ≤ n ∧ n ≤ 4)) ∨ m_parse_row (.str t) = .er "BadText" := by
  rw [parse_row_eq]
  by_cases h : t = ""
  · subst h
    exact .inl ⟨[], by kernel_rfl, by kernel_rfl, by kernel_rfl, fun _ h => nomatch h⟩
  · obtain ⟨s1, s2, s3⟩ := split_r t
    rw [decide_eq_false h, splitOk_mk (by kernel_rfl) hl, szLt_mk' (by omega)]
    rcases mp_num (Txt.split t ",") with ⟨ns, e1, e2, e3⟩ | e1
    · show (∃ ns_1, mb (mpM (fun (x7 : Str) => m_number_in x7) (Txt.split t ",")) _ = _ ∧ _) ∨ mb (mpM (fun (x7 : Str) => m_number_in x7) (Txt.split t ",")) _ = _
      rw [e1]
      show (∃ ns_1, sel (!isRowB (rdd ns)) (M.er "BadText") (M.ok ns) = M.ok ns_1 ∧ _) ∨ sel (!isRowB (rdd ns)) (M.er "BadText") (M.ok ns) = _
      cases hr : isRowB (rdd ns) with
      | false => exact .inr rfl
      | true => exact .inl ⟨ns, rfl, hr, by rw [e2, s1], e3⟩
    · refine .inr ?_
      show mb (mpM (fun (x7 : Str) => m_number_in x7) (Txt.split t ",")) _ = _
      rw [e1]; rfl
/-! ### ways -/
theorem item_or (w : Str) : ∃ d, m_item_in w = .ok d ∧ strO d = some w := by
  by_cases h : w ∈ (["1", "2", "3", "4", "6"] : List Str)
  · simp only [List.mem_cons, List.not_mem_nil, or_false] at h
    rcases h with rfl | rfl | rfl | rfl | rfl
    · exact ⟨.int 1, by kernel_rfl, by kernel_rfl⟩
    · exact ⟨.int 2, by kernel_rfl, by kernel_rfl⟩
    · exact ⟨.int 3, by kernel_rfl, by kernel_rfl⟩
    · exact ⟨.int 4, by kernel_rfl, by kernel_rfl⟩
    · exact ⟨.int 6, by kernel_rfl, by kernel_rfl⟩
  · refine ⟨.str w, ?_, rfl⟩
    have hm : inD (PyData.str w) [PyData.str ("1" : Str), PyData.str ("2" : Str), PyData.str ("3" : Str), PyData.str ("4" : Str), PyData.str ("6" : Str)] = false := by
      have e := inD_mapS (x := w) (xs := (["1", "2", "3", "4", "6"] : List Str))
      have e2 : memB w (["1", "2", "3", "4", "6"] : List Str) = false := by
        cases e : memB w (["1", "2", "3", "4", "6"] : List Str) with
        | false => rfl
        | true => exact absurd (memB_iff.mp e) h
      rw [e2] at e
      exact e
    unfold m_item_in
    rw [hm]; rfl
theorem mp_item : ∀ ws : List Str, ∃ ds, mpO (fun (x6 : Str) => (oo (m_item_in x6).o fun b7 => (some b7))) ws = some ds ∧ mpO (fun (x5 : DD) => (oo (strO x5) fun b6 => (some b6))) ds = some ws
  | [] => ⟨[], rfl, rfl⟩
  | w :: ws => by
    obtain ⟨d, h1, h2⟩ := item_or w
    obtain ⟨ds, e1, e2⟩ := mp_item ws
    refine ⟨d :: ds, ?_, ?_⟩
    · unfold mpO; rw [h1, e1]; rfl
    · unfold mpO; rw [h2, e2]; rfl
theorem parse_way_or {t : Str} (hl : t.length ≤ 1000000) : (∃ ds, m_parse_way (.str t) = .ok ds ∧ isWayB (eU eD ds) = true ∧ mpO (fun (x5 : DD) => (oo (strO x5) fun b6 => (some b6))) ds = some (Txt.split t " ")) ∨ m_parse_way (.str t) = .er "BadText" := by
  obtain ⟨s1, s2, s3⟩ := split_w t
  obtain ⟨ds, e1, e2⟩ := mp_item (Txt.split t " ")
  have e : m_parse_way (.str t) = gd (splitOk t " ") (gd (szLt (List.length (Txt.split t (" " : Str)))) (ob (mpO (fun (x6 : Str) => (oo (m_item_in x6).o fun b7 => (some b7))) (Txt.split t (" " : Str))) fun b10 => sel (!isWayB (eU eD b10)) (.er "BadText") (.ok b10))) := rfl
  rw [e, splitOk_mk (by kernel_rfl) hl, szLt_mk' (by omega), e1]
  show (∃ ds_1, sel (!isWayB (eU eD ds)) (M.er "BadText") (M.ok ds) = M.ok ds_1 ∧ _) ∨ sel (!isWayB (eU eD ds)) (M.er "BadText") (M.ok ds) = _
  cases hr : isWayB (eU eD ds) with
  | false => exact .inr rfl
  | true => exact .inl ⟨ds, rfl, hr, e2⟩
/-! ### what the law's defs give -/
theorem parsed0 (d : DD) : m__law_parsed 0 d = tc (m_parse_way d) (fun b5 => .ok ((eU eD) b5)) (fun c6 => .ok (PyData.str (wordE c6))) := rfl
theorem parsed1 (d : DD) : m__law_parsed 1 d = tc (m_parse_row d) (fun b5 => .ok (rdd b5)) (fun c6 => .ok (PyData.str (wordE c6))) := rfl
theorem words0 (d : DD) : m__law_words 0 d = ob (seqO d) fun b1 => gd (szLt (List.length b1)) (ob (mpO (fun (x3 : DD) => (oo (strO x3) fun b4 => (some b4))) b1) fun b7 => gd (joinOk (" " : Str) b7) (.ok (Txt.join (" " : Str) b7))) := rfl
theorem words1 (d : DD) : m__law_words 1 d = ob (seqO d) fun b1 => gd (szLt (List.length b1)) (ob (mpO (fun (x3 : DD) => (oo (strO x3) fun b4 => (some b4))) b1) fun b7 => gd (joinOk ("," : Str) b7) (.ok (Txt.join ("," : Str) b7))) := rfl
theorem strs_row : ∀ {ns : List Int}, (∀ n ∈ ns, -4 ≤ n ∧ n ≤ 4) → mpO (fun (x3 : DD) => (oo (strO x3) fun b4 => (some b4))) (ns.map PyData.int) = some (ns.map strI)
  | [], _ => rfl
  | n :: ns, h => by
    have h1 := h n (List.mem_cons_self ..)
    have h2 : strO (.int n) = some (strI n) := by
      have := (num_of h1.1 h1.2).2.1
      unfold strIok at this
      unfold strO
      dsimp only
      rw [if_pos (of_decide_eq_true this)]
    rw [List.map_cons]
    unfold mpO
    rw [h2, strs_row fun m hm => h m (List.mem_cons_of_mem _ hm)]; rfl
theorem joinOk_mk {a : Str} {ws : List Str} {n : Nat} (h1 : (ws.map (·.length)).sum ≤ n) (h2 : ws.length ≤ n + 1) (h3 : n ≤ 1000000) (ha : a.length = 1) : joinOk a ws = true := by
  unfold joinOk
  rw [ha]
  exact decide_eq_true (by omega)
theorem isWay_inv {ds : List DD} (h : isWayB (eU eD ds) = true) : ds.length = 4 ∧ SeqAt.shaped (eD (eU eD ds)) = true ∧ PyData.eqv (eD (eU eD ds)) (PyData.str "text") = false := by
  have e : (eU eD ds) = .tuple ds := by show PyData.tuple (ds.map eD) = _; rw [show ds.map eD = ds from List.map_id'' (fun _ => rfl) ds]
  rw [e] at h ⊢
  match ds, h with
  | [a, b, c, e0], h =>
    clear e
    simp only [isWayB, Bool.and_eq_true] at h
    obtain ⟨⟨h1, h2, h3⟩, h4, h5⟩ := h
    refine ⟨rfl, ?_, rfl⟩
    cases a <;> try (simp [isIntB] at h1; done)
    cases b <;> try (simp [isIntB] at h2; done)
    cases c <;> try (simp [isWordB] at h4; done)
    cases e0 <;> try (simp [isWordB] at h5; done)
    rename_i _ a c e
    have hc : c ∈ modesS := by
      have z : inD (.str c) (modesS.map .str) = true := h4
      rw [inD_mapS] at z
      exact memB_iff.mp z
    have he : e ∈ carriesS := by
      have z : inD (.str e) (carriesS.map .str) = true := h5
      rw [inD_mapS] at z
      exact memB_iff.mp z
    have oc : okD 1 (.str c) := by
      unfold modesS at hc
      simp only [List.mem_cons, List.not_mem_nil, or_false] at hc
      rcases hc with rfl | rfl | rfl | rfl | rfl | rfl | rfl | rfl | rfl | rfl <;> exact ⟨by kernel_rfl, by simp [PyData.depth]⟩
    have oe : okD 1 (.str e) := by
      unfold carriesS at he
      simp only [List.mem_cons, List.not_mem_nil, or_false] at he
      rcases he with rfl | rfl | rfl | rfl <;> exact ⟨by kernel_rfl, by simp [PyData.depth]⟩
    refine (ok_tuple (n := 1) fun d hd => ?_).shaped
    simp only [List.mem_cons, List.not_mem_nil, or_false] at hd
    rcases hd with rfl | rfl | rfl | rfl
    · exact ok_int _
    · exact ok_int _
    · exact oc
    · exact oe
  | [], h => simp [isWayB] at h
  | [_], h => simp [isWayB] at h
  | [_, _], h => simp [isWayB] at h
  | [_, _, _], h => simp [isWayB] at h
  | _ :: _ :: _ :: _ :: _ :: _, h => simp [isWayB] at h


theorem gd_t {α : Type} {b : Bool} {m : M α} (h : b = true) : gd b m = m := by subst h; rfl
theorem ob_s {α β : Type} {o : Option α} {a : α} {f : α → M β} (h : o = some a) : ob o f = f a := by subst h; rfl
theorem lt_e {α β : Type} {a : α} {f : α → β} : lt a f = f a := rfl
theorem split_join_w {ws : List Str} (hne : ws ≠ []) (h : ∀ w ∈ ws, 32 ∉ w.cps.toList) : Txt.split (Txt.join " " ws) " " = ws := by
  have e : (ws.map (·.cps.toList)).map SX.S = ws := by
    rw [List.map_map]
    exact List.map_id'' (fun w => SX.S_tl w) ws
  rw [sp32, ← e, SX.join_S, SX.split_S (by simp) (by decide), SX.spl_join (by simpa using hne)]
  intro p hp
  obtain ⟨w, hw, rfl⟩ := List.mem_map.mp hp
  exact h w hw
theorem rep_app (k : Nat) : ∀ acc : Array Nat, ((List.replicate k #[49]).foldl (· ++ ·) acc).toList = acc.toList ++ List.replicate k 49 := by
  induction k with
  | zero => intro acc; simp
  | succ k ih =>
    intro acc
    rw [List.replicate_succ, List.foldl_cons, ih]
    simp [List.replicate_succ]
theorem ones_k (k : Nat) : ((List.replicate k ("1" : Str).cps).foldl (· ++ ·) #[]).toList = List.replicate k 49 := by
  rw [show ("1" : Str).cps = #[49] from by kernel_rfl, rep_app k #[]]
  exact List.nil_append _
theorem ones_eq : (Txt.mul ("1" : Str) (4000 : Int)).cps.toList = List.replicate (Int.toNat 4000) 49 := by
  unfold Txt.mul
  rw [if_neg (by decide), if_neg (by decide +kernel)]
  exact ones_k (Int.toNat 4000)
theorem mpO_length {α β : Type} {f : α → Option β} {xs : List α} {ys : List β} (h : mpO f xs = some ys) : ys.length = xs.length := mpO_len h
theorem ones_bad : m__law_parsed 0 (PyData.str (Txt.mul ("1" : Str) (4000 : Int))) = .ok (.str "text") := by
  have h1 := ones_eq
  generalize Txt.mul ("1" : Str) (4000 : Int) = t at h1 ⊢
  have hl : t.length = 4000 := by
    have e : t.length = t.cps.toList.length := by simp [Str.length]
    rw [e, h1, List.length_replicate]; rfl
  have hs : Txt.split t " " = [t] := by
    have := split_join_w (ws := [t]) (by simp) (fun w hw => by
      rw [List.mem_singleton] at hw
      rw [hw, h1]
      intro hm
      have := List.eq_of_mem_replicate hm
      cases this)
    exact this
  rw [parsed0]
  rcases parse_way_or (t := t) (by omega) with ⟨ds, e1, e2, e3⟩ | e1
  · have h4 := (isWay_inv e2).1
    have := mpO_length e3
    rw [hs] at this
    simp at this
    omega
  · rw [e1]; rfl


theorem t_rej : m__law_rejected = .ok true := by
  unfold m__law_rejected
  refine lt_e.trans ?_
  refine (gd_t (by kernel_rfl)).trans ?_
  refine lt_e.trans ?_
  refine (gd_t (by kernel_rfl)).trans ?_
  refine (gd_t (by kernel_rfl)).trans ?_
  refine lt_e.trans ?_
  refine (gd_t (by kernel_rfl)).trans ?_
  refine (ob_s (a := List.replicate 26 (PyData.str "text")) ?_).trans ?_
  · refine (mpO_all (g := fun _ => PyData.str "text") fun x hx => ?_).trans (by kernel_rfl)
    simp only [List.cons_append, List.nil_append, List.mem_cons, List.not_mem_nil, or_false] at hx
    rcases hx with rfl | rfl | rfl | rfl | rfl | rfl | rfl | rfl | rfl | rfl | rfl | rfl | rfl | rfl | rfl | rfl | rfl | rfl | rfl | rfl | rfl | rfl | rfl | rfl | rfl | rfl
    all_goals first | (rw [ones_bad]; rfl) | kernel_rfl
  refine (gd_t (by kernel_rfl)).trans ?_
  refine (gd_t (by kernel_rfl)).trans ?_
  refine (gd_t (by kernel_rfl)).trans ?_
  refine (show sel (!PyData.eqv _ _) _ _ = sel false _ _ from congrArg (fun b => sel b _ _) (by kernel_rfl)).trans ?_
  refine (gd_t (by kernel_rfl)).trans ?_
  refine (gd_t (by kernel_rfl)).trans ?_
  refine lt_e.trans ?_
  refine (gd_t (by kernel_rfl)).trans ?_
  refine (ob_s (a := List.replicate 20 (PyData.str "text")) ?_).trans ?_
  · refine (mpO_all (g := fun _ => PyData.str "text") fun x hx => ?_).trans (by kernel_rfl)
    simp only [List.mem_cons, List.not_mem_nil, or_false] at hx
    rcases hx with rfl | rfl | rfl | rfl | rfl | rfl | rfl | rfl | rfl | rfl | rfl | rfl | rfl | rfl | rfl | rfl | rfl | rfl | rfl | rfl
    all_goals kernel_rfl
  refine (gd_t (by kernel_rfl)).trans ?_
  refine (gd_t (by kernel_rfl)).trans ?_
  refine (gd_t (by kernel_rfl)).trans ?_
  refine (ob_s (a := true) ?_).trans rfl
  kernel_rfl


def chkW (w : Way) : Bool := match m_format_way (Wy.dd w.wy) with
  | .ok t => decide (t.length ≤ 100) && ((match m__law_words 0 (Wy.dd w.wy) with | .ok t2 => decide (t2 = t) | _ => false) &&
    (match m__law_parsed 0 (.str t) with | .ok d => PyData.eqv d (Wy.dd w.wy) && (SeqAt.shaped (eD d) && SeqAt.shaped (eD (Wy.dd w.wy))) | _ => false))
  | _ => false
theorem chk_p21_down : (allCr.all fun c => chkW ⟨.p21, .down, c⟩) = true := by kernel_rfl
theorem chk_p21_up : (allCr.all fun c => chkW ⟨.p21, .up, c⟩) = true := by kernel_rfl
theorem chk_p21_inn : (allCr.all fun c => chkW ⟨.p21, .inn, c⟩) = true := by kernel_rfl
theorem chk_p21_out : (allCr.all fun c => chkW ⟨.p21, .out, c⟩) = true := by kernel_rfl
theorem chk_p21_neardown : (allCr.all fun c => chkW ⟨.p21, .neardown, c⟩) = true := by kernel_rfl
theorem chk_p21_nearup : (allCr.all fun c => chkW ⟨.p21, .nearup, c⟩) = true := by kernel_rfl
theorem chk_p21_nearin : (allCr.all fun c => chkW ⟨.p21, .nearin, c⟩) = true := by kernel_rfl
theorem chk_p21_nearout : (allCr.all fun c => chkW ⟨.p21, .nearout, c⟩) = true := by kernel_rfl
theorem chk_p21_neareven : (allCr.all fun c => chkW ⟨.p21, .neareven, c⟩) = true := by kernel_rfl
theorem chk_p21_nearodd : (allCr.all fun c => chkW ⟨.p21, .nearodd, c⟩) = true := by kernel_rfl
theorem chk_p31_down : (allCr.all fun c => chkW ⟨.p31, .down, c⟩) = true := by kernel_rfl
theorem chk_p31_up : (allCr.all fun c => chkW ⟨.p31, .up, c⟩) = true := by kernel_rfl
theorem chk_p31_inn : (allCr.all fun c => chkW ⟨.p31, .inn, c⟩) = true := by kernel_rfl
theorem chk_p31_out : (allCr.all fun c => chkW ⟨.p31, .out, c⟩) = true := by kernel_rfl
theorem chk_p31_neardown : (allCr.all fun c => chkW ⟨.p31, .neardown, c⟩) = true := by kernel_rfl
theorem chk_p31_nearup : (allCr.all fun c => chkW ⟨.p31, .nearup, c⟩) = true := by kernel_rfl
theorem chk_p31_nearin : (allCr.all fun c => chkW ⟨.p31, .nearin, c⟩) = true := by kernel_rfl
theorem chk_p31_nearout : (allCr.all fun c => chkW ⟨.p31, .nearout, c⟩) = true := by kernel_rfl
theorem chk_p31_neareven : (allCr.all fun c => chkW ⟨.p31, .neareven, c⟩) = true := by kernel_rfl
theorem chk_p31_nearodd : (allCr.all fun c => chkW ⟨.p31, .nearodd, c⟩) = true := by kernel_rfl
theorem chk_p41_down : (allCr.all fun c => chkW ⟨.p41, .down, c⟩) = true := by kernel_rfl
theorem chk_p41_up : (allCr.all fun c => chkW ⟨.p41, .up, c⟩) = true := by kernel_rfl
theorem chk_p41_inn : (allCr.all fun c => chkW ⟨.p41, .inn, c⟩) = true := by kernel_rfl
theorem chk_p41_out : (allCr.all fun c => chkW ⟨.p41, .out, c⟩) = true := by kernel_rfl
theorem chk_p41_neardown : (allCr.all fun c => chkW ⟨.p41, .neardown, c⟩) = true := by kernel_rfl
theorem chk_p41_nearup : (allCr.all fun c => chkW ⟨.p41, .nearup, c⟩) = true := by kernel_rfl
theorem chk_p41_nearin : (allCr.all fun c => chkW ⟨.p41, .nearin, c⟩) = true := by kernel_rfl
theorem chk_p41_nearout : (allCr.all fun c => chkW ⟨.p41, .nearout, c⟩) = true := by kernel_rfl
theorem chk_p41_neareven : (allCr.all fun c => chkW ⟨.p41, .neareven, c⟩) = true := by kernel_rfl
theorem chk_p41_nearodd : (allCr.all fun c => chkW ⟨.p41, .nearodd, c⟩) = true := by kernel_rfl
theorem chk_p42_down : (allCr.all fun c => chkW ⟨.p42, .down, c⟩) = true := by kernel_rfl
theorem chk_p42_up : (allCr.all fun c => chkW ⟨.p42, .up, c⟩) = true := by kernel_rfl
theorem chk_p42_inn : (allCr.all fun c => chkW ⟨.p42, .inn, c⟩) = true := by kernel_rfl
theorem chk_p42_out : (allCr.all fun c => chkW ⟨.p42, .out, c⟩) = true := by kernel_rfl
theorem chk_p42_neardown : (allCr.all fun c => chkW ⟨.p42, .neardown, c⟩) = true := by kernel_rfl
theorem chk_p42_nearup : (allCr.all fun c => chkW ⟨.p42, .nearup, c⟩) = true := by kernel_rfl
theorem chk_p42_nearin : (allCr.all fun c => chkW ⟨.p42, .nearin, c⟩) = true := by kernel_rfl
theorem chk_p42_nearout : (allCr.all fun c => chkW ⟨.p42, .nearout, c⟩) = true := by kernel_rfl
theorem chk_p42_neareven : (allCr.all fun c => chkW ⟨.p42, .neareven, c⟩) = true := by kernel_rfl
theorem chk_p42_nearodd : (allCr.all fun c => chkW ⟨.p42, .nearodd, c⟩) = true := by kernel_rfl
theorem chk_p61_down : (allCr.all fun c => chkW ⟨.p61, .down, c⟩) = true := by kernel_rfl
theorem chk_p61_up : (allCr.all fun c => chkW ⟨.p61, .up, c⟩) = true := by kernel_rfl
theorem chk_p61_inn : (allCr.all fun c => chkW ⟨.p61, .inn, c⟩) = true := by kernel_rfl
theorem chk_p61_out : (allCr.all fun c => chkW ⟨.p61, .out, c⟩) = true := by kernel_rfl
theorem chk_p61_neardown : (allCr.all fun c => chkW ⟨.p61, .neardown, c⟩) = true := by kernel_rfl
theorem chk_p61_nearup : (allCr.all fun c => chkW ⟨.p61, .nearup, c⟩) = true := by kernel_rfl
theorem chk_p61_nearin : (allCr.all fun c => chkW ⟨.p61, .nearin, c⟩) = true := by kernel_rfl
theorem chk_p61_nearout : (allCr.all fun c => chkW ⟨.p61, .nearout, c⟩) = true := by kernel_rfl
theorem chk_p61_neareven : (allCr.all fun c => chkW ⟨.p61, .neareven, c⟩) = true := by kernel_rfl
theorem chk_p61_nearodd : (allCr.all fun c => chkW ⟨.p61, .nearodd, c⟩) = true := by kernel_rfl
theorem chk_p62_down : (allCr.all fun c => chkW ⟨.p62, .down, c⟩) = true := by kernel_rfl
theorem chk_p62_up : (allCr.all fun c => chkW ⟨.p62, .up, c⟩) = true := by kernel_rfl
theorem chk_p62_inn : (allCr.all fun c => chkW ⟨.p62, .inn, c⟩) = true := by kernel_rfl
theorem chk_p62_out : (allCr.all fun c => chkW ⟨.p62, .out, c⟩) = true := by kernel_rfl
theorem chk_p62_neardown : (allCr.all fun c => chkW ⟨.p62, .neardown, c⟩) = true := by kernel_rfl
theorem chk_p62_nearup : (allCr.all fun c => chkW ⟨.p62, .nearup, c⟩) = true := by kernel_rfl
theorem chk_p62_nearin : (allCr.all fun c => chkW ⟨.p62, .nearin, c⟩) = true := by kernel_rfl
theorem chk_p62_nearout : (allCr.all fun c => chkW ⟨.p62, .nearout, c⟩) = true := by kernel_rfl
theorem chk_p62_neareven : (allCr.all fun c => chkW ⟨.p62, .neareven, c⟩) = true := by kernel_rfl
theorem chk_p62_nearodd : (allCr.all fun c => chkW ⟨.p62, .nearodd, c⟩) = true := by kernel_rfl
theorem chk_p63_down : (allCr.all fun c => chkW ⟨.p63, .down, c⟩) = true := by kernel_rfl
theorem chk_p63_up : (allCr.all fun c => chkW ⟨.p63, .up, c⟩) = true := by kernel_rfl
theorem chk_p63_inn : (allCr.all fun c => chkW ⟨.p63, .inn, c⟩) = true := by kernel_rfl
theorem chk_p63_out : (allCr.all fun c => chkW ⟨.p63, .out, c⟩) = true := by kernel_rfl
theorem chk_p63_neardown : (allCr.all fun c => chkW ⟨.p63, .neardown, c⟩) = true := by kernel_rfl
theorem chk_p63_nearup : (allCr.all fun c => chkW ⟨.p63, .nearup, c⟩) = true := by kernel_rfl
theorem chk_p63_nearin : (allCr.all fun c => chkW ⟨.p63, .nearin, c⟩) = true := by kernel_rfl
theorem chk_p63_nearout : (allCr.all fun c => chkW ⟨.p63, .nearout, c⟩) = true := by kernel_rfl
theorem chk_p63_neareven : (allCr.all fun c => chkW ⟨.p63, .neareven, c⟩) = true := by kernel_rfl
theorem chk_p63_nearodd : (allCr.all fun c => chkW ⟨.p63, .nearodd, c⟩) = true := by kernel_rfl
theorem chk_one (p : Pr) (m : Md) : (allCr.all fun c => chkW ⟨p, m, c⟩) = true := by
  cases p <;> cases m
  · exact chk_p21_down
  · exact chk_p21_up
  · exact chk_p21_inn
  · exact chk_p21_out
  · exact chk_p21_neardown
  · exact chk_p21_nearup
  · exact chk_p21_nearin
  · exact chk_p21_nearout
  · exact chk_p21_neareven
  · exact chk_p21_nearodd
  · exact chk_p31_down
  · exact chk_p31_up
  · exact chk_p31_inn
  · exact chk_p31_out
  · exact chk_p31_neardown
  · exact chk_p31_nearup
  · exact chk_p31_nearin
  · exact chk_p31_nearout
  · exact chk_p31_neareven
  · exact chk_p31_nearodd
  · exact chk_p41_down
  · exact chk_p41_up
  · exact chk_p41_inn
  · exact chk_p41_out
  · exact chk_p41_neardown
  · exact chk_p41_nearup
  · exact chk_p41_nearin
  · exact chk_p41_nearout
  · exact chk_p41_neareven
  · exact chk_p41_nearodd
  · exact chk_p42_down
  · exact chk_p42_up
  · exact chk_p42_inn
  · exact chk_p42_out
  · exact chk_p42_neardown
  · exact chk_p42_nearup
  · exact chk_p42_nearin
  · exact chk_p42_nearout
  · exact chk_p42_neareven
  · exact chk_p42_nearodd
  · exact chk_p61_down
  · exact chk_p61_up
  · exact chk_p61_inn
  · exact chk_p61_out
  · exact chk_p61_neardown
  · exact chk_p61_nearup
  · exact chk_p61_nearin
  · exact chk_p61_nearout
  · exact chk_p61_neareven
  · exact chk_p61_nearodd
  · exact chk_p62_down
  · exact chk_p62_up
  · exact chk_p62_inn
  · exact chk_p62_out
  · exact chk_p62_neardown
  · exact chk_p62_nearup
  · exact chk_p62_nearin
  · exact chk_p62_nearout
  · exact chk_p62_neareven
  · exact chk_p62_nearodd
  · exact chk_p63_down
  · exact chk_p63_up
  · exact chk_p63_inn
  · exact chk_p63_out
  · exact chk_p63_neardown
  · exact chk_p63_nearup
  · exact chk_p63_nearin
  · exact chk_p63_nearout
  · exact chk_p63_neareven
  · exact chk_p63_nearodd


theorem way_fwd (w : Way) : ∃ T, m_format_way (Wy.dd w.wy) = .ok T ∧ T.length ≤ 100 ∧ m__law_words 0 (Wy.dd w.wy) = .ok T ∧ ∃ d, m__law_parsed 0 (.str T) = .ok d ∧ PyData.eqv d (Wy.dd w.wy) = true ∧ SeqAt.shaped (eD d) = true ∧ SeqAt.shaped (eD (Wy.dd w.wy)) = true := by
  have h : chkW w = true := by
    have h2 := chk_one w.p w.m
    rw [List.all_eq_true] at h2
    exact h2 w.c (mem_cr _)
  unfold chkW at h
  cases e1 : m_format_way (Wy.dd w.wy) with
  | er c => rw [e1] at h; cases h
  | no => rw [e1] at h; cases h
  | ok t =>
    rw [e1] at h
    dsimp only at h
    rw [Bool.and_eq_true, Bool.and_eq_true] at h
    obtain ⟨h1, h2, h3⟩ := h
    refine ⟨t, rfl, of_decide_eq_true h1, ?_, ?_⟩
    · cases e2 : m__law_words 0 (Wy.dd w.wy) with
      | er c => rw [e2] at h2; cases h2
      | no => rw [e2] at h2; cases h2
      | ok t2 =>
        rw [e2] at h2
        dsimp only at h2
        rw [of_decide_eq_true h2]
    · cases e2 : m__law_parsed 0 (.str t) with
      | er c => rw [e2] at h3; cases h3
      | no => rw [e2] at h3; cases h3
      | ok d =>
        rw [e2] at h3
        dsimp only at h3
        rw [Bool.and_eq_true, Bool.and_eq_true] at h3
        exact ⟨d, rfl, h3.1, h3.2.1, h3.2.2⟩
theorem words_row {r : List Int} {n : Nat} (hr : ∀ x ∈ r, -4 ≤ x ∧ x ≤ 4) (hl : r.length ≤ 1000000) (h1 : ((r.map strI).map (·.length)).sum ≤ n) (h2 : r.length ≤ n + 1) (h3 : n ≤ 1000000) : m__law_words 1 (rdd r) = .ok (Txt.join "," (r.map strI)) := by
  rw [words1]
  refine (ob_s (a := r.map PyData.int) rfl).trans ?_
  refine (gd_t (szLt_mk' (by rw [List.length_map]; omega))).trans ?_
  refine (ob_s (strs_row hr)).trans ?_
  exact gd_t (joinOk_mk h1 (by rw [List.length_map]; exact h2) h3 (by kernel_rfl))
theorem strs_sum : ∀ {r : List Int}, (∀ x ∈ r, -4 ≤ x ∧ x ≤ 4) → ((r.map strI).map (·.length)).sum ≤ 2 * r.length
  | [], _ => by simp
  | x :: r, h => by
    have h1 := h x (List.mem_cons_self ..)
    have := strs_sum fun y hy => h y (List.mem_cons_of_mem _ hy)
    have := (num_of h1.1 h1.2).2.2.2.2
    simp only [List.map_cons, List.sum_cons, List.length_cons] at *
    omega
theorem row_fwd {r : List Int} (hr : ∀ x ∈ r, -4 ≤ x ∧ x ≤ 4) (hl : r.length ≤ 12) : ∃ T, m_format_row (rdd r) = .ok T ∧ T.length ≤ 100 ∧ m__law_words 1 (rdd r) = .ok T ∧ m__law_parsed 1 (.str T) = .ok (rdd r) := by
  have ro : isRowB (rdd r) = true := ROk.is ⟨by omega, hr⟩
  have ss := strs_sum hr
  refine ⟨Txt.join "," (r.map strI), ?_, ?_, words_row (n := 30) hr (by omega) (by omega) (by omega) (by omega), ?_⟩
  · have e1 : m_check_row (rdd r) = .ok () := by
      show sel (!isRowB (rdd r)) _ _ = _
      rw [ro]; rfl
    unfold m_format_row
    rw [e1]
    refine (ob_s (deR_enc r)).trans ?_
    refine (gd_t (szLt_mk' (by omega))).trans ?_
    refine (ob_s (a := r.map strI) (mpO_all fun x hx => ?_)).trans ?_
    · rw [(num_of (hr x hx).1 (hr x hx).2).2.1]; rfl
    · exact gd_t (joinOk_mk (n := 30) (by omega) (by rw [List.length_map]; omega) (by omega) (by kernel_rfl))
  · rw [TL.join_eq]
    have := StrLaws.join_length_le "," (r.map strI)
    rw [List.length_map, show ("," : Str).length = 1 from by kernel_rfl] at this
    omega
  · rw [parsed1]
    cases r with
    | nil => kernel_rfl
    | cons x r =>
      have hs : Txt.split (Txt.join "," ((x :: r).map strI)) "," = (x :: r).map strI := split_join_r (by simp) fun w hw => by
        obtain ⟨n, hn, rfl⟩ := List.mem_map.mp hw
        exact (num_of (hr n hn).1 (hr n hn).2).2.2.1
      have hT : Txt.join "," ((x :: r).map strI) ≠ "" := fun e => by
        rw [e, show Txt.split ("" : Str) "," = [("" : Str)] from by kernel_rfl, List.map_cons] at hs
        have e2 : ("" : Str) = strI x := (List.cons.inj hs).1
        have := (num_of (hr x (List.mem_cons_self ..)).1 (hr x (List.mem_cons_self ..)).2).2.2.2.1
        rw [← e2] at this
        exact absurd this (by decide +kernel)
      have hlen : (Txt.join "," ((x :: r).map strI)).length ≤ 1000000 := by
        rw [TL.join_eq]
        have := StrLaws.join_length_le "," ((x :: r).map strI)
        rw [List.length_map, show ("," : Str).length = 1 from by kernel_rfl] at this
        omega
      have hp : m_parse_row (.str (Txt.join "," ((x :: r).map strI))) = .ok (x :: r) := by
        rw [parse_row_eq, decide_eq_false hT, splitOk_mk (by kernel_rfl) hlen, hs, szLt_mk' (by rw [List.length_map]; omega)]
        show mb (mpM (fun (x7 : Str) => m_number_in x7) ((x :: r).map strI)) _ = _
        rw [mp_of hr]
        show sel (!isRowB (rdd (x :: r))) _ _ = _
        rw [ro]; rfl
      rw [hp]; rfl
/-! ### changed texts -/
theorem turn0 {t : Str} (hl : t.length ≤ 1000000) : ∃ d, m__law_parsed 0 (.str t) = .ok d ∧ SeqAt.shaped (eD d) = true ∧ (PyData.eqv (eD d) (PyData.str "text") = true ∨ (PyData.eqv (eD d) (PyData.str "text") = false ∧ m__law_words 0 d = .ok t ∧ m_is_way d = .ok true)) := by
  rw [parsed0]
  rcases parse_way_or hl with ⟨ds, e1, e2, e3⟩ | e1
  · rw [e1]
    obtain ⟨i1, i2, i3⟩ := isWay_inv e2
    refine ⟨eU eD ds, rfl, i2, .inr ⟨i3, ?_, by unfold m_is_way; rw [e2]⟩⟩
    obtain ⟨s1, s2, s3⟩ := split_w t
    rw [words0]
    have e : ds.map eD = ds := List.map_id'' (fun _ => rfl) ds
    refine (ob_s (a := ds) (by show some (ds.map eD) = _; rw [e])).trans ?_
    refine (gd_t (szLt_mk' (by omega))).trans ?_
    refine (ob_s e3).trans ?_
    refine (gd_t (joinOk_mk s3 s2 hl (by kernel_rfl))).trans ?_
    rw [s1]
  · rw [e1]
    exact ⟨.str "text", rfl, by kernel_rfl, .inl (by kernel_rfl)⟩
theorem turn1 {t : Str} (hl : t.length ≤ 1000000) : ∃ d, m__law_parsed 1 (.str t) = .ok d ∧ SeqAt.shaped (eD d) = true ∧ (PyData.eqv (eD d) (PyData.str "text") = true ∨ (PyData.eqv (eD d) (PyData.str "text") = false ∧ m__law_words 1 d = .ok t ∧ m_is_row d = .ok true)) := by
  rw [parsed1]
  rcases parse_row_or hl with ⟨ns, e1, e2, e3, e4⟩ | e1
  · rw [e1]
    refine ⟨rdd ns, rfl, (ok_ints (n := 0) ns).shaped, .inr ⟨rfl, ?_, by unfold m_is_row; rw [e2]⟩⟩
    have hn : ns.length ≤ 30 := by
      have z : (decide (((ns.map PyData.int).length : Int) ≤ 30) && ((ns.map PyData.int).map isNumB).all id) = true := e2
      rw [Bool.and_eq_true] at z
      have := of_decide_eq_true z.1
      rw [List.length_map] at this
      omega
    have ss := strs_sum e4
    rw [words_row (n := 60) e4 (by omega) (by omega) (by omega) (by omega), e3]
  · rw [e1]
    exact ⟨.str "text", rfl, by kernel_rfl, .inl (by kernel_rfl)⟩


theorem len_cat (a b : Str) : (a ++ b).length = a.length + b.length := by
  rw [← SX.S_tl a, ← SX.S_tl b, SX.S_cat, SX.S_len, SX.S_len, SX.S_len, List.length_append]
theorem turnK {k : Int} {t : Str} (hk : k = 0 ∨ k = 1) (hl : t.length ≤ 1000000) : ∃ d, m__law_parsed k (.str t) = .ok d ∧ SeqAt.shaped (eD d) = true ∧
    (sel (!PyData.eqv (eD d) (PyData.str ("text" : Str))) (oo (m__law_words k d).o fun b136 => (some (!decide (b136 = t)))) (some false)) = some false ∧
    (sel (!PyData.eqv (eD d) (PyData.str ("text" : Str))) (oo (sel (decide (k = (0 : Int))) (oo (m_is_way d).o fun b143 => (some b143)) (oo (m_is_row d).o fun b145 => (some b145))) fun b147 => (some (!decide (b147 = true)))) (some false)) = some false := by
  rcases hk with rfl | rfl
  · obtain ⟨d, h1, h2, h3⟩ := turn0 hl
    refine ⟨d, h1, h2, ?_, ?_⟩
    · rcases h3 with h3 | ⟨h3, h4, h5⟩
      · rw [h3]; rfl
      · rw [h3, h4]
        show some (!decide (t = t)) = _
        rw [decide_eq_true rfl]; rfl
    · rcases h3 with h3 | ⟨h3, h4, h5⟩
      · rw [h3]; rfl
      · rw [h3, h5]; rfl
  · obtain ⟨d, h1, h2, h3⟩ := turn1 hl
    refine ⟨d, h1, h2, ?_, ?_⟩
    · rcases h3 with h3 | ⟨h3, h4, h5⟩
      · rw [h3]; rfl
      · rw [h3, h4]
        show some (!decide (t = t)) = _
        rw [decide_eq_true rfl]; rfl
    · rcases h3 with h3 | ⟨h3, h4, h5⟩
      · rw [h3]; rfl
      · rw [h3, h5]; rfl
theorem law_true : lawP := by
  refine ⟨by kernel_rfl, fun w _ row hrow => ?_⟩
  obtain ⟨T0, f0, l0, w0, d0, p0, q0, s0, s0'⟩ := way_fwd w
  obtain ⟨T1, f1, l1, w1, p1⟩ := row_fwd hrow.2 (by have := hrow.1; omega)
  refine ⟨_, rfl, T0, f0, _, rfl, T1, f1, _, rfl, by kernel_rfl, ?_⟩
  refine forP_run (I := fun _ _ => True) (intsF 0 ((2 : Int)).toNat) [] () trivial (fun pre x post s q' e _ hq => ?_) (fun s _ => ?_)
  · have hx : x = 0 ∨ x = 1 := by
      have hm : x ∈ ([] : List Int) ++ intsF 0 ((2 : Int)).toNat := by rw [e]; simp
      have e2 : ([] : List Int) ++ intsF 0 ((2 : Int)).toNat = [0, 1] := by kernel_rfl
      rw [e2] at hm
      simpa using hm
    rcases hx with rfl | rfl
    · refine ⟨T0, rfl, Wy.dd w.wy, rfl, T0, w0, false, ?_, hq (.nx ()) trivial⟩
      rw [decide_eq_true rfl]
      show oo (m__law_parsed 0 (PyData.str T0)).o _ = _
      rw [p0]
      show og (SeqAt.shaped (eD d0)) (og (SeqAt.shaped (eD (Wy.dd w.wy))) (some (!PyData.eqv d0 (Wy.dd w.wy)))) = _
      rw [s0, s0', q0]; rfl
    · refine ⟨T1, rfl, rdd row, rfl, T1, w1, false, ?_, hq (.nx ()) trivial⟩
      rw [decide_eq_true rfl]
      show oo (m__law_parsed 1 (PyData.str T1)).o _ = _
      rw [p1]
      show og (SeqAt.shaped (rdd row)) (og (SeqAt.shaped (rdd row)) (some (!PyData.eqv (rdd row) (rdd row)))) = _
      rw [tqR.eq, decide_eq_true rfl, show SeqAt.shaped (rdd row) = true from (ok_ints (n := 0) row).shaped]; rfl
  · refine ⟨_, rfl, by kernel_rfl, ?_⟩
    refine forP_run (I := fun _ _ => True) (intsF 0 ((16 : Int)).toNat) [] () trivial (fun pre x post s q' e _ hq => ?_) (fun s _ => ?_)
    · refine ⟨by kernel_rfl, fun k hk => ?_⟩
      have hk' : k = 0 ∨ k = 1 := by omega
      obtain ⟨T, hT, hTl⟩ : ∃ T, atI [T0, T1] k = some T ∧ T.length ≤ 100 := by
        rcases hk' with rfl | rfl
        · exact ⟨T0, rfl, l0⟩
        · exact ⟨T1, rfl, l1⟩
      refine ⟨T, hT, szLe_mk' (by omega), ?_, fun at_ _ => ?_⟩
      · exact drawOk_mk (by omega)
      refine ⟨by kernel_rfl, fun mark hm => ?_⟩
      have hml : mark.length ≤ 3 := by
        have : (["0", "1", "2", "3", "4", "6", "-", ",", " ", "in", "all", "x", "", "-4"] : List Str).all (fun m => decide (m.length ≤ 3)) = true := by kernel_rfl
        rw [List.all_eq_true] at this
        exact of_decide_eq_true (this mark hm)
      have c1 := Txt.slice_le T none (some at_)
      have c2 := Txt.slice_le T (some (at_ + 1)) none
      have c3 := Txt.slice_le T (some at_) none
      have c4 : ("," : Str).length = 1 := by kernel_rfl
      refine ⟨szLe_mk' (by omega), szLe_mk' (by omega), szLe_mk' (by omega), szLe_mk' (by rw [len_cat]; omega), szLe_mk' (by omega), szLe_mk' (by omega), szLe_mk' (by omega), szLe_mk' (by rw [len_cat]; omega), szLe_mk' (by omega), szLe_mk' (by omega), szLe_mk' (by rw [len_cat]; omega), szLe_mk' (by omega), szLe_mk' (by rw [len_cat, len_cat]; omega), by kernel_rfl, fun other ho => ?_⟩
      have hol : other.length ≤ 1000000 := by
        simp only [List.mem_cons, List.not_mem_nil, or_false] at ho
        rcases ho with rfl | rfl | rfl <;> simp only [len_cat] <;> omega
      obtain ⟨d, h1, h2, h3, h4⟩ := turnK hk' hol
      exact ⟨d, h1, h2, by kernel_rfl, false, h3, h2, by kernel_rfl, false, h4, hq (.nx ()) trivial⟩
    · exact ⟨true, t_rej, rfl⟩

section
variable {P : Program} {w : World} {K : FK} {mg : Str → Option Value} {base : Heap}
theorem sc_law : FnScope ["script", "draws", "things", "texts", "kind", "marks", "turn", "text", "at", "mark", "other", "found"] ["script"] (defScope (tS 41)) := ⟨rfl, rfl, rfl, by decide +kernel, rfl, by decide +kernel, by decide +kernel⟩
theorem ok_law_of (T : Tx K mg) (k : lawP) : FnOk P w K mg base CX0 7 T.f_law T.d_law ["script"] (spLaw K) := by
  refine T.F_law.ok sc_law (fun vs H Q E h => ?_) (fun cdv A outer s H vs Q E hr h => ?_)
  · obtain ⟨a, ns, rfl, _⟩ := h; rfl
  · obtain ⟨a, ns, rfl, hS, hl, kk0⟩ := h
    refine ⟨_, (pss_cons (ps_set (i := 1) sc_law.nd rfl (by first | exact Or.inl rfl | exact Or.inr rfl) (pe_call (ok__law_start T) (hr.mono (by decide)) (by rfl) T.g__law_start T.F__law_start.kp (b__law_start T) .nil pass0 (pa_cons (pv 0) pa_nil)))
      (pss_cons (ps_set (i := 2) sc_law.nd rfl (by first | exact Or.inl rfl | exact Or.inr rfl) (pe_lst (pa_cons (pe_call (ok__law_way T) (hr.mono (by decide)) (by rfl) T.g__law_way T.F__law_way.kp (b__law_way T) .nil pass0 (pa_cons (pv 1) pa_nil)) (pa_cons (pe_call (ok__law_row T) (hr.mono (by decide)) (by rfl) T.g__law_row T.F__law_row.kp (b__law_row T) .nil pass0 (pa_cons (pv 1) (pa_cons pe_int pa_nil))) pa_nil))))
      (pss_cons (ps_set (i := 3) sc_law.nd rfl (by first | exact Or.inl rfl | exact Or.inr rfl) (pe_lst (pa_cons (pe_call (ok_format_way T) (hr.mono (by decide)) (by rfl) T.g_format_way T.F_format_way.kp (b_format_way T) .nil passL (pa_cons (pe_ix (r := rIxL K) ix_list (pv 2) pe_int (fun _ _ => rfl)) pa_nil)) (pa_cons (pe_call (ok_format_row T) (hr.mono (by decide)) (by rfl) T.g_format_row T.F_format_row.kp (b_format_row T) .nil passL (pa_cons (pe_ix (r := rIxL K) ix_list (pv 2) pe_int (fun _ _ => rfl)) pa_nil)) pa_nil))))
      (pss_cons (ps_for PassesOwn.never rfl (pi_range1 rfl T.m_range (pa_cons pe_int pa_nil)) (pg_name (i := 4) sc_law.nd rfl (by first | exact Or.inl rfl | exact Or.inr rfl))
      (pss_one (ps_if (PW.pt (pw_or (pt_cmpR op_ne (pe_ix (r := rIxL K) ix_list (pv 3) (pv 4) (fun _ _ => rfl)) (pe_call (ok__law_words T) (hr.mono (by decide)) (by rfl) T.g__law_words T.F__law_words.kp (b__law_words T) .nil pass0 (pa_cons (pv 4) (pa_cons (pe_ix (r := rIxL K) ix_list (pv 2) (pv 4) (fun _ _ => rfl)) pa_nil))) (nomark _)) (pw_or1 (pt_cmpR (r := rNeD K) (op_neD hr.units) (pe_call (ok__law_parsed T) (hr.mono (by decide)) (by rfl) T.g__law_parsed T.F__law_parsed.kp (b__law_parsed T) .nil pass0 (pa_cons (pv 4) (pa_cons (pe_ix (r := rIxL K) ix_list (pv 3) (pv 4) (fun _ _ => rfl)) pa_nil))) (pe_ix (r := rIxL K) ix_list (pv 2) (pv 4) (fun _ _ => rfl)) (nomark _)))))
      (pss_one (ps_ret pe_bl))
      pss_nil)))
      (pss_cons (ps_set (i := 5) sc_law.nd rfl (by first | exact Or.inl rfl | exact Or.inr rfl) (pe_lst (pa_cons pe_str (pa_cons pe_str (pa_cons pe_str (pa_cons pe_str (pa_cons pe_str (pa_cons pe_str (pa_cons pe_str (pa_cons pe_str (pa_cons pe_str (pa_cons pe_str (pa_cons pe_str (pa_cons pe_str (pa_cons pe_str (pa_cons pe_str pa_nil))))))))))))))))
      (pss_cons (ps_for PassesOwn.never rfl (pi_range1 rfl T.m_range (pa_cons pe_int pa_nil)) (pg_name (i := 6) sc_law.nd rfl (by first | exact Or.inl rfl | exact Or.inr rfl))
      (pss_cons (ps_set (i := 4) sc_law.nd rfl (by first | exact Or.inl rfl | exact Or.inr rfl) (pe_call (ok__law_draw T) (hr.mono (by decide)) (by rfl) T.g__law_draw T.F__law_draw.kp (b__law_draw T) .nil pass0 (pa_cons (pv 1) (pa_cons pe_int pa_nil))))
      (pss_cons (ps_set (i := 7) sc_law.nd rfl (by first | exact Or.inl rfl | exact Or.inr rfl) (pe_ix (r := rIxL K) ix_list (pv 3) (pv 4) (fun _ _ => rfl)))
      (pss_cons (ps_set (i := 8) sc_law.nd rfl (by first | exact Or.inl rfl | exact Or.inr rfl) (pe_call (ok__law_draw T) (hr.mono (by decide)) (by rfl) T.g__law_draw T.F__law_draw.kp (b__law_draw T) .nil pass0 (pa_cons (pv 1) (pa_cons (pe_op op_add (pe_callB (r := rLenTx) call_len_str (by rfl) T.m_len PySem.boot_len (pa_cons (pv 7) pa_nil)) pe_int) pa_nil))))
      (pss_cons (ps_set (i := 9) sc_law.nd rfl (by first | exact Or.inl rfl | exact Or.inr rfl) (pe_call (ok__law_pick T) (hr.mono (by decide)) (by rfl) T.g__law_pick T.F__law_pick.kp (b__law_pick T) .nil pass0 (pa_cons (pv 1) (pa_cons (pv 5) pa_nil))))
      (pss_cons (ps_set (i := 10) sc_law.nd rfl (by first | exact Or.inl rfl | exact Or.inr rfl) (pe_call (ok__law_pick T) (hr.mono (by decide)) (by rfl) T.g__law_pick T.F__law_pick.kp (b__law_pick T) .nil pass0 (pa_cons (pv 1) (pa_cons (pe_lst (pa_cons (pe_op (r := rCatS) op_add_str (pe_op (r := rCatS) op_add_str (pe_slice (r := C8.rSlX) C8.sl_txt (pv 7) po_none (po_some (pv 8))) (pv 9)) (pe_slice (r := C8.rSlX) C8.sl_txt (pv 7) (po_some (pe_op op_add (pv 8) pe_int)) po_none)) (pa_cons (pe_op (r := rCatS) op_add_str (pe_op (r := rCatS) op_add_str (pe_slice (r := C8.rSlX) C8.sl_txt (pv 7) po_none (po_some (pv 8))) (pv 9)) (pe_slice (r := C8.rSlX) C8.sl_txt (pv 7) (po_some (pv 8)) po_none)) (pa_cons (pe_op (r := rCatS) op_add_str (pe_op (r := rCatS) op_add_str (pe_op (r := rCatS) op_add_str (pe_slice (r := C8.rSlX) C8.sl_txt (pv 7) po_none (po_some (pv 8))) pe_str) (pv 9)) (pe_slice (r := C8.rSlX) C8.sl_txt (pv 7) (po_some (pv 8)) po_none)) pa_nil)))) pa_nil))))
      (pss_cons (ps_set (i := 11) sc_law.nd rfl (by first | exact Or.inl rfl | exact Or.inr rfl) (pe_call (ok__law_parsed T) (hr.mono (by decide)) (by rfl) T.g__law_parsed T.F__law_parsed.kp (b__law_parsed T) .nil pass0 (pa_cons (pv 4) (pa_cons (pv 10) pa_nil))))
      (pss_cons (ps_if (PW.pt (pw_and (pt_cmpR (r := rNeD K) (op_neD hr.units) (pv 11) pe_str (nomark _)) (pw_and1 (pt_cmpR op_ne (pe_call (ok__law_words T) (hr.mono (by decide)) (by rfl) T.g__law_words T.F__law_words.kp (b__law_words T) .nil pass0 (pa_cons (pv 4) (pa_cons (pv 11) pa_nil))) (pv 10) (nomark _)))))
      (pss_one (ps_ret pe_bl))
      pss_nil)
      (pss_one (ps_if (PW.pt (pw_and (pt_cmpR (r := rNeD K) (op_neD hr.units) (pv 11) pe_str (nomark _)) (pw_and1 (pt_cmpR op_notBl (pe_ifExp (pt_cmpR op_eq (pv 4) pe_int (nomark _)) (pe_call (ok_is_way T) (hr.mono (by decide)) (by rfl) T.g_is_way T.F_is_way.kp (b_is_way T) .nil pass0 (pa_cons (pv 11) pa_nil)) (pe_call (ok_is_row T) (hr.mono (by decide)) (by rfl) T.g_is_row T.F_is_row.kp (b_is_row T) .nil pass0 (pa_cons (pv 11) pa_nil))) pe_bl (nomark _)))))
      (pss_one (ps_ret pe_bl))
      pss_nil))))))))))
      (pss_one (ps_ret (pe_call0 (ok__law_rejected T) (hr.mono (by decide)) (by rfl) T.g__law_rejected T.F__law_rejected.kp (b__law_rejected T) .nil pass0))))))))), ?_⟩
    unfold lawP at k
    refine law_start (by decide) hS hl (fun B p q => ?_)
    obtain ⟨h5, k⟩ := k
    refine nx_seq (nx_asgP (P := fun d => ∃ w1 : Way, (True) ∧ ∃ w3 : List Int, (((List.length w3 : Nat) : Int) ≤ (12 : Int) ∧ ∀ x ∈ w3, -4 ≤ x ∧ x ≤ 4) ∧ d = (eL eD) [(Wy.dd w1.wy), (rdd w3)]) (ev_lstP (P := fun d => ∃ w1 : Way, (True) ∧ ∃ w3 : List Int, (((List.length w3 : Nat) : Int) ≤ (12 : Int) ∧ ∀ x ∈ w3, -4 ≤ x ∧ x ≤ 4) ∧ d = (eL eD) [(Wy.dd w1.wy), (rdd w3)]) (ea_consP (Ps := fun ds => ∃ w1 : Way, (True) ∧ ∃ w3 : List Int, (((List.length w3 : Nat) : Int) ≤ (12 : Int) ∧ ∀ x ∈ w3, -4 ≤ x ∧ x ≤ 4) ∧ ds = [eD (Wy.dd w1.wy), eD (rdd w3)]) (nd_way (i := 1) rfl) (ea_consP (Ps := fun ds => ∃ w3 : List Int, (((List.length w3 : Nat) : Int) ≤ (12 : Int) ∧ ∀ x ∈ w3, -4 ≤ x ∧ x ≤ 4) ∧ ds = [eD (rdd w3)]) (nd_row (i := 1) rfl ev_int h5) ea_nil (fun d_ ds_ ⟨w3, c4, e1_⟩ e2_ => ⟨w3, c4, by subst e1_; subst e2_; rfl⟩)) (fun d_ ds_ ⟨w1, c2, e1_⟩ ⟨w3, c4, e2_⟩ => ⟨w1, c2, w3, c4, by subst e1_; subst e2_; rfl⟩)) (fun ds_ ⟨w1, c2, w3, c4, e_⟩ => ⟨by rw [e_]; exact Nat.le_of_ble_eq_true rfl, ⟨w1, c2, w3, c4, by rw [e_]; rfl⟩⟩)) ?_)
    rintro d_ ⟨w1, c2, w3, c4, e_⟩
    subst e_
    replace k := k w1 c2
    replace k := k w3 c4
    obtain ⟨b8, h9, k⟩ := k
    obtain ⟨b10, h11, k⟩ := k
    obtain ⟨b14, h15, k⟩ := k
    obtain ⟨b16, h17, k⟩ := k
    obtain ⟨v_texts_18, h19, k⟩ := k
    try dsimp only
    refine nx_seq (nx_asgD (EvN.dat (en_lst (ea_cons (ev_callX (ea_cons (et_ix (e := eD) (ev_var (i := 2) rfl) ev_int h9) ea_nil) (mx_format_way h11)) (ea_cons (ev_callX (ea_cons (et_ix (e := eD) (ev_var (i := 2) rfl) ev_int h15) ea_nil) (mx_format_row h17)) ea_nil)))) (congrArg (eL PyData.str) h19) ?_)
    obtain ⟨h20, k⟩ := k
    try dsimp only
    refine nx_seq (nx_forQ (e := PyData.int) k (fun (s21 : Unit) => [.no, .own (drwR p q), .dat ((eL eD) [(Wy.dd w1.wy), (rdd w3)]), .dat ((eL PyData.str) v_texts_18), .no, .no, .no, .no, .no, .no, .no, .no]) (eiR1 (ea_cons ev_int ea_nil) h20) rfl (fun _ _ q29 hN26 hB27 hR28 x23 s21 F24 hb25 k => ?_) (fun s22 k => ?_))
    · refine ⟨_, _, tg_name, ?_⟩
      obtain ⟨b38, h39, k⟩ := k
      obtain ⟨b42, h43, k⟩ := k
      obtain ⟨b44, h45, k⟩ := k
      obtain ⟨b64, h65, k⟩ := k
      refine nx_if (et_orO (et_test (ev_neS (et_ix (e := PyData.str) (ev_var (i := 3) rfl) (ev_var (i := 4) rfl) h39) (ev_call (ea_cons (ev_var (i := 4) rfl) (ea_cons (et_ix (e := eD) (ev_var (i := 2) rfl) (ev_var (i := 4) rfl) h43) ea_nil)) (mx__law_words h45)))) h65 (fun hb hm => by obtain ⟨b56, h57, hm⟩ := oo_some hm; obtain ⟨b58, h59, hm⟩ := oo_some hm; replace h59 := M.o_some h59; obtain ⟨b60, h61, hm⟩ := oo_some hm; obtain ⟨h62, hm⟩ := og_some hm; obtain ⟨h63, hm⟩ := og_some hm; exact EvT.to (et_test (ev_neD (x := (eD b58)) (y := (eD b60)) (ev_call (ea_cons (ev_var (i := 4) rfl) (ea_cons (et_ix (e := PyData.str) (ev_var (i := 3) rfl) (ev_var (i := 4) rfl) h57) ea_nil)) (mx__law_parsed h59)) (et_ix (e := eD) (ev_var (i := 2) rfl) (ev_var (i := 4) rfl) h61) h62 h63)) (Option.some.inj hm))) (fun c66 => ?_) (fun c66 => ?_)
      · replace k := ps_t k c66
        try dsimp only
        exact law_ret (EvD.to ev_bl (congrArg PyData.bool ((hR28 _ k)))) kk0
      · replace k := ps_f k c66
        refine nx_next ?_
        refine nx_forgets [4] ?_
        exact nx_lp (α := Unit) () (hN26 _ k) rfl
    try dsimp only
    obtain ⟨v_marks_67, h68, k⟩ := k
    try dsimp only
    refine nx_seq (nx_asgD (EvN.dat (en_lst (ea_cons ev_str (ea_cons ev_str (ea_cons ev_str (ea_cons ev_str (ea_cons ev_str (ea_cons ev_str (ea_cons ev_str (ea_cons ev_str (ea_cons ev_str (ea_cons ev_str (ea_cons ev_str (ea_cons ev_str (ea_cons ev_str (ea_cons ev_str ea_nil)))))))))))))))) (congrArg (eL PyData.str) h68) ?_)
    obtain ⟨h69, k⟩ := k
    try dsimp only
    refine nx_seq (nx_forQ (e := PyData.int) k (fun (s70 : Unit) => [.no, .own (drwR p q), .dat ((eL eD) [(Wy.dd w1.wy), (rdd w3)]), .dat ((eL PyData.str) v_texts_18), .no, .dat ((eL PyData.str) v_marks_67), .no, .no, .no, .no, .no, .no]) (eiR1 (ea_cons ev_int ea_nil) h69) rfl (fun _ _ q78 hN75 hB76 hR77 x72 s70 F73 hb74 k => ?_) (fun s71 k => ?_))
    · refine ⟨_, _, tg_name, ?_⟩
      obtain ⟨h81, k⟩ := k
      try dsimp only
      refine nx_seq (nx_asgP (P := fun d => ∃ w79 : Int, (0 ≤ w79 ∧ w79 < (2 : Int)) ∧ d = PyData.int w79) (nd_draw (i := 1) rfl ev_int h81) ?_)
      rintro d_ ⟨w79, c80, e_⟩
      subst e_
      replace k := k w79 c80
      obtain ⟨b82, h83, k⟩ := k
      try dsimp only
      refine nx_seq (nx_asgD (d' := PyData.str b82) (et_ix (e := PyData.str) (ev_var (i := 3) rfl) (ev_var (i := 4) rfl) h83) rfl ?_)
      obtain ⟨h87, k⟩ := k
      obtain ⟨h88, k⟩ := k
      try dsimp only
      refine nx_seq (nx_asgP (P := fun d => ∃ w84 : Int, (0 ≤ w84 ∧ w84 < (((Str.length b82 : Nat) : Int) + (1 : Int))) ∧ d = PyData.int w84) (nd_draw (i := 1) rfl (ev_add (ev_lenS (ev_var (i := 7) rfl) h87) ev_int) h88) ?_)
      rintro d_ ⟨w84, c85, e_⟩
      subst e_
      replace k := k w84 c85
      obtain ⟨h91, k⟩ := k
      try dsimp only
      refine nx_seq (nx_asgP (P := fun d => ∃ w89 : Str, (w89 ∈ v_marks_67) ∧ d = PyData.str w89) (nd_pick (e := PyData.str) (xs := v_marks_67) (i := 1) rfl (ev_var (i := 5) rfl) h91) ?_)
      rintro d_ ⟨w89, c90, e_⟩
      subst e_
      replace k := k w89 c90
      obtain ⟨h99, k⟩ := k
      obtain ⟨h100, k⟩ := k
      obtain ⟨h101, k⟩ := k
      obtain ⟨h102, k⟩ := k
      obtain ⟨h108, k⟩ := k
      obtain ⟨h109, k⟩ := k
      obtain ⟨h110, k⟩ := k
      obtain ⟨h111, k⟩ := k
      obtain ⟨h124, k⟩ := k
      obtain ⟨h125, k⟩ := k
      obtain ⟨h126, k⟩ := k
      obtain ⟨h127, k⟩ := k
      obtain ⟨h128, k⟩ := k
      obtain ⟨h129, k⟩ := k
      try dsimp only
      refine nx_seq (nx_asgP (P := fun d => ∃ w92 : Str, (w92 ∈ [(((Txt.slice b82 none (some w84)) ++ w89) ++ (Txt.slice b82 (some (w84 + (1 : Int))) none)), (((Txt.slice b82 none (some w84)) ++ w89) ++ (Txt.slice b82 (some w84) none)), ((((Txt.slice b82 none (some w84)) ++ ("," : Str)) ++ w89) ++ (Txt.slice b82 (some w84) none))]) ∧ d = PyData.str w92) (nd_pick (e := PyData.str) (xs := [(((Txt.slice b82 none (some w84)) ++ w89) ++ (Txt.slice b82 (some (w84 + (1 : Int))) none)), (((Txt.slice b82 none (some w84)) ++ w89) ++ (Txt.slice b82 (some w84) none)), ((((Txt.slice b82 none (some w84)) ++ ("," : Str)) ++ w89) ++ (Txt.slice b82 (some w84) none))]) (i := 1) rfl (EvN.dat (en_lst (ea_cons (ev_catS (ev_catS (ev_slS (ev_var (i := 7) rfl) eo_none (eo_some (ev_var (i := 8) rfl)) h99) (ev_var (i := 9) rfl) h100) (ev_slS (ev_var (i := 7) rfl) (eo_some (ev_add (ev_var (i := 8) rfl) ev_int)) eo_none h101) h102) (ea_cons (ev_catS (ev_catS (ev_slS (ev_var (i := 7) rfl) eo_none (eo_some (ev_var (i := 8) rfl)) h108) (ev_var (i := 9) rfl) h109) (ev_slS (ev_var (i := 7) rfl) (eo_some (ev_var (i := 8) rfl)) eo_none h110) h111) (ea_cons (ev_catS (ev_catS (ev_catS (ev_slS (ev_var (i := 7) rfl) eo_none (eo_some (ev_var (i := 8) rfl)) h124) ev_str h125) (ev_var (i := 9) rfl) h126) (ev_slS (ev_var (i := 7) rfl) (eo_some (ev_var (i := 8) rfl)) eo_none h127) h128) ea_nil))))) h129) ?_)
      rintro d_ ⟨w92, c93, e_⟩
      subst e_
      replace k := k w92 c93
      obtain ⟨b130, h131, k⟩ := k
      try dsimp only
      refine nx_seq (nx_asgD (d' := eD b130) (ev_call (ea_cons (ev_var (i := 4) rfl) (ea_cons (ev_var (i := 10) rfl) ea_nil)) (mx__law_parsed h131)) rfl ?_)
      obtain ⟨h132, k⟩ := k
      obtain ⟨h133, k⟩ := k
      obtain ⟨b138, h139, k⟩ := k
      try dsimp only
      refine nx_seq (nx_if (et_andO (et_test (ev_neD (x := (eD b130)) (y := (PyData.str ("text" : Str))) (ev_var (i := 11) rfl) ev_str h132 h133)) h139 (fun hb hm => by obtain ⟨b136, h137, hm⟩ := oo_some hm; replace h137 := M.o_some h137; exact EvT.to (et_test (ev_neS (ev_call (ea_cons (ev_var (i := 4) rfl) (ea_cons (ev_var (i := 11) rfl) ea_nil)) (mx__law_words h137)) (ev_var (i := 10) rfl))) (Option.some.inj hm))) (fun c140 => ?_) (fun c140 => ?_))
      · replace k := ps_t k c140
        try dsimp only
        exact law_ret (EvD.to ev_bl (congrArg PyData.bool ((hR77 _ k)))) kk0
      · replace k := ps_f k c140
        refine nx_next ?_
        try dsimp only
        obtain ⟨h141, k⟩ := k
        obtain ⟨h142, k⟩ := k
        obtain ⟨b149, h150, k⟩ := k
        refine nx_if (et_andO (et_test (ev_neD (x := (eD b130)) (y := (PyData.str ("text" : Str))) (ev_var (i := 11) rfl) ev_str h141 h142)) h150 (fun hb hm => by obtain ⟨b147, h148, hm⟩ := oo_some hm; exact EvT.to (et_test (ev_notB (ev_ifO (e := PyData.bool) (et_test (ev_eqI (ev_var (i := 4) rfl) ev_int)) h148 (fun hb hm => by obtain ⟨b143, h144, hm⟩ := oo_some hm; replace h144 := M.o_some h144;  exact EvD.to (d := PyData.bool b143) (ev_call (ea_cons (ev_var (i := 11) rfl) ea_nil) (mkw_is_way h144)) (congrArg PyData.bool (Option.some.inj hm))) (fun hb hm => by obtain ⟨b145, h146, hm⟩ := oo_some hm; replace h146 := M.o_some h146;  exact EvD.to (d := PyData.bool b145) (ev_call (ea_cons (ev_var (i := 11) rfl) ea_nil) (mkw_is_row h146)) (congrArg PyData.bool (Option.some.inj hm)))) ev_bl)) (Option.some.inj hm))) (fun c151 => ?_) (fun c151 => ?_)
        · replace k := ps_t k c151
          try dsimp only
          exact law_ret (EvD.to ev_bl (congrArg PyData.bool ((hR77 _ k)))) kk0
        · replace k := ps_f k c151
          refine nx_next ?_
          refine nx_forgets [4, 7, 8, 9, 10, 11, 6] ?_
          exact nx_lp (α := Unit) () (hN75 _ k) rfl
    try dsimp only
    obtain ⟨b152, h153, k⟩ := k
    try dsimp only
    exact law_ret (EvD.to (ev_call ea_nil (mx__law_rejected h153)) (congrArg PyData.bool (k))) kk0
theorem ok_law (T : Tx K mg) : FnOk P w K mg base CX0 7 T.f_law T.d_law ["script"] (spLaw K) := ok_law_of T law_true
end

def fn_ : List He.DefD := ([⟨("is_int", none), "is_int", "is_int", defArgs (tS 8), defBody (tS 8), defScope (tS 8), [], []⟩,
  ⟨("is_number", none), "is_number", "is_number", defArgs (tS 15), defBody (tS 15), defScope (tS 15), [], []⟩,
  ⟨("is_row", none), "is_row", "is_row", defArgs (tS 16), defBody (tS 16), defScope (tS 16), [], []⟩,
  ⟨("check_row", none), "check_row", "check_row", defArgs (tS 17), defBody (tS 17), defScope (tS 17), [], []⟩,
  ⟨("is_word", none), "is_word", "is_word", defArgs (tS 18), defBody (tS 18), defScope (tS 18), [], []⟩,
  ⟨("is_way", none), "is_way", "is_way", defArgs (tS 19), defBody (tS 19), defScope (tS 19), [], []⟩,
  ⟨("check_way", none), "check_way", "check_way", defArgs (tS 20), defBody (tS 20), defScope (tS 20), [], []⟩,
  ⟨("format_way", none), "format_way", "format_way", defArgs (tS 22), defBody (tS 22), defScope (tS 22), [], []⟩,
  ⟨("format_row", none), "format_row", "format_row", defArgs (tS 23), defBody (tS 23), defScope (tS 23), [], []⟩,
  ⟨("check_text", none), "check_text", "check_text", defArgs (tS 24), defBody (tS 24), defScope (tS 24), [], []⟩,
  ⟨("item_in", none), "item_in", "item_in", defArgs (tS 25), defBody (tS 25), defScope (tS 25), [], []⟩,
  ⟨("parse_way", none), "parse_way", "parse_way", defArgs (tS 26), defBody (tS 26), defScope (tS 26), [], []⟩,
  ⟨("number_in", none), "number_in", "number_in", defArgs (tS 27), defBody (tS 27), defScope (tS 27), [], []⟩,
  ⟨("parse_row", none), "parse_row", "parse_row", defArgs (tS 28), defBody (tS 28), defScope (tS 28), [], []⟩,
  ⟨("_law_start", none), "_law_start", "_law_start", defArgs (tS 30), defBody (tS 30), defScope (tS 30), [], []⟩] : List He.DefD) ++ ([⟨("_law_draw", none), "_law_draw", "_law_draw", defArgs (tS 31), defBody (tS 31), defScope (tS 31), [], []⟩,
  ⟨("_law_pick", none), "_law_pick", "_law_pick", defArgs (tS 32), defBody (tS 32), defScope (tS 32), [], []⟩,
  ⟨("_law_error", none), "_law_error", "_law_error", defArgs (tS 33), defBody (tS 33), defScope (tS 33), [], []⟩,
  ⟨("_law_steps", none), "_law_steps", "_law_steps", defArgs (tS 34), defBody (tS 34), defScope (tS 34), [], []⟩,
  ⟨("_law_modes", none), "_law_modes", "_law_modes", defArgs (tS 35), defBody (tS 35), defScope (tS 35), [], []⟩,
  ⟨("_law_way", none), "_law_way", "_law_way", defArgs (tS 36), defBody (tS 36), defScope (tS 36), [], []⟩,
  ⟨("_law_row", none), "_law_row", "_law_row", defArgs (tS 37), defBody (tS 37), defScope (tS 37), [], []⟩,
  ⟨("_law_parsed", none), "_law_parsed", "_law_parsed", defArgs (tS 38), defBody (tS 38), defScope (tS 38), [], []⟩,
  ⟨("_law_words", none), "_law_words", "_law_words", defArgs (tS 39), defBody (tS 39), defScope (tS 39), [], []⟩,
  ⟨("_law_rejected", none), "_law_rejected", "_law_rejected", defArgs (tS 40), defBody (tS 40), defScope (tS 40), [], []⟩,
  ⟨("law", none), "law", "law", defArgs (tS 41), defBody (tS 41), defScope (tS 41), [], []⟩] : List He.DefD)
def fa_ : List He.Fa := ([.glo "is_int", .glo "is_number", .glo "is_row", .glo "check_row", .glo "is_word", .glo "is_way", .glo "check_way", .glo "format_way", .glo "format_row", .glo "check_text", .glo "item_in", .glo "parse_way", .glo "number_in", .glo "parse_row", .glo "_law_start", .glo "_law_draw", .glo "_law_pick", .glo "_law_error", .glo "_law_steps", .glo "_law_modes"] : List He.Fa) ++ ([.glo "_law_way", .glo "_law_row", .glo "_law_parsed", .glo "_law_words", .glo "_law_rejected", .glo "law", .int "WIDEST" (4), .int "MOST_ROW" (30), .glo "STEPS", .glo "MODES", .glo "CARRIES", .free "ValueError", .free "all", .free "bool", .free "int", .free "isinstance", .free "len", .free "list", .free "range", .free "str"] : List He.Fa) ++ ([.free "tuple", .glo "RestError", .glo "BadWay", .glo "BadRow", .glo "BadWritten", .glo "BadNumber", .glo "BadText", .glo "NotFound"] : List He.Fa)
def ex_ (K : FK) : Bool := conB K "STEPS" (.tuple [.tuple [.int 2, .int 1], .tuple [.int 3, .int 1], .tuple [.int 4, .int 1], .tuple [.int 4, .int 2], .tuple [.int 6, .int 1], .tuple [.int 6, .int 2], .tuple [.int 6, .int 3]]) && (conB K "MODES" (.tuple [.str "down", .str "up", .str "in", .str "out", .str "neardown", .str "nearup", .str "nearin", .str "nearout", .str "neareven", .str "nearodd"]) && (conB K "CARRIES" (.tuple [.str "none", .str "all", .str "signs", .str "pairs"]) && (kitsB K)))
abbrev R_ : PySem.W.OpenRow := PySem.W.OpenLaw.row PySem.Challenge.rw_carriedrests_k15_whole_texts
abbrev hk_ : PySem.W.Hook := He.hookX 5 fa_ fn_ [] [] ex_
def ob_ (s : PySem.W.SharedT) : He.AlX := He.obsX 5 fa_ fn_ [] [] ex_ (HandSHeadRun.getT s)
theorem ob_eq (s : PySem.W.SharedT) : ob_ s = hk_.obs s.abs := He.obsX_eq (HandSHeadRun.getT_eq s)
def loose_ : List Str := (["is_int", "is_number", "is_row", "check_row", "is_word", "is_way", "check_way", "format_way", "format_row", "check_text", "item_in", "parse_way", "number_in", "parse_row", "_law_start"] : List Str) ++ (["_law_draw", "_law_pick", "_law_error", "_law_steps", "_law_modes", "_law_way", "_law_row", "_law_parsed", "_law_words", "_law_rejected", "WIDEST", "MOST_ROW", "STEPS", "MODES", "CARRIES"] : List Str) ++ (["RestError", "BadWay", "BadRow", "BadWritten", "BadNumber", "BadText", "NotFound"] : List Str)
theorem run_ (w : World) : HandSHeadRun.RunEq R_ (PySem.W.view R_.prog [41]) hk_ ob_ 4000 loose_ w := by
  intro os
  kernel_rfl
theorem tx_of {w : World} {K : FK} {h : Heap} {mg : Str → Option Value} (X : K.In h) (G : h.Ns mainGlobals mg) (c : He.SaysX fa_ fn_ [] [] ex_ w h K) : ∃ T : Tx K mg, T.f_law = He.ga K "law" := by
  have c0 := c.t.d
  have cx : ex_ K = true := c.more
  unfold ex_ at cx
  simp only [Bool.and_eq_true] at cx
  obtain ⟨x0, x1, x2, x3⟩ := cx
  obtain ⟨d0, F0⟩ := c0.def_ 0 rfl
  obtain ⟨d1, F1⟩ := c0.def_ 1 rfl
  obtain ⟨d2, F2⟩ := c0.def_ 2 rfl
  obtain ⟨d3, F3⟩ := c0.def_ 3 rfl
  obtain ⟨d4, F4⟩ := c0.def_ 4 rfl
  obtain ⟨d5, F5⟩ := c0.def_ 5 rfl
  obtain ⟨d6, F6⟩ := c0.def_ 6 rfl
  obtain ⟨d7, F7⟩ := c0.def_ 7 rfl
  obtain ⟨d8, F8⟩ := c0.def_ 8 rfl
  obtain ⟨d9, F9⟩ := c0.def_ 9 rfl
  obtain ⟨d10, F10⟩ := c0.def_ 10 rfl
  obtain ⟨d11, F11⟩ := c0.def_ 11 rfl
  obtain ⟨d12, F12⟩ := c0.def_ 12 rfl
  obtain ⟨d13, F13⟩ := c0.def_ 13 rfl
  obtain ⟨d14, F14⟩ := c0.def_ 14 rfl
  obtain ⟨d15, F15⟩ := c0.def_ 15 rfl
  obtain ⟨d16, F16⟩ := c0.def_ 16 rfl
  obtain ⟨d17, F17⟩ := c0.def_ 17 rfl
  obtain ⟨d18, F18⟩ := c0.def_ 18 rfl
  obtain ⟨d19, F19⟩ := c0.def_ 19 rfl
  obtain ⟨d20, F20⟩ := c0.def_ 20 rfl
  obtain ⟨d21, F21⟩ := c0.def_ 21 rfl
  obtain ⟨d22, F22⟩ := c0.def_ 22 rfl
  obtain ⟨d23, F23⟩ := c0.def_ 23 rfl
  obtain ⟨d24, F24⟩ := c0.def_ 24 rfl
  obtain ⟨d25, F25⟩ := c0.def_ 25 rfl
  obtain ⟨t_WIDEST, g_WIDEST⟩ := He.int_ok X G (c0.fact 26 (f := .int "WIDEST" (4)) rfl)
  obtain ⟨t_MOST_ROW, g_MOST_ROW⟩ := He.int_ok X G (c0.fact 27 (f := .int "MOST_ROW" (30)) rfl)
  let T : Tx K mg := {
    f_is_int := He.ga K "is_int"
    d_is_int := d0
    F_is_int := funD_fun F0
    g_is_int := He.glo_ok X G (c0.fact 0 (f := .glo "is_int") rfl)
    f_is_number := He.ga K "is_number"
    d_is_number := d1
    F_is_number := funD_fun F1
    g_is_number := He.glo_ok X G (c0.fact 1 (f := .glo "is_number") rfl)
    f_is_row := He.ga K "is_row"
    d_is_row := d2
    F_is_row := funD_fun F2
    g_is_row := He.glo_ok X G (c0.fact 2 (f := .glo "is_row") rfl)
    f_check_row := He.ga K "check_row"
    d_check_row := d3
    F_check_row := funD_fun F3
    g_check_row := He.glo_ok X G (c0.fact 3 (f := .glo "check_row") rfl)
    f_is_word := He.ga K "is_word"
    d_is_word := d4
    F_is_word := funD_fun F4
    g_is_word := He.glo_ok X G (c0.fact 4 (f := .glo "is_word") rfl)
    f_is_way := He.ga K "is_way"
    d_is_way := d5
    F_is_way := funD_fun F5
    g_is_way := He.glo_ok X G (c0.fact 5 (f := .glo "is_way") rfl)
    f_check_way := He.ga K "check_way"
    d_check_way := d6
    F_check_way := funD_fun F6
    g_check_way := He.glo_ok X G (c0.fact 6 (f := .glo "check_way") rfl)
    f_format_way := He.ga K "format_way"
    d_format_way := d7
    F_format_way := funD_fun F7
    g_format_way := He.glo_ok X G (c0.fact 7 (f := .glo "format_way") rfl)
    f_format_row := He.ga K "format_row"
    d_format_row := d8
    F_format_row := funD_fun F8
    g_format_row := He.glo_ok X G (c0.fact 8 (f := .glo "format_row") rfl)
    f_check_text := He.ga K "check_text"
    d_check_text := d9
    F_check_text := funD_fun F9
    g_check_text := He.glo_ok X G (c0.fact 9 (f := .glo "check_text") rfl)
    f_item_in := He.ga K "item_in"
    d_item_in := d10
    F_item_in := funD_fun F10
    g_item_in := He.glo_ok X G (c0.fact 10 (f := .glo "item_in") rfl)
    f_parse_way := He.ga K "parse_way"
    d_parse_way := d11
    F_parse_way := funD_fun F11
    g_parse_way := He.glo_ok X G (c0.fact 11 (f := .glo "parse_way") rfl)
    f_number_in := He.ga K "number_in"
    d_number_in := d12
    F_number_in := funD_fun F12
    g_number_in := He.glo_ok X G (c0.fact 12 (f := .glo "number_in") rfl)
    f_parse_row := He.ga K "parse_row"
    d_parse_row := d13
    F_parse_row := funD_fun F13
    g_parse_row := He.glo_ok X G (c0.fact 13 (f := .glo "parse_row") rfl)
    f__law_start := He.ga K "_law_start"
    d__law_start := d14
    F__law_start := funD_fun F14
    g__law_start := He.glo_ok X G (c0.fact 14 (f := .glo "_law_start") rfl)
    f__law_draw := He.ga K "_law_draw"
    d__law_draw := d15
    F__law_draw := funD_fun F15
    g__law_draw := He.glo_ok X G (c0.fact 15 (f := .glo "_law_draw") rfl)
    f__law_pick := He.ga K "_law_pick"
    d__law_pick := d16
    F__law_pick := funD_fun F16
    g__law_pick := He.glo_ok X G (c0.fact 16 (f := .glo "_law_pick") rfl)
    f__law_error := He.ga K "_law_error"
    d__law_error := d17
    F__law_error := funD_fun F17
    g__law_error := He.glo_ok X G (c0.fact 17 (f := .glo "_law_error") rfl)
    f__law_steps := He.ga K "_law_steps"
    d__law_steps := d18
    F__law_steps := funD_fun F18
    g__law_steps := He.glo_ok X G (c0.fact 18 (f := .glo "_law_steps") rfl)
    f__law_modes := He.ga K "_law_modes"
    d__law_modes := d19
    F__law_modes := funD_fun F19
    g__law_modes := He.glo_ok X G (c0.fact 19 (f := .glo "_law_modes") rfl)
    f__law_way := He.ga K "_law_way"
    d__law_way := d20
    F__law_way := funD_fun F20
    g__law_way := He.glo_ok X G (c0.fact 20 (f := .glo "_law_way") rfl)
    f__law_row := He.ga K "_law_row"
    d__law_row := d21
    F__law_row := funD_fun F21
    g__law_row := He.glo_ok X G (c0.fact 21 (f := .glo "_law_row") rfl)
    f__law_parsed := He.ga K "_law_parsed"
    d__law_parsed := d22
    F__law_parsed := funD_fun F22
    g__law_parsed := He.glo_ok X G (c0.fact 22 (f := .glo "_law_parsed") rfl)
    f__law_words := He.ga K "_law_words"
    d__law_words := d23
    F__law_words := funD_fun F23
    g__law_words := He.glo_ok X G (c0.fact 23 (f := .glo "_law_words") rfl)
    f__law_rejected := He.ga K "_law_rejected"
    d__law_rejected := d24
    F__law_rejected := funD_fun F24
    g__law_rejected := He.glo_ok X G (c0.fact 24 (f := .glo "_law_rejected") rfl)
    f_law := He.ga K "law"
    d_law := d25
    F_law := funD_fun F25
    g_law := He.glo_ok X G (c0.fact 25 (f := .glo "law") rfl)
    t_WIDEST := t_WIDEST
    g_WIDEST := g_WIDEST
    t_MOST_ROW := t_MOST_ROW
    g_MOST_ROW := g_MOST_ROW
    a_STEPS := He.ga K "STEPS"
    g_STEPS := He.glo_ok X G (c0.fact 28 (f := .glo "STEPS") rfl)
    k_STEPS := con_ok x0
    a_MODES := He.ga K "MODES"
    g_MODES := He.glo_ok X G (c0.fact 29 (f := .glo "MODES") rfl)
    k_MODES := con_ok x1
    a_CARRIES := He.ga K "CARRIES"
    g_CARRIES := He.glo_ok X G (c0.fact 30 (f := .glo "CARRIES") rfl)
    k_CARRIES := con_ok x2
    m_ValueError := He.free_ok X G (c0.fact 31 (f := .free "ValueError") rfl)
    m_all := He.free_ok X G (c0.fact 32 (f := .free "all") rfl)
    m_bool := He.free_ok X G (c0.fact 33 (f := .free "bool") rfl)
    m_int := He.free_ok X G (c0.fact 34 (f := .free "int") rfl)
    m_isinstance := He.free_ok X G (c0.fact 35 (f := .free "isinstance") rfl)
    m_len := He.free_ok X G (c0.fact 36 (f := .free "len") rfl)
    m_list := He.free_ok X G (c0.fact 37 (f := .free "list") rfl)
    m_range := He.free_ok X G (c0.fact 38 (f := .free "range") rfl)
    m_str := He.free_ok X G (c0.fact 39 (f := .free "str") rfl)
    m_tuple := He.free_ok X G (c0.fact 40 (f := .free "tuple") rfl)
    g_RestError := He.glo_ok X G (c0.fact 41 (f := .glo "RestError") rfl)
    g_BadWay := He.glo_ok X G (c0.fact 42 (f := .glo "BadWay") rfl)
    g_BadRow := He.glo_ok X G (c0.fact 43 (f := .glo "BadRow") rfl)
    g_BadWritten := He.glo_ok X G (c0.fact 44 (f := .glo "BadWritten") rfl)
    g_BadNumber := He.glo_ok X G (c0.fact 45 (f := .glo "BadNumber") rfl)
    g_BadText := He.glo_ok X G (c0.fact 46 (f := .glo "BadText") rfl)
    g_NotFound := He.glo_ok X G (c0.fact 47 (f := .glo "NotFound") rfl)
    ks := x3 }
  exact ⟨T, rfl⟩
theorem facts_ {P : Program} {w : World} {K : FK} {h : Heap} {mg : Str → Option Value} {f : Addr} (X : K.In h) (G : h.Ns mainGlobals mg) (hfa : mg ("law" : Str) = some (.ref f)) (c : He.SaysX fa_ fn_ [] [] ex_ w h K) :
    ∃ fd : FuncData, (∀ (s : Shared) (v : Value), BindsTo s fd ⟨[v], []⟩ [("script", v)]) ∧ ∀ base : Heap, K.In base → base.Ns mainGlobals mg → FnOk P w K mg base CX0 7 f fd ["script"] (spLaw K) := by
  obtain ⟨T, eT⟩ := tx_of X G c
  have e := hfa.symm.trans T.g_law
  cases e
  refine ⟨T.d_law, fun s v => ?_, fun base _ _ => ok_law T⟩
  obtain ⟨oc, od, kV, doc, pm, an, cdv, ct, osl, e, l, c'⟩ := T.F_law.ex
  rw [e]
  exact .of_eq rfl

end Pf

open PySem PySem.W PySem.Calls PyProof.Rows
set_option maxHeartbeats 0 in
theorem PySem.Challenge.cw_carriedrests_k15_whole_texts_holds : PySem.Challenge.rw_carriedrests_k15_whole_texts.Holds := by
  w_on; o_law
  refine HandSHeadRun.head_any (r := OpenLaw.row PySem.Challenge.rw_carriedrests_k15_whole_texts) (q := view (OpenLaw.row PySem.Challenge.rw_carriedrests_k15_whole_texts).prog [41]) (H := Pf.hk_) (ob := Pf.ob_) (M := 4000) (loose := Pf.loose_) (d := HandSHeadRun.topDef (OpenLaw.row PySem.Challenge.rw_carriedrests_k15_whole_texts).prog 41) (kwd := []) Pf.ob_eq
    (by kernel_rfl) (fun s => by kernel_rfl) Pf.run_ (by kernel_rfl) (by kernel_rfl) (by kernel_rfl) (by rfl) (by first | assumption | decide +kernel) (by decide +kernel) ⟨rfl, rfl, rfl, rfl, rfl, by decide +kernel⟩ ?hw ?hc
  case hw => w_witness2
  case hc =>
    refine L2.walk_ofE (l := PySem.Challenge.rw_carriedrests_k15_whole_texts) (n := 63) (k := 7) (x := "script") (CX := L2.CX0) rfl (by decide) (by kernel_rfl) ⟨rfl, by decide, by decide⟩ ?F (fun _ _ _ _ z => z)
    intro w mg fa h Y G hmg0
    obtain ⟨K, KX, c⟩ := Y
    have hmg : mg ("law" : PySem.Str) = some (.ref fa) := by
      have e : (HandSHeadRun.topDef (OpenLaw.row PySem.Challenge.rw_carriedrests_k15_whole_texts).prog 41).name = ("law" : PySem.Str) := by kernel_rfl
      rw [← e]
      exact hmg0
    obtain ⟨fd, hb, hF⟩ := Pf.facts_ (P := (PySem.Challenge.rw_carriedrests_k15_whole_texts).prog) (w := w) KX G hmg c
    exact ⟨K, fd, Ly.spLaw K, KX, hb, fun H a ns hl _ hS => ⟨a, ns, rfl, hS, hl, fun _ => rfl⟩, hF⟩
