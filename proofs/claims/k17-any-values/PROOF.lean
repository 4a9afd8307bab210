import PyProof.Rows.All
import Wide.All
import OpenK.AllK
import Wide.FinOn
import HandS.ForMost
import HandS.WideBits
import HandS.TupAny
import HandS.TupMul
import HandS.IsInst
import HandS.Style
import HandS.Zip
import HandS.Conv
import HandS.Property
import HandS.Flow
import PyProof.ReprRoads
import HandS.Deep
import HandS.Sort
import HandS.NoneIn
import KE.GoesEnum
import HandS.Words
import PyProof.InstNe
import HandS.FStr
import KE.KRevSl
import HandS.Dict
import PyProof.ReprReads
import OpenK.KOps
import PyProof.TupleKey
import HandS.Defaults
import PySem.Challenge.RW_keptbowls_k17_any_values_as_rows_and_wor
set_option Elab.async false
set_option linter.all false
set_option maxRecDepth 100000
set_option maxHeartbeats 2000000
set_option autoImplicit false
/-! KcA: data as plain Lean values, a small store of things that change, and what ties both to the abstract heap. -/
namespace Kb
open PySem PySem.Spec PyProof.Rows L2

inductive D where
  | non | bl (b : Bool) | int (i : Int) | str (x : Str)
  | lst (xs : List D) | tup (xs : List D)
  | dic (ks : List Key) (vs : List D)
  | obj (c : Nat) (fs : List D)
  | loc (n : Nat)
  | scr (ns : List Int)
  | rng (lo hi : Int)
  | own (xs : List D) | ownI (c : Nat) (fs : List D) | ownK (ks : List Key) (vs : List D)

inductive Cell where
  | lst (xs : List D) | frz (xs : List D) | ins (c : Nat) (fs : List D)
abbrev Mem := List Cell
/-- what a name holds alone: it may change -/
def isOwn : D → Bool
  | .own _ => true
  | .ownI _ _ => true
  | .ownK _ _ => true
  | _ => false

/-- what is fixed: the written part, the classes by number, their attributes' names -/
structure Cfg where
  K : PySem.W.Frag
  cls : Nat → Addr
  fld : Nat → List Str
  n : Nat

section
variable (G : Cfg) (r : List Addr) (F : Hp)
mutual
inductive Dat : V → D → Prop
  | non : Dat .non .non
  | bl (b : Bool) : Dat (.bl b) (.bl b)
  | int (i : Int) : Dat (.int i) (.int i)
  | str (x : Str) : Dat (.str x) (.str x)
  | lst {a : Addr} {vs : List V} {ds : List D} : F a = some (.lst vs) → Dats vs ds → Dat (.ref a) (.lst ds)
  | tup {a : Addr} {vs : List V} {ds : List D} : SqT G.K F a vs → Dats vs ds → Dat (.ref a) (.tup ds)
  | dic {a : Addr} {ks : List Key} {vs : List V} {ds : List D} : F a = some (.dK (ks.zip vs)) → ks.length = vs.length → Dats vs ds → Dat (.ref a) (.dic ks ds)
  | obj {a dx : Addr} {c : Nat} {vs : List V} {ds : List D} : F a = some (.ins (G.cls c) dx ((G.fld c).zip vs)) → vs.length = (G.fld c).length ∧ c < G.n → Dats vs ds → Dat (.ref a) (.obj c ds)
  | loc {a : Addr} {n : Nat} : r[n]? = some a → Dat (.ref a) (.loc n)
  | scr {a : Addr} {ns : List Int} : SqL G.K F a (ns.map V.int) → Dat (.ref a) (.scr ns)
  | rng {a : Addr} {lo hi : Int} : F a = some (.rng lo hi) → Dat (.ref a) (.rng lo hi)
inductive Dats : List V → List D → Prop
  | nil : Dats [] []
  | cons {v : V} {vs : List V} {d : D} {ds : List D} : Dat v d → Dats vs ds → Dats (v :: vs) (d :: ds)
end
end

/-- how what a name holds alone lies in the heap -/
def OwnAt (G : Cfg) (r : List Addr) (F H : Hp) (a : Addr) : D → Prop
  | .own ds => ∃ vs, H a = some (.lst vs) ∧ Dats G r F vs ds
  | .ownI c ds => ∃ (dx : Addr) (vs : List V), H a = some (.ins (G.cls c) dx ((G.fld c).zip vs)) ∧ (vs.length ≤ (G.fld c).length ∧ c < G.n) ∧ Dats G r F vs ds
  | .ownK ks ds => ∃ vs, H a = some (.dK (ks.zip vs)) ∧ ks.length = vs.length ∧ Dats G r F vs ds
  | _ => False

section
variable {G : Cfg} {r r' : List Addr} {F F' H H' : Hp}
theorem Dat.notOwn {v : V} {d : D} (h : Dat G r F v d) : isOwn d = false := by cases h <;> rfl

theorem sql_up {K : PySem.W.Frag} {a : Addr} {xs : List V} (e : ∀ a o, F a = some o → F' a = some o) (h : SqL K F a xs) : SqL K F' a xs := by
  rcases h with (h | ⟨o, h⟩) | h
  · exact .inl (.inl (e _ _ h))
  · exact .inl (.inr ⟨o, e _ _ h⟩)
  · exact .inr h
theorem sqt_up {K : PySem.W.Frag} {a : Addr} {xs : List V} (e : ∀ a o, F a = some o → F' a = some o) (h : SqT K F a xs) : SqT K F' a xs := by
  rcases h with (h | ⟨o, h⟩) | h
  · exact .inl (.inl (e _ _ h))
  · exact .inl (.inr ⟨o, e _ _ h⟩)
  · exact .inr h

theorem loc_up (p : r <+: r') {n : Nat} {a : Addr} (h : r[n]? = some a) : r'[n]? = some a := by
  obtain ⟨t, rfl⟩ := p
  rw [List.getElem?_append_left (List.getElem?_eq_some_iff.mp h).1]
  exact h

mutual
theorem Dat.up (p : r <+: r') (e : ∀ a o, F a = some o → F' a = some o) {v : V} {d : D} (h : Dat G r F v d) : Dat G r' F' v d :=
  match h with
  | .non => .non
  | .bl b => .bl b
  | .int i => .int i
  | .str x => .str x
  | .lst h1 h2 => .lst (e _ _ h1) (Dats.up p e h2)
  | .tup h1 h2 => .tup (sqt_up e h1) (Dats.up p e h2)
  | .dic h1 h2 h3 => .dic (e _ _ h1) h2 (Dats.up p e h3)
  | .obj h1 h2 h3 => .obj (e _ _ h1) h2 (Dats.up p e h3)
  | .loc h1 => .loc (loc_up p h1)
  | .scr h1 => .scr (sql_up e h1)
  | .rng h1 => .rng (e _ _ h1)
theorem Dats.up (p : r <+: r') (e : ∀ a o, F a = some o → F' a = some o) {vs : List V} {ds : List D} (h : Dats G r F vs ds) : Dats G r' F' vs ds :=
  match h with
  | .nil => .nil
  | .cons h1 h2 => .cons (Dat.up p e h1) (Dats.up p e h2)
end

theorem Dats.length : ∀ {vs : List V} {ds : List D}, Dats G r F vs ds → vs.length = ds.length
  | _, _, .nil => rfl
  | _, _, .cons _ t => congrArg Nat.succ t.length
theorem Dats.get : ∀ {vs : List V} {ds : List D} {i : Nat} {d : D}, Dats G r F vs ds → ds[i]? = some d → ∃ v, vs[i]? = some v ∧ Dat G r F v d
  | _, _, _, _, .nil, e => by simp at e
  | _, _, 0, _, .cons h _, e => by simp at e; subst e; exact ⟨_, rfl, h⟩
  | _, _, i + 1, _, .cons _ t, e => by
    obtain ⟨v, h1, h2⟩ := Dats.get (i := i) t (by simpa using e)
    exact ⟨v, by simpa using h1, h2⟩
theorem Dats.getV : ∀ {vs : List V} {ds : List D} {i : Nat} {v : V}, Dats G r F vs ds → vs[i]? = some v → ∃ d, ds[i]? = some d ∧ Dat G r F v d
  | _, _, _, _, .nil, e => by simp at e
  | _, _, 0, _, .cons h _, e => by simp at e; subst e; exact ⟨_, rfl, h⟩
  | _, _, i + 1, _, .cons _ t, e => by
    obtain ⟨v, h1, h2⟩ := Dats.getV (i := i) t (by simpa using e)
    exact ⟨v, by simpa using h1, h2⟩
theorem Dats.append : ∀ {vs ws : List V} {ds es : List D}, Dats G r F vs ds → Dats G r F ws es → Dats G r F (vs ++ ws) (ds ++ es)
  | _, _, _, _, .nil, s => s
  | _, _, _, _, .cons h t, s => .cons h (t.append s)
theorem Dats.set {v : V} {d : D} (h : Dat G r F v d) : ∀ {vs : List V} {ds : List D} (i : Nat), Dats G r F vs ds → Dats G r F (vs.set i v) (ds.set i d)
  | _, _, _, .nil => .nil
  | _, _, 0, .cons _ t => .cons h t
  | _, _, i + 1, .cons q t => .cons q (Dats.set h i t)
theorem Dats.take : ∀ {vs : List V} {ds : List D} (n : Nat), Dats G r F vs ds → Dats G r F (vs.take n) (ds.take n)
  | _, _, 0, _ => .nil
  | _, _, _ + 1, .nil => .nil
  | _, _, n + 1, .cons h t => .cons h (t.take n)
theorem Dats.drop : ∀ {vs : List V} {ds : List D} (n : Nat), Dats G r F vs ds → Dats G r F (vs.drop n) (ds.drop n)
  | _, _, 0, h => h
  | _, _, _ + 1, .nil => .nil
  | _, _, n + 1, .cons _ t => t.drop n
theorem Dats.rev : ∀ {vs : List V} {ds : List D}, Dats G r F vs ds → Dats G r F vs.reverse ds.reverse
  | _, _, .nil => .nil
  | _, _, .cons h t => by
    rw [List.reverse_cons, List.reverse_cons]
    exact t.rev.append (.cons h .nil)
theorem Dats.dropLast : ∀ {vs : List V} {ds : List D}, Dats G r F vs ds → Dats G r F vs.dropLast ds.dropLast := fun {vs ds} h => by
  rw [List.dropLast_eq_take, List.dropLast_eq_take, h.length]
  exact h.take _
theorem Dats.rep {v : V} {d : D} (h : Dat G r F v d) : ∀ n : Nat, Dats G r F (List.replicate n v) (List.replicate n d)
  | 0 => .nil
  | n + 1 => .cons h (Dats.rep h n)
theorem Dats.flat {vs : List V} {ds : List D} (h : Dats G r F vs ds) : ∀ n : Nat, Dats G r F (List.replicate n vs).flatten (List.replicate n ds).flatten
  | 0 => .nil
  | n + 1 => by
    rw [List.replicate_succ, List.replicate_succ, List.flatten_cons, List.flatten_cons]
    exact h.append (Dats.flat h n)
theorem Dats.of_map {α : Type} {f : α → V} {g : α → D} (h : ∀ x, Dat G r F (f x) (g x)) : ∀ xs : List α, Dats G r F (xs.map f) (xs.map g)
  | [] => .nil
  | x :: xs => .cons (h x) (Dats.of_map h xs)
theorem Dats.ints {vs : List V} : ∀ {ns : List Int}, Dats G r F vs (ns.map D.int) → vs = ns.map V.int := fun {ns} h => by
  induction ns generalizing vs with
  | nil => cases h; rfl
  | cons n ns ih =>
    cases h with
    | cons h t =>
      cases h
      rw [ih t]
      rfl
theorem Dats.bls {vs : List V} : ∀ {ns : List Bool}, Dats G r F vs (ns.map D.bl) → vs = ns.map V.bl := fun {ns} h => by
  induction ns generalizing vs with
  | nil => cases h; rfl
  | cons n ns ih =>
    cases h with
    | cons h t =>
      cases h
      rw [ih t]
      rfl

/-- how one thing of the store lies in the heap -/
def CellR (G : Cfg) (r : List Addr) (F H : Hp) (a : Addr) : Cell → Prop
  | .lst ds => F a = none ∧ ∃ vs, H a = some (.lst vs) ∧ Dats G r F vs ds
  | .frz ds => ∃ vs, F a = some (.lst vs) ∧ Dats G r F vs ds
  | .ins c ds => F a = none ∧ ∃ (dx : Addr) (vs : List V), H a = some (.ins (G.cls c) dx ((G.fld c).zip vs)) ∧ (vs.length ≤ (G.fld c).length ∧ c < G.n) ∧ Dats G r F vs ds

/-- store and heap: F the part that never changes any more, r where the store's things stand -/
structure Rel (G : Cfg) (r : List Addr) (F : Hp) (m : Mem) (H : Hp) : Prop where
  sub : ∀ a o, F a = some o → H a = some o
  len : r.length = m.length
  inj : r.Nodup
  cell : ∀ (n : Nat) (a : Addr) (c : Cell), r[n]? = some a → m[n]? = some c → CellR G r F H a c
  own : ∀ a ∈ r, H a ≠ none

/-- from one moment to a later one -/
structure Ext (r r' : List Addr) (F F' H H' : Hp) : Prop where
  pre : r <+: r'
  fr : ∀ a o, F a = some o → F' a = some o
  keep : ∀ b o, H b = some o → b ∉ r → H' b = some o
  new : ∀ a ∈ r', a ∈ r ∨ H a = none
  dom : ∀ b, H' b = none → H b = none
  frn : ∀ b, F b = none → H b ≠ none → b ∉ r → F' b = none

/-- the same, but what stands at the places O may change -/
structure ExtO (O : Addr → Prop) (r r' : List Addr) (F F' H H' : Hp) : Prop where
  pre : r <+: r'
  fr : ∀ a o, F a = some o → F' a = some o
  keep : ∀ b o, H b = some o → b ∉ r → ¬ O b → H' b = some o
  new : ∀ a ∈ r', a ∈ r ∨ H a = none
  dom : ∀ b, H' b = none → H b = none
  frn : ∀ b, F b = none → H b ≠ none → b ∉ r → ¬ O b → F' b = none
theorem Ext.toO (O : Addr → Prop) (e : Ext r r' F F' H H') : ExtO O r r' F F' H H' := ⟨e.pre, e.fr, fun b o h n _ => e.keep b o h n, e.new, e.dom, fun b h h1 n _ => e.frn b h h1 n⟩
theorem ExtO.toE {O : Addr → Prop} (e : ExtO O r r' F F' H H') (h : ∀ a, ¬ O a) : Ext r r' F F' H H' := ⟨e.pre, e.fr, fun b o h1 n => e.keep b o h1 n (h b), e.new, e.dom, fun b h1 h2 n => e.frn b h1 h2 n (h b)⟩
theorem ExtO.refl {O : Addr → Prop} : ExtO O r r F F H H := ⟨List.prefix_refl _, fun _ _ h => h, fun _ _ h _ _ => h, fun _ h => .inl h, fun _ h => h, fun _ h _ _ _ => h⟩
theorem ExtO.trans {O O' : Addr → Prop} {r1 r2 r3 : List Addr} {F1 F2 F3 H1 H2 H3 : Hp} (a : ExtO O r1 r2 F1 F2 H1 H2) (b : ExtO O' r2 r3 F2 F3 H2 H3) (h : ∀ x, O' x → O x ∨ H1 x = none) : ExtO O r1 r3 F1 F3 H1 H3 where
  pre := a.pre.trans b.pre
  fr := fun x o h => b.fr x o (a.fr x o h)
  keep := fun x o h1 n no => b.keep x o (a.keep x o h1 n no) (fun q => (a.new x q).elim n fun z => by rw [h1] at z; cases z) fun q => (h x q).elim no fun z => by rw [h1] at z; cases z
  new := fun x h => (b.new x h).elim (a.new x) fun z => .inr (a.dom x z)
  dom := fun x h => a.dom x (b.dom x h)
  frn := fun x h0 h1 n no => b.frn x (a.frn x h0 h1 n no) (fun z => h1 (a.dom x z)) (fun q => (a.new x q).elim n h1) fun q => (h x q).elim no h1
theorem Ext.refl : Ext r r F F H H := ⟨List.prefix_refl _, fun _ _ h => h, fun _ _ h _ => h, fun _ h => .inl h, fun _ h => h, fun _ h _ _ => h⟩
theorem Ext.trans {r1 r2 r3 : List Addr} {F1 F2 F3 H1 H2 H3 : Hp} (a : Ext r1 r2 F1 F2 H1 H2) (b : Ext r2 r3 F2 F3 H2 H3) : Ext r1 r3 F1 F3 H1 H3 where
  pre := a.pre.trans b.pre
  fr := fun x o h => b.fr x o (a.fr x o h)
  keep := fun x o h n => b.keep x o (a.keep x o h n) fun q => (a.new x q).elim n fun z => by rw [h] at z; cases z
  new := fun x h => (b.new x h).elim (a.new x) fun z => .inr (a.dom x z)
  dom := fun x h => a.dom x (b.dom x h)
  frn := fun x h h1 n => b.frn x (a.frn x h h1 n) (fun z => h1 (a.dom x z)) fun q => (a.new x q).elim n h1
theorem Dat.ext {v : V} {d : D} (h : Dat G r F v d) (e : Ext r r' F F' H H') : Dat G r' F' v d := h.up e.pre e.fr
theorem Dats.ext {v : List V} {d : List D} (h : Dats G r F v d) (e : Ext r r' F F' H H') : Dats G r' F' v d := h.up e.pre e.fr

theorem CellR.up {a : Addr} {c : Cell} {m : Mem} (h : CellR G r F H a c) (p : r <+: r') (e : ∀ a o, F a = some o → F' a = some o) (hn : F a = none → F' a = none) (hh : ∀ o, H a = some o → H' a = some o) : CellR G r' F' H' a c := by
  cases c with
  | lst ds =>
    obtain ⟨h1, vs, h2, h3⟩ := h
    exact ⟨hn h1, vs, hh _ h2, h3.up p e⟩
  | frz ds =>
    obtain ⟨vs, h2, h3⟩ := h
    exact ⟨vs, e _ _ h2, h3.up p e⟩
  | ins c ds =>
    obtain ⟨h1, dx, vs, h2, h3, h4⟩ := h
    exact ⟨hn h1, dx, vs, hh _ h2, h3, h4.up p e⟩

/-- a new thing that never changes -/
theorem Rel.new {m : Mem} {p : Addr} {o : HO} (R : Rel G r F m H) (hp : H p = none) : Rel G r (upd F p o) m (upd H p o) ∧ Ext r r F (upd F p o) H (upd H p o) := by
  have fp : F p = none := by
    cases q : F p with
    | none => rfl
    | some u => rw [R.sub _ _ q] at hp; cases hp
  have np : ∀ a ∈ r, a ≠ p := fun a ha e => R.own a ha (e ▸ hp)
  have fr : ∀ a u, F a = some u → upd F p o a = some u := fun a u h => by rw [upd_ne (ne_of_none h fp)]; exact h
  refine ⟨⟨fun a u h => ?_, R.len, R.inj, fun n a c h1 h2 => ?_, fun a ha => ?_⟩, ⟨List.prefix_refl _, fr, fun b u h _ => ?_, fun _ h => .inl h, fun b h => ?_, fun b h h1 _ => by rw [upd_ne (show b ≠ p from fun e => h1 (by rw [e]; exact hp))]; exact h⟩⟩
  · by_cases e : a = p
    · subst e; rw [upd_same] at h ⊢; exact h
    · rw [upd_ne e] at h ⊢; exact R.sub _ _ h
  · have ne := np a (List.mem_of_getElem? h1)
    exact (R.cell n a c h1 h2).up (m := m) (List.prefix_refl _) fr (fun z => by rw [upd_ne ne]; exact z) fun u z => by rw [upd_ne ne]; exact z
  · rw [upd_ne (np a ha)]; exact R.own a ha
  · rw [upd_ne (ne_of_none h hp)]; exact h
  · by_cases e : b = p
    · subst e; rw [upd_same] at h; cases h
    · rw [upd_ne e] at h; exact h
/-- what stands at a new place and is of no matter -/
theorem Rel.skip {m : Mem} {p : Addr} {o : HO} (R : Rel G r F m H) (hp : H p = none) : Rel G r F m (upd H p o) ∧ Ext r r F F H (upd H p o) := by
  have np : ∀ a ∈ r, a ≠ p := fun a ha e => R.own a ha (e ▸ hp)
  refine ⟨⟨fun a u h => ?_, R.len, R.inj, fun n a c h1 h2 => ?_, fun a ha => ?_⟩, ⟨List.prefix_refl _, fun _ _ h => h, fun b u h _ => ?_, fun _ h => .inl h, fun b h => ?_, fun _ h _ _ => h⟩⟩
  · rw [upd_ne (ne_of_none (R.sub _ _ h) hp)]; exact R.sub _ _ h
  · have ne := np a (List.mem_of_getElem? h1)
    exact (R.cell n a c h1 h2).up (m := m) (List.prefix_refl _) (fun _ _ h => h) (fun z => z) fun u z => by rw [upd_ne ne]; exact z
  · rw [upd_ne (np a ha)]; exact R.own a ha
  · rw [upd_ne (ne_of_none h hp)]; exact h
  · by_cases e : b = p
    · subst e; rw [upd_same] at h; cases h
    · rw [upd_ne e] at h; exact h
theorem sub_none {m : Mem} (R : Rel G r F m H) {p : Addr} (hp : H p = none) : F p = none := by
  cases q : F p with
  | none => rfl
  | some u => rw [R.sub _ _ q] at hp; cases hp
/-- a new thing of the store -/
theorem Rel.push {m : Mem} {p : Addr} {o : HO} {c : Cell} (R : Rel G r F m H) (hp : H p = none) (hc : CellR G (r ++ [p]) F (upd H p o) p c) : Rel G (r ++ [p]) F (m ++ [c]) (upd H p o) ∧ Ext r (r ++ [p]) F F H (upd H p o) := by
  have np : ∀ a ∈ r, a ≠ p := fun a ha e => R.own a ha (e ▸ hp)
  have pre : r <+: r ++ [p] := ⟨[p], rfl⟩
  refine ⟨⟨fun a u h => ?_, by simp [R.len], ?_, fun n a c' h1 h2 => ?_, fun a ha => ?_⟩, ⟨pre, fun _ _ h => h, fun b u h _ => ?_, fun a h => ?_, fun b h => ?_, fun _ h _ _ => h⟩⟩
  · rw [upd_ne (ne_of_none (R.sub _ _ h) hp)]; exact R.sub _ _ h
  · rw [List.nodup_append]
    refine ⟨R.inj, by simp, fun a ha b hb => ?_⟩
    rw [List.mem_singleton] at hb
    subst hb
    exact np a ha
  · by_cases hn : n < r.length
    · rw [List.getElem?_append_left hn] at h1
      rw [List.getElem?_append_left (R.len ▸ hn)] at h2
      have ne := np a (List.mem_of_getElem? h1)
      exact (R.cell n a c' h1 h2).up (m := m) pre (fun _ _ h => h) (fun z => z) fun u z => by rw [upd_ne ne]; exact z
    · rw [List.getElem?_append_right (by omega)] at h1
      rw [List.getElem?_append_right (by rw [← R.len]; omega)] at h2
      have e0 : n - r.length = 0 := by
        have := (List.getElem?_eq_some_iff.mp h1).1
        simp at this
        omega
      rw [e0] at h1
      rw [← R.len, e0] at h2
      simp at h1 h2
      subst h1; subst h2
      exact hc
  · rcases List.mem_append.mp ha with ha | ha
    · rw [upd_ne (np a ha)]; exact R.own a ha
    · rw [List.mem_singleton] at ha
      subst ha
      rw [upd_same]; exact fun z => nomatch z
  · rw [upd_ne (ne_of_none h hp)]; exact h
  · rcases List.mem_append.mp h with ha | ha
    · exact .inl ha
    · rw [List.mem_singleton] at ha
      subst ha
      exact .inr hp
  · by_cases e : b = p
    · subst e; rw [upd_same] at h; cases h
    · rw [upd_ne e] at h; exact h
theorem nodup_at {α : Type} {l : List α} {i j : Nat} {x : α} (h : l.Nodup) (h1 : l[i]? = some x) (h2 : l[j]? = some x) : i = j := by
  obtain ⟨a, ea⟩ := List.getElem?_eq_some_iff.mp h1
  obtain ⟨b, eb⟩ := List.getElem?_eq_some_iff.mp h2
  exact (List.getElem_inj h).mp (ea.trans eb.symm)
/-- a thing of the store changes -/
theorem Rel.set {m : Mem} {n : Nat} {p : Addr} {o : HO} {c : Cell} (R : Rel G r F m H) (hp : r[n]? = some p) (fp : F p = none) (hc : CellR G r F (upd H p o) p c) : Rel G r F (m.set n c) (upd H p o) ∧ Ext r r F F H (upd H p o) := by
  have hm : p ∈ r := List.mem_of_getElem? hp
  refine ⟨⟨fun a u h => ?_, by simp [R.len], R.inj, fun k a c' h1 h2 => ?_, fun a ha => ?_⟩, ⟨List.prefix_refl _, fun _ _ h => h, fun b u h nb => ?_, fun _ h => .inl h, fun b h => ?_, fun _ h _ _ => h⟩⟩
  · rw [upd_ne (ne_of_none h fp)]; exact R.sub _ _ h
  · by_cases hk : n = k
    · subst hk
      have lt : n < m.length := by rw [← R.len]; exact (List.getElem?_eq_some_iff.mp h1).1
      rw [List.getElem?_set_self lt] at h2
      cases h2
      rw [hp] at h1
      cases h1
      exact hc
    · rw [List.getElem?_set_ne hk] at h2
      have ne : a ≠ p := fun e => hk (nodup_at R.inj hp (e ▸ h1))
      exact (R.cell k a c' h1 h2).up (m := m) (List.prefix_refl _) (fun _ _ h => h) (fun z => z) fun u z => by rw [upd_ne ne]; exact z
  · by_cases e : a = p
    · subst e; rw [upd_same]; exact fun z => nomatch z
    · rw [upd_ne e]; exact R.own a ha
  · rw [upd_ne (show b ≠ p from fun e => nb (by rw [e]; exact hm))]; exact h
  · by_cases e : b = p
    · subst e; rw [upd_same] at h; cases h
    · rw [upd_ne e] at h; exact h
/-- a list of the store never changes again -/
theorem Rel.freeze {m : Mem} {n : Nat} {p : Addr} {ds : List D} {vs : List V} (R : Rel G r F m H) (hp : r[n]? = some p) (hm : m[n]? = some (.lst ds)) (fp : F p = none) (hv : H p = some (.lst vs)) (dv : Dats G r F vs ds) :
    Rel G r (upd F p (.lst vs)) (m.set n (.frz ds)) H ∧ Ext r r F (upd F p (.lst vs)) H H := by
  have fr : ∀ a u, F a = some u → upd F p (.lst vs) a = some u := fun a u h => by rw [upd_ne (ne_of_none h fp)]; exact h
  refine ⟨⟨fun a u h => ?_, by simp [R.len], R.inj, fun k a c' h1 h2 => ?_, R.own⟩, ⟨List.prefix_refl _, fr, fun b u h _ => h, fun _ h => .inl h, fun b h => h, fun b h _ nb => by rw [upd_ne (show b ≠ p from fun e => nb (by rw [e]; exact List.mem_of_getElem? hp))]; exact h⟩⟩
  · by_cases e : a = p
    · subst e; rw [upd_same] at h; cases h; exact hv
    · rw [upd_ne e] at h; exact R.sub _ _ h
  · by_cases hk : n = k
    · subst hk
      have lt : n < m.length := (List.getElem?_eq_some_iff.mp hm).1
      rw [List.getElem?_set_self lt] at h2
      cases h2
      rw [hp] at h1
      cases h1
      exact ⟨vs, upd_same, dv.up (List.prefix_refl _) fr⟩
    · rw [List.getElem?_set_ne hk] at h2
      have ne : a ≠ p := fun e => hk (nodup_at R.inj hp (e ▸ h1))
      exact (R.cell k a c' h1 h2).up (m := m) (List.prefix_refl _) fr (fun z => by rw [upd_ne ne]; exact z) fun u z => z
end

/-! ### things that name no place of the store from n on -/
mutual
def below (n : Nat) : D → Bool
  | .lst xs => belows n xs
  | .tup xs => belows n xs
  | .dic _ xs => belows n xs
  | .obj _ xs => belows n xs
  | .loc k => decide (k < n)
  | _ => true
def belows (n : Nat) : List D → Bool
  | [] => true
  | x :: xs => below n x && belows n xs
end
def belowC (n : Nat) : Cell → Bool
  | .lst xs => belows n xs
  | .frz xs => belows n xs
  | .ins _ xs => belows n xs

section
variable {G : Cfg} {r r' : List Addr} {F F' H H' : Hp}
theorem loc_down (p : r <+: r') {n : Nat} {a : Addr} (hn : n < r.length) (h : r'[n]? = some a) : r[n]? = some a := by
  obtain ⟨t, rfl⟩ := p
  rw [List.getElem?_append_left hn] at h
  exact h
mutual
theorem Dat.down (p : r <+: r') {v : V} {d : D} (h : Dat G r' F v d) (b : below r.length d = true) : Dat G r F v d :=
  match h with
  | .non => .non
  | .bl b => .bl b
  | .int i => .int i
  | .str x => .str x
  | .lst h1 h2 => .lst h1 (Dats.down p h2 (by simpa [below] using b))
  | .tup h1 h2 => .tup h1 (Dats.down p h2 (by simpa [below] using b))
  | .dic h1 h2 h3 => .dic h1 h2 (Dats.down p h3 (by simpa [below] using b))
  | .obj h1 h2 h3 => .obj h1 h2 (Dats.down p h3 (by simpa [below] using b))
  | .loc h1 => .loc (loc_down p (by simpa [below] using b) h1)
  | .scr h1 => .scr h1
  | .rng h1 => .rng h1
theorem Dats.down (p : r <+: r') {vs : List V} {ds : List D} (h : Dats G r' F vs ds) (b : belows r.length ds = true) : Dats G r F vs ds :=
  match h with
  | .nil => .nil
  | .cons h1 h2 => .cons (Dat.down p h1 (by simp [belows] at b; exact b.1)) (Dats.down p h2 (by simp [belows] at b; exact b.2))
end
theorem CellR.down (p : r <+: r') {a : Addr} {c : Cell} (h : CellR G r' F H a c) (b : belowC r.length c = true) : CellR G r F H a c := by
  cases c with
  | lst ds =>
    obtain ⟨h1, vs, h2, h3⟩ := h
    exact ⟨h1, vs, h2, h3.down p b⟩
  | frz ds =>
    obtain ⟨vs, h2, h3⟩ := h
    exact ⟨vs, h2, h3.down p b⟩
  | ins c ds =>
    obtain ⟨h1, dx, vs, h2, h3, h4⟩ := h
    exact ⟨h1, dx, vs, h2, h3, h4.down p b⟩
/-- the store's later things are forgotten -/
theorem Rel.cut {m : Mem} (p : r <+: r') (R : Rel G r' F m H) (b : (m.take r.length).all (belowC r.length) = true) : Rel G r F (m.take r.length) H := by
  have hl : r.length ≤ r'.length := p.length_le
  refine ⟨R.sub, by rw [List.length_take, ← R.len]; omega, R.inj.sublist p.sublist, fun n a c h1 h2 => ?_, fun a ha => R.own a (p.subset ha)⟩
  have hn : n < r.length := (List.getElem?_eq_some_iff.mp h1).1
  have bc : belowC r.length c = true := List.all_eq_true.mp b c (List.mem_of_getElem? h2)
  rw [List.getElem?_take_of_lt hn] at h2
  exact (R.cell n a c (loc_up p h1) h2).down p bc
theorem Ext.cut (e : Ext r r' F F' H H') : Ext r r F F' H H' := ⟨List.prefix_refl _, e.fr, e.keep, fun _ h => .inl h, e.dom, e.frn⟩
/-- what neither F nor the store speak of may change -/
theorem Rel.other {m : Mem} {p : Addr} {o : HO} (R : Rel G r F m H) (fp : F p = none) (np : p ∉ r) : Rel G r F m (upd H p o) := by
  refine ⟨fun a u h => ?_, R.len, R.inj, fun n a c h1 h2 => ?_, fun a ha => ?_⟩
  · rw [upd_ne (ne_of_none h fp)]; exact R.sub _ _ h
  · have ne : a ≠ p := fun e => np (e ▸ List.mem_of_getElem? h1)
    exact (R.cell n a c h1 h2).up (m := m) (List.prefix_refl _) (fun _ _ h => h) (fun z => z) fun u z => by rw [upd_ne ne]; exact z
  · rw [upd_ne (show a ≠ p from fun e => np (by rw [← e]; exact ha))]; exact R.own a ha
theorem Ext.other {p : Addr} {o : HO} (e : Ext r r' F F' H H') (hp : H p = none) : Ext r r' F F' H (upd H' p o) := by
  refine ⟨e.pre, e.fr, fun b u h nb => ?_, e.new, fun b h => ?_, e.frn⟩
  · rw [upd_ne (ne_of_none h hp)]; exact e.keep b u h nb
  · by_cases z : b = p
    · rw [z]; exact hp
    · rw [upd_ne z] at h; exact e.dom b h
/-- a thing that has been made meanwhile never changes from now on -/
theorem Rel.adopt {m : Mem} {p : Addr} {o : HO} (R : Rel G r F m H) (fp : F p = none) (np : p ∉ r) (hp : H p = some o) : Rel G r (upd F p o) m H := by
  have fr : ∀ a u, F a = some u → upd F p o a = some u := fun a u h => by rw [upd_ne (ne_of_none h fp)]; exact h
  refine ⟨fun a u h => ?_, R.len, R.inj, fun n a c h1 h2 => ?_, R.own⟩
  · by_cases e : a = p
    · subst e; rw [upd_same] at h; cases h; exact hp
    · rw [upd_ne e] at h; exact R.sub _ _ h
  · have ne : a ≠ p := fun e => np (e ▸ List.mem_of_getElem? h1)
    exact (R.cell n a c h1 h2).up (m := m) (List.prefix_refl _) fr (fun z => by rw [upd_ne ne]; exact z) fun u z => z
theorem Ext.adopt {p : Addr} {o : HO} (e : Ext r r' F F' H H') (hp : H p = none) (fp : F' p = none) : Ext r r' F (upd F' p o) H H' :=
  ⟨e.pre, fun a u h => by rw [upd_ne (ne_of_none (e.fr _ _ h) fp)]; exact e.fr _ _ h, e.keep, e.new, e.dom, fun b h h1 nb => by rw [upd_ne (show b ≠ p from fun z => h1 (by rw [z]; exact hp))]; exact e.frn b h h1 nb⟩
/-- .. a thing of the store from now on -/
theorem Rel.take {m : Mem} {p : Addr} {c : Cell} (R : Rel G r F m H) (np : p ∉ r) (hp : H p ≠ none) (hc : CellR G (r ++ [p]) F H p c) : Rel G (r ++ [p]) F (m ++ [c]) H := by
  have pre : r <+: r ++ [p] := ⟨[p], rfl⟩
  refine ⟨R.sub, by simp [R.len], ?_, fun n a c' h1 h2 => ?_, fun a ha => ?_⟩
  · rw [List.nodup_append]
    refine ⟨R.inj, by simp, fun a ha b hb => ?_⟩
    rw [List.mem_singleton] at hb
    subst hb
    exact fun e => np (e ▸ ha)
  · by_cases hn : n < r.length
    · rw [List.getElem?_append_left hn] at h1
      rw [List.getElem?_append_left (R.len ▸ hn)] at h2
      exact (R.cell n a c' h1 h2).up (m := m) pre (fun _ _ h => h) (fun z => z) fun u z => z
    · rw [List.getElem?_append_right (by omega)] at h1
      rw [List.getElem?_append_right (by rw [← R.len]; omega)] at h2
      have e0 : n - r.length = 0 := by
        have := (List.getElem?_eq_some_iff.mp h1).1
        simp at this
        omega
      rw [e0] at h1
      rw [← R.len, e0] at h2
      simp at h1 h2
      subst h1; subst h2
      exact hc
  · rcases List.mem_append.mp ha with ha | ha
    · exact R.own a ha
    · rw [List.mem_singleton] at ha
      subst ha
      exact hp
theorem Ext.take {p : Addr} (e : Ext r r' F F' H H') (hp : H p = none) : Ext r (r' ++ [p]) F F' H H' :=
  ⟨e.pre.trans ⟨[p], rfl⟩, e.fr, e.keep, fun a h => (List.mem_append.mp h).elim (e.new a) fun z => .inr (by rw [List.mem_singleton.mp z]; exact hp), e.dom, e.frn⟩
end
section
variable {G : Cfg} {r r' : List Addr} {F F' H H' : Hp}
mutual
/-- what live data name stands in the store -/
theorem Dat.low {v : V} {d : D} (h : Dat G r F v d) : below r.length d = true :=
  match h with
  | .non => rfl
  | .bl _ => rfl
  | .int _ => rfl
  | .str _ => rfl
  | .lst _ h2 => Dats.low h2
  | .tup _ h2 => Dats.low h2
  | .dic _ _ h3 => Dats.low h3
  | .obj _ _ h3 => Dats.low h3
  | .loc h1 => decide_eq_true (List.getElem?_eq_some_iff.mp h1).1
  | .scr _ => rfl
  | .rng _ => rfl
theorem Dats.low {vs : List V} {ds : List D} (h : Dats G r F vs ds) : belows r.length ds = true :=
  match h with
  | .nil => rfl
  | .cons h1 h2 => by
    show (below r.length _ && belows r.length _) = true
    rw [Dat.low h1, Dats.low h2]
    rfl
end
/-- the store's things name places of it alone -/
theorem Rel.low {m : Mem} (R : Rel G r F m H) : m.all (belowC m.length) = true := List.all_eq_true.mpr fun c hc => by
  obtain ⟨n, hn, e⟩ := List.mem_iff_getElem.mp hc
  have h1 : m[n]? = some c := by rw [List.getElem?_eq_getElem hn, e]
  have hr : n < r.length := by rw [R.len]; exact hn
  have cr := R.cell n _ c (List.getElem?_eq_getElem hr) h1
  rw [← R.len]
  cases c with
  | lst ds =>
    obtain ⟨_, vs, _, h3⟩ := cr
    exact h3.low
  | frz ds =>
    obtain ⟨vs, _, h3⟩ := cr
    exact h3.low
  | ins c ds =>
    obtain ⟨_, dx, vs, _, _, h3⟩ := cr
    exact h3.low
theorem OwnAt.ext {a : Addr} {d : D} (h : OwnAt G r F H a d) (p : r <+: r') (fr : ∀ a o, F a = some o → F' a = some o) (k : ∀ o, H a = some o → H' a = some o) : OwnAt G r' F' H' a d := by
  cases d with
  | own ds =>
    obtain ⟨vs, h1, h2⟩ := h
    exact ⟨vs, k _ h1, h2.up p fr⟩
  | ownI c ds =>
    obtain ⟨dx, vs, h1, h2, h3⟩ := h
    exact ⟨dx, vs, k _ h1, h2, h3.up p fr⟩
  | ownK ks ds =>
    obtain ⟨vs, h1, h2, h3⟩ := h
    exact ⟨vs, k _ h1, h2, h3.up p fr⟩
  | _ => exact h
theorem OwnAt.some {a : Addr} {d : D} (h : OwnAt G r F H a d) : H a ≠ none := by
  cases d with
  | own ds =>
    obtain ⟨vs, h1, h2⟩ := h
    rw [h1]; exact fun z => nomatch z
  | ownI c ds =>
    obtain ⟨dx, vs, h1, h2, h3⟩ := h
    rw [h1]; exact fun z => nomatch z
  | ownK ks ds =>
    obtain ⟨vs, h1, h2, h3⟩ := h
    rw [h1]; exact fun z => nomatch z
  | _ => exact h.elim
end
end Kb

set_option Elab.async false
set_option linter.all false
set_option maxRecDepth 100000
set_option maxHeartbeats 2000000
set_option autoImplicit false
/-! KcB: expressions: what they mean over data, and that the machine does it. -/
namespace Kb
open PySem PySem.Spec PyProof.Rows L2

abbrev Ev := List (Option D)
abbrev SE := Ev → Mem → Option (D × Mem)
abbrev SA := Ev → Mem → Option (List D × Mem)
abbrev SB := Ev → Mem → Option (Bool × Mem)

/-- the places that names hold alone -/
def OwnS (σ : L2.St) (env : Ev) (a : Addr) : Prop := ∃ (i : Nat) (d : D), env[i]? = some (some d) ∧ isOwn d = true ∧ σ[i]? = some (some (.ref a))
section
variable (G : Cfg)
structure EnvR (r : List Addr) (F H : Hp) (σ : L2.St) (env : Ev) : Prop where
  len : σ.length = env.length
  dat : ∀ (i : Nat) (d : D), env[i]? = some (some d) → isOwn d = false → ∃ v, σ[i]? = some (some v) ∧ Dat G r F v d
  own : ∀ (i : Nat) (d : D), env[i]? = some (some d) → isOwn d = true → ∃ a, σ[i]? = some (some (.ref a)) ∧ a ∉ r ∧ F a = none ∧ OwnAt G r F H a d
  one : ∀ (i j : Nat) (d e : D) (a : Addr), env[i]? = some (some d) → env[j]? = some (some e) → isOwn d = true → isOwn e = true → σ[i]? = some (some (.ref a)) → σ[j]? = some (some (.ref a)) → i = j
def PostE (r : List Addr) (F H : Hp) (m : Mem) (d : D) (Q : VK) : Prop := ∀ (v : V) (r' : List Addr) (F' H' : Hp), Ext r r' F F' H H' → Rel G r' F' m H' → Dat G r' F' v d → Q v H'
def PostA (r : List Addr) (F H : Hp) (m : Mem) (ds : List D) (Q : List V → Hp → Prop) : Prop := ∀ (vs : List V) (r' : List Addr) (F' H' : Hp), Ext r r' F F' H H' → Rel G r' F' m H' → Dats G r' F' vs ds → Q vs H'
def PostB (r : List Addr) (F H : Hp) (m : Mem) (b : Bool) (Q : Bool → Hp → Prop) : Prop := ∀ (r' : List Addr) (F' H' : Hp), Ext r r' F F' H H' → Rel G r' F' m H' → Q b H'
def semE (e : SE) : TE := fun σ H Q => ∃ (r : List Addr) (F : Hp) (env : Ev) (m : Mem) (d : D) (m' : Mem), e env m = some (d, m') ∧ Rel G r F m H ∧ EnvR G r F H σ env ∧ PostE G r F H m' d Q
def semA (e : SA) : TA := fun σ H Q => ∃ (r : List Addr) (F : Hp) (env : Ev) (m : Mem) (ds : List D) (m' : Mem), e env m = some (ds, m') ∧ Rel G r F m H ∧ EnvR G r F H σ env ∧ PostA G r F H m' ds Q
def semB (e : SB) : TT := fun σ H Q => ∃ (r : List Addr) (F : Hp) (env : Ev) (m : Mem) (b : Bool) (m' : Mem), e env m = some (b, m') ∧ Rel G r F m H ∧ EnvR G r F H σ env ∧ PostB G r F H m' b Q
/-- a two-place operation on data -/
def rD (f : D → D → Mem → Option (D × Mem)) : R2 := fun x y H Q => ∃ (r : List Addr) (F : Hp) (m : Mem) (a b d : D) (m' : Mem), f a b m = some (d, m') ∧ Rel G r F m H ∧ Dat G r F x a ∧ Dat G r F y b ∧ PostE G r F H m' d Q
/-- a one-place operation -/
def rU1 (f : D → Mem → Option (D × Mem)) : V → Hp → VK → Prop := fun x H Q => ∃ (r : List Addr) (F : Hp) (m : Mem) (a d : D) (m' : Mem), f a m = some (d, m') ∧ Rel G r F m H ∧ Dat G r F x a ∧ PostE G r F H m' d Q
/-- a call -/
def rC (f : List D → Mem → Option (D × Mem)) : List V → Hp → VK → Prop := fun xs H Q => ∃ (r : List Addr) (F : Hp) (m : Mem) (as : List D) (d : D) (m' : Mem), f as m = some (d, m') ∧ Rel G r F m H ∧ Dats G r F xs as ∧ PostE G r F H m' d Q
end

section
variable {G : Cfg} {r r' : List Addr} {F F' H H' : Hp} {σ : L2.St} {env : Ev} {m : Mem}
theorem EnvR.ext (h : EnvR G r F H σ env) (e : Ext r r' F F' H H') : EnvR G r' F' H' σ env := ⟨h.len, fun i d hd no => let ⟨v, h1, h2⟩ := h.dat i d hd no; ⟨v, h1, h2.ext e⟩, fun i d hd io => by
  obtain ⟨a, h1, h2, h3, h4⟩ := h.own i d hd io
  exact ⟨a, h1, fun q => (e.new a q).elim h2 h4.some, e.frn a h3 h4.some h2, h4.ext e.pre e.fr fun o z => e.keep a o z h2⟩, h.one⟩
theorem PostE.here {d : D} {Q : VK} {v : V} (q : PostE G r F H m d Q) (R : Rel G r F m H) (h : Dat G r F v d) : Q v H := q v r F H .refl R h
theorem PostE.ext {d : D} {Q : VK} (q : PostE G r F H m d Q) (e : Ext r r' F F' H H') : PostE G r' F' H' m d Q := fun v r2 F2 H2 e2 R h => q v r2 F2 H2 (e.trans e2) R h
theorem PostA.ext {d : List D} {Q : List V → Hp → Prop} (q : PostA G r F H m d Q) (e : Ext r r' F F' H H') : PostA G r' F' H' m d Q := fun v r2 F2 H2 e2 R h => q v r2 F2 H2 (e.trans e2) R h
theorem PostB.ext {d : Bool} {Q : Bool → Hp → Prop} (q : PostB G r F H m d Q) (e : Ext r r' F F' H H') : PostB G r' F' H' m d Q := fun r2 F2 H2 e2 R => q r2 F2 H2 (e.trans e2) R
theorem PostE.tup {ds : List D} {vs : List V} {Q : VK} (q : PostE G r F H m (.tup ds) Q) (R : Rel G r F m H) (h : Dats G r F vs ds) : ∀ p, H p = none → Q (.ref p) (upd H p (.tup vs)) := fun p hp => by
  obtain ⟨R2, e2⟩ := R.new (o := .tup vs) hp
  exact q _ r _ _ e2 R2 (.tup (.inl (.inl upd_same)) (h.ext e2))
theorem PostE.lst {ds : List D} {vs : List V} {Q : VK} (q : PostE G r F H m (.lst ds) Q) (R : Rel G r F m H) (h : Dats G r F vs ds) : ∀ p, H p = none → Q (.ref p) (upd H p (.lst vs)) := fun p hp => by
  obtain ⟨R2, e2⟩ := R.new (o := .lst vs) hp
  exact q _ r _ _ e2 R2 (.lst upd_same (h.ext e2))
theorem PostE.lstN {ds : List D} {vs : List V} {Q : VK} (q : PostE G r F H (m ++ [.lst ds]) (.loc m.length) Q) (R : Rel G r F m H) (h : Dats G r F vs ds) : ∀ p, H p = none → Q (.ref p) (upd H p (.lst vs)) := fun p hp => by
  obtain ⟨R2, e2⟩ := R.push (o := .lst vs) (c := .lst ds) hp ⟨sub_none R hp, vs, upd_same, h.up ⟨[p], rfl⟩ fun _ _ z => z⟩
  refine q _ _ _ _ e2 R2 (.loc ?_)
  rw [← R.len, List.getElem?_append_right (Nat.le_refl _), Nat.sub_self]
  rfl

/-- what a place of the store holds as a list -/
def cellL : Option Cell → Option (List D)
  | some (.lst xs) => some xs
  | some (.frz xs) => some xs
  | _ => none
/-- the items of a list or tuple -/
def seqD (m : Mem) : D → Option (List D)
  | .lst xs => some xs
  | .tup xs => some xs
  | .loc n => cellL m[n]?
  | .scr ns => some (ns.map D.int)
  | _ => none
theorem Rel.list (R : Rel G r F m H) {n : Nat} {a : Addr} {xs : List D} (hn : r[n]? = some a) (h : cellL m[n]? = some xs) : ∃ vs, H a = some (.lst vs) ∧ Dats G r F vs xs := by
  cases q : m[n]? with
  | none => rw [q] at h; cases h
  | some c =>
    rw [q] at h
    have hc := R.cell n a c hn q
    cases c with
    | lst ys =>
      cases h
      obtain ⟨_, vs, h1, h2⟩ := hc
      exact ⟨vs, h1, h2⟩
    | frz ys =>
      cases h
      obtain ⟨vs, h1, h2⟩ := hc
      exact ⟨vs, R.sub _ _ h1, h2⟩
    | ins _ _ => cases h
theorem dats_ints (ns : List Int) : Dats G r F (ns.map V.int) (ns.map D.int) := Dats.of_map (fun i => .int i) ns
theorem seq_of {K : PySem.W.Frag} (hK : G.K = K) (R : Rel G r F m H) {v : V} {d : D} {xs : List D} (h : Dat G r F v d) (e : seqD m d = some xs) : ∃ a vs, v = .ref a ∧ Dats G r F vs xs ∧ (SqL K H a vs ∨ SqT K H a vs) := by
  subst hK
  cases h with
  | lst h1 h2 => cases e; exact ⟨_, _, rfl, h2, .inl (SqL.of (R.sub _ _ h1))⟩
  | tup h1 h2 => cases e; exact ⟨_, _, rfl, h2, .inr (sqt_up R.sub h1)⟩
  | loc h1 =>
    obtain ⟨vs, h2, h3⟩ := R.list h1 e
    exact ⟨_, _, rfl, h3, .inl (SqL.of h2)⟩
  | scr h1 => cases e; exact ⟨_, _, rfl, dats_ints _, .inl (sql_up R.sub h1)⟩
  | rng h1 => cases e
  | non => cases e
  | bl b => cases e
  | int i => cases e
  | str x => cases e
  | dic h1 h2 h3 => cases e
  | obj h1 h2 h3 => cases e
end

/-! ### rules, weakened -/
section
variable {X : Cx}
theorem wkE {e : Expr} {t t' : TE} (h : PE X e t) (i : ∀ σ H Q, t' σ H Q → t σ H Q) : PE X e t' := ⟨fun pins s σ H Q I q => h.run pins s σ H Q I (i σ H Q q)⟩
theorem wkT {e : Expr} {t t' : TT} (h : PT X e t) (i : ∀ σ H Q, t' σ H Q → t σ H Q) : PT X e t' := ⟨fun pins s σ H Q I q => h.run pins s σ H Q I (i σ H Q q)⟩
theorem wkW {e : Expr} {t t' : TT} (h : PW X e t) (i : ∀ σ H Q, t' σ H Q → t σ H Q) : PW X e t' := ⟨fun wh pins s σ H Q I q => h.run wh pins s σ H Q I (i σ H Q q)⟩
theorem wkA {e : List Expr} {t t' : TA} (h : PA X e t) (i : ∀ σ H Q, t' σ H Q → t σ H Q) : PA X e t' := ⟨fun p pins s σ H Q I q => h.run p pins s σ H Q I (i σ H Q q)⟩
theorem wkS {e : Stmt} {t t' : TS} (h : PS X e t) (i : ∀ D σ H, t' D σ H → t D σ H) : PS X e t' := ⟨fun pins s σ H D I q => h.run pins s σ H D I (i D σ H q)⟩
theorem wkSs {e : List Stmt} {t t' : TS} (h : PSs X e t) (i : ∀ D σ H, t' D σ H → t D σ H) : PSs X e t' := ⟨fun pins s σ H D I q => h.run pins s σ H D I (i D σ H q)⟩
theorem wkO {f : Value → Value → Sem Value} {t t' : R2} (h : OpR X f t) (i : ∀ x y H Q, t' x y H Q → t x y H Q) : OpR X f t' := fun pins s σ H x y v u Q I rx ry q => h pins s σ H x y v u Q I rx ry (i x y H Q q)
theorem wkC {f : Value} {t t' : List V → Hp → VK → Prop} (h : CallR X f t) (i : ∀ x H Q, t' x H Q → t x H Q) : CallR X f t' := fun pins s σ H x v Q I rx q => h pins s σ H x v Q I rx (i x H Q q)
theorem wkU {f : Value → Sem Value} {t t' : V → Hp → VK → Prop} (h : UnR X f t) (i : ∀ x H Q, t' x H Q → t x H Q) : UnR X f t' := fun pins s σ H x v Q I rx q => h pins s σ H x v Q I rx (i x H Q q)
theorem opOr {f : Value → Value → Sem Value} {t u : R2} (h : OpR X f t) (k : OpR X f u) : OpR X f (fun x y H Q => t x y H Q ∨ u x y H Q) := fun pins s σ H x y v w Q I rx ry q =>
  q.elim (h pins s σ H x y v w Q I rx ry) (k pins s σ H x y v w Q I rx ry)
end

/-! ### names, constants -/
def var (i : Nat) : SE := fun env m => match env[i]? with
  | some (some d) => if isOwn d = true then none else some (d, m)
  | _ => none
def cst (d : D) : SE := fun _ m => some (d, m)
def bin (f : D → D → Mem → Option (D × Mem)) (a b : SE) : SE := fun env m => (a env m).bind fun p => (b env p.2).bind fun q => f p.1 q.1 q.2
def una (f : D → Mem → Option (D × Mem)) (a : SE) : SE := fun env m => (a env m).bind fun p => f p.1 p.2
def argN : SA := fun _ m => some ([], m)
def argC (a : SE) (b : SA) : SA := fun env m => (a env m).bind fun p => (b env p.2).bind fun q => some (p.1 :: q.1, q.2)
def app (f : List D → Mem → Option (D × Mem)) (a : SA) : SE := fun env m => (a env m).bind fun p => f p.1 p.2
def tupE (a : SA) : SE := fun env m => (a env m).bind fun p => if p.1.length ≤ 100000 then some (.tup p.1, p.2) else none
def lstE (a : SA) : SE := fun env m => (a env m).bind fun p => if p.1.length ≤ 100000 then some (.lst p.1, p.2) else none
def lstNE (a : SA) : SE := fun env m => (a env m).bind fun p => if p.1.length ≤ 100000 then some (.loc p.2.length, p.2 ++ [.lst p.1]) else none
def iteE (t : SB) (a b : SE) : SE := fun env m => (t env m).bind fun p => if p.1 then a env p.2 else b env p.2

theorem bind2 {α β γ : Type} {a : Option α} {f : α → Option β} {y : β} (h : a.bind f = some y) : ∃ x, a = some x ∧ f x = some y := by
  cases a with
  | none => cases h
  | some x => exact ⟨x, rfl, h⟩
theorem hun {n : Nat} (h : n ≤ 100000) : n ≤ sizeLine := by rw [sizeLine_eq]; omega

section
variable {X : Cx} {G : Cfg} {pos : Pos} {a b c : Expr} {es : List Expr} {sa sb : SE} {s1 : SA}
theorem e_var (i : Nat) {x : Str} (hN : X.N[i]? = some x := by rfl) (hv : Vis X.env.scope x := by first | exact Or.inl rfl | exact Or.inr (Or.inl rfl) | exact Or.inr (Or.inr rfl)) (hd : (x == ("__debug__" : Str)) = false := by decide)
    (hcd : (x == ("__classdict__" : Str)) = false := by decide) : PE X (.Name x pos) (semE G (var i)) :=
  wkE (pe_var (i := i) hN hv hd hcd) fun σ H Q ⟨r, F, env, m, d, m', e, R, E, q⟩ => by
    unfold var at e
    split at e
    · rename_i d0 h0
      split at e
      · cases e
      · rename_i no
        cases e
        obtain ⟨v, h1, h2⟩ := E.dat i _ h0 (by simpa using no)
        exact ⟨v, h1, q.here R h2⟩
    · cases e
theorem e_cst {v : V} {d : D} (h : PE X a (tC v)) (hd : ∀ r F, Dat G r F v d) : PE X a (semE G (cst d)) :=
  wkE h fun σ H Q ⟨r, F, env, m, d, m', e, R, E, q⟩ => by
    cases e
    exact q.here R (hd r F)
theorem e_int {i : Int} {j : Nat} : PE X (.Constant (.int i) j pos) (semE G (cst (.int i))) := e_cst pe_int fun _ _ => .int i
theorem e_bl {i : Bool} {j : Nat} : PE X (.Constant (.bool i) j pos) (semE G (cst (.bl i))) := e_cst pe_bl fun _ _ => .bl i
theorem e_non {j : Nat} : PE X (.Constant .none j pos) (semE G (cst .non)) := e_cst pe_non fun _ _ => .non
theorem e_str {x : Str} {j : Nat} : PE X (.Constant (.str x) j pos) (semE G (cst (.str x))) := e_cst pe_str fun _ _ => .str x
/-- a constant of the module -/
theorem e_gint {x : Str} {i : Int} {t : Tok} (hg : Gl X x) (hm : X.mg x = some (.int i t)) (hd : (x == ("__debug__" : Str)) = false := by decide) : PE X (.Name x pos) (semE G (cst (.int i))) := e_cst (pe_glob (v := .int i) hg hm ⟨t, rfl⟩ hd) fun _ _ => .int i

theorem bin_ok {f : D → D → Mem → Option (D × Mem)} {σ : L2.St} {H : Hp} {Q : VK} (h : semE G (bin f sa sb) σ H Q) : tOp (rD G f) (semE G sa) (semE G sb) σ H Q := by
  obtain ⟨r, F, env, m, d, m', e, R, E, q⟩ := h
  obtain ⟨⟨d1, m1⟩, e1, e⟩ := bind2 (γ := Unit) e
  obtain ⟨⟨d2, m2⟩, e2, e⟩ := bind2 (γ := Unit) e
  refine ⟨r, F, env, m, d1, m1, e1, R, E, fun v r1 F1 H1 x1 R1 h1 => ?_⟩
  refine ⟨r1, F1, env, m1, d2, m2, e2, R1, E.ext x1, fun v2 r2 F2 H2 x2 R2 h2 => ?_⟩
  exact ⟨r2, F2, m2, d1, d2, d, m', e, R2, h1.ext x2, h2, (q.ext x1).ext x2⟩
theorem e_bin {op : Operator} {f : D → D → Mem → Option (D × Mem)} (ho : OpR X (binaryOp op) (rD G f)) (ha : PE X a (semE G sa)) (hb : PE X b (semE G sb)) : PE X (.BinOp a op b pos) (semE G (bin f sa sb)) :=
  wkE (pe_op ho ha hb) fun _ _ _ h => bin_ok h
theorem e_cmp {op : CmpOp} {f : D → D → Mem → Option (D × Mem)} (ho : OpR X (compareOp op) (rD G f)) (ha : PE X a (semE G sa)) (hb : PE X b (semE G sb)) (hm : behindInMarks op b = false := by rfl) : PE X (.Compare a [op] [b] pos) (semE G (bin f sa sb)) :=
  wkE (pe_cmpR ho ha hb hm) fun _ _ _ h => bin_ok h
theorem e_ix {f : D → D → Mem → Option (D × Mem)} (ho : IxR X (rD G f)) (ha : PE X a (semE G sa)) (hb : PE X b (semE G sb)) (hs : PlainIx b := by exact fun _ _ => rfl) : PE X (.Subscript a b pos) (semE G (bin f sa sb)) :=
  wkE (pe_ix ho ha hb hs) fun _ _ _ h => bin_ok h
theorem e_una {op : UnaryOp} {f : D → Mem → Option (D × Mem)} (ho : UnR X (unaryOp op) (rU1 G f)) (ha : PE X a (semE G sa)) : PE X (.UnaryOp op a pos) (semE G (una f sa)) :=
  wkE (pe_un ho ha) fun σ H Q ⟨r, F, env, m, d, m', e, R, E, q⟩ => by
    obtain ⟨⟨d1, m1⟩, e1, e⟩ := bind2 (γ := Unit) e
    refine ⟨r, F, env, m, d1, m1, e1, R, E, fun v r1 F1 H1 x1 R1 h1 => ?_⟩
    exact ⟨r1, F1, m1, d1, d, m', e, R1, h1, q.ext x1⟩
theorem a_nil : PA X [] (semA G argN) := wkA pa_nil fun σ H Q ⟨r, F, env, m, d, m', e, R, E, q⟩ => by
  cases e
  exact q [] r F H .refl R .nil
theorem a_cons (ha : PE X a (semE G sa)) (hr : PA X es (semA G s1)) (hs : starEach (a :: es) X.env = (false, eval a X.env) :: starEach es X.env := by rfl) : PA X (a :: es) (semA G (argC sa s1)) :=
  wkA (pa_cons ha hr hs) fun σ H Q ⟨r, F, env, m, d, m', e, R, E, q⟩ => by
    obtain ⟨⟨d1, m1⟩, e1, e⟩ := bind2 (γ := Unit) e
    obtain ⟨⟨d2, m2⟩, e2, e⟩ := bind2 (γ := Unit) e
    cases e
    refine ⟨r, F, env, m, d1, m1, e1, R, E, fun v r1 F1 H1 x1 R1 h1 => ?_⟩
    refine ⟨r1, F1, env, m1, d2, m2, e2, R1, E.ext x1, fun v2 r2 F2 H2 x2 R2 h2 => ?_⟩
    exact q _ r2 F2 H2 (x1.trans x2) R2 (.cons (h1.ext x2) h2)
theorem app_ok {f : List D → Mem → Option (D × Mem)} {σ : L2.St} {H : Hp} {Q : VK} (h : semE G (app f s1) σ H Q) : tCB (rC G f) (semA G s1) σ H Q := by
  obtain ⟨r, F, env, m, d, m', e, R, E, q⟩ := h
  obtain ⟨⟨d1, m1⟩, e1, e⟩ := bind2 (γ := Unit) e
  refine ⟨r, F, env, m, d1, m1, e1, R, E, fun v r1 F1 H1 x1 R1 h1 => ?_⟩
  exact ⟨r1, F1, m1, d1, d, m', e, R1, h1, q.ext x1⟩
/-- f(..), f a built-in function | a built-in class -/
theorem e_blt {x : Str} {id : String} {f : List D → Mem → Option (D × Mem)} {p : Pos} (hc : CallR X (.builtin id) (rC G f)) (hg : Gl X x) (hm : X.mg x = none) (hv : bootBuiltins x = some (.builtin id)) (ha : PA X (a :: es) (semA G s1))
    (hn : x ≠ "__name__" := by decide) (hdb : (x == ("__debug__" : Str)) = false := by decide) (he : starEach (a :: es) X.env = (false, eval a X.env) :: starEach es X.env := by rfl) (hpl : (backTo pos (starEach es X.env)).any (·.1) = false := by rfl) :
    PE X (.Call (.Name x p) (a :: es) [] pos) (semE G (app f s1)) := wkE (pe_callB hc hg hm hv ha hn hdb he hpl) fun _ _ _ h => app_ok h
theorem e_typ {x : Str} {T : String} {f : List D → Mem → Option (D × Mem)} {p : Pos} (hc : CallR X (.type T) (rC G f)) (hg : Gl X x) (hm : X.mg x = none) (hv : bootBuiltins x = some (.type T)) (ha : PA X (a :: es) (semA G s1))
    (hn : x ≠ "__name__" := by decide) (hdb : (x == ("__debug__" : Str)) = false := by decide) (he : starEach (a :: es) X.env = (false, eval a X.env) :: starEach es X.env := by rfl) (hpl : (backTo pos (starEach es X.env)).any (·.1) = false := by rfl) :
    PE X (.Call (.Name x p) (a :: es) [] pos) (semE G (app f s1)) := wkE (pe_callTy hc hg hm hv ha hn hdb he hpl) fun _ _ _ h => app_ok h
theorem e_tup {k : Nat} (h : PA X es (semA G s1)) : PE X (.Tuple es k pos) (semE G (tupE s1)) := wkE (pe_tup h) fun σ H Q ⟨r, F, env, m, d, m', e, R, E, q⟩ => by
  obtain ⟨⟨d1, m1⟩, e1, e⟩ := bind2 (γ := Unit) e
  split at e
  · rename_i hl
    cases e
    refine ⟨r, F, env, m, d1, m1, e1, R, E, fun v r1 F1 H1 x1 R1 h1 => ⟨by rw [h1.length]; exact hun hl, ?_⟩⟩
    exact (q.ext x1).tup R1 h1
  · cases e
theorem e_lst (h : PA X es (semA G s1)) : PE X (.List es pos) (semE G (lstE s1)) := wkE (pe_lst h) fun σ H Q ⟨r, F, env, m, d, m', e, R, E, q⟩ => by
  obtain ⟨⟨d1, m1⟩, e1, e⟩ := bind2 (γ := Unit) e
  split at e
  · rename_i hl
    cases e
    refine ⟨r, F, env, m, d1, m1, e1, R, E, fun v r1 F1 H1 x1 R1 h1 => ⟨by rw [h1.length]; exact hun hl, ?_⟩⟩
    exact (q.ext x1).lst R1 h1
  · cases e
theorem e_lstN (h : PA X es (semA G s1)) : PE X (.List es pos) (semE G (lstNE s1)) := wkE (pe_lst h) fun σ H Q ⟨r, F, env, m, d, m', e, R, E, q⟩ => by
  obtain ⟨⟨d1, m1⟩, e1, e⟩ := bind2 (γ := Unit) e
  split at e
  · rename_i hl
    cases e
    refine ⟨r, F, env, m, d1, m1, e1, R, E, fun v r1 F1 H1 x1 R1 h1 => ⟨by rw [h1.length]; exact hun hl, ?_⟩⟩
    exact (q.ext x1).lstN R1 h1
  · cases e
theorem e_ite {t : SB} (hc : PT X c (semB G t)) (ha : PE X a (semE G sa)) (hb : PE X b (semE G sb)) : PE X (.IfExp c a b pos) (semE G (iteE t sa sb)) := wkE (pe_ifExp hc ha hb) fun σ H Q ⟨r, F, env, m, d, m', e, R, E, q⟩ => by
  obtain ⟨⟨k, m1⟩, e1, e⟩ := bind2 (γ := Unit) e
  refine ⟨r, F, env, m, k, m1, e1, R, E, fun r1 F1 H1 x1 R1 => ?_⟩
  cases k with
  | true => exact iteT ⟨r1, F1, env, m1, d, m', e, R1, E.ext x1, q.ext x1⟩
  | false => exact iteF ⟨r1, F1, env, m1, d, m', e, R1, E.ext x1, q.ext x1⟩
end

/-! ### tests -/
/-- a value's truth -/
def truD (m : Mem) : D → Option Bool
  | .non => some false
  | .bl b => some b
  | .int i => some (i != 0)
  | .str x => if x.length ≤ 100000 then some ((x.length : Int) != 0) else none
  | .dic ks _ => some (!ks.isEmpty)
  | d => (seqD m d).map fun xs => !xs.isEmpty
def tstE (a : SE) : SB := fun env m => (a env m).bind fun p => (truD p.2 p.1).map fun b => (b, p.2)
def tstB (a : SE) : SB := fun env m => (a env m).bind fun p => match p.1 with
  | .bl b => some (b, p.2)
  | _ => none
def andB (a b : SB) : SB := fun env m => (a env m).bind fun p => if p.1 then b env p.2 else some (false, p.2)
def orB (a b : SB) : SB := fun env m => (a env m).bind fun p => if p.1 then some (true, p.2) else b env p.2
def notB (a : SB) : SB := fun env m => (a env m).bind fun p => some (!p.1, p.2)

theorem empty_iff {G : Cfg} {r : List Addr} {F : Hp} {vs : List V} {ds : List D} (h : Dats G r F vs ds) : vs.isEmpty = ds.isEmpty := by cases h <;> rfl
theorem tru_of {K : PySem.W.Frag} {G : Cfg} {r : List Addr} {F H : Hp} {m : Mem} (hK : G.K = K) (R : Rel G r F m H) {v : V} {d : D} {k : Bool} (h : Dat G r F v d) (e : truD m d = some k) : TruV K v H k := by
  have sq : ∀ {xs : List D}, seqD m d = some xs → (!xs.isEmpty) = k → TruV K v H k := fun {xs} e1 e2 => by
    obtain ⟨a, vs, rfl, h2, h3⟩ := seq_of hK R h e1
    rw [← empty_iff h2] at e2
    rcases h3 with h3 | h3
    · exact .inl ⟨vs, h3, e2.symm⟩
    · exact .inr (.inl ⟨vs, h3, e2.symm⟩)
  have sq2 : ((seqD m d).map fun xs => !xs.isEmpty) = some k → TruV K v H k := fun z => by
    obtain ⟨xs, e1, e2⟩ := Option.map_eq_some_iff.mp z
    exact sq e1 e2
  cases h with
  | non => cases e; exact rfl
  | bl b => cases e; exact rfl
  | int i => cases e; exact rfl
  | str x =>
    have e : (if x.length ≤ 100000 then some ((x.length : Int) != 0) else none) = some k := e
    split at e
    · rename_i hl
      cases e
      exact ⟨hun hl, rfl⟩
    · cases e
  | dic h1 h2 h3 =>
    cases e
    refine .inr (.inr ⟨_, R.sub _ _ h1, ?_⟩)
    rename_i ks vs ds
    cases ks with
    | nil => rfl
    | cons k ks =>
      cases vs with
      | nil => cases h2
      | cons v vs => rfl
  | lst h1 h2 => exact sq2 e
  | tup h1 h2 => exact sq2 e
  | loc h1 => exact sq2 e
  | scr h1 => exact sq2 e
  | rng h1 => cases e
  | obj h1 h2 h3 => cases e

section
variable {X : Cx} {G : Cfg} {pos : Pos} {a b c : Expr} {es : List Expr} {sa sb sc : SE} {s1 : SA} {t u : SB}
theorem t_val (hK : G.K = X.K) (ha : PE X a (semE G sa)) (he : ∀ whole, isTrue a X.env whole = (do let v ← whole; standAt a.pos; holding [v] (truthy v)) := by intro _; rfl) : PT X a (semB G (tstE sa)) :=
  wkT (pt_truth ha he) fun σ H Q ⟨r, F, env, m, k, m', e, R, E, q⟩ => by
    obtain ⟨⟨d1, m1⟩, e1, e⟩ := bind2 (γ := Unit) e
    obtain ⟨k1, e2, e3⟩ := Option.map_eq_some_iff.mp e
    cases e3
    refine ⟨r, F, env, m, d1, m1, e1, R, E, fun v r1 F1 H1 x1 R1 h1 => ⟨_, tru_of hK R1 h1 e2, ?_⟩⟩
    exact q r1 F1 H1 x1 R1
theorem tst_ok {σ : L2.St} {H : Hp} {Q : Bool → Hp → Prop} {t : TE} (h : semB G (tstB sa) σ H Q) (hi : ∀ σ H Q, semE G sa σ H Q → t σ H Q) : tTest t σ H Q := by
  obtain ⟨r, F, env, m, k, m', e, R, E, q⟩ := h
  obtain ⟨⟨d1, m1⟩, e1, e⟩ := bind2 (γ := Unit) e
  cases d1 with
  | bl z =>
    cases e
    refine hi _ _ _ ⟨r, F, env, m, .bl k, m1, e1, R, E, fun v r1 F1 H1 x1 R1 h1 => ?_⟩
    cases h1
    exact ⟨k, rfl, q r1 F1 H1 x1 R1⟩
  | _ => cases e
theorem t_cmp {op : CmpOp} {f : D → D → Mem → Option (D × Mem)} (ho : OpR X (compareOp op) (rD G f)) (ha : PE X a (semE G sa)) (hb : PE X b (semE G sb)) (hm : behindInMarks op b = false := by rfl) : PT X (.Compare a [op] [b] pos) (semB G (tstB (bin f sa sb))) :=
  wkT (pt_cmpR ho ha hb hm) fun _ _ _ h => tst_ok h fun _ _ _ z => bin_ok z
theorem w_one_and (ha : PT X a (semB G t)) : PW X (.BoolOp .And [a] pos) (semB G t) := pw_and1 ha
theorem w_one_or (ha : PT X a (semB G t)) : PW X (.BoolOp .Or [a] pos) (semB G t) := pw_or1 ha
theorem w_and (ha : PT X a (semB G t)) (hb : PW X (.BoolOp .And (b :: es) pos) (semB G u)) : PW X (.BoolOp .And (a :: b :: es) pos) (semB G (andB t u)) := wkW (pw_and ha hb) fun σ H Q ⟨r, F, env, m, k, m', e, R, E, q⟩ => by
  obtain ⟨⟨d1, m1⟩, e1, e⟩ := bind2 (γ := Unit) e
  refine ⟨r, F, env, m, d1, m1, e1, R, E, fun r1 F1 H1 x1 R1 => ?_⟩
  cases d1 with
  | true => exact iteT ⟨r1, F1, env, m1, k, m', e, R1, E.ext x1, q.ext x1⟩
  | false =>
    cases e
    exact iteF (q r1 F1 H1 x1 R1)
theorem w_or (ha : PT X a (semB G t)) (hb : PW X (.BoolOp .Or (b :: es) pos) (semB G u)) : PW X (.BoolOp .Or (a :: b :: es) pos) (semB G (orB t u)) := wkW (pw_or ha hb) fun σ H Q ⟨r, F, env, m, k, m', e, R, E, q⟩ => by
  obtain ⟨⟨d1, m1⟩, e1, e⟩ := bind2 (γ := Unit) e
  refine ⟨r, F, env, m, d1, m1, e1, R, E, fun r1 F1 H1 x1 R1 => ?_⟩
  cases d1 with
  | true =>
    cases e
    exact iteT (q r1 F1 H1 x1 R1)
  | false => exact iteF ⟨r1, F1, env, m1, k, m', e, R1, E.ext x1, q.ext x1⟩
theorem t_w (h : PW X a (semB G t)) : PT X a (semB G t) := h.pt
theorem t_not (ha : PT X a (semB G t)) : PT X (.UnaryOp .Not a pos) (semB G (notB t)) := wkT (pt_not ha) fun σ H Q ⟨r, F, env, m, k, m', e, R, E, q⟩ => by
  obtain ⟨⟨d1, m1⟩, e1, e⟩ := bind2 (γ := Unit) e
  cases e
  exact ⟨r, F, env, m, d1, m1, e1, R, E, fun r1 F1 H1 x1 R1 => q r1 F1 H1 x1 R1⟩

/-! values by and, or, not -/
def andE (a b : SE) : SE := fun env m => (a env m).bind fun p => (truD p.2 p.1).bind fun k => if k then b env p.2 else some p
def orE (a b : SE) : SE := fun env m => (a env m).bind fun p => (truD p.2 p.1).bind fun k => if k then some p else b env p.2
def notE (a : SE) : SE := fun env m => (a env m).bind fun p => (truD p.2 p.1).map fun k => (.bl (!k), p.2)
theorem e_one {op : BoolOp} (ha : PE X a (semE G sa)) : PE X (.BoolOp op [a] pos) (semE G sa) := pe_one ha
theorem e_and (hK : G.K = X.K) (ha : PE X a (semE G sa)) (hb : PE X (.BoolOp .And (b :: es) pos) (semE G sb)) : PE X (.BoolOp .And (a :: b :: es) pos) (semE G (andE sa sb)) := wkE (pe_andT ha hb) fun σ H Q ⟨r, F, env, m, d, m', e, R, E, q⟩ => by
  obtain ⟨⟨d1, m1⟩, e1, e⟩ := bind2 (γ := Unit) e
  obtain ⟨k, e2, e⟩ := bind2 (γ := Unit) e
  refine ⟨r, F, env, m, d1, m1, e1, R, E, fun v r1 F1 H1 x1 R1 h1 => ⟨k, tru_of hK R1 h1 e2, ?_⟩⟩
  cases k with
  | true => exact iteT ⟨r1, F1, env, m1, d, m', e, R1, E.ext x1, q.ext x1⟩
  | false =>
    cases e
    exact iteF (q v r1 F1 H1 x1 R1 h1)
theorem e_or (hK : G.K = X.K) (ha : PE X a (semE G sa)) (hb : PE X (.BoolOp .Or (b :: es) pos) (semE G sb)) : PE X (.BoolOp .Or (a :: b :: es) pos) (semE G (orE sa sb)) := wkE (pe_orT ha hb) fun σ H Q ⟨r, F, env, m, d, m', e, R, E, q⟩ => by
  obtain ⟨⟨d1, m1⟩, e1, e⟩ := bind2 (γ := Unit) e
  obtain ⟨k, e2, e⟩ := bind2 (γ := Unit) e
  refine ⟨r, F, env, m, d1, m1, e1, R, E, fun v r1 F1 H1 x1 R1 h1 => ⟨k, tru_of hK R1 h1 e2, ?_⟩⟩
  cases k with
  | true =>
    cases e
    exact iteT (q v r1 F1 H1 x1 R1 h1)
  | false => exact iteF ⟨r1, F1, env, m1, d, m', e, R1, E.ext x1, q.ext x1⟩
theorem e_not (hK : G.K = X.K) (ha : PE X a (semE G sa)) : PE X (.UnaryOp .Not a pos) (semE G (notE sa)) := wkE (pe_notT ha) fun σ H Q ⟨r, F, env, m, d, m', e, R, E, q⟩ => by
  obtain ⟨⟨d1, m1⟩, e1, e⟩ := bind2 (γ := Unit) e
  obtain ⟨k, e2, e3⟩ := Option.map_eq_some_iff.mp e
  cases e3
  exact ⟨r, F, env, m, d1, m1, e1, R, E, fun v r1 F1 H1 x1 R1 h1 => ⟨k, tru_of hK R1 h1 e2, q _ r1 F1 H1 x1 R1 (.bl _)⟩⟩

/-- a < b < c -/
def chnE (f g : D → D → Mem → Option (D × Mem)) (a b c : SE) : SE := fun env m => (a env m).bind fun p => (b env p.2).bind fun q => (f p.1 q.1 q.2).bind fun k => match k.1 with
  | .bl true => (c env k.2).bind fun w => g q.1 w.1 w.2
  | .bl false => some (.bl false, k.2)
  | _ => none
theorem chn_ok {f g : D → D → Mem → Option (D × Mem)} {σ : L2.St} {H : Hp} {Q : VK} (h : semE G (chnE f g sa sb sc) σ H Q) : tChain (rD G f) (rD G g) (semE G sa) (semE G sb) (semE G sc) σ H Q := by
  obtain ⟨r, F, env, m, d, m', e, R, E, q⟩ := h
  obtain ⟨⟨d1, m1⟩, e1, e⟩ := bind2 (γ := Unit) e
  obtain ⟨⟨d2, m2⟩, e2, e⟩ := bind2 (γ := Unit) e
  obtain ⟨⟨d3, m3⟩, e3, e⟩ := bind2 (γ := Unit) e
  refine ⟨r, F, env, m, d1, m1, e1, R, E, fun v r1 F1 H1 x1 R1 h1 => ?_⟩
  refine ⟨r1, F1, env, m1, d2, m2, e2, R1, E.ext x1, fun v2 r2 F2 H2 x2 R2 h2 => ?_⟩
  refine ⟨r2, F2, m2, d1, d2, d3, m3, e3, R2, h1.ext x2, h2, fun v3 r3 F3 H3 x3 R3 h3 => ?_⟩
  have q3 := ((q.ext x1).ext x2).ext x3
  cases d3 with
  | bl k =>
    cases h3
    refine ⟨k, rfl, ?_⟩
    cases k with
    | true =>
      obtain ⟨⟨d4, m4⟩, e4, e⟩ := bind2 (γ := Unit) e
      refine iteT ⟨r3, F3, env, m3, d4, m4, e4, R3, ((E.ext x1).ext x2).ext x3, fun v4 r4 F4 H4 x4 R4 h4 => ?_⟩
      exact ⟨r4, F4, m4, d2, d4, d, m', e, R4, (h2.ext x3).ext x4, h4, q3.ext x4⟩
    | false =>
      cases e
      exact iteF (q3 _ r3 F3 H3 .refl R3 (.bl false))
  | _ => cases e
end
end Kb

set_option Elab.async false
set_option linter.all false
set_option maxRecDepth 100000
set_option maxHeartbeats 4000000
set_option autoImplicit false
/-! KcC: operations over data: operators, comparisons, subscripts, slices, built-ins. -/
namespace Kb
open PySem PySem.Spec PyProof.Rows L2

/-! ### as what == and repr see it -/
section
variable (lk : Nat → Option PyData)
mutual
def toPW : D → Option PyData
  | .non => some .none
  | .bl b => some (.bool b)
  | .int i => some (.int i)
  | .str x => some (.str x)
  | .lst xs => (toPWs xs).map .list
  | .tup xs => (toPWs xs).map .tuple
  | .loc n => lk n
  | .scr ns => some (.list (ns.map PyData.int))
  | .rng _ _ => none
  | _ => none
def toPWs : List D → Option (List PyData)
  | [] => some []
  | x :: xs => (toPW x).bind fun y => (toPWs xs).map fun ys => y :: ys
end
end
def lkS (m : Mem) (lk : Nat → Option PyData) (n : Nat) : Option PyData := (cellL m[n]?).bind fun xs => (toPWs lk xs).map .list
def toP (m : Mem) : D → Option PyData := toPW (lkS m (lkS m (lkS m fun _ => none)))

section
variable {K : PySem.W.Frag} {G : Cfg} {r : List Addr} {F H : Hp} {m : Mem} {lk : Nat → Option PyData}
theorem dp_ints : ∀ ns : List Int, DpAll K H (ns.map V.int) (ns.map PyData.int)
  | [] => .nil
  | n :: ns => .cons (.int n) (dp_ints ns)
mutual
theorem dp_of (hK : G.K = K) (R : Rel G r F m H) (hl : ∀ n p a, lk n = some p → r[n]? = some a → Dp K H (.ref a) p) {v : V} {d : D} {p : PyData} (h : Dat G r F v d) (e : toPW lk d = some p) : Dp K H v p :=
  match h with
  | .non => by simp only [toPW] at e; cases e; exact .non
  | .bl b => by simp only [toPW] at e; cases e; exact .bl b
  | .int b => by simp only [toPW] at e; cases e; exact .int b
  | .str b => by simp only [toPW] at e; cases e; exact .str b
  | .lst h1 h2 => by
    simp only [toPW] at e
    obtain ⟨ps, e1, e2⟩ := Option.map_eq_some_iff.mp e
    cases e2
    exact .lst (SqL.of (R.sub _ _ h1)) (dps_of hK R hl h2 e1)
  | .tup h1 h2 => by
    simp only [toPW] at e
    obtain ⟨ps, e1, e2⟩ := Option.map_eq_some_iff.mp e
    cases e2
    exact .tup (hK ▸ sqt_up R.sub h1) (dps_of hK R hl h2 e1)
  | .loc h1 => by
    simp only [toPW] at e
    exact hl _ _ _ e h1
  | .scr h1 => by
    simp only [toPW] at e
    cases e
    exact .lst (hK ▸ sql_up R.sub h1) (dp_ints _)
  | .dic _ _ _ => by simp only [toPW] at e; cases e
  | .obj _ _ _ => by simp only [toPW] at e; cases e
  | .rng _ => by simp only [toPW] at e; cases e
theorem dps_of (hK : G.K = K) (R : Rel G r F m H) (hl : ∀ n p a, lk n = some p → r[n]? = some a → Dp K H (.ref a) p) {v : List V} {d : List D} {p : List PyData} (h : Dats G r F v d) (e : toPWs lk d = some p) : DpAll K H v p :=
  match h with
  | .nil => by simp only [toPWs] at e; cases e; exact .nil
  | .cons h1 h2 => by
    simp only [toPWs] at e
    obtain ⟨y, e1, e⟩ := bind2 (γ := Unit) e
    obtain ⟨ys, e2, e3⟩ := Option.map_eq_some_iff.mp e
    cases e3
    exact .cons (dp_of hK R hl h1 e1) (dps_of hK R hl h2 e2)
end
theorem lk_ok (hK : G.K = K) (R : Rel G r F m H) (hl : ∀ n p a, lk n = some p → r[n]? = some a → Dp K H (.ref a) p) : ∀ n p a, lkS m lk n = some p → r[n]? = some a → Dp K H (.ref a) p := fun n p a e ha => by
  obtain ⟨xs, e1, e⟩ := bind2 (γ := Unit) e
  obtain ⟨ys, e2, e3⟩ := Option.map_eq_some_iff.mp e
  cases e3
  obtain ⟨vs, h1, h2⟩ := R.list ha e1
  exact .lst (SqL.of h1) (dps_of hK R hl h2 e2)
theorem toP_ok (hK : G.K = K) (R : Rel G r F m H) {v : V} {d : D} {p : PyData} (h : Dat G r F v d) (e : toP m d = some p) : Dp K H v p :=
  dp_of hK R (lk_ok hK R (lk_ok hK R (lk_ok hK R fun _ _ _ e => by cases e))) h e
end

/-- a list (no tuple) of the heap -/
def lstD (m : Mem) : D → Option (List D)
  | .lst xs => some xs
  | .loc n => cellL m[n]?
  | _ => none
theorem lst_of {G : Cfg} {r : List Addr} {F H : Hp} {m : Mem} (R : Rel G r F m H) {v : V} {d : D} {xs : List D} (h : Dat G r F v d) (e : lstD m d = some xs) : ∃ a vs, v = .ref a ∧ Dats G r F vs xs ∧ H a = some (.lst vs) := by
  cases h with
  | lst h1 h2 => cases e; exact ⟨_, _, rfl, h2, R.sub _ _ h1⟩
  | loc h1 =>
    obtain ⟨vs, h2, h3⟩ := R.list h1 e
    exact ⟨_, _, rfl, h3, h2⟩
  | _ => cases e
theorem flat_rep {α : Type} (xs : List α) (n : Nat) : (List.replicate n xs).flatten.length = n * xs.length := by
  induction n with
  | zero => simp
  | succ n ih => rw [List.replicate_succ, List.flatten_cons, List.length_append, ih, Nat.succ_mul]; omega

theorem rep_bound {n : Nat} {k : Int} (h1 : k ≤ 1000) (h2 : n ≤ 1000) : n * k.toNat ≤ sizeLine := by
  have a1 := Nat.mul_le_mul h2 (show k.toNat ≤ 1000 by omega)
  rw [sizeLine_eq]
  omega
/-! ### + - * // % ** -/
def addD (a b : D) (m : Mem) : Option (D × Mem) := match a, b with
  | .int i, .int j => some (.int (i + j), m)
  | .tup xs, .tup ys => if xs.length + ys.length ≤ 100000 then some (.tup (xs ++ ys), m) else none
  | .str x, .str y => if x.length + y.length ≤ 100000 then some (.str (x ++ y), m) else none
  | a, b => match lstD m a, lstD m b with
    | some xs, some ys => if xs.length + ys.length ≤ 100000 then some (.lst (xs ++ ys), m) else none
    | _, _ => none
def subD (a b : D) (m : Mem) : Option (D × Mem) := match a, b with
  | .int i, .int j => some (.int (i - j), m)
  | _, _ => none
def mulD (a b : D) (m : Mem) : Option (D × Mem) := match a, b with
  | .int i, .int j => if i.natAbs.log2 + j.natAbs.log2 < 1000000 then some (.int (i * j), m) else none
  | .tup xs, .int k => if xs ≠ [] ∧ 1 ≤ k ∧ k ≤ 1000 ∧ xs.length ≤ 1000 then some (.tup (List.replicate k.toNat xs).flatten, m) else none
  | a, .int k => match lstD m a with
    | some xs => if 0 ≤ k ∧ k ≤ 1000 ∧ xs.length ≤ 1000 then some (.lst (List.replicate k.toNat xs).flatten, m) else none
    | none => none
  | _, _ => none
def divD (a b : D) (m : Mem) : Option (D × Mem) := match a, b with
  | .int i, .int j => if 0 < j ∧ j.natAbs.log2 < 9000 then some (.int (i / j), m) else none
  | _, _ => none
def modD (a b : D) (m : Mem) : Option (D × Mem) := match a, b with
  | .int i, .int j => if 0 < j then some (.int (i % j), m) else none
  | _, _ => none
def powD (a b : D) (m : Mem) : Option (D × Mem) := match a, b with
  | .int i, .int j => if 0 ≤ j ∧ j ≤ 1000000 ∧ i.natAbs < 2 ^ 64 then some (.int (i ^ j.toNat), m) else none
  | _, _ => none
def negD (a : D) (m : Mem) : Option (D × Mem) := match a with
  | .int i => some (.int (-i), m)
  | _ => none

section
variable {X : Cx} {G : Cfg}
theorem dat_int {r : List Addr} {F : Hp} {v : V} {i : Int} (h : Dat G r F v (.int i)) : v = .int i := by cases h; rfl
theorem dat_bl {r : List Addr} {F : Hp} {v : V} {i : Bool} (h : Dat G r F v (.bl i)) : v = .bl i := by cases h; rfl
theorem dat_str {r : List Addr} {F : Hp} {v : V} {i : Str} (h : Dat G r F v (.str i)) : v = .str i := by cases h; rfl
theorem op_addD (hK : G.K = X.K) : OpR X (binaryOp .Add) (rD G addD) := by
  intro pins s σ H x y v u Q I rx ry ⟨r, F, m, a, b, d, m', e, R, ha, hb, q⟩
  unfold addD at e
  split at e
  · cases e
    rw [dat_int ha] at rx
    rw [dat_int hb] at ry
    exact op_add pins s σ H _ _ v u Q I rx ry ⟨_, _, rfl, rfl, q.here R (.int _)⟩
  · split at e
    · rename_i hl
      cases e
      cases ha with
      | tup h1 h2 =>
        cases hb with
        | tup k1 k2 =>
          have dd := h2.append k2
          have t1 := hK ▸ sqt_up R.sub h1
          have t2 := hK ▸ sqt_up R.sub k1
          refine op_catA pins s σ H _ _ v u Q I rx ry ⟨_, _, _, _, rfl, rfl, t1, t2, by rw [h2.length, k2.length]; exact hun hl, fun z => ?_, fun _ z => ?_, fun _ _ => q.tup R dd⟩
          · subst z
            exact q.here R (.tup k1 dd)
          · subst z
            rw [List.append_nil] at dd
            exact q.here R (.tup h1 dd)
    · cases e
  · split at e
    · rename_i hl
      cases e
      rw [dat_str ha] at rx
      rw [dat_str hb] at ry
      exact op_add_str pins s σ H _ _ v u Q I rx ry ⟨_, _, rfl, rfl, hun hl, q.here R (.str _)⟩
    · cases e
  · split at e
    · rename_i xs ys e1 e2
      split at e
      · rename_i hl
        cases e
        obtain ⟨p, vs, rfl, d1, h1⟩ := lst_of R ha e1
        obtain ⟨p', vs', rfl, d2, h2⟩ := lst_of R hb e2
        exact op_cat pins s σ H _ _ v u Q I rx ry ⟨_, _, _, _, rfl, rfl, h1, h2, by rw [d1.length, d2.length]; exact hun hl, q.lst R (d1.append d2)⟩
      · cases e
    · cases e
theorem op_subD : OpR X (binaryOp .Sub) (rD G subD) := by
  intro pins s σ H x y v u Q I rx ry ⟨r, F, m, a, b, d, m', e, R, ha, hb, q⟩
  unfold subD at e
  split at e
  · cases e
    rw [dat_int ha] at rx
    rw [dat_int hb] at ry
    exact op_sub pins s σ H _ _ v u Q I rx ry ⟨_, _, rfl, rfl, q.here R (.int _)⟩
  · cases e
theorem op_divD : OpR X (binaryOp .FloorDiv) (rD G divD) := by
  intro pins s σ H x y v u Q I rx ry ⟨r, F, m, a, b, d, m', e, R, ha, hb, q⟩
  unfold divD at e
  split at e
  · split at e
    · rename_i hl
      cases e
      rw [dat_int ha] at rx
      rw [dat_int hb] at ry
      exact op_fdivW pins s σ H _ _ v u Q I rx ry ⟨_, _, rfl, rfl, hl, q.here R (.int _)⟩
    · cases e
  · cases e
theorem op_modD : OpR X (binaryOp .Mod) (rD G modD) := by
  intro pins s σ H x y v u Q I rx ry ⟨r, F, m, a, b, d, m', e, R, ha, hb, q⟩
  unfold modD at e
  split at e
  · split at e
    · rename_i hl
      cases e
      rw [dat_int ha] at rx
      rw [dat_int hb] at ry
      exact op_mod pins s σ H _ _ v u Q I rx ry ⟨_, _, rfl, rfl, hl, q.here R (.int _)⟩
    · cases e
  · cases e
theorem op_powD : OpR X (binaryOp .Pow) (rD G powD) := by
  intro pins s σ H x y v u Q I rx ry ⟨r, F, m, a, b, d, m', e, R, ha, hb, q⟩
  unfold powD at e
  split at e
  · split at e
    · rename_i hl
      cases e
      rw [dat_int ha] at rx
      rw [dat_int hb] at ry
      exact op_pow pins s σ H _ _ v u Q I rx ry ⟨_, _, rfl, rfl, hl, q.here R (.int _)⟩
    · cases e
  · cases e
theorem un_negD : UnR X (unaryOp .USub) (rU1 G negD) := by
  intro pins s σ H x v Q I rx ⟨r, F, m, a, d, m', e, R, ha, q⟩
  unfold negD at e
  split at e
  · cases e
    rw [dat_int ha] at rx
    exact un_neg pins s σ H _ v Q I rx ⟨_, rfl, q.here R (.int _)⟩
  · cases e
/-- t * 1 is t -/
theorem tup_mul1 (l : Addr) (items : Array Value) (n : Nat) (dd : Option Addr) (sl : Array (Option Value)) (u : Tok) (c1 : items.isEmpty = false) :
    Meets (Builtin.«tuple.__mul__» ⟨[.ref l, .int 1 u], []⟩) (fun _ R s => s.heap.get? l = some { cls := .type "tuple", dict := dd, data := .seq items n, slots := sl } ∧
      R (.ok (.ret (Value.ref l))) s) :=
  .of_wp fun prog w A R s h => by
    obtain ⟨hp, g, d, tk, os⟩ := s
    obtain ⟨hl, h⟩ := h
    have f1 := AutoSeq1.idx_int
    wp_walk using wpAny_loadPart' hl
    exact ⟨_, rfl, h⟩
theorem op_tup1 (hK : G.K = X.K) : OpR X (binaryOp .Mult) (fun x y H Q => ∃ l xs, x = .ref l ∧ y = .int 1 ∧ SqT X.K H l xs ∧ xs ≠ [] ∧ Q (.ref l) H) := by
  intro pins s σ H x y v u Q I rx ry h
  obtain ⟨l, xs, rfl, rfl, hT, hne, q⟩ := h
  cases rx
  obtain ⟨t, rfl⟩ := ry
  obtain ⟨its, rv, ⟨⟨cls, dd, data, sl⟩, ho, hc, n, hd⟩, hs⟩ := I.tuple hT
  simp only at hc hd
  subst hc hd
  have hi : its.toArray.isEmpty = false := by
    cases rv with
    | nil => exact absurd rfl hne
    | cons a b => rfl
  refine wpAny_binaryOp_repeat_ref (T := "tuple") (U := "int") (by decide) ⟨_, ho, rfl⟩ (fun s' => typeIs_int s' 1 t) noFill_tuple_mul F.fills_int_mul F.slot_int_rmul repeat_tuple F.slot_int_index.lookup ?_
  refine call_meets F.slot_int_rmul (typeIs_int s 1 t) F.entry_int_rmul (F.args_int_rmul_2 _ _) (int_rmul_tuple 1 t l its.toArray n dd sl) ⟨ho, rfl, ⟨_, ho, rfl⟩, ?_⟩
  exact call_meets F.slot_tuple_mul ⟨_, ho, rfl⟩ F.entry_tuple_mul (F.args_tuple_mul_2 _ _) (tup_mul1 l its.toArray n dd sl t hi) ⟨ho, ⟨.ref l, H, I, rfl, q⟩⟩
theorem op_mulD (hK : G.K = X.K) : OpR X (binaryOp .Mult) (rD G mulD) := by
  intro pins s σ H x y v u Q I rx ry ⟨r, F, m, a, b, d, m', e, R, ha, hb, q⟩
  unfold mulD at e
  split at e
  · split at e
    · rename_i hl
      cases e
      rw [dat_int ha] at rx
      rw [dat_int hb] at ry
      exact op_mulW pins s σ H _ _ v u Q I rx ry ⟨_, _, rfl, rfl, hl, q.here R (.int _)⟩
    · cases e
  · split at e
    · rename_i xs k hl
      cases e
      obtain ⟨h0, h1, h2, h3⟩ := hl
      rw [dat_int hb] at ry
      cases ha with
      | tup t1 t2 =>
        have t0 := hK ▸ sqt_up R.sub t1
        rename_i p vs
        have hne : vs ≠ [] := fun z => h0 (List.eq_nil_of_length_eq_zero (by rw [← t2.length, z]; rfl))
        by_cases k1 : k = 1
        · subst k1
          have e1 : (List.replicate (1 : Int).toNat xs).flatten = xs := by simp
          rw [e1] at q
          exact op_tup1 hK pins s σ H _ _ v u Q I rx ry ⟨_, _, rfl, rfl, t0, hne, q.here R (.tup t1 t2)⟩
        · refine op_repT pins s σ H _ _ v u Q I rx ry ⟨_, _, _, rfl, rfl, t0, hne, by omega, h2, by rw [t2.length]; exact h3, q.tup R (t2.flat _)⟩
    · cases e
  · split at e
    · rename_i xs e1
      split at e
      · rename_i hl
        cases e
        obtain ⟨h0, h1, h2⟩ := hl
        rw [dat_int hb] at ry
        obtain ⟨p, vs, rfl, d1, h3⟩ := lst_of R ha e1
        refine op_rep pins s σ H _ _ v u Q I rx ry ⟨_, _, _, rfl, rfl, h3, by omega, by omega, ?_, q.lst R (d1.flat _)⟩
        rw [d1.length]
        exact rep_bound h1 h2
      · cases e
    · cases e
  · cases e
end
end Kb

set_option Elab.async false
set_option linter.all false
set_option maxRecDepth 100000
set_option maxHeartbeats 4000000
set_option autoImplicit false
/-! KcD: comparisons, subscripts, slices, built-ins over data. -/
namespace Kb
open PySem PySem.Spec PyProof.Rows L2

def icmp (p : Int → Int → Bool) (a b : D) (m : Mem) : Option (D × Mem) := match a, b with
  | .int i, .int j => some (.bl (p i j), m)
  | _, _ => none
def ltD := icmp fun i j => decide (i < j)
def leD := icmp fun i j => decide (i ≤ j)
def gtD := icmp fun i j => decide (j < i)
def geD := icmp fun i j => decide (j ≤ i)
def eqB1 (m : Mem) (a b : D) : Option Bool := (toP m a).bind fun p => (toP m b).bind fun q => if SeqAt.shaped p = true ∧ SeqAt.shaped q = true then some (PyData.eqv p q) else none
def eqB (m : Mem) (a b : D) : Option Bool := match a, b with
  | .str x, .str y => some (decide (x = y))
  | a, b => eqB1 m a b
def eqD (a b : D) (m : Mem) : Option (D × Mem) := (eqB m a b).map fun k => (.bl k, m)
def neD (a b : D) (m : Mem) : Option (D × Mem) := (eqB m a b).map fun k => (.bl (!k), m)
/-- plain things, as values -/
def flatD : D → Option V
  | .non => some .non
  | .bl b => some (.bl b)
  | .int i => some (.int i)
  | .str x => some (.str x)
  | _ => none
def flatsD : List D → Option (List V)
  | [] => some []
  | x :: xs => (flatD x).bind fun y => (flatsD xs).map fun ys => y :: ys
def inB1 (m : Mem) (a b : D) : Option Bool := (flatD a).bind fun x => (seqD m b).bind fun ds => (flatsD ds).map fun ys => inV x ys
/-- in a list of data of any depth -/
def inB2 (m : Mem) (a b : D) : Option Bool := (toP m a).bind fun p => (toP m b).bind fun q => match q with
  | .list ds => if SeqAt.shaped p = true ∧ SeqAt.shaped (.list ds) = true then some (ds.any fun z => PyData.eqv z p) else none
  | _ => none
def inB (m : Mem) (a b : D) : Option Bool := match inB1 m a b with
  | some k => some k
  | none => inB2 m a b
def inD (a b : D) (m : Mem) : Option (D × Mem) := (inB m a b).map fun k => (.bl k, m)
def ninD (a b : D) (m : Mem) : Option (D × Mem) := (inB m a b).map fun k => (.bl (!k), m)
/-- is, of truths; of None -/
def isD (a b : D) (m : Mem) : Option (D × Mem) := match a, b with
  | .bl i, .bl j => some (.bl (decide (i = j)), m)
  | _, _ => none
def isnD (a b : D) (m : Mem) : Option (D × Mem) := match a, b with
  | .bl i, .bl j => some (.bl (!decide (i = j)), m)
  | _, _ => none
def nonB : D → Bool
  | .non => true
  | _ => false
def isNoneD (a b : D) (m : Mem) : Option (D × Mem) := match b with
  | .non => some (.bl (nonB a), m)
  | _ => none
def notNoneD (a b : D) (m : Mem) : Option (D × Mem) := match b with
  | .non => some (.bl (!nonB a), m)
  | _ => none

section
variable {X : Cx} {G : Cfg}
theorem op_icmp {p : Int → Int → Bool} {op : CmpOp} (ho : OpR X (compareOp op) (rI0 fun i j => .bl (p i j))) : OpR X (compareOp op) (rD G (icmp p)) := by
  intro pins s σ H x y v u Q I rx ry ⟨r, F, m, a, b, d, m', e, R, ha, hb, q⟩
  unfold icmp at e
  split at e
  · cases e
    rw [dat_int ha] at rx
    rw [dat_int hb] at ry
    exact ho pins s σ H _ _ v u Q I rx ry ⟨_, _, rfl, rfl, q.here R (.bl _)⟩
  · cases e
theorem op_ltD : OpR X (compareOp .Lt) (rD G ltD) := op_icmp op_lt
theorem op_leD : OpR X (compareOp .LtE) (rD G leD) := op_icmp op_le
theorem op_gtD : OpR X (compareOp .Gt) (rD G gtD) := op_icmp op_gt
theorem op_geD : OpR X (compareOp .GtE) (rD G geD) := op_icmp op_ge
abbrev EPO (X : Cx) (f : Value → Value → Sem Value) (v u : Value) (pins : List (Addr × Obj)) (σ : L2.St) (Q : VK) (s : Shared) : Prop := wpAny (model X.prog X.w) X.A (f v u) (EP X pins σ Q) X.xe s
theorem op_eqDD (hK : G.K = X.K) (hu : X.A.units + 64 < cLine) : OpR X (compareOp .Eq) (rD G eqD) := by
  intro pins s σ H x y v u Q I rx ry ⟨r, F, m, a, b, d, m', e, R, ha, hb, q⟩
  obtain ⟨k, e0, e9⟩ := Option.map_eq_some_iff.mp e
  cases e9
  have gen : eqB1 m a b = some k → EPO X (compareOp .Eq) v u pins σ Q s := fun e0 => by
    obtain ⟨p1, e1, e0⟩ := bind2 (γ := Unit) e0
    obtain ⟨p2, e2, e0⟩ := bind2 (γ := Unit) e0
    split at e0
    · rename_i hs
      cases e0
      exact op_eqD hu pins s σ H x y v u Q I rx ry ⟨p1, p2, toP_ok hK R ha e1, toP_ok hK R hb e2, hs.1, hs.2, q.here R (.bl _)⟩
    · cases e0
  unfold eqB at e0
  split at e0
  · rename_i i j
    cases e0
    cases ha
    cases hb
    refine op_eq pins s σ H _ _ v u Q I rx ry ⟨rfl, ?_⟩
    have z := q.here R (.bl (decide (i = j)))
    rw [show decide (V.str i = V.str j) = decide (i = j) from decide_eq_decide.mpr ⟨fun w => V.str.inj w, fun w => congrArg V.str w⟩]
    exact z
  · exact gen e0
theorem op_neDD (hK : G.K = X.K) (hu : X.A.units + 64 < cLine) : OpR X (compareOp .NotEq) (rD G neD) := by
  intro pins s σ H x y v u Q I rx ry ⟨r, F, m, a, b, d, m', e, R, ha, hb, q⟩
  obtain ⟨k, e0, e9⟩ := Option.map_eq_some_iff.mp e
  cases e9
  have gen : eqB1 m a b = some k → EPO X (compareOp .NotEq) v u pins σ Q s := fun e0 => by
    obtain ⟨p1, e1, e0⟩ := bind2 (γ := Unit) e0
    obtain ⟨p2, e2, e0⟩ := bind2 (γ := Unit) e0
    split at e0
    · rename_i hs
      cases e0
      exact op_neD hu pins s σ H x y v u Q I rx ry ⟨p1, p2, toP_ok hK R ha e1, toP_ok hK R hb e2, hs.1, hs.2, q.here R (.bl _)⟩
    · cases e0
  unfold eqB at e0
  split at e0
  · rename_i i j
    cases e0
    cases ha
    cases hb
    refine op_ne pins s σ H _ _ v u Q I rx ry ⟨rfl, ?_⟩
    have z := q.here R (.bl (!decide (i = j)))
    rw [show decide (V.str i = V.str j) = decide (i = j) from decide_eq_decide.mpr ⟨fun w => V.str.inj w, fun w => congrArg V.str w⟩]
    exact z
  · exact gen e0
theorem flat_of {r : List Addr} {F : Hp} {v : V} {d : D} {x : V} (h : Dat G r F v d) (e : flatD d = some x) : v = x ∧ flatV x = true := by
  cases h with
  | non => cases e; exact ⟨rfl, rfl⟩
  | bl _ => cases e; exact ⟨rfl, rfl⟩
  | int _ => cases e; exact ⟨rfl, rfl⟩
  | str _ => cases e; exact ⟨rfl, rfl⟩
  | _ => cases e
theorem flats_of {r : List Addr} {F : Hp} : ∀ {vs : List V} {ds : List D} {xs : List V}, Dats G r F vs ds → flatsD ds = some xs → vs = xs ∧ xs.all flatV = true
  | _, _, _, .nil, e => by cases e; exact ⟨rfl, rfl⟩
  | _, _, _, .cons h t, e => by
    obtain ⟨y, e1, e⟩ := bind2 (γ := Unit) e
    obtain ⟨ys, e2, e3⟩ := Option.map_eq_some_iff.mp e
    cases e3
    obtain ⟨rfl, f1⟩ := flat_of h e1
    obtain ⟨rfl, f2⟩ := flats_of t e2
    exact ⟨rfl, by rw [List.all_cons, f1, f2] <;> rfl⟩
theorem op_inD (hK : G.K = X.K) (hu : X.A.units + 65 < cLine) : OpR X (compareOp .In) (rD G inD) := by
  intro pins s σ H x y v u Q I rx ry ⟨r, F, m, a, b, d, m', e, R, ha, hb, q⟩
  obtain ⟨k, e0, e9⟩ := Option.map_eq_some_iff.mp e
  cases e9
  unfold inB at e0
  split at e0
  · rename_i k1 e1
    cases e0
    obtain ⟨x1, f0, e0⟩ := bind2 (γ := Unit) e1
    obtain ⟨ds, e2, e0⟩ := bind2 (γ := Unit) e0
    obtain ⟨ys, e3, e4⟩ := Option.map_eq_some_iff.mp e0
    cases e4
    obtain ⟨rfl, f1⟩ := flat_of ha f0
    obtain ⟨p, vs, rfl, hd, hs⟩ := seq_of hK R hb e2
    obtain ⟨rfl, f2⟩ := flats_of hd e3
    exact op_in_seq pins s σ H _ _ v u Q I rx ry ⟨_, _, rfl, hs, f1, f2, q.here R (.bl _)⟩
  · obtain ⟨p1, e1, e0⟩ := bind2 (γ := Unit) e0
    obtain ⟨p2, e2, e0⟩ := bind2 (γ := Unit) e0
    split at e0
    · split at e0
      · rename_i hs
        cases e0
        exact L2.op_inD hu pins s σ H x y v u Q I rx ry ⟨_, _, toP_ok hK R ha e1, toP_ok hK R hb e2, hs.1, hs.2, q.here R (.bl _)⟩
      · cases e0
    · cases e0
theorem op_ninD (hK : G.K = X.K) (hu : X.A.units + 65 < cLine) : OpR X (compareOp .NotIn) (rD G ninD) := by
  intro pins s σ H x y v u Q I rx ry ⟨r, F, m, a, b, d, m', e, R, ha, hb, q⟩
  obtain ⟨k, e0, e9⟩ := Option.map_eq_some_iff.mp e
  cases e9
  unfold inB at e0
  split at e0
  · rename_i k1 e1
    cases e0
    obtain ⟨x1, f0, e0⟩ := bind2 (γ := Unit) e1
    obtain ⟨ds, e2, e0⟩ := bind2 (γ := Unit) e0
    obtain ⟨ys, e3, e4⟩ := Option.map_eq_some_iff.mp e0
    cases e4
    obtain ⟨rfl, f1⟩ := flat_of ha f0
    obtain ⟨p, vs, rfl, hd, hs⟩ := seq_of hK R hb e2
    obtain ⟨rfl, f2⟩ := flats_of hd e3
    exact op_notIn_seq pins s σ H _ _ v u Q I rx ry ⟨_, _, rfl, hs, f1, f2, q.here R (.bl _)⟩
  · obtain ⟨p1, e1, e0⟩ := bind2 (γ := Unit) e0
    obtain ⟨p2, e2, e0⟩ := bind2 (γ := Unit) e0
    split at e0
    · split at e0
      · rename_i hs
        cases e0
        exact op_notInD hu pins s σ H x y v u Q I rx ry ⟨_, _, toP_ok hK R ha e1, toP_ok hK R hb e2, hs.1, hs.2, q.here R (.bl _)⟩
      · cases e0
    · cases e0
theorem op_isDD : OpR X (compareOp .Is) (rD G isD) := by
  intro pins s σ H x y v u Q I rx ry ⟨r, F, m, a, b, d, m', e, R, ha, hb, q⟩
  unfold isD at e
  split at e
  · cases e
    rw [dat_bl ha] at rx
    rw [dat_bl hb] at ry
    exact op_isBl pins s σ H _ _ v u Q I rx ry ⟨_, _, rfl, rfl, q.here R (.bl _)⟩
  · cases e
theorem op_isnDD : OpR X (compareOp .IsNot) (rD G isnD) := by
  intro pins s σ H x y v u Q I rx ry ⟨r, F, m, a, b, d, m', e, R, ha, hb, q⟩
  unfold isnD at e
  split at e
  · cases e
    rw [dat_bl ha] at rx
    rw [dat_bl hb] at ry
    exact op_notBl pins s σ H _ _ v u Q I rx ry ⟨_, _, rfl, rfl, q.here R (.bl _)⟩
  · cases e
theorem non_iff {r : List Addr} {F : Hp} {v : V} {d : D} (h : Dat G r F v d) : decide (v = .non) = nonB d := by
  cases h <;> simp [nonB]
theorem op_isNoneD : OpR X (compareOp .Is) (rD G isNoneD) := by
  intro pins s σ H x y v u Q I rx ry ⟨r, F, m, a, b, d, m', e, R, ha, hb, q⟩
  unfold isNoneD at e
  split at e
  · cases e
    cases hb
    exact op_isN pins s σ H _ _ v u Q I rx ry ⟨rfl, by rw [non_iff ha]; exact q.here R (.bl _)⟩
  · cases e
theorem op_notNoneD : OpR X (compareOp .IsNot) (rD G notNoneD) := by
  intro pins s σ H x y v u Q I rx ry ⟨r, F, m, a, b, d, m', e, R, ha, hb, q⟩
  unfold notNoneD at e
  split at e
  · cases e
    cases hb
    exact op_notN pins s σ H _ _ v u Q I rx ry ⟨rfl, by rw [non_iff ha]; exact q.here R (.bl _)⟩
  · cases e
end

/-! ### xs[i], xs[a:b] -/
def ixD (a b : D) (m : Mem) : Option (D × Mem) := match b with
  | .int i => (seqD m a).bind fun xs => (atI xs i).map fun d => (d, m)
  | _ => none
theorem Dats.atI {G : Cfg} {r : List Addr} {F : Hp} {vs : List V} {ds : List D} {i : Int} {d : D} (h : Dats G r F vs ds) (e : L2.atI ds i = some d) : ∃ v, L2.atI vs i = some v ∧ Dat G r F v d := by
  unfold L2.atI at e ⊢
  rw [h.length]
  cases q : ixN ds.length i with
  | none => rw [q] at e; cases e
  | some j =>
    rw [q] at e
    exact h.get e
/-- parts of a list, a tuple -/
def cutL {α : Type} (xs : List α) (lo hi : Option Int) : List α := (xs.drop (HT.sIx xs.length 0 lo)).take (HT.sIx xs.length xs.length hi - HT.sIx xs.length 0 lo)
/-- a list, the script among them -/
def lsqD (m : Mem) : D → Option (List D)
  | .scr ns => some (ns.map D.int)
  | d => lstD m d
theorem lsq_of {K : PySem.W.Frag} {G : Cfg} {r : List Addr} {F H : Hp} {m : Mem} (hK : G.K = K) (R : Rel G r F m H) {v : V} {d : D} {xs : List D} (h : Dat G r F v d) (e : lsqD m d = some xs) : ∃ a vs, v = .ref a ∧ Dats G r F vs xs ∧ SqL K H a vs := by
  unfold lsqD at e
  split at e
  · cases e
    cases h with
    | scr h1 => exact ⟨_, _, rfl, dats_ints _, hK ▸ sql_up R.sub h1⟩
  · obtain ⟨a, vs, e1, e2, e3⟩ := lst_of R h e
    exact ⟨a, vs, e1, e2, SqL.of e3⟩
def slD (a : D) (lo hi : Option Int) (m : Mem) : Option (D × Mem) := match a with
  | .tup xs => some (.tup (cutL xs lo hi), m)
  | a => (lsqD m a).map fun xs => (.lst (cutL xs lo hi), m)
theorem Dats.cut {G : Cfg} {r : List Addr} {F : Hp} {vs : List V} {ds : List D} (h : Dats G r F vs ds) (lo hi : Option Int) : Dats G r F (cutV vs lo hi) (cutL ds lo hi) := by
  unfold cutV cutL
  rw [h.length]
  exact (h.drop _).take _
abbrev SO := Ev → Mem → Option (Option Int × Mem)
def noO : SO := fun _ m => some (none, m)
def someO (a : SE) : SO := fun env m => (a env m).bind fun p => match p.1 with
  | .int i => some (some i, p.2)
  | _ => none
def semO (G : Cfg) (e : SO) : TO := fun σ H Q => ∃ (r : List Addr) (F : Hp) (env : Ev) (m : Mem) (o : Option Int) (m' : Mem), e env m = some (o, m') ∧ Rel G r F m H ∧ EnvR G r F H σ env ∧ ∀ (r' : List Addr) (F' H' : Hp), Ext r r' F F' H H' → Rel G r' F' m' H' → Q o H'
def slE (a : SE) (lo hi : SO) : SE := fun env m => (a env m).bind fun p => (lo env p.2).bind fun l => (hi env l.2).bind fun h => slD p.1 l.1 h.1 h.2
def revE (a : SE) : SE := fun env m => (a env m).bind fun p => (lstD p.2 p.1).map fun xs => (.lst xs.reverse, p.2)
def revTE (a : SE) : SE := fun env m => (a env m).bind fun p => match p.1 with
  | .tup xs => some (.tup xs.reverse, p.2)
  | _ => none

section
variable {X : Cx} {G : Cfg} {pos p2 p1 p3 : Pos} {a b c : Expr} {sa sb : SE} {so su : SO}
theorem ix_D (hK : G.K = X.K) : IxR X (rD G ixD) := by
  intro value slice pins s σ H x y v u Q I rx ry ⟨r, F, m, a, b, d, m', e, R, ha, hb, q⟩ hs
  unfold ixD at e
  split at e
  · obtain ⟨xs, e1, e⟩ := bind2 (γ := Unit) e
    obtain ⟨d', e2, e3⟩ := Option.map_eq_some_iff.mp e
    cases e3
    rw [dat_int hb] at ry
    obtain ⟨p, vs, rfl, hd, hq⟩ := seq_of hK R ha e1
    obtain ⟨w, h1, h2⟩ := hd.atI e2
    rcases hq with hq | hq
    · exact ix_list value slice pins s σ H _ _ v u Q I rx ry ⟨_, _, _, _, rfl, rfl, hq, h1, q.here R h2⟩ hs
    · exact ix_tup value slice pins s σ H _ _ v u Q I rx ry ⟨_, _, _, _, rfl, rfl, hq, h1, q.here R h2⟩ hs
  · cases e
theorem o_none : PO X none (semO G noO) := ⟨fun pins s σ H Q I ⟨r, F, env, m, o, m', e, R, E, q⟩ => by
  cases e
  exact po_none.run pins s σ H Q I (q r F H .refl R)⟩
theorem o_some (ha : PE X a (semE G sa)) : PO X (some a) (semO G (someO sa)) := ⟨fun pins s σ H Q I ⟨r, F, env, m, o, m', e, R, E, q⟩ => by
  refine (po_some ha).run pins s σ H Q I ?_
  obtain ⟨⟨d1, m1⟩, e1, e⟩ := bind2 (γ := Unit) e
  refine ⟨r, F, env, m, d1, m1, e1, R, E, fun v r1 F1 H1 x1 R1 h1 => ?_⟩
  cases d1 with
  | int i =>
    cases e
    exact ⟨_, dat_int h1, q r1 F1 H1 x1 R1⟩
  | _ => cases e⟩
theorem tup_cut {r : List Addr} {F H : Hp} {m : Mem} {lo hi : Option Int} {Q : VK} {p : Addr} {vs : List V} {xs : List D} (R : Rel G r F m H) (h1 : SqT G.K F p vs) (h2 : Dats G r F vs xs) (q : PostE G r F H m (.tup (cutL xs lo hi)) Q) :
    (HT.sIx vs.length 0 lo = 0 ∧ HT.sIx vs.length vs.length hi = vs.length → Q (.ref p) H) ∧ (¬ (HT.sIx vs.length 0 lo = 0 ∧ HT.sIx vs.length vs.length hi = vs.length) → ∀ l, H l = none → Q (.ref l) (upd H l (.tup (cutV vs lo hi)))) := by
  refine ⟨fun ⟨z1, z2⟩ => ?_, fun _ => q.tup R (h2.cut lo hi)⟩
  have e : cutL xs lo hi = xs := by
    unfold cutL
    rw [← h2.length, z1, z2, List.drop_zero, Nat.sub_zero, h2.length, List.take_length]
  rw [e] at q
  exact q.here R (.tup h1 h2)
def rSlB (K : PySem.W.Frag) : V → Option Int → Option Int → Hp → VK → Prop := fun x lo hi H Q => rSlA K x lo hi H Q ∨ rSlL K x lo hi H Q
theorem sl_B : SlR X (rSlB X.K) := by
  intro pins s σ H x v vl vu lo hi sl Q I rx hs pl pu h
  rcases h with h | h
  · exact sl_tupA pins s σ H x v vl vu lo hi sl Q I rx hs pl pu h
  · exact sl_list pins s σ H x v vl vu lo hi sl Q I rx hs pl pu h
theorem sl_ok (hK : G.K = X.K) {r : List Addr} {F H : Hp} {m m' : Mem} {lo hi : Option Int} {Q : VK} {v : V} {a d : D} (R : Rel G r F m H) (h : Dat G r F v a) (e : slD a lo hi m = some (d, m')) (q : PostE G r F H m' d Q) : rSlB X.K v lo hi H Q := by
  have rest : ∀ a : D, Dat G r F v a → ((lsqD m a).map fun xs => (D.lst (cutL xs lo hi), m)) = some (d, m') → rSlB X.K v lo hi H Q := fun a h e => by
    obtain ⟨xs, e4, e5⟩ := Option.map_eq_some_iff.mp e
    cases e5
    obtain ⟨p, vs, rfl, hd, hq⟩ := lsq_of hK R h e4
    exact .inr ⟨_, _, rfl, hq, q.lst R (hd.cut lo hi)⟩
  cases a with
  | tup xs =>
    cases e
    cases h with
    | tup k1 k2 =>
      obtain ⟨z1, z2⟩ := tup_cut R k1 k2 q
      exact .inl ⟨_, _, rfl, hK ▸ sqt_up R.sub k1, z1, z2⟩
  | _ => exact rest _ h e
theorem e_sl {lo hi : Option Expr} (hK : G.K = X.K) (ha : PE X a (semE G sa)) (hl : PO X lo (semO G so)) (hh : PO X hi (semO G su)) : PE X (.Subscript a (.Slice lo hi none p2) pos) (semE G (slE sa so su)) :=
  wkE (pe_slice sl_B ha hl hh) fun σ H Q ⟨r, F, env, m, d, m', e, R, E, q⟩ => by
    obtain ⟨⟨d1, m1⟩, e1, e⟩ := bind2 (γ := Unit) e
    obtain ⟨⟨l, m2⟩, e2, e⟩ := bind2 (γ := Unit) e
    obtain ⟨⟨h, m3⟩, e3, e⟩ := bind2 (γ := Unit) e
    refine ⟨r, F, env, m, d1, m1, e1, R, E, fun v r1 F1 H1 x1 R1 h1 => ?_⟩
    refine ⟨r1, F1, env, m1, l, m2, e2, R1, E.ext x1, fun r2 F2 H2 x2 R2 => ?_⟩
    refine ⟨r2, F2, env, m2, h, m3, e3, R2, (E.ext x1).ext x2, fun r3 F3 H3 x3 R3 => ?_⟩
    have q3 := ((q.ext x1).ext x2).ext x3
    have h3 := (h1.ext x2).ext x3
    clear q h1
    exact sl_ok hK R3 h3 e q3
/-- xs[::-1] of a list -/
theorem e_rev (hK : G.K = X.K) {p4 : Pos} {j : Nat} (ha : PE X a (semE G sa)) : PE X (.Subscript a (.Slice none none (some (.UnaryOp .USub (.Constant (.int 1) j p1) p2)) p3) pos) (semE G (revE sa)) := by
  refine wkE (pe_revL ha) fun σ H Q ⟨r, F, env, m, d, m', e, R, E, q⟩ => ?_
  obtain ⟨⟨d1, m1⟩, e1, e⟩ := bind2 (γ := Unit) e
  obtain ⟨xs, e2, e3⟩ := Option.map_eq_some_iff.mp e
  cases e3
  refine ⟨r, F, env, m, d1, m1, e1, R, E, fun v r1 F1 H1 x1 R1 h1 => ?_⟩
  obtain ⟨p, vs, rfl, hd, hq⟩ := lst_of R1 h1 e2
  exact ⟨p, vs, rfl, SqL.of hq, (q.ext x1).lst R1 hd.rev⟩
end
end Kb

set_option Elab.async false
set_option linter.all false
set_option maxRecDepth 100000
set_option maxHeartbeats 4000000
set_option autoImplicit false
/-! KcE: built-ins over data. -/
namespace Kb
open PySem PySem.Spec PyProof.Rows L2

def intsD : List D → Option (List Int)
  | [] => some []
  | .int i :: xs => (intsD xs).map fun ys => i :: ys
  | _ => none
def blsD : List D → Option (List Bool)
  | [] => some []
  | .bl i :: xs => (blsD xs).map fun ys => i :: ys
  | _ => none
theorem ints_of {G : Cfg} {r : List Addr} {F : Hp} : ∀ {vs : List V} {ds : List D} {ns : List Int}, Dats G r F vs ds → intsD ds = some ns → vs = ns.map V.int
  | _, _, _, .nil, e => by cases e; rfl
  | _, _, _, .cons (d := d) h t, e => by
    cases d with
    | int i =>
      obtain ⟨ys, e1, e2⟩ := Option.map_eq_some_iff.mp e
      cases e2
      rw [dat_int h, ints_of t e1]
      rfl
    | _ => cases e
theorem bls_of {G : Cfg} {r : List Addr} {F : Hp} : ∀ {vs : List V} {ds : List D} {ns : List Bool}, Dats G r F vs ds → blsD ds = some ns → vs = ns.map V.bl
  | _, _, _, .nil, e => by cases e; rfl
  | _, _, _, .cons (d := d) h t, e => by
    cases d with
    | bl i =>
      obtain ⟨ys, e1, e2⟩ := Option.map_eq_some_iff.mp e
      cases e2
      rw [dat_bl h, bls_of t e1]
      rfl
    | _ => cases e
theorem intsD_map (ns : List Int) : intsD (ns.map D.int) = some ns := by
  induction ns with
  | nil => rfl
  | cons n ns ih => simp only [List.map_cons, intsD, ih, Option.map_some]
theorem blsD_map (ns : List Bool) : blsD (ns.map D.bl) = some ns := by
  induction ns with
  | nil => rfl
  | cons n ns ih => simp only [List.map_cons, blsD, ih, Option.map_some]

/-- truths of truths and numbers -/
def trsD : List D → Option (List Bool)
  | [] => some []
  | .bl b :: xs => (trsD xs).map fun ys => b :: ys
  | .int i :: xs => (trsD xs).map fun ys => (i != 0) :: ys
  | _ => none
def trV : V → Bool
  | .bl b => b
  | .int i => i != 0
  | _ => false
def isTr : V → Bool
  | .bl _ => true
  | .int _ => true
  | _ => false
theorem trs_of {G : Cfg} {r : List Addr} {F : Hp} : ∀ {vs : List V} {ds : List D} {bs : List Bool}, Dats G r F vs ds → trsD ds = some bs → (∀ v ∈ vs, isTr v = true) ∧ bs = vs.map trV
  | _, _, _, .nil, e => by cases e; exact ⟨fun _ h => (nomatch h), rfl⟩
  | _, _, _, .cons (d := d) h t, e => by
    cases d with
    | bl b =>
      obtain ⟨ys, e1, e2⟩ := Option.map_eq_some_iff.mp e
      cases e2
      obtain ⟨h1, h2⟩ := trs_of t e1
      cases h
      refine ⟨fun v hv => ?_, by rw [h2]; rfl⟩
      rcases List.mem_cons.mp hv with z | z
      · rw [z]; rfl
      · exact h1 v z
    | int i =>
      obtain ⟨ys, e1, e2⟩ := Option.map_eq_some_iff.mp e
      cases e2
      obtain ⟨h1, h2⟩ := trs_of t e1
      cases h
      refine ⟨fun v hv => ?_, by rw [h2]; rfl⟩
      rcases List.mem_cons.mp hv with z | z
      · rw [z]; rfl
      · exact h1 v z
    | _ => cases e
theorem trsD_bls (ns : List Bool) : trsD (ns.map D.bl) = some ns := by
  induction ns with
  | nil => rfl
  | cons n ns ih => simp only [List.map_cons, trsD, ih, Option.map_some]
theorem trsD_ints (ns : List Int) : trsD (ns.map D.int) = some (ns.map fun i => i != 0) := by
  induction ns with
  | nil => rfl
  | cons n ns ih => simp only [List.map_cons, trsD, ih, Option.map_some]
theorem truth_vs {prog : Program} {w : World} {A : Around} {vs : List V} {its : List Value} (rv : Vals vs its) (h : ∀ v ∈ vs, isTr v = true) : TruthOf prog w A (fun i v => its.toArray[i]? = some v) (fun i => (vs.map trV).getD i false) := fun i v s Q E hv hq => by
  have hv' : its[i]? = some v := by simpa using hv
  obtain ⟨x, hx, rx⟩ : ∃ x, vs[i]? = some x ∧ RelV x v := by
    clear hq h
    induction rv generalizing i with
    | nil => cases hv'
    | cons r rs ih =>
      cases i with
      | zero => cases hv'; exact ⟨_, rfl, r⟩
      | succ i => exact ih i (by simpa using hv') (by simpa using hv')
  have hg : (vs.map trV).getD i false = trV x := by rw [List.getD_eq_getElem?_getD, List.getElem?_map, hx] <;> rfl
  have hq' : Q ((vs.map trV).getD i false) s := hq
  rw [hg] at hq'
  have ht := h x (List.mem_of_getElem? hx)
  cases x with
  | bl b => cases rx; exact wpAny_truthy_bool hq'
  | int i => obtain ⟨t, rfl⟩ := rx; exact PySem.P.truthy_int hq'
  | _ => cases ht
theorem cr_anyV {X : Cx} (hc : X.calm = true) : CallR X (.builtin "any") (fun xs H Q => ∃ (a : Addr) (vs : List V), xs = [V.ref a] ∧ SqL X.K H a vs ∧ (∀ v ∈ vs, isTr v = true) ∧ Q (.bl ((vs.map trV).any id)) H) := by
  intro pins s σ H vs us Q I r h
  obtain ⟨a, bs, rfl, hs, hb, q⟩ := h
  obtain ⟨its, rv, hl, _⟩ := I.list hs
  rw [Vals.ref1 r]
  refine call_any_walk (iter_any hl.isList fun s₂ e2 st hne => ?_)
  subst e2
  refine ⟨_, _, _, _, _, _, _, rfl, Walks.list (A := X.A.in1) (I.ok.hd hc) _ a hne its.toArray, st, truth_vs rv hb, fun h' tk hk => ?_⟩
  refine ⟨.bl _, H, I.kept fun b o eo => hk b o (fun hmem => ?_) (Heap.get?_push_of_some _ eo), ?_, q⟩
  · rcases List.mem_cons.mp hmem with e1 | hmem
    · exact absurd (e1 ▸ Heap.lt_size eo) (Nat.lt_irrefl _)
    · cases hmem
  · show Value.bool _ = Value.bool _
    rw [← L2.any_range, List.size_toArray, List.length_map, rv.length]
theorem cr_allV {X : Cx} (hc : X.calm = true) : CallR X (.builtin "all") (fun xs H Q => ∃ (a : Addr) (vs : List V), xs = [V.ref a] ∧ SqL X.K H a vs ∧ (∀ v ∈ vs, isTr v = true) ∧ Q (.bl ((vs.map trV).all id)) H) := by
  intro pins s σ H vs us Q I r h
  obtain ⟨a, bs, rfl, hs, hb, q⟩ := h
  obtain ⟨its, rv, hl, _⟩ := I.list hs
  rw [Vals.ref1 r]
  refine call_all_walk (iter_any hl.isList fun s₂ e2 st hne => ?_)
  subst e2
  refine ⟨_, _, _, _, _, _, _, rfl, Walks.list (A := X.A.in1) (I.ok.hd hc) _ a hne its.toArray, st, truth_vs rv hb, fun h' tk hk => ?_⟩
  refine ⟨.bl _, H, I.kept fun b o eo => hk b o (fun hmem => ?_) (Heap.get?_push_of_some _ eo), ?_, q⟩
  · rcases List.mem_cons.mp hmem with e1 | hmem
    · exact absurd (e1 ▸ Heap.lt_size eo) (Nat.lt_irrefl _)
    · cases hmem
  · show Value.bool _ = Value.bool _
    rw [← L2.all_range, List.size_toArray, List.length_map, rv.length]

abbrev FD := List D → Mem → Option (D × Mem)
def lenD : FD := fun as m => match as with
  | [.str x] => if x.length ≤ 100000 then some (.int x.length, m) else none
  | [d] => (seqD m d).map fun xs => (.int xs.length, m)
  | _ => none
def absD : FD := fun as m => match as with
  | [.int i] => some (.int (if i < 0 then -i else i), m)
  | _ => none
def maxD : FD := fun as m => match as with
  | [.int i, .int j] => some (.int (if j > i then j else i), m)
  | _ => none
def minD : FD := fun as m => match as with
  | [.int i, .int j] => some (.int (if j < i then j else i), m)
  | _ => none
def intD : FD := fun as m => match as with
  | [.int i] => some (.int i, m)
  | [.bl k] => some (.int (if k then 1 else 0), m)
  | _ => none
def boolD : FD := fun as m => match as with
  | [.int i] => some (.bl (i != 0), m)
  | [.bl k] => some (.bl k, m)
  | _ => none
def sumD : FD := fun as m => match as with
  | [d] => (lsqD m d).bind fun xs => (intsD xs).map fun ns => (.int ns.sum, m)
  | _ => none
def anyD : FD := fun as m => match as with
  | [d] => (lsqD m d).bind fun xs => (trsD xs).map fun ns => (.bl (ns.any id), m)
  | _ => none
def allD : FD := fun as m => match as with
  | [d] => (lsqD m d).bind fun xs => (trsD xs).map fun ns => (.bl (ns.all id), m)
  | _ => none
def tupleD : FD := fun as m => match as with
  | [.tup xs] => some (.tup xs, m)
  | [d] => (lsqD m d).map fun xs => (.tup xs, m)
  | _ => none
def listD : FD := fun as m => match as with
  | [d] => (seqD m d).map fun xs => (.lst xs, m)
  | _ => none
def listND : FD := fun as m => match as with
  | [d] => (seqD m d).map fun xs => (.loc m.length, m ++ [.lst xs])
  | _ => none
def divmodD : FD := fun as m => match as with
  | [.int i, .int j] => if 0 < j ∧ j.natAbs.log2 < 9000 then some (.tup [.int (i / j), .int (i % j)], m) else none
  | _ => none

section
variable {X : Cx} {G : Cfg}
theorem dats1 {r : List Addr} {F : Hp} {vs : List V} {d : D} (h : Dats G r F vs [d]) : ∃ v, vs = [v] ∧ Dat G r F v d := by
  cases h with
  | cons h t =>
    cases t
    exact ⟨_, rfl, h⟩
theorem dats2 {r : List Addr} {F : Hp} {vs : List V} {d e : D} (h : Dats G r F vs [d, e]) : ∃ v w, vs = [v, w] ∧ Dat G r F v d ∧ Dat G r F w e := by
  cases h with
  | cons h t =>
    obtain ⟨w, rfl, h2⟩ := dats1 t
    exact ⟨_, _, rfl, h, h2⟩
theorem c_len (hK : G.K = X.K) : CallR X (.builtin "len") (rC G lenD) := by
  intro pins s σ H xs us Q I rs ⟨r, F, m, as, d, m', e, R, ha, q⟩
  unfold lenD at e
  split at e
  · split at e
    · rename_i hl
      cases e
      obtain ⟨v, rfl, h⟩ := dats1 ha
      rw [dat_str h] at rs
      exact call_len pins s σ H _ us Q I rs ⟨_, _, rfl, ⟨hun hl, rfl⟩, q.here R (.int _)⟩
    · cases e
  · obtain ⟨ys, e1, e2⟩ := Option.map_eq_some_iff.mp e
    cases e2
    obtain ⟨v, rfl, h⟩ := dats1 ha
    obtain ⟨p, vs, rfl, hd, hq⟩ := seq_of hK R h e1
    refine call_len_seq pins s σ H _ us Q I rs ⟨_, _, rfl, hq, ?_⟩
    rw [hd.length]
    exact q.here R (.int _)
  · cases e
theorem c_abs : CallR X (.builtin "abs") (rC G absD) := by
  intro pins s σ H xs us Q I rs ⟨r, F, m, as, d, m', e, R, ha, q⟩
  unfold absD at e
  split at e
  · cases e
    obtain ⟨v, rfl, h⟩ := dats1 ha
    rw [dat_int h] at rs
    exact call_abs pins s σ H _ us Q I rs ⟨_, rfl, q.here R (.int _)⟩
  · cases e
theorem c_max (hc : X.calm = true) : CallR X (.builtin "max") (rC G maxD) := by
  intro pins s σ H xs us Q I rs ⟨r, F, m, as, d, m', e, R, ha, q⟩
  unfold maxD at e
  split at e
  · cases e
    obtain ⟨v, w, rfl, h, h2⟩ := dats2 ha
    rw [dat_int h, dat_int h2] at rs
    exact call_max2 hc pins s σ H _ us Q I rs ⟨_, _, rfl, q.here R (.int _)⟩
  · cases e
theorem c_min (hc : X.calm = true) : CallR X (.builtin "min") (rC G minD) := by
  intro pins s σ H xs us Q I rs ⟨r, F, m, as, d, m', e, R, ha, q⟩
  unfold minD at e
  split at e
  · cases e
    obtain ⟨v, w, rfl, h, h2⟩ := dats2 ha
    rw [dat_int h, dat_int h2] at rs
    exact call_min2 hc pins s σ H _ us Q I rs ⟨_, _, rfl, q.here R (.int _)⟩
  · cases e
theorem c_int : CallR X (.type "int") (rC G intD) := by
  intro pins s σ H xs us Q I rs ⟨r, F, m, as, d, m', e, R, ha, q⟩
  unfold intD at e
  split at e
  · cases e
    obtain ⟨v, rfl, h⟩ := dats1 ha
    rw [dat_int h] at rs
    exact call_int1 pins s σ H _ us Q I rs (.inl ⟨_, rfl, q.here R (.int _)⟩)
  · cases e
    obtain ⟨v, rfl, h⟩ := dats1 ha
    rw [dat_bl h] at rs
    exact call_int1 pins s σ H _ us Q I rs (.inr ⟨_, rfl, q.here R (.int _)⟩)
  · cases e
theorem c_bool : CallR X (.type "bool") (rC G boolD) := by
  intro pins s σ H xs us Q I rs ⟨r, F, m, as, d, m', e, R, ha, q⟩
  unfold boolD at e
  split at e
  · cases e
    obtain ⟨v, rfl, h⟩ := dats1 ha
    rw [dat_int h] at rs
    exact call_bool1 pins s σ H _ us Q I rs (.inl ⟨_, rfl, q.here R (.bl _)⟩)
  · cases e
    obtain ⟨v, rfl, h⟩ := dats1 ha
    rw [dat_bl h] at rs
    exact call_bool1 pins s σ H _ us Q I rs (.inr ⟨_, rfl, q.here R (.bl _)⟩)
  · cases e
theorem c_sum (hK : G.K = X.K) (hc : X.calm = true) : CallR X (.builtin "sum") (rC G sumD) := by
  intro pins s σ H xs us Q I rs ⟨r, F, m, as, d, m', e, R, ha, q⟩
  unfold sumD at e
  split at e
  · obtain ⟨ys, e1, e0⟩ := bind2 (γ := Unit) e
    obtain ⟨ns, e2, e3⟩ := Option.map_eq_some_iff.mp e0
    cases e3
    obtain ⟨v, rfl, h⟩ := dats1 ha
    obtain ⟨p, vs, rfl, hd, hq⟩ := lsq_of hK R h e1
    rw [ints_of hd e2] at hq
    exact cr_sum hc pins s σ H _ us Q I rs ⟨_, _, rfl, hq, q.here R (.int _)⟩
  · cases e
theorem c_any (hK : G.K = X.K) (hc : X.calm = true) : CallR X (.builtin "any") (rC G anyD) := by
  intro pins s σ H xs us Q I rs ⟨r, F, m, as, d, m', e, R, ha, q⟩
  unfold anyD at e
  split at e
  · obtain ⟨ys, e1, e0⟩ := bind2 (γ := Unit) e
    obtain ⟨ns, e2, e3⟩ := Option.map_eq_some_iff.mp e0
    cases e3
    obtain ⟨v, rfl, h⟩ := dats1 ha
    obtain ⟨p, vs, rfl, hd, hq⟩ := lsq_of hK R h e1
    obtain ⟨g1, rfl⟩ := trs_of hd e2
    exact cr_anyV hc pins s σ H _ us Q I rs ⟨_, _, rfl, hq, g1, q.here R (.bl _)⟩
  · cases e
theorem c_all (hK : G.K = X.K) (hc : X.calm = true) : CallR X (.builtin "all") (rC G allD) := by
  intro pins s σ H xs us Q I rs ⟨r, F, m, as, d, m', e, R, ha, q⟩
  unfold allD at e
  split at e
  · obtain ⟨ys, e1, e0⟩ := bind2 (γ := Unit) e
    obtain ⟨ns, e2, e3⟩ := Option.map_eq_some_iff.mp e0
    cases e3
    obtain ⟨v, rfl, h⟩ := dats1 ha
    obtain ⟨p, vs, rfl, hd, hq⟩ := lsq_of hK R h e1
    obtain ⟨g1, rfl⟩ := trs_of hd e2
    exact cr_allV hc pins s σ H _ us Q I rs ⟨_, _, rfl, hq, g1, q.here R (.bl _)⟩
  · cases e
theorem c_tuple (hK : G.K = X.K) : CallR X (.type "tuple") (rC G tupleD) := by
  intro pins s σ H xs us Q I rs ⟨r, F, m, as, d, m', e, R, ha, q⟩
  unfold tupleD at e
  split at e
  · cases e
    obtain ⟨v, rfl, h⟩ := dats1 ha
    cases h with
    | tup h1 h2 => exact call_tuple_of pins s σ H _ us Q I rs ⟨_, _, rfl, .inr ⟨hK ▸ sqt_up R.sub h1, q.here R (.tup h1 h2)⟩⟩
  · obtain ⟨ys, e1, e2⟩ := Option.map_eq_some_iff.mp e
    cases e2
    obtain ⟨v, rfl, h⟩ := dats1 ha
    obtain ⟨p, vs, rfl, hd, hq⟩ := lsq_of hK R h e1
    exact call_tuple_of pins s σ H _ us Q I rs ⟨_, _, rfl, .inl ⟨hq, q.tup R hd⟩⟩
  · cases e
theorem c_list (hK : G.K = X.K) : CallR X (.type "list") (rC G listD) := by
  intro pins s σ H xs us Q I rs ⟨r, F, m, as, d, m', e, R, ha, q⟩
  unfold listD at e
  split at e
  · obtain ⟨ys, e1, e2⟩ := Option.map_eq_some_iff.mp e
    cases e2
    obtain ⟨v, rfl, h⟩ := dats1 ha
    obtain ⟨p, vs, rfl, hd, hq⟩ := seq_of hK R h e1
    exact call_list_of pins s σ H _ us Q I rs ⟨_, _, rfl, hq, q.lst R hd⟩
  · cases e
theorem c_listN (hK : G.K = X.K) : CallR X (.type "list") (rC G listND) := by
  intro pins s σ H xs us Q I rs ⟨r, F, m, as, d, m', e, R, ha, q⟩
  unfold listND at e
  split at e
  · obtain ⟨ys, e1, e2⟩ := Option.map_eq_some_iff.mp e
    cases e2
    obtain ⟨v, rfl, h⟩ := dats1 ha
    obtain ⟨p, vs, rfl, hd, hq⟩ := seq_of hK R h e1
    exact call_list_of pins s σ H _ us Q I rs ⟨_, _, rfl, hq, q.lstN R hd⟩
  · cases e
theorem c_divmod : CallR X (.builtin "divmod") (rC G divmodD) := by
  intro pins s σ H xs us Q I rs ⟨r, F, m, as, d, m', e, R, ha, q⟩
  unfold divmodD at e
  split at e
  · split at e
    · rename_i hl
      cases e
      obtain ⟨v, w, rfl, h, h2⟩ := dats2 ha
      rw [dat_int h, dat_int h2] at rs
      exact call_divmodW pins s σ H _ us Q I rs ⟨_, _, rfl, ⟨hl.1, PyProof.noPylong_of_log2 hl.2⟩, q.tup R (.cons (.int _) (.cons (.int _) .nil))⟩
    · cases e
  · cases e
end

/-! ### repr -/
def shownD (m : Mem) (d : D) : Option Str := (toP m d).bind fun p => if p.showable = true ∧ p.hasDict = false ∧ p.depth ≤ 20 ∧ p.shown.length ≤ 1000000 then some p.shown else none
def reprD : FD := fun as m => match as with
  | [d] => (shownD m d).map fun x => (.str x, m)
  | _ => none
section
variable {X : Cx} {G : Cfg}
theorem repr_run {pins : List (Addr × Obj)} {s : Shared} {σ : L2.St} {H : Hp} {v : V} {u : Value} {p : PyData} {Q : VK} {k : Nat} (hg : X.A.guards = some []) (hr : Room k X.A) (I : Inv X pins σ H s) (rv : RelV v u) (h : Dp X.K H v p) (h1 : p.showable = true) (h2 : p.hasDict = false) (h3 : p.depth ≤ 20) (h4 : p.shown.length ≤ 1000000)
    (q : Q (.str p.shown) H) : wpAny (model X.prog X.w) X.A (call (.builtin "repr") [u]) (EP X pins σ Q) X.xe s := by
  have hz : p.shown.length ≤ sizeLine := by rw [sizeLine_eq]; omega
  have hu := hr.units
  have fin : ∀ h' u tk, (∀ b o, s.heap.get? b = some o → h'.get? b = some o) → EP X pins σ Q (.str p.shown u) { s with heap := h', toks := tk } := fun h' u tk k => ⟨.str p.shown, H, I.kept (t' := tk) k, ⟨u, rfl⟩, q⟩
  cases h with
  | non =>
    cases (show u = Value.none from rv)
    exact PySem.P.repr_of_none (fin _ _ _ fun _ _ e => e)
  | bl b =>
    cases (show u = Value.bool b from rv)
    simp only [PyData.shown] at fin
    exact PySem.P.repr_of_bool (fin _ _ _ fun _ _ e => e)
  | int i =>
    obtain ⟨t, rfl⟩ := rv
    simp only [PyData.shown] at fin
    exact PySem.P.repr_of_int (by simpa [PyData.showable] using h1) (fin _ _ _ fun _ _ e => e)
  | str x =>
    obtain ⟨t, rfl⟩ := rv
    simp only [PyData.shown] at fin hz
    exact PySem.P.repr_of_str (fin _ _ _ fun _ _ e => e) hz
  | lst hs ha =>
    obtain ⟨as, rd⟩ := Dp.reads I _ _ u (.lst hs ha) rv
    cases (show u = Value.ref _ from rv)
    exact repr_of_reads' rd h1 (PyData.noDict_hsm h2) hg (by omega) (fun _ _ e => e) fin hz
  | tup hs ha =>
    obtain ⟨as, rd⟩ := Dp.reads I _ _ u (.tup hs ha) rv
    cases (show u = Value.ref _ from rv)
    exact repr_of_reads' rd h1 (PyData.noDict_hsm h2) hg (by omega) (fun _ _ e => e) fin hz
theorem c_repr {k : Nat} (hK : G.K = X.K) (hg : X.A.guards = some []) (hr : Room k X.A) : CallR X (.builtin "repr") (rC G reprD) := by
  intro pins s σ H xs us Q I rs ⟨r, F, m, as, d, m', e, R, ha, q⟩
  unfold reprD at e
  split at e
  · obtain ⟨x, e1, e2⟩ := Option.map_eq_some_iff.mp e
    cases e2
    obtain ⟨p, e3, e4⟩ := bind2 (γ := Unit) e1
    split at e4
    · rename_i hl
      cases e4
      obtain ⟨v, rfl, h⟩ := dats1 ha
      obtain ⟨u, rfl, ru⟩ := vals1 rs
      exact repr_run hg hr I ru (toP_ok hK R h e3) hl.1 hl.2.1 hl.2.2.1 hl.2.2.2 (q.here R (.str _))
    · cases e4
  · cases e
end

/-! ### range objects -/
def rangeD : FD := fun as m => match as with
  | [.int j] => some (.rng 0 j, m)
  | [.int i, .int j] => some (.rng i j, m)
  | _ => none
theorem c_range {X : Cx} {G : Cfg} : CallR X (.type "range") (rC G rangeD) := by
  intro pins s σ H vs us Q I rv ⟨r, F, m, as, d, m', e, R, hd, q⟩
  have fin : ∀ lo hi : Int, d = .rng lo hi → m' = m → ∀ p, H p = none → Q (.ref p) (upd H p (.rng lo hi)) := fun lo hi ed em p hp => by
    subst ed em
    obtain ⟨R2, e2⟩ := R.new (o := .rng lo hi) hp
    exact q _ r _ _ e2 R2 (.rng upd_same)
  unfold rangeD at e
  split at e
  · rename_i j
    cases e
    obtain ⟨v, rfl, hv⟩ := dats1 hd
    cases dat_int hv
    obtain ⟨u1, rfl, r1⟩ := vals1 rv
    obtain ⟨t, rfl⟩ := r1
    refine call_range_1 ⟨.ref s.heap.objs.size, upd H s.heap.objs.size (.rng 0 j), I.laid (t' := s.toks + 1 + 1) (fun b o e => Heap.get?_push_of_some _ e) (Nat.le_refl _) ?_, rfl, fin 0 j rfl rfl _ (I.hok.fresh (Nat.le_refl _))⟩
    exact ⟨s.toks, t, s.toks + 1, Heap.get?_push_size _ rfl⟩
  · rename_i i j
    cases e
    obtain ⟨v, w, rfl, hv, hw⟩ := dats2 hd
    cases dat_int hv
    cases dat_int hw
    exact cr_range2 pins s σ H _ us Q I rv ⟨i, j, rfl, fin i j rfl rfl⟩
  · cases e
end Kb

set_option Elab.async false
set_option linter.all false
set_option maxRecDepth 100000
set_option maxHeartbeats 4000000
set_option autoImplicit false
/-! KcF: statements, targets, what loops walk. -/
namespace Kb
open PySem PySem.Spec PyProof.Rows L2

inductive Out where
  | nx (env : Ev) (m : Mem) | rt (d : D) (m : Mem) | bk (env : Ev) (m : Mem) | ct (env : Ev) (m : Mem)
abbrev SS := Ev → Mem → Option Out

section
variable (G : Cfg)
/-- what is handed back: a value, or a list that no one else holds -/
def DatR (r : List Addr) (F H : Hp) (P : Addr → Prop) (v : V) (d : D) : Prop := match isOwn d with
  | true => ∃ a, v = .ref a ∧ a ∉ r ∧ F a = none ∧ P a ∧ OwnAt G r F H a d
  | false => Dat G r F v d
def EndS (r : List Addr) (F H : Hp) (P : Addr → Prop) (D : Ends) : Out → Prop
  | .nx env m => ∀ σ, Rel G r F m H → EnvR G r F H σ env → (∀ a, OwnS σ env a → P a) → D.nx σ H
  | .bk env m => ∀ σ, Rel G r F m H → EnvR G r F H σ env → (∀ a, OwnS σ env a → P a) → D.bk σ H
  | .ct env m => ∀ σ, Rel G r F m H → EnvR G r F H σ env → (∀ a, OwnS σ env a → P a) → D.ct σ H
  | .rt d m => ∀ v, Rel G r F m H → DatR G r F H P v d → D.rt v H
def PostS (r : List Addr) (F H : Hp) (O : Addr → Prop) (o : Out) (D : Ends) : Prop := ∀ (r' : List Addr) (F' H' : Hp), ExtO O r r' F F' H H' → EndS G r' F' H' (fun a => O a ∨ H a = none) D o
def semS (t : SS) : TS := fun D σ H => ∃ (r : List Addr) (F : Hp) (env : Ev) (m : Mem) (o : Out), t env m = some o ∧ Rel G r F m H ∧ EnvR G r F H σ env ∧ PostS G r F H (OwnS σ env) o D
end
section
variable {G : Cfg} {r r' : List Addr} {F F' H H' : Hp} {D : Ends} {O O' : Addr → Prop}
theorem Dat.toR {P : Addr → Prop} {v : V} {d : Kb.D} (h : Dat G r F v d) : DatR G r F H P v d := by
  unfold DatR
  rw [h.notOwn]
  exact h
theorem DatR.toD {P : Addr → Prop} {v : V} {d : Kb.D} (h : DatR G r F H P v d) (e : isOwn d = false) : Dat G r F v d := by
  unfold DatR at h
  rw [e] at h
  exact h
theorem DatR.imp {P P' : Addr → Prop} {v : V} {d : Kb.D} (h : DatR G r F H P v d) (e : ∀ a, P a → P' a) : DatR G r F H P' v d := by
  unfold DatR at h ⊢
  split at h
  · obtain ⟨a, h1, h2, h3, h4, h5⟩ := h
    exact ⟨a, h1, h2, h3, e a h4, h5⟩
  · exact h
theorem EndS.imp {P P' : Addr → Prop} {o : Out} (h : ∀ a, P' a → P a) (q : EndS G r F H P D o) : EndS G r F H P' D o := by
  cases o with
  | nx env m => exact fun σ R E z => q σ R E fun a w => h a (z a w)
  | bk env m => exact fun σ R E z => q σ R E fun a w => h a (z a w)
  | ct env m => exact fun σ R E z => q σ R E fun a w => h a (z a w)
  | rt d m => exact fun v R z => q v R (z.imp h)
theorem PostS.ext {o : Out} (q : PostS G r F H O o D) (e : ExtO O r r' F F' H H') (h : ∀ a, O' a → O a ∨ H a = none) : PostS G r' F' H' O' o D := fun r2 F2 H2 e2 =>
  (q r2 F2 H2 (e.trans e2 h)).imp fun a z => z.elim (h a) fun w => .inr (e.dom a w)
/-- behind what changes nothing of its own -/
theorem PostS.ex {o : Out} (q : PostS G r F H O o D) (e : Ext r r' F F' H H') : PostS G r' F' H' O o D := q.ext (e.toO O) fun _ z => .inl z
end

def skS : SS := fun env m => some (.nx env m)
def noS : SS := fun _ _ => none
def bkS : SS := fun env m => some (.bk env m)
def ctS : SS := fun env m => some (.ct env m)
def thenO (o : Out) (b : SS) : Option Out := match o with
  | .nx env m => b env m
  | o => some o
def seqS (a b : SS) : SS := fun env m => (a env m).bind fun o => thenO o b
def dropS (a : SE) : SS := fun env m => (a env m).map fun p => .nx env p.2
def retS (a : SE) : SS := fun env m => (a env m).map fun p => .rt p.1 p.2
def retNS : SS := fun _ m => some (.rt .non m)
def ifS (t : SB) (a b : SS) : SS := fun env m => (t env m).bind fun p => if p.1 then a env p.2 else b env p.2

section
variable {X : Cx} {G : Cfg} {pos : Pos} {e c : Expr} {st : Stmt} {sts l1 l2 : List Stmt} {se : SE} {a b : SS} {t : SB}
theorem s_nil : PSs X [] (semS G skS) := wkSs pss_nil fun D σ H ⟨r, F, env, m, o, e, R, E, q⟩ => by
  cases e
  exact q r F H .refl σ R E fun _ z => .inl z
theorem s_cons (h1 : PS X st (semS G a)) (h2 : PSs X sts (semS G b)) : PSs X (st :: sts) (semS G (seqS a b)) := wkSs (pss_cons h1 h2) fun D σ H ⟨r, F, env, m, o, e, R, E, q⟩ => by
  obtain ⟨o1, e1, e2⟩ := bind2 (γ := Unit) e
  refine ⟨r, F, env, m, o1, e1, R, E, fun r1 F1 H1 x1 => ?_⟩
  cases o1 with
  | nx env1 m1 => exact fun σ1 R1 E1 P1 => ⟨r1, F1, env1, m1, o, e2, R1, E1, q.ext x1 P1⟩
  | rt d m1 => cases e2; exact q r1 F1 H1 x1
  | bk env1 m1 => cases e2; exact q r1 F1 H1 x1
  | ct env1 m1 => cases e2; exact q r1 F1 H1 x1
theorem s_one (h1 : PS X st (semS G a)) : PSs X [st] (semS G a) := wkSs (pss_one h1) fun D σ H h => h
theorem s_pass : PS X (.Pass pos) (semS G skS) := wkS ps_pass fun D σ H ⟨r, F, env, m, o, e, R, E, q⟩ => by
  cases e
  exact q r F H .refl σ R E fun _ z => .inl z
theorem s_brk : PS X (.Break pos) (semS G bkS) := wkS ps_break fun D σ H ⟨r, F, env, m, o, e, R, E, q⟩ => by
  cases e
  exact q r F H .refl σ R E fun _ z => .inl z
theorem s_cnt : PS X (.Continue pos) (semS G ctS) := wkS ps_continue fun D σ H ⟨r, F, env, m, o, e, R, E, q⟩ => by
  cases e
  exact q r F H .refl σ R E fun _ z => .inl z
theorem s_no : PS X st (semS G noS) := wkS ps_never fun D σ H ⟨r, F, env, m, o, e, R, E, q⟩ => by cases e
theorem s_drop (he : PE X e (semE G se)) (hs : swapsWith e none pos.line X.env = pure false := by rfl) : PS X (.Expr e pos) (semS G (dropS se)) := wkS (ps_expr he hs) fun D σ H ⟨r, F, env, m, o, e, R, E, q⟩ => by
  obtain ⟨⟨d1, m1⟩, e1, e2⟩ := Option.map_eq_some_iff.mp e
  cases e2
  exact ⟨r, F, env, m, d1, m1, e1, R, E, fun v r1 F1 H1 x1 R1 h1 => q r1 F1 H1 (x1.toO _) σ R1 (E.ext x1) fun _ z => .inl z⟩
theorem s_ret (he : PE X e (semE G se)) : PS X (.Return (some e) pos) (semS G (retS se)) := wkS (ps_ret he) fun D σ H ⟨r, F, env, m, o, e, R, E, q⟩ => by
  obtain ⟨⟨d1, m1⟩, e1, e2⟩ := Option.map_eq_some_iff.mp e
  cases e2
  exact ⟨r, F, env, m, d1, m1, e1, R, E, fun v r1 F1 H1 x1 R1 h1 => q r1 F1 H1 (x1.toO _) v R1 h1.toR⟩
theorem s_retN : PS X (.Return none pos) (semS G retNS) := wkS ps_retN fun D σ H ⟨r, F, env, m, o, e, R, E, q⟩ => by
  cases e
  exact q r F H .refl _ R (Dat.toR .non)
theorem s_if (hc : PT X c (semB G t)) (ha : PSs X l1 (semS G a)) (hb : PSs X l2 (semS G b)) : PS X (.If c l1 l2 pos) (semS G (ifS t a b)) := wkS (ps_if hc ha hb) fun D σ H ⟨r, F, env, m, o, e, R, E, q⟩ => by
  obtain ⟨⟨k, m1⟩, e1, e2⟩ := bind2 (γ := Unit) e
  refine ⟨r, F, env, m, k, m1, e1, R, E, fun r1 F1 H1 x1 R1 => ?_⟩
  cases k with
  | true => exact iteT ⟨r1, F1, env, m1, o, e2, R1, E.ext x1, q.ex x1⟩
  | false => exact iteF ⟨r1, F1, env, m1, o, e2, R1, E.ext x1, q.ex x1⟩
end

/-! ### targets: names, tuples of names -/
def putL : List Nat → List D → Ev → Option Ev
  | [], [], env => some env
  | i :: is, d :: ds, env => if i < env.length then putL is ds (env.set i (some d)) else none
  | _, _, _ => none
inductive Tg where
  | n (i : Nat) | t (is : List Nat)
def Tg.slots : Tg → List Nat
  | .n i => [i]
  | .t is => is
def Tg.put : Tg → D → Ev → Option Ev
  | .n i, d, env => putL [i] [d] env
  | .t is, .tup ds, env => putL is ds env
  | .t is, .lst ds, env => putL is ds env
  | _, _, _ => none
def setL : List Nat → List V → L2.St → L2.St
  | i :: is, v :: vs, σ => setL is vs (σ.set i (some v))
  | _, _, σ => σ
section
variable (G : Cfg)
def semG (t : Tg) : TG := fun v σ H Q => ∃ (r : List Addr) (F : Hp) (env env' : Ev) (m : Mem) (d : D), t.put d env = some env' ∧ Rel G r F m H ∧ EnvR G r F H σ env ∧ Dat G r F v d ∧ ∀ vs, EnvR G r F H (setL t.slots vs σ) env' → (∀ a, OwnS (setL t.slots vs σ) env' a → OwnS σ env a) → Q (setL t.slots vs σ) H
def semGs (is : List Nat) : TGs := fun vs σ H Q => ∃ (r : List Addr) (F : Hp) (env env' : Ev) (m : Mem) (ds : List D), putL is ds env = some env' ∧ Rel G r F m H ∧ EnvR G r F H σ env ∧ Dats G r F vs ds ∧ (EnvR G r F H (setL is vs σ) env' → (∀ a, OwnS (setL is vs σ) env' a → OwnS σ env a) → Q (setL is vs σ) H)
end
section
variable {G : Cfg} {r r' : List Addr} {F F' H H' : Hp} {σ : L2.St} {env : Ev}
theorem EnvR.set {v : V} {d : D} (E : EnvR G r F H σ env) (h : Dat G r F v d) (i : Nat) : EnvR G r F H (σ.set i (some v)) (env.set i (some d)) := by
  have key : ∀ {j : Nat} {d' : D}, (env.set i (some d))[j]? = some (some d') → (i = j ∧ d' = d ∧ (σ.set i (some v))[j]? = some (some v)) ∨ (i ≠ j ∧ env[j]? = some (some d') ∧ (σ.set i (some v))[j]? = σ[j]?) := by
    intro j d' hj
    by_cases e : i = j
    · subst e
      have hl : i < env.length := by
        have := (List.getElem?_eq_some_iff.mp hj).1
        rwa [List.length_set] at this
      rw [List.getElem?_set_self hl] at hj
      cases hj
      exact .inl ⟨rfl, rfl, List.getElem?_set_self (by rw [E.len]; exact hl)⟩
    · rw [List.getElem?_set_ne e] at hj
      exact .inr ⟨e, hj, List.getElem?_set_ne e⟩
  refine ⟨by rw [List.length_set, List.length_set]; exact E.len, fun j d' hj no => ?_, fun j d' hj io => ?_, fun j k d1 d2 a h1 h2 i1 i2 s1 s2 => ?_⟩
  · rcases key hj with ⟨_, rfl, hs⟩ | ⟨_, hj, hs⟩
    · exact ⟨v, hs, h⟩
    · rw [hs]
      exact E.dat j d' hj no
  · rcases key hj with ⟨_, rfl, hs⟩ | ⟨_, hj, hs⟩
    · rw [h.notOwn] at io; cases io
    · rw [hs]
      exact E.own j d' hj io
  · rcases key h1 with ⟨_, rfl, hs⟩ | ⟨_, h1, hs⟩
    · rw [h.notOwn] at i1; cases i1
    · rcases key h2 with ⟨_, rfl, ht⟩ | ⟨_, h2, ht⟩
      · rw [h.notOwn] at i2; cases i2
      · rw [hs] at s1
        rw [ht] at s2
        exact E.one j k d1 d2 a h1 h2 i1 i2 s1 s2
theorem own_set {v : V} {d : D} (h : isOwn d = false) (i : Nat) (a : Addr) (z : OwnS (σ.set i (some v)) (env.set i (some d)) a) : OwnS σ env a := by
  obtain ⟨j, d', hj, io, hs⟩ := z
  by_cases e : i = j
  · subst e
    have hl : i < env.length := by
      have := (List.getElem?_eq_some_iff.mp hj).1
      rwa [List.length_set] at this
    rw [List.getElem?_set_self hl] at hj
    cases hj
    rw [h] at io; cases io
  · rw [List.getElem?_set_ne e] at hj hs
    exact ⟨j, d', hj, io, hs⟩
end
theorem wipe_set {i : Nat} {v : Option V} : ∀ {vs : List Nat} {σ : L2.St}, i ∈ vs → wipe (σ.set i v) vs = wipe σ vs
  | [], _, h => by cases h
  | j :: vs, σ, h => by
    unfold wipe
    by_cases e : j = i
    · subst e
      by_cases h2 : j ∈ vs
      · rw [wipe_set h2]
      · have key : ∀ vs : List Nat, j ∉ vs → wipe (σ.set j v) vs = (wipe σ vs).set j v := by
          intro vs
          induction vs with
          | nil => intro _; rfl
          | cons k vs ih =>
            intro hk
            have h3 : j ≠ k := fun z => hk (by rw [z]; exact List.mem_cons_self)
            have h4 : j ∉ vs := fun z => hk (List.mem_cons_of_mem _ z)
            unfold wipe
            rw [ih h4, List.set_comm _ _ h3]
        rw [key vs h2, List.set_set]
    · have h2 : i ∈ vs := by
        rcases List.mem_cons.mp h with z | z
        · exact absurd z.symm e
        · exact z
      rw [wipe_set h2]
theorem wipe_setL {vs : List Nat} : ∀ {is : List Nat} {xs : List V} {σ : L2.St}, (∀ i ∈ is, i ∈ vs) → wipe (setL is xs σ) vs = wipe σ vs
  | [], _, _, _ => by unfold setL; rfl
  | i :: is, [], _, _ => by unfold setL; rfl
  | i :: is, x :: xs, σ, h => by
    unfold setL
    rw [wipe_setL (is := is) fun j hj => h j (List.mem_cons_of_mem _ hj)]
    exact wipe_set (h i List.mem_cons_self)
section
variable {X : Cx} {G : Cfg} {pos : Pos} {e : Expr} {es : List Expr}
theorem g_name (i : Nat) {x : Str} (hN : X.N.Nodup) (hi : X.N[i]? = some x := by rfl) (hx : Loc X.env.scope x := by first | exact Or.inl rfl | exact Or.inr rfl) (hf : X.fn x = true ∨ X.env.scope.names.lookup x = some .local := by first | exact .inl rfl | exact .inr rfl) : PG X (.Name x pos) (semG G (.n i)) :=
  ⟨fun pins s σ H v u Q I rv ⟨r, F, env, env', m, d, e, R, E, h, q⟩ => by
    refine (pg_name (i := i) hN hi hx hf).run pins s σ H v u Q I rv ?_
    have e' : (if i < env.length then putL [] [] (env.set i (some d)) else none) = some env' := e
    split at e'
    · cases e'
      exact q [v] (E.set h i) (own_set h.notOwn i)
    · cases e'⟩
theorem gs_nil : PGs X [] (semGs G []) := ⟨fun pins s σ H vs us Q I rv ⟨r, F, env, env', m, ds, e, R, E, h, q⟩ => by
  refine pgs_nil.run pins s σ H vs us Q I rv ?_
  cases ds with
  | nil =>
    cases h
    cases e
    exact ⟨rfl, q E fun _ z => z⟩
  | cons d ds => cases e⟩
theorem gs_cons (i : Nat) {is : List Nat} {x : Str} (hN : X.N.Nodup) (h2 : PGs X es (semGs G is)) (hi : X.N[i]? = some x := by rfl) (hx : Loc X.env.scope x := by first | exact Or.inl rfl | exact Or.inr rfl) (hf : X.fn x = true ∨ X.env.scope.names.lookup x = some .local := by first | exact .inl rfl | exact .inr rfl)
    (hs : (assignEach ((.Name x pos) :: es) X.env).map (·.2) = assign (.Name x pos) X.env :: (assignEach es X.env).map (·.2) := by rfl) : PGs X ((.Name x pos) :: es) (semGs G (i :: is)) :=
  ⟨fun pins s σ H vs us Q I rv ⟨r, F, env, env', m, ds, e, R, E, h, q⟩ => by
    refine (pgs_cons (pg_name (i := i) hN hi hx hf) h2 hs).run pins s σ H vs us Q I rv ?_
    cases ds with
    | nil => cases e
    | cons d ds =>
      cases h with
      | cons h t =>
        have e' : (if i < env.length then putL is ds (env.set i (some d)) else none) = some env' := e
        split at e'
        · exact ⟨_, _, rfl, r, F, _, env', m, ds, e', R, E.set h i, t, fun E2 z => q E2 fun a w => own_set h.notOwn i a (z a w)⟩
        · cases e'⟩
theorem putL_len {env' : Ev} : ∀ (is : List Nat) (ds : List D) (env : Ev), putL is ds env = some env' → ds.length = is.length := by
  intro is
  induction is with
  | nil =>
    intro ds env e
    cases ds with
    | nil => rfl
    | cons d ds => cases e
  | cons i is ih =>
    intro ds env e
    cases ds with
    | nil => cases e
    | cons d ds =>
      have e' : (if i < env.length then putL is ds (env.set i (some d)) else none) = some env' := e
      split at e'
      · rw [List.length_cons, List.length_cons, ih ds _ e']
      · cases e'
theorem g_tup {is : List Nat} {k : Nat} (hK : G.K = X.K) (hc : X.calm = true) (h : PGs X es (semGs G is)) (hn : (assignEach es X.env).length = is.length := by rfl) (hst : (assignEach es X.env).findIdx? (·.1) = none := by rfl) : PG X (.Tuple es k pos) (semG G (.t is)) :=
  ⟨fun pins s σ H v u Q I rv ⟨r, F, env, env', m, d, e, R, E, h2, q⟩ => by
    cases d with
    | tup ds =>
      refine (pg_tup (n := is.length) hc h hn hst).run pins s σ H v u Q I rv ?_
      cases h2 with
      | tup h1 h2 =>
        have e' : putL is ds env = some env' := e
        exact ⟨_, _, rfl, hK ▸ sqt_up R.sub h1, h2.length.trans (putL_len is ds env e'), r, F, env, env', m, ds, e', R, E, h2, q _⟩
    | lst ds =>
      refine (pg_unl (n := is.length) hc h hn hst).run pins s σ H v u Q I rv ?_
      cases h2 with
      | lst h1 h2 =>
        have e' : putL is ds env = some env' := e
        exact ⟨_, _, rfl, hK ▸ SqL.of (R.sub _ _ h1), h2.length.trans (putL_len is ds env e'), r, F, env, env', m, ds, e', R, E, h2, q _⟩
    | _ => cases e⟩
end

/-! ### stores to names -/
def setS (t : Tg) (a : SE) : SS := fun env m => (a env m).bind fun p => (t.put p.1 env).map fun env' => .nx env' p.2
def parS (is : List Nat) (a : SA) : SS := fun env m => (a env m).bind fun p => (putL is p.1 env).map fun env' => .nx env' p.2
section
variable {X : Cx} {G : Cfg} {pos : Pos} {tg e : Expr} {es : List Expr} {se : SE} {sa : SA} {t : Tg}
theorem set_ok {D : Ends} {σ : L2.St} {H : Hp} {te : TE} (hi : ∀ σ H Q, semE G se σ H Q → te σ H Q) (h : semS G (setS t se) D σ H) : tAsg te (semG G t) D σ H := by
  obtain ⟨r, F, env, m, o, e, R, E, q⟩ := h
  obtain ⟨⟨d1, m1⟩, e1, e⟩ := bind2 (γ := Unit) e
  obtain ⟨env', e2, e3⟩ := Option.map_eq_some_iff.mp e
  cases e3
  refine hi _ _ _ ⟨r, F, env, m, d1, m1, e1, R, E, fun v r1 F1 H1 x1 R1 h1 => ?_⟩
  exact ⟨r1, F1, env, env', m1, d1, e2, R1, E.ext x1, h1, fun vs E2 P2 => q r1 F1 H1 (x1.toO _) _ R1 E2 fun a z => .inl (P2 a z)⟩
theorem s_asg (he : PE X e (semE G se)) (hg : PG X tg (semG G t)) (hs : swapsWithSole [tg] e pos.line X.env = pure false := by rfl) (hw : swappedStores [tg] e X.env = pure none := by rfl)
    (h1 : (assignEach [tg] X.env).map (·.2) = [assign tg X.env] := by rfl) : PS X (.Assign [tg] e pos) (semS G (setS t se)) :=
  wkS (ps_asg he hg hs hw h1) fun D σ H h => set_ok (fun _ _ _ z => z) h
theorem par_ok {env' : Ev} {r : List Addr} {F H : Hp} : ∀ {is : List Nat} {ds : List D} {vs : List V} {env : Ev} {σ : L2.St}, putL is ds env = some env' → Dats G r F vs ds → EnvR G r F H σ env → EnvR G r F H (setL is vs σ) env' ∧ ∀ a, OwnS (setL is vs σ) env' a → OwnS σ env a
  | [], [], _, env, σ, e, .nil, E => by cases e; exact ⟨E, fun _ z => z⟩
  | [], _ :: _, _, _, _, e, _, _ => by cases e
  | _ :: _, [], _, _, _, e, _, _ => by cases e
  | i :: is, d :: ds, v :: vs, env, σ, e, .cons h t, E => by
    show EnvR G r F H (setL is vs (σ.set i (some v))) env' ∧ ∀ a, OwnS (setL is vs (σ.set i (some v))) env' a → OwnS σ env a
    have e' : (if i < env.length then putL is ds (env.set i (some d)) else none) = some env' := e
    split at e'
    · obtain ⟨E2, P2⟩ := par_ok e' t (E.set h i)
      exact ⟨E2, fun a z => own_set h.notOwn i a (P2 a z)⟩
    · cases e'
theorem s_par2 (i j : Nat) {x y : Str} {a b : Expr} {px py pt : Pos} {kt k2 : Nat} {pt2 : Pos} (hc : X.calm = true) (hN : X.N.Nodup) (ha : PA X [a, b] (semA G sa)) (hi : X.N[i]? = some x := by rfl) (hj : X.N[j]? = some y := by rfl) (hij : i ≠ j := by decide)
    (hx : X.env.scope.names.lookup x = some .local := by rfl) (hy : X.env.scope.names.lookup y = some .local := by rfl)
    (hw : swappedStores [.Tuple [.Name x px, .Name y py] kt pt] (.Tuple [a, b] k2 pt2) X.env = pure (some [x, y]) := by rfl)
    (hs : swapsWithSole [.Tuple [.Name x px, .Name y py] kt pt] (.Tuple [a, b] k2 pt2) pos.line X.env = pure false := by rfl) : PS X (.Assign [.Tuple [.Name x px, .Name y py] kt pt] (.Tuple [a, b] k2 pt2) pos) (semS G (parS [i, j] sa)) :=
  wkS (ps_par hc hN hi hj hij hx hy ha hw hs) fun D σ H ⟨r, F, env, m, o, e, R, E, q⟩ => by
    obtain ⟨⟨d1, m1⟩, e1, e⟩ := bind2 (γ := Unit) e
    obtain ⟨env', e2, e3⟩ := Option.map_eq_some_iff.mp e
    cases e3
    refine ⟨r, F, env, m, d1, m1, e1, R, E, fun vs r1 F1 H1 x1 R1 h1 => ?_⟩
    have E2 := par_ok e2 h1 (E.ext x1)
    match d1, vs, h1, e2, E2 with
    | [_, _], [v, w], _, _, E2 => exact ⟨v, w, rfl, q r1 F1 H1 (x1.toO _) _ R1 E2.1 fun a z => .inl (E2.2 a z)⟩
    | [], _, _, e2, _ => cases e2
    | [_], _, _, e2, _ =>
      have e' : (if i < env.length then none else none) = some env' := e2
      split at e' <;> cases e'
    | _ :: _ :: _ :: _, _, _, e2, _ =>
      exfalso
      simp only [putL] at e2
      split at e2
      · split at e2 <;> cases e2
      · cases e2
end
end Kb

set_option Elab.async false
set_option linter.all false
set_option maxRecDepth 100000
set_option maxHeartbeats 4000000
set_option autoImplicit false
/-! KcG: zip and enumerate of lists and tuples in any mix. -/
namespace Kb
open PySem PySem.Spec PyProof.Rows L2

/-- a list (true) or a tuple (false) -/
def ItAt (k : Bool) (h : Heap) (it a : Addr) (i : Nat) : Prop := match k with
  | true => h.IsListIter it a i
  | false => h.IsTupleIter it a i
def ObAt (k : Bool) (h : Heap) (a : Addr) (its : Array Value) : Prop := match k with
  | true => h.IsList a its
  | false => h.IsTuple a its
def SqK (k : Bool) (K : PySem.W.Frag) (H : Hp) (a : Addr) (xs : List V) : Prop := match k with
  | true => SqL K H a xs
  | false => SqT K H a xs
def itO (k : Bool) (a : Addr) : Obj := match k with
  | true => { cls := .type "list_iterator", data := .fields #[.ref a, .int 0 0] }
  | false => { cls := .type "tuple_iterator", data := .fields #[.ref a, .int 0 0] }
section
variable {k : Bool} {h h' : Heap} {it a : Addr} {i : Nat} {its : Array Value}
theorem ItAt.live (st : ItAt k h it a i) : ∃ o, h.get? it = some o ∧ ∀ v, o.data ≠ .cell v := by
  cases k with
  | true =>
    obtain ⟨o, ho, hc, hd⟩ := st
    exact ⟨o, ho, fun v q => by rw [hd] at q; cases q⟩
  | false =>
    obtain ⟨o, ho, hc, hd⟩ := st
    exact ⟨o, ho, fun v q => by rw [hd] at q; cases q⟩
theorem ItAt.keep (st : ItAt k h it a i) (e : ∀ o, h.get? it = some o → h'.get? it = some o) : ItAt k h' it a i := by
  cases k with
  | true => exact Heap.IsListIter.at st fun o q => e o q
  | false => exact Heap.IsTupleIter.at st fun o q => e o q
theorem ObAt.live (st : ObAt k h a its) : ∃ o, h.get? a = some o := by
  cases k with
  | true => obtain ⟨o, ho, _⟩ := st; exact ⟨o, ho⟩
  | false => obtain ⟨o, ho, _⟩ := st; exact ⟨o, ho⟩
theorem ItAt.mk0 (e : h.get? it = some (itO k a)) : ItAt k h it a 0 := by
  cases k with
  | true => exact ⟨_, e, rfl, rfl⟩
  | false => exact ⟨_, e, rfl, rfl⟩
theorem begins_k : Begins (.ref a) (itO k a) (fun h => ObAt k h a its) := by
  cases k with
  | true => exact begins_list a its
  | false => exact begins_tuple a its
theorem draws_k {prog : Program} {w : World} {A : Around} (hh : A.handled = none) (hne : a ≠ it) : Draws prog w A it [it, a] its.size (fun i v => its[i]? = some v) (fun i h => ItAt k h it a i ∧ ObAt k h a its) := by
  cases k with
  | true => exact Draws.list hh it a hne its
  | false => exact Draws.tuple hh it a hne its
theorem SqK.of {X : Cx} {pins : List (Addr × Obj)} {σ : L2.St} {H : Hp} {s : Shared} {xs : List V} (I : Inv X pins σ H s) (h : SqK k X.K H a xs) : ∃ its : List Value, Vals xs its ∧ ObAt k s.heap a its.toArray := by
  cases k with
  | true =>
    obtain ⟨its, r, p, _⟩ := I.list h
    exact ⟨its, r, p.isList⟩
  | false =>
    obtain ⟨its, r, p, _⟩ := I.tuple h
    exact ⟨its, r, p⟩
theorem SqK.inj {X : Cx} {pins : List (Addr × Obj)} {σ : L2.St} {H : Hp} {s : Shared} {xs ys : List V} (I : Inv X pins σ H s) (h : SqK k X.K H a xs) (h' : SqK k X.K H a ys) : xs = ys := by
  cases k with
  | true => exact I.list_inj h h'
  | false => exact I.tuple_inj h h'
end

/-! ### zip -/
def ItzK (k1 k2 : Bool) (K : PySem.W.Frag) (a b : Addr) : It where
  go := fun i H => ∃ (xs ys : List V) (x y : V), SqK k1 K H a xs ∧ SqK k2 K H b ys ∧ xs[i]? = some x ∧ ys[i]? = some y
  yld := fun i H v H' => ∃ T x y, v = .ref T ∧ H T = none ∧ H' = upd H T (.tup [x, y]) ∧ (∀ xs, SqK k1 K H a xs → xs[i]? = some x) ∧ ∀ ys, SqK k2 K H b ys → ys[i]? = some y
  stop := fun i H => ∃ xs ys : List V, SqK k1 K H a xs ∧ SqK k2 K H b ys ∧ i ≤ xs.length ∧ i ≤ ys.length ∧ (xs.length = i ∨ ys.length = i)
theorem turn_zipK {k1 k2 : Bool} {P : Program} {w : World} {K : PySem.W.Frag} {elts : List Expr} {kk : Nat} {tpos : Pos} {a b z TI TO i1 i2 : Addr} (D : ZipSep2 z TI TO i1 i2 [i1, a] [i2, b]) (na : a ≠ i1) (nb : b ≠ i2) :
    Turn P w K (.Tuple elts kk tpos) (ItzK k1 k2 K a b) [z, TI, TO, i1, i2] z (fun i h => IsZip h z TI TO .none ∧ IsTupOf2 h TI (.ref i1) (.ref i2) ∧ (∃ x y, IsTupOf2 h TO x y) ∧ ItAt k1 h i1 a i ∧ ItAt k2 h i2 b i) where
  mem := by simp
  obj := fun i h st c hc => by
    obtain ⟨hz, hTI, ⟨x, y, hTO⟩, h1, h2⟩ := st
    simp only [List.mem_cons, List.not_mem_nil, or_false] at hc
    rcases hc with q | q | q | q | q <;> subst q
    · exact ⟨_, hz, fun v q => nomatch q⟩
    · exact ⟨_, hTI, fun v q => nomatch q⟩
    · exact ⟨_, hTO, fun v q => nomatch q⟩
    · exact h1.live
    · exact h2.live
  keep := fun i h h' st kp => by
    obtain ⟨hz, hTI, ⟨x, y, hTO⟩, h1, h2⟩ := st
    exact ⟨kp z (by simp) _ hz, kp TI (by simp) _ hTI, ⟨x, y, kp TO (by simp) _ hTO⟩, h1.keep fun o q => kp i1 (by simp) o q, h2.keep fun o q => kp i2 (by simp) o q⟩
  item := by
    intro X hP hw hK hc i pins s σ H E I hf st hg
    subst hP hw hK
    obtain ⟨hz, hTI, ⟨x0, y0, hTO⟩, h1, h2⟩ := st
    obtain ⟨xs, ys, x, y, hqx, hqy, hx, hy⟩ := hg
    obtain ⟨its, rv, p⟩ := SqK.of I hqx
    obtain ⟨its2, rv2, p2⟩ := SqK.of I hqy
    obtain ⟨u, hu, ru⟩ := rv.get hx
    obtain ⟨u2, hu2, ru2⟩ := rv2.get hy
    have hh : X.A.in1.handled = none := I.ok.hd hc
    have hl1 : i < its.toArray.size := by
      have q := (List.getElem?_eq_some_iff.mp hu).1
      simpa using q
    have hl2 : i < its2.toArray.size := by
      have q := (List.getElem?_eq_some_iff.mp hu2).1
      simpa using q
    have hzl : z < s.heap.objs.size := Heap.lt_size hz
    refine wpAny_pyNext_zipD2_item D (draws_k (k := k1) hh na) (draws_k (k := k2) hh nb) hz hTI hTO ⟨h1, p⟩ ⟨h2, p2⟩ hl1 hl2 fun u' u2' h' tk y1 y2 z' TO' st1 st2 hT hsz hk => ?_
    have eu : u' = u := by
      have q : its.toArray[i]? = some u' := y1
      rw [List.getElem?_toArray, hu] at q
      exact (Option.some.inj q).symm
    have eu2 : u2' = u2 := by
      have q : its2.toArray[i]? = some u2' := y2
      rw [List.getElem?_toArray, hu2] at q
      exact (Option.some.inj q).symm
    subst eu eu2
    refine ⟨_, rfl, wpAny_letOwnedTupleGo_zip (s := { s with heap := h', toks := tk }) z' fun h'' z'' sb => ?_⟩
    have hT2 : h''.get? s.heap.objs.size = some { cls := .type "tuple", data := .seq #[u', u2'] } := (sb.2 _ (Nat.ne_of_gt hzl)).trans hT
    have new : ObjOk X.prog X.w (upd H s.heap.objs.size (.tup [x, y])) h'' s.heap.objs.size (.tup [x, y]) :=
      ⟨by show 2 ≤ sizeLine; decide, [u', u2'], .cons ru (.cons ru2 .nil), ⟨_, hT2, rfl, _, rfl⟩⟩
    have I1 : Inv X pins σ (upd H s.heap.objs.size (.tup [x, y])) { s with heap := h'', toks := tk } :=
      I.turnedNew (t' := tk) (ch := [z, TI, TO, i1, i2]) (fun c o hb q => (sb.2 c (fun q' => hb (by simp [q']))).trans (hk c o (fun q' => hb (by simp [q'])) (fun q' => hb (by simp [q'])) (fun q' => hb (by simp [q'])) (fun q' => hb (by simp [q'])) q)) hf (Nat.le_refl _) new
    refine ⟨.ref s.heap.objs.size, _, I1, rfl, ⟨_, x, y, rfl, I.hok.fresh (Nat.le_refl _), rfl, fun l hl => by rw [SqK.inj I hl hqx]; exact hx, fun l hl => by rw [SqK.inj I hl hqy]; exact hy⟩, ⟨z'', ?_, ⟨u', u2', ?_⟩, ?_, ?_⟩, fun c hcm => ?_⟩
    · exact (sb.2 _ D.TIz).trans (hk _ _ D.TIz D.TITO D.TIi1 D.TIi2 hTI)
    · exact (sb.2 _ D.TOz).trans TO'
    · exact st1.1.keep fun o q => (sb.2 _ fun e => D.zf1 (by rw [e]; simp)).trans q
    · exact st2.1.keep fun o q => (sb.2 _ fun e => D.zf2 (by rw [e]; simp)).trans q
    · have hlt : c < s.heap.objs.size := by
        simp only [List.mem_cons, List.not_mem_nil, or_false] at hcm
        rcases hcm with q | q | q | q | q <;> subst q
        · exact hzl
        · exact Heap.lt_size hTI
        · exact Heap.lt_size hTO
        · obtain ⟨_, e1, _⟩ := h1.live; exact Heap.lt_size e1
        · obtain ⟨_, e1, _⟩ := h2.live; exact Heap.lt_size e1
      rw [upd_ne (Nat.ne_of_lt hlt)]
      exact (hf c hcm).1
  done := by
    intro X hP hw hK hc i pins s σ H E I hf st hg
    subst hP hw hK
    obtain ⟨hz, hTI, ⟨x0, y0, hTO⟩, h1, h2⟩ := st
    obtain ⟨xs, ys, hqx, hqy, le1, le2, hend⟩ := hg
    obtain ⟨its, rv, p⟩ := SqK.of I hqx
    obtain ⟨its2, rv2, p2⟩ := SqK.of I hqy
    have l1 : its.toArray.size = xs.length := by rw [List.size_toArray]; exact rv.length.symm
    have l2 : its2.toArray.size = ys.length := by rw [List.size_toArray]; exact rv2.length.symm
    have hh : X.A.in1.handled = none := I.ok.hd hc
    exact wpAny_pyNext_zipD2_end D (draws_k (k := k1) hh na) (draws_k (k := k2) hh nb) hz hTI hTO ⟨h1, p⟩ ⟨h2, p2⟩ (by omega) (by omega) (by omega) fun h' tk hk => ⟨rfl, I.turnedL (t' := tk) (ch := [z, TI, TO, i1, i2]) (fun c o hb q =>
      hk c o (fun q' => hb (by simp [q'])) (fun q' => hb (by simp [q'])) (fun q' => hb (by simp [q'])) (fun q' => hb (by simp [q'])) q) hf⟩
  self := fun A i s Q E st h => wpAny_pyIter_zip st.1 h
def iZipK (K : PySem.W.Frag) (ta : TA) : TI := fun σ H R => ta σ H fun vs H1 => ∃ (k1 k2 : Bool) (a b : Addr) (xs ys : List V), vs = [.ref a, .ref b] ∧ SqK k1 K H1 a xs ∧ SqK k2 K H1 b ys ∧ R (ItzK k1 k2 K a b) H1
theorem pi_zipK {X : Cx} {e e2 : Expr} {ta : TA} {p pos tpos : Pos} {elts : List Expr} {kk : Nat} (hg : Gl X "zip") (hm : X.mg "zip" = none) (ha : PA X [e, e2] ta)
    (hs : starEach [e, e2] X.env = (false, eval e X.env) :: starEach [e2] X.env := by rfl) (hpl : (backTo pos (starEach [e2] X.env)).any (·.1) = false := by rfl) :
    PI X (.Tuple elts kk tpos) (.Call (.Name "zip" p) [e, e2] [] pos) (iZipK X.K ta) := by
  refine ⟨fun pins s σ H R I h => ?_⟩
  refine Call_ (ld_blt I hg hm PyProof.Rows.boot_zip (PyProof.Rows.callWith_type1 (thn (ha.run pos pins s σ H _ I h) fun us s1 ⟨vs, H1, I1, r1, q1⟩ => ?_) hs hpl))
  obtain ⟨k1, k2, a, b, xs, ys, ex, hqx, hqy, q⟩ := q1
  subst ex
  obtain ⟨w1, w2, rfl, ra, rb⟩ := vals2 r1
  cases (show w1 = Value.ref a from ra)
  cases (show w2 = Value.ref b from rb)
  obtain ⟨its, rv, p1⟩ := SqK.of I1 hqx
  obtain ⟨its2, rv2, p2⟩ := SqK.of I1 hqy
  have la : a < s1.heap.objs.size := by obtain ⟨o, ho⟩ := p1.live; exact Heap.lt_size ho
  have lb : b < s1.heap.objs.size := by obtain ⟨o, ho⟩ := p2.live; exact Heap.lt_size ho
  refine zip_begins2 (begins_k (k := k1)) (begins_k (k := k2)) p1 p2 fun h' hz hTI hTO ho1 ho2 hsz hk => wpAny_pyIter_zip hz ?_
  have I2 : Inv X pins σ H1 { s1 with heap := h' } := I1.kept (t' := s1.toks) hk
  have D : ZipSep2 (s1.heap.objs.size + 4) (s1.heap.objs.size + 2) (s1.heap.objs.size + 3) s1.heap.objs.size (s1.heap.objs.size + 1) [s1.heap.objs.size, a] [s1.heap.objs.size + 1, b] :=
    zip_sep2 (fp1 := [a]) (fp2 := [b]) (by simpa using la) (by simpa using lb)
  have nb : b ≠ s1.heap.objs.size + 1 := by
    have z : b < s1.heap.objs.size + 1 := Nat.lt_succ_of_lt lb
    exact Nat.ne_of_lt z
  refine ⟨_, [s1.heap.objs.size + 4, s1.heap.objs.size + 2, s1.heap.objs.size + 3, s1.heap.objs.size, s1.heap.objs.size + 1], _, _, H1, rfl, I2, turn_zipK D (Nat.ne_of_lt la) nb, ⟨hz, hTI, ⟨_, _, hTO⟩, .mk0 ho1, .mk0 ho2⟩, fun c hcm => ?_, q⟩
  have hle : s1.heap.objs.size ≤ c := by
    simp only [List.mem_cons, List.not_mem_nil, or_false] at hcm
    rcases hcm with z | z | z | z | z <;> rw [z]
    · exact Nat.le_add_right _ _
    · exact Nat.le_add_right _ _
    · exact Nat.le_add_right _ _
    · exact Nat.le_refl _
    · exact Nat.le_add_right _ _
  exact I1.fpOk hle (I1.hok.fresh hle)
end Kb

set_option Elab.async false
set_option linter.all false
set_option maxRecDepth 100000
set_option maxHeartbeats 4000000
set_option autoImplicit false
/-! KcH: enumerate of a list or a tuple; what loops walk, over data. -/
namespace PySem
open Sem (wp)
set_option maxHeartbeats 4000000 in
theorem meets_enum1 {v : Value} {o : Obj} {H : Heap → Prop} (B : Begins v o H) :
    Meets (Builtin.«enumerate.__new__» ⟨[.type "enumerate", v], []⟩) (fun _ R s => H s.heap ∧
      R (.ok (.ret (.ref (s.heap.push o).objs.size))) { s with heap := (s.heap.push o).push { cls := .type "enumerate", data := .fields #[.none, .bool false, .ref s.heap.objs.size, rawInt 0, .none, .none] } }) :=
  .of_wp fun prog w A R s h => by
    obtain ⟨hp, g, d, tk, os⟩ := s; obtain ⟨h1, h⟩ := h
    have hsub := sub_enumerate
    have q1 : ∀ {A' : Around} {E : Value → Shared → Prop} {Q : Value → Shared → Prop}, Q (.ref hp.objs.size) ⟨hp.push o, g, d, tk, os⟩ → wpAny (model prog w) A' (pyIter v) Q E ⟨hp, g, d, tk, os⟩ :=
      fun q => B.iter prog w _ _ ⟨hp, g, d, tk, os⟩ _ h1 q
    wp_walk using q1
    refine wpAny_stack_any fun st => wpAny_pure ?_
    split
    · rename_i c _ _ _ _ _
      cases (c == Value.type "enumerate")
      · wp_walk using q1
        exact ⟨_, rfl, h⟩
      · wp_walk using q1
        exact ⟨_, rfl, h⟩
    · wp_walk using q1
      exact ⟨_, rfl, h⟩
section
variable {prog : Program} {w : World} {A : Around} {E : Value → Shared → Prop} {s : Shared}
theorem enum_begins1 {v : Value} {o : Obj} {H : Heap → Prop} {Q : Value → Shared → Prop} (B : Begins v o H) (h1 : H s.heap)
    (h : ∀ h', IsEnum h' (s.heap.objs.size + 1) s.heap.objs.size 0 .none → h'.get? s.heap.objs.size = some o → h'.objs.size = s.heap.objs.size + 2 →
      (∀ b o, s.heap.get? b = some o → h'.get? b = some o) → Q (.ref (s.heap.objs.size + 1)) { s with heap := h' }) :
    wpAny (model prog w) A (call (.type "enumerate") [v]) Q E s := by
  refine callType_new F.called_enumerate (by decide) (F.typeCall_enumerate_1 _) (F.newCall_enumerate_1 _) (fun obj => F.args_object_init_2 obj _) F.entry_enumerate_new
    (meets_enum1 B) ⟨h1, ?_⟩
  have hz : (s.heap.push o).objs.size = s.heap.objs.size + 1 := Heap.size_push ..
  show _ ∧ _
  rw [hz]
  have he : IsEnum ((s.heap.push o).push { cls := .type "enumerate", data := .fields #[.none, .bool false, .ref s.heap.objs.size, rawInt 0, .none, .none] }) (s.heap.objs.size + 1) s.heap.objs.size 0 .none := by
    have q := Heap.get?_push_size (s.heap.push o) (o := { cls := .type "enumerate", data := .fields #[.none, .bool false, .ref s.heap.objs.size, rawInt 0, .none, .none] }) rfl
    rw [hz] at q; exact q
  exact ⟨⟨_, he, rfl⟩, h _ he (Heap.get?_push_of_some _ (Heap.get?_push_size _ B.free)) (by rw [Heap.size_push, hz]) fun b o x => Heap.get?_push_of_some _ (Heap.get?_push_of_some _ x)⟩
end
end PySem

set_option Elab.async false
set_option linter.all false
set_option maxRecDepth 100000
set_option maxHeartbeats 4000000
set_option autoImplicit false
/-! KcI: enumerate, what loops walk over data, for, while, comprehensions. -/
namespace Kb
open PySem PySem.Spec PyProof.Rows L2

def IteK (k : Bool) (K : PySem.W.Frag) (a : Addr) : It where
  go := fun i H => ∃ (xs : List V) (x : V), SqK k K H a xs ∧ xs[i]? = some x
  yld := fun i H v H' => ∃ T x, v = .ref T ∧ H T = none ∧ H' = upd H T (.tup [.int (0 + (i : Int)), x]) ∧ ∀ xs, SqK k K H a xs → xs[i]? = some x
  stop := fun i H => ∃ xs : List V, SqK k K H a xs ∧ xs.length = i
theorem turn_enumK {k : Bool} {P : Program} {w : World} {K : PySem.W.Frag} {elts : List Expr} {kk : Nat} {tpos : Pos} {a e it : Addr} (hei : e ≠ it) (hea : e ≠ a) (na : a ≠ it) :
    Turn P w K (.Tuple elts kk tpos) (IteK k K a) [e, it] e (fun i h => (∃ old, IsEnum h e it (0 + (i : Int)) old) ∧ ItAt k h it a i) where
  mem := by simp
  obj := fun i h st c hc => by
    obtain ⟨⟨old, he⟩, h1⟩ := st
    simp only [List.mem_cons, List.not_mem_nil, or_false] at hc
    rcases hc with q | q <;> subst q
    · exact ⟨_, he, fun v q => nomatch q⟩
    · exact h1.live
  keep := fun i h h' st kp => by
    obtain ⟨⟨old, he⟩, h1⟩ := st
    exact ⟨⟨old, kp e (by simp) _ he⟩, h1.keep fun o q => kp it (by simp) o q⟩
  item := by
    intro X hP hw hK hc i pins s σ H E I hf st hg
    subst hP hw hK
    obtain ⟨⟨old, he⟩, h1⟩ := st
    obtain ⟨xs, x, hqx, hx⟩ := hg
    obtain ⟨its, rv, p⟩ := SqK.of I hqx
    obtain ⟨u, hu, ru⟩ := rv.get hx
    have hh : X.A.in1.handled = none := I.ok.hd hc
    have hl1 : i < its.toArray.size := by
      have q := (List.getElem?_eq_some_iff.mp hu).1
      simpa using q
    have hel : e < s.heap.objs.size := Heap.lt_size he
    have hil : it < s.heap.objs.size := by obtain ⟨_, e1, _⟩ := h1.live; exact Heap.lt_size e1
    refine wpAny_pyNext_enum_itemC (draws_k (k := k) hh na) he ⟨h1, p⟩ hl1 hei (by simp; exact ⟨hei, hea⟩) fun u' h' tk y1 ho st1 hT hsz hk => ?_
    have eu : u' = u := by
      have q : its.toArray[i]? = some u' := y1
      rw [List.getElem?_toArray, hu] at q
      exact (Option.some.inj q).symm
    subst eu
    refine ⟨_, rfl, wpAny_letOwnedTupleGo_enum (s := { s with heap := h', toks := tk + 1 }) ho fun h'' he' sb => ?_⟩
    have hT2 : h''.get? s.heap.objs.size = some { cls := .type "tuple", data := .seq #[.int (0 + (i : Int)) tk, u'] } := (sb.2 _ (Nat.ne_of_gt hel)).trans hT
    have new : ObjOk X.prog X.w (upd H s.heap.objs.size (.tup [.int (0 + (i : Int)), x])) h'' s.heap.objs.size (.tup [.int (0 + (i : Int)), x]) :=
      ⟨by show 2 ≤ sizeLine; decide, [.int (0 + (i : Int)) tk, u'], .cons ⟨_, rfl⟩ (.cons ru .nil), ⟨_, hT2, rfl, _, rfl⟩⟩
    have I1 : Inv X pins σ (upd H s.heap.objs.size (.tup [.int (0 + (i : Int)), x])) { s with heap := h'', toks := tk + 1 } :=
      I.turnedNew (t' := tk + 1) (ch := [e, it]) (fun c o hb q => (sb.2 c (fun q' => hb (by simp [q']))).trans (hk c o (fun q' => hb (by simp [q'])) (fun q' => hb (by simp [q'])) q)) hf (Nat.le_refl _) new
    refine ⟨.ref s.heap.objs.size, _, I1, rfl, ⟨_, x, rfl, I.hok.fresh (Nat.le_refl _), rfl, fun l hl => by rw [SqK.inj I hl hqx]; exact hx⟩, ⟨⟨u', ?_⟩, ?_⟩, fun c hcm => ?_⟩
    · have e1 : 0 + ((i + 1 : Nat) : Int) = 0 + (i : Int) + 1 := by omega
      rw [e1]
      exact he'
    · exact st1.1.keep fun o q => (sb.2 _ (Ne.symm hei)).trans q
    · have hlt : c < s.heap.objs.size := by
        simp only [List.mem_cons, List.not_mem_nil, or_false] at hcm
        rcases hcm with q | q <;> subst q
        · exact hel
        · exact hil
      rw [upd_ne (Nat.ne_of_lt hlt)]
      exact (hf c hcm).1
  done := by
    intro X hP hw hK hc i pins s σ H E I hf st hg
    subst hP hw hK
    obtain ⟨⟨old, he⟩, h1⟩ := st
    obtain ⟨xs, hqx, hend⟩ := hg
    obtain ⟨its, rv, p⟩ := SqK.of I hqx
    have l1 : its.toArray.size = i := by rw [List.size_toArray, ← hend]; exact rv.length.symm
    have hh : X.A.in1.handled = none := I.ok.hd hc
    have D := draws_k (k := k) (prog := X.prog) (w := X.w) (its := its.toArray) hh na
    rw [l1] at D
    exact wpAny_pyNext_enum_endD D he ⟨h1, p⟩ fun h' hx => ⟨rfl, I.turnedL (t' := s.toks) (ch := [e, it]) (fun c o hb q => hx c o (fun q' => hb (by simp [q'])) q) hf⟩
  self := fun A i s Q E st h => let ⟨⟨_, he⟩, _⟩ := st; wpAny_pyIter_enum he h
def iEnumK (K : PySem.W.Frag) (ta : TA) : TI := fun σ H R => ta σ H fun vs H1 => ∃ (k : Bool) (a : Addr) (xs : List V), vs = [.ref a] ∧ SqK k K H1 a xs ∧ R (IteK k K a) H1
theorem pi_enumK {X : Cx} {e : Expr} {ta : TA} {p pos tpos : Pos} {elts : List Expr} {kk : Nat} (hg : Gl X "enumerate") (hm : X.mg "enumerate" = none) (ha : PA X [e] ta) (hs : starEach [e] X.env = [(false, eval e X.env)] := by rfl) :
    PI X (.Tuple elts kk tpos) (.Call (.Name "enumerate" p) [e] [] pos) (iEnumK X.K ta) := by
  refine ⟨fun pins s σ H R I h => ?_⟩
  refine Call_ (ld_blt I hg hm boot_enumerate (PyProof.Rows.callWith_type1 (thn (ha.run pos pins s σ H _ I h) fun us s1 ⟨vs, H1, I1, r1, q1⟩ => ?_) hs rfl))
  obtain ⟨k, a, xs, ex, hqx, q⟩ := q1
  subst ex
  obtain ⟨w1, rfl, ra⟩ := vals1 r1
  cases (show w1 = Value.ref a from ra)
  obtain ⟨its, rv, p1⟩ := SqK.of I1 hqx
  have la : a < s1.heap.objs.size := by obtain ⟨o, ho⟩ := p1.live; exact Heap.lt_size ho
  refine enum_begins1 (begins_k (k := k)) p1 fun h' he ho hsz hk => wpAny_pyIter_enum he ?_
  have I2 : Inv X pins σ H1 { s1 with heap := h' } := I1.kept (t' := s1.toks) hk
  have ea : s1.heap.objs.size + 1 ≠ a := by
    have z : a < s1.heap.objs.size + 1 := Nat.lt_succ_of_lt la
    exact Nat.ne_of_gt z
  refine ⟨_, [s1.heap.objs.size + 1, s1.heap.objs.size], _, _, H1, rfl, I2, turn_enumK (Nat.succ_ne_self _) ea (Nat.ne_of_lt la), ⟨⟨.none, ?_⟩, .mk0 ho⟩, fun c hcm => ?_, q⟩
  · exact he
  · have hle : s1.heap.objs.size ≤ c := by
      simp only [List.mem_cons, List.not_mem_nil, or_false] at hcm
      rcases hcm with z | z <;> rw [z]
      · exact Nat.le_add_right _ _
      · exact Nat.le_refl _
    exact I1.fpOk hle (I1.hok.fresh hle)

/-! ### what loops walk, over data -/
def ItOk (G : Cfg) (W : Mem → Prop) (J : It) (r : List Addr) (F H : Hp) (ds : List D) : Prop := ∀ (r2 : List Addr) (F2 H2 : Hp) (m2 : Mem) (i : Nat), r <+: r2 → (∀ a o, F a = some o → F2 a = some o) → Rel G r2 F2 m2 H2 → W m2 →
  (∀ d, ds[i]? = some d → J.go i H2 ∧ ∀ x H3, J.yld i H2 x H3 → ∃ F3, Ext r2 r2 F2 F3 H2 H3 ∧ Rel G r2 F3 m2 H3 ∧ Dat G r2 F3 x d) ∧ (ds.length = i → J.stop i H2)
def rngD (lo : Int) (n : Nat) : List D := (List.range n).map fun (i : Nat) => D.int (lo + (i : Int))
/-- the items of what is walked; a list of the store never changes from then on -/
def iterD (m : Mem) : D → Option (List D × Mem)
  | .lst xs => some (xs, m)
  | .tup xs => some (xs, m)
  | .scr ns => some (ns.map D.int, m)
  | .rng lo hi => if lo.natAbs ≤ 1000000 ∧ hi.natAbs ≤ 1000000 then some (rngD lo (hi - lo).toNat, m) else none
  | .loc n => match m[n]? with
    | some (.lst xs) => some (xs, m)
    | some (.frz xs) => some (xs, m)
    | _ => none
  | _ => none
/-- a list of the store that is walked and may not change meanwhile -/
def watD (m : Mem) : D → Option Nat
  | .loc n => match m[n]? with
    | some (.lst _) => some n
    | _ => none
  | _ => none
def grd : Option Nat → List D → Mem → Prop
  | none, _, _ => True
  | some n, xs, m => m[n]? = some (.lst xs)
inductive SI where
  | fn (f : Ev → Mem → Option (List D × Mem)) | it (a : SE)
def SI.run : SI → Ev → Mem → Option (List D × Mem)
  | .fn f => f
  | .it a => fun env m => (a env m).bind fun p => iterD p.2 p.1
instance : CoeFun SI fun _ => Ev → Mem → Option (List D × Mem) := ⟨SI.run⟩
def SI.go : SI → Ev → Mem → Option ((List D × Option Nat) × Mem)
  | .fn f => fun env m => (f env m).map fun p => ((p.1, none), p.2)
  | .it a => fun env m => (a env m).bind fun p => (iterD p.2 p.1).map fun q => ((q.1, watD p.2 p.1), q.2)
theorem go_fn {f : Ev → Mem → Option (List D × Mem)} {env : Ev} {m m' : Mem} {ds : List D} {w : Option Nat} (h : SI.go (.fn f) env m = some ((ds, w), m')) : f env m = some (ds, m') ∧ w = none := by
  obtain ⟨⟨x, y⟩, h1, h2⟩ := Option.map_eq_some_iff.mp h
  cases h2
  exact ⟨h1, rfl⟩
def semI (G : Cfg) (t : SI) : TI := fun σ H R => ∃ (r : List Addr) (F : Hp) (env : Ev) (m : Mem) (ds : List D) (w : Option Nat) (m' : Mem), t.go env m = some ((ds, w), m') ∧ Rel G r F m H ∧ EnvR G r F H σ env ∧
  ∀ (r' : List Addr) (F' H' : Hp) (J : It), Ext r r' F F' H H' → Rel G r' F' m' H' → ItOk G (grd w ds) J r' F' H' ds → R J H'
def itE (a : SE) : SI := .it a
def rng1 (a : SA) : SI := .fn fun env m => (a env m).bind fun p => match p.1 with
  | [.int j] => if j.natAbs ≤ 1000000 then some (rngD 0 j.toNat, p.2) else none
  | _ => none
def rng2 (a : SA) : SI := .fn fun env m => (a env m).bind fun p => match p.1 with
  | [.int i, .int j] => if i.natAbs ≤ 1000000 ∧ j.natAbs ≤ 1000000 then some (rngD i (j - i).toNat, p.2) else none
  | _ => none
/-- as zip and enumerate take it: a list that never changes, or a tuple -/
def fixD : D → Option (List D)
  | .lst xs => some xs
  | .tup xs => some xs
  | _ => none
def zipDD (xs ys : List D) : List D := List.zipWith (fun x y => D.tup [x, y]) xs ys
/-- freezes lists of the store among the arguments -/
def frzD (m : Mem) : D → Option (List D × Mem)
  | .lst xs => some (xs, m)
  | .tup xs => some (xs, m)
  | .loc n => match m[n]? with
    | some (.lst xs) => some (xs, m.set n (.frz xs))
    | some (.frz xs) => some (xs, m)
    | _ => none
  | _ => none
def zipI (a : SA) : SI := .fn fun env m => (a env m).bind fun p => match p.1 with
  | [x, y] => (frzD p.2 x).bind fun u => (frzD u.2 y).bind fun v => some (zipDD u.1 v.1, v.2)
  | _ => none
def numD (xs : List D) : List D := List.zipWith (fun (i : Nat) x => D.tup [.int (0 + (i : Int)), x]) (List.range xs.length) xs
def enumI (a : SA) : SI := .fn fun env m => (a env m).bind fun p => match p.1 with
  | [x] => (frzD p.2 x).bind fun u => some (numD u.1, u.2)
  | _ => none

section
variable {X : Cx} {G : Cfg} {K : PySem.W.Frag} {r r' : List Addr} {F F' H H' : Hp} {m : Mem}
/-- where a thing that never changes lies -/
def FixAt (G : Cfg) (r : List Addr) (F : Hp) (k : Bool) (a : Addr) (vs : List V) (ds : List D) : Prop := SqK k G.K F a vs ∧ Dats G r F vs ds
theorem SqK.up {k : Bool} {a : Addr} {xs : List V} (e : ∀ a o, F a = some o → F' a = some o) (h : SqK k K F a xs) : SqK k K F' a xs := by
  cases k with
  | true => exact sql_up e h
  | false => exact sqt_up e h
theorem FixAt.upp {k : Bool} {a : Addr} {vs : List V} {ds : List D} (h : FixAt G r F k a vs ds) (p : r <+: r') (fr : ∀ a o, F a = some o → F' a = some o) : FixAt G r' F' k a vs ds := ⟨h.1.up fr, h.2.up p fr⟩
theorem FixAt.ext {k : Bool} {a : Addr} {vs : List V} {ds : List D} (h : FixAt G r F k a vs ds) (e : Ext r r' F F' H H') : FixAt G r' F' k a vs ds := ⟨h.1.up e.fr, h.2.ext e⟩
theorem frz_of {v : V} {d : D} {xs : List D} {m' : Mem} (R : Rel G r F m H) (h : Dat G r F v d) (e : frzD m d = some (xs, m')) : ∃ (F' : Hp) (k : Bool) (a : Addr) (vs : List V), Rel G r F' m' H ∧ Ext r r F F' H H ∧ v = .ref a ∧ FixAt G r F' k a vs xs := by
  cases h with
  | lst h1 h2 =>
    cases e
    exact ⟨F, true, _, _, R, .refl, rfl, SqL.of h1, h2⟩
  | tup h1 h2 =>
    cases e
    exact ⟨F, false, _, _, R, .refl, rfl, h1, h2⟩
  | loc h1 =>
    rename_i a n
    unfold frzD at e
    simp only at e
    split at e
    · rename_i ys hm
      cases e
      obtain ⟨f1, vs, h2, h3⟩ := R.cell n a _ h1 hm
      obtain ⟨R2, e2⟩ := R.freeze h1 hm f1 h2 h3
      exact ⟨_, true, a, vs, R2, e2, rfl, SqL.of upd_same, h3.ext e2⟩
    · rename_i ys hm
      cases e
      obtain ⟨vs, h2, h3⟩ := R.cell n a _ h1 hm
      exact ⟨F, true, a, vs, R, .refl, rfl, SqL.of h2, h3⟩
    · cases e
  | _ => cases e
theorem FixAt.here {k : Bool} {a : Addr} {vs : List V} {ds : List D} (hK : G.K = K) (h : FixAt G r F k a vs ds) (R : Rel G r F m H) : SqK k K H a vs := by
  subst hK
  exact h.1.up R.sub
theorem it_zip {W : Mem → Prop} {k1 k2 : Bool} {a b : Addr} {vs ws : List V} {xs ys : List D} (hK : G.K = K) (h1 : FixAt G r F k1 a vs xs) (h2 : FixAt G r F k2 b ws ys) : ItOk G W (ItzK k1 k2 K a b) r F H (zipDD xs ys) := fun r2 F2 H2 m2 i p fr R hW => by
  have g1 := h1.upp p fr
  have g2 := h2.upp p fr
  have s1 := g1.here hK R
  have s2 := g2.here hK R
  refine ⟨fun d hd => ?_, fun hl => ?_⟩
  · unfold zipDD at hd
    rw [List.getElem?_zipWith] at hd
    cases q1 : xs[i]? with
    | none => rw [q1] at hd; cases hd
    | some x =>
      cases q2 : ys[i]? with
      | none => rw [q1, q2] at hd; cases hd
      | some y =>
        rw [q1, q2] at hd
        cases hd
        obtain ⟨v, hv, dv⟩ := g1.2.get q1
        obtain ⟨w, hw, dw⟩ := g2.2.get q2
        refine ⟨⟨vs, ws, v, w, s1, s2, hv, hw⟩, fun z H3 hy => ?_⟩
        obtain ⟨T, x', y', rfl, nT, rfl, f1, f2⟩ := hy
        have e1 : x' = v := Option.some.inj ((f1 _ s1).symm.trans hv)
        have e2 : y' = w := Option.some.inj ((f2 _ s2).symm.trans hw)
        subst e1 e2
        obtain ⟨R3, e3⟩ := R.new (o := .tup [x', y']) nT
        exact ⟨_, e3, R3, .tup (SqT.of upd_same) ((Dats.cons dv (.cons dw .nil)).ext e3)⟩
  · unfold zipDD at hl
    rw [List.length_zipWith] at hl
    have l1 := g1.2.length
    have l2 := g2.2.length
    exact ⟨vs, ws, s1, s2, by omega, by omega, by omega⟩
theorem it_enum {W : Mem → Prop} {k : Bool} {a : Addr} {vs : List V} {xs : List D} (hK : G.K = K) (h1 : FixAt G r F k a vs xs) : ItOk G W (IteK k K a) r F H (numD xs) := fun r2 F2 H2 m2 i p fr R hW => by
  have g1 := h1.upp p fr
  have s1 := g1.here hK R
  refine ⟨fun d hd => ?_, fun hl => ?_⟩
  · unfold numD at hd
    rw [List.getElem?_zipWith] at hd
    cases q1 : xs[i]? with
    | none =>
      rw [q1] at hd
      cases q2 : (List.range xs.length)[i]? with
      | none => rw [q2] at hd; cases hd
      | some _ => rw [q2] at hd; cases hd
    | some x =>
      have hi : i < xs.length := (List.getElem?_eq_some_iff.mp q1).1
      rw [q1, List.getElem?_range hi] at hd
      cases hd
      obtain ⟨v, hv, dv⟩ := g1.2.get q1
      refine ⟨⟨vs, v, s1, hv⟩, fun z H3 hy => ?_⟩
      obtain ⟨T, x', rfl, nT, rfl, f1⟩ := hy
      have e1 : x' = v := Option.some.inj ((f1 _ s1).symm.trans hv)
      subst e1
      obtain ⟨R3, e3⟩ := R.new (o := .tup [.int (0 + (i : Int)), x']) nT
      exact ⟨_, e3, R3, .tup (SqT.of upd_same) ((Dats.cons (.int _) (.cons dv .nil)).ext e3)⟩
  · unfold numD at hl
    rw [List.length_zipWith, List.length_range, Nat.min_self] at hl
    exact ⟨vs, s1, by rw [g1.2.length]; exact hl⟩
theorem it_fixL {W : Mem → Prop} {a : Addr} {vs : List V} {xs : List D} (hK : G.K = K) (h1 : SqL G.K F a vs) (hd : Dats G r F vs xs) : ItOk G W (Itl K a) r F H xs := fun r2 F2 H2 m2 i p fr R hW => by
  subst hK
  have s1 : SqL G.K H2 a vs := sql_up R.sub (sql_up fr h1)
  refine ⟨fun d hd' => ?_, fun hl => ⟨vs, s1, by rw [hd.length]; exact Nat.le_of_eq hl⟩⟩
  obtain ⟨v, hv, dv⟩ := (hd.up p fr).get hd'
  refine ⟨⟨vs, v, s1, hv⟩, fun z H3 hy => ?_⟩
  obtain ⟨rfl, f1⟩ := hy
  have e1 : z = v := Option.some.inj ((f1 _ s1).symm.trans hv)
  subst e1
  exact ⟨F2, .refl, R, dv⟩
theorem it_fixT {W : Mem → Prop} {a : Addr} {vs : List V} {xs : List D} (hK : G.K = K) (h1 : SqT G.K F a vs) (hd : Dats G r F vs xs) : ItOk G W (Itt K a) r F H xs := fun r2 F2 H2 m2 i p fr R hW => by
  subst hK
  have s1 : SqT G.K H2 a vs := sqt_up R.sub (sqt_up fr h1)
  refine ⟨fun d hd' => ?_, fun hl => ⟨vs, s1, by rw [hd.length]; exact Nat.le_of_eq hl⟩⟩
  obtain ⟨v, hv, dv⟩ := (hd.up p fr).get hd'
  refine ⟨⟨vs, v, s1, hv⟩, fun z H3 hy => ?_⟩
  obtain ⟨rfl, f1⟩ := hy
  have e1 : z = v := Option.some.inj ((f1 _ s1).symm.trans hv)
  subst e1
  exact ⟨F2, .refl, R, dv⟩
theorem it_live {a : Addr} {n : Nat} {xs : List D} (hK : G.K = K) (h1 : r[n]? = some a) : ItOk G (grd (some n) xs) (Itl K a) r F H xs := fun r2 F2 H2 m2 i p fr R hW => by
  subst hK
  obtain ⟨_, vs, h2, h3⟩ := R.cell n a _ (loc_up p h1) hW
  have s1 : SqL G.K H2 a vs := SqL.of h2
  refine ⟨fun d hd' => ?_, fun hl => ⟨vs, s1, by rw [h3.length]; exact Nat.le_of_eq hl⟩⟩
  obtain ⟨v, hv, dv⟩ := h3.get hd'
  refine ⟨⟨vs, v, s1, hv⟩, fun z H3 hy => ?_⟩
  obtain ⟨rfl, f1⟩ := hy
  have e1 : z = v := Option.some.inj ((f1 _ s1).symm.trans hv)
  subst e1
  exact ⟨F2, .refl, R, dv⟩
theorem it_rng {W : Mem → Prop} {lo : Int} {n : Nat} : ItOk G W (Itr lo n) r F H (rngD lo n) := fun r2 F2 H2 m2 i p fr R hW => by
  refine ⟨fun d hd => ?_, fun hl => ?_⟩
  · unfold rngD at hd
    rw [List.getElem?_map] at hd
    have hi : i < n := by
      cases q : (List.range n)[i]? with
      | none => rw [q] at hd; cases hd
      | some z =>
        have := (List.getElem?_eq_some_iff.mp q).1
        simpa using this
    rw [List.getElem?_range hi] at hd
    cases hd
    refine ⟨hi, fun z H3 hy => ?_⟩
    obtain ⟨rfl, rfl⟩ := hy
    exact ⟨F2, .refl, R, .int _⟩
  · unfold rngD at hl
    rw [List.length_map, List.length_range] at hl
    exact Nat.le_of_eq hl

variable {pos p tpos : Pos} {tg e e2 : Expr} {sa : SE} {s1 : SA} {elts : List Expr} {kk : Nat}
/-- a range object, walked -/
def iRngV (ta : TE) : TI := fun σ H R => ta σ H fun x H1 => ∃ (a : Addr) (lo hi : Int), x = .ref a ∧ H1 a = some (.rng lo hi) ∧ (-(2 ^ 62) ≤ lo ∧ lo < 2 ^ 62 ∧ -(2 ^ 62) ≤ hi ∧ hi < 2 ^ 62) ∧ R (Itr lo (hi - lo).toNat) H1
theorem pi_rngv {l tg : Expr} {tl : TE} (hl : PE X l tl) : PI X tg l (iRngV tl) := ⟨fun pins s σ H R I h => by
  refine thn (hl.run pins s σ H _ I h) fun v s1 ⟨x, H1, I1, r1, a, lo, hi, ex, ea, ⟨b1, b2, b3, b4⟩, q⟩ => ?_
  subst ex
  cases r1
  obtain ⟨t, u, w, hh⟩ := (show ObjOk X.prog X.w H1 s1.heap a (.rng lo hi) from I1.hok a _ ea)
  refine wpAny_pyIter_range (t := t) (u := u) (v := w) hh (small_one b1 b2 b3 b4) ?_
  refine ⟨s1.heap.objs.size, [s1.heap.objs.size], _, _, H1, rfl, I1.kept (t' := s1.toks) fun b o e => Heap.get?_push_of_some _ e, turn_range _ lo (hi - lo).toNat, ?_, fun b hb => ?_, q⟩
  · have e1 : lo + ((0 : Nat) : Int) * 1 = lo := by simp
    have e2 : (((hi - lo).toNat : Nat) : Int) - ((0 : Nat) : Int) = Builtin.Range.rangeSize lo hi 1 := by
      rw [rangeSize_one]
      split <;> omega
    show IsRangeIter _ _ (lo + ((0 : Nat) : Int) * 1) ((((hi - lo).toNat : Nat) : Int) - ((0 : Nat) : Int)) 1
    rw [e1, e2]
    exact Heap.get?_push_size _ rfl
  · have e : b = s1.heap.objs.size := by simpa using hb
    subst e
    exact I1.fpOk (Nat.le_refl _) (I1.hok.fresh (Nat.le_refl _))⟩
/-- for .. in e -/
theorem i_seq (hK : G.K = X.K) (ha : PE X e (semE G sa)) : PI X tg e (semI G (itE sa)) := ⟨fun pins s σ H R I ⟨r, F, env, m, ds, w, m', e, Rl, E, q⟩ => by
  obtain ⟨⟨d1, m1⟩, e1, e⟩ := bind2 (γ := Unit) e
  obtain ⟨⟨ds0, m0⟩, e2, e4⟩ := Option.map_eq_some_iff.mp e
  have eds : ds0 = ds := congrArg (fun z => z.1.1) e4
  have ew : watD m1 d1 = w := congrArg (fun z => z.1.2) e4
  have em0 : m0 = m' := congrArg (fun z => z.2) e4
  subst eds em0
  have tupCase : ∀ xs, d1 = .tup xs → ds0 = xs → m0 = m1 → iTup X.K (semE G sa) σ H R := fun xs ed es em => by
    subst ed es em
    refine ⟨r, F, env, m, _, _, e1, Rl, E, fun v r1 F1 H1 x1 R1 h1 => ?_⟩
    cases h1 with
    | tup k1 k2 => exact ⟨_, rfl, ⟨_, hK ▸ sqt_up R1.sub k1⟩, q r1 F1 H1 _ x1 R1 (it_fixT hK k1 k2)⟩
  have lstCase : (∀ xs, d1 ≠ .tup xs) → (∀ lo hi, d1 ≠ .rng lo hi) → iList X.K (semE G sa) σ H R := fun hn hr => by
    refine ⟨r, F, env, m, _, _, e1, Rl, E, fun v r1 F1 H1 x1 R1 h1 => ?_⟩
    cases h1 with
    | tup k1 k2 => exact absurd rfl (hn _)
    | lst k1 k2 =>
      cases e2
      exact ⟨_, rfl, ⟨_, SqL.of (R1.sub _ _ k1)⟩, q r1 F1 H1 _ x1 R1 (it_fixL hK (SqL.of k1) k2)⟩
    | rng k1 => exact absurd rfl (hr _ _)
    | scr k1 =>
      cases e2
      exact ⟨_, rfl, ⟨_, hK ▸ sql_up R1.sub k1⟩, q r1 F1 H1 _ x1 R1 (it_fixL hK k1 (dats_ints _))⟩
    | loc k1 =>
      rename_i a n
      unfold iterD at e2
      simp only at e2
      split at e2
      · rename_i ys hm
        cases e2
        have ew : some n = w := by
          rw [← ew]
          unfold watD
          simp only
          rw [hm]
        subst ew
        obtain ⟨_, vs, h2, h3⟩ := R1.cell n a _ k1 hm
        exact ⟨_, rfl, ⟨_, SqL.of h2⟩, q r1 F1 H1 _ x1 R1 (it_live hK k1)⟩
      · rename_i ys hm
        cases e2
        obtain ⟨vs, h2, h3⟩ := R1.cell n a _ k1 hm
        exact ⟨_, rfl, ⟨_, SqL.of (R1.sub _ _ h2)⟩, q r1 F1 H1 _ x1 R1 (it_fixL hK (SqL.of h2) h3)⟩
      · cases e2
    | _ => cases e2
  cases d1 with
  | tup xs =>
    cases e2
    exact (pi_tup ha).run pins s σ H R I (tupCase _ rfl rfl rfl)
  | rng lo hi =>
    have e2 : (if lo.natAbs ≤ 1000000 ∧ hi.natAbs ≤ 1000000 then some (rngD lo (hi - lo).toNat, m1) else none) = some (ds0, m0) := e2
    split at e2
    · rename_i hb
      cases e2
      refine (pi_rngv ha).run pins s σ H R I ⟨r, F, env, m, _, _, e1, Rl, E, fun v r1 F1 H1 x1 R1 h1 => ?_⟩
      cases h1 with
      | rng k1 => exact ⟨_, _, _, rfl, R1.sub _ _ k1, by omega, q r1 F1 H1 _ x1 R1 it_rng⟩
    · cases e2
  | _ => exact (pi_list ha).run pins s σ H R I (lstCase (fun _ z => nomatch z) fun _ _ z => nomatch z)⟩
theorem i_rng1 (hg : Gl X "range") (hm : X.mg "range" = none) (ha : PA X [e] (semA G s1)) (hs : starEach [e] X.env = [(false, eval e X.env)] := by rfl) : PI X tg (.Call (.Name "range" p) [e] [] pos) (semI G (rng1 s1)) :=
  ⟨fun pins s σ H R I ⟨r, F, env, m, ds, w, m', e, Rl, E, q⟩ => by
    obtain ⟨e5, rfl⟩ := go_fn e
    obtain ⟨⟨d1, m1⟩, e1, e2⟩ := bind2 (γ := Unit) e5
    refine (pi_range1 hg hm ha hs).run pins s σ H R I ⟨r, F, env, m, d1, m1, e1, Rl, E, fun vs r1 F1 H1 x1 R1 h1 => ?_⟩
    simp only at e2
    split at e2
    · split at e2
      · rename_i hl
        cases e2
        obtain ⟨v, rfl, hv⟩ := dats1 h1
        exact ⟨_, by rw [dat_int hv], by omega, by omega, q r1 F1 H1 _ x1 R1 it_rng⟩
      · cases e2
    · cases e2⟩
theorem i_rng2 (hg : Gl X "range") (hm : X.mg "range" = none) (ha : PA X [e, e2] (semA G s1)) (hs : starEach [e, e2] X.env = [(false, eval e X.env), (false, eval e2 X.env)] := by rfl) (hs2 : starEach [e2] X.env = [(false, eval e2 X.env)] := by rfl) :
    PI X tg (.Call (.Name "range" p) [e, e2] [] pos) (semI G (rng2 s1)) :=
  ⟨fun pins s σ H R I ⟨r, F, env, m, ds, w, m', e, Rl, E, q⟩ => by
    obtain ⟨e5, rfl⟩ := go_fn e
    obtain ⟨⟨d1, m1⟩, e1, e2⟩ := bind2 (γ := Unit) e5
    refine (pi_range2 hg hm ha hs hs2).run pins s σ H R I ⟨r, F, env, m, d1, m1, e1, Rl, E, fun vs r1 F1 H1 x1 R1 h1 => ?_⟩
    simp only at e2
    split at e2
    · split at e2
      · rename_i hl
        cases e2
        obtain ⟨v, w, rfl, hv, hw⟩ := dats2 h1
        exact ⟨_, _, by rw [dat_int hv, dat_int hw], by omega, q r1 F1 H1 _ x1 R1 it_rng⟩
      · cases e2
    · cases e2⟩
theorem i_zip (hK : G.K = X.K) (hg : Gl X "zip") (hm : X.mg "zip" = none) (ha : PA X [e, e2] (semA G s1))
    (hs : starEach [e, e2] X.env = (false, eval e X.env) :: starEach [e2] X.env := by rfl) (hpl : (backTo pos (starEach [e2] X.env)).any (·.1) = false := by rfl) :
    PI X (.Tuple elts kk tpos) (.Call (.Name "zip" p) [e, e2] [] pos) (semI G (zipI s1)) :=
  ⟨fun pins s σ H R I ⟨r, F, env, m, ds, w, m', e, Rl, E, q⟩ => by
    obtain ⟨e5, rfl⟩ := go_fn e
    obtain ⟨⟨d1, m1⟩, e1, e2⟩ := bind2 (γ := Unit) e5
    refine (pi_zipK hg hm ha hs hpl).run pins s σ H R I ⟨r, F, env, m, d1, m1, e1, Rl, E, fun vs r1 F1 H1 x1 R1 h1 => ?_⟩
    simp only at e2
    split at e2
    · obtain ⟨⟨u1, m2⟩, e3, e2⟩ := bind2 (γ := Unit) e2
      obtain ⟨⟨u2, m3⟩, e4, e2⟩ := bind2 (γ := Unit) e2
      cases e2
      obtain ⟨v, w, rfl, hv, hw⟩ := dats2 h1
      obtain ⟨F2, k1, a, xs, R2, x2, rfl, f1⟩ := frz_of R1 hv e3
      obtain ⟨F3, k2, b, ys, R3, x3, rfl, f2⟩ := frz_of R2 (hw.ext x2) e4
      have f1' := f1.ext x3
      exact ⟨k1, k2, a, b, xs, ys, rfl, f1'.here hK R3, f2.here hK R3, q r1 F3 H1 _ ((x1.trans x2).trans x3) R3 (it_zip hK f1' f2)⟩
    · cases e2⟩
theorem i_enum (hK : G.K = X.K) (hg : Gl X "enumerate") (hm : X.mg "enumerate" = none) (ha : PA X [e] (semA G s1)) (hs : starEach [e] X.env = [(false, eval e X.env)] := by rfl) :
    PI X (.Tuple elts kk tpos) (.Call (.Name "enumerate" p) [e] [] pos) (semI G (enumI s1)) :=
  ⟨fun pins s σ H R I ⟨r, F, env, m, ds, w, m', e, Rl, E, q⟩ => by
    obtain ⟨e5, rfl⟩ := go_fn e
    obtain ⟨⟨d1, m1⟩, e1, e2⟩ := bind2 (γ := Unit) e5
    refine (pi_enumK hg hm ha hs).run pins s σ H R I ⟨r, F, env, m, d1, m1, e1, Rl, E, fun vs r1 F1 H1 x1 R1 h1 => ?_⟩
    simp only at e2
    split at e2
    · obtain ⟨⟨u1, m2⟩, e3, e2⟩ := bind2 (γ := Unit) e2
      cases e2
      obtain ⟨v, rfl, hv⟩ := dats1 h1
      obtain ⟨F2, k1, a, xs, R2, x2, rfl, f1⟩ := frz_of R1 hv e3
      exact ⟨k1, a, xs, rfl, f1.here hK R2, q r1 F2 H1 _ (x1.trans x2) R2 (it_enum hK f1)⟩
    · cases e2⟩
end
end Kb

set_option Elab.async false
set_option linter.all false
set_option maxRecDepth 100000
set_option maxHeartbeats 4000000
set_option autoImplicit false
/-! KcJ: for, while, comprehensions, things that change. -/
namespace Kb
open PySem PySem.Spec PyProof.Rows L2

/-- what a turn's end means for the loop -/
def turnO (o : Out) (k : Ev → Mem → Option Out) : Option Out := match o with
  | .nx e m => k e m
  | .ct e m => k e m
  | .bk e m => some (.nx e m)
  | .rt d m => some (.rt d m)
def forL (put : D → Ev → Option Ev) (body : SS) : List D → Ev → Mem → Option Out
  | [], env, m => some (.nx env m)
  | d :: ds, env, m => (put d env).bind fun env1 => (body env1 m).bind fun o => turnO o (forL put body ds)
noncomputable instance decCell : DecidableEq (Option Cell) := fun _ _ => Classical.propDecidable _
/-- over a list of the store that stays as it is meanwhile -/
noncomputable def forW (n : Nat) (xs : List D) (put : D → Ev → Option Ev) (body : SS) : List D → Ev → Mem → Option Out
  | [], env, m => if m[n]? = some (.lst xs) then some (.nx env m) else none
  | d :: ds, env, m => if m[n]? = some (.lst xs) then (put d env).bind fun env1 => (body env1 m).bind fun o => turnO o (forW n xs put body ds) else none
noncomputable def forWt (w : Option Nat) (xs : List D) (put : D → Ev → Option Ev) (body : SS) : List D → Ev → Mem → Option Out := match w with
  | none => forL put body
  | some n => forW n xs put body
theorem forWt_grd {w : Option Nat} {xs : List D} {put : D → Ev → Option Ev} {body : SS} {ds : List D} {env : Ev} {m : Mem} {o : Out} (h : forWt w xs put body ds env m = some o) : grd w xs m := by
  cases w with
  | none => trivial
  | some n =>
    cases ds with
    | nil =>
      have h : (if m[n]? = some (.lst xs) then some (Out.nx env m) else none) = some o := h
      split at h
      · assumption
      · cases h
    | cons d ds =>
      have h : (if m[n]? = some (.lst xs) then (put d env).bind fun env1 => (body env1 m).bind fun o => turnO o (forW n xs put body ds) else none) = some o := h
      split at h
      · assumption
      · cases h
theorem forWt_nil {w : Option Nat} {xs : List D} {put : D → Ev → Option Ev} {body : SS} {env : Ev} {m : Mem} {o : Out} (h : forWt w xs put body [] env m = some o) : o = .nx env m := by
  have g := forWt_grd h
  cases w with
  | none => cases h; rfl
  | some n =>
    have h : (if m[n]? = some (.lst xs) then some (Out.nx env m) else none) = some o := h
    rw [if_pos (show m[n]? = some (.lst xs) from g)] at h
    cases h
    rfl
theorem forWt_cons {w : Option Nat} {xs : List D} {put : D → Ev → Option Ev} {body : SS} {d : D} {ds : List D} {env : Ev} {m : Mem} {o : Out} (h : forWt w xs put body (d :: ds) env m = some o) : ((put d env).bind fun env1 => (body env1 m).bind fun o => turnO o (forWt w xs put body ds)) = some o := by
  have g := forWt_grd h
  cases w with
  | none => exact h
  | some n =>
    have h : (if m[n]? = some (.lst xs) then (put d env).bind fun env1 => (body env1 m).bind fun o => turnO o (forW n xs put body ds) else none) = some o := h
    rw [if_pos (show m[n]? = some (.lst xs) from g)] at h
    exact h
noncomputable def forS (it : SI) (t : Tg) (body : SS) : SS := fun env m => (it.go env m).bind fun p => forWt p.1.2 p.1.1 t.put body p.1.1 env p.2
def whileL (t : SB) (body : SS) : Nat → Ev → Mem → Option Out
  | 0, _, _ => none
  | n + 1, env, m => (t env m).bind fun p => if p.1 then (body env p.2).bind fun o => turnO o (whileL t body n) else some (.nx env p.2)
def whileS (n : Nat) (t : SB) (body : SS) : SS := fun env m => whileL t body n env m

section
variable {X : Cx} {G : Cfg} {pos : Pos} {tg iter c : Expr} {body : List Stmt} {it : SI} {t : Tg} {b : SS} {tb : SB}
theorem s_for (hp : PassesOwn (model X.prog X.w) X.A X.env X.xe) (hc : X.calm = true) (hi : PI X tg iter (semI G it)) (hg : PG X tg (semG G t)) (hb : PSs X body (semS G b))
    (hs : ∀ x, foldedSetIterable iter X.env x = pure x := by intro _; rfl) : PS X (.For tg iter body [] pos) (semS G (forS it t b)) :=
  wkS (ps_for hp hc hi hg hb hs) fun D σ H ⟨r, F, env, m, o, e, R, E, q⟩ => by
    obtain ⟨⟨⟨ds, w⟩, m1⟩, e1, e2⟩ := bind2 (γ := Unit) e
    refine ⟨r, F, env, m, ds, w, m1, e1, R, E, fun r1 F1 H1 J x1 R1 ok => ?_⟩
    have q1 := q.ex x1
    refine ⟨fun i k σ' H' => k = ds.length - i ∧ i ≤ ds.length ∧ ∃ (r2 : List Addr) (F2 : Hp) (env2 : Ev) (m2 : Mem), ExtO (OwnS σ env) r1 r2 F1 F2 H1 H' ∧ Rel G r2 F2 m2 H' ∧ EnvR G r2 F2 H' σ' env2 ∧ (∀ a, OwnS σ' env2 a → OwnS σ env a ∨ H1 a = none) ∧ forWt w ds t.put b (ds.drop i) env2 m2 = some o,
      ⟨ds.length, by simp, Nat.zero_le _, r1, F1, env, m1, .refl, R1, E.ext x1, fun _ z => .inl z, by simpa using e2⟩, ?_⟩
    rintro i k σ' H' ⟨rfl, hi', r2, F2, env2, m2, x2, R2, E2, P2, e3⟩
    obtain ⟨go, st⟩ := ok r2 F2 H' m2 i x2.pre x2.fr R2 (forWt_grd e3)
    by_cases hlt : i < ds.length
    · right
      obtain ⟨g1, g2⟩ := go ds[i] (List.getElem?_eq_getElem hlt)
      rw [List.drop_eq_getElem_cons hlt] at e3
      obtain ⟨env3, e4, e5⟩ := bind2 (γ := Unit) (forWt_cons e3)
      obtain ⟨o1, e6, e7⟩ := bind2 (γ := Unit) e5
      refine ⟨g1, fun σ3 H3 => ∃ (r3 : List Addr) (F3 : Hp) (env3 : Ev) (m3 : Mem), ExtO (OwnS σ env) r1 r3 F1 F3 H1 H3 ∧ Rel G r3 F3 m3 H3 ∧ EnvR G r3 F3 H3 σ3 env3 ∧ (∀ a, OwnS σ3 env3 a → OwnS σ env a ∨ H1 a = none) ∧ forWt w ds t.put b (ds.drop (i + 1)) env3 m3 = some o, fun σ3 H3 hn => ⟨ds.length - (i + 1), by omega, rfl, hlt, hn⟩, fun x H3 hy => ?_⟩
      obtain ⟨F3, x3, R3, dx⟩ := g2 x H3 hy
      refine ⟨r2, F3, env2, env3, m2, _, e4, R3, E2.ext x3, dx, fun vs E3 P3 => ?_⟩
      have x23 := x2.trans (x3.toO (OwnS σ' env2)) P2
      refine ⟨r2, F3, env3, m2, o1, e6, R3, E3, fun r4 F4 H4 x4 => ?_⟩
      have x5 := x23.trans x4 fun a z => P2 a (P3 a z)
      have P5 : ∀ a, OwnS _ env3 a ∨ H3 a = none → OwnS σ env a ∨ H1 a = none := fun a z => z.elim (fun w => P2 a (P3 a w)) fun w => .inr (x23.dom a w)
      cases o1 with
      | nx env4 m4 => exact fun σ4 R4 E4 P4 => ⟨r4, F4, env4, m4, x5, R4, E4, fun a z => P5 a (P4 a z), e7⟩
      | ct env4 m4 => exact fun σ4 R4 E4 P4 => ⟨r4, F4, env4, m4, x5, R4, E4, fun a z => P5 a (P4 a z), e7⟩
      | bk env4 m4 =>
        cases e7
        exact fun σ4 R4 E4 P4 => q1 r4 F4 H4 x5 σ4 R4 E4 fun a z => P5 a (P4 a z)
      | rt d m4 =>
        cases e7
        exact fun v R4 h4 => q1 r4 F4 H4 x5 v R4 (h4.imp P5)
    · left
      have hi2 : ds.length = i := by omega
      rw [List.drop_of_length_le (Nat.le_of_eq hi2)] at e3
      cases forWt_nil e3
      exact ⟨st hi2, q1 r2 F2 H' x2 σ' R2 E2 P2⟩
theorem s_while (n : Nat) (hp : PassesOwn (model X.prog X.w) X.A X.env X.xe) (hc : PT X c (semB G tb)) (hb : PSs X body (semS G b)) : PS X (.While c body [] pos) (semS G (whileS n tb b)) :=
  wkS (ps_while hp hc hb) fun D σ H ⟨r, F, env, m, o, e, R, E, q⟩ => by
    refine ⟨fun k σ' H' => ∃ (r2 : List Addr) (F2 : Hp) (env2 : Ev) (m2 : Mem), ExtO (OwnS σ env) r r2 F F2 H H' ∧ Rel G r2 F2 m2 H' ∧ EnvR G r2 F2 H' σ' env2 ∧ (∀ a, OwnS σ' env2 a → OwnS σ env a ∨ H a = none) ∧ whileL tb b k env2 m2 = some o, ⟨n, r, F, env, m, .refl, R, E, fun _ z => .inl z, e⟩, ?_⟩
    rintro k σ' H' ⟨r2, F2, env2, m2, x2, R2, E2, P2, e3⟩
    cases k with
    | zero => cases e3
    | succ k =>
      obtain ⟨⟨k1, m3⟩, e4, e5⟩ := bind2 (γ := Unit) e3
      refine ⟨r2, F2, env2, m2, k1, m3, e4, R2, E2, fun r3 F3 H3 x3 R3 => ?_⟩
      cases k1 with
      | true =>
        refine iteT ?_
        have e5 : ((b env2 m3).bind fun o => turnO o (whileL tb b k)) = some o := e5
        obtain ⟨o1, e6, e7⟩ := bind2 (γ := Unit) e5
        refine ⟨fun σ3 H3 => ∃ (r3 : List Addr) (F3 : Hp) (env3 : Ev) (m3 : Mem), ExtO (OwnS σ env) r r3 F F3 H H3 ∧ Rel G r3 F3 m3 H3 ∧ EnvR G r3 F3 H3 σ3 env3 ∧ (∀ a, OwnS σ3 env3 a → OwnS σ env a ∨ H a = none) ∧ whileL tb b k env3 m3 = some o, fun σ3 H3 hn => ⟨k, Nat.lt_succ_self _, hn⟩, ?_⟩
        have x23 := x2.trans (x3.toO (OwnS σ' env2)) P2
        refine ⟨r3, F3, env2, m3, o1, e6, R3, E2.ext x3, fun r4 F4 H4 x4 => ?_⟩
        have x5 := x23.trans x4 P2
        have P5 : ∀ a, OwnS σ' env2 a ∨ H3 a = none → OwnS σ env a ∨ H a = none := fun a z => z.elim (P2 a) fun w => .inr (x23.dom a w)
        cases o1 with
        | nx env4 m4 => exact fun σ4 R4 E4 P4 => ⟨r4, F4, env4, m4, x5, R4, E4, fun a z => P5 a (P4 a z), e7⟩
        | ct env4 m4 => exact fun σ4 R4 E4 P4 => ⟨r4, F4, env4, m4, x5, R4, E4, fun a z => P5 a (P4 a z), e7⟩
        | bk env4 m4 =>
          cases e7
          exact fun σ4 R4 E4 P4 => q r4 F4 H4 x5 σ4 R4 E4 fun a z => P5 a (P4 a z)
        | rt d m4 =>
          cases e7
          exact fun v R4 h4 => q r4 F4 H4 x5 v R4 (h4.imp P5)
      | false =>
        refine iteF ?_
        have e5 : some (Out.nx env2 m3) = some o := e5
        cases e5
        exact q r3 F3 H3 (x2.trans (x3.toO (OwnS σ' env2)) P2) σ' R3 (E2.ext x3) P2
end

/-! ### comprehensions -/
def wipeD (env : Ev) : List Nat → Ev
  | [] => env
  | v :: vs => (wipeD env vs).set v none
def yesB : SB := fun _ m => some (true, m)
def lcL (put : D → Ev → Option Ev) (tt : SB) (te : SE) (env : Ev) : List D → Mem → Option (List D × Mem)
  | [], m => some ([], m)
  | d :: ds, m => (put d env).bind fun env1 => (tt env1 m).bind fun p => if p.1 then (te env1 p.2).bind fun q => (lcL put tt te env ds q.2).map fun w => (q.1 :: w.1, w.2) else lcL put tt te env ds p.2
noncomputable def lcW (n : Nat) (xs : List D) (put : D → Ev → Option Ev) (tt : SB) (te : SE) (env : Ev) : List D → Mem → Option (List D × Mem)
  | [], m => if m[n]? = some (.lst xs) then some ([], m) else none
  | d :: ds, m => if m[n]? = some (.lst xs) then (put d env).bind fun env1 => (tt env1 m).bind fun p => if p.1 then (te env1 p.2).bind fun q => (lcW n xs put tt te env ds q.2).map fun w => (q.1 :: w.1, w.2) else lcW n xs put tt te env ds p.2 else none
noncomputable def lcWt (w : Option Nat) (xs : List D) (put : D → Ev → Option Ev) (tt : SB) (te : SE) (env : Ev) : List D → Mem → Option (List D × Mem) := match w with
  | none => lcL put tt te env
  | some n => lcW n xs put tt te env
theorem lcWt_grd {w : Option Nat} {xs : List D} {put : D → Ev → Option Ev} {tt : SB} {te : SE} {ds : List D} {env : Ev} {m : Mem} {o : List D × Mem} (h : lcWt w xs put tt te env ds m = some o) : grd w xs m := by
  cases w with
  | none => trivial
  | some n =>
    cases ds with
    | nil =>
      have h : (if m[n]? = some (.lst xs) then some (([] : List D), m) else none) = some o := h
      split at h
      · assumption
      · cases h
    | cons d ds =>
      have h : (if m[n]? = some (.lst xs) then (put d env).bind fun env1 => (tt env1 m).bind fun p => if p.1 then (te env1 p.2).bind fun q => (lcW n xs put tt te env ds q.2).map fun w => (q.1 :: w.1, w.2) else lcW n xs put tt te env ds p.2 else none) = some o := h
      split at h
      · assumption
      · cases h
theorem lcWt_nil {w : Option Nat} {xs : List D} {put : D → Ev → Option Ev} {tt : SB} {te : SE} {env : Ev} {m : Mem} {o : List D × Mem} (h : lcWt w xs put tt te env [] m = some o) : o = ([], m) := by
  have g := lcWt_grd h
  cases w with
  | none => cases h; rfl
  | some n =>
    have h : (if m[n]? = some (.lst xs) then some (([] : List D), m) else none) = some o := h
    rw [if_pos (show m[n]? = some (.lst xs) from g)] at h
    cases h
    rfl
theorem lcWt_cons {w : Option Nat} {xs : List D} {put : D → Ev → Option Ev} {tt : SB} {te : SE} {d : D} {ds : List D} {env : Ev} {m : Mem} {o : List D × Mem} (h : lcWt w xs put tt te env (d :: ds) m = some o) :
    ((put d env).bind fun env1 => (tt env1 m).bind fun p => if p.1 then (te env1 p.2).bind fun q => (lcWt w xs put tt te env ds q.2).map fun w => (q.1 :: w.1, w.2) else lcWt w xs put tt te env ds p.2) = some o := by
  have g := lcWt_grd h
  cases w with
  | none => exact h
  | some n =>
    have h : (if m[n]? = some (.lst xs) then (put d env).bind fun env1 => (tt env1 m).bind fun p => if p.1 then (te env1 p.2).bind fun q => (lcW n xs put tt te env ds q.2).map fun w => (q.1 :: w.1, w.2) else lcW n xs put tt te env ds p.2 else none) = some o := h
    rw [if_pos (show m[n]? = some (.lst xs) from g)] at h
    exact h
noncomputable def lcA (it : SI) (t : Tg) (own : List Nat) (tt : SB) (te : SE) : SA := fun env m => (it.go env m).bind fun p => (lcWt p.1.2 p.1.1 t.put tt te (wipeD env own) p.1.1 p.2).bind fun w => if w.1.length ≤ 100000 then some w else none
noncomputable def lcE (it : SI) (t : Tg) (own : List Nat) (tt : SB) (te : SE) : SE := fun env m => (lcA it t own tt te env m).map fun w => (.lst w.1, w.2)
noncomputable def lcNE (it : SI) (t : Tg) (own : List Nat) (tt : SB) (te : SE) : SE := fun env m => (lcA it t own tt te env m).map fun w => (.loc w.2.length, w.2 ++ [.lst w.1])

section
variable {G : Cfg} {r : List Addr} {F H : Hp} {σ : L2.St} {env : Ev}
theorem EnvR.wipe1 (E : EnvR G r F H σ env) (i : Nat) : EnvR G r F H (σ.set i none) (env.set i none) := by
  have key : ∀ {j : Nat} {d : D}, (env.set i none)[j]? = some (some d) → env[j]? = some (some d) ∧ (σ.set i none)[j]? = σ[j]? := by
    intro j d hj
    by_cases e : i = j
    · subst e
      have hl : i < env.length := by
        have := (List.getElem?_eq_some_iff.mp hj).1
        rwa [List.length_set] at this
      rw [List.getElem?_set_self hl] at hj
      cases hj
    · rw [List.getElem?_set_ne e] at hj
      exact ⟨hj, List.getElem?_set_ne e⟩
  refine ⟨by rw [List.length_set, List.length_set]; exact E.len, fun j d hj no => ?_, fun j d hj io => ?_, fun j k d1 d2 a h1 h2 i1 i2 s1 s2 => ?_⟩
  · rw [(key hj).2]; exact E.dat j d (key hj).1 no
  · rw [(key hj).2]; exact E.own j d (key hj).1 io
  · rw [(key h1).2] at s1
    rw [(key h2).2] at s2
    exact E.one j k d1 d2 a (key h1).1 (key h2).1 i1 i2 s1 s2
theorem EnvR.wipe (E : EnvR G r F H σ env) : ∀ vs : List Nat, EnvR G r F H (L2.wipe σ vs) (wipeD env vs)
  | [] => E
  | v :: vs => (EnvR.wipe E vs).wipe1 v
end
theorem wipe_none {σ : L2.St} {i : Nat} : ∀ {vs : List Nat}, i ∈ vs → (wipe σ vs).set i none = wipe σ vs
  | [], h => by cases h
  | j :: vs, h => by
    unfold wipe
    by_cases e : j = i
    · subst e
      rw [List.set_set]
    · have h2 : i ∈ vs := by
        rcases List.mem_cons.mp h with z | z
        · exact absurd z.symm e
        · exact z
      rw [List.set_comm _ _ e, wipe_none h2]
theorem wipe_wipe {σ : L2.St} {vs : List Nat} : ∀ us : List Nat, (∀ i ∈ us, i ∈ vs) → wipe (wipe σ vs) us = wipe σ vs
  | [], _ => rfl
  | u :: us, h => by
    show (wipe (wipe σ vs) us).set u none = _
    rw [wipe_wipe us fun i hi => h i (List.mem_cons_of_mem _ hi)]
    exact wipe_none (h u List.mem_cons_self)

section
variable {X : Cx} {G : Cfg} {pos : Pos} {tg iter elt c : Expr} {ifs : List Expr} {it : SI} {t : Tg} {tt : SB} {te : SE} {own : List (Str × Nat)} {scope : Scope}
theorem p_nil : PTs X [] (semB G yesB) := ⟨fun pins s σ H Q I ⟨r, F, env, m, b, m', e, R, E, q⟩ => by
  cases e
  exact pts_nil.run pins s σ H Q I (q r F H .refl R)⟩
theorem p_one (h : PT X c (semB G tt)) : PTs X [c] (semB G tt) := pts_one h
/-- the loop of a comprehension: what stands at D behind it -/
theorem lc_loop {vs : List Nat} {σ : L2.St} {H1 : Hp} {D : Addr} {Q : Hp → Prop} {J : It} {r : List Addr} {F : Hp} {env : Ev} {m m' : Mem} {ds w : List Kb.D} {wt : Option Nat} (hsub : ∀ i ∈ t.slots, i ∈ vs) (R : Rel G r F m H1) (E : EnvR G r F H1 σ env) (ok : ItOk G (grd wt ds) J r F H1 ds) (hD : H1 D = none)
    (e : lcWt wt ds t.put tt te (wipeD env vs) ds m = some (w, m')) (hw : w.length ≤ 100000)
    (q : ∀ (r2 : List Addr) (F2 H2 : Hp) (xs : List V), Ext r r2 F F2 H1 H2 → Rel G r2 F2 m' H2 → H2 D = some (.lst xs) → F2 D = none → D ∉ r2 → Dats G r2 F2 xs w → Q H2) :
    ∃ W : Nat → Nat → Hp → Prop, (∃ k, W 0 k (upd H1 D (.lst []))) ∧ ∀ i k H, W i k H → (J.stop i H ∧ Q H) ∨ (J.go i H ∧ ∃ Nx : Hp → Prop, (∀ H', Nx H' → ∃ k', k' < k ∧ W (i + 1) k' H') ∧ ∀ x H', J.yld i H x H' → semG G t x (wipe σ vs) H' fun σ2 H2 => wipe σ2 vs = wipe σ vs ∧ semB G tt σ2 H2 fun b H3 =>
      if b = true then semE G te σ2 H3 fun y H4 => ∃ acc, H4 D = some (.lst acc) ∧ acc.length < sizeLine ∧ Nx (upd H4 D (.lst (acc ++ [y]))) else Nx H3) := by
  have fD : F D = none := sub_none R hD
  have nD : D ∉ r := fun h => R.own D h hD
  refine ⟨fun i k H' => k = ds.length - i ∧ i ≤ ds.length ∧ ∃ (r2 : List Addr) (F2 : Hp) (m2 : Mem) (acc : List Kb.D) (rest : List Kb.D) (xs : List V), Ext r r2 F F2 H1 H' ∧ Rel G r2 F2 m2 H' ∧ H' D = some (.lst xs) ∧ F2 D = none ∧ D ∉ r2 ∧ Dats G r2 F2 xs acc ∧ lcWt wt ds t.put tt te (wipeD env vs) (ds.drop i) m2 = some (rest, m') ∧ acc ++ rest = w,
    ⟨ds.length, by simp, Nat.zero_le _, r, F, m, [], w, [], Ext.other .refl hD, R.other fD nD, upd_same, fD, nD, .nil, by simpa using e, rfl⟩, ?_⟩
  rintro i k H' ⟨rfl, hi, r2, F2, m2, acc, rest, xs, x2, R2, hx, f2, n2, da, e3, ea⟩
  obtain ⟨go, st⟩ := ok r2 F2 H' m2 i x2.pre x2.fr R2 (lcWt_grd e3)
  by_cases hlt : i < ds.length
  · right
    obtain ⟨g1, g2⟩ := go ds[i] (List.getElem?_eq_getElem hlt)
    rw [List.drop_eq_getElem_cons hlt] at e3
    obtain ⟨env3, e4, e5⟩ := bind2 (γ := Unit) (lcWt_cons e3)
    obtain ⟨⟨b1, m3⟩, e6, e7⟩ := bind2 (γ := Unit) e5
    refine ⟨g1, fun H3 => ∃ (r3 : List Addr) (F3 : Hp) (m3 : Mem) (acc : List Kb.D) (rest : List Kb.D) (xs : List V), Ext r r3 F F3 H1 H3 ∧ Rel G r3 F3 m3 H3 ∧ H3 D = some (.lst xs) ∧ F3 D = none ∧ D ∉ r3 ∧ Dats G r3 F3 xs acc ∧ lcWt wt ds t.put tt te (wipeD env vs) (ds.drop (i + 1)) m3 = some (rest, m') ∧ acc ++ rest = w,
      fun H3 hn => ⟨ds.length - (i + 1), by omega, rfl, hlt, hn⟩, fun x H3 hy => ?_⟩
    -- D through a stretch
    have step : ∀ {ra rb : List Addr} {Fa Fb Ha Hb : Hp} {xs : List V}, Ext ra rb Fa Fb Ha Hb → Ha D = some (.lst xs) → Fa D = none → D ∉ ra → Hb D = some (.lst xs) ∧ Fb D = none ∧ D ∉ rb := fun {ra rb Fa Fb Ha Hb xs} x h f n =>
      ⟨x.keep D _ h n, x.frn D f (by rw [h]; exact fun z => nomatch z) n, fun z => (x.new D z).elim n fun y => by rw [h] at y; cases y⟩
    obtain ⟨F3, x3, R3, dx⟩ := g2 x H3 hy
    obtain ⟨hx3, f3, n3⟩ := step x3 hx f2 n2
    refine ⟨r2, F3, wipeD env vs, env3, m2, _, e4, R3, ((E.ext x2).ext x3).wipe vs, dx, fun us E3 _ => ⟨?_, ?_⟩⟩
    · rw [wipe_setL hsub]
      exact wipe_wipe vs fun _ h => h
    · refine ⟨r2, F3, env3, m2, b1, m3, e6, R3, E3, fun r4 F4 H4 x4 R4 => ?_⟩
      obtain ⟨hx4, f4, n4⟩ := step x4 hx3 f3 n3
      have x5 := (x2.trans x3).trans x4
      cases b1 with
      | true =>
        have e7 : ((te env3 m3).bind fun q => (lcWt wt ds t.put tt te (wipeD env vs) (ds.drop (i + 1)) q.2).map fun w => (q.1 :: w.1, w.2)) = some (rest, m') := e7
        obtain ⟨⟨d1, m4⟩, e8, e9⟩ := bind2 (γ := Unit) e7
        obtain ⟨⟨w1, m5⟩, e10, e11⟩ := Option.map_eq_some_iff.mp e9
        cases e11
        refine iteT ⟨r4, F4, env3, m3, d1, m4, e8, R4, E3.ext x4, fun v r6 F6 H6 x6 R6 dv => ?_⟩
        obtain ⟨hx6, f6, n6⟩ := step x6 hx4 f4 n4
        have da6 := (((da.ext x3).ext x4).ext x6).append (.cons dv .nil)
        have ea2 : (acc ++ [d1]) ++ w1 = w := by rw [List.append_assoc]; exact ea
        refine ⟨xs, hx6, ?_, r6, F6, m4, acc ++ [d1], w1, xs ++ [v], (x5.trans x6).other hD, R6.other f6 n6, upd_same, f6, n6, da6, e10, ea2⟩
        have h1 : (acc ++ [d1] ++ w1).length = w.length := by rw [ea2]
        rw [List.length_append, List.length_append, List.length_singleton] at h1
        rw [da.length, sizeLine_eq]
        omega
      | false =>
        have e7 : lcWt wt ds t.put tt te (wipeD env vs) (ds.drop (i + 1)) m3 = some (rest, m') := e7
        exact iteF ⟨r4, F4, m3, acc, rest, xs, x5, R4, hx4, f4, n4, (da.ext x3).ext x4, e7, ea⟩
  · left
    have hi2 : ds.length = i := by omega
    rw [List.drop_of_length_le (Nat.le_of_eq hi2)] at e3
    cases lcWt_nil e3
    rw [List.append_nil] at ea
    subst ea
    exact ⟨st hi2, q r2 F2 H' xs x2 R2 hx f2 n2 da⟩
theorem lc_ok {vs : List Nat} {σ : L2.St} {H : Hp} {Q : VK} (hsub : ∀ i ∈ t.slots, i ∈ vs) (h : semE G (lcE it t vs tt te) σ H Q) : tLc (semI G it) (semG G t) (semB G tt) (semE G te) vs σ H Q := by
  obtain ⟨r, F, env, m, d, m', e, R, E, q⟩ := h
  obtain ⟨⟨w, m3⟩, e0, e1⟩ := Option.map_eq_some_iff.mp e
  cases e1
  obtain ⟨⟨⟨ds, wt⟩, m1⟩, e1, e2⟩ := bind2 (γ := Unit) e0
  obtain ⟨⟨w', m2⟩, e3, e4⟩ := bind2 (γ := Unit) e2
  split at e4
  · rename_i hl
    cases e4
    refine ⟨r, F, env, m, ds, wt, m1, e1, R, E, fun r1 F1 H1 J x1 R1 ok D hD => ?_⟩
    refine lc_loop hsub R1 (E.ext x1) ok hD e3 hl fun r2 F2 H2 xs x2 R2 hx f2 n2 dw => ?_
    have x3 : Ext r1 r2 F1 (upd F2 D (.lst xs)) H1 H2 := x2.adopt hD f2
    exact q _ r2 _ H2 (x1.trans x3) (R2.adopt f2 n2 hx) (.lst upd_same (dw.up (List.prefix_refl _) fun a u z => by rw [upd_ne (ne_of_none z f2)]; exact z))
  · cases e4
theorem lcN_ok {vs : List Nat} {σ : L2.St} {H : Hp} {Q : VK} (hsub : ∀ i ∈ t.slots, i ∈ vs) (h : semE G (lcNE it t vs tt te) σ H Q) : tLc (semI G it) (semG G t) (semB G tt) (semE G te) vs σ H Q := by
  obtain ⟨r, F, env, m, d, m', e, R, E, q⟩ := h
  obtain ⟨⟨w, m3⟩, e0, e1⟩ := Option.map_eq_some_iff.mp e
  cases e1
  obtain ⟨⟨⟨ds, wt⟩, m1⟩, e1, e2⟩ := bind2 (γ := Unit) e0
  obtain ⟨⟨w', m2⟩, e3, e4⟩ := bind2 (γ := Unit) e2
  split at e4
  · rename_i hl
    cases e4
    refine ⟨r, F, env, m, ds, wt, m1, e1, R, E, fun r1 F1 H1 J x1 R1 ok D hD => ?_⟩
    refine lc_loop hsub R1 (E.ext x1) ok hD e3 hl fun r2 F2 H2 xs x2 R2 hx f2 n2 dw => ?_
    have x3 : Ext r1 (r2 ++ [D]) F1 F2 H1 H2 := x2.take hD
    refine q _ (r2 ++ [D]) F2 H2 (x1.trans x3) (R2.take n2 (by rw [hx]; exact fun z => nomatch z) ⟨f2, xs, hx, dw.up ⟨[D], rfl⟩ fun _ _ z => z⟩) (.loc ?_)
    show (r2 ++ [D])[m3.length]? = some D
    rw [← R2.len, List.getElem?_append_right (Nat.le_refl _), Nat.sub_self]
    rfl
  · cases e4
theorem e_lc (hc : X.calm = true) (hN : X.N.Nodup) (hi : PI X tg iter (semI G it)) (ok : BlkOk X.N X.env.scope scope own) (hsub : ∀ i ∈ t.slots, i ∈ own.map (·.2))
    (hg : ∀ (s : Shared) (H : Hp) (C : Addr) (cl : List (Str × Addr)) (fp : List Addr), PG (X.blk s H scope (compEnvC scope cl C X.env) fp) tg (semG G t)) (ht : ∀ (s : Shared) (H : Hp) (C : Addr) (cl : List (Str × Addr)) (fp : List Addr), PTs (X.blk s H scope (compEnvC scope cl C X.env) fp) ifs (semB G tt))
    (he : ∀ (s : Shared) (H : Hp) (C : Addr) (cl : List (Str × Addr)) (fp : List Addr), PE (X.blk s H scope (compEnvC scope cl C X.env) fp) elt (semE G te)) (hs : ∀ x, foldedSetIterable iter X.env x = pure x := by intro _; rfl) :
    PE X (.ListComp elt [⟨tg, iter, ifs, 0⟩] scope pos) (semE G (lcE it t (own.map (·.2)) tt te)) := wkE (pe_lc hc hN hi ok hg ht he hs) fun _ _ _ h => lc_ok hsub h
theorem e_lcN (hc : X.calm = true) (hN : X.N.Nodup) (hi : PI X tg iter (semI G it)) (ok : BlkOk X.N X.env.scope scope own) (hsub : ∀ i ∈ t.slots, i ∈ own.map (·.2))
    (hg : ∀ (s : Shared) (H : Hp) (C : Addr) (cl : List (Str × Addr)) (fp : List Addr), PG (X.blk s H scope (compEnvC scope cl C X.env) fp) tg (semG G t)) (ht : ∀ (s : Shared) (H : Hp) (C : Addr) (cl : List (Str × Addr)) (fp : List Addr), PTs (X.blk s H scope (compEnvC scope cl C X.env) fp) ifs (semB G tt))
    (he : ∀ (s : Shared) (H : Hp) (C : Addr) (cl : List (Str × Addr)) (fp : List Addr), PE (X.blk s H scope (compEnvC scope cl C X.env) fp) elt (semE G te)) (hs : ∀ x, foldedSetIterable iter X.env x = pure x := by intro _; rfl) :
    PE X (.ListComp elt [⟨tg, iter, ifs, 0⟩] scope pos) (semE G (lcNE it t (own.map (·.2)) tt te)) := wkE (pe_lc hc hN hi ok hg ht he hs) fun _ _ _ h => lcN_ok hsub h
theorem setN_ok {i : Nat} {se : SE} {D : Ends} {σ : L2.St} {H : Hp} {te : TE} (hi : ∀ σ H Q, semE G se σ H Q → te σ H Q) (h : semS G (setS (.n i) se) D σ H) : tAsg te (gName i) D σ H := by
  obtain ⟨r, F, env, m, o, e, R, E, q⟩ := h
  obtain ⟨⟨d1, m1⟩, e1, e⟩ := bind2 (γ := Unit) e
  obtain ⟨env', e2, e3⟩ := Option.map_eq_some_iff.mp e
  cases e3
  refine hi _ _ _ ⟨r, F, env, m, d1, m1, e1, R, E, fun v r1 F1 H1 x1 R1 h1 => ?_⟩
  have e' : (if i < env.length then putL [] [] (env.set i (some d1)) else none) = some env' := e2
  split at e'
  · cases e'
    exact q r1 F1 H1 (x1.toO _) _ R1 ((E.ext x1).set h1 i) fun a z => .inl (own_set h1.notOwn i a z)
  · cases e'
theorem s_setLc (i : Nat) {y : Str} {py spos : Pos} (hc : X.calm = true) (hN : X.N.Nodup) (hi : PI X tg iter (semI G it)) (ok : BlkOk X.N X.env.scope scope own) (hsub : ∀ i ∈ t.slots, i ∈ own.map (·.2))
    (hg : ∀ (s : Shared) (H : Hp) (C : Addr) (cl : List (Str × Addr)) (fp : List Addr), PG (X.blk s H scope (compEnvC scope cl C X.env) fp) tg (semG G t)) (ht : ∀ (s : Shared) (H : Hp) (C : Addr) (cl : List (Str × Addr)) (fp : List Addr), PTs (X.blk s H scope (compEnvC scope cl C X.env) fp) ifs (semB G tt))
    (he : ∀ (s : Shared) (H : Hp) (C : Addr) (cl : List (Str × Addr)) (fp : List Addr), PE (X.blk s H scope (compEnvC scope cl C X.env) fp) elt (semE G te))
    (hsw : swapsWith (.ListComp elt [⟨tg, iter, ifs, 0⟩] scope pos) (some (.Name y py)) spos.line X.env = pure true) (hy : X.N[i]? = some y := by rfl) (hyl : X.env.scope.names.lookup y = some .local := by rfl) (hs : ∀ x, foldedSetIterable iter X.env x = pure x := by intro _; rfl) :
    PS X (.Assign [.Name y py] (.ListComp elt [⟨tg, iter, ifs, 0⟩] scope pos) spos) (semS G (setS (.n i) (lcE it t (own.map (·.2)) tt te))) :=
  wkS (ps_setLc (i := i) hc hN hy hyl hsw hi ok hg ht he hs) fun D σ H h => setN_ok (fun _ _ _ z => lc_ok hsub z) h
theorem s_setLcN (i : Nat) {y : Str} {py spos : Pos} (hc : X.calm = true) (hN : X.N.Nodup) (hi : PI X tg iter (semI G it)) (ok : BlkOk X.N X.env.scope scope own) (hsub : ∀ i ∈ t.slots, i ∈ own.map (·.2))
    (hg : ∀ (s : Shared) (H : Hp) (C : Addr) (cl : List (Str × Addr)) (fp : List Addr), PG (X.blk s H scope (compEnvC scope cl C X.env) fp) tg (semG G t)) (ht : ∀ (s : Shared) (H : Hp) (C : Addr) (cl : List (Str × Addr)) (fp : List Addr), PTs (X.blk s H scope (compEnvC scope cl C X.env) fp) ifs (semB G tt))
    (he : ∀ (s : Shared) (H : Hp) (C : Addr) (cl : List (Str × Addr)) (fp : List Addr), PE (X.blk s H scope (compEnvC scope cl C X.env) fp) elt (semE G te))
    (hsw : swapsWith (.ListComp elt [⟨tg, iter, ifs, 0⟩] scope pos) (some (.Name y py)) spos.line X.env = pure true) (hy : X.N[i]? = some y := by rfl) (hyl : X.env.scope.names.lookup y = some .local := by rfl) (hs : ∀ x, foldedSetIterable iter X.env x = pure x := by intro _; rfl) :
    PS X (.Assign [.Name y py] (.ListComp elt [⟨tg, iter, ifs, 0⟩] scope pos) spos) (semS G (setS (.n i) (lcNE it t (own.map (·.2)) tt te))) :=
  wkS (ps_setLc (i := i) hc hN hy hyl hsw hi ok hg ht he hs) fun D σ H h => setN_ok (fun _ _ _ z => lcN_ok hsub z) h
end

/-! ### targets with places of lists among them -/
abbrev GT := D → Ev → Mem → Option (Ev × Mem)
abbrev GTs := List D → Ev → Mem → Option (Ev × Mem)
def tgG (t : Tg) : GT := fun d env m => (t.put d env).map fun e => (e, m)
/-- o[i] = v in the store -/
def setD (o i v : D) (m : Mem) : Option Mem := match o, i with
  | .loc n, .int k => match m[n]? with
    | some (.lst xs) => (ixN xs.length k).map fun j => m.set n (.lst (xs.set j v))
    | _ => none
  | _, _ => none
def subG (so si : SE) : GT := fun v env m => (so env m).bind fun p => (si env p.2).bind fun q => (setD p.1 q.1 v q.2).map fun m' => (env, m')
def nilG : GTs := fun ds env m => match ds with
  | [] => some (env, m)
  | _ => none
def consG (a : GT) (b : GTs) : GTs := fun ds env m => match ds with
  | d :: ds => (a d env m).bind fun p => b ds p.1 p.2
  | [] => none
def tupG (n : Nat) (a : GTs) : GT := fun d env m => match d with
  | .tup ds => if ds.length = n then a ds env m else none
  | _ => none
def asgS (a : SE) (t : GT) : SS := fun env m => (a env m).bind fun p => (t p.1 env p.2).map fun w => .nx w.1 w.2
def PostG (G : Cfg) (r : List Addr) (F H : Hp) (O : Addr → Prop) (env : Ev) (m : Mem) (Q : L2.St → Hp → Prop) : Prop := ∀ (σ : L2.St) (r' : List Addr) (F' H' : Hp), ExtO O r r' F F' H H' → Rel G r' F' m H' → EnvR G r' F' H' σ env → (∀ a, OwnS σ env a → O a ∨ H a = none) → Q σ H'
def semGG (G : Cfg) (t : GT) : TG := fun v σ H Q => ∃ (r : List Addr) (F : Hp) (env : Ev) (m : Mem) (d : D) (env' : Ev) (m' : Mem), t d env m = some (env', m') ∧ Rel G r F m H ∧ EnvR G r F H σ env ∧ Dat G r F v d ∧ PostG G r F H (OwnS σ env) env' m' Q
def semGGs (G : Cfg) (t : GTs) : TGs := fun vs σ H Q => ∃ (r : List Addr) (F : Hp) (env : Ev) (m : Mem) (ds : List D) (env' : Ev) (m' : Mem), t ds env m = some (env', m') ∧ Rel G r F m H ∧ EnvR G r F H σ env ∧ Dats G r F vs ds ∧ PostG G r F H (OwnS σ env) env' m' Q
theorem PostG.ext {G : Cfg} {r r' : List Addr} {F F' H H' : Hp} {O O' : Addr → Prop} {env : Ev} {m : Mem} {Q : L2.St → Hp → Prop} (q : PostG G r F H O env m Q) (e : ExtO O r r' F F' H H') (h : ∀ a, O' a → O a ∨ H a = none) : PostG G r' F' H' O' env m Q := fun σ r2 F2 H2 e2 R E z => q σ r2 F2 H2 (e.trans e2 h) R E fun a w => (z a w).elim (h a) fun y => .inr (e.dom a y)
theorem setD_ok {G : Cfg} {r : List Addr} {F H : Hp} {m m' : Mem} {o i d : D} {x y v : V} {Q : Hp → Prop} (R : Rel G r F m H) (ho : Dat G r F x o) (hi : Dat G r F y i) (hv : Dat G r F v d) (e : setD o i d m = some m')
    (q : ∀ H', Rel G r F m' H' → Ext r r F F H H' → Q H') : rSetL x y v H Q := by
  unfold setD at e
  split at e
  · rename_i n k
    split at e
    · rename_i xs hm
      obtain ⟨j, e1, e2⟩ := Option.map_eq_some_iff.mp e
      cases e2
      cases ho with
      | loc h1 =>
        rename_i a
        obtain ⟨f1, vs, h2, h3⟩ := R.cell n a _ h1 hm
        obtain ⟨R2, x2⟩ := R.set (o := .lst (vs.set j v)) (c := .lst (xs.set j d)) h1 f1 ⟨f1, _, upd_same, h3.set hv j⟩
        exact ⟨a, vs, k, j, rfl, dat_int hi, h2, by rw [h3.length]; exact e1, q _ R2 x2⟩
    · cases e
  · cases e
section
variable {X : Cx} {G : Cfg} {pos : Pos} {tg e o i : Expr} {es : List Expr} {se so si : SE} {t : Tg} {g : GT} {gs : GTs}
theorem gg_tg (h : PG X tg (semG G t)) : PG X tg (semGG G (tgG t)) := ⟨fun pins s σ H v u Q I rv ⟨r, F, env, m, d, env', m', e, R, E, hd, q⟩ => by
  obtain ⟨w, e1, e2⟩ := Option.map_eq_some_iff.mp e
  cases e2
  exact h.run pins s σ H v u Q I rv ⟨r, F, env, env', m, d, e1, R, E, hd, fun vs E2 P2 => q _ r F H .refl R E2 fun a z => .inl (P2 a z)⟩⟩
theorem gg_sub (ho : PE X o (semE G so)) (hi : PE X i (semE G si)) (ha : ∀ v, assign (.Subscript o i pos) X.env v = (do
      let ov ← holding [v] (eval o X.env)
      let iv ← holding [v, ov] (eval i X.env)
      standAt pos
      holding [v, ov, iv] (setItem ov iv v)
      release [v, ov, iv] []) := by intro _; rfl) : PG X (.Subscript o i pos) (semGG G (subG so si)) := ⟨fun pins s σ H v u Q I rv ⟨r, F, env, m, d, env', m', e, R, E, hd, q⟩ => by
  refine (pg_sub ho hi set_list ha).run pins s σ H v u Q I rv ?_
  obtain ⟨⟨d1, m1⟩, e1, e⟩ := bind2 (γ := Unit) e
  obtain ⟨⟨d2, m2⟩, e2, e⟩ := bind2 (γ := Unit) e
  obtain ⟨m3, e3, e4⟩ := Option.map_eq_some_iff.mp e
  cases e4
  refine ⟨r, F, env, m, d1, m1, e1, R, E, fun x r1 F1 H1 x1 R1 h1 => ?_⟩
  refine ⟨r1, F1, env, m1, d2, m2, e2, R1, E.ext x1, fun y r2 F2 H2 x2 R2 h2 => ?_⟩
  refine setD_ok R2 (h1.ext x2) h2 ((hd.ext x1).ext x2) e3 fun H3 R3 x3 => ?_
  exact q σ r2 F2 H3 (((x1.trans x2).trans x3).toO _) R3 (((E.ext x1).ext x2).ext x3) fun _ z => .inl z⟩
theorem ggs_nil : PGs X [] (semGGs G nilG) := ⟨fun pins s σ H vs us Q I rv ⟨r, F, env, m, ds, env', m', e, R, E, hd, q⟩ => by
  refine pgs_nil.run pins s σ H vs us Q I rv ?_
  cases hd with
  | nil =>
    cases e
    exact ⟨rfl, q σ r F H .refl R E fun _ z => .inl z⟩
  | cons _ _ => cases e⟩
theorem ggs_cons (h1 : PG X e (semGG G g)) (h2 : PGs X es (semGGs G gs)) (hs : (assignEach (e :: es) X.env).map (·.2) = assign e X.env :: (assignEach es X.env).map (·.2) := by rfl) : PGs X (e :: es) (semGGs G (consG g gs)) :=
  ⟨fun pins s σ H vs us Q I rv ⟨r, F, env, m, ds, env', m', e, R, E, hd, q⟩ => by
    refine (pgs_cons h1 h2 hs).run pins s σ H vs us Q I rv ?_
    cases hd with
    | nil => cases e
    | cons h t =>
      obtain ⟨⟨env1, m1⟩, e1, e2⟩ := bind2 (γ := Unit) e
      refine ⟨_, _, rfl, r, F, env, m, _, env1, m1, e1, R, E, h, fun σ1 r1 F1 H1 x1 R1 E1 P1 => ?_⟩
      exact ⟨r1, F1, env1, m1, _, env', m', e2, R1, E1, t.up x1.pre x1.fr, q.ext x1 P1⟩⟩
theorem gg_tup (n : Nat) {k : Nat} (hK : G.K = X.K) (hc : X.calm = true) (h : PGs X es (semGGs G gs)) (hn : (assignEach es X.env).length = n := by rfl) (hst : (assignEach es X.env).findIdx? (·.1) = none := by rfl) : PG X (.Tuple es k pos) (semGG G (tupG n gs)) :=
  ⟨fun pins s σ H v u Q I rv ⟨r, F, env, m, d, env', m', e, R, E, hd, q⟩ => by
    refine (pg_tup (n := n) hc h hn hst).run pins s σ H v u Q I rv ?_
    cases d with
    | tup ds =>
      have e' : (if ds.length = n then gs ds env m else none) = some (env', m') := e
      cases hd with
      | tup h1 h2 =>
        split at e'
        · rename_i hl
          exact ⟨_, _, rfl, hK ▸ sqt_up R.sub h1, h2.length.trans hl, r, F, env, m, ds, env', m', e', R, E, h2, q⟩
        · cases e'
    | _ => cases e⟩
theorem s_asgG (he : PE X e (semE G se)) (hg : PG X tg (semGG G g)) (hs : swapsWithSole [tg] e pos.line X.env = pure false := by rfl) (hw : swappedStores [tg] e X.env = pure none := by rfl)
    (h1 : (assignEach [tg] X.env).map (·.2) = [assign tg X.env] := by rfl) : PS X (.Assign [tg] e pos) (semS G (asgS se g)) :=
  wkS (ps_asg he hg hs hw h1) fun D σ H ⟨r, F, env, m, o, e, R, E, q⟩ => by
    obtain ⟨⟨d1, m1⟩, e1, e⟩ := bind2 (γ := Unit) e
    obtain ⟨⟨env', m2⟩, e2, e3⟩ := Option.map_eq_some_iff.mp e
    cases e3
    refine ⟨r, F, env, m, d1, m1, e1, R, E, fun v r1 F1 H1 x1 R1 h1 => ?_⟩
    exact ⟨r1, F1, env, m1, d1, env', m2, e2, R1, E.ext x1, h1, fun σ2 r2 F2 H2 x2 R2 E2 P2 => q r2 F2 H2 ((x1.toO _).trans x2 fun _ z => .inl z) σ2 R2 E2 fun a z => (P2 a z).elim .inl fun w => .inr (x1.dom a w)⟩
end

/-! ### methods of lists -/
abbrev MD := D → List D → Mem → Option (D × Mem)
def rM (G : Cfg) (f : MD) : V → List V → Hp → VK → Prop := fun x xs H Q => ∃ (r : List Addr) (F : Hp) (m : Mem) (a : D) (as : List D) (d : D) (m' : Mem), f a as m = some (d, m') ∧ Rel G r F m H ∧ Dat G r F x a ∧ Dats G r F xs as ∧ PostE G r F H m' d Q
def methE (f : MD) (o : SE) (a : SA) : SE := fun env m => (o env m).bind fun p => (lstD p.2 p.1).bind fun _ => (a env p.2).bind fun q => f p.1 q.1 q.2
def meth0E (f : MD) (o : SE) : SE := fun env m => (o env m).bind fun p => (lstD p.2 p.1).bind fun _ => f p.1 [] p.2
def appendD : MD := fun o as m => match o, as with
  | .loc n, [y] => match m[n]? with
    | some (.lst xs) => if xs.length < 100000 then some (.non, m.set n (.lst (xs ++ [y]))) else none
    | _ => none
  | _, _ => none
def extendD : MD := fun o as m => match o, as with
  | .loc n, [y] => match m[n]? with
    | some (.lst xs) => (lstD m y).bind fun ys => if xs.length + ys.length < 100000 then some (.non, m.set n (.lst (xs ++ ys))) else none
    | _ => none
  | _, _ => none
def popD : MD := fun o as m => match o, as with
  | .loc n, [] => match m[n]? with
    | some (.lst xs) => xs[xs.length - 1]?.map fun y => (y, m.set n (.lst xs.dropLast))
    | _ => none
  | _, _ => none
section
variable {X : Cx} {G : Cfg} {pos apos : Pos} {a o : Expr} {es : List Expr} {so : SE} {sa : SA} {f : MD}
theorem m_append : MtR X "list.append" (rM G appendD) := by
  intro pins s σ H x xs v us Q I rx rs ⟨r, F, m, a, as, d, m', e, R, ha, hs, q⟩
  unfold appendD at e
  split at e
  · rename_i n y
    split at e
    · rename_i xs' hm
      split at e
      · rename_i hl
        cases e
        obtain ⟨w, rfl, hw⟩ := dats1 hs
        cases ha with
        | loc h1 =>
          obtain ⟨f1, vs, h2, h3⟩ := R.cell n _ _ h1 hm
          obtain ⟨R2, x2⟩ := R.set (o := .lst (vs ++ [w])) (c := .lst (xs' ++ [y])) h1 f1 ⟨f1, _, upd_same, h3.append (.cons hw .nil)⟩
          exact mt_append pins s σ H _ _ v us Q I rx rs ⟨_, vs, w, rfl, rfl, h2, by rw [h3.length, sizeLine_eq]; omega, q _ r F _ x2 R2 .non⟩
      · cases e
    · cases e
  · cases e
theorem m_extend : MtR X "list.extend" (rM G extendD) := by
  intro pins s σ H x xs v us Q I rx rs ⟨r, F, m, a, as, d, m', e, R, ha, hs, q⟩
  unfold extendD at e
  split at e
  · rename_i n y
    split at e
    · rename_i xs' hm
      obtain ⟨ys, e1, e⟩ := bind2 (γ := Unit) e
      split at e
      · rename_i hl
        cases e
        obtain ⟨w, rfl, hw⟩ := dats1 hs
        obtain ⟨b, ws, rfl, dy, hb⟩ := lst_of R hw e1
        cases ha with
        | loc h1 =>
          obtain ⟨f1, vs, h2, h3⟩ := R.cell n _ _ h1 hm
          obtain ⟨R2, x2⟩ := R.set (o := .lst (vs ++ ws)) (c := .lst (xs' ++ ys)) h1 f1 ⟨f1, _, upd_same, h3.append dy⟩
          exact mt_extend pins s σ H _ _ v us Q I rx rs ⟨_, b, vs, ws, rfl, rfl, h2, hb, by rw [h3.length, dy.length, sizeLine_eq]; omega, q _ r F _ x2 R2 .non⟩
      · cases e
    · cases e
  · cases e
theorem m_pop : MtR X "list.pop" (rM G popD) := by
  intro pins s σ H x xs v us Q I rx rs ⟨r, F, m, a, as, d, m', e, R, ha, hs, q⟩
  unfold popD at e
  split at e
  · rename_i n
    split at e
    · rename_i xs' hm
      obtain ⟨y, e1, e2⟩ := Option.map_eq_some_iff.mp e
      cases e2
      cases hs
      cases ha with
      | loc h1 =>
        obtain ⟨f1, vs, h2, h3⟩ := R.cell n _ _ h1 hm
        obtain ⟨R2, x2⟩ := R.set (o := .lst vs.dropLast) (c := .lst xs'.dropLast) h1 f1 ⟨f1, _, upd_same, h3.dropLast⟩
        obtain ⟨w, hw, dw⟩ := h3.get e1
        exact mt_pop pins s σ H _ _ v us Q I rx rs ⟨_, vs, w, rfl, rfl, h2, by rw [h3.length]; exact hw, q _ r F _ x2 R2 (dw.ext x2)⟩
    · cases e
  · cases e
theorem e_bm {name : Str} {id : String} (slot : Slot "list" name id) (hty : typeOf (.builtin id) = pure (.type "method_descriptor")) (hm : MtR X id (rM G f)) (ho : PE X o (semE G so)) (ha : PA X (a :: es) (semA G sa))
    (hbase : attributeBase o name X.env (eval o X.env) = eval o X.env := by rfl)
    (hfew : ((backTo pos (starEach (a :: es) X.env)).all (fun x => !x.1) && (backToKw pos (keywordEach [] X.env)).all (fun x => x.1.isSome)
      && decide ((a :: es).length + ([] : List Keyword).length + (if ([] : List Keyword).isEmpty then 0 else 1) < 30)) = true := by rfl)
    (hline : (apos.endLine == pos.line) = true := by rfl) (hs : starEach (a :: es) X.env = (false, eval a X.env) :: starEach es X.env := by rfl) (hplain : (backTo pos (starEach es X.env)).any (·.1) = false := by rfl) :
    PE X (.Call (.Attribute o name apos) (a :: es) [] pos) (semE G (methE f so sa)) :=
  wkE (pe_bm PySem.F.plainAttrs_list slot hty hm ho ha hbase hfew hline hs hplain) fun σ H Q ⟨r, F, env, m, d, m', e, R, E, q⟩ => by
    obtain ⟨⟨d1, m1⟩, e1, e⟩ := bind2 (γ := Unit) e
    obtain ⟨ys, e2, e⟩ := bind2 (γ := Unit) e
    obtain ⟨⟨d2, m2⟩, e3, e⟩ := bind2 (γ := Unit) e
    refine ⟨r, F, env, m, d1, m1, e1, R, E, fun v r1 F1 H1 x1 R1 h1 => ?_⟩
    obtain ⟨b, vs, rfl, dy, hb⟩ := lst_of R1 h1 e2
    refine ⟨.inl ⟨rfl, vs, SqL.of hb⟩, r1, F1, env, m1, d2, m2, e3, R1, E.ext x1, fun vs r2 F2 H2 x2 R2 h2 => ?_⟩
    exact ⟨r2, F2, m2, d1, d2, d, m', e, R2, h1.ext x2, h2, (q.ext x1).ext x2⟩
theorem e_bm0 {name : Str} {id : String} (slot : Slot "list" name id) (hty : typeOf (.builtin id) = pure (.type "method_descriptor")) (hm : MtR X id (rM G f)) (ho : PE X o (semE G so))
    (hbase : attributeBase o name X.env (eval o X.env) = eval o X.env := by rfl) (hline : (apos.endLine == pos.line) = true := by rfl) : PE X (.Call (.Attribute o name apos) [] [] pos) (semE G (meth0E f so)) :=
  wkE (pe_bm0 PySem.F.plainAttrs_list slot hty hm ho hbase hline) fun σ H Q ⟨r, F, env, m, d, m', e, R, E, q⟩ => by
    obtain ⟨⟨d1, m1⟩, e1, e⟩ := bind2 (γ := Unit) e
    obtain ⟨ys, e2, e⟩ := bind2 (γ := Unit) e
    refine ⟨r, F, env, m, d1, m1, e1, R, E, fun v r1 F1 H1 x1 R1 h1 => ?_⟩
    obtain ⟨b, vs, rfl, dy, hb⟩ := lst_of R1 h1 e2
    exact ⟨.inl ⟨rfl, vs, SqL.of hb⟩, r1, F1, m1, d1, [], d, m', e, R1, h1, .nil, q.ext x1⟩
end
end Kb

set_option Elab.async false
set_option linter.all false
set_option maxRecDepth 100000
set_option maxHeartbeats 4000000
set_option autoImplicit false
/-! KcK: defs, calls. -/
namespace Kb
open PySem PySem.Spec PyProof.Rows L2

abbrev Fs := List D → Mem → Option (D × Mem)
/-- a def keeps this: called in a state that fits the data, it ends as fs says -/
structure FnG (P : Program) (w : World) (K : PySem.W.Frag) (mg : Str → Option Value) (base : Heap) (CX : CXT) (G : Cfg) (k : Nat) (f : Addr) (fd : FuncData) (ps : List Str) (fs : Fs) : Prop where
  run : ∀ (A : Around) (outer : List Env) (s : Shared) (H : Hp) (args : Args) (us : List Value) (vs : List V) (Q : VK) (E : XK), Room k A → A.guards = some [] → Env0 P w K mg base A outer s H →
    (us.length = ps.length → BindsTo s fd args (ps.zip us)) → Vals vs us → rC G fs vs H Q → codeAny (model P w) A (.call (.ref f) args) (CR CX outer P w H s Q E) s

/-- what a def lets out: a value that names no thing of its own -/
def outV (n : Nat) (d : D) (m : Mem) : Option (D × Mem) :=
  if (m.take n).all (belowC n) = true then
    match d with
    | .loc k => if k < n then some (.loc k, m.take n) else match m[k]? with
      | some (.lst xs) => if belows n xs = true then some (.lst xs, m.take n) else none
      | some (.frz xs) => if belows n xs = true then some (.lst xs, m.take n) else none
      | _ => none
    | d => if below n d = true then some (d, m.take n) else none
  else none
/-- the same, but a list of its own goes on to be a thing of the store -/
def outL (n : Nat) (d : D) (m : Mem) : Option (D × Mem) := some (d, m)
def OutOk (G : Cfg) (out : Nat → D → Mem → Option (D × Mem)) : Prop := ∀ {r r' : List Addr} {F F' H H' : Hp} {m m' : Mem} {d d' : D} {v : V} {Q : VK}, Ext r r' F F' H H' → Rel G r' F' m H' → Dat G r' F' v d → out r.length d m = some (d', m') →
  PostE G r F H m' d' Q → Q v H'
theorem outL_ok {G : Cfg} : OutOk G outL := fun {_ _ _ _ _ _ _ _ _ _ v _} x R h e q => by
  cases e
  exact q v _ _ _ x R h
/-- the same for a def that leaves no thing of its own in the store -/
def outP (n : Nat) (d : D) (m : Mem) : Option (D × Mem) := if m.length = n then some (d, m) else none
theorem outP_ok {G : Cfg} : OutOk G outP := fun {r r' _ _ _ _ _ _ _ _ v _} x R h e q => by
  unfold outP at e
  split at e
  · rename_i hl
    cases e
    have er : r = r' := x.pre.eq_of_length (by rw [R.len, hl])
    subst er
    exact q v _ _ _ x R h
  · cases e
theorem outV_ok {G : Cfg} : OutOk G outV := fun {r r' F F' H H' m m' d d' v Q} x R h e q => by
  unfold outV at e
  split at e
  · rename_i hb
    have R2 := R.cut x.pre hb
    have plain : ∀ d0 : D, (if below r.length d0 = true then some (d0, m.take r.length) else none) = some (d', m') → Dat G r' F' v d0 → Q v H' := fun d0 e h => by
      split at e
      · rename_i hd
        cases e
        exact q v r F' H' x.cut R2 (h.down x.pre hd)
      · cases e
    have fz : ∀ (k : Nat) (a : Addr) (xs : List D), r'[k]? = some a → ¬ k < r.length → cellL m[k]? = some xs → belows r.length xs = true → PostE G r F H (m.take r.length) (.lst xs) Q → Q (.ref a) H' := by
      intro k a xs ha hk hc hx q
      have na : a ∉ r := fun z => by
        obtain ⟨i, hi, e⟩ := List.mem_iff_getElem.mp z
        have h1 : r'[i]? = some a := loc_up x.pre (by rw [List.getElem?_eq_getElem hi, e])
        have := nodup_at R.inj h1 ha
        omega
      have nH : H a = none := (x.new a (List.mem_of_getElem? ha)).resolve_left na
      cases hm : m[k]? with
      | none => rw [hm] at hc; cases hc
      | some c =>
        have hcl := R.cell k a c ha hm
        rw [hm] at hc
        cases c with
        | lst ys =>
          cases hc
          obtain ⟨f1, vs, h2, h3⟩ := hcl
          refine q (.ref a) r (upd F' a (.lst vs)) H' (x.cut.adopt nH f1) (R2.adopt f1 na h2) (.lst upd_same ?_)
          exact (h3.down x.pre hx).up (List.prefix_refl _) fun b u z => by rw [upd_ne (ne_of_none z f1)]; exact z
        | frz ys =>
          cases hc
          obtain ⟨vs, h2, h3⟩ := hcl
          exact q (.ref a) r F' H' x.cut R2 (.lst h2 (h3.down x.pre hx))
        | ins _ _ => cases hc
    split at e
    · rename_i k
      split at e
      · rename_i hk
        cases e
        exact q v r F' H' x.cut R2 (h.down x.pre (decide_eq_true hk))
      · rename_i hk
        cases h with
        | loc ha =>
          split at e
          · rename_i xs hm
            split at e
            · rename_i hx
              cases e
              exact fz k _ xs ha hk (by rw [hm]; rfl) hx q
            · cases e
          · rename_i xs hm
            split at e
            · rename_i hx
              cases e
              exact fz k _ xs ha hk (by rw [hm]; rfl) hx q
            · cases e
          · cases e
    · exact plain _ e h
  · cases e

/-- a body, run from the parameters' values: n names -/
def runB (out : Nat → D → Mem → Option (D × Mem)) (n a : Nat) (b : SS) : Fs := fun ds m => if ds.length = a then (b (ds.map some ++ List.replicate (n - a) none) m).bind fun o => match o with
  | .rt d m' => if isOwn d then none else out m.length d m'
  | .nx _ m' => out m.length .non m'
  | _ => none
  else none

/-- where a body is run -/
structure Ctx (X : Cx) (G : Cfg) (k : Nat) : Prop where
  hK : G.K = X.K
  calm : X.calm = true
  room : Room k X.A
  gua : X.A.guards = some []
theorem Ctx.hu65 {X : Cx} {G : Cfg} {k : Nat} (c : Ctx X G k) : X.A.units + 65 < cLine := by have := c.room.un; omega
theorem Ctx.hu {X : Cx} {G : Cfg} {k : Nat} (c : Ctx X G k) : X.A.units + 64 < cLine := c.room.units
theorem Ctx.lower {X : Cx} {G : Cfg} {j k : Nat} (c : Ctx X G k) (h : j ≤ k) : Ctx X G j := ⟨c.hK, c.calm, c.room.mono h, c.gua⟩
theorem env_start {G : Cfg} {r : List Addr} {F H : Hp} {N : List Str} {vs : List V} {ds : List D} (h : Dats G r F vs ds) : EnvR G r F H (L2.start N vs) (ds.map some ++ List.replicate (N.length - ds.length) none) ∧
    ∀ a, ¬ OwnS (L2.start N vs) (ds.map some ++ List.replicate (N.length - ds.length) none) a := by
  have key : ∀ (i : Nat) (d : D), (ds.map some ++ List.replicate (N.length - ds.length) none)[i]? = some (some d) → ∃ v, (L2.start N vs)[i]? = some (some v) ∧ Dat G r F v d := by
    intro i d hi
    unfold L2.start
    rw [h.length]
    by_cases hl : i < ds.length
    · rw [List.getElem?_append_left (by rw [List.length_map]; exact hl), List.getElem?_map] at hi
      cases e : ds[i]? with
      | none => rw [e] at hi; cases hi
      | some d0 =>
        rw [e] at hi
        cases hi
        obtain ⟨v, h1, h2⟩ := h.get e
        refine ⟨v, ?_, h2⟩
        rw [List.getElem?_append_left (by rw [List.length_map, h.length]; exact hl), List.getElem?_map, h1]
        rfl
    · rw [List.getElem?_append_right (by rw [List.length_map]; omega), List.getElem?_replicate] at hi
      split at hi <;> cases hi
  have no : ∀ (i : Nat) (d : D), (ds.map some ++ List.replicate (N.length - ds.length) none)[i]? = some (some d) → isOwn d = true → False := fun i d hi io => by
    obtain ⟨v, _, h2⟩ := key i d hi
    rw [h2.notOwn] at io
    cases io
  refine ⟨⟨?_, fun i d hi _ => key i d hi, fun i d hi io => (no i d hi io).elim, fun i j d e a h1 _ i1 _ _ _ => (no i d h1 i1).elim⟩, fun a ⟨i, d, hi, io, _⟩ => no i d hi io⟩
  unfold L2.start
  rw [h.length, List.length_append, List.length_append, List.length_map, List.length_map, h.length, List.length_replicate, List.length_replicate]
section
variable {P : Program} {w : World} {K : PySem.W.Frag} {mg : Str → Option Value} {base : Heap} {G : Cfg} {k : Nat} {f : Addr} {fd : FuncData} {N ps : List Str} {x qual : Str} {st : Stmt} {b : SS} {out : Nat → D → Mem → Option (D × Mem)}
abbrev BX (P : Program) (w : World) (K : PySem.W.Frag) (mg : Str → Option Value) (base : Heap) (N : List Str) (qual : Str) (st : Stmt) (f : Addr) (cdv : Value) (A : Around) (outer : List Env) (s : Shared) (H : Hp) (E : XK) : Cx := (cxOf CX0 P w K mg base N qual (defScope st) f cdv A outer s H E).nox
/-- THE RULE for a def, whatever is asked of it -/
theorem body_x (hG : G.K = K) (sp : List V → Hp → VK → Prop) (hz : ∀ (vs : List V) (H : Hp) (Q : VK), sp vs H Q → vs.length = ps.length ∧ semS G b { nx := fun _ H' => Q .non H', rt := Q } (L2.start N vs) H) (T : Fun K x qual st f fd) (S : FnScope N ps (defScope st))
    (hb : ∀ (cdv : Value) (A : Around) (outer : List Env) (s : Shared) (H : Hp) (E : XK), Ctx (BX P w K mg base N qual st f cdv A outer s H E) G k → PSs (BX P w K mg base N qual st f cdv A outer s H E) (defBody st) (semS G b)) :
    ∀ (A : Around) (outer : List Env) (s : Shared) (H : Hp) (args : Args) (us : List Value) (vs : List V) (Q : VK) (E : XK), Room (k + 1) A → A.guards = some [] → Env0 P w K mg base A outer s H →
    (us.length = ps.length → BindsTo s fd args (ps.zip us)) → Vals vs us → sp vs H Q → codeAny (model P w) A (.call (.ref f) args) (CR CX0 outer P w H s Q E) s := by
  obtain ⟨oc, od, kV, doc, pm, an, cdv, ct, osl, rfl, lk, hcd⟩ := T.ex
  intro A outer s H args us vs Q E hr hgu e0 hbi hv hsp
  obtain ⟨hvl, start_ok⟩ := hz vs H Q hsp
  have hbi2 := hbi (hv.length.symm.trans hvl)
  have KX : K.In s.heap := e0.mod.kin.keeps fun a u z => (e0.bs a u z).1
  have lim : s.heap.NoLimit := e0.mod.nolimit.keeps fun a u z => (e0.bs a u z).1
  have kinds : ∀ y ∈ ps.zip us, (defScope st).names.lookup y.1 = some .local ∨ ((defScope st).names.lookup y.1 = some .cell ∧ ((cellsFrom (s.heap.objs.size + 1) (defScope st).names []).lookup y.1).isSome = true) := by
    rintro ⟨n, u⟩ hy
    exact (S.par n (List.of_mem_zip hy).1).imp id fun z => ⟨z, PySem.W.cellsFrom_some _ _ _ (.inl z)⟩
  refine codeAny_call_function hr.depth (KX _ _ lk) rfl S.co S.gen rfl (PySem.W.codeRec_of KX hcd) (hbi2 _ _ _ _ ?_)
  refine wpAny_newFunctionEnv_cells S.kind kinds fun env he s1 xx => ?_
  subst he
  refine ⟨lim.keeps xx.toInCall.keep, codeAny_func ?_⟩
  have I : Inv (cxOf CX0 P w K mg base N qual (defScope st) f cdv A outer s H E) [] (L2.start N vs) H s1 := inv_start S hr.hd e0 hvl hv xx
  have body := (hb cdv A outer s H E ⟨hG, rfl, hr.deeper _, hgu⟩).nox
  have fin : ∀ (s' : Shared) (σ' : L2.St) (H' : Hp) (v : V) (u : Value), Inv (cxOf CX0 P w K mg base N qual (defScope st) f cdv A outer s H E) [] σ' H' s' → RelV v u → Q v H' → CE outer P w H s Q u s' :=
    fun s' σ' H' v u J rv z => ⟨v, H', J.os, J.bare, J.base, J.hok, rv, z⟩
  refine wpAny_mono (body.run [] s1 (L2.start N vs) H _ I start_ok) (fun fl s' hs => ?_) fun e s' hs => hs
  cases fl with
  | ret u => exact match hs with | ⟨v, σ', H', J, rv, z⟩ => fin s' σ' H' v u J rv z
  | next => exact match hs with | ⟨σ', H', J, z⟩ => fin s' σ' H' V.non Value.none J rfl z
  | brk => exact match hs with | ⟨_, _, _, z⟩ => False.elim z
  | cont => exact match hs with | ⟨_, _, _, z⟩ => False.elim z
/-- THE RULE for a def -/
theorem fn_body (hG : G.K = K) (ho : OutOk G out) (T : Fun K x qual st f fd) (S : FnScope N ps (defScope st))
    (hb : ∀ (cdv : Value) (A : Around) (outer : List Env) (s : Shared) (H : Hp) (E : XK), Ctx (BX P w K mg base N qual st f cdv A outer s H E) G k → PSs (BX P w K mg base N qual st f cdv A outer s H E) (defBody st) (semS G b)) :
    FnG P w K mg base CX0 G (k + 1) f fd ps (runB out N.length ps.length b) := ⟨body_x hG _ (fun vs H Q ⟨r, F, m, ds, d, m', e, R, hd, q⟩ => by
  unfold runB at e
  split at e
  case isFalse => cases e
  rename_i hlen
  obtain ⟨o, e1, e2⟩ := bind2 (γ := Unit) e
  refine ⟨hd.length.trans hlen, ?_⟩
  have st := env_start (H := H) (N := N) hd
  rw [hlen] at st
  refine ⟨r, F, _, m, o, e1, R, st.1, fun r1 F1 H1 x1 => ?_⟩
  have x1 := x1.toE st.2
  cases o with
  | nx env1 m1 =>
    have e3 : out m.length .non m1 = some (d, m') := e2
    rw [← R.len] at e3
    exact fun σ R1 _ _ => ho x1 R1 .non e3 q
  | rt d1 m1 =>
    have e3 : (if isOwn d1 then none else out m.length d1 m1) = some (d, m') := e2
    split at e3
    · cases e3
    · rename_i ne
      rw [← R.len] at e3
      exact fun v R1 h1 => ho x1 R1 (h1.toD (by simpa using ne)) e3 q
  | bk env1 m1 => cases e2
  | ct env1 m1 => cases e2) T S hb⟩
/-- a def that hands back a new list, held by no one -/
abbrev Fl := List D → Mem → Option (List D × Mem)
def rN (G : Cfg) (fs : Fl) : List V → Hp → VK → Prop := fun xs H Q => ∃ (r : List Addr) (F : Hp) (m : Mem) (as ds : List D) (m' : Mem), fs as m = some (ds, m') ∧ Rel G r F m H ∧ Dats G r F xs as ∧
  ∀ (a : Addr) (vs : List V) (r' : List Addr) (F' H' : Hp), Ext r r' F F' H H' → Rel G r' F' m' H' → H' a = some (.lst vs) → a ∉ r' → F' a = none → H a = none → Dats G r' F' vs ds → Q (.ref a) H'
structure FnN (P : Program) (w : World) (K : PySem.W.Frag) (mg : Str → Option Value) (base : Heap) (CX : CXT) (G : Cfg) (k : Nat) (f : Addr) (fd : FuncData) (ps : List Str) (fs : Fl) : Prop where
  run : ∀ (A : Around) (outer : List Env) (s : Shared) (H : Hp) (args : Args) (us : List Value) (vs : List V) (Q : VK) (E : XK), Room k A → A.guards = some [] → Env0 P w K mg base A outer s H →
    (us.length = ps.length → BindsTo s fd args (ps.zip us)) → Vals vs us → rN G fs vs H Q → codeAny (model P w) A (.call (.ref f) args) (CR CX outer P w H s Q E) s
def runN (n a : Nat) (b : SS) : Fl := fun ds m => if ds.length = a then (b (ds.map some ++ List.replicate (n - a) none) m).bind fun o => match o with
  | .rt (.own xs) m' => if m'.length = m.length then some (xs, m') else none
  | _ => none
  else none
theorem fn_bodyN (hG : G.K = K) (T : Fun K x qual st f fd) (S : FnScope N ps (defScope st))
    (hb : ∀ (cdv : Value) (A : Around) (outer : List Env) (s : Shared) (H : Hp) (E : XK), Ctx (BX P w K mg base N qual st f cdv A outer s H E) G k → PSs (BX P w K mg base N qual st f cdv A outer s H E) (defBody st) (semS G b)) :
    FnN P w K mg base CX0 G (k + 1) f fd ps (runN N.length ps.length b) := ⟨body_x hG _ (fun vs H Q ⟨r, F, m, as, ds, m', e, R, hd, q⟩ => by
  unfold runN at e
  split at e
  case isFalse => cases e
  rename_i hlen
  obtain ⟨o, e1, e2⟩ := bind2 (γ := Unit) e
  refine ⟨hd.length.trans hlen, ?_⟩
  have st := env_start (H := H) (N := N) hd
  rw [hlen] at st
  refine ⟨r, F, _, m, o, e1, R, st.1, fun r1 F1 H1 x1 => ?_⟩
  have x2 := x1.toE st.2
  split at e2
  · rename_i xs m1
    split at e2
    · rename_i hl
      cases e2
      refine fun v R1 h1 => ?_
      obtain ⟨a, rfl, na, fa, pa, vs2, h2, h3⟩ := h1
      exact q a vs2 r1 F1 H1 x2 R1 h2 na fa (pa.elim (fun z => (st.2 a z).elim) fun z => z) h3
    · cases e2
  · cases e2) T S hb⟩
theorem FnG.mono {CX : CXT} {fs : Fs} {j : Nat} (T : FnG P w K mg base CX G j f fd ps fs) (h : j ≤ k) : FnG P w K mg base CX G k f fd ps fs :=
  ⟨fun A outer s H args us vs Q E hr => T.run A outer s H args us vs Q E (hr.mono h)⟩
end

/-! ### calls -/
section
variable {X : Cx} {G : Cfg} {CX : CXT} {k : Nat} {f C : Addr} {fd : FuncData} {ps : List Str} {fs : Fs} {E : XK} {x m : Str} {p pos apos : Pos} {e o : Expr} {es : List Expr} {sa : SA} {so : SE}
theorem run_g {pins : List (Addr × Obj)} {σ : L2.St} {H : Hp} {s : Shared} {Q : VK} {us us2 : List Value} {kw : List (Str × Value)} {vs : List V} (T : FnG X.prog X.w X.K X.mg X.base CX0 G k f fd ps fs) (hr : Room k X.A) (hg : X.A.guards = some [])
    (hb : us2.length = ps.length → BindsTo s fd ⟨us, kw⟩ (ps.zip us2)) (I : Inv X pins σ H s) (r : Vals vs us2) (h : rC G fs vs H Q) : wpAny (model X.prog X.w) X.A (call (.ref f) us kw) (EP X pins σ Q) X.xe s := by
  refine wpAny_call (codeAny_mono (T.run X.A X.stack s H ⟨us, kw⟩ us2 vs Q E0 hr hg I.env0 hb r h) fun o s' hq => ?_)
  match o, hq with
  | .ok (.ret u), hq => exact I.after hq
  | .ok .next, hq => exact False.elim hq
  | .ok .brk, hq => exact False.elim hq
  | .ok .cont, hq => exact False.elim hq
  | .error _, hq => exact False.elim hq
theorem run_n {pins : List (Addr × Obj)} {σ : L2.St} {H : Hp} {s : Shared} {Q : VK} {us us2 : List Value} {kw : List (Str × Value)} {vs : List V} {fl : Fl} (T : FnN X.prog X.w X.K X.mg X.base CX0 G k f fd ps fl) (hr : Room k X.A) (hg : X.A.guards = some [])
    (hb : us2.length = ps.length → BindsTo s fd ⟨us, kw⟩ (ps.zip us2)) (I : Inv X pins σ H s) (r : Vals vs us2) (h : rN G fl vs H Q) : wpAny (model X.prog X.w) X.A (call (.ref f) us kw) (EP X pins σ Q) X.xe s := by
  refine wpAny_call (codeAny_mono (T.run X.A X.stack s H ⟨us, kw⟩ us2 vs Q E0 hr hg I.env0 hb r h) fun o s' hq => ?_)
  match o, hq with
  | .ok (.ret u), hq => exact I.after hq
  | .ok .next, hq => exact False.elim hq
  | .ok .brk, hq => exact False.elim hq
  | .ok .cont, hq => exact False.elim hq
  | .error _, hq => exact False.elim hq
/-- f(e, ..) -/
theorem e_call (c : Ctx X G k) (T : FnG X.prog X.w X.K X.mg X.base CX0 G k f fd ps fs) (hk : PySem.W.keepIn X.K (.ref f) = true) (hb : Binds X.K fd ps []) (hgl : Gl X x) (hm : X.mg x = some (.ref f)) (ha : PA X (e :: es) (semA G sa))
    (hdb : (x == ("__debug__" : Str)) = false := by decide) (he : starEach (e :: es) X.env = (false, eval e X.env) :: starEach es X.env := by rfl) (hpl : (backTo pos (starEach es X.env)).any (·.1) = false := by rfl) :
    PE X (.Call (.Name x p) (e :: es) [] pos) (semE G (app fs sa)) :=
  ⟨fun pins s σ H Q I h => by
    refine wpAny_Call_Name_kw (ld_glob I hgl hm ?_ hdb)
    refine PySem.W.callWith_K (h₀ := X.base) I.ok.mod.kin hk (thn (ha.run pos pins s σ H _ I (app_ok h)) fun us s1 ⟨vs, H1, I1, rv, q⟩ => ⟨I1.kIn, ?_⟩) he hpl
    exact run_g (us2 := us) T c.room c.gua (fun hl => by have z := hb s1 us I1.kIn (by rw [List.append_nil]; exact hl); rwa [List.append_nil] at z) I1 rv q⟩
/-- f() -/
theorem e_call0 (c : Ctx X G k) (T : FnG X.prog X.w X.K X.mg X.base CX0 G k f fd ps fs) (hk : PySem.W.keepIn X.K (.ref f) = true) (hb : Binds X.K fd ps []) (hgl : Gl X x) (hm : X.mg x = some (.ref f))
    (hdb : (x == ("__debug__" : Str)) = false := by decide) : PE X (.Call (.Name x p) [] [] pos) (semE G (app fs argN)) :=
  ⟨fun pins s σ H Q I h => by
    refine wpAny_Call_Name_kw (ld_glob I hgl hm ?_ hdb)
    obtain ⟨r, F, env, m, d, m', e, R, E, q⟩ := h
    obtain ⟨⟨d1, m1⟩, e1, e⟩ := bind2 (γ := Unit) e
    cases e1
    exact PySem.W.callWith_K0 I.kIn hk (run_g (us2 := []) T c.room c.gua (fun hl => by have z := hb s [] I.kIn (by rw [List.append_nil]; exact hl); rwa [List.append_nil] at z) I .nil ⟨r, F, m, [], d, m', e, R, .nil, q⟩)⟩
end
end Kb

set_option Elab.async false
set_option linter.all false
set_option maxRecDepth 100000
set_option maxHeartbeats 4000000
set_option autoImplicit false
/-! KcL: keywords, instances: made, read, written, their methods. -/
namespace Kb
open PySem PySem.Spec PyProof.Rows L2

/-! ### arguments put in the parameters' order -/
def pick {α : Type} (is : List Nat) (xs : List α) : List α := is.filterMap fun i => xs[i]?
theorem vals_pick {vs : List V} {us : List Value} (h : Vals vs us) : ∀ is : List Nat, Vals (Kb.pick is vs) (Kb.pick is us)
  | [] => .nil
  | i :: is => by
    unfold Kb.pick
    rw [List.filterMap_cons, List.filterMap_cons]
    cases e : vs[i]? with
    | none =>
      have e2 : us[i]? = none := by
        rw [List.getElem?_eq_none_iff] at e ⊢
        rw [← h.length]
        exact e
      rw [e2]
      exact vals_pick h is
    | some v =>
      obtain ⟨u, h1, h2⟩ := h.get e
      rw [h1]
      exact .cons h2 (vals_pick h is)
theorem Dats.pick {G : Cfg} {r : List Addr} {F : Hp} {vs : List V} {ds : List D} (h : Dats G r F vs ds) : ∀ is : List Nat, Dats G r F (Kb.pick is vs) (Kb.pick is ds)
  | [] => .nil
  | i :: is => by
    unfold Kb.pick
    rw [List.filterMap_cons, List.filterMap_cons]
    cases e : ds[i]? with
    | none =>
      have e2 : vs[i]? = none := by
        rw [List.getElem?_eq_none_iff] at e ⊢
        rw [h.length]
        exact e
      rw [e2]
      exact h.pick is
    | some v =>
      obtain ⟨u, h1, h2⟩ := h.get e
      rw [h1]
      exact .cons h2 (h.pick is)
/-- n values by place, the others by name -/
structure KwB (K : PySem.W.Frag) (fd : FuncData) (ps : List Str) (n : Nat) (ks : List Str) (is : List Nat) : Prop where
  to : ∀ (s : Shared) (us ws : List Value), K.In s.heap → us.length = n → ws.length = ks.length → BindsTo s fd ⟨us, ks.zip ws⟩ (ps.zip (pick is (us ++ ws)))
theorem kwb_mk {K : PySem.W.Frag} {x qual : Str} {st : Stmt} {f : Addr} {fd : FuncData} {ps : List Str} {n : Nat} {ks : List Str} {is : List Nat} (T : Fun K x qual st f fd)
    (h : ∀ (kV doc pm : Value) (an : Option Addr) (cdv ct : Value) (us ws : List Value), us.length = n → ws.length = ks.length →
      bindArgs (PySem.W.fnOf x qual (defArgs st) (defBody st) (defScope st) .none kV doc pm an cdv ct) ⟨us, ks.zip ws⟩ = pure (ps.zip (pick is (us ++ ws)))) : KwB K fd ps n ks is := by
  obtain ⟨oc, od, kV, doc, pm, an, cdv, ct, osl, rfl, lk, hcd⟩ := T.ex
  exact ⟨fun s us ws _ l1 l2 => .of_eq (h kV doc pm an cdv ct us ws l1 l2)⟩

/-- the values of the keywords -/
structure PKs (X : Cx) (kws : List Keyword) (t : TA) : Prop where
  ok : PK X kws t
def appK (n m : Nat) (is : List Nat) (f : Fs) (a b : SA) : SE := fun env s => (a env s).bind fun p => (b env p.2).bind fun q => if p.1.length = n ∧ q.1.length = m then f (pick is (p.1 ++ q.1)) q.2 else none

section
variable {X : Cx} {G : Cfg} {k n : Nat} {f C : Addr} {fd : FuncData} {ps ks : List Str} {is : List Nat} {fs : Fs} {x : Str} {p pos kpos : Pos} {e : Expr} {es : List Expr} {kws : List Keyword} {sa sb : SA} {se : SE} {nm : Option Str}
theorem wkK {t t' : TA} (h : PK X kws t) (i : ∀ σ H Q, t' σ H Q → t σ H Q) : PK X kws t' := ⟨fun p pins s σ H Q I q => h.run p pins s σ H Q I (i σ H Q q)⟩
theorem k_nil : PK X [] (semA G argN) := wkK pk_nil fun σ H Q ⟨r, F, env, m, d, m', e, R, E, q⟩ => by
  cases e
  exact q [] r F H .refl R .nil
theorem k_cons (ha : PE X e (semE G se)) (hr : PK X kws (semA G sb)) : PK X (⟨nm, e, kpos⟩ :: kws) (semA G (argC se sb)) :=
  wkK (pk_cons ha hr) fun σ H Q ⟨r, F, env, m, d, m', e, R, E, q⟩ => by
    obtain ⟨⟨d1, m1⟩, e1, e⟩ := bind2 (γ := Unit) e
    obtain ⟨⟨d2, m2⟩, e2, e⟩ := bind2 (γ := Unit) e
    cases e
    refine ⟨r, F, env, m, d1, m1, e1, R, E, fun v r1 F1 H1 x1 R1 h1 => ?_⟩
    refine ⟨r1, F1, env, m1, d2, m2, e2, R1, E.ext x1, fun v2 r2 F2 H2 x2 R2 h2 => ?_⟩
    exact q _ r2 F2 H2 (x1.trans x2) R2 (.cons (h1.ext x2) h2)
/-- the values of a call with keywords, and what is done with them -/
theorem appK_ok {m : Nat} {σ : L2.St} {H : Hp} {Q : VK} (h : semE G (appK n m is fs sa sb) σ H Q) : semA G sa σ H fun vs H1 => semA G sb σ H1 fun zs H2 => vs.length = n ∧ zs.length = m ∧ rC G fs (pick is (vs ++ zs)) H2 Q := by
  obtain ⟨r, F, env, s, d, s', e, R, E, q⟩ := h
  obtain ⟨⟨d1, m1⟩, e1, e⟩ := bind2 (γ := Unit) e
  obtain ⟨⟨d2, m2⟩, e2, e⟩ := bind2 (γ := Unit) e
  refine ⟨r, F, env, s, d1, m1, e1, R, E, fun vs r1 F1 H1 x1 R1 h1 => ?_⟩
  refine ⟨r1, F1, env, m1, d2, m2, e2, R1, E.ext x1, fun zs r2 F2 H2 x2 R2 h2 => ?_⟩
  split at e
  · rename_i hl
    exact ⟨h1.length.trans hl.1, h2.length.trans hl.2, r2, F2, m2, _, d, s', e, R2, ((h1.ext x2).append h2).pick is, (q.ext x1).ext x2⟩
  · cases e
/-- f(e, .., k = v, ..) -/
theorem e_callK (c : Ctx X G k) (T : FnG X.prog X.w X.K X.mg X.base CX0 G k f fd ps fs) (hk : PySem.W.keepIn X.K (.ref f) = true) (hb : KwB X.K fd ps n ks is) (hgl : Gl X x) (hm : X.mg x = some (.ref f)) (ha : PA X (e :: es) (semA G sa)) (hkw : PK X kws (semA G sb))
    (hall : (backToKw pos (keywordEach kws X.env)).all (·.1.isSome) = true := by rfl) (hks : (backToKw pos (keywordEach kws X.env)).filterMap (·.1) = ks := by rfl)
    (hdb : (x == ("__debug__" : Str)) = false := by decide) (he : starEach (e :: es) X.env = (false, eval e X.env) :: starEach es X.env := by rfl)
    (hpl : ((backTo pos (starEach (e :: es) X.env)).any (·.1) || (backToKw pos (keywordEach kws X.env)).any (·.1.isNone)) = false := by rfl) :
    PE X (.Call (.Name x p) (e :: es) kws pos) (semE G (appK n ks.length is fs sa sb)) :=
  ⟨fun pins s σ H Q I h => by
    refine wpAny_Call_Name_kw (ld_glob I hgl hm ?_ hdb)
    refine PySem.W.callWith_KW (h₀ := X.base) I.ok.mod.kin hk hall (thn (ha.run pos pins s σ H _ I (appK_ok h)) fun us s1 ⟨vs, H1, I1, rv, q⟩ => ?_) hpl he
    refine thn (hkw.run pos pins s1 σ H1 _ I1 q) fun ws s2 ⟨zs, H2, I2, rz, l1, l2, q2⟩ => ⟨I2.kIn, ?_⟩
    rw [hks]
    exact run_g T c.room c.gua (fun _ => hb.to s2 us ws I2.kIn (rv.length.symm.trans l1) (rz.length.symm.trans l2)) I2 (vals_pick (rv.append rz) is) q2⟩
/-- f(k = v, ..) -/
theorem e_callK0 (c : Ctx X G k) (T : FnG X.prog X.w X.K X.mg X.base CX0 G k f fd ps fs) (hk : PySem.W.keepIn X.K (.ref f) = true) (hb : KwB X.K fd ps 0 ks is) (hgl : Gl X x) (hm : X.mg x = some (.ref f)) (hkw : PK X kws (semA G sb))
    (hall : (backToKw pos (keywordEach kws X.env)).all (·.1.isSome) = true := by rfl) (hks : (backToKw pos (keywordEach kws X.env)).filterMap (·.1) = ks := by rfl)
    (hdb : (x == ("__debug__" : Str)) = false := by decide) (hpl : ((backTo pos (starEach [] X.env)).any (·.1) || (backToKw pos (keywordEach kws X.env)).any (·.1.isNone)) = false := by rfl) :
    PE X (.Call (.Name x p) [] kws pos) (semE G (appK 0 ks.length is fs argN sb)) :=
  ⟨fun pins s σ H Q I h => by
    refine wpAny_Call_Name_kw (ld_glob I hgl hm ?_ hdb)
    obtain ⟨r, F, env, m, d, m', e, R, E, q⟩ := h
    obtain ⟨⟨d1, m1⟩, e1, e⟩ := bind2 (γ := Unit) e
    cases e1
    obtain ⟨⟨d2, m2⟩, e2, e⟩ := bind2 (γ := Unit) e
    have step : semA G sb σ H fun zs H2 => zs.length = ks.length ∧ rC G fs (pick is zs) H2 Q := by
      refine ⟨r, F, env, m, d2, m2, e2, R, E, fun zs r2 F2 H2 x2 R2 h2 => ?_⟩
      split at e
      · rename_i hl
        exact ⟨h2.length.trans hl.2, r2, F2, m2, _, d, m', e, R2, h2.pick is, q.ext x2⟩
      · cases e
    refine PySem.W.callWith_KW0 (h₀ := X.base) I.ok.mod.kin hk hall (thn (hkw.run pos pins s σ H _ I step) fun ws s2 ⟨zs, H2, I2, rz, l2, q2⟩ => ⟨I2.kIn, ?_⟩) hpl
    rw [hks]
    exact run_g T c.room c.gua (fun _ => hb.to s2 [] ws I2.kIn rfl (rz.length.symm.trans l2)) I2 (vals_pick rz is) q2⟩
end

/-! ### instances -/
/-- class and attributes of an instance -/
def insD (m : Mem) : D → Option (Nat × List D)
  | .obj c xs => some (c, xs)
  | .loc n => match m[n]? with
    | some (.ins c xs) => some (c, xs)
    | _ => none
  | _ => none
theorem ins_of {G : Cfg} {r : List Addr} {F H : Hp} {m : Mem} {v : V} {d : D} {c : Nat} {xs : List D} (R : Rel G r F m H) (h : Dat G r F v d) (e : insD m d = some (c, xs)) :
    ∃ a dx vs, v = .ref a ∧ H a = some (.ins (G.cls c) dx ((G.fld c).zip vs)) ∧ Dats G r F vs xs := by
  cases h with
  | obj h1 h2 h3 =>
    cases e
    exact ⟨_, _, _, rfl, R.sub _ _ h1, h3⟩
  | loc h1 =>
    rename_i a n
    have e' : (match m[n]? with | some (.ins c xs) => some (c, xs) | _ => none) = some (c, xs) := e
    split at e'
    · rename_i c0 ys hm
      cases e'
      obtain ⟨_, dx, vs, h2, _, h4⟩ := R.cell n a _ h1 hm
      exact ⟨a, dx, vs, rfl, h2, h4⟩
    · cases e'
  | _ => cases e
theorem lookup_zip {fs : List Str} {vs : List V} {j : Nat} {f : Str} {v : V} : fs.Nodup → fs[j]? = some f → vs[j]? = some v → (fs.zip vs).lookup f = some v := by
  induction fs generalizing vs j with
  | nil => intro _ h; cases h
  | cons g fs ih =>
    intro nd h1 h2
    cases vs with
    | nil => cases h2
    | cons w vs =>
      cases j with
      | zero =>
        cases h1
        cases h2
        show List.lookup f ((f, v) :: fs.zip vs) = some v
        rw [List.lookup_cons, beq_self_eq_true]
      | succ j =>
        have h1' : fs[j]? = some f := h1
        have h2' : vs[j]? = some v := h2
        have ne : f ≠ g := fun z => (List.nodup_cons.mp nd).1 (z ▸ List.mem_of_getElem? h1')
        show List.lookup f ((g, w) :: fs.zip vs) = some v
        rw [List.lookup_cons, show (f == g) = false from beq_false_of_ne ne]
        exact ih (List.nodup_cons.mp nd).2 h1' h2'
theorem lookup_out {f : Str} : ∀ {fs : List Str} {vs : List V}, f ∉ fs → (fs.zip vs).lookup f = none
  | [], _, _ => rfl
  | g :: fs, [], _ => rfl
  | g :: fs, w :: vs, h => by
    show List.lookup f ((g, w) :: fs.zip vs) = none
    rw [List.lookup_cons, show (f == g) = false from beq_false_of_ne fun z => h (z ▸ List.mem_cons_self)]
    exact lookup_out fun z => h (List.mem_cons_of_mem _ z)
theorem putF_zip {fs : List Str} {vs : List V} {f : Str} {v : V} {j : Nat} : fs.Nodup → fs[j]? = some f → j ≤ vs.length → putF f v (fs.zip vs) = fs.zip (if j < vs.length then vs.set j v else vs ++ [v]) := by
  induction fs generalizing vs j with
  | nil => intro _ h; cases h
  | cons g fs ih =>
    intro nd h1 h2
    cases vs with
    | nil =>
      cases j with
      | zero =>
        cases h1
        show putF f v [] = _
        show [(f, v)] = (f, v) :: fs.zip []
        rw [List.zip_nil_right]
      | succ j => cases h2
    | cons w vs =>
      cases j with
      | zero =>
        cases h1
        rw [if_pos (show 0 < (w :: vs).length from Nat.succ_pos _)]
        show (if f = f then (f, v) :: fs.zip vs else _) = _
        rw [if_pos rfl]
        rfl
      | succ j =>
        have h1' : fs[j]? = some f := h1
        have ne : ¬ g = f := fun z => (List.nodup_cons.mp nd).1 (z ▸ List.mem_of_getElem? h1')
        show (if g = f then _ else (g, w) :: putF f v (fs.zip vs)) = _
        rw [if_neg ne, ih (vs := vs) (List.nodup_cons.mp nd).2 h1' (Nat.le_of_succ_le_succ h2)]
        by_cases hl : j < vs.length
        · rw [if_pos hl, if_pos (show j + 1 < (w :: vs).length from Nat.succ_lt_succ hl)]
          rfl
        · rw [if_neg hl, if_neg (show ¬ j + 1 < (w :: vs).length from fun z => hl (Nat.lt_of_succ_lt_succ z))]
          rfl

def fldE (c j : Nat) (o : SE) : SE := fun env m => (o env m).bind fun p => (insD p.2 p.1).bind fun q => if q.1 = c then q.2[j]?.map fun d => (d, p.2) else none
/-- o.f = v: attributes are written in their order -/
def putC (c j : Nat) (o v : D) (m : Mem) : Option Mem := match o with
  | .loc n => match m[n]? with
    | some (.ins c' xs) => if c' = c ∧ j ≤ xs.length then some (m.set n (.ins c (if j < xs.length then xs.set j v else xs ++ [v]))) else none
    | _ => none
  | _ => none
def fldS (c j : Nat) (o v : SE) : SS := fun env m => (v env m).bind fun q => (o env q.2).bind fun p => (putC c j p.1 q.1 p.2).map fun m' => .nx env m'

/-- what is known of a class with its attributes -/
structure ClsOk (K : PySem.W.Frag) (G : Cfg) (c : Nat) : Prop where
  cl : Cls K (G.cls c)
  nd : (G.fld c).Nodup
  no : ∀ f ∈ G.fld c, NoAttr K (G.cls c) f
  few : (G.fld c).length < 1000
section
variable {X : Cx} {G : Cfg} {pos pos' : Pos} {o e : Expr} {so se : SE} {c j : Nat} {f : Str}
theorem e_fld (c j : Nat) (h : ClsOk X.K G c) (ho : PE X o (semE G so)) (hj : (G.fld c)[j]? = some f) (hb : attributeBase o f X.env (eval o X.env) = eval o X.env := by rfl) : PE X (.Attribute o f pos) (semE G (fldE c j so)) :=
  wkE (pe_fld ho hb) fun σ H Q ⟨r, F, env, m, d, m', e, R, E, q⟩ => by
    obtain ⟨⟨d1, m1⟩, e1, e⟩ := bind2 (γ := Unit) e
    obtain ⟨⟨c1, xs⟩, e2, e⟩ := bind2 (γ := Unit) e
    split at e
    · rename_i hc
      cases (show c1 = c from hc)
      obtain ⟨d2, e3, e4⟩ := Option.map_eq_some_iff.mp e
      cases e4
      refine ⟨r, F, env, m, d1, m1, e1, R, E, fun v r1 F1 H1 x1 R1 h1 => ?_⟩
      obtain ⟨a, dx, vs, rfl, h2, h3⟩ := ins_of R1 h1 e2
      obtain ⟨w, h4, h5⟩ := h3.get e3
      exact ⟨a, _, dx, _, w, rfl, h2, h.cl, h.no f (List.mem_of_getElem? hj), lookup_zip h.nd hj h4, q _ r1 F1 H1 x1 R1 h5⟩
    · cases e
theorem s_fld (c j : Nat) (h : ClsOk X.K G c) (ho : PE X o (semE G so)) (hv : PE X e (semE G se)) (hj : (G.fld c)[j]? = some f) (hs : swapsWith e (some (.Attribute o f pos')) pos.line X.env = pure false := by rfl) :
    PS X (.Assign [.Attribute o f pos'] e pos) (semS G (fldS c j so se)) :=
  wkS (ps_fld ho hv hs) fun D σ H ⟨r, F, env, m, out, e, R, E, q⟩ => by
    obtain ⟨⟨d1, m1⟩, e1, e⟩ := bind2 (γ := Unit) e
    obtain ⟨⟨d2, m2⟩, e2, e⟩ := bind2 (γ := Unit) e
    obtain ⟨m3, e3, e4⟩ := Option.map_eq_some_iff.mp e
    cases e4
    refine ⟨r, F, env, m, d1, m1, e1, R, E, fun v r1 F1 H1 x1 R1 h1 => ?_⟩
    refine ⟨r1, F1, env, m1, d2, m2, e2, R1, E.ext x1, fun y r2 F2 H2 x2 R2 h2 => ?_⟩
    unfold putC at e3
    split at e3
    · rename_i d0 n hd0
      have hd : d2 = .loc n := hd0
      subst hd
      split at e3
      · rename_i c' xs hm
        split at e3
        · rename_i hc
          obtain ⟨rfl, hl⟩ := hc
          cases e3
          cases h2 with
          | loc ha =>
            rename_i a
            obtain ⟨f1, dx, vs, h3, h4, h5⟩ := R2.cell n a _ ha hm
            have hv1 := h1.ext x2
            have hjl : j < (G.fld c').length := (List.getElem?_eq_some_iff.mp hj).1
            have key : CellR G r2 F2 (upd H2 a (.ins (G.cls c') dx (putF f v ((G.fld c').zip vs)))) a (.ins c' (if j < xs.length then xs.set j d1 else xs ++ [d1])) := by
              refine ⟨f1, dx, if j < vs.length then vs.set j v else vs ++ [v], ?_, ⟨?_, h4.2⟩, ?_⟩
              · rw [upd_same, putF_zip h.nd hj (by rw [h5.length]; exact hl)]
              · split
                · rw [List.length_set]; exact h4.1
                · rename_i hn
                  have : vs.length = j := by have := h5.length; omega
                  rw [List.length_append, this]
                  exact hjl
              · rw [h5.length]
                split
                · exact h5.set hv1 j
                · exact h5.append (.cons hv1 .nil)
            obtain ⟨R3, x3⟩ := R2.set ha f1 key
            refine ⟨a, G.cls c', dx, _, rfl, h3, h.cl, h.no f (List.mem_of_getElem? hj), ?_, ?_⟩
            · refine Nat.lt_of_le_of_lt ?_ h.few
              rw [List.length_zip]
              exact Nat.min_le_left _ _
            · exact q r2 F2 _ (((x1.trans x2).trans x3).toO _) σ R3 (((E.ext x1).ext x2).ext x3) fun _ z => .inl z
        · cases e3
      · cases e3
    · cases e3
end
end Kb

set_option Elab.async false
set_option linter.all false
set_option maxRecDepth 100000
set_option maxHeartbeats 4000000
set_option autoImplicit false
/-! KcM: new instances, methods, properties, own operators. -/
namespace Kb
open PySem PySem.Spec PyProof.Rows L2

/-- behind __init__: the instance, never changed again -/
noncomputable def makeV (c nf : Nat) (fs : Fs) : Fs := fun ds m => (fs (.loc m.length :: ds) (m ++ [.ins c []])).bind fun p => match p.1, p.2[m.length]? with
  | .non, some (.ins c' xs) => open Classical in if c' = c ∧ xs.length = nf ∧ belows m.length xs = true ∧ p.2.take m.length = m then some (.obj c xs, m) else none
  | _, _ => none
/-- .. one that may change -/
def makeL (c nf : Nat) (fs : Fs) : Fs := fun ds m => (fs (.loc m.length :: ds) (m ++ [.ins c []])).bind fun p => match p.1 with
  | .non => some (.loc m.length, p.2)
  | _ => none
/-- what is asked of such a way to make instances -/
def MakeOk (G : Cfg) (c : Nat) (mk : Fs → Fs) : Prop := ∀ {fs : Fs} {r : List Addr} {F H : Hp} {m m' : Mem} {ds : List D} {d : D} {vs : List V} {Q : VK} {x dx : Addr}, mk fs ds m = some (d, m') → Rel G r F m H → Dats G r F vs ds → PostE G r F H m' d Q →
  H x = none → H dx = none → dx ≠ x → rC G fs (.ref x :: vs) (upd (upd H dx (.own x)) x (.ins (G.cls c) dx [])) fun v H2 => v = .non ∧ Q (.ref x) H2
section
variable {G : Cfg} {r : List Addr} {F H : Hp} {m : Mem} {c : Nat} {x dx : Addr}
theorem mk_start (hc : c < G.n) (R : Rel G r F m H) (hx : H x = none) (hd : H dx = none) (ne : dx ≠ x) : Rel G (r ++ [x]) F (m ++ [.ins c []]) (upd (upd H dx (.own x)) x (.ins (G.cls c) dx [])) ∧ Ext r (r ++ [x]) F F H (upd (upd H dx (.own x)) x (.ins (G.cls c) dx [])) := by
  obtain ⟨R1, x1⟩ := R.skip (o := .own x) hd
  have hx1 : upd H dx (.own x) x = none := by rw [upd_ne (Ne.symm ne)]; exact hx
  obtain ⟨R2, x2⟩ := R1.push (o := .ins (G.cls c) dx []) (c := .ins c []) hx1 ⟨sub_none R hx, dx, [], by rw [upd_same, List.zip_nil_right], ⟨Nat.zero_le _, hc⟩, .nil⟩
  exact ⟨R2, x1.trans x2⟩
theorem loc_last (R : Rel G r F m H) : (r ++ [x])[m.length]? = some x := by
  rw [← R.len, List.getElem?_append_right (Nat.le_refl _), Nat.sub_self]
  rfl
theorem makeL_ok {nf : Nat} (hn : c < G.n) : MakeOk G c (makeL c nf) := fun {fs r F H m m' ds d vs Q x dx} e R hd q hx hdx ne => by
  obtain ⟨R2, x2⟩ := mk_start hn R hx hdx ne
  obtain ⟨⟨d1, m1⟩, e1, e2⟩ := bind2 (γ := Unit) e
  refine ⟨r ++ [x], F, _, _, d1, m1, e1, R2, .cons (.loc (loc_last R)) (hd.ext x2), fun v r3 F3 H3 x3 R3 h3 => ?_⟩
  cases d1 with
  | non =>
    cases e2
    cases h3
    exact ⟨rfl, q _ r3 F3 H3 (x2.trans x3) R3 (.loc (loc_up x3.pre (loc_last R)))⟩
  | _ => cases e2
theorem makeV_ok {nf : Nat} (hn : c < G.n) (hf : (G.fld c).length = nf) : MakeOk G c (makeV c nf) := fun {fs r F H m m' ds d vs Q x dx} e R hd q hx hdx ne => by
  obtain ⟨R2, x2⟩ := mk_start hn R hx hdx ne
  obtain ⟨⟨d1, m1⟩, e1, e2⟩ := bind2 (γ := Unit) e
  refine ⟨r ++ [x], F, _, _, d1, m1, e1, R2, .cons (.loc (loc_last R)) (hd.ext x2), fun v r3 F3 H3 x3 R3 h3 => ?_⟩
  cases d1 with
  | non =>
    have e2 : (match m1[m.length]? with | some (.ins c' xs) => open Classical in if c' = c ∧ xs.length = nf ∧ belows m.length xs = true ∧ m1.take m.length = m then some (D.obj c xs, m) else none | _ => none) = some (d, m') := by
      revert e2
      cases m1[m.length]? with
      | none => exact id
      | some w => cases w <;> exact id
    split at e2
    · rename_i c' xs hm
      split at e2
      · rename_i hc
        obtain ⟨rfl, hl, hb, hcut⟩ := hc
        cases e2
        have hcut2 : (m1.take m.length).all (belowC m.length) = true := by
          rw [hcut]
          exact R.low
        cases h3
        have ha : r3[m.length]? = some x := loc_up x3.pre (loc_last R)
        obtain ⟨f1, dx2, ws, h4, h5, h6⟩ := R3.cell _ x _ ha hm
        have p : r <+: r3 := (List.prefix_append r [x]).trans x3.pre
        rw [← R.len] at hb hcut2
        have R4 : Rel G r F3 m H3 := by
          have z := R3.cut p hcut2
          rw [R.len, hcut] at z
          exact z
        have nr : x ∉ r := fun z => R.own x z hx
        have x13 := x2.trans x3
        refine ⟨rfl, q _ r (upd F3 x (.ins (G.cls c') dx2 ((G.fld c').zip ws))) H3 (x13.cut.adopt hx f1) (R4.adopt f1 nr h4) ?_⟩
        refine .obj upd_same ⟨by rw [h6.length, hl, hf], h5.2⟩ ?_
        exact (h6.down p hb).up (List.prefix_refl _) fun b u z => by rw [upd_ne (ne_of_none z f1)]; exact z
      · cases e2
    · cases e2
  | _ => cases e2
end

section
variable {X : Cx} {G : Cfg} {k n c : Nat} {f : Addr} {fd : FuncData} {ps ks : List Str} {is : List Nat} {fs : Fs} {mk : Fs → Fs} {x m : Str} {p pos apos : Pos} {e o : Expr} {es : List Expr} {kws : List Keyword} {sa sb : SA} {so se : SE}
theorem run_mk {pins : List (Addr × Obj)} {σ : L2.St} {H : Hp} {s : Shared} {Q : VK} {us us2 : List Value} {kw : List (Str × Value)} {vs : List V} (cx : Ctx X G (k + 1)) (hm : MakeOk G c mk) (M : Mk X.K (G.cls c) f) (T : FnG X.prog X.w X.K X.mg X.base CX0 G k f fd ps fs)
    (hb : ∀ (s : Shared) (u : Value), X.K.In s.heap → (u :: us2).length = ps.length → BindsTo s fd ⟨u :: us, kw⟩ (ps.zip (u :: us2))) (I : Inv X pins σ H s) (r : Vals vs us2) (h : rC G (mk fs) vs H Q) :
    wpAny (model X.prog X.w) X.A (call (.ref (G.cls c)) us kw) (EP X pins σ Q) X.xe s := by
  obtain ⟨rr, F, m, ds, d, m', e, R, hd, q⟩ := h
  have hq := hm e R hd q (I.hok.fresh (Nat.le_succ s.heap.objs.size)) (I.hok.fresh (Nat.le_refl s.heap.objs.size)) (Nat.ne_of_lt (Nat.lt_succ_self _))
  have I2 := Inv.made (C := G.cls c) I
  refine wpAny_call (make_map (f := f) I.kIn M.makes M.init (beq_iff_eq.mp M.fn) (codeAny_mono (T.run _ X.stack _ _ ⟨.ref (s.heap.objs.size + 1) :: us, kw⟩ (.ref (s.heap.objs.size + 1) :: us2) (.ref (s.heap.objs.size + 1) :: vs) _ E0
    (cx.room.make (G.cls c) us kw) cx.gua (I2.env0.make (G.cls c) us kw) (fun hl => hb _ _ I2.kIn hl) (.cons rfl r) hq) fun o s' ho => ?_))
  match o, ho with
  | .ok (.ret u), ho =>
    obtain ⟨v, H', I3, rv, ev, q3⟩ := I2.after ho
    subst ev
    exact ⟨rv, ⟨V.ref (s.heap.objs.size + 1), H', I3, rfl, q3⟩⟩
  | .ok .next, ho => exact False.elim ho
  | .ok .brk, ho => exact False.elim ho
  | .ok .cont, ho => exact False.elim ho
  | .error _, ho => exact False.elim ho
/-- C(e, ..) -/
theorem e_make (mk : Fs → Fs) (cx : Ctx X G (k + 1)) (hm : MakeOk G c mk) (M : Mk X.K (G.cls c) f) (T : FnG X.prog X.w X.K X.mg X.base CX0 G k f fd ps fs) (hb : Binds X.K fd ps []) (hgl : Gl X x) (hmg : X.mg x = some (.ref (G.cls c))) (ha : PA X (e :: es) (semA G sa))
    (hdb : (x == ("__debug__" : Str)) = false := by decide) (he : starEach (e :: es) X.env = (false, eval e X.env) :: starEach es X.env := by rfl) (hpl : (backTo pos (starEach es X.env)).any (·.1) = false := by rfl) :
    PE X (.Call (.Name x p) (e :: es) [] pos) (semE G (app (mk fs) sa)) :=
  ⟨fun pins s σ H Q I h => by
    refine wpAny_Call_Name_kw (ld_glob I hgl hmg ?_ hdb)
    refine PySem.W.callWith_K (h₀ := X.base) I.ok.mod.kin M.kp (thn (ha.run pos pins s σ H _ I (app_ok h)) fun us s1 ⟨vs, H1, I1, rv, q⟩ => ⟨I1.kIn, ?_⟩) he hpl
    exact run_mk (us2 := us) cx hm M T (fun s2 u KI hl => by have z := hb s2 (u :: us) KI (by rw [List.append_nil]; exact hl); rwa [List.append_nil] at z) I1 rv q⟩

/-- C(k = v, ..) -/
theorem e_makeK0 (mk : Fs → Fs) (cx : Ctx X G (k + 1)) (hm : MakeOk G c mk) (M : Mk X.K (G.cls c) f) (T : FnG X.prog X.w X.K X.mg X.base CX0 G k f fd ps fs) (hb : KwB X.K fd ps 1 ks (0 :: is.map (· + 1))) (hgl : Gl X x) (hmg : X.mg x = some (.ref (G.cls c))) (hkw : PK X kws (semA G sb))
    (hall : (backToKw pos (keywordEach kws X.env)).all (·.1.isSome) = true := by rfl) (hks : (backToKw pos (keywordEach kws X.env)).filterMap (·.1) = ks := by rfl)
    (hdb : (x == ("__debug__" : Str)) = false := by decide) (hpl : ((backTo pos (starEach [] X.env)).any (·.1) || (backToKw pos (keywordEach kws X.env)).any (·.1.isNone)) = false := by rfl) :
    PE X (.Call (.Name x p) [] kws pos) (semE G (appK 0 ks.length is (mk fs) argN sb)) :=
  ⟨fun pins s σ H Q I h => by
    refine wpAny_Call_Name_kw (ld_glob I hgl hmg ?_ hdb)
    obtain ⟨r, F, env, m, d, m', e, R, E, q⟩ := h
    obtain ⟨⟨d1, m1⟩, e1, e⟩ := bind2 (γ := Unit) e
    cases e1
    obtain ⟨⟨d2, m2⟩, e2, e⟩ := bind2 (γ := Unit) e
    have step : semA G sb σ H fun zs H2 => zs.length = ks.length ∧ rC G (mk fs) (pick is zs) H2 Q := by
      refine ⟨r, F, env, m, d2, m2, e2, R, E, fun zs r2 F2 H2 x2 R2 h2 => ?_⟩
      split at e
      · rename_i hl
        exact ⟨h2.length.trans hl.2, r2, F2, m2, _, d, m', e, R2, h2.pick is, q.ext x2⟩
      · cases e
    refine PySem.W.callWith_KW0 (h₀ := X.base) I.ok.mod.kin M.kp hall (thn (hkw.run pos pins s σ H _ I step) fun ws s2 ⟨zs, H2, I2, rz, l2, q2⟩ => ⟨I2.kIn, ?_⟩) hpl
    rw [hks]
    have pk : ∀ (u : Value) (ws : List Value), pick (0 :: is.map (· + 1)) (u :: ws) = u :: pick is ws := fun u ws => by
      show u :: List.filterMap (fun i => (u :: ws)[i]?) (is.map (· + 1)) = _
      rw [List.filterMap_map]
      rfl
    refine run_mk (us2 := pick is ws) cx hm M T (fun s3 u KI _ => ?_) I2 (vals_pick rz is) q2
    have z := hb.to s3 [u] ws KI rfl (rz.length.symm.trans l2)
    rw [List.singleton_append, pk] at z
    exact z⟩

/-- o.m(e, ..): o of class c -/
def mthE (c : Nat) (f : Fs) (o : SE) (a : SA) : SE := fun env m => (o env m).bind fun p => (insD p.2 p.1).bind fun q => if q.1 = c then (a env p.2).bind fun w => f (p.1 :: w.1) w.2 else none
def mthKE (c n l : Nat) (is : List Nat) (f : Fs) (o : SE) (a b : SA) : SE := fun env m => (o env m).bind fun p => (insD p.2 p.1).bind fun q => if q.1 = c then (a env p.2).bind fun w => (b env w.2).bind fun z => if w.1.length = n ∧ z.1.length = l then f (p.1 :: pick is (w.1 ++ z.1)) z.2 else none else none
theorem e_meth (c : Nat) (cx : Ctx X G k) (h : ClsOk X.K G c) (hno : m ∉ G.fld c) (hm : Meth X.K (G.cls c) m f) (T : FnG X.prog X.w X.K X.mg X.base CX0 G k f fd ps fs) (hb : Binds X.K fd ps []) (ho : PE X o (semE G so)) (ha : PA X (e :: es) (semA G sa)) {pl : Sem Bool}
    (hst : starEach (e :: es) X.env = (false, eval e X.env) :: starEach es X.env := by rfl) (hpl : (backTo pos (starEach es X.env)).any (·.1) = false := by rfl)
    (ht : eval (.Call (.Attribute o m apos) (e :: es) [] pos) X.env = (do
      let ov ← eval o X.env
      standAt apos.atName
      let (f, first) ← holding [ov] (getMethod ov m pl)
      callWith pos f first (backTo pos (starEach (e :: es) X.env)) (backToKw pos (keywordEach [] X.env))) := by rfl) :
    PE X (.Call (.Attribute o m apos) (e :: es) [] pos) (semE G (mthE c fs so sa)) :=
  ⟨fun pins s σ H Q I ⟨r, F, env, mm, d, m', er, R, E, q⟩ => by
    obtain ⟨⟨d1, m1⟩, e1, er⟩ := bind2 (γ := Unit) er
    obtain ⟨⟨c1, xs⟩, e2, er⟩ := bind2 (γ := Unit) er
    split at er
    case isFalse => cases er
    rename_i hc
    cases (show c1 = c from hc)
    obtain ⟨⟨d2, m2⟩, e3, er⟩ := bind2 (γ := Unit) er
    have step : semE G so σ H fun x H1 => ∃ a dx vs, x = .ref a ∧ H1 a = some (.ins (G.cls c) dx ((G.fld c).zip vs)) ∧ semA G sa σ H1 fun ws H2 => rC G fs (x :: ws) H2 Q := by
      refine ⟨r, F, env, mm, d1, m1, e1, R, E, fun v r1 F1 H1 x1 R1 h1 => ?_⟩
      obtain ⟨a, dx, vs, rfl, h2, h3⟩ := ins_of R1 h1 e2
      refine ⟨a, dx, vs, rfl, h2, r1, F1, env, m1, d2, m2, e3, R1, E.ext x1, fun ws r2 F2 H2 x2 R2 h4 => ?_⟩
      exact ⟨r2, F2, m2, _, d, m', er, R2, .cons (h1.ext x2) h4, (q.ext x1).ext x2⟩
    refine PySem.W.methodCall_KW (pl := pl) (thn (ho.run pins s σ H _ I step) fun u s1 ⟨x, H1, I1, rx, a, dx, vs, ex, ea, q1⟩ => ?_) ht
    subst ex
    obtain rfl : u = Value.ref a := rx
    refine getmeth_ok I1 ea h.cl hm (lookup_out hno) ?_
    refine PySem.W.callWith_K (first := [.ref a]) (h₀ := X.base) I.ok.mod.kin hm.kp (thn (ha.run pos pins s1 σ H1 _ I1 q1) fun us s2 ⟨ws, H2, I2, rv, q2⟩ => ⟨I2.kIn, ?_⟩) hst hpl
    exact run_g (us2 := .ref a :: us) T cx.room cx.gua (fun hl => by have z := hb s2 (.ref a :: us) I2.kIn (by rw [List.append_nil]; exact hl); rwa [List.append_nil] at z) I2 (.cons (a := V.ref a) rfl rv) q2⟩
theorem e_meth0 (c : Nat) (cx : Ctx X G k) (h : ClsOk X.K G c) (hno : m ∉ G.fld c) (hm : Meth X.K (G.cls c) m f) (T : FnG X.prog X.w X.K X.mg X.base CX0 G k f fd ps fs) (hb : Binds X.K fd ps []) (ho : PE X o (semE G so)) {pl : Sem Bool}
    (ht : eval (.Call (.Attribute o m apos) [] [] pos) X.env = (do
      let ov ← eval o X.env
      standAt apos.atName
      let (f, first) ← holding [ov] (getMethod ov m pl)
      callWith pos f first (backTo pos (starEach [] X.env)) (backToKw pos (keywordEach [] X.env))) := by rfl) :
    PE X (.Call (.Attribute o m apos) [] [] pos) (semE G (mthE c fs so argN)) :=
  ⟨fun pins s σ H Q I ⟨r, F, env, mm, d, m', er, R, E, q⟩ => by
    obtain ⟨⟨d1, m1⟩, e1, er⟩ := bind2 (γ := Unit) er
    obtain ⟨⟨c1, xs⟩, e2, er⟩ := bind2 (γ := Unit) er
    split at er
    case isFalse => cases er
    rename_i hc
    cases (show c1 = c from hc)
    obtain ⟨⟨d2, m2⟩, e3, er⟩ := bind2 (γ := Unit) er
    cases e3
    have step : semE G so σ H fun x H1 => ∃ a dx vs, x = .ref a ∧ H1 a = some (.ins (G.cls c) dx ((G.fld c).zip vs)) ∧ rC G fs [x] H1 Q := by
      refine ⟨r, F, env, mm, d1, m1, e1, R, E, fun v r1 F1 H1 x1 R1 h1 => ?_⟩
      obtain ⟨a, dx, vs, rfl, h2, h3⟩ := ins_of R1 h1 e2
      exact ⟨a, dx, vs, rfl, h2, r1, F1, m1, _, d, m', er, R1, .cons h1 .nil, q.ext x1⟩
    refine PySem.W.methodCall_KW (pl := pl) (thn (ho.run pins s σ H _ I step) fun u s1 ⟨x, H1, I1, rx, a, dx, vs, ex, ea, q1⟩ => ?_) ht
    subst ex
    obtain rfl : u = Value.ref a := rx
    refine getmeth_ok I1 ea h.cl hm (lookup_out hno) ?_
    exact PySem.W.callWith_K0 (first := [.ref a]) I1.kIn hm.kp (run_g (us2 := [.ref a]) T cx.room cx.gua (fun hl => by have z := hb s1 [.ref a] I1.kIn (by rw [List.append_nil]; exact hl); rwa [List.append_nil] at z) I1 (.cons (a := V.ref a) rfl .nil) q1)⟩
/-- o.m(k = v, ..) -/
theorem e_methK0 (c : Nat) (cx : Ctx X G k) (h : ClsOk X.K G c) (hno : m ∉ G.fld c) (hm : Meth X.K (G.cls c) m f) (T : FnG X.prog X.w X.K X.mg X.base CX0 G k f fd ps fs) (hb : KwB X.K fd ps 1 ks (0 :: is.map (· + 1))) (ho : PE X o (semE G so)) (hkw : PK X kws (semA G sb)) {pl : Sem Bool}
    (hall : (backToKw pos (keywordEach kws X.env)).all (·.1.isSome) = true := by rfl) (hks : (backToKw pos (keywordEach kws X.env)).filterMap (·.1) = ks := by rfl)
    (hpl : ((backTo pos (starEach [] X.env)).any (·.1) || (backToKw pos (keywordEach kws X.env)).any (·.1.isNone)) = false := by rfl)
    (ht : eval (.Call (.Attribute o m apos) [] kws pos) X.env = (do
      let ov ← eval o X.env
      standAt apos.atName
      let (f, first) ← holding [ov] (getMethod ov m pl)
      callWith pos f first (backTo pos (starEach [] X.env)) (backToKw pos (keywordEach kws X.env))) := by rfl) :
    PE X (.Call (.Attribute o m apos) [] kws pos) (semE G (mthKE c 0 ks.length is fs so argN sb)) :=
  ⟨fun pins s σ H Q I ⟨r, F, env, mm, d, m', er, R, E, q⟩ => by
    obtain ⟨⟨d1, m1⟩, e1, er⟩ := bind2 (γ := Unit) er
    obtain ⟨⟨c1, xs⟩, e2, er⟩ := bind2 (γ := Unit) er
    split at er
    case isFalse => cases er
    rename_i hc
    cases (show c1 = c from hc)
    obtain ⟨⟨d2, m2⟩, e3, er⟩ := bind2 (γ := Unit) er
    cases e3
    obtain ⟨⟨d3, m3⟩, e4, er⟩ := bind2 (γ := Unit) er
    split at er
    case isFalse => cases er
    rename_i hlen
    have step : semE G so σ H fun x H1 => ∃ a dx vs, x = .ref a ∧ H1 a = some (.ins (G.cls c) dx ((G.fld c).zip vs)) ∧ semA G sb σ H1 fun zs H2 => zs.length = ks.length ∧ rC G fs (x :: pick is zs) H2 Q := by
      refine ⟨r, F, env, mm, d1, m1, e1, R, E, fun v r1 F1 H1 x1 R1 h1 => ?_⟩
      obtain ⟨a, dx, vs, rfl, h2, h3⟩ := ins_of R1 h1 e2
      refine ⟨a, dx, vs, rfl, h2, r1, F1, env, m1, d3, m3, e4, R1, E.ext x1, fun zs r2 F2 H2 x2 R2 h4 => ⟨h4.length.trans hlen.2, ?_⟩⟩
      exact ⟨r2, F2, m3, _, d, m', er, R2, .cons (h1.ext x2) (h4.pick is), (q.ext x1).ext x2⟩
    refine PySem.W.methodCall_KW (pl := pl) (thn (ho.run pins s σ H _ I step) fun u s1 ⟨x, H1, I1, rx, a, dx, vs, ex, ea, q1⟩ => ?_) ht
    subst ex
    obtain rfl : u = Value.ref a := rx
    refine getmeth_ok I1 ea h.cl hm (lookup_out hno) ?_
    refine PySem.W.callWith_KW0 (first := [.ref a]) (h₀ := X.base) I.ok.mod.kin hm.kp hall (thn (hkw.run pos pins s1 σ H1 _ I1 q1) fun ws s2 ⟨zs, H2, I2, rz, l2, q2⟩ => ⟨I2.kIn, ?_⟩) hpl
    rw [hks]
    have pk : ∀ (u : Value) (ws : List Value), pick (0 :: is.map (· + 1)) (u :: ws) = u :: pick is ws := fun u ws => by
      show u :: List.filterMap (fun i => (u :: ws)[i]?) (is.map (· + 1)) = _
      rw [List.filterMap_map]
      rfl
    refine run_g (us2 := .ref a :: pick is ws) T cx.room cx.gua (fun _ => ?_) I2 (.cons (a := V.ref a) rfl (vals_pick rz is)) q2
    have z := hb.to s2 [.ref a] ws I2.kIn rfl (rz.length.symm.trans l2)
    rw [List.singleton_append, pk] at z
    exact z⟩
/-- o.m, a property -/
def prpE (c : Nat) (f : Fs) (o : SE) : SE := fun env m => (o env m).bind fun p => (insD p.2 p.1).bind fun q => if q.1 = c then f [p.1] p.2 else none
theorem e_prop {pa : Addr} (c : Nat) (cx : Ctx X G (k + 1)) (h : ClsOk X.K G c) (hp : PropOf X.K (G.cls c) m pa f) (T : FnG X.prog X.w X.K X.mg X.base CX0 G k f fd ps fs) (hb : Binds X.K fd ps []) (ho : PE X o (semE G so))
    (hab : attributeBase o m X.env (eval o X.env) = eval o X.env := by rfl) : PE X (.Attribute o m pos) (semE G (prpE c fs so)) :=
  ⟨fun pins s σ H Q I ⟨r, F, env, mm, d, m', er, R, E, q⟩ => by
    obtain ⟨⟨d1, m1⟩, e1, er⟩ := bind2 (γ := Unit) er
    obtain ⟨⟨c1, xs⟩, e2, er⟩ := bind2 (γ := Unit) er
    split at er
    case isFalse => cases er
    rename_i hc
    cases (show c1 = c from hc)
    have step : semE G so σ H fun x H1 => ∃ a dx vs, x = .ref a ∧ H1 a = some (.ins (G.cls c) dx ((G.fld c).zip vs)) ∧ rC G fs [x] H1 Q := by
      refine ⟨r, F, env, mm, d1, m1, e1, R, E, fun v r1 F1 H1 x1 R1 h1 => ?_⟩
      obtain ⟨a, dx, vs, rfl, h2, h3⟩ := ins_of R1 h1 e2
      exact ⟨a, dx, vs, rfl, h2, r1, F1, m1, _, d, m', er, R1, .cons h1 .nil, q.ext x1⟩
    refine attr_of hab (thn (ho.run pins s σ H _ I step) fun u s1 ⟨x, H1, I1, rx, a, dx, vs, ex, ea, q1⟩ => ?_)
    subst ex
    obtain rfl : u = Value.ref a := rx
    obtain ⟨mA, O, _⟩ := ins_get I1.hok ea
    obtain ⟨od, J, _⟩ := O.look
    obtain ⟨rest, hrec⟩ := hp.rec_
    have I2 := I1.tok (s1.toks + 1)
    have hc : (PySem.W.clsIn X.K (G.cls c)).isSome = true := by
      obtain ⟨cd, hcd, _⟩ := PySem.W.any_some h.cl.hd
      rw [hcd]
      rfl
    refine PySem.W.get_bind I1.kIn J (PySem.W.plainGet_of (h.cl.get m)).1 (PySem.W.findObj_data hc hp.at_ hp.get hp.tak) (PySem.W.plainGet_of (h.cl.get m)).2 (wpAny_call (PySem.W.prop_get (s := { s1 with toks := s1.toks + 1 }) I1.kIn hrec ?_))
    refine codeAny_mono (T.run X.A.in1 X.stack { s1 with toks := s1.toks + 1 } H1 ⟨[.ref a], []⟩ [.ref a] [.ref a] Q E0 cx.room.in1 cx.gua I2.env0.in1 (fun hl => by have z := hb _ [.ref a] I2.kIn (by rw [List.append_nil]; exact hl); rwa [List.append_nil] at z) (.cons rfl .nil) q1) fun out s' ho' => ?_
    match out, ho' with
    | .ok (.ret u), ho' =>
      obtain ⟨v, H', I3, rv, q3⟩ := I2.after ho'
      show wpAny _ _ (handedOut u) _ _ _
      rw [PySem.W.handedOut_of (handed_of rv)]
      exact wpAny_pure ⟨v, H', I3, rv, q3⟩
    | .ok .next, ho' => exact False.elim ho'
    | .ok .brk, ho' => exact False.elim ho'
    | .ok .cont, ho' => exact False.elim ho'
    | .error _, ho' => exact False.elim ho'⟩
end
end Kb

set_option Elab.async false
set_option linter.all false
set_option maxRecDepth 100000
set_option maxHeartbeats 4000000
set_option autoImplicit false
/-! KcN: isinstance, own operators, chains, three names at once. -/
namespace Kb
open PySem PySem.Spec PyProof.Rows L2

inductive Tb where
  | non | bool | int | str | list | tuple | dict
deriving DecidableEq
def Tb.name : Tb → String
  | .non => "NoneType"
  | .bool => "bool"
  | .int => "int"
  | .str => "str"
  | .list => "list"
  | .tuple => "tuple"
  | .dict => "dict"
inductive TyD where
  | b (t : Tb) | c (n : Nat)
deriving DecidableEq
/-- a value of type a is one of b -/
def isTb (a b : Tb) : Bool := a == b || (a == .bool && b == .int)
theorem kit_tb (a b : Tb) : kitB a.name b.name = some (isTb a b) := by cases a <;> cases b <;> decide +kernel
def isB (ts : List Tb) : TyD → Bool
  | .b t => ts.any fun u => isTb t u
  | .c _ => false
def isC (c : Nat) : TyD → Bool
  | .b _ => false
  | .c n => n == c
def okT (n : Nat) : TyD → Bool
  | .b _ => true
  | .c k => decide (k < n)
def tv (G : Cfg) : TyD → Value
  | .b t => .type t.name
  | .c n => .ref (G.cls n)
def tyD (m : Mem) : D → Option TyD
  | .non => some (.b .non)
  | .bl _ => some (.b .bool)
  | .int _ => some (.b .int)
  | .str _ => some (.b .str)
  | .lst _ => some (.b .list)
  | .tup _ => some (.b .tuple)
  | .dic _ _ => some (.b .dict)
  | .scr _ => some (.b .list)
  | .rng _ _ => none
  | .obj c _ => some (.c c)
  | .loc n => match m[n]? with
    | some (.lst _) => some (.b .list)
    | some (.frz _) => some (.b .list)
    | some (.ins c _) => some (.c c)
    | none => none
  | _ => none
/-- what isinstance asks of the own classes -/
structure OwnT (K : PySem.W.Frag) (G : Cfg) : Prop where
  cl : ∀ c < G.n, Cls K (G.cls c)
  ha : ∀ c < G.n, PySem.W.findIn K (.ref (G.cls c)) "__class__" = some (some (.builtin "object.__class__"))
  hm : ∀ c < G.n, PySem.W.mroIn K (G.cls c) (.type "object") = some true
  hn : PySem.W.specialIn K (.builtin "object.__class__") "__get__" = some (some (.builtin "getset_descriptor.__get__"))
  htk : PySem.W.takesIn K (.builtin "object.__class__") = some true
def KitOk (K : PySem.W.Frag) (G : Cfg) (u : Value) (b : TyD → Bool) : Prop := ∀ t, okT G.n t = true → PySem.W.kitOne K (tv G t) u = some (b t)
theorem kit_b {K : PySem.W.Frag} {G : Cfg} (T : Tb) (h : ∀ c < G.n, PySem.W.kitOne K (.ref (G.cls c)) (.type T.name) = some false) : KitOk K G (.type T.name) (isB [T]) := fun t ht => by
  cases t with
  | b t =>
    refine (kit_ty (kit_tb t T)).trans ?_
    show some (isTb t T) = some (isTb t T || false)
    rw [Bool.or_false]
  | c k => exact h k (of_decide_eq_true ht)
theorem kit_c {K : PySem.W.Frag} {G : Cfg} (k : Nat) (hb : ∀ t : Tb, PySem.W.kitOne K (.type t.name) (.ref (G.cls k)) = some false) (h : ∀ c < G.n, PySem.W.kitOne K (.ref (G.cls c)) (.ref (G.cls k)) = some (c == k)) : KitOk K G (.ref (G.cls k)) (isC k) := fun t ht => by
  cases t with
  | b t => exact hb t
  | c j => exact h j (of_decide_eq_true ht)
theorem kit_any2 {K : PySem.W.Frag} {G : Cfg} {t : TyD} {a b : Tb} (ht : okT G.n t = true) (h1 : KitOk K G (.type a.name) (isB [a])) (h2 : KitOk K G (.type b.name) (isB [b])) : PySem.W.kitAny K (tv G t) [.type a.name, .type b.name] = some (isB [a, b] t) := by
  have e1 := h1 t ht
  have e2 := h2 t ht
  have e3 : isB [a, b] t = (isB [a] t || isB [b] t) := by
    cases t with
    | b t => simp [isB]
    | c _ => rfl
  rw [e3]
  refine kitAny_cons e1 (fun z => ?_) fun z => by rw [z]; rfl
  rw [z, Bool.false_or]
  exact kitAny_cons e2 (fun w => by rw [w]; exact kitAny_nil) id
section
variable {G : Cfg} {r : List Addr} {F H : Hp} {m : Mem}
theorem ty_of {v : V} {d : D} {t : TyD} (o : OwnT G.K G) (R : Rel G r F m H) (h : Dat G r F v d) (e : tyD m d = some t) : TyX G.K H v (tv G t) ∧ okT G.n t = true := by
  have own : ∀ {a dx : Addr} {c : Nat} {fs : List (Str × V)}, H a = some (.ins (G.cls c) dx fs) → c < G.n → TyX G.K H (.ref a) (tv G (.c c)) ∧ okT G.n (.c c) = true := fun {a dx c fs} e hc =>
    ⟨.base (.ins e (o.cl c hc) (o.ha c hc) o.hn o.htk (o.hm c hc)), decide_eq_true hc⟩
  cases h with
  | non => cases e; exact ⟨.base .non, rfl⟩
  | bl b => cases e; exact ⟨.base (.bl b), rfl⟩
  | int i => cases e; exact ⟨.base (.int i), rfl⟩
  | str x => cases e; exact ⟨.base (.str x), rfl⟩
  | lst h1 h2 => cases e; exact ⟨.base (.lst (R.sub _ _ h1)), rfl⟩
  | tup h1 h2 =>
    cases e
    rcases sqt_up R.sub h1 with (h | ⟨o, h⟩) | ⟨o, its, k, h, hc, _⟩
    · exact ⟨.base (.tup h), rfl⟩
    · exact ⟨.fTuple h, rfl⟩
    · exact ⟨.kTuple h hc, rfl⟩
  | dic h1 h2 h3 => cases e; exact ⟨.base (.dK (R.sub _ _ h1)), rfl⟩
  | obj h1 h2 h3 =>
    cases e
    exact own (R.sub _ _ h1) h2.2
  | loc h1 =>
    rename_i a k
    have e' : (match m[k]? with | some (.lst _) => some (TyD.b .list) | some (.frz _) => some (.b .list) | some (.ins c _) => some (.c c) | none => none) = some t := e
    split at e'
    · rename_i xs hm
      cases e'
      obtain ⟨_, vs, h2, _⟩ := R.cell k a _ h1 hm
      exact ⟨.base (.lst h2), rfl⟩
    · rename_i xs hm
      cases e'
      obtain ⟨vs, h2, _⟩ := R.cell k a _ h1 hm
      exact ⟨.base (.lst (R.sub _ _ h2)), rfl⟩
    · rename_i c xs hm
      cases e'
      obtain ⟨_, dx, vs, h2, h3, _⟩ := R.cell k a _ h1 hm
      exact own h2 h3.2
    · cases e'
  | scr h1 =>
    cases e
    rcases sql_up R.sub h1 with (h | ⟨o, h⟩) | ⟨o, its, k, h, hc, _⟩
    · exact ⟨.base (.lst h), rfl⟩
    · exact ⟨.base (.frz h), rfl⟩
    · exact ⟨.kList h hc, rfl⟩
  | rng h1 => cases e
end
def isiE (b : TyD → Bool) (a : SE) : SE := fun env m => (a env m).bind fun p => (tyD p.2 p.1).map fun t => (.bl (b t), p.2)
section
variable {X : Cx} {G : Cfg} {b : TyD → Bool} {p pos tp : Pos} {a c c2 : Expr} {sa : SE}
theorem e_isi {cv : V} {u : Value} (hK : G.K = X.K) (o : OwnT G.K G) (hk : KitOk G.K G u b) (hu : ClsV cv u) (ha : PE X a (semE G sa)) (hc : PE X c (tC cv)) (hg : Gl X "isinstance") (hm : X.mg "isinstance" = none) 
    (hs : starEach [a, c] X.env = (false, eval a X.env) :: starEach [c] X.env := by rfl) (hs2 : starEach [c] X.env = (false, eval c X.env) :: starEach [] X.env := by rfl) (hpl : (backTo pos (starEach [c] X.env)).any (·.1) = false := by rfl) :
    PE X (.Call (.Name "isinstance" p) [a, c] [] pos) (semE G (isiE b sa)) :=
  wkE (pe_callB call_isi hg hm PyProof.Rows.boot_isinstance (pa_cons ha (pa_cons hc pa_nil hs2) hs) (by decide) (by decide) hs hpl) fun σ H Q ⟨r, F, env, m, d, m', e, R, E, q⟩ => by
    obtain ⟨⟨d1, m1⟩, e1, e⟩ := bind2 (γ := Unit) e
    obtain ⟨t, e2, e3⟩ := Option.map_eq_some_iff.mp e
    cases e3
    refine ⟨r, F, env, m, d1, m1, e1, R, E, fun v r1 F1 H1 x1 R1 h1 => ?_⟩
    obtain ⟨hty, ht⟩ := ty_of o R1 h1 e2
    exact ⟨v, cv, _, u, _, rfl, hu, hK ▸ hty, hK ▸ hk t ht, q _ r1 F1 H1 x1 R1 (.bl _)⟩
theorem e_isiT {kt : Nat} {ta tb : Tb} (hK : G.K = X.K) (o : OwnT G.K G) (h1 : KitOk G.K G (.type ta.name) (isB [ta])) (h2 : KitOk G.K G (.type tb.name) (isB [tb])) (ha : PE X a (semE G sa)) (hc : PE X c (tC (.ty ta.name))) (hc2 : PE X c2 (tC (.ty tb.name))) (hg : Gl X "isinstance") (hm : X.mg "isinstance" = none)
    (hs : starEach [a, .Tuple [c, c2] kt tp] X.env = (false, eval a X.env) :: starEach [.Tuple [c, c2] kt tp] X.env := by rfl) (hs2 : starEach [.Tuple [c, c2] kt tp] X.env = (false, eval (.Tuple [c, c2] kt tp) X.env) :: starEach [] X.env := by rfl) (hpl : (backTo pos (starEach [.Tuple [c, c2] kt tp] X.env)).any (·.1) = false := by rfl)
    (hs3 : starEach [c, c2] X.env = (false, eval c X.env) :: starEach [c2] X.env := by rfl) (hs4 : starEach [c2] X.env = (false, eval c2 X.env) :: starEach [] X.env := by rfl) :
    PE X (.Call (.Name "isinstance" p) [a, .Tuple [c, c2] kt tp] [] pos) (semE G (isiE (isB [ta, tb]) sa)) :=
  wkE (pe_callB call_isiT hg hm PyProof.Rows.boot_isinstance (pa_cons ha (pa_cons (pe_tup (pa_cons hc (pa_cons hc2 pa_nil hs4) hs3)) pa_nil hs2) hs) (by decide) (by decide) hs hpl) fun σ H Q ⟨r, F, env, m, d, m', e, R, E, q⟩ => by
    obtain ⟨⟨d1, m1⟩, e1, e⟩ := bind2 (γ := Unit) e
    obtain ⟨t, e2, e3⟩ := Option.map_eq_some_iff.mp e
    cases e3
    refine ⟨r, F, env, m, d1, m1, e1, R, E, fun v r1 F1 H1 x1 R1 hv => ?_⟩
    refine ⟨(by decide : 2 ≤ sizeLine), fun tq hq => ?_⟩
    obtain ⟨R2, x2⟩ := R1.skip (o := .tup [.ty ta.name, .ty tb.name]) hq
    obtain ⟨hty, ht⟩ := ty_of o R2 (hv.ext x2) e2
    refine ⟨v, tq, _, _, [.type ta.name, .type tb.name], _, rfl, upd_same, .cons (.ty _) (.cons (.ty _) .nil), hK ▸ hty, hK ▸ kit_any2 ht h1 h2, ?_⟩
    exact q _ r1 F1 _ (x1.trans x2) R2 (.bl _)

/-! ### chains of two comparisons -/
variable {op op' : CmpOp} {f g : D → D → Mem → Option (D × Mem)} {sb sc : SE} {bb cc : Expr}
theorem e_chn (h1 : OpR X (compareOp op) (rD G f)) (h2 : OpR X (compareOp op') (rD G g)) (ha : PE X a (semE G sa)) (hb : PE X bb (semE G sb)) (hc : PE X cc (semE G sc)) (hm : lastMarks [op, op'] [bb, cc] = false := by with_unfolding_all rfl) :
    PE X (.Compare a [op, op'] [bb, cc] pos) (semE G (chnE f g sa sb sc)) := wkE (pe_chain h1 h2 ha hb hc hm) fun _ _ _ h => chn_ok h
theorem t_chn (h1 : OpR X (compareOp op) (rD G f)) (h2 : OpR X (compareOp op') (rD G g)) (ha : PE X a (semE G sa)) (hb : PE X bb (semE G sb)) (hc : PE X cc (semE G sc)) (hm : lastMarks [op, op'] [bb, cc] = false := by with_unfolding_all rfl) :
    PT X (.Compare a [op, op'] [bb, cc] pos) (semB G (tstB (chnE f g sa sb sc))) := wkT (pt_chain h1 h2 ha hb hc hm) fun _ _ _ h => tst_ok h fun _ _ _ z => chn_ok z

/-! ### three names at once -/
theorem s_par3 (i j l : Nat) {x y z : Str} {a b c : Expr} {sa : SA} {px py pz pt : Pos} {kt k2 : Nat} {pt2 : Pos} (hc : X.calm = true) (hN : X.N.Nodup) (ha : PA X [a, b, c] (semA G sa)) (hi : X.N[i]? = some x := by rfl) (hj : X.N[j]? = some y := by rfl) (hl : X.N[l]? = some z := by rfl)
    (hij : i ≠ j := by decide) (hil : i ≠ l := by decide) (hjl : j ≠ l := by decide) (hx : X.env.scope.names.lookup x = some .local := by rfl) (hy : X.env.scope.names.lookup y = some .local := by rfl) (hz : X.env.scope.names.lookup z = some .local := by rfl)
    (hw : swappedStores [.Tuple [.Name x px, .Name y py, .Name z pz] kt pt] (.Tuple [a, b, c] k2 pt2) X.env = pure (some [x, y, z]) := by rfl)
    (hs : swapsWithSole [.Tuple [.Name x px, .Name y py, .Name z pz] kt pt] (.Tuple [a, b, c] k2 pt2) pos.line X.env = pure false := by rfl) : PS X (.Assign [.Tuple [.Name x px, .Name y py, .Name z pz] kt pt] (.Tuple [a, b, c] k2 pt2) pos) (semS G (parS [i, j, l] sa)) :=
  wkS (ps_par3 hc hN hi hj hl hij hil hjl hx hy hz ha hw hs) fun DD σ H ⟨r, F, env, m, o, e, R, E, q⟩ => by
    obtain ⟨⟨d1, m1⟩, e1, e⟩ := bind2 (γ := Unit) e
    obtain ⟨env', e2, e3⟩ := Option.map_eq_some_iff.mp e
    cases e3
    refine ⟨r, F, env, m, d1, m1, e1, R, E, fun vs r1 F1 H1 x1 R1 h1 => ?_⟩
    have E2 := par_ok e2 h1 (E.ext x1)
    have hlen : ∀ (is : List Nat) (ds : List D) (env : Ev), putL is ds env = some env' → ds.length = is.length := by
      intro is
      induction is with
      | nil =>
        intro ds env e
        cases ds with
        | nil => rfl
        | cons d ds => cases e
      | cons i is ih =>
        intro ds env e
        cases ds with
        | nil => cases e
        | cons d ds =>
          have e' : (if i < env.length then putL is ds (env.set i (some d)) else none) = some env' := e
          split at e'
          · rw [List.length_cons, List.length_cons, ih ds _ e']
          · cases e'
    have hl3 : vs.length = 3 := h1.length.trans (hlen _ _ _ e2)
    match vs, hl3, E2 with
    | [u, v, w], _, E2 => exact ⟨u, v, w, rfl, q r1 F1 H1 (x1.toO _) _ R1 E2.1 fun a z => .inl (E2.2 a z)⟩
end

/-! ### own operators -/
/-- o * p by the class's own def -/
def ownD (c : Nat) (f : Fs) : D → D → Mem → Option (D × Mem) := fun a b m => match insD m a, insD m b with
  | some (c1, _), some (c2, _) => if c1 = c ∧ c2 = c then f [a, b] m else none
  | _, _ => none
theorem back_of {X : Cx} {G : Cfg} {r : List Addr} {F : Hp} {v : V} {d : D} {u : Value} {Q : Value → Shared → Prop} {s : Shared} (h : Dat G r F v d) (rv : RelV v u) (q : Q u s) : PySem.W.CmpBack Q u s := by
  have key : u ≠ .notImplemented := by
    cases h with
    | non => cases (show u = Value.none from rv); exact fun z => nomatch z
    | bl b => cases (show u = Value.bool b from rv); exact fun z => nomatch z
    | int i => obtain ⟨t, rfl⟩ := (show ∃ t, u = Value.int i t from rv); exact fun z => nomatch z
    | str x => obtain ⟨t, rfl⟩ := (show ∃ t, u = Value.str x t from rv); exact fun z => nomatch z
    | lst _ _ => cases (show u = Value.ref _ from rv); exact fun z => nomatch z
    | tup _ _ => cases (show u = Value.ref _ from rv); exact fun z => nomatch z
    | dic _ _ _ => cases (show u = Value.ref _ from rv); exact fun z => nomatch z
    | obj _ _ _ => cases (show u = Value.ref _ from rv); exact fun z => nomatch z
    | loc _ => cases (show u = Value.ref _ from rv); exact fun z => nomatch z
    | scr _ => cases (show u = Value.ref _ from rv); exact fun z => nomatch z
    | rng _ => cases (show u = Value.ref _ from rv); exact fun z => nomatch z
  unfold PySem.W.CmpBack
  split
  · exact absurd rfl key
  · exact q
section
variable {X : Cx} {G : Cfg} {k c : Nat} {f : Addr} {fd : FuncData} {ps : List Str} {fs : Fs}
theorem op_own {op : Operator} (c : Nat) (cx : Ctx X G k) (T : FnG X.prog X.w X.K X.mg X.base CX0 G k f fd ps fs) (hb : Binds X.K fd ps []) (hc : PySem.W.selfFirst X.K (G.cls c) = true) (hs : PySem.W.findIn X.K (.ref (G.cls c)) (PySem.dunder op.info.2) = some (some (.ref f))) (hf : PySem.W.isFn X.K (.ref f) = true) :
    OpR X (binaryOp op) (rD G (ownD c fs)) := by
  intro pins s σ H x y v u Q I rx ry ⟨r, F, m, a, b, d, m', e, R, h1, h2, q⟩
  unfold ownD at e
  split at e
  · rename_i c1 xs c2 ys e1 e2
    split at e
    · rename_i hcc
      obtain ⟨rfl, rfl⟩ := hcc
      obtain ⟨a1, dx, vs, rfl, g1, _⟩ := ins_of R h1 e1
      obtain ⟨a2, dy, ws, rfl, g2, _⟩ := ins_of R h2 e2
      cases (show v = Value.ref a1 from rx)
      cases (show u = Value.ref a2 from ry)
      obtain ⟨mA, J, _⟩ := ins_get I.hok g1
      obtain ⟨mB, J', _⟩ := ins_get I.hok g2
      obtain ⟨od, J, _⟩ := J.look
      obtain ⟨od', J', _⟩ := J'.look
      obtain ⟨mm, hF⟩ := I.fr
      refine PySem.W.binop_K hF I.ok.mod.kin J J'.type hc hs hf ?_
      have post : rC G fs [V.ref a1, V.ref a2] H fun v H' => (∃ r F d, Dat G r F v d) ∧ Q v H' := ⟨r, F, m, [a, b], d, m', e, R, .cons h1 (.cons h2 .nil), fun v2 r2 F2 H2 x2 R2 h3 => ⟨⟨_, _, _, h3⟩, q v2 r2 F2 H2 x2 R2 h3⟩⟩
      refine thn (run_g (us2 := [.ref a1, .ref a2]) T cx.room cx.gua (fun hl => by have z := hb s [.ref a1, .ref a2] I.kIn (by rw [List.append_nil]; exact hl); rwa [List.append_nil] at z) I (.cons (a := V.ref a1) rfl (.cons (a := V.ref a2) rfl .nil)) post) fun w s' hw => ?_
      obtain ⟨v2, H', I', rv, ⟨_, _, _, h3⟩, q2⟩ := hw
      exact back_of (X := X) h3 rv ⟨v2, H', I', rv, q2⟩
    · cases e
  · cases e
end
end Kb

set_option Elab.async false
set_option linter.all false
set_option maxRecDepth 100000
set_option maxHeartbeats 4000000
set_option autoImplicit false
/-! KcO: a law's end. -/
namespace Kb
open PySem PySem.Spec PyProof.Rows L2

theorem law_run {P : Program} {w : World} {K : PySem.W.Frag} {mg mb : Str → Option Value} {G : Cfg} {k : Nat} {fa a : Addr} {fd : FuncData} {x : Str} {fs : Fs} {s1 : Shared} {vs : List Value} {ns : List Int} {mz : Mem} (hG : G.K = K)
    (KX : K.In s1.heap) (hns : s1.heap.Ns mainGlobals mg) (hb : s1.heap.Ns builtinsNs mb) (hbb : ∀ y : Str, y ≠ "__name__" → mb y = bootBuiltins y) (hlim : s1.heap.NoLimit) (hg : s1.gens = #[])
    (ha : s1.heap.get? a = some { cls := .type "list", data := .seq vs.toArray }) (hi : IntsAre vs ns) (hl : ns.length ≤ sizeLine) (hr : Room k callerA)
    (T : ∀ base : Heap, K.In base → base.Ns mainGlobals mg → FnG P w K mg base CX0 G k fa fd [x] fs) (hbind : ∀ (s : Shared) (u : Value), BindsTo s fd ⟨[u], []⟩ [(x, u)]) (hfs : fs [.scr ns] [] = some (.bl true, mz)) :
    codeAny (model P w) callerA (.call (.ref fa) ⟨[.ref a], []⟩) (fun o s' => o = .ok (.ret (.bool true)) ∧ OldK s1.heap s'.heap ∧ s'.os = s1.os ∧ AllBare s'.gens) s1 := by
  have rv := vals_ints hi
  have lenV := hi.length
  have main : ∀ H : Hp, Only H → SqL K H a (ns.map V.int) → HOk P w H s1.heap → (∀ b, H b ≠ none → b = a) → (H a ≠ none → K.lookup a = none) →
      codeAny (model P w) callerA (.call (.ref fa) ⟨[.ref a], []⟩) (fun o s' => o = .ok (.ret (.bool true)) ∧ OldK s1.heap s'.heap ∧ s'.os = s1.os ∧ AllBare s'.gens) s1 := by
    intro H hO hS hok hA hK
    have part : ∀ {b : Addr} {o : Obj}, s1.heap.get? b = some o → H b = none → (hidT s1.heap H).get? b = some o := fun e n => hidT_get e n
    have free : ∀ {b : Addr} {o : Obj} {es : Array DictEntry} {ep : Nat}, s1.heap.get? b = some o → o.data = .dict es ep → H b = none := by
      intro b o es ep e dd
      cases q : H b with
      | none => rfl
      | some u =>
        obtain rfl : b = a := hA b (by rw [q]; simp)
        rw [ha] at e
        cases e
        exact nomatch (show Data.seq vs.toArray _ = Data.dict es ep from dd)
    have nsK : ∀ {b : Addr} {m : Str → Option Value}, s1.heap.Ns b m → (hidT s1.heap H).Ns b m := fun {b m} ⟨o, es, ep, e, dd, rr⟩ => ⟨o, es, ep, part e (free e dd), dd, rr⟩
    have inK : K.In (hidT s1.heap H) := fun b o e => part (KX b o e) (by
      cases q : H b with
      | none => rfl
      | some u =>
        obtain rfl : b = a := hA b (by rw [q]; simp)
        rw [hK (by rw [q]; simp)] at e
        cases e)
    have hM : Mod K mg (hidT s1.heap H) := ⟨inK, nsK hns, ⟨mb, nsK hb, hbb⟩, let ⟨mc, u1, u2⟩ := hlim; ⟨mc, nsK u1, u2⟩⟩
    have e0 : Env0 P w K mg (hidT s1.heap H) callerA [] s1 H := ⟨rfl, hM, fun b o e => of_hidT e, Nat.le_of_eq (hidT_size _ _), trivial, fun b hz => absurd (show b ∈ ([] : List Addr) from hz) (by simp), hok, .of_eq hg⟩
    have R : Rel G [] H [] H := ⟨fun _ _ z => z, rfl, List.nodup_nil, fun n b c z _ => (by cases z), fun b z => absurd z (by simp)⟩
    have call : rC G fs [V.ref a] H fun v _ => v = .bl true := ⟨[], H, [], [.scr ns], .bl true, mz, hfs, R, .cons (.scr (hG ▸ hS)) .nil, fun v r2 F2 H2 x2 R2 hv => by cases hv; rfl⟩
    refine codeAny_mono ((T _ inK (nsK hns)).run callerA [] s1 H ⟨[.ref a], []⟩ [.ref a] [.ref a] _ E0 hr rfl e0 (fun _ => hbind s1 (.ref a)) (.cons (a := V.ref a) rfl .nil) call) fun o s' h => ?_
    match o, h with
    | .error _, h => exact False.elim h
    | .ok .next, h => exact False.elim h
    | .ok .brk, h => exact False.elim h
    | .ok .cont, h => exact False.elim h
    | .ok (.ret u), h =>
      obtain ⟨v, H', os, bare, un, hok', r', q⟩ := h
      obtain rfl : v = .bl true := q
      obtain rfl : u = Value.bool true := r'
      refine ⟨rfl, OldK.of_keep fun b o e => ?_, os, bare⟩
      cases q : H b with
      | none => exact un.keep b o e q (by intro z; exact absurd (show b ∈ ([] : List Addr) from z) (by simp)) (by simp)
      | some u =>
        rcases hO b with z | ⟨ob, xs, z⟩
        · rw [q] at z
          cases z
        · have z2 := un.frzs b ob _ z
          obtain ⟨e1, _⟩ := hok b _ z
          obtain ⟨e2, _⟩ := hok' b _ z2
          rw [e] at e1
          cases e1
          exact e2
  cases hk : K.lookup a with
  | some o =>
    have e := KX a o hk
    rw [ha] at e
    cases e
    refine main (fun _ => none) (fun _ => .inl rfl) (.inr ⟨_, vs.toArray, _, hk, rfl, rfl, rfl, by rw [List.size_toArray, lenV]; exact hl, by simpa using rv⟩) (fun b u z => nomatch (show (none : Option HO) = some u from z)) (fun b z => absurd rfl z) fun z => absurd rfl z
  | none =>
    refine main (fun b => if b = a then some (.frz { cls := .type "list", data := .seq vs.toArray } (.lst (ns.map V.int))) else none) (fun b => ?_) (.inl (.inr ⟨{ cls := .type "list", data := .seq vs.toArray }, if_pos rfl⟩)) (fun b u z => ?_) (fun b z => ?_) fun _ => hk
    · exact if h : b = a then .inr ⟨_, _, if_pos h⟩ else .inl (if_neg h)
    · by_cases h : b = a
      · have z' := (if_pos h).symm.trans z
        cases z'
        subst h
        exact ⟨ha, by rw [List.length_map]; exact hl, vs, _, rv, ha⟩
      · have z' := (if_neg h).symm.trans z
        cases z'
    · by_cases h : b = a
      · exact h
      · exact absurd (if_neg h) z

theorem walk_k {l : PySem.W.OpenLaw} {n k : Nat} {q : Program} {loose : List Str} {XP : (Str → Option Value) → Heap → Prop} {YP : World → Heap → Prop} {d : DefRec} {K : Params → PySem.W.Frag} {x : Str} (hn : l.most = some n) (hn2 : n ≤ sizeLine) (hdf : d.params.defaults = []) (hr : Room k callerA)
    (hY : ∀ (w : World) (h : Heap), YP w h → (K w.params).In h)
    (T : ∀ (w : World) (mg : Str → Option Value) (fa : Addr) (h : Heap), (K w.params).In h → h.Ns mainGlobals mg → mg d.name = some (.ref fa) →
      ∃ (fd : FuncData) (G : Cfg) (fs : Fs), G.K = K w.params ∧ (∀ (s : Shared) (u : Value), BindsTo s fd ⟨[u], []⟩ [(x, u)]) ∧
        (∀ base : Heap, (K w.params).In base → base.Ns mainGlobals mg → FnG l.prog w (K w.params) mg base CX0 G k fa fd [x] fs) ∧ ∀ ns : List Int, ns.length ≤ n → ∃ m : Mem, fs [.scr ns] [] = some (.bl true, m)) :
    PySem.W.WalkO q loose XP YP l.row.toRowW d [] (fun f vs => PySem.call f vs) := by
  refine Att.attach_call hn hdf fun w s0 s1 mg mb fa o pm cd doc a vs ns W Y ho hd hcd hmg hobj hints hlen hg => ?_
  have KX := hY w _ Y
  obtain ⟨fd, G, fs, hG, hb, hF, hL⟩ := T w mg fa _ KX W.T.g hmg
  obtain ⟨m, hm⟩ := hL ns hlen
  exact law_run hG KX W.T.g W.T.b W.T.builtins W.T.nolimit hg hobj hints (Nat.le_trans hlen hn2) hr hF hb hm
end Kb

set_option Elab.async false
set_option linter.all false
set_option maxRecDepth 100000
set_option maxHeartbeats 4000000
set_option autoImplicit false
/-! KcP: bundles of what is known of a def, a method, a class; small helps. -/
namespace Kb
open PySem PySem.Spec PyProof.Rows L2

section
variable (P : Program) (w : World) (K : PySem.W.Frag) (mg : Str → Option Value) (base : Heap) (G : Cfg) (k : Nat)
structure Cal (x : Str) (f : Addr) (fd : FuncData) (ps : List Str) (fs : Fs) : Prop where
  fn : FnG P w K mg base CX0 G k f fd ps fs
  kp : PySem.W.keepIn K (.ref f) = true
  bi : Binds K fd ps []
  mg : mg x = some (.ref f)
structure Mth (c : Nat) (m : Str) (f : Addr) (fd : FuncData) (ps : List Str) (fs : Fs) : Prop where
  fn : FnG P w K mg base CX0 G k f fd ps fs
  bi : Binds K fd ps []
  meth : Meth K (G.cls c) m f
structure Mkc (c : Nat) (x : Str) (f : Addr) (fd : FuncData) (ps : List Str) (fs : Fs) : Prop where
  fn : FnG P w K mg base CX0 G k f fd ps fs
  bi : Binds K fd ps []
  mkc : Mk K (G.cls c) f
  mg : mg x = some (.ref (G.cls c))
structure Opr (c : Nat) (m : Str) (f : Addr) (fd : FuncData) (ps : List Str) (fs : Fs) : Prop where
  fn : FnG P w K mg base CX0 G k f fd ps fs
  bi : Binds K fd ps []
  first : PySem.W.selfFirst K (G.cls c) = true
  find : PySem.W.findIn K (.ref (G.cls c)) m = some (some (.ref f))
  isf : PySem.W.isFn K (.ref f) = true
structure Prp (c : Nat) (m : Str) (pa f : Addr) (fd : FuncData) (ps : List Str) (fs : Fs) : Prop where
  fn : FnG P w K mg base CX0 G k f fd ps fs
  bi : Binds K fd ps []
  prop : PropOf K (G.cls c) m pa f
end
theorem Ctx.blk {X : Cx} {G : Cfg} {k : Nat} {s : Shared} {H : Hp} {scope : Scope} {cenv : Env} {fp : List Addr} (c : Ctx X G k) : Ctx (X.blk s H scope cenv fp) G k := ⟨c.hK, c.calm, c.room, c.gua⟩
theorem Ctx.up {X : Cx} {G : Cfg} {k : Nat} (c : Ctx X G k) : Ctx X G k := c
theorem e_gin {X : Cx} {G : Cfg} {pos : Pos} {x : Str} {i : Int} (h : ∃ t, X.mg x = some (.int i t)) (hg : Gl X x) (hd : (x == ("__debug__" : Str)) = false := by decide) : PE X (.Name x pos) (semE G (cst (.int i))) := by
  obtain ⟨t, h⟩ := h
  exact e_gint hg h hd
theorem fng_zero {P : Program} {w : World} {K : PySem.W.Frag} {mg : Str → Option Value} {base : Heap} {G : Cfg} {k : Nat} {f : Addr} {fd : FuncData} {ps : List Str} {fs : Fs} (h : ∀ ds m, fs ds m = none) : FnG P w K mg base CX0 G k f fd ps fs :=
  ⟨fun A outer s H args us vs Q E _ _ _ _ _ ⟨r, F, m, as, d, m', e, _⟩ => by
    rw [h] at e
    cases e⟩
section
variable {K : PySem.W.Frag} {C D : Addr}
theorem kit_ct {T : Tb} (h : PySem.W.subIn K (.ref C) (.type T.name) = some false) : PySem.W.kitOne K (.ref C) (.type T.name) = some false := by
  have hm : PySem.W.kitMeta T.name = true := by cases T <;> decide +kernel
  unfold PySem.W.kitOne PySem.W.kitCls
  rw [if_neg (show ¬ (Value.ref C == Value.type T.name) = true from fun z => by cases z)]
  show (if PySem.W.kitMeta T.name = true then _ else _) = _
  rw [if_pos hm]
  exact h
theorem kit_to {u : Value} (hu : (u == Value.ref C) = false) (hc : PySem.W.isClsIn K C = true) (ht : PySem.W.typeIn K (.ref C) = some (.type "type")) (h : PySem.W.subIn K u (.ref C) = some false) : PySem.W.kitOne K u (.ref C) = some false := by
  unfold PySem.W.kitOne PySem.W.kitCls
  rw [if_neg (by rw [hu]; exact Bool.false_ne_true)]
  show (if ((PySem.W.clsIn K C).isSome && PySem.W.typeIn K (.ref C) == some (.type "type")) = true then _ else _) = _
  rw [ht, if_pos (by rw [show (PySem.W.clsIn K C).isSome = true from hc]; rfl)]
  exact h
theorem kit_same : PySem.W.kitOne K (.ref C) (.ref C) = some true := by
  unfold PySem.W.kitOne
  rw [if_pos (beq_self_eq_true _)]
theorem kit_else (hc : PySem.W.isClsIn K C = true) (ht : PySem.W.typeIn K (.ref C) = some (.type "type")) (hs : PySem.W.subIn K (.ref C) (.ref C) = some true) (h : PySem.W.subIn K (.ref D) (.ref C) = some false) : PySem.W.kitOne K (.ref D) (.ref C) = some false := by
  refine kit_to ?_ hc ht h
  cases e : (Value.ref D == Value.ref C) with
  | false => rfl
  | true =>
    have e2 : Value.ref D = Value.ref C := eq_of_beq e
    rw [e2, hs] at h
    cases h
theorem kinds7 (hc : PySem.W.isClsIn K C = true) (ht : PySem.W.typeIn K (.ref C) = some (.type "type")) (h1 : PySem.W.subIn K (.type "NoneType") (.ref C) = some false) (h2 : PySem.W.subIn K (.type "bool") (.ref C) = some false) (h3 : PySem.W.subIn K (.type "int") (.ref C) = some false) (h4 : PySem.W.subIn K (.type "str") (.ref C) = some false)
    (h5 : PySem.W.subIn K (.type "list") (.ref C) = some false) (h6 : PySem.W.subIn K (.type "tuple") (.ref C) = some false) (h7 : PySem.W.subIn K (.type "dict") (.ref C) = some false) (t : Tb) : PySem.W.kitOne K (.type t.name) (.ref C) = some false := by
  refine kit_to (by cases t <;> rfl) hc ht ?_
  cases t
  · exact h1
  · exact h2
  · exact h3
  · exact h4
  · exact h5
  · exact h6
  · exact h7
end
theorem bt_len : bootBuiltins "len" = some (.builtin "len") := by decide +kernel
theorem bt_abs : bootBuiltins "abs" = some (.builtin "abs") := by decide +kernel
theorem bt_max : bootBuiltins "max" = some (.builtin "max") := by decide +kernel
theorem bt_min : bootBuiltins "min" = some (.builtin "min") := by decide +kernel
theorem bt_sum : bootBuiltins "sum" = some (.builtin "sum") := by decide +kernel
theorem bt_any : bootBuiltins "any" = some (.builtin "any") := by decide +kernel
theorem bt_all : bootBuiltins "all" = some (.builtin "all") := by decide +kernel
theorem bt_divmod : bootBuiltins "divmod" = some (.builtin "divmod") := by decide +kernel
theorem bt_repr : bootBuiltins "repr" = some (.builtin "repr") := by decide +kernel
theorem bt_isinstance : bootBuiltins "isinstance" = some (.builtin "isinstance") := by decide +kernel
theorem bt_sorted : bootBuiltins "sorted" = some (.builtin "sorted") := by decide +kernel
theorem bt_range : bootBuiltins "range" = some (.type "range") := by decide +kernel
theorem bt_int : bootBuiltins "int" = some (.type "int") := by decide +kernel
theorem bt_bool : bootBuiltins "bool" = some (.type "bool") := by decide +kernel
theorem bt_tuple : bootBuiltins "tuple" = some (.type "tuple") := by decide +kernel
theorem bt_list : bootBuiltins "list" = some (.type "list") := by decide +kernel
theorem bt_str : bootBuiltins "str" = some (.type "str") := by decide +kernel
theorem bt_dict : bootBuiltins "dict" = some (.type "dict") := by decide +kernel
theorem bt_set : bootBuiltins "set" = some (.type "set") := by decide +kernel
end Kb

set_option Elab.async false
set_option linter.all false
set_option maxRecDepth 100000
set_option maxHeartbeats 4000000
set_option autoImplicit false
/-! KcQ: == and != of own classes. -/
namespace Kb
open PySem PySem.Spec PyProof.Rows L2 PySem.Calls

section
variable {prog : Program} {w : World} {A : Around} {E : Value → Shared → Prop} {s : Shared} {K : PySem.W.Frag} {x C f : Addr} {ox : Obj} {od : Option Obj} {b : Value}
/-- o != p where the class has its own __eq__ alone -/
theorem ne_own {Q : Value → Shared → Prop} {tb : Value} (hu : A.units + 1 < cLine) (X : K.In s.heap) (I : PySem.W.InstAt s.heap x ox C od) (hb : PySem.W.Looks (model prog w) s.heap (typeOf b) tb) (hn : PySem.W.notFirst K C tb = true) (hs : PySem.W.findIn K (.ref C) "__ne__" = some (some (.builtin "object.__ne__")))
    (he : PySem.W.findIn K (.ref C) "__eq__" = some (some (.ref f))) (hf : PySem.W.isFn K (.ref f) = true) (hm : PySem.W.mroIn K C (.type "object") = some true)
    (h : wpAny (model prog w) A.in1 (call (.ref f) [.ref x, b]) (fun v s' => ∃ k, v = .bool k ∧ Q (.bool (!k)) s') E s) : wpAny (model prog w) A (richCompare .NotEq (.ref x) b) Q E s := by
  have inner : wpAny (model prog w) A (call (.builtin "object.__ne__") [.ref x, b]) (fun v s' => ∃ k, v = .bool (!k) ∧ Q (.bool (!k)) s') E s := by
    have sub : PySem.W.Looks (model prog w) s.heap (isInstance (.ref x) (.type "object")) true := I.type.andThen (PySem.W.looks_mroIn X hm)
    refine wpAny_call (codeAny_call_builtin PySem.F.cmp_object.ne.plain PySem.F.cmpEntry_ne (@PySem.W.check_slot (model prog w) _ _ s "object.__ne__" "object" "__ne__" (.ref x) [b] [] _ PySem.F.cmpKind_ne PySem.F.cmpSplit_ne sub (PySem.F.cmpArgs_ne _ _) ?_))
    unfold Builtin.«object.__ne__»
    refine wpAny_bind (m := slotArgs "__ne__" 1 _) (wpAny_pure ?_)
    refine wpAny_bind (wpAny_cRoomFor hu ?_)
    refine wpAny_bind (PySem.W.ifBound_K X I he hf (wpAny_mono h (fun v s' hv => ?_) fun _ _ z => z))
    obtain ⟨k, rfl, hq⟩ := hv
    exact wpAny_bind (wpAny_truthy_bool (wpAny_pure ⟨k, rfl, hq⟩))
  have one : wpAny (model prog w) A (tryCompare (.ref x) "__ne__" b) (fun r s' => ∃ v, r = some v ∧ Q v s') E s := by
    unfold tryCompare
    refine wpAny_bind ?_
    simp only [callSpecialIfBound?, bindSpecialIfBound?]
    refine wpAny_holding (wpAny_bind (wpAny_bind (wpAny_bind (I.type.here ((PySem.W.looks_findIn X hs).here ?_)))))
    refine wpAny_bind (wpAny_askSetting (wpAny_ite ?_))
    have fin : ∀ R : Option Value → Shared → Prop, (∀ k s', Q (.bool (!k)) s' → R (some (.bool (!k))) s') → wpAny (model prog w) A (call (.builtin "object.__ne__") ([.ref x] ++ [b]) >>= fun v => pure (some v)) R E s := fun R hR => wpAny_bind (wpAny_mono inner (fun v s' hv => by
        obtain ⟨k, rfl, hq⟩ := hv
        exact wpAny_pure (hR k s' hq)) fun _ _ z => z)
    rw [PySem.F.cmp_object.ne.bind]
    split
    · exact wpAny_bind (wpAny_pure (wpAny_pure (fin _ fun k s' hq => wpAny_pure ⟨_, rfl, hq⟩)))
    · exact wpAny_tryCatch (wpAny_bind (wpAny_pure (wpAny_pure (fin _ fun k s' hq => wpAny_pure ⟨_, rfl, hq⟩))))
  unfold richCompare
  simp only [oneThing_ref]
  refine wpAny_holding (wpAny_bind (wpAny_cRoomFor (Nat.lt_of_succ_lt hu) ?_))
  refine wpAny_bind (I.type.here (wpAny_bind (hb.here ?_)))
  split
  · rename_i q
    have e : PySem.W.subIn K tb (.ref C) = some false := by
      rcases Bool.or_eq_true_iff.mp hn with z | z
      · rw [beq_iff_eq.mp z] at q
        simp at q
      · exact beq_iff_eq.mp z
    refine wpAny_bind ((PySem.W.looks_subIn X e).here ?_)
    simp only [Bool.false_eq_true, if_false]
    refine wpAny_bind (wpAny_mono one (fun r s' z => ?_) fun _ _ z => z)
    obtain ⟨v, rfl, hq⟩ := z
    exact wpAny_pure hq
  · refine wpAny_bind (wpAny_pure ?_)
    simp only [Bool.false_eq_true, if_false]
    refine wpAny_bind (wpAny_mono one (fun r s' z => ?_) fun _ _ z => z)
    obtain ⟨v, rfl, hq⟩ := z
    exact wpAny_pure hq
end

/-- the class's own __eq__ -/
structure Eqr (P : Program) (w : World) (K : PySem.W.Frag) (mg : Str → Option Value) (base : Heap) (G : Cfg) (k c : Nat) (f : Addr) (fd : FuncData) (ps : List Str) (fs : Fs) : Prop where
  fn : FnG P w K mg base CX0 G k f fd ps fs
  bi : Binds K fd ps []
  find : PySem.W.findIn K (.ref (G.cls c)) "__eq__" = some (some (.ref f))
  isf : PySem.W.isFn K (.ref f) = true
  nfst : ∀ t, okT G.n t = true → PySem.W.notFirst K (G.cls c) (tv G t) = true
  nef : PySem.W.findIn K (.ref (G.cls c)) "__ne__" = some (some (.builtin "object.__ne__"))
  mro : PySem.W.mroIn K (G.cls c) (.type "object") = some true
def owneqD (c : Nat) (f : Fs) (a b : D) (m : Mem) : Option (D × Mem) := (insD m a).bind fun q => (tyD m b).bind fun _ => if q.1 = c then f [a, b] m else none
def ownneD (c : Nat) (f : Fs) (a b : D) (m : Mem) : Option (D × Mem) := (owneqD c f a b m).bind fun p => match p.1 with
  | .bl k => some (.bl (!k), p.2)
  | _ => none
section
variable {X : Cx} {G : Cfg} {k c : Nat} {f : Addr} {fd : FuncData} {ps : List Str} {fs : Fs}
theorem op_owneq (c : Nat) (cx : Ctx X G k) (ot : OwnT G.K G) (o : Eqr X.prog X.w X.K X.mg X.base G k c f fd ps fs) : OpR X (compareOp .Eq) (rD G (owneqD c fs)) := by
  intro pins s σ H x y v u Q I rx ry ⟨r, F, m, a, b, d, m', e, R, h1, h2, q⟩
  obtain ⟨⟨c1, xs⟩, e1, e3⟩ := bind2 (γ := Unit) e
  obtain ⟨t, e2, e4⟩ := bind2 (γ := Unit) e3
  have e5 : (if c1 = c then fs [a, b] m else none) = some (d, m') := e4
  split at e5
  case isFalse => cases e5
  rename_i hc
  subst hc
  obtain ⟨a1, dx, vs, rfl, g1, _⟩ := ins_of R h1 e1
  obtain ⟨hty, ht⟩ := ty_of ot R h2 e2
  rw [cx.hK] at hty
  obtain ⟨Z, kz, hz, _⟩ := kit_of I ry hty
  cases (show v = Value.ref a1 from rx)
  obtain ⟨mA, J, _⟩ := ins_get I.hok g1
  obtain ⟨od, J, _⟩ := J.look
  obtain ⟨mm, hF⟩ := I.fr
  show wpAny (model X.prog X.w) X.A (richCompare .Eq (.ref a1) u) (EP X pins σ Q) X.xe s
  refine PySem.W.cmp_K (op := .Eq) cx.room.units0 hF I.ok.mod.kin J (kz.ty _ _ I.kIn hz) (o.nfst t ht) o.find o.isf ?_
  have post : rC G fs [V.ref a1, y] H fun v H' => (∃ r F d, Dat G r F v d) ∧ Q v H' := ⟨r, F, m, [a, b], d, m', e5, R, .cons h1 (.cons h2 .nil), fun v2 r2 F2 H2 x2 R2 h3 => ⟨⟨_, _, _, h3⟩, q v2 r2 F2 H2 x2 R2 h3⟩⟩
  refine thn (run_g (us2 := [.ref a1, u]) o.fn cx.room cx.gua (fun hl => by have z := o.bi s [.ref a1, u] I.kIn (by rw [List.append_nil]; exact hl); rwa [List.append_nil] at z) I (.cons (a := V.ref a1) rfl (.cons ry .nil)) post) fun w s' hw => ?_
  obtain ⟨v2, H', I', rv, ⟨_, _, _, h3⟩, q2⟩ := hw
  exact back_of (X := X) h3 rv ⟨v2, H', I', rv, q2⟩
theorem op_ownne (c : Nat) (cx : Ctx X G (k + 1)) (ot : OwnT G.K G) (o : Eqr X.prog X.w X.K X.mg X.base G k c f fd ps fs) : OpR X (compareOp .NotEq) (rD G (ownneD c fs)) := by
  intro pins s σ H x y v u Q I rx ry ⟨r, F, m, a, b, d, m', e, R, h1, h2, q⟩
  obtain ⟨⟨d0, m0⟩, e0, e9⟩ := bind2 (γ := Unit) e
  obtain ⟨⟨c1, xs⟩, e1, e3⟩ := bind2 (γ := Unit) e0
  obtain ⟨t, e2, e4⟩ := bind2 (γ := Unit) e3
  have e5 : (if c1 = c then fs [a, b] m else none) = some (d0, m0) := e4
  split at e5
  case isFalse => cases e5
  rename_i hc
  subst hc
  cases d0 with
  | bl kk =>
    cases e9
    obtain ⟨a1, dx, vs, rfl, g1, _⟩ := ins_of R h1 e1
    obtain ⟨hty, ht⟩ := ty_of ot R h2 e2
    rw [cx.hK] at hty
    obtain ⟨Z, kz, hz, _⟩ := kit_of I ry hty
    cases (show v = Value.ref a1 from rx)
    obtain ⟨mA, J, _⟩ := ins_get I.hok g1
    obtain ⟨od, J, _⟩ := J.look
    show wpAny (model X.prog X.w) X.A (richCompare .NotEq (.ref a1) u) (EP X pins σ Q) X.xe s
    refine ne_own (by have := cx.room.units; omega) I.kIn J (kz.ty _ _ I.kIn hz) (o.nfst t ht) o.nef o.find o.isf o.mro ?_
    have post : rC G fs [V.ref a1, y] H fun v H' => v = .bl kk ∧ Q (.bl (!kk)) H' := ⟨r, F, m, [a, b], .bl kk, m0, e5, R, .cons h1 (.cons h2 .nil), fun v2 r2 F2 H2 x2 R2 h3 => by
      cases h3
      exact ⟨rfl, q _ r2 F2 H2 x2 R2 (.bl _)⟩⟩
    have hl : ∀ hl : ([Value.ref a1, u] : List Value).length = ps.length, BindsTo s fd ⟨[.ref a1, u], []⟩ (ps.zip [.ref a1, u]) := fun hl => by have z := o.bi s [.ref a1, u] I.kIn (by rw [List.append_nil]; exact hl); rwa [List.append_nil] at z
    refine wpAny_call (codeAny_mono (o.fn.run X.A.in1 X.stack s H ⟨[.ref a1, u], []⟩ [.ref a1, u] [V.ref a1, y] _ E0 cx.room.in1 cx.gua I.env0.in1 hl (.cons (a := V.ref a1) rfl (.cons ry .nil)) post) fun out s' ho => ?_)
    match out, ho with
    | .ok (.ret w), ho =>
      obtain ⟨v2, H', I', rv, ev, q2⟩ := I.after ho
      subst ev
      cases (show w = Value.bool kk from rv)
      exact ⟨kk, rfl, .bl (!kk), H', I', rfl, q2⟩
    | .ok .next, ho => exact False.elim ho
    | .ok .brk, ho => exact False.elim ho
    | .ok .cont, ho => exact False.elim ho
    | .error _, ho => exact False.elim ho
  | _ => cases e9
end
end Kb

set_option Elab.async false
set_option linter.all false
set_option maxRecDepth 100000
set_option maxHeartbeats 4000000
set_option autoImplicit false
/-! KcR: repr of own classes, f-strings with a repr in it. -/
namespace Kb
open PySem PySem.Spec PyProof.Rows L2

/-- the text of a list or tuple -/
def shownQ (m : Mem) (d : D) : Option Str := (toP m d).bind fun p => match p with
  | .list xs => if p.showable = true ∧ p.hasDict = false ∧ p.depth ≤ 20 ∧ p.shown.length ≤ 1000000 then some p.shown else none
  | .tuple xs => if p.showable = true ∧ p.hasDict = false ∧ p.depth ≤ 20 ∧ p.shown.length ≤ 1000000 then some p.shown else none
  | _ => none
def fmtE (a : SE) : SE := fun env m => (a env m).bind fun p => (shownQ p.2 p.1).map fun x => (.str x, p.2)
/-- f'x{a!r}y' -/
def fstE (x y : Str) (a : SE) : SE := fun env m => (a env m).bind fun p => (shownQ p.2 p.1).bind fun z => if x.length ≤ 1000 ∧ y.length ≤ 1000 then some (.str (x ++ z ++ y), p.2) else none
def ownreprD (c : Nat) (f : Fs) : FD := fun as m => match as with
  | [a] => (insD m a).bind fun q => if q.1 = c then (f [a] m).bind fun p => match p.1 with
    | .str x => some (.str x, p.2)
    | _ => none
    else none
  | _ => none
structure Rpr (P : Program) (w : World) (K : PySem.W.Frag) (mg : Str → Option Value) (base : Heap) (G : Cfg) (k c : Nat) (f : Addr) (fd : FuncData) (ps : List Str) (fs : Fs) : Prop where
  fn : FnG P w K mg base CX0 G k f fd ps fs
  bi : Binds K fd ps []
  find : PySem.W.findIn K (.ref (G.cls c)) "__repr__" = some (some (.ref f))
  isf : PySem.W.isFn K (.ref f) = true
section
variable {X : Cx} {G : Cfg} {k c : Nat} {f : Addr} {fd : FuncData} {ps : List Str} {fs : Fs} {e : Expr} {se : SE} {pos p1 p2 : Pos}
theorem shownQ_some {m : Mem} {d : D} {x : Str} (h : shownQ m d = some x) : ∃ p, toP m d = some p ∧ p.showable = true ∧ p.hasDict = false ∧ p.depth ≤ 20 ∧ p.shown.length ≤ 1000000 ∧ x = p.shown ∧ ((∃ xs, p = .list xs) ∨ ∃ xs, p = .tuple xs) := by
  obtain ⟨p, e1, e2⟩ := bind2 (γ := Unit) h
  split at e2
  · rename_i xs
    split at e2
    · rename_i hl
      cases e2
      exact ⟨_, e1, hl.1, hl.2.1, hl.2.2.1, hl.2.2.2, rfl, .inl ⟨xs, rfl⟩⟩
    · cases e2
  · rename_i xs
    split at e2
    · rename_i hl
      cases e2
      exact ⟨_, e1, hl.1, hl.2.1, hl.2.2.1, hl.2.2.2, rfl, .inr ⟨xs, rfl⟩⟩
    · cases e2
  · cases e2
theorem pe_fmtD (cx : Ctx X G k) (he : PE X e (semE G se)) : PE X (.FormattedValue e 114 none pos) (semE G (fmtE se)) := ⟨fun pins s σ H Q I ⟨r, F, env, m, d, m', e0, R, E, q⟩ => by
  obtain ⟨⟨d1, m1⟩, e1, e2⟩ := bind2 (γ := Unit) e0
  obtain ⟨x, e3, e4⟩ := Option.map_eq_some_iff.mp e2
  cases e4
  obtain ⟨p, e5, h1, h2, h3, h4, rfl, hp⟩ := shownQ_some e3
  have step : semE G se σ H fun v H1 => Dp X.K H1 v p ∧ (∃ a, v = .ref a) ∧ Q (.str p.shown) H1 := ⟨r, F, env, m, d1, m1, e1, R, E, fun v r1 F1 H1 x1 R1 hv => by
    have hd := toP_ok cx.hK R1 hv e5
    refine ⟨hd, ?_, q _ r1 F1 H1 x1 R1 (.str _)⟩
    rcases hp with ⟨xs, rfl⟩ | ⟨xs, rfl⟩ <;> cases hd <;> exact ⟨_, rfl⟩⟩
  refine wpAny_FormattedValue_repr (thn (he.run pins s σ H _ I step) fun u s1 ⟨v, H1, I1, rv, hd, ⟨a, ea⟩, q1⟩ => ?_)
  subst ea
  obtain ⟨as, rd⟩ := Dp.reads I1 _ _ u hd rv
  cases (show u = Value.ref a from rv)
  have hz : p.shown.length ≤ sizeLine := by rw [sizeLine_eq]; omega
  have hu := cx.room.units
  refine pyReprObj_of_reads rd h1 (PyData.noDict_hsm h2) cx.gua (by omega) (fun _ _ z => z) (fun h' t tk kk => ?_) hz
  exact wpAny_formatField_str ⟨.str p.shown, H1, I1.kept (t' := tk) kk, ⟨_, rfl⟩, q1⟩ ⟨.str p.shown, H1, I1.kept (t' := tk + 1) kk, ⟨_, rfl⟩, q1⟩ hz⟩
theorem e_fst {x y : Str} {j1 j2 : Nat} {p3 p4 : Pos} (cx : Ctx X G k) (he : PE X e (semE G se)) : PE X (.JoinedStr [.Constant (.str x) j1 p1, .FormattedValue e 114 none p2, .Constant (.str y) j2 p3] p4) (semE G (fstE x y se)) :=
  wkE (pe_joined (.cons pe_str (.cons (pe_fmtD cx he) (.cons pe_str .nil)))) fun σ H Q ⟨r, F, env, m, d, m', e0, R, E, q⟩ => by
    obtain ⟨⟨d1, m1⟩, e1, e2⟩ := bind2 (γ := Unit) e0
    obtain ⟨z, e3, e4⟩ := bind2 (γ := Unit) e2
    split at e4
    case isFalse => cases e4
    rename_i hl
    cases e4
    have hz : z.length ≤ 1000000 := by
      obtain ⟨p, _, _, _, _, h4, h5, _⟩ := shownQ_some e3
      rw [h5]
      exact h4
    have ez : (Str.empty ++ x) = x := Str.empty_append x
    refine ⟨x, rfl, by rw [ez, sizeLine_eq]; omega, ?_⟩
    rw [ez]
    refine ⟨r, F, env, m, .str z, m1, by show (se env m).bind _ = _; rw [e1]; show (shownQ m1 d1).map _ = _; rw [e3]; rfl, R, E, fun v r1 F1 H1 x1 R1 hv => ?_⟩
    cases hv
    refine ⟨z, rfl, by rw [Str.length_append, sizeLine_eq]; omega, y, rfl, by rw [Str.length_append, Str.length_append, sizeLine_eq]; omega, ?_⟩
    exact q _ r1 F1 H1 x1 R1 (.str _)
theorem c_ownrepr (c : Nat) (cx : Ctx X G (k + 1)) (o : Rpr X.prog X.w X.K X.mg X.base G k c f fd ps fs) : CallR X (.builtin "repr") (rC G (ownreprD c fs)) := by
  intro pins s σ H xs us Q I rs ⟨r, F, m, as, d, m', e0, R, ha, q⟩
  unfold ownreprD at e0
  split at e0
  case h_2 => cases e0
  rename_i a
  obtain ⟨⟨c1, ys⟩, e1, e2⟩ := bind2 (γ := Unit) e0
  have e3 : (if c1 = c then (fs [a] m).bind fun p => match p.1 with | .str x => some (D.str x, p.2) | _ => none else none) = some (d, m') := e2
  split at e3
  case isFalse => cases e3
  rename_i hc
  subst hc
  obtain ⟨⟨d1, m1⟩, e4, e5⟩ := bind2 (γ := Unit) e3
  cases d1 with
  | str z =>
    cases e5
    obtain ⟨v, rfl, h⟩ := dats1 ha
    obtain ⟨u, rfl, ru⟩ := vals1 rs
    obtain ⟨a1, dx, vs, rfl, g1, _⟩ := ins_of R h e1
    cases (show u = Value.ref a1 from ru)
    obtain ⟨mA, J, _⟩ := ins_get I.hok g1
    obtain ⟨od, J, _⟩ := J.look
    obtain ⟨mm, hF⟩ := I.fr
    have hu : X.A.in1.units < cLine := by
      have := cx.room.units
      show X.A.units + 1 < cLine
      omega
    refine PySem.W.repr_K hu hF I.ok.mod.kin J o.find o.isf ?_
    have post : rC G fs [V.ref a1] H fun v H' => v = .str z ∧ Q (.str z) H' := ⟨r, F, m, [a], .str z, m1, e4, R, .cons h .nil, fun v2 r2 F2 H2 x2 R2 h3 => by
      cases h3
      exact ⟨rfl, q _ r2 F2 H2 x2 R2 (.str _)⟩⟩
    refine wpAny_call (codeAny_mono (o.fn.run X.A.in1 X.stack s H ⟨[.ref a1], []⟩ [.ref a1] [V.ref a1] _ E0 cx.room.in1 cx.gua I.env0.in1 (fun hl => by have w := o.bi s [.ref a1] I.kIn (by rw [List.append_nil]; exact hl); rwa [List.append_nil] at w) (.cons (a := V.ref a1) rfl .nil) post) fun out s' ho => ?_)
    match out, ho with
    | .ok (.ret w), ho =>
      obtain ⟨v2, H', I', rv, ev, q2⟩ := I.after ho
      subst ev
      obtain ⟨t, rfl⟩ := (show ∃ t, w = Value.str z t from rv)
      exact ⟨.str z, H', I', ⟨t, rfl⟩, q2⟩
    | .ok .next, ho => exact False.elim ho
    | .ok .brk, ho => exact False.elim ho
    | .ok .cont, ho => exact False.elim ho
    | .error _, ho => exact False.elim ho
  | _ => cases e5
end
section
variable {K : PySem.W.Frag} {C D : Addr}
theorem nfst_same : PySem.W.notFirst K C (.ref C) = true := by
  unfold PySem.W.notFirst
  rw [show (Value.ref C == Value.ref C) = true from beq_self_eq_true _]
  rfl
theorem nfst_sub {u : Value} (h : PySem.W.subIn K u (.ref C) = some false) : PySem.W.notFirst K C u = true := by
  unfold PySem.W.notFirst
  rw [h]
  cases (u == Value.ref C) <;> rfl
theorem nfst_of {G : Cfg} {c : Nat} (h1 : PySem.W.subIn K (.type "NoneType") (.ref (G.cls c)) = some false) (h2 : PySem.W.subIn K (.type "bool") (.ref (G.cls c)) = some false) (h3 : PySem.W.subIn K (.type "int") (.ref (G.cls c)) = some false) (h4 : PySem.W.subIn K (.type "str") (.ref (G.cls c)) = some false)
    (h5 : PySem.W.subIn K (.type "list") (.ref (G.cls c)) = some false) (h6 : PySem.W.subIn K (.type "tuple") (.ref (G.cls c)) = some false) (h7 : PySem.W.subIn K (.type "dict") (.ref (G.cls c)) = some false) (h : ∀ d < G.n, PySem.W.notFirst K (G.cls c) (.ref (G.cls d)) = true) : ∀ t, okT G.n t = true → PySem.W.notFirst K (G.cls c) (tv G t) = true := fun t ht => by
  cases t with
  | c d => exact h d (of_decide_eq_true ht)
  | b t =>
    cases t
    · exact nfst_sub h1
    · exact nfst_sub h2
    · exact nfst_sub h3
    · exact nfst_sub h4
    · exact nfst_sub h5
    · exact nfst_sub h6
    · exact nfst_sub h7
end
end Kb

set_option Elab.async false
set_option linter.all false
set_option maxRecDepth 100000
set_option maxHeartbeats 4000000
set_option autoImplicit false
/-! KcS: names that hold lists alone: made, changed, looked at, handed on. -/
namespace Kb
open PySem PySem.Spec PyProof.Rows L2

section
variable {G : Cfg} {r r' : List Addr} {F F' H H' : Hp} {σ : L2.St} {env : Ev} {a : Addr} {i : Nat} {d d' : D}
theorem at_set {env : Ev} {j : Nat} {d' : D} (i : Nat) (hj : (env.set i (some d))[j]? = some (some d')) : (i = j ∧ d' = d) ∨ (i ≠ j ∧ env[j]? = some (some d')) := by
  by_cases e : i = j
  · subst e
    have hl : i < env.length := by
      have := (List.getElem?_eq_some_iff.mp hj).1
      rwa [List.length_set] at this
    rw [List.getElem?_set_self hl] at hj
    cases hj
    exact .inl ⟨rfl, rfl⟩
  · rw [List.getElem?_set_ne e] at hj
    exact .inr ⟨e, hj⟩
/-- a name takes a thing alone -/
theorem EnvR.own_new (E : EnvR G r F H σ env) (hi : i < env.length) (io : isOwn d = true) (nr : a ∉ r) (nf : F a = none) (h : OwnAt G r F H a d) (no : ∀ b, OwnS σ env b → b ≠ a) : EnvR G r F H (σ.set i (some (.ref a))) (env.set i (some d)) := by
  have hs : i < σ.length := by rw [E.len]; exact hi
  refine ⟨by rw [List.length_set, List.length_set]; exact E.len, fun j e hj ne => ?_, fun j e hj oe => ?_, fun j k e1 e2 b h1 h2 i1 i2 s1 s2 => ?_⟩
  · rcases at_set i hj with ⟨_, rfl⟩ | ⟨n, hj⟩
    · rw [io] at ne; cases ne
    · rw [List.getElem?_set_ne n]
      exact E.dat j e hj ne
  · rcases at_set i hj with ⟨rfl, rfl⟩ | ⟨n, hj⟩
    · exact ⟨a, List.getElem?_set_self hs, nr, nf, h⟩
    · rw [List.getElem?_set_ne n]
      exact E.own j e hj oe
  · rcases at_set i h1 with ⟨z1, _⟩ | ⟨n1, g1⟩
    · rcases at_set i h2 with ⟨z2, _⟩ | ⟨n2, g2⟩
      · exact z1.symm.trans z2
      · rw [← z1, List.getElem?_set_self hs] at s1
        cases s1
        rw [List.getElem?_set_ne n2] at s2
        exact absurd rfl (no a ⟨k, e2, g2, i2, s2⟩)
    · rw [List.getElem?_set_ne n1] at s1
      rcases at_set i h2 with ⟨z2, _⟩ | ⟨n2, g2⟩
      · rw [← z2, List.getElem?_set_self hs] at s2
        cases s2
        exact absurd rfl (no a ⟨j, e1, g1, i1, s1⟩)
      · rw [List.getElem?_set_ne n2] at s2
        exact E.one j k e1 e2 b g1 g2 i1 i2 s1 s2
theorem OwnS.new {b : Addr} (hi : i < env.length) (e : σ.length = env.length) (h : OwnS (σ.set i (some (.ref a))) (env.set i (some d)) b) : OwnS σ env b ∨ b = a := by
  obtain ⟨j, e1, hj, io, hs⟩ := h
  rcases at_set i hj with ⟨rfl, rfl⟩ | ⟨n, hj⟩
  · rw [List.getElem?_set_self (by rw [e]; exact hi)] at hs
    cases hs
    exact .inr rfl
  · rw [List.getElem?_set_ne n] at hs
    exact .inl ⟨j, e1, hj, io, hs⟩
/-- what a name holds alone changes -/
theorem EnvR.own_mut {o : HO} (E : EnvR G r F H σ env) (hi : env[i]? = some (some d)) (io : isOwn d = true) (hs : σ[i]? = some (some (.ref a))) (io' : isOwn d' = true) (h : OwnAt G r F (upd H a o) a d') : EnvR G r F (upd H a o) σ (env.set i (some d')) := by
  obtain ⟨a', h1, h2, h3, h4⟩ := E.own i d hi io
  rw [hs] at h1
  cases h1
  refine ⟨by rw [List.length_set]; exact E.len, fun j e hj ne => ?_, fun j e hj oe => ?_, fun j k e1 e2 b h1 h2 i1 i2 s1 s2 => ?_⟩
  · rcases at_set i hj with ⟨_, rfl⟩ | ⟨n, hj⟩
    · rw [io'] at ne; cases ne
    · exact E.dat j e hj ne
  · rcases at_set i hj with ⟨rfl, rfl⟩ | ⟨n, hj⟩
    · exact ⟨a, hs, h2, h3, h⟩
    · obtain ⟨b, g1, g2, g3, g4⟩ := E.own j e hj oe
      have ne : b ≠ a := fun z => n (E.one i j d e a hi hj io oe hs (z ▸ g1))
      exact ⟨b, g1, g2, g3, g4.ext (List.prefix_refl _) (fun _ _ z => z) fun o z => by rw [upd_ne ne]; exact z⟩
  · have low : ∀ {j : Nat} {e : D}, (env.set i (some d'))[j]? = some (some e) → isOwn e = true → ∃ e', env[j]? = some (some e') ∧ isOwn e' = true := fun {j e} hj oe => by
      rcases at_set i hj with ⟨rfl, rfl⟩ | ⟨n, hj⟩
      · exact ⟨d, hi, io⟩
      · exact ⟨e, hj, oe⟩
    obtain ⟨f1, g1, k1⟩ := low h1 i1
    obtain ⟨f2, g2, k2⟩ := low h2 i2
    exact E.one j k f1 f2 b g1 g2 k1 k2 s1 s2
theorem OwnS.mut {b : Addr} (hi : env[i]? = some (some d)) (io : isOwn d = true) (h : OwnS σ (env.set i (some d')) b) : OwnS σ env b := by
  obtain ⟨j, e1, hj, oe, hs⟩ := h
  rcases at_set i hj with ⟨rfl, rfl⟩ | ⟨n, hj⟩
  · exact ⟨i, d, hi, io, hs⟩
  · exact ⟨j, e1, hj, oe, hs⟩
theorem ExtO.mut {O : Addr → Prop} {o : HO} (h : O a) : ExtO O r r F F H (upd H a o) := by
  refine ⟨List.prefix_refl _, fun _ _ z => z, fun b u z _ no => ?_, fun _ z => .inl z, fun b z => ?_, fun _ z _ _ _ => z⟩
  · rw [upd_ne (show b ≠ a from fun e => no (e ▸ h))]
    exact z
  · by_cases e : b = a
    · subst e; rw [upd_same] at z; cases z
    · rw [upd_ne e] at z; exact z
/-- it never changes any more -/
theorem EnvR.own_rel {m : Mem} {xs : List D} (R : Rel G r F m H) (E : EnvR G r F H σ env) (hi : env[i]? = some (some (.own xs))) : ∃ (a : Addr) (vs : List V), OwnS σ env a ∧ Rel G r (upd F a (.lst vs)) m H ∧ EnvR G r (upd F a (.lst vs)) H σ (env.set i (some (.lst xs))) ∧
    (∀ b, OwnS σ (env.set i (some (.lst xs))) b → OwnS σ env b) ∧ ExtO (OwnS σ env) r r F (upd F a (.lst vs)) H H := by
  obtain ⟨a, h1, h2, h3, vs, h4, h5⟩ := E.own i _ hi rfl
  have fr : ∀ b u, F b = some u → upd F a (.lst vs) b = some u := fun b u z => by rw [upd_ne (ne_of_none z h3)]; exact z
  have oa : OwnS σ env a := ⟨i, _, hi, rfl, h1⟩
  refine ⟨a, vs, oa, R.adopt h3 h2 h4, ⟨by rw [List.length_set]; exact E.len, fun j e hj ne => ?_, fun j e hj oe => ?_, fun j k e1 e2 b g1 g2 i1 i2 s1 s2 => ?_⟩, fun b hb => ?_, ⟨List.prefix_refl _, fr, fun _ _ z _ _ => z, fun _ z => .inl z, fun _ z => z, fun b z _ _ no => ?_⟩⟩
  · rcases at_set i hj with ⟨rfl, rfl⟩ | ⟨n, hj⟩
    · exact ⟨_, h1, .lst upd_same (h5.up (List.prefix_refl _) fr)⟩
    · obtain ⟨v, g1, g2⟩ := E.dat j e hj ne
      exact ⟨v, g1, g2.up (List.prefix_refl _) fr⟩
  · rcases at_set i hj with ⟨rfl, rfl⟩ | ⟨n, hj⟩
    · cases oe
    · obtain ⟨b, g1, g2, g3, g4⟩ := E.own j e hj oe
      have ne : b ≠ a := fun z => n (E.one i j _ e a hi hj rfl oe h1 (z ▸ g1))
      exact ⟨b, g1, g2, by rw [upd_ne ne]; exact g3, g4.ext (List.prefix_refl _) fr fun _ z => z⟩
  · rcases at_set i g1 with ⟨rfl, rfl⟩ | ⟨n, g1⟩
    · cases i1
    · rcases at_set i g2 with ⟨rfl, rfl⟩ | ⟨n, g2⟩
      · cases i2
      · exact E.one j k e1 e2 b g1 g2 i1 i2 s1 s2
  · obtain ⟨j, e1, hj, oe, hs⟩ := hb
    rcases at_set i hj with ⟨rfl, rfl⟩ | ⟨n, hj⟩
    · cases oe
    · exact ⟨j, e1, hj, oe, hs⟩
  · rw [upd_ne (show b ≠ a from fun e => no (e ▸ oa))]
    exact z
end

/-- what a name holds as a list, alone or not -/
def ovalD (env : Ev) (i : Nat) : Option (List D) := match env[i]? with
  | some (some (.own xs)) => some xs
  | some (some (.lst xs)) => some xs
  | _ => none
theorem oval_of {G : Cfg} {r : List Addr} {F H : Hp} {m : Mem} {σ : L2.St} {env : Ev} {i : Nat} {xs : List D} (R : Rel G r F m H) (E : EnvR G r F H σ env) (e : ovalD env i = some xs) : ∃ a vs, σ[i]? = some (some (.ref a)) ∧ H a = some (.lst vs) ∧ Dats G r F vs xs := by
  unfold ovalD at e
  split at e
  · rename_i ys h
    cases e
    obtain ⟨a, h1, _, _, vs, h4, h5⟩ := E.own i _ h rfl
    exact ⟨a, vs, h1, h4, h5⟩
  · rename_i ys h
    cases e
    obtain ⟨v, h1, h2⟩ := E.dat i _ h rfl
    cases h2 with
    | lst h3 h4 => exact ⟨_, _, h1, R.sub _ _ h3, h4⟩
  · cases e

/-! ### made -/
def semN (G : Cfg) (e : SA) : TE := fun σ H Q => ∃ (r : List Addr) (F : Hp) (env : Ev) (m : Mem) (ds : List D) (m' : Mem), e env m = some (ds, m') ∧ Rel G r F m H ∧ EnvR G r F H σ env ∧
  ∀ (a : Addr) (vs : List V) (r' : List Addr) (F' H' : Hp), Ext r r' F F' H H' → Rel G r' F' m' H' → H' a = some (.lst vs) → a ∉ r' → F' a = none → H a = none → Dats G r' F' vs ds → Q (.ref a) H'
def ownS (i : Nat) (e : SA) : SS := fun env m => (e env m).bind fun p => if i < env.length then some (.nx (env.set i (some (.own p.1))) p.2) else none
def lstA (a : SA) : SA := fun env m => (a env m).bind fun p => if p.1.length ≤ 100000 then some p else none
def listA (a : SE) : SA := fun env m => (a env m).bind fun p => (seqD p.2 p.1).map fun xs => (xs, p.2)
def repA (a b : SE) : SA := fun env m => (a env m).bind fun p => (b env p.2).bind fun q => match lstD q.2 p.1, q.1 with
  | some xs, .int k => if 0 ≤ k ∧ k ≤ 1000 ∧ xs.length ≤ 1000 then some ((List.replicate k.toNat xs).flatten, q.2) else none
  | _, _ => none
section
variable {X : Cx} {G : Cfg} {pos p : Pos} {e a b : Expr} {es : List Expr} {s1 : SA} {sa sb se : SE}
/-- from a new list at p -/
theorem newN {r r1 : List Addr} {F F1 H H1 : Hp} {m1 : Mem} {vs : List V} {ds : List D} {Q : VK} (x1 : Ext r r1 F F1 H H1) (R1 : Rel G r1 F1 m1 H1) (h1 : Dats G r1 F1 vs ds)
    (q : ∀ (a : Addr) (vs : List V) (r' : List Addr) (F' H' : Hp), Ext r r' F F' H H' → Rel G r' F' m1 H' → H' a = some (.lst vs) → a ∉ r' → F' a = none → H a = none → Dats G r' F' vs ds → Q (.ref a) H') : ∀ p, H1 p = none → Q (.ref p) (upd H1 p (.lst vs)) := fun p hp => by
  obtain ⟨R2, x2⟩ := R1.skip (o := .lst vs) hp
  exact q p vs r1 F1 _ (x1.trans x2) R2 upd_same (fun z => R1.own p z hp) (sub_none R1 hp) (x1.dom p hp) (h1.ext x2)
theorem n_lst (h : PA X es (semA G s1)) : PE X (.List es pos) (semN G (lstA s1)) := wkE (pe_lst h) fun σ H Q ⟨r, F, env, m, d, m', e, R, E, q⟩ => by
  obtain ⟨⟨d1, m1⟩, e1, e⟩ := bind2 (γ := Unit) e
  split at e
  · rename_i hl
    cases e
    refine ⟨r, F, env, m, _, _, e1, R, E, fun v r1 F1 H1 x1 R1 h1 => ⟨by rw [h1.length]; exact hun hl, ?_⟩⟩
    exact newN x1 R1 h1 q
  · cases e
theorem n_list (hK : G.K = X.K) {x : Str} (hx : x = "list") (hg : Gl X x) (hm : X.mg x = none) (hv : bootBuiltins x = some (.type "list")) (ha : PE X e (semE G se)) (hn : x ≠ "__name__" := by decide) (hdb : (x == ("__debug__" : Str)) = false := by decide)
    (hs : starEach [e] X.env = (false, eval e X.env) :: starEach [] X.env := by rfl) (hpl : (backTo pos (starEach [] X.env)).any (·.1) = false := by rfl) : PE X (.Call (.Name x p) [e] [] pos) (semN G (listA se)) :=
  wkE (pe_callTy call_list_of hg hm hv (pa_cons ha pa_nil hs) hn hdb hs hpl) fun σ H Q ⟨r, F, env, m, d, m', e, R, E, q⟩ => by
    obtain ⟨⟨d1, m1⟩, e1, e⟩ := bind2 (γ := Unit) e
    obtain ⟨xs, e2, e3⟩ := Option.map_eq_some_iff.mp e
    cases e3
    refine ⟨r, F, env, m, d1, m1, e1, R, E, fun v r1 F1 H1 x1 R1 h1 => ?_⟩
    obtain ⟨p, vs, rfl, hd, hq⟩ := seq_of hK R1 h1 e2
    exact ⟨_, _, rfl, hq, newN x1 R1 hd q⟩
theorem n_rep (ha : PE X a (semE G sa)) (hb : PE X b (semE G sb)) : PE X (.BinOp a .Mult b pos) (semN G (repA sa sb)) := wkE (pe_op op_rep ha hb) fun σ H Q ⟨r, F, env, m, d, m', e, R, E, q⟩ => by
  obtain ⟨⟨d1, m1⟩, e1, e⟩ := bind2 (γ := Unit) e
  obtain ⟨⟨d2, m2⟩, e2, e⟩ := bind2 (γ := Unit) e
  refine ⟨r, F, env, m, d1, m1, e1, R, E, fun v r1 F1 H1 x1 R1 h1 => ?_⟩
  refine ⟨r1, F1, env, m1, d2, m2, e2, R1, E.ext x1, fun w r2 F2 H2 x2 R2 h2 => ?_⟩
  split at e
  · rename_i xs k e3 e4
    have e4 : d2 = .int k := e4
    subst e4
    split at e
    · rename_i hl
      cases e
      obtain ⟨c0, c1, c2⟩ := hl
      obtain ⟨p, vs, rfl, d3, h3⟩ := lst_of R2 (h1.ext x2) e3
      refine ⟨_, _, _, rfl, dat_int h2, h3, by omega, by omega, ?_, newN (x1.trans x2) R2 (d3.flat _) q⟩
      rw [d3.length]
      exact rep_bound c1 c2
    · cases e
  · cases e
variable {tg iter elt c : Expr} {ifs : List Expr} {it : SI} {t : Tg} {tt : SB} {te : SE} {own : List (Str × Nat)} {scope : Scope}
theorem lcO_ok {vs : List Nat} {σ : L2.St} {H : Hp} {Q : VK} (hsub : ∀ i ∈ t.slots, i ∈ vs) (h : semN G (lcA it t vs tt te) σ H Q) : tLc (semI G it) (semG G t) (semB G tt) (semE G te) vs σ H Q := by
  obtain ⟨r, F, env, m, w, m3, e0, R, E, q⟩ := h
  obtain ⟨⟨⟨ds, wt⟩, m1⟩, e1, e2⟩ := bind2 (γ := Unit) e0
  obtain ⟨⟨w', m2⟩, e3, e4⟩ := bind2 (γ := Unit) e2
  split at e4
  · rename_i hl
    cases e4
    refine ⟨r, F, env, m, ds, wt, m1, e1, R, E, fun r1 F1 H1 J x1 R1 ok D hD => ?_⟩
    refine lc_loop hsub R1 (E.ext x1) ok hD e3 hl fun r2 F2 H2 xs x2 R2 hx f2 n2 dw => ?_
    exact q D xs r2 F2 H2 (x1.trans x2) R2 hx n2 f2 (x1.dom D hD) dw
  · cases e4
theorem n_lc (hc : X.calm = true) (hN : X.N.Nodup) (hi : PI X tg iter (semI G it)) (ok : BlkOk X.N X.env.scope scope own) (hsub : ∀ i ∈ t.slots, i ∈ own.map (·.2))
    (hg : ∀ (s : Shared) (H : Hp) (C : Addr) (cl : List (Str × Addr)) (fp : List Addr), PG (X.blk s H scope (compEnvC scope cl C X.env) fp) tg (semG G t)) (ht : ∀ (s : Shared) (H : Hp) (C : Addr) (cl : List (Str × Addr)) (fp : List Addr), PTs (X.blk s H scope (compEnvC scope cl C X.env) fp) ifs (semB G tt))
    (he : ∀ (s : Shared) (H : Hp) (C : Addr) (cl : List (Str × Addr)) (fp : List Addr), PE (X.blk s H scope (compEnvC scope cl C X.env) fp) elt (semE G te)) (hs : ∀ x, foldedSetIterable iter X.env x = pure x := by intro _; rfl) :
    PE X (.ListComp elt [⟨tg, iter, ifs, 0⟩] scope pos) (semN G (lcA it t (own.map (·.2)) tt te)) := wkE (pe_lc hc hN hi ok hg ht he hs) fun _ _ _ h => lcO_ok hsub h
theorem own_ok {i : Nat} {e : SA} {D : Ends} {σ : L2.St} {H : Hp} {te : TE} (hi : ∀ σ H Q, semN G e σ H Q → te σ H Q) (h : semS G (ownS i e) D σ H) : tAsg te (gName i) D σ H := by
  obtain ⟨r, F, env, m, o, e, R, E, q⟩ := h
  obtain ⟨⟨d1, m1⟩, e1, e⟩ := bind2 (γ := Unit) e
  split at e
  · rename_i hl
    cases e
    refine hi _ _ _ ⟨r, F, env, m, d1, m1, e1, R, E, fun a vs r1 F1 H1 x1 R1 ha na fa hn hd => ?_⟩
    have E1 := E.ext x1
    refine q r1 F1 H1 (x1.toO _) _ R1 (E1.own_new hl rfl na fa ⟨vs, ha, hd⟩ fun b ⟨j, d, hj, io, hs⟩ z => ?_) fun b z => ?_
    · obtain ⟨b', g1, _, _, g4⟩ := E.own j d hj io
      rw [hs] at g1
      cases g1
      rw [z] at g4
      exact g4.some hn
    · rcases OwnS.new hl E.len z with z | z
      · exact .inl z
      · exact .inr (z ▸ hn)
  · cases e
theorem s_own (i : Nat) {y : Str} {py : Pos} (hN : X.N.Nodup) (he : PE X e (semN G s1)) (hy : X.N[i]? = some y := by rfl) (hx : Loc X.env.scope y := by first | exact Or.inl rfl | exact Or.inr rfl) (hf : X.fn y = true ∨ X.env.scope.names.lookup y = some .local := by first | exact .inl rfl | exact .inr rfl)
    (hs : swapsWithSole [.Name y py] e pos.line X.env = pure false := by rfl) (hw : swappedStores [.Name y py] e X.env = pure none := by rfl)
    (h1 : (assignEach [.Name y py] X.env).map (·.2) = [assign (.Name y py) X.env] := by rfl) : PS X (.Assign [.Name y py] e pos) (semS G (ownS i s1)) :=
  wkS (ps_asg he (pg_name (i := i) hN hy hx hf) hs hw h1) fun D σ H h => own_ok (fun _ _ _ z => z) h
theorem s_ownLc (i : Nat) {y : Str} {py spos : Pos} (hc : X.calm = true) (hN : X.N.Nodup) (hi : PI X tg iter (semI G it)) (ok : BlkOk X.N X.env.scope scope own) (hsub : ∀ i ∈ t.slots, i ∈ own.map (·.2))
    (hg : ∀ (s : Shared) (H : Hp) (C : Addr) (cl : List (Str × Addr)) (fp : List Addr), PG (X.blk s H scope (compEnvC scope cl C X.env) fp) tg (semG G t)) (ht : ∀ (s : Shared) (H : Hp) (C : Addr) (cl : List (Str × Addr)) (fp : List Addr), PTs (X.blk s H scope (compEnvC scope cl C X.env) fp) ifs (semB G tt))
    (he : ∀ (s : Shared) (H : Hp) (C : Addr) (cl : List (Str × Addr)) (fp : List Addr), PE (X.blk s H scope (compEnvC scope cl C X.env) fp) elt (semE G te))
    (hsw : swapsWith (.ListComp elt [⟨tg, iter, ifs, 0⟩] scope pos) (some (.Name y py)) spos.line X.env = pure true) (hy : X.N[i]? = some y := by rfl) (hyl : X.env.scope.names.lookup y = some .local := by rfl) (hs : ∀ x, foldedSetIterable iter X.env x = pure x := by intro _; rfl) :
    PS X (.Assign [.Name y py] (.ListComp elt [⟨tg, iter, ifs, 0⟩] scope pos) spos) (semS G (ownS i (lcA it t (own.map (·.2)) tt te))) :=
  wkS (ps_setLc (i := i) hc hN hy hyl hsw hi ok hg ht he hs) fun D σ H h => own_ok (fun _ _ _ z => lcO_ok hsub z) h
end

/-! ### handed on: from here on a value like any other -/
def relS (i : Nat) : SS := fun env m => match env[i]? with
  | some (some (.own xs)) => some (.nx (env.set i (some (.lst xs))) m)
  | _ => some (.nx env m)
section
variable {X : Cx} {G : Cfg} {pos p apos : Pos} {e : Expr} {sts : List Stmt} {es : List Expr} {b : SS} {sa : SA} {se si : SE}
theorem s_rel (i : Nat) (h : PSs X sts (semS G b)) : PSs X sts (semS G (seqS (relS i) b)) := wkSs h fun D σ H ⟨r, F, env, m, o, e, R, E, q⟩ => by
  obtain ⟨o1, e1, e2⟩ := bind2 (γ := Unit) e
  unfold relS at e1
  split at e1
  · rename_i xs hx
    cases e1
    obtain ⟨a, vs, _, R2, E2, P2, x2⟩ := E.own_rel R hx
    exact ⟨r, _, _, m, o, e2, R2, E2, q.ext x2 fun b z => .inl (P2 b z)⟩
  · cases e1
    exact ⟨r, F, env, m, o, e2, R, E, q⟩

/-! ### changed -/
def appS (i : Nat) (e : SE) : SS := fun env m => (e env m).bind fun p => match env[i]? with
  | some (some (.own xs)) => if xs.length < 100000 then some (.nx (env.set i (some (.own (xs ++ [p.1])))) p.2) else none
  | _ => none
def extS (i : Nat) (e : SE) : SS := fun env m => (e env m).bind fun p => (lstD p.2 p.1).bind fun ys => match env[i]? with
  | some (some (.own xs)) => if xs.length + ys.length < 100000 then some (.nx (env.set i (some (.own (xs ++ ys)))) p.2) else none
  | _ => none
def popS (i : Nat) : SS := fun env m => match env[i]? with
  | some (some (.own xs)) => if xs.length = 0 then none else some (.nx (env.set i (some (.own xs.dropLast))) m)
  | _ => none
/-- the end of a change at i -/
theorem mut_end {r r1 : List Addr} {F F1 H H1 : Hp} {σ : L2.St} {env : Ev} {m1 : Mem} {i : Nat} {a : Addr} {xs ys : List D} {ws : List V} {D : Ends} (R1 : Rel G r1 F1 m1 H1) (E : EnvR G r F H σ env) (x1 : Ext r r1 F F1 H H1) (hx : env[i]? = some (some (.own xs))) (hs : σ[i]? = some (some (.ref a)))
    (hd : Dats G r1 F1 ws ys) (q : PostS G r F H (OwnS σ env) (.nx (env.set i (some (.own ys))) m1) D) : D.nx σ (upd H1 a (.lst ws)) := by
  have E1 := E.ext x1
  obtain ⟨a', h1, h2, h3, _⟩ := E1.own i _ hx rfl
  rw [hs] at h1
  cases h1
  have oa : OwnS σ env a := ⟨i, _, hx, rfl, hs⟩
  refine q r1 F1 _ ((x1.toO _).trans (ExtO.mut oa) fun _ z => .inl z) σ (R1.other h3 h2) (E1.own_mut (d' := .own ys) hx rfl hs rfl ⟨ws, upd_same, hd⟩) fun b z => .inl (OwnS.mut hx rfl z)
theorem own_here {r r1 : List Addr} {F F1 H H1 : Hp} {σ : L2.St} {env : Ev} {i : Nat} {xs : List D} (E : EnvR G r F H σ env) (x1 : Ext r r1 F F1 H H1) (hx : env[i]? = some (some (.own xs))) {a : Addr} (hs : σ[i]? = some (some (.ref a))) : ∃ vs, H1 a = some (.lst vs) ∧ Dats G r1 F1 vs xs := by
  obtain ⟨a', h1, h2, h3, vs, h4, h5⟩ := (E.ext x1).own i _ hx rfl
  rw [hs] at h1
  cases h1
  exact ⟨vs, h4, h5⟩
theorem own_at {r : List Addr} {F H : Hp} {σ : L2.St} {env : Ev} {i : Nat} {xs : List D} (E : EnvR G r F H σ env) (hx : env[i]? = some (some (.own xs))) : ∃ a vs, σ[i]? = some (some (.ref a)) ∧ H a = some (.lst vs) := by
  obtain ⟨a, h1, h2, h3, vs, h4, h5⟩ := E.own i _ hx rfl
  exact ⟨a, vs, h1, h4⟩
theorem s_app (i : Nat) {y name : Str} {epos : Pos} (slot : Slot "list" name "list.append") (he : PE X e (semE G se)) (hN : X.N[i]? = some y := by rfl) (hv : Vis X.env.scope y := by first | exact Or.inl rfl | exact Or.inr (Or.inl rfl) | exact Or.inr (Or.inr rfl)) (hd : (y == ("__debug__" : Str)) = false := by decide) (hcd : (y == ("__classdict__" : Str)) = false := by decide)
    (hbase : attributeBase (.Name y p) name X.env (eval (.Name y p) X.env) = eval (.Name y p) X.env := by rfl)
    (hfew : ((backTo pos (starEach [e] X.env)).all (fun x => !x.1) && (backToKw pos (keywordEach [] X.env)).all (fun x => x.1.isSome)
      && decide (([e] : List Expr).length + ([] : List Keyword).length + (if ([] : List Keyword).isEmpty then 0 else 1) < 30)) = true := by rfl)
    (hline : (apos.endLine == pos.line) = true := by rfl) (hs : starEach [e] X.env = (false, eval e X.env) :: starEach [] X.env := by rfl) (hplain : (backTo pos (starEach [] X.env)).any (·.1) = false := by rfl)
    (hsw : swapsWith (.Call (.Attribute (.Name y p) name apos) [e] [] pos) none epos.line X.env = pure false := by rfl) : PS X (.Expr (.Call (.Attribute (.Name y p) name apos) [e] [] pos) epos) (semS G (appS i se)) :=
  wkS (ps_expr (pe_bm PySem.F.plainAttrs_list slot PySem.F.type_list_append mt_append (pe_var (i := i) hN hv hd hcd) (pa_cons he pa_nil hs) hbase hfew hline hs hplain) hsw) fun D σ H ⟨r, F, env, m, o, er, R, E, q⟩ => by
    obtain ⟨⟨d1, m1⟩, e1, er⟩ := bind2 (γ := Unit) er
    split at er
    · rename_i xs hx
      split at er
      · rename_i hl
        cases er
        obtain ⟨a, vs0, ha, hv0⟩ := own_at E hx
        refine ⟨.ref a, ha, .inl ⟨rfl, vs0, SqL.of hv0⟩, r, F, env, m, d1, m1, e1, R, E, fun v r1 F1 H1 x1 R1 h1 => ?_⟩
        obtain ⟨vs, h3, h4⟩ := own_here E x1 hx ha
        exact ⟨a, vs, v, rfl, rfl, h3, by rw [h4.length, sizeLine_eq]; omega, mut_end R1 E x1 hx ha (h4.append (.cons h1 .nil)) q⟩
      · cases er
    · cases er
theorem s_ext (i : Nat) {y name : Str} {epos : Pos} (slot : Slot "list" name "list.extend") (he : PE X e (semE G se)) (hN : X.N[i]? = some y := by rfl) (hv : Vis X.env.scope y := by first | exact Or.inl rfl | exact Or.inr (Or.inl rfl) | exact Or.inr (Or.inr rfl)) (hd : (y == ("__debug__" : Str)) = false := by decide) (hcd : (y == ("__classdict__" : Str)) = false := by decide)
    (hbase : attributeBase (.Name y p) name X.env (eval (.Name y p) X.env) = eval (.Name y p) X.env := by rfl)
    (hfew : ((backTo pos (starEach [e] X.env)).all (fun x => !x.1) && (backToKw pos (keywordEach [] X.env)).all (fun x => x.1.isSome)
      && decide (([e] : List Expr).length + ([] : List Keyword).length + (if ([] : List Keyword).isEmpty then 0 else 1) < 30)) = true := by rfl)
    (hline : (apos.endLine == pos.line) = true := by rfl) (hs : starEach [e] X.env = (false, eval e X.env) :: starEach [] X.env := by rfl) (hplain : (backTo pos (starEach [] X.env)).any (·.1) = false := by rfl)
    (hsw : swapsWith (.Call (.Attribute (.Name y p) name apos) [e] [] pos) none epos.line X.env = pure false := by rfl) : PS X (.Expr (.Call (.Attribute (.Name y p) name apos) [e] [] pos) epos) (semS G (extS i se)) :=
  wkS (ps_expr (pe_bm PySem.F.plainAttrs_list slot PySem.F.type_list_extend mt_extend (pe_var (i := i) hN hv hd hcd) (pa_cons he pa_nil hs) hbase hfew hline hs hplain) hsw) fun D σ H ⟨r, F, env, m, o, er, R, E, q⟩ => by
    obtain ⟨⟨d1, m1⟩, e1, er⟩ := bind2 (γ := Unit) er
    obtain ⟨ys, e2, er⟩ := bind2 (γ := Unit) er
    split at er
    · rename_i xs hx
      split at er
      · rename_i hl
        cases er
        obtain ⟨a, vs0, ha, hv0⟩ := own_at E hx
        refine ⟨.ref a, ha, .inl ⟨rfl, vs0, SqL.of hv0⟩, r, F, env, m, d1, m1, e1, R, E, fun v r1 F1 H1 x1 R1 h1 => ?_⟩
        obtain ⟨vs, h3, h4⟩ := own_here E x1 hx ha
        obtain ⟨bb, ws, rfl, dy, hb⟩ := lst_of R1 h1 e2
        exact ⟨a, bb, vs, ws, rfl, rfl, h3, hb, by rw [h4.length, dy.length, sizeLine_eq]; omega, mut_end R1 E x1 hx ha (h4.append dy) q⟩
      · cases er
    · cases er
theorem s_pop (i : Nat) {y name : Str} {epos : Pos} (slot : Slot "list" name "list.pop") (hN : X.N[i]? = some y := by rfl) (hv : Vis X.env.scope y := by first | exact Or.inl rfl | exact Or.inr (Or.inl rfl) | exact Or.inr (Or.inr rfl)) (hd : (y == ("__debug__" : Str)) = false := by decide) (hcd : (y == ("__classdict__" : Str)) = false := by decide)
    (hbase : attributeBase (.Name y p) name X.env (eval (.Name y p) X.env) = eval (.Name y p) X.env := by rfl)
    (hline : (apos.endLine == pos.line) = true := by rfl)
    (hsw : swapsWith (.Call (.Attribute (.Name y p) name apos) [] [] pos) none epos.line X.env = pure false := by rfl) : PS X (.Expr (.Call (.Attribute (.Name y p) name apos) [] [] pos) epos) (semS G (popS i)) :=
  wkS (ps_expr (pe_bm0 PySem.F.plainAttrs_list slot PySem.F.type_list_pop mt_pop (pe_var (i := i) hN hv hd hcd) hbase hline) hsw) fun D σ H ⟨r, F, env, m, o, er, R, E, q⟩ => by
    unfold popS at er
    split at er
    · rename_i xs hx
      split at er
      · cases er
      · rename_i hl
        cases er
        obtain ⟨a, vs0, ha, hv0⟩ := own_at E hx
        obtain ⟨vs, h3, h4⟩ := own_here E .refl hx ha
        have hlt : vs.length - 1 < vs.length := by rw [h4.length]; omega
        exact ⟨.ref a, ha, .inl ⟨rfl, vs0, SqL.of hv0⟩, a, vs, vs[vs.length - 1], rfl, rfl, h3, List.getElem?_eq_getElem hlt, mut_end R E .refl hx ha h4.dropLast q⟩
    · cases er
/-- a place of it -/
def subO (i : Nat) (si : SE) : GT := fun v env m => (si env m).bind fun q => match env[i]?, q.1 with
  | some (some (.own xs)), .int k => (ixN xs.length k).map fun j => (env.set i (some (.own (xs.set j v))), q.2)
  | _, _ => none
theorem gg_subO (i : Nat) {y : Str} {ie : Expr} (hi : PE X ie (semE G si)) (hN : X.N[i]? = some y := by rfl) (hv : Vis X.env.scope y := by first | exact Or.inl rfl | exact Or.inr (Or.inl rfl) | exact Or.inr (Or.inr rfl)) (hd : (y == ("__debug__" : Str)) = false := by decide) (hcd : (y == ("__classdict__" : Str)) = false := by decide)
    (ha : ∀ v, assign (.Subscript (.Name y p) ie pos) X.env v = (do
      let ov ← holding [v] (eval (.Name y p) X.env)
      let iv ← holding [v, ov] (eval ie X.env)
      standAt pos
      holding [v, ov, iv] (setItem ov iv v)
      release [v, ov, iv] []) := by intro _; rfl) : PG X (.Subscript (.Name y p) ie pos) (semGG G (subO i si)) := ⟨fun pins s σ H v u Q I rv ⟨r, F, env, m, d, env', m', e, R, E, hd2, q⟩ => by
  refine (pg_sub (pe_var (i := i) hN hv hd hcd) hi set_list ha).run pins s σ H v u Q I rv ?_
  obtain ⟨⟨d2, m2⟩, e2, e⟩ := bind2 (γ := Unit) e
  split at e
  · rename_i xs k hx hk
    have hk : d2 = .int k := hk
    subst hk
    obtain ⟨j, e3, e4⟩ := Option.map_eq_some_iff.mp e
    cases e4
    obtain ⟨a, vs0, hsa, hv0⟩ := own_at E hx
    refine ⟨.ref a, hsa, r, F, env, m, _, m2, e2, R, E, fun w r1 F1 H1 x1 R1 h1 => ?_⟩
    obtain ⟨vs, h3, h4⟩ := own_here E x1 hx hsa
    have E1 := E.ext x1
    obtain ⟨a', g1, g2, g3, _⟩ := E1.own i _ hx rfl
    rw [hsa] at g1
    cases g1
    have oa : OwnS σ env a := ⟨i, _, hx, rfl, hsa⟩
    refine ⟨a, vs, k, j, rfl, dat_int h1, h3, by rw [h4.length]; exact e3, ?_⟩
    exact q σ r1 F1 _ ((x1.toO _).trans (ExtO.mut oa) fun _ z => .inl z) (R1.other g3 g2) (E1.own_mut (d' := .own (xs.set j d)) hx rfl hsa rfl ⟨_, upd_same, h4.set (hd2.ext x1) j⟩) fun b z => .inl (OwnS.mut hx rfl z)
  · cases e⟩

/-! ### looked at -/
def oixE (i : Nat) (si : SE) : SE := fun env m => (si env m).bind fun q => match q.1 with
  | .int k => (ovalD env i).bind fun xs => (atI xs k).map fun d => (d, q.2)
  | _ => none
def olenE (i : Nat) : SE := fun env m => (ovalD env i).map fun xs => (.int xs.length, m)
/-- == and != with a second one -/
def oeqE (neg : Bool) (i : Nat) (se : SE) : SE := fun env m => (se env m).bind fun q => (ovalD env i).bind fun xs => (eqB1 q.2 (.lst xs) q.1).map fun k => (.bl (if neg then !k else k), q.2)
def oinE (neg : Bool) (i : Nat) (se : SE) : SE := fun env m => (se env m).bind fun q => (ovalD env i).bind fun xs => (inB q.2 q.1 (.lst xs)).map fun k => (.bl (if neg then !k else k), q.2)
def otruB (i : Nat) : SB := fun env m => (ovalD env i).map fun xs => (!xs.isEmpty, m)
variable {y : Str} {b : Expr}
theorem e_oix (i : Nat) (hK : G.K = X.K) (hi : PE X b (semE G si)) (hN : X.N[i]? = some y := by rfl) (hv : Vis X.env.scope y := by first | exact Or.inl rfl | exact Or.inr (Or.inl rfl) | exact Or.inr (Or.inr rfl)) (hd : (y == ("__debug__" : Str)) = false := by decide) (hcd : (y == ("__classdict__" : Str)) = false := by decide)
    (hs : PlainIx b := by exact fun _ _ => rfl) : PE X (.Subscript (.Name y p) b pos) (semE G (oixE i si)) :=
  wkE (pe_ix ix_list (pe_var (i := i) hN hv hd hcd) hi hs) fun σ H Q ⟨r, F, env, m, d, m', e, R, E, q⟩ => by
    obtain ⟨⟨d2, m2⟩, e2, e⟩ := bind2 (γ := Unit) e
    split at e
    · rename_i k hk
      have hk : d2 = .int k := hk
      subst hk
      obtain ⟨xs, e3, e⟩ := bind2 (γ := Unit) e
      obtain ⟨d', e4, e5⟩ := Option.map_eq_some_iff.mp e
      cases e5
      obtain ⟨a, vs0, hsa, hv0, _⟩ := oval_of R E e3
      refine ⟨.ref a, hsa, r, F, env, m, _, m2, e2, R, E, fun w r1 F1 H1 x1 R1 h1 => ?_⟩
      obtain ⟨a', vs, h2, h3, h4⟩ := oval_of R1 (E.ext x1) e3
      rw [hsa] at h2
      cases h2
      obtain ⟨u, h5, h6⟩ := h4.atI e4
      exact ⟨a, vs, k, u, rfl, dat_int h1, SqL.of h3, h5, q u r1 F1 H1 x1 R1 h6⟩
    · cases e
theorem e_olen (i : Nat) {x : Str} {py : Pos} (hx : x = "len") (hg : Gl X x) (hm : X.mg x = none) (hbv : bootBuiltins x = some (.builtin "len")) (hN : X.N[i]? = some y := by rfl) (hv : Vis X.env.scope y := by first | exact Or.inl rfl | exact Or.inr (Or.inl rfl) | exact Or.inr (Or.inr rfl)) (hd : (y == ("__debug__" : Str)) = false := by decide) (hcd : (y == ("__classdict__" : Str)) = false := by decide)
    (hn : x ≠ "__name__" := by decide) (hdb : (x == ("__debug__" : Str)) = false := by decide) (hs : starEach [.Name y py] X.env = (false, eval (.Name y py) X.env) :: starEach [] X.env := by rfl) (hpl : (backTo pos (starEach [] X.env)).any (·.1) = false := by rfl) :
    PE X (.Call (.Name x p) [.Name y py] [] pos) (semE G (olenE i)) :=
  wkE (pe_callB call_len_seq hg hm hbv (pa_cons (pe_var (i := i) hN hv hd hcd) pa_nil hs) hn hdb hs hpl) fun σ H Q ⟨r, F, env, m, d, m', e, R, E, q⟩ => by
    obtain ⟨xs, e1, e2⟩ := Option.map_eq_some_iff.mp e
    cases e2
    obtain ⟨a, vs, hsa, h3, h4⟩ := oval_of R E e1
    refine ⟨.ref a, hsa, a, vs, rfl, .inl (SqL.of h3), ?_⟩
    rw [h4.length]
    exact q.here R (.int _)
theorem own_dp {K : PySem.W.Frag} {r : List Addr} {F H : Hp} {m : Mem} {a : Addr} {vs : List V} {xs : List D} {q : PyData} (hK : G.K = K) (R : Rel G r F m H) (h3 : H a = some (.lst vs)) (h4 : Dats G r F vs xs) (e : toP m (.lst xs) = some q) : Dp K H (.ref a) q := by
  unfold toP at e
  simp only [toPW] at e
  obtain ⟨ps, e1, e2⟩ := Option.map_eq_some_iff.mp e
  cases e2
  exact .lst (SqL.of h3) (dps_of hK R (lk_ok hK R (lk_ok hK R (lk_ok hK R fun _ _ _ e => by cases e))) h4 e1)
theorem ow_eq {k : Bool} (hK : G.K = X.K) (hu : X.A.units + 64 < cLine) : OpR X (compareOp .Eq) (fun x y H Q => ∃ (r : List Addr) (F : Hp) (m : Mem) (d : D) (a : Addr) (vs : List V) (xs : List D), Rel G r F m H ∧ Dat G r F y d ∧ x = .ref a ∧ H a = some (.lst vs) ∧ Dats G r F vs xs ∧ eqB1 m (.lst xs) d = some k ∧ Q (.bl k) H) := by
  intro pins s σ H x y v u Q I rx ry ⟨r, F, m, d, a, vs, xs, R, hd, ex, h3, h4, e0, q⟩
  obtain ⟨p1, e1, e0⟩ := bind2 (γ := Unit) e0
  obtain ⟨p2, e2, e0⟩ := bind2 (γ := Unit) e0
  split at e0
  · rename_i hs
    cases e0
    exact op_eqD hu pins s σ H x y v u Q I rx ry ⟨p1, p2, ex ▸ own_dp hK R h3 h4 e1, toP_ok hK R hd e2, hs.1, hs.2, q⟩
  · cases e0
theorem ow_ne {k : Bool} (hK : G.K = X.K) (hu : X.A.units + 64 < cLine) : OpR X (compareOp .NotEq) (fun x y H Q => ∃ (r : List Addr) (F : Hp) (m : Mem) (d : D) (a : Addr) (vs : List V) (xs : List D), Rel G r F m H ∧ Dat G r F y d ∧ x = .ref a ∧ H a = some (.lst vs) ∧ Dats G r F vs xs ∧ eqB1 m (.lst xs) d = some k ∧ Q (.bl (!k)) H) := by
  intro pins s σ H x y v u Q I rx ry ⟨r, F, m, d, a, vs, xs, R, hd, ex, h3, h4, e0, q⟩
  obtain ⟨p1, e1, e0⟩ := bind2 (γ := Unit) e0
  obtain ⟨p2, e2, e0⟩ := bind2 (γ := Unit) e0
  split at e0
  · rename_i hs
    cases e0
    exact op_neD hu pins s σ H x y v u Q I rx ry ⟨p1, p2, ex ▸ own_dp hK R h3 h4 e1, toP_ok hK R hd e2, hs.1, hs.2, q⟩
  · cases e0
theorem ow_in {k : Bool} (hK : G.K = X.K) (hu : X.A.units + 65 < cLine) : OpR X (compareOp .In) (fun x y H Q => ∃ (r : List Addr) (F : Hp) (m : Mem) (d : D) (a : Addr) (vs : List V) (xs : List D), Rel G r F m H ∧ Dat G r F x d ∧ y = .ref a ∧ H a = some (.lst vs) ∧ Dats G r F vs xs ∧ inB m d (.lst xs) = some k ∧ Q (.bl k) H) := by
  intro pins s σ H x y v u Q I rx ry ⟨r, F, m, d, a, vs, xs, R, ha, ex, h3, h4, e0, q⟩
  unfold inB at e0
  split at e0
  · rename_i k1 e1
    cases e0
    obtain ⟨x1, f0, e0⟩ := bind2 (γ := Unit) e1
    obtain ⟨ds, e2, e0⟩ := bind2 (γ := Unit) e0
    obtain ⟨ys, e3, e4⟩ := Option.map_eq_some_iff.mp e0
    cases e4
    cases e2
    obtain ⟨rfl, f1⟩ := flat_of ha f0
    obtain ⟨rfl, f2⟩ := flats_of h4 e3
    exact op_in_seq pins s σ H _ _ v u Q I rx ry ⟨_, _, ex, .inl (SqL.of h3), f1, f2, q⟩
  · obtain ⟨p1, e1, e0⟩ := bind2 (γ := Unit) e0
    obtain ⟨p2, e2, e0⟩ := bind2 (γ := Unit) e0
    split at e0
    · split at e0
      · rename_i hs
        cases e0
        exact L2.op_inD hu pins s σ H x y v u Q I rx ry ⟨_, _, toP_ok hK R ha e1, ex ▸ own_dp hK R h3 h4 e2, hs.1, hs.2, q⟩
      · cases e0
    · cases e0
theorem ow_nin {k : Bool} (hK : G.K = X.K) (hu : X.A.units + 65 < cLine) : OpR X (compareOp .NotIn) (fun x y H Q => ∃ (r : List Addr) (F : Hp) (m : Mem) (d : D) (a : Addr) (vs : List V) (xs : List D), Rel G r F m H ∧ Dat G r F x d ∧ y = .ref a ∧ H a = some (.lst vs) ∧ Dats G r F vs xs ∧ inB m d (.lst xs) = some k ∧ Q (.bl (!k)) H) := by
  intro pins s σ H x y v u Q I rx ry ⟨r, F, m, d, a, vs, xs, R, ha, ex, h3, h4, e0, q⟩
  unfold inB at e0
  split at e0
  · rename_i k1 e1
    cases e0
    obtain ⟨x1, f0, e0⟩ := bind2 (γ := Unit) e1
    obtain ⟨ds, e2, e0⟩ := bind2 (γ := Unit) e0
    obtain ⟨ys, e3, e4⟩ := Option.map_eq_some_iff.mp e0
    cases e4
    cases e2
    obtain ⟨rfl, f1⟩ := flat_of ha f0
    obtain ⟨rfl, f2⟩ := flats_of h4 e3
    exact op_notIn_seq pins s σ H _ _ v u Q I rx ry ⟨_, _, ex, .inl (SqL.of h3), f1, f2, q⟩
  · obtain ⟨p1, e1, e0⟩ := bind2 (γ := Unit) e0
    obtain ⟨p2, e2, e0⟩ := bind2 (γ := Unit) e0
    split at e0
    · split at e0
      · rename_i hs
        cases e0
        exact op_notInD hu pins s σ H x y v u Q I rx ry ⟨_, _, toP_ok hK R ha e1, ex ▸ own_dp hK R h3 h4 e2, hs.1, hs.2, q⟩
      · cases e0
    · cases e0
/-- x == e, x != e -/
theorem oeq_ok {op : CmpOp} {neg : Bool} {i : Nat} {T : Bool → R2} (hT : ∀ k, OpR X (compareOp op) (T k))
    (hq : ∀ (r : List Addr) (F : Hp) (m : Mem) (d : D) (a : Addr) (vs : List V) (xs : List D) (H : Hp) (y : V) (Q : VK) (k : Bool), Rel G r F m H → Dat G r F y d → H a = some (.lst vs) → Dats G r F vs xs → eqB1 m (.lst xs) d = some k → Q (.bl (if neg then !k else k)) H → T k (.ref a) y H Q) :
    ∀ σ H Q, semE G (oeqE neg i se) σ H Q → ∃ k, tOp (T k) (tVar i) (semE G se) σ H Q := fun σ H Q ⟨r, F, env, m, d, m', e, R, E, q⟩ => by
  obtain ⟨⟨d2, m2⟩, e2, e⟩ := bind2 (γ := Unit) e
  obtain ⟨xs, e3, e⟩ := bind2 (γ := Unit) e
  obtain ⟨k, e4, e5⟩ := Option.map_eq_some_iff.mp e
  cases e5
  obtain ⟨a, vs0, hsa, hv0, _⟩ := oval_of R E e3
  refine ⟨k, .ref a, hsa, r, F, env, m, _, m2, e2, R, E, fun w r1 F1 H1 x1 R1 h1 => ?_⟩
  obtain ⟨a', vs, h2, h3, h4⟩ := oval_of R1 (E.ext x1) e3
  rw [hsa] at h2
  cases h2
  exact hq r1 F1 m2 d2 a vs xs H1 w Q k R1 h1 h3 h4 e4 (q _ r1 F1 H1 x1 R1 (.bl _))
theorem wkX {X : Cx} {e : Expr} {t' : TE} {T : Bool → TE} (h : ∀ k, PE X e (T k)) (i : ∀ σ H Q, t' σ H Q → ∃ k, T k σ H Q) : PE X e t' := ⟨fun pins s σ H Q I q => let ⟨k, z⟩ := i σ H Q q; (h k).run pins s σ H Q I z⟩
theorem e_oeq (i : Nat) (hK : G.K = X.K) (hu : X.A.units + 64 < cLine) (hb : PE X b (semE G se)) (hN : X.N[i]? = some y := by rfl) (hv : Vis X.env.scope y := by first | exact Or.inl rfl | exact Or.inr (Or.inl rfl) | exact Or.inr (Or.inr rfl)) (hd : (y == ("__debug__" : Str)) = false := by decide) (hcd : (y == ("__classdict__" : Str)) = false := by decide)
    (hm : behindInMarks .Eq b = false := by rfl) : PE X (.Compare (.Name y p) [.Eq] [b] pos) (semE G (oeqE false i se)) :=
  wkX (fun _ => pe_cmpR (ow_eq hK hu) (pe_var (i := i) hN hv hd hcd) hb hm) (oeq_ok (fun _ => ow_eq hK hu) fun r F m d a vs xs H y Q k R h1 h3 h4 e q => ⟨r, F, m, d, a, vs, xs, R, h1, rfl, h3, h4, e, q⟩)
theorem e_oneq (i : Nat) (hK : G.K = X.K) (hu : X.A.units + 64 < cLine) (hb : PE X b (semE G se)) (hN : X.N[i]? = some y := by rfl) (hv : Vis X.env.scope y := by first | exact Or.inl rfl | exact Or.inr (Or.inl rfl) | exact Or.inr (Or.inr rfl)) (hd : (y == ("__debug__" : Str)) = false := by decide) (hcd : (y == ("__classdict__" : Str)) = false := by decide)
    (hm : behindInMarks .NotEq b = false := by rfl) : PE X (.Compare (.Name y p) [.NotEq] [b] pos) (semE G (oeqE true i se)) :=
  wkX (fun _ => pe_cmpR (ow_ne hK hu) (pe_var (i := i) hN hv hd hcd) hb hm) (oeq_ok (fun _ => ow_ne hK hu) fun r F m d a vs xs H y Q k R h1 h3 h4 e q => ⟨r, F, m, d, a, vs, xs, R, h1, rfl, h3, h4, e, q⟩)
/-- e in x, e not in x -/
theorem oin_ok {neg : Bool} {i : Nat} {T : Bool → R2}
    (hq : ∀ (r : List Addr) (F : Hp) (m : Mem) (d : D) (a : Addr) (vs : List V) (xs : List D) (H : Hp) (y : V) (Q : VK) (k : Bool), Rel G r F m H → Dat G r F y d → H a = some (.lst vs) → Dats G r F vs xs → inB m d (.lst xs) = some k → Q (.bl (if neg then !k else k)) H → T k y (.ref a) H Q) :
    ∀ σ H Q, semE G (oinE neg i se) σ H Q → ∃ k, tOp (T k) (semE G se) (tVar i) σ H Q := fun σ H Q ⟨r, F, env, m, d, m', e, R, E, q⟩ => by
  obtain ⟨⟨d2, m2⟩, e2, e⟩ := bind2 (γ := Unit) e
  obtain ⟨xs, e3, e⟩ := bind2 (γ := Unit) e
  obtain ⟨k, e4, e5⟩ := Option.map_eq_some_iff.mp e
  cases e5
  refine ⟨k, r, F, env, m, _, m2, e2, R, E, fun w r1 F1 H1 x1 R1 h1 => ?_⟩
  obtain ⟨a, vs, hsa, h3, h4⟩ := oval_of R1 (E.ext x1) e3
  exact ⟨.ref a, hsa, hq r1 F1 m2 d2 a vs xs H1 w Q k R1 h1 h3 h4 e4 (q _ r1 F1 H1 x1 R1 (.bl _))⟩
theorem e_oin (i : Nat) (hK : G.K = X.K) (hu : X.A.units + 65 < cLine) (hb : PE X b (semE G se)) (hN : X.N[i]? = some y := by rfl) (hv : Vis X.env.scope y := by first | exact Or.inl rfl | exact Or.inr (Or.inl rfl) | exact Or.inr (Or.inr rfl)) (hd : (y == ("__debug__" : Str)) = false := by decide) (hcd : (y == ("__classdict__" : Str)) = false := by decide)
    (hm : behindInMarks .In (.Name y p) = false := by rfl) : PE X (.Compare b [.In] [.Name y p] pos) (semE G (oinE false i se)) :=
  wkX (fun _ => pe_cmpR (ow_in hK hu) hb (pe_var (i := i) hN hv hd hcd) hm) (oin_ok fun r F m d a vs xs H y Q k R h1 h3 h4 e q => ⟨r, F, m, d, a, vs, xs, R, h1, rfl, h3, h4, e, q⟩)
theorem e_onin (i : Nat) (hK : G.K = X.K) (hu : X.A.units + 65 < cLine) (hb : PE X b (semE G se)) (hN : X.N[i]? = some y := by rfl) (hv : Vis X.env.scope y := by first | exact Or.inl rfl | exact Or.inr (Or.inl rfl) | exact Or.inr (Or.inr rfl)) (hd : (y == ("__debug__" : Str)) = false := by decide) (hcd : (y == ("__classdict__" : Str)) = false := by decide)
    (hm : behindInMarks .NotIn (.Name y p) = false := by rfl) : PE X (.Compare b [.NotIn] [.Name y p] pos) (semE G (oinE true i se)) :=
  wkX (fun _ => pe_cmpR (ow_nin hK hu) hb (pe_var (i := i) hN hv hd hcd) hm) (oin_ok fun r F m d a vs xs H y Q k R h1 h3 h4 e q => ⟨r, F, m, d, a, vs, xs, R, h1, rfl, h3, h4, e, q⟩)
/-! as tests -/
theorem wkXT {X : Cx} {e : Expr} {t' : TT} {T : Bool → TT} (h : ∀ k, PT X e (T k)) (i : ∀ σ H Q, t' σ H Q → ∃ k, T k σ H Q) : PT X e t' := ⟨fun pins s σ H Q I q => let ⟨k, z⟩ := i σ H Q q; (h k).run pins s σ H Q I z⟩
/-- a test of what is a truth -/
theorem tst_x {T : Bool → TE} (hi : ∀ σ H Q, semE G se σ H Q → ∃ k, T k σ H Q) : ∀ σ H Q, semB G (tstB se) σ H Q → ∃ k, tTest (T k) σ H Q := fun σ H Q ⟨r, F, env, m, k, m', e, R, E, q⟩ => by
  obtain ⟨⟨d1, m1⟩, e1, e⟩ := bind2 (γ := Unit) e
  cases d1 with
  | bl z =>
    cases e
    refine hi _ _ _ ⟨r, F, env, m, .bl k, m1, e1, R, E, fun v r1 F1 H1 x1 R1 h1 => ?_⟩
    cases h1
    exact ⟨k, rfl, q r1 F1 H1 x1 R1⟩
  | _ => cases e
theorem t_oeq (i : Nat) (hK : G.K = X.K) (hu : X.A.units + 64 < cLine) (hb : PE X b (semE G se)) (hN : X.N[i]? = some y := by rfl) (hv : Vis X.env.scope y := by first | exact Or.inl rfl | exact Or.inr (Or.inl rfl) | exact Or.inr (Or.inr rfl)) (hd : (y == ("__debug__" : Str)) = false := by decide) (hcd : (y == ("__classdict__" : Str)) = false := by decide)
    (hm : behindInMarks .Eq b = false := by rfl) : PT X (.Compare (.Name y p) [.Eq] [b] pos) (semB G (tstB (oeqE false i se))) :=
  wkXT (fun _ => pt_cmpR (ow_eq hK hu) (pe_var (i := i) hN hv hd hcd) hb hm) (tst_x (oeq_ok (fun _ => ow_eq hK hu) fun r F m d a vs xs H y Q k R h1 h3 h4 e q => ⟨r, F, m, d, a, vs, xs, R, h1, rfl, h3, h4, e, q⟩))
theorem t_oneq (i : Nat) (hK : G.K = X.K) (hu : X.A.units + 64 < cLine) (hb : PE X b (semE G se)) (hN : X.N[i]? = some y := by rfl) (hv : Vis X.env.scope y := by first | exact Or.inl rfl | exact Or.inr (Or.inl rfl) | exact Or.inr (Or.inr rfl)) (hd : (y == ("__debug__" : Str)) = false := by decide) (hcd : (y == ("__classdict__" : Str)) = false := by decide)
    (hm : behindInMarks .NotEq b = false := by rfl) : PT X (.Compare (.Name y p) [.NotEq] [b] pos) (semB G (tstB (oeqE true i se))) :=
  wkXT (fun _ => pt_cmpR (ow_ne hK hu) (pe_var (i := i) hN hv hd hcd) hb hm) (tst_x (oeq_ok (fun _ => ow_ne hK hu) fun r F m d a vs xs H y Q k R h1 h3 h4 e q => ⟨r, F, m, d, a, vs, xs, R, h1, rfl, h3, h4, e, q⟩))
theorem t_oin (i : Nat) (hK : G.K = X.K) (hu : X.A.units + 65 < cLine) (hb : PE X b (semE G se)) (hN : X.N[i]? = some y := by rfl) (hv : Vis X.env.scope y := by first | exact Or.inl rfl | exact Or.inr (Or.inl rfl) | exact Or.inr (Or.inr rfl)) (hd : (y == ("__debug__" : Str)) = false := by decide) (hcd : (y == ("__classdict__" : Str)) = false := by decide)
    (hm : behindInMarks .In (.Name y p) = false := by rfl) : PT X (.Compare b [.In] [.Name y p] pos) (semB G (tstB (oinE false i se))) :=
  wkXT (fun _ => pt_cmpR (ow_in hK hu) hb (pe_var (i := i) hN hv hd hcd) hm) (tst_x (oin_ok fun r F m d a vs xs H y Q k R h1 h3 h4 e q => ⟨r, F, m, d, a, vs, xs, R, h1, rfl, h3, h4, e, q⟩))
theorem t_onin (i : Nat) (hK : G.K = X.K) (hu : X.A.units + 65 < cLine) (hb : PE X b (semE G se)) (hN : X.N[i]? = some y := by rfl) (hv : Vis X.env.scope y := by first | exact Or.inl rfl | exact Or.inr (Or.inl rfl) | exact Or.inr (Or.inr rfl)) (hd : (y == ("__debug__" : Str)) = false := by decide) (hcd : (y == ("__classdict__" : Str)) = false := by decide)
    (hm : behindInMarks .NotIn (.Name y p) = false := by rfl) : PT X (.Compare b [.NotIn] [.Name y p] pos) (semB G (tstB (oinE true i se))) :=
  wkXT (fun _ => pt_cmpR (ow_nin hK hu) hb (pe_var (i := i) hN hv hd hcd) hm) (tst_x (oin_ok fun r F m d a vs xs H y Q k R h1 h3 h4 e q => ⟨r, F, m, d, a, vs, xs, R, h1, rfl, h3, h4, e, q⟩))
theorem t_otru (i : Nat) (hN : X.N[i]? = some y := by rfl) (hv : Vis X.env.scope y := by first | exact Or.inl rfl | exact Or.inr (Or.inl rfl) | exact Or.inr (Or.inr rfl)) (hd : (y == ("__debug__" : Str)) = false := by decide) (hcd : (y == ("__classdict__" : Str)) = false := by decide)
    (he : ∀ whole, isTrue (.Name y p) X.env whole = (do let v ← whole; standAt (Expr.pos (.Name y p)); holding [v] (truthy v)) := by intro _; rfl) : PT X (.Name y p) (semB G (otruB i)) :=
  wkT (pt_truth (pe_var (i := i) hN hv hd hcd) he) fun σ H Q ⟨r, F, env, m, k, m', e, R, E, q⟩ => by
    obtain ⟨xs, e1, e2⟩ := Option.map_eq_some_iff.mp e
    cases e2
    obtain ⟨a, vs, hsa, h3, h4⟩ := oval_of R E e1
    refine ⟨.ref a, hsa, !xs.isEmpty, .inl ⟨vs, SqL.of h3, by rw [empty_iff h4]⟩, q r F H .refl R⟩
end
end Kb

set_option Elab.async false
set_option linter.all false
set_option maxRecDepth 100000
set_option maxHeartbeats 4000000
set_option autoImplicit false
/-! KcU: t[::-1] of tuples. -/
namespace Kb
open PySem PySem.Spec PyProof.Rows L2 HT
section
variable {prog : Program} {w : World} {A : Around} {E : Value → Shared → Prop} {s : Shared}
theorem adjust_rev (n : Nat) : Builtin.Slice.sliceAdjust none none (-1) (n : Int) = ((n : Int) - 1, -1) := by
  unfold Builtin.Slice.sliceAdjust
  have h1 : ((-1 : Int) < 0) := by omega
  simp only [h1, if_true]
theorem places_rev (n : Nat) : Builtin.Slice.slicePlaces ((n : Int) - 1) (-1) (-1) = n := by
  unfold Builtin.Slice.slicePlaces
  have h1 : ¬ ((-1 : Int) > 0) := by omega
  simp only [h1, if_false]
  split
  · simp only [Int.neg_neg, Int.ediv_one]
    omega
  · omega
theorem fm_congr {α β : Type} {f g : α → Option β} : ∀ {l : List α}, (∀ a ∈ l, f a = g a) → l.filterMap f = l.filterMap g
  | [], _ => rfl
  | a :: l, h => by
    rw [List.filterMap_cons, List.filterMap_cons, h a List.mem_cons_self, fm_congr fun b hb => h b (List.mem_cons_of_mem _ hb)]
theorem pick_rev (xs : Array Value) : ((List.range xs.size).filterMap fun (k : Nat) => xs[((xs.size : Int) - 1 + (k : Int) * (-1)).toNat]?).toArray = xs.toList.reverse.toArray := by
  congr 1
  have key : ∀ l : List Value, ((List.range l.length).filterMap fun (k : Nat) => l[((l.length : Int) - 1 + (k : Int) * (-1)).toNat]?) = l.reverse := by
    intro l
    have e : ∀ k ∈ List.range l.length, l[((l.length : Int) - 1 + (k : Int) * (-1)).toNat]? = l.reverse[k]? := fun k hk => by
      have := List.mem_range.mp hk
      rw [List.getElem?_reverse this]
      congr 1
      omega
    rw [fm_congr e]
    apply List.ext_getElem?
    intro i
    have e2 : (List.range l.length).filterMap (fun k => l.reverse[k]?) = l.reverse := by
      have := l.length_reverse
      rw [← this]
      generalize l.reverse = r
      induction r with
      | nil => rfl
      | cons a r ih =>
        rw [List.length_cons, List.range_succ_eq_map, List.filterMap_cons]
        show a :: _ = _
        rw [List.filterMap_map]
        congr 1
    rw [e2]
  have := key xs.toList
  rw [Array.length_toList] at this
  simpa using this
theorem getItem_tuple_rev {t sl : Addr} {items : Array Value} {vs : Value} {Q : Value → Shared → Prop} (ht : IsTup s.heap t items) (hs : s.heap.IsSliceOf sl .none .none vs) (ps : IsPart vs (some (-1)))
    (h : Q (.ref s.heap.objs.size) { s with heap := s.heap.push { cls := .type "tuple", data := .seq items.toList.reverse.toArray } })
    (hsz : items.size ≤ sizeLine) : wpAny (model prog w) A (getItem (.ref t) (.ref sl)) Q E s := by
  have htake : sizeOk (.seq items.toList.reverse.toArray) := by
    show items.toList.reverse.toArray.size ≤ sizeLine
    rw [List.size_toArray, List.length_reverse, Array.length_toList]
    exact hsz
  obtain ⟨os, hos, hcs, hds⟩ := id hs
  have hTs : s.TypeIs (.ref sl) "slice" := ⟨os, hos, hcs⟩
  unfold getItem
  try with_reducible refine wpAny_holding ?_
  first | refine wpAny_bind (wpAny_pure ?_) | skip
  refine wpAny_bind (wpAny_sequenceKey ht.typeIs (by decide) ?_)
  refine wpAny_bind (wpAny_callSpecial?_slot (name := Str.ofString "__getitem__") ht.typeIs PyProof.Rows.slot_tuple_getitem
    (wpAny_call_entry PyProof.Rows.slot_tuple_getitem ht.typeIs entry_tuple_getitem ?_ (args_tuple_getitem _ _)))
  show wpAny _ _ (Builtin.Tuple.tupleItemsOf (.ref t) >>= _) _ _ s
  refine wpAny_bind (tupleItemsOf_ ht ?_)
  refine wpAny_bind (wpAny_typeOf hTs ?_)
  rw [if_pos (by decide)]
  have applied : ∀ {Q : Int × Int × Nat → Shared → Prop} {E : Value → Shared → Prop} {A : Around}, Q ((items.size : Int) - 1, -1, items.size) s → wpAny (model prog w) A (Builtin.Slice.sliceApplied (.ref sl) (pure (items.size : Int))) Q E s := fun {Q E A} h => by
    unfold Builtin.Slice.sliceApplied Builtin.Slice.sliceFields
    refine wpAny_bind (wpAny_bind (wpAny_field hos hds (x := .none) rfl (wpAny_bind (wpAny_field hos hds (x := .none) rfl (wpAny_bind (wpAny_field hos hds (x := vs) rfl (wpAny_pure ?_)))))))
    refine wpAny_bind (slicePart_ ps ?_)
    show wpAny _ _ (if ((-1 : Int) == 0) = true then _ else _) _ _ s
    rw [if_neg (by decide)]
    refine wpAny_bind (slicePart_none (wpAny_bind (slicePart_none (wpAny_bind (wpAny_pure ?_)))))
    show wpAny _ _ (match Builtin.Slice.sliceAdjust none none (-1) (items.size : Int) with | (lo, hi) => pure (lo, (-1 : Int), Builtin.Slice.slicePlaces lo hi (-1))) _ _ s
    rw [adjust_rev]
    show wpAny _ _ (pure ((items.size : Int) - 1, (-1 : Int), Builtin.Slice.slicePlaces ((items.size : Int) - 1) (-1) (-1))) _ _ s
    rw [places_rev]
    exact wpAny_pure h
  refine wpAny_bind (applied ?_)
  have hno : ¬ ((((items.size : Int) - 1) == 0 && (-1 : Int) == 1 && items.size == items.size) = true) := by
    intro q
    rw [Bool.and_eq_true, Bool.and_eq_true] at q
    have q1 : (-1 : Int) = 1 := eq_of_beq q.1.2
    omega
  show wpAny _ _ (if (((items.size : Int) - 1) == 0 && (-1 : Int) == 1 && items.size == items.size) = true then _ else _) _ _ s
  rw [if_neg hno, pick_rev]
  first
    | exact wpAny_bind (m := Builtin.Tuple.tupleExact _) (wpAny_newObj_type (wpAny_pure ⟨_, rfl, wpAny_pure h⟩) htake)
    | exact wpAny_bind (m := Builtin.Tuple.tupleExact _) (wpAny_newObj_type (wpAny_bind (wpAny_pure (wpAny_pure ⟨_, rfl, wpAny_pure h⟩))) htake)
    | exact wpAny_bind (wpAny_bind (m := Builtin.Tuple.tupleExact _) (wpAny_newObj_type (wpAny_pure (wpAny_pure ⟨_, rfl, wpAny_pure h⟩)) htake))
    | exact wpAny_bind (wpAny_bind (m := Builtin.Tuple.tupleExact _) (wpAny_newObj_type (wpAny_pure ⟨_, rfl, wpAny_pure h⟩) htake))
end
section
variable {X : Cx} {G : Cfg} {pos p1 p2 p3 p4 : Pos} {a : Expr} {sa : SE}
def tRevT (K : PySem.W.Frag) (te : TE) : TE := fun σ H Q => te σ H fun x H1 => ∃ a xs, x = .ref a ∧ SqT K H1 a xs ∧ ∀ p, H1 p = none → Q (.ref p) (upd H1 p (.tup xs.reverse))
theorem pe_revT {e : Expr} {te : TE} {k : Nat} (he : PE X e te) : PE X (.Subscript e (.Slice none none (some (.UnaryOp .USub (.Constant (.int 1) k p1) p2)) p3) pos) (tRevT X.K te) := by
  refine ⟨fun pins s σ H Q I h => ?_⟩
  refine Subscript_ (thn (he.run pins s σ H _ I h) fun v s1 ⟨x, H1, I1, r1, q1⟩ => ?_)
  obtain ⟨a, xs, ex, hx, q⟩ := q1
  subst ex
  cases r1
  have hst : PO X (some (.UnaryOp .USub (.Constant (.int 1) k p1) p2)) (tPart (tUn (rU fun i => .int (-i)) (tC (.int 1)))) := po_some (pe_un un_neg pe_int)
  refine wpAny_Slice (thn (po_none.run pins s1 σ H1 (fun o H2 => o = none ∧ H2 = H1) I1 ⟨rfl, rfl⟩) fun vl s2 ⟨l, H2, I2, pl, el, e2⟩ => ?_)
  subst el e2
  refine thn (po_none.run pins s2 σ H2 (fun o H3 => o = none ∧ H3 = H2) I2 ⟨rfl, rfl⟩) fun vu s3 ⟨u, H3, I3, pu, eu, e3⟩ => ?_
  subst eu e3
  refine thn (hst.run pins s3 σ H3 (fun o H4 => o = some (-1) ∧ H4 = H3) I3 ⟨1, rfl, -1, rfl, rfl, rfl⟩) fun vs s4 ⟨o, H4, I4, ps, eo, e4⟩ => ?_
  subst eo e4
  have I5 : Inv X pins σ H4 { s4 with heap := s4.heap.push { cls := .type "slice", data := .fields #[vl, vu, vs] } } := I4.kept (t' := s4.toks) fun b ob q => Heap.get?_push_of_some _ q
  obtain ⟨its, r, ht, hz⟩ := I5.tuple hx
  have hlen := r.length
  show wpAny (model X.prog X.w) X.A (subscriptTail e (.Slice none none (some (.UnaryOp .USub (.Constant (.int 1) k p1) p2)) p3) (.ref a) (.ref s4.heap.objs.size)) (EP X pins σ Q) X.xe { s4 with heap := s4.heap.push { cls := .type "slice", data := .fields #[vl, vu, vs] } }
  refine tail_any (ops := [.ref a, .ref s4.heap.objs.size]) ht.typeIs (PyProof.Rows.slot_tuple_getitem.lookup) ?_ (by with_unfolding_all rfl)
  cases pl
  cases pu
  refine getItem_tuple_rev ht (Heap.IsSliceOf.new _ .none .none vs) ps ?_ (by rw [List.size_toArray]; omega)
  refine ⟨.ref _, _, I5.laid (t' := s4.toks) (o := .tup xs.reverse) (fun b ob q => Heap.get?_push_of_some _ q) (Nat.le_refl _) ?_, rfl, q _ (I5.hok.fresh (Nat.le_refl _))⟩
  exact ⟨by rw [List.length_reverse]; exact hz, _, r.reverse, _, Heap.get?_push_size _ rfl, rfl, 0, by simp⟩
/-- t[::-1] of a tuple or list -/
def revD (d : D) (m : Mem) : Option (D × Mem) := match d with
  | .tup xs => some (.tup xs.reverse, m)
  | d => (lstD m d).map fun xs => (.lst xs.reverse, m)
def revE2 (a : SE) : SE := fun env m => (a env m).bind fun p => revD p.1 p.2
theorem e_rev2 (hK : G.K = X.K) {j : Nat} (ha : PE X a (semE G sa)) : PE X (.Subscript a (.Slice none none (some (.UnaryOp .USub (.Constant (.int 1) j p1) p2)) p3) pos) (semE G (revE2 sa)) := ⟨fun pins s σ H Q I ⟨r, F, env, m, d, m', e, R, E, q⟩ => by
  obtain ⟨⟨d1, m1⟩, e1, e⟩ := bind2 (γ := Unit) e
  by_cases ht : ∃ xs, d1 = .tup xs
  · obtain ⟨xs, rfl⟩ := ht
    cases e
    refine (pe_revT ha).run pins s σ H Q I ⟨r, F, env, m, _, _, e1, R, E, fun v r1 F1 H1 x1 R1 h1 => ?_⟩
    cases h1 with
    | tup k1 k2 => exact ⟨_, _, rfl, hK ▸ sqt_up R1.sub k1, (q.ext x1).tup R1 k2.rev⟩
  · have e : ((lstD m1 d1).map fun xs => (D.lst xs.reverse, m1)) = some (d, m') := by
      cases d1 with
      | tup xs => exact absurd ⟨xs, rfl⟩ ht
      | _ => exact e
    obtain ⟨xs, e2, e3⟩ := Option.map_eq_some_iff.mp e
    cases e3
    refine (pe_revL ha).run pins s σ H Q I ⟨r, F, env, m, d1, _, e1, R, E, fun v r1 F1 H1 x1 R1 h1 => ?_⟩
    obtain ⟨p, vs, rfl, hd, hq⟩ := lst_of R1 h1 e2
    exact ⟨p, vs, rfl, SqL.of hq, (q.ext x1).lst R1 hd.rev⟩⟩
end
end Kb

set_option Elab.async false
set_option linter.all false
set_option maxRecDepth 100000
set_option maxHeartbeats 4000000
set_option autoImplicit false
/-! KcV: new lists handed back by defs, held by no one. -/
namespace Kb
open PySem PySem.Spec PyProof.Rows L2

/-- return name: a list that the name holds alone -/
def retO (i : Nat) : SS := fun env m => match env[i]? with
  | some (some (.own xs)) => some (.rt (.own xs) m)
  | _ => none
/-- return of a list just made -/
def retM (e : SA) : SS := fun env m => (e env m).map fun p => .rt (.own p.1) p.2
/-- of one class or of another -/
def altE (a b : SE) : SE := fun env m => (a env m).or (b env m)
def newE (a : SA) : SE := fun env m => (a env m).map fun p => (.loc p.2.length, p.2 ++ [.lst p.1])
def appN (fs : Fl) (a : SA) : SA := fun env m => (a env m).bind fun p => fs p.1 p.2
def appNK (n l : Nat) (is : List Nat) (fs : Fl) (a b : SA) : SA := fun env m => (a env m).bind fun p => (b env p.2).bind fun q => if p.1.length = n ∧ q.1.length = l then fs (pick is (p.1 ++ q.1)) q.2 else none
section
variable {X : Cx} {G : Cfg} {k : Nat} {f : Addr} {fd : FuncData} {ps ks : List Str} {fs : Fl} {x y : Str} {p pos : Pos} {e : Expr} {es : List Expr} {kws : List Keyword} {is : List Nat} {sa sb : SA}
theorem s_retO (i : Nat) (hN : X.N[i]? = some y := by rfl) (hv : Vis X.env.scope y := by first | exact Or.inl rfl | exact Or.inr (Or.inl rfl) | exact Or.inr (Or.inr rfl)) (hd : (y == ("__debug__" : Str)) = false := by decide) (hcd : (y == ("__classdict__" : Str)) = false := by decide) :
    PS X (.Return (some (.Name y p)) pos) (semS G (retO i)) := wkS (ps_ret (pe_var (i := i) hN hv hd hcd)) fun D σ H ⟨r, F, env, m, o, e, R, E, q⟩ => by
  unfold retO at e
  split at e
  · rename_i xs hx
    cases e
    obtain ⟨a, h1, h2, h3, h4⟩ := E.own i _ hx rfl
    exact ⟨.ref a, h1, q r F H .refl (.ref a) R ⟨a, rfl, h2, h3, .inl ⟨i, _, hx, rfl, h1⟩, h4⟩⟩
  · cases e
theorem s_retM {s1 : SA} (he : PE X e (semN G s1)) : PS X (.Return (some e) pos) (semS G (retM s1)) := wkS (ps_ret he) fun D σ H ⟨r, F, env, m, o, e, R, E, q⟩ => by
  obtain ⟨⟨d1, m1⟩, e1, e2⟩ := Option.map_eq_some_iff.mp e
  cases e2
  exact ⟨r, F, env, m, d1, m1, e1, R, E, fun a vs r1 F1 H1 x1 R1 ha na fa hn hd => q r1 F1 H1 (x1.toO _) (.ref a) R1 ⟨a, rfl, na, fa, .inr hn, vs, ha, hd⟩⟩
theorem e_alt {a b : SE} (h1 : PE X e (semE G a)) (h2 : PE X e (semE G b)) : PE X e (semE G (altE a b)) := ⟨fun pins s σ H Q I ⟨r, F, env, m, d, m', h, R, E, q⟩ => by
  cases ha : a env m with
  | some z =>
    have h : (a env m).or (b env m) = some (d, m') := h
    rw [ha] at h
    exact h1.run pins s σ H Q I ⟨r, F, env, m, d, m', by rw [ha]; exact h, R, E, q⟩
  | none =>
    have h : (a env m).or (b env m) = some (d, m') := h
    rw [ha] at h
    exact h2.run pins s σ H Q I ⟨r, F, env, m, d, m', h, R, E, q⟩⟩
/-- a new list, put into the store -/
theorem e_new {s1 : SA} (h : PE X e (semN G s1)) : PE X e (semE G (newE s1)) := wkE h fun σ H Q ⟨r, F, env, m, d, m', e, R, E, q⟩ => by
  obtain ⟨⟨ds, m1⟩, e1, e2⟩ := Option.map_eq_some_iff.mp e
  cases e2
  refine ⟨r, F, env, m, ds, m1, e1, R, E, fun a vs r1 F1 H1 x1 R1 ha na fa hn hd => ?_⟩
  have sk : Ext r (r1 ++ [a]) F F1 H H1 := ⟨x1.pre.trans ⟨[a], rfl⟩, x1.fr, x1.keep, fun b hb => (List.mem_append.mp hb).elim (x1.new b) fun z => .inr (by rw [List.mem_singleton.mp z]; exact hn), x1.dom, x1.frn⟩
  refine q (.ref a) (r1 ++ [a]) F1 H1 sk (R1.take na (by rw [ha]; exact fun z => nomatch z) ⟨fa, vs, ha, hd.up ⟨[a], rfl⟩ fun _ _ z => z⟩) (.loc ?_)
  rw [← R1.len, List.getElem?_append_right (Nat.le_refl _), Nat.sub_self]
  rfl
theorem rN_ext {r r1 : List Addr} {F F1 H H1 : Hp} {m1 : Mem} {ds : List D} {Q : VK} (x : Ext r r1 F F1 H H1)
    (q : ∀ (a : Addr) (vs : List V) (r' : List Addr) (F' H' : Hp), Ext r r' F F' H H' → Rel G r' F' m1 H' → H' a = some (.lst vs) → a ∉ r' → F' a = none → H a = none → Dats G r' F' vs ds → Q (.ref a) H') :
    ∀ (a : Addr) (vs : List V) (r' : List Addr) (F' H' : Hp), Ext r1 r' F1 F' H1 H' → Rel G r' F' m1 H' → H' a = some (.lst vs) → a ∉ r' → F' a = none → H1 a = none → Dats G r' F' vs ds → Q (.ref a) H' :=
  fun a vs r' F' H' x2 R2 ha na fa hn hd => q a vs r' F' H' (x.trans x2) R2 ha na fa (x.dom a hn) hd
/-- f(e, ..) -/
theorem n_call (c : Ctx X G k) (T : FnN X.prog X.w X.K X.mg X.base CX0 G k f fd ps fs) (hk : PySem.W.keepIn X.K (.ref f) = true) (hb : Binds X.K fd ps []) (hgl : Gl X x) (hm : X.mg x = some (.ref f)) (ha : PA X (e :: es) (semA G sa))
    (hdb : (x == ("__debug__" : Str)) = false := by decide) (he : starEach (e :: es) X.env = (false, eval e X.env) :: starEach es X.env := by rfl) (hpl : (backTo pos (starEach es X.env)).any (·.1) = false := by rfl) :
    PE X (.Call (.Name x p) (e :: es) [] pos) (semN G (appN fs sa)) :=
  ⟨fun pins s σ H Q I h => by
    refine wpAny_Call_Name_kw (ld_glob I hgl hm ?_ hdb)
    obtain ⟨r, F, env, m, d, m', e, R, E, q⟩ := h
    obtain ⟨⟨d1, m1⟩, e1, e⟩ := bind2 (γ := Unit) e
    have step : semA G sa σ H fun zs H2 => rN G fs zs H2 Q := ⟨r, F, env, m, d1, m1, e1, R, E, fun zs r2 F2 H2 x2 R2 h2 => ⟨r2, F2, m1, d1, d, m', e, R2, h2, rN_ext x2 q⟩⟩
    refine PySem.W.callWith_K (h₀ := X.base) I.ok.mod.kin hk (thn (ha.run pos pins s σ H _ I step) fun us s1 ⟨vs, H1, I1, rv, q⟩ => ⟨I1.kIn, ?_⟩) he hpl
    exact run_n (us2 := us) T c.room c.gua (fun hl => by have z := hb s1 us I1.kIn (by rw [List.append_nil]; exact hl); rwa [List.append_nil] at z) I1 rv q⟩
/-- f(k=e, ..) -/
theorem n_callK0 (c : Ctx X G k) (T : FnN X.prog X.w X.K X.mg X.base CX0 G k f fd ps fs) (hk : PySem.W.keepIn X.K (.ref f) = true) (hb : KwB X.K fd ps 0 ks is) (hgl : Gl X x) (hm : X.mg x = some (.ref f)) (hkw : PK X kws (semA G sb))
    (hall : (backToKw pos (keywordEach kws X.env)).all (·.1.isSome) = true := by rfl) (hks : (backToKw pos (keywordEach kws X.env)).filterMap (·.1) = ks := by rfl)
    (hdb : (x == ("__debug__" : Str)) = false := by decide) (hpl : ((backTo pos (starEach [] X.env)).any (·.1) || (backToKw pos (keywordEach kws X.env)).any (·.1.isNone)) = false := by rfl) :
    PE X (.Call (.Name x p) [] kws pos) (semN G (appNK 0 ks.length is fs argN sb)) :=
  ⟨fun pins s σ H Q I h => by
    refine wpAny_Call_Name_kw (ld_glob I hgl hm ?_ hdb)
    obtain ⟨r, F, env, m, d, m', e, R, E, q⟩ := h
    obtain ⟨⟨d1, m1⟩, e1, e⟩ := bind2 (γ := Unit) e
    cases e1
    obtain ⟨⟨d2, m2⟩, e2, e⟩ := bind2 (γ := Unit) e
    have step : semA G sb σ H fun zs H2 => zs.length = ks.length ∧ rN G fs (pick is zs) H2 Q := by
      refine ⟨r, F, env, m, d2, m2, e2, R, E, fun zs r2 F2 H2 x2 R2 h2 => ?_⟩
      split at e
      · rename_i hl
        exact ⟨h2.length.trans hl.2, r2, F2, m2, _, d, m', e, R2, h2.pick is, rN_ext x2 q⟩
      · cases e
    refine PySem.W.callWith_KW0 (h₀ := X.base) I.ok.mod.kin hk hall (thn (hkw.run pos pins s σ H _ I step) fun ws s2 ⟨zs, H2, I2, rz, l2, q2⟩ => ⟨I2.kIn, ?_⟩) hpl
    rw [hks]
    exact run_n T c.room c.gua (fun _ => hb.to s2 [] ws I2.kIn rfl (rz.length.symm.trans l2)) I2 (vals_pick rz is) q2⟩
end
section
variable (P : Program) (w : World) (K : PySem.W.Frag) (mg : Str → Option Value) (base : Heap) (G : Cfg) (k : Nat)
structure CalN (x : Str) (f : Addr) (fd : FuncData) (ps : List Str) (fs : Fl) : Prop where
  fn : FnN P w K mg base CX0 G k f fd ps fs
  kp : PySem.W.keepIn K (.ref f) = true
  bi : Binds K fd ps []
  mg : mg x = some (.ref f)
end
end Kb

set_option Elab.async false
set_option linter.all false
set_option maxRecDepth 100000
set_option maxHeartbeats 4000000
set_option autoImplicit false
/-! KcW: what a def lets out when lists of lists of its own are in it: from then on they never change. -/
namespace Kb
open PySem PySem.Spec PyProof.Rows L2

def mapO {α β : Type} (g : α → Option β) : List α → Option (List β)
  | [] => some []
  | x :: xs => (g x).bind fun y => (mapO g xs).map fun ys => y :: ys
/-- things of the store behind the n-th, as they are -/
def deep (m : Mem) (n : Nat) : Nat → D → Option D
  | 0, d => if below n d then some d else none
  | f + 1, d => match d with
    | .loc k => if k < n then some (.loc k) else match m[k]? with
      | some (.lst xs) => (mapO (deep m n f) xs).map .lst
      | some (.frz xs) => (mapO (deep m n f) xs).map .lst
      | _ => none
    | .lst xs => (mapO (deep m n f) xs).map .lst
    | .tup xs => (mapO (deep m n f) xs).map .tup
    | d => if below n d then some d else none
def outW (n : Nat) (d : D) (m : Mem) : Option (D × Mem) := if (m.take n).all (belowC n) = true then (deep m n 5 d).map fun d' => (d', m.take n) else none
section
variable {G : Cfg} {r r' : List Addr} {F F' H H' : Hp} {m : Mem}
theorem Rel.upF {F2 : Hp} (R : Rel G r F m H) (h1 : ∀ a o, F a = some o → F2 a = some o) (h2 : ∀ a o, F2 a = some o → H a = some o) (h3 : ∀ a ∈ r, F a = none → F2 a = none) : Rel G r F2 m H := by
  refine ⟨h2, R.len, R.inj, fun n a c e1 e2 => ?_, R.own⟩
  have hc := R.cell n a c e1 e2
  have ha : a ∈ r := List.mem_of_getElem? e1
  cases c with
  | lst xs =>
    obtain ⟨f, vs, g1, g2⟩ := hc
    exact ⟨h3 a ha f, vs, g1, g2.up (List.prefix_refl _) h1⟩
  | frz xs =>
    obtain ⟨vs, g1, g2⟩ := hc
    exact ⟨vs, h1 _ _ g1, g2.up (List.prefix_refl _) h1⟩
  | ins c xs =>
    obtain ⟨f, dx, vs, g1, g2, g3⟩ := hc
    exact ⟨h3 a ha f, dx, vs, g1, g2, g3.up (List.prefix_refl _) h1⟩
/-- the part that never changes, and the lists at new places -/
noncomputable def newF (r r' : List Addr) (F H : Hp) : Hp := fun a => open Classical in if a ∈ r' ∧ a ∉ r ∧ (∃ vs, H a = some (.lst vs)) then H a else F a
theorem newF_up (R : Rel G r' F m H) : ∀ a o, F a = some o → newF r r' F H a = some o := fun a o h => by
  unfold newF
  split
  · exact R.sub a o h
  · exact h
theorem newF_le (R : Rel G r' F m H) : ∀ a o, newF r r' F H a = some o → H a = some o := fun a o h => by
  unfold newF at h
  split at h
  · exact h
  · exact R.sub a o h
theorem newF_old {a : Addr} (h : a ∈ r) : newF r r' F H a = F a := by
  unfold newF
  rw [if_neg fun z => z.2.1 h]
theorem newF_out {a : Addr} (h : a ∉ r') : newF r r' F H a = F a := by
  unfold newF
  rw [if_neg fun z => h z.1]
theorem newF_new {a : Addr} {vs : List V} (h1 : a ∈ r') (h2 : a ∉ r) (h3 : H a = some (.lst vs)) : newF r r' F H a = some (.lst vs) := by
  unfold newF
  rw [if_pos ⟨h1, h2, vs, h3⟩]
  exact h3
theorem deeps_dat {g : D → Option D} (hg : ∀ (d d' : D) (v : V), Dat G r' F v d → g d = some d' → Dat G r (newF r r' F H) v d') : ∀ (ds ds' : List D) (vs : List V), Dats G r' F vs ds → mapO g ds = some ds' → Dats G r (newF r r' F H) vs ds'
  | [], _, _, .nil, e => by cases e; exact .nil
  | d :: ds, ds', v :: vs, .cons h1 h2, e => by
    obtain ⟨y, e1, e2⟩ := bind2 (γ := Unit) e
    obtain ⟨ys, e3, e4⟩ := Option.map_eq_some_iff.mp e2
    cases e4
    exact .cons (hg d y v h1 e1) (deeps_dat hg ds ys vs h2 e3)
theorem deep_dat (p : r <+: r') (R : Rel G r' F m H) : ∀ (f : Nat) (d d' : D) (v : V), Dat G r' F v d → deep m r.length f d = some d' → Dat G r (newF r r' F H) v d'
  | 0, d, d', v, h, e => by
    have e : (if below r.length d then some d else none) = some d' := e
    split at e
    · rename_i hb
      cases e
      exact (h.down p hb).up (List.prefix_refl _) (newF_up R)
    · cases e
  | f + 1, d, d', v, h, e => by
    have ih := deep_dat p R f
    have plain : ∀ d0 : D, Dat G r' F v d0 → (if below r.length d0 then some d0 else none) = some d' → Dat G r (newF r r' F H) v d' := fun d0 h0 e0 => by
      split at e0
      · rename_i hb
        cases e0
        exact (h0.down p hb).up (List.prefix_refl _) (newF_up R)
      · cases e0
    cases h with
    | loc ha =>
      rename_i a k
      have e : (if k < r.length then some (D.loc k) else match m[k]? with
        | some (.lst xs) => (mapO (deep m r.length f) xs).map .lst
        | some (.frz xs) => (mapO (deep m r.length f) xs).map .lst
        | _ => none) = some d' := e
      split at e
      · rename_i hk
        cases e
        have ha2 : r[k]? = some a := by
          obtain ⟨t, rfl⟩ := p
          rw [List.getElem?_append_left hk] at ha
          exact ha
        exact .loc ha2
      · rename_i hk
        have na : a ∉ r := fun z => by
          obtain ⟨i, hi, e3⟩ := List.mem_iff_getElem.mp z
          have h1 : r'[i]? = some a := loc_up p (by rw [List.getElem?_eq_getElem hi, e3])
          have := nodup_at R.inj h1 ha
          omega
        have ma : a ∈ r' := List.mem_of_getElem? ha
        split at e
        · rename_i xs hm
          obtain ⟨ys, e1, e2⟩ := Option.map_eq_some_iff.mp e
          cases e2
          obtain ⟨_, vs, h2, h3⟩ := R.cell k a _ ha hm
          exact .lst (newF_new ma na h2) (deeps_dat ih xs ys vs h3 e1)
        · rename_i xs hm
          obtain ⟨ys, e1, e2⟩ := Option.map_eq_some_iff.mp e
          cases e2
          obtain ⟨vs, h2, h3⟩ := R.cell k a _ ha hm
          exact .lst (newF_new ma na (R.sub _ _ h2)) (deeps_dat ih xs ys vs h3 e1)
        · cases e
    | lst h1 h2 =>
      obtain ⟨ys, e1, e2⟩ := Option.map_eq_some_iff.mp e
      cases e2
      exact .lst (newF_up R _ _ h1) (deeps_dat ih _ ys _ h2 e1)
    | tup h1 h2 =>
      obtain ⟨ys, e1, e2⟩ := Option.map_eq_some_iff.mp e
      cases e2
      exact .tup (sqt_up (newF_up R) h1) (deeps_dat ih _ ys _ h2 e1)
    | non => exact plain _ .non e
    | bl b => exact plain _ (.bl b) e
    | int i => exact plain _ (.int i) e
    | str x => exact plain _ (.str x) e
    | dic h1 h2 h3 => exact plain _ (.dic h1 h2 h3) e
    | obj h1 h2 h3 => exact plain _ (.obj h1 h2 h3) e
    | scr h1 => exact plain _ (.scr h1) e
    | rng h1 => exact plain _ (.rng h1) e
theorem outW_ok : OutOk G outW := fun {r r' F F' H H' m m' d d' v Q} x R h e q => by
  unfold outW at e
  split at e
  · rename_i hb
    obtain ⟨d2, e1, e2⟩ := Option.map_eq_some_iff.mp e
    cases e2
    have R2 := R.cut x.pre hb
    have R3 : Rel G r (newF r r' F' H') (m.take r.length) H' := R2.upF (newF_up R) (newF_le R) fun a ha f => by rw [newF_old ha]; exact f
    have x2 := x.cut
    have x3 : Ext r r F (newF r r' F' H') H H' := ⟨x2.pre, fun a o z => newF_up R a o (x2.fr a o z), x2.keep, x2.new, x2.dom, fun b f hH nr => by
      have : b ∉ r' := fun z => (x.new b z).elim nr fun w => hH w
      rw [newF_out this]
      exact x2.frn b f hH nr⟩
    exact q v r _ H' x3 R3 (deep_dat x.pre R 5 d d' v h e1)
  · cases e
end
end Kb

set_option Elab.async false
set_option linter.all false
set_option maxRecDepth 100000
set_option maxHeartbeats 4000000
set_option autoImplicit false
/-! KcX: dicts that never change: displays of written numbers, d[k]. -/
namespace Kb
open PySem PySem.Spec PyProof.Rows L2

theorem Ctx.hu1 {X : Cx} {G : Cfg} {k : Nat} (c : Ctx X G k) : X.A.units + 1 < cLine := by have := c.hu65; omega
def dicC (ks vs : List Int) : SE := fun _ m => some (.dic (ks.map Sum.inl) (vs.map D.int), m)
/-- d[k] -/
def dgetD (a b : D) (m : Mem) : Option (D × Mem) := match a, b with
  | .dic ks vs, .int i => ((ks.zip vs).find? fun p => decide (p.1 = Sum.inl i)).map fun p => (p.2, m)
  | .dic ks vs, .str x => ((ks.zip vs).find? fun p => decide (p.1 = Sum.inr x)).map fun p => (p.2, m)
  | _, _ => none
def kvC (ks vs : List Int) : List (Key × V) := (ks.map Sum.inl).zip (vs.map V.int)
def trC (ks vs : List Int) : List (TE × TE) := (ks.zip vs).map fun p => (tC (.int p.1), tC (.int p.2))
section
variable {X : Cx} {G : Cfg} {pos : Pos} {a b : Expr} {sa sb : SE} {keys : List (Option Expr)} {values : List Expr}
theorem trC_run : ∀ (ps : List (Int × Int)) (σ : L2.St) (H : Hp) (Q : List (V × V) → Hp → Prop), Q (ps.map fun p => (V.int p.1, V.int p.2)) H → tPairs (ps.map fun p => (tC (.int p.1), tC (.int p.2))) σ H Q
  | [], _, _, _, h => h
  | p :: ps, σ, H, Q, h => trC_run ps σ H (fun qs H3 => Q ((V.int p.1, V.int p.2) :: qs) H3) h
theorem dats_int : ∀ {r : List Addr} {F : Hp} (ns : List Int), Dats G r F (ns.map V.int) (ns.map D.int)
  | _, _, [] => .nil
  | _, _, n :: ns => .cons (.int n) (dats_int ns)
theorem zip_kv : ∀ ks vs : List Int, (ks.zip vs).map (fun p => (V.int p.1, V.int p.2)) = (kvC ks vs).map (fun kv => (kV kv.1, kv.2))
  | [], _ => rfl
  | _ :: _, [] => rfl
  | k :: ks, v :: vs => congrArg ((V.int k, V.int v) :: ·) (zip_kv ks vs)
theorem find_dat {r : List Addr} {F : Hp} {k : Key} {d : D} : ∀ {ks : List Key} {vs : List V} {ds : List D}, Dats G r F vs ds → ((ks.zip ds).find? fun p => decide (p.1 = k)).map (·.2) = some d → ∃ v, valV (ks.zip vs) k = some v ∧ Dat G r F v d
  | [], _, _, _, e => by simp at e
  | _ :: _, [], [], .nil, e => by simp at e
  | k0 :: ks, v :: vs, d0 :: ds, .cons h1 h2, e => by
    rw [List.zip_cons_cons, List.find?_cons] at e
    unfold valV
    rw [List.zip_cons_cons, List.find?_cons]
    by_cases hk : k0 = k
    · rw [decide_eq_true hk] at e ⊢
      cases e
      exact ⟨v, rfl, h1⟩
    · rw [decide_eq_false hk] at e ⊢
      exact find_dat h2 e
theorem e_dget (hu : X.A.units + 1 < cLine) (ha : PE X a (semE G sa)) (hb : PE X b (semE G sb)) (hs : NoSl b := by exact fun _ _ => rfl) : PE X (.Subscript a b pos) (semE G (bin dgetD sa sb)) := wkE (pe_dget hu ha hb hs) fun σ H Q ⟨r, F, env, m, d, m', e, R, E, q⟩ => by
  obtain ⟨⟨d1, m1⟩, e1, e⟩ := bind2 (γ := Unit) e
  obtain ⟨⟨d2, m2⟩, e2, e⟩ := bind2 (γ := Unit) e
  refine ⟨r, F, env, m, d1, m1, e1, R, E, fun x r1 F1 H1 x1 R1 h1 => ?_⟩
  refine ⟨r1, F1, env, m1, d2, m2, e2, R1, E.ext x1, fun y r2 F2 H2 x2 R2 h2 => ?_⟩
  have h1 := h1.ext x2
  have go : ∀ (ks : List Key) (ds : List D) (k : Key), d1 = .dic ks ds → y = kV k → ((ks.zip ds).find? fun p => decide (p.1 = k)).map (fun p => (p.2, m2)) = some (d, m') → ∃ a v, x = .ref a ∧ DGet H2 a y (some v) ∧ Q v H2 := fun ks ds k ed ey e3 => by
    subst ed
    cases h1 with
    | dic g1 g2 g3 =>
      rename_i p vs
      obtain ⟨pp, f1, f2⟩ := Option.map_eq_some_iff.mp e3
      have em : m2 = m' := congrArg Prod.snd f2
      have ed : pp.2 = d := congrArg Prod.fst f2
      obtain ⟨v, w1, w2⟩ := find_dat (k := k) g3 (d := d) (by rw [f1, ← ed]; rfl)
      subst em
      exact ⟨p, v, rfl, .inl ⟨ks.zip vs, k, .of (R2.sub _ _ g1), ey, w1.symm⟩, q v r2 F2 H2 (x1.trans x2) R2 w2⟩
  have e : dgetD d1 d2 m2 = some (d, m') := e
  cases d1 with
  | dic ks ds =>
    cases d2 with
    | int i => exact go ks ds (.inl i) rfl (dat_int h2) e
    | str x => exact go ks ds (.inr x) rfl (dat_str h2) e
    | _ => cases e
  | _ => cases e
theorem e_dic0 : PE X (.Dict [] [] pos) (semE G (dicC [] [])) := wkE pe_dnewK fun σ H Q ⟨r, F, env, m, d, m', e, R, E, q⟩ p hp => by
  cases e
  obtain ⟨R3, e3⟩ := R.new (o := .dK []) hp
  exact q _ _ _ _ e3 R3 (.dic (ks := []) (vs := []) upd_same rfl .nil)
theorem e_dicC (ks vs : List Int) (h : PPs X pos keys values (trC ks vs)) (hlen : ks.length = vs.length := by rfl) (hall : keys.all (·.isSome) = true := by rfl) (hl : keys.length = values.length := by rfl) (h0 : keys ≠ [] := by simp) (h15 : keys.length ≤ 15 := by decide)
    (hk : ks.length ≤ 15 := by decide) (hm : mergeK [] (kvC ks vs) = kvC ks vs := by rfl) : PE X (.Dict keys values pos) (semE G (dicC ks vs)) := wkE (pe_disp h hall hl h0 h15) fun σ H Q ⟨r, F, env, m, d, m', e, R, E, q⟩ p hp => by
  cases e
  refine trC_run _ _ _ _ ⟨upd_same, kvC ks vs, ?_, ?_, ?_⟩
  · exact zip_kv ks vs
  · unfold kvC
    rw [List.length_zip, List.length_map, List.length_map]
    omega
  · rw [hm]
    have e2 : upd (upd H p (.dK [])) p (.dK (kvC ks vs)) = upd H p (.dK (kvC ks vs)) := upd_upd
    rw [e2]
    obtain ⟨R3, e3⟩ := R.new (o := .dK (kvC ks vs)) hp
    exact q _ _ _ _ e3 R3 (.dic upd_same (by rw [List.length_map, List.length_map]; exact hlen) (dats_int vs))
end
end Kb

set_option Elab.async false
set_option linter.all false
set_option maxRecDepth 100000
set_option maxHeartbeats 4000000
set_option autoImplicit false
/-! KcY: dicts out of lists of pairs, texts of dicts. -/
namespace Kb
open PySem PySem.Spec PyProof.Rows L2

def pairKV : D → Option (Key × D)
  | .tup [.int i, d] => some (.inl i, d)
  | .tup [.str x, d] => some (.inr x, d)
  | _ => none
def pairKVs : List D → Option (List (Key × D))
  | [] => some []
  | d :: ds => (pairKV d).bind fun p => (pairKVs ds).map fun ps => p :: ps
/-- dict(pairs) with unlike keys -/
def dictPD : FD := fun as m => match as with
  | [d] => (lstD m d).bind fun xs => (pairKVs xs).bind fun ps => if (ps.map (·.1)).Nodup then some (.dic (ps.map (·.1)) (ps.map (·.2)), m) else none
  | _ => none
/-- what stands for itself, for texts -/
def atomP : D → Option PyData
  | .non => some .none
  | .bl b => some (.bool b)
  | .int i => some (.int i)
  | .str x => some (.str x)
  | _ => none
def atomPs : List D → Option (List PyData)
  | [] => some []
  | d :: ds => (atomP d).bind fun p => (atomPs ds).map fun ps => p :: ps
def keyP : Key → PyData
  | .inl i => .int i
  | .inr x => .str x
def dicP (ks : List Key) (vs : List D) : Option PyData := (atomPs vs).map fun ps => .dict ((ks.map keyP).zip ps)
/-- repr of any plain value: a dict, too -/
def reprXD : FD := fun as m => match as with
  | [.dic ks vs] => (dicP ks vs).bind fun p => if p.showable = true ∧ p.depth ≤ 20 ∧ p.shown.length ≤ 1000000 then some (.str p.shown, m) else none
  | as => reprD as m
section
theorem mergeK_nodup : ∀ (more acc : List (Key × V)), ((acc ++ more).map (·.1)).Nodup → mergeK acc more = acc ++ more
  | [], acc, _ => (List.append_nil acc).symm
  | kv :: more, acc, h => by
    have hp : putK acc kv.1 kv.2 = acc ++ [kv] := by
      unfold putK
      rw [if_neg]
      intro ha
      obtain ⟨x, hx, e⟩ := List.any_eq_true.mp ha
      have e := of_decide_eq_true e
      rw [List.map_append, List.map_cons] at h
      have := (List.nodup_append.mp h).2.2 x.1 (List.mem_map_of_mem hx) kv.1 (List.mem_cons_self ..)
      exact this e
    show mergeK (putK acc kv.1 kv.2) more = _
    rw [hp, mergeK_nodup more (acc ++ [kv]) (by rw [List.append_assoc]; exact h), List.append_assoc]
    rfl
variable {X : Cx} {G : Cfg}
theorem dat_tup2 {r : List Addr} {F : Hp} {v : V} {a b : D} (h : Dat G r F v (.tup [a, b])) : ∃ p x y, v = .ref p ∧ SqT G.K F p [x, y] ∧ Dat G r F x a ∧ Dat G r F y b := by
  cases h with
  | tup h1 h2 =>
    obtain ⟨x, y, rfl, hx, hy⟩ := dats2 h2
    exact ⟨_, x, y, rfl, h1, hx, hy⟩
theorem pairs_at (hK : G.K = X.K) {r : List Addr} {F H : Hp} {m : Mem} (R : Rel G r F m H) : ∀ {vs : List V} {ds : List D} {ps : List (Key × D)}, Dats G r F vs ds → pairKVs ds = some ps →
    ∃ (as : List Addr) (kvs : List (Key × V)), vs = as.map V.ref ∧ Paired (fun p kv => SqT X.K H p [kV kv.1, kv.2]) as kvs ∧ kvs.map (·.1) = ps.map (·.1) ∧ Dats G r F (kvs.map (·.2)) (ps.map (·.2))
  | [], [], ps, .nil, e => by
    cases e
    exact ⟨[], [], rfl, .nil, rfl, .nil⟩
  | v :: vs, d :: ds, ps, .cons h1 h2, e => by
    obtain ⟨p, e1, e⟩ := bind2 (γ := Unit) e
    obtain ⟨qs, e2, e3⟩ := Option.map_eq_some_iff.mp e
    cases e3
    obtain ⟨as, kvs, rfl, hp, hk, hd⟩ := pairs_at hK R h2 e2
    unfold pairKV at e1
    split at e1
    · rename_i i b
      cases e1
      obtain ⟨a, x, y, rfl, g1, g2, g3⟩ := dat_tup2 h1
      rw [dat_int g2] at g1
      exact ⟨a :: as, (.inl i, y) :: kvs, rfl, .cons (hK ▸ sqt_up R.sub g1) hp, by rw [List.map_cons, hk]; rfl, .cons g3 hd⟩
    · rename_i i b
      cases e1
      obtain ⟨a, x, y, rfl, g1, g2, g3⟩ := dat_tup2 h1
      rw [dat_str g2] at g1
      exact ⟨a :: as, (.inr i, y) :: kvs, rfl, .cons (hK ▸ sqt_up R.sub g1) hp, by rw [List.map_cons, hk]; rfl, .cons g3 hd⟩
    · cases e1
theorem zip_parts {α β : Type} : ∀ l : List (α × β), (l.map (·.1)).zip (l.map (·.2)) = l
  | [] => rfl
  | x :: l => by rw [List.map_cons, List.map_cons, List.zip_cons_cons, zip_parts l]
theorem c_dictP (hK : G.K = X.K) (hc : X.calm = true) : CallR X (.type "dict") (rC G dictPD) := by
  intro pins s σ H xs us Q I rs ⟨r, F, m, as, d, m', e, R, ha, q⟩
  unfold dictPD at e
  split at e
  case h_2 => cases e
  obtain ⟨ys, e1, e⟩ := bind2 (γ := Unit) e
  obtain ⟨ps, e2, e⟩ := bind2 (γ := Unit) e
  split at e
  case isFalse => cases e
  rename_i hn
  cases e
  obtain ⟨v, rfl, h⟩ := dats1 ha
  obtain ⟨a, vs, rfl, hd, hq⟩ := lst_of R h e1
  obtain ⟨bs, kvs, rfl, hp, hk, hd2⟩ := pairs_at hK R hd e2
  refine call_dictP hc pins s σ H _ us Q I rs ⟨a, bs, kvs, rfl, SqL.of hq, hp, fun p h0 => ?_⟩
  rw [mergeK_nodup kvs [] (by rw [List.nil_append, hk]; exact hn), List.nil_append]
  obtain ⟨R3, e3⟩ := R.new (o := .dK kvs) h0
  refine q _ _ _ _ e3 R3 (.dic (vs := kvs.map (·.2)) (by rw [upd_same, ← hk, zip_parts]) (by rw [← hk, List.length_map, List.length_map]) (hd2.ext e3))
theorem atom_reads {r : List Addr} {F : Hp} {h : Heap} {v : V} {u : Value} {d : D} {p : PyData} (hd : Dat G r F v d) (e : atomP d = some p) (rv : RelV v u) : Reads h u p [] := by
  unfold atomP at e
  split at e
  · cases e; cases hd; cases (show u = Value.none from rv); exact .none
  · cases e; cases hd; cases (show u = Value.bool _ from rv); exact .bool _
  · cases e; cases hd; obtain ⟨t, rfl⟩ := rv; exact .int _ t
  · cases e; cases hd; obtain ⟨t, rfl⟩ := rv; exact .str _ t
  · cases e
theorem key_reads {P : Program} {w : World} {h : Heap} {k : Key} {u : Value} (e : (mixKind P w).is k u = true) : Reads h u (keyP k) [] := by
  rcases keyIs_shape e with ⟨i, t, rfl, rfl⟩ | ⟨x, t, rfl, rfl⟩
  · exact .int i t
  · exact .str x t
theorem dic_reads {P : Program} {w : World} {r : List Addr} {F : Hp} {h : Heap} : ∀ {ks : List Key} {vs : List V} {ds : List D} {ps : List PyData} {es : List DictEntry} {kvs : List (Key × Value)}, ks.length = vs.length → Dats G r F vs ds → atomPs ds = some ps →
    KV (ks.zip vs) kvs → Pairs (mixKind P w) es kvs → ReadsAll h (es.map (·.key)) ((ks.map keyP).zip ps |>.map (·.1)) [] ∧ ReadsAll h (es.map (·.val)) ((ks.map keyP).zip ps |>.map (·.2)) []
  | [], [], _, ps, es, kvs, _, .nil, e, kv, pr => by
    cases e
    cases kv
    cases pr
    exact ⟨.nil, .nil⟩
  | k :: ks, v :: vs, _, ps, es, kvs, hl, .cons h1 h2, e, kv, pr => by
    obtain ⟨p, e1, e⟩ := bind2 (γ := Unit) e
    obtain ⟨qs, e2, e3⟩ := Option.map_eq_some_iff.mp e
    cases e3
    rw [List.zip_cons_cons] at kv
    cases kv with
    | cons g1 g2 =>
      cases pr with
      | cons p1 p3 p2 =>
        obtain ⟨a1, a2⟩ := dic_reads (h := h) (by simpa using hl) h2 e2 g2 p2
        refine ⟨?_, ?_⟩
        · rw [List.map_cons, List.map_cons, List.zip_cons_cons, List.map_cons]
          have p1' := p1
          rw [← g1.1] at p1'
          exact ReadsAll.cons (as := []) (bs := []) (key_reads p1') a1
        · rw [List.map_cons, List.map_cons, List.zip_cons_cons, List.map_cons]
          exact ReadsAll.cons (as := []) (bs := []) (p3 ▸ atom_reads h1 e1 g1.2) a2
  | [], _ :: _, _, _, _, _, hl, _, _, _, _ => by cases hl
  | _ :: _, [], _, _, _, _, hl, _, _, _, _ => by cases hl
theorem c_reprX {k : Nat} (hK : G.K = X.K) (hg : X.A.guards = some []) (hr : Room k X.A) : CallR X (.builtin "repr") (rC G reprXD) := by
  intro pins s σ H xs us Q I rs ⟨r, F, m, as, d, m', e, R, ha, q⟩
  unfold reprXD at e
  split at e
  case h_2 => exact c_repr hK hg hr pins s σ H xs us Q I rs ⟨r, F, m, _, d, m', e, R, ha, q⟩
  obtain ⟨p, e1, e⟩ := bind2 (γ := Unit) e
  obtain ⟨ps, e2, e3⟩ := Option.map_eq_some_iff.mp e1
  split at e
  case isFalse => cases e
  rename_i hl
  cases e
  obtain ⟨v, rfl, h⟩ := dats1 ha
  obtain ⟨u, rfl, ru⟩ := vals1 rs
  cases h with
  | dic g1 g2 g3 =>
    obtain ⟨hz0, hs, kvs, kv, o, es, ep, ho, hc, hd, hko, hp, hn⟩ := dk_of I.hok (R.sub _ _ g1)
    obtain ⟨a1, a2⟩ := dic_reads (h := s.heap) g2 g3 e2 kv hp
    cases (show u = Value.ref _ from ru)
    have rd : Reads s.heap (.ref _) (.dict _) _ := .dict ho hc.1 hd a1 a2
    have hz : p.shown.length ≤ sizeLine := by rw [sizeLine_eq]; omega
    have hu := hr.units
    rw [← e3] at hl hz q
    refine repr_of_reads' rd hl.1 (fun _ hm => ?_) hg (by omega) (fun _ _ e => e) (fun h' u tk k => ⟨.str _, H, I.kept (t' := tk) k, ⟨u, rfl⟩, q.here R (.str _)⟩) hz
    rcases List.mem_cons.mp hm with hm | hm
    · rw [← hm] at hs
      cases hs
    · cases hm
end
end Kb

set_option Elab.async false
set_option linter.all false
set_option maxRecDepth 100000
set_option maxHeartbeats 4000000
set_option autoImplicit false
/-! KcZ: texts of lists that hold instances with a __repr__ of their own. -/
namespace Kb
open PySem PySem.Spec PyProof.Rows L2 Builtin.List

/-! ### the walk of a list's text, whatever its items are -/
abbrev lopC (a : Addr) (l : List Value) : Code := .builtin "list.__repr__.loop" ⟨.ref a :: l, []⟩
theorem lop_units (A : Around) (a : Addr) (l : List Value) : (A.under (lopC a l)).units = A.units + 1 := units_under_list_loop A _
theorem lop_guards {A : Around} {g : List Code} (a : Addr) (l : List Value) (hg : A.guards = some g) : (A.under (lopC a l)).guards = some (lopC a l :: g) := guards_under_guard (isGuard_list_loop _) hg
theorem lop_frames (A : Around) (a : Addr) (l : List Value) : (A.under (lopC a l)).frames = A.frames := by
  show pushEnvs (lopC a l).envs A.frames = A.frames
  have e : (lopC a l).envs = [] := by simp [Code.envs, Code.isFrame]
  rw [e]
  rfl
theorem lop_depth (A : Around) (a : Addr) (l : List Value) : (A.under (lopC a l)).depth = A.depth + 1 := by
  simp [Around.under, Code.weight, Code.isCreation, Code.isGuard, Code.isCaller, Code.frames, Code.isFrame, guardIds]
theorem lop_handled (A : Around) (a : Addr) (l : List Value) : (A.under (lopC a l)).handled = A.handled := by
  simp [Around.under, Code.weight, Code.isCreation, Code.isGuard, Code.isCaller, Code.frames, Code.isFrame, guardIds]
theorem lop_room {k : Nat} {A : Around} (r : Room (k + 1) A) (a : Addr) (l : List Value) : Room k (A.under (lopC a l)) :=
  ⟨by rw [lop_handled]; exact r.hd, by rw [lop_depth]; have := r.dp; omega, by rw [lop_units]; have := r.un; omega⟩
theorem lop_env {P : Program} {w : World} {K : PySem.W.Frag} {mg : Str → Option Value} {base : Heap} {A : Around} {outer : List Env} {s : Shared} {H : Hp} (e : Env0 P w K mg base A outer s H) (a : Addr) (l : List Value) : Env0 P w K mg base (A.under (lopC a l)) outer s H :=
  ⟨by rw [lop_frames]; exact e.frames, e.mod, e.bs, e.bsz, e.funs, e.frf, e.hok, e.bare⟩
/-! ### lists of which no text comes by reading alone -/
def Unr1 (F : Hp) (a : Addr) : Prop := ∃ (vs : List V) (x C dx : Addr) (fs : List (Str × V)), F a = some (.lst vs) ∧ V.ref x ∈ vs ∧ F x = some (.ins C dx fs)
def Unr (F : Hp) (a : Addr) : Prop := Unr1 F a ∨ ∃ (vs : List V) (b : Addr), F a = some (.lst vs) ∧ V.ref b ∈ vs ∧ Unr1 F b
section
variable {X : Cx} {pins : List (Addr × Obj)} {σ : L2.St} {F F' H H' : Hp} {s : Shared} {a : Addr}
theorem Unr1.up (e : ∀ a o, F a = some o → F' a = some o) (h : Unr1 F a) : Unr1 F' a :=
  let ⟨vs, x, C, dx, fs, h1, h2, h3⟩ := h
  ⟨vs, x, C, dx, fs, e _ _ h1, h2, e _ _ h3⟩
theorem Unr.up (e : ∀ a o, F a = some o → F' a = some o) (h : Unr F a) : Unr F' a := h.elim (fun h => .inl (h.up e)) fun ⟨vs, b, h1, h2, h3⟩ => .inr ⟨vs, b, e _ _ h1, h2, h3.up e⟩
theorem vals_mem : ∀ {vs : List V} {us : List Value} {x : Addr}, Vals vs us → V.ref x ∈ vs → Value.ref x ∈ us
  | _, _, _, .nil, h => nomatch h
  | _, _, x, .cons r t, h => by
    rcases List.mem_cons.mp h with e | h
    · subst e
      cases (show _ = Value.ref x from r)
      exact List.mem_cons_self
    · exact List.mem_cons_of_mem _ (vals_mem t h)
theorem vals_at : ∀ {vs : List V} {us : List Value}, Vals vs us → ∀ (i : Nat) (h1 : i < vs.length) (h2 : i < us.length), RelV vs[i] us[i]
  | _, _, .cons r _, 0, _, _ => r
  | _, _, .cons _ t, i + 1, h1, h2 => vals_at t i (by simpa using h1) (by simpa using h2)
theorem reads_mem {h : Heap} : ∀ {us : List Value} {ds : List PyData} {as : List Addr} {u : Value}, ReadsAll h us ds as → u ∈ us → ∃ d as, Reads h u d as
  | _, _, _, _, .nil, m => nomatch m
  | _, _, _, u, .cons r t, m => by
    rcases List.mem_cons.mp m with e | m
    · subst e
      exact ⟨_, _, r⟩
    · exact reads_mem t m
theorem lst_reads (I : Inv X pins σ H s) {vs : List V} (ha : H a = some (.lst vs)) {d : PyData} {as : List Addr} (rd : Reads s.heap (.ref a) d as) {x : Addr} (hx : V.ref x ∈ vs) : ∃ d as, Reads s.heap (.ref x) d as := by
  obtain ⟨_, its, n, rv, e⟩ := I.hok a _ ha
  have hm := vals_mem rv hx
  cases rd with
  | list h1 h2 h3 h4 =>
    rw [e] at h1
    cases h1
    cases h3
    exact reads_mem h4 hm
  | tuple h1 h2 =>
    rw [e] at h1
    cases h1
    simp at h2
  | dict h1 h2 =>
    rw [e] at h1
    cases h1
    simp at h2
theorem ins_reads (I : Inv X pins σ H s) {C dx : Addr} {fs : List (Str × V)} (ha : H a = some (.ins C dx fs)) {d : PyData} {as : List Addr} (rd : Reads s.heap (.ref a) d as) : False := by
  obtain ⟨_, _, _, e, _⟩ := I.hok a _ ha
  cases rd with
  | list h1 h2 =>
    rw [e] at h1
    cases h1
    cases h2
  | tuple h1 h2 =>
    rw [e] at h1
    cases h1
    cases h2
  | dict h1 h2 =>
    rw [e] at h1
    cases h1
    cases h2
theorem unr1_reads (I : Inv X pins σ H s) (sub : ∀ a o, F a = some o → H a = some o) (h : Unr1 F a) {d : PyData} {as : List Addr} (rd : Reads s.heap (.ref a) d as) : False :=
  let ⟨_, _, _, _, _, h1, h2, h3⟩ := h
  let ⟨_, _, r⟩ := lst_reads I (sub _ _ h1) rd h2
  ins_reads I (sub _ _ h3) r
theorem unr_reads (I : Inv X pins σ H s) (sub : ∀ a o, F a = some o → H a = some o) (h : Unr F a) {d : PyData} {as : List Addr} (rd : Reads s.heap (.ref a) d as) : False :=
  h.elim (fun h => unr1_reads I sub h rd) fun ⟨_, _, h1, h2, h3⟩ =>
    let ⟨_, _, r⟩ := lst_reads I (sub _ _ h1) rd h2
    unr1_reads I sub h3 r
/-- the texts that are under way are of such lists -/
def Gok (F : Hp) (g : List Code) : Prop := ∀ c ∈ g, ∃ (a : Addr) (l : List Value), c = lopC a l ∧ Unr F a
theorem Gok.up (e : ∀ a o, F a = some o → F' a = some o) {g : List Code} (h : Gok F g) : Gok F' g := fun c hc => let ⟨a, l, e1, e2⟩ := h c hc; ⟨a, l, e1, e2.up e⟩
theorem gok_clear (I : Inv X pins σ H s) (sub : ∀ a o, F a = some o → H a = some o) {g : List Code} (h : Gok F g) {b : Addr} (hb : ∃ d as, Reads s.heap (.ref b) d as) : Clear g b := by
  intro id v rest kw hm e
  obtain ⟨a, l, e1, e2⟩ := h _ hm
  cases e1
  cases e
  obtain ⟨d, as, rd⟩ := hb
  exact unr_reads I sub e2 rd
end
/-! ### the walk of a list's text, whatever its items are -/
/-- at A', from the store m on, v has the text t -/
def ElI (X : Cx) (pins : List (Addr × Obj)) (σ : L2.St) (G : Cfg) (A' : Around) (m : Mem) (r0 : List Addr) (F0 H0 : Hp) (v : V) (t : Str) : Prop :=
  ∀ (n : Nat) (r : List Addr) (F H : Hp) (s : Shared) (u : Value) (E : Value → Shared → Prop) (Q : Str → Shared → Prop), n + t.length ≤ sizeLine → Inv X pins σ H s → Rel G r F m H → Ext r0 r F0 F H0 H → RelV v u →
    (∀ (r2 : List Addr) (F2 H2 : Hp) (s2 : Shared), Inv X pins σ H2 s2 → Rel G r2 F2 m H2 → Ext r r2 F F2 H H2 → (∀ b o, s.heap.get? b = some o → H b = none → b ∉ frs X.stack → s2.heap.get? b = some o ∧ H2 b = none) → Q t s2) →
    wpAny (model X.prog X.w) A' (pyReprUnder n u) Q E s
section
variable {X : Cx} {pins : List (Addr × Obj)} {σ : L2.St} {G : Cfg} {A : Around} {m : Mem} {r0 r : List Addr} {F0 F H0 H : Hp} {s : Shared} {a p : Addr} {vs : List V} {ts : List Str} {b : Nat} {R : Result → Shared → Prop} {g : List Code} {E : Value → Shared → Prop}
/-- what stands at p is of no matter to what is tracked -/
structure Loose (X : Cx) (pins : List (Addr × Obj)) (H : Hp) (p : Addr) : Prop where
  free : H p = none
  fr : p ∉ frs X.stack
  new : X.s_0.heap.objs.size ≤ p
  loc : p ≠ X.env.locals
  cell : ∀ x c, X.env.cells.lookup x = some c → c ≠ p
  pin : ∀ q ∈ X.pn ++ pins, q.1 ≠ p
theorem loose_new (I : Inv X pins σ H s) : Loose X pins H s.heap.objs.size where
  free := I.hok.fresh (Nat.le_refl _)
  fr := fun z => by
    rcases List.mem_cons.mp (I.stkSub _ z) with e | e
    · have h := I.lt
      rw [← e] at h
      exact Nat.lt_irrefl _ h
    · exact I.nofs (Nat.le_refl _) e
  new := I.sz
  loc := fun e => by
    have h := I.lt
    rw [← e] at h
    exact Nat.lt_irrefl _ h
  cell := fun x c e q => by
    obtain ⟨v, o, ho, _⟩ := I.cell x c e
    have h := Heap.lt_size ho
    rw [q] at h
    exact Nat.lt_irrefl _ h
  pin := fun q hq e => by
    have h := Heap.lt_size (I.pin q hq).1
    rw [e] at h
    exact Nat.lt_irrefl _ h
theorem inv_loose {p : Addr} {f : Obj → Obj} {o : Obj} (I : Inv X pins σ H s) (L : Loose X pins H p) (hp : s.heap.get? p = some o) (hf : (f o).isFreed = false) : Inv X pins σ H { s with heap := s.heap.update p f } := by
  have oth : ∀ b, b ≠ p → (s.heap.update p f).get? b = s.heap.get? b := fun b n => Heap.get?_update_other _ _ n.symm
  have ne : ∀ b, b ∉ [p] → b ≠ p := fun b n e => n (by simp [e])
  refine I.call' (ch := [p]) rfl ⟨fun b o h1 _ _ n => by rw [oth b (ne b n)]; exact h1, fun b o h1 _ _ n => ⟨o.slots, by rw [oth b (ne b n)]; exact h1⟩, fun b o _ h2 _ => h2, fun b o h1 n => ⟨o, by rw [oth b (ne b n)]; exact h1⟩, fun _ _ h => h, fun _ _ _ h => h, fun _ ps h => ⟨#[], by simpa using h⟩⟩ (fun b o h1 => ?_) I.bare fun b hb => ?_
  · refine (I.hok b o h1).stay (fun c u hc h2 => ?_) (fun _ q => q) fun _ _ q => q
    have n : c ≠ p := fun e => by
      rcases hc with z | z
      · rw [← z, e, L.free] at h1
        cases h1
      · rw [e, L.free] at z
        cases z
    rw [oth c n]
    exact h2
  · rw [List.mem_singleton] at hb
    subst hb
    exact ⟨.inr L.new, L.loc, L.cell, L.pin⟩
theorem lop_runI (hl : ts.length = vs.length) (hsz : b + (listText ts).length ≤ sizeLine) (ha : F0 a = some (.lst vs))
    (hT : ∀ (i : Nat) (v : V), vs[i]? = some v → ∃ t, ts[i]? = some t ∧ ∀ l : List Value, ElI X pins σ G (A.under (lopC a l)) m r0 F0 H0 v t) :
    ∀ (left i : Nat) (r : List Addr) (F H : Hp) (s : Shared) (c : Nat) (acc : Array Value) (dn : List (Str × Tok)), i + left = vs.length → Inv X pins σ H s → Rel G r F m H → Ext r0 r F0 F H0 H → Loose X pins H p →
      s.heap.get? p = some { cls := .type "list", dict := none, data := .seq acc c, slots := #[] } → acc.toList = strValues dn → dn.map (·.1) = ts.take i →
      (∀ (u : Tok) (r2 : List Addr) (F2 H2 : Hp) (s2 : Shared), Inv X pins σ H2 s2 → Rel G r2 F2 m H2 → Ext r r2 F F2 H H2 → (∀ b o, s.heap.get? b = some o → H b = none → b ∉ frs X.stack → b ≠ p → s2.heap.get? b = some o ∧ H2 b = none) → R (.ok (.ret (.str (listText ts) u))) s2) →
      codeAny (model X.prog X.w) A (lopC a [rawInt i, .ref p, rawInt ((b + piled (ts.take i) : Nat) : Int)]) R s := by
  have hx : (listText ts).length = (textFrom 0 "[" ts).length + 1 := by
    show (textFrom 0 "[" ts ++ "]").length = _
    rw [strLen_append]
    rfl
  obtain ⟨q1, q2, _⟩ := textFrom_len ts 0 "["
  rw [if_neg (Nat.lt_irrefl 0)] at q1
  have pl := piled_le_listText ts
  have zt : ∀ t ∈ ts, t.length ≤ sizeLine := fun t ht => Nat.le_trans (q2 t ht) (by omega)
  intro left
  induction left with
  | zero =>
    intro i r F H s c acc dn hi I RL EX L hp ea ed fin
    have ei : i = vs.length := by omega
    obtain ⟨_, its, na, rv, oa⟩ := I.hok a _ (RL.sub _ _ (EX.fr _ _ ha))
    refine codeAny_builtin PySem.F.entry_list_repr_loop ?_
    show wpAny _ _ (Builtin.«list.__repr__.loop» ⟨[.ref a, .int i 0, .ref p, .int ((b + piled (ts.take i) : Nat) : Int) 0], []⟩) _ _ _
    rw [repr_loop_tree]
    refine wpAny_bind (wpAny_listItems oa rfl ?_)
    have no : its.toArray[(i : Int).toNat]? = none := by
      have := rv.length
      simp
      omega
    simp only [no]
    unfold reprEnd
    refine wpAny_bind (wpAny_listItems hp rfl ?_)
    rw [ea, repr_fold]
    have all : dn.map (·.1) = ts := by rw [ed, ei, ← hl, List.take_length]
    rw [all]
    refine wpAny_bind (wpAny_pure (wpAny_bind (wpAny_mkStr (wpAny_pure ?_) (show (listText ts).length ≤ sizeLine by omega))))
    exact fin _ r F H _ (I.tok _) RL .refl fun b o h1 h2 _ _ => ⟨h1, h2⟩
  | succ left ih =>
    intro i r F H s c acc dn hi I RL EX L hp ea ed fin
    have lt : i < vs.length := by omega
    obtain ⟨_, its, na, rv, oa⟩ := I.hok a _ (RL.sub _ _ (EX.fr _ _ ha))
    obtain ⟨t, et, rep⟩ := hT i vs[i] (by simp [lt])
    have z1 := piled_take_succ et
    have z2 := piled_take_le ts (i + 1)
    have lt2 : i < its.length := by rw [← rv.length]; exact lt
    have rvi : RelV vs[i] its[i] := vals_at rv i lt lt2
    refine codeAny_builtin PySem.F.entry_list_repr_loop ?_
    show wpAny _ _ (Builtin.«list.__repr__.loop» ⟨[.ref a, .int i 0, .ref p, .int ((b + piled (ts.take i) : Nat) : Int) 0], []⟩) _ _ _
    rw [repr_loop_tree]
    refine wpAny_bind (wpAny_listItems oa rfl ?_)
    have so : its.toArray[(i : Int).toNat]? = some its[i] := by simp [lt2]
    simp only [so]
    rw [Int.toNat_natCast]
    refine wpAny_bind (wpAny_holding (rep _ (b + piled (ts.take i) + 1) r F H s its[i] _ _ (by omega) I RL EX rvi fun r2 F2 H2 s2 I2 R2 E2 k2 => ?_))
    obtain ⟨hp2, fp2⟩ := k2 p _ hp L.free L.fr
    refine wpAny_bind (wpAny_mkStr ?_ (zt t (List.mem_of_getElem? et)))
    refine wpAny_bind ?_
    show wpAny _ _ (updateSeq p _) _ _ _
    have az : acc.size ≤ sizeLine := by
      have u1 : acc.toList.length = acc.size := by simp
      have u2 : (strValues dn).length = dn.length := by simp [strValues]
      have u3 : dn.length = (ts.take i).length := by rw [← ed, List.length_map]
      have u4 : (ts.take i).length ≤ ts.length := by rw [List.length_take]; omega
      rw [ea] at u1
      omega
    refine wpAny_updateSeq hp2 rfl (wpAny_pure ⟨PySem.F.quiet_list_repr_loop _, ?_⟩) az
    have w1 : ((i : Int) + 1) = ((i + 1 : Nat) : Int) := by omega
    have w2 : b + piled (ts.take i) + (t.length + 2) = b + piled (ts.take (i + 1)) := by omega
    rw [w1, w2]
    have L2 : Loose X pins H2 p := { L with free := fp2 }
    have I3 := (I2.tok (s2.toks + 1))
    refine ih (i + 1) r2 F2 H2 _ _ _ (dn ++ [(t, s2.toks)]) (by omega) (inv_loose I3 L2 hp2 rfl) R2 (EX.trans E2) L2 (Heap.get?_update_self _ hp2 rfl) (by simp [ea, strValues]) (by simp [List.take_add_one, et, ed]) fun u r3 F3 H3 s3 I3 R3 E3 k3 => ?_
    refine fin u r3 F3 H3 s3 I3 R3 (E2.trans E3) fun x o h1 h2 h3 h4 => ?_
    obtain ⟨h5, h6⟩ := k2 x o h1 h2 h3
    exact k3 x o ((Heap.get?_update_other _ _ (fun e => h4 e.symm)).trans h5) h6 h3 h4
theorem lop_atI (hg : A.guards = some g) (hc : Clear g a) (hl : ts.length = vs.length) (h1 : 1 ≤ vs.length) (hsz : b + (listText ts).length ≤ sizeLine) (ha : F0 a = some (.lst vs))
    (hT : ∀ (i : Nat) (v : V), vs[i]? = some v → ∃ t, ts[i]? = some t ∧ ∀ l : List Value, ElI X pins σ G (A.under (lopC a l)) m r0 F0 H0 v t) (I : Inv X pins σ H s) (RL : Rel G r F m H) (EX : Ext r0 r F0 F H0 H)
    (fin : ∀ (u : Tok) (r2 : List Addr) (F2 H2 : Hp) (s2 : Shared), Inv X pins σ H2 s2 → Rel G r2 F2 m H2 → Ext r r2 F F2 H H2 → (∀ b o, s.heap.get? b = some o → H b = none → b ∉ frs X.stack → s2.heap.get? b = some o ∧ H2 b = none) → R (.ok (.ret (.str (listText ts) u))) s2) :
    wpAny (model X.prog X.w) A.in1 (Builtin.listReprAt b ⟨[.ref a], []⟩) (fun f s' => match f with | .done f => R (.ok f) s' | .again c => c.quiet = true ∧ codeAny (model X.prog X.w) A c R s') (fun e s' => R (.error e) s') s := by
  obtain ⟨_, its, na, rv, oa⟩ := I.hok a _ (RL.sub _ _ (EX.fr _ _ ha))
  obtain ⟨x, l, el⟩ : ∃ x l, its = x :: l := by
    have e := rv.length
    cases its with
    | nil => rw [List.length_nil] at e; omega
    | cons x l => exact ⟨x, l, rfl⟩
  refine wpAny_list_repr_head (A := A.in1) hg (fun v rest kw mm => listSameRef_of_ne (hc _ _ _ _ mm)) oa (by rw [el]) ?_
  refine wpAny_bind (m := newList []) (wpAny_newObj_type ?_)
  refine wpAny_pure ⟨PySem.F.quiet_list_repr_loop _, ?_⟩
  have kp : ∀ (o' : Obj) (b : Addr) (o : Obj), s.heap.get? b = some o → (s.heap.push o').get? b = some o := fun o' b o e => Heap.get?_push_of_some _ e
  refine lop_runI hl hsz ha hT _ 0 r F H _ _ #[] [] (Nat.zero_add _) (I.kept (t' := s.toks) (kp _)) RL EX (loose_new I) (Heap.get?_push_size _ rfl) rfl (by simp) fun u r2 F2 H2 s2 I2 R2 E2 k2 => fin u r2 F2 H2 s2 I2 R2 E2 fun b o h1 h2 h3 => k2 b o (kp _ b o h1) h2 h3 fun e => ?_
  have z := Heap.lt_size h1
  rw [e] at z
  exact Nat.lt_irrefl _ z
theorem list_callI {Q : Value → Shared → Prop} (hg : A.guards = some g) (hc : Clear g a) (hl : ts.length = vs.length) (h1 : 1 ≤ vs.length) (hsz : (listText ts).length ≤ sizeLine) (ha : F0 a = some (.lst vs))
    (hT : ∀ (i : Nat) (v : V), vs[i]? = some v → ∃ t, ts[i]? = some t ∧ ∀ l : List Value, ElI X pins σ G (A.under (lopC a l)) m r0 F0 H0 v t) (I : Inv X pins σ H s) (RL : Rel G r F m H) (EX : Ext r0 r F0 F H0 H)
    (fin : ∀ (u : Tok) (r2 : List Addr) (F2 H2 : Hp) (s2 : Shared), Inv X pins σ H2 s2 → Rel G r2 F2 m H2 → Ext r r2 F F2 H H2 → Q (.str (listText ts) u) s2) :
    wpAny (model X.prog X.w) A (call (.builtin "list.__repr__") [.ref a]) Q E s := by
  obtain ⟨_, its, na, rv, oa⟩ := I.hok a _ (RL.sub _ _ (EX.fr _ _ ha))
  exact wpAny_call (codeAny_call_builtin PySem.F.slot_list_repr.plain PySem.F.entry_list_repr (PySem.F.slot_list_repr.check _ _ _ _ _ _ _ _ ⟨_, oa, rfl⟩ (PySem.F.args_list_repr_1 _)
    (lop_atI (b := 0) (R := callEnd Q E) hg hc hl h1 (by omega) ha hT I RL EX fun u r2 F2 H2 s2 I2 R2 E2 _ => fin u r2 F2 H2 s2 I2 R2 E2)))
theorem list_underI (hg : A.guards = some g) (hc : Clear g a) (hu : A.units + 1 < cLine) (hl : ts.length = vs.length) (h1 : 1 ≤ vs.length) (ha : F0 a = some (.lst vs))
    (hT : ∀ (i : Nat) (v : V), vs[i]? = some v → ∃ t, ts[i]? = some t ∧ ∀ l : List Value, ElI X pins σ G (A.under (lopC a l)) m r0 F0 H0 v t) : ElI X pins σ G A m r0 F0 H0 (.ref a) (listText ts) := by
  intro n r F H s u E Q hsz I RL EX rv fin
  obtain ⟨_, its, na, rvs, oa⟩ := I.hok a _ (RL.sub _ _ (EX.fr _ _ ha))
  cases (show u = Value.ref a from rv)
  refine wpAny_pyReprUnder_ref (by omega) (wpAny_pyReprObjUnder_twin (twin := "list.__repr__.under") ⟨_, oa, rfl⟩ PySem.F.slot_list_repr.toG rfl (by omega) ?_)
  exact call_twin_plain PySem.F.plain_list_repr_under PySem.F.entry_list_repr_under PySem.F.check_list_repr_under ⟨_, oa, rfl⟩ PySem.F.slot_list_repr.toG (PySem.F.args_list_repr_1 _)
    (lop_atI (R := callEnd _ E) hg hc hl h1 hsz ha hT I RL EX fun u r2 F2 H2 s2 I2 R2 E2 k2 => ⟨⟨_, _, rfl⟩, _, _, rfl, fin r2 F2 H2 s2 I2 R2 E2 k2⟩)
/-- plain data -/
theorem el_plainI {v : V} {d : D} {q : PyData} (hK : G.K = X.K) (hg : A.guards = some g) (hG : Gok F0 g) (hv : Dat G r0 F0 v d) (e : toP m d = some q) (h1 : q.showable = true) (h2 : q.hasDict = false) (hz : q.shown.length ≤ sizeLine) (hu : A.units + q.depth < cLine) : ElI X pins σ G A m r0 F0 H0 v q.shown := by
  intro n r F H s u E Q hsz I RL EX rv fin
  obtain ⟨as, rd⟩ := Dp.reads I _ _ u (toP_ok hK RL (hv.up EX.pre EX.fr) e) rv
  obtain ⟨bs, q1, q2⟩ := ReprK.of_reads (prog := X.prog) (w := X.w) rd h1 (PyData.noDict_hsm h2) hz
  exact q2 n hsz A g E s Q hg (fun b hb => gok_clear I RL.sub (hG.up EX.fr) (let ⟨d, as, r, _⟩ := q1 b hb; ⟨d, as, r⟩)) hu (fun _ _ e => e) fun h4 tk4 k4 => fin r F H _ (I.kept (t' := tk4) k4) RL .refl fun b o h1 h2 _ => ⟨k4 b o h1, h2⟩
end
/-! ### a __repr__ of its own -/
/-- the text of a tuple -/
def shownT (m : Mem) (d : D) : Option Str := (toP m d).bind fun p => match p with
  | .tuple xs => if p.showable = true ∧ p.hasDict = false ∧ p.depth ≤ 20 ∧ p.shown.length ≤ 1000000 then some p.shown else none
  | _ => none
/-- what the classes say: words ahead, the field, words behind -/
abbrev Rps := Nat → Option (Str × Nat × Str)
def ownT (rp : Rps) (m : Mem) : D → Option Str
  | .obj c fs => (rp c).bind fun q => fs[q.2.1]?.bind fun d => (shownT m d).bind fun z => if q.1.length ≤ 1000 ∧ q.2.2.length ≤ 1000 then some (q.1 ++ z ++ q.2.2) else none
  | _ => none
structure Rpg (P : Program) (w : World) (K : PySem.W.Frag) (mg : Str → Option Value) (base : Heap) (G : Cfg) (k c : Nat) (f : Addr) (fd : FuncData) (x : Str) (j : Nat) (y : Str) : Prop where
  run : ∀ (g : List Code) (A : Around) (outer : List Env) (s : Shared) (H : Hp) (a : Addr) (Q : VK) (E : XK) (r : List Addr) (F : Hp) (m : Mem) (fs : List D) (d : D) (z : Str), Room k A → A.guards = some g → Gok F g → Env0 P w K mg base A outer s H → Rel G r F m H → Dat G r F (.ref a) (.obj c fs) →
    fs[j]? = some d → shownT m d = some z → x.length ≤ 1000 ∧ y.length ≤ 1000 → PostE G r F H m (.str (x ++ z ++ y)) Q → codeAny (model P w) A (.call (.ref f) ⟨[.ref a], []⟩) (CR CX0 outer P w H s Q E) s
  find : PySem.W.findIn K (.ref (G.cls c)) "__repr__" = some (some (.ref f))
  isf : PySem.W.isFn K (.ref f) = true
section
variable {X : Cx} {pins : List (Addr × Obj)} {σ : L2.St} {G : Cfg} {A : Around} {m : Mem} {r0 : List Addr} {F0 H0 : Hp} {g : List Code} {k c j : Nat} {f a : Addr} {fd : FuncData} {x y z : Str} {fs : List D} {d : D}
theorem el_insI (T : Rpg X.prog X.w X.K X.mg X.base G k c f fd x j y) (hg : A.guards = some g) (hG : Gok F0 g) (hr : Room k A) (hf : A.frames = X.A.frames) (hv : Dat G r0 F0 (.ref a) (.obj c fs)) (hd : fs[j]? = some d) (hz : shownT m d = some z) (hl : x.length ≤ 1000 ∧ y.length ≤ 1000) :
    ElI X pins σ G A m r0 F0 H0 (.ref a) (x ++ z ++ y) := by
  intro n r F H s u E Q hsz I RL EX rv fin
  cases (show u = Value.ref a from rv)
  have hv2 := hv.up EX.pre EX.fr
  obtain ⟨a1, dx, vs, e1, g1, _⟩ := ins_of RL hv2 rfl
  cases e1
  obtain ⟨mA, J, _⟩ := ins_get I.hok g1
  obtain ⟨od, J, _⟩ := J.look
  have e0 : Env0 X.prog X.w X.K X.mg X.base A X.stack s H := { I.env0 with frames := hf.trans I.ok.frames }
  have hu := hr.units
  refine wpAny_pyReprUnder_ref (by omega) ?_
  unfold pyReprObjUnder pyReprObjBy
  refine wpAny_bind (wpAny_cRoomFor (by omega) ?_)
  refine wpAny_bind (wpAny_bind (J.type.here ((PySem.W.looks_findIn I.kIn T.find).here ?_)))
  show wpAny _ _ (if (some (Value.ref f)).isNone = true then _ else _) _ _ _
  rw [if_neg (by simp)]
  have run : wpAny (model X.prog X.w) A (call (.ref f) [.ref a]) (fun v s' => ∃ t u, v = .str t u ∧ Q t s') E s := by
    have post : PostE G r F H m (.str (x ++ z ++ y)) fun v H' => v = .str (x ++ z ++ y) ∧ ∃ r2 F2, Ext r r2 F F2 H H' ∧ Rel G r2 F2 m H' := fun v r2 F2 H2 E2 R2 h => by
      cases h
      exact ⟨rfl, r2, F2, E2, R2⟩
    refine wpAny_call (codeAny_mono (T.run g A X.stack s H a _ E0 r F m fs d z hr hg (hG.up EX.fr) e0 RL hv2 hd hz hl post) fun o s' ho => ?_)
    match o, ho with
    | .ok (.ret u), ho =>
      obtain ⟨v, H', os, bare, un, hok, rv, ev, r2, F2, E2, R2⟩ := ho
      subst ev
      obtain ⟨t, rfl⟩ := (show ∃ t, u = Value.str (x ++ z ++ y) t from rv)
      exact ⟨_, t, rfl, fin r2 F2 H' s' (I.call' (ch := []) os un hok bare fun b hb => absurd hb (by simp)) R2 E2 fun b o h1 h2 h3 => ⟨un.keep b o h1 h2 h3 (by simp), un.free b o h1 h2 (by simp)⟩⟩
    | .ok .next, ho => exact False.elim ho
    | .ok .brk, ho => exact False.elim ho
    | .ok .cont, ho => exact False.elim ho
  refine wpAny_bind ?_
  simp only [callSpecialIfBoundBy?, bindSpecialIfBound?]
  refine wpAny_holding (wpAny_bind (wpAny_bind (wpAny_bind (J.type.here ((PySem.W.looks_findIn I.kIn T.find).here ?_)))))
  refine wpAny_bind (wpAny_askSetting (wpAny_ite ?_))
  have last : wpAny (model X.prog X.w) A (call (.ref f) ([.ref a] ++ []) >>= fun v => pure (some v)) (fun r s' => wpAny (model X.prog X.w) A (match r with
      | some r => (do if ← isInstance r (.type "str") then pure r else raiseError "TypeError" s!"__repr__ returned non-string (type {← typeNameOf r})" : Sem Value)
      | none => unsupported "repr:special-get-raises") (fun v s' => ∃ t u, v = .str t u ∧ Q t s') E s') E s := by
    refine wpAny_bind (wpAny_mono run (fun v s' hv => wpAny_pure ?_) fun _ _ e => e)
    obtain ⟨t, u, rfl, q⟩ := hv
    exact wpAny_bind (wpAny_isInstance (T := "str") (b := true) rfl isSubtype_str_str (wpAny_pure ⟨t, u, rfl, q⟩))
  split
  · exact wpAny_bind ((PySem.W.bind_fn I.kIn _ (beq_iff_eq.mp T.isf)).here (wpAny_pure (by exact last)))
  · exact wpAny_tryCatch (wpAny_bind ((PySem.W.bind_fn I.kIn _ (beq_iff_eq.mp T.isf)).here (wpAny_pure (by exact last))))
end
/-- {e!r}, while other texts are under way -/
def semFm (G : Cfg) (g : List Code) (se : SE) : TE := fun σ H Q => ∃ (r : List Addr) (F : Hp) (env : Ev) (m : Mem) (d : D) (z : Str), se env m = some (d, m) ∧ shownT m d = some z ∧ Gok F g ∧ Rel G r F m H ∧ EnvR G r F H σ env ∧ PostE G r F H m (.str z) Q
def semFst (G : Cfg) (g : List Code) (x y : Str) (se : SE) : TE := fun σ H Q => ∃ (r : List Addr) (F : Hp) (env : Ev) (m : Mem) (d : D) (z : Str), se env m = some (d, m) ∧ shownT m d = some z ∧ Gok F g ∧ Rel G r F m H ∧ EnvR G r F H σ env ∧ (x.length ≤ 1000 ∧ y.length ≤ 1000) ∧
  PostE G r F H m (.str (x ++ z ++ y)) Q
section
variable {X : Cx} {G : Cfg} {k : Nat} {g : List Code} {e : Expr} {se : SE} {pos p1 p2 : Pos}
theorem shownT_some {m : Mem} {d : D} {x : Str} (h : shownT m d = some x) : ∃ xs, toP m d = some (.tuple xs) ∧ (PyData.tuple xs).showable = true ∧ (PyData.tuple xs).hasDict = false ∧ (PyData.tuple xs).depth ≤ 20 ∧ (PyData.tuple xs).shown.length ≤ 1000000 ∧ x = (PyData.tuple xs).shown := by
  obtain ⟨p, e1, e2⟩ := bind2 (γ := Unit) h
  split at e2
  · rename_i xs
    split at e2
    · rename_i hl
      cases e2
      exact ⟨xs, e1, hl.1, hl.2.1, hl.2.2.1, hl.2.2.2, rfl⟩
    · cases e2
  · cases e2
theorem pe_fmtG (hK : G.K = X.K) (hg : X.A.guards = some g) (hr : Room k X.A) (he : PE X e (semE G se)) : PE X (.FormattedValue e 114 none pos) (semFm G g se) := ⟨fun pins s σ H Q I ⟨r, F, env, m, d, z, e0, e1, hG, R, E, q⟩ => by
  obtain ⟨xs, e5, h1, h2, h3, h4, rfl⟩ := shownT_some e1
  have step : semE G se σ H fun v H1 => Dp X.K H1 v (.tuple xs) ∧ (∃ r1 F1, Rel G r1 F1 m H1 ∧ Ext r r1 F F1 H H1) ∧ Q (.str (PyData.tuple xs).shown) H1 := ⟨r, F, env, m, d, m, e0, R, E, fun v r1 F1 H1 x1 R1 hv => ⟨toP_ok hK R1 hv e5, ⟨r1, F1, R1, x1⟩, q _ r1 F1 H1 x1 R1 (.str _)⟩⟩
  refine wpAny_FormattedValue_repr (thn (he.run pins s σ H _ I step) fun u s1 ⟨v, H1, I1, rv, hd, ⟨r1, F1, R1, x1⟩, q1⟩ => ?_)
  obtain ⟨as, rd⟩ := Dp.reads I1 _ _ u hd rv
  have hz : (PyData.tuple xs).shown.length ≤ sizeLine := by rw [sizeLine_eq]; omega
  have hz' : (tupleText (PyData.shownAll xs)).length ≤ sizeLine := by simpa only [PyData.shown] using hz
  have hu := hr.units
  have dep : PyData.depthAll xs + 1 = (PyData.tuple xs).depth := by simp only [PyData.depth]
  cases rd with
  | @tuple a o items n _ as w1 w2 w3 w4 =>
    obtain ⟨bs, hb, hk⟩ := ReprAllK.of_readsAll (prog := X.prog) (w := X.w) w4 (by simpa [PyData.showable] using h1) (fun hx => absurd (show (PyData.tuple xs).hasDict = true by simpa [PyData.hasDict] using hx) (by rw [h2]; decide)) (fun t ht => Nat.le_trans (tupleText_mem_le ht) hz')
    have rr : Reads s1.heap (.ref a) (.tuple xs) _ := .tuple w1 w2 w3 w4
    have na : a ∉ bs := not_mem_of_deeper rr (by omega) hb
    have cl : ∀ b, (∃ d as, Reads s1.heap (.ref b) d as) → Clear g b := fun b hb => gok_clear I1 R1.sub (hG.up x1.fr) hb
    refine wpAny_pyReprObj_tupleK w1 w2 w3 na hk hg (fun b hb2 => ?_) (by omega) (fun _ _ z => z) (fun h' t tk kk => ?_) hz'
    · rcases List.mem_cons.mp hb2 with e | e
      · rw [e]
        exact cl a ⟨_, _, rr⟩
      · obtain ⟨d', as', r', _⟩ := hb b e
        exact cl b ⟨d', as', r'⟩
    · have sh : (PyData.tuple xs).shown = tupleText (PyData.shownAll xs) := by simp only [PyData.shown]
      rw [sh] at q1
      exact wpAny_formatField_str ⟨.str (tupleText (PyData.shownAll xs)), H1, I1.kept (t' := tk) kk, ⟨_, rfl⟩, q1⟩ ⟨.str (tupleText (PyData.shownAll xs)), H1, I1.kept (t' := tk + 1) kk, ⟨_, rfl⟩, q1⟩ hz'⟩
theorem g_fst {x y : Str} {j1 j2 : Nat} {p3 p4 : Pos} (hK : G.K = X.K) (hg : X.A.guards = some g) (hr : Room k X.A) (he : PE X e (semE G se)) : PE X (.JoinedStr [.Constant (.str x) j1 p1, .FormattedValue e 114 none p2, .Constant (.str y) j2 p3] p4) (semFst G g x y se) :=
  wkE (pe_joined (.cons pe_str (.cons (pe_fmtG hK hg hr he) (.cons pe_str .nil)))) fun σ H Q ⟨r, F, env, m, d, z, e0, e1, hG, R, E, hl, q⟩ => by
    have hz : z.length ≤ 1000000 := by
      obtain ⟨xs, _, _, _, _, h4, rfl⟩ := shownT_some e1
      exact h4
    have ez : (Str.empty ++ x) = x := Str.empty_append x
    refine ⟨x, rfl, by rw [ez, sizeLine_eq]; omega, ?_⟩
    rw [ez]
    refine ⟨r, F, env, m, d, z, e0, e1, hG, R, E, fun v r1 F1 H1 x1 R1 hv => ?_⟩
    cases hv
    refine ⟨z, rfl, by rw [Str.length_append, sizeLine_eq]; omega, y, rfl, by rw [Str.length_append, Str.length_append, sizeLine_eq]; omega, ?_⟩
    exact q _ r1 F1 H1 x1 R1 (.str _)
end
section
variable {P : Program} {w : World} {K : PySem.W.Frag} {mg : Str → Option Value} {base : Heap} {G : Cfg} {k c j : Nat} {f : Addr} {fd : FuncData} {N : List Str} {nm qual x y : Str} {st : Stmt}
/-- a __repr__ that hands back words, a field's text, words -/
theorem rpg_body (hG : G.K = K) (T : Fun K nm qual st f fd) (S : FnScope N ["self"] (defScope st)) (hN : N = (["self"] : List Str)) (hb2 : Binds K fd ["self"] []) (hf : PySem.W.findIn K (.ref (G.cls c)) "__repr__" = some (some (.ref f))) (hi : PySem.W.isFn K (.ref f) = true)
    (hb : ∀ (cdv : Value) (A : Around) (outer : List Env) (s : Shared) (H : Hp) (E : XK) (g : List Code), G.K = (BX P w K mg base N qual st f cdv A outer s H E).K → (BX P w K mg base N qual st f cdv A outer s H E).A.guards = some g → Room k (BX P w K mg base N qual st f cdv A outer s H E).A →
      PSs (BX P w K mg base N qual st f cdv A outer s H E) (defBody st) (fun D σ H => semFst G g x y (fldE c j (var 0)) σ H D.rt)) : Rpg P w K mg base G (k + 1) c f fd x j y := by
  refine ⟨fun g A outer s H a Q E r F m fs d z hr hgu hG2 e0 R hv hd hz hl q => ?_, hf, hi⟩
  obtain ⟨oc, od, kV, doc, pm, an, cdv, ct, osl, rfl, lk, hcd⟩ := T.ex
  have KX : K.In s.heap := e0.mod.kin.keeps fun a u z => (e0.bs a u z).1
  have hbi2 := hb2 s [.ref a] KX rfl
  rw [List.append_nil] at hbi2
  have vv : Vals [V.ref a] [Value.ref a] := .cons rfl .nil
  have lim : s.heap.NoLimit := e0.mod.nolimit.keeps fun a u z => (e0.bs a u z).1
  have kinds : ∀ y ∈ (["self"] : List Str).zip [Value.ref a], (defScope st).names.lookup y.1 = some .local ∨ ((defScope st).names.lookup y.1 = some .cell ∧ ((cellsFrom (s.heap.objs.size + 1) (defScope st).names []).lookup y.1).isSome = true) := by
    rintro ⟨n, u⟩ hy
    exact (S.par n (List.of_mem_zip hy).1).imp id fun z => ⟨z, PySem.W.cellsFrom_some _ _ _ (.inl z)⟩
  refine codeAny_call_function hr.depth (KX _ _ lk) rfl S.co S.gen rfl (PySem.W.codeRec_of KX hcd) (hbi2 _ _ _ _ ?_)
  refine wpAny_newFunctionEnv_cells S.kind kinds fun env he s1 xx => ?_
  subst he
  refine ⟨lim.keeps xx.toInCall.keep, codeAny_func ?_⟩
  have I : Inv (cxOf CX0 P w K mg base N qual (defScope st) f cdv A outer s H E) [] (L2.start N [V.ref a]) H s1 := inv_start S hr.hd e0 rfl vv xx
  have body := (hb cdv A outer s H E g hG hgu (hr.deeper _)).nox
  have stt := env_start (H := H) (N := N) (Dats.cons hv .nil)
  have start_ok : semFst G g x y (fldE c j (var 0)) (L2.start N [V.ref a]) H Q := ⟨r, F, _, m, d, z, by
    subst hN
    show (fldE c j (var 0)) [some (.obj c fs)] m = _
    show ((if isOwn (.obj c fs) = true then none else some (D.obj c fs, m)).bind fun p => (insD p.2 p.1).bind fun q => if q.1 = c then q.2[j]?.map fun d => (d, p.2) else none) = _
    rw [if_neg (show ¬ isOwn (.obj c fs) = true by simp [isOwn])]
    show (if c = c then fs[j]?.map fun d => (d, m) else none) = _
    rw [if_pos rfl, hd]
    rfl, hz, hG2, R, stt.1, hl, q⟩
  have fin : ∀ (s' : Shared) (σ' : L2.St) (H' : Hp) (v : V) (u : Value), Inv (cxOf CX0 P w K mg base N qual (defScope st) f cdv A outer s H E) [] σ' H' s' → RelV v u → Q v H' → CE outer P w H s Q u s' :=
    fun s' σ' H' v u J rv z => ⟨v, H', J.os, J.bare, J.base, J.hok, rv, z⟩
  refine wpAny_mono (body.run [] s1 (L2.start N [V.ref a]) H { nx := fun _ _ => False, rt := Q } I start_ok) (fun fl s' hs => ?_) fun e s' hs => hs
  cases fl with
  | ret u => exact match hs with | ⟨v, σ', H', J, rv, z⟩ => fin s' σ' H' v u J rv z
  | next => exact match hs with | ⟨σ', H', J, z⟩ => False.elim z
  | brk => exact match hs with | ⟨_, _, _, z⟩ => False.elim z
  | cont => exact match hs with | ⟨_, _, _, z⟩ => False.elim z
end
/-! ### texts of instances, of lists with instances in them, of lists of such lists -/
def isObj : D → Bool
  | .obj _ _ => true
  | _ => false
def isL1 : D → Bool
  | .lst xs => xs.any isObj
  | _ => false
def tx0 (rp : Rps) (m : Mem) (d : D) : Option Str := match shownD m d with
  | some x => some x
  | none => ownT rp m d
def lstT (f : D → Option Str) : D → Option Str
  | .lst xs => (mapO f xs).bind fun ts => if (listText ts).length ≤ 1000000 then some (listText ts) else none
  | _ => none
def tx1 (rp : Rps) (m : Mem) (d : D) : Option Str := match tx0 rp m d with
  | some x => some x
  | none => if isL1 d then lstT (tx0 rp m) d else none
def isL2 : D → Bool
  | .lst xs => xs.any isL1
  | _ => false
def tx2 (rp : Rps) (m : Mem) (d : D) : Option Str := match tx1 rp m d with
  | some x => some x
  | none => if isL2 d then lstT (tx1 rp m) d else none
def reprYD (rp : Rps) : FD := fun as m => match as with
  | [d] => (tx2 rp m d).map fun x => (.str x, m)
  | _ => none
theorem mapO_at {f : D → Option Str} : ∀ {xs : List D} {ts : List Str}, mapO f xs = some ts → ts.length = xs.length ∧ ∀ (i : Nat) (d : D), xs[i]? = some d → ∃ t, ts[i]? = some t ∧ f d = some t
  | [], ts, e => by
    cases e
    exact ⟨rfl, fun i d h => by simp at h⟩
  | x :: xs, ts, e => by
    obtain ⟨y, e1, e2⟩ := bind2 (γ := Unit) e
    obtain ⟨ys, e3, e4⟩ := Option.map_eq_some_iff.mp e2
    cases e4
    obtain ⟨h1, h2⟩ := mapO_at e3
    refine ⟨by rw [List.length_cons, List.length_cons, h1], fun i d h => ?_⟩
    cases i with
    | zero =>
      simp at h
      subst h
      exact ⟨y, rfl, e1⟩
    | succ i =>
      obtain ⟨t, h3, h4⟩ := h2 i d (by simpa using h)
      exact ⟨t, by simpa using h3, h4⟩
/-- all classes that have words have such a __repr__ -/
def RpOk (P : Program) (w : World) (K : PySem.W.Frag) (mg : Str → Option Value) (base : Heap) (G : Cfg) (k : Nat) (rp : Rps) : Prop := ∀ (c : Nat) (q : Str × Nat × Str), rp c = some q → ∃ f fd, Rpg P w K mg base G k c f fd q.1 q.2.1 q.2.2
section
variable {X : Cx} {pins : List (Addr × Obj)} {σ : L2.St} {G : Cfg} {A : Around} {m : Mem} {r0 : List Addr} {F0 H0 : Hp} {g : List Code} {k : Nat} {rp : Rps} {d : D} {v : V} {t : Str} {s : Shared}
theorem shownD_some {x : Str} (h : shownD m d = some x) : ∃ p, toP m d = some p ∧ p.showable = true ∧ p.hasDict = false ∧ p.depth ≤ 20 ∧ p.shown.length ≤ 1000000 ∧ x = p.shown := by
  obtain ⟨p, e1, e2⟩ := bind2 (γ := Unit) h
  split at e2
  · rename_i hl
    cases e2
    exact ⟨p, e1, hl.1, hl.2.1, hl.2.2.1, hl.2.2.2, rfl⟩
  · cases e2
theorem ownT_some {x : Str} (h : ownT rp m d = some x) : ∃ c fs q d1 z, d = .obj c fs ∧ rp c = some q ∧ fs[q.2.1]? = some d1 ∧ shownT m d1 = some z ∧ (q.1.length ≤ 1000 ∧ q.2.2.length ≤ 1000) ∧ x = q.1 ++ z ++ q.2.2 := by
  unfold ownT at h
  split at h
  · rename_i c fs
    obtain ⟨q, e1, e2⟩ := bind2 (γ := Unit) h
    obtain ⟨d1, e3, e4⟩ := bind2 (γ := Unit) e2
    obtain ⟨z, e5, e6⟩ := bind2 (γ := Unit) e4
    split at e6
    · rename_i hl
      cases e6
      exact ⟨c, fs, q, d1, z, rfl, e1, e3, e5, hl, rfl⟩
    · cases e6
  · cases h
theorem el_tx0 (hK : G.K = X.K) (o : RpOk X.prog X.w X.K X.mg X.base G k rp) (hg : A.guards = some g) (hG : Gok F0 g) (hr : Room k A) (hf : A.frames = X.A.frames) (hv : Dat G r0 F0 v d) (e : tx0 rp m d = some t) : ElI X pins σ G A m r0 F0 H0 v t := by
  unfold tx0 at e
  split at e
  · rename_i x hx
    cases e
    obtain ⟨p, h1, h2, h3, h4, h5, rfl⟩ := shownD_some hx
    have hu := hr.units
    exact el_plainI hK hg hG hv h1 h2 h3 (by rw [sizeLine_eq]; omega) (by omega)
  · obtain ⟨c, fs, q, d1, z, rfl, h1, h2, h3, h4, rfl⟩ := ownT_some e
    obtain ⟨f, fd, T⟩ := o c q h1
    cases hv with
    | obj g1 g2 g3 => exact el_insI T hg hG hr hf (.obj g1 g2 g3) h2 h3 h4
theorem any_at {f : D → Bool} : ∀ {vs : List V} {ds : List D}, Dats G r0 F0 vs ds → ds.any f = true → ∃ v d, v ∈ vs ∧ Dat G r0 F0 v d ∧ f d = true
  | _, _, .nil, h => by simp at h
  | _, _, .cons a b, h => by
    rw [List.any_cons, Bool.or_eq_true] at h
    rcases h with h | h
    · exact ⟨_, _, List.mem_cons_self, a, h⟩
    · obtain ⟨v, d, h1, h2, h3⟩ := any_at b h
      exact ⟨v, d, List.mem_cons_of_mem _ h1, h2, h3⟩
theorem unr_l1 {a : Addr} {xs : List D} (h : Dat G r0 F0 (.ref a) (.lst xs)) (hx : xs.any isObj = true) : Unr1 F0 a := by
  cases h with
  | lst h1 h2 =>
    obtain ⟨v, d, h3, h4, h5⟩ := any_at h2 hx
    cases h4 with
    | obj g1 g2 g3 => exact ⟨_, _, _, _, _, h1, h3, g1⟩
    | _ => cases h5
theorem unr_l2 {a : Addr} {xs : List D} (h : Dat G r0 F0 (.ref a) (.lst xs)) (hx : xs.any isL1 = true) : Unr F0 a := by
  cases h with
  | lst h1 h2 =>
    obtain ⟨v, d, h3, h4, h5⟩ := any_at h2 hx
    cases h4 with
    | lst g1 g2 => exact .inr ⟨_, _, h1, h3, unr_l1 (.lst g1 g2) h5⟩
    | _ => cases h5
theorem sl_of {n : Nat} (h : n ≤ 1000000) : n ≤ sizeLine := by
  rw [sizeLine_eq]
  omega
theorem lst_els {f : D → Option Str} {a : Addr} {vs : List V} {xs : List D} (h2 : Dats G r0 F0 vs xs) (e : lstT f (.lst xs) = some t) (he : ∀ (v : V) (d : D) (t : Str), v ∈ vs → Dat G r0 F0 v d → d ∈ xs → f d = some t → ∀ l : List Value, ElI X pins σ G (A.under (lopC a l)) m r0 F0 H0 v t) :
    ∃ ts, t = listText ts ∧ t.length ≤ 1000000 ∧ ts.length = vs.length ∧ ∀ (i : Nat) (v : V), vs[i]? = some v → ∃ t, ts[i]? = some t ∧ ∀ l : List Value, ElI X pins σ G (A.under (lopC a l)) m r0 F0 H0 v t := by
  obtain ⟨ts, e1, e2⟩ := bind2 (γ := Unit) e
  split at e2
  case isFalse => cases e2
  rename_i hl
  cases e2
  obtain ⟨h3, h4⟩ := mapO_at e1
  refine ⟨ts, rfl, hl, by rw [h3, h2.length], fun i v hv => ?_⟩
  obtain ⟨d, h5, h6⟩ := h2.getV hv
  obtain ⟨t, h7, h8⟩ := h4 i d h5
  exact ⟨t, h7, he v d t (List.mem_of_getElem? hv) h6 (List.mem_of_getElem? h5) h8⟩
theorem el_l1 {a : Addr} {xs : List D} (hK : G.K = X.K) (o : RpOk X.prog X.w X.K X.mg X.base G k rp) (hg : A.guards = some g) (hG : Gok F0 g) (hr : Room (k + 1) A) (hf : A.frames = X.A.frames) (hv : Dat G r0 F0 (.ref a) (.lst xs)) (hx : xs.any isObj = true) (hc : Clear g a) (e : lstT (tx0 rp m) (.lst xs) = some t) :
    ElI X pins σ G A m r0 F0 H0 (.ref a) t := by
  have hu := unr_l1 hv hx
  cases hv with
  | lst h1 h2 =>
    obtain ⟨ts, rfl, h3, h4, h5⟩ := lst_els (X := X) (pins := pins) (σ := σ) (A := A) (H0 := H0) (a := a) h2 e fun v d t _ h6 _ h8 l => el_tx0 hK o (lop_guards a l hg) (fun c hc => (List.mem_cons.mp hc).elim (fun z => ⟨a, l, z, .inl hu⟩) (hG c)) (lop_room hr a l) ((lop_frames A a l).trans hf) h6 h8
    obtain ⟨v0, _, m0, _⟩ := any_at h2 hx
    have hl := List.length_pos_of_mem m0
    exact list_underI hg hc (by have := hr.units; omega) h4 hl h1 h5
theorem c_reprY (hK : G.K = X.K) (hg : X.A.guards = some []) (hr : Room (k + 3) X.A) (o : RpOk X.prog X.w X.K X.mg X.base G k rp) : CallR X (.builtin "repr") (rC G (reprYD rp)) := by
  intro pins s σ H xs us Q I rs ⟨r, F, m, as, d, m', e, R, ha, q⟩
  unfold reprYD at e
  split at e
  case h_2 => cases e
  rename_i d0
  obtain ⟨t, e1, e2⟩ := Option.map_eq_some_iff.mp e
  cases e2
  obtain ⟨v, rfl, h⟩ := dats1 ha
  obtain ⟨u, rfl, ru⟩ := vals1 rs
  have r1 : Room (k + 2) X.A.in1 := hr.in1
  have g1 : X.A.in1.guards = some [] := hg
  have top : ∀ (a : Addr) (ys : List D) (f : D → Option Str), v = .ref a → d0 = .lst ys → lstT f (.lst ys) = some t → Unr F a → (∀ (v : V) (d : D) (t : Str) (vs : List V), F a = some (.lst vs) → v ∈ vs → Dat G r F v d → d ∈ ys → f d = some t → ∀ l : List Value, ElI X pins σ G (X.A.in1.under (lopC a l)) m r F H v t) →
      wpAny (model X.prog X.w) X.A (call (.builtin "repr") [u]) (EP X pins σ Q) X.xe s := by
    intro a ys f ev ed el hu hel
    subst ev ed
    cases (show u = Value.ref a from ru)
    cases h with
    | @lst _ vs0 _ h1 h2 =>
      obtain ⟨ts, rfl, h3, h4, h5⟩ := lst_els (X := X) (pins := pins) (σ := σ) (A := X.A.in1) (H0 := H) (a := a) h2 el fun v d t hm h6 hd h8 l => hel v d t _ h1 hm h6 hd h8 l
      have hl : 1 ≤ vs0.length := by
        rcases hu with ⟨vs2, x, _, _, _, z1, z2, _⟩ | ⟨vs2, x, z1, z2, _⟩
        · rw [h1] at z1
          cases z1
          exact List.length_pos_of_mem z2
        · rw [h1] at z1
          cases z1
          exact List.length_pos_of_mem z2
      obtain ⟨_, its, na, rvs, oa⟩ := I.hok a _ (R.sub _ _ h1)
      refine call_repr_slot (by have := hr.units; omega) ⟨_, oa, rfl⟩ PySem.F.slot_list_repr.toG (list_callI (A := X.A.in1) g1 (Clear.nil a) h4 hl (sl_of h3) h1 h5 I R .refl fun u r2 F2 H2 s2 I2 R2 E2 => ⟨_, _, rfl, ?_⟩)
      exact ⟨.str _, H2, I2, ⟨u, rfl⟩, q _ r2 F2 H2 E2 R2 (.str _)⟩
  have base0 : ∀ a : Addr, Gok F [] := fun _ c hc => nomatch hc
  have gl : ∀ {a : Addr} (l : List Value), Unr F a → Gok F (lopC a l :: []) := fun l hu c hc => (List.mem_cons.mp hc).elim (fun z => ⟨_, l, z, hu⟩) fun z => nomatch z
  have fr : ∀ (a : Addr) (l : List Value), (X.A.in1.under (lopC a l)).frames = X.A.frames := fun a l => lop_frames X.A.in1 a l
  unfold tx2 at e1
  split at e1
  · rename_i x hx
    cases e1
    unfold tx1 at hx
    split at hx
    · rename_i y hy
      cases hx
      unfold tx0 at hy
      split at hy
      · rename_i z hz
        cases hy
        obtain ⟨p, h1, h2, h3, h4, h5, rfl⟩ := shownD_some hz
        exact repr_run hg hr I ru (toP_ok hK R h h1) h2 h3 h4 h5 (q.here R (.str _))
      · obtain ⟨c, fs, w3, d1, z, rfl, h1, h2, h3, h4, rfl⟩ := ownT_some hy
        obtain ⟨f, fd, T⟩ := o c w3 h1
        obtain ⟨a1, dx, vs, rfl, gg, _⟩ := ins_of R h rfl
        cases (show u = Value.ref a1 from ru)
        obtain ⟨mA, J, _⟩ := ins_get I.hok gg
        obtain ⟨od, J, _⟩ := J.look
        obtain ⟨mm, hF⟩ := I.fr
        refine PySem.W.repr_K (by have := r1.units; omega) hF I.ok.mod.kin J T.find T.isf ?_
        have post : PostE G r F H m (.str (w3.1 ++ z ++ w3.2.2)) fun v H' => v = .str (w3.1 ++ z ++ w3.2.2) ∧ Q (.str (w3.1 ++ z ++ w3.2.2)) H' := fun v r2 F2 H2 E2 R2 h => by
          cases h
          exact ⟨rfl, q _ r2 F2 H2 E2 R2 (.str _)⟩
        refine wpAny_call (codeAny_mono (T.run [] X.A.in1 X.stack s H a1 _ E0 r F m fs d1 z (r1.mono (by omega)) g1 (base0 a1) I.env0.in1 R h h2 h3 h4 post) fun out s' ho => ?_)
        match out, ho with
        | .ok (.ret w), ho =>
          obtain ⟨v2, H', I', rv, ev, q2⟩ := I.after ho
          subst ev
          obtain ⟨t, rfl⟩ := (show ∃ t, w = Value.str _ t from rv)
          exact ⟨.str _, H', I', ⟨t, rfl⟩, q2⟩
        | .ok .next, ho => exact False.elim ho
        | .ok .brk, ho => exact False.elim ho
        | .ok .cont, ho => exact False.elim ho
    · split at hx
      case isFalse => cases hx
      rename_i hl1
      cases d0 with
      | lst ys =>
        have hl1 : ys.any isObj = true := hl1
        obtain ⟨a, rfl⟩ : ∃ a, v = .ref a := by cases h; exact ⟨_, rfl⟩
        have hu := unr_l1 h hl1
        exact top a ys _ rfl rfl hx (.inl hu) fun v d t vs _ _ h6 _ h8 l => el_tx0 hK o (lop_guards a l g1) (gl l (.inl hu)) (lop_room (r1.mono (by omega)) a l) (fr a l) h6 h8
      | _ => cases hl1
  · split at e1
    case isFalse => cases e1
    rename_i hl2
    cases d0 with
    | lst ys =>
      have hl2 : ys.any isL1 = true := hl2
      obtain ⟨a, rfl⟩ : ∃ a, v = .ref a := by cases h; exact ⟨_, rfl⟩
      have hu := unr_l2 h hl2
      refine top a ys _ rfl rfl e1 hu fun v d t vs fa hm h6 hd h8 l => ?_
      unfold tx1 at h8
      split at h8
      · rename_i x hx
        cases h8
        exact el_tx0 hK o (lop_guards a l g1) (gl l hu) (lop_room (r1.mono (by omega)) a l) (fr a l) h6 hx
      · split at h8
        case isFalse => cases h8
        rename_i hl1
        cases d with
        | lst zs =>
          have hl1 : zs.any isObj = true := hl1
          obtain ⟨b, rfl⟩ : ∃ b, v = .ref b := by cases h6; exact ⟨_, rfl⟩
          have hub := unr_l1 h6 hl1
          have ne : a ≠ b := fun e => by
            subst e
            cases h6 with
            | lst w1 w2 =>
              rw [fa] at w1
              cases w1
              obtain ⟨ts, e3, e4⟩ := bind2 (γ := Unit) h8
              obtain ⟨i, hi⟩ := List.mem_iff_getElem?.mp hm
              obtain ⟨d, h7, h9⟩ := w2.getV hi
              obtain ⟨t, _, h10⟩ := (mapO_at e3).2 i d h7
              unfold tx0 at h10
              split at h10
              · rename_i x hx
                obtain ⟨p, y1, _⟩ := shownD_some hx
                obtain ⟨as, rd⟩ := Dp.reads I _ _ (.ref a) (toP_ok hK R h9 y1) rfl
                exact unr_reads I R.sub hu rd
              · obtain ⟨c, fs, _, _, _, rfl, _⟩ := ownT_some h10
                cases h9 with
                | obj y1 _ _ =>
                  rw [fa] at y1
                  cases y1
          exact el_l1 hK o (lop_guards a l g1) (gl l hu) (lop_room (r1.mono (by omega)) a l) (fr a l) h6 hl1 ((Clear.nil b).cons ne) h8
        | _ => cases hl1
    | _ => cases hl2
end
end Kb

set_option Elab.async false
set_option linter.all false
set_option maxRecDepth 100000
set_option maxHeartbeats 4000000
set_option autoImplicit false
/-! KdA: tuples of tuples as keys of a dict. -/
namespace Kb
open PySem PySem.Spec PyProof.Rows L2
section
variable {prog : Program} {w : World} {K : Type} [DecidableEq K]
/-- quietly compared at any depth but none -/
theorem quiet_any {knd : KeyKind prog w K} {A : Around} {E : Value → Shared → Prop} {s : Shared} {ks : List K} {a : Addr} {Q : Bool → Shared → Prop} (n : Nat) (hk : IsTupleKey knd s.heap ks a) (h : Q true s) : wpAny (model prog w) A (eqIsQuiet (n + 1) (.ref a)) Q E s := by
  have hT := hk.typeIs
  obtain ⟨o, items, m, ho, _, hd, hi⟩ := hk
  unfold eqIsQuiet
  refine wpAny_bind (wpAny_specialOf hT F.slot_tuple_eq.lookup ?_)
  refine wpAny_bind (wpAny_isInstance hT isSubtype_tuple_tuple ?_)
  simp only [Bool.not_true, Bool.false_eq_true, if_false]
  refine wpAny_bind (wpAny_seqItems ho hd ?_)
  refine wpAny_bind ?_
  show wpAny _ _ (forIn items _ _) _ _ s
  rw [← Array.forIn_toList]
  refine wpAny_forIn_list _ (fun rest r s' => r.1 = none ∧ s' = s ∧ ∀ v ∈ rest, carriedByValue v = true) _ ?_ ?_ _ _ ⟨rfl, rfl, hi.byValue⟩
  · rintro v rest r s' ⟨_, rfl, all⟩
    rw [eqIsQuiet_byValue _ (all v List.mem_cons_self)]
    refine wpAny_bind (wpAny_pure ?_)
    simp only [Bool.not_true, Bool.false_eq_true, if_false]
    exact wpAny_pure ⟨rfl, rfl, fun u hu => all u (List.mem_cons_of_mem _ hu)⟩
  · rintro ⟨r1, r2⟩ s' ⟨hr, rfl, _⟩
    simp only at hr
    subst hr
    exact wpAny_pure h
/-- items that are such keys -/
inductive RItems (knd : KeyKind prog w K) (h : Heap) : List (List K) → List Value → Prop
  | nil : RItems knd h [] []
  | cons {k : List K} {a : Addr} {ks : List (List K)} {vs : List Value} : IsTupleKey knd h k a → RItems knd h ks vs → RItems knd h (k :: ks) (.ref a :: vs)
def IsRows (knd : KeyKind prog w K) (h : Heap) (ks : List (List K)) (a : Addr) : Prop := ∃ o items n, h.get? a = some o ∧ o.cls = .type "tuple" ∧ o.data = .seq items n ∧ RItems knd h ks items.toList
variable {knd : KeyKind prog w K}
theorem RItems.inj {h : Heap} : ∀ {x y : List (List K)} {vs : List Value}, RItems knd h x vs → RItems knd h y vs → x = y
  | [], _, _, .nil, .nil => rfl
  | _ :: _, _, _, .cons h1 t1, .cons h2 t2 => by rw [h1.inj h2, RItems.inj t1 t2]
theorem RItems.length {h : Heap} : ∀ {x : List (List K)} {vs : List Value}, RItems knd h x vs → x.length = vs.length
  | [], _, .nil => rfl
  | _ :: _, _, .cons _ t => by rw [List.length_cons, List.length_cons, t.length]
theorem IsRows.typeIs {s : Shared} {ks : List (List K)} {a : Addr} (x : IsRows knd s.heap ks a) : s.TypeIs (.ref a) "tuple" := let ⟨o, _, _, ho, hc, _⟩ := x; ⟨o, ho, hc⟩
theorem IsRows.inj {h : Heap} {a : Addr} {x y : List (List K)} (hx : IsRows knd h x a) (hy : IsRows knd h y a) : x = y := by
  obtain ⟨o, items, n, ho, _, hd, hi⟩ := hx
  obtain ⟨o2, items2, n2, ho2, _, hd2, hi2⟩ := hy
  have e : o = o2 := Option.some.inj (ho.symm.trans ho2)
  subst e
  rw [hd] at hd2
  injection hd2 with e1 _
  subst e1
  exact hi.inj hi2
theorem RItems.keeps {h h' : Heap} {d : Addr} {o : Obj} {es : Array DictEntry} {ep : Nat} (ho : h.get? d = some o) (hd : o.data = .dict es ep) (hs : Heap.SameBut d h h') : ∀ {ks : List (List K)} {vs : List Value}, RItems knd h ks vs → RItems knd h' ks vs
  | [], _, .nil => .nil
  | _ :: _, _, .cons h1 t => .cons (h1.keeps ho hd hs) (t.keeps ho hd hs)
theorem IsRows.keeps {h h' : Heap} {ks : List (List K)} {a d : Addr} {o : Obj} {es : Array DictEntry} {ep : Nat} (x : IsRows knd h ks a) (ho : h.get? d = some o) (hd : o.data = .dict es ep) (hs : Heap.SameBut d h h') : IsRows knd h' ks a := by
  obtain ⟨o2, items, n, ho2, hc, hd2, hi⟩ := x
  have ne : a ≠ d := by
    intro e
    subst e
    have e : o2 = o := Option.some.inj (ho2.symm.trans ho)
    subst e
    rw [hd] at hd2
    cases hd2
  exact ⟨o2, items, n, (hs.2 a ne).trans ho2, hc, hd2, hi.keeps ho hd hs⟩
def rowsHash (knd : KeyKind prog w K) (ks : List (List K)) : Int := reduceHash (Builtin.Tuple.tupleHashOf (ks.map (tupleKeyHash knd)))
def rowsDraws (ks : List (List K)) : Nat := (ks.map fun k => k.length + 1).sum + 1
variable {A : Around} {E : Value → Shared → Prop} {s : Shared}
theorem RItems.toks {h : Heap} {ks : List (List K)} {vs : List Value} (x : RItems knd h ks vs) {s : Shared} (e : s.heap = h) : RItems knd s.heap ks vs := e ▸ x
theorem rows_hash {ks : List (List K)} {a : Addr} {Q : Int → Shared → Prop} (hu : A.units + 1 < cLine) (hk : IsRows knd s.heap ks a) (h : Q (rowsHash knd ks) { s with toks := s.toks + rowsDraws ks }) : wpAny (model prog w) A (pyHash (.ref a)) Q E s := by
  have hT := hk.typeIs
  obtain ⟨o, items, n, ho, _, hd, hi⟩ := hk
  unfold pyHash
  first | unfold pyHashByItsType | skip
  first | refine wpAny_bind (wpAny_cRoomFor_or (.inr (by omega)) ?_) | skip
  refine wpAny_bind (wpAny_specialOf hT F.slot_tuple_hash.lookup ?_)
  show wpAny _ _ (if (some (Value.builtin "tuple.__hash__") == some Value.none) = true then _ else _) Q E s
  rw [if_neg (by rw [beq_builtin_none]; exact Bool.false_ne_true)]
  refine wpAny_bind (wpAny_specialOf hT F.slot_tuple_hash.lookup ?_)
  show wpAny _ _ (callSpecialIfBoundUnlessNone? (.ref a) "__hash__" _ >>= _) Q E s
  refine wpAny_bind (wpAny_callSpecialIfBoundUnlessNone?_slot hT F.slot_tuple_hash (wpAny_call_entry F.slot_tuple_hash hT F.entry_tuple_hash ?_ (F.args_tuple_hash_1 _)))
  show wpAny _ _ (Builtin.Tuple.tupleItemsOf (.ref a) >>= _) _ _ s
  refine wpAny_bind (wpAny_tupleItemsOf ho hd ?_)
  refine wpAny_bind ?_
  rw [← Array.forIn_toList]
  refine wpAny_forIn_list _
    (fun rest (b : Array Int) s' => ∃ done left, ks = done ++ left ∧ RItems knd s.heap left rest ∧ b.toList = done.map (tupleKeyHash knd) ∧ s' = { s with toks := s.toks + (done.map fun k => k.length + 1).sum })
    _ ?_ ?_ _ _ ⟨[], ks, rfl, hi, rfl, rfl⟩
  · rintro x rest b s' ⟨done, left, rfl, hl, hb, rfl⟩
    cases hl with
    | @cons k a2 ks' _ h1 hl' =>
      refine wpAny_bind (wpAny_pyHash_tuple (knd := knd) (ks := k) (show A.in1.units < cLine from hu) h1 ?_)
      first
        | exact wpAny_pure ⟨done ++ [k], ks', by simp, hl', by simp [hb], by simp [Nat.add_assoc]⟩
        | exact wpAny_bind (wpAny_pure (wpAny_pure ⟨done ++ [k], ks', by simp, hl', by simp [hb], by simp [Nat.add_assoc]⟩))
  · rintro b s' ⟨done, left, rfl, hl, hb, rfl⟩
    cases hl
    rw [List.append_nil] at h
    show wpAny _ _ (retInt (Builtin.Tuple.tupleHashOf b.toList)) _ _ _
    rw [hb]
    refine wpAny_ret_mkInt ?_
    unfold rowsHash rowsDraws reduceHash at h
    show wpAny _ _ (if (decide (-(2 : Int) ^ 63 ≤ Builtin.Tuple.tupleHashOf (done.map (tupleKeyHash knd))) && decide (Builtin.Tuple.tupleHashOf (done.map (tupleKeyHash knd)) < 2 ^ 63)) = true then _ else _) Q E _
    by_cases hr : (decide (-(2 : Int) ^ 63 ≤ Builtin.Tuple.tupleHashOf (done.map (tupleKeyHash knd))) && decide (Builtin.Tuple.tupleHashOf (done.map (tupleKeyHash knd)) < 2 ^ 63)) = true
    · rw [if_pos hr]
      rw [if_pos hr] at h
      exact wpAny_pure (by simpa [Nat.add_assoc] using h)
    · rw [if_neg hr]
      rw [if_neg hr] at h
      exact wpAny_bind (wpAny_rule (wpAny_pure (by simpa [Nat.add_assoc] using h)))
theorem rows_eq {x y : List (List K)} {a b : Addr} {P : PySem.Fin → Shared → Prop} (hu : A.units < cLine) (hx : IsRows knd s.heap x a) (hy : IsRows knd s.heap y b) (h : P (.done (.ret (.bool (decide (x = y))))) s) :
    wpAny (model prog w) A (Builtin.«tuple.__eq__» ⟨[.ref a, .ref b], []⟩) P E s := by
  have hTb := hy.typeIs
  obtain ⟨oa, xs, na, hoa, _, hda, hia⟩ := hx
  obtain ⟨ob, ys, nb, hob, _, hdb, hib⟩ := hy
  show wpAny _ _ (isInstance (.ref b) (.type "tuple") >>= _) _ _ s
  refine wpAny_bind (wpAny_isInstance hTb isSubtype_tuple_tuple ?_)
  simp only [Bool.not_true, Bool.false_eq_true, if_false]
  refine wpAny_bind (wpAny_tupleItemsOf hoa hda ?_)
  refine wpAny_bind (wpAny_tupleItemsOf hob hdb ?_)
  refine wpAny_bind ?_
  refine wpAny_forIn_list _
    (fun rest r s' => r.1 = none ∧ s' = s ∧ ∃ x' y' xs' ys', rest = List.zip xs' ys' ∧ RItems knd s.heap x' xs' ∧ RItems knd s.heap y' ys' ∧ decide (x' = y') = decide (x = y) ∧ (xs'.length == ys'.length) = (xs.size == ys.size))
    _ ?_ ?_ _ _ ⟨rfl, rfl, x, y, xs.toList, ys.toList, rfl, hia, hib, rfl, by simp⟩
  · rintro ⟨u, v⟩ rest r s' ⟨hr, rfl, x', y', xs', ys', hz, hx', hy', hdec, hlen⟩
    cases hx' with
    | nil => simp at hz
    | @cons k1 u' x'' xs'' h1 hx'' =>
      cases hy' with
      | nil => simp at hz
      | @cons k2 v' y'' ys'' h2 hy'' =>
        simp only [List.zip_cons_cons, List.cons.injEq, Prod.mk.injEq] at hz
        obtain ⟨⟨rfl, rfl⟩, rfl⟩ := hz
        refine wpAny_bind (wpAny_eqBool_tuple (knd := knd) (x := k1) (y := k2) hu h1 h2 ?_)
        by_cases hk : k1 = k2
        · subst hk
          rw [decide_eq_true rfl]
          simp only [Bool.not_true, Bool.false_eq_true, if_false]
          refine wpAny_pure ⟨rfl, rfl, x'', y'', xs'', ys'', rfl, hx'', hy'', ?_, by simpa using hlen⟩
          rw [← hdec]
          by_cases hxy : x'' = y''
          · simp [hxy]
          · simp [hxy]
        · rw [decide_eq_false hk]
          simp only [Bool.not_false, if_true]
          have hf : decide (x = y) = false := by rw [← hdec]; simp [hk]
          rw [hf] at h
          exact wpAny_bind (wpAny_pure (wpAny_pure (wpAny_pure h)))
  · rintro ⟨r1, r2⟩ s' ⟨hr, rfl, x', y', xs', ys', hz, hx', hy', hdec, hlen⟩
    simp only at hr
    subst hr
    refine wpAny_pure ?_
    have hfin : (xs.size == ys.size) = decide (x = y) := by
      rw [← hdec, ← hlen]
      cases hx' with
      | nil =>
        cases hy' with
        | nil => simp
        | cons _ _ => simp
      | cons _ _ =>
        cases hy' with
        | nil => simp
        | cons _ _ => simp at hz
    show P (.done (.ret (.bool (xs.size == ys.size)))) s'
    rw [hfin]; exact h
theorem rows_eqBool {x y : List (List K)} {a b : Addr} {Q : Bool → Shared → Prop} (hu : A.units + 1 < cLine) (hx : IsRows knd s.heap x a) (hy : IsRows knd s.heap y b) (h : Q (decide (x = y)) s) : wpAny (model prog w) A (eqBool (.ref a) (.ref b)) Q E s := by
  unfold eqBool
  try with_reducible refine wpAny_holding ?_
  show wpAny _ _ (if (Value.ref a == Value.ref b) = true then _ else _) Q E s
  by_cases hab : (Value.ref a == Value.ref b) = true
  · rw [if_pos hab]
    have e : a = b := by have := eq_of_beq hab; injection this
    subst e
    obtain rfl := hx.inj hy
    exact wpAny_bind (wpAny_rule (wpAny_pure (by simpa using h)))
  · rw [if_neg hab]
    exact wpAny_bind (wpAny_richCompare_same_room (op := .Eq) hx.typeIs hy.typeIs F.slot_tuple_eq
      (wpAny_call_entry F.slot_tuple_eq hx.typeIs F.entry_tuple_eq (rows_eq (show A.in1.units < cLine from hu) hx hy ⟨_, rfl, (fun e => nomatch e), wpAny_truthy_bool h⟩) (F.args_tuple_eq_2 _ _)) (by omega))
theorem rows_quiet {ks : List (List K)} {a : Addr} {Q : Bool → Shared → Prop} (hk : IsRows knd s.heap ks a) (h : Q true s) : wpAny (model prog w) A (eqIsQuiet 8 (.ref a)) Q E s := by
  have hT := hk.typeIs
  obtain ⟨o, items, m, ho, _, hd, hi⟩ := hk
  unfold eqIsQuiet
  refine wpAny_bind (wpAny_specialOf hT F.slot_tuple_eq.lookup ?_)
  refine wpAny_bind (wpAny_isInstance hT isSubtype_tuple_tuple ?_)
  simp only [Bool.not_true, Bool.false_eq_true, if_false]
  refine wpAny_bind (wpAny_seqItems ho hd ?_)
  refine wpAny_bind ?_
  show wpAny _ _ (forIn items _ _) _ _ s
  rw [← Array.forIn_toList]
  refine wpAny_forIn_list _ (fun rest r s' => r.1 = none ∧ s' = s ∧ ∃ left, RItems knd s.heap left rest) _ ?_ ?_ _ _ ⟨rfl, rfl, ks, hi⟩
  · rintro v rest r s' ⟨_, rfl, left, hl⟩
    cases hl with
    | @cons k a2 ks' _ h1 hl' =>
      refine wpAny_bind (quiet_any 6 h1 ?_)
      simp only [Bool.not_true, Bool.false_eq_true, if_false]
      exact wpAny_pure ⟨rfl, rfl, ks', hl'⟩
  · rintro ⟨r1, r2⟩ s' ⟨hr, rfl, _⟩
    simp only at hr
    subst hr
    exact wpAny_pure h
/-- rows as keys -/
def rowsKind (knd : KeyKind prog w K) : HeapKind prog w (List (List K)) where
  is := IsRows knd
  hash := rowsHash knd
  draws := rowsDraws
  room := fun A => A.units + 1 < cLine
  inj := fun hx hy => hx.inj hy
  keeps := fun x ho hd hs => x.keeps ho hd hs
  pyHash := fun hu hk h => rows_hash hu hk h
  eqBool := fun hu hx hy h => rows_eqBool hu hx hy h
  quiet := fun hk h => rows_quiet hk h
end
end Kb

set_option Elab.async false
set_option linter.all false
set_option maxRecDepth 100000
set_option maxHeartbeats 4000000
set_option autoImplicit false
/-! KdB: texts of lists and tuples with dicts in them. -/
namespace Kb
open PySem PySem.Spec PyProof.Rows L2 Builtin.List
mutual
def toPX : D → Option PyData
  | .non => some .none
  | .bl b => some (.bool b)
  | .int i => some (.int i)
  | .str x => some (.str x)
  | .lst xs => (toPXs xs).map .list
  | .tup xs => (toPXs xs).map .tuple
  | .dic ks vs => if (atomPs vs).isSome then (atomPs vs).map fun ps => .dict ((ks.map keyP).zip ps) else none
  | _ => none
def toPXs : List D → Option (List PyData)
  | [] => some []
  | x :: xs => (toPX x).bind fun y => (toPXs xs).map fun ys => y :: ys
end
def shownX (d : D) : Option Str := (toPX d).bind fun p => if p.showable = true ∧ p.depth ≤ 20 ∧ p.shown.length ≤ 1000000 then some p.shown else none
def reprZD (rp : Rps) : FD := fun as m => match reprYD rp as m with
  | some x => some x
  | none => match as with
    | [.lst xs] => (shownX (.lst xs)).map fun x => (.str x, m)
    | [.tup xs] => (shownX (.tup xs)).map fun x => (.str x, m)
    | [.dic ks vs] => (shownX (.dic ks vs)).map fun x => (.str x, m)
    | _ => none
theorem shownX_some {d : D} {t : Str} (e : shownX d = some t) : ∃ p, toPX d = some p ∧ p.showable = true ∧ p.depth ≤ 20 ∧ p.shown.length ≤ 1000000 ∧ t = p.shown := by
  unfold shownX at e
  obtain ⟨p, e1, e2⟩ := bind2 (γ := Unit) e
  split at e2
  · rename_i hl
    cases e2
    exact ⟨p, e1, hl.1, hl.2.1, hl.2.2, rfl⟩
  · cases e2
section
variable {X : Cx} {pins : List (Addr × Obj)} {σ : L2.St} {G : Cfg} {r : List Addr} {F H : Hp} {m : Mem} {s : Shared}
theorem atmost_append {h : Heap} {n : Nat} {b1 b2 : List Addr} (h1 : ReadAtMost h n b1) (h2 : ReadAtMost h n b2) : ReadAtMost h n (b1 ++ b2) := fun b hb => (List.mem_append.mp hb).elim (h1 b) (h2 b)
theorem atmost_up {h : Heap} {n k : Nat} {bs : List Addr} (h1 : ReadAtMost h n bs) (e : n ≤ k) : ReadAtMost h k bs := fun b hb => let ⟨d, as, r, l⟩ := h1 b hb; ⟨d, as, r, Nat.le_trans l e⟩
theorem atmost_cons {h : Heap} {n : Nat} {a : Addr} {bs : List Addr} {d : PyData} {as : List Addr} (r : Reads h (.ref a) d as) (e : d.depth ≤ n) (h1 : ReadAtMost h n bs) : ReadAtMost h n (a :: bs) := fun b hb => (List.mem_cons.mp hb).elim (fun z => ⟨d, as, z ▸ r, e⟩) (h1 b)
mutual
theorem rpX (hK : G.K = X.K) (I : Inv X pins σ H s) (R : Rel G r F m H) : ∀ (d : D) (p : PyData) (v : V) (u : Value), toPX d = some p → Dat G r F v d → RelV v u → p.showable = true → p.shown.length ≤ sizeLine →
    ∃ as bs, Reads s.heap u p as ∧ ReadAtMost s.heap p.depth bs ∧ ReprK X.prog X.w bs s.heap p.depth u p.shown
  | .non, p, v, u, e, hv, rv, hs, hz => by
    simp only [toPX] at e
    cases e
    cases hv
    cases (show u = Value.none from rv)
    exact ⟨[], [], .none, (fun _ h => nomatch h), by simp only [PyData.shown]; exact .of_is ReprIs.none _ _ _⟩
  | .bl b, p, v, u, e, hv, rv, hs, hz => by
    simp only [toPX] at e
    cases e
    cases hv
    cases (show u = Value.bool b from rv)
    exact ⟨[], [], .bool b, (fun _ h => nomatch h), by simp only [PyData.shown]; exact .of_is (ReprIs.bool b) _ _ _⟩
  | .int i, p, v, u, e, hv, rv, hs, hz => by
    simp only [toPX] at e
    cases e
    cases hv
    obtain ⟨t, rfl⟩ := rv
    exact ⟨[], [], .int i t, (fun _ h => nomatch h), by simp only [PyData.shown]; exact .of_is (ReprIs.int t (by simpa [PyData.showable] using hs)) _ _ _⟩
  | .str x, p, v, u, e, hv, rv, hs, hz => by
    simp only [toPX] at e
    cases e
    cases hv
    obtain ⟨t, rfl⟩ := rv
    exact ⟨[], [], .str x t, (fun _ h => nomatch h), by simp only [PyData.shown]; exact .of_is (ReprIs.str x t (by simpa only [PyData.shown] using hz)) _ _ _⟩
  | .lst xs, p, v, u, e, hv, rv, hs, hz => by
    simp only [toPX] at e
    obtain ⟨ps, e1, e2⟩ := Option.map_eq_some_iff.mp e
    cases e2
    have hz' : (listText (PyData.shownAll ps)).length ≤ sizeLine := by simpa only [PyData.shown] using hz
    cases hv with
    | lst h1 h2 =>
      cases (show u = Value.ref _ from rv)
      obtain ⟨its, rvs, ⟨o, n, ho, hc, _, hd⟩, _⟩ := I.list (SqL.of (R.sub _ _ h1))
      obtain ⟨as, bs, q1, q2, q3⟩ := rpXs hK I R xs ps _ its e1 h2 rvs (by simpa [PyData.showable] using hs) (fun t ht => Nat.le_trans (listText_mem_le ht) hz')
      have rd := Reads.list ho hc hd q1
      have na := not_mem_of_deeper rd (n := PyData.depthAll ps) (by simp only [PyData.depth]; omega) q2
      refine ⟨_, _ :: bs, rd, atmost_cons rd (Nat.le_refl _) (atmost_up q2 (by simp only [PyData.depth]; omega)), ?_⟩
      simp only [PyData.depth, PyData.shown]
      cases its with
      | nil =>
        generalize PyData.shownAll ps = ts at q3
        cases q3
        simp only [listText_nil]
        exact ReprK.listEmpty ho hc hd
      | cons x l => exact ReprK.list ho hc hd na (by simpa using q3.length_eq) (fun i y e => q3.item i y (by simpa using e))
  | .tup xs, p, v, u, e, hv, rv, hs, hz => by
    simp only [toPX] at e
    obtain ⟨ps, e1, e2⟩ := Option.map_eq_some_iff.mp e
    cases e2
    have hz' : (tupleText (PyData.shownAll ps)).length ≤ sizeLine := by simpa only [PyData.shown] using hz
    cases hv with
    | tup h1 h2 =>
      cases (show u = Value.ref _ from rv)
      obtain ⟨its, rvs, ⟨o, ho, hc, n, hd⟩, _⟩ := I.tuple (hK ▸ sqt_up R.sub h1)
      obtain ⟨as, bs, q1, q2, q3⟩ := rpXs hK I R xs ps _ its e1 h2 rvs (by simpa [PyData.showable] using hs) (fun t ht => Nat.le_trans (tupleText_mem_le ht) hz')
      have rd := Reads.tuple ho hc hd q1
      have na := not_mem_of_deeper rd (n := PyData.depthAll ps) (by simp only [PyData.depth]; omega) q2
      refine ⟨_, _ :: bs, rd, atmost_cons rd (Nat.le_refl _) (atmost_up q2 (by simp only [PyData.depth]; omega)), ?_⟩
      simp only [PyData.depth, PyData.shown]
      exact ReprK.tuple ho hc hd na q3
  | .dic ks vs, p, v, u, e, hv, rv, hs, hz => by
    simp only [toPX] at e
    split at e
    case isFalse => cases e
    obtain ⟨ps, e2, e3⟩ := Option.map_eq_some_iff.mp e
    cases hv with
    | dic g1 g2 g3 =>
      obtain ⟨hz0, hsy, kvs, kv, o, es, ep, ho, hc, hd, hko, hp, hn⟩ := dk_of I.hok (R.sub _ _ g1)
      obtain ⟨a1, a2⟩ := dic_reads (h := s.heap) g2 g3 e2 kv hp
      cases (show u = Value.ref _ from rv)
      have rd : Reads s.heap (.ref _) (.dict _) _ := .dict ho hc.1 hd a1 a2
      rw [← e3] at hs hz ⊢
      obtain ⟨bs, q1, q2⟩ := ReprK.of_reads (prog := X.prog) (w := X.w) rd hs (fun _ hm => by
        rcases List.mem_cons.mp hm with hm | hm
        · rw [← hm] at hsy
          cases hsy
        · cases hm) hz
      exact ⟨_, bs, rd, q1, q2⟩
  | .obj _ _, p, v, u, e, hv, rv, hs, hz => by simp [toPX] at e
  | .loc _, p, v, u, e, hv, rv, hs, hz => by simp [toPX] at e
  | .scr _, p, v, u, e, hv, rv, hs, hz => by simp [toPX] at e
  | .rng _ _, p, v, u, e, hv, rv, hs, hz => by simp [toPX] at e
  | .own _, p, v, u, e, hv, rv, hs, hz => by simp [toPX] at e
  | .ownI _ _, p, v, u, e, hv, rv, hs, hz => by simp [toPX] at e
  | .ownK _ _, p, v, u, e, hv, rv, hs, hz => by simp [toPX] at e
theorem rpXs (hK : G.K = X.K) (I : Inv X pins σ H s) (R : Rel G r F m H) : ∀ (ds : List D) (ps : List PyData) (vs : List V) (us : List Value), toPXs ds = some ps → Dats G r F vs ds → Vals vs us → PyData.showableAll ps = true → (∀ t ∈ PyData.shownAll ps, t.length ≤ sizeLine) →
    ∃ as bs, ReadsAll s.heap us ps as ∧ ReadAtMost s.heap (PyData.depthAll ps) bs ∧ ReprAllK X.prog X.w bs s.heap (PyData.depthAll ps) us (PyData.shownAll ps)
  | [], ps, vs, us, e, hv, rv, hs, hz => by
    simp only [toPXs] at e
    cases e
    cases hv
    cases rv
    exact ⟨[], [], .nil, (fun _ h => nomatch h), by simp only [PyData.shownAll]; exact .nil⟩
  | d :: ds, ps, vs, us, e, hv, rv, hs, hz => by
    simp only [toPXs] at e
    obtain ⟨p, e1, e2⟩ := bind2 (γ := Unit) e
    obtain ⟨qs, e3, e4⟩ := Option.map_eq_some_iff.mp e2
    cases e4
    cases hv with
    | cons h1 h2 =>
      cases rv with
      | cons r1 r2 =>
        have hs' : p.showable = true ∧ PyData.showableAll qs = true := by simpa [PyData.showableAll] using hs
        obtain ⟨as, b1, q1, q2, q3⟩ := rpX hK I R d p _ _ e1 h1 r1 hs'.1 (hz _ (by simp only [PyData.shownAll]; exact List.mem_cons_self ..))
        obtain ⟨bs, b2, q4, q5, q6⟩ := rpXs hK I R ds qs _ _ e3 h2 r2 hs'.2 (fun t ht => hz t (by simp only [PyData.shownAll]; exact List.mem_cons_of_mem _ ht))
        refine ⟨_, b1 ++ b2, .cons q1 q4, ?_, ?_⟩
        · simp only [PyData.depthAll]
          exact atmost_append (atmost_up q2 (Nat.le_max_left _ _)) (atmost_up q5 (Nat.le_max_right _ _))
        · simp only [PyData.depthAll, PyData.shownAll]
          exact .cons ((q3.more fun b hb => List.mem_append_left _ hb).level_le (Nat.le_max_left _ _)) (q6.more_le (fun b hb => List.mem_append_right _ hb) (Nat.le_max_right _ _))
end
end
section
theorem c_reprZ {X : Cx} {G : Cfg} {k : Nat} {rp : Rps} (hK : G.K = X.K) (hg : X.A.guards = some []) (hr : Room (k + 3) X.A) (o : RpOk X.prog X.w X.K X.mg X.base G k rp) : CallR X (.builtin "repr") (rC G (reprZD rp)) := by
  intro pins s σ H xs us Q I rs ⟨r, F, m, as, d, m', e, R, ha, q⟩
  unfold reprZD at e
  split at e
  case h_1 x hx =>
    cases e
    exact c_reprY hK hg hr o pins s σ H xs us Q I rs ⟨r, F, m, as, d, m', hx, R, ha, q⟩
  have hu := hr.units
  split at e
  case h_4 => cases e
  case h_1 ys _ =>
    obtain ⟨t, e1, e2⟩ := Option.map_eq_some_iff.mp e
    cases e2
    obtain ⟨p, e3, hs, hdp, hz, rfl⟩ := shownX_some e1
    simp only [toPX] at e3
    obtain ⟨ps, e4, e5⟩ := Option.map_eq_some_iff.mp e3
    cases e5
    obtain ⟨v, rfl, h⟩ := dats1 ha
    obtain ⟨u, rfl, ru⟩ := vals1 rs
    have hz' : (listText (PyData.shownAll ps)).length ≤ sizeLine := by
      have hz := hz
      simp only [PyData.shown] at hz
      have := sizeLine_eq
      omega
    cases h with
    | lst h1 h2 =>
      cases (show u = Value.ref _ from ru)
      obtain ⟨its, rvs, ⟨o, n, ho, hc, _, hd⟩, _⟩ := I.list (SqL.of (R.sub _ _ h1))
      obtain ⟨as, bs, q1, q2, q3⟩ := rpXs hK I R ys ps _ its e4 h2 rvs (by simpa [PyData.showable] using hs) (fun t ht => Nat.le_trans (listText_mem_le ht) hz')
      have rd := Reads.list ho hc hd q1
      have na := not_mem_of_deeper rd (n := PyData.depthAll ps) (by simp only [PyData.depth]; omega) q2
      simp only [PyData.depth] at hdp
      simp only [PyData.shown] at q ⊢
      refine call_repr_slot (by omega) ⟨o, ho, hc⟩ PySem.F.slot_list_repr.toG ?_
      have fin : ∀ h' u tk, (∀ b o, s.heap.get? b = some o → h'.get? b = some o) → (∃ x t, Value.str (listText (PyData.shownAll ps)) u = .str x t ∧ EP X pins σ Q (Value.str (listText (PyData.shownAll ps)) u) { s with heap := h', toks := tk }) := fun h' u tk k => ⟨_, _, rfl, ⟨.str _, H, I.kept (t' := tk) k, ⟨u, rfl⟩, q.here R (.str _)⟩⟩
      cases its with
      | nil =>
        generalize PyData.shownAll ps = ts at q3 fin
        cases q3
        simp only [listText_nil] at fin
        exact call_list_repr_empty ⟨o, ho, hc⟩ ho hd (fin s.heap _ _ fun _ _ e => e)
      | cons x l => exact call_list_reprK ho hc hd na (by simpa using q3.length_eq) (fun i y e => q3.item i y (by simpa using e)) hg (fun b _ => Clear.nil b) (by show X.A.in1.units + _ < _; have := hr.in1.units; omega) (fun _ _ e => e) fin hz'
  case h_2 ys _ =>
    obtain ⟨t, e1, e2⟩ := Option.map_eq_some_iff.mp e
    cases e2
    obtain ⟨p, e3, hs, hdp, hz, rfl⟩ := shownX_some e1
    simp only [toPX] at e3
    obtain ⟨ps, e4, e5⟩ := Option.map_eq_some_iff.mp e3
    cases e5
    obtain ⟨v, rfl, h⟩ := dats1 ha
    obtain ⟨u, rfl, ru⟩ := vals1 rs
    have hz' : (tupleText (PyData.shownAll ps)).length ≤ sizeLine := by
      have hz := hz
      simp only [PyData.shown] at hz
      have := sizeLine_eq
      omega
    cases h with
    | tup h1 h2 =>
      cases (show u = Value.ref _ from ru)
      obtain ⟨its, rvs, ⟨o, ho, hc, n, hd⟩, _⟩ := I.tuple (hK ▸ sqt_up R.sub h1)
      obtain ⟨as, bs, q1, q2, q3⟩ := rpXs hK I R ys ps _ its e4 h2 rvs (by simpa [PyData.showable] using hs) (fun t ht => Nat.le_trans (tupleText_mem_le ht) hz')
      have rd := Reads.tuple ho hc hd q1
      have na := not_mem_of_deeper rd (n := PyData.depthAll ps) (by simp only [PyData.depth]; omega) q2
      simp only [PyData.depth] at hdp
      simp only [PyData.shown] at q ⊢
      refine call_repr_slot (by omega) ⟨o, ho, hc⟩ PySem.F.slot_tuple_repr ?_
      have fin : ∀ h' u tk, (∀ b o, s.heap.get? b = some o → h'.get? b = some o) → (∃ x t, Value.str (tupleText (PyData.shownAll ps)) u = .str x t ∧ EP X pins σ Q (Value.str (tupleText (PyData.shownAll ps)) u) { s with heap := h', toks := tk }) := fun h' u tk k => ⟨_, _, rfl, ⟨.str _, H, I.kept (t' := tk) k, ⟨u, rfl⟩, q.here R (.str _)⟩⟩
      exact call_tuple_reprK ho hc hd na q3 hg (fun b _ => Clear.nil b) (by show X.A.in1.units + _ < _; have := hr.in1.units; omega) (fun _ _ e => e) fin hz'
  case h_3 ks vs _ =>
    obtain ⟨t, e1, e2⟩ := Option.map_eq_some_iff.mp e
    cases e2
    obtain ⟨p, e3, hs, hdp, hz, rfl⟩ := shownX_some e1
    obtain ⟨v, rfl, h⟩ := dats1 ha
    obtain ⟨u, rfl, ru⟩ := vals1 rs
    simp only [toPX] at e3
    split at e3
    case isFalse => cases e3
    obtain ⟨ps, e2, e3⟩ := Option.map_eq_some_iff.mp e3
    cases h with
    | dic g1 g2 g3 =>
      obtain ⟨hz0, hsy, kvs, kv, o, es, ep, ho, hc, hd, hko, hp, hn⟩ := dk_of I.hok (R.sub _ _ g1)
      obtain ⟨a1, a2⟩ := dic_reads (h := s.heap) g2 g3 e2 kv hp
      cases (show u = Value.ref _ from ru)
      have rd : Reads s.heap (.ref _) (.dict _) _ := .dict ho hc.1 hd a1 a2
      have hz' : p.shown.length ≤ sizeLine := by rw [sizeLine_eq]; omega
      rw [← e3] at hs hdp hz hz' q
      refine repr_of_reads' rd hs (fun _ hm => ?_) hg (by omega) (fun _ _ e => e) (fun h' u tk k => ⟨.str _, H, I.kept (t' := tk) k, ⟨u, rfl⟩, q.here R (.str _)⟩) hz'
      rcases List.mem_cons.mp hm with hm | hm
      · rw [← hm] at hsy
        cases hsy
      · cases hm
end
/-! ### a list that changes, of two -/
def addND (a b : D) (m : Mem) : Option (D × Mem) := match lstD m a, lstD m b with
  | some xs, some ys => if xs.length + ys.length ≤ 100000 then some (.loc m.length, m ++ [.lst (xs ++ ys)]) else none
  | _, _ => none
theorem op_addND {X : Cx} {G : Cfg} : OpR X (binaryOp .Add) (rD G addND) := by
  intro pins s σ H x y v u Q I rx ry ⟨r, F, m, a, b, d, m', e, R, ha, hb, q⟩
  unfold addND at e
  split at e
  · rename_i xs ys e1 e2
    split at e
    · rename_i hl
      cases e
      obtain ⟨p, vs, rfl, d1, h1⟩ := lst_of R ha e1
      obtain ⟨p', vs', rfl, d2, h2⟩ := lst_of R hb e2
      exact op_cat pins s σ H _ _ v u Q I rx ry ⟨_, _, _, _, rfl, rfl, h1, h2, by rw [d1.length, d2.length]; exact hun hl, q.lstN R (d1.append d2)⟩
    · cases e
  · cases e
/-! ### defs with defaults that all stay unused -/
structure FunT (K : PySem.W.Frag) (x qual : Str) (st : Stmt) (n : Nat) (f : Addr) (fd : FuncData) : Prop where
  ex : ∃ (oc : Value) (od : Option Addr) (T : Addr) (kV doc pm : Value) (an : Option Addr) (cdv ct : Value) (osl : Array (Option Value)) (o : Obj) (its : List Value) (tn : Nat),
    fd = PySem.W.fnOf x qual (defArgs st) (defBody st) (defScope st) (.ref T) kV doc pm an cdv ct ∧ K.lookup f = Option.some ⟨oc, od, .func fd, osl⟩ ∧ PySem.W.codeIn K cdv qual = true ∧ K.lookup T = Option.some o ∧ o.data = .seq its.toArray tn ∧ its.length = n
  kp : PySem.W.keepIn K (.ref f) = true
section
variable {P : Program} {w : World} {K : PySem.W.Frag} {mg : Str → Option Value} {base : Heap} {G : Cfg} {k : Nat} {f : Addr} {fd : FuncData} {N ps : List Str} {x qual : Str} {st : Stmt} {b : SS} {out : Nat → D → Mem → Option (D × Mem)} {nd : Nat}
theorem FunT.some (T : FunT K x qual st nd f fd) : ∃ (oc : Value) (od : Option Addr) (dV kV doc pm : Value) (an : Option Addr) (cdv ct : Value) (osl : Array (Option Value)), fd = PySem.W.fnOf x qual (defArgs st) (defBody st) (defScope st) dV kV doc pm an cdv ct ∧ K.lookup f = Option.some ⟨oc, od, .func fd, osl⟩ ∧ PySem.W.codeIn K cdv qual = true := by
  obtain ⟨oc, od, T, kV, doc, pm, an, cdv, ct, osl, o, its, tn, e1, e2, e3, _⟩ := T.ex
  exact ⟨oc, od, _, kV, doc, pm, an, cdv, ct, osl, e1, e2, e3⟩
theorem funT_mk {oc : Value} {od an : Option Addr} {T : Addr} {osl tsl : Array (Option Value)} {kV doc pm cdv ct tc : Value} {td : Option Addr} {its : List Value} {tn : Nat} (l : K.lookup f = Option.some ⟨oc, od, .func (PySem.W.fnOf x qual (defArgs st) (defBody st) (defScope st) (.ref T) kV doc pm an cdv ct), osl⟩)
    (lT : K.lookup T = Option.some ⟨tc, td, .seq its.toArray tn, tsl⟩) (c : PySem.W.codeIn K cdv qual = true) (k : PySem.W.keepIn K (.ref f) = true) : FunT K x qual st its.length f (PySem.W.fnOf x qual (defArgs st) (defBody st) (defScope st) (.ref T) kV doc pm an cdv ct) :=
  ⟨⟨oc, od, T, kV, doc, pm, an, cdv, ct, osl, _, its, tn, rfl, l, c, lT, rfl, rfl⟩, k⟩
theorem FunT.binds (F : FunT K x qual st nd f fd)
    (h : ∀ (T : Addr) (kV doc pm : Value) (an : Option Addr) (cdv ct : Value) (us its : List Value), us.length = ps.length → its.length = nd →
      ∃ k, bindArgs (PySem.W.fnOf x qual (defArgs st) (defBody st) (defScope st) (.ref T) kV doc pm an cdv ct) ⟨us, []⟩ = seqItems? (.ref T) >>= k ∧ k (Option.some its.toArray) = pure (ps.zip us)) : Binds K fd ps [] := by
  obtain ⟨oc, od, T, kV, doc, pm, an, cdv, ct, osl, o, its, tn, rfl, lk, hcd, lT, oT, hl⟩ := F.ex
  intro s us X hlen
  rw [List.append_nil] at hlen ⊢
  obtain ⟨k, e1, e2⟩ := h T kV doc pm an cdv ct us its hlen hl
  refine L2.BindsTo.of_looks fun M => ?_
  rw [e1]
  exact L2.looks_items X lT oT (.of_pure e2)
/-- a def with defaults -/
theorem body_d (hG : G.K = K) (sp : List V → Hp → VK → Prop) (hz : ∀ (vs : List V) (H : Hp) (Q : VK), sp vs H Q → vs.length = ps.length ∧ semS G b { nx := fun _ H' => Q .non H', rt := Q } (L2.start N vs) H) (T : ∃ (oc : Value) (od : Option Addr) (dV kV doc pm : Value) (an : Option Addr) (cdv ct : Value) (osl : Array (Option Value)), fd = PySem.W.fnOf x qual (defArgs st) (defBody st) (defScope st) dV kV doc pm an cdv ct ∧ K.lookup f = some ⟨oc, od, .func fd, osl⟩ ∧ PySem.W.codeIn K cdv qual = true) (S : FnScope N ps (defScope st))
    (hb : ∀ (cdv : Value) (A : Around) (outer : List Env) (s : Shared) (H : Hp) (E : XK), Ctx (BX P w K mg base N qual st f cdv A outer s H E) G k → PSs (BX P w K mg base N qual st f cdv A outer s H E) (defBody st) (semS G b)) :
    ∀ (A : Around) (outer : List Env) (s : Shared) (H : Hp) (args : Args) (us : List Value) (vs : List V) (Q : VK) (E : XK), Room (k + 1) A → A.guards = some [] → Env0 P w K mg base A outer s H →
    (us.length = ps.length → BindsTo s fd args (ps.zip us)) → Vals vs us → sp vs H Q → codeAny (model P w) A (.call (.ref f) args) (CR CX0 outer P w H s Q E) s := by
  obtain ⟨oc, od, dV, kV, doc, pm, an, cdv, ct, osl, rfl, lk, hcd⟩ := T
  intro A outer s H args us vs Q E hr hgu e0 hbi hv hsp
  obtain ⟨hvl, start_ok⟩ := hz vs H Q hsp
  have hbi2 := hbi (hv.length.symm.trans hvl)
  have KX : K.In s.heap := e0.mod.kin.keeps fun a u z => (e0.bs a u z).1
  have lim : s.heap.NoLimit := e0.mod.nolimit.keeps fun a u z => (e0.bs a u z).1
  have kinds : ∀ y ∈ ps.zip us, (defScope st).names.lookup y.1 = some .local ∨ ((defScope st).names.lookup y.1 = some .cell ∧ ((cellsFrom (s.heap.objs.size + 1) (defScope st).names []).lookup y.1).isSome = true) := by
    rintro ⟨n, u⟩ hy
    exact (S.par n (List.of_mem_zip hy).1).imp id fun z => ⟨z, PySem.W.cellsFrom_some _ _ _ (.inl z)⟩
  refine codeAny_call_function hr.depth (KX _ _ lk) rfl S.co S.gen rfl (PySem.W.codeRec_of KX hcd) (hbi2 _ _ _ _ ?_)
  refine wpAny_newFunctionEnv_cells S.kind kinds fun env he s1 xx => ?_
  subst he
  refine ⟨lim.keeps xx.toInCall.keep, codeAny_func ?_⟩
  have I : Inv (cxOf CX0 P w K mg base N qual (defScope st) f cdv A outer s H E) [] (L2.start N vs) H s1 := inv_start S hr.hd e0 hvl hv xx
  have body := (hb cdv A outer s H E ⟨hG, rfl, hr.deeper _, hgu⟩).nox
  have fin : ∀ (s' : Shared) (σ' : L2.St) (H' : Hp) (v : V) (u : Value), Inv (cxOf CX0 P w K mg base N qual (defScope st) f cdv A outer s H E) [] σ' H' s' → RelV v u → Q v H' → CE outer P w H s Q u s' :=
    fun s' σ' H' v u J rv z => ⟨v, H', J.os, J.bare, J.base, J.hok, rv, z⟩
  refine wpAny_mono (body.run [] s1 (L2.start N vs) H _ I start_ok) (fun fl s' hs => ?_) fun e s' hs => hs
  cases fl with
  | ret u => exact match hs with | ⟨v, σ', H', J, rv, z⟩ => fin s' σ' H' v u J rv z
  | next => exact match hs with | ⟨σ', H', J, z⟩ => fin s' σ' H' V.non Value.none J rfl z
  | brk => exact match hs with | ⟨_, _, _, z⟩ => False.elim z
  | cont => exact match hs with | ⟨_, _, _, z⟩ => False.elim z

theorem fn_bodyT (hG : G.K = K) (ho : OutOk G out) (T : FunT K x qual st nd f fd) (S : FnScope N ps (defScope st))
    (hb : ∀ (cdv : Value) (A : Around) (outer : List Env) (s : Shared) (H : Hp) (E : XK), Ctx (BX P w K mg base N qual st f cdv A outer s H E) G k → PSs (BX P w K mg base N qual st f cdv A outer s H E) (defBody st) (semS G b)) :
    FnG P w K mg base CX0 G (k + 1) f fd ps (runB out N.length ps.length b) := ⟨body_d hG _ (fun vs H Q ⟨r, F, m, ds, d, m', e, R, hd, q⟩ => by
  unfold runB at e
  split at e
  case isFalse => cases e
  rename_i hlen
  obtain ⟨o, e1, e2⟩ := bind2 (γ := Unit) e
  refine ⟨hd.length.trans hlen, ?_⟩
  have st := env_start (H := H) (N := N) hd
  rw [hlen] at st
  refine ⟨r, F, _, m, o, e1, R, st.1, fun r1 F1 H1 x1 => ?_⟩
  have x1 := x1.toE st.2
  cases o with
  | nx env1 m1 =>
    have e3 : out m.length .non m1 = some (d, m') := e2
    rw [← R.len] at e3
    exact fun σ R1 _ _ => ho x1 R1 .non e3 q
  | rt d1 m1 =>
    have e3 : (if isOwn d1 then none else out m.length d1 m1) = some (d, m') := e2
    split at e3
    · cases e3
    · rename_i ne
      rw [← R.len] at e3
      exact fun v R1 h1 => ho x1 R1 (h1.toD (by simpa using ne)) e3 q
  | bk env1 m1 => cases e2
  | ct env1 m1 => cases e2) T.some S hb⟩
end
end Kb

set_option Elab.async false
set_option linter.all false
set_option maxRecDepth 100000
set_option maxHeartbeats 4000000
set_option autoImplicit false
/-! KmA: how what defs compute is reckoned out. -/
namespace Kb
open PySem L2

/-- a proof that simp does not take for one by unfolding -/
theorem hid {α : Type} {a b : α} (h : a = b) : a = b := h
/-- a def's body, run to its end -/
theorem run_p {n a : Nat} {b : SS} {ds : List D} {m m' : Mem} {d : D} (hl : ds.length = a) (h : b (ds.map some ++ List.replicate (n - a) none) m = some (.rt d m')) (hm : m'.length = m.length := by rfl) (hd : isOwn d = false := by first | rfl | assumption | simp) : runB outP n a b ds m = some (d, m') := by
  unfold runB
  rw [if_pos hl, h]
  show (if isOwn d = true then none else if m'.length = m.length then some (d, m') else none) = _
  rw [hd, if_pos hm]
  rfl
theorem run_pn {n a : Nat} {b : SS} {ds : List D} {m m' : Mem} {env : Ev} (hl : ds.length = a) (h : b (ds.map some ++ List.replicate (n - a) none) m = some (.nx env m')) (hm : m'.length = m.length := by rfl) : runB outP n a b ds m = some (.non, m') := by
  unfold runB
  rw [if_pos hl, h]
  exact if_pos hm
/-- a def that hands back a new list -/
theorem run_new {n a : Nat} {b : SS} {ds xs : List D} {m m' : Mem} (hl : ds.length = a) (h : b (ds.map some ++ List.replicate (n - a) none) m = some (.rt (.own xs) m')) (hm : m'.length = m.length := by rfl) : runN n a b ds m = some (xs, m') := by
  unfold runN
  rw [if_pos hl, h]
  exact if_pos hm
/-- the end of a body -/
def finP (k : Nat) (o : Out) : Option (D × Mem) := match o with
  | .rt d m => if isOwn d then none else if m.length = k then some (d, m) else none
  | .nx _ m => if m.length = k then some (.non, m) else none
  | _ => none
theorem runP {n a : Nat} {b : SS} {ds : List D} {m : Mem} : runB outP n a b ds m = if ds.length = a then (b (ds.map some ++ List.replicate (n - a) none) m).bind (finP m.length) else none := by
  unfold runB
  split
  · congr 1
  · rfl
@[simp] theorem finP_rt {k : Nat} {d : D} {m : Mem} : finP k (.rt d m) = if isOwn d then none else if m.length = k then some (d, m) else none := hid rfl
@[simp] theorem finP_nx {k : Nat} {e : Ev} {m : Mem} : finP k (.nx e m) = if m.length = k then some (.non, m) else none := hid rfl
@[simp] theorem isOwn_non : isOwn .non = false := hid rfl
@[simp] theorem isOwn_bl {b : Bool} : isOwn (.bl b) = false := hid rfl
@[simp] theorem isOwn_int {b : Int} : isOwn (.int b) = false := hid rfl
@[simp] theorem isOwn_str {b : Str} : isOwn (.str b) = false := hid rfl
@[simp] theorem isOwn_lst {b : List D} : isOwn (.lst b) = false := hid rfl
@[simp] theorem isOwn_tup {b : List D} : isOwn (.tup b) = false := hid rfl
@[simp] theorem isOwn_dic {k : List Key} {b : List D} : isOwn (.dic k b) = false := hid rfl
@[simp] theorem isOwn_obj {c : Nat} {b : List D} : isOwn (.obj c b) = false := hid rfl
@[simp] theorem isOwn_loc {n : Nat} : isOwn (.loc n) = false := hid rfl
@[simp] theorem isOwn_scr {n : List Int} : isOwn (.scr n) = false := hid rfl
@[simp] theorem isOwn_rng {a b : Int} : isOwn (.rng a b) = false := hid rfl
@[simp] theorem below_non {k : Nat} : below k .non = true := hid rfl
@[simp] theorem below_bl {k : Nat} {b : Bool} : below k (.bl b) = true := hid rfl
@[simp] theorem below_int {k : Nat} {b : Int} : below k (.int b) = true := hid rfl
@[simp] theorem below_str {k : Nat} {b : Str} : below k (.str b) = true := hid rfl
@[simp] theorem below_lst {k : Nat} {b : List D} : below k (.lst b) = belows k b := hid rfl
@[simp] theorem below_tup {k : Nat} {b : List D} : below k (.tup b) = belows k b := hid rfl
@[simp] theorem below_dic {k : Nat} {ks : List Key} {b : List D} : below k (.dic ks b) = belows k b := hid rfl
@[simp] theorem below_obj {k c : Nat} {b : List D} : below k (.obj c b) = belows k b := hid rfl
@[simp] theorem belows_nil {k : Nat} : belows k [] = true := hid rfl
@[simp] theorem belows_cons {k : Nat} {x : D} {xs : List D} : belows k (x :: xs) = (below k x && belows k xs) := hid rfl
theorem belows_all {k : Nat} : ∀ {xs : List D}, (∀ x ∈ xs, below k x = true) → belows k xs = true
  | [], _ => rfl
  | x :: xs, h => by
    show (below k x && belows k xs) = true
    rw [h x List.mem_cons_self, belows_all fun y hy => h y (List.mem_cons_of_mem _ hy)]
    rfl
@[simp] theorem belows_ints {k : Nat} {xs : List Int} : belows k (xs.map D.int) = true := belows_all fun x hx => by
  obtain ⟨i, _, rfl⟩ := List.mem_map.mp hx
  rfl

section
variable {env : Ev} {m : Mem}
@[simp] theorem var0 {x : D} : var 0 (some x :: env) m = if isOwn x = true then none else some (x, m) := hid rfl
@[simp] theorem varS {o : Option D} {i : Nat} : var (i + 1) (o :: env) m = var i env m := hid rfl
@[simp] theorem cst_def {d : D} : cst d env m = some (d, m) := hid rfl
@[simp] theorem argN_def : argN env m = some ([], m) := hid rfl
@[simp] theorem argC_def {a : SE} {b : SA} : argC a b env m = (a env m).bind fun p => (b env p.2).bind fun q => some (p.1 :: q.1, q.2) := hid rfl
@[simp] theorem app_def {f : Fs} {a : SA} : app f a env m = (a env m).bind fun p => f p.1 p.2 := hid rfl
@[simp] theorem bin_def {f : D → D → Mem → Option (D × Mem)} {a b : SE} : bin f a b env m = (a env m).bind fun p => (b env p.2).bind fun q => f p.1 q.1 q.2 := hid rfl
@[simp] theorem una_def {f : D → Mem → Option (D × Mem)} {a : SE} : una f a env m = (a env m).bind fun p => f p.1 p.2 := hid rfl
@[simp] theorem tupE_def {a : SA} : tupE a env m = (a env m).bind fun p => if p.1.length ≤ 100000 then some (.tup p.1, p.2) else none := hid rfl
@[simp] theorem lstE_def {a : SA} : lstE a env m = (a env m).bind fun p => if p.1.length ≤ 100000 then some (.lst p.1, p.2) else none := hid rfl
@[simp] theorem lstNE_def {a : SA} : lstNE a env m = (a env m).bind fun p => if p.1.length ≤ 100000 then some (.loc p.2.length, p.2 ++ [.lst p.1]) else none := hid rfl
@[simp] theorem iteE_def {t : SB} {a b : SE} : iteE t a b env m = (t env m).bind fun p => if p.1 then a env p.2 else b env p.2 := hid rfl
@[simp] theorem tstE_def {a : SE} : tstE a env m = (a env m).bind fun p => (truD p.2 p.1).map fun b => (b, p.2) := hid rfl
@[simp] theorem tstB_def {a : SE} : tstB a env m = (a env m).bind fun p => match p.1 with
  | .bl b => some (b, p.2)
  | _ => none := hid rfl
@[simp] theorem andB_def {a b : SB} : andB a b env m = (a env m).bind fun p => if p.1 then b env p.2 else some (false, p.2) := hid rfl
@[simp] theorem orB_def {a b : SB} : orB a b env m = (a env m).bind fun p => if p.1 then some (true, p.2) else b env p.2 := hid rfl
@[simp] theorem notB_def {a : SB} : notB a env m = (a env m).bind fun p => some (!p.1, p.2) := hid rfl
@[simp] theorem andE_def {a b : SE} : andE a b env m = (a env m).bind fun p => (truD p.2 p.1).bind fun k => if k then b env p.2 else some p := hid rfl
@[simp] theorem orE_def {a b : SE} : orE a b env m = (a env m).bind fun p => (truD p.2 p.1).bind fun k => if k then some p else b env p.2 := hid rfl
@[simp] theorem notE_def {a : SE} : notE a env m = (a env m).bind fun p => (truD p.2 p.1).map fun k => (.bl (!k), p.2) := hid rfl
@[simp] theorem chnE_def {f g : D → D → Mem → Option (D × Mem)} {a b c : SE} : chnE f g a b c env m = (a env m).bind fun p => (b env p.2).bind fun q => (f p.1 q.1 q.2).bind fun k => match k.1 with
  | .bl true => (c env k.2).bind fun w => g q.1 w.1 w.2
  | .bl false => some (.bl false, k.2)
  | _ => none := hid rfl
@[simp] theorem truD_bl {b : Bool} : truD m (.bl b) = some b := hid rfl
@[simp] theorem truD_int {i : Int} : truD m (.int i) = some (i != 0) := hid rfl
@[simp] theorem yesB_def : yesB env m = some (true, m) := hid rfl
@[simp] theorem isiE_def {b : TyD → Bool} {a : SE} : isiE b a env m = (a env m).bind fun p => (tyD p.2 p.1).map fun t => (.bl (b t), p.2) := hid rfl
@[simp] theorem fldE_def {c j : Nat} {o : SE} : fldE c j o env m = (o env m).bind fun p => (insD p.2 p.1).bind fun q => if q.1 = c then q.2[j]?.map fun d => (d, p.2) else none := hid rfl
@[simp] theorem mthE_def {c : Nat} {f : Fs} {o : SE} {a : SA} : mthE c f o a env m = (o env m).bind fun p => (insD p.2 p.1).bind fun q => if q.1 = c then (a env p.2).bind fun w => f (p.1 :: w.1) w.2 else none := hid rfl
@[simp] theorem mthKE_def {c n l : Nat} {is : List Nat} {f : Fs} {o : SE} {a b : SA} : mthKE c n l is f o a b env m = (o env m).bind fun p => (insD p.2 p.1).bind fun q => if q.1 = c then (a env p.2).bind fun w => (b env w.2).bind fun z => if w.1.length = n ∧ z.1.length = l then f (p.1 :: pick is (w.1 ++ z.1)) z.2 else none else none := hid rfl
@[simp] theorem prpE_def {c : Nat} {f : Fs} {o : SE} : prpE c f o env m = (o env m).bind fun p => (insD p.2 p.1).bind fun q => if q.1 = c then f [p.1] p.2 else none := hid rfl
@[simp] theorem appK_def {n l : Nat} {is : List Nat} {f : Fs} {a b : SA} : appK n l is f a b env m = (a env m).bind fun p => (b env p.2).bind fun q => if p.1.length = n ∧ q.1.length = l then f (pick is (p.1 ++ q.1)) q.2 else none := hid rfl
@[simp] theorem insD_obj {c : Nat} {xs : List D} : insD m (.obj c xs) = some (c, xs) := hid rfl
@[simp] theorem pick_nil {α : Type} {xs : List α} : pick [] xs = [] := hid rfl
@[simp] theorem pick_cons {α : Type} {i : Nat} {is : List Nat} {xs : List α} {x : α} (h : xs[i]? = some x) : pick (i :: is) xs = x :: pick is xs := by
  unfold pick
  rw [List.filterMap_cons, h]
@[simp] theorem altE_def {a b : SE} : altE a b env m = (a env m).or (b env m) := hid rfl
@[simp] theorem newE_def {a : SA} : newE a env m = (a env m).map fun p => (.loc p.2.length, p.2 ++ [.lst p.1]) := hid rfl
@[simp] theorem appN_def {fs : Fl} {a : SA} : appN fs a env m = (a env m).bind fun p => fs p.1 p.2 := hid rfl
@[simp] theorem appNK_def {n l : Nat} {is : List Nat} {fs : Fl} {a b : SA} : appNK n l is fs a b env m = (a env m).bind fun p => (b env p.2).bind fun q => if p.1.length = n ∧ q.1.length = l then fs (pick is (p.1 ++ q.1)) q.2 else none := hid rfl
@[simp] theorem retO_def {i : Nat} : retO i env m = match env[i]? with
  | some (some (.own xs)) => some (.rt (.own xs) m)
  | _ => none := hid rfl
@[simp] theorem retM_def {e : SA} : retM e env m = (e env m).map fun p => .rt (.own p.1) p.2 := hid rfl
/-! names that hold lists alone -/
@[simp] theorem ownS_def {i : Nat} {e : SA} : ownS i e env m = (e env m).bind fun p => if i < env.length then some (.nx (env.set i (some (.own p.1))) p.2) else none := hid rfl
@[simp] theorem lstA_def {a : SA} : lstA a env m = (a env m).bind fun p => if p.1.length ≤ 100000 then some p else none := hid rfl
@[simp] theorem listA_def {a : SE} : listA a env m = (a env m).bind fun p => (seqD p.2 p.1).map fun xs => (xs, p.2) := hid rfl
@[simp] theorem repA_def {a b : SE} : repA a b env m = (a env m).bind fun p => (b env p.2).bind fun q => match lstD q.2 p.1, q.1 with
  | some xs, .int k => if 0 ≤ k ∧ k ≤ 1000 ∧ xs.length ≤ 1000 then some ((List.replicate k.toNat xs).flatten, q.2) else none
  | _, _ => none := hid rfl
@[simp] theorem relS_def {i : Nat} : relS i env m = match env[i]? with
  | some (some (.own xs)) => some (.nx (env.set i (some (.lst xs))) m)
  | _ => some (.nx env m) := hid rfl
@[simp] theorem appS_def {i : Nat} {e : SE} : appS i e env m = (e env m).bind fun p => match env[i]? with
  | some (some (.own xs)) => if xs.length < 100000 then some (.nx (env.set i (some (.own (xs ++ [p.1])))) p.2) else none
  | _ => none := hid rfl
@[simp] theorem extS_def {i : Nat} {e : SE} : extS i e env m = (e env m).bind fun p => (lstD p.2 p.1).bind fun ys => match env[i]? with
  | some (some (.own xs)) => if xs.length + ys.length < 100000 then some (.nx (env.set i (some (.own (xs ++ ys)))) p.2) else none
  | _ => none := hid rfl
@[simp] theorem popS_def {i : Nat} : popS i env m = match env[i]? with
  | some (some (.own xs)) => if xs.length = 0 then none else some (.nx (env.set i (some (.own xs.dropLast))) m)
  | _ => none := hid rfl
@[simp] theorem subO_def {i : Nat} {si : SE} {v : D} : subO i si v env m = (si env m).bind fun q => match env[i]?, q.1 with
  | some (some (.own xs)), .int k => (ixN xs.length k).map fun j => (env.set i (some (.own (xs.set j v))), q.2)
  | _, _ => none := hid rfl
theorem ovalD_def {i : Nat} : ovalD env i = match env[i]? with
  | some (some (.own xs)) => some xs
  | some (some (.lst xs)) => some xs
  | _ => none := rfl
@[simp] theorem oval0_own {xs : List D} : ovalD (some (.own xs) :: env) 0 = some xs := hid rfl
@[simp] theorem oval0_lst {xs : List D} : ovalD (some (.lst xs) :: env) 0 = some xs := hid rfl
@[simp] theorem ovalS {o : Option D} {i : Nat} : ovalD (o :: env) (i + 1) = ovalD env i := hid rfl
@[simp] theorem oixE_def {i : Nat} {si : SE} : oixE i si env m = (si env m).bind fun q => match q.1 with
  | .int k => (ovalD env i).bind fun xs => (atI xs k).map fun d => (d, q.2)
  | _ => none := hid rfl
@[simp] theorem olenE_def {i : Nat} : olenE i env m = (ovalD env i).map fun xs => (.int xs.length, m) := hid rfl
@[simp] theorem oeqE_def {neg : Bool} {i : Nat} {se : SE} : oeqE neg i se env m = (se env m).bind fun q => (ovalD env i).bind fun xs => (eqB1 q.2 (.lst xs) q.1).map fun k => (.bl (if neg then !k else k), q.2) := hid rfl
@[simp] theorem oinE_def {neg : Bool} {i : Nat} {se : SE} : oinE neg i se env m = (se env m).bind fun q => (ovalD env i).bind fun xs => (inB q.2 q.1 (.lst xs)).map fun k => (.bl (if neg then !k else k), q.2) := hid rfl
@[simp] theorem otruB_def {i : Nat} : otruB i env m = (ovalD env i).map fun xs => (!xs.isEmpty, m) := hid rfl
@[simp] theorem lstD_lst {xs : List D} : lstD m (.lst xs) = some xs := hid rfl
@[simp] theorem seqD_lst {xs : List D} : seqD m (.lst xs) = some xs := hid rfl
@[simp] theorem seqD_tup {xs : List D} : seqD m (.tup xs) = some xs := hid rfl
@[simp] theorem tupG_def {n : Nat} {a : GTs} {ds : List D} : tupG n a (.tup ds) env m = if ds.length = n then a ds env m else none := hid rfl
@[simp] theorem consG_def {a : GT} {b : GTs} {d : D} {ds : List D} : consG a b (d :: ds) env m = (a d env m).bind fun p => b ds p.1 p.2 := hid rfl
@[simp] theorem nilG_def : nilG [] env m = some (env, m) := hid rfl
@[simp] theorem tgG_def {t : Tg} {d : D} : tgG t d env m = (t.put d env).map fun e => (e, m) := hid rfl
@[simp] theorem subG_def {so si : SE} {v : D} : subG so si v env m = (so env m).bind fun p => (si env p.2).bind fun q => (setD p.1 q.1 v q.2).map fun m' => (env, m') := hid rfl
@[simp] theorem methE_def {f : MD} {o : SE} {a : SA} : methE f o a env m = (o env m).bind fun p => (lstD p.2 p.1).bind fun _ => (a env p.2).bind fun q => f p.1 q.1 q.2 := hid rfl
@[simp] theorem seqS_def {a b : SS} : seqS a b env m = (a env m).bind fun o => thenO o b := hid rfl
@[simp] theorem thenO_nx {b : SS} : thenO (.nx env m) b = b env m := hid rfl
@[simp] theorem thenO_rt {b : SS} {d : D} : thenO (.rt d m) b = some (.rt d m) := hid rfl
@[simp] theorem thenO_bk {b : SS} : thenO (.bk env m) b = some (.bk env m) := hid rfl
@[simp] theorem thenO_ct {b : SS} : thenO (.ct env m) b = some (.ct env m) := hid rfl
@[simp] theorem skS_def : skS env m = some (.nx env m) := hid rfl
@[simp] theorem bkS_def : bkS env m = some (.bk env m) := hid rfl
@[simp] theorem ctS_def : ctS env m = some (.ct env m) := hid rfl
@[simp] theorem dropS_def {a : SE} : dropS a env m = (a env m).map fun p => .nx env p.2 := hid rfl
@[simp] theorem retS_def {a : SE} : retS a env m = (a env m).map fun p => .rt p.1 p.2 := hid rfl
@[simp] theorem ifS_def {t : SB} {a b : SS} : ifS t a b env m = (t env m).bind fun p => if p.1 then a env p.2 else b env p.2 := hid rfl
@[simp] theorem setS_def {t : Tg} {a : SE} : setS t a env m = (a env m).bind fun p => (t.put p.1 env).map fun env' => .nx env' p.2 := hid rfl
@[simp] theorem parS_def {is : List Nat} {a : SA} : parS is a env m = (a env m).bind fun p => (putL is p.1 env).map fun env' => .nx env' p.2 := hid rfl
@[simp] theorem asgS_def {a : SE} {t : GT} : asgS a t env m = (a env m).bind fun p => (t p.1 env p.2).map fun w => .nx w.1 w.2 := hid rfl
@[simp] theorem fldS_def {c j : Nat} {o v : SE} : fldS c j o v env m = (v env m).bind fun q => (o env q.2).bind fun p => (putC c j p.1 q.1 p.2).map fun m' => .nx env m' := hid rfl
@[simp] theorem put_n {i : Nat} {d : D} : Tg.put (.n i) d env = if i < env.length then some (env.set i (some d)) else none := hid rfl
@[simp] theorem put_t {is : List Nat} {ds : List D} : Tg.put (.t is) (.tup ds) env = putL is ds env := hid rfl
@[simp] theorem put_l {is : List Nat} {ds : List D} : Tg.put (.t is) (.lst ds) env = putL is ds env := hid rfl
@[simp] theorem putL_nil : putL [] [] env = some env := hid rfl
@[simp] theorem putL_cons {i : Nat} {is : List Nat} {d : D} {ds : List D} : putL (i :: is) (d :: ds) env = if i < env.length then putL is ds (env.set i (some d)) else none := hid rfl
theorem forS_fn {f : Ev → Mem → Option (List D × Mem)} {t : Tg} {body : SS} : forS (.fn f) t body env m = (f env m).bind fun p => forL t.put body p.1 env p.2 := by
  show ((f env m).map fun p => ((p.1, none), p.2)).bind _ = _
  cases f env m <;> rfl
@[simp] theorem forWt_none {xs ds : List D} {put : D → Ev → Option Ev} {body : SS} : forWt none xs put body ds env m = forL put body ds env m := hid rfl
@[simp] theorem lcWt_none {xs ds : List D} {put : D → Ev → Option Ev} {tt : SB} {te : SE} : lcWt none xs put tt te env ds m = lcL put tt te env ds m := hid rfl
@[simp] theorem watD_tup {xs : List D} : watD m (.tup xs) = none := hid rfl
@[simp] theorem watD_lst {xs : List D} : watD m (.lst xs) = none := hid rfl
@[simp] theorem watD_scr {xs : List Int} : watD m (.scr xs) = none := hid rfl
@[simp] theorem watD_rng {i j : Int} : watD m (.rng i j) = none := hid rfl
@[simp] theorem forS_it {a : SE} {t : Tg} {body : SS} : forS (itE a) t body env m = (a env m).bind fun p => (iterD p.2 p.1).bind fun q => forWt (watD p.2 p.1) q.1 t.put body q.1 env q.2 := by
  show ((a env m).bind fun p => (iterD p.2 p.1).map fun q => ((q.1, watD p.2 p.1), q.2)).bind _ = _
  cases a env m with
  | none => rfl
  | some p =>
    show ((iterD p.2 p.1).map fun q => ((q.1, watD p.2 p.1), q.2)).bind _ = (iterD p.2 p.1).bind _
    cases iterD p.2 p.1 <;> rfl
@[simp] theorem forS_rng1 {a : SA} {t : Tg} {body : SS} : forS (rng1 a) t body env m = (rng1 a env m).bind fun p => forL t.put body p.1 env p.2 := hid forS_fn
@[simp] theorem forS_rng2 {a : SA} {t : Tg} {body : SS} : forS (rng2 a) t body env m = (rng2 a env m).bind fun p => forL t.put body p.1 env p.2 := hid forS_fn
@[simp] theorem forS_zipI {a : SA} {t : Tg} {body : SS} : forS (zipI a) t body env m = (zipI a env m).bind fun p => forL t.put body p.1 env p.2 := hid forS_fn
@[simp] theorem forS_enumI {a : SA} {t : Tg} {body : SS} : forS (enumI a) t body env m = (enumI a env m).bind fun p => forL t.put body p.1 env p.2 := hid forS_fn
@[simp] theorem forL_nil {put : D → Ev → Option Ev} {body : SS} : forL put body [] env m = some (.nx env m) := hid rfl
theorem forL_cons {put : D → Ev → Option Ev} {body : SS} {d : D} {ds : List D} : forL put body (d :: ds) env m = (put d env).bind fun env1 => (body env1 m).bind fun o => turnO o (forL put body ds) := rfl
@[simp] theorem turnO_nx {k : Ev → Mem → Option Out} : turnO (.nx env m) k = k env m := hid rfl
@[simp] theorem turnO_ct {k : Ev → Mem → Option Out} : turnO (.ct env m) k = k env m := hid rfl
@[simp] theorem turnO_bk {k : Ev → Mem → Option Out} : turnO (.bk env m) k = some (.nx env m) := hid rfl
@[simp] theorem turnO_rt {k : Ev → Mem → Option Out} {d : D} : turnO (.rt d m) k = some (.rt d m) := hid rfl
theorem lcA_fn {f : Ev → Mem → Option (List D × Mem)} {t : Tg} {own : List Nat} {tt : SB} {te : SE} : lcA (.fn f) t own tt te env m = ((f env m).bind fun p => (lcL t.put tt te (wipeD env own) p.1 p.2).bind fun w => if w.1.length ≤ 100000 then some w else none) := by
  show (((f env m).map fun p => ((p.1, (none : Option Nat)), p.2)).bind _) = _
  cases f env m <;> rfl
@[simp] theorem lcA_it {a : SE} {t : Tg} {own : List Nat} {tt : SB} {te : SE} : lcA (itE a) t own tt te env m = ((a env m).bind fun p => (iterD p.2 p.1).bind fun q => (lcWt (watD p.2 p.1) q.1 t.put tt te (wipeD env own) q.1 q.2).bind fun w => if w.1.length ≤ 100000 then some w else none) := by
  show (((a env m).bind fun p => (iterD p.2 p.1).map fun q => ((q.1, watD p.2 p.1), q.2)).bind _) = _
  cases a env m with
  | none => rfl
  | some p =>
    show (((iterD p.2 p.1).map fun q => ((q.1, watD p.2 p.1), q.2)).bind _) = ((iterD p.2 p.1).bind _)
    cases iterD p.2 p.1 <;> rfl
@[simp] theorem lcA_rng1 {a : SA} {t : Tg} {own : List Nat} {tt : SB} {te : SE} : lcA (rng1 a) t own tt te env m = ((rng1 a env m).bind fun p => (lcL t.put tt te (wipeD env own) p.1 p.2).bind fun w => if w.1.length ≤ 100000 then some w else none) := hid lcA_fn
@[simp] theorem lcA_rng2 {a : SA} {t : Tg} {own : List Nat} {tt : SB} {te : SE} : lcA (rng2 a) t own tt te env m = ((rng2 a env m).bind fun p => (lcL t.put tt te (wipeD env own) p.1 p.2).bind fun w => if w.1.length ≤ 100000 then some w else none) := hid lcA_fn
@[simp] theorem lcA_zipI {a : SA} {t : Tg} {own : List Nat} {tt : SB} {te : SE} : lcA (zipI a) t own tt te env m = ((zipI a env m).bind fun p => (lcL t.put tt te (wipeD env own) p.1 p.2).bind fun w => if w.1.length ≤ 100000 then some w else none) := hid lcA_fn
@[simp] theorem lcA_enumI {a : SA} {t : Tg} {own : List Nat} {tt : SB} {te : SE} : lcA (enumI a) t own tt te env m = ((enumI a env m).bind fun p => (lcL t.put tt te (wipeD env own) p.1 p.2).bind fun w => if w.1.length ≤ 100000 then some w else none) := hid lcA_fn
@[simp] theorem lcE_it {a : SE} {t : Tg} {own : List Nat} {tt : SB} {te : SE} : lcE (itE a) t own tt te env m = (((a env m).bind fun p => (iterD p.2 p.1).bind fun q => (lcWt (watD p.2 p.1) q.1 t.put tt te (wipeD env own) q.1 q.2).bind fun w => if w.1.length ≤ 100000 then some w else none)).map (fun w => (D.lst w.1, w.2)) := by
  show (lcA (itE a) t own tt te env m).map (fun w => (D.lst w.1, w.2)) = _
  rw [lcA_it]
@[simp] theorem lcE_rng1 {a : SA} {t : Tg} {own : List Nat} {tt : SB} {te : SE} : lcE (rng1 a) t own tt te env m = ((rng1 a env m).bind fun p => (lcL t.put tt te (wipeD env own) p.1 p.2).bind fun w => if w.1.length ≤ 100000 then some w else none).map (fun w => (D.lst w.1, w.2)) := by
  show (lcA (rng1 a) t own tt te env m).map (fun w => (D.lst w.1, w.2)) = _
  rw [lcA_rng1]
@[simp] theorem lcE_rng2 {a : SA} {t : Tg} {own : List Nat} {tt : SB} {te : SE} : lcE (rng2 a) t own tt te env m = ((rng2 a env m).bind fun p => (lcL t.put tt te (wipeD env own) p.1 p.2).bind fun w => if w.1.length ≤ 100000 then some w else none).map (fun w => (D.lst w.1, w.2)) := by
  show (lcA (rng2 a) t own tt te env m).map (fun w => (D.lst w.1, w.2)) = _
  rw [lcA_rng2]
@[simp] theorem lcE_zipI {a : SA} {t : Tg} {own : List Nat} {tt : SB} {te : SE} : lcE (zipI a) t own tt te env m = ((zipI a env m).bind fun p => (lcL t.put tt te (wipeD env own) p.1 p.2).bind fun w => if w.1.length ≤ 100000 then some w else none).map (fun w => (D.lst w.1, w.2)) := by
  show (lcA (zipI a) t own tt te env m).map (fun w => (D.lst w.1, w.2)) = _
  rw [lcA_zipI]
@[simp] theorem lcE_enumI {a : SA} {t : Tg} {own : List Nat} {tt : SB} {te : SE} : lcE (enumI a) t own tt te env m = ((enumI a env m).bind fun p => (lcL t.put tt te (wipeD env own) p.1 p.2).bind fun w => if w.1.length ≤ 100000 then some w else none).map (fun w => (D.lst w.1, w.2)) := by
  show (lcA (enumI a) t own tt te env m).map (fun w => (D.lst w.1, w.2)) = _
  rw [lcA_enumI]
@[simp] theorem lcNE_it {a : SE} {t : Tg} {own : List Nat} {tt : SB} {te : SE} : lcNE (itE a) t own tt te env m = (((a env m).bind fun p => (iterD p.2 p.1).bind fun q => (lcWt (watD p.2 p.1) q.1 t.put tt te (wipeD env own) q.1 q.2).bind fun w => if w.1.length ≤ 100000 then some w else none)).map (fun w => (D.loc w.2.length, w.2 ++ [Cell.lst w.1])) := by
  show (lcA (itE a) t own tt te env m).map (fun w => (D.loc w.2.length, w.2 ++ [Cell.lst w.1])) = _
  rw [lcA_it]
@[simp] theorem lcNE_rng1 {a : SA} {t : Tg} {own : List Nat} {tt : SB} {te : SE} : lcNE (rng1 a) t own tt te env m = ((rng1 a env m).bind fun p => (lcL t.put tt te (wipeD env own) p.1 p.2).bind fun w => if w.1.length ≤ 100000 then some w else none).map (fun w => (D.loc w.2.length, w.2 ++ [Cell.lst w.1])) := by
  show (lcA (rng1 a) t own tt te env m).map (fun w => (D.loc w.2.length, w.2 ++ [Cell.lst w.1])) = _
  rw [lcA_rng1]
@[simp] theorem lcNE_rng2 {a : SA} {t : Tg} {own : List Nat} {tt : SB} {te : SE} : lcNE (rng2 a) t own tt te env m = ((rng2 a env m).bind fun p => (lcL t.put tt te (wipeD env own) p.1 p.2).bind fun w => if w.1.length ≤ 100000 then some w else none).map (fun w => (D.loc w.2.length, w.2 ++ [Cell.lst w.1])) := by
  show (lcA (rng2 a) t own tt te env m).map (fun w => (D.loc w.2.length, w.2 ++ [Cell.lst w.1])) = _
  rw [lcA_rng2]
@[simp] theorem lcNE_zipI {a : SA} {t : Tg} {own : List Nat} {tt : SB} {te : SE} : lcNE (zipI a) t own tt te env m = ((zipI a env m).bind fun p => (lcL t.put tt te (wipeD env own) p.1 p.2).bind fun w => if w.1.length ≤ 100000 then some w else none).map (fun w => (D.loc w.2.length, w.2 ++ [Cell.lst w.1])) := by
  show (lcA (zipI a) t own tt te env m).map (fun w => (D.loc w.2.length, w.2 ++ [Cell.lst w.1])) = _
  rw [lcA_zipI]
@[simp] theorem lcNE_enumI {a : SA} {t : Tg} {own : List Nat} {tt : SB} {te : SE} : lcNE (enumI a) t own tt te env m = ((enumI a env m).bind fun p => (lcL t.put tt te (wipeD env own) p.1 p.2).bind fun w => if w.1.length ≤ 100000 then some w else none).map (fun w => (D.loc w.2.length, w.2 ++ [Cell.lst w.1])) := by
  show (lcA (enumI a) t own tt te env m).map (fun w => (D.loc w.2.length, w.2 ++ [Cell.lst w.1])) = _
  rw [lcA_enumI]
@[simp] theorem wipe_nil : wipeD env [] = env := hid rfl
@[simp] theorem wipe_cons {v : Nat} {vs : List Nat} : wipeD env (v :: vs) = (wipeD env vs).set v none := hid rfl
@[simp] theorem itE_def {a : SE} : itE a env m = (a env m).bind fun p => iterD p.2 p.1 := hid rfl
@[simp] theorem iterD_tup {xs : List D} : iterD m (.tup xs) = some (xs, m) := hid rfl
@[simp] theorem iterD_lst {xs : List D} : iterD m (.lst xs) = some (xs, m) := hid rfl
@[simp] theorem zipI_def {a : SA} : zipI a env m = (a env m).bind fun p => match p.1 with
  | [x, y] => (frzD p.2 x).bind fun u => (frzD u.2 y).bind fun v => some (zipDD u.1 v.1, v.2)
  | _ => none := hid rfl
@[simp] theorem enumI_def {a : SA} : enumI a env m = (a env m).bind fun p => match p.1 with
  | [x] => (frzD p.2 x).bind fun u => some (numD u.1, u.2)
  | _ => none := hid rfl
theorem rng2_run {a : SA} : rng2 a env m = (a env m).bind fun p => match p.1 with
  | [.int i, .int j] => if i.natAbs ≤ 1000000 ∧ j.natAbs ≤ 1000000 then some (rngD i (j - i).toNat, p.2) else none
  | _ => none := rfl
theorem rng1_nat {a : SA} {m' : Mem} {n : Nat} (h : a env m = some ([.int (n : Int)], m')) (hn : n ≤ 1000000) : rng1 a env m = some ((List.range n).map fun (j : Nat) => D.int (j : Int), m') := by
  show ((a env m).bind fun p => match p.1 with
    | [.int j] => if j.natAbs ≤ 1000000 then some (rngD 0 j.toNat, p.2) else none
    | _ => none) = _
  rw [h]
  rw [Option.bind_some]
  dsimp only
  rw [if_pos (by omega)]
  unfold rngD
  rw [Int.toNat_natCast]
  refine congrArg (fun l => some (l, m')) (List.map_congr_left fun i _ => ?_)
  rw [Int.zero_add]
@[simp] theorem frzD_tup {xs : List D} : frzD m (.tup xs) = some (xs, m) := hid rfl
@[simp] theorem frzD_lst {xs : List D} : frzD m (.lst xs) = some (xs, m) := hid rfl
@[simp] theorem addD_int {i j : Int} : addD (.int i) (.int j) m = some (.int (i + j), m) := hid rfl
@[simp] theorem addD_tup {xs ys : List D} : addD (.tup xs) (.tup ys) m = if xs.length + ys.length ≤ 100000 then some (.tup (xs ++ ys), m) else none := hid rfl
@[simp] theorem subD_int {i j : Int} : subD (.int i) (.int j) m = some (.int (i - j), m) := hid rfl
@[simp] theorem negD_int {i : Int} : negD (.int i) m = some (.int (-i), m) := hid rfl
@[simp] theorem modD_int {i j : Int} : modD (.int i) (.int j) m = if 0 < j then some (.int (i % j), m) else none := hid rfl
@[simp] theorem divD_int {i j : Int} : divD (.int i) (.int j) m = if 0 < j ∧ j.natAbs.log2 < 9000 then some (.int (i / j), m) else none := hid rfl
@[simp] theorem powD_int {i j : Int} : powD (.int i) (.int j) m = if 0 ≤ j ∧ j ≤ 1000000 ∧ i.natAbs < 2 ^ 64 then some (.int (i ^ j.toNat), m) else none := hid rfl
@[simp] theorem ltD_int {i j : Int} : ltD (.int i) (.int j) m = some (.bl (decide (i < j)), m) := hid rfl
@[simp] theorem leD_int {i j : Int} : leD (.int i) (.int j) m = some (.bl (decide (i ≤ j)), m) := hid rfl
@[simp] theorem gtD_int {i j : Int} : gtD (.int i) (.int j) m = some (.bl (decide (j < i)), m) := hid rfl
@[simp] theorem geD_int {i j : Int} : geD (.int i) (.int j) m = some (.bl (decide (j ≤ i)), m) := hid rfl
@[simp] theorem isnD_bl {i j : Bool} : isnD (.bl i) (.bl j) m = some (.bl (!decide (i = j)), m) := hid rfl
@[simp] theorem lenD_tup {xs : List D} : lenD [.tup xs] m = some (.int xs.length, m) := hid rfl
@[simp] theorem lenD_lst {xs : List D} : lenD [.lst xs] m = some (.int xs.length, m) := hid rfl
@[simp] theorem lenD_scr {xs : List Int} : lenD [.scr xs] m = some (.int xs.length, m) := by
  show some (D.int ((xs.map D.int).length : Nat), m) = _
  rw [List.length_map]
@[simp] theorem absD_int {i : Int} : absD [.int i] m = some (.int (if i < 0 then -i else i), m) := hid rfl
@[simp] theorem maxD_int {i j : Int} : maxD [.int i, .int j] m = some (.int (if j > i then j else i), m) := hid rfl
@[simp] theorem minD_int {i j : Int} : minD [.int i, .int j] m = some (.int (if j < i then j else i), m) := hid rfl
@[simp] theorem intD_int {i : Int} : intD [.int i] m = some (.int i, m) := hid rfl
@[simp] theorem intD_bl {i : Bool} : intD [.bl i] m = some (.int (if i then 1 else 0), m) := hid rfl
@[simp] theorem tupleD_lst {xs : List D} : tupleD [.lst xs] m = some (.tup xs, m) := hid rfl
@[simp] theorem tupleD_tup {xs : List D} : tupleD [.tup xs] m = some (.tup xs, m) := hid rfl
@[simp] theorem listD_tup {xs : List D} : listD [.tup xs] m = some (.lst xs, m) := hid rfl
@[simp] theorem listD_lst {xs : List D} : listD [.lst xs] m = some (.lst xs, m) := hid rfl
@[simp] theorem divmodD_int {i j : Int} : divmodD [.int i, .int j] m = if 0 < j ∧ j.natAbs.log2 < 9000 then some (.tup [.int (i / j), .int (i % j)], m) else none := hid rfl
@[simp] theorem sumD_ints {ns : List Int} : sumD [.lst (ns.map D.int)] m = some (.int ns.sum, m) := by
  show (intsD (ns.map D.int)).map (fun ns => (D.int ns.sum, m)) = _
  rw [intsD_map]
  rfl
@[simp] theorem allD_bls {ns : List Bool} : allD [.lst (ns.map D.bl)] m = some (.bl (ns.all id), m) := by
  show (trsD (ns.map D.bl)).map (fun ns => (D.bl (ns.all id), m)) = _
  rw [trsD_bls]
  rfl
@[simp] theorem anyD_bls {ns : List Bool} : anyD [.lst (ns.map D.bl)] m = some (.bl (ns.any id), m) := by
  show (trsD (ns.map D.bl)).map (fun ns => (D.bl (ns.any id), m)) = _
  rw [trsD_bls]
  rfl
@[simp] theorem anyD_ints {ns : List Int} : anyD [.lst (ns.map D.int)] m = some (.bl (ns.any fun i => i != 0), m) := by
  show (trsD (ns.map D.int)).map (fun ns => (D.bl (ns.any id), m)) = _
  rw [trsD_ints, Option.map_some, List.any_map]
  rfl
@[simp] theorem revE2_def {a : SE} : revE2 a env m = (a env m).bind fun p => revD p.1 p.2 := hid rfl
@[simp] theorem revD_tup {xs : List D} : revD (.tup xs) m = some (.tup xs.reverse, m) := hid rfl
@[simp] theorem revD_lst {xs : List D} : revD (.lst xs) m = some (.lst xs.reverse, m) := hid rfl
@[simp] theorem anyD_nil : anyD [.lst []] m = some (.bl false, m) := hid rfl
@[simp] theorem allD_nil : allD [.lst []] m = some (.bl true, m) := hid rfl
@[simp] theorem ixD_tup {xs : List D} {i : Int} : ixD (.tup xs) (.int i) m = (atI xs i).map fun d => (d, m) := hid rfl
@[simp] theorem ixD_lst {xs : List D} {i : Int} : ixD (.lst xs) (.int i) m = (atI xs i).map fun d => (d, m) := hid rfl
@[simp] theorem ixD_scr {xs : List Int} {i : Int} : ixD (.scr xs) (.int i) m = (atI (xs.map D.int) i).map fun d => (d, m) := hid rfl
@[simp] theorem slE_def {a : SE} {lo hi : SO} : slE a lo hi env m = (a env m).bind fun p => (lo env p.2).bind fun l => (hi env l.2).bind fun h => slD p.1 l.1 h.1 h.2 := hid rfl
@[simp] theorem noO_def : noO env m = some (none, m) := hid rfl
@[simp] theorem someO_def {a : SE} : someO a env m = (a env m).bind fun p => match p.1 with
  | .int i => some (some i, p.2)
  | _ => none := hid rfl
@[simp] theorem slD_tup {xs : List D} {lo hi : Option Int} : slD (.tup xs) lo hi m = some (.tup (cutL xs lo hi), m) := hid rfl
end

/-! ### comprehensions -/
theorem lcL_nil {put : D → Ev → Option Ev} {tt : SB} {te : SE} {env : Ev} {m : Mem} : lcL put tt te env [] m = some ([], m) := rfl
theorem lcL_cons {put : D → Ev → Option Ev} {tt : SB} {te : SE} {env : Ev} {m : Mem} {d : D} {ds : List D} : lcL put tt te env (d :: ds) m = (put d env).bind fun env1 => (tt env1 m).bind fun p => if p.1 then (te env1 p.2).bind fun q => (lcL put tt te env ds q.2).map fun w => (q.1 :: w.1, w.2) else lcL put tt te env ds p.2 := rfl
theorem lcL_of {α : Type} {put : D → Ev → Option Ev} {tt : SB} {te : SE} {env : Ev} {m : Mem} (enc g : α → D) : ∀ xs : List α, (∀ x ∈ xs, ∃ env1, put (enc x) env = some env1 ∧ tt env1 m = some (true, m) ∧ te env1 m = some (g x, m)) → lcL put tt te env (xs.map enc) m = some (xs.map g, m)
  | [], _ => rfl
  | x :: xs, h => by
    obtain ⟨env1, h1, h2, h3⟩ := h x List.mem_cons_self
    show ((put (enc x) env).bind fun env1 => (tt env1 m).bind fun p => if p.1 then (te env1 p.2).bind fun q => (lcL put tt te env (xs.map enc) q.2).map fun w => (q.1 :: w.1, w.2) else lcL put tt te env (xs.map enc) p.2) = _
    rw [h1]
    show ((tt env1 m).bind fun p => if p.1 then (te env1 p.2).bind fun q => (lcL put tt te env (xs.map enc) q.2).map fun w => (q.1 :: w.1, w.2) else lcL put tt te env (xs.map enc) p.2) = _
    rw [h2]
    show ((te env1 m).bind fun q => (lcL put tt te env (xs.map enc) q.2).map fun w => (q.1 :: w.1, w.2)) = _
    rw [h3]
    show (lcL put tt te env (xs.map enc) m).map (fun w => (g x :: w.1, w.2)) = _
    rw [lcL_of enc g xs fun y hy => h y (List.mem_cons_of_mem _ hy)]
    rfl
theorem lcL_filt {α : Type} {put : D → Ev → Option Ev} {tt : SB} {te : SE} {env : Ev} {m : Mem} (enc g : α → D) (b : α → Bool) : ∀ xs : List α, (∀ x ∈ xs, ∃ env1, put (enc x) env = some env1 ∧ tt env1 m = some (b x, m) ∧ (b x = true → te env1 m = some (g x, m))) →
    lcL put tt te env (xs.map enc) m = some ((xs.filter b).map g, m)
  | [], _ => rfl
  | x :: xs, h => by
    obtain ⟨env1, h1, h2, h3⟩ := h x List.mem_cons_self
    have ih := lcL_filt enc g b xs fun y hy => h y (List.mem_cons_of_mem _ hy)
    show ((put (enc x) env).bind fun env1 => (tt env1 m).bind fun p => if p.1 then (te env1 p.2).bind fun q => (lcL put tt te env (xs.map enc) q.2).map fun w => (q.1 :: w.1, w.2) else lcL put tt te env (xs.map enc) p.2) = _
    rw [h1]
    show ((tt env1 m).bind fun p => if p.1 then (te env1 p.2).bind fun q => (lcL put tt te env (xs.map enc) q.2).map fun w => (q.1 :: w.1, w.2) else lcL put tt te env (xs.map enc) p.2) = _
    rw [h2]
    show (if b x then (te env1 m).bind fun q => (lcL put tt te env (xs.map enc) q.2).map fun w => (q.1 :: w.1, w.2) else lcL put tt te env (xs.map enc) m) = _
    cases e : b x with
    | true =>
      rw [if_pos rfl, h3 e, List.filter_cons_of_pos e]
      show (lcL put tt te env (xs.map enc) m).map (fun w => (g x :: w.1, w.2)) = _
      rw [ih]
      rfl
    | false =>
      rw [if_neg Bool.false_ne_true, List.filter_cons_of_neg (by rw [e]; exact Bool.false_ne_true)]
      exact ih
/-- a turn that draws: the store goes along; what is known of it is I -/
theorem lcL_draw {put : D → Ev → Option Ev} {te : SE} {env : Ev} {P : D → Prop} (I : Mem → Prop) : ∀ (ds : List D) (m : Mem), I m → (∀ d ∈ ds, ∀ m, I m → ∃ env1 y m', put d env = some env1 ∧ te env1 m = some (y, m') ∧ P y ∧ I m') →
    ∃ ys m', lcL put yesB te env ds m = some (ys, m') ∧ I m' ∧ ys.length = ds.length ∧ ∀ y ∈ ys, P y
  | [], m, hm, _ => ⟨[], m, rfl, hm, rfl, fun _ h => nomatch h⟩
  | d :: ds, m, hm, h => by
    obtain ⟨env1, y, m1, h1, h2, h3, h4⟩ := h d List.mem_cons_self m hm
    obtain ⟨ys, m2, e, h5, h6, h7⟩ := lcL_draw I ds m1 h4 fun d' hd' => h d' (List.mem_cons_of_mem _ hd')
    refine ⟨y :: ys, m2, ?_, h5, by rw [List.length_cons, List.length_cons, h6], fun z hz => ?_⟩
    · show ((put d env).bind fun env1 => (yesB env1 m).bind fun p => if p.1 then (te env1 p.2).bind fun q => (lcL put yesB te env ds q.2).map fun w => (q.1 :: w.1, w.2) else lcL put yesB te env ds p.2) = _
      rw [h1]
      show ((te env1 m).bind fun q => (lcL put yesB te env ds q.2).map fun w => (q.1 :: w.1, w.2)) = _
      rw [h2]
      show (lcL put yesB te env ds m1).map (fun w => (y :: w.1, w.2)) = _
      rw [e]
      rfl
    · rcases List.mem_cons.mp hz with z | z
      · rw [z]; exact h3
      · exact h7 _ z
/-- a loop, by an invariant of names and store -/
theorem forL_inv {put : D → Ev → Option Ev} {body : SS} (I : Ev → Mem → Prop) : ∀ (ds : List D) (env : Ev) (m : Mem), I env m → (∀ d ∈ ds, ∀ env m, I env m → ∃ env1 o, put d env = some env1 ∧ body env1 m = some o ∧ match o with
    | .nx e m => I e m
    | .ct e m => I e m
    | _ => False) → ∃ env' m', forL put body ds env m = some (.nx env' m') ∧ I env' m'
  | [], env, m, h, _ => ⟨env, m, rfl, h⟩
  | d :: ds, env, m, h, hs => by
    obtain ⟨env1, o, h1, h2, h3⟩ := hs d List.mem_cons_self env m h
    rw [forL_cons, h1]
    show ∃ env' m', ((body env1 m).bind fun o => turnO o (forL put body ds)) = _ ∧ _
    rw [h2]
    cases o with
    | nx e m1 => exact forL_inv I ds e m1 h3 fun d' hd' => hs d' (List.mem_cons_of_mem _ hd')
    | ct e m1 => exact forL_inv I ds e m1 h3 fun d' hd' => hs d' (List.mem_cons_of_mem _ hd')
    | rt d m1 => exact False.elim h3
    | bk e m1 => exact False.elim h3

/-- the same with the turn's number -/
theorem forL_ix {put : D → Ev → Option Ev} {body : SS} (I : Nat → Ev → Mem → Prop) : ∀ (ds : List D) (i : Nat) (env : Ev) (m : Mem), I i env m → (∀ j d, ds[j]? = some d → ∀ env m, I (i + j) env m → ∃ env1 o, put d env = some env1 ∧ body env1 m = some o ∧ match o with
    | .nx e m => I (i + j + 1) e m
    | .ct e m => I (i + j + 1) e m
    | _ => False) → ∃ env' m', forL put body ds env m = some (.nx env' m') ∧ I (i + ds.length) env' m'
  | [], i, env, m, h, _ => ⟨env, m, rfl, h⟩
  | d :: ds, i, env, m, h, hs => by
    obtain ⟨env1, o, h1, h2, h3⟩ := hs 0 d rfl env m h
    rw [forL_cons, h1]
    show ∃ env' m', ((body env1 m).bind fun o => turnO o (forL put body ds)) = _ ∧ _
    rw [h2]
    have go : ∀ e m1, I (i + 0 + 1) e m1 → ∃ env' m', forL put body ds e m1 = some (.nx env' m') ∧ I (i + (d :: ds).length) env' m' := fun e m1 h => by
      obtain ⟨env', m', h4, h5⟩ := forL_ix I ds (i + 1) e m1 h fun j d' hj env m hI => by
        have z := hs (j + 1) d' hj env m (by rw [show i + (j + 1) = i + 1 + j from by omega]; exact hI)
        rw [show i + (j + 1) + 1 = i + 1 + j + 1 from by omega] at z
        exact z
      refine ⟨env', m', h4, ?_⟩
      rw [List.length_cons, show i + (ds.length + 1) = i + 1 + ds.length from by omega]
      exact h5
    cases o with
    | nx e m1 => exact go e m1 h3
    | ct e m1 => exact go e m1 h3
    | rt d m1 => exact False.elim h3
    | bk e m1 => exact False.elim h3
/-- a loop that may end by a return: by an invariant over what is left -/
theorem forL_rt {put : D → Ev → Option Ev} {body : SS} {R : Option Out → Prop} (I : List D → Ev → Mem → Prop) : ∀ (ds : List D) (env : Ev) (m : Mem), I ds env m → (∀ d ds env m, I (d :: ds) env m → ∃ env1, put d env = some env1 ∧ ∃ o, body env1 m = some o ∧ match o with
    | .nx e m => I ds e m
    | .ct e m => I ds e m
    | .bk e m => R (some (.nx e m))
    | .rt d m => R (some (.rt d m))) → (∀ env m, I [] env m → R (some (.nx env m))) → R (forL put body ds env m)
  | [], env, m, h, _, he => he env m h
  | d :: ds, env, m, h, hs, he => by
    obtain ⟨env1, h1, o, h2, h3⟩ := hs d ds env m h
    rw [forL_cons, h1, Option.bind_some, h2, Option.bind_some]
    cases o with
    | nx e m1 => exact forL_rt I ds e m1 h3 hs he
    | ct e m1 => exact forL_rt I ds e m1 h3 hs he
    | rt d m1 => exact h3
    | bk e m1 => exact h3

/-- a loop that puts one more to what it has, turn by turn -/
theorem forL_acc {α β : Type} {put : D → Ev → Option Ev} {body : SS} {m : Mem} (enc : α → D) (g : α → β) (I : List β → Ev → Prop) : ∀ (as : List α) (xs : List β) (env : Ev), xs.length + as.length ≤ 90000 → I xs env →
    (∀ a ∈ as, ∀ xs env, xs.length < 90000 → I xs env → ∃ env1 env2, put (enc a) env = some env1 ∧ (body env1 m = some (.nx env2 m) ∨ body env1 m = some (.ct env2 m)) ∧ I (xs ++ [g a]) env2) →
    ∃ env', forL put body (as.map enc) env m = some (.nx env' m) ∧ I (xs ++ as.map g) env'
  | [], xs, env, _, h, _ => ⟨env, rfl, by rw [List.map_nil, List.append_nil]; exact h⟩
  | a :: as, xs, env, hb, h, hs => by
    rw [List.length_cons] at hb
    obtain ⟨env1, env2, h1, h2, h3⟩ := hs a List.mem_cons_self xs env (by omega) h
    obtain ⟨env', h4, h5⟩ := forL_acc enc g I as (xs ++ [g a]) env2 (by rw [List.length_append, List.length_singleton]; omega) h3 fun d' hd' => hs d' (List.mem_cons_of_mem _ hd')
    refine ⟨env', ?_, ?_⟩
    · rw [List.map_cons, forL_cons, h1, Option.bind_some]
      rcases h2 with h2 | h2 <;> rw [h2, Option.bind_some]
      · exact h4
      · exact h4
    · rw [List.map_cons, List.append_cons]
      exact h5

/-! ### small numbers -/
def Sm (k : Nat) (i : Int) : Prop := i.natAbs < 2 ^ k
theorem Sm.mono {j k : Nat} {i : Int} (h : Sm j i) (e : j ≤ k) : Sm k i := Nat.lt_of_lt_of_le h (Nat.pow_le_pow_right (by decide) e)
theorem Sm.mul {j k : Nat} {a b : Int} (h : Sm j a) (g : Sm k b) : Sm (j + k) (a * b) := by
  unfold Sm at *
  rw [Int.natAbs_mul, Nat.pow_add]
  exact Nat.mul_lt_mul'' h g
theorem Sm.add {k : Nat} {a b : Int} (h : Sm k a) (g : Sm k b) : Sm (k + 1) (a + b) := by
  unfold Sm at *
  have := Int.natAbs_add_le a b
  rw [Nat.pow_succ]
  omega
theorem Sm.neg {k : Nat} {a : Int} (h : Sm k a) : Sm k (-a) := by
  unfold Sm at *
  rw [Int.natAbs_neg]
  exact h
theorem Sm.sub {k : Nat} {a b : Int} (h : Sm k a) (g : Sm k b) : Sm (k + 1) (a - b) := by
  rw [Int.sub_eq_add_neg]
  exact h.add g.neg
theorem Sm.log {k : Nat} {a : Int} (h : Sm k a) : a.natAbs.log2 ≤ k := by
  by_cases e : a.natAbs = 0
  · rw [e]
    exact Nat.zero_le _
  · exact Nat.le_of_lt ((Nat.log2_lt e).mpr h)
theorem sm_lit {k : Nat} {a : Int} (h : a.natAbs < 2 ^ k := by decide) : Sm k a := h
theorem mulD_sm {j k : Nat} {a b : Int} {m : Mem} (h : Sm j a) (g : Sm k b) (e : j + k ≤ 900000 := by decide) : mulD (.int a) (.int b) m = some (.int (a * b), m) := by
  have h1 := h.log
  have h2 := g.log
  show (if a.natAbs.log2 + b.natAbs.log2 < 1000000 then some (D.int (a * b), m) else none) = _
  rw [if_pos (by omega)]
end Kb

set_option Elab.async false
set_option linter.all false
set_option maxRecDepth 100000
set_option maxHeartbeats 4000000
set_option autoImplicit false
/-! KmB: equality and texts of plain data. -/
namespace Kb
open PySem L2

section
variable {m : Mem}
/-! ### numbers, truths, texts -/
@[simp] theorem eqD_int {i j : Int} : eqD (.int i) (.int j) m = some (.bl (decide (i = j)), m) := by
  show (eqB1 m (.int i) (.int j)).map (fun k => (D.bl k, m)) = _
  rw [show eqB1 m (.int i) (.int j) = some (i == j) from rfl]
  show some (D.bl (i == j), m) = _
  rw [show (i == j) = decide (i = j) from rfl]
@[simp] theorem neD_int {i j : Int} : neD (.int i) (.int j) m = some (.bl (!decide (i = j)), m) := by
  show (eqB1 m (.int i) (.int j)).map (fun k => (D.bl (!k), m)) = _
  rw [show eqB1 m (.int i) (.int j) = some (i == j) from rfl]
  show some (D.bl (!(i == j)), m) = _
  rw [show (i == j) = decide (i = j) from rfl]
@[simp] theorem eqD_bl {i j : Bool} : eqD (.bl i) (.bl j) m = some (.bl (decide (i = j)), m) := by cases i <;> cases j <;> rfl
@[simp] theorem neD_bl {i j : Bool} : neD (.bl i) (.bl j) m = some (.bl (!decide (i = j)), m) := by cases i <;> cases j <;> rfl
@[simp] theorem eqD_str {i j : Str} : eqD (.str i) (.str j) m = some (.bl (decide (i = j)), m) := rfl
@[simp] theorem neD_str {i j : Str} : neD (.str i) (.str j) m = some (.bl (!decide (i = j)), m) := rfl

/-! ### data that hold no place, no text, no dict: numbers, truths, lists and tuples of them -/
inductive Pl where
  | bl (b : Bool) | int (i : Int) | lst (xs : List Pl) | tup (xs : List Pl)
mutual
def Pl.d : Pl → D
  | .bl b => .bl b
  | .int i => .int i
  | .lst xs => .lst (Pl.ds xs)
  | .tup xs => .tup (Pl.ds xs)
def Pl.ds : List Pl → List D
  | [] => []
  | x :: xs => x.d :: Pl.ds xs
end
mutual
def Pl.p : Pl → PyData
  | .bl b => .bool b
  | .int i => .int i
  | .lst xs => .list (Pl.ps xs)
  | .tup xs => .tuple (Pl.ps xs)
def Pl.ps : List Pl → List PyData
  | [] => []
  | x :: xs => x.p :: Pl.ps xs
end
mutual
theorem Pl.toPW (lk : Nat → Option PyData) : ∀ x : Pl, Kb.toPW lk x.d = some x.p
  | .bl b => by simp [Pl.d, Kb.toPW, Pl.p]
  | .int i => by simp [Pl.d, Kb.toPW, Pl.p]
  | .lst xs => by simp [Pl.d, Kb.toPW, Pl.p, Pl.toPWs lk xs]
  | .tup xs => by simp [Pl.d, Kb.toPW, Pl.p, Pl.toPWs lk xs]
theorem Pl.toPWs (lk : Nat → Option PyData) : ∀ xs : List Pl, Kb.toPWs lk (Pl.ds xs) = some (Pl.ps xs)
  | [] => by simp [Pl.ds, Kb.toPWs, Pl.ps]
  | x :: xs => by simp [Pl.ds, Kb.toPWs, Pl.ps, Pl.toPW lk x, Pl.toPWs lk xs]
end
theorem Pl.toP (x : Pl) : Kb.toP m x.d = some x.p := Pl.toPW _ x
mutual
theorem Pl.lay : ∀ x : Pl, x.p.canLay0 = true
  | .bl b => by simp [Pl.p, PyData.canLay0]
  | .int i => by simp [Pl.p, PyData.canLay0]
  | .lst xs => by simp [Pl.p, PyData.canLay0, Pl.lays xs]
  | .tup xs => by simp [Pl.p, PyData.canLay0, Pl.lays xs]
theorem Pl.lays : ∀ xs : List Pl, PyData.canLayAll0 (Pl.ps xs) = true
  | [] => by simp [Pl.ps, PyData.canLayAll0]
  | x :: xs => by simp [Pl.ps, PyData.canLayAll0, Pl.lay x, Pl.lays xs]
end
mutual
def Pl.dep : Pl → Nat
  | .bl _ => 0
  | .int _ => 0
  | .lst xs => Pl.deps xs + 1
  | .tup xs => Pl.deps xs + 1
def Pl.deps : List Pl → Nat
  | [] => 0
  | x :: xs => max x.dep (Pl.deps xs)
end
mutual
theorem Pl.depth : ∀ x : Pl, x.p.depth = x.dep
  | .bl b => by simp [Pl.p, PyData.depth, Pl.dep]
  | .int i => by simp [Pl.p, PyData.depth, Pl.dep]
  | .lst xs => by simp [Pl.p, PyData.depth, Pl.dep, Pl.depths xs]
  | .tup xs => by simp [Pl.p, PyData.depth, Pl.dep, Pl.depths xs]
theorem Pl.depths : ∀ xs : List Pl, PyData.depthAll (Pl.ps xs) = Pl.deps xs
  | [] => by simp [Pl.ps, PyData.depthAll, Pl.deps]
  | x :: xs => by simp [Pl.ps, PyData.depthAll, Pl.deps, Pl.depth x, Pl.depths xs]
end
theorem Pl.shaped {x : Pl} (h : x.dep ≤ 64) : SeqAt.shaped x.p = true := by
  unfold SeqAt.shaped
  rw [Pl.lay, Pl.depth]
  simp [h]
theorem eqB1_pl {x y : Pl} (hx : x.dep ≤ 64) (hy : y.dep ≤ 64) : eqB1 m x.d y.d = some (PyData.eqv x.p y.p) := by
  unfold eqB1
  rw [Pl.toP, Pl.toP]
  show (if SeqAt.shaped x.p = true ∧ SeqAt.shaped y.p = true then some (PyData.eqv x.p y.p) else none) = _
  rw [if_pos ⟨Pl.shaped hx, Pl.shaped hy⟩]
theorem eqB_pl {x y : Pl} (hx : x.dep ≤ 64) (hy : y.dep ≤ 64) : eqB m x.d y.d = some (PyData.eqv x.p y.p) := by
  rw [← eqB1_pl (m := m) hx hy]
  cases x <;> cases y <;> rfl
mutual
def Pl.num : Pl → Bool
  | .bl _ => false
  | .int _ => true
  | .lst xs => Pl.nums xs
  | .tup xs => Pl.nums xs
def Pl.nums : List Pl → Bool
  | [] => true
  | x :: xs => x.num && Pl.nums xs
end
mutual
theorem Pl.eqv_iff : ∀ (x y : Pl), x.num = true → y.num = true → (PyData.eqv x.p y.p = true ↔ x.d = y.d)
  | .int i, .int j, _, _ => by simp [Pl.p, PyData.eqv, Pl.d]
  | .int i, .lst _, _, _ => by simp [Pl.p, PyData.eqv, Pl.d]
  | .int i, .tup _, _, _ => by simp [Pl.p, PyData.eqv, Pl.d]
  | .lst xs, .int _, _, _ => by simp [Pl.p, PyData.eqv, Pl.d]
  | .tup xs, .int _, _, _ => by simp [Pl.p, PyData.eqv, Pl.d]
  | .lst xs, .tup _, _, _ => by simp [Pl.p, PyData.eqv, Pl.d]
  | .tup xs, .lst _, _, _ => by simp [Pl.p, PyData.eqv, Pl.d]
  | .lst xs, .lst ys, h, k => by
    have z := Pl.eqvs_iff xs ys (by simpa [Pl.num] using h) (by simpa [Pl.num] using k)
    simp only [Pl.p, PyData.eqv, Pl.d, D.lst.injEq]
    exact z
  | .tup xs, .tup ys, h, k => by
    have z := Pl.eqvs_iff xs ys (by simpa [Pl.num] using h) (by simpa [Pl.num] using k)
    simp only [Pl.p, PyData.eqv, Pl.d, D.tup.injEq]
    exact z
  | .bl _, _, h, _ => by simp [Pl.num] at h
  | .int _, .bl _, _, h => by simp [Pl.num] at h
  | .lst _, .bl _, _, h => by simp [Pl.num] at h
  | .tup _, .bl _, _, h => by simp [Pl.num] at h
theorem Pl.eqvs_iff : ∀ (xs ys : List Pl), Pl.nums xs = true → Pl.nums ys = true → (PyData.eqvAll (Pl.ps xs) (Pl.ps ys) = true ↔ Pl.ds xs = Pl.ds ys)
  | [], [], _, _ => by simp [Pl.ps, PyData.eqvAll, Pl.ds]
  | [], _ :: _, _, _ => by simp [Pl.ps, PyData.eqvAll, Pl.ds]
  | _ :: _, [], _, _ => by simp [Pl.ps, PyData.eqvAll, Pl.ds]
  | x :: xs, y :: ys, h, k => by
    simp only [Pl.nums, Bool.and_eq_true] at h k
    simp only [Pl.ps, PyData.eqvAll, Pl.ds, Bool.and_eq_true, List.cons.injEq]
    rw [Pl.eqv_iff x y h.1 k.1, Pl.eqvs_iff xs ys h.2 k.2]
end
/-! ### texts -/
mutual
def Pl.wt : Pl → Nat
  | .bl _ => 5
  | .int i => i.natAbs.log2 + 2
  | .lst xs => Pl.wts xs + 3
  | .tup xs => Pl.wts xs + 3
def Pl.wts : List Pl → Nat
  | [] => 0
  | x :: xs => x.wt + 2 + Pl.wts xs
end
theorem textFrom_le : ∀ (ts : List Str) (k : Nat) (acc : Str), (textFrom k acc ts).length ≤ acc.length + (ts.map fun t => t.length + 2).sum
  | [], k, acc => by simp [textFrom]
  | t :: ts, k, acc => by
    unfold textFrom
    refine Nat.le_trans (textFrom_le ts (k + 1) _) ?_
    rw [Str.length_append, Str.length_append, List.map_cons, List.sum_cons]
    have : (Str.ofString (if k > 0 then ", " else "")).length ≤ 2 := by split <;> decide
    omega
theorem join_le : ∀ ts : List Str, (Str.join ", " ts).length ≤ (ts.map fun t => t.length + 2).sum
  | [] => Nat.zero_le _
  | [x] => by
    show x.length ≤ (x.length + 2) + 0
    omega
  | x :: y :: r => by
    have ih := join_le (y :: r)
    show (x ++ (", " : Str) ++ Str.join ", " (y :: r)).length ≤ _
    rw [Str.length_append, Str.length_append, List.map_cons, List.sum_cons]
    have : (", " : Str).length = 2 := by decide
    omega
mutual
theorem Pl.shown_le : ∀ x : Pl, x.p.shown.length ≤ x.wt
  | .bl b => by cases b <;> simp only [Pl.p, PyData.shown, Pl.wt] <;> decide
  | .int i => by
    simp only [Pl.p, PyData.shown, Pl.wt]
    have h := int_text_length_le (a := i) (k := i.natAbs.log2 + 1) (Nat.succ_pos _) (Nat.lt_succ_self _)
    have e : (Str.ofString (toString i)).length = (toString i).length := ofString_length _
    rw [e]
    exact h
  | .lst xs => by
    simp only [Pl.p, PyData.shown, Pl.wt]
    unfold listText
    rw [Str.length_append]
    have h1 := textFrom_le (PyData.shownAll (Pl.ps xs)) 0 "["
    have h2 := Pl.showns_le xs
    have h3 : ("[" : Str).length = 1 := by decide
    have h4 : ("]" : Str).length = 1 := by decide
    omega
  | .tup xs => by
    simp only [Pl.p, PyData.shown, Pl.wt]
    unfold tupleText
    rw [Str.length_append, Str.length_append]
    have h1 := join_le (PyData.shownAll (Pl.ps xs))
    have h2 := Pl.showns_le xs
    have h3 : ("(" : Str).length = 1 := by decide
    have h4 : (Str.ofString (if ((PyData.shownAll (Pl.ps xs)).length == 1) = true then ",)" else ")")).length ≤ 2 := by split <;> decide
    omega
theorem Pl.showns_le : ∀ xs : List Pl, ((PyData.shownAll (Pl.ps xs)).map fun t => t.length + 2).sum ≤ Pl.wts xs
  | [] => by simp [Pl.ps, PyData.shownAll, Pl.wts]
  | x :: xs => by
    have h1 := Pl.shown_le x
    have h2 := Pl.showns_le xs
    simp only [Pl.ps, PyData.shownAll, Pl.wts, List.map_cons, List.sum_cons]
    omega
end
mutual
def Pl.low : Pl → Bool
  | .bl _ => true
  | .int i => decide (i.natAbs.log2 < 1920)
  | .lst xs => Pl.lows xs
  | .tup xs => Pl.lows xs
def Pl.lows : List Pl → Bool
  | [] => true
  | x :: xs => x.low && Pl.lows xs
end
mutual
theorem Pl.show_ok : ∀ x : Pl, x.low = true → x.p.showable = true ∧ x.p.hasDict = false
  | .bl b, _ => by simp [Pl.p, PyData.showable, PyData.hasDict]
  | .int i, h => by simpa [Pl.p, PyData.showable, PyData.hasDict, Pl.low] using h
  | .lst xs, h => by
    have z := Pl.shows_ok xs (by simpa [Pl.low] using h)
    simpa [Pl.p, PyData.showable, PyData.hasDict] using z
  | .tup xs, h => by
    have z := Pl.shows_ok xs (by simpa [Pl.low] using h)
    simpa [Pl.p, PyData.showable, PyData.hasDict] using z
theorem Pl.shows_ok : ∀ xs : List Pl, Pl.lows xs = true → PyData.showableAll (Pl.ps xs) = true ∧ PyData.hasDictAll (Pl.ps xs) = false
  | [], _ => by simp [Pl.ps, PyData.showableAll, PyData.hasDictAll]
  | x :: xs, h => by
    simp only [Pl.lows, Bool.and_eq_true] at h
    have h1 := Pl.show_ok x h.1
    have h2 := Pl.shows_ok xs h.2
    simp [Pl.ps, PyData.showableAll, PyData.hasDictAll, h1, h2]
end
theorem repr_pl (x : Pl) (h1 : x.low = true) (h2 : x.dep ≤ 20) (h3 : x.wt ≤ 1000000) : reprD [x.d] m = some (.str x.p.shown, m) := by
  show (shownD m x.d).map (fun t => (D.str t, m)) = _
  unfold shownD
  rw [Pl.toP]
  have h := Pl.show_ok x h1
  show (if x.p.showable = true ∧ x.p.hasDict = false ∧ x.p.depth ≤ 20 ∧ x.p.shown.length ≤ 1000000 then some x.p.shown else none).map (fun t => (D.str t, m)) = _
  rw [if_pos ⟨h.1, h.2, by rw [Pl.depth]; exact h2, Nat.le_trans (Pl.shown_le x) h3⟩]
  rfl
end
end Kb

set_option Elab.async false
set_option linter.all false
set_option maxRecDepth 100000
set_option maxHeartbeats 4000000
set_option autoImplicit false
/-! KtA: what the defs compute that several laws share. -/
namespace Tab
open PySem L2 Kb
noncomputable section
def b_Table_eq : SS := retS (andE (isiE (isC 1) (var 1)) (bin eqD (fldE 1 0 (var 0)) (fldE 1 0 (var 1))))
def f_Table_eq : Fs := runB outP 2 2 b_Table_eq
def b_Told_init : SS := seqS (fldS 0 0 (var 0) (var 1)) (fldS 0 1 (var 0) (var 2))
def f_Told_init : Fs := runB outP 3 3 b_Told_init
def b_is_integer : SS := retS (andE (isiE (isB [.int]) (var 0)) (notE (isiE (isB [.bool]) (var 0))))
def f_is_integer : Fs := runB outP 1 1 b_is_integer
def b_is_list : SS := retS (isiE (isB [.list, .tuple]) (var 0))
def f_is_list : Fs := runB outP 1 1 b_is_list
def b_are_rows : SS := seqS (ifS (orB (notB (tstE (app f_is_list (argC (var 0) argN)))) (notB (tstB (chnE leD leD (cst (.int 1)) (app lenD (argC (var 0) argN)) (cst (.int 3)))))) (retS (cst (.bl false))) skS) (seqS (forS (itE (var 0)) (.n 1) (ifS (orB (notB (tstE (app f_is_list (argC (var 1) argN)))) (orB (tstB (bin neD (app lenD (argC (var 1) argN)) (app lenD (argC (var 0) argN)))) (notB (tstE (app allD (argC (lcE (itE (var 1)) (.n 2) [2] yesB (app f_is_integer (argC (var 2) argN))) argN)))))) (retS (cst (.bl false))) skS)) (retS (cst (.bl true))))
def f_are_rows : Fs := runB outP 3 1 b_are_rows
def b_left_without : SS := retS (lcE (enumI (argC (var 0) argN)) (.t [3, 4]) [3, 4] (tstB (bin neD (var 3) (var 1))) (bin addD (slE (var 4) noO (someO (var 2))) (slE (var 4) (someO (bin addD (var 2) (cst (.int 1)))) noO)))
def f_left_without : Fs := runB outP 5 3 b_left_without
def b_determinant_of (rec : Fs) : SS := seqS (ifS (tstB (bin eqD (app lenD (argC (var 0) argN)) (cst (.int 1)))) (retS (bin ixD (bin ixD (var 0) (cst (.int 0))) (cst (.int 0)))) skS) (seqS (ifS (tstB (bin eqD (app lenD (argC (var 0) argN)) (cst (.int 2)))) (retS (bin subD (bin mulD (bin ixD (bin ixD (var 0) (cst (.int 0))) (cst (.int 0))) (bin ixD (bin ixD (var 0) (cst (.int 1))) (cst (.int 1)))) (bin mulD (bin ixD (bin ixD (var 0) (cst (.int 0))) (cst (.int 1))) (bin ixD (bin ixD (var 0) (cst (.int 1))) (cst (.int 0)))))) skS) (seqS (setS (.t [1, 2]) (tupE (argC (cst (.int 0)) (argC (cst (.int 1)) argN)))) (seqS (forS (enumI (argC (bin ixD (var 0) (cst (.int 0))) argN)) (.t [3, 4]) (seqS (setS (.n 1) (bin addD (var 1) (bin mulD (bin mulD (var 2) (var 4)) (app rec (argC (app f_left_without (argC (var 0) (argC (cst (.int 0)) (argC (var 3) argN)))) argN))))) (setS (.n 2) (bin subD (cst (.int 0)) (var 2))))) (retS (var 1)))))
def f_determinant_of : Nat → Fs
  | 0 => fun _ _ => none
  | n + 1 => runB outP 5 1 (b_determinant_of (f_determinant_of n))
def b_told_rows : SS := seqS (ifS (tstE (isiE (isC 0) (var 0))) (retS (var 0)) skS) (seqS (ifS (notB (tstE (app f_are_rows (argC (var 0) argN)))) noS skS) (seqS (setS (.n 1) (app tupleD (argC (lcE (itE (var 0)) (.n 2) [2] yesB (app tupleD (argC (var 2) argN))) argN))) (seqS (setS (.n 3) (app (f_determinant_of 3) (argC (var 1) argN))) (seqS (ifS (tstB (bin ninD (var 3) (tupE (argC (cst (.int 1)) (argC (una negD (cst (.int 1))) argN))))) noS skS) (retS (app (makeV 0 2 f_Told_init) (argC (var 1) (argC (var 3) argN))))))))
def f_told_rows : Fs := runB outP 4 1 b_told_rows
def b_Table_init : SS := seqS (setS (.n 2) (app f_told_rows (argC (var 1) argN))) (seqS (fldS 1 0 (var 0) (fldE 0 0 (var 2))) (fldS 1 1 (var 0) (fldE 0 1 (var 2))))
def f_Table_init : Fs := runB outP 3 2 b_Table_init
def b_dot : SS := retS (app sumD (argC (lcE (zipI (argC (var 0) (argC (var 1) argN))) (.t [2, 3]) [2, 3] yesB (bin mulD (var 2) (var 3))) argN))
def f_dot : Fs := runB outP 4 2 b_dot
def b_led_by : SS := retS (app tupleD (argC (lcE (itE (var 0)) (.n 2) [2] yesB (app f_dot (argC (var 2) (argC (var 1) argN)))) argN))
def f_led_by : Fs := runB outP 3 2 b_led_by
def b_is_row : SS := retS (andE (app f_is_list (argC (var 0) argN)) (andE (chnE leD leD (cst (.int 1)) (app lenD (argC (var 0) argN)) (cst (.int 3))) (app allD (argC (lcE (itE (var 0)) (.n 1) [1] yesB (app f_is_integer (argC (var 1) argN))) argN))))
def f_is_row : Fs := runB outP 2 1 b_is_row
def b_want_row : SS := seqS (ifS (orB (notB (tstE (app f_is_row (argC (var 0) argN)))) (tstB (bin neD (app lenD (argC (var 0) argN)) (var 1)))) noS skS) (retS (app tupleD (argC (var 0) argN)))
def f_want_row : Fs := runB outP 2 2 b_want_row
def b_Table_lead : SS := retS (app f_led_by (argC (fldE 1 0 (var 0)) (argC (app f_want_row (argC (var 1) (argC (app lenD (argC (fldE 1 0 (var 0)) argN)) argN))) argN)))
def f_Table_lead : Fs := runB outP 2 2 b_Table_lead
def b_table_by : SS := retS (app (makeV 1 2 f_Table_init) (argC (app (makeV 0 2 f_Told_init) (argC (var 0) (argC (var 1) argN))) argN))
def f_table_by : Fs := runB outP 2 2 b_table_by
def b_columns_of : SS := retS (app tupleD (argC (lcE (rng1 (argC (app lenD (argC (var 0) argN)) argN)) (.n 2) [2] yesB (app tupleD (argC (lcE (itE (var 0)) (.n 1) [1] yesB (bin ixD (var 1) (var 2))) argN))) argN))
def f_columns_of : Fs := runB outP 3 1 b_columns_of
def b_times_rows : SS := seqS (setS (.n 2) (app f_columns_of (argC (var 1) argN))) (retS (app tupleD (argC (lcE (itE (var 0)) (.n 4) [4] yesB (app tupleD (argC (lcE (itE (var 2)) (.n 3) [3] yesB (app f_dot (argC (var 4) (argC (var 3) argN)))) argN))) argN)))
def f_times_rows : Fs := runB outP 5 2 b_times_rows
def b_want_alike : SS := ifS (tstB (bin neD (app lenD (argC (fldE 1 0 (var 0)) argN)) (app lenD (argC (fldE 1 0 (var 1)) argN)))) noS skS
def f_want_alike : Fs := runB outP 2 2 b_want_alike
def b_want_table : SS := ifS (notB (tstE (isiE (isC 1) (var 0)))) noS skS
def f_want_table : Fs := runB outP 1 1 b_want_table
def b_Table_mul : SS := seqS (dropS (app f_want_table (argC (var 1) argN))) (seqS (dropS (app f_want_alike (argC (var 0) (argC (var 1) argN)))) (retS (app f_table_by (argC (app f_times_rows (argC (fldE 1 0 (var 0)) (argC (fldE 1 0 (var 1)) argN))) (argC (bin mulD (fldE 1 1 (var 0)) (fldE 1 1 (var 1))) argN)))))
def f_Table_mul : Fs := runB outP 2 2 b_Table_mul
def b_Table_rows : SS := retS (fldE 1 0 (var 0))
def f_Table_rows : Fs := runB outP 1 1 b_Table_rows
def b_trace_of : SS := retS (app sumD (argC (lcE (enumI (argC (var 0) argN)) (.t [1, 2]) [1, 2] yesB (bin ixD (var 2) (var 1))) argN))
def f_trace_of : Fs := runB outP 3 1 b_trace_of
def b_Table_trace : SS := retS (app f_trace_of (argC (fldE 1 0 (var 0)) argN))
def f_Table_trace : Fs := runB outP 1 1 b_Table_trace
def b_signed_rest : SS := seqS (setS (.n 3) (app (f_determinant_of 3) (argC (app f_left_without (argC (var 0) (argC (var 1) (argC (var 2) argN)))) argN))) (retS (iteE (tstB (bin eqD (bin mulD (bin divD (bin addD (var 1) (var 2)) (cst (.int 2))) (cst (.int 2))) (bin addD (var 1) (var 2)))) (var 3) (bin subD (cst (.int 0)) (var 3))))
def f_signed_rest : Fs := runB outP 4 3 b_signed_rest
def b_undone_rows : SS := seqS (ifS (tstB (bin eqD (app lenD (argC (var 0) argN)) (cst (.int 1)))) (retS (var 0)) skS) (seqS (setS (.n 2) (app rangeD (argC (app lenD (argC (var 0) argN)) argN))) (retS (app tupleD (argC (lcE (itE (var 2)) (.n 4) [4] yesB (app tupleD (argC (lcE (itE (var 2)) (.n 3) [3] yesB (bin mulD (app f_signed_rest (argC (var 0) (argC (var 3) (argC (var 4) argN)))) (var 1))) argN))) argN))))
def f_undone_rows : Fs := runB outP 5 2 b_undone_rows
def b_Table_undone : SS := retS (app f_table_by (argC (app f_undone_rows (argC (fldE 1 0 (var 0)) (argC (fldE 1 1 (var 0)) argN))) (argC (fldE 1 1 (var 0)) argN)))
def f_Table_undone : Fs := runB outP 1 1 b_Table_undone
def b_idle_rows : SS := retS (app tupleD (argC (lcE (rng1 (argC (var 0) argN)) (.n 2) [2] yesB (app tupleD (argC (lcE (rng1 (argC (var 0) argN)) (.n 1) [1] yesB (app intD (argC (bin eqD (var 2) (var 1)) argN))) argN))) argN))
def f_idle_rows : Fs := runB outP 3 1 b_idle_rows
def b_idle : SS := seqS (ifS (orB (notB (tstE (app f_is_integer (argC (var 0) argN)))) (notB (tstB (chnE leD leD (cst (.int 1)) (var 0) (cst (.int 3)))))) noS skS) (retS (app f_table_by (argC (app f_idle_rows (argC (var 0) argN)) (argC (cst (.int 1)) argN))))
def f_idle : Fs := runB outP 1 1 b_idle
def b_law_lead : SS := retS (app tupleD (argC (lcE (itE (var 0)) (.n 4) [4] yesB (app sumD (argC (lcE (zipI (argC (var 4) (argC (var 1) argN))) (.t [2, 3]) [2, 3] yesB (bin mulD (var 2) (var 3))) argN))) argN))
def f_law_lead : Fs := runB outP 5 2 b_law_lead
def b_law_idle : SS := retS (app tupleD (argC (lcE (rng1 (argC (var 0) argN)) (.n 2) [2] yesB (app tupleD (argC (lcE (rng1 (argC (var 0) argN)) (.n 1) [1] yesB (app intD (argC (bin eqD (var 2) (var 1)) argN))) argN))) argN))
def f_law_idle : Fs := runB outP 3 1 b_law_idle
def b_law_pick (dr : Fs) : SS := retS (bin ixD (var 1) (app dr (argC (var 0) (argC (app lenD (argC (var 1) argN)) argN))))
def f_law_pick (dr : Fs) : Fs := runB outP 2 2 (b_law_pick dr)
def b_law_table (dr : Fs) : SS := seqS (ownS 3 (lcA (itE (app f_law_idle (argC (var 1) argN))) (.n 4) [4] yesB (app listD (argC (var 4) argN)))) (seqS (forS (rng1 (argC (bin addD (cst (.int 1)) (app dr (argC (var 0) (argC (var 2) argN)))) argN)) (.n 5) (seqS (parS [6, 7] (argC (app dr (argC (var 0) (argC (var 1) argN))) (argC (app dr (argC (var 0) (argC (cst (.int 4)) argN))) argN))) (seqS (ifS (orB (tstB (bin eqD (var 7) (cst (.int 3)))) (tstB (bin eqD (var 1) (cst (.int 1))))) (seqS (asgS (lcE (itE (oixE 3 (var 6))) (.n 8) [8] yesB (bin subD (cst (.int 0)) (var 8))) (subO 3 (var 6))) ctS) skS) (seqS (setS (.n 9) (bin modD (bin addD (bin addD (var 6) (cst (.int 1))) (app dr (argC (var 0) (argC (bin subD (var 1) (cst (.int 1))) argN)))) (var 1))) (seqS (ifS (tstB (bin eqD (var 7) (cst (.int 2)))) (seqS (asgS (tupE (argC (oixE 3 (var 9)) (argC (oixE 3 (var 6)) argN))) (tupG 2 (consG (subO 3 (var 6)) (consG (subO 3 (var 9)) nilG)))) ctS) skS) (seqS (setS (.n 10) (app (f_law_pick dr) (argC (var 0) (argC (lstE (argC (cst (.int 1)) (argC (una negD (cst (.int 1))) (argC (cst (.int 2)) argN)))) argN)))) (asgS (lcE (zipI (argC (oixE 3 (var 6)) (argC (oixE 3 (var 9)) argN))) (.t [11, 12]) [11, 12] yesB (bin addD (var 11) (bin mulD (var 10) (var 12)))) (subO 3 (var 6))))))))) (seqS (relS 3) (retS (app tupleD (argC (lcE (itE (var 3)) (.n 4) [4] yesB (app tupleD (argC (var 4) argN))) argN)))))
def f_law_table (dr : Fs) : Fs := runB outP 13 3 (b_law_table dr)
def b_law_times : SS := seqS (setS (.n 2) (lcE (rng1 (argC (app lenD (argC (var 1) argN)) argN)) (.n 4) [4] yesB (lcE (itE (var 1)) (.n 3) [3] yesB (bin ixD (var 3) (var 4))))) (retS (app tupleD (argC (lcE (itE (var 0)) (.n 3) [3] yesB (app tupleD (argC (lcE (itE (var 2)) (.n 7) [7] yesB (app sumD (argC (lcE (zipI (argC (var 3) (argC (var 7) argN))) (.t [5, 6]) [5, 6] yesB (bin mulD (var 5) (var 6))) argN))) argN))) argN)))
def f_law_times : Fs := runB outP 8 2 b_law_times
def b_Table_determinant : SS := retS (fldE 1 1 (var 0))
def f_Table_determinant : Fs := runB outP 1 1 b_Table_determinant
def b_Table_repr : SS := retS (fstE "Table(" ")" (fldE 1 0 (var 0)))
def f_Table_repr : Fs := runB outP 1 1 b_Table_repr
def b_Table_size : SS := retS (app lenD (argC (fldE 1 0 (var 0)) argN))
def f_Table_size : Fs := runB outP 1 1 b_Table_size
def b_is_idle : SS := seqS (dropS (app f_want_table (argC (var 0) argN))) (retS (bin eqD (fldE 1 0 (var 0)) (app f_idle_rows (argC (app lenD (argC (fldE 1 0 (var 0)) argN)) argN))))
def f_is_idle : Fs := runB outP 1 1 b_is_idle
def b_law_det (rec : Fs) : SS := seqS (ifS (tstB (bin eqD (app lenD (argC (var 0) argN)) (cst (.int 1)))) (retS (bin ixD (bin ixD (var 0) (cst (.int 0))) (cst (.int 0)))) skS) (seqS (setS (.t [1, 2]) (tupE (argC (cst (.int 0)) (argC (cst (.int 1)) argN)))) (seqS (forS (enumI (argC (bin ixD (var 0) (cst (.int 0))) argN)) (.t [3, 4]) (seqS (setS (.n 1) (bin addD (var 1) (bin mulD (bin mulD (var 2) (var 4)) (app rec (argC (lcE (itE (slE (var 0) (someO (cst (.int 1))) noO)) (.n 5) [5] yesB (bin addD (slE (var 5) noO (someO (var 3))) (slE (var 5) (someO (bin addD (var 3) (cst (.int 1)))) noO))) argN))))) (setS (.n 2) (bin subD (cst (.int 0)) (var 2))))) (retS (var 1))))
def f_law_det : Nat → Fs
  | 0 => fun _ _ => none
  | n + 1 => runB outP 6 1 (b_law_det (f_law_det n))
def b_law_undone : SS := seqS (parS [1, 2] (argC (app lenD (argC (var 0) argN)) (argC (app (f_law_det 3) (argC (var 0) argN)) argN))) (seqS (ifS (tstB (bin eqD (var 1) (cst (.int 1)))) (retS (var 0)) skS) (seqS (ownS 3 (lstA argN)) (seqS (forS (rng1 (argC (var 1) argN)) (.n 4) (seqS (ownS 5 (lstA argN)) (seqS (forS (rng1 (argC (var 1) argN)) (.n 6) (seqS (setS (.n 7) (lcE (enumI (argC (var 0) argN)) (.t [8, 9]) [8, 9] (tstB (bin neD (var 8) (var 6))) (bin addD (slE (var 9) noO (someO (var 4))) (slE (var 9) (someO (bin addD (var 4) (cst (.int 1)))) noO)))) (appS 5 (bin mulD (bin mulD (var 2) (bin subD (cst (.int 1)) (bin mulD (cst (.int 2)) (app intD (argC (bin modD (bin addD (var 4) (var 6)) (cst (.int 2))) argN))))) (app (f_law_det 3) (argC (var 7) argN)))))) (seqS (relS 5) (appS 3 (app tupleD (argC (var 5) argN))))))) (seqS (relS 3) (retS (app tupleD (argC (var 3) argN)))))))
def f_law_undone : Fs := runB outP 10 1 b_law_undone
def b_power_rows : SS := seqS (parS [2, 3] (argC (app f_idle_rows (argC (app lenD (argC (var 0) argN)) argN)) (argC (var 0) argN))) (seqS (whileS 200 (tstB (bin gtD (var 1) (cst (.int 0)))) (seqS (setS (.n 4) (bin divD (var 1) (cst (.int 2)))) (seqS (ifS (tstB (bin neD (var 1) (bin mulD (cst (.int 2)) (var 4)))) (setS (.n 2) (app f_times_rows (argC (var 2) (argC (var 3) argN)))) skS) (seqS (ifS (tstB (bin gtD (var 4) (cst (.int 0)))) (setS (.n 3) (app f_times_rows (argC (var 3) (argC (var 3) argN)))) skS) (setS (.n 1) (var 4)))))) (retS (var 2)))
def f_power_rows : Fs := runB outP 5 2 b_power_rows
def b_want_number : SS := ifS (notB (tstE (app f_is_integer (argC (var 0) argN)))) noS skS
def f_want_number : Fs := runB outP 1 1 b_want_number
def b_Table_power : SS := seqS (dropS (app f_want_number (argC (var 1) argN))) (seqS (setS (.n 2) (iteE (tstB (bin geD (var 1) (cst (.int 0)))) (fldE 1 0 (var 0)) (app f_undone_rows (argC (fldE 1 0 (var 0)) (argC (fldE 1 1 (var 0)) argN))))) (seqS (setS (.n 3) (app absD (argC (var 1) argN))) (retS (app f_table_by (argC (app f_power_rows (argC (var 2) (argC (var 3) argN))) (argC (iteE (tstB (bin eqD (bin mulD (bin divD (var 3) (cst (.int 2))) (cst (.int 2))) (var 3))) (cst (.int 1)) (fldE 1 1 (var 0))) argN))))))
def f_Table_power : Fs := runB outP 4 2 b_Table_power
def b_rests_of : SS := retS (app tupleD (argC (lcE (itE (var 0)) (.n 3) [3] yesB (app tupleD (argC (lcE (itE (var 3)) (.n 2) [2] yesB (bin modD (app intD (argC (var 2) argN)) (var 1))) argN))) argN))
def f_rests_of : Fs := runB outP 4 2 b_rests_of
def b_want_modulus : SS := ifS (orB (notB (tstE (app f_is_integer (argC (var 0) argN)))) (notB (tstB (chnE leD leD (cst (.int 2)) (var 0) (cst (.int 1000)))))) noS skS
def f_want_modulus : Fs := runB outP 1 1 b_want_modulus
def b_Table_rests : SS := seqS (dropS (app f_want_modulus (argC (var 1) argN))) (retS (app f_rests_of (argC (fldE 1 0 (var 0)) (argC (var 1) argN))))
def f_Table_rests : Fs := runB outP 2 2 b_Table_rests
def b_rests_alike : SS := seqS (dropS (app f_want_table (argC (var 0) argN))) (seqS (dropS (app f_want_table (argC (var 1) argN))) (seqS (dropS (app f_want_modulus (argC (var 2) argN))) (seqS (dropS (app f_want_alike (argC (var 0) (argC (var 1) argN)))) (retS (bin eqD (app f_rests_of (argC (fldE 1 0 (var 0)) (argC (var 2) argN))) (app f_rests_of (argC (fldE 1 0 (var 1)) (argC (var 2) argN))))))))
def f_rests_alike : Fs := runB outP 3 3 b_rests_alike
def b_beside_rows : SS := seqS (setS (.t [2, 3]) (tupE (argC (bin mulD (tupE (argC (cst (.int 0)) argN)) (app lenD (argC (var 0) argN))) (argC (bin mulD (tupE (argC (cst (.int 0)) argN)) (app lenD (argC (var 1) argN))) argN)))) (retS (app tupleD (argC (bin addD (lcE (itE (var 0)) (.n 4) [4] yesB (bin addD (var 4) (var 3))) (lcE (itE (var 1)) (.n 4) [4] yesB (bin addD (var 2) (var 4)))) argN)))
def f_beside_rows : Fs := runB outP 5 2 b_beside_rows
def b_want_at_most : SS := ifS (tstB (bin gtD (var 2) (var 1))) noS skS
def f_want_at_most : Fs := runB outP 3 3 b_want_at_most
def b_beside : SS := seqS (dropS (app f_want_table (argC (var 0) argN))) (seqS (dropS (app f_want_table (argC (var 1) argN))) (seqS (dropS (app f_want_at_most (argC (cst (.str "columns")) (argC (cst (.int 3)) (argC (bin addD (app lenD (argC (fldE 1 0 (var 0)) argN)) (app lenD (argC (fldE 1 0 (var 1)) argN))) argN))))) (retS (app f_table_by (argC (app f_beside_rows (argC (fldE 1 0 (var 0)) (argC (fldE 1 0 (var 1)) argN))) (argC (bin mulD (fldE 1 1 (var 0)) (fldE 1 1 (var 1))) argN))))))
def f_beside : Fs := runB outP 2 2 b_beside
def b_polynomial : SS := seqS (dropS (app f_want_table (argC (var 0) argN))) (seqS (setS (.t [1, 2]) (tupE (argC (fldE 1 0 (var 0)) (argC (fldE 1 1 (var 0)) argN)))) (seqS (ifS (tstB (bin eqD (app lenD (argC (var 1) argN)) (cst (.int 1)))) (retS (tupE (argC (bin subD (cst (.int 0)) (bin ixD (bin ixD (var 1) (cst (.int 0))) (cst (.int 0)))) (argC (cst (.int 1)) argN)))) skS) (seqS (ifS (tstB (bin eqD (app lenD (argC (var 1) argN)) (cst (.int 2)))) (retS (tupE (argC (var 2) (argC (bin subD (cst (.int 0)) (app f_trace_of (argC (var 1) argN))) (argC (cst (.int 1)) argN))))) skS) (seqS (setS (.n 3) (app sumD (argC (lcE (rng1 (argC (cst (.int 3)) argN)) (.n 4) [4] yesB (app (f_determinant_of 3) (argC (app f_left_without (argC (var 1) (argC (var 4) (argC (var 4) argN)))) argN))) argN))) (retS (tupE (argC (bin subD (cst (.int 0)) (var 2)) (argC (var 3) (argC (bin subD (cst (.int 0)) (app f_trace_of (argC (var 1) argN))) (argC (cst (.int 1)) argN))))))))))
def f_polynomial : Fs := runB outP 5 1 b_polynomial
def b_turned_rows : SS := retS (app f_times_rows (argC (app f_times_rows (argC (var 1) (argC (var 0) argN))) (argC (app f_undone_rows (argC (var 1) (argC (var 2) argN))) argN)))
def f_turned_rows : Fs := runB outP 3 3 b_turned_rows
def b_turned : SS := seqS (dropS (app f_want_table (argC (var 0) argN))) (seqS (dropS (app f_want_table (argC (var 1) argN))) (seqS (dropS (app f_want_alike (argC (var 0) (argC (var 1) argN)))) (retS (app f_table_by (argC (app f_turned_rows (argC (fldE 1 0 (var 0)) (argC (fldE 1 0 (var 1)) (argC (fldE 1 1 (var 1)) argN)))) (argC (fldE 1 1 (var 0)) argN))))))
def f_turned : Fs := runB outP 2 2 b_turned
def b_contrary_of : SS := retS (lcE (itE (revE2 (var 0))) (.n 1) [1] yesB (bin subD (cst (.int 0)) (var 1)))
def f_contrary_of : Fs := runB outP 2 1 b_contrary_of
def b_is_word_of : SS := seqS (ifS (orB (notB (tstE (app f_is_list (argC (var 0) argN)))) (tstB (bin gtD (app lenD (argC (var 0) argN)) (cst (.int 60))))) (retS (cst (.bl false))) skS) (retS (app allD (argC (lcE (itE (var 0)) (.n 2) [2] yesB (andE (app f_is_integer (argC (var 2) argN)) (chnE leD leD (cst (.int 1)) (app absD (argC (var 2) argN)) (var 1)))) argN)))
def f_is_word_of : Fs := runB outP 3 2 b_is_word_of
def b_want_word : SS := seqS (ifS (notB (tstE (app f_is_word_of (argC (var 0) (argC (var 1) argN))))) noS skS) (retS (app listD (argC (var 0) argN)))
def f_want_word : Fs := runB outP 2 2 b_want_word
def b_contrary_word : SS := retS (app f_contrary_of (argC (app f_want_word (argC (var 0) (argC (cst (.int 4)) argN))) argN))
def f_contrary_word : Fs := runB outP 1 1 b_contrary_word
def b_product_rows : SS := seqS (setS (.n 3) (app f_idle_rows (argC (app lenD (argC (bin ixD (var 0) (cst (.int 0))) argN)) argN))) (seqS (forS (itE (var 2)) (.n 4) (setS (.n 3) (app f_times_rows (argC (var 3) (argC (iteE (tstB (bin gtD (var 4) (cst (.int 0)))) (bin ixD (var 0) (bin subD (var 4) (cst (.int 1)))) (bin ixD (var 1) (bin subD (bin subD (cst (.int 0)) (var 4)) (cst (.int 1))))) argN))))) (retS (var 3)))
def f_product_rows : Fs := runB outP 5 3 b_product_rows
def b_product_of : SS := seqS (setS (.n 2) (lcE (itE (var 0)) (.n 3) [3] yesB (fldE 1 0 (var 3)))) (seqS (setS (.n 4) (lcE (itE (var 0)) (.n 3) [3] yesB (app f_undone_rows (argC (fldE 1 0 (var 3)) (argC (fldE 1 1 (var 3)) argN))))) (seqS (setS (.n 5) (cst (.int 1))) (seqS (forS (itE (var 1)) (.n 6) (setS (.n 5) (bin mulD (var 5) (fldE 1 1 (bin ixD (var 0) (bin subD (app absD (argC (var 6) argN)) (cst (.int 1)))))))) (retS (app f_table_by (argC (app f_product_rows (argC (var 2) (argC (var 4) (argC (var 1) argN)))) (argC (var 5) argN)))))))
def f_product_of : Fs := runB outP 7 2 b_product_of
def b_want_makers : SS := seqS (ifS (orB (notB (tstE (app f_is_list (argC (var 0) argN)))) (notB (tstB (chnE leD leD (cst (.int 1)) (app lenD (argC (var 0) argN)) (cst (.int 4)))))) noS skS) (seqS (forS (enumI (argC (var 0) argN)) (.t [1, 2]) (ifS (orB (notB (tstE (isiE (isC 1) (var 2)))) (tstB (bin neD (app lenD (argC (fldE 1 0 (var 2)) argN)) (app lenD (argC (fldE 1 0 (bin ixD (var 0) (cst (.int 0)))) argN))))) noS skS)) (retS (app listD (argC (var 0) argN))))
def f_want_makers : Fs := runB outP 3 1 b_want_makers
def b_product : SS := seqS (setS (.n 2) (app f_want_makers (argC (var 0) argN))) (retS (app f_product_of (argC (var 2) (argC (app f_want_word (argC (var 1) (argC (app lenD (argC (var 2) argN)) argN))) argN))))
def f_product : Fs := runB outP 3 2 b_product
def b_shortened : SS := seqS (ownS 1 (lstA argN)) (seqS (forS (itE (app f_want_word (argC (var 0) (argC (cst (.int 4)) argN)))) (.n 2) (ifS (andB (tstB (oeqE true 1 (lstE argN))) (tstB (bin eqD (oixE 1 (una negD (cst (.int 1)))) (bin subD (cst (.int 0)) (var 2))))) (popS 1) (appS 1 (var 2)))) (seqS (relS 1) (retS (var 1))))
def f_shortened : Fs := runB outP 3 1 b_shortened
end
end Tab

set_option Elab.async false
set_option linter.all false
set_option maxRecDepth 100000
set_option maxHeartbeats 4000000
set_option autoImplicit false
/-! KtB: what the shared defs compute, in plain lists. -/
namespace Tab
open PySem L2 Kb

abbrev rowD (r : List Int) : D := .tup (r.map .int)
abbrev tabD (A : List (List Int)) : D := .tup (A.map rowD)
@[simp] theorem below_row (k : Nat) (r : List Int) : below k (rowD r) = true := by simp
@[simp] theorem below_rows (k : Nat) (A : List (List Int)) : belows k (A.map rowD) = true := belows_all fun x hx => by
  obtain ⟨r, _, rfl⟩ := List.mem_map.mp hx
  exact below_row k r
def Sz (n : Nat) (A : List (List Int)) : Prop := A.length = n ∧ ∀ r ∈ A, r.length = n
def Bd (k : Nat) (A : List (List Int)) : Prop := ∀ r ∈ A, ∀ x ∈ r, Sm k x

section
variable {m : Mem}
theorem get_last {c : Cell} : (m ++ [c])[m.length]? = some c := by simp
theorem set_last {c d : Cell} : (m ++ [c]).set m.length d = m ++ [d] := by simp
theorem take_last {c : Cell} : (m ++ [c]).take m.length = m := by simp
theorem mk_two {c : Nat} {fs : Fs} {xs : List D} {ds : List D} {nf : Nat} (hx : ∀ k, belows k xs = true) (hl : xs.length = nf) (h : fs (.loc m.length :: ds) (m ++ [.ins c []]) = some (.non, m ++ [.ins c xs])) : makeV c nf fs ds m = some (.obj c xs, m) := by
  unfold makeV
  rw [h]
  show (match D.non, (m ++ [Cell.ins c xs])[m.length]? with
    | .non, some (.ins c' ys) => open Classical in if c' = c ∧ ys.length = nf ∧ belows m.length ys = true ∧ (m ++ [Cell.ins c xs]).take m.length = m then some (D.obj c ys, m) else none
    | _, _ => none) = _
  rw [get_last, take_last]
  exact if_pos ⟨rfl, hl, hx _, rfl⟩
theorem putC_last {c j : Nat} {xs : List D} {v : D} (h : j ≤ xs.length) : putC c j (.loc m.length) v (m ++ [.ins c xs]) = some (m ++ [.ins c (if j < xs.length then xs.set j v else xs ++ [v])]) := by
  unfold putC
  simp [h]
theorem told_mk {a b : D} (ha : ∀ k, below k a = true) (hb : ∀ k, below k b = true) (ha2 : isOwn a = false := by rfl) (hb2 : isOwn b = false := by rfl) : makeV 0 2 f_Told_init [a, b] m = some (.obj 0 [a, b], m) := by
  refine mk_two (by simp [ha, hb]) rfl ?_
  refine run_pn (env := [some (.loc m.length), some a, some b]) rfl ?_ (by simp)
  simp [b_Told_init, putC_last, ha2, hb2]
theorem isint_int {i : Int} : f_is_integer [.int i] m = some (.bl true, m) := by
  refine run_p rfl ?_
  simp [b_is_integer, tyD, isB, isTb]
theorem islist_tup {xs : List D} : f_is_list [.tup xs] m = some (.bl true, m) := by
  refine run_p rfl ?_
  simp [b_is_list, tyD, isB, isTb]
theorem islist_lst {xs : List D} : f_is_list [.lst xs] m = some (.bl true, m) := by
  refine run_p rfl ?_
  simp [b_is_list, tyD, isB, isTb]

/-! ### rows by columns -/
def colsL (A : List (List Int)) : List (List Int) := (List.range A.length).map fun j => A.map fun r => r.getD j 0
def dotL (r s : List Int) : Int := (List.zipWith (· * ·) r s).sum
def mulL (A B : List (List Int)) : List (List Int) := A.map fun r => (colsL B).map fun c => dotL r c
def idL (n : Nat) : List (List Int) := (List.range n).map fun i => (List.range n).map fun j => if i = j then 1 else 0
theorem atI_nat {α : Type} {xs : List α} {j : Nat} (h : j < xs.length) : atI xs (j : Int) = some xs[j] := by
  unfold atI ixN
  have h1 : ¬ ((j : Int) < 0) := by omega
  simp [h1, h]
theorem columns_of {A : List (List Int)} {n : Nat} (hA : Sz n A) (hn : n ≤ 1000) : f_columns_of [tabD A] m = some (tabD (colsL A), m) := by
  refine run_p rfl ?_
  have in1 : ∀ j : Nat, j < n → lcL (Tg.n 1).put yesB (Kb.bin ixD (var 1) (var 2)) [some (tabD A), none, some (.int (j : Int))] (A.map rowD) m = some ((A.map fun r => r.getD j 0).map D.int, m) := by
    intro j hj
    rw [List.map_map]
    refine lcL_of rowD _ A fun r hr => ⟨[some (tabD A), some (rowD r), some (.int (j : Int))], rfl, rfl, ?_⟩
    have hl : j < r.length := by rw [hA.2 r hr]; exact hj
    simp [atI_nat, hl]
  have out : lcL (Tg.n 2).put yesB (app tupleD (argC (lcE (itE (var 0)) (.n 1) [1] yesB (Kb.bin ixD (var 1) (var 2))) argN)) [some (tabD A), none, none] ((List.range A.length).map fun (j : Nat) => D.int (j : Int)) m = some ((colsL A).map rowD, m) := by
    unfold colsL
    rw [List.map_map]
    refine lcL_of (fun j : Nat => D.int (j : Int)) _ (List.range A.length) fun j hj => ⟨[some (tabD A), none, some (.int (j : Int))], rfl, rfl, ?_⟩
    have hj' : j < n := by rw [← hA.1]; exact List.mem_range.mp hj
    have hl : A.length ≤ 100000 := by have := hA.1; omega
    simp [in1 j hj', hl]
  have hl : A.length ≤ 100000 := by have := hA.1; omega
  have hl2 : (colsL A).length ≤ 100000 := by
    unfold colsL
    rw [List.length_map, List.length_range]
    exact hl
  have hr : rng1 (argC (app lenD (argC (var 0) argN)) argN) [some (tabD A), none, none] m = some ((List.range A.length).map fun (j : Nat) => D.int (j : Int), m) := rng1_nat (by simp) (by omega)
  simp [b_columns_of, hr, out, hl2]
end
end Tab

set_option Elab.async false
set_option linter.all false
set_option maxRecDepth 100000
set_option maxHeartbeats 4000000
set_option autoImplicit false
/-! KtC: rows times columns, idle rows, equality of tables. -/
namespace Tab
open PySem L2 Kb

/-! ### equality -/
def rowP (r : List Int) : Pl := .tup (r.map .int)
def tabP (A : List (List Int)) : Pl := .tup (A.map rowP)
theorem ints_d : ∀ r : List Int, Pl.ds (r.map .int) = r.map D.int
  | [] => rfl
  | i :: r => by
    show Pl.d (.int i) :: Pl.ds (r.map .int) = _
    rw [ints_d r]
    rfl
theorem rowP_d (r : List Int) : (rowP r).d = rowD r := by
  show D.tup (Pl.ds (r.map .int)) = _
  rw [ints_d]
theorem rows_d : ∀ A : List (List Int), Pl.ds (A.map rowP) = A.map rowD
  | [] => rfl
  | r :: A => by
    show Pl.d (rowP r) :: Pl.ds (A.map rowP) = _
    rw [rows_d A, rowP_d]
    rfl
theorem tabP_d (A : List (List Int)) : (tabP A).d = tabD A := by
  show D.tup (Pl.ds (A.map rowP)) = _
  rw [rows_d]
theorem ints_num : ∀ r : List Int, Pl.nums (r.map .int) = true
  | [] => rfl
  | _ :: r => ints_num r
theorem rows_num : ∀ A : List (List Int), Pl.nums (A.map rowP) = true
  | [] => rfl
  | r :: A => by
    show (Pl.nums (r.map .int) && Pl.nums (A.map rowP)) = true
    rw [ints_num, rows_num A]
    rfl
theorem ints_dep : ∀ r : List Int, Pl.deps (r.map .int) = 0
  | [] => rfl
  | _ :: r => by
    show max 0 (Pl.deps (r.map .int)) = 0
    rw [ints_dep r]
    rfl
theorem rows_dep : ∀ A : List (List Int), Pl.deps (A.map rowP) ≤ 1
  | [] => Nat.zero_le _
  | r :: A => by
    show max (Pl.deps (r.map .int) + 1) (Pl.deps (A.map rowP)) ≤ 1
    have := rows_dep A
    rw [ints_dep r]
    omega
theorem tab_dep (A : List (List Int)) : (tabP A).dep ≤ 2 := Nat.succ_le_succ (rows_dep A)
theorem row_dep (r : List Int) : (rowP r).dep ≤ 1 := by
  show Pl.deps (r.map .int) + 1 ≤ 1
  rw [ints_dep]
  exact Nat.le_refl _
theorem map_inj {α β : Type} {f : α → β} (h : ∀ a b, f a = f b → a = b) : ∀ {r s : List α}, r.map f = s.map f → r = s
  | [], [], _ => rfl
  | [], _ :: _, e => nomatch e
  | _ :: _, [], e => nomatch e
  | a :: r, b :: s, e => by
    rw [List.map_cons, List.map_cons] at e
    injection e with e1 e2
    rw [h a b e1, map_inj h e2]
theorem rowD_inj {r s : List Int} : rowD r = rowD s ↔ r = s := by
  constructor
  · intro h
    exact map_inj (fun a b z => D.int.inj z) (D.tup.inj h)
  · rintro rfl
    rfl
theorem tabD_inj {A B : List (List Int)} : tabD A = tabD B ↔ A = B := by
  constructor
  · intro h
    exact map_inj (fun a b z => rowD_inj.mp z) (D.tup.inj h)
  · rintro rfl
    rfl
section
variable {m : Mem}
theorem eqB_tab (A B : List (List Int)) : eqB m (tabD A) (tabD B) = some (decide (A = B)) := by
  rw [← tabP_d, ← tabP_d, eqB_pl (Nat.le_trans (tab_dep A) (by decide)) (Nat.le_trans (tab_dep B) (by decide))]
  have h := Pl.eqv_iff (tabP A) (tabP B) (rows_num A) (rows_num B)
  rw [tabP_d, tabP_d, tabD_inj] at h
  congr 1
  rw [Bool.eq_iff_iff, h, decide_eq_true_iff]
theorem eqB_row (A B : List Int) : eqB m (rowD A) (rowD B) = some (decide (A = B)) := by
  rw [← rowP_d, ← rowP_d, eqB_pl (Nat.le_trans (row_dep A) (by decide)) (Nat.le_trans (row_dep B) (by decide))]
  have h := Pl.eqv_iff (rowP A) (rowP B) (ints_num A) (ints_num B)
  rw [rowP_d, rowP_d, rowD_inj] at h
  congr 1
  rw [Bool.eq_iff_iff, h, decide_eq_true_iff]
theorem eqD_tab (A B : List (List Int)) : eqD (tabD A) (tabD B) m = some (.bl (decide (A = B)), m) := by
  unfold eqD
  rw [eqB_tab]
  rfl
theorem neD_tab (A B : List (List Int)) : neD (tabD A) (tabD B) m = some (.bl (!decide (A = B)), m) := by
  unfold neD
  rw [eqB_tab]
  rfl

/-! ### products -/
theorem zip_ints : ∀ r s : List Int, zipDD (r.map D.int) (s.map D.int) = (List.zip r s).map fun p => D.tup [.int p.1, .int p.2]
  | [], _ => rfl
  | _ :: _, [] => rfl
  | a :: r, b :: s => congrArg (D.tup [.int a, .int b] :: ·) (zip_ints r s)
theorem zip_mul (r s : List Int) : (List.zip r s).map (fun p => p.1 * p.2) = List.zipWith (· * ·) r s := by
  rw [List.zip, List.map_zipWith]
theorem dot_lc {r s : List Int} {env0 : Ev} {e : SE} {is : List Nat} (hr : ∀ x ∈ r, Sm 4000 x) (hs : ∀ x ∈ s, Sm 4000 x) (hp : ∀ a b : Int, Sm 4000 a → Sm 4000 b → ∃ env1, (Tg.t is).put (.tup [.int a, .int b]) env0 = some env1 ∧ e env1 m = some (.int (a * b), m)) :
    lcL (Tg.t is).put yesB e env0 (zipDD (r.map D.int) (s.map D.int)) m = some ((List.zipWith (· * ·) r s).map D.int, m) := by
  rw [zip_ints, ← zip_mul, List.map_map]
  refine lcL_of (fun p : Int × Int => D.tup [.int p.1, .int p.2]) _ (List.zip r s) fun p hp' => ?_
  obtain ⟨a, b⟩ := p
  obtain ⟨h1, h2⟩ := List.of_mem_zip hp'
  obtain ⟨env1, h3, h4⟩ := hp a b (hr a h1) (hs b h2)
  exact ⟨env1, h3, rfl, h4⟩
theorem dot {r s : List Int} (hr : ∀ x ∈ r, Sm 4000 x) (hs : ∀ x ∈ s, Sm 4000 x) (hl : r.length ≤ 1000) : f_dot [rowD r, rowD s] m = some (.int (dotL r s), m) := by
  refine run_p rfl ?_
  have key := dot_lc (m := m) (env0 := [some (rowD r), some (rowD s), none, none]) (e := Kb.bin mulD (var 2) (var 3)) (is := [2, 3]) hr hs fun a b ha hb => ⟨_, rfl, by simp [mulD_sm ha hb]⟩
  have hl2 : (List.zipWith (· * ·) r s).length ≤ 100000 := by
    rw [List.length_zipWith]
    omega
  simp [b_dot, key, hl2, dotL, -List.length_zipWith, -List.map_zipWith]
theorem cols_len (A : List (List Int)) : (colsL A).length = A.length := by
  unfold colsL
  rw [List.length_map, List.length_range]
theorem cols_bd {A : List (List Int)} {k n : Nat} (hA : Sz n A) (h : Bd k A) : ∀ c ∈ colsL A, ∀ x ∈ c, Sm k x := by
  intro c hc x hx
  obtain ⟨j, hj, rfl⟩ := List.mem_map.mp hc
  obtain ⟨r, hr, rfl⟩ := List.mem_map.mp hx
  have hl : j < r.length := by
    rw [hA.2 r hr, ← hA.1]
    exact List.mem_range.mp hj
  have e : r.getD j 0 = r[j] := by simp [hl]
  show Sm k (r.getD j 0)
  rw [e]
  exact h r hr _ (List.getElem_mem hl)
theorem times {A B : List (List Int)} {n : Nat} (hA : Sz n A) (hB : Sz n B) (ha : Bd 4000 A) (hb : Bd 4000 B) (hn : n ≤ 1000) : f_times_rows [tabD A, tabD B] m = some (tabD (mulL A B), m) := by
  refine run_p rfl ?_
  have in1 : ∀ r ∈ A, lcL (Tg.n 3).put yesB (app f_dot (argC (var 4) (argC (var 3) argN))) [some (tabD A), some (tabD B), some (tabD (colsL B)), none, some (rowD r)] ((colsL B).map rowD) m = some (((colsL B).map fun c => dotL r c).map D.int, m) := by
    intro r hr
    rw [List.map_map]
    refine lcL_of rowD _ (colsL B) fun c hc => ⟨_, rfl, rfl, ?_⟩
    have h := dot (m := m) (ha r hr) (cols_bd hB hb c hc) (by rw [hA.2 r hr]; exact hn)
    simp [h]
  have hl2 : (colsL B).length ≤ 100000 := by rw [cols_len, hB.1]; omega
  have out : lcL (Tg.n 4).put yesB (app tupleD (argC (lcE (itE (var 2)) (.n 3) [3] yesB (app f_dot (argC (var 4) (argC (var 3) argN)))) argN)) [some (tabD A), some (tabD B), some (tabD (colsL B)), none, none] (A.map rowD) m = some ((mulL A B).map rowD, m) := by
    unfold mulL
    rw [List.map_map]
    refine lcL_of rowD _ A fun r hr => ⟨_, rfl, rfl, ?_⟩
    simp [in1 r hr, hl2]
  have hl : A.length ≤ 100000 := by have := hA.1; omega
  have hl3 : (mulL A B).length ≤ 100000 := by
    unfold mulL
    rw [List.length_map]
    exact hl
  simp [b_times_rows, columns_of hB hn, out, hl3]
theorem mul_sz {A B : List (List Int)} {n : Nat} (hA : Sz n A) (hB : Sz n B) : Sz n (mulL A B) := by
  refine ⟨by unfold mulL; rw [List.length_map]; exact hA.1, fun r hr => ?_⟩
  obtain ⟨s, _, rfl⟩ := List.mem_map.mp hr
  rw [List.length_map, cols_len, hB.1]
theorem law_times {A B : List (List Int)} {n : Nat} (hA : Sz n A) (hB : Sz n B) (ha : Bd 4000 A) (hb : Bd 4000 B) (hn : n ≤ 1000) : f_law_times [tabD A, tabD B] m = some (tabD (mulL A B), m) := by
  refine run_p rfl ?_
  have hl : A.length ≤ 100000 := by have := hA.1; omega
  have hlB : B.length ≤ 100000 := by have := hB.1; omega
  have hl2 : (colsL B).length ≤ 100000 := by rw [cols_len, hB.1]; omega
  have c1 : ∀ j : Nat, j < n → lcL (Tg.n 3).put yesB (Kb.bin ixD (var 3) (var 4)) [some (tabD A), some (tabD B), none, none, some (.int (j : Int)), none, none, none] (B.map rowD) m = some ((B.map fun r => r.getD j 0).map D.int, m) := by
    intro j hj
    rw [List.map_map]
    refine lcL_of rowD _ B fun r hr => ⟨_, rfl, rfl, ?_⟩
    have hl : j < r.length := by rw [hB.2 r hr]; exact hj
    simp [atI_nat, hl]
  have c2 : lcL (Tg.n 4).put yesB (lcE (itE (var 1)) (.n 3) [3] yesB (Kb.bin ixD (var 3) (var 4))) [some (tabD A), some (tabD B), none, none, none, none, none, none] ((List.range B.length).map fun (j : Nat) => D.int (j : Int)) m = some ((colsL B).map fun c => D.lst (c.map D.int), m) := by
    unfold colsL
    rw [List.map_map]
    refine lcL_of (fun (j : Nat) => D.int (j : Int)) _ (List.range B.length) fun j hj => ⟨_, rfl, rfl, ?_⟩
    have hj' : j < n := by rw [← hB.1]; exact List.mem_range.mp hj
    simp [c1 j hj', hlB]
  have hr : rng1 (argC (app lenD (argC (var 1) argN)) argN) [some (tabD A), some (tabD B), none, none, none, none, none, none] m = some ((List.range B.length).map fun (j : Nat) => D.int (j : Int), m) := rng1_nat (by simp) (by omega)
  have in1 : ∀ r ∈ A, lcL (Tg.n 7).put yesB (app sumD (argC (lcE (zipI (argC (var 3) (argC (var 7) argN))) (.t [5, 6]) [5, 6] yesB (Kb.bin mulD (var 5) (var 6))) argN))
      [some (tabD A), some (tabD B), some (.lst ((colsL B).map fun c => D.lst (c.map D.int))), some (rowD r), none, none, none, none] ((colsL B).map fun c => D.lst (c.map D.int)) m = some (((colsL B).map fun c => dotL r c).map D.int, m) := by
    intro r hr
    rw [List.map_map]
    refine lcL_of (fun c : List Int => D.lst (c.map D.int)) _ (colsL B) fun c hc => ⟨_, rfl, rfl, ?_⟩
    have key := dot_lc (m := m) (env0 := [some (tabD A), some (tabD B), some (.lst ((colsL B).map fun c => D.lst (c.map D.int))), some (rowD r), none, none, none, some (.lst (c.map D.int))]) (e := Kb.bin mulD (var 5) (var 6)) (is := [5, 6])
      (ha r hr) (cols_bd hB hb c hc) fun a b ha hb => ⟨_, rfl, by simp [mulD_sm ha hb]⟩
    have hl4 : (List.zipWith (· * ·) r c).length ≤ 100000 := by
      rw [List.length_zipWith, hA.2 r hr]
      omega
    simp [key, hl4, dotL, -List.length_zipWith, -List.map_zipWith]
  have out : lcL (Tg.n 3).put yesB (app tupleD (argC (lcE (itE (var 2)) (.n 7) [7] yesB (app sumD (argC (lcE (zipI (argC (var 3) (argC (var 7) argN))) (.t [5, 6]) [5, 6] yesB (Kb.bin mulD (var 5) (var 6))) argN))) argN))
      [some (tabD A), some (tabD B), some (.lst ((colsL B).map fun c => D.lst (c.map D.int))), none, none, none, none, none] (A.map rowD) m = some ((mulL A B).map rowD, m) := by
    unfold mulL
    rw [List.map_map]
    refine lcL_of rowD _ A fun r hr => ⟨_, rfl, rfl, ?_⟩
    simp [in1 r hr, hl2]
  have hl3 : (mulL A B).length ≤ 100000 := by
    unfold mulL
    rw [List.length_map]
    exact hl
  simp [b_law_times, hr, c2, hl2, out, hl3]
end
end Tab

set_option Elab.async false
set_option linter.all false
set_option maxRecDepth 100000
set_option maxHeartbeats 4000000
set_option autoImplicit false
/-! KtD: idle rows, determinants, new tables. -/
namespace Tab
open PySem L2 Kb
section
variable {m : Mem}
theorem range_ints {α : Type} (n : Nat) (f : Nat → Int) : ((List.range n).map fun j => D.int (f j)) = ((List.range n).map f).map D.int := by
  rw [List.map_map]
  rfl
theorem idle_in {n i : Nat} {k j : Nat} {e : SE} {env : Ev} (h : ∀ x : Nat, ∃ env1, (Tg.n k).put (.int (x : Int)) env = some env1 ∧ e env1 m = some (.int (if i = x then 1 else 0), m)) :
    lcL (Tg.n k).put yesB e env ((List.range n).map fun (j : Nat) => D.int (j : Int)) m = some (((List.range n).map fun j => if i = j then (1 : Int) else 0).map D.int, m) := by
  rw [List.map_map]
  exact lcL_of (fun (j : Nat) => D.int (j : Int)) _ (List.range n) fun x _ => by
    obtain ⟨env1, h1, h2⟩ := h x
    exact ⟨env1, h1, rfl, h2⟩
theorem eq_cast {i j : Nat} : (if decide ((i : Int) = (j : Int)) = true then (1 : Int) else 0) = if i = j then 1 else 0 := by
  by_cases h : i = j
  · rw [if_pos h, if_pos (decide_eq_true (by rw [h]))]
  · rw [if_neg h, if_neg]
    intro z
    exact h (Int.ofNat.inj (of_decide_eq_true z))
theorem idle_rows {n : Nat} (hn : n ≤ 1000) : f_idle_rows [.int (n : Int)] m = some (tabD (idL n), m) := by
  refine run_p rfl ?_
  have hr : ∀ o1 o2 : Option D, rng1 (argC (var 0) argN) [some (.int (n : Int)), o1, o2] m = some ((List.range n).map fun (j : Nat) => D.int (j : Int), m) := fun o1 o2 => rng1_nat (by simp) (by omega)
  have out : lcL (Tg.n 2).put yesB (app tupleD (argC (lcE (rng1 (argC (var 0) argN)) (.n 1) [1] yesB (app intD (argC (Kb.bin eqD (var 2) (var 1)) argN))) argN)) [some (.int (n : Int)), none, none] ((List.range n).map fun (j : Nat) => D.int (j : Int)) m = some ((idL n).map rowD, m) := by
    unfold idL
    rw [List.map_map]
    refine lcL_of (fun (j : Nat) => D.int (j : Int)) _ (List.range n) fun i hi => ⟨_, rfl, rfl, ?_⟩
    have h := idle_in (m := m) (n := n) (i := i) (k := 1) (j := 0) (e := app intD (argC (Kb.bin eqD (var 2) (var 1)) argN)) (env := [some (.int (n : Int)), none, some (.int (i : Int))]) fun x => ⟨_, rfl, by simp; split <;> split <;> omega⟩
    have hl : n ≤ 100000 := by omega
    simp [hr, h, hl]
  have hl : (idL n).length ≤ 100000 := by
    unfold idL
    rw [List.length_map, List.length_range]
    omega
  simp [b_idle_rows, hr, out, hl]
theorem law_idle {n : Nat} (hn : n ≤ 1000) : f_law_idle [.int (n : Int)] m = some (tabD (idL n), m) := idle_rows hn
theorem id_sz (n : Nat) : Sz n (idL n) := by
  refine ⟨by unfold idL; rw [List.length_map, List.length_range], fun r hr => ?_⟩
  obtain ⟨i, _, rfl⟩ := List.mem_map.mp hr
  rw [List.length_map, List.length_range]
theorem id_bd (n : Nat) : Bd 1 (idL n) := by
  intro r hr x hx
  obtain ⟨i, _, rfl⟩ := List.mem_map.mp hr
  obtain ⟨j, _, rfl⟩ := List.mem_map.mp hx
  show Sm 1 (if i = j then 1 else 0)
  split
  · exact sm_lit
  · exact sm_lit

/-! ### determinants of up to three columns -/
def detL : List (List Int) → Int
  | [[a]] => a
  | [[a, b], [c, d]] => a * d - b * c
  | [[a, b, c], [d, e, f], [g, h, i]] => a * (e * i - f * h) - b * (d * i - f * g) + c * (d * h - e * g)
  | _ => 0
theorem sz1 {A : List (List Int)} (h : Sz 1 A) : ∃ a, A = [[a]] := by
  obtain ⟨h1, h2⟩ := h
  match A, h1 with
  | [r], _ =>
    match r, h2 r (by simp) with
    | [a], _ => exact ⟨a, rfl⟩
theorem sz2 {A : List (List Int)} (h : Sz 2 A) : ∃ a b c d, A = [[a, b], [c, d]] := by
  obtain ⟨h1, h2⟩ := h
  match A, h1 with
  | [r, s], _ =>
    match r, s, h2 r (by simp), h2 s (by simp) with
    | [a, b], [c, d], _, _ => exact ⟨a, b, c, d, rfl⟩
theorem sz3 {A : List (List Int)} (h : Sz 3 A) : ∃ a b c d e f g k i, A = [[a, b, c], [d, e, f], [g, k, i]] := by
  obtain ⟨h1, h2⟩ := h
  match A, h1 with
  | [r, s, t], _ =>
    match r, s, t, h2 r (by simp), h2 s (by simp), h2 t (by simp) with
    | [a, b, c], [d, e, f], [g, k, i], _, _, _ => exact ⟨a, b, c, d, e, f, g, k, i, rfl⟩
theorem left3 {a b c d e f g k i : Int} : ∀ j : Nat, j < 3 → f_left_without [tabD [[a, b, c], [d, e, f], [g, k, i]], .int 0, .int (j : Int)] m = some (.lst (([[d, e, f], [g, k, i]].map fun r => r.eraseIdx j).map rowD), m) := by
  intro j hj
  have : j = 0 ∨ j = 1 ∨ j = 2 := by omega
  rcases this with rfl | rfl | rfl <;>
  · refine run_p rfl ?_
    simp [b_left_without, numD, lcL, cutL, HT.sIx, List.range_succ]
theorem det1 (n : Nat) {a : Int} : f_determinant_of (n + 1) [tabD [[a]]] m = some (.int a, m) := by
  refine run_p rfl ?_
  simp [b_determinant_of, atI, ixN]
theorem det2g {d : List D → D} (hd : d = .tup ∨ d = .lst) (n : Nat) {a b c e : Int} (ha : Sm 9000 a) (hb : Sm 9000 b) (hc : Sm 9000 c) (he : Sm 9000 e) : f_determinant_of (n + 1) [d [rowD [a, b], rowD [c, e]]] m = some (.int (a * e - b * c), m) := by
  refine run_p rfl ?_
  rcases hd with rfl | rfl <;> simp [b_determinant_of, atI, ixN, mulD_sm ha he, mulD_sm hb hc]
theorem det3 (n : Nat) {a b c d e f g k i : Int} (ha : Sm 4000 a) (hb : Sm 4000 b) (hc : Sm 4000 c) (hd : Sm 4000 d) (he : Sm 4000 e) (hf : Sm 4000 f) (hg : Sm 4000 g) (hk : Sm 4000 k) (hi : Sm 4000 i) :
    f_determinant_of (n + 2) [tabD [[a, b, c], [d, e, f], [g, k, i]]] m = some (.int (a * (e * i - f * k) - b * (d * i - f * g) + c * (d * k - e * g)), m) := by
  refine run_p rfl ?_
  have w : ∀ {x : Int}, Sm 4000 x → Sm 9000 x := fun h => h.mono (by decide)
  have l0 : f_left_without [tabD [[a, b, c], [d, e, f], [g, k, i]], .int 0, .int 0] m = some (.lst [rowD [e, f], rowD [k, i]], m) := left3 0 (by decide)
  have l1 : f_left_without [tabD [[a, b, c], [d, e, f], [g, k, i]], .int 0, .int 1] m = some (.lst [rowD [d, f], rowD [g, i]], m) := left3 1 (by decide)
  have l2 : f_left_without [tabD [[a, b, c], [d, e, f], [g, k, i]], .int 0, .int 2] m = some (.lst [rowD [d, e], rowD [g, k]], m) := left3 2 (by decide)
  have m0 := det2g (m := m) (.inr rfl) n (w he) (w hf) (w hk) (w hi)
  have m1 := det2g (m := m) (.inr rfl) n (w hd) (w hf) (w hg) (w hi)
  have m2 := det2g (m := m) (.inr rfl) n (w hd) (w he) (w hg) (w hk)
  have s0 : Sm 8001 (e * i - f * k) := (he.mul hi).sub (hf.mul hk)
  have s1 : Sm 8001 (d * i - f * g) := (hd.mul hi).sub (hf.mul hg)
  have s2 : Sm 8001 (d * k - e * g) := (hd.mul hk).sub (he.mul hg)
  have one : Sm 1 1 := sm_lit
  have non : Sm 1 (-1) := sm_lit
  simp [b_determinant_of, atI, ixN, numD, forL_cons, List.range_succ, l0, l1, l2, m0, m1, m2, mulD_sm one ha, mulD_sm non hb, mulD_sm one hc, mulD_sm ha s0, mulD_sm hb.neg s1, mulD_sm hc s2]
  grind
end
end Tab

set_option Elab.async false
set_option linter.all false
set_option maxRecDepth 100000
set_option maxHeartbeats 4000000
set_option autoImplicit false
/-! KtE: tables made, multiplied, judged. -/
namespace Tab
open PySem L2 Kb
abbrev tabO (A : List (List Int)) (d : Int) : D := .obj 1 [tabD A, .int d]
@[simp] theorem below_tabO (k : Nat) (A : List (List Int)) (d : Int) : below k (tabO A d) = true := by simp
section
variable {m : Mem}
theorem det {A : List (List Int)} {n : Nat} (hA : Sz n A) (hb : Bd 4000 A) (h1 : 1 ≤ n) (h3 : n ≤ 3) : f_determinant_of 3 [tabD A] m = some (.int (detL A), m) := by
  have w : ∀ {x : Int}, Sm 4000 x → Sm 9000 x := fun h => h.mono (by decide)
  have : n = 1 ∨ n = 2 ∨ n = 3 := by omega
  rcases this with rfl | rfl | rfl
  · obtain ⟨a, rfl⟩ := sz1 hA
    exact det1 2
  · obtain ⟨a, b, c, d, rfl⟩ := sz2 hA
    exact det2g (.inl rfl) 2 (w (hb [a, b] (by simp) _ (by simp))) (w (hb [a, b] (by simp) _ (by simp))) (w (hb [c, d] (by simp) _ (by simp))) (w (hb [c, d] (by simp) _ (by simp)))
  · obtain ⟨a, b, c, d, e, f, g, k, i, rfl⟩ := sz3 hA
    exact det3 1 (hb [a, b, c] (by simp) _ (by simp)) (hb [a, b, c] (by simp) _ (by simp)) (hb [a, b, c] (by simp) _ (by simp)) (hb [d, e, f] (by simp) _ (by simp)) (hb [d, e, f] (by simp) _ (by simp)) (hb [d, e, f] (by simp) _ (by simp))
      (hb [g, k, i] (by simp) _ (by simp)) (hb [g, k, i] (by simp) _ (by simp)) (hb [g, k, i] (by simp) _ (by simp))
theorem all_ints {r : List Int} {k : Nat} {env : Ev} (h : ∀ x : Int, ∃ env1, (Tg.n k).put (.int x) env = some env1 ∧ app f_is_integer (argC (var k) argN) env1 m = some (.bl true, m)) :
    lcL (Tg.n k).put yesB (app f_is_integer (argC (var k) argN)) env (r.map D.int) m = some ((r.map fun _ => true).map D.bl, m) := by
  rw [List.map_map]
  exact lcL_of D.int _ r fun x _ => by
    obtain ⟨env1, h1, h2⟩ := h x
    exact ⟨env1, h1, rfl, h2⟩
theorem are_rows {A : List (List Int)} {n : Nat} (hA : Sz n A) (h1 : 1 ≤ n) (h3 : n ≤ 3) : f_are_rows [tabD A] m = some (.bl true, m) := by
  refine run_p rfl ?_
  have loop : ∃ env' m', forL (Tg.n 1).put (ifS (orB (notB (tstE (app f_is_list (argC (var 1) argN)))) (orB (tstB (Kb.bin neD (app lenD (argC (var 1) argN)) (app lenD (argC (var 0) argN)))) (notB (tstE (app allD (argC (lcE (itE (var 1)) (.n 2) [2] yesB (app f_is_integer (argC (var 2) argN))) argN)))))) (retS (cst (.bl false))) skS)
      (A.map rowD) [some (tabD A), none, none] m = some (.nx env' m') ∧ m' = m := by
    obtain ⟨env', m', e, h, _⟩ := forL_inv (put := (Tg.n 1).put) (body := ifS (orB (notB (tstE (app f_is_list (argC (var 1) argN)))) (orB (tstB (Kb.bin neD (app lenD (argC (var 1) argN)) (app lenD (argC (var 0) argN)))) (notB (tstE (app allD (argC (lcE (itE (var 1)) (.n 2) [2] yesB (app f_is_integer (argC (var 2) argN))) argN)))))) (retS (cst (.bl false))) skS)
      (fun env m' => m' = m ∧ ∃ o, env = [some (tabD A), o, none]) (A.map rowD) [some (tabD A), none, none] m ⟨rfl, none, rfl⟩ fun d hd env m' ⟨em, o, ee⟩ => by
        subst em ee
        obtain ⟨r, hr, rfl⟩ := List.mem_map.mp hd
        refine ⟨[some (tabD A), some (rowD r), none], .nx [some (tabD A), some (rowD r), none] m', rfl, ?_, rfl, some (rowD r), rfl⟩
        have hl : r.length = A.length := by rw [hA.2 r hr, hA.1]
        have hl2 : A.length ≤ 100000 := by have := hA.1; omega
        have h := all_ints (m := m') (r := r) (k := 2) (env := [some (tabD A), some (rowD r), none]) fun x => ⟨_, rfl, by simp [isint_int]⟩
        simp [islist_tup, hl, hl2, h, -List.map_map, allD_bls]
    exact ⟨env', m', e, h⟩
  obtain ⟨env', m', e, rfl⟩ := loop
  have hl : 1 ≤ (A.length : Int) ∧ (A.length : Int) ≤ 3 := by have := hA.1; omega
  simp [b_are_rows, islist_tup, hl.1, hl.2, e]
theorem unit_in {d : Int} (h : d = 1 ∨ d = -1) : ninD (.int d) (.tup [.int 1, .int (-1)]) m = some (.bl false, m) := by
  rcases h with rfl | rfl <;> rfl
theorem copy_rows {A : List (List Int)} {k : Nat} {env : Ev} (h : ∀ x : List Int, ∃ env1, (Tg.n k).put (rowD x) env = some env1 ∧ app tupleD (argC (var k) argN) env1 m = some (rowD x, m)) :
    lcL (Tg.n k).put yesB (app tupleD (argC (var k) argN)) env (A.map rowD) m = some (A.map rowD, m) :=
  lcL_of rowD rowD A fun x _ => by
    obtain ⟨env1, h1, h2⟩ := h x
    exact ⟨env1, h1, rfl, h2⟩
theorem told_rows {A : List (List Int)} {n : Nat} (hA : Sz n A) (hb : Bd 4000 A) (h1 : 1 ≤ n) (h3 : n ≤ 3) (hd : detL A = 1 ∨ detL A = -1) : f_told_rows [tabD A] m = some (.obj 0 [tabD A, .int (detL A)], m) := by
  refine run_p rfl ?_
  have c := copy_rows (m := m) (A := A) (k := 2) (env := [some (tabD A), none, none, none]) fun x => ⟨_, rfl, rfl⟩
  have hl2 : A.length ≤ 100000 := by have := hA.1; omega
  simp [b_told_rows, tyD, isC, are_rows hA h1 h3, c, hl2, det hA hb h1 h3, unit_in hd, told_mk]
theorem told_told {a b : D} : f_told_rows [.obj 0 [a, b]] m = some (.obj 0 [a, b], m) := by
  refine run_p rfl ?_
  simp [b_told_rows, tyD, isC]
theorem tab_init {d a b : D} (ha : ∀ k, below k a = true) (hb : ∀ k, below k b = true) (h : ∀ m : Mem, f_told_rows [d] m = some (.obj 0 [a, b], m)) (hd2 : isOwn d = false := by rfl) : makeV 1 2 f_Table_init [d] m = some (.obj 1 [a, b], m) := by
  refine mk_two (by simp [ha, hb]) rfl ?_
  refine run_pn (env := [some (.loc m.length), some d, some (.obj 0 [a, b])]) rfl ?_ (by simp)
  simp [b_Table_init, h, putC_last, hd2]
theorem tab_new {A : List (List Int)} {n : Nat} (hA : Sz n A) (hb : Bd 4000 A) (h1 : 1 ≤ n) (h3 : n ≤ 3) (hd : detL A = 1 ∨ detL A = -1) : makeV 1 2 f_Table_init [tabD A] m = some (tabO A (detL A), m) :=
  tab_init (fun _ => by simp) (fun _ => by simp) fun _ => told_rows hA hb h1 h3 hd
theorem table_by {A : List (List Int)} {d : Int} : f_table_by [tabD A, .int d] m = some (tabO A d, m) := by
  refine run_p rfl ?_
  have h := tab_init (m := m) (d := .obj 0 [tabD A, .int d]) (a := tabD A) (b := .int d) (fun _ => by simp) (fun _ => by simp) fun _ => told_told
  simp [b_table_by, told_mk, h]
theorem want_table {A : List (List Int)} {d : Int} : f_want_table [tabO A d] m = some (.non, m) := by
  refine run_pn (env := [some (tabO A d)]) rfl ?_
  · simp [b_want_table, tyD, isC]
theorem want_alike {A B : List (List Int)} {d e : Int} {n : Nat} (hA : Sz n A) (hB : Sz n B) : f_want_alike [tabO A d, tabO B e] m = some (.non, m) := by
  refine run_pn (env := [some (tabO A d), some (tabO B e)]) rfl ?_
  · simp [b_want_alike, hA.1, hB.1]
theorem tab_mul {A B : List (List Int)} {d e : Int} {n : Nat} (hA : Sz n A) (hB : Sz n B) (ha : Bd 4000 A) (hb : Bd 4000 B) (hn : n ≤ 3) (hd : Sm 1 d) (he : Sm 1 e) : f_Table_mul [tabO A d, tabO B e] m = some (tabO (mulL A B) (d * e), m) := by
  refine run_p rfl ?_
  simp [b_Table_mul, want_table, want_alike hA hB, times hA hB ha hb (by omega), mulD_sm hd he, table_by]
theorem idle {n : Nat} (h1 : 1 ≤ n) (h3 : n ≤ 3) : f_idle [.int (n : Int)] m = some (tabO (idL n) 1, m) := by
  refine run_p rfl ?_
  have h1' : 1 ≤ (n : Int) := by omega
  have h3' : (n : Int) ≤ 3 := by omega
  simp [b_idle, isint_int, h1', h3', idle_rows (show n ≤ 1000 by omega), table_by]
end
end Tab

set_option Elab.async false
set_option linter.all false
set_option maxRecDepth 100000
set_option maxHeartbeats 4000000
set_option autoImplicit false
/-! KtF: rests; the pot of draws. -/
namespace Tab
open PySem L2 Kb
section
variable {m : Mem}
/-! ### rests -/
def modL (A : List (List Int)) (k : Int) : List (List Int) := A.map fun r => r.map fun x => x % k
theorem rests_of {A : List (List Int)} {n : Nat} {k : Int} (hA : Sz n A) (hn : n ≤ 1000) (hk : 0 < k) : f_rests_of [tabD A, .int k] m = some (tabD (modL A k), m) := by
  refine run_p rfl ?_
  have in1 : ∀ r : List Int, ∀ o : Option D, lcL (Tg.n 2).put yesB (Kb.bin modD (app intD (argC (var 2) argN)) (var 1)) [some (tabD A), some (.int k), none, o] (r.map D.int) m = some ((r.map fun x => x % k).map D.int, m) := by
    intro r o
    rw [List.map_map]
    exact lcL_of D.int _ r fun x _ => ⟨_, rfl, rfl, by simp [hk]⟩
  have out : lcL (Tg.n 3).put yesB (app tupleD (argC (lcE (itE (var 3)) (.n 2) [2] yesB (Kb.bin modD (app intD (argC (var 2) argN)) (var 1))) argN)) [some (tabD A), some (.int k), none, none] (A.map rowD) m = some ((modL A k).map rowD, m) := by
    unfold modL
    rw [List.map_map]
    refine lcL_of rowD _ A fun r hr => ⟨_, rfl, rfl, ?_⟩
    have hl : r.length ≤ 100000 := by rw [hA.2 r hr]; omega
    simp [in1 r, hl, -List.map_map]
  have hl : (modL A k).length ≤ 100000 := by
    unfold modL
    rw [List.length_map, hA.1]
    omega
  simp [b_rests_of, out, hl]
theorem want_modulus {k : Int} (h2 : 2 ≤ k) (h3 : k ≤ 1000) : f_want_modulus [.int k] m = some (.non, m) := by
  refine run_pn (env := [some (.int k)]) rfl ?_
  simp [b_want_modulus, isint_int, h2, h3]
theorem tab_rests {A : List (List Int)} {n : Nat} {d k : Int} (hA : Sz n A) (hn : n ≤ 1000) (h2 : 2 ≤ k) (h3 : k ≤ 1000) : f_Table_rests [tabO A d, .int k] m = some (tabD (modL A k), m) := by
  refine run_p rfl ?_
  simp [b_Table_rests, want_modulus h2 h3, rests_of hA hn (show 0 < k by omega)]
theorem rests_alike {A B : List (List Int)} {n : Nat} {d e k : Int} (hA : Sz n A) (hB : Sz n B) (hn : n ≤ 1000) (h2 : 2 ≤ k) (h3 : k ≤ 1000) : f_rests_alike [tabO A d, tabO B e, .int k] m = some (.bl (decide (modL A k = modL B k)), m) := by
  refine run_p rfl ?_
  simp [b_rests_alike, want_table, want_alike hA hB, want_modulus h2 h3, rests_of hA hn (show 0 < k by omega), rests_of hB hn (show 0 < k by omega), eqD_tab]

/-! ### the pot: a list of two numbers in the store, drawn from -/
def potC (c : Cell) : Prop := ∃ a b : Int, c = .lst [.int a, .int b] ∧ 0 ≤ a ∧ 0 ≤ b ∧ b ≤ 4294967295
def Pot (m : Mem) (n : Nat) : Prop := ∃ c, m[n]? = some c ∧ potC c
/-- from m to m' nothing but the pot at n has changed -/
def Moved (n : Nat) (m m' : Mem) : Prop := Pot m' n ∧ ∃ c, m' = m.set n c
theorem Pot.refl {n : Nat} (h : Pot m n) : Moved n m m := by
  refine ⟨h, ?_⟩
  obtain ⟨c, h1, _⟩ := h
  refine ⟨c, ?_⟩
  obtain ⟨hl, e⟩ := List.getElem?_eq_some_iff.mp h1
  rw [← e, List.set_getElem_self]
theorem Moved.trans {n : Nat} {m m1 m2 : Mem} (h : Moved n m m1) (k : Moved n m1 m2) : Moved n m m2 := by
  obtain ⟨c, e⟩ := h.2
  obtain ⟨d, e2⟩ := k.2
  refine ⟨k.1, d, ?_⟩
  rw [e2, e, List.set_set]
theorem Moved.len {n : Nat} {m m1 : Mem} (h : Moved n m m1) : m1.length = m.length := by
  obtain ⟨c, e⟩ := h.2
  rw [e, List.length_set]
theorem Pot.lt {n : Nat} (h : Pot m n) : n < m.length := by
  obtain ⟨c, h1, _⟩ := h
  exact (List.getElem?_eq_some_iff.mp h1).1
/-- what a draw does -/
def Draws (dr : Fs) : Prop := ∀ (m : Mem) (n : Nat) (k : Int), Pot m n → 1 ≤ k → k.natAbs.log2 < 9000 → ∃ (d : Int) (m' : Mem), dr [.loc n, .int k] m = some (.int d, m') ∧ 0 ≤ d ∧ d < k ∧ Moved n m m'
theorem pot_set {n : Nat} {a b : Int} (h : Pot m n) (ha : 0 ≤ a) (hb : 0 ≤ b) (hb2 : b ≤ 4294967295) : Moved n m (m.set n (.lst [.int a, .int b])) := by
  refine ⟨⟨_, List.getElem?_set_self h.lt, a, b, rfl, ha, hb, hb2⟩, _, rfl⟩
theorem log_lt {k : Int} (h0 : 0 ≤ k) (h : k < 2 ^ 100) : k.natAbs.log2 < 9000 := by
  refine Nat.lt_of_le_of_lt (Sm.log (k := 100) ?_) (by decide)
  unfold Sm
  omega
theorem draw_at {dr : Fs} (h : Draws dr) {p : Nat} {m : Mem} {k : Int} (hm : Pot m p) (hk : 1 ≤ k) (hl : k < 2 ^ 100 := by omega) : ∃ (d : Int) (m1 : Mem), dr [.loc p, .int k] m = some (.int d, m1) ∧ 0 ≤ d ∧ d < k ∧ Moved p m m1 := h m p k hm hk (log_lt (by omega) hl)
theorem nat_of {d : Int} (h : 0 ≤ d) : ∃ k : Nat, d = (k : Int) := ⟨d.toNat, by omega⟩
/-- a draw below a whole number -/
theorem draw_nat {dr : Fs} (h : Draws dr) {p : Nat} {m : Mem} {k : Nat} (hm : Pot m p) (hk : 1 ≤ k) (hl : k < 2 ^ 100 := by omega) : ∃ (d : Nat) (m1 : Mem), dr [.loc p, .int (k : Int)] m = some (.int (d : Int), m1) ∧ d < k ∧ Moved p m m1 := by
  obtain ⟨d, m1, h1, h2, h3, h4⟩ := draw_at h (k := (k : Int)) hm (by omega) (by omega)
  obtain ⟨e, rfl⟩ := nat_of h2
  exact ⟨e, m1, h1, by omega, h4⟩
/-- a draw below a written number -/
theorem draw_i {dr : Fs} (h : Draws dr) (k : Int) {p : Nat} {m : Mem} (hm : Pot m p) (hk : 1 ≤ k := by decide) (hl : k < 2 ^ 100 := by decide) : ∃ (d : Nat) (m1 : Mem), dr [.loc p, .int k] m = some (.int (d : Int), m1) ∧ (d : Int) < k ∧ Moved p m m1 := by
  obtain ⟨d, m1, h1, h2, h3, h4⟩ := draw_at h (k := k) hm hk hl
  obtain ⟨e, rfl⟩ := nat_of h2
  exact ⟨e, m1, h1, h3, h4⟩
theorem pick_draw {dr : Fs} (h : Draws dr) {n : Nat} {xs : List D} (hm : Pot m n) (hx : 1 ≤ xs.length) (hl : xs.length ≤ 1000) (ho : xs.all (fun x => !isOwn x) = true := by first | rfl | simp) : ∃ (d : D) (m' : Mem), f_law_pick dr [.loc n, .lst xs] m = some (d, m') ∧ d ∈ xs ∧ Moved n m m' := by
  obtain ⟨d, m', h1, h2, h4⟩ := draw_nat h (k := xs.length) hm hx (by omega)
  refine ⟨xs[d], m', ?_, List.getElem_mem h2, h4⟩
  refine run_p (n := 2) (a := 2) (b := b_law_pick dr) rfl ?_ h4.len (by simpa using List.all_eq_true.mp ho _ (List.getElem_mem h2))
  simp [b_law_pick, h1, atI_nat h2]
end
end Tab

set_option Elab.async false
set_option linter.all false
set_option maxRecDepth 100000
set_option maxHeartbeats 4000000
set_option autoImplicit false
/-! KtG: a draw; steps of rows. -/
namespace Tab
open PySem L2 Kb

section
variable {env : Ev} {m : Mem}
theorem setD_at {n j : Nat} {xs : List D} {v : D} (h : m[n]? = some (.lst xs)) (hj : j < xs.length) : setD (.loc n) (.int (j : Int)) v m = some (m.set n (.lst (xs.set j v))) := by
  unfold setD
  dsimp only
  rw [h]
  show (ixN xs.length (j : Int)).map (fun j => m.set n (.lst (xs.set j v))) = _
  have e : ixN xs.length (j : Int) = some j := by
    unfold ixN
    have h1 : ¬ ((j : Int) < 0) := by omega
    simp [h1, hj]
  rw [e]
  rfl
theorem ixD_at {n j : Nat} {xs : List D} (h : m[n]? = some (.lst xs)) (hj : j < xs.length) : ixD (.loc n) (.int (j : Int)) m = some (xs[j], m) := by
  show (cellL m[n]?).bind (fun xs => (atI xs (j : Int)).map fun d => (d, m)) = _
  rw [h]
  show (atI xs (j : Int)).map (fun d => (d, m)) = _
  rw [atI_nat hj]
  rfl
end

/-! ### the draw of the laws -/
noncomputable def b_draw (c e M N V : Int) : SS := seqS (ifS (tstB (Kb.bin gtD (Kb.bin ixD (var 0) (cst (.int 0))) (cst (.int 0)))) (seqS (asgS (app divmodD (argC (Kb.bin ixD (var 0) (cst (.int 0))) (argC (var 1) argN))) (tupG 2 (consG (subG (var 0) (cst (.int 0))) (consG (tgG (.n 2)) nilG)))) (retS (var 2))) skS)
  (seqS (asgS (Kb.bin modD (app intD (argC (Kb.bin addD (Kb.bin mulD (Kb.bin ixD (var 0) (cst (.int 1))) (cst (.int c))) (cst (.int e))) argN)) (cst (.int M))) (subG (var 0) (cst (.int 1))))
    (retS (Kb.bin modD (app intD (argC (Kb.bin divD (Kb.bin modD (app intD (argC (Kb.bin mulD (Kb.bin ixD (var 0) (cst (.int 1))) (Kb.bin ixD (var 0) (cst (.int 1)))) argN)) (cst (.int N))) (cst (.int V))) argN)) (var 1))))
theorem sm_pot {b : Int} (h0 : 0 ≤ b) (h : b ≤ 4294967295) : Sm 40 b := by
  unfold Sm
  have : b.natAbs ≤ 4294967295 := by omega
  exact Nat.lt_of_le_of_lt this (by decide)
theorem draw_ok {c e M N V : Int} (hc : Sm 40 c) (hc0 : 0 ≤ c) (he0 : 0 ≤ e) (hM : 0 < M ∧ M ≤ 4294967295 := by decide) (hN : 0 < N := by decide) (hV : 0 < V ∧ V.natAbs.log2 < 9000 := by decide) : Draws (runB outP 3 2 (b_draw c e M N V)) := fun m n k hm hk hlog => by
  obtain ⟨cc, hcell, a, b, rfl, ha, hb, hb2⟩ := id hm
  have hk0 : 0 < k := by omega
  have i0 : ixD (.loc n) (.int 0) m = some (.int a, m) := ixD_at (j := 0) hcell (by simp)
  have i1 : ixD (.loc n) (.int 1) m = some (.int b, m) := ixD_at (j := 1) hcell (by simp)
  have fin : ∀ (d : Int) (m' : Mem), b_draw c e M N V [some (.loc n), some (.int k), none] m = some (.rt (.int d) m') → 0 ≤ d → d < k → Moved n m m' → ∃ (d : Int) (m' : Mem), runB outP 3 2 (b_draw c e M N V) [.loc n, .int k] m = some (.int d, m') ∧ 0 ≤ d ∧ d < k ∧ Moved n m m' := fun d m' h h0 h1 hv => by
    exact ⟨d, m', run_p (n := 3) (a := 2) rfl h hv.len, h0, h1, hv⟩
  by_cases ha0 : 0 < a
  · have s0 : setD (.loc n) (.int 0) (.int (a / k)) m = some (m.set n (.lst [.int (a / k), .int b])) := setD_at (j := 0) hcell (by simp)
    refine fin (a % k) (m.set n (.lst [.int (a / k), .int b])) ?_ (Int.emod_nonneg _ (by omega)) (Int.emod_lt_of_pos _ hk0) (pot_set hm (Int.ediv_nonneg ha (by omega)) hb hb2)
    simp [b_draw, i0, ha0, hk0, hlog, s0]
  · have hmul := mulD_sm (m := m) (sm_pot hb hb2) hc
    have hb' : 0 ≤ (b * c + e) % M ∧ (b * c + e) % M < M := ⟨Int.emod_nonneg _ (by omega), Int.emod_lt_of_pos _ (by omega)⟩
    have s1 : setD (.loc n) (.int 1) (.int ((b * c + e) % M)) m = some (m.set n (.lst [.int a, .int ((b * c + e) % M)])) := setD_at (j := 1) hcell (by simp)
    have mv := pot_set (b := (b * c + e) % M) hm ha hb'.1 (by omega)
    have j1 : ixD (.loc n) (.int 1) (m.set n (.lst [.int a, .int ((b * c + e) % M)])) = some (.int ((b * c + e) % M), m.set n (.lst [.int a, .int ((b * c + e) % M)])) := ixD_at (j := 1) (List.getElem?_set_self hm.lt) (by simp)
    have hm2 := mulD_sm (m := m.set n (.lst [.int a, .int ((b * c + e) % M)])) (sm_pot hb'.1 (by omega)) (sm_pot hb'.1 (by omega))
    refine fin (((b * c + e) % M * ((b * c + e) % M) % N / V) % k) (m.set n (.lst [.int a, .int ((b * c + e) % M)])) ?_ (Int.emod_nonneg _ (by omega)) (Int.emod_lt_of_pos _ hk0) mv
    simp [b_draw, i0, ha0, hk0, i1, hmul, s1, j1, hm2, hM.1, hN, hV.1, hV.2]
end Tab

set_option Elab.async false
set_option linter.all false
set_option maxRecDepth 100000
set_option maxHeartbeats 4000000
set_option autoImplicit false
/-! KtH: a table by drawn steps of rows. -/
namespace Tab
open PySem L2 Kb

/-! ### the steps, in plain lists -/
def Un (A : List (List Int)) : Prop := detL A = 1 ∨ detL A = -1
def negR (A : List (List Int)) (i : Nat) : List (List Int) := A.set i ((A.getD i []).map fun x => 0 - x)
def swapR (A : List (List Int)) (i j : Nat) : List (List Int) := (A.set i (A.getD j [])).set j (A.getD i [])
def addR (A : List (List Int)) (i j : Nat) (k : Int) : List (List Int) := A.set i (List.zipWith (fun x y => x + k * y) (A.getD i []) (A.getD j []))
theorem getD_sz {n i : Nat} {A : List (List Int)} (h : Sz n A) (hi : i < n) : (A.getD i []).length = n ∧ A.getD i [] ∈ A := by
  have hl : i < A.length := by rw [h.1]; exact hi
  have e : A.getD i [] = A[i] := by simp [hl]
  rw [e]
  exact ⟨h.2 _ (List.getElem_mem hl), List.getElem_mem hl⟩
theorem set_sz {n i : Nat} {A : List (List Int)} {r : List Int} (h : Sz n A) (hr : r.length = n) : Sz n (A.set i r) := by
  refine ⟨by rw [List.length_set]; exact h.1, fun s hs => ?_⟩
  rcases List.mem_or_eq_of_mem_set hs with z | z
  · exact h.2 s z
  · rw [z]; exact hr
theorem set_bd {k i : Nat} {A : List (List Int)} {r : List Int} (h : Bd k A) (hr : ∀ x ∈ r, Sm k x) : Bd k (A.set i r) := fun s hs => by
  rcases List.mem_or_eq_of_mem_set hs with z | z
  · exact h s z
  · rw [z]; exact hr
theorem Bd.mono {j k : Nat} {A : List (List Int)} (h : Bd j A) (e : j ≤ k) : Bd k A := fun r hr x hx => (h r hr x hx).mono e
theorem neg_sz {n i : Nat} {A : List (List Int)} (h : Sz n A) (hi : i < n) : Sz n (negR A i) := set_sz h (by rw [List.length_map]; exact (getD_sz h hi).1)
theorem neg_bd {n k i : Nat} {A : List (List Int)} (h : Sz n A) (hb : Bd k A) (hi : i < n) : Bd k (negR A i) := set_bd hb fun x hx => by
  obtain ⟨y, hy, rfl⟩ := List.mem_map.mp hx
  show Sm k (0 - y)
  rw [Int.zero_sub]
  exact (hb _ (getD_sz h hi).2 y hy).neg
theorem swap_sz {n i j : Nat} {A : List (List Int)} (h : Sz n A) (hi : i < n) (hj : j < n) : Sz n (swapR A i j) := set_sz (set_sz h (getD_sz h hj).1) (getD_sz h hi).1
theorem swap_bd {n k i j : Nat} {A : List (List Int)} (h : Sz n A) (hb : Bd k A) (hi : i < n) (hj : j < n) : Bd k (swapR A i j) := set_bd (set_bd hb (hb _ (getD_sz h hj).2)) (hb _ (getD_sz h hi).2)
theorem add_sz {n i j : Nat} {k : Int} {A : List (List Int)} (h : Sz n A) (hi : i < n) (hj : j < n) : Sz n (addR A i j k) := set_sz h (by rw [List.length_zipWith, (getD_sz h hi).1, (getD_sz h hj).1, Nat.min_self])
theorem add_bd {n b i j : Nat} {k : Int} {A : List (List Int)} (h : Sz n A) (hb : Bd b A) (hi : i < n) (hj : j < n) (hk : Sm 2 k) : Bd (b + 3) (addR A i j k) := set_bd (hb.mono (by omega)) fun x hx => by
  obtain ⟨m, hm, rfl⟩ := List.mem_iff_getElem.mp hx
  rw [List.getElem_zipWith]
  have h1 := hb _ (getD_sz h hi).2 _ (List.getElem_mem (l := A.getD i []) (n := m) (by rw [List.length_zipWith] at hm; omega))
  have h2 := hb _ (getD_sz h hj).2 _ (List.getElem_mem (l := A.getD j []) (n := m) (by rw [List.length_zipWith] at hm; omega))
  exact ((h1.mono (by omega)).add ((hk.mul h2).mono (by omega : 2 + b ≤ b + 2))).mono (by omega)
theorem un_neg {A : List (List Int)} (h : Un A) {d : Int} (e : d = -detL A) : d = 1 ∨ d = -1 := by
  rcases h with h | h <;> omega
theorem neg_un {n i : Nat} {A : List (List Int)} (h : Sz n A) (h3 : n ≤ 3) (hi : i < n) (u : Un A) : Un (negR A i) := by
  refine un_neg u ?_
  have : n = 1 ∨ n = 2 ∨ n = 3 := by omega
  rcases this with rfl | rfl | rfl
  · obtain ⟨a, rfl⟩ := sz1 h
    have : i = 0 := by omega
    subst this
    simp [negR, detL]
  · obtain ⟨a, b, c, d, rfl⟩ := sz2 h
    have : i = 0 ∨ i = 1 := by omega
    rcases this with rfl | rfl <;> simp [negR, detL] <;> grind
  · obtain ⟨a, b, c, d, e, f, g, k, l, rfl⟩ := sz3 h
    have : i = 0 ∨ i = 1 ∨ i = 2 := by omega
    rcases this with rfl | rfl | rfl <;> simp [negR, detL] <;> grind
theorem swap_un {n i j : Nat} {A : List (List Int)} (h : Sz n A) (h3 : n ≤ 3) (hi : i < n) (hj : j < n) (hij : i ≠ j) (u : Un A) : Un (swapR A i j) := by
  refine un_neg u ?_
  have : n = 1 ∨ n = 2 ∨ n = 3 := by omega
  rcases this with rfl | rfl | rfl
  · omega
  · obtain ⟨a, b, c, d, rfl⟩ := sz2 h
    have : (i = 0 ∧ j = 1) ∨ (i = 1 ∧ j = 0) := by omega
    rcases this with ⟨rfl, rfl⟩ | ⟨rfl, rfl⟩ <;> simp [swapR, detL] <;> grind
  · obtain ⟨a, b, c, d, e, f, g, k, l, rfl⟩ := sz3 h
    have : (i = 0 ∧ j = 1) ∨ (i = 0 ∧ j = 2) ∨ (i = 1 ∧ j = 0) ∨ (i = 1 ∧ j = 2) ∨ (i = 2 ∧ j = 0) ∨ (i = 2 ∧ j = 1) := by omega
    rcases this with ⟨rfl, rfl⟩ | ⟨rfl, rfl⟩ | ⟨rfl, rfl⟩ | ⟨rfl, rfl⟩ | ⟨rfl, rfl⟩ | ⟨rfl, rfl⟩ <;> simp [swapR, detL] <;> grind
theorem add_un {n i j : Nat} {q : Int} {A : List (List Int)} (h : Sz n A) (h3 : n ≤ 3) (hi : i < n) (hj : j < n) (hij : i ≠ j) (u : Un A) : Un (addR A i j q) := by
  have key : detL (addR A i j q) = detL A := by
    have : n = 1 ∨ n = 2 ∨ n = 3 := by omega
    rcases this with rfl | rfl | rfl
    · omega
    · obtain ⟨a, b, c, d, rfl⟩ := sz2 h
      have : (i = 0 ∧ j = 1) ∨ (i = 1 ∧ j = 0) := by omega
      rcases this with ⟨rfl, rfl⟩ | ⟨rfl, rfl⟩ <;> simp [addR, detL] <;> grind
    · obtain ⟨a, b, c, d, e, f, g, k, l, rfl⟩ := sz3 h
      have : (i = 0 ∧ j = 1) ∨ (i = 0 ∧ j = 2) ∨ (i = 1 ∧ j = 0) ∨ (i = 1 ∧ j = 2) ∨ (i = 2 ∧ j = 0) ∨ (i = 2 ∧ j = 1) := by omega
      rcases this with ⟨rfl, rfl⟩ | ⟨rfl, rfl⟩ | ⟨rfl, rfl⟩ | ⟨rfl, rfl⟩ | ⟨rfl, rfl⟩ | ⟨rfl, rfl⟩ <;> simp [addR, detL] <;> grind
  unfold Un
  rw [key]
  exact u
theorem id_un {n : Nat} (h1 : 1 ≤ n) (h3 : n ≤ 3) : Un (idL n) := by
  have : n = 1 ∨ n = 2 ∨ n = 3 := by omega
  rcases this with rfl | rfl | rfl <;> exact .inl (by decide)
end Tab

set_option Elab.async false
set_option linter.all false
set_option maxRecDepth 100000
set_option maxHeartbeats 4000000
set_option autoImplicit false
/-! KtI: the drawn table. -/
namespace Tab
open PySem L2 Kb

/-- lists of numbers, as lists -/
abbrev lrD (r : List Int) : D := .lst (r.map .int)
theorem ixN_nat {n j : Nat} (h : j < n) : ixN n (j : Int) = some j := by
  unfold ixN
  have h1 : ¬ ((j : Int) < 0) := by omega
  simp [h1, h]
theorem atI_map {α : Type} {f : α → D} {xs : List α} {j : Nat} {d : α} (h : j < xs.length) : atI (xs.map f) (j : Int) = some (f (xs.getD j d)) := by
  rw [atI_nat (by rw [List.length_map]; exact h), List.getElem_map]
  have e : xs.getD j d = xs[j] := by simp [h]
  rw [e]
theorem getD_map {α β : Type} {f : α → β} {xs : List α} {j : Nat} {d : α} {e : β} (h : j < xs.length) : (xs.map f).getD j e = f (xs.getD j d) := by
  simp [h]
/-- what the turns keep -/
def TabI (p n : Nat) (mo : Int) (m : Mem) (i : Nat) (env : Ev) (m' : Mem) : Prop := ∃ (A : List (List Int)) (o4 o5 o6 o7 o8 o9 o10 o11 o12 : Option D), env = [some (.loc p), some (.int (n : Int)), some (.int mo), some (.own (A.map lrD)), o4, o5, o6, o7, o8, o9, o10, o11, o12] ∧
  Moved p m m' ∧ Sz n A ∧ Bd (1 + 3 * i) A ∧ Un A
noncomputable def turnB (dr : Fs) : SS := seqS (parS [6, 7] (argC (app dr (argC (var 0) (argC (var 1) argN))) (argC (app dr (argC (var 0) (argC (cst (.int 4)) argN))) argN))) (seqS (ifS (orB (tstB (Kb.bin eqD (var 7) (cst (.int 3)))) (tstB (Kb.bin eqD (var 1) (cst (.int 1))))) (seqS (asgS (lcE (itE (oixE 3 (var 6))) (.n 8) [8] yesB (Kb.bin subD (cst (.int 0)) (var 8))) (subO 3 (var 6))) ctS) skS)
  (seqS (setS (.n 9) (Kb.bin modD (Kb.bin addD (Kb.bin addD (var 6) (cst (.int 1))) (app dr (argC (var 0) (argC (Kb.bin subD (var 1) (cst (.int 1))) argN)))) (var 1))) (seqS (ifS (tstB (Kb.bin eqD (var 7) (cst (.int 2)))) (seqS (asgS (tupE (argC (oixE 3 (var 9)) (argC (oixE 3 (var 6)) argN))) (tupG 2 (consG (subO 3 (var 6)) (consG (subO 3 (var 9)) nilG)))) ctS) skS)
  (seqS (setS (.n 10) (app (f_law_pick dr) (argC (var 0) (argC (lstE (argC (cst (.int 1)) (argC (una negD (cst (.int 1))) (argC (cst (.int 2)) argN)))) argN)))) (asgS (lcE (zipI (argC (oixE 3 (var 6)) (argC (oixE 3 (var 9)) argN))) (.t [11, 12]) [11, 12] yesB (Kb.bin addD (var 11) (Kb.bin mulD (var 10) (var 12)))) (subO 3 (var 6)))))))
theorem turn_ok {dr : Fs} (hdr : Draws dr) {p n i : Nat} {mo : Int} {m : Mem} (h1 : 1 ≤ n) (h3 : n ≤ 3) (hi : i < 100) {t : D} {env : Ev} {m' : Mem} (ht : isOwn t = false) (hI : TabI p n mo m i env m') :
    ∃ env1 o, (Tg.n 5).put t env = some env1 ∧ turnB dr env1 m' = some o ∧ match o with
    | .nx e m2 => TabI p n mo m (i + 1) e m2
    | .ct e m2 => TabI p n mo m (i + 1) e m2
    | _ => False := by
  obtain ⟨A, o4, o5, o6, o7, o8, o9, o10, o11, o12, rfl, hmv, hA, hb, hu⟩ := hI
  have bstep : 1 + 3 * i + 3 ≤ 1 + 3 * (i + 1) := by omega
  obtain ⟨ne, m2, e2, hne, v2⟩ := draw_nat hdr (k := n) hmv.1 (by omega) (by omega)
  obtain ⟨way, m3, e3, w0, w1, v3⟩ := draw_at hdr (k := 4) v2.1 (by decide) (by decide)
  have mv3 := (hmv.trans v2).trans v3
  have hneA : ne < A.length := by rw [hA.1]; exact hne
  have ix3 := atI_map (f := lrD) (d := []) hneA
  have ixn3 : ixN A.length (ne : Int) = some ne := ixN_nat hneA
  refine ⟨[some (.loc p), some (.int (n : Int)), some (.int mo), some (.own (A.map lrD)), o4, some t, o6, o7, o8, o9, o10, o11, o12], ?_⟩
  by_cases hw : way = 3 ∨ n = 1
  · -- a row turned over
    have lc : ∀ env m, env.length = 13 → lcL (Tg.n 8).put yesB (Kb.bin subD (cst (.int 0)) (var 8)) env ((A.getD ne []).map D.int) m = some (((A.getD ne []).map fun x => 0 - x).map D.int, m) := fun env m he => by
      rw [List.map_map]
      exact lcL_of D.int _ _ fun x _ => ⟨env.set 8 (some (.int x)), by simp [he], rfl, by
        match env, he with
        | [a0, a1, a2, a3, a4, a5, a6, a7, a8, a9, a10, a11, a12], _ => simp⟩
    have hl : (A.getD ne []).length ≤ 100000 := by rw [(getD_sz hA hne).1]; omega
    refine ⟨.ct [some (.loc p), some (.int (n : Int)), some (.int mo), some (.own ((negR A ne).map lrD)), o4, some t, some (.int (ne : Int)), some (.int way), o8, o9, o10, o11, o12] m3, rfl, ?_, negR A ne, o4, some t, some (.int (ne : Int)), some (.int way), o8, o9, o10, o11, o12, rfl, mv3, neg_sz hA hne, (neg_bd hA hb hne).mono (by omega), neg_un hA h3 hne hu⟩
    have tst : orB (tstB (Kb.bin eqD (var 7) (cst (.int 3)))) (tstB (Kb.bin eqD (var 1) (cst (.int 1)))) [some (.loc p), some (.int (n : Int)), some (.int mo), some (.own (A.map lrD)), o4, some t, some (.int (ne : Int)), some (.int way), o8, o9, o10, o11, o12] m3 = some (true, m3) := by
      rcases hw with rfl | rfl
      · simp
      · by_cases h : way = 3
        · simp [h]
        · simp [h]
    simp [turnB, e2, e3, ix3, ixn3, lc, hl, negR, tst, -orB_def, -List.map_map, -List.getD_eq_getElem?_getD, -Int.zero_sub]
  · -- other steps
    have hw3 : ¬ way = 3 := fun z => hw (.inl z)
    have hn1 : ¬ n = 1 := fun z => hw (.inr z)
    have hn1' : ¬ (n : Int) = 1 := by omega
    have tst : orB (tstB (Kb.bin eqD (var 7) (cst (.int 3)))) (tstB (Kb.bin eqD (var 1) (cst (.int 1)))) [some (.loc p), some (.int (n : Int)), some (.int mo), some (.own (A.map lrD)), o4, some t, some (.int (ne : Int)), some (.int way), o8, o9, o10, o11, o12] m3 = some (false, m3) := by
      simp [hw3, hn1']
    obtain ⟨d4, m4, e4, f0, f1, v4⟩ := draw_at hdr (k := (n : Int) - 1) v3.1 (by omega) (by omega)
    have mv4 := mv3.trans v4
    have npos : 0 < (n : Int) := by omega
    have npos' : 0 < n := by omega
    obtain ⟨fa, hfa⟩ := nat_of (Int.emod_nonneg ((ne : Int) + 1 + d4) (show (n : Int) ≠ 0 by omega))
    have hfan : fa < n := by
      have := Int.emod_lt_of_pos ((ne : Int) + 1 + d4) npos
      omega
    have hfaA : fa < A.length := by rw [hA.1]; exact hfan
    have hdiff : ne ≠ fa := by
      have : n = 2 ∨ n = 3 := by omega
      rcases this with rfl | rfl <;> omega
    have ixf := atI_map (f := lrD) (d := []) hfaA
    have ixnf : ixN A.length (fa : Int) = some fa := ixN_nat hfaA
    by_cases hw2 : way = 2
    · subst hw2
      refine ⟨.ct [some (.loc p), some (.int (n : Int)), some (.int mo), some (.own ((swapR A ne fa).map lrD)), o4, some t, some (.int (ne : Int)), some (.int 2), o8, some (.int (fa : Int)), o10, o11, o12] m4, rfl, ?_, swapR A ne fa, o4, some t, some (.int (ne : Int)), some (.int 2), o8, some (.int (fa : Int)), o10, o11, o12, rfl, mv4, swap_sz hA hne hfan, (swap_bd hA hb hne hfan).mono (by omega), swap_un hA h3 hne hfan hdiff hu⟩
      simp [turnB, e2, e3, tst, e4, hfa, npos, npos', ix3, ixf, ixn3, ixnf, swapR, -orB_def, -List.map_map, -List.getD_eq_getElem?_getD]
    · obtain ⟨mk, m5, e5, hmk, v5⟩ := pick_draw hdr (xs := [.int 1, .int (-1), .int 2]) v4.1 (by simp) (by simp)
      have mv5 := mv4.trans v5
      obtain ⟨k, rfl, hk⟩ : ∃ k : Int, mk = .int k ∧ Sm 2 k := by
        simp only [List.mem_cons, List.not_mem_nil, or_false] at hmk
        rcases hmk with rfl | rfl | rfl
        · exact ⟨1, rfl, sm_lit⟩
        · exact ⟨-1, rfl, sm_lit⟩
        · exact ⟨2, rfl, sm_lit⟩
      have sN := getD_sz hA hne
      have sF := getD_sz hA hfan
      have lc : ∀ o8 : Option D, lcL (Tg.t [11, 12]).put yesB (Kb.bin addD (var 11) (Kb.bin mulD (var 10) (var 12))) [some (.loc p), some (.int (n : Int)), some (.int mo), some (.own (A.map lrD)), o4, some t, some (.int (ne : Int)), some (.int way), o8, some (.int (fa : Int)), some (.int k), none, none]
          (zipDD ((A.getD ne []).map D.int) ((A.getD fa []).map D.int)) m5 = some ((List.zipWith (fun x y => x + k * y) (A.getD ne []) (A.getD fa [])).map D.int, m5) := fun o8 => by
        have e : List.zipWith (fun x y => x + k * y) (A.getD ne []) (A.getD fa []) = (List.zip (A.getD ne []) (A.getD fa [])).map fun p => p.1 + k * p.2 := by rw [List.zip, List.map_zipWith]
        rw [e, zip_ints, List.map_map]
        refine lcL_of (fun p : Int × Int => D.tup [.int p.1, .int p.2]) _ _ fun pr hp' => ?_
        obtain ⟨a, b⟩ := pr
        obtain ⟨_, h2⟩ := List.of_mem_zip hp'
        have hmul := mulD_sm (m := m5) hk ((hb _ sF.2 b h2).mono (show 1 + 3 * i ≤ 1000 by omega))
        exact ⟨_, rfl, rfl, by simp [hmul]⟩
      have hl : (List.zipWith (fun x y => x + k * y) (A.getD ne []) (A.getD fa [])).length ≤ 100000 := by
        rw [List.length_zipWith, sN.1]
        omega
      refine ⟨.nx [some (.loc p), some (.int (n : Int)), some (.int mo), some (.own ((addR A ne fa k).map lrD)), o4, some t, some (.int (ne : Int)), some (.int way), o8, some (.int (fa : Int)), some (.int k), o11, o12] m5, rfl, ?_, addR A ne fa k, o4, some t, some (.int (ne : Int)), some (.int way), o8, some (.int (fa : Int)), some (.int k), o11, o12, rfl, mv5, add_sz hA hne hfan, (add_bd hA hb hne hfan hk).mono (by omega), add_un hA h3 hne hfan hdiff hu⟩
      simp [turnB, e2, e3, tst, e4, hfa, npos, npos', hw2, e5, ix3, ixf, ixn3, lc, hl, addR, -orB_def, -List.map_map, -List.getD_eq_getElem?_getD, -List.length_zipWith, -List.map_zipWith]
/-- tuples of lists of numbers -/
theorem tups_of {put : D → Ev → Option Ev} {te : SE} {env : Ev} {m : Mem} (h : ∀ r : List Int, ∃ env1, put (lrD r) env = some env1 ∧ te env1 m = some (rowD r, m)) (A : List (List Int)) : lcL put yesB te env (A.map lrD) m = some (A.map rowD, m) :=
  lcL_of lrD _ A fun r _ => by
    obtain ⟨e1, h1, h2⟩ := h r
    exact ⟨e1, h1, rfl, h2⟩
/-- the drawn table: whole, of determinant 1 or -1, not large -/
theorem table_ok {dr : Fs} (hdr : Draws dr) {p n mo : Nat} {m : Mem} (hm : Pot m p) (h1 : 1 ≤ n) (h3 : n ≤ 3) (hmo : 1 ≤ mo) (hmo2 : mo ≤ 20) : ∃ (A : List (List Int)) (m' : Mem), f_law_table dr [.loc p, .int (n : Int), .int (mo : Int)] m = some (tabD A, m') ∧ Sz n A ∧ Bd (1 + 3 * mo) A ∧ Un A ∧ Moved p m m' := by
  obtain ⟨d, m1, e1, d1, v1⟩ := draw_nat hdr (k := mo) hm hmo (by omega)
  have li := law_idle (m := m) (n := n) (by omega)
  have lc0 : lcL (Tg.n 4).put yesB (app listD (argC (var 4) argN)) [some (.loc p), some (.int (n : Int)), some (.int (mo : Int)), none, none, none, none, none, none, none, none, none, none] ((idL n).map rowD) m = some ((idL n).map lrD, m) :=
    lcL_of rowD _ (idL n) fun r _ => ⟨_, rfl, rfl, by simp⟩
  have hl0 : (idL n).length ≤ 100000 := by rw [(id_sz n).1]; omega
  have rg : rng1 (argC (Kb.bin addD (cst (.int 1)) (app dr (argC (var 0) (argC (var 2) argN)))) argN) [some (.loc p), some (.int (n : Int)), some (.int (mo : Int)), some (.own ((idL n).map lrD)), none, none, none, none, none, none, none, none, none] m = some ((List.range (1 + d)).map fun (j : Nat) => D.int (j : Int), m1) :=
    rng1_nat (n := 1 + d) (by simp [e1]) (by omega)
  obtain ⟨env', m', hf, A, o4, o5, o6, o7, o8, o9, o10, o11, o12, rfl, mv, hA, hb, hu⟩ := forL_ix (put := (Tg.n 5).put) (body := turnB dr) (TabI p n mo m) ((List.range (1 + d)).map fun (j : Nat) => D.int (j : Int)) 0 [some (.loc p), some (.int (n : Int)), some (.int (mo : Int)), some (.own ((idL n).map lrD)), none, none, none, none, none, none, none, none, none] m1
    ⟨idL n, none, none, none, none, none, none, none, none, none, rfl, v1, id_sz n, (id_bd n).mono (by omega), id_un h1 h3⟩ fun j t hj env m2 hI => by
      have hj2 : j < 1 + d := by
        have := (List.getElem?_eq_some_iff.mp hj).1
        simpa using this
      have ht : isOwn t = false := by
        rw [List.getElem?_map] at hj
        obtain ⟨x, _, rfl⟩ := Option.map_eq_some_iff.mp hj
        rfl
      exact turn_ok hdr h1 h3 (by omega) ht hI
  have hl : A.length ≤ 100000 := by rw [hA.1]; omega
  have tp : ∀ o5 o6 o7 o8 o9 o10 o11 o12 : Option D, lcL (Tg.n 4).put yesB (app tupleD (argC (var 4) argN)) [some (.loc p), some (.int (n : Int)), some (.int (mo : Int)), some (.lst (A.map lrD)), none, o5, o6, o7, o8, o9, o10, o11, o12] (A.map lrD) m' = some (A.map rowD, m') := fun o5 o6 o7 o8 o9 o10 o11 o12 => tups_of (fun r => ⟨_, rfl, by simp⟩) A
  refine ⟨A, m', run_p (n := 13) (a := 3) (b := b_law_table dr) rfl ?_ mv.len, hA, hb.mono ?_, hu, mv⟩
  · unfold turnB at hf
    simp [b_law_table, li, lc0, hl0, rg, hf, tp, hl, -List.map_map]
  · rw [List.length_map, List.length_range]
    omega
end Tab

set_option Elab.async false
set_option linter.all false
set_option maxRecDepth 100000
set_option maxHeartbeats 4000000
set_option autoImplicit false
/-! KtJ: rests of products, texts of tables. -/
namespace Tab
open PySem L2 Kb

theorem dot_mod (k : Int) : ∀ r s : List Int, dotL r s % k = dotL (r.map fun x => x % k) (s.map fun x => x % k) % k
  | [], _ => by simp [dotL]
  | _ :: _, [] => by simp [dotL]
  | a :: r, b :: s => by
    have ih := dot_mod k r s
    show (a * b + dotL r s) % k = (a % k * (b % k) + dotL (r.map fun x => x % k) (s.map fun x => x % k)) % k
    rw [Int.add_emod, ih, ← Int.add_emod, Int.add_emod (a * b), Int.mul_emod a b, ← Int.add_emod]
theorem modL_len (A : List (List Int)) (k : Int) : (modL A k).length = A.length := by
  unfold modL
  rw [List.length_map]
theorem cols_mod (A : List (List Int)) (k : Int) : colsL (modL A k) = modL (colsL A) k := by
  unfold colsL
  rw [modL_len]
  unfold modL
  rw [List.map_map]
  refine List.map_congr_left fun j _ => ?_
  rw [List.map_map]
  show _ = (A.map fun r => r.getD j 0).map fun x => x % k
  rw [List.map_map]
  refine List.map_congr_left fun r _ => ?_
  show (r.map fun x => x % k).getD j 0 = r.getD j 0 % k
  rw [List.getD_eq_getElem?_getD, List.getD_eq_getElem?_getD, List.getElem?_map]
  cases r[j]? with
  | none => simp
  | some x => rfl
theorem mod_mul (A B : List (List Int)) (k : Int) : modL (mulL A B) k = modL (mulL (modL A k) (modL B k)) k := by
  unfold mulL
  rw [cols_mod]
  unfold modL
  rw [List.map_map, List.map_map, List.map_map]
  refine List.map_congr_left fun r _ => ?_
  show ((colsL B).map fun c => dotL r c).map (fun x => x % k) = (((colsL B).map fun r => r.map fun x => x % k).map fun c => dotL (r.map fun x => x % k) c).map fun x => x % k
  rw [List.map_map, List.map_map, List.map_map]
  refine List.map_congr_left fun c _ => ?_
  exact dot_mod k r c
theorem mod_congr {A A' B B' : List (List Int)} {k : Int} (h : modL A k = modL A' k) (g : modL B k = modL B' k) : modL (mulL A B) k = modL (mulL A' B') k := by
  rw [mod_mul A B, mod_mul A' B', h, g]
theorem mul_id {n : Nat} {A : List (List Int)} (h : Sz n A) (h1 : 1 ≤ n) (h3 : n ≤ 3) : mulL A (idL n) = A ∧ mulL (idL n) A = A := by
  have : n = 1 ∨ n = 2 ∨ n = 3 := by omega
  rcases this with rfl | rfl | rfl
  · obtain ⟨a, rfl⟩ := sz1 h
    constructor <;> simp [mulL, colsL, idL, dotL, List.range_succ]
  · obtain ⟨a, b, c, d, rfl⟩ := sz2 h
    constructor <;> simp [mulL, colsL, idL, dotL, List.range_succ]
  · obtain ⟨a, b, c, d, e, f, g, k, l, rfl⟩ := sz3 h
    constructor <;> simp [mulL, colsL, idL, dotL, List.range_succ]
theorem det_mul {n : Nat} {A B : List (List Int)} (hA : Sz n A) (hB : Sz n B) (h1 : 1 ≤ n) (h3 : n ≤ 3) : detL (mulL A B) = detL A * detL B := by
  have : n = 1 ∨ n = 2 ∨ n = 3 := by omega
  rcases this with rfl | rfl | rfl
  · obtain ⟨a, rfl⟩ := sz1 hA
    obtain ⟨b, rfl⟩ := sz1 hB
    simp [mulL, colsL, dotL, detL]
  · obtain ⟨a, b, c, d, rfl⟩ := sz2 hA
    obtain ⟨e, f, g, h, rfl⟩ := sz2 hB
    simp [mulL, colsL, dotL, detL, List.range_succ]
    grind
  · obtain ⟨a, b, c, d, e, f, g, k, l, rfl⟩ := sz3 hA
    obtain ⟨a', b', c', d', e', f', g', k', l', rfl⟩ := sz3 hB
    simp [mulL, colsL, dotL, detL, List.range_succ]
    grind
theorem mul_un {n : Nat} {A B : List (List Int)} (hA : Sz n A) (hB : Sz n B) (h1 : 1 ≤ n) (h3 : n ≤ 3) (u : Un A) (v : Un B) : Un (mulL A B) := by
  unfold Un
  rw [det_mul hA hB h1 h3]
  rcases u with u | u <;> rcases v with v | v <;> rw [u, v] <;> decide
theorem dot_sm {j k : Nat} : ∀ {r s : List Int}, r.length ≤ 3 → (∀ x ∈ r, Sm j x) → (∀ x ∈ s, Sm k x) → Sm (j + k + 3) (dotL r s)
  | [], s, _, _, _ => by
    show Sm _ (List.sum (List.zipWith _ [] s))
    simp
    unfold Sm
    exact Nat.two_pow_pos _
  | a :: r, [], _, _, _ => by
    show Sm _ 0
    unfold Sm
    exact Nat.two_pow_pos _
  | [a], b :: s, _, h, g => by
    show Sm _ (a * b + List.sum (List.zipWith _ [] s))
    simp
    exact ((h a (by simp)).mul (g b (by simp))).mono (by omega)
  | [a, c], [b], _, h, g => by
    show Sm _ (a * b + 0)
    rw [Int.add_zero]
    exact ((h a (by simp)).mul (g b (by simp))).mono (by omega)
  | [a, c], b :: d :: s, _, h, g => by
    show Sm _ (a * b + (c * d + List.sum (List.zipWith _ [] s)))
    simp
    exact (((h a (by simp)).mul (g b (by simp))).add ((h c (by simp)).mul (g d (by simp)))).mono (by omega)
  | [a, c, e], [b], _, h, g => by
    show Sm _ (a * b + 0)
    rw [Int.add_zero]
    exact ((h a (by simp)).mul (g b (by simp))).mono (by omega)
  | [a, c, e], [b, d], _, h, g => by
    show Sm _ (a * b + (c * d + 0))
    rw [Int.add_zero]
    exact (((h a (by simp)).mul (g b (by simp))).add ((h c (by simp)).mul (g d (by simp)))).mono (by omega)
  | [a, c, e], b :: d :: f :: s, _, h, g => by
    show Sm _ (a * b + (c * d + (e * f + List.sum (List.zipWith _ [] s))))
    simp
    have h1 := (h a (by simp)).mul (g b (by simp))
    have h2 := (h c (by simp)).mul (g d (by simp))
    have h3 := (h e (by simp)).mul (g f (by simp))
    exact ((h1.mono (Nat.le_succ _)).add (h2.add h3)).mono (by omega)
  | _ :: _ :: _ :: _ :: _, _, hl, _, _ => by simp at hl
theorem mul_bd {j k n : Nat} {A B : List (List Int)} (hA : Sz n A) (hB : Sz n B) (h3 : n ≤ 3) (ha : Bd j A) (hb : Bd k B) : Bd (j + k + 3) (mulL A B) := by
  intro r hr x hx
  obtain ⟨s, hs, rfl⟩ := List.mem_map.mp hr
  obtain ⟨c, hc, rfl⟩ := List.mem_map.mp hx
  exact dot_sm (by rw [hA.2 s hs]; exact h3) (ha s hs) (cols_bd hB hb c hc)
theorem mod_sz {n : Nat} {A : List (List Int)} (h : Sz n A) (k : Int) : Sz n (modL A k) := by
  refine ⟨by rw [modL_len]; exact h.1, fun r hr => ?_⟩
  obtain ⟨s, hs, rfl⟩ := List.mem_map.mp hr
  rw [List.length_map]
  exact h.2 s hs
theorem mod_bd {A : List (List Int)} {k : Int} (h0 : 0 < k) (h : k ≤ 1000) : Bd 10 (modL A k) := by
  intro r hr x hx
  obtain ⟨s, hs, rfl⟩ := List.mem_map.mp hr
  obtain ⟨y, hy, rfl⟩ := List.mem_map.mp hx
  have h1 := Int.emod_nonneg y (show k ≠ 0 by omega)
  have h2 := Int.emod_lt_of_pos y h0
  show Sm 10 (y % k)
  unfold Sm
  omega
/-! ### differences that are multiples -/
def subL (A B : List (List Int)) : List Int := (List.zipWith (fun r s => List.zipWith (fun x y => x - y) r s) A B).flatten
theorem row_alike {k : Int} : ∀ {r s : List Int}, r.length = s.length → ((List.zipWith (fun x y => x - y) r s).all fun x => decide (x % k = 0)) = decide (r.map (fun x => x % k) = s.map (fun x => x % k))
  | [], [], _ => by simp
  | a :: r, b :: s, h => by
    have ih := row_alike (k := k) (r := r) (s := s) (by simpa using h)
    rw [List.zipWith_cons_cons, List.all_cons, ih, List.map_cons, List.map_cons, Bool.eq_iff_iff]
    simp only [Bool.and_eq_true, decide_eq_true_eq, List.cons.injEq]
    rw [← Int.emod_eq_emod_iff_emod_sub_eq_zero]
theorem all_alike {k : Int} {n : Nat} : ∀ {A B : List (List Int)}, A.length = B.length → (∀ r ∈ A, r.length = n) → (∀ r ∈ B, r.length = n) → ((subL A B).all fun x => decide (x % k = 0)) = decide (modL A k = modL B k)
  | [], [], _, _, _ => by simp [subL, modL]
  | r :: A, s :: B, h, hA, hB => by
    have ih := all_alike (k := k) (A := A) (B := B) (by simpa using h) (fun x hx => hA x (List.mem_cons_of_mem _ hx)) fun x hx => hB x (List.mem_cons_of_mem _ hx)
    have hr := row_alike (k := k) (r := r) (s := s) ((hA r List.mem_cons_self).trans (hB s List.mem_cons_self).symm)
    show ((List.zipWith (fun x y => x - y) r s ++ subL A B).all _) = decide ((r.map (fun x => x % k)) :: modL A k = (s.map (fun x => x % k)) :: modL B k)
    rw [List.all_append, hr, ih, Bool.eq_iff_iff]
    simp only [Bool.and_eq_true, decide_eq_true_eq, List.cons.injEq]
/-! ### texts -/
theorem ints_low {k : Nat} (hk : k < 1900) : ∀ {r : List Int}, (∀ x ∈ r, Sm k x) → Pl.lows (r.map .int) = true
  | [], _ => rfl
  | a :: r, h => by
    show (decide (a.natAbs.log2 < 1920) && Pl.lows (r.map .int)) = true
    have := (h a List.mem_cons_self).log
    rw [ints_low hk fun x hx => h x (List.mem_cons_of_mem _ hx), decide_eq_true (by omega)]
    rfl
theorem rows_low {k : Nat} (hk : k < 1900) : ∀ {A : List (List Int)}, Bd k A → Pl.lows (A.map rowP) = true
  | [], _ => rfl
  | r :: A, h => by
    show (Pl.lows (r.map .int) && Pl.lows (A.map rowP)) = true
    rw [ints_low hk (h r List.mem_cons_self), rows_low hk fun s hs => h s (List.mem_cons_of_mem _ hs)]
    rfl
theorem ints_wt {k : Nat} : ∀ {r : List Int}, (∀ x ∈ r, Sm k x) → Pl.wts (r.map .int) ≤ r.length * (k + 4)
  | [], _ => Nat.zero_le _
  | a :: r, h => by
    show a.natAbs.log2 + 2 + 2 + Pl.wts (r.map .int) ≤ (r.length + 1) * (k + 4)
    have h1 := (h a List.mem_cons_self).log
    have h2 := ints_wt fun x hx => h x (List.mem_cons_of_mem _ hx)
    rw [Nat.succ_mul]
    omega
theorem rows_wt {k n : Nat} : ∀ {A : List (List Int)}, (∀ r ∈ A, r.length = n) → Bd k A → Pl.wts (A.map rowP) ≤ A.length * (n * (k + 4) + 5)
  | [], _, _ => Nat.zero_le _
  | r :: A, hn, h => by
    show Pl.wts (r.map .int) + 3 + 2 + Pl.wts (A.map rowP) ≤ (A.length + 1) * (n * (k + 4) + 5)
    have h1 := ints_wt (h r List.mem_cons_self)
    rw [hn r List.mem_cons_self] at h1
    have h2 := rows_wt (fun s hs => hn s (List.mem_cons_of_mem _ hs)) fun s hs => h s (List.mem_cons_of_mem _ hs)
    rw [Nat.succ_mul]
    omega
theorem tab_wt {k n : Nat} {A : List (List Int)} (hA : Sz n A) (h3 : n ≤ 3) (hb : Bd k A) : (tabP A).wt ≤ 9 * k + 60 := by
  show Pl.wts (A.map rowP) + 3 ≤ _
  have h := rows_wt hA.2 hb
  rw [hA.1] at h
  have : n = 0 ∨ n = 1 ∨ n = 2 ∨ n = 3 := by omega
  rcases this with rfl | rfl | rfl | rfl <;> omega
/-- the text of a list of two tables -/
theorem repr_two {k n : Nat} {A B : List (List Int)} {m : Mem} (hA : Sz n A) (hB : Sz n B) (h3 : n ≤ 3) (ha : Bd k A) (hb : Bd k B) (hk : k < 1900) : ∃ x : Str, reprD [.lst [tabD A, tabD B]] m = some (.str x, m) := by
  have z := repr_pl (m := m) (.lst [tabP A, tabP B]) ?_ ?_ ?_
  · rw [show (Pl.lst [tabP A, tabP B]).d = .lst [tabD A, tabD B] from by show D.lst [(tabP A).d, (tabP B).d] = _; rw [tabP_d, tabP_d]] at z
    exact ⟨_, z⟩
  · show ((tabP A).low && ((tabP B).low && true)) = true
    rw [show (tabP A).low = true from rows_low hk ha, show (tabP B).low = true from rows_low hk hb]
    rfl
  · show max (tabP A).dep (max (tabP B).dep 0) + 1 ≤ 20
    have h1 := tab_dep A
    have h2 := tab_dep B
    omega
  · show (tabP A).wt + 2 + ((tabP B).wt + 2 + 0) + 3 ≤ 1000000
    have h1 := tab_wt hA h3 ha
    have h2 := tab_wt hB h3 hb
    omega
theorem repr_bls {a b : Bool} {m : Mem} : ∃ x : Str, reprD [.lst [.bl a, .bl b]] m = some (.str x, m) := by
  have z := repr_pl (m := m) (.lst [.bl a, .bl b]) rfl (by show max 0 (max 0 0) + 1 ≤ 20; decide) (by show 5 + 2 + (5 + 2 + 0) + 3 ≤ 1000000; decide)
  exact ⟨_, z⟩
end Tab

set_option Elab.async false
set_option linter.all false
set_option maxRecDepth 100000
set_option maxHeartbeats 4000000
set_option autoImplicit false
/-! KtK: the pot made of the script; the law's frame. -/
namespace Tab
open PySem L2 Kb

/-- at the law's end nothing is kept -/
theorem run_v0 {n a : Nat} {b : SS} {ds : List D} {m' : Mem} {k : Bool} (hl : ds.length = a) (h : b (ds.map some ++ List.replicate (n - a) none) [] = some (.rt (.bl k) m')) : runB outV n a b ds [] = some (.bl k, []) := by
  unfold runB
  rw [if_pos hl, h]
  rfl
noncomputable def b_pot (c1 c2 c3 c4 c5 N M : Int) : SS := seqS (setS (.n 2) (iteE (tstB (Kb.bin ltD (var 1) (app lenD (argC (var 0) argN)))) (app absD (argC (Kb.bin ixD (var 0) (var 1)) argN)) (Kb.bin addD (Kb.bin mulD (cst (.int c1)) (var 1)) (cst (.int c2)))))
  (retS (lstNE (argC (app maxD (argC (cst (.int 0)) (argC (Kb.bin subD (var 2) (Kb.bin powD (cst (.int 10)) (cst (.int 18)))) argN))) (argC (Kb.bin addD (Kb.bin modD (app intD (argC (Kb.bin addD (Kb.bin addD (Kb.bin mulD (Kb.bin modD (app intD (argC (var 2) argN)) (cst (.int N))) (cst (.int c3))) (Kb.bin mulD (cst (.int c4)) (var 1))) (cst (.int c5))) argN)) (cst (.int M))) (cst (.int 1))) argN))))
def Pots (pt : Fs) : Prop := ∀ (ns : List Int) (j : Nat) (m : Mem), j < 100 → ∃ c, pt [.scr ns, .int (j : Int)] m = some (.loc m.length, m ++ [c]) ∧ potC c
theorem pow18 {m : Mem} : powD (.int 10) (.int 18) m = some (.int 1000000000000000000, m) := by
  rw [powD_int, if_pos (by decide)]
  rfl
theorem pot_ok {c1 c2 c3 c4 c5 N M : Int} (h1 : Sm 40 c1) (h3 : Sm 40 c3) (h4 : Sm 40 c4) (hM : 0 < M ∧ M ≤ 4294967294 := by decide) (hN : 0 < N ∧ N ≤ 4294967295 := by decide) : Pots (runB outL 3 2 (b_pot c1 c2 c3 c4 c5 N M)) := fun ns j m hj => by
  have hjs : Sm 40 (j : Int) := by
    unfold Sm
    rw [Int.natAbs_natCast]
    exact Nat.lt_of_lt_of_le hj (by decide)
  have m1 := mulD_sm (m := m) h1 hjs
  have m4 := mulD_sm (m := m) h4 hjs
  have cell : ∃ x : Int, (iteE (tstB (Kb.bin ltD (var 1) (app lenD (argC (var 0) argN)))) (app absD (argC (Kb.bin ixD (var 0) (var 1)) argN)) (Kb.bin addD (Kb.bin mulD (cst (.int c1)) (var 1)) (cst (.int c2)))) [some (.scr ns), some (.int (j : Int)), none] m = some (.int x, m) := by
    by_cases hl : j < ns.length
    · have hl' : (j : Int) < (ns.length : Int) := by omega
      have e : atI (ns.map D.int) (j : Int) = some (.int ns[j]) := by
        rw [atI_nat (by rw [List.length_map]; exact hl), List.getElem_map]
      exact ⟨_, by simp [hl, hl', e]; rfl⟩
    · have hl' : ¬ (j : Int) < (ns.length : Int) := by omega
      exact ⟨_, by simp [hl, hl', m1]; rfl⟩
  obtain ⟨x, hx⟩ := cell
  have r0 : 0 ≤ x % N ∧ x % N < N := ⟨Int.emod_nonneg _ (by omega), Int.emod_lt_of_pos _ (by omega)⟩
  have m3 := mulD_sm (m := m) (sm_pot r0.1 (by omega)) h3
  have r1 : 0 ≤ (x % N * c3 + c4 * (j : Int) + c5) % M ∧ (x % N * c3 + c4 * (j : Int) + c5) % M < M := ⟨Int.emod_nonneg _ (by omega), Int.emod_lt_of_pos _ (by omega)⟩
  refine ⟨.lst [.int (if x - 1000000000000000000 > 0 then x - 1000000000000000000 else 0), .int ((x % N * c3 + c4 * (j : Int) + c5) % M + 1)], ?_, _, _, rfl, ?_, by omega, by omega⟩
  · have key : b_pot c1 c2 c3 c4 c5 N M [some (.scr ns), some (.int (j : Int)), none] m = some (.rt (.loc m.length) (m ++ [.lst [.int (if x - 1000000000000000000 > 0 then x - 1000000000000000000 else 0), .int ((x % N * c3 + c4 * (j : Int) + c5) % M + 1)]])) := by
      unfold b_pot
      rw [seqS_def, setS_def, hx]
      simp [pow18, m3, m4, hM.1, hN.1]
    show ((b_pot c1 c2 c3 c4 c5 N M) [some (.scr ns), some (.int (j : Int)), none] m).bind _ = _
    rw [key]
    rfl
  · split <;> omega
theorem pot_here {m : Mem} {c : Cell} (hc : potC c) : Pot (m ++ [c]) m.length := by
  obtain ⟨a, b, rfl, h⟩ := hc
  exact ⟨_, by simp, a, b, rfl, h⟩
/-- what the law's one case answers -/
def Right (rt : Fs) : Prop := ∀ (m : Mem) (n : Nat), Pot m n → ∃ m' : Mem, rt [.loc n] m = some (.bl true, m') ∧ Moved n m m'
theorem all_true {m : Mem} {ys : List D} (h : ∀ y ∈ ys, y = .bl true) : allD [.lst ys] m = some (.bl true, m) := by
  have e : ys = (List.replicate ys.length true).map D.bl := by
    rw [List.map_replicate]
    exact List.eq_replicate_iff.mpr ⟨rfl, h⟩
  rw [e, allD_bls]
  simp
theorem law_rng (most : Nat) (hmo : most ≤ 50) (ns : List Int) (tl : Ev) (m : Mem) : ∃ c : Nat, c ≤ 50 ∧ rng1 (argC (app maxD (argC (cst (.int 1)) (argC (app minD (argC (cst (.int (most : Int))) (argC (app lenD (argC (var 0) argN)) argN))) argN))) argN) (some (.scr ns) :: tl) m = some ((List.range c).map fun (j : Nat) => D.int (j : Int), m) := by
  obtain ⟨c, hc1, hc2⟩ : ∃ c : Nat, (if (if (ns.length : Int) < (most : Int) then (ns.length : Int) else (most : Int)) > 1 then (if (ns.length : Int) < (most : Int) then (ns.length : Int) else (most : Int)) else 1) = (c : Int) ∧ c ≤ 50 := by
    refine ⟨(if (if (ns.length : Int) < (most : Int) then (ns.length : Int) else (most : Int)) > 1 then (if (ns.length : Int) < (most : Int) then (ns.length : Int) else (most : Int)) else 1).toNat, ?_, ?_⟩
    · split <;> split <;> omega
    · split <;> split <;> omega
  refine ⟨c, hc2, rng1_nat (n := c) ?_ (by omega)⟩
  rw [← hc1]
  simp
theorem law_frame {rt pt : Fs} (hr : Right rt) (hp : Pots pt) (most : Nat) (hmo : most ≤ 50) (ns : List Int) :
    ∃ m : Mem, runB outV 2 1 (retS (app allD (argC (lcE (rng1 (argC (app maxD (argC (cst (.int 1)) (argC (app minD (argC (cst (.int (most : Int))) (argC (app lenD (argC (var 0) argN)) argN))) argN))) argN)) (.n 1) [1] yesB (app rt (argC (app pt (argC (var 0) (argC (var 1) argN))) argN))) argN))) [.scr ns] [] = some (.bl true, m) := by
  obtain ⟨c, hc2, hrng⟩ := law_rng most hmo ns [none] []
  obtain ⟨ys, m', e, _, hl, hy⟩ := lcL_draw (put := (Tg.n 1).put) (te := app rt (argC (app pt (argC (var 0) (argC (var 1) argN))) argN)) (env := [some (.scr ns), none]) (P := fun y => y = .bl true) (fun _ => True) ((List.range c).map fun (j : Nat) => D.int (j : Int)) [] trivial fun d hd m _ => by
    obtain ⟨j, hj, rfl⟩ := List.mem_map.mp hd
    have hj' := List.mem_range.mp hj
    obtain ⟨cc, hpt, hpc⟩ := hp ns j m (by omega)
    obtain ⟨m2, hrt, _⟩ := hr (m ++ [cc]) m.length (pot_here hpc)
    exact ⟨[some (.scr ns), some (.int (j : Int))], .bl true, m2, rfl, by simp [hpt, hrt], rfl, trivial⟩
  have hl2 : ys.length ≤ 100000 := by
    rw [hl, List.length_map, List.length_range]
    omega
  exact ⟨[], run_v0 (m' := m') rfl (by simp [hrng, e, hl2, all_true hy])⟩
/-- a law of one case -/
theorem law_one {rt pt : Fs} (hr : Right rt) (hp : Pots pt) (ns : List Int) : ∃ m : Mem, runB outV 1 1 (retS (app rt (argC (app pt (argC (var 0) (argC (cst (.int 0)) argN))) argN))) [.scr ns] [] = some (.bl true, m) := by
  obtain ⟨cc, hpt, hpc⟩ := hp ns 0 [] (by decide)
  obtain ⟨m2, hrt, _⟩ := hr ([] ++ [cc]) 0 (pot_here (m := []) hpc)
  refine ⟨[], run_v0 (m' := m2) rfl ?_⟩
  have hpt : pt [.scr ns, .int 0] [] = some (.loc 0, [cc]) := hpt
  have hrt : rt [.loc 0] [cc] = some (.bl true, m2) := hrt
  simp [hpt, hrt]
/-- pots made one behind the other -/
theorem pots_made {pt : Fs} (hp : Pots pt) (ns : List Int) {put : D → Ev → Option Ev} {te : SE} {env : Ev} (h : ∀ (j : Nat) (m m' : Mem) (d : D), pt [.scr ns, .int (j : Int)] m = some (d, m') → ∃ env1, put (.int (j : Int)) env = some env1 ∧ te env1 m = some (d, m')) :
    ∀ (js : List Nat) (m : Mem), (∀ j ∈ js, j < 100) → ∃ cs : List Cell, lcL put yesB te env (js.map fun (j : Nat) => D.int (j : Int)) m = some ((List.range js.length).map fun i => D.loc (m.length + i), m ++ cs) ∧ cs.length = js.length ∧ ∀ c ∈ cs, potC c
  | [], m, _ => ⟨[], by simp [lcL], rfl, fun _ h => (nomatch h)⟩
  | j :: js, m, hj => by
    obtain ⟨c, h1, h2⟩ := hp ns j m (hj j List.mem_cons_self)
    obtain ⟨env1, h3, h4⟩ := h j m _ _ h1
    obtain ⟨cs, h5, h6, h7⟩ := pots_made hp ns h js (m ++ [c]) fun i hi => hj i (List.mem_cons_of_mem _ hi)
    refine ⟨c :: cs, ?_, by rw [List.length_cons, List.length_cons, h6], fun x hx => ?_⟩
    · show ((put (.int (j : Int)) env).bind fun env1 => (yesB env1 m).bind fun p => if p.1 then (te env1 p.2).bind fun q => (lcL put yesB te env (js.map fun (j : Nat) => D.int (j : Int)) q.2).map fun w => (q.1 :: w.1, w.2) else lcL put yesB te env (js.map fun (j : Nat) => D.int (j : Int)) p.2) = _
      rw [h3]
      show ((te env1 m).bind fun q => (lcL put yesB te env (js.map fun (j : Nat) => D.int (j : Int)) q.2).map fun w => (q.1 :: w.1, w.2)) = _
      rw [h4]
      show (lcL put yesB te env (js.map fun (j : Nat) => D.int (j : Int)) (m ++ [c])).map (fun w => (D.loc m.length :: w.1, w.2)) = _
      rw [h5, List.append_assoc, List.length_append, List.length_singleton, List.length_cons, List.range_succ_eq_map]
      simp only [Option.map_some, List.singleton_append, List.map_cons, List.map_map, Nat.add_zero]
      congr 3
      refine List.map_congr_left fun i _ => ?_
      show D.loc (m.length + 1 + i) = D.loc (m.length + (i + 1))
      rw [show m.length + 1 + i = m.length + (i + 1) from by omega]
    · rcases List.mem_cons.mp hx with z | z
      · rw [z]; exact h2
      · exact h7 x z
/-- each of the pots, one behind the other -/
theorem pots_all {put : D → Ev → Option Ev} {te : SE} {env : Ev} {N : Nat} (h : ∀ (n : Nat) (m : Mem), Pot m n → ∃ env1 m', put (.loc n) env = some env1 ∧ te env1 m = some (.bl true, m') ∧ Moved n m m') :
    ∀ (js : List Nat) (m : Mem), (∀ j ∈ js, Pot m j) → ∃ (ys : List D) (m' : Mem), lcL put yesB te env (js.map D.loc) m = some (ys, m') ∧ ys.length = js.length ∧ ∀ y ∈ ys, y = .bl true
  | [], m, _ => ⟨[], m, rfl, rfl, fun _ h => (nomatch h)⟩
  | j :: js, m, hj => by
    obtain ⟨env1, m1, h1, h2, h3⟩ := h j m (hj j List.mem_cons_self)
    obtain ⟨ys, m2, h4, h5, h6⟩ := pots_all (N := N) h js m1 fun i hi => by
      by_cases e : i = j
      · rw [e]; exact h3.1
      · obtain ⟨c, g1, g2⟩ := hj i (List.mem_cons_of_mem _ hi)
        obtain ⟨c2, rfl⟩ := h3.2
        exact ⟨c, by rw [List.getElem?_set_ne (Ne.symm e)]; exact g1, g2⟩
    refine ⟨.bl true :: ys, m2, ?_, by rw [List.length_cons, List.length_cons, h5], fun y hy => ?_⟩
    · show ((put (.loc j) env).bind fun env1 => (yesB env1 m).bind fun p => if p.1 then (te env1 p.2).bind fun q => (lcL put yesB te env (js.map D.loc) q.2).map fun w => (q.1 :: w.1, w.2) else lcL put yesB te env (js.map D.loc) p.2) = _
      rw [h1]
      show ((te env1 m).bind fun q => (lcL put yesB te env (js.map D.loc) q.2).map fun w => (q.1 :: w.1, w.2)) = _
      rw [h2]
      show (lcL put yesB te env (js.map D.loc) m1).map (fun w => (D.bl true :: w.1, w.2)) = _
      rw [h4]
      rfl
    · rcases List.mem_cons.mp hy with z | z
      · exact z
      · exact h6 y z
/-- a law that makes all pots ahead of its cases -/
theorem law_pots {pt : Fs} {te : SE} (hte : ∀ (n : Nat) (m : Mem) (a b : D), Pot m n → ∃ m' : Mem, te [some a, some b, none, some (.loc n)] m = some (.bl true, m') ∧ Moved n m m') (hp : Pots pt) (most : Nat) (hmo : most ≤ 50) (ns : List Int) :
    ∃ m : Mem, runB outV 4 1 (seqS (setS (.n 1) (lcE (rng1 (argC (app maxD (argC (cst (.int 1)) (argC (app minD (argC (cst (.int (most : Int))) (argC (app lenD (argC (var 0) argN)) argN))) argN))) argN)) (.n 2) [2] yesB (app pt (argC (var 0) (argC (var 2) argN))))) (retS (app allD (argC (lcE (itE (var 1)) (.n 3) [3] yesB te) argN)))) [.scr ns] [] = some (.bl true, m) := by
  obtain ⟨c, hc2, hrng⟩ := law_rng most hmo ns [none, none, none] []
  obtain ⟨cs, e1, hl1, hcs⟩ := pots_made hp ns (put := (Tg.n 2).put) (te := app pt (argC (var 0) (argC (var 2) argN))) (env := [some (.scr ns), none, none, none]) (fun j m m' d h => ⟨_, rfl, by simp [h]⟩) (List.range c) [] fun j hj => by
    have := List.mem_range.mp hj
    omega
  rw [List.length_range] at e1 hl1
  have e1' : (List.range c).map (fun i => D.loc (([] : Mem).length + i)) = (List.range c).map D.loc := List.map_congr_left fun i _ => by
    show D.loc (0 + i) = D.loc i
    rw [Nat.zero_add]
  rw [e1', List.nil_append] at e1
  obtain ⟨ys, m', e2, hl2, hy⟩ := pots_all (N := 0) (put := (Tg.n 3).put) (te := te) (env := [some (.scr ns), some (.lst ((List.range c).map D.loc)), none, none]) (fun n m hm => by
    obtain ⟨m1, h1, h2⟩ := hte n m (.scr ns) (.lst ((List.range c).map D.loc)) hm
    exact ⟨_, m1, rfl, h1, h2⟩) (List.range c) cs fun j hj => by
      have hj' := List.mem_range.mp hj
      have hlt : j < cs.length := by omega
      exact ⟨cs[j], List.getElem?_eq_getElem hlt, hcs _ (List.getElem_mem hlt)⟩
  have h3 : c ≤ 100000 := by omega
  have h4 : ys.length ≤ 100000 := by rw [hl2, List.length_range]; exact h3
  exact ⟨[], run_v0 (m' := m') rfl (by simp [hrng, e1, h3, e2, h4, all_true hy])⟩
/-- the cases, one behind the other, by a loop -/
theorem law_loop {rt pt : Fs} (hr : Right rt) (hp : Pots pt) (most : Nat) (hmo : most ≤ 50) (ns : List Int) :
    ∃ m : Mem, runB outV 2 1 (seqS (forS (rng1 (argC (app maxD (argC (cst (.int 1)) (argC (app minD (argC (cst (.int (most : Int))) (argC (app lenD (argC (var 0) argN)) argN))) argN))) argN)) (.n 1) (ifS (notB (tstE (app rt (argC (app pt (argC (var 0) (argC (var 1) argN))) argN)))) (retS (cst (.bl false))) skS)) (retS (cst (.bl true)))) [.scr ns] [] = some (.bl true, m) := by
  obtain ⟨c, hc2, hrng⟩ := law_rng most hmo ns [none] []
  obtain ⟨env', m', e, o, rfl⟩ := forL_inv (put := (Tg.n 1).put) (body := ifS (notB (tstE (app rt (argC (app pt (argC (var 0) (argC (var 1) argN))) argN)))) (retS (cst (.bl false))) skS) (fun env m => ∃ o, env = [some (.scr ns), o]) ((List.range c).map fun (j : Nat) => D.int (j : Int)) [some (.scr ns), none] [] ⟨none, rfl⟩ fun d hd env m ⟨o, he⟩ => by
    subst he
    obtain ⟨j, hj, rfl⟩ := List.mem_map.mp hd
    have hj' := List.mem_range.mp hj
    obtain ⟨cc, hpt, hpc⟩ := hp ns j m (by omega)
    obtain ⟨m2, hrt, _⟩ := hr (m ++ [cc]) m.length (pot_here hpc)
    exact ⟨[some (.scr ns), some (.int (j : Int))], .nx [some (.scr ns), some (.int (j : Int))] m2, rfl, by simp [hpt, hrt], _, rfl⟩
  exact ⟨[], run_v0 (m' := m') rfl (by simp [hrng, e])⟩
end Tab

set_option Elab.async false
set_option linter.all false
set_option maxRecDepth 100000
set_option maxHeartbeats 8000000
set_option autoImplicit false
/-! KtM: undone tables. -/
namespace Tab
open PySem L2 Kb
def minorL (A : List (List Int)) (i j : Nat) : List (List Int) := (A.eraseIdx i).map fun r => r.eraseIdx j
def cof (A : List (List Int)) (i j : Nat) : Int := if (i + j) % 2 = 0 then detL (minorL A i j) else 0 - detL (minorL A i j)
def undL (A : List (List Int)) (d : Int) : List (List Int) := if A.length = 1 then A else (List.range A.length).map fun p => (List.range A.length).map fun o => cof A o p * d
section
variable {m : Mem}
theorem left2 {a b c d : Int} : ∀ i j : Nat, i < 2 → j < 2 → f_left_without [tabD [[a, b], [c, d]], .int (i : Int), .int (j : Int)] m = some (.lst ((minorL [[a, b], [c, d]] i j).map rowD), m) := by
  intro i j hi hj
  have h1 : i = 0 ∨ i = 1 := by omega
  have h2 : j = 0 ∨ j = 1 := by omega
  rcases h1 with rfl | rfl <;> rcases h2 with rfl | rfl <;>
  · refine run_p rfl ?_
    simp [b_left_without, numD, lcL, cutL, HT.sIx, List.range_succ, minorL]
theorem left33 {a b c d e f g k l : Int} : ∀ i j : Nat, i < 3 → j < 3 → f_left_without [tabD [[a, b, c], [d, e, f], [g, k, l]], .int (i : Int), .int (j : Int)] m = some (.lst ((minorL [[a, b, c], [d, e, f], [g, k, l]] i j).map rowD), m) := by
  intro i j hi hj
  have h1 : i = 0 ∨ i = 1 ∨ i = 2 := by omega
  have h2 : j = 0 ∨ j = 1 ∨ j = 2 := by omega
  rcases h1 with rfl | rfl | rfl <;> rcases h2 with rfl | rfl | rfl <;>
  · refine run_p rfl ?_
    simp [b_left_without, numD, lcL, cutL, HT.sIx, List.range_succ, minorL]
theorem det1l (n : Nat) {a : Int} : f_determinant_of (n + 1) [.lst [rowD [a]]] m = some (.int a, m) := by
  refine run_p rfl ?_
  simp [b_determinant_of, atI, ixN]
theorem minor_det {A : List (List Int)} {n i j : Nat} (hA : Sz n A) (hb : Bd 4000 A) (h2 : 2 ≤ n) (h3 : n ≤ 3) (hi : i < n) (hj : j < n) : f_determinant_of 3 [.lst ((minorL A i j).map rowD)] m = some (.int (detL (minorL A i j)), m) := by
  have w : ∀ {x : Int}, Sm 4000 x → Sm 9000 x := fun h => h.mono (by decide)
  have : n = 2 ∨ n = 3 := by omega
  rcases this with rfl | rfl
  · obtain ⟨a, b, c, d, rfl⟩ := sz2 hA
    have h1 : i = 0 ∨ i = 1 := by omega
    have h2 : j = 0 ∨ j = 1 := by omega
    rcases h1 with rfl | rfl <;> rcases h2 with rfl | rfl <;> exact det1l 2
  · obtain ⟨a, b, c, d, e, f, g, k, l, rfl⟩ := sz3 hA
    have ba : ∀ x ∈ [a, b, c], Sm 9000 x := fun x hx => w (hb _ (by simp) x hx)
    have bd : ∀ x ∈ [d, e, f], Sm 9000 x := fun x hx => w (hb _ (by simp) x hx)
    have bg : ∀ x ∈ [g, k, l], Sm 9000 x := fun x hx => w (hb _ (by simp) x hx)
    have h1 : i = 0 ∨ i = 1 ∨ i = 2 := by omega
    have h2 : j = 0 ∨ j = 1 ∨ j = 2 := by omega
    simp only [List.mem_cons, List.not_mem_nil, or_false, forall_eq_or_imp, forall_eq] at ba bd bg
    rcases h1 with rfl | rfl | rfl <;> rcases h2 with rfl | rfl | rfl
    · exact det2g (.inr rfl) 2 bd.2.1 bd.2.2 bg.2.1 bg.2.2
    · exact det2g (.inr rfl) 2 bd.1 bd.2.2 bg.1 bg.2.2
    · exact det2g (.inr rfl) 2 bd.1 bd.2.1 bg.1 bg.2.1
    · exact det2g (.inr rfl) 2 ba.2.1 ba.2.2 bg.2.1 bg.2.2
    · exact det2g (.inr rfl) 2 ba.1 ba.2.2 bg.1 bg.2.2
    · exact det2g (.inr rfl) 2 ba.1 ba.2.1 bg.1 bg.2.1
    · exact det2g (.inr rfl) 2 ba.2.1 ba.2.2 bd.2.1 bd.2.2
    · exact det2g (.inr rfl) 2 ba.1 ba.2.2 bd.1 bd.2.2
    · exact det2g (.inr rfl) 2 ba.1 ba.2.1 bd.1 bd.2.1
theorem left {A : List (List Int)} {n i j : Nat} (hA : Sz n A) (h2 : 2 ≤ n) (h3 : n ≤ 3) (hi : i < n) (hj : j < n) : f_left_without [tabD A, .int (i : Int), .int (j : Int)] m = some (.lst ((minorL A i j).map rowD), m) := by
  have : n = 2 ∨ n = 3 := by omega
  rcases this with rfl | rfl
  · obtain ⟨a, b, c, d, rfl⟩ := sz2 hA
    exact left2 i j hi hj
  · obtain ⟨a, b, c, d, e, f, g, k, l, rfl⟩ := sz3 hA
    exact left33 i j hi hj
theorem signed_rest {A : List (List Int)} {n i j : Nat} (hA : Sz n A) (hb : Bd 4000 A) (h2 : 2 ≤ n) (h3 : n ≤ 3) (hi : i < n) (hj : j < n) : f_signed_rest [tabD A, .int (i : Int), .int (j : Int)] m = some (.int (cof A i j), m) := by
  refine run_p rfl ?_
  have h1 := left (m := m) hA h2 h3 hi hj
  have hd := minor_det (m := m) hA hb h2 h3 hi hj
  have sij : Sm 10 (((i : Int) + (j : Int)) / 2) := by
    unfold Sm
    omega
  have mu := mulD_sm (m := m) sij (sm_lit (k := 10) (a := 2))
  have l2 : Nat.log2 2 < 9000 := by decide
  have hc : cof A i j = if ((i : Int) + (j : Int)) / 2 * 2 = (i : Int) + (j : Int) then detL (minorL A i j) else 0 - detL (minorL A i j) := by
    unfold cof
    by_cases h : (i + j) % 2 = 0
    · rw [if_pos h, if_pos (by omega)]
    · rw [if_neg h, if_neg (by omega)]
  rw [hc]
  by_cases h : ((i : Int) + (j : Int)) / 2 * 2 = (i : Int) + (j : Int)
  · simp [b_signed_rest, h1, hd, mu, l2, h]
  · simp [b_signed_rest, h1, hd, mu, l2, h]
end
end Tab

set_option Elab.async false
set_option linter.all false
set_option maxRecDepth 100000
set_option maxHeartbeats 8000000
set_option autoImplicit false
/-! KtN: undone tables, their laws; properties. -/
namespace Tab
open PySem L2 Kb
theorem cof_sm {A : List (List Int)} {n i j k : Nat} (hA : Sz n A) (hb : Bd k A) (h2 : 2 ≤ n) (h3 : n ≤ 3) (hi : i < n) (hj : j < n) : Sm (2 * k + 3) (cof A i j) := by
  have key : Sm (2 * k + 2) (detL (minorL A i j)) := by
    have : n = 2 ∨ n = 3 := by omega
    rcases this with rfl | rfl
    · obtain ⟨a, b, c, d, rfl⟩ := sz2 hA
      have ba : ∀ x ∈ [a, b], Sm k x := fun x hx => hb _ (by simp) x hx
      have bc : ∀ x ∈ [c, d], Sm k x := fun x hx => hb _ (by simp) x hx
      simp only [List.mem_cons, List.not_mem_nil, or_false, forall_eq_or_imp, forall_eq] at ba bc
      have h1 : i = 0 ∨ i = 1 := by omega
      have h2 : j = 0 ∨ j = 1 := by omega
      rcases h1 with rfl | rfl <;> rcases h2 with rfl | rfl
      · exact bc.2.mono (by omega)
      · exact bc.1.mono (by omega)
      · exact ba.2.mono (by omega)
      · exact ba.1.mono (by omega)
    · obtain ⟨a, b, c, d, e, f, g, q, l, rfl⟩ := sz3 hA
      have ba : ∀ x ∈ [a, b, c], Sm k x := fun x hx => hb _ (by simp) x hx
      have bd : ∀ x ∈ [d, e, f], Sm k x := fun x hx => hb _ (by simp) x hx
      have bg : ∀ x ∈ [g, q, l], Sm k x := fun x hx => hb _ (by simp) x hx
      simp only [List.mem_cons, List.not_mem_nil, or_false, forall_eq_or_imp, forall_eq] at ba bd bg
      have two : ∀ {a b c d : Int}, Sm k a → Sm k b → Sm k c → Sm k d → Sm (2 * k + 2) (a * d - b * c) := fun ha hb hc hd => ((ha.mul hd).sub (hb.mul hc)).mono (by omega)
      have h1 : i = 0 ∨ i = 1 ∨ i = 2 := by omega
      have h2 : j = 0 ∨ j = 1 ∨ j = 2 := by omega
      rcases h1 with rfl | rfl | rfl <;> rcases h2 with rfl | rfl | rfl
      · exact two bd.2.1 bd.2.2 bg.2.1 bg.2.2
      · exact two bd.1 bd.2.2 bg.1 bg.2.2
      · exact two bd.1 bd.2.1 bg.1 bg.2.1
      · exact two ba.2.1 ba.2.2 bg.2.1 bg.2.2
      · exact two ba.1 ba.2.2 bg.1 bg.2.2
      · exact two ba.1 ba.2.1 bg.1 bg.2.1
      · exact two ba.2.1 ba.2.2 bd.2.1 bd.2.2
      · exact two ba.1 ba.2.2 bd.1 bd.2.2
      · exact two ba.1 ba.2.1 bd.1 bd.2.1
  unfold cof
  split
  · exact key.mono (by omega)
  · rw [Int.zero_sub]
    exact key.neg.mono (by omega)
section
variable {m : Mem}
theorem undone_rows {A : List (List Int)} {n : Nat} {d : Int} (hA : Sz n A) (hb : Bd 4000 A) (h1 : 1 ≤ n) (h3 : n ≤ 3) (hd : Sm 1 d) : f_undone_rows [tabD A, .int d] m = some (tabD (undL A d), m) := by
  refine run_p rfl ?_
  by_cases hn : n = 1
  · subst hn
    have e : undL A d = A := by
      unfold undL
      rw [if_pos hA.1]
    rw [e]
    simp [b_undone_rows, hA.1]
  · have h2 : 2 ≤ n := by omega
    have hl : A.length = n := hA.1
    have e : undL A d = (List.range n).map fun p => (List.range n).map fun o => cof A o p * d := by
      unfold undL
      rw [if_neg (by omega), hl]
    have it : ∀ m : Mem, iterD m (.rng 0 (n : Int)) = some ((List.range n).map fun (j : Nat) => D.int (j : Int), m) := fun m => by
      show (if (0 : Int).natAbs ≤ 1000000 ∧ ((n : Int)).natAbs ≤ 1000000 then some (rngD 0 ((n : Int) - 0).toNat, m) else none) = _
      rw [if_pos (by omega)]
      unfold rngD
      rw [Int.sub_zero, Int.toNat_natCast]
      refine congrArg (fun l => some (l, m)) (List.map_congr_left fun i _ => ?_)
      rw [Int.zero_add]
    have in1 : ∀ p : Nat, p < n → lcL (Tg.n 3).put yesB (Kb.bin mulD (app f_signed_rest (argC (var 0) (argC (var 3) (argC (var 4) argN)))) (var 1)) [some (tabD A), some (.int d), some (.rng 0 (n : Int)), none, some (.int (p : Int))] ((List.range n).map fun (j : Nat) => D.int (j : Int)) m = some (((List.range n).map fun o => cof A o p * d).map D.int, m) := by
      intro p hp
      rw [List.map_map]
      refine lcL_of (fun (j : Nat) => D.int (j : Int)) _ (List.range n) fun o ho => ⟨_, rfl, rfl, ?_⟩
      have ho' := List.mem_range.mp ho
      have s := signed_rest (m := m) hA hb h2 h3 ho' hp
      have mu := mulD_sm (m := m) (cof_sm hA hb h2 h3 ho' hp) hd
      simp [s, mu]
    have out : lcL (Tg.n 4).put yesB (app tupleD (argC (lcE (itE (var 2)) (.n 3) [3] yesB (Kb.bin mulD (app f_signed_rest (argC (var 0) (argC (var 3) (argC (var 4) argN)))) (var 1))) argN)) [some (tabD A), some (.int d), some (.rng 0 (n : Int)), none, none] ((List.range n).map fun (j : Nat) => D.int (j : Int)) m = some ((undL A d).map rowD, m) := by
      rw [e, List.map_map]
      refine lcL_of (fun (j : Nat) => D.int (j : Int)) _ (List.range n) fun p hp => ⟨_, rfl, rfl, ?_⟩
      have hl2 : n ≤ 100000 := by omega
      simp [it, in1 p (List.mem_range.mp hp), hl2]
    have hl2 : (undL A d).length ≤ 100000 := by
      rw [e, List.length_map, List.length_range]
      omega
    have hrg : ∀ m : Mem, rangeD [.int (n : Int)] m = some (.rng 0 (n : Int), m) := fun _ => rfl
    have hn' : ¬ (n : Int) = 1 := by omega
    simp [b_undone_rows, hl, hn', hrg, it, out, hl2]
theorem tab_undone {A : List (List Int)} {n : Nat} {d : Int} (hA : Sz n A) (hb : Bd 4000 A) (h1 : 1 ≤ n) (h3 : n ≤ 3) (hd : Sm 1 d) : f_Table_undone [tabO A d] m = some (tabO (undL A d) d, m) := by
  refine run_p rfl ?_
  simp [b_Table_undone, undone_rows hA hb h1 h3 hd, table_by]
theorem tab_rows {A : List (List Int)} {d : Int} : f_Table_rows [tabO A d] m = some (tabD A, m) := by
  refine run_p rfl ?_
  simp [b_Table_rows]
theorem tab_det {A : List (List Int)} {d : Int} : f_Table_determinant [tabO A d] m = some (.int d, m) := by
  refine run_p rfl ?_
  simp [b_Table_determinant]
theorem tab_size {A : List (List Int)} {d : Int} : f_Table_size [tabO A d] m = some (.int (A.length : Int), m) := by
  refine run_p rfl ?_
  simp [b_Table_size]
theorem tab_eq {A B : List (List Int)} {d e : Int} : f_Table_eq [tabO A d, tabO B e] m = some (.bl (decide (A = B)), m) := by
  refine run_p rfl ?_
  simp [b_Table_eq, tyD, isC, eqD_tab]
theorem is_idle {A : List (List Int)} {n : Nat} {d : Int} (hA : Sz n A) (hn : n ≤ 1000) : f_is_idle [tabO A d] m = some (.bl (decide (A = idL n)), m) := by
  refine run_p rfl ?_
  have h := idle_rows (m := m) hn
  rw [← hA.1] at h ⊢
  simp [b_is_idle, want_table, h, eqD_tab]
end
/-! ### what undone tables are -/
theorem und_sz {A : List (List Int)} {n : Nat} {d : Int} (hA : Sz n A) : Sz n (undL A d) := by
  unfold undL
  split
  · exact hA
  · refine ⟨by rw [List.length_map, List.length_range]; exact hA.1, fun r hr => ?_⟩
    obtain ⟨p, _, rfl⟩ := List.mem_map.mp hr
    rw [List.length_map, List.length_range]
    exact hA.1
theorem und_bd {A : List (List Int)} {n k : Nat} {d : Int} (hA : Sz n A) (hb : Bd k A) (h1 : 1 ≤ n) (h3 : n ≤ 3) (hd : Sm 1 d) : Bd (2 * k + 4) (undL A d) := by
  unfold undL
  split
  · exact hb.mono (by omega)
  · rename_i hn
    have hl := hA.1
    have h2 : 2 ≤ n := by omega
    intro r hr x hx
    obtain ⟨p, hp, rfl⟩ := List.mem_map.mp hr
    obtain ⟨o, ho, rfl⟩ := List.mem_map.mp hx
    exact (cof_sm hA hb h2 h3 (by rw [← hl]; exact List.mem_range.mp ho) (by rw [← hl]; exact List.mem_range.mp hp)).mul hd
theorem mul_und {A : List (List Int)} {n : Nat} (hA : Sz n A) (h1 : 1 ≤ n) (h3 : n ≤ 3) (u : Un A) : mulL A (undL A (detL A)) = idL n ∧ mulL (undL A (detL A)) A = idL n := by
  have sq : detL A * detL A = 1 := by rcases u with u | u <;> rw [u] <;> rfl
  have : n = 1 ∨ n = 2 ∨ n = 3 := by omega
  rcases this with rfl | rfl | rfl
  · obtain ⟨a, rfl⟩ := sz1 hA
    simp [detL] at sq
    constructor <;> simp [undL, mulL, colsL, idL, dotL, List.range_succ, sq]
  · obtain ⟨a, b, c, d, rfl⟩ := sz2 hA
    simp only [detL] at sq
    constructor <;> simp [undL, mulL, colsL, idL, dotL, List.range_succ, cof, minorL, detL] <;> grind
  · obtain ⟨a, b, c, d, e, f, g, k, l, rfl⟩ := sz3 hA
    simp only [detL] at sq
    constructor <;> simp [undL, mulL, colsL, idL, dotL, List.range_succ, cof, minorL, detL] <;> grind
theorem mul_assoc {A B C : List (List Int)} {n : Nat} (hA : Sz n A) (hB : Sz n B) (hC : Sz n C) (h1 : 1 ≤ n) (h3 : n ≤ 3) : mulL (mulL A B) C = mulL A (mulL B C) := by
  have : n = 1 ∨ n = 2 ∨ n = 3 := by omega
  rcases this with rfl | rfl | rfl
  · obtain ⟨a, rfl⟩ := sz1 hA
    obtain ⟨b, rfl⟩ := sz1 hB
    obtain ⟨c, rfl⟩ := sz1 hC
    simp [mulL, colsL, dotL, List.range_succ]
    grind
  · obtain ⟨a, b, c, d, rfl⟩ := sz2 hA
    obtain ⟨a', b', c', d', rfl⟩ := sz2 hB
    obtain ⟨x, y, z, w, rfl⟩ := sz2 hC
    simp [mulL, colsL, dotL, List.range_succ]
    grind
  · obtain ⟨a, b, c, d, e, f, g, k, l, rfl⟩ := sz3 hA
    obtain ⟨a', b', c', d', e', f', g', k', l', rfl⟩ := sz3 hB
    obtain ⟨p, q, r, s, t, u, v, w, x, rfl⟩ := sz3 hC
    simp [mulL, colsL, dotL, List.range_succ]
    grind
end Tab

set_option Elab.async false
set_option linter.all false
set_option maxRecDepth 100000
set_option maxHeartbeats 8000000
set_option autoImplicit false
/-! KtO: the law's own determinants and undone tables. -/
namespace Tab
open PySem L2 Kb
section
variable {m : Mem}
theorem ld1 {d : List D → D} (hd : d = .tup ∨ d = .lst) (n : Nat) {a : Int} : f_law_det (n + 1) [d [rowD [a]]] m = some (.int a, m) := by
  refine run_p rfl ?_
  rcases hd with rfl | rfl <;> simp [b_law_det, atI, ixN]
/-- the rows behind the first without one column -/
theorem rest_lc {A : List (List Int)} {j : Nat} {o0 o1 o2 o4 : Option D} (f : List Int → List Int) (hf : ∀ r ∈ A, cutL (r.map D.int) none (some (j : Int)) ++ cutL (r.map D.int) (some ((j : Int) + 1)) none = (f r).map D.int ∧ r.length ≤ 3) :
    lcL (Tg.n 5).put yesB (Kb.bin addD (slE (var 5) noO (someO (var 3))) (slE (var 5) (someO (Kb.bin addD (var 3) (cst (.int 1)))) noO)) [o0, o1, o2, some (.int (j : Int)), o4, none] (A.map rowD) m = some (A.map fun r => rowD (f r), m) := by
  refine lcL_of rowD _ A fun r hr => ⟨_, rfl, rfl, ?_⟩
  obtain ⟨h1, h2⟩ := hf r hr
  have hl : (cutL (r.map D.int) none (some (j : Int))).length + (cutL (r.map D.int) (some ((j : Int) + 1)) none).length ≤ 100000 := by
    unfold cutL
    rw [List.length_take, List.length_take, List.length_drop, List.length_drop, List.length_map]
    omega
  simp [hl, h1]
noncomputable def turnD (rec : Fs) : SS := seqS (setS (.n 1) (Kb.bin addD (var 1) (Kb.bin mulD (Kb.bin mulD (var 2) (var 4)) (app rec (argC (lcE (itE (slE (var 0) (someO (cst (.int 1))) noO)) (.n 5) [5] yesB (Kb.bin addD (slE (var 5) noO (someO (var 3))) (slE (var 5) (someO (Kb.bin addD (var 3) (cst (.int 1)))) noO))) argN))))) (setS (.n 2) (Kb.bin subD (cst (.int 0)) (var 2)))
theorem turnD_ok {rec : Fs} {R : D} {A : List (List Int)} {j : Nat} {t s x M : Int} (f : List Int → List Int) (hR : ∀ m : Mem, slD R (some 1) none m = some (.tup (A.map rowD), m) ∨ slD R (some 1) none m = some (.lst (A.map rowD), m)) (hA : A.length ≤ 1000)
    (hf : ∀ r ∈ A, cutL (r.map D.int) none (some (j : Int)) ++ cutL (r.map D.int) (some ((j : Int) + 1)) none = (f r).map D.int ∧ r.length ≤ 3)
    (hrec : rec [.lst (A.map fun r => rowD (f r))] m = some (.int M, m)) (hs : Sm 10 s) (hx : Sm 9000 x) (hM : Sm 20000 M) (hRo : isOwn R = false := by first | rfl | assumption) :
    turnD rec [some R, some (.int t), some (.int s), some (.int (j : Int)), some (.int x), none] m = some (.nx [some R, some (.int (t + s * x * M)), some (.int (0 - s)), some (.int (j : Int)), some (.int x), none] m) := by
  have lc := rest_lc (m := m) (A := A) (j := j) (o0 := some R) (o1 := some (.int t)) (o2 := some (.int s)) (o4 := some (.int x)) f hf
  have hl : A.length ≤ 100000 := by omega
  have m1 := mulD_sm (m := m) hs hx
  have m2 := mulD_sm (m := m) (hs.mul hx) hM
  rcases hR m with h | h <;> simp [turnD, hRo, h, lc, hl, hrec, m1, m2]
theorem cut_out {r : List Int} {j : Nat} (hj : j < r.length) (h3 : r.length ≤ 3) : cutL (r.map D.int) none (some (j : Int)) ++ cutL (r.map D.int) (some ((j : Int) + 1)) none = (r.eraseIdx j).map D.int ∧ r.length ≤ 3 := by
  refine ⟨?_, h3⟩
  have : j = 0 ∨ j = 1 ∨ j = 2 := by omega
  match r, h3 with
  | [], _ => simp at hj
  | [a], _ =>
    have : j = 0 := by simp at hj; omega
    subst this
    rfl
  | [a, b], _ =>
    have : j = 0 ∨ j = 1 := by simp at hj; omega
    rcases this with rfl | rfl <;> rfl
  | [a, b, c], _ =>
    rcases this with rfl | rfl | rfl <;> rfl
theorem ld2 {d : List D → D} (hd : d = .tup ∨ d = .lst) (n : Nat) {a b c e : Int} (ha : Sm 9000 a) (hb : Sm 9000 b) (hc : Sm 9000 c) (he : Sm 9000 e) : f_law_det (n + 2) [d [rowD [a, b], rowD [c, e]]] m = some (.int (a * e - b * c), m) := by
  have fin : b_law_det (f_law_det (n + 1)) [some (d [rowD [a, b], rowD [c, e]]), none, none, none, none, none] m = some (.rt (.int (0 + 1 * a * e + (0 - 1) * b * c)) m) := by
    have hR : ∀ m : Mem, slD (d [rowD [a, b], rowD [c, e]]) (some 1) none m = some (.tup ([[c, e]].map rowD), m) ∨ slD (d [rowD [a, b], rowD [c, e]]) (some 1) none m = some (.lst ([[c, e]].map rowD), m) := fun m => by
      rcases hd with rfl | rfl
      · exact .inl rfl
      · exact .inr rfl
    have hRo : isOwn (d [rowD [a, b], rowD [c, e]]) = false := by rcases hd with rfl | rfl <;> rfl
    have t0 := turnD_ok (m := m) (rec := f_law_det (n + 1)) (R := d [rowD [a, b], rowD [c, e]]) (A := [[c, e]]) (j := 0) (t := 0) (s := 1) (x := a) (M := e) (fun r => r.eraseIdx 0) hR (by simp) (fun r hr => cut_out (by simp at hr; subst hr; simp) (by simp at hr; subst hr; simp)) (ld1 (.inr rfl) n) sm_lit ha (he.mono (by decide))
    have t1 := turnD_ok (m := m) (rec := f_law_det (n + 1)) (R := d [rowD [a, b], rowD [c, e]]) (A := [[c, e]]) (j := 1) (t := 0 + 1 * a * e) (s := 0 - 1) (x := b) (M := c) (fun r => r.eraseIdx 1) hR (by simp) (fun r hr => cut_out (by simp at hr; subst hr; simp) (by simp at hr; subst hr; simp)) (ld1 (.inr rfl) n) sm_lit hb (hc.mono (by decide))
    have loop : forL (Tg.t [3, 4]).put (turnD (f_law_det (n + 1))) [.tup [.int 0, .int a], .tup [.int 1, .int b]] [some (d [rowD [a, b], rowD [c, e]]), some (.int 0), some (.int 1), none, none, none] m = some (.nx [some (d [rowD [a, b], rowD [c, e]]), some (.int (0 + 1 * a * e + (0 - 1) * b * c)), some (.int (0 - (0 - 1))), some (.int 1), some (.int b), none] m) := by
      rw [forL_cons]
      show (turnD (f_law_det (n + 1)) [some (d [rowD [a, b], rowD [c, e]]), some (.int 0), some (.int 1), some (.int ((0 : Nat) : Int)), some (.int a), none] m).bind _ = _
      rw [t0, Option.bind_some, turnO_nx, forL_cons]
      show (turnD (f_law_det (n + 1)) [some (d [rowD [a, b], rowD [c, e]]), some (.int (0 + 1 * a * e)), some (.int (0 - 1)), some (.int ((1 : Nat) : Int)), some (.int b), none] m).bind _ = _
      rw [t1, Option.bind_some, turnO_nx]
      rfl
    unfold turnD at loop
    have hen : numD [D.int a, .int b] = [.tup [.int 0, .int a], .tup [.int 1, .int b]] := rfl
    rcases hd with rfl | rfl <;> simp [b_law_det, atI, ixN, hen, loop, -Int.zero_add, -Int.one_mul, -Int.zero_sub]
  have r := run_p (n := 6) (a := 1) (ds := [d [rowD [a, b], rowD [c, e]]]) rfl fin
  rw [show a * e - b * c = 0 + 1 * a * e + (0 - 1) * b * c from by grind]
  exact r
theorem ld3 {d0 : List D → D} (hd0 : d0 = .tup ∨ d0 = .lst) (n : Nat) {a b c d e f g k i : Int} (ha : Sm 4000 a) (hb : Sm 4000 b) (hc : Sm 4000 c) (hd : Sm 4000 d) (he : Sm 4000 e) (hf : Sm 4000 f) (hg : Sm 4000 g) (hk : Sm 4000 k) (hi : Sm 4000 i) :
    f_law_det (n + 3) [d0 [rowD [a, b, c], rowD [d, e, f], rowD [g, k, i]]] m = some (.int (a * (e * i - f * k) - b * (d * i - f * g) + c * (d * k - e * g)), m) := by
  have w : ∀ {x : Int}, Sm 4000 x → Sm 9000 x := fun h => h.mono (by decide)
  have s0 : Sm 8001 (e * i - f * k) := (he.mul hi).sub (hf.mul hk)
  have s1 : Sm 8001 (d * i - f * g) := (hd.mul hi).sub (hf.mul hg)
  have s2 : Sm 8001 (d * k - e * g) := (hd.mul hk).sub (he.mul hg)
  have hR : ∀ m : Mem, slD (d0 [rowD [a, b, c], rowD [d, e, f], rowD [g, k, i]]) (some 1) none m = some (.tup ([[d, e, f], [g, k, i]].map rowD), m) ∨ slD (d0 [rowD [a, b, c], rowD [d, e, f], rowD [g, k, i]]) (some 1) none m = some (.lst ([[d, e, f], [g, k, i]].map rowD), m) := fun m => by
    rcases hd0 with rfl | rfl
    · exact .inl rfl
    · exact .inr rfl
  have hRo : isOwn (d0 [rowD [a, b, c], rowD [d, e, f], rowD [g, k, i]]) = false := by rcases hd0 with rfl | rfl <;> rfl
  have cut : ∀ j : Nat, j < 3 → ∀ r ∈ [[d, e, f], [g, k, i]], cutL (r.map D.int) none (some (j : Int)) ++ cutL (r.map D.int) (some ((j : Int) + 1)) none = (r.eraseIdx j).map D.int ∧ r.length ≤ 3 := fun j hj r hr => by
    have hl : r.length = 3 := by
      simp only [List.mem_cons, List.not_mem_nil, or_false] at hr
      rcases hr with rfl | rfl <;> rfl
    exact cut_out (by omega) (by omega)
  have t0 := turnD_ok (m := m) (rec := f_law_det (n + 2)) (j := 0) (t := 0) (s := 1) (x := a) (M := e * i - f * k) (fun r => r.eraseIdx 0) hR (by simp) (cut 0 (by decide)) (ld2 (.inr rfl) n (w he) (w hf) (w hk) (w hi)) sm_lit (w ha) (s0.mono (by decide))
  have t1 := turnD_ok (m := m) (rec := f_law_det (n + 2)) (j := 1) (t := 0 + 1 * a * (e * i - f * k)) (s := 0 - 1) (x := b) (M := d * i - f * g) (fun r => r.eraseIdx 1) hR (by simp) (cut 1 (by decide)) (ld2 (.inr rfl) n (w hd) (w hf) (w hg) (w hi)) sm_lit (w hb) (s1.mono (by decide))
  have t2 := turnD_ok (m := m) (rec := f_law_det (n + 2)) (j := 2) (t := 0 + 1 * a * (e * i - f * k) + (0 - 1) * b * (d * i - f * g)) (s := 0 - (0 - 1)) (x := c) (M := d * k - e * g) (fun r => r.eraseIdx 2) hR (by simp) (cut 2 (by decide)) (ld2 (.inr rfl) n (w hd) (w he) (w hg) (w hk)) sm_lit (w hc) (s2.mono (by decide))
  have loop : forL (Tg.t [3, 4]).put (turnD (f_law_det (n + 2))) [.tup [.int 0, .int a], .tup [.int 1, .int b], .tup [.int 2, .int c]] [some (d0 [rowD [a, b, c], rowD [d, e, f], rowD [g, k, i]]), some (.int 0), some (.int 1), none, none, none] m
      = some (.nx [some (d0 [rowD [a, b, c], rowD [d, e, f], rowD [g, k, i]]), some (.int (0 + 1 * a * (e * i - f * k) + (0 - 1) * b * (d * i - f * g) + (0 - (0 - 1)) * c * (d * k - e * g))), some (.int (0 - (0 - (0 - 1)))), some (.int 2), some (.int c), none] m) := by
    rw [forL_cons]
    show (turnD (f_law_det (n + 2)) [some (d0 [rowD [a, b, c], rowD [d, e, f], rowD [g, k, i]]), some (.int 0), some (.int 1), some (.int ((0 : Nat) : Int)), some (.int a), none] m).bind _ = _
    rw [t0, Option.bind_some, turnO_nx, forL_cons]
    show (turnD (f_law_det (n + 2)) [some (d0 [rowD [a, b, c], rowD [d, e, f], rowD [g, k, i]]), some (.int (0 + 1 * a * (e * i - f * k))), some (.int (0 - 1)), some (.int ((1 : Nat) : Int)), some (.int b), none] m).bind _ = _
    rw [t1, Option.bind_some, turnO_nx, forL_cons]
    show (turnD (f_law_det (n + 2)) [some (d0 [rowD [a, b, c], rowD [d, e, f], rowD [g, k, i]]), some (.int (0 + 1 * a * (e * i - f * k) + (0 - 1) * b * (d * i - f * g))), some (.int (0 - (0 - 1))), some (.int ((2 : Nat) : Int)), some (.int c), none] m).bind _ = _
    rw [t2, Option.bind_some, turnO_nx]
    rfl
  unfold turnD at loop
  have hen : numD [D.int a, .int b, .int c] = [.tup [.int 0, .int a], .tup [.int 1, .int b], .tup [.int 2, .int c]] := rfl
  have fin : b_law_det (f_law_det (n + 2)) [some (d0 [rowD [a, b, c], rowD [d, e, f], rowD [g, k, i]]), none, none, none, none, none] m = some (.rt (.int (0 + 1 * a * (e * i - f * k) + (0 - 1) * b * (d * i - f * g) + (0 - (0 - 1)) * c * (d * k - e * g))) m) := by
    rcases hd0 with rfl | rfl <;> simp [b_law_det, atI, ixN, hen, loop, -Int.zero_add, -Int.one_mul, -Int.zero_sub]
  have r := run_p (n := 6) (a := 1) (ds := [d0 [rowD [a, b, c], rowD [d, e, f], rowD [g, k, i]]]) rfl fin
  rw [show a * (e * i - f * k) - b * (d * i - f * g) + c * (d * k - e * g) = 0 + 1 * a * (e * i - f * k) + (0 - 1) * b * (d * i - f * g) + (0 - (0 - 1)) * c * (d * k - e * g) from by grind]
  exact r
theorem law_det {A : List (List Int)} {n : Nat} (hA : Sz n A) (hb : Bd 4000 A) (h1 : 1 ≤ n) (h3 : n ≤ 3) : f_law_det 3 [tabD A] m = some (.int (detL A), m) := by
  have w : ∀ {x : Int}, Sm 4000 x → Sm 9000 x := fun h => h.mono (by decide)
  have : n = 1 ∨ n = 2 ∨ n = 3 := by omega
  rcases this with rfl | rfl | rfl
  · obtain ⟨a, rfl⟩ := sz1 hA
    exact ld1 (.inl rfl) 2
  · obtain ⟨a, b, c, d, rfl⟩ := sz2 hA
    exact ld2 (.inl rfl) 1 (w (hb [a, b] (by simp) _ (by simp))) (w (hb [a, b] (by simp) _ (by simp))) (w (hb [c, d] (by simp) _ (by simp))) (w (hb [c, d] (by simp) _ (by simp)))
  · obtain ⟨a, b, c, d, e, f, g, k, i, rfl⟩ := sz3 hA
    exact ld3 (.inl rfl) 0 (hb [a, b, c] (by simp) _ (by simp)) (hb [a, b, c] (by simp) _ (by simp)) (hb [a, b, c] (by simp) _ (by simp)) (hb [d, e, f] (by simp) _ (by simp)) (hb [d, e, f] (by simp) _ (by simp)) (hb [d, e, f] (by simp) _ (by simp))
      (hb [g, k, i] (by simp) _ (by simp)) (hb [g, k, i] (by simp) _ (by simp)) (hb [g, k, i] (by simp) _ (by simp))
/-- the same of a list of rows -/
theorem law_detL {A : List (List Int)} {n : Nat} (hA : Sz n A) (hb : Bd 4000 A) (h1 : 1 ≤ n) (h3 : n ≤ 3) : f_law_det 3 [.lst (A.map rowD)] m = some (.int (detL A), m) := by
  have w : ∀ {x : Int}, Sm 4000 x → Sm 9000 x := fun h => h.mono (by decide)
  have : n = 1 ∨ n = 2 ∨ n = 3 := by omega
  rcases this with rfl | rfl | rfl
  · obtain ⟨a, rfl⟩ := sz1 hA
    exact ld1 (.inr rfl) 2
  · obtain ⟨a, b, c, d, rfl⟩ := sz2 hA
    exact ld2 (.inr rfl) 1 (w (hb [a, b] (by simp) _ (by simp))) (w (hb [a, b] (by simp) _ (by simp))) (w (hb [c, d] (by simp) _ (by simp))) (w (hb [c, d] (by simp) _ (by simp)))
  · obtain ⟨a, b, c, d, e, f, g, k, i, rfl⟩ := sz3 hA
    exact ld3 (.inr rfl) 0 (hb [a, b, c] (by simp) _ (by simp)) (hb [a, b, c] (by simp) _ (by simp)) (hb [a, b, c] (by simp) _ (by simp)) (hb [d, e, f] (by simp) _ (by simp)) (hb [d, e, f] (by simp) _ (by simp)) (hb [d, e, f] (by simp) _ (by simp))
      (hb [g, k, i] (by simp) _ (by simp)) (hb [g, k, i] (by simp) _ (by simp)) (hb [g, k, i] (by simp) _ (by simp))
theorem law_minor {A : List (List Int)} {n i j : Nat} (hA : Sz n A) (hb : Bd 4000 A) (h2 : 2 ≤ n) (h3 : n ≤ 3) (hi : i < n) (hj : j < n) : f_law_det 3 [.lst ((minorL A i j).map rowD)] m = some (.int (detL (minorL A i j)), m) := by
  have w : ∀ {x : Int}, Sm 4000 x → Sm 9000 x := fun h => h.mono (by decide)
  have : n = 2 ∨ n = 3 := by omega
  rcases this with rfl | rfl
  · obtain ⟨a, b, c, d, rfl⟩ := sz2 hA
    have h1 : i = 0 ∨ i = 1 := by omega
    have h2 : j = 0 ∨ j = 1 := by omega
    rcases h1 with rfl | rfl <;> rcases h2 with rfl | rfl <;> exact ld1 (.inr rfl) 2
  · obtain ⟨a, b, c, d, e, f, g, k, l, rfl⟩ := sz3 hA
    have ba : ∀ x ∈ [a, b, c], Sm 9000 x := fun x hx => w (hb _ (by simp) x hx)
    have bd : ∀ x ∈ [d, e, f], Sm 9000 x := fun x hx => w (hb _ (by simp) x hx)
    have bg : ∀ x ∈ [g, k, l], Sm 9000 x := fun x hx => w (hb _ (by simp) x hx)
    have h1 : i = 0 ∨ i = 1 ∨ i = 2 := by omega
    have h2 : j = 0 ∨ j = 1 ∨ j = 2 := by omega
    simp only [List.mem_cons, List.not_mem_nil, or_false, forall_eq_or_imp, forall_eq] at ba bd bg
    rcases h1 with rfl | rfl | rfl <;> rcases h2 with rfl | rfl | rfl
    · exact ld2 (.inr rfl) 1 bd.2.1 bd.2.2 bg.2.1 bg.2.2
    · exact ld2 (.inr rfl) 1 bd.1 bd.2.2 bg.1 bg.2.2
    · exact ld2 (.inr rfl) 1 bd.1 bd.2.1 bg.1 bg.2.1
    · exact ld2 (.inr rfl) 1 ba.2.1 ba.2.2 bg.2.1 bg.2.2
    · exact ld2 (.inr rfl) 1 ba.1 ba.2.2 bg.1 bg.2.2
    · exact ld2 (.inr rfl) 1 ba.1 ba.2.1 bg.1 bg.2.1
    · exact ld2 (.inr rfl) 1 ba.2.1 ba.2.2 bd.2.1 bd.2.2
    · exact ld2 (.inr rfl) 1 ba.1 ba.2.2 bd.1 bd.2.2
    · exact ld2 (.inr rfl) 1 ba.1 ba.2.1 bd.1 bd.2.1
end
end Tab

set_option Elab.async false
set_option linter.all false
set_option maxRecDepth 100000
set_option maxHeartbeats 8000000
set_option autoImplicit false
/-! KtP: the law's own undone tables. -/
namespace Tab
open PySem L2 Kb
/-- the rows but one, without one column, as the law picks them -/
theorem part_lc {A : List (List Int)} {n i j : Nat} {o0 o1 o2 o3 o5 o7 : Option D} {m : Mem} (hA : Sz n A) (h2 : 2 ≤ n) (h3 : n ≤ 3) (hi : i < n) (hj : j < n) :
    lcL (Tg.t [8, 9]).put (tstB (Kb.bin neD (var 8) (var 6))) (Kb.bin addD (slE (var 9) noO (someO (var 4))) (slE (var 9) (someO (Kb.bin addD (var 4) (cst (.int 1)))) noO)) [o0, o1, o2, o3, some (.int (j : Int)), o5, some (.int (i : Int)), o7, none, none] (numD (A.map rowD)) m = some ((minorL A i j).map rowD, m) := by
  have : n = 2 ∨ n = 3 := by omega
  rcases this with rfl | rfl
  · obtain ⟨a, b, c, d, rfl⟩ := sz2 hA
    have h1 : i = 0 ∨ i = 1 := by omega
    have h2 : j = 0 ∨ j = 1 := by omega
    rcases h1 with rfl | rfl <;> rcases h2 with rfl | rfl <;> simp [numD, lcL, cutL, HT.sIx, List.range_succ, minorL]
  · obtain ⟨a, b, c, d, e, f, g, k, l, rfl⟩ := sz3 hA
    have h1 : i = 0 ∨ i = 1 ∨ i = 2 := by omega
    have h2 : j = 0 ∨ j = 1 ∨ j = 2 := by omega
    rcases h1 with rfl | rfl | rfl <;> rcases h2 with rfl | rfl | rfl <;> simp [numD, lcL, cutL, HT.sIx, List.range_succ, minorL]
noncomputable def lineB : SS := seqS (setS (.n 7) (lcE (enumI (argC (var 0) argN)) (.t [8, 9]) [8, 9] (tstB (Kb.bin neD (var 8) (var 6))) (Kb.bin addD (slE (var 9) noO (someO (var 4))) (slE (var 9) (someO (Kb.bin addD (var 4) (cst (.int 1)))) noO)))) (appS 5 (Kb.bin mulD (Kb.bin mulD (var 2) (Kb.bin subD (cst (.int 1)) (Kb.bin mulD (cst (.int 2)) (app intD (argC (Kb.bin modD (Kb.bin addD (var 4) (var 6)) (cst (.int 2))) argN))))) (app (f_law_det 3) (argC (var 7) argN))))
theorem line_ok {A : List (List Int)} {n j : Nat} {d : Int} {o3 o6 o7 o8 o9 : Option D} {m : Mem} (hA : Sz n A) (hb : Bd 4000 A) (h2 : 2 ≤ n) (h3 : n ≤ 3) (hj : j < n) (hd : Sm 1 d) :
    ∃ p6 p7 p8 p9 : Option D, forL (Tg.n 6).put lineB ((List.range n).map fun (i : Nat) => D.int (i : Int)) [some (tabD A), some (.int (n : Int)), some (.int d), o3, some (.int (j : Int)), some (.own []), o6, o7, o8, o9] m
      = some (.nx [some (tabD A), some (.int (n : Int)), some (.int d), o3, some (.int (j : Int)), some (.own (((List.range n).map fun o => cof A o j * d).map D.int)), p6, p7, p8, p9] m) := by
  obtain ⟨env', h, p6, p7, p8, p9, rfl⟩ := forL_acc (m := m) (put := (Tg.n 6).put) (body := lineB) (fun (i : Nat) => D.int (i : Int)) (fun o => cof A o j * d) (fun xs env => ∃ o6 o7 o8 o9 : Option D, env = [some (tabD A), some (.int (n : Int)), some (.int d), o3, some (.int (j : Int)), some (.own (xs.map D.int)), o6, o7, o8, o9])
    (List.range n) [] _ (by rw [List.length_range]; simp; omega) ⟨o6, o7, o8, o9, rfl⟩ fun i hi xs env hxl ⟨o6, o7, o8, o9, he⟩ => by
      subst he
      have hi' := List.mem_range.mp hi
      have pl := part_lc (m := m) (o0 := some (tabD A)) (o1 := some (.int (n : Int))) (o2 := some (.int d)) (o3 := o3) (o5 := some (.own (xs.map D.int))) (o7 := o7) hA h2 h3 hi' hj
      have hml : (minorL A i j).length ≤ 100000 := by
        unfold minorL
        rw [List.length_map]
        have := List.length_eraseIdx_le A i
        have := hA.1
        omega
      have ld := law_minor (m := m) hA hb h2 h3 hi' hj
      have sgn : Sm 2 (1 - 2 * (((j : Int) + (i : Int)) % 2)) := by
        unfold Sm
        omega
      have s2 : Sm 2 (((j : Int) + (i : Int)) % 2) := by
        unfold Sm
        omega
      have hk := cof_sm hA hb h2 h3 hi' hj
      have hdet : Sm 8003 (detL (minorL A i j)) := by
        have e : detL (minorL A i j) = cof A i j ∨ detL (minorL A i j) = -cof A i j := by
          unfold cof
          split
          · exact .inl rfl
          · exact .inr (by omega)
        rcases e with e | e <;> rw [e]
        · exact hk
        · exact hk.neg
      have m1 := mulD_sm (m := m) (sm_lit (k := 2) (a := 2)) s2
      have m2 := mulD_sm (m := m) hd sgn
      have m3 := mulD_sm (m := m) (hd.mul sgn) hdet
      have val : d * (1 - 2 * (((j : Int) + (i : Int)) % 2)) * detL (minorL A i j) = cof A i j * d := by
        unfold cof
        by_cases h : (i + j) % 2 = 0
        · rw [if_pos h, show ((j : Int) + (i : Int)) % 2 = 0 from by omega]
          grind
        · rw [if_neg h, show ((j : Int) + (i : Int)) % 2 = 1 from by omega]
          grind
      rw [val] at m3
      have hx : xs.length < 100000 := by omega
      refine ⟨_, [some (tabD A), some (.int (n : Int)), some (.int d), o3, some (.int (j : Int)), some (.own (xs.map D.int ++ [.int (cof A i j * d)])), some (.int (i : Int)), some (.lst ((minorL A i j).map rowD)), o8, o9], rfl, .inl ?_, some (.int (i : Int)), some (.lst ((minorL A i j).map rowD)), o8, o9, by rw [List.map_append]; rfl⟩
      simp [lineB, pl, hml, ld, m1, m2, m3, hx]
  exact ⟨p6, p7, p8, p9, h⟩
noncomputable def outB : SS := seqS (ownS 5 (lstA argN)) (seqS (forS (rng1 (argC (var 1) argN)) (.n 6) lineB) (seqS (relS 5) (appS 3 (app tupleD (argC (var 5) argN)))))
theorem law_undone {A : List (List Int)} {n : Nat} {m : Mem} (hA : Sz n A) (hb : Bd 4000 A) (h1 : 1 ≤ n) (h3 : n ≤ 3) (hd : Sm 1 (detL A)) : f_law_undone [tabD A] m = some (tabD (undL A (detL A)), m) := by
  have hl : A.length = n := hA.1
  have ld := law_det (m := m) hA hb h1 h3
  refine run_p rfl ?_
  by_cases hn : n = 1
  · subst hn
    have e : undL A (detL A) = A := by
      unfold undL
      rw [if_pos hA.1]
    rw [e]
    simp [b_law_undone, hl, ld]
  · have h2 : 2 ≤ n := by omega
    have hn' : ¬ (n : Int) = 1 := by omega
    obtain ⟨env', h, p4, p5, p6, p7, p8, p9, rfl⟩ := forL_acc (m := m) (put := (Tg.n 4).put) (body := outB) (fun (i : Nat) => D.int (i : Int)) (fun p => (List.range n).map fun o => cof A o p * detL A)
      (fun xs env => ∃ o4 o5 o6 o7 o8 o9 : Option D, env = [some (tabD A), some (.int (n : Int)), some (.int (detL A)), some (.own (xs.map rowD)), o4, o5, o6, o7, o8, o9])
      (List.range n) [] [some (tabD A), some (.int (n : Int)), some (.int (detL A)), some (.own []), none, none, none, none, none, none] (by rw [List.length_range]; simp; omega) ⟨none, none, none, none, none, none, rfl⟩ fun p hp xs env hxl ⟨o4, o5, o6, o7, o8, o9, he⟩ => by
        subst he
        have hp' := List.mem_range.mp hp
        obtain ⟨q6, q7, q8, q9, ln⟩ := line_ok (m := m) (o3 := some (.own (xs.map rowD))) (o6 := o6) (o7 := o7) (o8 := o8) (o9 := o9) hA hb h2 h3 hp' hd
        have hr : rng1 (argC (var 1) argN) [some (tabD A), some (.int (n : Int)), some (.int (detL A)), some (.own (xs.map rowD)), some (.int (p : Int)), some (.own []), o6, o7, o8, o9] m = some ((List.range n).map fun (j : Nat) => D.int (j : Int), m) := rng1_nat (by simp) (by omega)
        have hx : xs.length < 100000 := by omega
        refine ⟨_, [some (tabD A), some (.int (n : Int)), some (.int (detL A)), some (.own (xs.map rowD ++ [rowD ((List.range n).map fun o => cof A o p * detL A)])), some (.int (p : Int)), some (.lst (((List.range n).map fun o => cof A o p * detL A).map D.int)), q6, q7, q8, q9], rfl, .inl ?_, some (.int (p : Int)), some (.lst (((List.range n).map fun o => cof A o p * detL A).map D.int)), q6, q7, q8, q9, by rw [List.map_append]; rfl⟩
        simp [outB, hr, ln, hx, -List.map_map]
    have e : undL A (detL A) = (List.range n).map fun p => (List.range n).map fun o => cof A o p * detL A := by
      unfold undL
      rw [if_neg (by omega), hl]
    have hr : rng1 (argC (var 1) argN) [some (tabD A), some (.int (n : Int)), some (.int (detL A)), some (.own []), none, none, none, none, none, none] m = some ((List.range n).map fun (j : Nat) => D.int (j : Int), m) := rng1_nat (by simp) (by omega)
    unfold outB lineB at h
    rw [e]
    simp [b_law_undone, hl, ld, hn', hr, h, -List.map_map]
end Tab

set_option Elab.async false
set_option linter.all false
set_option maxRecDepth 100000
set_option maxHeartbeats 4000000
set_option autoImplicit false
/-! KtQ: whole tables as a class: what is reckoned with them goes by itself. -/
namespace Tab
open PySem L2 Kb
variable {m : Mem} {n i j k p q : Nat} {A B C : List (List Int)}

/-- tables that can be undone, n columns, numbers below 2 to the k -/
class Tb (n k : outParam Nat) (A : List (List Int)) : Prop where
  sz : Sz n A
  bd : Bd k A
  lo : 1 ≤ n
  hi : n ≤ 3
  un : Un A
/-- one, two, three -/
class Nn (n : Nat) : Prop where
  lo : 1 ≤ n
  hi : n ≤ 3
instance : Nn 1 := ⟨by decide, by decide⟩
instance : Nn 2 := ⟨by decide, by decide⟩
instance : Nn 3 := ⟨by decide, by decide⟩
theorem Tb.nn (h : Tb n k A) : Nn n := ⟨h.lo, h.hi⟩
def invL (A : List (List Int)) : List (List Int) := undL A (detL A)
/-- the rows of a table; a Table; a tuple and a list of numbers -/
def TD (A : List (List Int)) : D := tabD A
def TO (A : List (List Int)) : D := .obj 1 [TD A, .int (detL A)]
def RD (r : List Int) : D := rowD r
def LD (r : List Int) : D := lrD r
theorem TO_eq : TO A = tabO A (detL A) := rfl
theorem un_sm (h : Un A) : Sm 1 (detL A) := by rcases h with h | h <;> rw [h] <;> exact sm_lit
theorem det_und (hA : Sz n A) (h1 : 1 ≤ n) (h3 : n ≤ 3) (u : Un A) : detL (invL A) = detL A := by
  have e := (mul_und hA h1 h3 u).1
  have d := det_mul hA (und_sz (d := detL A) hA) h1 h3
  rw [e] at d
  have di : detL (idL n) = 1 := by
    have : n = 1 ∨ n = 2 ∨ n = 3 := by omega
    rcases this with rfl | rfl | rfl <;> decide
  rw [di] at d
  show detL (undL A (detL A)) = _
  rcases u with u | u <;> rw [u] at d ⊢ <;> omega
instance inst_mul [a : Tb n j A] [b : Tb n k B] : Tb n (j + k + 3) (mulL A B) := ⟨mul_sz a.sz b.sz, mul_bd a.sz b.sz a.hi a.bd b.bd, a.lo, a.hi, mul_un a.sz b.sz a.lo a.hi a.un b.un⟩
instance inst_inv [a : Tb n k A] : Tb n (2 * k + 4) (invL A) := ⟨und_sz a.sz, und_bd a.sz a.bd a.lo a.hi (un_sm a.un), a.lo, a.hi, by
  unfold Un
  rw [det_und a.sz a.lo a.hi a.un]
  exact a.un⟩
instance inst_id [a : Nn n] : Tb n 1 (idL n) := ⟨id_sz n, id_bd n, a.lo, a.hi, id_un a.lo a.hi⟩

/-! ### the group -/
theorem g_det [a : Tb n j A] [b : Tb n k B] : detL (mulL A B) = detL A * detL B := det_mul a.sz b.sz a.lo a.hi
theorem g_deti [a : Tb n k A] : detL (invL A) = detL A := det_und a.sz a.lo a.hi a.un
theorem g_det1 [a : Nn n] : detL (idL n) = 1 := by
  have := a.lo; have := a.hi
  have : n = 1 ∨ n = 2 ∨ n = 3 := by omega
  rcases this with rfl | rfl | rfl <;> decide
theorem g_sq [a : Tb n k A] : detL A * detL A = 1 := by rcases a.un with u | u <;> rw [u] <;> rfl
theorem g_assoc [a : Tb n i A] [b : Tb n j B] [c : Tb n k C] : mulL (mulL A B) C = mulL A (mulL B C) := mul_assoc a.sz b.sz c.sz a.lo a.hi
theorem g_mi [a : Tb n k A] : mulL A (invL A) = idL n := (mul_und a.sz a.lo a.hi a.un).1
theorem g_im [a : Tb n k A] : mulL (invL A) A = idL n := (mul_und a.sz a.lo a.hi a.un).2
theorem g_m1 [a : Tb n k A] : mulL A (idL n) = A := (mul_id a.sz a.lo a.hi).1
theorem g_1m [a : Tb n k A] : mulL (idL n) A = A := (mul_id a.sz a.lo a.hi).2
theorem g_mic [a : Tb n j A] [b : Tb n k B] : mulL A (mulL (invL A) B) = B := by rw [← g_assoc, g_mi, g_1m]
theorem g_imc [a : Tb n j A] [b : Tb n k B] : mulL (invL A) (mulL A B) = B := by rw [← g_assoc, g_im, g_1m]
theorem g_uni [a : Tb n j A] [b : Tb n k B] (h : mulL A B = idL n) : invL A = B := by
  have e : mulL (invL A) (mulL A B) = mulL (invL A) (idL n) := by rw [h]
  rw [g_imc, g_m1] at e
  exact e.symm
theorem g_ii [a : Tb n k A] : invL (invL A) = A := g_uni g_im
theorem g_inv [a : Tb n j A] [b : Tb n k B] : invL (mulL A B) = mulL (invL B) (invL A) := g_uni (by rw [g_assoc, g_mic, g_mi])
theorem g_i1 [a : Nn n] : invL (idL n) = idL n := g_uni g_m1

/-! ### data -/
@[simp] theorem isOwn_TD : isOwn (TD A) = false := hid rfl
@[simp] theorem isOwn_TO : isOwn (TO A) = false := hid rfl
@[simp] theorem isOwn_RD {r : List Int} : isOwn (RD r) = false := hid rfl
@[simp] theorem isOwn_LD {r : List Int} : isOwn (LD r) = false := hid rfl
@[simp] theorem below_TD : below k (TD A) = true := below_rows k A
@[simp] theorem below_RD {r : List Int} : below k (RD r) = true := below_row k r
@[simp] theorem below_TO : below k (TO A) = true := below_tabO k A (detL A)
@[simp] theorem insD_TO : insD m (TO A) = some (1, [TD A, .int (detL A)]) := hid rfl
@[simp] theorem tyD_TO : tyD m (TO A) = some (.c 1) := hid rfl
@[simp] theorem tyD_TD : tyD m (TD A) = some (.b .tuple) := hid rfl
@[simp] theorem tyD_RD {r : List Int} : tyD m (RD r) = some (.b .tuple) := hid rfl
@[simp] theorem tyD_LD {r : List Int} : tyD m (LD r) = some (.b .list) := hid rfl
theorem lenD_TD [a : Tb n k A] : lenD [TD A] m = some (.int (n : Int), m) := by
  show some (D.int ((A.map rowD).length : Nat), m) = _
  rw [List.length_map, a.sz.1]
@[simp] theorem watD_TD : watD m (TD A) = none := hid rfl
@[simp] theorem iterD_TD : iterD m (TD A) = some (A.map RD, m) := hid rfl
@[simp] theorem frzD_TD : frzD m (TD A) = some (A.map RD, m) := hid rfl
@[simp] theorem watD_RD {r : List Int} : watD m (RD r) = none := hid rfl
@[simp] theorem iterD_RD {r : List Int} : iterD m (RD r) = some (r.map D.int, m) := hid rfl
@[simp] theorem frzD_RD {r : List Int} : frzD m (RD r) = some (r.map D.int, m) := hid rfl
@[simp] theorem watD_LD {r : List Int} : watD m (LD r) = none := hid rfl
@[simp] theorem iterD_LD {r : List Int} : iterD m (LD r) = some (r.map D.int, m) := hid rfl
@[simp] theorem frzD_LD {r : List Int} : frzD m (LD r) = some (r.map D.int, m) := hid rfl
@[simp] theorem lenD_RD {r : List Int} : lenD [RD r] m = some (.int (r.length : Int), m) := by
  show some (D.int ((r.map D.int).length : Nat), m) = _
  rw [List.length_map]
@[simp] theorem lenD_LD {r : List Int} : lenD [LD r] m = some (.int (r.length : Int), m) := by
  show some (D.int ((r.map D.int).length : Nat), m) = _
  rw [List.length_map]
@[simp] theorem tupleD_LD {r : List Int} : tupleD [LD r] m = some (RD r, m) := hid rfl
@[simp] theorem tupleD_RD {r : List Int} : tupleD [RD r] m = some (RD r, m) := hid rfl
@[simp] theorem listD_LD {r : List Int} : listD [LD r] m = some (LD r, m) := hid rfl
@[simp] theorem listD_RD {r : List Int} : listD [RD r] m = some (LD r, m) := hid rfl
@[simp] theorem tup_ints {r : List Int} : D.tup (r.map D.int) = RD r := hid rfl
@[simp] theorem lst_ints {r : List Int} : D.lst (r.map D.int) = LD r := hid rfl
@[simp] theorem tup_rows : D.tup (A.map RD) = TD A := hid rfl
@[simp] theorem revD_RD {r : List Int} : revD (RD r) m = some (RD r.reverse, m) := by
  show some (D.tup (r.map D.int).reverse, m) = _
  rw [← List.map_reverse]
  rfl
@[simp] theorem revD_LD {r : List Int} : revD (LD r) m = some (LD r.reverse, m) := by
  show some (D.lst (r.map D.int).reverse, m) = _
  rw [← List.map_reverse]
  rfl
@[simp] theorem eqD_TD : eqD (TD A) (TD B) m = some (.bl (decide (A = B)), m) := eqD_tab A B
@[simp] theorem neD_TD : neD (TD A) (TD B) m = some (.bl (!decide (A = B)), m) := neD_tab A B
@[simp] theorem eqD_RD {r s : List Int} : eqD (RD r) (RD s) m = some (.bl (decide (r = s)), m) := by
  unfold eqD RD
  rw [eqB_row]
  rfl
@[simp] theorem neD_RD {r s : List Int} : neD (RD r) (RD s) m = some (.bl (!decide (r = s)), m) := by
  unfold neD RD
  rw [eqB_row]
  rfl

/-! ### what the package reckons -/
theorem q_want : f_want_table [TO A] m = some (.non, m) := want_table
theorem q_alike [a : Tb n j A] [b : Tb n k B] : f_want_alike [TO A, TO B] m = some (.non, m) := want_alike a.sz b.sz
theorem q_times [a : Tb n j A] [b : Tb n k B] (hj : j ≤ 4000) (hk : k ≤ 4000) : f_times_rows [TD A, TD B] m = some (TD (mulL A B), m) := times a.sz b.sz (a.bd.mono hj) (b.bd.mono hk) (by have := a.hi; omega)
theorem q_mul [a : Tb n j A] [b : Tb n k B] (hj : j ≤ 4000) (hk : k ≤ 4000) : f_Table_mul [TO A, TO B] m = some (TO (mulL A B), m) := by
  rw [TO_eq (A := mulL A B), g_det]
  exact tab_mul a.sz b.sz (a.bd.mono hj) (b.bd.mono hk) a.hi (un_sm a.un) (un_sm b.un)
theorem q_omul [a : Tb n j A] [b : Tb n k B] (hj : j ≤ 4000) (hk : k ≤ 4000) : ownD 1 f_Table_mul (TO A) (TO B) m = some (TO (mulL A B), m) := q_mul hj hk
theorem q_eq : f_Table_eq [TO A, TO B] m = some (.bl (decide (A = B)), m) := tab_eq
theorem q_oeq : owneqD 1 f_Table_eq (TO A) (TO B) m = some (.bl (decide (A = B)), m) := by
  simp [owneqD, q_eq]
theorem q_one : ownneD 1 f_Table_eq (TO A) (TO B) m = some (.bl (!decide (A = B)), m) := by
  simp [ownneD, q_oeq]
theorem q_undone [a : Tb n k A] (hk : k ≤ 4000) : f_Table_undone [TO A] m = some (TO (invL A), m) := by
  rw [TO_eq (A := invL A), g_deti]
  exact tab_undone a.sz (a.bd.mono hk) a.lo a.hi (un_sm a.un)
theorem q_undrows [a : Tb n k A] (hk : k ≤ 4000) : f_undone_rows [TD A, .int (detL A)] m = some (TD (invL A), m) := undone_rows a.sz (a.bd.mono hk) a.lo a.hi (un_sm a.un)
theorem q_rows : f_Table_rows [TO A] m = some (TD A, m) := tab_rows
theorem q_detO : f_Table_determinant [TO A] m = some (.int (detL A), m) := tab_det
theorem q_size [a : Tb n k A] : f_Table_size [TO A] m = some (.int (n : Int), m) := by
  have h := tab_size (m := m) (A := A) (d := detL A)
  rw [a.sz.1] at h
  exact h
theorem q_new [a : Tb n k A] (hk : k ≤ 4000) : makeV 1 2 f_Table_init [TD A] m = some (TO A, m) := tab_new a.sz (a.bd.mono hk) a.lo a.hi a.un
theorem q_by : f_table_by [TD A, .int (detL A)] m = some (TO A, m) := table_by
theorem q_idle [a : Nn n] : f_idle [.int (n : Int)] m = some (TO (idL n), m) := by
  rw [TO_eq, g_det1]
  exact idle a.lo a.hi
theorem q_idrows [a : Nn n] : f_idle_rows [.int (n : Int)] m = some (TD (idL n), m) := idle_rows (by have := a.hi; omega)
theorem q_isidle [a : Tb n k A] : f_is_idle [TO A] m = some (.bl (decide (A = idL n)), m) := is_idle a.sz (by have := a.hi; omega)
theorem q_det [a : Tb n k A] (hk : k ≤ 4000) : f_determinant_of 3 [TD A] m = some (.int (detL A), m) := det a.sz (a.bd.mono hk) a.lo a.hi
/-! what the laws reckon -/
theorem l_times [a : Tb n j A] [b : Tb n k B] (hj : j ≤ 4000) (hk : k ≤ 4000) : f_law_times [TD A, TD B] m = some (TD (mulL A B), m) := law_times a.sz b.sz (a.bd.mono hj) (b.bd.mono hk) (by have := a.hi; omega)
theorem l_idle [a : Nn n] : f_law_idle [.int (n : Int)] m = some (TD (idL n), m) := law_idle (by have := a.hi; omega)
theorem l_det [a : Tb n k A] (hk : k ≤ 4000) : f_law_det 3 [TD A] m = some (.int (detL A), m) := law_det a.sz (a.bd.mono hk) a.lo a.hi
theorem l_undone [a : Tb n k A] (hk : k ≤ 4000) : f_law_undone [TD A] m = some (TD (invL A), m) := law_undone a.sz (a.bd.mono hk) a.lo a.hi (un_sm a.un)
/-- a drawn table -/
theorem l_table {dr : Fs} (hdr : Draws dr) (mo : Int) {p n : Nat} {m : Mem} (hm : Pot m p) (a : Nn n) (hmo : 1 ≤ mo := by decide) (hmo2 : mo ≤ 20 := by decide) : ∃ (A : List (List Int)) (m' : Mem), f_law_table dr [.loc p, .int (n : Int), .int mo] m = some (TD A, m') ∧ Tb n 100 A ∧ Moved p m m' := by
  obtain ⟨k, rfl⟩ := nat_of (show 0 ≤ mo by omega)
  obtain ⟨A, m', e, h1, h2, h3, h4⟩ := table_ok hdr hm a.lo a.hi (show 1 ≤ k by omega) (by omega)
  exact ⟨A, m', e, ⟨h1, h2.mono (by omega), a.lo, a.hi, h3⟩, h4⟩
theorem l_tabS {dr : Fs} (hdr : Draws dr) (mo : Int) (K : Nat) {p n : Nat} {m : Mem} (hm : Pot m p) (a : Nn n) (hK : 1 + 3 * mo.toNat ≤ K := by decide) (hmo : 1 ≤ mo := by decide) (hmo2 : mo ≤ 20 := by decide) : ∃ (A : List (List Int)) (m' : Mem), f_law_table dr [.loc p, .int (n : Int), .int mo] m = some (TD A, m') ∧ Tb n K A ∧ Moved p m m' := by
  obtain ⟨k, rfl⟩ := nat_of (show 0 ≤ mo by omega)
  obtain ⟨A, m', e, h1, h2, h3, h4⟩ := table_ok hdr hm a.lo a.hi (show 1 ≤ k by omega) (by omega)
  exact ⟨A, m', e, ⟨h1, h2.mono (by omega), a.lo, a.hi, h3⟩, h4⟩
/-- a drawn size -/
theorem l_size {dr : Fs} (hdr : Draws dr) {p : Nat} {m : Mem} (hm : Pot m p) : ∃ (d : Int) (n : Nat) (m' : Mem), dr [.loc p, .int 3] m = some (.int d, m') ∧ 1 + d = (n : Int) ∧ Nn n ∧ Moved p m m' := by
  obtain ⟨d, m', e, h1, h2⟩ := draw_nat hdr (k := 3) hm (by decide) (by decide)
  exact ⟨d, 1 + d, m', e, by omega, ⟨by omega, by omega⟩, h2⟩
end Tab

set_option Elab.async false
set_option linter.all false
set_option maxRecDepth 100000
set_option maxHeartbeats 4000000
set_option autoImplicit false
/-! KtR: texts of numbers, truths, lists and tuples of them, as a class; rows led; traces. -/
namespace Tab
open PySem L2 Kb
variable {m : Mem} {n i j k p q l w : Nat} {A B C : List (List Int)} {r s : List Int}

/-! ### texts -/
class Bi (i : Int) (k : outParam Nat) : Prop where
  sm : Sm k i
class Sh (d : D) (w p l : outParam Nat) : Prop where
  ex : ∃ x : Pl, x.d = d ∧ (l ≤ 1800 → x.low = true) ∧ x.dep ≤ p ∧ x.wt ≤ w
class Shs (ds : List D) (w p l : outParam Nat) : Prop where
  ex : ∃ xs : List Pl, Pl.ds xs = ds ∧ (l ≤ 1800 → Pl.lows xs = true) ∧ Pl.deps xs ≤ p ∧ Pl.wts xs ≤ w
instance sh_bl {b : Bool} : Sh (.bl b) 5 0 0 := ⟨.bl b, rfl, fun _ => rfl, Nat.le_refl _, Nat.le_refl _⟩
instance sh_int {i : Int} [h : Bi i k] : Sh (.int i) (k + 2) 0 k := ⟨.int i, rfl, fun hk => by
  have := h.sm.log
  show decide (i.natAbs.log2 < 1920) = true
  exact decide_eq_true (by omega), Nat.le_refl _, by
  have := h.sm.log
  show i.natAbs.log2 + 2 ≤ k + 2
  omega⟩
instance shs_nil : Shs [] 0 0 0 := ⟨[], rfl, fun _ => rfl, Nat.le_refl _, Nat.le_refl _⟩
instance shs_cons {d : D} {ds : List D} {w1 p1 l1 w2 p2 l2 : Nat} [ta : Sh d w1 p1 l1] [tb : Shs ds w2 p2 l2] : Shs (d :: ds) (w1 + 2 + w2) (p1 + p2) (l1 + l2) := by
  obtain ⟨x, h1, h2, h3, h4⟩ := ta.ex
  obtain ⟨xs, g1, g2, g3, g4⟩ := tb.ex
  refine ⟨x :: xs, ?_, fun hl => ?_, ?_, ?_⟩
  · show x.d :: Pl.ds xs = _
    rw [h1, g1]
  · show (x.low && Pl.lows xs) = true
    rw [h2 (by omega), g2 (by omega)]
    rfl
  · show max x.dep (Pl.deps xs) ≤ _
    omega
  · show x.wt + 2 + Pl.wts xs ≤ _
    omega
instance sh_lst {ds : List D} [tb : Shs ds w p l] : Sh (.lst ds) (w + 3) (p + 1) l := by
  obtain ⟨xs, g1, g2, g3, g4⟩ := tb.ex
  refine ⟨.lst xs, ?_, g2, ?_, ?_⟩
  · show D.lst (Pl.ds xs) = _
    rw [g1]
  · show Pl.deps xs + 1 ≤ _
    omega
  · show Pl.wts xs + 3 ≤ _
    omega
instance sh_tup {ds : List D} [tb : Shs ds w p l] : Sh (.tup ds) (w + 3) (p + 1) l := by
  obtain ⟨xs, g1, g2, g3, g4⟩ := tb.ex
  refine ⟨.tup xs, ?_, g2, ?_, ?_⟩
  · show D.tup (Pl.ds xs) = _
    rw [g1]
  · show Pl.deps xs + 1 ≤ _
    omega
  · show Pl.wts xs + 3 ≤ _
    omega
instance sh_TD [ta : Tb n k A] : Sh (TD A) (9 * k + 60) 2 k := ⟨tabP A, tabP_d A, fun hk => rows_low (k := k) (by omega) ta.bd, tab_dep A, tab_wt ta.sz ta.hi ta.bd⟩
/-- rows of numbers -/
class Vc (n k : outParam Nat) (r : List Int) : Prop where
  len : r.length = n
  bd : ∀ x ∈ r, Sm k x
  hi : n ≤ 8
theorem row_wt [ta : Vc n k r] : (rowP r).wt ≤ 8 * k + 40 := by
  show Pl.wts (r.map .int) + 3 ≤ _
  have h := ints_wt ta.bd
  rw [ta.len] at h
  have := ta.hi
  have : n * (k + 4) ≤ 8 * (k + 4) := Nat.mul_le_mul_right _ (by omega)
  omega
instance sh_RD [ta : Vc n k r] : Sh (RD r) (8 * k + 40) 1 k := ⟨rowP r, rowP_d r, fun hk => ints_low (k := k) (by omega) ta.bd, row_dep r, row_wt⟩
theorem lr_d (r : List Int) : (Pl.lst (r.map .int)).d = LD r := by
  show D.lst (Pl.ds (r.map .int)) = _
  rw [ints_d]
  rfl
instance sh_LD [ta : Vc n k r] : Sh (LD r) (8 * k + 40) 1 k := ⟨.lst (r.map .int), lr_d r, fun hk => ints_low (k := k) (by omega) ta.bd, row_dep r, row_wt⟩
instance bi_det [ta : Tb n k A] : Bi (detL A) 1 := ⟨un_sm ta.un⟩
instance bi_mul {x y : Int} [ta : Bi x j] [tb : Bi y k] : Bi (x * y) (j + k) := ⟨ta.sm.mul tb.sm⟩
theorem bi_nat {n : Nat} (h : n < 1024) : Bi (n : Int) 10 := ⟨by unfold Sm; rw [Int.natAbs_natCast]; exact h⟩
instance bi_nn [ta : Nn n] : Bi (n : Int) 10 := bi_nat (by have := ta.hi; omega)
/-- the text -/
def shwD (d : D) : Str := ((toP [] d).map PyData.shown).getD (Str.ofString "")
theorem q_repr {d : D} [ta : Sh d w p l] (hl : l ≤ 1800) (hp : p ≤ 20) (hw : w ≤ 900000) : reprD [d] m = some (.str (shwD d), m) := by
  obtain ⟨x, h1, h2, h3, h4⟩ := ta.ex
  subst h1
  rw [repr_pl x (h2 hl) (by omega) (by omega)]
  unfold shwD
  rw [Pl.toP]
  rfl

/-! ### rows led -/
def leadL (A : List (List Int)) (r : List Int) : List Int := A.map fun row => dotL row r
instance vc_lead [ta : Tb n j A] [tb : Vc n k r] : Vc n (j + k + 3) (leadL A r) := ⟨by unfold leadL; rw [List.length_map]; exact ta.sz.1, fun x hx => by
  obtain ⟨row, hrow, rfl⟩ := List.mem_map.mp hx
  exact dot_sm (by rw [ta.sz.2 row hrow]; exact ta.hi) (ta.bd row hrow) tb.bd, by have := ta.hi; omega⟩
theorem g_lead [ta : Tb n i A] [tb : Tb n j B] [tc : Vc n k r] : leadL (mulL A B) r = leadL A (leadL B r) := by
  have := ta.lo; have := ta.hi
  have : n = 1 ∨ n = 2 ∨ n = 3 := by omega
  have hl := tc.len
  rcases this with rfl | rfl | rfl
  · obtain ⟨a, rfl⟩ := sz1 ta.sz
    obtain ⟨b, rfl⟩ := sz1 tb.sz
    match r, hl with
    | [x], _ =>
      simp [leadL, mulL, colsL, dotL, List.range_succ]
      grind
  · obtain ⟨a, b, c, d, rfl⟩ := sz2 ta.sz
    obtain ⟨a', b', c', d', rfl⟩ := sz2 tb.sz
    match r, hl with
    | [x, y], _ =>
      simp [leadL, mulL, colsL, dotL, List.range_succ]
      grind
  · obtain ⟨a, b, c, d, e, f, g, k, l, rfl⟩ := sz3 ta.sz
    obtain ⟨a', b', c', d', e', f', g', k', l', rfl⟩ := sz3 tb.sz
    match r, hl with
    | [x, y, z], _ =>
      simp [leadL, mulL, colsL, dotL, List.range_succ]
      grind
theorem g_lead1 [ta : Nn n] [tc : Vc n k r] : leadL (idL n) r = r := by
  have := ta.lo; have := ta.hi
  have : n = 1 ∨ n = 2 ∨ n = 3 := by omega
  have hl := tc.len
  rcases this with rfl | rfl | rfl
  · match r, hl with
    | [x], _ => simp [leadL, idL, dotL, List.range_succ]
  · match r, hl with
    | [x, y], _ => simp [leadL, idL, dotL, List.range_succ]
  · match r, hl with
    | [x, y, z], _ => simp [leadL, idL, dotL, List.range_succ]
theorem g_leadi [ta : Tb n j A] [tc : Vc n k r] : leadL (invL A) (leadL A r) = r := by
  have := ta.nn
  rw [← g_lead, g_im, g_lead1]
theorem q_led [ta : Tb n j A] [tb : Vc n k r] (hj : j ≤ 4000) (hk : k ≤ 4000) : f_led_by [TD A, RD r] m = some (RD (leadL A r), m) := by
  refine run_p rfl ?_
  have out : lcL (Tg.n 2).put yesB (app f_dot (argC (var 2) (argC (var 1) argN))) [some (TD A), some (RD r), none] (A.map RD) m = some ((leadL A r).map D.int, m) := by
    unfold leadL
    rw [List.map_map]
    refine lcL_of RD _ A fun row hrow => ⟨_, rfl, rfl, ?_⟩
    have h := dot (m := m) (r := row) (s := r) (fun x hx => ((ta.bd.mono hj) row hrow x hx)) (fun x hx => (tb.bd x hx).mono hk) (by rw [ta.sz.2 row hrow]; have := ta.hi; omega)
    simp
    exact h
  have hl : (leadL A r).length ≤ 100000 := by
    unfold leadL
    rw [List.length_map, ta.sz.1]
    have := ta.hi
    omega
  simp [b_led_by, out, hl]
theorem q_isrow (t : D) (ht : t = RD r ∨ t = LD r) [tb : Vc n k r] (hn : 1 ≤ n) (hn3 : n ≤ 3) : f_is_row [t] m = some (.bl true, m) := by
  have ho : isOwn t = false := by rcases ht with rfl | rfl <;> rfl
  have hl : lenD [t] m = some (.int (n : Int), m) := by rcases ht with rfl | rfl <;> simp [tb.len]
  have hi : f_is_list [t] m = some (.bl true, m) := by
    rcases ht with rfl | rfl
    · exact islist_tup
    · exact islist_lst
  have ht2 : iterD m t = some (r.map D.int, m) := by rcases ht with rfl | rfl <;> simp
  have h1 : (1 : Int) ≤ (n : Int) := by omega
  have h3 : (n : Int) ≤ 3 := by omega
  have wt : watD m t = none := by rcases ht with rfl | rfl <;> rfl
  have al := all_ints (m := m) (r := r) (k := 1) (env := [some t, none]) fun x => ⟨_, rfl, by simp [isint_int]⟩
  have hl2 : r.length ≤ 100000 := by rw [tb.len]; have := tb.hi; omega
  refine run_p rfl ?_
  simp [b_is_row, ho, hi, hl, h1, h3, ht2, wt, al, hl2, -List.map_map]
theorem q_wantrow (t : D) (ht : t = RD r ∨ t = LD r) [tb : Vc n k r] (hn : 1 ≤ n) (hn3 : n ≤ 3) : f_want_row [t, .int (n : Int)] m = some (RD r, m) := by
  have ho : isOwn t = false := by rcases ht with rfl | rfl <;> rfl
  have hl : lenD [t] m = some (.int (n : Int), m) := by rcases ht with rfl | rfl <;> simp [tb.len]
  have hi := q_isrow (m := m) t ht hn hn3
  have ht2 : tupleD [t] m = some (RD r, m) := by rcases ht with rfl | rfl <;> simp
  refine run_p rfl ?_
  simp [b_want_row, ho, hi, hl, ht2]
theorem q_lead [ta : Tb n j A] [tb : Vc n k r] (hj : j ≤ 4000) (hk : k ≤ 4000) : f_Table_lead [TO A, RD r] m = some (RD (leadL A r), m) := by
  refine run_p rfl ?_
  have h := q_wantrow (m := m) (RD r) (.inl rfl) ta.lo ta.hi
  simp [b_Table_lead, lenD_TD, h, q_led hj hk]
theorem q_leadL [ta : Tb n j A] [tb : Vc n k r] (hj : j ≤ 4000) (hk : k ≤ 4000) : f_Table_lead [TO A, LD r] m = some (RD (leadL A r), m) := by
  refine run_p rfl ?_
  have h := q_wantrow (m := m) (LD r) (.inr rfl) ta.lo ta.hi
  simp [b_Table_lead, lenD_TD, h, q_led hj hk]
theorem l_lead0 (t : D) (ht : t = RD r ∨ t = LD r) [ta : Tb n j A] [tb : Vc n k r] (hj : j ≤ 4000) (hk : k ≤ 4000) : f_law_lead [TD A, t] m = some (RD (leadL A r), m) := by
  have ho : isOwn t = false := by rcases ht with rfl | rfl <;> rfl
  have hf : frzD m t = some (r.map D.int, m) := by rcases ht with rfl | rfl <;> simp
  refine run_p rfl ?_
  have out : lcL (Tg.n 4).put yesB (app sumD (argC (lcE (zipI (argC (var 4) (argC (var 1) argN))) (.t [2, 3]) [2, 3] yesB (Kb.bin mulD (var 2) (var 3))) argN)) [some (TD A), some t, none, none, none] (A.map RD) m = some ((leadL A r).map D.int, m) := by
    unfold leadL
    rw [List.map_map]
    refine lcL_of RD _ A fun row hrow => ⟨_, rfl, rfl, ?_⟩
    have key := dot_lc (m := m) (env0 := [some (TD A), some t, none, none, some (RD row)]) (e := Kb.bin mulD (var 2) (var 3)) (is := [2, 3]) (r := row) (s := r) (fun x hx => ((ta.bd.mono hj) row hrow x hx)) (fun x hx => (tb.bd x hx).mono hk) fun a b ha hb => ⟨_, rfl, by simp [mulD_sm ha hb]⟩
    have hl2 : (List.zipWith (· * ·) row r).length ≤ 100000 := by
      rw [List.length_zipWith, ta.sz.2 row hrow]
      have := ta.hi
      omega
    have sm := sumD_ints (m := m) (ns := List.zipWith (· * ·) row r)
    rw [lst_ints] at sm
    simp [ho, hf, key, hl2, sm, dotL, -List.length_zipWith, -List.map_zipWith]
  have hl : (leadL A r).length ≤ 100000 := by
    unfold leadL
    rw [List.length_map, ta.sz.1]
    have := ta.hi
    omega
  simp [b_law_lead, out, hl]
theorem l_leadR [ta : Tb n j A] [tb : Vc n k r] (hj : j ≤ 4000) (hk : k ≤ 4000) : f_law_lead [TD A, RD r] m = some (RD (leadL A r), m) := l_lead0 _ (.inl rfl) hj hk
theorem l_leadL [ta : Tb n j A] [tb : Vc n k r] (hj : j ≤ 4000) (hk : k ≤ 4000) : f_law_lead [TD A, LD r] m = some (RD (leadL A r), m) := l_lead0 _ (.inr rfl) hj hk

/-! ### traces -/
def trL : List (List Int) → Int
  | [[a]] => a
  | [[a, _], [_, d]] => a + d
  | [[a, _, _], [_, e, _], [_, _, i]] => a + e + i
  | _ => 0
theorem q_trace0 [ta : Tb n k A] : f_trace_of [TD A] m = some (.int (trL A), m) := by
  refine run_p rfl ?_
  have := ta.lo; have := ta.hi
  have : n = 1 ∨ n = 2 ∨ n = 3 := by omega
  have key : lcL (Tg.t [1, 2]).put yesB (Kb.bin ixD (var 2) (var 1)) [some (TD A), none, none] (numD (A.map RD)) m = some ((((List.range n).map fun i => (A.getD i []).getD i 0)).map D.int, m) ∧ ((List.range n).map fun i => (A.getD i []).getD i 0).sum = trL A := by
    rcases this with rfl | rfl | rfl
    · obtain ⟨a, rfl⟩ := sz1 ta.sz
      exact ⟨rfl, by simp [trL, List.range_succ]⟩
    · obtain ⟨a, b, c, d, rfl⟩ := sz2 ta.sz
      exact ⟨rfl, by simp [trL, List.range_succ]⟩
    · obtain ⟨a, b, c, d, e, f, g, k, l, rfl⟩ := sz3 ta.sz
      exact ⟨rfl, by simp [trL, List.range_succ]; omega⟩
  have hl : n ≤ 100000 := by omega
  have sm := sumD_ints (m := m) (ns := (List.range n).map fun i => (A.getD i []).getD i 0)
  rw [lst_ints, key.2] at sm
  simp [b_trace_of, key.1, hl, sm, -List.map_map, -List.getD_eq_getElem?_getD]
theorem q_trace [ta : Tb n k A] : f_Table_trace [TO A] m = some (.int (trL A), m) := by
  refine run_p rfl ?_
  simp [b_Table_trace, q_trace0]
theorem g_trc [ta : Tb n i A] [tb : Tb n j B] : trL (mulL A B) = trL (mulL B A) := by
  have := ta.lo; have := ta.hi
  have : n = 1 ∨ n = 2 ∨ n = 3 := by omega
  rcases this with rfl | rfl | rfl
  · obtain ⟨a, rfl⟩ := sz1 ta.sz
    obtain ⟨b, rfl⟩ := sz1 tb.sz
    simp [trL, mulL, colsL, dotL, List.range_succ]
    grind
  · obtain ⟨a, b, c, d, rfl⟩ := sz2 ta.sz
    obtain ⟨a', b', c', d', rfl⟩ := sz2 tb.sz
    simp [trL, mulL, colsL, dotL, List.range_succ]
    grind
  · obtain ⟨a, b, c, d, e, f, g, k, l, rfl⟩ := sz3 ta.sz
    obtain ⟨a', b', c', d', e', f', g', k', l', rfl⟩ := sz3 tb.sz
    simp [trL, mulL, colsL, dotL, List.range_succ]
    grind
/-- a row of drawn numbers -/
theorem draw_row {dr : Fs} (hdr : Draws dr) {p : Nat} {K c : Int} {put : D → Ev → Option Ev} {te : SE} {env : Ev} (hK : 1 ≤ K) (hl : K < 2 ^ 100) (h : ∀ (d : D) (m m' : Mem) (x : Int), dr [.loc p, .int K] m = some (.int x, m') → ∃ env1, put d env = some env1 ∧ te env1 m = some (.int (x - c), m')) :
    ∀ (ds : List D) (m : Mem), Pot m p → ∃ (r : List Int) (m' : Mem), lcL put yesB te env ds m = some (r.map D.int, m') ∧ r.length = ds.length ∧ (∀ x ∈ r, -c ≤ x ∧ x < K - c) ∧ Moved p m m'
  | [], m, hm => ⟨[], m, rfl, rfl, fun _ z => (nomatch z), hm.refl⟩
  | d :: ds, m, hm => by
    obtain ⟨x, m1, e1, x0, x1, v1⟩ := draw_at hdr hm hK hl
    obtain ⟨env1, h1, h2⟩ := h d m m1 x e1
    obtain ⟨r, m2, e2, h3, h4, v2⟩ := draw_row hdr hK hl h ds m1 v1.1
    refine ⟨(x - c) :: r, m2, ?_, by rw [List.length_cons, List.length_cons, h3], fun y hy => ?_, v1.trans v2⟩
    · show ((put d env).bind fun env1 => (yesB env1 m).bind fun p => if p.1 then (te env1 p.2).bind fun q => (lcL put yesB te env ds q.2).map fun w => (q.1 :: w.1, w.2) else lcL put yesB te env ds p.2) = _
      rw [h1]
      show ((te env1 m).bind fun q => (lcL put yesB te env ds q.2).map fun w => (q.1 :: w.1, w.2)) = _
      rw [h2]
      show (lcL put yesB te env ds m1).map (fun w => (D.int (x - c) :: w.1, w.2)) = _
      rw [e2]
      rfl
    · rcases List.mem_cons.mp hy with z | z
      · rw [z]; omega
      · exact h4 y z
theorem sm_abs {k : Nat} {x b : Int} (h : -b < x) (g : x < b) (e : b ≤ 2 ^ k) : Sm k x := by
  unfold Sm
  have h1 : (x.natAbs : Int) < 2 ^ k := by omega
  have h2 : ((2 ^ k : Nat) : Int) = (2 : Int) ^ k := by simp
  rw [← h2] at h1
  exact Int.ofNat_lt.mp h1
theorem vc_of {c K : Int} (hl : r.length = n) (h : ∀ x ∈ r, -c ≤ x ∧ x < K - c) (hc : c ≤ 1000) (hK : K - c ≤ 1000) (hn : n ≤ 3) : Vc n 10 r := ⟨hl, fun x hx => by
  have := h x hx
  exact sm_abs (b := 1001) (by omega) (by omega) (by decide), by omega⟩
end Tab

set_option Elab.async false
set_option linter.all false
set_option maxRecDepth 100000
set_option maxHeartbeats 4000000
set_option autoImplicit false
/-! KtS: tables turned, tables beside one another. -/
namespace Tab
open PySem L2 Kb
variable {m : Mem} {n i j k p q l w : Nat} {A B C E : List (List Int)} {r s : List Int}

/-! ### turned -/
theorem q_turned [ta : Tb n j A] [tb : Tb n k B] (hj : j + k + 3 ≤ 4000) (hk : 2 * k + 4 ≤ 4000) : f_turned [TO A, TO B] m = some (TO (mulL B (mulL A (invL B))), m) := by
  have t1 := q_times (m := m) (A := B) (B := A) (by omega) (by omega)
  have t2 := q_times (m := m) (A := mulL B A) (B := invL B) (by omega) (by omega)
  have hu := q_undrows (m := m) (A := B) (by omega)
  have e : TO (mulL B (mulL A (invL B))) = .obj 1 [TD (mulL B (mulL A (invL B))), .int (detL A)] := by
    unfold TO
    rw [g_det, g_det, g_deti, Int.mul_comm (detL A), ← Int.mul_assoc, g_sq, Int.one_mul]
  have tr : f_turned_rows [TD A, TD B, .int (detL B)] m = some (TD (mulL B (mulL A (invL B))), m) := by
    refine run_p rfl ?_
    simp [b_turned_rows, t1, t2, hu, g_assoc]
  have by_ : f_table_by [TD (mulL B (mulL A (invL B))), .int (detL A)] m = some (.obj 1 [TD (mulL B (mulL A (invL B))), .int (detL A)], m) := table_by
  rw [e]
  refine run_p rfl ?_
  simp [b_turned, q_want, q_alike, tr, by_]

/-! ### beside -/
def besL (A B : List (List Int)) : List (List Int) := A.map (fun r => r ++ List.replicate B.length 0) ++ B.map (fun r => List.replicate A.length 0 ++ r)
theorem bes_cases [ta : Tb n j A] [tb : Tb p k B] (h : n + p ≤ 3) {P : List (List Int) → List (List Int) → Prop} (h1 : ∀ x y : Int, n = 1 → p = 1 → P [[x]] [[y]]) (h2 : ∀ x a b c d : Int, n = 1 → p = 2 → P [[x]] [[a, b], [c, d]]) (h3 : ∀ x a b c d : Int, n = 2 → p = 1 → P [[a, b], [c, d]] [[x]]) : P A B := by
  have := ta.lo; have := tb.lo
  have : (n = 1 ∧ p = 1) ∨ (n = 1 ∧ p = 2) ∨ (n = 2 ∧ p = 1) := by omega
  rcases this with ⟨rfl, rfl⟩ | ⟨rfl, rfl⟩ | ⟨rfl, rfl⟩
  · obtain ⟨x, rfl⟩ := sz1 ta.sz
    obtain ⟨y, rfl⟩ := sz1 tb.sz
    exact h1 x y rfl rfl
  · obtain ⟨x, rfl⟩ := sz1 ta.sz
    obtain ⟨a, b, c, d, rfl⟩ := sz2 tb.sz
    exact h2 x a b c d rfl rfl
  · obtain ⟨x, rfl⟩ := sz1 tb.sz
    obtain ⟨a, b, c, d, rfl⟩ := sz2 ta.sz
    exact h3 x a b c d rfl rfl
theorem bes_det [ta : Tb n j A] [tb : Tb p k B] [h : Nn (n + p)] : detL (besL A B) = detL A * detL B := by
  refine bes_cases (A := A) (B := B) (P := fun A B => detL (besL A B) = detL A * detL B) h.hi (fun x y _ _ => ?_) (fun x a b c d _ _ => ?_) (fun x a b c d _ _ => ?_) <;> simp [besL, detL, List.replicate] <;> grind
instance inst_bes [ta : Tb n j A] [tb : Tb p k B] [h : Nn (n + p)] : Tb (n + p) (j + k + 1) (besL A B) where
  sz := by
    refine ⟨by unfold besL; rw [List.length_append, List.length_map, List.length_map, ta.sz.1, tb.sz.1], fun r hr => ?_⟩
    rcases List.mem_append.mp hr with hr | hr <;> obtain ⟨s, hs, rfl⟩ := List.mem_map.mp hr <;> rw [List.length_append, List.length_replicate]
    · rw [ta.sz.2 s hs, tb.sz.1]
    · rw [tb.sz.2 s hs, ta.sz.1]
  bd := fun r hr x hx => by
    have z : Sm (j + k + 1) 0 := by unfold Sm; exact Nat.two_pow_pos _
    rcases List.mem_append.mp hr with hr | hr <;> obtain ⟨s, hs, rfl⟩ := List.mem_map.mp hr <;> rcases List.mem_append.mp hx with hx | hx
    · exact (ta.bd s hs x hx).mono (by omega)
    · rw [List.eq_of_mem_replicate hx]; exact z
    · rw [List.eq_of_mem_replicate hx]; exact z
    · exact (tb.bd s hs x hx).mono (by omega)
  lo := h.lo
  hi := h.hi
  un := by
    unfold Un
    rw [bes_det]
    rcases ta.un with u | u <;> rcases tb.un with v | v <;> rw [u, v] <;> decide
theorem bes_mul {i' j' : Nat} [ta : Tb n i A] [tb : Tb p j B] [tc : Tb n i' C] [te : Tb p j' E] [h : Nn (n + p)] : mulL (besL A B) (besL C E) = besL (mulL A C) (mulL B E) := by
  have := ta.lo; have := tb.lo; have := h.hi
  have : (n = 1 ∧ p = 1) ∨ (n = 1 ∧ p = 2) ∨ (n = 2 ∧ p = 1) := by omega
  rcases this with ⟨rfl, rfl⟩ | ⟨rfl, rfl⟩ | ⟨rfl, rfl⟩
  · obtain ⟨x, rfl⟩ := sz1 ta.sz
    obtain ⟨y, rfl⟩ := sz1 tb.sz
    obtain ⟨z, rfl⟩ := sz1 tc.sz
    obtain ⟨w, rfl⟩ := sz1 te.sz
    simp [besL, mulL, colsL, dotL, List.range_succ, List.replicate]
  · obtain ⟨x, rfl⟩ := sz1 ta.sz
    obtain ⟨a, b, c, d, rfl⟩ := sz2 tb.sz
    obtain ⟨y, rfl⟩ := sz1 tc.sz
    obtain ⟨a', b', c', d', rfl⟩ := sz2 te.sz
    simp [besL, mulL, colsL, dotL, List.range_succ, List.replicate]
  · obtain ⟨a, b, c, d, rfl⟩ := sz2 ta.sz
    obtain ⟨x, rfl⟩ := sz1 tb.sz
    obtain ⟨a', b', c', d', rfl⟩ := sz2 tc.sz
    obtain ⟨y, rfl⟩ := sz1 te.sz
    simp [besL, mulL, colsL, dotL, List.range_succ, List.replicate]
theorem bes_id [ta : Nn n] [tb : Nn p] [h : Nn (n + p)] : besL (idL n) (idL p) = idL (n + p) := by
  have := ta.lo; have := tb.lo; have := h.hi
  have : (n = 1 ∧ p = 1) ∨ (n = 1 ∧ p = 2) ∨ (n = 2 ∧ p = 1) := by omega
  rcases this with ⟨rfl, rfl⟩ | ⟨rfl, rfl⟩ | ⟨rfl, rfl⟩ <;> decide
theorem bes_inv [ta : Tb n j A] [tb : Tb p k B] [h : Nn (n + p)] : invL (besL A B) = besL (invL A) (invL B) := by
  have := ta.nn; have := tb.nn
  exact g_uni (by rw [bes_mul, g_mi, g_mi, bes_id])
theorem bes_tr [ta : Tb n j A] [tb : Tb p k B] [h : Nn (n + p)] : trL (besL A B) = trL A + trL B := by
  refine bes_cases (A := A) (B := B) (P := fun A B => trL (besL A B) = trL A + trL B) h.hi (fun x y _ _ => ?_) (fun x a b c d _ _ => ?_) (fun x a b c d _ _ => ?_) <;> simp [besL, trL, List.replicate] <;> omega
theorem bes_lead {i' j' : Nat} [ta : Tb n i A] [tb : Tb p j B] [tc : Vc n i' r] [te : Vc p j' s] [h : Nn (n + p)] : leadL (besL A B) (r ++ s) = leadL A r ++ leadL B s := by
  have := ta.lo; have := tb.lo; have := h.hi
  have hr := tc.len
  have hs := te.len
  have : (n = 1 ∧ p = 1) ∨ (n = 1 ∧ p = 2) ∨ (n = 2 ∧ p = 1) := by omega
  rcases this with ⟨rfl, rfl⟩ | ⟨rfl, rfl⟩ | ⟨rfl, rfl⟩
  · obtain ⟨x, rfl⟩ := sz1 ta.sz
    obtain ⟨y, rfl⟩ := sz1 tb.sz
    match r, s, hr, hs with
    | [u], [v], _, _ => simp [besL, leadL, dotL, List.replicate]
  · obtain ⟨x, rfl⟩ := sz1 ta.sz
    obtain ⟨a, b, c, d, rfl⟩ := sz2 tb.sz
    match r, s, hr, hs with
    | [u], [v, w], _, _ => simp [besL, leadL, dotL, List.replicate]
  · obtain ⟨x, rfl⟩ := sz1 tb.sz
    obtain ⟨a, b, c, d, rfl⟩ := sz2 ta.sz
    match r, s, hr, hs with
    | [u, t], [v], _, _ => simp [besL, leadL, dotL, List.replicate]
instance vc_app {i' j' : Nat} [tc : Vc n i' r] [te : Vc p j' s] [h : Nn (n + p)] : Vc (n + p) (i' + j') (r ++ s) := ⟨by rw [List.length_append, tc.len, te.len], fun x hx => by
  rcases List.mem_append.mp hx with z | z
  · exact (tc.bd x z).mono (by omega)
  · exact (te.bd x z).mono (by omega), by have := h.hi; omega⟩
theorem rep_nil (n : Nat) : (List.replicate n [D.int 0]).flatten = (List.replicate n (0 : Int)).map D.int := by
  induction n with
  | zero => rfl
  | succ n ih => rw [List.replicate_succ, List.flatten_cons, ih]; rfl
theorem mul_noughts {n : Nat} (h1 : 1 ≤ n) (h3 : n ≤ 1000) : mulD (.tup [.int 0]) (.int (n : Int)) m = some (RD (List.replicate n 0), m) := by
  show (if [D.int 0] ≠ [] ∧ 1 ≤ (n : Int) ∧ (n : Int) ≤ 1000 ∧ [D.int 0].length ≤ 1000 then some (D.tup (List.replicate (n : Int).toNat [D.int 0]).flatten, m) else none) = _
  rw [if_pos ⟨by simp, by omega, by omega, by simp⟩, Int.toNat_natCast, rep_nil]
  rfl
theorem addD_LD (h : r.length + s.length ≤ 100000) : addD (LD r) (LD s) m = some (LD (r ++ s), m) := by
  show (if (r.map D.int).length + (s.map D.int).length ≤ 100000 then some (D.lst (r.map D.int ++ s.map D.int), m) else none) = _
  rw [List.length_map, List.length_map, if_pos h, ← List.map_append]
  rfl
theorem addD_RD (h : r.length + s.length ≤ 100000) : addD (RD r) (RD s) m = some (RD (r ++ s), m) := by
  show (if (r.map D.int).length + (s.map D.int).length ≤ 100000 then some (D.tup (r.map D.int ++ s.map D.int), m) else none) = _
  rw [List.length_map, List.length_map, if_pos h, ← List.map_append]
  rfl
theorem addD_lst {xs ys : List D} (h : xs.length + ys.length ≤ 100000) : addD (.lst xs) (.lst ys) m = some (.lst (xs ++ ys), m) := if_pos h
theorem bes_rows [ta : Tb n j A] [tb : Tb p k B] : f_beside_rows [TD A, TD B] m = some (TD (besL A B), m) := by
  refine run_p rfl ?_
  have hn := ta.lo; have hn3 := ta.hi; have hp := tb.lo; have hp3 := tb.hi
  have ma : mulD (.tup [.int 0]) (.int (n : Int)) m = some (RD (List.replicate n 0), m) := by
    show (if [D.int 0] ≠ [] ∧ 1 ≤ (n : Int) ∧ (n : Int) ≤ 1000 ∧ [D.int 0].length ≤ 1000 then some (D.tup (List.replicate (n : Int).toNat [D.int 0]).flatten, m) else none) = _
    rw [if_pos ⟨by simp, by omega, by omega, by simp⟩, Int.toNat_natCast, rep_nil]
    rfl
  have mb : mulD (.tup [.int 0]) (.int (p : Int)) m = some (RD (List.replicate p 0), m) := by
    show (if [D.int 0] ≠ [] ∧ 1 ≤ (p : Int) ∧ (p : Int) ≤ 1000 ∧ [D.int 0].length ≤ 1000 then some (D.tup (List.replicate (p : Int).toNat [D.int 0]).flatten, m) else none) = _
    rw [if_pos ⟨by simp, by omega, by omega, by simp⟩, Int.toNat_natCast, rep_nil]
    rfl
  have ad : ∀ r s : List Int, r.length + s.length ≤ 100000 → addD (RD r) (RD s) m = some (RD (r ++ s), m) := fun r s h => by
    show (if (r.map D.int).length + (s.map D.int).length ≤ 100000 then some (D.tup (r.map D.int ++ s.map D.int), m) else none) = _
    rw [List.length_map, List.length_map, if_pos h, ← List.map_append]
    rfl
  have l1 : lcL (Tg.n 4).put yesB (Kb.bin addD (var 4) (var 3)) [some (TD A), some (TD B), some (RD (List.replicate n 0)), some (RD (List.replicate p 0)), none] (A.map RD) m = some ((A.map fun r => r ++ List.replicate B.length 0).map RD, m) := by
    rw [List.map_map]
    refine lcL_of RD _ A fun row hrow => ⟨_, rfl, rfl, ?_⟩
    have h := ad row (List.replicate p 0) (by rw [ta.sz.2 row hrow, List.length_replicate]; omega)
    simp [h, tb.sz.1]
  have l2 : lcL (Tg.n 4).put yesB (Kb.bin addD (var 2) (var 4)) [some (TD A), some (TD B), some (RD (List.replicate n 0)), some (RD (List.replicate p 0)), none] (B.map RD) m = some ((B.map fun r => List.replicate A.length 0 ++ r).map RD, m) := by
    rw [List.map_map]
    refine lcL_of RD _ B fun row hrow => ⟨_, rfl, rfl, ?_⟩
    have h := ad (List.replicate n 0) row (by rw [tb.sz.2 row hrow, List.length_replicate]; omega)
    simp [h, ta.sz.1]
  have h1 : A.length ≤ 100000 := by rw [ta.sz.1]; omega
  have h2 : B.length ≤ 100000 := by rw [tb.sz.1]; omega
  have h3 : ∀ (xs ys : List D), xs.length + ys.length ≤ 100000 → addD (.lst xs) (.lst ys) m = some (.lst (xs ++ ys), m) := fun xs ys h => if_pos h
  have h4 := h3 ((A.map fun r => r ++ List.replicate B.length 0).map RD) ((B.map fun r => List.replicate A.length 0 ++ r).map RD) (by simp [ta.sz.1, tb.sz.1]; omega)
  have e : D.tup ((A.map fun r => r ++ List.replicate B.length 0).map RD ++ (B.map fun r => List.replicate A.length 0 ++ r).map RD) = TD (besL A B) := by
    rw [← List.map_append]
    rfl
  simp [b_beside_rows, lenD_TD, ma, mb, l1, l2, h1, h2, h4, e, -List.map_map]
theorem q_beside [ta : Tb n j A] [tb : Tb p k B] [h : Nn (n + p)] : f_beside [TO A, TO B] m = some (TO (besL A B), m) := by
  have wm : f_want_at_most [.str "columns", .int 3, .int ((n : Int) + (p : Int))] m = some (.non, m) := by
    have := h.hi
    have h3 : ¬ 3 < (n : Int) + (p : Int) := by omega
    refine run_pn (env := [some (.str "columns"), some (.int 3), some (.int ((n : Int) + (p : Int)))]) rfl ?_
    simp [b_want_at_most, h3]
  have md := mulD_sm (m := m) (un_sm ta.un) (un_sm tb.un)
  have by_ : f_table_by [TD (besL A B), .int (detL A * detL B)] m = some (TO (besL A B), m) := by
    rw [← bes_det]
    exact q_by
  refine run_p rfl ?_
  simp [b_beside, q_want, lenD_TD, wm, bes_rows, md, by_]
end Tab

set_option Elab.async false
set_option linter.all false
set_option maxRecDepth 100000
set_option maxHeartbeats 8000000
set_option autoImplicit false
/-! KtT: the polynomial of a table. -/
namespace Tab
open PySem L2 Kb
variable {m : Mem} {n i j k p q l w : Nat} {A B C E : List (List Int)} {r s : List Int}

def polyL (A : List (List Int)) : List Int := if A.length = 1 then [0 - trL A, 1] else if A.length = 2 then [detL A, 0 - trL A, 1] else [0 - detL A, detL A * trL (invL A), 0 - trL A, 1]
theorem tr_sm [ta : Tb n k A] : Sm (k + 2) (trL A) := by
  have := ta.lo; have := ta.hi
  have : n = 1 ∨ n = 2 ∨ n = 3 := by omega
  rcases this with rfl | rfl | rfl
  · obtain ⟨a, rfl⟩ := sz1 ta.sz
    exact (ta.bd [a] (by simp) a (by simp)).mono (by omega)
  · obtain ⟨a, b, c, d, rfl⟩ := sz2 ta.sz
    exact ((ta.bd [a, b] (by simp) a (by simp)).add (ta.bd [c, d] (by simp) d (by simp))).mono (by omega)
  · obtain ⟨a, b, c, d, e, f, g, h, i, rfl⟩ := sz3 ta.sz
    have h1 := ta.bd [a, b, c] (by simp) a (by simp)
    have h2 := ta.bd [d, e, f] (by simp) e (by simp)
    have h3 := ta.bd [g, h, i] (by simp) i (by simp)
    exact ((h1.add h2).add (h3.mono (by omega))).mono (by omega)
theorem poly_len [ta : Tb n k A] : (polyL A).length = n + 1 := by
  have hl := ta.sz.1
  have := ta.lo; have := ta.hi
  have : n = 1 ∨ n = 2 ∨ n = 3 := by omega
  rcases this with rfl | rfl | rfl <;> simp [polyL, hl]
instance vc_poly [ta : Tb n k A] : Vc (n + 1) (2 * k + 8) (polyL A) := ⟨poly_len, fun x hx => by
  have t1 := tr_sm (A := A)
  have t2 := tr_sm (A := invL A)
  have d1 := un_sm ta.un
  have z : Sm 1 0 := sm_lit
  have o : Sm 1 1 := sm_lit
  unfold polyL at hx
  split at hx
  · simp only [List.mem_cons, List.not_mem_nil, or_false] at hx
    rcases hx with rfl | rfl
    · rw [Int.zero_sub]; exact t1.neg.mono (by omega)
    · exact o.mono (by omega)
  · split at hx
    · simp only [List.mem_cons, List.not_mem_nil, or_false] at hx
      rcases hx with rfl | rfl | rfl
      · exact d1.mono (by omega)
      · rw [Int.zero_sub]; exact t1.neg.mono (by omega)
      · exact o.mono (by omega)
    · simp only [List.mem_cons, List.not_mem_nil, or_false] at hx
      rcases hx with rfl | rfl | rfl | rfl
      · rw [Int.zero_sub]; exact d1.neg.mono (by omega)
      · exact (d1.mul t2).mono (by omega)
      · rw [Int.zero_sub]; exact t1.neg.mono (by omega)
      · exact o.mono (by omega), by have := ta.hi; omega⟩
/-- the middle number of three columns -/
theorem mid_eq {a b c d e f g h i : Int} (u : Un [[a, b, c], [d, e, f], [g, h, i]]) : detL [[a, b, c], [d, e, f], [g, h, i]] * trL (invL [[a, b, c], [d, e, f], [g, h, i]]) = (e * i - f * h) + (a * i - c * g) + (a * e - b * d) := by
  have sq : detL [[a, b, c], [d, e, f], [g, h, i]] * detL [[a, b, c], [d, e, f], [g, h, i]] = 1 := by rcases u with u | u <;> rw [u] <;> rfl
  have e1 : trL (invL [[a, b, c], [d, e, f], [g, h, i]]) = ((e * i - f * h) + (a * i - c * g) + (a * e - b * d)) * detL [[a, b, c], [d, e, f], [g, h, i]] := by
    simp [invL, undL, cof, minorL, trL, detL, List.range_succ]
    grind
  rw [e1]
  generalize detL [[a, b, c], [d, e, f], [g, h, i]] = D at sq ⊢
  grind
theorem g_poly_turn [ta : Tb n j A] [tb : Tb n k B] : polyL (mulL B (mulL A (invL B))) = polyL A := by
  have hl : (mulL B (mulL A (invL B))).length = A.length := by rw [(inst_mul (A := B) (B := mulL A (invL B))).sz.1, ta.sz.1]
  have hd : detL (mulL B (mulL A (invL B))) = detL A := by rw [g_det, g_det, g_deti, Int.mul_comm (detL A), ← Int.mul_assoc, g_sq, Int.one_mul]
  have ht : trL (mulL B (mulL A (invL B))) = trL A := by rw [g_trc, g_assoc, g_im, g_m1]
  have hi : trL (invL (mulL B (mulL A (invL B)))) = trL (invL A) := by rw [g_inv, g_inv, g_ii, g_assoc, g_trc, g_assoc, g_im, g_m1]
  unfold polyL
  rw [hl, hd, ht, hi]
theorem g_poly_swap [ta : Tb n j A] [tb : Tb n k B] : polyL (mulL A B) = polyL (mulL B A) := by
  have hl : (mulL A B).length = (mulL B A).length := by rw [(inst_mul (A := A) (B := B)).sz.1, (inst_mul (A := B) (B := A)).sz.1]
  unfold polyL
  rw [hl, g_det, g_det, Int.mul_comm (detL A), g_trc (A := A), g_inv, g_inv, g_trc (A := invL B)]
theorem g_poly_inv [ta : Tb n k A] : polyL (invL A) = (polyL A).reverse.map fun x => (polyL A).getD 0 0 * x := by
  have hl : (invL A).length = A.length := by rw [(inst_inv (A := A)).sz.1, ta.sz.1]
  have hla := ta.sz.1
  have sq := g_sq (A := A)
  have := ta.lo; have := ta.hi
  have : n = 1 ∨ n = 2 ∨ n = 3 := by omega
  unfold polyL
  rw [hl, g_deti, g_ii]
  rcases this with rfl | rfl | rfl
  · obtain ⟨a, rfl⟩ := sz1 ta.sz
    have e : invL [[a]] = [[a]] := rfl
    simp [detL] at sq
    simp [e, trL]
    grind
  · obtain ⟨a, b, c, d, rfl⟩ := sz2 ta.sz
    have e : trL (invL [[a, b], [c, d]]) = detL [[a, b], [c, d]] * trL [[a, b], [c, d]] := by
      simp [invL, undL, cof, minorL, trL, detL, List.range_succ]
      grind
    rw [e]
    generalize detL [[a, b], [c, d]] = D at sq ⊢
    generalize trL [[a, b], [c, d]] = T
    simp
    grind
  · obtain ⟨a, b, c, d, e, f, g, h, i, rfl⟩ := sz3 ta.sz
    generalize detL [[a, b, c], [d, e, f], [g, h, i]] = D at sq ⊢
    generalize trL [[a, b, c], [d, e, f], [g, h, i]] = T
    generalize trL (invL [[a, b, c], [d, e, f], [g, h, i]]) = S
    simp
    grind
theorem q_poly [ta : Tb n k A] (hk : k ≤ 4000) : f_polynomial [TO A] m = some (RD (polyL A), m) := by
  have := ta.lo; have := ta.hi
  have : n = 1 ∨ n = 2 ∨ n = 3 := by omega
  have hl := ta.sz.1
  refine run_p rfl ?_
  rcases this with rfl | rfl | rfl
  · obtain ⟨a, rfl⟩ := sz1 ta.sz
    have e : TD [[a]] = .tup [.tup [.int a]] := rfl
    have e2 : polyL [[a]] = [0 - a, 1] := rfl
    have e3 : RD [0 - a, 1] = .tup [.int (0 - a), .int 1] := rfl
    have lt : lenD [TD [[a]]] m = some (.int 1, m) := rfl
    rw [e2, e3]
    simp [b_polynomial, q_want, lt]
    simp [e, atI, ixN]
  · have e2 : polyL A = [detL A, 0 - trL A, 1] := by simp [polyL, hl]
    have e3 : RD [detL A, 0 - trL A, 1] = .tup [.int (detL A), .int (0 - trL A), .int 1] := rfl
    rw [e2, e3]
    simp [b_polynomial, q_want, lenD_TD, q_trace0]
  · have e2 : polyL A = [0 - detL A, detL A * trL (invL A), 0 - trL A, 1] := by simp [polyL, hl]
    have e3 : RD [0 - detL A, detL A * trL (invL A), 0 - trL A, 1] = .tup [.int (0 - detL A), .int (detL A * trL (invL A)), .int (0 - trL A), .int 1] := rfl
    rw [e2, e3]
    have rg : ∀ env : Ev, rng1 (argC (cst (.int 3)) argN) env m = some ((List.range 3).map fun (j : Nat) => D.int (j : Int), m) := fun env => rng1_nat (n := 3) (by simp) (by decide)
    have lf := fun i (h : i < 3) => left (m := m) ta.sz (by decide) (by decide) h h
    have md := fun i (h : i < 3) => minor_det (m := m) ta.sz (ta.bd.mono hk) (by decide) (by decide) h h
    have es : ((List.range 3).map fun i => detL (minorL A i i)).sum = detL A * trL (invL A) := by
      obtain ⟨a, b, c, d, e, f, g, h, i, rfl⟩ := sz3 ta.sz
      rw [mid_eq ta.un]
      simp [minorL, detL, List.range_succ]
      grind
    have sm := sumD_ints (m := m) (ns := (List.range 3).map fun i => detL (minorL A i i))
    rw [es] at sm
    have lc : lcL (Tg.n 4).put yesB (app (f_determinant_of 3) (argC (app f_left_without (argC (var 1) (argC (var 4) (argC (var 4) argN)))) argN)) [some (TO A), some (TD A), some (.int (detL A)), none, none] ((List.range 3).map fun (j : Nat) => D.int (j : Int)) m = some (((List.range 3).map fun i => detL (minorL A i i)).map D.int, m) := by
      rw [List.map_map]
      refine lcL_of (fun (j : Nat) => D.int (j : Int)) _ (List.range 3) fun i hi => ⟨_, rfl, rfl, ?_⟩
      have hi' := List.mem_range.mp hi
      have l0 : f_left_without [TD A, .int (i : Int), .int (i : Int)] m = _ := lf i hi'
      have d0 := md i hi'
      simp only [app_def, argC_def, argN_def, List.set_cons_succ, List.set_cons_zero, varS, var0, isOwn_TD, isOwn_int, Option.bind_some, Bool.false_eq_true, if_false, l0, d0]
      rfl
    have hR : ((List.range 3).map fun i => detL (minorL A i i)).length ≤ 100000 := by simp
    rw [lst_ints] at sm
    simp [b_polynomial, q_want, lenD_TD, q_trace0, rg, lc, sm, -List.map_map]
end Tab

set_option Elab.async false
set_option linter.all false
set_option maxRecDepth 100000
set_option maxHeartbeats 8000000
set_option autoImplicit false
/-! KtU: powers of tables. -/
namespace Tab
open PySem L2 Kb
variable {m : Mem} {n i j k p q l w : Nat} {A B C E : List (List Int)} {r s : List Int} {e f : Int}

def powL (A : List (List Int)) : Nat → List (List Int)
  | 0 => idL A.length
  | e + 1 => mulL (powL A e) A
def powZ (A : List (List Int)) (e : Int) : List (List Int) := if 0 ≤ e then powL A e.natAbs else powL (invL A) e.natAbs
theorem pow_tb [ta : Tb n k A] : ∀ e : Nat, Tb n (e * (k + 3) + 1) (powL A e)
  | 0 => by
    have := ta.nn
    unfold powL
    rw [ta.sz.1, Nat.zero_mul]
    infer_instance
  | e + 1 => by
    have h : Tb n (e * (k + 3) + 1) (powL A e) := pow_tb e
    have h2 : Tb n (e * (k + 3) + 1 + k + 3) (mulL (powL A e) A) := inferInstance
    have e2 : e * (k + 3) + 1 + k + 3 = (e + 1) * (k + 3) + 1 := by rw [Nat.succ_mul]; omega
    rw [e2] at h2
    exact h2
instance inst_pow [ta : Tb n k A] {e : Nat} : Tb n (e * (k + 3) + 1) (powL A e) := pow_tb e
theorem pow_0 [ta : Tb n k A] : powL A 0 = idL n := by unfold powL; rw [ta.sz.1]
theorem pow_s {e : Nat} : powL A (e + 1) = mulL (powL A e) A := rfl
theorem pow_add [ta : Tb n k A] (i : Nat) : ∀ j : Nat, powL A (i + j) = mulL (powL A i) (powL A j)
  | 0 => by rw [pow_0, g_m1]; rfl
  | j + 1 => by
    show powL A (i + j + 1) = _
    rw [pow_s, pow_add i j, g_assoc]
    rfl
theorem pow_1 [ta : Tb n k A] : powL A 1 = A := by
  have := ta.nn
  rw [pow_s, pow_0, g_1m]
theorem pow_c [ta : Tb n k A] (i : Nat) : mulL A (powL A i) = powL A (i + 1) := by rw [Nat.add_comm, pow_add, pow_1]
theorem pow_inv [ta : Tb n k A] : ∀ i : Nat, powL (invL A) i = invL (powL A i)
  | 0 => by
    have := ta.nn
    rw [pow_0, pow_0, g_i1]
  | i + 1 => by rw [pow_s, pow_inv i, ← pow_c, g_inv]
instance inst_powZ [ta : Tb n k A] {e : Int} : Tb n (e.natAbs * (2 * k + 4 + 3) + 1) (powZ A e) := by
  unfold powZ
  split
  · have h : Tb n (e.natAbs * (k + 3) + 1) (powL A e.natAbs) := inferInstance
    have hk : e.natAbs * (k + 3) ≤ e.natAbs * (2 * k + 4 + 3) := Nat.mul_le_mul_left _ (by omega)
    exact ⟨h.sz, h.bd.mono (by omega), h.lo, h.hi, h.un⟩
  · infer_instance
theorem z_nat (i : Nat) : powZ A (i : Int) = powL A i := by
  unfold powZ
  rw [if_pos (by omega)]
  rfl
theorem z_neg [ta : Tb n k A] (e : Int) : powZ A (-e) = invL (powZ A e) := by
  have := ta.nn
  unfold powZ
  rw [Int.natAbs_neg]
  rcases Int.lt_trichotomy e 0 with h | h | h
  · rw [if_pos (by omega), if_neg (by omega), pow_inv, g_ii]
  · subst h
    rw [if_pos (by omega), if_pos (by omega)]
    show powL A 0 = invL (powL A 0)
    rw [pow_0, g_i1]
  · rw [if_neg (by omega), if_pos (by omega), pow_inv]
theorem z_0 [ta : Tb n k A] : powZ A 0 = idL n := (z_nat 0).trans pow_0
theorem z_1 [ta : Tb n k A] : powZ A 1 = A := (z_nat 1).trans pow_1
theorem z_m1 [ta : Tb n k A] : powZ A (-1) = invL A := by rw [z_neg, z_1]
theorem z_s [ta : Tb n k A] (e : Int) : powZ A (e + 1) = mulL (powZ A e) A := by
  have := ta.nn
  rcases (show 0 ≤ e ∨ e < 0 by omega) with h | h
  · obtain ⟨i, rfl⟩ := Int.eq_ofNat_of_zero_le h
    rw [z_nat]
    exact z_nat (i + 1)
  · obtain ⟨i, hi⟩ := Int.eq_ofNat_of_zero_le (show 0 ≤ -e - 1 by omega)
    have e1 : e = -((i + 1 : Nat) : Int) := by omega
    have e2 : e + 1 = -(i : Int) := by omega
    rw [e2, e1, z_neg, z_neg, z_nat, z_nat, ← pow_c, g_inv, g_assoc, g_im, g_m1]
theorem z_p [ta : Tb n k A] (e : Int) : powZ A (e - 1) = mulL (powZ A e) (invL A) := by
  have h := z_s (A := A) (e - 1)
  rw [Int.sub_add_cancel] at h
  rw [h, g_assoc, g_mi, g_m1]
theorem int_ind {P : Int → Prop} (h0 : P 0) (hs : ∀ e, P e → P (e + 1)) (hp : ∀ e, P e → P (e - 1)) (e : Int) : P e := by
  have h1 : ∀ i : Nat, P (i : Int) := fun i => by
    induction i with
    | zero => exact h0
    | succ i ih => exact hs _ ih
  have h2 : ∀ i : Nat, P (-(i : Int)) := fun i => by
    induction i with
    | zero => exact h0
    | succ i ih =>
      have := hp _ ih
      have e : -((i + 1 : Nat) : Int) = -(i : Int) - 1 := by omega
      rw [e]
      exact this
  rcases (show 0 ≤ e ∨ e < 0 by omega) with h | h
  · obtain ⟨i, rfl⟩ := Int.eq_ofNat_of_zero_le h
    exact h1 i
  · obtain ⟨i, hi⟩ := Int.eq_ofNat_of_zero_le (show 0 ≤ -e by omega)
    have := h2 i
    rw [← hi, Int.neg_neg] at this
    exact this
theorem z_add [ta : Tb n k A] (e f : Int) : powZ A (e + f) = mulL (powZ A e) (powZ A f) := by
  refine int_ind (P := fun f => powZ A (e + f) = mulL (powZ A e) (powZ A f)) ?_ (fun f h => ?_) (fun f h => ?_) f
  · rw [Int.add_zero, z_0, g_m1]
  · rw [← Int.add_assoc, z_s, h, z_s f, g_assoc]
  · rw [← Int.add_sub_assoc, z_p, h, z_p f, g_assoc]
theorem z_mul [ta : Tb n k A] (e f : Int) : powZ (powZ A e) f = powZ A (e * f) := by
  refine int_ind (P := fun f => powZ (powZ A e) f = powZ A (e * f)) ?_ (fun f h => ?_) (fun f h => ?_) f
  · rw [Int.mul_zero, z_0, z_0]
  · rw [z_s, h, Int.mul_add, Int.mul_one, z_add]
  · rw [z_p, h, Int.mul_sub, Int.mul_one, show e * f - e = e * f + -e from Int.sub_eq_add_neg, z_add, z_neg]
theorem z_comm [ta : Tb n k A] (e f : Int) : mulL (powZ A e) (powZ A f) = mulL (powZ A f) (powZ A e) := by rw [← z_add, ← z_add, Int.add_comm]
theorem z_det [ta : Tb n k A] (e : Int) : detL (powZ A e) = if e % 2 = 0 then 1 else detL A := by
  have := ta.nn
  have sq := g_sq (A := A)
  refine int_ind (P := fun e => detL (powZ A e) = if e % 2 = 0 then 1 else detL A) ?_ (fun f h => ?_) (fun f h => ?_) e
  · rw [z_0, g_det1]
    rfl
  · rw [z_s, g_det, h]
    by_cases h2 : f % 2 = 0
    · rw [if_pos h2, if_neg (by omega), Int.one_mul]
    · rw [if_neg h2, if_pos (by omega), sq]
  · rw [z_p, g_det, g_deti, h]
    by_cases h2 : f % 2 = 0
    · rw [if_pos h2, if_neg (by omega), Int.one_mul]
    · rw [if_neg h2, if_pos (by omega), sq]
/-- tables turned -/
theorem z_turn [ta : Tb n j A] [tb : Tb n k B] (e : Int) : powZ (mulL B (mulL A (invL B))) e = mulL B (mulL (powZ A e) (invL B)) := by
  have := ta.nn
  refine int_ind (P := fun e => powZ (mulL B (mulL A (invL B))) e = mulL B (mulL (powZ A e) (invL B))) ?_ (fun f h => ?_) (fun f h => ?_) e
  · rw [z_0, z_0, g_1m, g_mi]
  · rw [z_s, h, z_s f]
    simp only [g_assoc, g_imc]
  · rw [z_p, h, z_p f]
    simp only [g_inv, g_ii, g_assoc, g_imc]

/-! ### what the package reckons -/
/-- powers to so many small enough -/
def Pb (A : List (List Int)) (N : Nat) : Prop := ∀ e : Int, e.natAbs ≤ N → Bd 4000 (powZ A e)
theorem Pb.tb [ta : Tb n k A] {N : Nat} (h : Pb A N) (e : Int) (he : e.natAbs ≤ N) : Tb n 4000 (powZ A e) := by
  have t : Tb n (e.natAbs * (2 * k + 4 + 3) + 1) (powZ A e) := inferInstance
  exact ⟨t.sz, h e he, t.lo, t.hi, t.un⟩
theorem pb_small [ta : Tb n k A] (N : Nat) (h : N * (2 * k + 7) + 1 ≤ 4000) : Pb A N := fun e he => by
  have t : Tb n (e.natAbs * (2 * k + 4 + 3) + 1) (powZ A e) := inferInstance
  have h2 : e.natAbs * (2 * k + 4 + 3) ≤ N * (2 * k + 7) := Nat.mul_le_mul_right (2 * k + 7) he
  exact t.bd.mono (by omega)
theorem Pb.mono {M N : Nat} (h : Pb A N) (e : M ≤ N) : Pb A M := fun f hf => h f (by omega)
theorem Pb.pow [ta : Tb n k A] {M N : Nat} (h : Pb A N) (e : Int) (he : e.natAbs * M ≤ N) : Pb (powZ A e) M := fun f hf => by
  rw [z_mul]
  refine h _ ?_
  rw [Int.natAbs_mul]
  exact Nat.le_trans (Nat.mul_le_mul_left _ hf) he
theorem power_loop [ta : Tb n k A] {N : Nat} (hb : ∀ i ≤ N, Bd 4000 (powL A i)) : ∀ (fuel r f h : Nat) (o : Option D), r < 2 ^ fuel → f + h * r = N → (0 < r → h ≤ N) → fuel ≤ 199 →
    ∃ d o', whileL (tstB (Kb.bin gtD (var 1) (cst (.int 0)))) (seqS (setS (.n 4) (Kb.bin divD (var 1) (cst (.int 2)))) (seqS (ifS (tstB (Kb.bin neD (var 1) (Kb.bin mulD (cst (.int 2)) (var 4)))) (setS (.n 2) (app f_times_rows (argC (var 2) (argC (var 3) argN)))) skS) (seqS (ifS (tstB (Kb.bin gtD (var 4) (cst (.int 0)))) (setS (.n 3) (app f_times_rows (argC (var 3) (argC (var 3) argN)))) skS) (setS (.n 1) (var 4))))) (fuel + 1)
      [some (TD A), some (.int (r : Int)), some (TD (powL A f)), some (TD (powL A h)), o] m = some (.nx [some (TD A), some (.int 0), some (TD (powL A N)), d, o'] m)
  | fuel, 0, f, h, o, _, e, _, _ => by
    rw [Nat.mul_zero, Nat.add_zero] at e
    subst e
    exact ⟨_, _, by rw [whileL]; simp; exact ⟨rfl, rfl⟩⟩
  | 0, r + 1, _, _, _, hr, _, _, _ => by omega
  | fuel + 1, r + 1, f, h, o, hr, e, hh, hN => by
    have hhN := hh (by omega)
    have hr2 : r + 1 ≤ N ∨ h = 0 := by
      rcases Nat.eq_zero_or_pos h with z | z
      · exact .inr z
      · left
        have := Nat.le_mul_of_pos_left (r + 1) z
        omega
    have hle : h ≤ h * (r + 1) := Nat.le_mul_of_pos_right h (by omega)
    have th : Tb n 4000 (powL A h) := ⟨(pow_tb h).sz, hb h hhN, ta.lo, ta.hi, (pow_tb (A := A) h).un⟩
    have tf : Tb n 4000 (powL A f) := ⟨(pow_tb f).sz, hb f (by omega), ta.lo, ta.hi, (pow_tb (A := A) f).un⟩
    have m1 := q_times (m := m) (A := powL A f) (B := powL A h) (by decide) (by decide)
    have m2 := q_times (m := m) (A := powL A h) (B := powL A h) (by decide) (by decide)
    rw [← pow_add] at m1 m2
    have hd : ((r + 1 : Nat) : Int) / 2 = (((r + 1) / 2 : Nat) : Int) := by omega
    have hm : mulD (.int 2) (.int (((r + 1) / 2 : Nat) : Int)) m = some (.int (2 * (((r + 1) / 2 : Nat) : Int)), m) := by
      refine mulD_sm (j := 2) (k := 200) sm_lit ?_ (by decide)
      unfold Sm
      rw [Int.natAbs_natCast]
      have : 2 ^ (fuel + 1) ≤ 2 ^ 200 := Nat.pow_le_pow_right (by decide) (by omega)
      omega
    have hpos : (0 : Int) < ((r + 1 : Nat) : Int) := by omega
    have key : ∀ (f' h' : Nat), (f' = if (r + 1) % 2 = 1 then f + h else f) → (h' = if 0 < (r + 1) / 2 then h + h else h) → f' + h' * ((r + 1) / 2) = N ∧ (0 < (r + 1) / 2 → h' ≤ N) := by
      intro f' h' e1 e2
      have e3 : h * (r + 1) = h * (2 * ((r + 1) / 2)) + h * ((r + 1) % 2) := by
        rw [← Nat.mul_add]
        congr 1
        omega
      have e4 : h * (2 * ((r + 1) / 2)) = (h + h) * ((r + 1) / 2) := by rw [← Nat.mul_assoc, Nat.mul_comm h 2, Nat.two_mul]
      have e6 : f' + (h + h) * ((r + 1) / 2) = N := by
        subst e1
        split
        · rename_i h1; rw [h1] at e3; omega
        · rename_i h1
          have : (r + 1) % 2 = 0 := by omega
          rw [this] at e3
          omega
      subst e2
      by_cases hp : 0 < (r + 1) / 2
      · rw [if_pos hp]
        refine ⟨e6, fun _ => ?_⟩
        have := Nat.le_mul_of_pos_right (h + h) hp
        omega
      · have hz : (r + 1) / 2 = 0 := by omega
        rw [hz] at e6 ⊢
        exact ⟨by simpa using e6, fun z => by omega⟩
    have k1 := key _ _ rfl rfl
    obtain ⟨d, o', ih⟩ := power_loop hb fuel ((r + 1) / 2) (if (r + 1) % 2 = 1 then f + h else f) (if 0 < (r + 1) / 2 then h + h else h) (some (.int (((r + 1) / 2 : Nat) : Int))) (by rw [Nat.pow_succ] at hr; omega) k1.1 k1.2 (by omega)
    refine ⟨d, o', ?_⟩
    rw [whileL]
    have c1 : (((r + 1 : Nat) : Int) = 2 * (((r + 1) / 2 : Nat) : Int)) = ¬ ((r + 1) % 2 = 1) := by
      apply propext
      omega
    have c2 : ((0 : Int) < (((r + 1) / 2 : Nat) : Int)) = (0 < (r + 1) / 2) := by
      apply propext
      omega
    have lg : Nat.log2 2 = 1 := by decide +kernel
    have h1 : (r + 1) % 2 = 1 ∨ ¬ (r + 1) % 2 = 1 := by omega
    generalize hR : ((r + 1 : Nat) : Int) = R at *
    generalize hQ : (r + 1) / 2 = Q at *
    generalize hP : (r + 1) % 2 = P at *
    have h2 : 0 < Q ∨ ¬ 0 < Q := by omega
    rcases h1 with h1 | h1 <;> rcases h2 with h2 | h2
    · rw [if_pos h1, if_pos h2] at ih
      simp [hpos, hd, hm, c1, c2, h1, h2, m1, m2, ih, lg]
    · rw [if_pos h1, if_neg h2] at ih
      simp [hpos, hd, hm, c1, c2, h1, h2, m1, m2, ih, lg]
    · rw [if_neg h1, if_pos h2] at ih
      simp [hpos, hd, hm, c1, c2, h1, h2, m1, m2, ih, lg]
    · rw [if_neg h1, if_neg h2] at ih
      simp [hpos, hd, hm, c1, c2, h1, h2, m1, m2, ih, lg]
theorem q_power_rows [ta : Tb n k A] {N : Nat} (hb : ∀ i ≤ N, Bd 4000 (powL A i)) (hN : N < 2 ^ 199) : f_power_rows [TD A, .int (N : Int)] m = some (TD (powL A N), m) := by
  have nn := ta.nn
  obtain ⟨d, o', h⟩ := power_loop (m := m) hb 199 N 0 1 none hN (by omega) (fun h => h) (by omega)
  rw [pow_0, pow_1] at h
  refine run_p rfl ?_
  simp [b_power_rows, whileS, lenD_TD, q_idrows, h]
theorem q_wantnum : f_want_number [.int e] m = some (.non, m) := by
  refine run_pn (env := [some (.int e)]) rfl ?_
  simp [b_want_number, isint_int]
theorem q_power [ta : Tb n k A] (hk : k ≤ 4000) (e : Int) (he : e.natAbs < 2 ^ 199) (hb : Pb A e.natAbs) : f_Table_power [TO A, .int e] m = some (TO (powZ A e), m) := by
  have nn := ta.nn
  have hu := q_undrows (m := m) (A := A) hk
  have hm : mulD (.int ((e.natAbs : Int) / 2)) (.int 2) m = some (.int ((e.natAbs : Int) / 2 * 2), m) := by
    refine mulD_sm (j := 200) (k := 2) ?_ sm_lit (by decide)
    unfold Sm
    have e2 : ((e.natAbs : Int) / 2).natAbs = e.natAbs / 2 := by omega
    have : 2 ^ 199 ≤ 2 ^ 200 := Nat.pow_le_pow_right (by decide) (by omega)
    omega
  have hby := q_by (m := m) (A := powZ A e)
  have hd := z_det (A := A) e
  have c1 : ((e.natAbs : Int) / 2 * 2 = (e.natAbs : Int)) = (e % 2 = 0) := by
    apply propext
    omega
  have lg : Nat.log2 2 = 1 := by decide +kernel
  have hA : (if e < 0 then -e else e) = (e.natAbs : Int) := by split <;> omega
  refine run_p rfl ?_
  by_cases h0 : 0 ≤ e
  · have hp := q_power_rows (m := m) (A := A) (N := e.natAbs) (fun i hi => by
      have := hb (i : Int) (by omega)
      rw [z_nat] at this
      exact this) he
    have ez : powZ A e = powL A e.natAbs := by unfold powZ; rw [if_pos h0]
    rw [← ez] at hp
    generalize hE : (e.natAbs : Int) = N at *
    by_cases h2 : e % 2 = 0
    · rw [if_pos h2] at hd
      rw [hd] at hby
      simp [b_Table_power, q_wantnum, h0, hA, hp, hm, c1, h2, hby, lg]
    · rw [if_neg h2] at hd
      rw [hd] at hby
      simp [b_Table_power, q_wantnum, h0, hA, hp, hm, c1, h2, hby, lg]
  · have hp := q_power_rows (m := m) (A := invL A) (N := e.natAbs) (fun i hi => by
      have := hb (-(i : Int)) (by omega)
      rw [z_neg, z_nat, ← pow_inv] at this
      exact this) he
    have ez : powZ A e = powL (invL A) e.natAbs := by unfold powZ; rw [if_neg h0]
    rw [← ez] at hp
    generalize hE : (e.natAbs : Int) = N at *
    by_cases h2 : e % 2 = 0
    · rw [if_pos h2] at hd
      rw [hd] at hby
      simp [b_Table_power, q_wantnum, h0, hA, hu, hp, hm, c1, h2, hby, lg]
    · rw [if_neg h2] at hd
      rw [hd] at hby
      simp [b_Table_power, q_wantnum, h0, hA, hu, hp, hm, c1, h2, hby, lg]
end Tab

set_option Elab.async false
set_option linter.all false
set_option maxRecDepth 100000
set_option maxHeartbeats 8000000
set_option autoImplicit false
/-! KtV: Tables made of lists of lists. -/
namespace Tab
open PySem L2 Kb
variable {m : Mem} {n i j k p q l w : Nat} {A B C E : List (List Int)} {r s : List Int} {e f : Int}

/-- a row as a tuple or a list; rows of such as a tuple or a list -/
def Rf (f : List Int → D) : Prop := f = RD ∨ f = LD
def LLD (A : List (List Int)) : D := .lst (A.map LD)
@[simp] theorem isOwn_LLD {A : List (List Int)} : isOwn (LLD A) = false := hid rfl
@[simp] theorem watD_LLD {A : List (List Int)} : watD m (LLD A) = none := hid rfl
@[simp] theorem iterD_LLD {A : List (List Int)} : iterD m (LLD A) = some (A.map LD, m) := hid rfl
@[simp] theorem frzD_LLD {A : List (List Int)} : frzD m (LLD A) = some (A.map LD, m) := hid rfl
def Df (d : D) (ds : List D) : Prop := d = .tup ds ∨ d = .lst ds
theorem df_own {d : D} {ds : List D} (h : Df d ds) : isOwn d = false := by rcases h with rfl | rfl <;> rfl
theorem df_len {d : D} {ds : List D} (h : Df d ds) : lenD [d] m = some (.int (ds.length : Int), m) := by rcases h with rfl | rfl <;> simp
theorem df_list {d : D} {ds : List D} (h : Df d ds) : f_is_list [d] m = some (.bl true, m) := by
  rcases h with rfl | rfl
  · exact islist_tup
  · exact islist_lst
theorem df_it {d : D} {ds : List D} (h : Df d ds) : iterD m d = some (ds, m) := by rcases h with rfl | rfl <;> rfl
theorem df_wat {d : D} {ds : List D} (h : Df d ds) : watD m d = none := by rcases h with rfl | rfl <;> rfl
theorem df_frz {d : D} {ds : List D} (h : Df d ds) : frzD m d = some (ds, m) := by rcases h with rfl | rfl <;> rfl
theorem df_ty {d : D} {ds : List D} (h : Df d ds) (k : Nat) : ∃ t, tyD m d = some t ∧ isC k t = false := by
  rcases h with rfl | rfl
  · exact ⟨_, rfl, rfl⟩
  · exact ⟨_, rfl, rfl⟩
theorem rf_df {f : List Int → D} (h : Rf f) (r : List Int) : Df (f r) (r.map D.int) := by
  rcases h with rfl | rfl
  · exact .inl rfl
  · exact .inr rfl
theorem rf_tup {f : List Int → D} (h : Rf f) (r : List Int) : tupleD [f r] m = some (RD r, m) := by rcases h with rfl | rfl <;> simp
theorem are_rowsV {f : List Int → D} {d : D} (hf : Rf f) (hd : Df d (A.map f)) (hA : Sz n A) (h1 : 1 ≤ n) (h3 : n ≤ 3) : f_are_rows [d] m = some (.bl true, m) := by
  have ho := df_own hd
  refine run_p rfl ?_
  have loop : ∃ env' m', forL (Tg.n 1).put (ifS (orB (notB (tstE (app f_is_list (argC (var 1) argN)))) (orB (tstB (Kb.bin neD (app lenD (argC (var 1) argN)) (app lenD (argC (var 0) argN)))) (notB (tstE (app allD (argC (lcE (itE (var 1)) (.n 2) [2] yesB (app f_is_integer (argC (var 2) argN))) argN)))))) (retS (cst (.bl false))) skS)
      (A.map f) [some d, none, none] m = some (.nx env' m') ∧ m' = m := by
    obtain ⟨env', m', e, h, _⟩ := forL_inv (put := (Tg.n 1).put) (body := ifS (orB (notB (tstE (app f_is_list (argC (var 1) argN)))) (orB (tstB (Kb.bin neD (app lenD (argC (var 1) argN)) (app lenD (argC (var 0) argN)))) (notB (tstE (app allD (argC (lcE (itE (var 1)) (.n 2) [2] yesB (app f_is_integer (argC (var 2) argN))) argN)))))) (retS (cst (.bl false))) skS)
      (fun env m' => m' = m ∧ ∃ o, env = [some d, o, none]) (A.map f) [some d, none, none] m ⟨rfl, none, rfl⟩ fun e he env m' ⟨em, o, ee⟩ => by
        subst em ee
        obtain ⟨r, hr, rfl⟩ := List.mem_map.mp he
        have hr1 := rf_df hf r
        have hl : r.length = A.length := by rw [hA.2 r hr, hA.1]
        have hl2 : A.length ≤ 100000 := by have := hA.1; omega
        have hln := df_len (m := m') hd
        have hln1 := df_len (m := m') hr1
        rw [List.length_map] at hln hln1
        rw [hl] at hln1
        have h := all_ints (m := m') (r := r) (k := 2) (env := [some d, some (f r), none]) fun x => ⟨_, rfl, by simp [isint_int]⟩
        exact ⟨[some d, some (f r), none], .nx [some d, some (f r), none] m', rfl, by simp [df_own hr1, ho, df_list hr1, hln, hln1, df_frz hr1, df_it hr1, df_wat hr1, hl, hl2, h, -List.map_map, allD_bls], rfl, some (f r), rfl⟩
    exact ⟨env', m', e, h⟩
  obtain ⟨env', m', e, rfl⟩ := loop
  have hl : 1 ≤ (A.length : Int) ∧ (A.length : Int) ≤ 3 := by have := hA.1; omega
  have hln := df_len (m := m') hd
  rw [List.length_map] at hln
  simp [b_are_rows, ho, df_list hd, hln, df_it hd, df_wat hd, hl.1, hl.2, e]
theorem q_newV {f : List Int → D} {d : D} (hf : Rf f) (hd : Df d (A.map f)) [ta : Tb n k A] (hk : k ≤ 4000) : makeV 1 2 f_Table_init [d] m = some (TO A, m) := by
  have ho := df_own hd
  refine tab_init (fun _ => by simp) (fun _ => by simp) (fun m => ?_) ho
  refine run_p rfl ?_
  have c : lcL (Tg.n 2).put yesB (app tupleD (argC (var 2) argN)) [some d, none, none, none] (A.map f) m = some (A.map RD, m) :=
    lcL_of f RD A fun x _ => by
      have h1 := rf_tup (m := m) hf x
      have h2 := df_own (rf_df hf x)
      exact ⟨_, rfl, rfl, by simp [h1, h2]⟩
  have hl2 : A.length ≤ 100000 := by have := ta.sz.1; have := ta.hi; omega
  obtain ⟨t, t1, t2⟩ := df_ty (m := m) hd 0
  have tm := told_mk (m := m) (a := TD A) (b := .int (detL A)) (fun _ => by simp) (fun _ => by simp)
  simp [b_told_rows, ho, t1, t2, are_rowsV hf hd ta.sz ta.lo ta.hi, df_frz hd, df_it hd, df_wat hd, c, hl2, q_det hk, unit_in ta.un, tm]
theorem q_newLL [ta : Tb n k A] (hk : k ≤ 4000) : makeV 1 2 f_Table_init [LLD A] m = some (TO A, m) := q_newV (.inr rfl) (.inr rfl) hk
theorem q_newTL [ta : Tb n k A] (hk : k ≤ 4000) : makeV 1 2 f_Table_init [.tup (A.map LD)] m = some (TO A, m) := q_newV (.inr rfl) (.inl rfl) hk
theorem q_newLT [ta : Tb n k A] (hk : k ≤ 4000) : makeV 1 2 f_Table_init [.lst (A.map RD)] m = some (TO A, m) := q_newV (.inl rfl) (.inr rfl) hk
end Tab

set_option Elab.async false
set_option linter.all false
set_option maxRecDepth 100000
set_option maxHeartbeats 8000000
set_option autoImplicit false
/-! KtW: makers, words, products. -/
namespace Tab
open PySem L2 Kb
variable {m : Mem} {n i j k p q l w : Nat} {A B C E : List (List Int)} {Ms Ns : List (List (List Int))} {r s v u : List Int} {e f x : Int}

/-! ### makers, words -/
def MD (Ms : List (List (List Int))) : D := .lst (Ms.map TO)
/-- p makers of n columns, numbers below 2 to the k -/
class Mk (n k p : outParam Nat) (Ms : List (List (List Int))) : Prop where
  len : Ms.length = p
  lo : 1 ≤ p
  hi : p ≤ 4
  tb : ∀ A ∈ Ms, Tb n k A
/-- words of p makers, of at most l letters -/
class Wd (p : Nat) (l : outParam Nat) (w : List Int) : Prop where
  len : w.length ≤ l
  ok : ∀ x ∈ w, 1 ≤ x.natAbs ∧ x.natAbs ≤ p
theorem Mk.mem [h : Mk n k p Ms] (i : Nat) (hi : i < p) : ∃ A, Ms[i]? = some A ∧ Tb n k A := by
  have hl := h.len
  exact ⟨Ms[i], List.getElem?_eq_getElem (by omega), h.tb _ (List.getElem_mem (by omega))⟩
theorem Mk.nn (h : Mk n k p Ms) : Nn n := by
  have := h.lo
  obtain ⟨A, _, t⟩ := Mk.mem (Ms := Ms) 0 (by omega)
  exact t.nn
/-- a letter's table -/
def letL (Ms : List (List (List Int))) (x : Int) : List (List Int) := if 0 < x then Ms.getD (x.natAbs - 1) [] else invL (Ms.getD (x.natAbs - 1) [])
def prodL (n : Nat) (Ms : List (List (List Int))) : List Int → List (List Int)
  | [] => idL n
  | x :: w => mulL (letL Ms x) (prodL n Ms w)
theorem let_tb [h : Mk n k p Ms] (hx : 1 ≤ x.natAbs ∧ x.natAbs ≤ p) : Tb n (2 * k + 4) (letL Ms x) := by
  obtain ⟨A, e, t⟩ := Mk.mem (Ms := Ms) (x.natAbs - 1) (by omega)
  have e2 : Ms.getD (x.natAbs - 1) [] = A := by rw [List.getD_eq_getElem?_getD, e]; rfl
  unfold letL
  rw [e2]
  split
  · exact ⟨t.sz, t.bd.mono (by omega), t.lo, t.hi, t.un⟩
  · infer_instance
theorem prod_tb [h : Mk n k p Ms] : ∀ (w : List Int), (∀ x ∈ w, 1 ≤ x.natAbs ∧ x.natAbs ≤ p) → Tb n (w.length * (2 * k + 7) + 1) (prodL n Ms w)
  | [], _ => by
    have := h.nn
    rw [List.length_nil, Nat.zero_mul]
    unfold prodL
    infer_instance
  | x :: w, hw => by
    have t1 : Tb n (2 * k + 4) (letL Ms x) := let_tb (hw x List.mem_cons_self)
    have t2 := prod_tb w fun y hy => hw y (List.mem_cons_of_mem _ hy)
    have t3 : Tb n (2 * k + 4 + (w.length * (2 * k + 7) + 1) + 3) (mulL (letL Ms x) (prodL n Ms w)) := inferInstance
    rw [List.length_cons, Nat.succ_mul]
    exact ⟨t3.sz, t3.bd.mono (by omega), t3.lo, t3.hi, t3.un⟩
instance inst_prod [h : Mk n k p Ms] [hw : Wd p l v] : Tb n (l * (2 * k + 7) + 1) (prodL n Ms v) := by
  have t := prod_tb (Ms := Ms) v hw.ok
  have := Nat.mul_le_mul_right (2 * k + 7) hw.len
  exact ⟨t.sz, t.bd.mono (by omega), t.lo, t.hi, t.un⟩
instance wd_nil : Wd p 0 [] := ⟨Nat.le_refl _, fun _ h => nomatch h⟩
instance wd_app [a : Wd p l v] [b : Wd p q u] : Wd p (l + q) (v ++ u) := ⟨by
  rw [List.length_append]
  have := a.len; have := b.len
  omega, fun x hx => (List.mem_append.mp hx).elim (a.ok x) (b.ok x)⟩
def conL (w : List Int) : List Int := w.reverse.map fun x => 0 - x
instance wd_con [a : Wd p l v] : Wd p l (conL v) := ⟨by unfold conL; rw [List.length_map, List.length_reverse]; exact a.len, fun x hx => by
  obtain ⟨y, hy, rfl⟩ := List.mem_map.mp hx
  have := a.ok y (List.mem_reverse.mp hy)
  omega⟩
theorem Wd.mono {p q l : Nat} {w : List Int} (h : Wd p l w) (e : p ≤ q) : Wd q l w := ⟨h.len, fun x hx => by have := h.ok x hx; omega⟩

/-! ### products of words -/
theorem let_one [h : Mk n k p Ms] (hx : 1 ≤ x.natAbs ∧ x.natAbs ≤ p) : mulL (letL Ms x) (letL Ms (0 - x)) = idL n ∧ letL Ms (0 - x) = invL (letL Ms x) := by
  obtain ⟨A, e, t⟩ := Mk.mem (Ms := Ms) (x.natAbs - 1) (by omega)
  have e2 : Ms.getD (x.natAbs - 1) [] = A := by rw [List.getD_eq_getElem?_getD, e]; rfl
  have e3 : (0 - x).natAbs = x.natAbs := by omega
  unfold letL
  rw [e3, e2]
  by_cases h0 : 0 < x
  · rw [if_pos h0, if_neg (by omega)]
    exact ⟨g_mi, rfl⟩
  · rw [if_neg h0, if_pos (by omega)]
    exact ⟨g_im, g_ii.symm⟩
theorem g_app [h : Mk n k p Ms] [b : Wd p l u] : ∀ (v : List Int), (∀ x ∈ v, 1 ≤ x.natAbs ∧ x.natAbs ≤ p) → prodL n Ms (v ++ u) = mulL (prodL n Ms v) (prodL n Ms u)
  | [], _ => by
    show prodL n Ms u = mulL (idL n) _
    rw [g_1m]
  | x :: v, hv => by
    have t1 : Tb n (2 * k + 4) (letL Ms x) := let_tb (hv x List.mem_cons_self)
    have hv2 : ∀ y ∈ v, 1 ≤ y.natAbs ∧ y.natAbs ≤ p := fun y hy => hv y (List.mem_cons_of_mem _ hy)
    have t2 := prod_tb (Ms := Ms) v hv2
    show mulL (letL Ms x) (prodL n Ms (v ++ u)) = mulL (mulL (letL Ms x) (prodL n Ms v)) _
    rw [g_app v hv2, g_assoc]
theorem g_prod_app [h : Mk n k p Ms] [a : Wd p l v] [b : Wd p q u] : prodL n Ms (v ++ u) = mulL (prodL n Ms v) (prodL n Ms u) := g_app v a.ok
theorem prod_one [h : Mk n k p Ms] (hx : 1 ≤ x.natAbs ∧ x.natAbs ≤ p) : prodL n Ms [x] = letL Ms x := by
  have := let_tb (Ms := Ms) hx
  show mulL (letL Ms x) (idL n) = _
  rw [g_m1]
theorem wd_one (hx : 1 ≤ x.natAbs ∧ x.natAbs ≤ p) : Wd p 1 [x] := ⟨Nat.le_refl _, fun y hy => by
  rw [List.mem_singleton.mp hy]
  exact hx⟩
theorem g_con [h : Mk n k p Ms] : ∀ (v : List Int), (∀ x ∈ v, 1 ≤ x.natAbs ∧ x.natAbs ≤ p) → prodL n Ms (conL v) = invL (prodL n Ms v)
  | [], _ => by
    have := h.nn
    show idL n = invL (idL n)
    rw [g_i1]
  | x :: v, hv => by
    have hx := hv x List.mem_cons_self
    have t1 : Tb n (2 * k + 4) (letL Ms x) := let_tb hx
    have hv2 : ∀ y ∈ v, 1 ≤ y.natAbs ∧ y.natAbs ≤ p := fun y hy => hv y (List.mem_cons_of_mem _ hy)
    have t2 := prod_tb (Ms := Ms) v hv2
    have e : conL (x :: v) = conL v ++ [0 - x] := by unfold conL; rw [List.reverse_cons, List.map_append]; rfl
    have hx2 : 1 ≤ (0 - x).natAbs ∧ (0 - x).natAbs ≤ p := by omega
    have w1 : Wd p 1 [0 - x] := wd_one hx2
    have w2 : Wd p v.length v := ⟨Nat.le_refl _, hv2⟩
    rw [e, g_prod_app, prod_one hx2, (let_one hx).2, g_con v hv2]
    show _ = invL (mulL (letL Ms x) (prodL n Ms v))
    rw [g_inv]
theorem g_prod_con [h : Mk n k p Ms] [a : Wd p l v] : prodL n Ms (conL v) = invL (prodL n Ms v) := g_con v a.ok

/-! ### what the package reckons -/
@[simp] theorem isOwn_MD : isOwn (MD Ms) = false := hid rfl
@[simp] theorem watD_MD : watD m (MD Ms) = none := hid rfl
@[simp] theorem iterD_MD : iterD m (MD Ms) = some (Ms.map TO, m) := hid rfl
@[simp] theorem frzD_MD : frzD m (MD Ms) = some (Ms.map TO, m) := hid rfl
@[simp] theorem lst_TOs : D.lst (Ms.map TO) = MD Ms := hid rfl
theorem lenD_MD [h : Mk n k p Ms] : lenD [MD Ms] m = some (.int (p : Int), m) := by
  show some (D.int ((Ms.map TO).length : Nat), m) = _
  rw [List.length_map, h.len]
@[simp] theorem listD_MD : listD [MD Ms] m = some (MD Ms, m) := hid rfl
theorem islist_MD : f_is_list [MD Ms] m = some (.bl true, m) := islist_lst
theorem at_nat {xs : List D} {i : Nat} {d : D} (h : xs[i]? = some d) : atI xs (i : Int) = some d := by
  have hi := (List.getElem?_eq_some_iff.mp h).1
  have hd := (List.getElem?_eq_some_iff.mp h).2
  unfold atI ixN
  have h0 : (0 : Int) ≤ (i : Int) := by omega
  simp [h0, hi, hd]
theorem ixD_MD {i : Nat} (h : Ms[i]? = some A) : ixD (MD Ms) (.int (i : Int)) m = some (TO A, m) := by
  have hi := (List.getElem?_eq_some_iff.mp h).1
  show (atI (Ms.map TO) (i : Int)).map (fun d => (d, m)) = _
  have e : atI (Ms.map TO) (i : Int) = some (TO A) := by
    unfold atI ixN
    rw [List.length_map]
    have h0 : (0 : Int) ≤ (i : Int) := by omega
    have hA := (List.getElem?_eq_some_iff.mp h).2
    simp [h0, hi, hA]
  rw [e]
  rfl
theorem mem_num {xs : List D} {d : D} (h : d ∈ numD xs) : ∃ (j : Nat) (x : D), xs[j]? = some x ∧ d = .tup [.int (0 + (j : Int)), x] := by
  obtain ⟨j, hj⟩ := List.mem_iff_getElem?.mp h
  unfold numD at hj
  rw [List.getElem?_zipWith] at hj
  cases hx : xs[j]? with
  | none => rw [hx] at hj; simp at hj
  | some x =>
    rw [hx] at hj
    have hl := (List.getElem?_eq_some_iff.mp hx).1
    rw [List.getElem?_range hl] at hj
    refine ⟨j, x, hx, ?_⟩
    simpa using hj.symm
theorem q_wantmakers [h : Mk n k p Ms] : f_want_makers [MD Ms] m = some (MD Ms, m) := by
  have hlo := h.lo
  have hhi := h.hi
  obtain ⟨A0, e0, t0⟩ := Mk.mem (Ms := Ms) 0 (by omega)
  have x0 := ixD_MD (m := m) e0
  obtain ⟨env', m', hf, o1, o2, rfl, rfl⟩ := forL_inv (put := (Tg.t [1, 2]).put) (body := ifS (orB (notB (tstE (isiE (isC 1) (var 2)))) (tstB (Kb.bin neD (app lenD (argC (fldE 1 0 (var 2)) argN)) (app lenD (argC (fldE 1 0 (Kb.bin ixD (var 0) (cst (.int 0)))) argN))))) noS skS)
    (fun env m' => ∃ o1 o2, m' = m ∧ env = [some (MD Ms), o1, o2]) (numD (Ms.map TO)) [some (MD Ms), none, none] m ⟨none, none, rfl, rfl⟩ fun d hd env m' ⟨o1, o2, e1, e2⟩ => by
      subst e1 e2
      obtain ⟨j, x, hx, rfl⟩ := mem_num hd
      rw [List.getElem?_map] at hx
      obtain ⟨A, hA, rfl⟩ := Option.map_eq_some_iff.mp hx
      have tA := h.tb _ (List.mem_of_getElem? hA)
      have x0 : ixD (MD Ms) (.int 0) m' = some (TO A0, m') := x0
      refine ⟨[some (MD Ms), some (.int (0 + (j : Int))), some (TO A)], .nx [some (MD Ms), some (.int (0 + (j : Int))), some (TO A)] m', rfl, ?_, _, _, rfl, rfl⟩
      simp [isC, lenD_TD, x0]
  have h1 : (1 : Int) ≤ (p : Int) := by omega
  have h4 : (p : Int) ≤ 4 := by omega
  refine run_p rfl ?_
  simp [b_want_makers, islist_MD, lenD_MD, h1, h4, hf]

theorem bool_lc {put : D → Ev → Option Ev} {te : SE} {env : Ev} (xs : List Int) (h : ∀ x ∈ xs, ∃ env1, put (.int x) env = some env1 ∧ te env1 m = some (.bl true, m)) : lcL put yesB te env (xs.map D.int) m = some ((xs.map fun _ => true).map D.bl, m) := by
  rw [List.map_map]
  exact lcL_of D.int _ xs fun x hx => by
    obtain ⟨env1, h1, h2⟩ := h x hx
    exact ⟨env1, h1, rfl, h2⟩
theorem q_isword (t : D) (ht : Df t (v.map D.int)) [a : Wd p l v] (hl : l ≤ 60) : f_is_word_of [t, .int (p : Int)] m = some (.bl true, m) := by
  have ho := df_own ht
  have hn := df_len (m := m) ht
  rw [List.length_map] at hn
  have ln := a.len
  have h60 : ¬ (60 : Int) < (v.length : Int) := by omega
  have lc : ∀ o : Option D, lcL (Tg.n 2).put yesB (andE (app f_is_integer (argC (var 2) argN)) (chnE leD leD (cst (.int 1)) (app absD (argC (var 2) argN)) (var 1))) [some t, some (.int (p : Int)), none] (v.map D.int) m = some ((v.map fun _ => true).map D.bl, m) := fun o => bool_lc v fun x hx => ⟨_, rfl, by
    have hk := a.ok x hx
    have hA : (if x < 0 then -x else x) = (x.natAbs : Int) := by split <;> omega
    have h1 : (1 : Int) ≤ (x.natAbs : Int) := by omega
    have h2 : (x.natAbs : Int) ≤ (p : Int) := by omega
    have hu := hk.2
    simp [isint_int, hA, h1, h2, hk.1, hu]⟩
  have al := allD_bls (m := m) (ns := v.map fun _ => true)
  have al2 : (v.map fun _ => true).all id = true := by simp
  rw [al2] at al
  have hll : v.length ≤ 100000 := by omega
  refine run_p rfl ?_
  simp [b_is_word_of, ho, df_list ht, hn, h60, df_it ht, df_wat ht, lc none, hll, al, -List.map_map]
theorem q_wantword (t : D) (ht : Df t (v.map D.int)) [a : Wd p l v] (hl : l ≤ 60) : f_want_word [t, .int (p : Int)] m = some (LD v, m) := by
  have ho := df_own ht
  have hw := q_isword (m := m) t ht hl (p := p)
  have h2 : listD [t] m = some (LD v, m) := by rcases ht with rfl | rfl <;> simp
  refine run_p rfl ?_
  simp [b_want_word, ho, hw, h2]
/-- the loop of a product -/
theorem prod_loop [h : Mk n k p Ms] {e1 : Option D} {N : Nat} (hN : N ≤ 4000) (hk : 2 * k + 4 ≤ 4000) : ∀ (w : List Int) (T : List (List Int)) (j : Nat) (o : Option D), (∀ x ∈ w, 1 ≤ x.natAbs ∧ x.natAbs ≤ p) → Tb n j T → j + w.length * (2 * k + 7) ≤ N →
    ∃ T' o', forL (Tg.n 4).put (setS (.n 3) (app f_times_rows (argC (var 3) (argC (iteE (tstB (Kb.bin gtD (var 4) (cst (.int 0)))) (Kb.bin ixD (var 0) (Kb.bin subD (var 4) (cst (.int 1)))) (Kb.bin ixD (var 1) (Kb.bin subD (Kb.bin subD (cst (.int 0)) (var 4)) (cst (.int 1))))) argN)))) (w.map D.int)
      [some (.lst (Ms.map TD)), some (.lst (Ms.map fun A => TD (invL A))), e1, some (TD T), o] m = some (.nx [some (.lst (Ms.map TD)), some (.lst (Ms.map fun A => TD (invL A))), e1, some (TD T'), o'] m) ∧ T' = mulL T (prodL n Ms w)
  | [], T, j, o, _, t, _ => ⟨T, o, rfl, g_m1.symm⟩
  | x :: w, T, j, o, hw, t, hj => by
    have hx := hw x List.mem_cons_self
    have hw2 : ∀ y ∈ w, 1 ≤ y.natAbs ∧ y.natAbs ≤ p := fun y hy => hw y (List.mem_cons_of_mem _ hy)
    have t1 : Tb n (2 * k + 4) (letL Ms x) := let_tb hx
    have t2 := prod_tb (Ms := Ms) w hw2
    rw [List.length_cons, Nat.succ_mul] at hj
    obtain ⟨T', o', h1, h2⟩ := prod_loop hN hk w (mulL T (letL Ms x)) (j + (2 * k + 4) + 3) (some (.int x)) hw2 inferInstance (by omega)
    refine ⟨T', o', ?_, by rw [h2, g_assoc]; rfl⟩
    have tm := q_times (m := m) (A := T) (B := letL Ms x) (by omega) hk
    rw [List.map_cons, forL_cons]
    have st : (setS (.n 3) (app f_times_rows (argC (var 3) (argC (iteE (tstB (Kb.bin gtD (var 4) (cst (.int 0)))) (Kb.bin ixD (var 0) (Kb.bin subD (var 4) (cst (.int 1)))) (Kb.bin ixD (var 1) (Kb.bin subD (Kb.bin subD (cst (.int 0)) (var 4)) (cst (.int 1))))) argN))))
        [some (.lst (Ms.map TD)), some (.lst (Ms.map fun A => TD (invL A))), e1, some (TD T), some (.int x)] m = some (.nx [some (.lst (Ms.map TD)), some (.lst (Ms.map fun A => TD (invL A))), e1, some (TD (mulL T (letL Ms x))), some (.int x)] m) := by
      obtain ⟨A, e, tA⟩ := Mk.mem (Ms := Ms) (x.natAbs - 1) (by omega)
      have e2 : Ms.getD (x.natAbs - 1) [] = A := by rw [List.getD_eq_getElem?_getD, e]; rfl
      have hi := (List.getElem?_eq_some_iff.mp e).1
      have hA := (List.getElem?_eq_some_iff.mp e).2
      unfold letL at tm ⊢
      rw [e2] at tm ⊢
      by_cases h0 : 0 < x
      · rw [if_pos h0] at tm ⊢
        have ex : x - 1 = ((x.natAbs - 1 : Nat) : Int) := by omega
        have ix : atI (Ms.map TD) (x - 1) = some (TD A) := by
          rw [ex]
          exact at_nat (by rw [List.getElem?_map, e]; rfl)
        simp [h0, ix, tm]
      · rw [if_neg h0] at tm ⊢
        have ex : -x - 1 = ((x.natAbs - 1 : Nat) : Int) := by omega
        have ix : atI (Ms.map fun A => TD (invL A)) (-x - 1) = some (TD (invL A)) := by
          rw [ex]
          exact at_nat (by rw [List.getElem?_map, e]; rfl)
        simp [h0, ix, tm]
    show ((setS (.n 3) _) [_, _, e1, some (TD T), some (.int x)] m).bind _ = _
    rw [st]
    exact h1
theorem let_det [h : Mk n k p Ms] (hx : 1 ≤ x.natAbs ∧ x.natAbs ≤ p) (e : Ms[x.natAbs - 1]? = some A) : detL (letL Ms x) = detL A := by
  have e2 : Ms.getD (x.natAbs - 1) [] = A := by rw [List.getD_eq_getElem?_getD, e]; rfl
  have tA := h.tb A (List.mem_of_getElem? e)
  unfold letL
  rw [e2]
  split
  · rfl
  · exact g_deti
theorem det_loop [h : Mk n k p Ms] {o0 o2 o3 o4 : Option D} : ∀ (w : List Int) (d : Int) (o : Option D), (∀ x ∈ w, 1 ≤ x.natAbs ∧ x.natAbs ≤ p) → (d = 1 ∨ d = -1) →
    ∃ o', forL (Tg.n 6).put (setS (.n 5) (Kb.bin mulD (var 5) (fldE 1 1 (Kb.bin ixD (var 0) (Kb.bin subD (app absD (argC (var 6) argN)) (cst (.int 1))))))) (w.map D.int) [some (MD Ms), o0, o2, o3, o4, some (.int d), o] m = some (.nx [some (MD Ms), o0, o2, o3, o4, some (.int (d * detL (prodL n Ms w))), o'] m)
  | [], d, o, _, _ => by
    have := h.nn
    refine ⟨o, ?_⟩
    show some _ = _
    have e : d * detL (prodL n Ms []) = d := by
      show d * detL (idL n) = d
      rw [g_det1, Int.mul_one]
    rw [e]
  | x :: w, d, o, hw, hd => by
    have hx := hw x List.mem_cons_self
    have hw2 : ∀ y ∈ w, 1 ≤ y.natAbs ∧ y.natAbs ≤ p := fun y hy => hw y (List.mem_cons_of_mem _ hy)
    obtain ⟨A, e, tA⟩ := Mk.mem (Ms := Ms) (x.natAbs - 1) (by omega)
    have t1 : Tb n (2 * k + 4) (letL Ms x) := let_tb hx
    have t2 := prod_tb (Ms := Ms) w hw2
    have hD := let_det hx e
    obtain ⟨o', h1⟩ := det_loop w (d * detL A) (some (.int x)) hw2 (by
      rcases hd with rfl | rfl <;> rcases tA.un with u | u <;> rw [u] <;> decide)
    refine ⟨o', ?_⟩
    have e3 : d * detL (prodL n Ms (x :: w)) = d * detL A * detL (prodL n Ms w) := by
      show d * detL (mulL (letL Ms x) (prodL n Ms w)) = _
      rw [g_det, hD, Int.mul_assoc]
    rw [e3, List.map_cons, forL_cons]
    have hA : (if x < 0 then -x else x) - 1 = ((x.natAbs - 1 : Nat) : Int) := by split <;> omega
    have ix := ixD_MD (m := m) e
    have sd : Sm 1 d := by rcases hd with rfl | rfl <;> exact sm_lit
    have mu := mulD_sm (m := m) sd (un_sm tA.un)
    have st : (setS (.n 5) (Kb.bin mulD (var 5) (fldE 1 1 (Kb.bin ixD (var 0) (Kb.bin subD (app absD (argC (var 6) argN)) (cst (.int 1))))))) [some (MD Ms), o0, o2, o3, o4, some (.int d), some (.int x)] m = some (.nx [some (MD Ms), o0, o2, o3, o4, some (.int (d * detL A)), some (.int x)] m) := by
      simp [hA, ix, mu]
    show ((setS (.n 5) _) [some (MD Ms), o0, o2, o3, o4, some (.int d), some (.int x)] m).bind _ = _
    rw [st]
    exact h1
theorem q_product_of [h : Mk n k p Ms] [a : Wd p l v] (hl : l ≤ 1000) (hk : l * (2 * k + 7) + 2 * k + 5 ≤ 4000) : f_product_of [MD Ms, LD v] m = some (TO (prodL n Ms v), m) := by
  have nn := h.nn
  have hlo := h.lo
  have hhi := h.hi
  have hml := h.len
  have l1 : lcL (Tg.n 3).put yesB (fldE 1 0 (var 3)) [some (MD Ms), some (LD v), none, none, none, none, none] (Ms.map TO) m = some (Ms.map TD, m) := lcL_of TO TD Ms fun A _ => ⟨_, rfl, rfl, by simp⟩
  have l2 : ∀ o2 : Option D, lcL (Tg.n 3).put yesB (app f_undone_rows (argC (fldE 1 0 (var 3)) (argC (fldE 1 1 (var 3)) argN))) [some (MD Ms), some (LD v), o2, none, none, none, none] (Ms.map TO) m = some (Ms.map fun A => TD (invL A), m) := fun o2 => lcL_of TO (fun A => TD (invL A)) Ms fun A hA => ⟨_, rfl, rfl, by
    have tA := h.tb A hA
    have u := q_undrows (m := m) (A := A) (by omega)
    simp [u]⟩
  obtain ⟨o', l3⟩ := det_loop (m := m) (Ms := Ms) (o0 := some (LD v)) (o2 := some (.lst (Ms.map TD))) (o3 := none) (o4 := some (.lst (Ms.map fun A => TD (invL A)))) v 1 none a.ok (.inl rfl)
  rw [Int.one_mul] at l3
  have hle := Nat.mul_le_mul_right (2 * k + 7) a.len
  obtain ⟨T', o2, p1, p2⟩ := prod_loop (m := m) (Ms := Ms) (e1 := some (LD v)) (N := 4000) (by decide) (by omega) v (idL n) 1 none a.ok inferInstance (by omega)
  have tv := prod_tb (Ms := Ms) v a.ok
  rw [g_1m] at p2
  rw [p2] at p1
  obtain ⟨A0, e0, t0⟩ := Mk.mem (Ms := Ms) 0 (by omega)
  have i0 : atI (Ms.map TD) 0 = some (TD A0) := at_nat (i := 0) (by rw [List.getElem?_map, e0]; rfl)
  have pr : f_product_rows [.lst (Ms.map TD), .lst (Ms.map fun A => TD (invL A)), LD v] m = some (TD (prodL n Ms v), m) := by
    refine run_p rfl ?_
    simp [b_product_rows, i0, lenD_TD, q_idrows, p1]
  have by_ := q_by (m := m) (A := prodL n Ms v)
  have hll : Ms.length ≤ 100000 := by omega
  refine run_p rfl ?_
  simp [b_product_of, l1, l2, l3, hll, pr, by_]
theorem q_product0 (t : D) (ht : Df t (v.map D.int)) [h : Mk n k p Ms] [a : Wd p l v] (hl : l ≤ 60) (hk : l * (2 * k + 7) + 2 * k + 5 ≤ 4000) : f_product [MD Ms, t] m = some (TO (prodL n Ms v), m) := by
  have ho := df_own ht
  have hw := q_wantword (m := m) t ht hl (p := p)
  have hp := q_product_of (m := m) (Ms := Ms) (v := v) (by omega) hk
  refine run_p rfl ?_
  simp [b_product, q_wantmakers, ho, lenD_MD, hw, hp]
theorem q_product [h : Mk n k p Ms] [a : Wd p l v] (hl : l ≤ 60) (hk : l * (2 * k + 7) + 2 * k + 5 ≤ 4000) : f_product [MD Ms, LD v] m = some (TO (prodL n Ms v), m) := q_product0 _ (.inr rfl) hl hk
theorem q_productR [h : Mk n k p Ms] [a : Wd p l v] (hl : l ≤ 60) (hk : l * (2 * k + 7) + 2 * k + 5 ≤ 4000) : f_product [MD Ms, RD v] m = some (TO (prodL n Ms v), m) := q_product0 _ (.inl rfl) hl hk

/-! ### contrary words, words shortened -/
theorem q_contr0 (t : D) (ht : Df t (v.map D.int)) [a : Wd p l v] (hp : p ≤ 4) (hl : l ≤ 60) : f_contrary_word [t] m = some (LD (conL v), m) := by
  have ho := df_own ht
  have a4 : Wd 4 l v := a.mono hp
  have hw := q_wantword (m := m) t ht hl (p := 4)
  have hv : (conL v).length ≤ 100000 := by have := (wd_con (v := v) (p := p)).len; omega
  have lc : lcL (Tg.n 1).put yesB (Kb.bin subD (cst (.int 0)) (var 1)) [some (LD v), none] (v.reverse.map D.int) m = some ((conL v).map D.int, m) := by
    unfold conL
    rw [List.map_map]
    exact lcL_of D.int _ v.reverse fun x _ => ⟨_, rfl, rfl, by simp⟩
  have hc : f_contrary_of [LD v] m = some (LD (conL v), m) := by
    refine run_p rfl ?_
    simp [b_contrary_of, lc, hv, -List.map_reverse]
  have hw : f_want_word [t, .int 4] m = some (LD v, m) := hw
  refine run_p rfl ?_
  simp [b_contrary_word, ho, hw, hc]
theorem q_contr [a : Wd p l v] (hp : p ≤ 4) (hl : l ≤ 60) : f_contrary_word [LD v] m = some (LD (conL v), m) := q_contr0 _ (.inr rfl) hp hl
theorem eq_none {f : List Int} : eqB1 m (LD f) (.lst []) = some f.isEmpty := by
  have h := eqB1_pl (m := m) (x := .lst (f.map .int)) (y := .lst []) (Nat.le_trans (row_dep f) (by decide)) (by decide)
  rw [lr_d] at h
  have e : (Pl.lst []).d = .lst [] := rfl
  rw [e] at h
  rw [h]
  cases f <;> rfl
theorem at_end {f : List Int} {y : Int} : atI ((f ++ [y]).map D.int) (-1) = some (.int y) := by
  unfold atI ixN
  rw [List.length_map, List.length_append, List.length_singleton]
  have h0 : ¬ (0 : Int) ≤ -1 := by decide
  have h1 : (0 : Int) ≤ -1 + ((f.length + 1 : Nat) : Int) := by omega
  have h2 : (-1 + ((f.length + 1 : Nat) : Int)).toNat = f.length := by omega
  simp only [h0, false_and, if_false, h1, if_true, Option.bind_some, h2, true_and, and_self, if_pos]
  simp
  rw [if_pos (by omega)]
  simp
/-- a letter more on the pile -/
def shS (f : List Int) (x : Int) : List Int := if f.getLast? = some (0 - x) then f.dropLast else f ++ [x]
def shortL (v : List Int) : List Int := v.foldl shS []
theorem pile_or (f : List Int) : f = [] ∨ ∃ g y, f = g ++ [y] := by
  rcases List.eq_nil_or_concat f with h | ⟨g, y, h⟩
  · exact .inl h
  · exact .inr ⟨g, y, by rw [h, List.concat_eq_append]⟩
theorem short_step {f : List Int} {x : Int} {o : Option D} (hf : f.length < 1000) (d : D) :
    (ifS (andB (tstB (oeqE true 1 (lstE argN))) (tstB (Kb.bin eqD (oixE 1 (una negD (cst (.int 1)))) (Kb.bin subD (cst (.int 0)) (var 2))))) (popS 1) (appS 1 (var 2))) [o, some (.own (f.map D.int)), some (.int x)] m = some (.nx [o, some (.own ((shS f x).map D.int)), some (.int x)] m) := by
  rcases pile_or f with rfl | ⟨g, y, rfl⟩
  · have e0 : eqB1 m (D.lst []) (D.lst []) = some true := eq_none (f := [])
    simp [shS, e0]
  · have e2 : (g ++ [y]).isEmpty = false := by cases g <;> rfl
    have e3 : (g ++ [y]).getLast? = some y := by simp
    have e4 : ((g ++ [y]).map D.int).length = g.length + 1 := by simp
    have e5 : ((g ++ [y]).map D.int).dropLast = g.map D.int := by simp
    have e6 : (g ++ [y]).map D.int ++ [D.int x] = (g ++ [y] ++ [x]).map D.int := by simp
    have hl : (g.length + 1 < 100000) = True := eq_true (by rw [List.length_append] at hf; simp at hf; omega)
    unfold shS
    rw [e3]
    by_cases h : y = 0 - x
    · rw [if_pos (by rw [h])]
      have h2 : (y = -x) = True := eq_true (by omega)
      have e7 : (g ++ [y]).dropLast = g := by simp
      rw [e7]
      simp [eq_none, e2, e4, e5, at_end, h2, -List.map_append, -List.length_map]
    · rw [if_neg (by intro z; exact h (Option.some.inj z))]
      have h2 : (y = -x) = False := eq_false (by omega)
      simp [eq_none, e2, e4, e6, hl, at_end, h2, -List.map_append, -List.length_map]
theorem sh_len (f : List Int) (x : Int) : (shS f x).length ≤ f.length + 1 := by
  unfold shS
  split
  · rw [List.length_dropLast]
    omega
  · rw [List.length_append, List.length_singleton]
    exact Nat.le_refl _
theorem short_loop {o : Option D} : ∀ (w f : List Int) (o2 : Option D), f.length + w.length < 1000 →
    ∃ o', forL (Tg.n 2).put (ifS (andB (tstB (oeqE true 1 (lstE argN))) (tstB (Kb.bin eqD (oixE 1 (una negD (cst (.int 1)))) (Kb.bin subD (cst (.int 0)) (var 2))))) (popS 1) (appS 1 (var 2))) (w.map D.int) [o, some (.own (f.map D.int)), o2] m = some (.nx [o, some (.own ((w.foldl shS f).map D.int)), o'] m)
  | [], f, o2, _ => ⟨o2, rfl⟩
  | x :: w, f, o2, h => by
    rw [List.length_cons] at h
    have hs := sh_len f x
    obtain ⟨o', h1⟩ := short_loop w (shS f x) (some (.int x)) (by omega)
    refine ⟨o', ?_⟩
    rw [List.map_cons, forL_cons]
    show ((ifS _ _ _) [o, some (.own (f.map D.int)), some (.int x)] m).bind _ = _
    rw [short_step (by omega) (.int x)]
    exact h1
theorem sh_ok {f : List Int} (hx : 1 ≤ x.natAbs ∧ x.natAbs ≤ p) (hf : ∀ y ∈ f, 1 ≤ y.natAbs ∧ y.natAbs ≤ p) : ∀ y ∈ shS f x, 1 ≤ y.natAbs ∧ y.natAbs ≤ p := by
  unfold shS
  split
  · intro y hy
    exact hf y (List.dropLast_subset f hy)
  · intro y hy
    rcases List.mem_append.mp hy with h | h
    · exact hf y h
    · rw [List.mem_singleton.mp h]
      exact hx
theorem sh_prod [h : Mk n k p Ms] {f : List Int} (hx : 1 ≤ x.natAbs ∧ x.natAbs ≤ p) (hf : ∀ y ∈ f, 1 ≤ y.natAbs ∧ y.natAbs ≤ p) : prodL n Ms (shS f x) = mulL (prodL n Ms f) (letL Ms x) := by
  have w1 : Wd p 1 [x] := wd_one hx
  have t1 : Tb n (2 * k + 4) (letL Ms x) := let_tb hx
  unfold shS
  rcases pile_or f with rfl | ⟨g, y, rfl⟩
  · rw [if_neg (by simp), List.nil_append, prod_one hx]
    have := h.nn
    exact g_1m.symm
  · have e3 : (g ++ [y]).getLast? = some y := by simp
    have hg : ∀ y ∈ g, 1 ≤ y.natAbs ∧ y.natAbs ≤ p := fun z hz => hf z (List.mem_append_left _ hz)
    have tg := prod_tb (Ms := Ms) g hg
    rw [e3]
    split
    · rename_i e
      have e := Option.some.inj e
      have hy := hf y (by simp)
      have w2 : Wd p 1 [y] := wd_one hy
      rw [List.dropLast_concat, g_app g hg, prod_one hy]
      have lo := let_one (Ms := Ms) hy
      have ex : x = 0 - y := by omega
      have t2 : Tb n (2 * k + 4) (letL Ms y) := let_tb hy
      rw [g_assoc, ex, lo.1, g_m1]
    · rw [g_app (u := [x]) (g ++ [y]) hf, prod_one hx]
theorem short_all [h : Mk n k p Ms] : ∀ (w f : List Int), (∀ y ∈ f, 1 ≤ y.natAbs ∧ y.natAbs ≤ p) → (∀ y ∈ w, 1 ≤ y.natAbs ∧ y.natAbs ≤ p) → prodL n Ms (w.foldl shS f) = mulL (prodL n Ms f) (prodL n Ms w)
  | [], f, hf, _ => by
    have tf := prod_tb (Ms := Ms) f hf
    show prodL n Ms f = mulL (prodL n Ms f) (idL n)
    rw [g_m1]
  | x :: w, f, hf, hw => by
    have hx := hw x List.mem_cons_self
    have hw2 : ∀ y ∈ w, 1 ≤ y.natAbs ∧ y.natAbs ≤ p := fun y hy => hw y (List.mem_cons_of_mem _ hy)
    have tf := prod_tb (Ms := Ms) f hf
    have tw := prod_tb (Ms := Ms) w hw2
    have tx : Tb n (2 * k + 4) (letL Ms x) := let_tb hx
    show prodL n Ms (w.foldl shS (shS f x)) = _
    rw [short_all w _ (sh_ok hx hf) hw2, sh_prod hx hf, g_assoc]
    rfl
theorem fold_ok : ∀ (w f : List Int), (∀ y ∈ f, 1 ≤ y.natAbs ∧ y.natAbs ≤ p) → (∀ y ∈ w, 1 ≤ y.natAbs ∧ y.natAbs ≤ p) → (∀ y ∈ w.foldl shS f, 1 ≤ y.natAbs ∧ y.natAbs ≤ p) ∧ (w.foldl shS f).length ≤ f.length + w.length
  | [], f, hf, _ => ⟨hf, Nat.le_refl _⟩
  | x :: w, f, hf, hw => by
    have h := fold_ok w (shS f x) (sh_ok (hw x List.mem_cons_self) hf) fun y hy => hw y (List.mem_cons_of_mem _ hy)
    have hs := sh_len f x
    refine ⟨h.1, ?_⟩
    have := h.2
    rw [List.length_cons]
    show (w.foldl shS (shS f x)).length ≤ _
    omega
instance wd_short [a : Wd p l v] : Wd p l (shortL v) := by
  have h := fold_ok v [] (fun _ h => nomatch h) a.ok
  refine ⟨?_, h.1⟩
  have := h.2
  have := a.len
  unfold shortL
  rw [List.length_nil] at *
  omega
theorem g_short [h : Mk n k p Ms] [a : Wd p l v] : prodL n Ms (shortL v) = prodL n Ms v := by
  have := h.nn
  have e := short_all (Ms := Ms) v [] (fun _ h => nomatch h) a.ok
  unfold shortL
  rw [e]
  exact g_1m
theorem q_short0 (t : D) (ht : Df t (v.map D.int)) [a : Wd p l v] (hp : p ≤ 4) (hl : l ≤ 60) : f_shortened [t] m = some (LD (shortL v), m) := by
  have ho := df_own ht
  have a4 : Wd 4 l v := a.mono hp
  have hw := q_wantword (m := m) t ht hl (p := 4)
  have hw : f_want_word [t, .int 4] m = some (LD v, m) := hw
  obtain ⟨o', hf⟩ := short_loop (m := m) (o := some t) v [] none (by have := a.len; simp; omega)
  rw [List.map_nil] at hf
  have e : v.foldl shS [] = shortL v := rfl
  rw [e] at hf
  refine run_p rfl ?_
  simp [b_shortened, ho, hw, hf]
theorem q_short [a : Wd p l v] (hp : p ≤ 4) (hl : l ≤ 60) : f_shortened [LD v] m = some (LD (shortL v), m) := q_short0 _ (.inr rfl) hp hl
end Tab

set_option Elab.async false
set_option linter.all false
set_option maxRecDepth 100000
set_option maxHeartbeats 8000000
set_option autoImplicit false
/-! KtX: products of makers turned, beside one another, by rests; cut and stretched lists. -/
namespace Tab
open PySem L2 Kb
variable {m : Mem} {n i j k p q l w c : Nat} {A B C E : List (List Int)} {Ms Ns : List (List (List Int))} {r s v u : List Int} {e f x : Int}

/-! ### makers one by one -/
instance inst_mk1 [a : Tb n k A] : Mk n k 1 [A] := ⟨rfl, by decide, by decide, fun T h => by rw [List.mem_singleton.mp h]; exact a⟩
instance inst_mk2 [a : Tb n k A] [b : Tb n k B] : Mk n k 2 [A, B] := ⟨rfl, by decide, by decide, fun T h => by
  simp only [List.mem_cons, List.not_mem_nil, or_false] at h
  rcases h with rfl | rfl <;> assumption⟩
instance inst_mk3 [a : Tb n k A] [b : Tb n k B] [g : Tb n k C] : Mk n k 3 [A, B, C] := ⟨rfl, by decide, by decide, fun T h => by
  simp only [List.mem_cons, List.not_mem_nil, or_false] at h
  rcases h with rfl | rfl | rfl <;> assumption⟩
/-- a wider bound -/
theorem Tb.mono {j : Nat} (h : Tb n j A) (e : j ≤ k) : Tb n k A := ⟨h.sz, h.bd.mono e, h.lo, h.hi, h.un⟩

/-! ### a map that keeps products -/
theorem let_map {g : List (List Int) → List (List Int)} (h : Mk n k p Ms) (hx : 1 ≤ x.natAbs ∧ x.natAbs ≤ p) (hi : ∀ A, Tb n k A → invL (g A) = g (invL A)) : letL (Ms.map g) x = g (letL Ms x) := by
  obtain ⟨A, e, t⟩ := Mk.mem (Ms := Ms) (x.natAbs - 1) (by omega)
  have e2 : Ms.getD (x.natAbs - 1) [] = A := by rw [List.getD_eq_getElem?_getD, e]; rfl
  have e3 : (Ms.map g).getD (x.natAbs - 1) [] = g A := by rw [List.getD_eq_getElem?_getD, List.getElem?_map, e]; rfl
  unfold letL
  rw [e2, e3]
  split
  · rfl
  · exact hi A t
theorem prod_map {n2 : Nat} {g : List (List Int) → List (List Int)} (h : Mk n k p Ms) (hi : ∀ A, Tb n k A → invL (g A) = g (invL A)) (h1 : g (idL n) = idL n2) (hm : ∀ (i j : Nat) (A B : List (List Int)), Tb n i A → Tb n j B → mulL (g A) (g B) = g (mulL A B)) :
    ∀ v : List Int, (∀ x ∈ v, 1 ≤ x.natAbs ∧ x.natAbs ≤ p) → prodL n2 (Ms.map g) v = g (prodL n Ms v)
  | [], _ => h1.symm
  | x :: v, hv => by
    have hx := hv x List.mem_cons_self
    have hv2 : ∀ y ∈ v, 1 ≤ y.natAbs ∧ y.natAbs ≤ p := fun y hy => hv y (List.mem_cons_of_mem _ hy)
    show mulL (letL (Ms.map g) x) (prodL n2 (Ms.map g) v) = g (mulL (letL Ms x) (prodL n Ms v))
    rw [let_map h hx hi, prod_map h hi h1 hm v hv2]
    exact hm _ _ _ _ (let_tb hx) (prod_tb v hv2)
theorem g_prod_turn [h : Mk n k p Ms] [b : Tb n j B] [hw : Wd p l v] : prodL n (Ms.map fun A => mulL B (mulL A (invL B))) v = mulL B (mulL (prodL n Ms v) (invL B)) := by
  have nn := b.nn
  refine prod_map h (fun A tA => ?_) ?_ (fun i j A C tA tC => ?_) v hw.ok
  · simp only [g_inv, g_ii, g_assoc]
  · rw [g_1m, g_mi]
  · simp only [g_assoc, g_imc]

/-! ### beside one another -/
theorem let_bes (h : Mk n k p Ms) (g : Mk q j p Ns) (hn : Nn (n + q)) (hx : 1 ≤ x.natAbs ∧ x.natAbs ≤ p) : letL (List.zipWith besL Ms Ns) x = besL (letL Ms x) (letL Ns x) := by
  obtain ⟨A, e, t⟩ := Mk.mem (Ms := Ms) (x.natAbs - 1) (by omega)
  obtain ⟨B, e', t'⟩ := Mk.mem (Ms := Ns) (x.natAbs - 1) (by omega)
  have e2 : Ms.getD (x.natAbs - 1) [] = A := by rw [List.getD_eq_getElem?_getD, e]; rfl
  have e3 : Ns.getD (x.natAbs - 1) [] = B := by rw [List.getD_eq_getElem?_getD, e']; rfl
  have e4 : (List.zipWith besL Ms Ns).getD (x.natAbs - 1) [] = besL A B := by rw [List.getD_eq_getElem?_getD, List.getElem?_zipWith, e, e']; rfl
  unfold letL
  rw [e2, e3, e4]
  split
  · rfl
  · exact bes_inv
theorem prod_bes (h : Mk n k p Ms) (g : Mk q j p Ns) (hn : Nn (n + q)) : ∀ v : List Int, (∀ x ∈ v, 1 ≤ x.natAbs ∧ x.natAbs ≤ p) → prodL (n + q) (List.zipWith besL Ms Ns) v = besL (prodL n Ms v) (prodL q Ns v)
  | [], _ => by
    have := h.nn
    have := g.nn
    exact bes_id.symm
  | x :: v, hv => by
    have hx := hv x List.mem_cons_self
    have hv2 : ∀ y ∈ v, 1 ≤ y.natAbs ∧ y.natAbs ≤ p := fun y hy => hv y (List.mem_cons_of_mem _ hy)
    have t1 : Tb n (2 * k + 4) (letL Ms x) := let_tb hx
    have t2 : Tb q (2 * j + 4) (letL Ns x) := let_tb hx
    have t3 := prod_tb (Ms := Ms) v hv2
    have t4 := prod_tb (Ms := Ns) v hv2
    show mulL (letL (List.zipWith besL Ms Ns) x) (prodL (n + q) (List.zipWith besL Ms Ns) v) = besL (mulL (letL Ms x) (prodL n Ms v)) (mulL (letL Ns x) (prodL q Ns v))
    rw [let_bes h g hn hx, prod_bes h g hn v hv2, bes_mul]
theorem g_prod_bes [h : Mk n k p Ms] [g : Mk q j p Ns] [hn : Nn (n + q)] [hw : Wd p l v] : prodL (n + q) (List.zipWith besL Ms Ns) v = besL (prodL n Ms v) (prodL q Ns v) := prod_bes h g hn v hw.ok

/-! ### by rests -/
theorem mod_inv [a : Tb n j A] [b : Tb n k B] {o : Int} (h : modL A o = modL B o) : modL (invL A) o = modL (invL B) o := by
  have nn := a.nn
  have e1 : modL (mulL (invL A) (mulL A (invL B))) o = modL (mulL (invL A) (mulL B (invL B))) o := mod_congr rfl (mod_congr h rfl)
  rw [g_imc, g_mi, g_m1] at e1
  exact e1.symm
theorem prod_mod {o : Int} (h : Mk n k p Ms) (g : Mk n j p Ns) (hm : ∀ (i : Nat) (A B : List (List Int)), Ms[i]? = some A → Ns[i]? = some B → modL A o = modL B o) : ∀ v : List Int, (∀ x ∈ v, 1 ≤ x.natAbs ∧ x.natAbs ≤ p) → modL (prodL n Ms v) o = modL (prodL n Ns v) o
  | [], _ => rfl
  | x :: v, hv => by
    have hx := hv x List.mem_cons_self
    have hv2 : ∀ y ∈ v, 1 ≤ y.natAbs ∧ y.natAbs ≤ p := fun y hy => hv y (List.mem_cons_of_mem _ hy)
    obtain ⟨A, e, t⟩ := Mk.mem (Ms := Ms) (x.natAbs - 1) (by omega)
    obtain ⟨B, e', t'⟩ := Mk.mem (Ms := Ns) (x.natAbs - 1) (by omega)
    have e2 : Ms.getD (x.natAbs - 1) [] = A := by rw [List.getD_eq_getElem?_getD, e]; rfl
    have e3 : Ns.getD (x.natAbs - 1) [] = B := by rw [List.getD_eq_getElem?_getD, e']; rfl
    have hab := hm _ A B e e'
    refine mod_congr ?_ (prod_mod h g hm v hv2)
    unfold letL
    rw [e2, e3]
    split
    · exact hab
    · exact mod_inv hab
theorem q_alikeR [a : Tb n j A] [b : Tb n k B] {o : Int} (h2 : 2 ≤ o) (h3 : o ≤ 1000) : f_rests_alike [TO A, TO B, .int o] m = some (.bl (decide (modL A o = modL B o)), m) := rests_alike a.sz b.sz (by have := a.hi; omega) h2 h3

/-! ### lists stretched and cut -/
theorem rep_one (n : Nat) (x : Int) : (List.replicate n [D.int x]).flatten = (List.replicate n x).map D.int := by
  induction n with
  | zero => rfl
  | succ n ih => rw [List.replicate_succ, List.flatten_cons, ih]; rfl
theorem mulD_rep {n : Nat} (h : n ≤ 1000) : mulD (.lst [.int x]) (.int (n : Int)) m = some (LD (List.replicate n x), m) := by
  show (match lstD m (D.lst [.int x]) with
    | some xs => if 0 ≤ (n : Int) ∧ (n : Int) ≤ 1000 ∧ xs.length ≤ 1000 then some (D.lst (List.replicate (n : Int).toNat xs).flatten, m) else none
    | none => none) = _
  show (if 0 ≤ (n : Int) ∧ (n : Int) ≤ 1000 ∧ [D.int x].length ≤ 1000 then some (D.lst (List.replicate (n : Int).toNat [D.int x]).flatten, m) else none) = _
  rw [if_pos ⟨by omega, by omega, by simp⟩, Int.toNat_natCast, rep_one]
  rfl
theorem cut_to {α : Type} {xs : List α} {n : Nat} : cutL xs none (some (n : Int)) = xs.take n := by
  have h1 : HT.sIx xs.length 0 none = 0 := rfl
  have h2 : HT.sIx xs.length xs.length (some (n : Int)) = min n xs.length := by
    unfold HT.sIx
    simp
    omega
  unfold cutL
  rw [h1, h2, List.drop_zero, Nat.sub_zero]
  rcases Nat.le_total n xs.length with h | h
  · rw [Nat.min_eq_left h]
  · rw [Nat.min_eq_right h, List.take_of_length_le h, List.take_length]
theorem slD_to {n : Nat} : slD (LD r) none (some (n : Int)) m = some (LD (r.take n), m) := by
  show (lsqD m (LD r)).map (fun xs => (D.lst (cutL xs none (some (n : Int))), m)) = _
  show some (D.lst (cutL (r.map D.int) none (some (n : Int))), m) = _
  rw [cut_to, ← List.map_take]
  rfl
end Tab

set_option Elab.async false
set_option linter.all false
set_option maxRecDepth 100000
set_option maxHeartbeats 8000000
set_option autoImplicit false
/-! KtY: lists of the store that are looked at. -/
namespace Tab
open PySem L2 Kb
variable {m : Mem} {n i j k p q l w : Nat} {A B C E : List (List Int)} {r s v : List Int} {e f : Int}

/-- one by one -/
def F2 {α β : Type} (P : α → β → Prop) : List α → List β → Prop
  | [], [] => True
  | a :: as, b :: bs => P a b ∧ F2 P as bs
  | _, _ => False
theorem F2.mem {α β : Type} {P : α → β → Prop} : ∀ {as : List α} {bs : List β}, F2 P as bs → ∀ a ∈ as, ∃ b ∈ bs, P a b
  | [], [], _, _, h => nomatch h
  | a :: as, b :: bs, h, x, hx => by
    rcases List.mem_cons.mp hx with z | z
    · exact ⟨b, List.mem_cons_self, z ▸ h.1⟩
    · obtain ⟨y, h1, h2⟩ := F2.mem h.2 x z
      exact ⟨y, List.mem_cons_of_mem _ h1, h2⟩
theorem F2.len {α β : Type} {P : α → β → Prop} : ∀ {as : List α} {bs : List β}, F2 P as bs → as.length = bs.length
  | [], [], _ => rfl
  | a :: as, b :: bs, h => by rw [List.length_cons, List.length_cons, F2.len h.2]
theorem F2.imp {α β : Type} {P Q : α → β → Prop} (h : ∀ a b, P a b → Q a b) : ∀ {as : List α} {bs : List β}, F2 P as bs → F2 Q as bs
  | [], [], _ => trivial
  | a :: as, b :: bs, z => ⟨h a b z.1, F2.imp h z.2⟩
/-- a walk that changes nothing -/
theorem forWt_inv {put : D → Ev → Option Ev} {body : SS} {w : Option Nat} {xs : List D} (I : Ev → Prop) (g : grd w xs m) : ∀ (ds : List D) (env : Ev), I env → (∀ d ∈ ds, ∀ env, I env → ∃ env1 env2, put d env = some env1 ∧ (body env1 m = some (.nx env2 m) ∨ body env1 m = some (.ct env2 m)) ∧ I env2) →
    ∃ env', forWt w xs put body ds env m = some (.nx env' m) ∧ I env'
  | [], env, h, _ => by
    refine ⟨env, ?_, h⟩
    cases w with
    | none => rfl
    | some n => exact if_pos g
  | d :: ds, env, h, hs => by
    obtain ⟨env1, env2, h1, h2, h3⟩ := hs d List.mem_cons_self env h
    obtain ⟨env', h4, h5⟩ := forWt_inv I g ds env2 h3 fun x hx => hs x (List.mem_cons_of_mem _ hx)
    refine ⟨env', ?_, h5⟩
    have key : forWt w xs put body (d :: ds) env m = (put d env).bind fun env1 => (body env1 m).bind fun o => turnO o (forWt w xs put body ds) := by
      cases w with
      | none => rfl
      | some n => exact if_pos g
    rw [key, h1, Option.bind_some]
    rcases h2 with h2 | h2 <;> rw [h2] <;> exact h4
theorem lcWt_of {put : D → Ev → Option Ev} {te : SE} {env : Ev} {w : Option Nat} {xs : List D} (g : grd w xs m) : ∀ (ds ys : List D), F2 (fun d y => ∃ env1, put d env = some env1 ∧ te env1 m = some (y, m)) ds ys → lcWt w xs put yesB te env ds m = some (ys, m)
  | [], [], _ => by
    cases w with
    | none => rfl
    | some n => exact if_pos g
  | d :: ds, y :: ys, h => by
    obtain ⟨⟨env1, h1, h2⟩, h3⟩ := h
    have ih := lcWt_of g ds ys h3
    have key : lcWt w xs put yesB te env (d :: ds) m = (put d env).bind fun env1 => (te env1 m).bind fun q => (lcWt w xs put yesB te env ds q.2).map fun w => (q.1 :: w.1, w.2) := by
      cases w with
      | none => rfl
      | some n => exact if_pos g
    rw [key, h1, Option.bind_some, h2, Option.bind_some, ih]
    rfl
/-- what is a list or a tuple, wherever it lies -/
structure Sq (m : Mem) (d : D) (ds : List D) : Prop where
  own : isOwn d = false
  len : lenD [d] m = some (.int (ds.length : Int), m)
  lst : f_is_list [d] m = some (.bl true, m)
  it : iterD m d = some (ds, m)
  grd : grd (watD m d) ds m
  ty : ∃ t, tyD m d = some t ∧ ∀ c, isC c t = false
  tup : tupleD [d] m = some (.tup ds, m)
  lis : listD [d] m = some (.lst ds, m)
  ix : ∀ (i : Nat) (e : D), ds[i]? = some e → ixD d (.int (i : Int)) m = some (e, m)
theorem sq_tup {ds : List D} : Sq m (.tup ds) ds := ⟨rfl, rfl, islist_tup, rfl, trivial, ⟨_, rfl, fun _ => rfl⟩, rfl, rfl, fun i e h => by
  show (atI ds (i : Int)).map (fun d => (d, m)) = _
  rw [at_nat h]
  rfl⟩
theorem sq_lst {ds : List D} : Sq m (.lst ds) ds := ⟨rfl, rfl, islist_lst, rfl, trivial, ⟨_, rfl, fun _ => rfl⟩, rfl, rfl, fun i e h => by
  show (atI ds (i : Int)).map (fun d => (d, m)) = _
  rw [at_nat h]
  rfl⟩
theorem sq_loc {ds : List D} (h : m[n]? = some (.lst ds)) : Sq m (.loc n) ds := by
  refine ⟨rfl, ?_, ?_, ?_, ?_, ?_, ?_, ?_, fun i e he => ?_⟩
  · simp [lenD, seqD, h, cellL]
  · refine run_p rfl ?_
    simp [b_is_list, tyD, h, isB, isTb]
  · simp [iterD, h]
  · simp [watD, h, Kb.grd]
  · simp [tyD, h, isC]
  · simp [tupleD, seqD, lsqD, lstD, h, cellL]
  · simp [listD, seqD, lsqD, lstD, h, cellL]
  · show (cellL m[n]?).bind (fun xs => (atI xs (i : Int)).map fun d => (d, m)) = _
    rw [h]
    show (atI ds (i : Int)).map (fun d => (d, m)) = _
    rw [at_nat he]
    rfl
/-- rows, wherever they lie -/
def SqR (m : Mem) (ds : List D) (A : List (List Int)) : Prop := F2 (fun d r => Sq m d (r.map D.int)) ds A
theorem are_rowsS {d : D} {ds : List D} (hd : Sq m d ds) (hr : SqR m ds A) (hA : Sz n A) (h1 : 1 ≤ n) (h3 : n ≤ 3) : f_are_rows [d] m = some (.bl true, m) := by
  have ho := hd.own
  have hle : ds.length = A.length := F2.len hr
  have hln := hd.len
  rw [hle] at hln
  refine run_p rfl ?_
  obtain ⟨env', e, _⟩ := forWt_inv (m := m) (w := watD m d) (xs := ds) (put := (Tg.n 1).put) (body := ifS (orB (notB (tstE (app f_is_list (argC (var 1) argN)))) (orB (tstB (Kb.bin neD (app lenD (argC (var 1) argN)) (app lenD (argC (var 0) argN)))) (notB (tstE (app allD (argC (lcE (itE (var 1)) (.n 2) [2] yesB (app f_is_integer (argC (var 2) argN))) argN)))))) (retS (cst (.bl false))) skS)
    (fun env => ∃ o, env = [some d, o, none]) hd.grd ds [some d, none, none] ⟨none, rfl⟩ fun x hx env ⟨o, ee⟩ => by
      subst ee
      obtain ⟨r, hr2, sx⟩ := F2.mem hr x hx
      have hl : r.length = A.length := by rw [hA.2 r hr2, hA.1]
      have hl2 : A.length ≤ 100000 := by have := hA.1; omega
      have hlnx := sx.len
      rw [List.length_map, hl] at hlnx
      have lc : lcWt (watD m x) (r.map D.int) (Tg.n 2).put yesB (app f_is_integer (argC (var 2) argN)) [some d, some x, none] (r.map D.int) m = some ((r.map fun _ => true).map D.bl, m) := by
        refine lcWt_of sx.grd _ _ ?_
        clear hlnx hl sx hr2
        induction r with
        | nil => trivial
        | cons z r ih => exact ⟨⟨_, rfl, by simp [isint_int]⟩, ih⟩
      exact ⟨[some d, some x, none], [some d, some x, none], rfl, .inl (by simp [sx.own, sx.lst, hlnx, ho, hln, sx.it, lc, hl, hl2, allD_bls, -List.map_map]), some x, rfl⟩
  have hl : 1 ≤ (A.length : Int) ∧ (A.length : Int) ≤ 3 := by have := hA.1; omega
  simp [b_are_rows, ho, hd.lst, hln, hd.it, hl.1, hl.2, e]
theorem SqR.one {d : D} {ds : List D} {r : List Int} {A : List (List Int)} (h : Sq m d (r.map D.int)) (g : SqR m ds A) : SqR m (d :: ds) (r :: A) := ⟨h, g⟩
theorem told_rowsS {d : D} {ds : List D} (hd : Sq m d ds) (hr : SqR m ds A) [ta : Tb n k A] (hk : k ≤ 4000) : f_told_rows [d] m = some (.obj 0 [TD A, .int (detL A)], m) := by
  have ho := hd.own
  refine run_p rfl ?_
  have hle : ds.length = A.length := F2.len hr
  have c : lcWt (watD m d) ds (Tg.n 2).put yesB (app tupleD (argC (var 2) argN)) [some d, none, none, none] ds m = some (A.map RD, m) := by
    refine lcWt_of hd.grd _ _ ?_
    have key : ∀ (ds : List D) (A : List (List Int)), SqR m ds A → F2 (fun x y => ∃ env1, (Tg.n 2).put x [some d, none, none, none] = some env1 ∧ app tupleD (argC (var 2) argN) env1 m = some (y, m)) ds (A.map RD) := by
      intro ds
      induction ds with
      | nil => intro A h; cases A with
        | nil => trivial
        | cons _ _ => exact h.elim
      | cons x xs ih => intro A h; cases A with
        | nil => exact h.elim
        | cons r A =>
          have hx := h.1
          have hx2 := hx.tup
          rw [tup_ints] at hx2
          exact ⟨⟨_, rfl, by simp [hx.own, hx2]⟩, ih A h.2⟩
    exact key ds A hr
  have hl2 : A.length ≤ 100000 := by have := ta.sz.1; have := ta.hi; omega
  obtain ⟨t, t1, t2⟩ := hd.ty
  have tm := told_mk (m := m) (a := TD A) (b := .int (detL A)) (fun _ => by simp) (fun _ => by simp)
  simp [b_told_rows, ho, t1, t2, are_rowsS hd hr ta.sz ta.lo ta.hi, hd.it, c, hl2, q_det hk, unit_in ta.un, tm]
/-- a list of lists of the store -/
def NestAt (m : Mem) (g : Nat) (A : List (List Int)) : Prop := ∃ ls : List Nat, m[g]? = some (.lst (ls.map D.loc)) ∧ F2 (fun l r => m[l]? = some (.lst (r.map D.int))) ls A
theorem NestAt.app {g : Nat} (h : NestAt m g A) (J : List Cell) : NestAt (m ++ J) g A := by
  obtain ⟨ls, h1, h2⟩ := h
  have up : ∀ (i : Nat) (c : Cell), m[i]? = some c → (m ++ J)[i]? = some c := fun i c e => by
    rw [List.getElem?_append_left (List.getElem?_eq_some_iff.mp e).1]
    exact e
  exact ⟨ls, up _ _ h1, h2.imp fun l r z => up _ _ z⟩
theorem NestAt.sq {g : Nat} (h : NestAt m g A) : ∃ ds, Sq m (.loc g) ds ∧ SqR m ds A := by
  obtain ⟨ls, h1, h2⟩ := h
  refine ⟨ls.map D.loc, sq_loc h1, ?_⟩
  have key : ∀ (ls : List Nat) (A : List (List Int)), F2 (fun l r => m[l]? = some (.lst (r.map D.int))) ls A → SqR m (ls.map D.loc) A := by
    intro ls
    induction ls with
    | nil => intro A h; cases A with
      | nil => trivial
      | cons _ _ => exact h.elim
    | cons x xs ih => intro A h; cases A with
      | nil => exact h.elim
      | cons r A => exact ⟨sq_loc h.1, ih A h.2⟩
  exact key ls A h2
theorem q_newN {g : Nat} (h : NestAt m g A) [ta : Tb n k A] (hk : k ≤ 4000) : makeV 1 2 f_Table_init [.loc g] m = some (TO A, m) := by
  refine mk_two (by simp) rfl ?_
  obtain ⟨ds, h1, h2⟩ := (h.app [.ins 1 []]).sq
  have tr := told_rowsS h1 h2 hk
  refine run_pn (env := [some (.loc m.length), some (.loc g), some (.obj 0 [TD A, .int (detL A)])]) rfl ?_ (by simp)
  simp [b_Table_init, tr, putC_last]
/-- the same for a list, held as such, of lists of the store -/
def NestL (m : Mem) (ls : List Nat) (A : List (List Int)) : Prop := F2 (fun l r => m[l]? = some (.lst (r.map D.int))) ls A
theorem NestL.app {ls : List Nat} (h : NestL m ls A) (J : List Cell) : NestL (m ++ J) ls A := h.imp fun l r e => by
  rw [List.getElem?_append_left (List.getElem?_eq_some_iff.mp e).1]
  exact e
theorem NestL.sq {ls : List Nat} (h : NestL m ls A) : SqR m (ls.map D.loc) A := by
  have key : ∀ (ls : List Nat) (A : List (List Int)), F2 (fun l r => m[l]? = some (.lst (r.map D.int))) ls A → SqR m (ls.map D.loc) A := by
    intro ls
    induction ls with
    | nil => intro A h; cases A with
      | nil => trivial
      | cons _ _ => exact h.elim
    | cons x xs ih => intro A h; cases A with
      | nil => exact h.elim
      | cons r A => exact ⟨sq_loc h.1, ih A h.2⟩
  exact key ls A h
theorem q_newLN {ls : List Nat} (h : NestL m ls A) [ta : Tb n k A] (hk : k ≤ 4000) : makeV 1 2 f_Table_init [.lst (ls.map D.loc)] m = some (TO A, m) := by
  refine mk_two (by simp) rfl ?_
  have h2 := (h.app [.ins 1 []]).sq
  have tr := told_rowsS (sq_lst (m := m ++ [.ins 1 []]) (ds := ls.map D.loc)) h2 hk
  refine run_pn (env := [some (.loc m.length), some (.lst (ls.map D.loc)), some (.obj 0 [TD A, .int (detL A)])]) rfl ?_ (by simp)
  simp [b_Table_init, tr, putC_last]

/-! ### texts -/
theorem shw_len {d : D} [ta : Sh d w p l] : (shwD d).length ≤ w := by
  obtain ⟨x, h1, h2, h3, h4⟩ := ta.ex
  subst h1
  unfold shwD
  rw [Pl.toP]
  exact Nat.le_trans (Pl.shown_le x) h4
theorem shown_TD [ta : Tb n k A] (hk : k ≤ 1800) : shownQ m (TD A) = some (shwD (TD A)) := by
  have h := q_repr (m := m) (d := TD A) hk (by decide) (by omega)
  have h : (shownD m (TD A)).map (fun x => (D.str x, m)) = some (.str (shwD (TD A)), m) := h
  obtain ⟨x, h1, h2⟩ := Option.map_eq_some_iff.mp h
  cases h2
  unfold shownD at h1
  unfold shownQ
  have e : toP m (TD A) = some (tabP A).p := by
    have := Pl.toP (m := m) (tabP A)
    rw [tabP_d] at this
    exact this
  rw [e] at h1 ⊢
  exact h1
theorem q_rep [ta : Tb n k A] (hk : k ≤ 1800) : f_Table_repr [TO A] m = some (.str ((("Table(" : Str) ++ shwD (TD A)) ++ (")" : Str)), m) := by
  have h := shown_TD (m := m) (A := A) hk
  have e : (("Table(" : Str).length ≤ 1000 ∧ (")" : Str).length ≤ 1000) := by decide
  refine run_p rfl ?_
  simp [b_Table_repr, fstE, h, e]
theorem q_orep [ta : Tb n k A] (hk : k ≤ 1800) : ownreprD 1 f_Table_repr [TO A] m = some (.str ((("Table(" : Str) ++ shwD (TD A)) ++ (")" : Str)), m) := by
  simp [ownreprD, q_rep hk]
/-- a Table is nothing else -/
theorem q_eqo {d : D} {t : TyD} (h : tyD m d = some t) (ht : isC 1 t = false) (ho : isOwn d = false) : owneqD 1 f_Table_eq (TO A) d m = some (.bl false, m) := by
  have e : f_Table_eq [TO A, d] m = some (.bl false, m) := by
    refine run_p rfl ?_
    simp [b_Table_eq, ho, h, ht]
  simp [owneqD, h, e]
end Tab

set_option Elab.async false
set_option linter.all false
set_option maxRecDepth 100000
set_option maxHeartbeats 8000000
set_option autoImplicit false
/-! KtZ: words shortened, in plain Lean; words wherever they lie; laws that leave things in the store. -/
namespace Tab
open PySem L2 Kb
variable {m : Mem} {n i j k p q l w : Nat} {A B C E : List (List Int)} {Ms : List (List (List Int))} {r s v u f g : List Int} {x y : Int}

/-! ### no neighbours that are contraries -/
inductive Red : List Int → Prop
  | nil : Red []
  | snoc {g : List Int} {y : Int} : Red g → g.getLast? ≠ some (0 - y) → Red (g ++ [y])
theorem red_inv (h : Red (g ++ [y])) : Red g ∧ g.getLast? ≠ some (0 - y) := by
  generalize e : g ++ [y] = w at h
  cases h with
  | nil => simp at e
  | snoc h1 h2 =>
    have e2 := List.append_inj' e rfl
    obtain ⟨e3, e4⟩ := e2
    cases e4
    subst e3
    exact ⟨h1, h2⟩
theorem shS_red (h : Red f) : Red (shS f x) := by
  unfold shS
  split
  · rcases pile_or f with rfl | ⟨g, y, rfl⟩
    · exact h
    · rw [List.dropLast_concat]
      exact (red_inv h).1
  · exact .snoc h (by assumption)
theorem shS_inv (h : Red f) : shS (shS f x) (0 - x) = f := by
  rcases pile_or f with rfl | ⟨g, y, rfl⟩
  · have e : shS [] x = [x] := by simp [shS]
    rw [e]
    unfold shS
    rw [if_pos (by simp)]
    rfl
  · have hl : (g ++ [y]).getLast? = some y := by simp
    by_cases e : y = 0 - x
    · have e1 : shS (g ++ [y]) x = g := by
        unfold shS
        rw [hl, if_pos (by rw [e]), List.dropLast_concat]
      rw [e1]
      have h2 := (red_inv h).2
      unfold shS
      rw [if_neg (by intro z; apply h2; rw [z]; congr 1; omega), e]
    · have e1 : shS (g ++ [y]) x = g ++ [y] ++ [x] := by
        unfold shS
        rw [hl, if_neg (fun z => e (Option.some.inj z))]
      rw [e1]
      unfold shS
      rw [if_pos (by simp), List.dropLast_concat]
theorem fold_red : ∀ (w f : List Int), Red f → Red (w.foldl shS f)
  | [], _, h => h
  | x :: w, f, h => fold_red w (shS f x) (shS_red h)
theorem short_red : Red (shortL v) := fold_red v [] .nil
theorem fold_shS (h : Red f) : (shS g x).foldl shS f = shS (g.foldl shS f) x := by
  rcases pile_or g with rfl | ⟨g', y, rfl⟩
  · simp [shS]
  · have hl : (g' ++ [y]).getLast? = some y := by simp
    by_cases e : y = 0 - x
    · have e1 : shS (g' ++ [y]) x = g' := by
        unfold shS
        rw [hl, if_pos (by rw [e]), List.dropLast_concat]
      rw [e1, List.foldl_append]
      show g'.foldl shS f = shS (shS (g'.foldl shS f) y) x
      have := shS_inv (x := y) (fold_red g' f h)
      rw [show (0 - y) = x by omega] at this
      exact this.symm
    · have e1 : shS (g' ++ [y]) x = g' ++ [y] ++ [x] := by
        unfold shS
        rw [hl, if_neg (fun z => e (Option.some.inj z))]
      rw [e1, List.foldl_append]
      rfl
theorem fold_fold (h : Red f) : ∀ (v g : List Int), (v.foldl shS g).foldl shS f = v.foldl shS (g.foldl shS f)
  | [], _ => rfl
  | x :: v, g => by
    show (v.foldl shS (shS g x)).foldl shS f = v.foldl shS (shS (g.foldl shS f) x)
    rw [fold_fold h v, fold_shS h]
theorem short_short : shortL (shortL v) = shortL v := fold_fold .nil v []
theorem short_app : shortL (u ++ v) = v.foldl shS (shortL u) := List.foldl_append
theorem short_two : shortL (shortL u ++ shortL v) = shortL (u ++ v) := by
  rw [short_app, short_app, short_short]
  exact fold_fold short_red v []
theorem red_short (h : Red v) : shortL v = v := by
  induction h with
  | nil => rfl
  | snoc h1 h2 ih =>
    rw [short_app, ih]
    show shS _ _ = _
    unfold shS
    rw [if_neg h2]
theorem fold_con (h : Red f) : ∀ w : List Int, (w ++ conL w).foldl shS f = f := by
  intro w
  induction w generalizing f with
  | nil => rfl
  | cons x w ih =>
    have e : conL (x :: w) = conL w ++ [0 - x] := by unfold conL; rw [List.reverse_cons, List.map_append]; rfl
    rw [e, ← List.append_assoc, List.foldl_append]
    show shS ((w ++ conL w).foldl shS (shS f x)) (0 - x) = f
    rw [ih (shS_red h), shS_inv h]
theorem short_con : shortL (v ++ conL v) = [] := fold_con .nil v
theorem con_con : conL (conL v) = v := by
  unfold conL
  rw [← List.map_reverse, List.reverse_reverse, List.map_map]
  have : ∀ w : List Int, w.map ((fun x => 0 - x) ∘ fun x => 0 - x) = w := fun w => by
    induction w with
    | nil => rfl
    | cons x w ih => rw [List.map_cons, ih]; congr 1; show 0 - (0 - x) = x; omega
  exact this v
theorem short_cut (e : x + y = 0) : shortL (u ++ [x, y] ++ v) = shortL (u ++ v) := by
  rw [short_app, short_app, short_app]
  show v.foldl shS (shS (shS (shortL u) x) y) = _
  have : y = 0 - x := by omega
  rw [this, shS_inv short_red]
theorem red_of : ∀ (l : Nat) (w : List Int), w.length = l → (∀ i a b, w[i]? = some a → w[i + 1]? = some b → a + b ≠ 0) → Red w
  | 0, w, hl, _ => by
    rw [List.length_eq_zero_iff.mp hl]
    exact .nil
  | l + 1, w, hl, h => by
    rcases pile_or w with rfl | ⟨g, y, rfl⟩
    · exact .nil
    · have hg : g.length = l := by rw [List.length_append, List.length_singleton] at hl; omega
      refine .snoc (red_of l g hg fun i a b ha hb => ?_) ?_
      · have i1 := (List.getElem?_eq_some_iff.mp ha).1
        have i2 := (List.getElem?_eq_some_iff.mp hb).1
        exact h i a b (by rw [List.getElem?_append_left i1]; exact ha) (by rw [List.getElem?_append_left i2]; exact hb)
      · intro z
        rcases pile_or g with rfl | ⟨g', x, rfl⟩
        · simp at z
        · have zx : x = 0 - y := by simpa using z
          refine h g'.length x y ?_ ?_ (by omega)
          · rw [List.append_assoc, List.getElem?_append_right (Nat.le_refl _), Nat.sub_self]
            rfl
          · rw [List.append_assoc, List.getElem?_append_right (by omega), show g'.length + 1 - g'.length = 1 by omega]
            rfl

/-! ### words wherever they lie -/
theorem q_iswordS {t : D} (ht : Sq m t (v.map D.int)) [a : Wd p l v] (hl : l ≤ 60) : f_is_word_of [t, .int (p : Int)] m = some (.bl true, m) := by
  have ho := ht.own
  have hn := ht.len
  rw [List.length_map] at hn
  have ln := a.len
  have h60 : ¬ (60 : Int) < (v.length : Int) := by omega
  have lc : lcWt (watD m t) (v.map D.int) (Tg.n 2).put yesB (andE (app f_is_integer (argC (var 2) argN)) (chnE leD leD (cst (.int 1)) (app absD (argC (var 2) argN)) (var 1))) [some t, some (.int (p : Int)), none] (v.map D.int) m = some ((v.map fun _ => true).map D.bl, m) := by
    refine lcWt_of ht.grd _ _ ?_
    have key : ∀ v : List Int, (∀ x ∈ v, 1 ≤ x.natAbs ∧ x.natAbs ≤ p) → F2 (fun d y => ∃ env1, (Tg.n 2).put d [some t, some (.int (p : Int)), none] = some env1 ∧ andE (app f_is_integer (argC (var 2) argN)) (chnE leD leD (cst (.int 1)) (app absD (argC (var 2) argN)) (var 1)) env1 m = some (y, m)) (v.map D.int) ((v.map fun _ => true).map D.bl) := by
      intro v
      induction v with
      | nil => exact fun _ => trivial
      | cons x v ih =>
        intro h
        refine ⟨⟨_, rfl, ?_⟩, ih fun y hy => h y (List.mem_cons_of_mem _ hy)⟩
        have hk := h x List.mem_cons_self
        have hA : (if x < 0 then -x else x) = (x.natAbs : Int) := by split <;> omega
        have h1 : (1 : Int) ≤ (x.natAbs : Int) := by omega
        have h2 : (x.natAbs : Int) ≤ (p : Int) := by omega
        simp [isint_int, hA, h1, h2, hk.1, hk.2]
    exact key v a.ok
  have al := allD_bls (m := m) (ns := v.map fun _ => true)
  have al2 : (v.map fun _ => true).all id = true := by simp
  rw [al2] at al
  have hll : v.length ≤ 100000 := by omega
  refine run_p rfl ?_
  simp [b_is_word_of, ho, ht.lst, hn, h60, ht.it, lc, hll, al, -List.map_map]
theorem q_wantwordS {t : D} (ht : Sq m t (v.map D.int)) [a : Wd p l v] (hl : l ≤ 60) : f_want_word [t, .int (p : Int)] m = some (LD v, m) := by
  have ho := ht.own
  have hw := q_iswordS ht hl (p := p)
  have h2 := ht.lis
  rw [lst_ints] at h2
  refine run_p rfl ?_
  simp [b_want_word, ho, hw, h2]
theorem q_productS {t : D} (ht : Sq m t (v.map D.int)) [h : Mk n k p Ms] [a : Wd p l v] (hl : l ≤ 60) (hk : l * (2 * k + 7) + 2 * k + 5 ≤ 4000) : f_product [MD Ms, t] m = some (TO (prodL n Ms v), m) := by
  have ho := ht.own
  have hw := q_wantwordS ht hl (p := p)
  have hp := q_product_of (m := m) (Ms := Ms) (v := v) (by omega) hk
  refine run_p rfl ?_
  simp [b_product, q_wantmakers, ho, lenD_MD, hw, hp]
theorem q_shortS {t : D} (ht : Sq m t (v.map D.int)) [a : Wd p l v] (hp : p ≤ 4) (hl : l ≤ 60) : f_shortened [t] m = some (LD (shortL v), m) := by
  have ho := ht.own
  have a4 : Wd 4 l v := a.mono hp
  have hw := q_wantwordS ht hl (p := 4)
  have hw : f_want_word [t, .int 4] m = some (LD v, m) := hw
  obtain ⟨o', hf⟩ := short_loop (m := m) (o := some t) v [] none (by have := a.len; simp; omega)
  rw [List.map_nil] at hf
  have e : v.foldl shS [] = shortL v := rfl
  rw [e] at hf
  refine run_p rfl ?_
  simp [b_shortened, ho, hw, hf]
/-- makers as a tuple -/
def MT (Ms : List (List (List Int))) : D := .tup (Ms.map TO)
@[simp] theorem isOwn_MT : isOwn (MT Ms) = false := hid rfl
@[simp] theorem frzD_MT : frzD m (MT Ms) = some (Ms.map TO, m) := hid rfl
@[simp] theorem iterD_MT : iterD m (MT Ms) = some (Ms.map TO, m) := hid rfl
@[simp] theorem watD_MT : watD m (MT Ms) = none := hid rfl
theorem lenD_MT [h : Mk n k p Ms] : lenD [MT Ms] m = some (.int (p : Int), m) := by
  show some (D.int ((Ms.map TO).length : Nat), m) = _
  rw [List.length_map, h.len]
theorem ixD_MT {i : Nat} (h : Ms[i]? = some A) : ixD (MT Ms) (.int (i : Int)) m = some (TO A, m) := ixD_MD h
theorem q_wantmakersT [h : Mk n k p Ms] : f_want_makers [MT Ms] m = some (MD Ms, m) := by
  have hlo := h.lo
  have hhi := h.hi
  obtain ⟨A0, e0, t0⟩ := Mk.mem (Ms := Ms) 0 (by omega)
  obtain ⟨env', m', hf, o1, o2, rfl, rfl⟩ := forL_inv (put := (Tg.t [1, 2]).put) (body := ifS (orB (notB (tstE (isiE (isC 1) (var 2)))) (tstB (Kb.bin neD (app lenD (argC (fldE 1 0 (var 2)) argN)) (app lenD (argC (fldE 1 0 (Kb.bin ixD (var 0) (cst (.int 0)))) argN))))) noS skS)
    (fun env m' => ∃ o1 o2, m' = m ∧ env = [some (MT Ms), o1, o2]) (numD (Ms.map TO)) [some (MT Ms), none, none] m ⟨none, none, rfl, rfl⟩ fun d hd env m' ⟨o1, o2, e1, e2⟩ => by
      subst e1 e2
      obtain ⟨j, x, hx, rfl⟩ := mem_num hd
      rw [List.getElem?_map] at hx
      obtain ⟨A, hA, rfl⟩ := Option.map_eq_some_iff.mp hx
      have tA := h.tb _ (List.mem_of_getElem? hA)
      have x0 : ixD (MT Ms) (.int 0) m' = some (TO A0, m') := ixD_MT e0
      refine ⟨[some (MT Ms), some (.int (0 + (j : Int))), some (TO A)], .nx [some (MT Ms), some (.int (0 + (j : Int))), some (TO A)] m', rfl, ?_, _, _, rfl, rfl⟩
      simp [isC, lenD_TD, x0]
  have h1 : (1 : Int) ≤ (p : Int) := by omega
  have h4 : (p : Int) ≤ 4 := by omega
  have il : f_is_list [MT Ms] m' = some (.bl true, m') := islist_tup
  have ld : listD [MT Ms] m' = some (MD Ms, m') := rfl
  refine run_p rfl ?_
  simp [b_want_makers, il, lenD_MT, h1, h4, hf, ld]
theorem q_productT {t : D} (ht : Sq m t (v.map D.int)) [h : Mk n k p Ms] [a : Wd p l v] (hl : l ≤ 60) (hk : l * (2 * k + 7) + 2 * k + 5 ≤ 4000) : f_product [MT Ms, t] m = some (TO (prodL n Ms v), m) := by
  have ho := ht.own
  have hw := q_wantwordS ht hl (p := p)
  have hp := q_product_of (m := m) (Ms := Ms) (v := v) (by omega) hk
  refine run_p rfl ?_
  simp [b_product, q_wantmakersT, ho, lenD_MD, hw, hp]
/-! ### laws that leave things in the store behind the pots -/
theorem Moved.appL {p : Nat} {m m' J : Mem} (hm : Pot m p) (h : Moved p (m ++ J) m') : ∃ m1, m' = m1 ++ J ∧ Moved p m m1 := by
  obtain ⟨⟨d, hd, hp⟩, e, he⟩ := h
  have hl := hm.lt
  have e2 : (m ++ J).set p e = m.set p e ++ J := List.set_append_left _ _ hl
  rw [e2] at he
  subst he
  refine ⟨m.set p e, rfl, ⟨d, ?_, hp⟩, e, rfl⟩
  rw [List.getElem?_append_left (by rw [List.length_set]; exact hl)] at hd
  exact hd
theorem Pot.appL {p : Nat} {m J : Mem} (h : Pot m p) : Pot (m ++ J) p := by
  obtain ⟨d, h2, h3⟩ := id h
  refine ⟨d, ?_, h3⟩
  rw [List.getElem?_append_left h.lt]
  exact h2
/-- all pots -/
def AllP (m : Mem) : Prop := ∀ c ∈ m, potC c
theorem AllP.below {m : Mem} (h : AllP m) (n : Nat) : m.all (belowC n) = true := by
  rw [List.all_eq_true]
  intro c hc
  obtain ⟨a, b, rfl, _⟩ := h c hc
  rfl
theorem AllP.move {p : Nat} {m m' : Mem} (h : AllP m) (v : Moved p m m') : AllP m' := by
  obtain ⟨⟨d, hd, hp⟩, c, rfl⟩ := v
  intro x hx
  have hlt : p < m.length := by
    have := (List.getElem?_eq_some_iff.mp hd).1
    rwa [List.length_set] at this
  rw [List.getElem?_set_self hlt] at hd
  cases hd
  rcases List.mem_or_eq_of_mem_set hx with z | z
  · exact h x z
  · rw [z]; exact hp
theorem AllP.pot {q : Nat} (h : AllP m) (hq : q < m.length) : Pot m q := ⟨m[q], List.getElem?_eq_getElem hq, h _ (List.getElem_mem hq)⟩
theorem run_va {n a : Nat} {b : SS} {ds : List D} {m m1 J : Mem} {k : Bool} (hl : ds.length = a) (h : b (ds.map some ++ List.replicate (n - a) none) m = some (.rt (.bl k) (m1 ++ J))) (e : m1.length = m.length) (p : AllP m1) : runB outV n a b ds m = some (.bl k, m1) := by
  unfold runB
  rw [if_pos hl, h]
  show outV m.length (.bl k) (m1 ++ J) = _
  have et : (m1 ++ J).take m.length = m1 := by rw [← e, List.take_left]
  unfold outV
  rw [et, if_pos (p.below _)]
  rfl
def RightA (rt : Fs) : Prop := ∀ (m : Mem) (q : Nat), AllP m → q < m.length → ∃ m' : Mem, rt [.loc q] m = some (.bl true, m') ∧ AllP m' ∧ m'.length = m.length
theorem law_frameA {rt pt : Fs} (hr : RightA rt) (hp : Pots pt) (most : Nat) (hmo : most ≤ 50) (ns : List Int) :
    ∃ m : Mem, runB outV 2 1 (retS (app allD (argC (lcE (rng1 (argC (app maxD (argC (cst (.int 1)) (argC (app minD (argC (cst (.int (most : Int))) (argC (app lenD (argC (var 0) argN)) argN))) argN))) argN)) (.n 1) [1] yesB (app rt (argC (app pt (argC (var 0) (argC (var 1) argN))) argN))) argN))) [.scr ns] [] = some (.bl true, m) := by
  obtain ⟨c, hc2, hrng⟩ := law_rng most hmo ns [none] []
  obtain ⟨ys, m', e, _, hl, hy⟩ := lcL_draw (put := (Tg.n 1).put) (te := app rt (argC (app pt (argC (var 0) (argC (var 1) argN))) argN)) (env := [some (.scr ns), none]) (P := fun y => y = .bl true) AllP ((List.range c).map fun (j : Nat) => D.int (j : Int)) [] (fun _ h => nomatch h) fun d hd m hA => by
    obtain ⟨j, hj, rfl⟩ := List.mem_map.mp hd
    have hj' := List.mem_range.mp hj
    obtain ⟨cc, hpt, hpc⟩ := hp ns j m (by omega)
    obtain ⟨m2, hrt, hA2, _⟩ := hr (m ++ [cc]) m.length (fun x hx => (List.mem_append.mp hx).elim (hA x) fun z => by rw [List.mem_singleton.mp z]; exact hpc) (by simp)
    exact ⟨[some (.scr ns), some (.int (j : Int))], .bl true, m2, rfl, by simp [hpt, hrt], rfl, hA2⟩
  have hl2 : ys.length ≤ 100000 := by
    rw [hl, List.length_map, List.length_range]
    omega
  exact ⟨[], run_v0 (m' := m') rfl (by simp [hrng, e, hl2, all_true hy])⟩
end Tab

set_option Elab.async false
set_option linter.all false
set_option maxRecDepth 100000
set_option maxHeartbeats 8000000
set_option autoImplicit false
/-! KtL: lists of numbers, alike and as texts; texts of plain things. -/
namespace Tab
open PySem L2 Kb
variable {m : Mem} {n : Nat} {r s : List Int}
theorem LD_inj {r s : List Int} : LD r = LD s ↔ r = s := by
  constructor
  · intro h
    exact map_inj (fun a b z => D.int.inj z) (D.lst.inj h)
  · rintro rfl
    rfl
theorem eqB1_LD {r s : List Int} : eqB1 m (LD r) (LD s) = some (decide (r = s)) := by
  have h := eqB1_pl (m := m) (x := .lst (r.map .int)) (y := .lst (s.map .int)) (Nat.le_trans (row_dep r) (by decide)) (Nat.le_trans (row_dep s) (by decide))
  rw [lr_d, lr_d] at h
  have h2 := Pl.eqv_iff (.lst (r.map .int)) (.lst (s.map .int)) (ints_num r) (ints_num s)
  rw [lr_d, lr_d, LD_inj] at h2
  rw [h]
  congr 1
  rw [Bool.eq_iff_iff, h2, decide_eq_true_iff]
theorem eqD_LD {r s : List Int} : eqD (LD r) (LD s) m = some (.bl (decide (r = s)), m) := by
  show (eqB1 m (LD r) (LD s)).map (fun k => (D.bl k, m)) = _
  rw [eqB1_LD]
  rfl
theorem neD_LD {r s : List Int} : neD (LD r) (LD s) m = some (.bl (!decide (r = s)), m) := by
  show (eqB1 m (LD r) (LD s)).map (fun k => (D.bl (!k), m)) = _
  rw [eqB1_LD]
  rfl
theorem toPWs_ints {lk : Nat → Option PyData} : ∀ r : List Int, toPWs lk (r.map D.int) = some (r.map PyData.int)
  | [] => by simp [toPWs]
  | x :: r => by simp [toPWs, toPW, toPWs_ints r]
theorem toP_loc {r : List Int} (h : m[n]? = some (.lst (r.map D.int))) : toP m (.loc n) = toP m (LD r) := by
  show lkS m (lkS m (lkS m fun _ => none)) n = toPW _ (.lst (r.map D.int))
  unfold lkS
  rw [h]
  show (toPWs _ (r.map D.int)).map PyData.list = toPW _ (.lst (r.map D.int))
  rw [toPWs_ints]
  simp only [toPW]
  rw [toPWs_ints]
theorem neD_locL {r s : List Int} (h : m[n]? = some (.lst (r.map D.int))) : neD (.loc n) (LD s) m = some (.bl (!decide (r = s)), m) := by
  have e : neD (.loc n) (LD s) m = neD (LD r) (LD s) m := by
    show (eqB1 m (.loc n) (LD s)).map (fun k => (D.bl (!k), m)) = (eqB1 m (LD r) (LD s)).map (fun k => (D.bl (!k), m))
    unfold eqB1
    rw [toP_loc h]
  rw [e, neD_LD]
theorem neD_Lloc {r s : List Int} (h : m[n]? = some (.lst (r.map D.int))) : neD (LD s) (.loc n) m = some (.bl (!decide (s = r)), m) := by
  have e : neD (LD s) (.loc n) m = neD (LD s) (LD r) m := by
    show (eqB1 m (LD s) (.loc n)).map (fun k => (D.bl (!k), m)) = (eqB1 m (LD s) (LD r)).map (fun k => (D.bl (!k), m))
    unfold eqB1
    rw [toP_loc h]
  rw [e, neD_LD]
theorem of_all {α : Type} {enc : α → D} {Q : α → Prop} : ∀ ys : List D, (∀ y ∈ ys, ∃ a, y = enc a ∧ Q a) → ∃ xs : List α, ys = xs.map enc ∧ (∀ x ∈ xs, Q x) ∧ xs.length = ys.length
  | [], _ => ⟨[], rfl, fun _ h => (nomatch h), rfl⟩
  | y :: ys, h => by
    obtain ⟨a, e, ha⟩ := h y List.mem_cons_self
    obtain ⟨xs, e2, h2, h3⟩ := of_all ys fun z hz => h z (List.mem_cons_of_mem _ hz)
    refine ⟨a :: xs, by rw [e, e2]; rfl, fun z hz => ?_, by rw [List.length_cons, List.length_cons, h3]⟩
    rcases List.mem_cons.mp hz with z1 | z1
    · rw [z1]; exact ha
    · exact h2 z z1
/-- it has a text -/
def Shown (m : Mem) (d : D) : Prop := ∃ x : Str, reprXD [d] m = some (.str x, m)
theorem shown_of {d : D} {p : PyData} (hd : ∀ ks vs, d ≠ .dic ks vs) (h : toP m d = some p) (h1 : p.showable = true) (h2 : p.hasDict = false) (h3 : p.depth ≤ 20) (h4 : p.shown.length ≤ 1000000) : Shown m d := by
  refine ⟨p.shown, ?_⟩
  have e : reprXD [d] m = reprD [d] m := by
    unfold reprXD
    split
    · rename_i ks vs e
      exact absurd (List.cons.inj e).1 (hd ks vs)
    · rfl
  rw [e]
  show (shownD m d).map (fun x => (D.str x, m)) = _
  unfold shownD
  rw [h]
  show (if p.showable = true ∧ p.hasDict = false ∧ p.depth ≤ 20 ∧ p.shown.length ≤ 1000000 then some p.shown else none).map (fun x => (D.str x, m)) = _
  rw [if_pos ⟨h1, h2, h3, h4⟩]
  rfl
theorem shown_pl {x : Pl} (h1 : x.low = true) (h2 : x.dep ≤ 20) (h3 : x.wt ≤ 1000000) : Shown m x.d := by
  have h := Pl.show_ok x h1
  exact shown_of (fun ks vs e => by cases x <;> cases e) (Pl.toP x) h.1 h.2 (by rw [Pl.depth]; exact h2) (Nat.le_trans (Pl.shown_le x) h3)
theorem shown_LD {k : Nat} (hk : k ≤ 1000) (hr : ∀ x ∈ r, Sm k x) (hl : r.length ≤ 100) : Shown m (LD r) := by
  rw [← lr_d]
  refine shown_pl (ints_low (by omega) hr) (Nat.le_trans (row_dep r) (by decide)) ?_
  show Pl.wts (r.map .int) + 3 ≤ _
  have := ints_wt hr
  have : r.length * (k + 4) ≤ 100 * 1004 := Nat.mul_le_mul hl (by omega)
  omega
theorem shown_RD {k : Nat} (hk : k ≤ 1000) (hr : ∀ x ∈ r, Sm k x) (hl : r.length ≤ 100) : Shown m (RD r) := by
  have e : (Pl.tup (r.map .int)).d = RD r := by
    show D.tup (Pl.ds (r.map .int)) = _
    rw [ints_d]
    rfl
  rw [← e]
  refine shown_pl (ints_low (by omega) hr) ?_ ?_
  · show Pl.deps (r.map .int) + 1 ≤ _
    rw [ints_dep]
    decide
  · show Pl.wts (r.map .int) + 3 ≤ _
    have := ints_wt hr
    have : r.length * (k + 4) ≤ 100 * 1004 := Nat.mul_le_mul hl (by omega)
    omega
theorem shown_loc {k : Nat} (hk : k ≤ 1000) (hr : ∀ x ∈ r, Sm k x) (hl : r.length ≤ 100) (h : m[n]? = some (.lst (r.map D.int))) : Shown m (.loc n) := by
  have e : reprXD [.loc n] m = reprXD [LD r] m := by
    show (shownD m (.loc n)).map (fun x => (D.str x, m)) = (shownD m (LD r)).map (fun x => (D.str x, m))
    unfold shownD
    rw [toP_loc h]
  obtain ⟨x, hx⟩ := shown_LD (m := m) hk hr hl
  exact ⟨x, by rw [e]; exact hx⟩
end Tab

set_option Elab.async false
set_option linter.all false
set_option maxRecDepth 100000
set_option maxHeartbeats 4000000
set_option autoImplicit false
/-! what the defs compute that several laws share. -/
namespace Tab
open PySem L2 Kb
noncomputable section
def b_are_form_rows : SS := seqS (ifS (orB (notB (tstE (app f_is_list (argC (var 0) argN)))) (notB (tstB (chnE leD leD (cst (.int 1)) (app lenD (argC (var 0) argN)) (cst (.int 3)))))) (retS (cst (.bl false))) skS) (seqS (setS (.n 1) (app lenD (argC (var 0) argN))) (seqS (forS (itE (var 0)) (.n 2) (ifS (orB (notB (tstE (app f_is_list (argC (var 2) argN)))) (orB (tstB (bin neD (app lenD (argC (var 2) argN)) (var 1))) (notB (tstE (app allD (argC (lcE (itE (var 2)) (.n 3) [3] yesB (app f_is_integer (argC (var 3) argN))) argN)))))) (retS (cst (.bl false))) skS)) (retS (app allD (argC (lcE (itE (tupE (argC (tupE (argC (cst (.int 0)) (argC (cst (.int 1)) argN))) (argC (tupE (argC (cst (.int 0)) (argC (cst (.int 2)) argN))) (argC (tupE (argC (cst (.int 1)) (argC (cst (.int 2)) argN))) argN))))) (.t [4, 5]) [4, 5] (tstB (bin ltD (var 5) (var 1))) (bin eqD (bin ixD (bin ixD (var 0) (var 4)) (var 5)) (bin ixD (bin ixD (var 0) (var 5)) (var 4)))) argN)))))
def f_are_form_rows : Fs := runB outP 6 1 b_are_form_rows
def b_Form_init : SS := seqS (ifS (notB (tstE (app f_are_form_rows (argC (var 1) argN)))) noS skS) (fldS 2 0 (var 0) (app tupleD (argC (lcE (itE (var 1)) (.n 2) [2] yesB (app tupleD (argC (var 2) argN))) argN)))
def f_Form_init : Fs := runB outP 3 2 b_Form_init
def b_minor_of (rec : Fs) : SS := seqS (ifS (tstB (bin eqD (app lenD (argC (var 0) argN)) (cst (.int 0)))) (retS (cst (.int 1))) skS) (seqS (setS (.t [1, 2]) (tupE (argC (cst (.int 0)) (argC (cst (.int 1)) argN)))) (seqS (forS (enumI (argC (bin ixD (var 0) (cst (.int 0))) argN)) (.t [3, 4]) (seqS (setS (.n 1) (bin addD (var 1) (bin mulD (bin mulD (var 2) (var 4)) (app rec (argC (lcE (itE (slE (var 0) (someO (cst (.int 1))) noO)) (.n 5) [5] yesB (bin addD (app tupleD (argC (slE (var 5) noO (someO (var 3))) argN)) (app tupleD (argC (slE (var 5) (someO (bin addD (var 3) (cst (.int 1)))) noO) argN)))) argN))))) (setS (.n 2) (bin subD (cst (.int 0)) (var 2))))) (retS (var 1))))
def f_minor_of : Nat → Fs
  | 0 => fun _ _ => none
  | n + 1 => runB outP 6 1 (b_minor_of (f_minor_of n))
def b_Form_determinant : SS := retS (app (f_minor_of 4) (argC (fldE 2 0 (var 0)) argN))
def f_Form_determinant : Fs := runB outP 1 1 b_Form_determinant
def b_Form_eq : SS := retS (andE (isiE (isC 2) (var 1)) (bin eqD (fldE 2 0 (var 0)) (fldE 2 0 (var 1))))
def f_Form_eq : Fs := runB outP 2 2 b_Form_eq
def b_between_of : SS := seqS (setS (.n 3) (cst (.int 0))) (seqS (forS (zipI (argC (var 1) (argC (var 0) argN))) (.t [4, 5]) (setS (.n 3) (bin addD (var 3) (bin mulD (var 4) (app sumD (argC (lcE (zipI (argC (var 5) (argC (var 2) argN))) (.t [6, 7]) [6, 7] yesB (bin mulD (var 6) (var 7))) argN)))))) (retS (var 3)))
def f_between_of : Fs := runB outP 8 3 b_between_of
def b_led_rows : SS := seqS (setS (.n 2) (lcE (rng1 (argC (app lenD (argC (var 0) argN)) argN)) (.n 4) [4] yesB (lcE (itE (var 1)) (.n 3) [3] yesB (bin ixD (var 3) (var 4))))) (retS (app tupleD (argC (lcE (itE (var 2)) (.n 6) [6] yesB (app tupleD (argC (lcE (itE (var 2)) (.n 5) [5] yesB (app f_between_of (argC (var 0) (argC (var 6) (argC (var 5) argN))))) argN))) argN)))
def f_led_rows : Fs := runB outP 7 2 b_led_rows
def b_Form_size : SS := retS (app lenD (argC (fldE 2 0 (var 0)) argN))
def f_Form_size : Fs := runB outP 1 1 b_Form_size
def b_want_same_size : SS := ifS (tstB (bin neD (altE (prpE 2 f_Form_size (var 0)) (prpE 1 f_Table_size (var 0))) (altE (prpE 2 f_Form_size (var 1)) (prpE 1 f_Table_size (var 1))))) noS skS
def f_want_same_size : Fs := runB outP 2 2 b_want_same_size
def b_Form_led : SS := seqS (dropS (app f_want_table (argC (var 1) argN))) (seqS (dropS (app f_want_same_size (argC (var 0) (argC (var 1) argN)))) (retS (app (makeV 2 1 f_Form_init) (argC (app f_led_rows (argC (fldE 2 0 (var 0)) (argC (fldE 1 0 (var 1)) argN))) argN))))
def f_Form_led : Fs := runB outP 2 2 b_Form_led
def b_Form_rows : SS := retS (fldE 2 0 (var 0))
def f_Form_rows : Fs := runB outP 1 1 b_Form_rows
def b_want_sized_row : SS := ifS (orB (notB (tstE (app f_is_list (argC (var 0) argN)))) (orB (tstB (bin neD (app lenD (argC (var 0) argN)) (var 1))) (notB (tstE (app allD (argC (lcE (itE (var 0)) (.n 2) [2] yesB (app f_is_integer (argC (var 2) argN))) argN)))))) noS skS
def f_want_sized_row : Fs := runB outP 3 2 b_want_sized_row
def b_worth_of : SS := retS (app f_between_of (argC (var 0) (argC (var 1) (argC (var 1) argN))))
def f_worth_of : Fs := runB outP 2 2 b_worth_of
def b_Form_worth : SS := seqS (dropS (app f_want_sized_row (argC (var 1) (argC (prpE 2 f_Form_size (var 0)) argN)))) (retS (app f_worth_of (argC (fldE 2 0 (var 0)) (argC (var 1) argN))))
def f_Form_worth : Fs := runB outP 2 2 b_Form_worth
def b_Form_repr : SS := retS (fstE "Form(" ")" (fldE 2 0 (var 0)))
def f_Form_repr : Fs := runB outP 1 1 b_Form_repr
def b_sum_form : SS := seqS (ifS (orB (notB (tstE (app f_is_integer (argC (var 0) argN)))) (notB (tstB (chnE leD leD (cst (.int 1)) (var 0) (cst (.int 3)))))) noS skS) (retS (app (makeV 2 1 f_Form_init) (argC (lcE (rng1 (argC (var 0) argN)) (.n 2) [2] yesB (lcE (rng1 (argC (var 0) argN)) (.n 1) [1] yesB (iteE (tstB (bin eqD (var 2) (var 1))) (cst (.int 1)) (cst (.int 0))))) argN)))
def f_sum_form : Fs := runB outP 3 1 b_sum_form
def b_Form_times : SS := seqS (ifS (notB (tstE (app f_is_integer (argC (var 1) argN)))) noS skS) (retS (app (makeV 2 1 f_Form_init) (argC (lcE (itE (fldE 2 0 (var 0))) (.n 3) [3] yesB (lcE (itE (var 3)) (.n 2) [2] yesB (bin mulD (var 1) (var 2)))) argN)))
def f_Form_times : Fs := runB outP 4 2 b_Form_times
def b_Form_between : SS := seqS (dropS (app f_want_sized_row (argC (var 1) (argC (prpE 2 f_Form_size (var 0)) argN)))) (seqS (dropS (app f_want_sized_row (argC (var 2) (argC (prpE 2 f_Form_size (var 0)) argN)))) (retS (app f_between_of (argC (fldE 2 0 (var 0)) (argC (var 1) (argC (var 2) argN))))))
def f_Form_between : Fs := runB outP 3 3 b_Form_between
def b_want_form : SS := ifS (notB (tstE (isiE (isC 2) (var 0)))) noS skS
def f_want_form : Fs := runB outP 1 1 b_want_form
def b_keeps : SS := seqS (dropS (app f_want_table (argC (var 0) argN))) (seqS (dropS (app f_want_form (argC (var 1) argN))) (seqS (dropS (app f_want_same_size (argC (var 0) (argC (var 1) argN)))) (retS (bin eqD (app f_led_rows (argC (prpE 2 f_Form_rows (var 1)) (argC (prpE 1 f_Table_rows (var 0)) argN))) (prpE 2 f_Form_rows (var 1))))))
def f_keeps : Fs := runB outP 2 2 b_keeps
end
end Tab

set_option Elab.async false
set_option linter.all false
set_option maxRecDepth 100000
set_option maxHeartbeats 8000000
set_option autoImplicit false
/-! KfB: forms: made, worths, led. -/
namespace Tab
open PySem L2 Kb
variable {m : Mem} {n i j k p q l w : Nat} {A B G P : List (List Int)} {r s v u : List Int} {x y : Int}

/-! ### forms -/
def FO (G : List (List Int)) : D := .obj 2 [TD G]
def sym (G : List (List Int)) : Prop := ∀ i j : Nat, i < G.length → j < G.length → (G.getD i []).getD j 0 = (G.getD j []).getD i 0
/-- rows of a form, n columns, numbers below 2 to the k -/
class Fm (n k : outParam Nat) (G : List (List Int)) : Prop where
  sz : Sz n G
  bd : Bd k G
  lo : 1 ≤ n
  hi : n ≤ 3
  sy : sym G
@[simp] theorem isOwn_FO : isOwn (FO G) = false := hid rfl
@[simp] theorem insD_FO : insD m (FO G) = some (2, [TD G]) := hid rfl
@[simp] theorem tyD_FO : tyD m (FO G) = some (.c 2) := hid rfl
@[simp] theorem below_FO : below k (FO G) = true := by
  show belows k [TD G] = true
  simp [belows]
theorem lenD_TF [a : Fm n k G] : lenD [TD G] m = some (.int (n : Int), m) := by
  show some (D.int ((G.map rowD).length : Nat), m) = _
  rw [List.length_map, a.sz.1]
theorem q_frows : f_Form_rows [FO G] m = some (TD G, m) := by
  refine run_p rfl ?_
  simp [b_Form_rows]
theorem q_fsize [a : Fm n k G] : f_Form_size [FO G] m = some (.int (n : Int), m) := by
  refine run_p rfl ?_
  simp [b_Form_size, lenD_TF]
theorem q_feq : f_Form_eq [FO G, FO A] m = some (.bl (decide (G = A)), m) := by
  refine run_p rfl ?_
  simp [b_Form_eq, isC]
theorem q_wantform : f_want_form [FO G] m = some (.non, m) := by
  refine run_pn (env := [some (FO G)]) rfl ?_
  simp [b_want_form, isC]
/-- alike about the middle line -/
theorem F2.get {α β : Type} {P : α → β → Prop} : ∀ {as : List α} {bs : List β}, F2 P as bs → ∀ (i : Nat) (b : β), bs[i]? = some b → ∃ a, as[i]? = some a ∧ P a b
  | [], [], _, _, _, h => nomatch h
  | a :: as, b :: bs, h, 0, c, e => by
    cases e
    exact ⟨a, rfl, h.1⟩
  | a :: as, b :: bs, h, i + 1, c, e => F2.get h.2 i c e
theorem at_row {d : D} {ds : List D} (hd : Sq m d ds) (hr : SqR m ds G) [a : Fm n k G] (hi : i < n) (hj : j < n) : ∃ e, ixD d (.int (i : Int)) m = some (e, m) ∧ ixD e (.int (j : Int)) m = some (.int ((G.getD i []).getD j 0), m) := by
  have hl := a.sz.1
  have h1 : i < G.length := by omega
  have e1 : G[i]? = some G[i] := List.getElem?_eq_getElem h1
  obtain ⟨e, he, se⟩ := F2.get hr i _ e1
  refine ⟨e, hd.ix i e he, ?_⟩
  have h2 : j < G[i].length := by rw [a.sz.2 _ (List.getElem_mem h1)]; omega
  have e2 : G.getD i [] = G[i] := by simp [h1]
  have e3 : G[i].getD j 0 = G[i][j] := by simp [h2]
  rw [e2, e3]
  exact se.ix j _ (by rw [List.getElem?_map, List.getElem?_eq_getElem h2]; rfl)
theorem are_form {d : D} {ds : List D} (hd : Sq m d ds) (hr : SqR m ds G) [a : Fm n k G] : f_are_form_rows [d] m = some (.bl true, m) := by
  have ho := hd.own
  have hle : ds.length = G.length := F2.len hr
  have hln := hd.len
  have hA := a.sz
  rw [hle, hA.1] at hln
  have h1 : (1 : Int) ≤ (n : Int) := by have := a.lo; omega
  have h3 : (n : Int) ≤ 3 := by have := a.hi; omega
  have hn := a.lo
  have hn3 := a.hi
  refine run_p rfl ?_
  obtain ⟨env', e, o, rfl⟩ := forWt_inv (m := m) (w := watD m d) (xs := ds) (put := (Tg.n 2).put) (body := ifS (orB (notB (tstE (app f_is_list (argC (var 2) argN)))) (orB (tstB (Kb.bin neD (app lenD (argC (var 2) argN)) (var 1))) (notB (tstE (app allD (argC (lcE (itE (var 2)) (.n 3) [3] yesB (app f_is_integer (argC (var 3) argN))) argN)))))) (retS (cst (.bl false))) skS)
    (fun env => ∃ o, env = [some d, some (.int (n : Int)), o, none, none, none]) hd.grd ds [some d, some (.int (n : Int)), none, none, none, none] ⟨none, rfl⟩ fun x hx env ⟨o, ee⟩ => by
      subst ee
      obtain ⟨r, hr2, sx⟩ := F2.mem hr x hx
      have hl : r.length = n := hA.2 r hr2
      have hl2 : n ≤ 100000 := by omega
      have hlnx := sx.len
      rw [List.length_map, hl] at hlnx
      have lc : lcWt (watD m x) (r.map D.int) (Tg.n 3).put yesB (app f_is_integer (argC (var 3) argN)) [some d, some (.int (n : Int)), some x, none, none, none] (r.map D.int) m = some ((r.map fun _ => true).map D.bl, m) := by
        refine lcWt_of sx.grd _ _ ?_
        clear hlnx hl sx hr2
        induction r with
        | nil => trivial
        | cons z r ih => exact ⟨⟨_, rfl, by simp [isint_int]⟩, ih⟩
      exact ⟨[some d, some (.int (n : Int)), some x, none, none, none], [some d, some (.int (n : Int)), some x, none, none, none], rfl, .inl (by simp [sx.own, sx.lst, hlnx, sx.it, lc, hl, hl2, allD_bls, -List.map_map]), some x, rfl⟩
  have hs : ∀ i j : Nat, i < n → j < n → (G.getD i []).getD j 0 = (G.getD j []).getD i 0 := fun i j hi hj => a.sy i j (by rw [hA.1]; exact hi) (by rw [hA.1]; exact hj)
  have al0 : allD [D.lst []] m = some (.bl true, m) := rfl
  have al1 : allD [D.lst [.bl true]] m = some (.bl true, m) := rfl
  have al3 : allD [D.lst [.bl true, .bl true, .bl true]] m = some (.bl true, m) := rfl
  have cell : ∀ i j : Nat, i < n → j < n → ∃ e0 e1 z, ixD d (.int (i : Int)) m = some (e0, m) ∧ ixD e0 (.int (j : Int)) m = some (.int z, m) ∧ ixD d (.int (j : Int)) m = some (e1, m) ∧ ixD e1 (.int (i : Int)) m = some (.int z, m) := fun i j hi hj => by
    obtain ⟨e0, x0, x1⟩ := at_row hd hr hi hj
    obtain ⟨e1, y0, y1⟩ := at_row hd hr hj hi
    rw [← hs i j hi hj] at y1
    exact ⟨e0, e1, _, x0, x1, y0, y1⟩
  have : n = 1 ∨ n = 2 ∨ n = 3 := by omega
  rcases this with h | h | h
  · have c1 : ((1 : Int) < (n : Int)) = False := eq_false (by omega)
    have c2 : ((2 : Int) < (n : Int)) = False := eq_false (by omega)
    have d1 : (1 < n) = False := eq_false (by omega)
    have d2 : (2 < n) = False := eq_false (by omega)
    simp [b_are_form_rows, ho, hd.lst, hln, h1, h3, hn, hn3, hd.it, e, lcL_cons, lcL_nil, c1, c2, d1, d2, al0]
  · have c1 : ((1 : Int) < (n : Int)) = True := eq_true (by omega)
    have c2 : ((2 : Int) < (n : Int)) = False := eq_false (by omega)
    have d1 : (1 < n) = True := eq_true (by omega)
    have d2 : (2 < n) = False := eq_false (by omega)
    obtain ⟨e0, e1, z, x0, x1, y0, y1⟩ := cell 0 1 (by omega) (by omega)
    have x0 : ixD d (.int 0) m = some (e0, m) := x0
    have x1 : ixD e0 (.int 1) m = some (.int z, m) := x1
    have y0 : ixD d (.int 1) m = some (e1, m) := y0
    have y1 : ixD e1 (.int 0) m = some (.int z, m) := y1
    simp [b_are_form_rows, ho, hd.lst, hln, h1, h3, hn, hn3, hd.it, e, lcL_cons, lcL_nil, c1, c2, d1, d2, x0, x1, y0, y1, al1]
  · have c1 : ((1 : Int) < (n : Int)) = True := eq_true (by omega)
    have c2 : ((2 : Int) < (n : Int)) = True := eq_true (by omega)
    have d1 : (1 < n) = True := eq_true (by omega)
    have d2 : (2 < n) = True := eq_true (by omega)
    obtain ⟨e0, e1, z, x0, x1, y0, y1⟩ := cell 0 1 (by omega) (by omega)
    obtain ⟨e0', e2, z2, x0', x2, w0, w1⟩ := cell 0 2 (by omega) (by omega)
    obtain ⟨e1', e2', z3, y0', y2, w0', w2⟩ := cell 1 2 (by omega) (by omega)
    have x0 : ixD d (.int 0) m = some (e0, m) := x0
    have x1 : ixD e0 (.int 1) m = some (.int z, m) := x1
    have y0 : ixD d (.int 1) m = some (e1, m) := y0
    have y1 : ixD e1 (.int 0) m = some (.int z, m) := y1
    have x0' : ixD d (.int 0) m = some (e0', m) := x0'
    have y0' : ixD d (.int 1) m = some (e1', m) := y0'
    have w0 : ixD d (.int 2) m = some (e2, m) := w0
    have w0' : ixD d (.int 2) m = some (e2', m) := w0'
    rw [x0] at x0'
    cases x0'
    rw [y0] at y0'
    cases y0'
    rw [w0] at w0'
    cases w0'
    have x2 : ixD e0 (.int 2) m = some (.int z2, m) := x2
    have w1 : ixD e2 (.int 0) m = some (.int z2, m) := w1
    have y2 : ixD e1 (.int 2) m = some (.int z3, m) := y2
    have w2 : ixD e2 (.int 1) m = some (.int z3, m) := w2
    simp [b_are_form_rows, ho, hd.lst, hln, h1, h3, hn, hn3, hd.it, e, lcL_cons, lcL_nil, c1, c2, d1, d2, x0, x1, x2, y0, y1, y2, w0, w1, w2, al3]
/-! ### made -/
theorem q_fnewG {d : D} (ho : isOwn d = false) (h : ∀ J : List Cell, ∃ ds, Sq (m ++ J) d ds ∧ SqR (m ++ J) ds G) [a : Fm n k G] : makeV 2 1 f_Form_init [d] m = some (FO G, m) := by
  refine mk_two (by simp [belows]) rfl ?_
  obtain ⟨ds, hd, hr⟩ := h [.ins 2 []]
  have af := are_form hd hr
  have c : ∀ o : Option D, lcWt (watD (m ++ [.ins 2 []]) d) ds (Tg.n 2).put yesB (app tupleD (argC (var 2) argN)) [some (.loc m.length), some d, none] ds (m ++ [.ins 2 []]) = some (G.map RD, m ++ [.ins 2 []]) := fun _ => by
    refine lcWt_of hd.grd _ _ ?_
    have key : ∀ (ds : List D) (A : List (List Int)), SqR (m ++ [.ins 2 []]) ds A → F2 (fun x y => ∃ env1, (Tg.n 2).put x [some (.loc m.length), some d, none] = some env1 ∧ app tupleD (argC (var 2) argN) env1 (m ++ [.ins 2 []]) = some (y, m ++ [.ins 2 []])) ds (A.map RD) := by
      intro ds
      induction ds with
      | nil => intro A h; cases A with
        | nil => trivial
        | cons _ _ => exact h.elim
      | cons x xs ih => intro A h; cases A with
        | nil => exact h.elim
        | cons r A =>
          have hx := h.1
          have hx2 := hx.tup
          rw [tup_ints] at hx2
          exact ⟨⟨_, rfl, by simp [hx.own, hx2]⟩, ih A h.2⟩
    exact key ds G hr
  have c := c none
  have hl : G.length ≤ 100000 := by have := a.sz.1; have := a.hi; omega
  refine run_pn (env := [some (.loc m.length), some d, none]) rfl ?_ (by simp)
  simp [b_Form_init, ho, af, hd.it, c, hl, putC_last]
theorem rows_sq {f : List Int → D} (hf : Rf f) : ∀ G : List (List Int), SqR m (G.map f) G
  | [] => trivial
  | r :: G => ⟨by
    rcases hf with rfl | rfl
    · exact sq_tup
    · exact sq_lst, rows_sq hf G⟩
theorem q_fnewT [a : Fm n k G] : makeV 2 1 f_Form_init [TD G] m = some (FO G, m) := q_fnewG rfl fun J => ⟨G.map RD, sq_tup, rows_sq (.inl rfl) G⟩
theorem q_fnewL [a : Fm n k G] : makeV 2 1 f_Form_init [LLD G] m = some (FO G, m) := q_fnewG rfl fun J => ⟨G.map LD, sq_lst, rows_sq (.inr rfl) G⟩
theorem q_fnewN {ls : List Nat} (h : NestL m ls G) [a : Fm n k G] : makeV 2 1 f_Form_init [.lst (ls.map D.loc)] m = some (FO G, m) := q_fnewG rfl fun J => ⟨ls.map D.loc, sq_lst, (h.app J).sq⟩
/-! ### worths -/
def btw (G : List (List Int)) (r s : List Int) : Int := (List.zipWith (fun x row => x * dotL row s) r G).sum
theorem zip_nr : ∀ (r : List Int) (G : List (List Int)), zipDD (r.map D.int) (G.map RD) = (List.zip r G).map fun p => D.tup [.int p.1, RD p.2]
  | [], _ => rfl
  | _ :: _, [] => rfl
  | x :: r, g :: G => congrArg (D.tup [.int x, RD g] :: ·) (zip_nr r G)
theorem btw_loop {R S : D} {K : Nat} (hS : frzD m S = some (s.map D.int, m)) (oS : isOwn S = false) (hs : ∀ x ∈ s, Sm K x) (hK : K ≤ 4000) : ∀ (ps : List (Int × List Int)) (t : Int) (o4 o5 o6 o7 : Option D), (∀ p ∈ ps, Sm K p.1 ∧ (∀ x ∈ p.2, Sm K x) ∧ p.2.length ≤ 3) →
    ∃ o4' o5' o6' o7', forL (Tg.t [4, 5]).put (setS (.n 3) (Kb.bin addD (var 3) (Kb.bin mulD (var 4) (app sumD (argC (lcE (zipI (argC (var 5) (argC (var 2) argN))) (.t [6, 7]) [6, 7] yesB (Kb.bin mulD (var 6) (var 7))) argN))))) (ps.map fun p => D.tup [.int p.1, RD p.2])
      [some (TD G), R, some S, some (.int t), o4, o5, o6, o7] m = some (.nx [some (TD G), R, some S, some (.int (t + (ps.map fun p => p.1 * dotL p.2 s).sum)), o4', o5', o6', o7'] m)
  | [], t, o4, o5, o6, o7, _ => ⟨o4, o5, o6, o7, by simp⟩
  | p :: ps, t, o4, o5, o6, o7, hp => by
    obtain ⟨p1, p2, p3⟩ := hp p List.mem_cons_self
    obtain ⟨a4, a5, a6, a7, ih⟩ := btw_loop hS oS hs hK ps (t + p.1 * dotL p.2 s) (some (.int p.1)) (some (RD p.2)) o6 o7 fun z hz => hp z (List.mem_cons_of_mem _ hz)
    refine ⟨a4, a5, a6, a7, ?_⟩
    obtain ⟨x, row⟩ := p
    have key := dot_lc (m := m) (env0 := [some (TD G), R, some S, some (.int t), some (.int x), some (RD row), none, none]) (e := Kb.bin mulD (var 6) (var 7)) (is := [6, 7]) (r := row) (s := s) (fun z hz => (p2 z hz).mono hK) (fun z hz => (hs z hz).mono hK) fun a b ha hb => ⟨_, rfl, by simp [mulD_sm ha hb]⟩
    have hl2 : (List.zipWith (· * ·) row s).length ≤ 100000 := by
      rw [List.length_zipWith]
      have : row.length ≤ 3 := p3
      omega
    have sm := sumD_ints (m := m) (ns := List.zipWith (· * ·) row s)
    rw [lst_ints] at sm
    have ds := dot_sm (j := K) (k := K) p3 p2 hs
    have mu := mulD_sm (m := m) p1 ds (by omega)
    have dd : (List.zipWith (· * ·) row s).sum = dotL row s := rfl
    rw [dd] at sm
    rw [List.map_cons, forL_cons]
    have st : (setS (.n 3) (Kb.bin addD (var 3) (Kb.bin mulD (var 4) (app sumD (argC (lcE (zipI (argC (var 5) (argC (var 2) argN))) (.t [6, 7]) [6, 7] yesB (Kb.bin mulD (var 6) (var 7))) argN))))) [some (TD G), R, some S, some (.int t), some (.int x), some (RD row), o6, o7] m = some (.nx [some (TD G), R, some S, some (.int (t + x * dotL row s)), some (.int x), some (RD row), o6, o7] m) := by
      simp [oS, hS, key, hl2, sm, mu, -List.length_zipWith, -List.map_zipWith]
    show ((setS (.n 3) _) [some (TD G), R, some S, some (.int t), some (.int x), some (RD row), o6, o7] m).bind _ = _
    rw [st]
    rw [List.map_cons, List.sum_cons, ← Int.add_assoc]
    exact ih
theorem q_btw0 {R S : D} {K : Nat} (hR : frzD m R = some (r.map D.int, m)) (oR : isOwn R = false) (hS : frzD m S = some (s.map D.int, m)) (oS : isOwn S = false) (hA : Sz n G) (hn : n ≤ 3) (hG : Bd K G) (hr : ∀ x ∈ r, Sm K x) (hs : ∀ x ∈ s, Sm K x) (hK : K ≤ 4000) : f_between_of [TD G, R, S] m = some (.int (btw G r s), m) := by
  obtain ⟨o4, o5, o6, o7, h⟩ := btw_loop (m := m) (G := G) (R := R) hS oS hs hK (List.zip r G) 0 none none none none fun p hp => by
    obtain ⟨h1, h2⟩ := List.of_mem_zip hp
    exact ⟨hr _ h1, hG _ h2, by rw [hA.2 _ h2]; exact hn⟩
  have e : ((List.zip r G).map fun p => p.1 * dotL p.2 s).sum = btw G r s := by
    unfold btw
    rw [List.zip, List.map_zipWith]
  rw [Int.zero_add, e] at h
  refine run_p rfl ?_
  simp [b_between_of, oR, hR, zip_nr, h]
theorem q_worth0 {R : D} {K : Nat} (hR : frzD m R = some (r.map D.int, m)) (oR : isOwn R = false) (hA : Sz n G) (hn : n ≤ 3) (hG : Bd K G) (hr : ∀ x ∈ r, Sm K x) (hK : K ≤ 4000) : f_worth_of [TD G, R] m = some (.int (btw G r r), m) := by
  have h := q_btw0 hR oR hR oR hA hn hG hr hr hK
  refine run_p rfl ?_
  simp [b_worth_of, oR, h]
theorem q_wantsized {t : D} (ht : Sq m t (r.map D.int)) (hl : r.length = n) (hn : n ≤ 100000) : f_want_sized_row [t, .int (n : Int)] m = some (.non, m) := by
  have ho := ht.own
  have hln := ht.len
  rw [List.length_map, hl] at hln
  have lc : lcWt (watD m t) (r.map D.int) (Tg.n 2).put yesB (app f_is_integer (argC (var 2) argN)) [some t, some (.int (n : Int)), none] (r.map D.int) m = some ((r.map fun _ => true).map D.bl, m) := by
    refine lcWt_of ht.grd _ _ ?_
    clear hln hl ht
    induction r with
    | nil => trivial
    | cons z r ih => exact ⟨⟨_, rfl, by simp [isint_int]⟩, ih⟩
  refine run_pn (env := [some t, some (.int (n : Int)), none]) rfl ?_
  simp [b_want_sized_row, ho, ht.lst, hln, ht.it, lc, hl, hn, allD_bls, -List.map_map]
/-- a row as it is handed in: a tuple or a list that does not change -/
structure Rv (m : Mem) (t : D) (r : List Int) : Prop where
  sq : Sq m t (r.map D.int)
  fz : frzD m t = some (r.map D.int, m)
theorem rv_RD : Rv m (RD r) r := ⟨sq_tup, rfl⟩
theorem rv_LD : Rv m (LD r) r := ⟨sq_lst, rfl⟩
theorem q_worth {t : D} (ht : Rv m t r) [a : Fm n k G] [b : Vc n j r] (hk : k ≤ 4000) (hj : j ≤ 4000) : f_Form_worth [FO G, t] m = some (.int (btw G r r), m) := by
  have ho := ht.sq.own
  have w := q_wantsized ht.sq b.len (by have := a.hi; omega)
  have h := q_worth0 (K := 4000) ht.fz ho a.sz a.hi (a.bd.mono hk) (fun x hx => (b.bd x hx).mono hj) (by decide)
  refine run_p rfl ?_
  simp [b_Form_worth, ho, q_fsize, w, h]
theorem q_between {t t' : D} (ht : Rv m t r) (ht' : Rv m t' s) [a : Fm n k G] [b : Vc n j r] [c : Vc n l s] (hk : k ≤ 4000) (hj : j ≤ 4000) (hl : l ≤ 4000) : f_Form_between [FO G, t, t'] m = some (.int (btw G r s), m) := by
  have ho := ht.sq.own
  have ho' := ht'.sq.own
  have w := q_wantsized ht.sq b.len (by have := a.hi; omega)
  have w' := q_wantsized ht'.sq c.len (by have := a.hi; omega)
  have h := q_btw0 (K := 4000) ht.fz ho ht'.fz ho' a.sz a.hi (a.bd.mono hk) (fun x hx => (b.bd x hx).mono hj) (fun x hx => (c.bd x hx).mono hl) (by decide)
  refine run_p rfl ?_
  simp [b_Form_between, ho, ho', q_fsize, w, w', h]

/-! ### led -/
def ledL (G P : List (List Int)) : List (List Int) := (colsL P).map fun c => (colsL P).map fun d => btw G c d
theorem led_sz (hP : Sz n P) : Sz n (ledL G P) := by
  refine ⟨by unfold ledL; rw [List.length_map, cols_len]; exact hP.1, fun r hr => ?_⟩
  obtain ⟨c, _, rfl⟩ := List.mem_map.mp hr
  rw [List.length_map, cols_len]
  exact hP.1
theorem q_ledrows (hG : Sz n G) (hP : Sz n P) (hn : n ≤ 3) (bG : Bd 4000 G) (bP : Bd 4000 P) : f_led_rows [TD G, TD P] m = some (TD (ledL G P), m) := by
  have hl : G.length ≤ 100000 := by have := hG.1; omega
  have hlP : P.length ≤ 100000 := by have := hP.1; omega
  have hl2 : (colsL P).length ≤ 100000 := by rw [cols_len, hP.1]; omega
  have c1 : ∀ j : Nat, j < n → lcL (Tg.n 3).put yesB (Kb.bin ixD (var 3) (var 4)) [some (TD G), some (TD P), none, none, some (.int (j : Int)), none, none] (P.map RD) m = some ((P.map fun r => r.getD j 0).map D.int, m) := by
    intro j hj
    rw [List.map_map]
    refine lcL_of RD _ P fun r hr => ⟨_, rfl, rfl, ?_⟩
    have hl : j < r.length := by rw [hP.2 r hr]; exact hj
    have e : ixD (RD r) (.int (j : Int)) m = some (.int (r.getD j 0), m) := by
      show (atI (r.map D.int) (j : Int)).map (fun d => (d, m)) = _
      rw [at_nat (d := .int (r.getD j 0)) (by simp [hl])]
      rfl
    simp [e]
  have c2 : lcL (Tg.n 4).put yesB (lcE (itE (var 1)) (.n 3) [3] yesB (Kb.bin ixD (var 3) (var 4))) [some (TD G), some (TD P), none, none, none, none, none] ((List.range n).map fun (j : Nat) => D.int (j : Int)) m = some ((colsL P).map LD, m) := by
    unfold colsL
    rw [List.map_map, hP.1]
    refine lcL_of (fun (j : Nat) => D.int (j : Int)) _ (List.range n) fun j hj => ⟨_, rfl, rfl, ?_⟩
    have hj' : j < n := List.mem_range.mp hj
    simp [c1 j hj', hlP, -List.map_map, -List.getD_eq_getElem?_getD]
  have hr : rng1 (argC (app lenD (argC (var 0) argN)) argN) [some (TD G), some (TD P), none, none, none, none, none] m = some ((List.range n).map fun (j : Nat) => D.int (j : Int), m) := by
    refine rng1_nat ?_ (by omega)
    have e : lenD [TD G] m = some (.int (n : Int), m) := by
      show some (D.int ((G.map rowD).length : Nat), m) = _
      rw [List.length_map, hG.1]
    simp [e]
  have cb := cols_bd hP bP
  have in1 : ∀ c ∈ colsL P, lcL (Tg.n 5).put yesB (app f_between_of (argC (var 0) (argC (var 6) (argC (var 5) argN)))) [some (TD G), some (TD P), some (.lst ((colsL P).map LD)), none, none, none, some (LD c)] ((colsL P).map LD) m = some (((colsL P).map fun d => btw G c d).map D.int, m) := by
    intro c hc
    rw [List.map_map]
    refine lcL_of LD _ (colsL P) fun d hd => ⟨_, rfl, rfl, ?_⟩
    have b := q_btw0 (m := m) (K := 4000) (R := LD c) (S := LD d) (r := c) (s := d) rfl rfl rfl rfl hG hn bG (cb c hc) (cb d hd) (by decide)
    simp [b]
  have out : lcL (Tg.n 6).put yesB (app tupleD (argC (lcE (itE (var 2)) (.n 5) [5] yesB (app f_between_of (argC (var 0) (argC (var 6) (argC (var 5) argN))))) argN)) [some (TD G), some (TD P), some (.lst ((colsL P).map LD)), none, none, none, none] ((colsL P).map LD) m = some ((ledL G P).map RD, m) := by
    unfold ledL
    rw [List.map_map]
    refine lcL_of LD _ (colsL P) fun c hc => ⟨_, rfl, rfl, ?_⟩
    simp [in1 c hc, hl2, -List.map_map]
  have hl3 : (ledL G P).length ≤ 100000 := by rw [(led_sz hP).1]; omega
  have hn5 : n ≤ 100000 := by omega
  refine run_p rfl ?_
  simp [b_led_rows, hr, c2, hl2, hn5, out, hl3, -List.map_map]
theorem q_same [a : Fm n k G] [t : Tb n j P] : f_want_same_size [FO G, TO P] m = some (.non, m) ∧ f_want_same_size [TO P, FO G] m = some (.non, m) := by
  refine ⟨run_pn (env := [some (FO G), some (TO P)]) rfl ?_, run_pn (env := [some (TO P), some (FO G)]) rfl ?_⟩
  · simp [b_want_same_size, q_fsize, q_size]
  · simp [b_want_same_size, q_fsize, q_size]
theorem q_keeps [a : Fm n k G] [t : Tb n j P] (hk : k ≤ 4000) (hj : j ≤ 4000) : f_keeps [TO P, FO G] m = some (.bl (decide (ledL G P = G)), m) := by
  have h := q_ledrows (m := m) a.sz t.sz a.hi (a.bd.mono hk) (t.bd.mono hj)
  refine run_p rfl ?_
  simp [b_keeps, q_want, q_wantform, q_same, q_frows, q_rows, h]
end Tab

set_option Elab.async false
set_option linter.all false
set_option maxRecDepth 100000
set_option maxHeartbeats 8000000
set_option autoImplicit false
/-! KgA: forms in plain lists: led, summed, multiplied, kept. -/
namespace Tab
open PySem L2 Kb
variable {m : Mem} {n i j k p q l w : Nat} {A B G H P Q : List (List Int)} {r s v u : List Int} {x y c : Int}

theorem sm_zero (k : Nat) : Sm k 0 := by
  unfold Sm
  exact Nat.two_pow_pos _
theorem size3 (h1 : 1 ≤ n) (h3 : n ≤ 3) : n = 1 ∨ n = 2 ∨ n = 3 := by omega
/-- the form led by a product of rows: P' G P -/
theorem led_mul (hG : Sz n G) (hP : Sz n P) (h1 : 1 ≤ n) (h3 : n ≤ 3) : mulL (mulL (colsL P) G) P = ledL G P := by
  rcases size3 h1 h3 with rfl | rfl | rfl
  · obtain ⟨a, rfl⟩ := sz1 hG
    obtain ⟨b, rfl⟩ := sz1 hP
    simp [mulL, colsL, ledL, btw, dotL]
    grind
  · obtain ⟨a, b, c, d, rfl⟩ := sz2 hG
    obtain ⟨e, f, g, h, rfl⟩ := sz2 hP
    simp [mulL, colsL, ledL, btw, dotL, show List.range 2 = [0, 1] from rfl]
    grind
  · obtain ⟨a, b, c, d, e, f, g, h, i, rfl⟩ := sz3 hG
    obtain ⟨a', b', c', d', e', f', g', h', i', rfl⟩ := sz3 hP
    simp [mulL, colsL, ledL, btw, dotL, show List.range 3 = [0, 1, 2] from rfl]
    grind
theorem cols_sz (hP : Sz n P) : Sz n (colsL P) := by
  refine ⟨by rw [cols_len]; exact hP.1, fun r hr => ?_⟩
  unfold colsL at hr
  obtain ⟨i, _, rfl⟩ := List.mem_map.mp hr
  rw [List.length_map]
  exact hP.1
theorem cols_cols (hP : Sz n P) (h1 : 1 ≤ n) (h3 : n ≤ 3) : colsL (colsL P) = P := by
  rcases size3 h1 h3 with rfl | rfl | rfl
  · obtain ⟨b, rfl⟩ := sz1 hP
    rfl
  · obtain ⟨e, f, g, h, rfl⟩ := sz2 hP
    rfl
  · obtain ⟨a', b', c', d', e', f', g', h', i', rfl⟩ := sz3 hP
    rfl
theorem cols_mul (hP : Sz n P) (hQ : Sz n Q) (h1 : 1 ≤ n) (h3 : n ≤ 3) : colsL (mulL P Q) = mulL (colsL Q) (colsL P) := by
  rcases size3 h1 h3 with rfl | rfl | rfl
  · obtain ⟨a, rfl⟩ := sz1 hP
    obtain ⟨b, rfl⟩ := sz1 hQ
    simp [mulL, colsL, dotL]
    grind
  · obtain ⟨a, b, c, d, rfl⟩ := sz2 hP
    obtain ⟨e, f, g, h, rfl⟩ := sz2 hQ
    simp [mulL, colsL, dotL, show List.range 2 = [0, 1] from rfl]
    grind
  · obtain ⟨a, b, c, d, e, f, g, h, i, rfl⟩ := sz3 hP
    obtain ⟨a', b', c', d', e', f', g', h', i', rfl⟩ := sz3 hQ
    simp [mulL, colsL, dotL, show List.range 3 = [0, 1, 2] from rfl]
    grind
theorem led_led (hG : Sz n G) (hP : Sz n P) (hQ : Sz n Q) (h1 : 1 ≤ n) (h3 : n ≤ 3) : ledL (ledL G P) Q = ledL G (mulL P Q) := by
  have cP := cols_sz hP
  have cQ := cols_sz hQ
  rw [← led_mul (led_sz hP) hQ h1 h3, ← led_mul hG (mul_sz hP hQ) h1 h3, ← led_mul hG hP h1 h3, cols_mul hP hQ h1 h3]
  rw [mul_assoc cQ (mul_sz (mul_sz cP hG) hP) hQ h1 h3, mul_assoc (mul_sz cP hG) hP hQ h1 h3, mul_assoc cQ cP hG h1 h3, mul_assoc cQ (mul_sz cP hG) (mul_sz hP hQ) h1 h3]
theorem led_id (hG : Sz n G) (h1 : 1 ≤ n) (h3 : n ≤ 3) : ledL G (idL n) = G := by
  rcases size3 h1 h3 with rfl | rfl | rfl
  · obtain ⟨a, rfl⟩ := sz1 hG
    simp [idL, colsL, ledL, btw, dotL]
  · obtain ⟨a, b, c, d, rfl⟩ := sz2 hG
    simp [idL, colsL, ledL, btw, dotL, show List.range 2 = [0, 1] from rfl]
  · obtain ⟨a, b, c, d, e, f, g, h, i, rfl⟩ := sz3 hG
    simp [idL, colsL, ledL, btw, dotL, show List.range 3 = [0, 1, 2] from rfl]
/-- forms added, multiplied -/
def addF (G H : List (List Int)) : List (List Int) := List.zipWith (fun r s => List.zipWith (fun x y => x + y) r s) G H
def mulF (c : Int) (G : List (List Int)) : List (List Int) := G.map fun r => r.map fun x => c * x
theorem addF_sz (hG : Sz n G) (hH : Sz n H) : Sz n (addF G H) := by
  refine ⟨by unfold addF; rw [List.length_zipWith, hG.1, hH.1, Nat.min_self], fun r hr => ?_⟩
  unfold addF at hr
  obtain ⟨i, hi, e⟩ := List.mem_iff_getElem.mp hr
  rw [List.getElem_zipWith] at e
  rw [List.length_zipWith] at hi
  rw [← e, List.length_zipWith, hG.2 _ (List.getElem_mem (by omega)), hH.2 _ (List.getElem_mem (by omega)), Nat.min_self]
theorem mulF_sz (hG : Sz n G) : Sz n (mulF c G) := by
  refine ⟨by unfold mulF; rw [List.length_map, hG.1], fun r hr => ?_⟩
  obtain ⟨s, hs, rfl⟩ := List.mem_map.mp hr
  rw [List.length_map, hG.2 s hs]
theorem addF_bd (hG : Bd k G) (hH : Bd k H) : Bd (k + 1) (addF G H) := fun r hr x hx => by
  unfold addF at hr
  obtain ⟨i, hi, e⟩ := List.mem_iff_getElem.mp hr
  rw [List.getElem_zipWith] at e
  rw [List.length_zipWith] at hi
  rw [← e] at hx
  obtain ⟨j, hj, e2⟩ := List.mem_iff_getElem.mp hx
  rw [List.getElem_zipWith] at e2
  rw [List.length_zipWith] at hj
  rw [← e2]
  exact (hG _ (List.getElem_mem (by omega)) _ (List.getElem_mem (by omega))).add (hH _ (List.getElem_mem (by omega)) _ (List.getElem_mem (by omega)))
theorem led_add (hG : Sz n G) (hH : Sz n H) (hP : Sz n P) (h1 : 1 ≤ n) (h3 : n ≤ 3) : ledL (addF G H) P = addF (ledL G P) (ledL H P) := by
  rcases size3 h1 h3 with rfl | rfl | rfl
  · obtain ⟨a, rfl⟩ := sz1 hG
    obtain ⟨b, rfl⟩ := sz1 hP
    obtain ⟨c, rfl⟩ := sz1 hH
    simp [addF, colsL, ledL, btw, dotL]
    grind
  · obtain ⟨a, b, c, d, rfl⟩ := sz2 hG
    obtain ⟨e, f, g, h, rfl⟩ := sz2 hP
    obtain ⟨e', f', g', h', rfl⟩ := sz2 hH
    simp [addF, colsL, ledL, btw, dotL, show List.range 2 = [0, 1] from rfl]
    grind
  · obtain ⟨a, b, c, d, e, f, g, h, i, rfl⟩ := sz3 hG
    obtain ⟨a', b', c', d', e', f', g', h', i', rfl⟩ := sz3 hP
    obtain ⟨a1, b1, c1, d1, e1, f1, g1, h1, i1, rfl⟩ := sz3 hH
    simp [addF, colsL, ledL, btw, dotL, show List.range 3 = [0, 1, 2] from rfl]
    grind
theorem led_times (hG : Sz n G) (hP : Sz n P) (h1 : 1 ≤ n) (h3 : n ≤ 3) : ledL (mulF c G) P = mulF c (ledL G P) := by
  rcases size3 h1 h3 with rfl | rfl | rfl
  · obtain ⟨a, rfl⟩ := sz1 hG
    obtain ⟨b, rfl⟩ := sz1 hP
    simp [mulF, colsL, ledL, btw, dotL]
    grind
  · obtain ⟨a, b, c, d, rfl⟩ := sz2 hG
    obtain ⟨e, f, g, h, rfl⟩ := sz2 hP
    simp [mulF, colsL, ledL, btw, dotL, show List.range 2 = [0, 1] from rfl]
    grind
  · obtain ⟨a, b, c, d, e, f, g, h, i, rfl⟩ := sz3 hG
    obtain ⟨a', b', c', d', e', f', g', h', i', rfl⟩ := sz3 hP
    simp [mulF, colsL, ledL, btw, dotL, show List.range 3 = [0, 1, 2] from rfl]
    grind
theorem addF_comm (hG : Sz n G) (hH : Sz n H) (h1 : 1 ≤ n) (h3 : n ≤ 3) : addF G H = addF H G := by
  rcases size3 h1 h3 with rfl | rfl | rfl
  · obtain ⟨a, rfl⟩ := sz1 hG
    obtain ⟨c, rfl⟩ := sz1 hH
    simp [addF]
    omega
  · obtain ⟨a, b, c, d, rfl⟩ := sz2 hG
    obtain ⟨e', f', g', h', rfl⟩ := sz2 hH
    simp [addF]
    omega
  · obtain ⟨a, b, c, d, e, f, g, h, i, rfl⟩ := sz3 hG
    obtain ⟨a1, b1, c1, d1, e1, f1, g1, h1, i1, rfl⟩ := sz3 hH
    simp [addF]
    omega
def zeroF (n : Nat) : List (List Int) := List.replicate n (List.replicate n 0)
theorem zeroF_sz (n : Nat) : Sz n (zeroF n) := ⟨by simp [zeroF], fun r hr => by rw [List.eq_of_mem_replicate hr]; simp⟩
theorem addF_zero (hG : Sz n G) (h1 : 1 ≤ n) (h3 : n ≤ 3) : addF G (zeroF n) = G := by
  rcases size3 h1 h3 with rfl | rfl | rfl
  · obtain ⟨a, rfl⟩ := sz1 hG
    simp [addF, zeroF]
  · obtain ⟨a, b, c, d, rfl⟩ := sz2 hG
    simp [addF, zeroF, List.replicate]
  · obtain ⟨a, b, c, d, e, f, g, h, i, rfl⟩ := sz3 hG
    simp [addF, zeroF, List.replicate]
theorem addF_assoc {K : List (List Int)} (hG : Sz n G) (hH : Sz n H) (hK : Sz n K) (h1 : 1 ≤ n) (h3 : n ≤ 3) : addF (addF G H) K = addF G (addF H K) := by
  rcases size3 h1 h3 with rfl | rfl | rfl
  · obtain ⟨a, rfl⟩ := sz1 hG
    obtain ⟨c, rfl⟩ := sz1 hH
    obtain ⟨d, rfl⟩ := sz1 hK
    simp [addF]
    omega
  · obtain ⟨a, b, c, d, rfl⟩ := sz2 hG
    obtain ⟨e', f', g', h', rfl⟩ := sz2 hH
    obtain ⟨e2, f2, g2, h2, rfl⟩ := sz2 hK
    simp [addF]
    omega
  · obtain ⟨a, b, c, d, e, f, g, h, i, rfl⟩ := sz3 hG
    obtain ⟨a1, b1, c1, d1, e1, f1, g1, h1, i1, rfl⟩ := sz3 hH
    obtain ⟨a2, b2, c2, d2, e2, f2, g2, h2, i2, rfl⟩ := sz3 hK
    simp [addF]
    omega
/-! ### alike about the middle line -/
theorem sym1 {a : Int} : sym [[a]] := fun i j hi hj => by
  have h1 : i = 0 := by simp at hi; omega
  have h2 : j = 0 := by simp at hj; omega
  subst h1; subst h2; rfl
theorem sym2 {a b c d : Int} : sym [[a, b], [c, d]] ↔ b = c := by
  constructor
  · intro h
    exact h 0 1 (by simp) (by simp)
  · rintro rfl i j hi hj
    have h1 : i = 0 ∨ i = 1 := by simp at hi; omega
    have h2 : j = 0 ∨ j = 1 := by simp at hj; omega
    rcases h1 with rfl | rfl <;> rcases h2 with rfl | rfl <;> rfl
theorem sym3 {a b c d e f g h i : Int} : sym [[a, b, c], [d, e, f], [g, h, i]] ↔ b = d ∧ c = g ∧ f = h := by
  constructor
  · intro z
    exact ⟨z 0 1 (by simp) (by simp), z 0 2 (by simp) (by simp), z 1 2 (by simp) (by simp)⟩
  · rintro ⟨rfl, rfl, rfl⟩ i j hi hj
    have h1 : i = 0 ∨ i = 1 ∨ i = 2 := by simp at hi; omega
    have h2 : j = 0 ∨ j = 1 ∨ j = 2 := by simp at hj; omega
    rcases h1 with rfl | rfl | rfl <;> rcases h2 with rfl | rfl | rfl <;> rfl
theorem led_sym (hG : Sz n G) (hP : Sz n P) (h1 : 1 ≤ n) (h3 : n ≤ 3) (hs : sym G) : sym (ledL G P) := by
  rcases size3 h1 h3 with rfl | rfl | rfl
  · obtain ⟨a, rfl⟩ := sz1 hG
    obtain ⟨b, rfl⟩ := sz1 hP
    exact sym1
  · obtain ⟨a, b, c, d, rfl⟩ := sz2 hG
    obtain ⟨e, f, g, h, rfl⟩ := sz2 hP
    have := sym2.mp hs
    subst this
    refine sym2.mpr ?_
    simp [btw, dotL]
    grind
  · obtain ⟨a, b, c, d, e, f, g, h, i, rfl⟩ := sz3 hG
    obtain ⟨a', b', c', d', e', f', g', h', i', rfl⟩ := sz3 hP
    obtain ⟨rfl, rfl, rfl⟩ := sym3.mp hs
    refine sym3.mpr ?_
    simp [btw, dotL]
    grind
theorem addF_sym (hG : Sz n G) (hH : Sz n H) (h1 : 1 ≤ n) (h3 : n ≤ 3) (hs : sym G) (ht : sym H) : sym (addF G H) := by
  rcases size3 h1 h3 with rfl | rfl | rfl
  · obtain ⟨a, rfl⟩ := sz1 hG
    obtain ⟨b, rfl⟩ := sz1 hH
    exact sym1
  · obtain ⟨a, b, c, d, rfl⟩ := sz2 hG
    obtain ⟨e, f, g, h, rfl⟩ := sz2 hH
    have z1 := sym2.mp hs
    have z2 := sym2.mp ht
    subst z1; subst z2
    exact sym2.mpr rfl
  · obtain ⟨a, b, c, d, e, f, g, h, i, rfl⟩ := sz3 hG
    obtain ⟨a', b', c', d', e', f', g', h', i', rfl⟩ := sz3 hH
    obtain ⟨rfl, rfl, rfl⟩ := sym3.mp hs
    obtain ⟨rfl, rfl, rfl⟩ := sym3.mp ht
    exact sym3.mpr ⟨rfl, rfl, rfl⟩
theorem btw_sm : ∀ {r : List Int} {G : List (List Int)} {s : List Int}, r.length ≤ 3 → (∀ x ∈ r, Sm j x) → (∀ g ∈ G, g.length ≤ 3 ∧ ∀ x ∈ g, Sm k x) → (∀ x ∈ s, Sm l x) → Sm (j + k + l + 6) (btw G r s)
  | [], _, _, _, _, _, _ => by
    simp [btw]
    exact sm_zero _
  | _ :: _, [], _, _, _, _, _ => by
    simp [btw]
    exact sm_zero _
  | [x], g :: G, s, _, hr, hG, hs => by
    have h := (hr x (by simp)).mul (dot_sm (hG g (by simp)).1 (hG g (by simp)).2 hs)
    simp [btw]
    exact h.mono (by omega)
  | [x, y], [g], s, _, hr, hG, hs => by
    have h := (hr x (by simp)).mul (dot_sm (hG g (by simp)).1 (hG g (by simp)).2 hs)
    simp [btw]
    exact h.mono (by omega)
  | [x, y], g :: g2 :: G, s, _, hr, hG, hs => by
    have h := (hr x (by simp)).mul (dot_sm (hG g (by simp)).1 (hG g (by simp)).2 hs)
    have h2 := (hr y (by simp)).mul (dot_sm (hG g2 (by simp)).1 (hG g2 (by simp)).2 hs)
    simp [btw]
    exact (h.add h2).mono (by omega)
  | [x, y, z], [g], s, _, hr, hG, hs => by
    have h := (hr x (by simp)).mul (dot_sm (hG g (by simp)).1 (hG g (by simp)).2 hs)
    simp [btw]
    exact h.mono (by omega)
  | [x, y, z], [g, g2], s, _, hr, hG, hs => by
    have h := (hr x (by simp)).mul (dot_sm (hG g (by simp)).1 (hG g (by simp)).2 hs)
    have h2 := (hr y (by simp)).mul (dot_sm (hG g2 (by simp)).1 (hG g2 (by simp)).2 hs)
    simp [btw]
    exact (h.add h2).mono (by omega)
  | [x, y, z], g :: g2 :: g3 :: G, s, _, hr, hG, hs => by
    have h := (hr x (by simp)).mul (dot_sm (hG g (by simp)).1 (hG g (by simp)).2 hs)
    have h2 := (hr y (by simp)).mul (dot_sm (hG g2 (by simp)).1 (hG g2 (by simp)).2 hs)
    have h3 := (hr z (by simp)).mul (dot_sm (hG g3 (by simp)).1 (hG g3 (by simp)).2 hs)
    simp [btw]
    exact ((h.mono (Nat.le_succ _)).add (h2.add h3)).mono (by omega)
  | _ :: _ :: _ :: _ :: _, _, _, h, _, _, _ => by simp at h
theorem led_bd (hG : Sz n G) (hP : Sz n P) (h3 : n ≤ 3) (bG : Bd k G) (bP : Bd j P) : Bd (j + k + j + 6) (ledL G P) := fun r hr x hx => by
  obtain ⟨c, hc, rfl⟩ := List.mem_map.mp hr
  obtain ⟨d, hd, rfl⟩ := List.mem_map.mp hx
  have cb := cols_bd hP bP
  have cs := cols_sz hP
  exact btw_sm (by rw [cs.2 c hc]; exact h3) (cb c hc) (fun g hg => ⟨by rw [hG.2 g hg]; exact h3, bG g hg⟩) (cb d hd)
instance inst_led [a : Fm n k G] [t : Tb n j P] : Fm n (j + k + j + 6) (ledL G P) := ⟨led_sz t.sz, led_bd a.sz t.sz a.hi a.bd t.bd, a.lo, a.hi, led_sym a.sz t.sz a.lo a.hi a.sy⟩
theorem fm_add (a : Fm n k G) (b : Fm n k H) : Fm n (k + 1) (addF G H) := ⟨addF_sz a.sz b.sz, addF_bd a.bd b.bd, a.lo, a.hi, addF_sym a.sz b.sz a.lo a.hi a.sy b.sy⟩
theorem Fm.mono (h : Fm n j G) (e : j ≤ k) : Fm n k G := ⟨h.sz, h.bd.mono e, h.lo, h.hi, h.sy⟩
/-! ### kept -/
theorem keep_mul [a : Fm n k G] [t : Tb n j P] [u : Tb n i Q] (h : ledL G P = G) (g : ledL G Q = G) : ledL G (mulL P Q) = G := by
  rw [← led_led a.sz t.sz u.sz a.lo a.hi, h, g]
theorem keep_inv [a : Fm n k G] [t : Tb n j P] : ledL G (invL P) = G ↔ ledL G P = G := by
  have ti : Tb n (2 * j + 4) (invL P) := inst_inv
  constructor
  · intro h
    have e := led_led a.sz ti.sz t.sz a.lo a.hi
    rw [g_im, led_id a.sz a.lo a.hi, h] at e
    exact e
  · intro h
    have e := led_led a.sz t.sz ti.sz a.lo a.hi
    rw [g_mi, led_id a.sz a.lo a.hi, h] at e
    exact e
/-- unit rows, and their sums two by two -/
def unitL (n : Nat) : List (List Int) := idL n
def pairL (n : Nat) : List (List Int) := (if 1 < n then [List.zipWith (fun x y => x + y) ((idL n).getD 0 []) ((idL n).getD 1 [])] else []) ++ (if 2 < n then [List.zipWith (fun x y => x + y) ((idL n).getD 0 []) ((idL n).getD 2 [])] else []) ++ (if 2 < n then [List.zipWith (fun x y => x + y) ((idL n).getD 1 []) ((idL n).getD 2 [])] else [])
theorem worths_tell (hG : Sz n G) (hP : Sz n P) (h1 : 1 ≤ n) (h3 : n ≤ 3) (hs : sym G) : (∀ r ∈ idL n ++ pairL n, btw G (leadL P r) (leadL P r) = btw G r r) ↔ ledL G P = G := by
  rcases size3 h1 h3 with rfl | rfl | rfl
  · obtain ⟨a, rfl⟩ := sz1 hG
    obtain ⟨b, rfl⟩ := sz1 hP
    simp [pairL, idL, leadL, colsL, ledL, btw, dotL]
  · obtain ⟨a, b, c, d, rfl⟩ := sz2 hG
    obtain ⟨e, f, g, h, rfl⟩ := sz2 hP
    have := sym2.mp hs
    subst this
    simp [pairL, idL, leadL, colsL, ledL, btw, dotL, show List.range 2 = [0, 1] from rfl]
    grind
  · obtain ⟨a, b, c, d, e, f, g, h, i, rfl⟩ := sz3 hG
    obtain ⟨a', b', c', d', e', f', g', h', i', rfl⟩ := sz3 hP
    obtain ⟨rfl, rfl, rfl⟩ := sym3.mp hs
    simp [pairL, idL, leadL, colsL, ledL, btw, dotL, show List.range 3 = [0, 1, 2] from rfl]
    grind
/-- a written table -/
def tbB (n : Nat) (A : List (List Int)) : Bool := decide (A.length = n) && (A.all fun r => decide (r.length = n) && r.all fun x => decide (x.natAbs < 2)) && (decide (detL A = 1) || decide (detL A = -1))
theorem tb_of (h1 : 1 ≤ n) (h3 : n ≤ 3) (h : tbB n A = true) : Tb n 1 A := by
  unfold tbB at h
  simp only [Bool.and_eq_true, decide_eq_true_eq, List.all_eq_true, Bool.or_eq_true] at h
  obtain ⟨⟨e, hr⟩, hd⟩ := h
  exact ⟨⟨e, fun r hr' => (hr r hr').1⟩, fun r hr' x hx => (hr r hr').2 x hx, h1, h3, hd⟩
/-- the contrary of the idle table -/
def minL (n : Nat) : List (List Int) := (idL n).map fun r => r.map fun x => -x
theorem min_sz (n : Nat) : Sz n (minL n) := by
  have h := id_sz n
  refine ⟨by unfold minL; rw [List.length_map, h.1], fun r hr => ?_⟩
  obtain ⟨s, hs, rfl⟩ := List.mem_map.mp hr
  rw [List.length_map, h.2 s hs]
theorem led_min (hG : Sz n G) (h1 : 1 ≤ n) (h3 : n ≤ 3) : ledL G (minL n) = G := by
  rcases size3 h1 h3 with rfl | rfl | rfl
  · obtain ⟨a, rfl⟩ := sz1 hG
    simp [minL, idL, colsL, ledL, btw, dotL]
  · obtain ⟨a, b, c, d, rfl⟩ := sz2 hG
    simp [minL, idL, colsL, ledL, btw, dotL, show List.range 2 = [0, 1] from rfl]
  · obtain ⟨a, b, c, d, e, f, g, h, i, rfl⟩ := sz3 hG
    simp [minL, idL, colsL, ledL, btw, dotL, show List.range 3 = [0, 1, 2] from rfl]
instance inst_min [a : Nn n] : Tb n 1 (minL n) := by
  have h1 := a.lo; have h3 := a.hi
  rcases size3 h1 h3 with rfl | rfl | rfl
  · exact tb_of h1 h3 (by decide)
  · exact tb_of h1 h3 (by decide)
  · exact tb_of h1 h3 (by decide)
end Tab

set_option Elab.async false
set_option linter.all false
set_option maxRecDepth 100000
set_option maxHeartbeats 8000000
set_option autoImplicit false
/-! KuA: small lists, written out. -/
namespace Tab
open PySem L2 Kb
variable {m : Mem} {n i j k p q l w : Nat} {A B G H P Q : List (List Int)} {r s v u : List Int} {x y z c : Int}
theorem mulc (h : Sm 9000 x) (g : Sm 9000 y) : mulD (.int x) (.int y) m = some (.int (x * y), m) := mulD_sm h g
theorem rngc {xs : SA} {env : Ev} (n : Nat) (h : xs env m = some ([.int (n : Int)], m)) (hn : n ≤ 1000 := by decide) : rng1 xs env m = some ((List.range n).map fun (j : Nat) => D.int (j : Int), m) := rng1_nat h (by omega)
theorem range1 : List.range 1 = [0] := rfl
theorem range2 : List.range 2 = [0, 1] := rfl
theorem range3 : List.range 3 = [0, 1, 2] := rfl
section
variable {α : Type} {a b d e : α} {ds : List α}
theorem at0 : atI (a :: ds) 0 = some a := by
  unfold atI ixN
  simp
theorem at1 : atI (a :: b :: ds) 1 = some b := by
  exact atI_nat (j := 1) (show 1 < (a :: b :: ds).length by simp)
theorem at2 : atI (a :: b :: d :: ds) 2 = some d := by
  exact atI_nat (j := 2) (show 2 < (a :: b :: d :: ds).length by simp)
theorem at3 : atI (a :: b :: d :: e :: ds) 3 = some e := by
  exact atI_nat (j := 3) (show 3 < (a :: b :: d :: e :: ds).length by simp)
theorem at4 {f : α} : atI (a :: b :: d :: e :: f :: ds) 4 = some f := by
  exact atI_nat (j := 4) (show 4 < (a :: b :: d :: e :: f :: ds).length by simp)
theorem at5 {f g : α} : atI (a :: b :: d :: e :: f :: g :: ds) 5 = some g := by
  exact atI_nat (j := 5) (show 5 < (a :: b :: d :: e :: f :: g :: ds).length by simp)
end
theorem sum1 : sumD [.lst [.int x]] m = some (.int x, m) := by
  show some (D.int [x].sum, m) = _
  simp
theorem sum2 : sumD [.lst [.int x, .int y]] m = some (.int (x + y), m) := by
  show some (D.int [x, y].sum, m) = _
  simp
theorem sum3 : sumD [.lst [.int x, .int y, .int z]] m = some (.int (x + (y + z)), m) := by
  show some (D.int [x, y, z].sum, m) = _
  simp
theorem bd1 {a : Int} : Bd k [[a]] ↔ Sm k a := by simp [Bd]
theorem bd2 {a b c d : Int} : Bd k [[a, b], [c, d]] ↔ (Sm k a ∧ Sm k b) ∧ Sm k c ∧ Sm k d := by simp [Bd]
theorem bd3 {a b c d e f g h i : Int} : Bd k [[a, b, c], [d, e, f], [g, h, i]] ↔ (Sm k a ∧ Sm k b ∧ Sm k c) ∧ (Sm k d ∧ Sm k e ∧ Sm k f) ∧ Sm k g ∧ Sm k h ∧ Sm k i := by simp [Bd]
theorem rng2c {xs : SA} {env : Ev} {i j : Int} (h : xs env m = some ([.int i, .int j], m)) (h1 : i.natAbs ≤ 1000000) (h2 : j.natAbs ≤ 1000000) : rng2 xs env m = some (rngD i (j - i).toNat, m) := by
  rw [rng2_run, h]
  show (if i.natAbs ≤ 1000000 ∧ j.natAbs ≤ 1000000 then some (rngD i (j - i).toNat, m) else none) = _
  rw [if_pos ⟨h1, h2⟩]
theorem rngD0 {i : Int} : rngD i 0 = [] := rfl
theorem rngDs {i : Int} {n : Nat} : rngD i (n + 1) = .int i :: rngD (i + 1) n := by
  unfold rngD
  rw [List.range_succ_eq_map, List.map_cons, List.map_map]
  congr 1
  · simp
  · refine List.map_congr_left fun j _ => ?_
    show D.int (i + ((j + 1 : Nat) : Int)) = D.int (i + 1 + (j : Int))
    congr 1
    omega
theorem rngD1 {i : Int} : rngD i 1 = [.int i] := by
  rw [rngDs, rngD0]
theorem rngD2 {i : Int} : rngD i 2 = [.int i, .int (i + 1)] := by
  rw [rngDs, rngD1]
theorem rngD3 {i : Int} : rngD i 3 = [.int i, .int (i + 1), .int (i + 1 + 1)] := by
  rw [rngDs, rngD2]
/-- store lists, several -/
theorem store_get {J : List Cell} {i : Nat} : (m ++ J)[m.length + i]? = J[i]? := by
  rw [List.getElem?_append_right (by omega)]
  congr 1
  omega
theorem store_get0 {J : List Cell} : (m ++ J)[m.length]? = J[0]? := store_get (i := 0)
theorem store_set {J : List Cell} {i : Nat} {c : Cell} : (m ++ J).set (m.length + i) c = m ++ J.set i c := by
  rw [List.set_append_right _ _ (by omega)]
  congr 2
  omega
theorem store_set0 {J : List Cell} {c : Cell} : (m ++ J).set m.length c = m ++ J.set 0 c := store_set (i := 0)
theorem setD_st {J : List Cell} {i : Nat} {xs : List D} {x : Int} {e : Nat} {y : D} (hx : x = (e : Int)) (h : J[i]? = some (.lst xs)) (he : e < xs.length) : setD (.loc (m.length + i)) (.int x) y (m ++ J) = some (m ++ J.set i (.lst (xs.set e y))) := by
  rw [hx, setD_at (n := m.length + i) (by rw [store_get]; exact h) he, store_set]
theorem st1 {J : List Cell} : (m ++ J)[m.length + 1]? = J[1]? := store_get (i := 1)
theorem st2 {J : List Cell} : (m ++ J)[m.length + 1 + 1]? = J[2]? := store_get (i := 2)
theorem sl1 {J : List Cell} {c : Cell} : (m ++ J).set (m.length + 1) c = m ++ J.set 1 c := store_set (i := 1)
theorem sl2 {J : List Cell} {c : Cell} : (m ++ J).set (m.length + 1 + 1) c = m ++ J.set 2 c := store_set (i := 2)
theorem num1 {a : D} : numD [a] = [.tup [.int 0, a]] := rfl
theorem num2 {a b : D} : numD [a, b] = [.tup [.int 0, a], .tup [.int 1, b]] := rfl
theorem num3 {a b c : D} : numD [a, b, c] = [.tup [.int 0, a], .tup [.int 1, b], .tup [.int 2, c]] := rfl
theorem gc0 {α : Type} {a : α} {l : List α} : (a :: l)[0]? = some a := rfl
theorem gc1 {α : Type} {a b : α} {l : List α} : (a :: b :: l)[1]? = some b := rfl
theorem gc2 {α : Type} {a b c : α} {l : List α} : (a :: b :: c :: l)[2]? = some c := rfl
theorem setD_c {n : Nat} {i : Int} {v : D} {m : Mem} : setD (.loc n) (.int i) v m = match m[n]? with
    | some (.lst xs) => (ixN xs.length i).map fun j => m.set n (.lst (xs.set j v))
    | _ => none := rfl
section
variable {r s : List Int}
theorem deep_int {M : Mem} {k f : Nat} {i : Int} : deep M k f (.int i) = some (.int i) := by cases f <;> rfl
theorem deep_ints {M : Mem} {k f : Nat} : ∀ r : List Int, mapO (deep M k f) (r.map D.int) = some (r.map D.int)
  | [] => rfl
  | i :: r => by
    show (deep M k f (.int i)).bind (fun y => (mapO (deep M k f) (r.map D.int)).map fun ys => y :: ys) = _
    rw [deep_int, deep_ints r]
    rfl
theorem deep_LD {M : Mem} {k f : Nat} : deep M k (f + 1) (LD r) = some (LD r) := by
  show (mapO (deep M k f) (r.map D.int)).map D.lst = _
  rw [deep_ints]
  rfl
theorem deep_loc {M : Mem} {k f q : Nat} (hq : k ≤ q) (h : M[q]? = some (.lst (r.map D.int))) : deep M k (f + 1) (.loc q) = some (LD r) := by
  show (if q < k then some (D.loc q) else match M[q]? with
    | some (.lst xs) => (mapO (deep M k f) xs).map D.lst
    | some (.frz xs) => (mapO (deep M k f) xs).map D.lst
    | _ => none) = _
  rw [if_neg (by omega), h]
  show (mapO (deep M k f) (r.map D.int)).map D.lst = _
  rw [deep_ints]
  rfl
theorem run_w {n a : Nat} {b : SS} {ds : List D} {m M : Mem} {d d' : D} (hl : ds.length = a) (h : b (ds.map some ++ List.replicate (n - a) none) m = some (.rt d M)) (hb : (M.take m.length).all (belowC m.length) = true) (hd : deep M m.length 5 d = some d') (ho : isOwn d = false := by rfl) : runB outW n a b ds m = some (d', M.take m.length) := by
  unfold runB
  rw [if_pos hl, h]
  show (if isOwn d = true then none else outW m.length d M) = _
  rw [ho, if_neg Bool.false_ne_true]
  unfold outW
  rw [if_pos hb, hd]
  rfl
theorem drawn {m : Mem} {te : SE} {put : D → Ev → Option Ev} {env : Ev} {p k : Nat} (hm : Pot m p) (L : Nat)
    (hte : ∀ (j : Nat) (m : Mem), Pot m p → ∃ env1 i m', put (.int (j : Int)) env = some env1 ∧ te env1 m = some (.int i, m') ∧ Sm k i ∧ Moved p m m') :
    ∃ (r : List Int) (m' : Mem), lcL put yesB te env ((List.range L).map fun (j : Nat) => D.int (j : Int)) m = some (r.map D.int, m') ∧ r.length = L ∧ (∀ x ∈ r, Sm k x) ∧ Moved p m m' := by
  obtain ⟨ys, m', e, hI, hl, hy⟩ := lcL_draw (put := put) (te := te) (env := env) (P := fun y => ∃ i, y = D.int i ∧ Sm k i) (fun m1 => Moved p m m1) ((List.range L).map fun (j : Nat) => D.int (j : Int)) m hm.refl fun d hd m1 hv => by
    obtain ⟨j, _, rfl⟩ := List.mem_map.mp hd
    obtain ⟨env1, i, m2, h1, h2, h3, h4⟩ := hte j m1 hv.1
    exact ⟨env1, _, m2, h1, h2, ⟨i, rfl, h3⟩, hv.trans h4⟩
  obtain ⟨r, rfl, h1, h2⟩ := of_all ys hy
  exact ⟨r, m', e, by rw [h2, hl, List.length_map, List.length_range], h1, hI⟩
theorem deep_locs {M : Mem} {k f : Nat} : ∀ (ls : List Nat) (A : List (List Int)), F2 (fun q r => k ≤ q ∧ M[q]? = some (.lst (r.map D.int))) ls A → mapO (deep M k (f + 1)) (ls.map D.loc) = some (A.map LD)
  | [], [], _ => rfl
  | q :: ls, r :: A, h => by
    show (deep M k (f + 1) (.loc q)).bind (fun y => (mapO (deep M k (f + 1)) (ls.map D.loc)).map fun ys => y :: ys) = _
    rw [deep_loc h.1.1 h.1.2, deep_locs ls A h.2]
    rfl
/-- a list of lists of the store is let out -/
theorem run_wl {n a : Nat} {b : SS} {ds : List D} {m m1 J : Mem} {ls : List Nat} {A : List (List Int)} (hl : ds.length = a) (h : b (ds.map some ++ List.replicate (n - a) none) m = some (.rt (.lst (ls.map D.loc)) (m1 ++ J))) (e : m1.length = m.length) (hb : m1.all (belowC m.length) = true)
    (hd : F2 (fun q r => m.length ≤ q ∧ (m1 ++ J)[q]? = some (.lst (r.map D.int))) ls A) : runB outW n a b ds m = some (LLD A, m1) := by
  have tk : (m1 ++ J).take m.length = m1 := by rw [← e, List.take_left]
  have w := run_w (d' := LLD A) hl h (by rw [tk]; exact hb) (by
    show (mapO (deep (m1 ++ J) m.length 4) (ls.map D.loc)).map D.lst = _
    rw [deep_locs (f := 3) ls A hd]
    rfl)
  rw [tk] at w
  exact w
end
end Tab

set_option Elab.async false
set_option linter.all false
set_option maxRecDepth 100000
set_option maxHeartbeats 8000000
set_option autoImplicit false
/-! KuB: draws and pots of other kinds. -/
namespace Tab
open PySem L2 Kb
noncomputable def b_draw2 (c e M N V : Int) : SS := seqS (ifS (tstB (Kb.bin gtD (Kb.bin ixD (var 0) (cst (.int 0))) (cst (.int 0)))) (seqS (asgS (app divmodD (argC (Kb.bin ixD (var 0) (cst (.int 0))) (argC (var 1) argN))) (tupG 2 (consG (subG (var 0) (cst (.int 0))) (consG (tgG (.n 2)) nilG)))) (retS (var 2))) skS) (seqS (asgS (Kb.bin modD (Kb.bin addD (Kb.bin mulD (Kb.bin ixD (var 0) (cst (.int 1))) (cst (.int c))) (cst (.int e))) (cst (.int M))) (subG (var 0) (cst (.int 1)))) (retS (Kb.bin modD (Kb.bin divD (Kb.bin modD (Kb.bin mulD (Kb.bin ixD (var 0) (cst (.int 1))) (Kb.bin ixD (var 0) (cst (.int 1)))) (cst (.int N))) (cst (.int V))) (var 1))))
theorem draw_ok2 {c e M N V : Int} (hc : Sm 40 c) (hc0 : 0 ≤ c) (he0 : 0 ≤ e) (hM : 0 < M ∧ M ≤ 4294967295 := by decide) (hN : 0 < N := by decide) (hV : 0 < V ∧ V.natAbs.log2 < 9000 := by decide) : Draws (runB outP 3 2 (b_draw2 c e M N V)) := fun m n k hm hk hlog => by
  obtain ⟨cc, hcell, a, b, rfl, ha, hb, hb2⟩ := id hm
  have hk0 : 0 < k := by omega
  have i0 : ixD (.loc n) (.int 0) m = some (.int a, m) := ixD_at (j := 0) hcell (by simp)
  have i1 : ixD (.loc n) (.int 1) m = some (.int b, m) := ixD_at (j := 1) hcell (by simp)
  have fin : ∀ (d : Int) (m' : Mem), b_draw2 c e M N V [some (.loc n), some (.int k), none] m = some (.rt (.int d) m') → 0 ≤ d → d < k → Moved n m m' → ∃ (d : Int) (m' : Mem), runB outP 3 2 (b_draw2 c e M N V) [.loc n, .int k] m = some (.int d, m') ∧ 0 ≤ d ∧ d < k ∧ Moved n m m' := fun d m' h h0 h1 hv => by
    exact ⟨d, m', run_p (n := 3) (a := 2) rfl h hv.len, h0, h1, hv⟩
  by_cases ha0 : 0 < a
  · have s0 : setD (.loc n) (.int 0) (.int (a / k)) m = some (m.set n (.lst [.int (a / k), .int b])) := setD_at (j := 0) hcell (by simp)
    refine fin (a % k) (m.set n (.lst [.int (a / k), .int b])) ?_ (Int.emod_nonneg _ (by omega)) (Int.emod_lt_of_pos _ hk0) (pot_set hm (Int.ediv_nonneg ha (by omega)) hb hb2)
    simp [b_draw2, i0, ha0, hk0, hlog, s0]
  · have hmul := mulD_sm (m := m) (sm_pot hb hb2) hc
    have hb' : 0 ≤ (b * c + e) % M ∧ (b * c + e) % M < M := ⟨Int.emod_nonneg _ (by omega), Int.emod_lt_of_pos _ (by omega)⟩
    have s1 : setD (.loc n) (.int 1) (.int ((b * c + e) % M)) m = some (m.set n (.lst [.int a, .int ((b * c + e) % M)])) := setD_at (j := 1) hcell (by simp)
    have mv := pot_set (b := (b * c + e) % M) hm ha hb'.1 (by omega)
    have j1 : ixD (.loc n) (.int 1) (m.set n (.lst [.int a, .int ((b * c + e) % M)])) = some (.int ((b * c + e) % M), m.set n (.lst [.int a, .int ((b * c + e) % M)])) := ixD_at (j := 1) (List.getElem?_set_self hm.lt) (by simp)
    have hm2 := mulD_sm (m := m.set n (.lst [.int a, .int ((b * c + e) % M)])) (sm_pot hb'.1 (by omega)) (sm_pot hb'.1 (by omega))
    refine fin (((b * c + e) % M * ((b * c + e) % M) % N / V) % k) (m.set n (.lst [.int a, .int ((b * c + e) % M)])) ?_ (Int.emod_nonneg _ (by omega)) (Int.emod_lt_of_pos _ hk0) mv
    simp [b_draw2, i0, ha0, hk0, i1, hmul, s1, j1, hm2, hM.1, hN, hV.1, hV.2]
theorem cut_map {α β : Type} (f : α → β) (xs : List α) (lo hi : Option Int) : cutL (xs.map f) lo hi = (cutL xs lo hi).map f := by
  unfold cutL
  rw [List.length_map, List.map_take, List.map_drop]
noncomputable def b_pot5 (c1 c2 c3 c4 c5 : Int) (S N M : Int) : SS := seqS (setS (.n 2) (Kb.bin addD (Kb.bin addD (Kb.bin mulD (cst (.int c1)) (var 1)) (cst (.int c2))) (Kb.bin modD (app sumD (argC (slE (var 0) noO (someO (cst (.int 1)))) argN)) (cst (.int S))))) (seqS (ifS (tstB (Kb.bin ltD (var 1) (app lenD (argC (var 0) argN)))) (setS (.n 2) (app absD (argC (Kb.bin ixD (var 0) (var 1)) argN))) skS) (retS (lstNE (argC (app maxD (argC (cst (.int 0)) (argC (Kb.bin subD (var 2) (Kb.bin powD (cst (.int 10)) (cst (.int 18)))) argN))) (argC (Kb.bin addD (Kb.bin modD (Kb.bin mulD (Kb.bin addD (Kb.bin modD (var 2) (cst (.int N))) (cst (.int c3))) (Kb.bin powD (Kb.bin addD (Kb.bin mulD (cst (.int c4)) (var 1)) (cst (.int c5))) (cst (.int 3)))) (cst (.int M))) (cst (.int 1))) argN)))))
theorem pot_ok5 {c1 c2 c3 c4 c5 S N M : Int} (h1 : Sm 40 c1) (h3 : 0 ≤ c3 ∧ c3 ≤ 1000000) (h4 : 0 ≤ c4 ∧ c4 ≤ 100) (h5 : 0 ≤ c5 ∧ c5 ≤ 100) (hS : 0 < S := by decide) (hM : 0 < M ∧ M ≤ 4294967294 := by decide) (hN : 0 < N ∧ N ≤ 2294967295 := by decide) : Pots (runB outL 3 2 (b_pot5 c1 c2 c3 c4 c5 S N M)) := fun ns j m hj => by
  have hjs : Sm 40 (j : Int) := by
    unfold Sm
    rw [Int.natAbs_natCast]
    exact Nat.lt_of_lt_of_le hj (by decide)
  have m1 := mulD_sm (m := m) h1 hjs
  have m2 := mulD_sm (m := m) (show Sm 40 c4 by unfold Sm; omega) hjs
  have sl : slD (.scr ns) none (some 1) m = some (LD (cutL ns none (some 1)), m) := by
    show some (D.lst (cutL (ns.map D.int) none (some 1)), m) = _
    rw [cut_map]
    rfl
  have sm : sumD [LD (cutL ns none (some 1))] m = some (.int (cutL ns none (some 1)).sum, m) := sumD_ints
  obtain ⟨x, hx⟩ : ∃ x : Int, ∀ T : SS, ((setS (.n 2) (Kb.bin addD (Kb.bin addD (Kb.bin mulD (cst (.int c1)) (var 1)) (cst (.int c2))) (Kb.bin modD (app sumD (argC (slE (var 0) noO (someO (cst (.int 1)))) argN)) (cst (.int S)))) [some (.scr ns), some (.int (j : Int)), none] m).bind fun o => thenO o (seqS (ifS (tstB (Kb.bin ltD (var 1) (app lenD (argC (var 0) argN)))) (setS (.n 2) (app absD (argC (Kb.bin ixD (var 0) (var 1)) argN))) skS) T)) = T [some (.scr ns), some (.int (j : Int)), some (.int x)] m := by
    by_cases hl : j < ns.length
    · have hl' : (j : Int) < (ns.length : Int) := by omega
      have e : atI (ns.map D.int) (j : Int) = some (.int ns[j]) := by
        rw [atI_nat (by rw [List.length_map]; exact hl), List.getElem_map]
      exact ⟨_, fun T => by simp [hS, hl, hl', e, m1, sl, sm]; rfl⟩
    · have hl' : ¬ (j : Int) < (ns.length : Int) := by omega
      exact ⟨_, fun T => by simp [hS, hl, hl', m1, sl, sm]; rfl⟩
  have t0 : 0 ≤ c4 * (j : Int) := Int.mul_nonneg h4.1 (by omega)
  have t1 : c4 * (j : Int) ≤ 100 * 100 := Int.mul_le_mul h4.2 (by omega) (by omega) (by omega)
  have p3 : powD (.int (c4 * (j : Int) + c5)) (.int 3) m = some (.int ((c4 * (j : Int) + c5) ^ 3), m) := by
    rw [powD_int, if_pos ⟨by decide, by decide, by omega⟩]
    rfl
  have r0 : 0 ≤ x % N ∧ x % N < N := ⟨Int.emod_nonneg _ (by omega), Int.emod_lt_of_pos _ (by omega)⟩
  have s3 : Sm 40 ((c4 * (j : Int) + c5) ^ 3) := by
    unfold Sm
    rw [Int.natAbs_pow]
    exact Nat.lt_of_le_of_lt (Nat.pow_le_pow_left (show (c4 * (j : Int) + c5).natAbs ≤ 10300 by omega) 3) (by decide)
  have m3 := mulD_sm (m := m) (a := x % N + c3) (sm_pot (by omega) (by omega)) s3
  have r1 : 0 ≤ ((x % N + c3) * (c4 * (j : Int) + c5) ^ 3) % M ∧ ((x % N + c3) * (c4 * (j : Int) + c5) ^ 3) % M < M := ⟨Int.emod_nonneg _ (by omega), Int.emod_lt_of_pos _ (by omega)⟩
  refine ⟨.lst [.int (if x - 1000000000000000000 > 0 then x - 1000000000000000000 else 0), .int (((x % N + c3) * (c4 * (j : Int) + c5) ^ 3) % M + 1)], ?_, _, _, rfl, ?_, by omega, by omega⟩
  · have key : b_pot5 c1 c2 c3 c4 c5 S N M [some (.scr ns), some (.int (j : Int)), none] m = some (.rt (.loc m.length) (m ++ [.lst [.int (if x - 1000000000000000000 > 0 then x - 1000000000000000000 else 0), .int (((x % N + c3) * (c4 * (j : Int) + c5) ^ 3) % M + 1)]])) := by
      unfold b_pot5
      rw [seqS_def, hx]
      simp [pow18, m2, p3, m3, hN.1, hM.1]
    show (b_pot5 c1 c2 c3 c4 c5 S N M [some (.scr ns), some (.int (j : Int)), none] m).bind _ = _
    rw [key]
    rfl
  · split <;> omega
end Tab

set_option Elab.async false
set_option linter.all false
set_option maxRecDepth 100000
set_option maxHeartbeats 8000000
set_option autoImplicit false
/-! KuC: texts of Tables and Forms, alone and in lists. -/
namespace Tab
open PySem L2 Kb
variable {m : Mem} {n i j k p q l w : Nat} {A B G H P Q : List (List Int)} {r s v u : List Int} {x y z c : Int} {rp : Rps} {d : D} {ds : List D}
theorem lld_pl (A : List (List Int)) : (Pl.lst (A.map fun r => Pl.lst (r.map .int))).d = LLD A := by
  show D.lst (Pl.ds (A.map fun r => Pl.lst (r.map .int))) = _
  have e : ∀ A : List (List Int), Pl.ds (A.map fun r => Pl.lst (r.map .int)) = A.map LD := by
    intro A
    induction A with
    | nil => rfl
    | cons r A ih =>
      show (Pl.lst (r.map .int)).d :: Pl.ds (A.map fun r => Pl.lst (r.map .int)) = _
      rw [ih, lr_d]
      rfl
  rw [e]
  rfl
theorem lld_inj : LLD A = LLD B ↔ A = B := ⟨fun h => map_inj (fun a b z => LD_inj.mp z) (D.lst.inj h), fun h => by rw [h]⟩
theorem lld_dep (A : List (List Int)) : (Pl.lst (A.map fun r => Pl.lst (r.map .int))).dep ≤ 64 := by
  have e : ∀ A : List (List Int), Pl.deps (A.map fun r => Pl.lst (r.map .int)) ≤ 2 := by
    intro A
    induction A with
    | nil => exact Nat.zero_le _
    | cons r A ih =>
      have h : (Pl.lst (r.map .int)).dep ≤ 1 := row_dep r
      simp only [List.map_cons, Pl.deps]
      omega
  have := e A
  simp only [Pl.dep]
  omega
theorem lld_num (A : List (List Int)) : (Pl.lst (A.map fun r => Pl.lst (r.map .int))).num = true := by
  have e : ∀ A : List (List Int), Pl.nums (A.map fun r => Pl.lst (r.map .int)) = true := by
    intro A
    induction A with
    | nil => rfl
    | cons r A ih =>
      have h : (Pl.lst (r.map .int)).num = true := ints_num r
      simp only [List.map_cons, Pl.nums, h, ih, Bool.and_self]
  exact e A
theorem eqD_LLD : eqD (LLD A) (LLD B) m = some (.bl (decide (A = B)), m) := by
  have h := eqB1_pl (m := m) (x := .lst (A.map fun r => Pl.lst (r.map .int))) (y := .lst (B.map fun r => Pl.lst (r.map .int))) (lld_dep A) (lld_dep B)
  rw [lld_pl, lld_pl] at h
  have h2 := Pl.eqv_iff (.lst (A.map fun r => Pl.lst (r.map .int))) (.lst (B.map fun r => Pl.lst (r.map .int))) (lld_num A) (lld_num B)
  rw [lld_pl, lld_pl, lld_inj] at h2
  show (eqB1 m (LLD A) (LLD B)).map (fun k => (D.bl k, m)) = _
  rw [h]
  show some (D.bl _, m) = _
  congr 3
  rw [Bool.eq_iff_iff, h2, decide_eq_true_iff]
/-- a text that hangs on no store -/
def Tx (rp : Rps) (d : D) (t : Str) : Prop := ∀ m, tx0 rp m d = some t
theorem shownT_TD (hA : Sz n A) (hn : n ≤ 3) (hb : Bd k A) (hk : k < 1900) : ∃ t : Str, t.length ≤ 9 * k + 60 ∧ ∀ m, shownT m (TD A) = some t := by
  have e : (tabP A).d = TD A := tabP_d A
  have lo : (tabP A).low = true := rows_low hk hb
  have so := Pl.show_ok (tabP A) lo
  have wt := tab_wt hA hn hb
  have sl := Pl.shown_le (tabP A)
  refine ⟨(tabP A).p.shown, by omega, fun m => ?_⟩
  unfold shownT
  rw [← e, Pl.toP]
  have hp : (tabP A).p = .tuple (Pl.ps (A.map rowP)) := by
    show (Pl.tup (A.map rowP)).p = _
    simp only [Pl.p]
  have cond : (tabP A).p.showable = true ∧ (tabP A).p.hasDict = false ∧ (tabP A).p.depth ≤ 20 ∧ (tabP A).p.shown.length ≤ 1000000 := ⟨so.1, so.2, by rw [Pl.depth]; exact Nat.le_trans (tab_dep A) (by decide), by omega⟩
  rw [hp] at cond ⊢
  show (if _ then some _ else none) = _
  rw [if_pos cond]
theorem tx_plain {t : Str} (h : ∀ m, shownD m d = some t) : Tx rp d t := fun m => by
  unfold tx0
  rw [h m]
theorem tx_obj {f : Nat} {fs : List D} {a b t : Str} (hr : rp f = some (a, j, b)) (hf : fs[j]? = some d) (h : ∀ m, shownT m d = some t) (hl : a.length ≤ 1000 ∧ b.length ≤ 1000) : Tx rp (.obj f fs) (a ++ t ++ b) := fun m => by
  have e : shownD m (.obj f fs) = none := by
    show (toP m (.obj f fs)).bind _ = none
    have : toP m (.obj f fs) = none := by
      unfold toP
      simp [toPW]
    rw [this]
    rfl
  unfold tx0
  rw [e]
  show (rp f).bind (fun q => fs[q.2.1]?.bind fun d => (shownT m d).bind fun z => if q.1.length ≤ 1000 ∧ q.2.2.length ≤ 1000 then some (q.1 ++ z ++ q.2.2) else none) = _
  rw [hr, Option.bind_some, hf, Option.bind_some, h m, Option.bind_some, if_pos hl]
theorem tx_TO {a b : Str} (hr : rp 1 = some (a, 0, b)) [t : Tb n k A] (hk : k < 1900) (hl : a.length ≤ 1000 ∧ b.length ≤ 1000) : ∃ z, Tx rp (TO A) z ∧ z.length ≤ 9 * k + 2060 := by
  obtain ⟨y, h1, h2⟩ := shownT_TD t.sz t.hi t.bd hk
  refine ⟨_, tx_obj hr rfl h2 hl, ?_⟩
  rw [Str.length_append, Str.length_append]
  omega
theorem tx_FO {a b : Str} (hr : rp 2 = some (a, 0, b)) [t : Fm n k G] (hk : k < 1900) (hl : a.length ≤ 1000 ∧ b.length ≤ 1000) : ∃ z, Tx rp (FO G) z ∧ z.length ≤ 9 * k + 2060 := by
  obtain ⟨y, h1, h2⟩ := shownT_TD t.sz t.hi t.bd hk
  refine ⟨_, tx_obj hr rfl h2 hl, ?_⟩
  rw [Str.length_append, Str.length_append]
  omega
/-- texts of lists one by one -/
inductive Txs (rp : Rps) : List D → List Str → Prop
  | nil : Txs rp [] []
  | cons {d : D} {ds : List D} {t : Str} {ts : List Str} : Tx rp d t → Txs rp ds ts → Txs rp (d :: ds) (t :: ts)
theorem Txs.map (m : Mem) : ∀ {ds : List D} {ts : List Str}, Txs rp ds ts → mapO (tx0 rp m) ds = some ts
  | _, _, .nil => rfl
  | _, _, .cons (d := d) (ds := ds) h t => by
    show (tx0 rp m d).bind (fun y => (mapO (tx0 rp m) ds).map fun ys => y :: ys) = _
    rw [h m, t.map m]
    rfl
theorem toPWs_obj {lk : Nat → Option PyData} : ∀ {ds : List D}, ds.any isObj = true → toPWs lk ds = none
  | [], h => by simp at h
  | d :: ds, h => by
    rw [List.any_cons, Bool.or_eq_true] at h
    simp only [toPWs]
    rcases h with h | h
    · cases d <;> first | (cases h; done) | simp [toPW]
    · rw [toPWs_obj h]
      cases toPW lk d <;> rfl
/-- the text of a list with an instance in it -/
theorem tx_list {ts : List Str} (h : Txs rp ds ts) (ho : ds.any isObj = true) (hl : (ts.map (·.length)).sum + 2 * ts.length ≤ 999990) : ∀ m, reprYD rp [.lst ds] m = some (.str (listText ts), m) := fun m => by
  have e0 : tx0 rp m (.lst ds) = none := by
    have e : shownD m (.lst ds) = none := by
      show (toP m (.lst ds)).bind _ = none
      have : toP m (.lst ds) = none := by
        unfold toP
        simp only [toPW]
        rw [toPWs_obj ho]
        rfl
      rw [this]
      rfl
    unfold tx0
    rw [e]
    rfl
  have le := listText_len_le ts
  have e1 : tx1 rp m (.lst ds) = some (listText ts) := by
    unfold tx1
    rw [e0]
    show (if ds.any isObj = true then lstT (tx0 rp m) (.lst ds) else none) = _
    rw [if_pos ho]
    show (mapO (tx0 rp m) ds).bind _ = _
    rw [h.map m]
    show (if (listText ts).length ≤ 1000000 then some (listText ts) else none) = _
    rw [if_pos (by omega)]
  show (tx2 rp m (.lst ds)).map _ = _
  unfold tx2
  rw [e1]
  rfl
theorem reprY_plain {t : Str} (h : shownD m d = some t) : reprYD rp [d] m = some (.str t, m) := by
  show (tx2 rp m d).map _ = _
  unfold tx2 tx1 tx0
  rw [h]
  rfl
theorem reprY_sh {w p l : Nat} [ta : Sh d w p l] (hl : l ≤ 1800) (hp : p ≤ 20) (hw : w ≤ 900000) : reprYD rp [d] m = some (.str (shwD d), m) := by
  have e := q_repr (m := m) (d := d) hl hp hw
  have e2 : (shownD m d).map (fun x => (D.str x, m)) = some (.str (shwD d), m) := e
  obtain ⟨x, h1, h2⟩ := Option.map_eq_some_iff.mp e2
  cases h2
  exact reprY_plain h1
end Tab

set_option Elab.async false
set_option linter.all false
set_option maxRecDepth 100000
set_option maxHeartbeats 4000000
set_option autoImplicit false
/-! k17: what its defs compute. -/
namespace Lk17
open PySem L2 Kb Tab
noncomputable section
def rps : Rps := fun | 1 => some ("Table(", 0, ")") | _ => none
def b_law_pot : SS := seqS (setS (.n 2) (iteE (tstB (bin ltD (var 1) (app lenD (argC (var 0) argN)))) (app absD (argC (bin ixD (var 0) (var 1)) argN)) (bin addD (bin mulD (cst (.int 367)) (var 1)) (cst (.int 139))))) (retS (lstNE (argC (app maxD (argC (cst (.int 0)) (argC (bin subD (var 2) (bin powD (cst (.int 10)) (cst (.int 18)))) argN))) (argC (bin addD (bin modD (app intD (argC (bin addD (bin addD (bin mulD (bin modD (app intD (argC (var 2) argN)) (cst (.int 2147483549))) (cst (.int 40189))) (bin mulD (cst (.int 6299)) (var 1))) (cst (.int 97))) argN)) (cst (.int 2147483563))) (cst (.int 1))) argN))))
def f_law_pot : Fs := runB outL 3 2 b_law_pot
def b_is_count : SS := retS (andE (app f_is_integer (argC (var 0) argN)) (bin geD (var 0) (cst (.int 0))))
def f_is_count : Fs := runB outP 1 1 b_is_count
def b_want_many : SS := ifS (orB (notB (tstE (app f_is_integer (argC (var 0) argN)))) (orB (tstB (bin ltD (var 0) (var 2))) (andB (tstB (bin notNoneD (var 1) (cst .non))) (tstB (bin gtD (var 0) (var 1)))))) noS skS
def f_want_many : Fs := runB outP 3 3 b_want_many
def b_is_word : SS := seqS (dropS (app f_want_many (argC (var 1) (argC (cst (.int 4)) (argC (cst (.int 1)) argN))))) (retS (app f_is_word_of (argC (var 0) (argC (var 1) argN))))
def f_is_word : Fs := runB outP 2 2 b_is_word
def b_law_draw : SS := seqS (ifS (tstB (bin gtD (bin ixD (var 0) (cst (.int 0))) (cst (.int 0)))) (seqS (asgS (app divmodD (argC (bin ixD (var 0) (cst (.int 0))) (argC (var 1) argN))) (tupG 2 (consG (subG (var 0) (cst (.int 0))) (consG (tgG (.n 2)) nilG)))) (retS (var 2))) skS) (seqS (asgS (bin modD (app intD (argC (bin addD (bin mulD (bin ixD (var 0) (cst (.int 1))) (cst (.int 39619))) (cst (.int 30047))) argN)) (cst (.int 2147483563))) (subG (var 0) (cst (.int 1)))) (retS (bin modD (app intD (argC (bin divD (bin modD (app intD (argC (bin mulD (bin ixD (var 0) (cst (.int 1))) (bin ixD (var 0) (cst (.int 1)))) argN)) (cst (.int 2147483549))) (cst (.int 23))) argN)) (var 1))))
def f_law_draw : Fs := runB outP 3 2 b_law_draw
def b_law_is_list : SS := retS (isiE (isB [.list, .tuple]) (var 0))
def f_law_is_list : Fs := runB outP 1 1 b_law_is_list
def b_law_is_number : SS := retS (andE (isiE (isB [.int]) (var 0)) (notE (isiE (isB [.bool]) (var 0))))
def f_law_is_number : Fs := runB outP 1 1 b_law_is_number
def b_law_is_row : SS := retS (andE (app f_law_is_list (argC (var 0) argN)) (andE (chnE leD leD (cst (.int 1)) (app lenD (argC (var 0) argN)) (cst (.int 3))) (app allD (argC (lcE (itE (var 0)) (.n 1) [1] yesB (app f_law_is_number (argC (var 1) argN))) argN))))
def f_law_is_row : Fs := runB outP 2 1 b_law_is_row
def b_law_is_word : SS := seqS (ifS (orB (notB (tstE (app f_law_is_list (argC (var 0) argN)))) (tstB (bin gtD (app lenD (argC (var 0) argN)) (cst (.int 60))))) (retS (cst (.bl false))) skS) (retS (app allD (argC (lcE (itE (var 0)) (.n 2) [2] yesB (andE (app f_law_is_number (argC (var 2) argN)) (chnE leD leD (cst (.int 1)) (app absD (argC (var 2) argN)) (var 1)))) argN)))
def f_law_is_word : Fs := runB outP 3 2 b_law_is_word
abbrev f_law_pick := Tab.f_law_pick f_law_draw
def b_law_things : SS := seqS (setS (.n 1) (lstNE (argC (cst .non) (argC (cst (.int 0)) (argC (cst (.int 1)) (argC (una negD (cst (.int 1))) (argC (cst (.bl true)) (argC (cst (.bl false)) (argC (cst (.str "")) (argC (cst (.str "1")) (argC (cst (.str "12")) (argC (dicC [] []) (argC (dicC [1] [1]) (argC (lstE argN) (argC (tupE argN) (argC (lstE (argC (lstE argN) argN)) (argC (lstE (argC (cst .non) argN)) (argC (app f_idle (argC (cst (.int 2)) argN)) (argC (bin powD (cst (.int 10)) (cst (.int 25))) (argC (una negD (bin powD (cst (.int 10)) (cst (.int 25)))) (argC (bin mulD (lstE (argC (cst (.int 1)) argN)) (cst (.int 60))) (argC (bin mulD (lstE (argC (cst (.int 1)) argN)) (cst (.int 61))) argN)))))))))))))))))))))) (seqS (setS (.n 1) (bin addND (var 1) (lstE (argC (lstE (argC (cst (.int 0)) argN)) (argC (lstE (argC (cst (.bl true)) argN)) (argC (tupE (argC (cst (.int 1)) (argC (cst (.int 0)) argN))) (argC (lstE (argC (cst (.int 0)) (argC (cst (.bl true)) argN))) (argC (lstE (argC (cst (.int 1)) argN)) (argC (tupE (argC (una negD (cst (.int 1))) (argC (cst (.int 1)) argN))) argN))))))))) (seqS (forS (rng1 (argC (cst (.int 4)) argN)) (.n 2) (seqS (setS (.n 3) (lcE (rng1 (argC (app f_law_draw (argC (var 0) (argC (cst (.int 6)) argN))) argN)) (.n 4) [4] yesB (bin mulD (bin addD (cst (.int 1)) (app f_law_draw (argC (var 0) (argC (cst (.int 4)) argN)))) (bin subD (cst (.int 1)) (bin mulD (cst (.int 2)) (app f_law_draw (argC (var 0) (argC (cst (.int 2)) argN)))))))) (seqS (ownS 5 (listA (var 3))) (seqS (ifS (tstB (oeqE true 5 (lstE argN))) (asgS (app f_law_pick (argC (var 0) (argC (lstE (argC (cst (.bl true)) (argC (cst (.bl false)) (argC (cst .non) (argC (cst (.str "1")) (argC (cst (.int 0)) (argC (lstE (argC (cst (.int 1)) argN)) (argC (cst (.int 5)) (argC (una negD (cst (.int 5))) (argC (bin powD (cst (.int 10)) (cst (.int 20))) (argC (tupE argN) (argC (dicC [] []) argN)))))))))))) argN))) (subO 5 (app f_law_draw (argC (var 0) (argC (olenE 5) argN))))) skS) (seqS (relS 5) (dropS (methE extendD (var 1) (argC (lstE (argC (var 3) (argC (app tupleD (argC (var 3) argN)) (argC (var 5) (argC (app tupleD (argC (var 5) argN)) (argC (lstE (argC (var 3) argN)) argN)))))) argN)))))))) (retS (var 1))))
def f_law_things : Fs := runB outV 6 1 b_law_things
def b_law_right : SS := seqS (setS (.n 1) (bin addD (cst (.int 1)) (app f_law_draw (argC (var 0) (argC (cst (.int 4)) argN))))) (seqS (forS (itE (app f_law_things (argC (var 0) argN))) (.n 2) (seqS (setS (.n 3) (app (reprZD rps) (argC (var 2) argN))) (seqS (setS (.n 4) (lstE (argC (app f_law_is_number (argC (var 2) argN)) (argC (andE (app f_law_is_number (argC (var 2) argN)) (bin geD (var 2) (cst (.int 0)))) (argC (app f_law_is_list (argC (var 2) argN)) (argC (app f_law_is_row (argC (var 2) argN)) (argC (app f_law_is_word (argC (var 2) (argC (var 1) argN))) argN))))))) (seqS (ifS (tstB (bin neD (app (reprZD rps) (argC (lstE (argC (app f_is_integer (argC (var 2) argN)) (argC (app f_is_count (argC (var 2) argN)) (argC (app f_is_list (argC (var 2) argN)) (argC (app f_is_row (argC (var 2) argN)) (argC (app f_is_word (argC (var 2) (argC (var 1) argN))) argN)))))) argN)) (app (reprZD rps) (argC (var 4) argN)))) (retS (cst (.bl false))) skS) (seqS (setS (.n 5) (lstE (argC (appK 0 1 [0] f_is_integer argN (argC (var 2) argN)) (argC (appK 0 1 [0] f_is_count argN (argC (var 2) argN)) (argC (appK 0 1 [0] f_is_list argN (argC (var 2) argN)) (argC (appK 0 1 [0] f_is_row argN (argC (var 2) argN)) (argC (appK 0 2 [1, 0] f_is_word argN (argC (var 1) (argC (var 2) argN))) argN))))))) (ifS (orB (tstB (bin neD (app (reprZD rps) (argC (var 5) argN)) (app (reprZD rps) (argC (var 4) argN)))) (tstB (bin neD (app (reprZD rps) (argC (var 2) argN)) (var 3)))) (retS (cst (.bl false))) skS)))))) (retS (cst (.bl true))))
def f_law_right : Fs := runB outP 6 1 b_law_right
def b_law : SS := retS (app allD (argC (lcE (rng1 (argC (app maxD (argC (cst (.int 1)) (argC (app minD (argC (cst (.int 3)) (argC (app lenD (argC (var 0) argN)) argN))) argN))) argN)) (.n 1) [1] yesB (app f_law_right (argC (app f_law_pot (argC (var 0) (argC (var 1) argN))) argN))) argN))
def f_law : Fs := runB outV 2 1 b_law
end
end Lk17

set_option Elab.async false
set_option linter.all false
set_option maxRecDepth 100000
set_option maxHeartbeats 8000000
set_option autoImplicit false
/-! Pk17: any values as rows and words: the plain law. -/
namespace Lk17
open PySem L2 Kb Tab
variable {m : Mem}
def isI : D → Bool
  | .int _ => true
  | _ => false
def El (d : D) : Prop := isOwn d = false ∧ (∀ n, below n d = true) ∧ ∃ t, (∀ m, tyD m d = some t) ∧ isB [.int] t = (isI d || isB [.bool] t) ∧ (isI d && isB [.bool] t) = false
theorem el_non : El .non := ⟨rfl, fun _ => rfl, _, fun _ => rfl, rfl, rfl⟩
theorem el_bl {b : Bool} : El (.bl b) := ⟨rfl, fun _ => rfl, _, fun _ => rfl, rfl, rfl⟩
theorem el_int {b : Int} : El (.int b) := ⟨rfl, fun _ => rfl, _, fun _ => rfl, rfl, rfl⟩
theorem el_str {b : Str} : El (.str b) := ⟨rfl, fun _ => rfl, _, fun _ => rfl, rfl, rfl⟩
theorem belows_of {n : Nat} : ∀ {xs : List D}, (∀ x ∈ xs, El x) → belows n xs = true
  | [], _ => rfl
  | x :: xs, h => by
    show (below n x && belows n xs) = true
    rw [(h x List.mem_cons_self).2.1 n, belows_of fun y hy => h y (List.mem_cons_of_mem _ hy)]
    rfl
theorem el_lst {xs : List D} (h : ∀ x ∈ xs, El x) : El (.lst xs) := ⟨rfl, fun _ => belows_of h, _, fun _ => rfl, rfl, rfl⟩
theorem el_tup {xs : List D} (h : ∀ x ∈ xs, El x) : El (.tup xs) := ⟨rfl, fun _ => belows_of h, _, fun _ => rfl, rfl, rfl⟩
theorem isnum {d : D} (h : El d) : f_law_is_number [d] m = some (.bl (isI d), m) := by
  obtain ⟨ho, _, t, h1, h2, h3⟩ := h
  refine run_p rfl ?_
  cases e : isI d <;> cases e2 : isB [.bool] t <;> rw [e, e2] at h2 h3 <;> simp_all [b_law_is_number]
/-! ### texts -/
def Sw (k L : Nat) (d : D) : Prop := ∃ p, toPX d = some p ∧ p.showable = true ∧ p.depth ≤ k ∧ p.shown.length ≤ L
theorem Sw.up {k L k2 L2 : Nat} {d : D} (h : Sw k L d) (h1 : k ≤ k2) (h2 : L ≤ L2) : Sw k2 L2 d := by
  obtain ⟨p, a, b, c, e⟩ := h
  exact ⟨p, a, b, Nat.le_trans c h1, Nat.le_trans e h2⟩
theorem piled_le {L : Nat} : ∀ {ts : List Str}, (∀ t ∈ ts, t.length ≤ L) → PySem.piled ts ≤ ts.length * (L + 2)
  | [], _ => by simp [piled_nil]
  | t :: ts, h => by
    have h1 := h t List.mem_cons_self
    have h2 := piled_le fun y hy => h y (List.mem_cons_of_mem _ hy)
    rw [piled_cons, List.length_cons, Nat.succ_mul]
    omega
theorem sws {k L : Nat} : ∀ {xs : List D}, (∀ x ∈ xs, Sw k L x) → ∃ ps, toPXs xs = some ps ∧ PyData.showableAll ps = true ∧ PyData.depthAll ps ≤ k ∧ (PyData.shownAll ps).length = xs.length ∧ ∀ t ∈ PyData.shownAll ps, t.length ≤ L
  | [], _ => ⟨[], by simp [toPXs], rfl, Nat.zero_le _, rfl, fun _ h => nomatch h⟩
  | x :: xs, h => by
    obtain ⟨p, a, b, c, e⟩ := h x List.mem_cons_self
    obtain ⟨ps, a1, b1, c1, d1, e1⟩ := sws fun y hy => h y (List.mem_cons_of_mem _ hy)
    refine ⟨p :: ps, by simp [toPXs, a, a1], by simp [PyData.showableAll, b, b1], by simp only [PyData.depthAll]; omega, by simp [PyData.shownAll, d1], fun t ht => ?_⟩
    simp only [PyData.shownAll] at ht
    rcases List.mem_cons.mp ht with z | z
    · rw [z]; exact e
    · exact e1 t z
theorem sw_lst {k L n : Nat} {xs : List D} (h : ∀ x ∈ xs, Sw k L x) (hn : xs.length ≤ n) : Sw (k + 1) (n * (L + 2) + 3) (.lst xs) := by
  obtain ⟨ps, a, b, c, d, e⟩ := sws h
  refine ⟨.list ps, by simp [toPX, a], by simpa [PyData.showable] using b, by simp only [PyData.depth]; omega, ?_⟩
  have le := listText_len_le (PyData.shownAll ps)
  have pl := piled_le e
  rw [d] at pl
  have : xs.length * (L + 2) ≤ n * (L + 2) := Nat.mul_le_mul_right _ hn
  have e3 : PySem.piled (PyData.shownAll ps) = ((PyData.shownAll ps).map (·.length)).sum + 2 * (PyData.shownAll ps).length := by
    generalize PyData.shownAll ps = ts
    induction ts with
    | nil => rfl
    | cons t ts ih => rw [piled_cons, ih, List.map_cons, List.sum_cons, List.length_cons]; omega
  show (listText (PyData.shownAll ps)).length ≤ _
  omega
theorem sw_tup {k L n : Nat} {xs : List D} (h : ∀ x ∈ xs, Sw k L x) (hn : xs.length ≤ n) : Sw (k + 1) (n * (L + 2) + 3) (.tup xs) := by
  obtain ⟨ps, a, b, c, d, e⟩ := sws h
  refine ⟨.tuple ps, by simp [toPX, a], by simpa [PyData.showable] using b, by simp only [PyData.depth]; omega, ?_⟩
  have pl := piled_le e
  rw [d] at pl
  have : xs.length * (L + 2) ≤ n * (L + 2) := Nat.mul_le_mul_right _ hn
  have je : (Str.join ", " (PyData.shownAll ps)).length ≤ PySem.piled (PyData.shownAll ps) := by
    generalize PyData.shownAll ps = ts
    cases ts with
    | nil => exact Nat.zero_le _
    | cons t ts =>
      have := join_length_add (t :: ts) (by simp)
      omega
  show (tupleText (PyData.shownAll ps)).length ≤ _
  unfold tupleText
  rw [strLen_append, strLen_append]
  have z1 : (("(" : String) : Str).length = 1 := rfl
  have z2 : ∀ b : Bool, (((if b = true then ",)" else ")" : String)) : Str).length ≤ 2 := fun b => by cases b <;> decide
  have z3 := z2 ((PyData.shownAll ps).length == 1)
  omega
theorem zd_str {rp : Rps} {as : List D} {x : D × Mem} (h : reprYD rp as m = some x) : ∃ t, x = (.str t, m) := by
  unfold reprYD at h
  split at h
  · obtain ⟨t, _, rfl⟩ := Option.map_eq_some_iff.mp h
    exact ⟨t, rfl⟩
  · cases h

/-! ### things -/
def lsq : D → Option (List D)
  | .lst xs => some xs
  | .tup xs => some xs
  | _ => none
structure Thing (d : D) : Prop where
  el : El d
  it : match lsq d with
    | some xs => xs.length ≤ 100 ∧ ∀ x ∈ xs, El x
    | none => ∀ m, ∃ t, tyD m d = some t ∧ isB [.list, .tuple] t = false
  tx : ∀ m, ∃ t, reprZD rps [d] m = some (.str t, m)
theorem zsome {rp : Rps} {d : D} {m : Mem} {x : D × Mem} (h : reprYD rp [d] m = some x) : reprZD rp [d] m = some x := by
  unfold reprZD
  rw [h]
theorem tx_Y {rp : Rps} {d : D} {t : Mem → Str} (h : ∀ m, reprYD rp [d] m = some (.str (t m), m)) : ∀ m, ∃ t, reprZD rp [d] m = some (.str t, m) := fun m => ⟨t m, zsome (h m)⟩
theorem tx_X {d : D} (h : Sw 20 1000000 d) (hs : (∃ xs, d = .lst xs) ∨ (∃ xs, d = .tup xs) ∨ ∃ ks vs, d = .dic ks vs) : ∀ m, ∃ t, reprZD rps [d] m = some (.str t, m) := fun m => by
  obtain ⟨p, a, b, c, e⟩ := h
  have sx : shownX d = some p.shown := by
    unfold shownX
    rw [a, Option.bind_some, if_pos ⟨b, c, e⟩]
  cases hy : reprYD rps [d] m with
  | some x =>
    obtain ⟨t, rfl⟩ := zd_str hy
    exact ⟨t, zsome hy⟩
  | none =>
    refine ⟨p.shown, ?_⟩
    unfold reprZD
    rw [hy]
    rcases hs with ⟨xs, rfl⟩ | ⟨xs, rfl⟩ | ⟨ks, vs, rfl⟩ <;> simp [sx]

theorem lc_is {te : SE} {g : D → Bool} {put : D → Ev → Option Ev} {env : Ev} : ∀ {ds : List D}, (∀ d ∈ ds, ∃ env1, put d env = some env1 ∧ te env1 m = some (.bl (g d), m)) → lcL put yesB te env ds m = some ((ds.map g).map D.bl, m)
  | [], _ => rfl
  | d :: ds, h => by
    obtain ⟨env1, h1, h2⟩ := h d List.mem_cons_self
    have ih := lc_is fun y hy => h y (List.mem_cons_of_mem _ hy)
    rw [lcL_cons, h1]
    simp [h2, ih]
theorem islist {d : D} (h : Thing d) : f_law_is_list [d] m = some (.bl (lsq d).isSome, m) := by
  have ho := h.el.1
  have hi := h.it
  refine run_p rfl ?_
  cases e : lsq d with
  | some xs =>
    have : d = .lst xs ∨ d = .tup xs := by
      cases d <;> simp [lsq] at e <;> simp [e]
    rcases this with rfl | rfl <;> simp [b_law_is_list, tyD, isB, isTb]
  | none =>
    rw [e] at hi
    obtain ⟨t, h1, h2⟩ := hi m
    simp [b_law_is_list, ho, h1, h2]
def rowB (d : D) : Bool := match lsq d with
  | some xs => decide (1 ≤ xs.length ∧ xs.length ≤ 3) && xs.all isI
  | none => false
def letB (k : Nat) : D → Bool
  | .int i => decide (1 ≤ (if i < 0 then -i else i) ∧ (if i < 0 then -i else i) ≤ (k : Int))
  | _ => false
def wordB (k : Nat) (d : D) : Bool := match lsq d with
  | some xs => decide (xs.length ≤ 60) && xs.all (letB k)
  | none => false
theorem isrow {d : D} (h : Thing d) : f_law_is_row [d] m = some (.bl (rowB d), m) := by
  have ho := h.el.1
  have hi := h.it
  have il := islist h (m := m)
  refine run_p rfl ?_
  cases e : lsq d with
  | some xs =>
    rw [e] at hi il
    obtain ⟨hl, hx⟩ := hi
    have lc : ∀ d, lcL (Tg.n 1).put yesB (app f_law_is_number (argC (var 1) argN)) [some d, none] xs m = some ((xs.map isI).map D.bl, m) := fun d => lc_is fun y hy => ⟨_, rfl, by simp [(hx y hy).1, isnum (hx y hy)]⟩
    have hl2 : xs.length ≤ 100000 := by omega
    have dd : d = .lst xs ∨ d = .tup xs := by
      cases d <;> simp [lsq] at e <;> simp [e]
    have er : rowB d = (decide (1 ≤ xs.length ∧ xs.length ≤ 3) && xs.all isI) := by unfold rowB; rw [e]
    rw [er]
    by_cases h1 : 1 ≤ xs.length
    · have h1' : (1 : Int) ≤ xs.length := by omega
      by_cases h3 : xs.length ≤ 3
      · have h3' : (xs.length : Int) ≤ 3 := by omega
        rcases dd with rfl | rfl <;> simp [b_law_is_row, il, h1, h1', h3, h3', lc, hl2, allD_bls, -List.map_map]
      · have h3' : ¬ (xs.length : Int) ≤ 3 := by omega
        rcases dd with rfl | rfl <;> simp [b_law_is_row, il, h1, h1', h3, h3', hl2]
    · have h1' : ¬ (1 : Int) ≤ xs.length := by omega
      rcases dd with rfl | rfl <;> simp [b_law_is_row, il, h1, h1', hl2]
  | none =>
    rw [e] at il
    have er : rowB d = false := by unfold rowB; rw [e]
    rw [er]
    simp [b_law_is_row, ho, il]
theorem isword {d : D} {k : Nat} (h : Thing d) : f_law_is_word [d, .int (k : Int)] m = some (.bl (wordB k d), m) := by
  have ho := h.el.1
  have hi := h.it
  have il := islist h (m := m)
  refine run_p rfl ?_
  cases e : lsq d with
  | some xs =>
    rw [e] at hi il
    obtain ⟨hl, hx⟩ := hi
    have lc : ∀ d, lcL (Tg.n 2).put yesB (andE (app f_law_is_number (argC (var 2) argN)) (chnE leD leD (cst (.int 1)) (app absD (argC (var 2) argN)) (var 1))) [some d, some (.int (k : Int)), none] xs m = some ((xs.map (letB k)).map D.bl, m) := fun d => lc_is fun y hy => ⟨_, rfl, by
      have hn := isnum (hx y hy) (m := m)
      have hy1 := (hx y hy).1
      cases y with
      | int i =>
        by_cases h1 : 1 ≤ (if i < 0 then -i else i) <;> by_cases h2 : (if i < 0 then -i else i) ≤ (k : Int) <;> simp [hn, isI, absD, letB, h1, h2]
      | _ => simp_all [isI, letB]⟩
    have hl2 : xs.length ≤ 100000 := by omega
    have dd : d = .lst xs ∨ d = .tup xs := by
      cases d <;> simp [lsq] at e <;> simp [e]
    have er : wordB k d = (decide (xs.length ≤ 60) && xs.all (letB k)) := by unfold wordB; rw [e]
    rw [er]
    by_cases h3 : xs.length ≤ 60
    · have h3' : ¬ (60 : Int) < xs.length := by omega
      rcases dd with rfl | rfl <;> simp [b_law_is_word, il, h3, h3', lc, hl2, allD_bls, -List.map_map]
    · have h3' : (60 : Int) < xs.length := by omega
      rcases dd with rfl | rfl <;> simp [b_law_is_word, il, h3, h3', hl2]
  | none =>
    rw [e] at il
    have er : wordB k d = false := by unfold wordB; rw [e]
    rw [er]
    simp [b_law_is_word, ho, il]

/-! ### one turn -/
theorem isint {d : D} (h : El d) : f_is_integer [d] m = some (.bl (isI d), m) := isnum h
theorem islist2 {d : D} (h : Thing d) : f_is_list [d] m = some (.bl (lsq d).isSome, m) := islist h
theorem isrow2 {d : D} (h : Thing d) : f_is_row [d] m = some (.bl (rowB d), m) := isrow h
theorem iswordof {d : D} {k : Nat} (h : Thing d) : f_is_word_of [d, .int (k : Int)] m = some (.bl (wordB k d), m) := isword h
def cntB : D → Bool
  | .int i => decide (0 ≤ i)
  | _ => false
theorem count {d : D} (h : El d) : f_is_count [d] m = some (.bl (cntB d), m) := by
  have hn := isint h (m := m)
  have ho := h.1
  refine run_p rfl ?_
  cases d with
  | int i => simp [b_is_count, hn, isI, cntB]
  | _ => simp_all [b_is_count, isI, cntB]
theorem countE {d : D} (h : El d) : (if isI d = true then geD d (.int 0) m else some (.bl (isI d), m)) = some (.bl (cntB d), m) := by
  cases d with
  | int i => simp [isI, cntB]
  | _ => simp_all [isI, cntB]
theorem isword2 {d : D} {k : Nat} (h : Thing d) (h1 : 1 ≤ k) (h4 : k ≤ 4) : f_is_word [d, .int (k : Int)] m = some (.bl (wordB k d), m) := by
  have hw := iswordof h (m := m) (k := k)
  have ho := h.el.1
  have hn : f_is_integer [.int (k : Int)] m = some (.bl true, m) := isint el_int
  have h1' : ¬ (k : Int) < 1 := by omega
  have h4' : ¬ (4 : Int) < k := by omega
  have hm : f_want_many [.int (k : Int), .int 4, .int 1] m = some (.non, m) := by
    refine run_pn (env := [some (.int (k : Int)), some (.int 4), some (.int 1)]) rfl ?_
    have nn : ∀ m, notNoneD (.int 4) .non m = some (.bl true, m) := fun _ => rfl
    simp [b_want_many, hn, h1', h4', nn]
  refine run_p rfl ?_
  simp [b_is_word, hm, hw, ho]
def bl5 (a b c d e : Bool) : D := .lst [.bl a, .bl b, .bl c, .bl d, .bl e]
theorem tx5 {a b c d e : Bool} : reprZD rps [bl5 a b c d e] m = some (.str (shwD (bl5 a b c d e)), m) := by
  unfold bl5
  exact zsome (reprY_sh (by decide) (by decide) (by decide))
noncomputable def turnB : SS := seqS (setS (.n 3) (app (reprZD rps) (argC (var 2) argN))) (seqS (setS (.n 4) (lstE (argC (app f_law_is_number (argC (var 2) argN)) (argC (andE (app f_law_is_number (argC (var 2) argN)) (Kb.bin geD (var 2) (cst (.int 0)))) (argC (app f_law_is_list (argC (var 2) argN)) (argC (app f_law_is_row (argC (var 2) argN)) (argC (app f_law_is_word (argC (var 2) (argC (var 1) argN))) argN))))))) (seqS (ifS (tstB (Kb.bin neD (app (reprZD rps) (argC (lstE (argC (app f_is_integer (argC (var 2) argN)) (argC (app f_is_count (argC (var 2) argN)) (argC (app f_is_list (argC (var 2) argN)) (argC (app f_is_row (argC (var 2) argN)) (argC (app f_is_word (argC (var 2) (argC (var 1) argN))) argN)))))) argN)) (app (reprZD rps) (argC (var 4) argN)))) (retS (cst (.bl false))) skS) (seqS (setS (.n 5) (lstE (argC (appK 0 1 [0] f_is_integer argN (argC (var 2) argN)) (argC (appK 0 1 [0] f_is_count argN (argC (var 2) argN)) (argC (appK 0 1 [0] f_is_list argN (argC (var 2) argN)) (argC (appK 0 1 [0] f_is_row argN (argC (var 2) argN)) (argC (appK 0 2 [1, 0] f_is_word argN (argC (var 1) (argC (var 2) argN))) argN))))))) (ifS (orB (tstB (Kb.bin neD (app (reprZD rps) (argC (var 5) argN)) (app (reprZD rps) (argC (var 4) argN)))) (tstB (Kb.bin neD (app (reprZD rps) (argC (var 2) argN)) (var 3)))) (retS (cst (.bl false))) skS))))
theorem turn {q d : D} {k : Nat} {o3 o4 o5 : Option D} (h : Thing d) (h1 : 1 ≤ k) (h4 : k ≤ 4) : ∃ p3 p4 p5, turnB [some q, some (.int (k : Int)), some d, o3, o4, o5] m = some (.nx [some q, some (.int (k : Int)), some d, p3, p4, p5] m) := by
  obtain ⟨t, ht⟩ := h.tx m
  have ho := h.el.1
  have a1 := isint h.el (m := m)
  have a2 := isnum h.el (m := m)
  have a3 := islist h (m := m)
  have a4 := islist2 h (m := m)
  have a5 := isrow h (m := m)
  have a6 := isrow2 h (m := m)
  have a7 := isword h (m := m) (k := k)
  have a8 := isword2 h h1 h4 (m := m)
  have a9 := count h.el (m := m)
  have ce := countE h.el (m := m)
  have t5 := tx5 (m := m) (a := isI d) (b := cntB d) (c := (lsq d).isSome) (d := rowB d) (e := wordB k d)
  unfold bl5 at t5
  refine ⟨some (.str t), some (bl5 (isI d) (cntB d) (lsq d).isSome (rowB d) (wordB k d)), some (bl5 (isI d) (cntB d) (lsq d).isSome (rowB d) (wordB k d)), ?_⟩
  simp [turnB, ht, ho, a1, a2, a3, a4, a5, a6, a7, a8, a9, ce, t5, bl5, pick]
theorem loop {q : D} {k : Nat} {o2 o3 o4 o5 : Option D} {ds : List D} (h1 : 1 ≤ k) (h4 : k ≤ 4) (h : ∀ d ∈ ds, Thing d) : ∃ env', forL (Tg.n 2).put turnB ds [some q, some (.int (k : Int)), o2, o3, o4, o5] m = some (.nx env' m) := by
  obtain ⟨env', m', e, _, rfl⟩ := forL_inv (put := (Tg.n 2).put) (body := turnB) (fun env m1 => (∃ o2 o3 o4 o5, env = [some q, some (.int (k : Int)), o2, o3, o4, o5]) ∧ m1 = m) ds [some q, some (.int (k : Int)), o2, o3, o4, o5] m ⟨⟨_, _, _, _, rfl⟩, rfl⟩ fun d hd env m1 hI => by
    obtain ⟨⟨o2, o3, o4, o5, rfl⟩, rfl⟩ := hI
    obtain ⟨p3, p4, p5, ht⟩ := turn (h d hd) h1 h4 (m := m1) (q := q) (o3 := o3) (o4 := o4) (o5 := o5)
    exact ⟨_, _, rfl, ht, ⟨_, _, _, _, rfl⟩, rfl⟩
  exact ⟨env', e⟩

/-! ### the things -/
theorem thing_lst {k L : Nat} {xs : List D} (n : Nat) (h : ∀ x ∈ xs, El x ∧ Sw k L x) (hn : xs.length ≤ n) (hk : k ≤ 19 := by decide) (hL : n * (L + 2) + 3 ≤ 1000000 := by decide) (hx : n ≤ 100 := by decide) : Thing (.lst xs) :=
  ⟨el_lst fun x hx => (h x hx).1, ⟨Nat.le_trans hn hx, fun x hx => (h x hx).1⟩, tx_X ((sw_lst (fun x hx => (h x hx).2) hn).up (by omega) hL) (.inl ⟨_, rfl⟩)⟩
theorem thing_tup {k L : Nat} {xs : List D} (n : Nat) (h : ∀ x ∈ xs, El x ∧ Sw k L x) (hn : xs.length ≤ n) (hk : k ≤ 19 := by decide) (hL : n * (L + 2) + 3 ≤ 1000000 := by decide) (hx : n ≤ 100 := by decide) : Thing (.tup xs) :=
  ⟨el_tup fun x hx => (h x hx).1, ⟨Nat.le_trans hn hx, fun x hx => (h x hx).1⟩, tx_X ((sw_tup (fun x hx => (h x hx).2) hn).up (by omega) hL) (.inr (.inl ⟨_, rfl⟩))⟩
def oddsL : List D := [.bl true, .bl false, .non, .str "1", .int 0, .lst [.int 1], .int 5, .int (-5), .int 100000000000000000000, .tup [], .dic [] []]
def smallL : List D := [.int 1, .int 2, .int 3, .int 4, .int (-1), .int (-2), .int (-3), .int (-4)]
def Elem (d : D) : Prop := El d ∧ Sw 3 100 d
theorem el_dic0 : El (.dic [] []) := ⟨rfl, fun _ => rfl, _, fun _ => rfl, rfl, rfl⟩
theorem elem_int {i : Int} (h : (PyData.int i).showable = true ∧ (PyData.int i).shown.length ≤ 100) : Elem (.int i) := ⟨el_int, _, rfl, h.1, Nat.zero_le _, h.2⟩
theorem elem_bl {i : Bool} : Elem (.bl i) := ⟨el_bl, _, rfl, by cases i <;> decide, by cases i <;> decide, by cases i <;> decide⟩
theorem elem_non : Elem .non := ⟨el_non, _, rfl, by decide, by decide, by decide⟩
theorem elem_str1 : Elem (.str "1") := ⟨el_str, _, rfl, by decide +kernel, by decide +kernel, by decide +kernel⟩
theorem elem_tup0 : Elem (.tup []) := ⟨el_tup (fun _ h => nomatch h), ⟨_, rfl, by decide +kernel, by decide +kernel, by decide +kernel⟩⟩
theorem elem_lst0 : Elem (.lst []) := ⟨el_lst (fun _ h => nomatch h), ⟨_, rfl, by decide +kernel, by decide +kernel, by decide +kernel⟩⟩
theorem elem_lst1 : Elem (.lst [.int 1]) := ⟨el_lst (fun x h => by
  rcases List.mem_singleton.mp h with rfl
  exact el_int), ⟨_, rfl, by decide +kernel, by decide +kernel, by decide +kernel⟩⟩
theorem elem_dic0 : Elem (.dic [] []) := ⟨el_dic0, ⟨_, rfl, by decide +kernel, by decide +kernel, by decide +kernel⟩⟩
theorem elem_odd {d : D} (h : d ∈ oddsL) : Elem d := by
  simp only [oddsL, List.mem_cons, List.not_mem_nil, or_false] at h
  rcases h with rfl | rfl | rfl | rfl | rfl | rfl | rfl | rfl | rfl | rfl | rfl
  · exact elem_bl
  · exact elem_bl
  · exact elem_non
  · exact elem_str1
  · exact elem_int (by decide)
  · exact elem_lst1
  · exact elem_int (by decide)
  · exact elem_int (by decide)
  · exact elem_int (by decide +kernel)
  · exact elem_tup0
  · exact elem_dic0
theorem elem_small {d : D} (h : d ∈ smallL) : Elem d := by
  simp only [smallL, List.mem_cons, List.not_mem_nil, or_false] at h
  rcases h with rfl | rfl | rfl | rfl | rfl | rfl | rfl | rfl <;> exact elem_int (by decide)
theorem thing_int {i : Int} {k : Nat} (h : Sm k i) (hk : k ≤ 1800) : Thing (.int i) := by
  haveI : Bi i k := ⟨h⟩
  exact ⟨el_int, fun _ => ⟨_, rfl, rfl⟩, tx_Y fun m => reprY_sh hk (by omega) (by omega)⟩
theorem thing_bl {i : Bool} : Thing (.bl i) := ⟨el_bl, fun _ => ⟨_, rfl, rfl⟩, tx_Y fun m => reprY_sh (by decide) (by decide) (by decide)⟩
theorem thing_non : Thing .non := ⟨el_non, fun _ => ⟨_, rfl, rfl⟩, tx_Y (t := fun _ => "None") fun m => reprY_plain rfl⟩
theorem shown_str {x : Str} (h : (PyData.str x).showable = true ∧ (PyData.str x).hasDict = false ∧ (PyData.str x).depth ≤ 20 ∧ (PyData.str x).shown.length ≤ 1000000) : shownD m (.str x) = some (PyData.str x).shown := by
  unfold shownD
  show (if _ then _ else _) = _
  rw [if_pos h]
theorem thing_s0 : Thing (.str "") := ⟨el_str, fun _ => ⟨_, rfl, rfl⟩, tx_Y (t := fun _ => (PyData.str "").shown) fun m => reprY_plain (shown_str (by decide +kernel))⟩
theorem thing_s1 : Thing (.str "1") := ⟨el_str, fun _ => ⟨_, rfl, rfl⟩, tx_Y (t := fun _ => (PyData.str "1").shown) fun m => reprY_plain (shown_str (by decide +kernel))⟩
theorem thing_s2 : Thing (.str "12") := ⟨el_str, fun _ => ⟨_, rfl, rfl⟩, tx_Y (t := fun _ => (PyData.str "12").shown) fun m => reprY_plain (shown_str (by decide +kernel))⟩
theorem thing_d0 : Thing (.dic [] []) := ⟨el_dic0, fun _ => ⟨_, rfl, rfl⟩, tx_X (Sw.up elem_dic0.2 (by decide) (by decide)) (.inr (.inr ⟨_, _, rfl⟩))⟩
theorem thing_d1 : Thing (.dic ([1].map Sum.inl) ([1].map D.int)) := ⟨⟨rfl, fun _ => rfl, _, fun _ => rfl, rfl, rfl⟩, fun _ => ⟨_, rfl, rfl⟩, tx_X ⟨.dict [(.int 1, .int 1)], rfl, by decide +kernel, by decide +kernel, by decide +kernel⟩ (.inr (.inr ⟨_, _, rfl⟩))⟩
theorem thing_TO : Thing (TO (idL 2)) := by
  haveI t : Tb 2 1 (idL 2) := inst_id
  obtain ⟨z, h, _⟩ := tx_TO (rp := rps) (A := idL 2) (n := 2) (k := 1) rfl (by decide) ⟨by decide, by decide⟩
  exact ⟨⟨rfl, fun _ => rfl, _, fun _ => rfl, rfl, rfl⟩, fun _ => ⟨_, rfl, rfl⟩, tx_Y (t := fun _ => z) fun m => by
    have e : tx2 rps m (TO (idL 2)) = some z := by
      unfold tx2 tx1
      rw [h m]
    unfold reprYD
    simp only [e, Option.map_some]⟩

/-! ### drawing them -/
theorem draws : Draws f_law_draw := draw_ok (c := 39619) (e := 30047) sm_lit (by decide) (by decide)
theorem pots : Pots f_law_pot := pot_ok (c1 := 367) (c2 := 139) (c3 := 40189) (c4 := 6299) (c5 := 97) sm_lit sm_lit sm_lit
def SmI (i : Int) : Prop := D.int i ∈ smallL
theorem small_i {a b : Nat} (ha : (a : Int) < 4) (hb : (b : Int) < 2) : SmI ((1 + (a : Int)) * (1 - 2 * (b : Int))) ∧ Sm 8 (1 + (a : Int)) ∧ Sm 8 (1 - 2 * (b : Int)) := by
  refine ⟨?_, by unfold Sm; omega, by unfold Sm; omega⟩
  have h1 : a = 0 ∨ a = 1 ∨ a = 2 ∨ a = 3 := by omega
  have h2 : b = 0 ∨ b = 1 := by omega
  rcases h1 with rfl | rfl | rfl | rfl <;> rcases h2 with rfl | rfl <;> simp [SmI, smallL]
theorem some_ok {p : Nat} {M : Mem} {o1 o2 o3 o4 o5 : Option D} (hm : Pot M p) : ∃ (r : List Int) (M' : Mem), lcE (rng1 (argC (app f_law_draw (argC (var 0) (argC (cst (.int 6)) argN))) argN)) (.n 4) [4] yesB (Kb.bin mulD (Kb.bin addD (cst (.int 1)) (app f_law_draw (argC (var 0) (argC (cst (.int 4)) argN)))) (Kb.bin subD (cst (.int 1)) (Kb.bin mulD (cst (.int 2)) (app f_law_draw (argC (var 0) (argC (cst (.int 2)) argN)))))) [some (.loc p), o1, o2, o3, o4, o5] M = some (.lst (r.map D.int), M') ∧ Moved p M M' ∧ r.length ≤ 5 ∧ ∀ i ∈ r, SmI i := by
  obtain ⟨c, M1, e1, hc, v1⟩ := draw_i draws 6 hm
  have hr : rng1 (argC (app f_law_draw (argC (var 0) (argC (cst (.int 6)) argN))) argN) [some (.loc p), o1, o2, o3, o4, o5] M = some ((List.range c).map fun (j : Nat) => D.int (j : Int), M1) := rng1_nat (by simp [e1]) (by omega)
  obtain ⟨ys, M2, e2, hI, hl, hy⟩ := lcL_draw (put := (Tg.n 4).put) (te := Kb.bin mulD (Kb.bin addD (cst (.int 1)) (app f_law_draw (argC (var 0) (argC (cst (.int 4)) argN)))) (Kb.bin subD (cst (.int 1)) (Kb.bin mulD (cst (.int 2)) (app f_law_draw (argC (var 0) (argC (cst (.int 2)) argN)))))) (env := [some (.loc p), o1, o2, o3, none, o5]) (P := fun y => ∃ i, y = D.int i ∧ SmI i) (fun m1 => Moved p M1 m1) ((List.range c).map fun (j : Nat) => D.int (j : Int)) M1 v1.1.refl fun d hd m1 hv => by
    obtain ⟨j, _, rfl⟩ := List.mem_map.mp hd
    obtain ⟨a, m2, g1, ha, w1⟩ := draw_i draws 4 hv.1
    obtain ⟨b, m3, g2, hb, w2⟩ := draw_i draws 2 w1.1
    obtain ⟨s1, s2, s3⟩ := small_i ha hb
    have mm := mulD_sm (m := m3) (s2.mono (k := 40) (by decide)) (s3.mono (k := 40) (by decide))
    have mb : mulD (.int 2) (.int (b : Int)) m3 = some (.int (2 * (b : Int)), m3) := mulD_sm (sm_lit (k := 40)) (show Sm 40 (b : Int) by unfold Sm; omega)
    exact ⟨_, _, m3, rfl, by simp [wipeD, g1, g2, mm, mb], ⟨_, rfl, s1⟩, (hv.trans w1).trans w2⟩
  obtain ⟨r, rfl, h1, h2⟩ := of_all ys hy
  have hl2 : r.length = c := by rw [h2, hl, List.length_map, List.length_range]
  refine ⟨r, M2, ?_, v1.trans hI, by omega, h1⟩
  have hl3 : r.length ≤ 100000 := by omega
  simp [hr, e2, hl3]
noncomputable def bentB : SS := ifS (tstB (oeqE true 5 (lstE argN))) (asgS (app f_law_pick (argC (var 0) (argC (lstE (argC (cst (.bl true)) (argC (cst (.bl false)) (argC (cst .non) (argC (cst (.str "1")) (argC (cst (.int 0)) (argC (lstE (argC (cst (.int 1)) argN)) (argC (cst (.int 5)) (argC (una negD (cst (.int 5))) (argC (Kb.bin powD (cst (.int 10)) (cst (.int 20))) (argC (tupE argN) (argC (dicC [] []) argN)))))))))))) argN))) (subO 5 (app f_law_draw (argC (var 0) (argC (olenE 5) argN))))) skS
theorem bent_ok {p : Nat} {M : Mem} {r : List Int} {o1 o2 o3 o4 : Option D} (hm : Pot M p) (hr : r.length ≤ 5) (hs : ∀ i ∈ r, SmI i) : ∃ (ys : List D) (M' : Mem), bentB [some (.loc p), o1, o2, o3, o4, some (.own (r.map D.int))] M = some (.nx [some (.loc p), o1, o2, o3, o4, some (.own ys)] M') ∧ Moved p M M' ∧ ys.length ≤ 5 ∧ ∀ y ∈ ys, Elem y := by
  have hel : ∀ y ∈ r.map D.int, Elem y := fun y hy => by
    obtain ⟨i, hi, rfl⟩ := List.mem_map.mp hy
    exact elem_small (hs i hi)
  have en := eq_none (m := M) (f := r)
  have eld : LD r = .lst (r.map D.int) := rfl
  by_cases h0 : r = []
  · subst h0
    refine ⟨[], M, ?_, hm.refl, Nat.zero_le _, fun _ h => nomatch h⟩
    have en : eqB1 M (.lst []) (.lst []) = some true := en
    simp [bentB, en]
  · have hne : r.isEmpty = false := by simpa using h0
    have hlen : 1 ≤ r.length := List.length_pos_iff.mpr h0
    obtain ⟨d, M1, e1, hd, v1⟩ := pick_draw draws (xs := oddsL) hm (by decide) (by decide)
    obtain ⟨j, M2, e2, hj, v2⟩ := draw_nat draws (k := r.length) v1.1 hlen (by omega)
    refine ⟨(r.map D.int).set j d, M2, ?_, v1.trans v2, by simpa using hr, fun y hy => ?_⟩
    · rw [hne] at en
      unfold oddsL at e1
      have hod : isOwn d = false := (elem_odd hd).1.1
      simp [bentB, en, e1, e2, hj, subO, ixN, Tab.atI_nat, hod, dicC]
    · rcases List.mem_or_eq_of_mem_set hy with z | z
      · exact hel y z
      · rw [z]; exact elem_odd hd

noncomputable def fillB : SS := seqS (setS (.n 3) (lcE (rng1 (argC (app f_law_draw (argC (var 0) (argC (cst (.int 6)) argN))) argN)) (.n 4) [4] yesB (Kb.bin mulD (Kb.bin addD (cst (.int 1)) (app f_law_draw (argC (var 0) (argC (cst (.int 4)) argN)))) (Kb.bin subD (cst (.int 1)) (Kb.bin mulD (cst (.int 2)) (app f_law_draw (argC (var 0) (argC (cst (.int 2)) argN)))))))) (seqS (ownS 5 (listA (var 3))) (seqS bentB (seqS (relS 5) (dropS (methE extendD (var 1) (argC (lstE (argC (var 3) (argC (app tupleD (argC (var 3) argN)) (argC (var 5) (argC (app tupleD (argC (var 5) argN)) (argC (lstE (argC (var 3) argN)) argN)))))) argN))))))
theorem elems_small {r : List Int} (hs : ∀ i ∈ r, SmI i) : ∀ y ∈ r.map D.int, Elem y := fun y hy => by
  obtain ⟨i, hi, rfl⟩ := List.mem_map.mp hy
  exact elem_small (hs i hi)
theorem things5 {r : List Int} {ys : List D} (hr : r.length ≤ 5) (hs : ∀ i ∈ r, SmI i) (hy : ys.length ≤ 5) (h : ∀ y ∈ ys, Elem y) : ∀ d ∈ [D.lst (r.map D.int), .tup (r.map D.int), .lst ys, .tup ys, .lst [.lst (r.map D.int)]], Thing d := fun d hd => by
  have e := elems_small hs
  have hl : (r.map D.int).length ≤ 5 := by simpa using hr
  simp only [List.mem_cons, List.not_mem_nil, or_false] at hd
  rcases hd with rfl | rfl | rfl | rfl | rfl
  · exact thing_lst 5 e hl
  · exact thing_tup 5 e hl
  · exact thing_lst 5 h hy
  · exact thing_tup 5 h hy
  · exact thing_lst 1 (k := 4) (L := 513) (fun x hx => by
      rcases List.mem_singleton.mp hx with rfl
      exact ⟨el_lst fun y hy => (e y hy).1, (sw_lst (fun y hy => (e y hy).2) hl).up (by decide) (by decide)⟩) (by simp)
theorem fill {p : Nat} {m1 : Mem} {c0 : Cell} {xs : List D} {o2 o3 o4 o5 : Option D} (hm : Pot m1 p) (hx : xs.length ≤ 1000) : ∃ (ys : List D) (m2 : Mem) (p3 p4 p5 : Option D), fillB [some (.loc p), some (.loc (m1.length + 1)), o2, o3, o4, o5] (m1 ++ [c0, .lst xs]) = some (.nx [some (.loc p), some (.loc (m1.length + 1)), o2, p3, p4, p5] (m2 ++ [c0, .lst (xs ++ ys)])) ∧ Moved p m1 m2 ∧ ys.length = 5 ∧ ∀ y ∈ ys, Thing y := by
  obtain ⟨r, M', e1, v1, hr, hs⟩ := some_ok (M := m1 ++ [c0, .lst xs]) (o1 := some (.loc (m1.length + 1))) (o2 := o2) (o3 := o3) (o4 := o4) (o5 := o5) hm.appL
  obtain ⟨m2, rfl, w1⟩ := Moved.appL hm v1
  obtain ⟨ys, M'', e2, v2, hy, hy2⟩ := bent_ok (M := m2 ++ [c0, .lst xs]) (r := r) (o1 := some (.loc (m1.length + 1))) (o2 := o2) (o3 := some (.lst (r.map D.int))) (o4 := o4) w1.1.appL hr hs
  obtain ⟨m3, rfl, w2⟩ := Moved.appL w1.1 v2
  have l3 : m1.length = m3.length := by rw [w2.len, w1.len]
  have g1 : (m3 ++ [c0, Cell.lst xs])[m1.length + 1]? = some (Cell.lst xs) := by rw [l3]; exact st1
  have g2 : ∀ c, (m3 ++ [c0, Cell.lst xs]).set (m1.length + 1) c = m3 ++ [c0, c] := fun c => by rw [l3]; exact sl1
  have hl : xs.length + 5 < 100000 := by omega
  have ld : lstD (m3 ++ [c0, Cell.lst xs]) (.loc (m1.length + 1)) = some xs := by
    show cellL (m3 ++ [c0, Cell.lst xs])[m1.length + 1]? = _
    rw [g1]
    rfl
  have th := things5 hr hs hy hy2
  clear v1 v2
  generalize r.map D.int = zs at e1 e2 th
  refine ⟨_, m3, some (.lst zs), o4, some (.lst ys), ?_, w1.trans w2, rfl, th⟩
  simp [fillB, e1, e2, g1, g2, hl, ld, listA, ownS, Kb.relS, extendD, -lcE_rng1]
theorem fills {p : Nat} {m1 : Mem} {c0 : Cell} {xs : List D} {o2 o3 o4 o5 : Option D} (hm : Pot m1 p) (hx : xs.length = 26) (ht : ∀ x ∈ xs, Thing x) : ∃ (ys : List D) (m2 : Mem) (p2 p3 p4 p5 : Option D), forL (Tg.n 2).put fillB ((List.range 4).map fun (j : Nat) => D.int (j : Int)) [some (.loc p), some (.loc (m1.length + 1)), o2, o3, o4, o5] (m1 ++ [c0, .lst xs]) = some (.nx [some (.loc p), some (.loc (m1.length + 1)), p2, p3, p4, p5] (m2 ++ [c0, .lst ys])) ∧ Moved p m1 m2 ∧ ∀ y ∈ ys, Thing y := by
  obtain ⟨env', m', e, ys, m2, p2, p3, p4, p5, rfl, rfl, v, _, hy⟩ := forL_ix (put := (Tg.n 2).put) (body := fillB) (fun i env M => ∃ (ys : List D) (m2 : Mem) (o2 o3 o4 o5 : Option D), env = [some (.loc p), some (.loc (m1.length + 1)), o2, o3, o4, o5] ∧ M = m2 ++ [c0, .lst ys] ∧ Moved p m1 m2 ∧ ys.length = 26 + 5 * i ∧ ∀ y ∈ ys, Thing y) ((List.range 4).map fun (j : Nat) => D.int (j : Int)) 0 [some (.loc p), some (.loc (m1.length + 1)), o2, o3, o4, o5] (m1 ++ [c0, .lst xs]) ⟨xs, m1, _, _, _, _, rfl, rfl, hm.refl, by omega, ht⟩ fun j d hj env M hI => by
    obtain ⟨ys, m2, o2, o3, o4, o5, rfl, rfl, v, hl, hy⟩ := hI
    have hj4 : j < 4 := by
      have := (List.getElem?_eq_some_iff.mp hj).1
      simpa using this
    obtain ⟨zs, m3, p3, p4, p5, e, w, hz, ht⟩ := fill (c0 := c0) (xs := ys) (o2 := some d) (o3 := o3) (o4 := o4) (o5 := o5) v.1 (by omega)
    have l2 : m2.length = m1.length := v.len
    rw [l2] at e
    refine ⟨_, _, rfl, e, ys ++ zs, m3, _, _, _, _, rfl, rfl, v.trans w, by rw [List.length_append, hl, hz]; omega, fun y hy2 => ?_⟩
    rcases List.mem_append.mp hy2 with z | z
    · exact hy y z
    · exact ht y z
  exact ⟨ys, m2, p2, p3, p4, p5, e, v, hy⟩
def baseL : List D := [.non, .int 0, .int 1, .int (-1), .bl true, .bl false, .str "", .str "1", .str "12", .dic [] [], .dic ([1].map Sum.inl) ([1].map D.int), .lst [], .tup [], .lst [.lst []], .lst [.non], TO (idL 2), .int (10 ^ 25), .int (-10 ^ 25), .lst (List.replicate 60 (.int 1)), .lst (List.replicate 61 (.int 1)), .lst [.int 0], .lst [.bl true], .tup [.int 1, .int 0], .lst [.int 0, .bl true], .lst [.int 1], .tup [.int (-1), .int 1]]
theorem base_thing : ∀ d ∈ baseL, Thing d := fun d hd => by
  simp only [baseL, List.mem_cons, List.not_mem_nil, or_false] at hd
  have i0 : Elem (.int 0) := elem_int (by decide)
  have i1 : Elem (.int 1) := elem_int (by decide)
  have im : Elem (.int (-1)) := elem_int (by decide)
  have rep : ∀ n : Nat, ∀ x ∈ List.replicate n (D.int 1), Elem x := fun n x hx => by
    rw [(List.mem_replicate.mp hx).2]
    exact i1
  have two : ∀ {a b : D}, Elem a → Elem b → ∀ x ∈ [a, b], Elem x := fun ha hb x hx => by
    simp only [List.mem_cons, List.not_mem_nil, or_false] at hx
    rcases hx with rfl | rfl
    · exact ha
    · exact hb
  have one : ∀ {a : D}, Elem a → ∀ x ∈ [a], Elem x := fun ha x hx => by
    rcases List.mem_singleton.mp hx with rfl
    exact ha
  rcases hd with rfl | rfl | rfl | rfl | rfl | rfl | rfl | rfl | rfl | rfl | rfl | rfl | rfl | rfl | rfl | rfl | rfl | rfl | rfl | rfl | rfl | rfl | rfl | rfl | rfl | rfl
  · exact thing_non
  · exact thing_int (k := 5) sm_lit (by decide)
  · exact thing_int (k := 5) sm_lit (by decide)
  · exact thing_int (k := 5) sm_lit (by decide)
  · exact thing_bl
  · exact thing_bl
  · exact thing_s0
  · exact thing_s1
  · exact thing_s2
  · exact thing_d0
  · exact thing_d1
  · exact thing_lst 1 (k := 3) (L := 100) (fun x hx => nomatch hx) (by decide)
  · exact thing_tup 1 (k := 3) (L := 100) (fun x hx => nomatch hx) (by decide)
  · exact thing_lst 1 (one elem_lst0) (by decide)
  · exact thing_lst 1 (one elem_non) (by decide)
  · exact thing_TO
  · exact thing_int (k := 100) (by unfold Sm; decide) (by decide)
  · exact thing_int (k := 100) (by unfold Sm; decide) (by decide)
  · exact thing_lst 60 (rep 60) (by rw [List.length_replicate]; exact Nat.le_refl _)
  · exact thing_lst 61 (rep 61) (by rw [List.length_replicate]; exact Nat.le_refl _)
  · exact thing_lst 1 (one i0) (by decide)
  · exact thing_lst 1 (one elem_bl) (by decide)
  · exact thing_tup 2 (two i1 i0) (by decide)
  · exact thing_lst 2 (two i0 elem_bl) (by decide)
  · exact thing_lst 1 (one i1) (by decide)
  · exact thing_tup 2 (two im i1) (by decide)
theorem base_len : baseL.length = 26 := rfl
noncomputable def firstE : SE := lstNE (argC (cst .non) (argC (cst (.int 0)) (argC (cst (.int 1)) (argC (una negD (cst (.int 1))) (argC (cst (.bl true)) (argC (cst (.bl false)) (argC (cst (.str "")) (argC (cst (.str "1")) (argC (cst (.str "12")) (argC (dicC [] []) (argC (dicC [1] [1]) (argC (lstE argN) (argC (tupE argN) (argC (lstE (argC (lstE argN) argN)) (argC (lstE (argC (cst .non) argN)) (argC (app f_idle (argC (cst (.int 2)) argN)) (argC (Kb.bin powD (cst (.int 10)) (cst (.int 25))) (argC (una negD (Kb.bin powD (cst (.int 10)) (cst (.int 25)))) (argC (Kb.bin mulD (lstE (argC (cst (.int 1)) argN)) (cst (.int 60))) (argC (Kb.bin mulD (lstE (argC (cst (.int 1)) argN)) (cst (.int 61))) argN))))))))))))))))))))
noncomputable def restE : SE := Kb.bin addND (var 1) (lstE (argC (lstE (argC (cst (.int 0)) argN)) (argC (lstE (argC (cst (.bl true)) argN)) (argC (tupE (argC (cst (.int 1)) (argC (cst (.int 0)) argN))) (argC (lstE (argC (cst (.int 0)) (argC (cst (.bl true)) argN))) (argC (lstE (argC (cst (.int 1)) argN)) (argC (tupE (argC (una negD (cst (.int 1))) (argC (cst (.int 1)) argN))) argN)))))))
theorem b_split : b_law_things = seqS (setS (.n 1) firstE) (seqS (setS (.n 1) restE) (seqS (forS (rng1 (argC (cst (.int 4)) argN)) (.n 2) fillB) (retS (var 1)))) := rfl
theorem things {p : Nat} (hA : AllP m) (hp : p < m.length) : ∃ (xs : List D) (m' : Mem), f_law_things [.loc p] m = some (.lst xs, m') ∧ Moved p m m' ∧ ∀ x ∈ xs, Thing x := by
  have hm := hA.pot hp
  haveI n2 : Nn 2 := ⟨by decide, by decide⟩
  have eI : ∀ m : Mem, f_idle [.int 2] m = some (TO (idL 2), m) := fun m => q_idle (n := 2)
  obtain ⟨ys, m2, p2, p3, p4, p5, e, v, hy⟩ := fills (m1 := m) (c0 := .lst (baseL.take 20)) (xs := baseL) (o2 := none) (o3 := none) (o4 := none) (o5 := none) hm base_len base_thing
  have l2 : m2.length = m.length := v.len
  refine ⟨ys, m2, ?_, v, hy⟩
  have s1 : m.length + 1 = (m ++ [Cell.lst (baseL.take 20)]).length := by simp
  have body : b_law_things [some (.loc p), none, none, none, none, none] m = some (.rt (.loc (m.length + 1)) (m2 ++ [.lst (baseL.take 20), .lst ys])) := by
    have ld : lstD (m ++ [Cell.lst (baseL.take 20)]) (.loc m.length) = some (baseL.take 20) := by
      show cellL (m ++ [Cell.lst (baseL.take 20)])[m.length]? = _
      rw [store_get0]
      rfl
    have r4 : ∀ {M : Mem} {env : Ev}, (rng1 (argC (cst (.int 4)) argN)).run env M = some ((List.range 4).map fun (j : Nat) => D.int (j : Int), M) := rngc 4 rfl
    have q1 : firstE [some (.loc p), none, none, none, none, none] m = some (.loc m.length, m ++ [Cell.lst (baseL.take 20)]) := by
      simp [firstE, eI, dicC, mulD, baseL]
    have q2 : restE [some (.loc p), some (.loc m.length), none, none, none, none] (m ++ [Cell.lst (baseL.take 20)]) = some (.loc (m.length + 1), m ++ [Cell.lst (baseL.take 20), Cell.lst baseL]) := by
      simp [restE, addND, ld, -List.take]
      exact ⟨by rw [base_len]; decide, rfl⟩
    rw [b_split]
    simp [q1, q2, r4, e, -List.take]
  show (b_law_things [some (.loc p), none, none, none, none, none] m).bind _ = _
  rw [body, Option.bind_some]
  show outV m.length (.loc (m.length + 1)) _ = _
  have tk : (m2 ++ [Cell.lst (baseL.take 20), Cell.lst ys]).take m.length = m2 := by rw [← l2, List.take_left]
  have g : (m2 ++ [Cell.lst (baseL.take 20), Cell.lst ys])[m.length + 1]? = some (.lst ys) := by rw [← l2]; exact st1
  have bl : belows m.length ys = true := belows_of fun x hx => (hy x hx).el
  unfold outV
  rw [tk, if_pos ((hA.move v).below _)]
  show (if m.length + 1 < m.length then _ else match (m2 ++ [Cell.lst (baseL.take 20), Cell.lst ys])[m.length + 1]? with
    | some (.lst xs) => if belows m.length xs = true then some (D.lst xs, m2) else none
    | some (.frz xs) => if belows m.length xs = true then some (D.lst xs, m2) else none
    | _ => none) = _
  rw [if_neg (by omega), g]
  show (if belows m.length ys = true then _ else _) = _
  rw [if_pos bl]
theorem b_right : b_law_right = seqS (setS (.n 1) (Kb.bin addD (cst (.int 1)) (app f_law_draw (argC (var 0) (argC (cst (.int 4)) argN))))) (seqS (forS (itE (app f_law_things (argC (var 0) argN))) (.n 2) turnB) (retS (cst (.bl true)))) := rfl
theorem right : RightA f_law_right := fun m q hA hq => by
  obtain ⟨c, m1, e1, hc, v1⟩ := draw_i draws 4 (hA.pot hq)
  have hA1 := hA.move v1
  obtain ⟨xs, m2, e2, v2, hx⟩ := things hA1 (p := q) (by rw [v1.len]; exact hq)
  have hk : ((1 + c : Nat) : Int) = 1 + (c : Int) := by omega
  obtain ⟨env', e3⟩ := loop (m := m2) (q := .loc q) (k := 1 + c) (o2 := none) (o3 := none) (o4 := none) (o5 := none) (ds := xs) (by omega) (by omega) hx
  rw [hk] at e3
  refine ⟨m2, ?_, hA1.move v2, by rw [v2.len, v1.len]⟩
  refine run_p rfl ?_ (by rw [v2.len, v1.len])
  rw [b_right]
  simp [e1, e2, e3]
theorem plain : ∀ ns : List Int, ns.length ≤ 63 → ∃ m : Mem, f_law [.scr ns] [] = some (.bl true, m) := fun ns _ => law_frameA right pots 3 (by decide) ns
end Lk17

set_option Elab.async false
set_option linter.all false
set_option maxRecDepth 100000
set_option maxHeartbeats 4000000
set_option autoImplicit false
/-! k17: its defs compute that. -/
namespace Lk17
open PySem PySem.Spec PyProof.Rows L2 Kb Tab

def top (i : Nat) : Stmt := PySem.Challenge.pw_keptbowls_k17_any_values_as_rows_and_wor.main.body.getD i (.Pass ⟨0, 0, 0, 0⟩)
structure Txt (K : PySem.W.Frag) (mg : Str → Option Value) (G : Cfg) : Prop where
  hG : G.K = K
  no_abs : mg "abs" = none
  no_all : mg "all" = none
  no_bool : mg "bool" = none
  no_divmod : mg "divmod" = none
  no_enumerate : mg "enumerate" = none
  no_int : mg "int" = none
  no_isinstance : mg "isinstance" = none
  no_len : mg "len" = none
  no_list : mg "list" = none
  no_max : mg "max" = none
  no_min : mg "min" = none
  no_range : mg "range" = none
  no_repr : mg "repr" = none
  no_tuple : mg "tuple" = none
  k_MOST_LETTERS : ∃ t, mg "MOST_LETTERS" = some (.int 60 t)
  k_MOST_MAKERS : ∃ t, mg "MOST_MAKERS" = some (.int 4 t)
  k_MOST_SIZE : ∃ t, mg "MOST_SIZE" = some (.int 3 t)
  ot : OwnT G.K G
  t_Told : KitOk G.K G (.ref (G.cls 0)) (isC 0)
  t_bool : KitOk G.K G (.type (Tb.name .bool)) (isB [.bool])
  t_int : KitOk G.K G (.type (Tb.name .int)) (isB [.int])
  t_list : KitOk G.K G (.type (Tb.name .list)) (isB [.list])
  t_tuple : KitOk G.K G (.type (Tb.name .tuple)) (isB [.tuple])
  c0 : ClsOk K G 0
  n0 : (G.fld 0).length = 2
  l0 : 0 < G.n
  g0 : mg "Told" = some (.ref (G.cls 0))
  f0_0 : (G.fld 0)[0]? = some ("told_rows" : Str)
  f0_1 : (G.fld 0)[1]? = some ("told_determinant" : Str)
  c1 : ClsOk K G 1
  n1 : (G.fld 1).length = 2
  l1 : 1 < G.n
  g1 : mg "Table" = some (.ref (G.cls 1))
  f1_0 : (G.fld 1)[0]? = some ("own_rows" : Str)
  f1_1 : (G.fld 1)[1]? = some ("own_determinant" : Str)
section
variable {P : Program} {w : World} {K : PySem.W.Frag} {mg : Str → Option Value} {base : Heap} {G : Cfg}
abbrev st_law_pot : Stmt := top 41
abbrev N_law_pot : List Str := ["script", "k", "cell"]
theorem nd_law_pot : N_law_pot.Nodup := by decide +kernel
theorem sc_law_pot : FnScope N_law_pot ["script", "k"] (defScope st_law_pot) := ⟨rfl, rfl, rfl, nd_law_pot, rfl, by decide +kernel, by decide +kernel⟩
theorem w_law_pot (T : Txt K mg G) {f : Addr} {fd : FuncData} (F : Fun K "_law_pot" "_law_pot" st_law_pot f fd)   : FnG P w K mg base CX0 G 1 f fd ["script", "k"] f_law_pot :=
  fn_body T.hG outL_ok F sc_law_pot fun cdv A outer s H E cx => (s_cons (s_asg (e_ite (t_cmp op_ltD (e_var 1) (e_blt (c_len cx.hK) rfl T.no_len bt_len (a_cons (e_var 0) a_nil))) (e_blt (c_abs) rfl T.no_abs bt_abs (a_cons (e_ix (ix_D cx.hK) (e_var 0) (e_var 1)) a_nil)) (e_bin (op_addD cx.hK) (e_bin (op_mulD cx.hK) e_int (e_var 1)) e_int)) (g_name 2 nd_law_pot)) (s_one (s_ret (e_lstN (a_cons (e_blt (c_max cx.calm) rfl T.no_max bt_max (a_cons e_int (a_cons (e_bin op_subD (e_var 2) (e_bin op_powD e_int e_int)) a_nil))) (a_cons (e_bin (op_addD cx.hK) (e_bin op_modD (e_typ (c_int) rfl T.no_int bt_int (a_cons (e_bin (op_addD cx.hK) (e_bin (op_addD cx.hK) (e_bin (op_mulD cx.hK) (e_bin op_modD (e_typ (c_int) rfl T.no_int bt_int (a_cons (e_var 2) a_nil)) e_int) e_int) (e_bin (op_mulD cx.hK) e_int (e_var 1))) e_int) a_nil)) e_int) e_int) a_nil))))))
abbrev st_is_integer : Stmt := top 11
abbrev N_is_integer : List Str := ["value"]
theorem nd_is_integer : N_is_integer.Nodup := by decide +kernel
theorem sc_is_integer : FnScope N_is_integer ["value"] (defScope st_is_integer) := ⟨rfl, rfl, rfl, nd_is_integer, rfl, by decide +kernel, by decide +kernel⟩
theorem w_is_integer (T : Txt K mg G) {f : Addr} {fd : FuncData} (F : Fun K "is_integer" "is_integer" st_is_integer f fd)   : FnG P w K mg base CX0 G 1 f fd ["value"] f_is_integer :=
  fn_body T.hG outP_ok F sc_is_integer fun cdv A outer s H E cx => (s_one (s_ret (e_and cx.hK (e_isi cx.hK T.ot T.t_int (.ty _) (e_var 0) (pe_bltn rfl T.no_int bt_int rfl) rfl T.no_isinstance) (e_one (e_not cx.hK (e_isi cx.hK T.ot T.t_bool (.ty _) (e_var 0) (pe_bltn rfl T.no_bool bt_bool rfl) rfl T.no_isinstance))))))
abbrev st_is_count : Stmt := top 12
abbrev N_is_count : List Str := ["value"]
theorem nd_is_count : N_is_count.Nodup := by decide +kernel
theorem sc_is_count : FnScope N_is_count ["value"] (defScope st_is_count) := ⟨rfl, rfl, rfl, nd_is_count, rfl, by decide +kernel, by decide +kernel⟩
theorem w_is_count (T : Txt K mg G) {f : Addr} {fd : FuncData} (F : Fun K "is_count" "is_count" st_is_count f fd) {a_is_integer : Addr} {fd_is_integer : FuncData} (c_is_integer : Cal P w K mg base G 1 "is_integer" a_is_integer fd_is_integer ["value"] f_is_integer)  : FnG P w K mg base CX0 G 2 f fd ["value"] f_is_count :=
  fn_body T.hG outP_ok F sc_is_count fun cdv A outer s H E cx => (s_one (s_ret (e_and cx.hK (e_call (cx.lower (by decide)) c_is_integer.fn c_is_integer.kp c_is_integer.bi rfl c_is_integer.mg (a_cons (e_var 0) a_nil)) (e_one (e_cmp op_geD (e_var 0) e_int)))))
abbrev st_is_list : Stmt := top 13
abbrev N_is_list : List Str := ["value"]
theorem nd_is_list : N_is_list.Nodup := by decide +kernel
theorem sc_is_list : FnScope N_is_list ["value"] (defScope st_is_list) := ⟨rfl, rfl, rfl, nd_is_list, rfl, by decide +kernel, by decide +kernel⟩
theorem w_is_list (T : Txt K mg G) {f : Addr} {fd : FuncData} (F : Fun K "is_list" "is_list" st_is_list f fd)   : FnG P w K mg base CX0 G 1 f fd ["value"] f_is_list :=
  fn_body T.hG outP_ok F sc_is_list fun cdv A outer s H E cx => (s_one (s_ret (e_isiT cx.hK T.ot T.t_list T.t_tuple (e_var 0) (pe_bltn rfl T.no_list bt_list rfl) (pe_bltn rfl T.no_tuple bt_tuple rfl) rfl T.no_isinstance)))
abbrev st_is_row : Stmt := top 17
abbrev N_is_row : List Str := ["value", "number"]
theorem nd_is_row : N_is_row.Nodup := by decide +kernel
theorem sc_is_row : FnScope N_is_row ["value"] (defScope st_is_row) := ⟨rfl, rfl, rfl, nd_is_row, rfl, by decide +kernel, by decide +kernel⟩
theorem w_is_row (T : Txt K mg G) {f : Addr} {fd : FuncData} (F : Fun K "is_row" "is_row" st_is_row f fd) {a_is_integer : Addr} {fd_is_integer : FuncData} (c_is_integer : Cal P w K mg base G 1 "is_integer" a_is_integer fd_is_integer ["value"] f_is_integer) {a_is_list : Addr} {fd_is_list : FuncData} (c_is_list : Cal P w K mg base G 1 "is_list" a_is_list fd_is_list ["value"] f_is_list)  : FnG P w K mg base CX0 G 2 f fd ["value"] f_is_row :=
  fn_body T.hG outP_ok F sc_is_row fun cdv A outer s H E cx => (s_one (s_ret (e_and cx.hK (e_call (cx.lower (by decide)) c_is_list.fn c_is_list.kp c_is_list.bi rfl c_is_list.mg (a_cons (e_var 0) a_nil)) (e_and cx.hK (e_chn op_leD op_leD e_int (e_blt (c_len cx.hK) rfl T.no_len bt_len (a_cons (e_var 0) a_nil)) (e_gin T.k_MOST_SIZE rfl)) (e_one (e_blt (c_all cx.hK cx.calm) rfl T.no_all bt_all (a_cons (e_lc (own := [("number", 1)]) cx.calm nd_is_row (i_seq cx.hK (e_var 0)) (blkOk_by (by kernel_rfl)) (by decide) (fun _ _ _ _ _ => g_name 1 nd_is_row) (fun _ _ _ _ _ => p_nil) (fun _ _ _ _ _ => e_call (cx.blk.lower (by decide)) c_is_integer.fn c_is_integer.kp c_is_integer.bi rfl c_is_integer.mg (a_cons (e_var 1) a_nil))) a_nil)))))))
abbrev st_is_word_of : Stmt := top 38
abbrev N_is_word_of : List Str := ["value", "many", "letter"]
theorem nd_is_word_of : N_is_word_of.Nodup := by decide +kernel
theorem sc_is_word_of : FnScope N_is_word_of ["value", "many"] (defScope st_is_word_of) := ⟨rfl, rfl, rfl, nd_is_word_of, rfl, by decide +kernel, by decide +kernel⟩
theorem w_is_word_of (T : Txt K mg G) {f : Addr} {fd : FuncData} (F : Fun K "is_word_of" "is_word_of" st_is_word_of f fd) {a_is_integer : Addr} {fd_is_integer : FuncData} (c_is_integer : Cal P w K mg base G 1 "is_integer" a_is_integer fd_is_integer ["value"] f_is_integer) {a_is_list : Addr} {fd_is_list : FuncData} (c_is_list : Cal P w K mg base G 1 "is_list" a_is_list fd_is_list ["value"] f_is_list)  : FnG P w K mg base CX0 G 2 f fd ["value", "many"] f_is_word_of :=
  fn_body T.hG outP_ok F sc_is_word_of fun cdv A outer s H E cx => (s_cons (s_if (t_w (w_or (t_not (t_val cx.hK (e_call (cx.lower (by decide)) c_is_list.fn c_is_list.kp c_is_list.bi rfl c_is_list.mg (a_cons (e_var 0) a_nil)))) (w_one_or (t_cmp op_gtD (e_blt (c_len cx.hK) rfl T.no_len bt_len (a_cons (e_var 0) a_nil)) (e_gin T.k_MOST_LETTERS rfl))))) (s_one (s_ret e_bl)) s_nil) (s_one (s_ret (e_blt (c_all cx.hK cx.calm) rfl T.no_all bt_all (a_cons (e_lc (own := [("letter", 2)]) cx.calm nd_is_word_of (i_seq cx.hK (e_var 0)) (blkOk_by (by kernel_rfl)) (by decide) (fun _ _ _ _ _ => g_name 2 nd_is_word_of) (fun _ _ _ _ _ => p_nil) (fun _ _ _ _ _ => e_and cx.hK (e_call (cx.blk.lower (by decide)) c_is_integer.fn c_is_integer.kp c_is_integer.bi rfl c_is_integer.mg (a_cons (e_var 2) a_nil)) (e_one (e_chn op_leD op_leD e_int (e_blt (c_abs) rfl T.no_abs bt_abs (a_cons (e_var 2) a_nil)) (e_var 1))))) a_nil)))))
abbrev st_want_many : Stmt := top 14
abbrev N_want_many : List Str := ["value", "most", "least"]
theorem nd_want_many : N_want_many.Nodup := by decide +kernel
theorem sc_want_many : FnScope N_want_many ["value", "most", "least"] (defScope st_want_many) := ⟨rfl, rfl, rfl, nd_want_many, rfl, by decide +kernel, by decide +kernel⟩
theorem w_want_many (T : Txt K mg G) {f : Addr} {fd : FuncData} (F : FunT K "want_many" "want_many" st_want_many 2 f fd) {a_is_integer : Addr} {fd_is_integer : FuncData} (c_is_integer : Cal P w K mg base G 1 "is_integer" a_is_integer fd_is_integer ["value"] f_is_integer)  : FnG P w K mg base CX0 G 2 f fd ["value", "most", "least"] f_want_many :=
  fn_bodyT T.hG outP_ok F sc_want_many fun cdv A outer s H E cx => (s_one (s_if (t_w (w_or (t_not (t_val cx.hK (e_call (cx.lower (by decide)) c_is_integer.fn c_is_integer.kp c_is_integer.bi rfl c_is_integer.mg (a_cons (e_var 0) a_nil)))) (w_or (t_cmp op_ltD (e_var 0) (e_var 2)) (w_one_or (t_w (w_and (t_cmp op_notNoneD (e_var 1) e_non) (w_one_and (t_cmp op_gtD (e_var 0) (e_var 1))))))))) (s_one s_no) s_nil))
abbrev st_is_word : Stmt := top 39
abbrev N_is_word : List Str := ["value", "many"]
theorem nd_is_word : N_is_word.Nodup := by decide +kernel
theorem sc_is_word : FnScope N_is_word ["value", "many"] (defScope st_is_word) := ⟨rfl, rfl, rfl, nd_is_word, rfl, by decide +kernel, by decide +kernel⟩
theorem w_is_word (T : Txt K mg G) {f : Addr} {fd : FuncData} (F : Fun K "is_word" "is_word" st_is_word f fd) {a_is_word_of : Addr} {fd_is_word_of : FuncData} (c_is_word_of : Cal P w K mg base G 2 "is_word_of" a_is_word_of fd_is_word_of ["value", "many"] f_is_word_of) {a_want_many : Addr} {fd_want_many : FuncData} (c_want_many : Cal P w K mg base G 2 "want_many" a_want_many fd_want_many ["value", "most", "least"] f_want_many)  : FnG P w K mg base CX0 G 3 f fd ["value", "many"] f_is_word :=
  fn_body T.hG outP_ok F sc_is_word fun cdv A outer s H E cx => (s_cons (s_drop (e_call (cx.lower (by decide)) c_want_many.fn c_want_many.kp c_want_many.bi rfl c_want_many.mg (a_cons (e_var 1) (a_cons (e_gin T.k_MOST_MAKERS rfl) (a_cons e_int a_nil))))) (s_one (s_ret (e_call (cx.lower (by decide)) c_is_word_of.fn c_is_word_of.kp c_is_word_of.bi rfl c_is_word_of.mg (a_cons (e_var 0) (a_cons (e_var 1) a_nil))))))
abbrev st_law_draw : Stmt := top 42
abbrev N_law_draw : List Str := ["pot", "size", "digit"]
theorem nd_law_draw : N_law_draw.Nodup := by decide +kernel
theorem sc_law_draw : FnScope N_law_draw ["pot", "size"] (defScope st_law_draw) := ⟨rfl, rfl, rfl, nd_law_draw, rfl, by decide +kernel, by decide +kernel⟩
theorem w_law_draw (T : Txt K mg G) {f : Addr} {fd : FuncData} (F : Fun K "_law_draw" "_law_draw" st_law_draw f fd)   : FnG P w K mg base CX0 G 1 f fd ["pot", "size"] f_law_draw :=
  fn_body T.hG outP_ok F sc_law_draw fun cdv A outer s H E cx => (s_cons (s_if (t_cmp op_gtD (e_ix (ix_D cx.hK) (e_var 0) e_int) e_int) (s_cons (s_asgG (e_blt (c_divmod) rfl T.no_divmod bt_divmod (a_cons (e_ix (ix_D cx.hK) (e_var 0) e_int) (a_cons (e_var 1) a_nil))) (gg_tup 2 cx.hK cx.calm (ggs_cons (gg_sub (e_var 0) e_int) (ggs_cons (gg_tg (g_name 2 nd_law_draw)) ggs_nil)))) (s_one (s_ret (e_var 2)))) s_nil) (s_cons (s_asgG (e_bin op_modD (e_typ (c_int) rfl T.no_int bt_int (a_cons (e_bin (op_addD cx.hK) (e_bin (op_mulD cx.hK) (e_ix (ix_D cx.hK) (e_var 0) e_int) e_int) e_int) a_nil)) e_int) (gg_sub (e_var 0) e_int)) (s_one (s_ret (e_bin op_modD (e_typ (c_int) rfl T.no_int bt_int (a_cons (e_bin op_divD (e_bin op_modD (e_typ (c_int) rfl T.no_int bt_int (a_cons (e_bin (op_mulD cx.hK) (e_ix (ix_D cx.hK) (e_var 0) e_int) (e_ix (ix_D cx.hK) (e_var 0) e_int)) a_nil)) e_int) e_int) a_nil)) (e_var 1))))))
abbrev st_law_is_list : Stmt := top 45
abbrev N_law_is_list : List Str := ["thing"]
theorem nd_law_is_list : N_law_is_list.Nodup := by decide +kernel
theorem sc_law_is_list : FnScope N_law_is_list ["thing"] (defScope st_law_is_list) := ⟨rfl, rfl, rfl, nd_law_is_list, rfl, by decide +kernel, by decide +kernel⟩
theorem w_law_is_list (T : Txt K mg G) {f : Addr} {fd : FuncData} (F : Fun K "_law_is_list" "_law_is_list" st_law_is_list f fd)   : FnG P w K mg base CX0 G 1 f fd ["thing"] f_law_is_list :=
  fn_body T.hG outP_ok F sc_law_is_list fun cdv A outer s H E cx => (s_one (s_ret (e_isiT cx.hK T.ot T.t_list T.t_tuple (e_var 0) (pe_bltn rfl T.no_list bt_list rfl) (pe_bltn rfl T.no_tuple bt_tuple rfl) rfl T.no_isinstance)))
abbrev st_law_is_number : Stmt := top 44
abbrev N_law_is_number : List Str := ["thing"]
theorem nd_law_is_number : N_law_is_number.Nodup := by decide +kernel
theorem sc_law_is_number : FnScope N_law_is_number ["thing"] (defScope st_law_is_number) := ⟨rfl, rfl, rfl, nd_law_is_number, rfl, by decide +kernel, by decide +kernel⟩
theorem w_law_is_number (T : Txt K mg G) {f : Addr} {fd : FuncData} (F : Fun K "_law_is_number" "_law_is_number" st_law_is_number f fd)   : FnG P w K mg base CX0 G 1 f fd ["thing"] f_law_is_number :=
  fn_body T.hG outP_ok F sc_law_is_number fun cdv A outer s H E cx => (s_one (s_ret (e_and cx.hK (e_isi cx.hK T.ot T.t_int (.ty _) (e_var 0) (pe_bltn rfl T.no_int bt_int rfl) rfl T.no_isinstance) (e_one (e_not cx.hK (e_isi cx.hK T.ot T.t_bool (.ty _) (e_var 0) (pe_bltn rfl T.no_bool bt_bool rfl) rfl T.no_isinstance))))))
abbrev st_law_is_row : Stmt := top 46
abbrev N_law_is_row : List Str := ["thing", "part"]
theorem nd_law_is_row : N_law_is_row.Nodup := by decide +kernel
theorem sc_law_is_row : FnScope N_law_is_row ["thing"] (defScope st_law_is_row) := ⟨rfl, rfl, rfl, nd_law_is_row, rfl, by decide +kernel, by decide +kernel⟩
theorem w_law_is_row (T : Txt K mg G) {f : Addr} {fd : FuncData} (F : Fun K "_law_is_row" "_law_is_row" st_law_is_row f fd) {a_law_is_list : Addr} {fd_law_is_list : FuncData} (c_law_is_list : Cal P w K mg base G 1 "_law_is_list" a_law_is_list fd_law_is_list ["thing"] f_law_is_list) {a_law_is_number : Addr} {fd_law_is_number : FuncData} (c_law_is_number : Cal P w K mg base G 1 "_law_is_number" a_law_is_number fd_law_is_number ["thing"] f_law_is_number)  : FnG P w K mg base CX0 G 2 f fd ["thing"] f_law_is_row :=
  fn_body T.hG outP_ok F sc_law_is_row fun cdv A outer s H E cx => (s_one (s_ret (e_and cx.hK (e_call (cx.lower (by decide)) c_law_is_list.fn c_law_is_list.kp c_law_is_list.bi rfl c_law_is_list.mg (a_cons (e_var 0) a_nil)) (e_and cx.hK (e_chn op_leD op_leD e_int (e_blt (c_len cx.hK) rfl T.no_len bt_len (a_cons (e_var 0) a_nil)) e_int) (e_one (e_blt (c_all cx.hK cx.calm) rfl T.no_all bt_all (a_cons (e_lc (own := [("part", 1)]) cx.calm nd_law_is_row (i_seq cx.hK (e_var 0)) (blkOk_by (by kernel_rfl)) (by decide) (fun _ _ _ _ _ => g_name 1 nd_law_is_row) (fun _ _ _ _ _ => p_nil) (fun _ _ _ _ _ => e_call (cx.blk.lower (by decide)) c_law_is_number.fn c_law_is_number.kp c_law_is_number.bi rfl c_law_is_number.mg (a_cons (e_var 1) a_nil))) a_nil)))))))
abbrev st_law_is_word : Stmt := top 47
abbrev N_law_is_word : List Str := ["thing", "many", "part"]
theorem nd_law_is_word : N_law_is_word.Nodup := by decide +kernel
theorem sc_law_is_word : FnScope N_law_is_word ["thing", "many"] (defScope st_law_is_word) := ⟨rfl, rfl, rfl, nd_law_is_word, rfl, by decide +kernel, by decide +kernel⟩
theorem w_law_is_word (T : Txt K mg G) {f : Addr} {fd : FuncData} (F : Fun K "_law_is_word" "_law_is_word" st_law_is_word f fd) {a_law_is_list : Addr} {fd_law_is_list : FuncData} (c_law_is_list : Cal P w K mg base G 1 "_law_is_list" a_law_is_list fd_law_is_list ["thing"] f_law_is_list) {a_law_is_number : Addr} {fd_law_is_number : FuncData} (c_law_is_number : Cal P w K mg base G 1 "_law_is_number" a_law_is_number fd_law_is_number ["thing"] f_law_is_number)  : FnG P w K mg base CX0 G 2 f fd ["thing", "many"] f_law_is_word :=
  fn_body T.hG outP_ok F sc_law_is_word fun cdv A outer s H E cx => (s_cons (s_if (t_w (w_or (t_not (t_val cx.hK (e_call (cx.lower (by decide)) c_law_is_list.fn c_law_is_list.kp c_law_is_list.bi rfl c_law_is_list.mg (a_cons (e_var 0) a_nil)))) (w_one_or (t_cmp op_gtD (e_blt (c_len cx.hK) rfl T.no_len bt_len (a_cons (e_var 0) a_nil)) e_int)))) (s_one (s_ret e_bl)) s_nil) (s_one (s_ret (e_blt (c_all cx.hK cx.calm) rfl T.no_all bt_all (a_cons (e_lc (own := [("part", 2)]) cx.calm nd_law_is_word (i_seq cx.hK (e_var 0)) (blkOk_by (by kernel_rfl)) (by decide) (fun _ _ _ _ _ => g_name 2 nd_law_is_word) (fun _ _ _ _ _ => p_nil) (fun _ _ _ _ _ => e_and cx.hK (e_call (cx.blk.lower (by decide)) c_law_is_number.fn c_law_is_number.kp c_law_is_number.bi rfl c_law_is_number.mg (a_cons (e_var 2) a_nil)) (e_one (e_chn op_leD op_leD e_int (e_blt (c_abs) rfl T.no_abs bt_abs (a_cons (e_var 2) a_nil)) (e_var 1))))) a_nil)))))
abbrev st_idle_rows : Stmt := top 22
abbrev N_idle_rows : List Str := ["size", "other", "place"]
theorem nd_idle_rows : N_idle_rows.Nodup := by decide +kernel
theorem sc_idle_rows : FnScope N_idle_rows ["size"] (defScope st_idle_rows) := ⟨rfl, rfl, rfl, nd_idle_rows, rfl, by decide +kernel, by decide +kernel⟩
theorem w_idle_rows (T : Txt K mg G) {f : Addr} {fd : FuncData} (F : Fun K "idle_rows" "idle_rows" st_idle_rows f fd)   : FnG P w K mg base CX0 G 1 f fd ["size"] f_idle_rows :=
  fn_body T.hG outP_ok F sc_idle_rows fun cdv A outer s H E cx => (s_one (s_ret (e_typ (c_tuple cx.hK) rfl T.no_tuple bt_tuple (a_cons (e_lc (own := [("place", 2)]) cx.calm nd_idle_rows (i_rng1 rfl T.no_range (a_cons (e_var 0) a_nil)) (blkOk_by (by kernel_rfl)) (by decide) (fun _ _ _ _ _ => g_name 2 nd_idle_rows) (fun _ _ _ _ _ => p_nil) (fun _ _ _ _ _ => e_typ (c_tuple cx.hK) rfl T.no_tuple bt_tuple (a_cons (e_lc (own := [("other", 1)]) cx.calm nd_idle_rows (i_rng1 rfl T.no_range (a_cons (e_var 0) a_nil)) (blkOk_by (by kernel_rfl)) (by decide) (fun _ _ _ _ _ => g_name 1 nd_idle_rows) (fun _ _ _ _ _ => p_nil) (fun _ _ _ _ _ => e_typ (c_int) rfl T.no_int bt_int (a_cons (e_cmp (op_eqDD cx.hK cx.hu) (e_var 2) (e_var 1)) a_nil))) a_nil))) a_nil))))
abbrev st_Told_init : Stmt := inClass (top 27) 0
abbrev N_Told_init : List Str := ["self", "rows", "determinant"]
theorem nd_Told_init : N_Told_init.Nodup := by decide +kernel
theorem sc_Told_init : FnScope N_Told_init ["self", "rows", "determinant"] (defScope st_Told_init) := ⟨rfl, rfl, rfl, nd_Told_init, rfl, by decide +kernel, by decide +kernel⟩
theorem w_Told_init (T : Txt K mg G) {f : Addr} {fd : FuncData} (F : Fun K "__init__" "Told.__init__" st_Told_init f fd)   : FnG P w K mg base CX0 G 1 f fd ["self", "rows", "determinant"] f_Told_init :=
  fn_body T.hG outP_ok F sc_Told_init fun cdv A outer s H E cx => (s_cons (s_fld 0 0 T.c0 (e_var 0) (e_var 1) T.f0_0) (s_one (s_fld 0 1 T.c0 (e_var 0) (e_var 2) T.f0_1)))
abbrev st_are_rows : Stmt := top 28
abbrev N_are_rows : List Str := ["value", "row", "number"]
theorem nd_are_rows : N_are_rows.Nodup := by decide +kernel
theorem sc_are_rows : FnScope N_are_rows ["value"] (defScope st_are_rows) := ⟨rfl, rfl, rfl, nd_are_rows, rfl, by decide +kernel, by decide +kernel⟩
theorem w_are_rows (T : Txt K mg G) {f : Addr} {fd : FuncData} (F : Fun K "are_rows" "are_rows" st_are_rows f fd) {a_is_integer : Addr} {fd_is_integer : FuncData} (c_is_integer : Cal P w K mg base G 1 "is_integer" a_is_integer fd_is_integer ["value"] f_is_integer) {a_is_list : Addr} {fd_is_list : FuncData} (c_is_list : Cal P w K mg base G 1 "is_list" a_is_list fd_is_list ["value"] f_is_list)  : FnG P w K mg base CX0 G 2 f fd ["value"] f_are_rows :=
  fn_body T.hG outP_ok F sc_are_rows fun cdv A outer s H E cx => (s_cons (s_if (t_w (w_or (t_not (t_val cx.hK (e_call (cx.lower (by decide)) c_is_list.fn c_is_list.kp c_is_list.bi rfl c_is_list.mg (a_cons (e_var 0) a_nil)))) (w_one_or (t_not (t_chn op_leD op_leD e_int (e_blt (c_len cx.hK) rfl T.no_len bt_len (a_cons (e_var 0) a_nil)) (e_gin T.k_MOST_SIZE rfl)))))) (s_one (s_ret e_bl)) s_nil) (s_cons (s_for PassesOwn.never cx.calm (i_seq cx.hK (e_var 0)) (g_name 1 nd_are_rows) (s_one (s_if (t_w (w_or (t_not (t_val cx.hK (e_call (cx.lower (by decide)) c_is_list.fn c_is_list.kp c_is_list.bi rfl c_is_list.mg (a_cons (e_var 1) a_nil)))) (w_or (t_cmp (op_neDD cx.hK cx.hu) (e_blt (c_len cx.hK) rfl T.no_len bt_len (a_cons (e_var 1) a_nil)) (e_blt (c_len cx.hK) rfl T.no_len bt_len (a_cons (e_var 0) a_nil))) (w_one_or (t_not (t_val cx.hK (e_blt (c_all cx.hK cx.calm) rfl T.no_all bt_all (a_cons (e_lc (own := [("number", 2)]) cx.calm nd_are_rows (i_seq cx.hK (e_var 1)) (blkOk_by (by kernel_rfl)) (by decide) (fun _ _ _ _ _ => g_name 2 nd_are_rows) (fun _ _ _ _ _ => p_nil) (fun _ _ _ _ _ => e_call (cx.blk.lower (by decide)) c_is_integer.fn c_is_integer.kp c_is_integer.bi rfl c_is_integer.mg (a_cons (e_var 2) a_nil))) a_nil)))))))) (s_one (s_ret e_bl)) s_nil))) (s_one (s_ret e_bl))))
abbrev st_left_without : Stmt := top 23
abbrev N_left_without : List Str := ["rows", "place", "other", "at", "row"]
theorem nd_left_without : N_left_without.Nodup := by decide +kernel
theorem sc_left_without : FnScope N_left_without ["rows", "place", "other"] (defScope st_left_without) := ⟨rfl, rfl, rfl, nd_left_without, rfl, by decide +kernel, by decide +kernel⟩
theorem w_left_without (T : Txt K mg G) {f : Addr} {fd : FuncData} (F : Fun K "left_without" "left_without" st_left_without f fd)   : FnG P w K mg base CX0 G 1 f fd ["rows", "place", "other"] f_left_without :=
  fn_body T.hG outP_ok F sc_left_without fun cdv A outer s H E cx => (s_one (s_ret (e_lc (own := [("at", 3), ("row", 4)]) cx.calm nd_left_without (i_enum cx.hK rfl T.no_enumerate (a_cons (e_var 0) a_nil)) (blkOk_by (by kernel_rfl)) (by decide) (fun _ _ _ _ _ => g_tup cx.hK cx.calm (gs_cons 3 nd_left_without (gs_cons 4 nd_left_without gs_nil))) (fun _ _ _ _ _ => p_one (t_cmp (op_neDD cx.hK cx.hu) (e_var 3) (e_var 1))) (fun _ _ _ _ _ => e_bin (op_addD cx.hK) (e_sl cx.hK (e_var 4) o_none (o_some (e_var 2))) (e_sl cx.hK (e_var 4) (o_some (e_bin (op_addD cx.hK) (e_var 2) e_int)) o_none)))))
abbrev st_determinant_of : Stmt := top 24
abbrev N_determinant_of : List Str := ["rows", "found", "sign", "place", "number"]
theorem nd_determinant_of : N_determinant_of.Nodup := by decide +kernel
theorem sc_determinant_of : FnScope N_determinant_of ["rows"] (defScope st_determinant_of) := ⟨rfl, rfl, rfl, nd_determinant_of, rfl, by decide +kernel, by decide +kernel⟩
theorem w_determinant_of (T : Txt K mg G) {f : Addr} {fd : FuncData} (F : Fun K "determinant_of" "determinant_of" st_determinant_of f fd) (bi : Binds K fd ["rows"] []) (hm : mg "determinant_of" = some (.ref f)) {a_left_without : Addr} {fd_left_without : FuncData} (c_left_without : Cal P w K mg base G 1 "left_without" a_left_without fd_left_without ["rows", "place", "other"] f_left_without)  : ∀ n : Nat, FnG P w K mg base CX0 G (1 + n) f fd ["rows"] (f_determinant_of n)
  | 0 => fng_zero fun _ _ => rfl
  | n + 1 => by
    have c_determinant_of : Cal P w K mg base G (1 + n) "determinant_of" f fd ["rows"] (f_determinant_of n) := ⟨w_determinant_of T F bi hm c_left_without  n, F.kp, bi, hm⟩
    exact fn_body T.hG outP_ok F sc_determinant_of fun cdv A outer s H E cx => (s_cons (s_if (t_cmp (op_eqDD cx.hK cx.hu) (e_blt (c_len cx.hK) rfl T.no_len bt_len (a_cons (e_var 0) a_nil)) e_int) (s_one (s_ret (e_ix (ix_D cx.hK) (e_ix (ix_D cx.hK) (e_var 0) e_int) e_int))) s_nil) (s_cons (s_if (t_cmp (op_eqDD cx.hK cx.hu) (e_blt (c_len cx.hK) rfl T.no_len bt_len (a_cons (e_var 0) a_nil)) e_int) (s_one (s_ret (e_bin op_subD (e_bin (op_mulD cx.hK) (e_ix (ix_D cx.hK) (e_ix (ix_D cx.hK) (e_var 0) e_int) e_int) (e_ix (ix_D cx.hK) (e_ix (ix_D cx.hK) (e_var 0) e_int) e_int)) (e_bin (op_mulD cx.hK) (e_ix (ix_D cx.hK) (e_ix (ix_D cx.hK) (e_var 0) e_int) e_int) (e_ix (ix_D cx.hK) (e_ix (ix_D cx.hK) (e_var 0) e_int) e_int))))) s_nil) (s_cons (s_asg (e_tup (a_cons e_int (a_cons e_int a_nil))) (g_tup cx.hK cx.calm (gs_cons 1 nd_determinant_of (gs_cons 2 nd_determinant_of gs_nil)))) (s_cons (s_for PassesOwn.never cx.calm (i_enum cx.hK rfl T.no_enumerate (a_cons (e_ix (ix_D cx.hK) (e_var 0) e_int) a_nil)) (g_tup cx.hK cx.calm (gs_cons 3 nd_determinant_of (gs_cons 4 nd_determinant_of gs_nil))) (s_cons (s_asg (e_bin (op_addD cx.hK) (e_var 1) (e_bin (op_mulD cx.hK) (e_bin (op_mulD cx.hK) (e_var 2) (e_var 4)) (e_call (cx.lower (by first | exact Nat.le_refl _ | exact Nat.le_trans (by decide) (Nat.le_add_right _ _))) c_determinant_of.fn c_determinant_of.kp c_determinant_of.bi rfl c_determinant_of.mg (a_cons (e_call (cx.lower (by first | exact Nat.le_refl _ | exact Nat.le_trans (by decide) (Nat.le_add_right _ _))) c_left_without.fn c_left_without.kp c_left_without.bi rfl c_left_without.mg (a_cons (e_var 0) (a_cons e_int (a_cons (e_var 3) a_nil)))) a_nil)))) (g_name 1 nd_determinant_of)) (s_one (s_asg (e_bin op_subD e_int (e_var 2)) (g_name 2 nd_determinant_of))))) (s_one (s_ret (e_var 1)))))))
abbrev st_told_rows : Stmt := top 29
abbrev N_told_rows : List Str := ["value", "rows", "row", "determinant"]
theorem nd_told_rows : N_told_rows.Nodup := by decide +kernel
theorem sc_told_rows : FnScope N_told_rows ["value"] (defScope st_told_rows) := ⟨rfl, rfl, rfl, nd_told_rows, rfl, by decide +kernel, by decide +kernel⟩
theorem w_told_rows (T : Txt K mg G) {f : Addr} {fd : FuncData} (F : Fun K "told_rows" "told_rows" st_told_rows f fd) {a_Told_init : Addr} {fd_Told_init : FuncData} (m_Told_init : Mkc P w K mg base G 1 0 "Told" a_Told_init fd_Told_init ["self", "rows", "determinant"] f_Told_init) {a_are_rows : Addr} {fd_are_rows : FuncData} (c_are_rows : Cal P w K mg base G 2 "are_rows" a_are_rows fd_are_rows ["value"] f_are_rows) {a_determinant_of : Addr} {fd_determinant_of : FuncData} (c_determinant_of : Cal P w K mg base G 4 "determinant_of" a_determinant_of fd_determinant_of ["rows"] (f_determinant_of 3))  : FnG P w K mg base CX0 G 5 f fd ["value"] f_told_rows :=
  fn_body T.hG outP_ok F sc_told_rows fun cdv A outer s H E cx => (s_cons (s_if (t_val cx.hK (e_isi cx.hK T.ot T.t_Told (.own _) (e_var 0) (pe_glob rfl T.g0 rfl) rfl T.no_isinstance)) (s_one (s_ret (e_var 0))) s_nil) (s_cons (s_if (t_not (t_val cx.hK (e_call (cx.lower (by decide)) c_are_rows.fn c_are_rows.kp c_are_rows.bi rfl c_are_rows.mg (a_cons (e_var 0) a_nil)))) (s_one s_no) s_nil) (s_cons (s_asg (e_typ (c_tuple cx.hK) rfl T.no_tuple bt_tuple (a_cons (e_lc (own := [("row", 2)]) cx.calm nd_told_rows (i_seq cx.hK (e_var 0)) (blkOk_by (by kernel_rfl)) (by decide) (fun _ _ _ _ _ => g_name 2 nd_told_rows) (fun _ _ _ _ _ => p_nil) (fun _ _ _ _ _ => e_typ (c_tuple cx.hK) rfl T.no_tuple bt_tuple (a_cons (e_var 2) a_nil))) a_nil)) (g_name 1 nd_told_rows)) (s_cons (s_asg (e_call (cx.lower (by decide)) c_determinant_of.fn c_determinant_of.kp c_determinant_of.bi rfl c_determinant_of.mg (a_cons (e_var 1) a_nil)) (g_name 3 nd_told_rows)) (s_cons (s_if (t_cmp (op_ninD cx.hK cx.hu65) (e_var 3) (e_tup (a_cons e_int (a_cons (e_una un_negD e_int) a_nil)))) (s_one s_no) s_nil) (s_one (s_ret (e_make (makeV 0 2) (cx.lower (by decide)) (makeV_ok T.l0 T.n0) m_Told_init.mkc m_Told_init.fn m_Told_init.bi rfl m_Told_init.mg (a_cons (e_var 1) (a_cons (e_var 3) a_nil))))))))))
abbrev st_Table_init : Stmt := inClass (top 30) 0
abbrev N_Table_init : List Str := ["self", "rows", "told"]
theorem nd_Table_init : N_Table_init.Nodup := by decide +kernel
theorem sc_Table_init : FnScope N_Table_init ["self", "rows"] (defScope st_Table_init) := ⟨rfl, rfl, rfl, nd_Table_init, rfl, by decide +kernel, by decide +kernel⟩
theorem w_Table_init (T : Txt K mg G) {f : Addr} {fd : FuncData} (F : Fun K "__init__" "Table.__init__" st_Table_init f fd) {a_told_rows : Addr} {fd_told_rows : FuncData} (c_told_rows : Cal P w K mg base G 5 "told_rows" a_told_rows fd_told_rows ["value"] f_told_rows)  : FnG P w K mg base CX0 G 6 f fd ["self", "rows"] f_Table_init :=
  fn_body T.hG outP_ok F sc_Table_init fun cdv A outer s H E cx => (s_cons (s_asg (e_call (cx.lower (by decide)) c_told_rows.fn c_told_rows.kp c_told_rows.bi rfl c_told_rows.mg (a_cons (e_var 1) a_nil)) (g_name 2 nd_Table_init)) (s_cons (s_fld 1 0 T.c1 (e_var 0) (e_fld 0 0 T.c0 (e_var 2) T.f0_0) T.f1_0) (s_one (s_fld 1 1 T.c1 (e_var 0) (e_fld 0 1 T.c0 (e_var 2) T.f0_1) T.f1_1))))
abbrev st_table_by : Stmt := top 31
abbrev N_table_by : List Str := ["rows", "determinant"]
theorem nd_table_by : N_table_by.Nodup := by decide +kernel
theorem sc_table_by : FnScope N_table_by ["rows", "determinant"] (defScope st_table_by) := ⟨rfl, rfl, rfl, nd_table_by, rfl, by decide +kernel, by decide +kernel⟩
theorem w_table_by (T : Txt K mg G) {f : Addr} {fd : FuncData} (F : Fun K "table_by" "table_by" st_table_by f fd) {a_Table_init : Addr} {fd_Table_init : FuncData} (m_Table_init : Mkc P w K mg base G 6 1 "Table" a_Table_init fd_Table_init ["self", "rows"] f_Table_init) {a_Told_init : Addr} {fd_Told_init : FuncData} (m_Told_init : Mkc P w K mg base G 1 0 "Told" a_Told_init fd_Told_init ["self", "rows", "determinant"] f_Told_init)  : FnG P w K mg base CX0 G 8 f fd ["rows", "determinant"] f_table_by :=
  fn_body T.hG outP_ok F sc_table_by fun cdv A outer s H E cx => (s_one (s_ret (e_make (makeV 1 2) (cx.lower (by decide)) (makeV_ok T.l1 T.n1) m_Table_init.mkc m_Table_init.fn m_Table_init.bi rfl m_Table_init.mg (a_cons (e_make (makeV 0 2) (cx.lower (by decide)) (makeV_ok T.l0 T.n0) m_Told_init.mkc m_Told_init.fn m_Told_init.bi rfl m_Told_init.mg (a_cons (e_var 0) (a_cons (e_var 1) a_nil))) a_nil))))
abbrev st_idle : Stmt := top 34
abbrev N_idle : List Str := ["size"]
theorem nd_idle : N_idle.Nodup := by decide +kernel
theorem sc_idle : FnScope N_idle ["size"] (defScope st_idle) := ⟨rfl, rfl, rfl, nd_idle, rfl, by decide +kernel, by decide +kernel⟩
theorem w_idle (T : Txt K mg G) {f : Addr} {fd : FuncData} (F : Fun K "idle" "idle" st_idle f fd) {a_idle_rows : Addr} {fd_idle_rows : FuncData} (c_idle_rows : Cal P w K mg base G 1 "idle_rows" a_idle_rows fd_idle_rows ["size"] f_idle_rows) {a_is_integer : Addr} {fd_is_integer : FuncData} (c_is_integer : Cal P w K mg base G 1 "is_integer" a_is_integer fd_is_integer ["value"] f_is_integer) {a_table_by : Addr} {fd_table_by : FuncData} (c_table_by : Cal P w K mg base G 8 "table_by" a_table_by fd_table_by ["rows", "determinant"] f_table_by)  : FnG P w K mg base CX0 G 9 f fd ["size"] f_idle :=
  fn_body T.hG outP_ok F sc_idle fun cdv A outer s H E cx => (s_cons (s_if (t_w (w_or (t_not (t_val cx.hK (e_call (cx.lower (by decide)) c_is_integer.fn c_is_integer.kp c_is_integer.bi rfl c_is_integer.mg (a_cons (e_var 0) a_nil)))) (w_one_or (t_not (t_chn op_leD op_leD e_int (e_var 0) (e_gin T.k_MOST_SIZE rfl)))))) (s_one s_no) s_nil) (s_one (s_ret (e_call (cx.lower (by decide)) c_table_by.fn c_table_by.kp c_table_by.bi rfl c_table_by.mg (a_cons (e_call (cx.lower (by decide)) c_idle_rows.fn c_idle_rows.kp c_idle_rows.bi rfl c_idle_rows.mg (a_cons (e_var 0) a_nil)) (a_cons e_int a_nil))))))
abbrev st_law_pick : Stmt := top 43
abbrev N_law_pick : List Str := ["pot", "some"]
theorem nd_law_pick : N_law_pick.Nodup := by decide +kernel
theorem sc_law_pick : FnScope N_law_pick ["pot", "some"] (defScope st_law_pick) := ⟨rfl, rfl, rfl, nd_law_pick, rfl, by decide +kernel, by decide +kernel⟩
theorem w_law_pick (T : Txt K mg G) {f : Addr} {fd : FuncData} (F : Fun K "_law_pick" "_law_pick" st_law_pick f fd) {a_law_draw : Addr} {fd_law_draw : FuncData} (c_law_draw : Cal P w K mg base G 1 "_law_draw" a_law_draw fd_law_draw ["pot", "size"] f_law_draw)  : FnG P w K mg base CX0 G 2 f fd ["pot", "some"] f_law_pick :=
  fn_body T.hG outP_ok F sc_law_pick fun cdv A outer s H E cx => (s_one (s_ret (e_ix (ix_D cx.hK) (e_var 1) (e_call (cx.lower (by decide)) c_law_draw.fn c_law_draw.kp c_law_draw.bi rfl c_law_draw.mg (a_cons (e_var 0) (a_cons (e_blt (c_len cx.hK) rfl T.no_len bt_len (a_cons (e_var 1) a_nil)) a_nil))))))
abbrev st_law_things : Stmt := top 48
abbrev N_law_things : List Str := ["pot", "found", "turn", "some", "part", "bent"]
theorem nd_law_things : N_law_things.Nodup := by decide +kernel
theorem sc_law_things : FnScope N_law_things ["pot"] (defScope st_law_things) := ⟨rfl, rfl, rfl, nd_law_things, rfl, by decide +kernel, by decide +kernel⟩
theorem w_law_things (T : Txt K mg G) {f : Addr} {fd : FuncData} (F : Fun K "_law_things" "_law_things" st_law_things f fd) {a_idle : Addr} {fd_idle : FuncData} (c_idle : Cal P w K mg base G 9 "idle" a_idle fd_idle ["size"] f_idle) {a_law_draw : Addr} {fd_law_draw : FuncData} (c_law_draw : Cal P w K mg base G 1 "_law_draw" a_law_draw fd_law_draw ["pot", "size"] f_law_draw) {a_law_pick : Addr} {fd_law_pick : FuncData} (c_law_pick : Cal P w K mg base G 2 "_law_pick" a_law_pick fd_law_pick ["pot", "some"] f_law_pick)  : FnG P w K mg base CX0 G 10 f fd ["pot"] f_law_things :=
  fn_body T.hG outV_ok F sc_law_things fun cdv A outer s H E cx => (s_cons (s_asg (e_lstN (a_cons e_non (a_cons e_int (a_cons e_int (a_cons (e_una un_negD e_int) (a_cons e_bl (a_cons e_bl (a_cons e_str (a_cons e_str (a_cons e_str (a_cons e_dic0 (a_cons (e_dicC [1] [1] (pps_cons pe_int pe_int pps_nil)) (a_cons (e_lst a_nil) (a_cons (e_tup a_nil) (a_cons (e_lst (a_cons (e_lst a_nil) a_nil)) (a_cons (e_lst (a_cons e_non a_nil)) (a_cons (e_call (cx.lower (by decide)) c_idle.fn c_idle.kp c_idle.bi rfl c_idle.mg (a_cons e_int a_nil)) (a_cons (e_bin op_powD e_int e_int) (a_cons (e_una un_negD (e_bin op_powD e_int e_int)) (a_cons (e_bin (op_mulD cx.hK) (e_lst (a_cons e_int a_nil)) e_int) (a_cons (e_bin (op_mulD cx.hK) (e_lst (a_cons e_int a_nil)) e_int) a_nil))))))))))))))))))))) (g_name 1 nd_law_things)) (s_cons (s_asg (e_bin op_addND (e_var 1) (e_lst (a_cons (e_lst (a_cons e_int a_nil)) (a_cons (e_lst (a_cons e_bl a_nil)) (a_cons (e_tup (a_cons e_int (a_cons e_int a_nil))) (a_cons (e_lst (a_cons e_int (a_cons e_bl a_nil))) (a_cons (e_lst (a_cons e_int a_nil)) (a_cons (e_tup (a_cons (e_una un_negD e_int) (a_cons e_int a_nil))) a_nil)))))))) (g_name 1 nd_law_things)) (s_cons (s_for PassesOwn.never cx.calm (i_rng1 rfl T.no_range (a_cons e_int a_nil)) (g_name 2 nd_law_things) (s_cons (s_setLc (own := [("part", 4)]) 3 cx.calm nd_law_things (i_rng1 rfl T.no_range (a_cons (e_call (cx.lower (by decide)) c_law_draw.fn c_law_draw.kp c_law_draw.bi rfl c_law_draw.mg (a_cons (e_var 0) (a_cons e_int a_nil))) a_nil)) (blkOk_by (by kernel_rfl)) (by decide) (fun _ _ _ _ _ => g_name 4 nd_law_things) (fun _ _ _ _ _ => p_nil) (fun _ _ _ _ _ => e_bin (op_mulD cx.hK) (e_bin (op_addD cx.hK) e_int (e_call (cx.blk.lower (by decide)) c_law_draw.fn c_law_draw.kp c_law_draw.bi rfl c_law_draw.mg (a_cons (e_var 0) (a_cons e_int a_nil)))) (e_bin op_subD e_int (e_bin (op_mulD cx.hK) e_int (e_call (cx.blk.lower (by decide)) c_law_draw.fn c_law_draw.kp c_law_draw.bi rfl c_law_draw.mg (a_cons (e_var 0) (a_cons e_int a_nil)))))) (sw_true rfl rfl rfl (by decide +kernel))) (s_cons (s_own 5 nd_law_things (n_list cx.hK rfl rfl T.no_list bt_list (e_var 3))) (s_cons (s_if (t_oneq 5 cx.hK cx.hu (e_lst a_nil)) (s_one (s_asgG (e_call (cx.lower (by decide)) c_law_pick.fn c_law_pick.kp c_law_pick.bi rfl c_law_pick.mg (a_cons (e_var 0) (a_cons (e_lst (a_cons e_bl (a_cons e_bl (a_cons e_non (a_cons e_str (a_cons e_int (a_cons (e_lst (a_cons e_int a_nil)) (a_cons e_int (a_cons (e_una un_negD e_int) (a_cons (e_bin op_powD e_int e_int) (a_cons (e_tup a_nil) (a_cons e_dic0 a_nil)))))))))))) a_nil))) (gg_subO 5 (e_call (cx.lower (by decide)) c_law_draw.fn c_law_draw.kp c_law_draw.bi rfl c_law_draw.mg (a_cons (e_var 0) (a_cons (e_olen 5 rfl rfl T.no_len bt_len) a_nil)))))) s_nil) (s_rel 5 (s_one (s_drop (e_bm PySem.F.slot_list_extend PySem.F.type_list_extend m_extend (e_var 1) (a_cons (e_lst (a_cons (e_var 3) (a_cons (e_typ (c_tuple cx.hK) rfl T.no_tuple bt_tuple (a_cons (e_var 3) a_nil)) (a_cons (e_var 5) (a_cons (e_typ (c_tuple cx.hK) rfl T.no_tuple bt_tuple (a_cons (e_var 5) a_nil)) (a_cons (e_lst (a_cons (e_var 3) a_nil)) a_nil)))))) a_nil))))))))) (s_one (s_ret (e_var 1))))))
abbrev st_law_right : Stmt := top 49
abbrev N_law_right : List Str := ["pot", "many", "thing", "shown", "due", "told"]
theorem nd_law_right : N_law_right.Nodup := by decide +kernel
theorem sc_law_right : FnScope N_law_right ["pot"] (defScope st_law_right) := ⟨rfl, rfl, rfl, nd_law_right, rfl, by decide +kernel, by decide +kernel⟩
theorem w_law_right (T : Txt K mg G) {f : Addr} {fd : FuncData} (F : Fun K "_law_right" "_law_right" st_law_right f fd) {a_is_count : Addr} {fd_is_count : FuncData} (c_is_count : Cal P w K mg base G 2 "is_count" a_is_count fd_is_count ["value"] f_is_count) {a_is_integer : Addr} {fd_is_integer : FuncData} (c_is_integer : Cal P w K mg base G 1 "is_integer" a_is_integer fd_is_integer ["value"] f_is_integer) {a_is_list : Addr} {fd_is_list : FuncData} (c_is_list : Cal P w K mg base G 1 "is_list" a_is_list fd_is_list ["value"] f_is_list) {a_is_row : Addr} {fd_is_row : FuncData} (c_is_row : Cal P w K mg base G 2 "is_row" a_is_row fd_is_row ["value"] f_is_row) {a_is_word : Addr} {fd_is_word : FuncData} (c_is_word : Cal P w K mg base G 3 "is_word" a_is_word fd_is_word ["value", "many"] f_is_word) {a_law_draw : Addr} {fd_law_draw : FuncData} (c_law_draw : Cal P w K mg base G 1 "_law_draw" a_law_draw fd_law_draw ["pot", "size"] f_law_draw) {a_law_is_list : Addr} {fd_law_is_list : FuncData} (c_law_is_list : Cal P w K mg base G 1 "_law_is_list" a_law_is_list fd_law_is_list ["thing"] f_law_is_list) {a_law_is_number : Addr} {fd_law_is_number : FuncData} (c_law_is_number : Cal P w K mg base G 1 "_law_is_number" a_law_is_number fd_law_is_number ["thing"] f_law_is_number) {a_law_is_row : Addr} {fd_law_is_row : FuncData} (c_law_is_row : Cal P w K mg base G 2 "_law_is_row" a_law_is_row fd_law_is_row ["thing"] f_law_is_row) {a_law_is_word : Addr} {fd_law_is_word : FuncData} (c_law_is_word : Cal P w K mg base G 2 "_law_is_word" a_law_is_word fd_law_is_word ["thing", "many"] f_law_is_word) {a_law_things : Addr} {fd_law_things : FuncData} (c_law_things : Cal P w K mg base G 10 "_law_things" a_law_things fd_law_things ["pot"] f_law_things) (rp_ok : RpOk P w K mg base G 1 rps) (kw_is_count_0_value : KwB K fd_is_count ["value"] 0 ["value"] [0]) (kw_is_integer_0_value : KwB K fd_is_integer ["value"] 0 ["value"] [0]) (kw_is_list_0_value : KwB K fd_is_list ["value"] 0 ["value"] [0]) (kw_is_row_0_value : KwB K fd_is_row ["value"] 0 ["value"] [0]) (kw_is_word_0_many_value : KwB K fd_is_word ["value", "many"] 0 ["many", "value"] [1, 0]) : FnG P w K mg base CX0 G 11 f fd ["pot"] f_law_right :=
  fn_body T.hG outP_ok F sc_law_right fun cdv A outer s H E cx => (s_cons (s_asg (e_bin (op_addD cx.hK) e_int (e_call (cx.lower (by decide)) c_law_draw.fn c_law_draw.kp c_law_draw.bi rfl c_law_draw.mg (a_cons (e_var 0) (a_cons e_int a_nil)))) (g_name 1 nd_law_right)) (s_cons (s_for PassesOwn.never cx.calm (i_seq cx.hK (e_call (cx.lower (by decide)) c_law_things.fn c_law_things.kp c_law_things.bi rfl c_law_things.mg (a_cons (e_var 0) a_nil))) (g_name 2 nd_law_right) (s_cons (s_asg (e_blt (c_reprZ cx.hK cx.gua (cx.lower (by decide)).room rp_ok) rfl T.no_repr bt_repr (a_cons (e_var 2) a_nil)) (g_name 3 nd_law_right)) (s_cons (s_asg (e_lst (a_cons (e_call (cx.lower (by decide)) c_law_is_number.fn c_law_is_number.kp c_law_is_number.bi rfl c_law_is_number.mg (a_cons (e_var 2) a_nil)) (a_cons (e_and cx.hK (e_call (cx.lower (by decide)) c_law_is_number.fn c_law_is_number.kp c_law_is_number.bi rfl c_law_is_number.mg (a_cons (e_var 2) a_nil)) (e_one (e_cmp op_geD (e_var 2) e_int))) (a_cons (e_call (cx.lower (by decide)) c_law_is_list.fn c_law_is_list.kp c_law_is_list.bi rfl c_law_is_list.mg (a_cons (e_var 2) a_nil)) (a_cons (e_call (cx.lower (by decide)) c_law_is_row.fn c_law_is_row.kp c_law_is_row.bi rfl c_law_is_row.mg (a_cons (e_var 2) a_nil)) (a_cons (e_call (cx.lower (by decide)) c_law_is_word.fn c_law_is_word.kp c_law_is_word.bi rfl c_law_is_word.mg (a_cons (e_var 2) (a_cons (e_var 1) a_nil))) a_nil)))))) (g_name 4 nd_law_right)) (s_cons (s_if (t_cmp (op_neDD cx.hK cx.hu) (e_blt (c_reprZ cx.hK cx.gua (cx.lower (by decide)).room rp_ok) rfl T.no_repr bt_repr (a_cons (e_lst (a_cons (e_call (cx.lower (by decide)) c_is_integer.fn c_is_integer.kp c_is_integer.bi rfl c_is_integer.mg (a_cons (e_var 2) a_nil)) (a_cons (e_call (cx.lower (by decide)) c_is_count.fn c_is_count.kp c_is_count.bi rfl c_is_count.mg (a_cons (e_var 2) a_nil)) (a_cons (e_call (cx.lower (by decide)) c_is_list.fn c_is_list.kp c_is_list.bi rfl c_is_list.mg (a_cons (e_var 2) a_nil)) (a_cons (e_call (cx.lower (by decide)) c_is_row.fn c_is_row.kp c_is_row.bi rfl c_is_row.mg (a_cons (e_var 2) a_nil)) (a_cons (e_call (cx.lower (by decide)) c_is_word.fn c_is_word.kp c_is_word.bi rfl c_is_word.mg (a_cons (e_var 2) (a_cons (e_var 1) a_nil))) a_nil)))))) a_nil)) (e_blt (c_reprZ cx.hK cx.gua (cx.lower (by decide)).room rp_ok) rfl T.no_repr bt_repr (a_cons (e_var 4) a_nil))) (s_one (s_ret e_bl)) s_nil) (s_cons (s_asg (e_lst (a_cons (e_callK0 (cx.lower (by decide)) c_is_integer.fn c_is_integer.kp kw_is_integer_0_value rfl c_is_integer.mg (k_cons (e_var 2) k_nil)) (a_cons (e_callK0 (cx.lower (by decide)) c_is_count.fn c_is_count.kp kw_is_count_0_value rfl c_is_count.mg (k_cons (e_var 2) k_nil)) (a_cons (e_callK0 (cx.lower (by decide)) c_is_list.fn c_is_list.kp kw_is_list_0_value rfl c_is_list.mg (k_cons (e_var 2) k_nil)) (a_cons (e_callK0 (cx.lower (by decide)) c_is_row.fn c_is_row.kp kw_is_row_0_value rfl c_is_row.mg (k_cons (e_var 2) k_nil)) (a_cons (e_callK0 (cx.lower (by decide)) c_is_word.fn c_is_word.kp kw_is_word_0_many_value rfl c_is_word.mg (k_cons (e_var 1) (k_cons (e_var 2) k_nil))) a_nil)))))) (g_name 5 nd_law_right)) (s_one (s_if (t_w (w_or (t_cmp (op_neDD cx.hK cx.hu) (e_blt (c_reprZ cx.hK cx.gua (cx.lower (by decide)).room rp_ok) rfl T.no_repr bt_repr (a_cons (e_var 5) a_nil)) (e_blt (c_reprZ cx.hK cx.gua (cx.lower (by decide)).room rp_ok) rfl T.no_repr bt_repr (a_cons (e_var 4) a_nil))) (w_one_or (t_cmp (op_neDD cx.hK cx.hu) (e_blt (c_reprZ cx.hK cx.gua (cx.lower (by decide)).room rp_ok) rfl T.no_repr bt_repr (a_cons (e_var 2) a_nil)) (e_var 3))))) (s_one (s_ret e_bl)) s_nil))))))) (s_one (s_ret e_bl))))
abbrev st_Table_repr : Stmt := inClass (top 30) 7
abbrev N_Table_repr : List Str := ["self"]
theorem nd_Table_repr : N_Table_repr.Nodup := by decide +kernel
theorem sc_Table_repr : FnScope N_Table_repr ["self"] (defScope st_Table_repr) := ⟨rfl, rfl, rfl, nd_Table_repr, rfl, by decide +kernel, by decide +kernel⟩
theorem w_Table_repr (T : Txt K mg G) {f : Addr} {fd : FuncData} (F : Fun K "__repr__" "Table.__repr__" st_Table_repr f fd)   : FnG P w K mg base CX0 G 1 f fd ["self"] f_Table_repr :=
  fn_body T.hG outP_ok F sc_Table_repr fun cdv A outer s H E cx => (s_one (s_ret (e_fst cx.up (e_fld 1 0 T.c1 (e_var 0) T.f1_0))))
abbrev st_law : Stmt := top 50
abbrev N_law : List Str := ["script", "k"]
theorem nd_law : N_law.Nodup := by decide +kernel
theorem sc_law : FnScope N_law ["script"] (defScope st_law) := ⟨rfl, rfl, rfl, nd_law, rfl, by decide +kernel, by decide +kernel⟩
theorem w_law (T : Txt K mg G) {f : Addr} {fd : FuncData} (F : Fun K "law" "law" st_law f fd) {a_law_pot : Addr} {fd_law_pot : FuncData} (c_law_pot : Cal P w K mg base G 1 "_law_pot" a_law_pot fd_law_pot ["script", "k"] f_law_pot) {a_law_right : Addr} {fd_law_right : FuncData} (c_law_right : Cal P w K mg base G 11 "_law_right" a_law_right fd_law_right ["pot"] f_law_right)  : FnG P w K mg base CX0 G 12 f fd ["script"] f_law :=
  fn_body T.hG outV_ok F sc_law fun cdv A outer s H E cx => (s_one (s_ret (e_blt (c_all cx.hK cx.calm) rfl T.no_all bt_all (a_cons (e_lc (own := [("k", 1)]) cx.calm nd_law (i_rng1 rfl T.no_range (a_cons (e_blt (c_max cx.calm) rfl T.no_max bt_max (a_cons e_int (a_cons (e_blt (c_min cx.calm) rfl T.no_min bt_min (a_cons e_int (a_cons (e_blt (c_len cx.hK) rfl T.no_len bt_len (a_cons (e_var 0) a_nil)) a_nil))) a_nil))) a_nil)) (blkOk_by (by kernel_rfl)) (by decide) (fun _ _ _ _ _ => g_name 1 nd_law) (fun _ _ _ _ _ => p_nil) (fun _ _ _ _ _ => e_call (cx.blk.lower (by decide)) c_law_right.fn c_law_right.kp c_law_right.bi rfl c_law_right.mg (a_cons (e_call (cx.blk.lower (by decide)) c_law_pot.fn c_law_pot.kp c_law_pot.bi rfl c_law_pot.mg (a_cons (e_var 0) (a_cons (e_var 1) a_nil))) a_nil))) a_nil))))
theorem wg_Table_repr (T : Txt K mg G) {f : Addr} {fd : FuncData} (F : Fun K "__repr__" "Table.__repr__" st_Table_repr f fd) (bi : Binds K fd ["self"] []) (hf : PySem.W.findIn K (.ref (G.cls 1)) "__repr__" = some (some (.ref f))) (hi : PySem.W.isFn K (.ref f) = true) : Rpg P w K mg base G 1 1 f fd "Table(" 0 ")" :=
  rpg_body T.hG F sc_Table_repr rfl bi hf hi fun cdv A outer s H E g hK hg hr => (pss_one (ps_ret (g_fst hK hg hr (e_fld 1 0 T.c1 (e_var 0) T.f1_0))))
end
end Lk17

set_option Elab.async false
set_option linter.all false
set_option maxRecDepth 100000
set_option maxHeartbeats 4000000
set_option autoImplicit false
/-! k17: the end. -/
namespace Lk17
open PySem PySem.Spec PyProof.Rows L2 Kb Tab
def cfg (K : PySem.W.Frag) (C0 : Addr) (C1 : Addr) : Cfg := ⟨K, fun | 0 => C0 | 1 => C1 | _ => 0, fun | 0 => ["told_rows", "told_determinant"] | 1 => ["own_rows", "own_determinant"] | _ => [], 2⟩
theorem all_mk {l : PySem.W.OpenLaw} {w : World} {K : PySem.W.Frag} {h : Heap} {mg : Str → Option Value} {fa : Addr} (plain : ∀ ns : List Int, ns.length ≤ 63 → ∃ m : Mem, f_law [.scr ns] [] = some (.bl true, m)) (X : K.In h) (W : h.Ns mainGlobals mg) (hfa : mg "law" = some (.ref fa)) {C0 : Addr} {C1 : Addr} {tk_MOST_LETTERS : Tok} {tk_MOST_MAKERS : Tok} {tk_MOST_SIZE : Tok} {A_law_pot : Addr} {oc_law_pot kV_law_pot dc_law_pot pm_law_pot cd_law_pot ct_law_pot : Value} {od_law_pot an_law_pot : Option Addr} {sl_law_pot : Array (Option Value)} {A_is_integer : Addr} {oc_is_integer kV_is_integer dc_is_integer pm_is_integer cd_is_integer ct_is_integer : Value} {od_is_integer an_is_integer : Option Addr} {sl_is_integer : Array (Option Value)} {A_is_count : Addr} {oc_is_count kV_is_count dc_is_count pm_is_count cd_is_count ct_is_count : Value} {od_is_count an_is_count : Option Addr} {sl_is_count : Array (Option Value)} {A_is_list : Addr} {oc_is_list kV_is_list dc_is_list pm_is_list cd_is_list ct_is_list : Value} {od_is_list an_is_list : Option Addr} {sl_is_list : Array (Option Value)} {A_is_row : Addr} {oc_is_row kV_is_row dc_is_row pm_is_row cd_is_row ct_is_row : Value} {od_is_row an_is_row : Option Addr} {sl_is_row : Array (Option Value)} {A_is_word_of : Addr} {oc_is_word_of kV_is_word_of dc_is_word_of pm_is_word_of cd_is_word_of ct_is_word_of : Value} {od_is_word_of an_is_word_of : Option Addr} {sl_is_word_of : Array (Option Value)} {A_want_many : Addr} {oc_want_many kV_want_many dc_want_many pm_want_many cd_want_many ct_want_many : Value} {od_want_many an_want_many : Option Addr} {sl_want_many : Array (Option Value)} {T_want_many : Addr} {tc_want_many : Value} {td_want_many : Option Addr} {ts_want_many : Array (Option Value)} {tn_want_many : Nat} {d0_want_many d1_want_many : Value} {A_is_word : Addr} {oc_is_word kV_is_word dc_is_word pm_is_word cd_is_word ct_is_word : Value} {od_is_word an_is_word : Option Addr} {sl_is_word : Array (Option Value)} {A_law_draw : Addr} {oc_law_draw kV_law_draw dc_law_draw pm_law_draw cd_law_draw ct_law_draw : Value} {od_law_draw an_law_draw : Option Addr} {sl_law_draw : Array (Option Value)} {A_law_is_list : Addr} {oc_law_is_list kV_law_is_list dc_law_is_list pm_law_is_list cd_law_is_list ct_law_is_list : Value} {od_law_is_list an_law_is_list : Option Addr} {sl_law_is_list : Array (Option Value)} {A_law_is_number : Addr} {oc_law_is_number kV_law_is_number dc_law_is_number pm_law_is_number cd_law_is_number ct_law_is_number : Value} {od_law_is_number an_law_is_number : Option Addr} {sl_law_is_number : Array (Option Value)} {A_law_is_row : Addr} {oc_law_is_row kV_law_is_row dc_law_is_row pm_law_is_row cd_law_is_row ct_law_is_row : Value} {od_law_is_row an_law_is_row : Option Addr} {sl_law_is_row : Array (Option Value)} {A_law_is_word : Addr} {oc_law_is_word kV_law_is_word dc_law_is_word pm_law_is_word cd_law_is_word ct_law_is_word : Value} {od_law_is_word an_law_is_word : Option Addr} {sl_law_is_word : Array (Option Value)} {A_idle_rows : Addr} {oc_idle_rows kV_idle_rows dc_idle_rows pm_idle_rows cd_idle_rows ct_idle_rows : Value} {od_idle_rows an_idle_rows : Option Addr} {sl_idle_rows : Array (Option Value)} {A_Told_init : Addr} {oc_Told_init kV_Told_init dc_Told_init pm_Told_init cd_Told_init ct_Told_init : Value} {od_Told_init an_Told_init : Option Addr} {sl_Told_init : Array (Option Value)} {A_are_rows : Addr} {oc_are_rows kV_are_rows dc_are_rows pm_are_rows cd_are_rows ct_are_rows : Value} {od_are_rows an_are_rows : Option Addr} {sl_are_rows : Array (Option Value)} {A_left_without : Addr} {oc_left_without kV_left_without dc_left_without pm_left_without cd_left_without ct_left_without : Value} {od_left_without an_left_without : Option Addr} {sl_left_without : Array (Option Value)} {A_determinant_of : Addr} {oc_determinant_of kV_determinant_of dc_determinant_of pm_determinant_of cd_determinant_of ct_determinant_of : Value} {od_determinant_of an_determinant_of : Option Addr} {sl_determinant_of : Array (Option Value)} {A_told_rows : Addr} {oc_told_rows kV_told_rows dc_told_rows pm_told_rows cd_told_rows ct_told_rows : Value} {od_told_rows an_told_rows : Option Addr} {sl_told_rows : Array (Option Value)} {A_Table_init : Addr} {oc_Table_init kV_Table_init dc_Table_init pm_Table_init cd_Table_init ct_Table_init : Value} {od_Table_init an_Table_init : Option Addr} {sl_Table_init : Array (Option Value)} {A_table_by : Addr} {oc_table_by kV_table_by dc_table_by pm_table_by cd_table_by ct_table_by : Value} {od_table_by an_table_by : Option Addr} {sl_table_by : Array (Option Value)} {A_idle : Addr} {oc_idle kV_idle dc_idle pm_idle cd_idle ct_idle : Value} {od_idle an_idle : Option Addr} {sl_idle : Array (Option Value)} {A_law_pick : Addr} {oc_law_pick kV_law_pick dc_law_pick pm_law_pick cd_law_pick ct_law_pick : Value} {od_law_pick an_law_pick : Option Addr} {sl_law_pick : Array (Option Value)} {A_law_things : Addr} {oc_law_things kV_law_things dc_law_things pm_law_things cd_law_things ct_law_things : Value} {od_law_things an_law_things : Option Addr} {sl_law_things : Array (Option Value)} {A_law_right : Addr} {oc_law_right kV_law_right dc_law_right pm_law_right cd_law_right ct_law_right : Value} {od_law_right an_law_right : Option Addr} {sl_law_right : Array (Option Value)} {A_Table_repr : Addr} {oc_Table_repr kV_Table_repr dc_Table_repr pm_Table_repr cd_Table_repr ct_Table_repr : Value} {od_Table_repr an_Table_repr : Option Addr} {sl_Table_repr : Array (Option Value)} {A_law : Addr} {oc_law kV_law dc_law pm_law cd_law ct_law : Value} {od_law an_law : Option Addr} {sl_law : Array (Option Value)}
    (aC0 : PySem.W.nsIn K mainGlobals "Told" = some (some (.ref C0))) (pg0 : PySem.W.plainGet K C0 Str.empty = true) (hd0 : PySem.W.hasDictIn K C0 = true) (po0 : PySem.W.plainOver K C0 = true) (sa0 : PySem.W.findIn K (.ref C0) "__setattr__" = some (some (.builtin "object.__setattr__"))) (kc0 : PySem.W.keepIn K (.ref C0) = true) (mk0 : PySem.W.makesIn K C0 = true) (ha0 : PySem.W.findIn K (.ref C0) "__class__" = some (some (.builtin "object.__class__"))) (hm0 : PySem.W.mroIn K C0 (.type "object") = some true) (nf0x0 : PySem.W.findIn K (.ref C0) "told_rows" = some none) (nf0x1 : PySem.W.findIn K (.ref C0) "told_determinant" = some none) (aC1 : PySem.W.nsIn K mainGlobals "Table" = some (some (.ref C1))) (pg1 : PySem.W.plainGet K C1 Str.empty = true) (hd1 : PySem.W.hasDictIn K C1 = true) (po1 : PySem.W.plainOver K C1 = true) (sa1 : PySem.W.findIn K (.ref C1) "__setattr__" = some (some (.builtin "object.__setattr__"))) (kc1 : PySem.W.keepIn K (.ref C1) = true) (mk1 : PySem.W.makesIn K C1 = true) (ha1 : PySem.W.findIn K (.ref C1) "__class__" = some (some (.builtin "object.__class__"))) (hm1 : PySem.W.mroIn K C1 (.type "object") = some true) (nf1x0 : PySem.W.findIn K (.ref C1) "own_rows" = some none) (nf1x1 : PySem.W.findIn K (.ref C1) "own_determinant" = some none) (hn : PySem.W.specialIn K (.builtin "object.__class__") "__get__" = some (some (.builtin "getset_descriptor.__get__"))) (htk : PySem.W.takesIn K (.builtin "object.__class__") = some true) (kt_NoneType_0 : PySem.W.subIn K (.type "NoneType") (.ref C0) = some false) (kt_bool_0 : PySem.W.subIn K (.type "bool") (.ref C0) = some false) (kt_int_0 : PySem.W.subIn K (.type "int") (.ref C0) = some false) (kt_str_0 : PySem.W.subIn K (.type "str") (.ref C0) = some false) (kt_list_0 : PySem.W.subIn K (.type "list") (.ref C0) = some false) (kt_tuple_0 : PySem.W.subIn K (.type "tuple") (.ref C0) = some false) (kt_dict_0 : PySem.W.subIn K (.type "dict") (.ref C0) = some false) (ic0 : PySem.W.isClsIn K C0 = true) (ty0 : PySem.W.typeIn K (.ref C0) = some (.type "type")) (kc_0_0 : PySem.W.subIn K (.ref C0) (.ref C0) = some true) (kc_1_0 : PySem.W.subIn K (.ref C1) (.ref C0) = some false) (ki_bool_0 : PySem.W.subIn K (.ref C0) (.type "bool") = some false) (ki_bool_1 : PySem.W.subIn K (.ref C1) (.type "bool") = some false) (ki_int_0 : PySem.W.subIn K (.ref C0) (.type "int") = some false) (ki_int_1 : PySem.W.subIn K (.ref C1) (.type "int") = some false) (ki_list_0 : PySem.W.subIn K (.ref C0) (.type "list") = some false) (ki_list_1 : PySem.W.subIn K (.ref C1) (.type "list") = some false) (ki_tuple_0 : PySem.W.subIn K (.ref C0) (.type "tuple") = some false) (ki_tuple_1 : PySem.W.subIn K (.ref C1) (.type "tuple") = some false) (z_abs : PySem.W.nsIn K mainGlobals "abs" = some none) (z_all : PySem.W.nsIn K mainGlobals "all" = some none) (z_bool : PySem.W.nsIn K mainGlobals "bool" = some none) (z_divmod : PySem.W.nsIn K mainGlobals "divmod" = some none) (z_enumerate : PySem.W.nsIn K mainGlobals "enumerate" = some none) (z_int : PySem.W.nsIn K mainGlobals "int" = some none) (z_isinstance : PySem.W.nsIn K mainGlobals "isinstance" = some none) (z_len : PySem.W.nsIn K mainGlobals "len" = some none) (z_list : PySem.W.nsIn K mainGlobals "list" = some none) (z_max : PySem.W.nsIn K mainGlobals "max" = some none) (z_min : PySem.W.nsIn K mainGlobals "min" = some none) (z_range : PySem.W.nsIn K mainGlobals "range" = some none) (z_repr : PySem.W.nsIn K mainGlobals "repr" = some none) (z_tuple : PySem.W.nsIn K mainGlobals "tuple" = some none) (kk_MOST_LETTERS : PySem.W.nsIn K mainGlobals "MOST_LETTERS" = some (some (.int 60 tk_MOST_LETTERS))) (kk_MOST_MAKERS : PySem.W.nsIn K mainGlobals "MOST_MAKERS" = some (some (.int 4 tk_MOST_MAKERS))) (kk_MOST_SIZE : PySem.W.nsIn K mainGlobals "MOST_SIZE" = some (some (.int 3 tk_MOST_SIZE))) (a_law_pot : PySem.W.nsIn K mainGlobals "_law_pot" = some (some (.ref A_law_pot))) (l_law_pot : K.lookup A_law_pot = some ⟨oc_law_pot, od_law_pot, .func (PySem.W.fnOf "_law_pot" "_law_pot" (defArgs st_law_pot) (defBody st_law_pot) (defScope st_law_pot) .none kV_law_pot dc_law_pot pm_law_pot an_law_pot cd_law_pot ct_law_pot), sl_law_pot⟩) (c_law_pot : PySem.W.codeIn K cd_law_pot "_law_pot" = true) (k_law_pot : PySem.W.keepIn K (.ref A_law_pot) = true) (a_is_integer : PySem.W.nsIn K mainGlobals "is_integer" = some (some (.ref A_is_integer))) (l_is_integer : K.lookup A_is_integer = some ⟨oc_is_integer, od_is_integer, .func (PySem.W.fnOf "is_integer" "is_integer" (defArgs st_is_integer) (defBody st_is_integer) (defScope st_is_integer) .none kV_is_integer dc_is_integer pm_is_integer an_is_integer cd_is_integer ct_is_integer), sl_is_integer⟩) (c_is_integer : PySem.W.codeIn K cd_is_integer "is_integer" = true) (k_is_integer : PySem.W.keepIn K (.ref A_is_integer) = true) (a_is_count : PySem.W.nsIn K mainGlobals "is_count" = some (some (.ref A_is_count))) (l_is_count : K.lookup A_is_count = some ⟨oc_is_count, od_is_count, .func (PySem.W.fnOf "is_count" "is_count" (defArgs st_is_count) (defBody st_is_count) (defScope st_is_count) .none kV_is_count dc_is_count pm_is_count an_is_count cd_is_count ct_is_count), sl_is_count⟩) (c_is_count : PySem.W.codeIn K cd_is_count "is_count" = true) (k_is_count : PySem.W.keepIn K (.ref A_is_count) = true) (a_is_list : PySem.W.nsIn K mainGlobals "is_list" = some (some (.ref A_is_list))) (l_is_list : K.lookup A_is_list = some ⟨oc_is_list, od_is_list, .func (PySem.W.fnOf "is_list" "is_list" (defArgs st_is_list) (defBody st_is_list) (defScope st_is_list) .none kV_is_list dc_is_list pm_is_list an_is_list cd_is_list ct_is_list), sl_is_list⟩) (c_is_list : PySem.W.codeIn K cd_is_list "is_list" = true) (k_is_list : PySem.W.keepIn K (.ref A_is_list) = true) (a_is_row : PySem.W.nsIn K mainGlobals "is_row" = some (some (.ref A_is_row))) (l_is_row : K.lookup A_is_row = some ⟨oc_is_row, od_is_row, .func (PySem.W.fnOf "is_row" "is_row" (defArgs st_is_row) (defBody st_is_row) (defScope st_is_row) .none kV_is_row dc_is_row pm_is_row an_is_row cd_is_row ct_is_row), sl_is_row⟩) (c_is_row : PySem.W.codeIn K cd_is_row "is_row" = true) (k_is_row : PySem.W.keepIn K (.ref A_is_row) = true) (a_is_word_of : PySem.W.nsIn K mainGlobals "is_word_of" = some (some (.ref A_is_word_of))) (l_is_word_of : K.lookup A_is_word_of = some ⟨oc_is_word_of, od_is_word_of, .func (PySem.W.fnOf "is_word_of" "is_word_of" (defArgs st_is_word_of) (defBody st_is_word_of) (defScope st_is_word_of) .none kV_is_word_of dc_is_word_of pm_is_word_of an_is_word_of cd_is_word_of ct_is_word_of), sl_is_word_of⟩) (c_is_word_of : PySem.W.codeIn K cd_is_word_of "is_word_of" = true) (k_is_word_of : PySem.W.keepIn K (.ref A_is_word_of) = true) (a_want_many : PySem.W.nsIn K mainGlobals "want_many" = some (some (.ref A_want_many))) (l_want_many : K.lookup A_want_many = some ⟨oc_want_many, od_want_many, .func (PySem.W.fnOf "want_many" "want_many" (defArgs st_want_many) (defBody st_want_many) (defScope st_want_many) (.ref T_want_many) kV_want_many dc_want_many pm_want_many an_want_many cd_want_many ct_want_many), sl_want_many⟩) (lT_want_many : K.lookup T_want_many = some ⟨tc_want_many, td_want_many, .seq (List.toArray [d0_want_many, d1_want_many]) tn_want_many, ts_want_many⟩) (c_want_many : PySem.W.codeIn K cd_want_many "want_many" = true) (k_want_many : PySem.W.keepIn K (.ref A_want_many) = true) (a_is_word : PySem.W.nsIn K mainGlobals "is_word" = some (some (.ref A_is_word))) (l_is_word : K.lookup A_is_word = some ⟨oc_is_word, od_is_word, .func (PySem.W.fnOf "is_word" "is_word" (defArgs st_is_word) (defBody st_is_word) (defScope st_is_word) .none kV_is_word dc_is_word pm_is_word an_is_word cd_is_word ct_is_word), sl_is_word⟩) (c_is_word : PySem.W.codeIn K cd_is_word "is_word" = true) (k_is_word : PySem.W.keepIn K (.ref A_is_word) = true) (a_law_draw : PySem.W.nsIn K mainGlobals "_law_draw" = some (some (.ref A_law_draw))) (l_law_draw : K.lookup A_law_draw = some ⟨oc_law_draw, od_law_draw, .func (PySem.W.fnOf "_law_draw" "_law_draw" (defArgs st_law_draw) (defBody st_law_draw) (defScope st_law_draw) .none kV_law_draw dc_law_draw pm_law_draw an_law_draw cd_law_draw ct_law_draw), sl_law_draw⟩) (c_law_draw : PySem.W.codeIn K cd_law_draw "_law_draw" = true) (k_law_draw : PySem.W.keepIn K (.ref A_law_draw) = true) (a_law_is_list : PySem.W.nsIn K mainGlobals "_law_is_list" = some (some (.ref A_law_is_list))) (l_law_is_list : K.lookup A_law_is_list = some ⟨oc_law_is_list, od_law_is_list, .func (PySem.W.fnOf "_law_is_list" "_law_is_list" (defArgs st_law_is_list) (defBody st_law_is_list) (defScope st_law_is_list) .none kV_law_is_list dc_law_is_list pm_law_is_list an_law_is_list cd_law_is_list ct_law_is_list), sl_law_is_list⟩) (c_law_is_list : PySem.W.codeIn K cd_law_is_list "_law_is_list" = true) (k_law_is_list : PySem.W.keepIn K (.ref A_law_is_list) = true) (a_law_is_number : PySem.W.nsIn K mainGlobals "_law_is_number" = some (some (.ref A_law_is_number))) (l_law_is_number : K.lookup A_law_is_number = some ⟨oc_law_is_number, od_law_is_number, .func (PySem.W.fnOf "_law_is_number" "_law_is_number" (defArgs st_law_is_number) (defBody st_law_is_number) (defScope st_law_is_number) .none kV_law_is_number dc_law_is_number pm_law_is_number an_law_is_number cd_law_is_number ct_law_is_number), sl_law_is_number⟩) (c_law_is_number : PySem.W.codeIn K cd_law_is_number "_law_is_number" = true) (k_law_is_number : PySem.W.keepIn K (.ref A_law_is_number) = true) (a_law_is_row : PySem.W.nsIn K mainGlobals "_law_is_row" = some (some (.ref A_law_is_row))) (l_law_is_row : K.lookup A_law_is_row = some ⟨oc_law_is_row, od_law_is_row, .func (PySem.W.fnOf "_law_is_row" "_law_is_row" (defArgs st_law_is_row) (defBody st_law_is_row) (defScope st_law_is_row) .none kV_law_is_row dc_law_is_row pm_law_is_row an_law_is_row cd_law_is_row ct_law_is_row), sl_law_is_row⟩) (c_law_is_row : PySem.W.codeIn K cd_law_is_row "_law_is_row" = true) (k_law_is_row : PySem.W.keepIn K (.ref A_law_is_row) = true) (a_law_is_word : PySem.W.nsIn K mainGlobals "_law_is_word" = some (some (.ref A_law_is_word))) (l_law_is_word : K.lookup A_law_is_word = some ⟨oc_law_is_word, od_law_is_word, .func (PySem.W.fnOf "_law_is_word" "_law_is_word" (defArgs st_law_is_word) (defBody st_law_is_word) (defScope st_law_is_word) .none kV_law_is_word dc_law_is_word pm_law_is_word an_law_is_word cd_law_is_word ct_law_is_word), sl_law_is_word⟩) (c_law_is_word : PySem.W.codeIn K cd_law_is_word "_law_is_word" = true) (k_law_is_word : PySem.W.keepIn K (.ref A_law_is_word) = true) (a_idle_rows : PySem.W.nsIn K mainGlobals "idle_rows" = some (some (.ref A_idle_rows))) (l_idle_rows : K.lookup A_idle_rows = some ⟨oc_idle_rows, od_idle_rows, .func (PySem.W.fnOf "idle_rows" "idle_rows" (defArgs st_idle_rows) (defBody st_idle_rows) (defScope st_idle_rows) .none kV_idle_rows dc_idle_rows pm_idle_rows an_idle_rows cd_idle_rows ct_idle_rows), sl_idle_rows⟩) (c_idle_rows : PySem.W.codeIn K cd_idle_rows "idle_rows" = true) (k_idle_rows : PySem.W.keepIn K (.ref A_idle_rows) = true) (a_Told_init : PySem.W.findIn K (.ref C0) "__init__" = some (some (.ref A_Told_init))) (i_Told_init : PySem.W.isFn K (.ref A_Told_init) = true) (l_Told_init : K.lookup A_Told_init = some ⟨oc_Told_init, od_Told_init, .func (PySem.W.fnOf "__init__" "Told.__init__" (defArgs st_Told_init) (defBody st_Told_init) (defScope st_Told_init) .none kV_Told_init dc_Told_init pm_Told_init an_Told_init cd_Told_init ct_Told_init), sl_Told_init⟩) (c_Told_init : PySem.W.codeIn K cd_Told_init "Told.__init__" = true) (k_Told_init : PySem.W.keepIn K (.ref A_Told_init) = true) (a_are_rows : PySem.W.nsIn K mainGlobals "are_rows" = some (some (.ref A_are_rows))) (l_are_rows : K.lookup A_are_rows = some ⟨oc_are_rows, od_are_rows, .func (PySem.W.fnOf "are_rows" "are_rows" (defArgs st_are_rows) (defBody st_are_rows) (defScope st_are_rows) .none kV_are_rows dc_are_rows pm_are_rows an_are_rows cd_are_rows ct_are_rows), sl_are_rows⟩) (c_are_rows : PySem.W.codeIn K cd_are_rows "are_rows" = true) (k_are_rows : PySem.W.keepIn K (.ref A_are_rows) = true) (a_left_without : PySem.W.nsIn K mainGlobals "left_without" = some (some (.ref A_left_without))) (l_left_without : K.lookup A_left_without = some ⟨oc_left_without, od_left_without, .func (PySem.W.fnOf "left_without" "left_without" (defArgs st_left_without) (defBody st_left_without) (defScope st_left_without) .none kV_left_without dc_left_without pm_left_without an_left_without cd_left_without ct_left_without), sl_left_without⟩) (c_left_without : PySem.W.codeIn K cd_left_without "left_without" = true) (k_left_without : PySem.W.keepIn K (.ref A_left_without) = true) (a_determinant_of : PySem.W.nsIn K mainGlobals "determinant_of" = some (some (.ref A_determinant_of))) (l_determinant_of : K.lookup A_determinant_of = some ⟨oc_determinant_of, od_determinant_of, .func (PySem.W.fnOf "determinant_of" "determinant_of" (defArgs st_determinant_of) (defBody st_determinant_of) (defScope st_determinant_of) .none kV_determinant_of dc_determinant_of pm_determinant_of an_determinant_of cd_determinant_of ct_determinant_of), sl_determinant_of⟩) (c_determinant_of : PySem.W.codeIn K cd_determinant_of "determinant_of" = true) (k_determinant_of : PySem.W.keepIn K (.ref A_determinant_of) = true) (a_told_rows : PySem.W.nsIn K mainGlobals "told_rows" = some (some (.ref A_told_rows))) (l_told_rows : K.lookup A_told_rows = some ⟨oc_told_rows, od_told_rows, .func (PySem.W.fnOf "told_rows" "told_rows" (defArgs st_told_rows) (defBody st_told_rows) (defScope st_told_rows) .none kV_told_rows dc_told_rows pm_told_rows an_told_rows cd_told_rows ct_told_rows), sl_told_rows⟩) (c_told_rows : PySem.W.codeIn K cd_told_rows "told_rows" = true) (k_told_rows : PySem.W.keepIn K (.ref A_told_rows) = true) (a_Table_init : PySem.W.findIn K (.ref C1) "__init__" = some (some (.ref A_Table_init))) (i_Table_init : PySem.W.isFn K (.ref A_Table_init) = true) (l_Table_init : K.lookup A_Table_init = some ⟨oc_Table_init, od_Table_init, .func (PySem.W.fnOf "__init__" "Table.__init__" (defArgs st_Table_init) (defBody st_Table_init) (defScope st_Table_init) .none kV_Table_init dc_Table_init pm_Table_init an_Table_init cd_Table_init ct_Table_init), sl_Table_init⟩) (c_Table_init : PySem.W.codeIn K cd_Table_init "Table.__init__" = true) (k_Table_init : PySem.W.keepIn K (.ref A_Table_init) = true) (a_table_by : PySem.W.nsIn K mainGlobals "table_by" = some (some (.ref A_table_by))) (l_table_by : K.lookup A_table_by = some ⟨oc_table_by, od_table_by, .func (PySem.W.fnOf "table_by" "table_by" (defArgs st_table_by) (defBody st_table_by) (defScope st_table_by) .none kV_table_by dc_table_by pm_table_by an_table_by cd_table_by ct_table_by), sl_table_by⟩) (c_table_by : PySem.W.codeIn K cd_table_by "table_by" = true) (k_table_by : PySem.W.keepIn K (.ref A_table_by) = true) (a_idle : PySem.W.nsIn K mainGlobals "idle" = some (some (.ref A_idle))) (l_idle : K.lookup A_idle = some ⟨oc_idle, od_idle, .func (PySem.W.fnOf "idle" "idle" (defArgs st_idle) (defBody st_idle) (defScope st_idle) .none kV_idle dc_idle pm_idle an_idle cd_idle ct_idle), sl_idle⟩) (c_idle : PySem.W.codeIn K cd_idle "idle" = true) (k_idle : PySem.W.keepIn K (.ref A_idle) = true) (a_law_pick : PySem.W.nsIn K mainGlobals "_law_pick" = some (some (.ref A_law_pick))) (l_law_pick : K.lookup A_law_pick = some ⟨oc_law_pick, od_law_pick, .func (PySem.W.fnOf "_law_pick" "_law_pick" (defArgs st_law_pick) (defBody st_law_pick) (defScope st_law_pick) .none kV_law_pick dc_law_pick pm_law_pick an_law_pick cd_law_pick ct_law_pick), sl_law_pick⟩) (c_law_pick : PySem.W.codeIn K cd_law_pick "_law_pick" = true) (k_law_pick : PySem.W.keepIn K (.ref A_law_pick) = true) (a_law_things : PySem.W.nsIn K mainGlobals "_law_things" = some (some (.ref A_law_things))) (l_law_things : K.lookup A_law_things = some ⟨oc_law_things, od_law_things, .func (PySem.W.fnOf "_law_things" "_law_things" (defArgs st_law_things) (defBody st_law_things) (defScope st_law_things) .none kV_law_things dc_law_things pm_law_things an_law_things cd_law_things ct_law_things), sl_law_things⟩) (c_law_things : PySem.W.codeIn K cd_law_things "_law_things" = true) (k_law_things : PySem.W.keepIn K (.ref A_law_things) = true) (a_law_right : PySem.W.nsIn K mainGlobals "_law_right" = some (some (.ref A_law_right))) (l_law_right : K.lookup A_law_right = some ⟨oc_law_right, od_law_right, .func (PySem.W.fnOf "_law_right" "_law_right" (defArgs st_law_right) (defBody st_law_right) (defScope st_law_right) .none kV_law_right dc_law_right pm_law_right an_law_right cd_law_right ct_law_right), sl_law_right⟩) (c_law_right : PySem.W.codeIn K cd_law_right "_law_right" = true) (k_law_right : PySem.W.keepIn K (.ref A_law_right) = true) (a_Table_repr : PySem.W.findIn K (.ref C1) "__repr__" = some (some (.ref A_Table_repr))) (i_Table_repr : PySem.W.isFn K (.ref A_Table_repr) = true) (l_Table_repr : K.lookup A_Table_repr = some ⟨oc_Table_repr, od_Table_repr, .func (PySem.W.fnOf "__repr__" "Table.__repr__" (defArgs st_Table_repr) (defBody st_Table_repr) (defScope st_Table_repr) .none kV_Table_repr dc_Table_repr pm_Table_repr an_Table_repr cd_Table_repr ct_Table_repr), sl_Table_repr⟩) (c_Table_repr : PySem.W.codeIn K cd_Table_repr "Table.__repr__" = true) (k_Table_repr : PySem.W.keepIn K (.ref A_Table_repr) = true) (a_law : PySem.W.nsIn K mainGlobals "law" = some (some (.ref A_law))) (l_law : K.lookup A_law = some ⟨oc_law, od_law, .func (PySem.W.fnOf "law" "law" (defArgs st_law) (defBody st_law) (defScope st_law) .none kV_law dc_law pm_law an_law cd_law ct_law), sl_law⟩) (c_law : PySem.W.codeIn K cd_law "law" = true) (k_law : PySem.W.keepIn K (.ref A_law) = true) :
    ∃ (fd : FuncData) (G : Cfg) (fs : Fs), G.K = K ∧ (∀ (s : Shared) (u : Value), BindsTo s fd ⟨[u], []⟩ [("script", u)]) ∧ (∀ base : Heap, K.In base → base.Ns mainGlobals mg → FnG l.prog w K mg base CX0 G 12 fa fd ["script"] fs) ∧ ∀ ns : List Int, ns.length ≤ 63 → ∃ m : Mem, fs [.scr ns] [] = some (.bl true, m) := by
  have e := hfa.symm.trans (PySem.W.mg_of X W a_law)
  cases e
  have cl0 : Cls K C0 := ⟨pg0, hd0, po0, sa0⟩
  have ok0 : ClsOk K (cfg K C0 C1) 0 := ⟨cl0, by show List.Nodup [("told_rows" : Str), ("told_determinant" : Str)]; decide +kernel, by
    intro f hf
    have hf : f ∈ (["told_rows", "told_determinant"] : List Str) := hf
    simp only [List.mem_cons, List.not_mem_nil, or_false] at hf
    rcases hf with rfl | rfl
    · exact nf0x0
    · exact nf0x1
    , by show 2 < 1000; decide⟩
  have cl1 : Cls K C1 := ⟨pg1, hd1, po1, sa1⟩
  have ok1 : ClsOk K (cfg K C0 C1) 1 := ⟨cl1, by show List.Nodup [("own_rows" : Str), ("own_determinant" : Str)]; decide +kernel, by
    intro f hf
    have hf : f ∈ (["own_rows", "own_determinant"] : List Str) := hf
    simp only [List.mem_cons, List.not_mem_nil, or_false] at hf
    rcases hf with rfl | rfl
    · exact nf1x0
    · exact nf1x1
    , by show 2 < 1000; decide⟩
  have ot : OwnT (cfg K C0 C1).K (cfg K C0 C1) := ⟨fun c (hc : c < 2) => match c, hc with | 0, _ => cl0 | 1, _ => cl1 | c + 2, hc => absurd hc (by omega), fun c (hc : c < 2) => match c, hc with | 0, _ => ha0 | 1, _ => ha1 | c + 2, hc => absurd hc (by omega), fun c (hc : c < 2) => match c, hc with | 0, _ => hm0 | 1, _ => hm1 | c + 2, hc => absurd hc (by omega), hn, htk⟩
  have T : Txt K mg (cfg K C0 C1) := ⟨rfl, PySem.W.mg_none_of X W z_abs, PySem.W.mg_none_of X W z_all, PySem.W.mg_none_of X W z_bool, PySem.W.mg_none_of X W z_divmod, PySem.W.mg_none_of X W z_enumerate, PySem.W.mg_none_of X W z_int, PySem.W.mg_none_of X W z_isinstance, PySem.W.mg_none_of X W z_len, PySem.W.mg_none_of X W z_list, PySem.W.mg_none_of X W z_max, PySem.W.mg_none_of X W z_min, PySem.W.mg_none_of X W z_range, PySem.W.mg_none_of X W z_repr, PySem.W.mg_none_of X W z_tuple, ⟨tk_MOST_LETTERS, PySem.W.mg_of X W kk_MOST_LETTERS⟩, ⟨tk_MOST_MAKERS, PySem.W.mg_of X W kk_MOST_MAKERS⟩, ⟨tk_MOST_SIZE, PySem.W.mg_of X W kk_MOST_SIZE⟩, ot, kit_c 0 (kinds7 ic0 ty0 kt_NoneType_0 kt_bool_0 kt_int_0 kt_str_0 kt_list_0 kt_tuple_0 kt_dict_0) (fun c (hc : c < 2) => match c, hc with | 0, _ => kit_same | 1, _ => kit_else ic0 ty0 kc_0_0 kc_1_0 | c + 2, hc => absurd hc (by omega)), kit_b .bool (fun c (hc : c < 2) => match c, hc with | 0, _ => kit_ct (T := .bool) ki_bool_0 | 1, _ => kit_ct (T := .bool) ki_bool_1 | c + 2, hc => absurd hc (by omega)), kit_b .int (fun c (hc : c < 2) => match c, hc with | 0, _ => kit_ct (T := .int) ki_int_0 | 1, _ => kit_ct (T := .int) ki_int_1 | c + 2, hc => absurd hc (by omega)), kit_b .list (fun c (hc : c < 2) => match c, hc with | 0, _ => kit_ct (T := .list) ki_list_0 | 1, _ => kit_ct (T := .list) ki_list_1 | c + 2, hc => absurd hc (by omega)), kit_b .tuple (fun c (hc : c < 2) => match c, hc with | 0, _ => kit_ct (T := .tuple) ki_tuple_0 | 1, _ => kit_ct (T := .tuple) ki_tuple_1 | c + 2, hc => absurd hc (by omega)), ok0, rfl, (by show 0 < 2; decide), PySem.W.mg_of X W aC0, rfl, rfl, ok1, rfl, (by show 1 < 2; decide), PySem.W.mg_of X W aC1, rfl, rfl⟩
  have F_law_pot := fun_mk (st := st_law_pot) l_law_pot c_law_pot k_law_pot
  have b_law_pot := F_law_pot.binds (ps := ["script", "k"]) fun _ _ _ _ _ _ us hl => match us, hl with | [_, _], _ => rfl
  have F_is_integer := fun_mk (st := st_is_integer) l_is_integer c_is_integer k_is_integer
  have b_is_integer := F_is_integer.binds (ps := ["value"]) fun _ _ _ _ _ _ us hl => match us, hl with | [_], _ => rfl
  have F_is_count := fun_mk (st := st_is_count) l_is_count c_is_count k_is_count
  have b_is_count := F_is_count.binds (ps := ["value"]) fun _ _ _ _ _ _ us hl => match us, hl with | [_], _ => rfl
  have F_is_list := fun_mk (st := st_is_list) l_is_list c_is_list k_is_list
  have b_is_list := F_is_list.binds (ps := ["value"]) fun _ _ _ _ _ _ us hl => match us, hl with | [_], _ => rfl
  have F_is_row := fun_mk (st := st_is_row) l_is_row c_is_row k_is_row
  have b_is_row := F_is_row.binds (ps := ["value"]) fun _ _ _ _ _ _ us hl => match us, hl with | [_], _ => rfl
  have F_is_word_of := fun_mk (st := st_is_word_of) l_is_word_of c_is_word_of k_is_word_of
  have b_is_word_of := F_is_word_of.binds (ps := ["value", "many"]) fun _ _ _ _ _ _ us hl => match us, hl with | [_, _], _ => rfl
  have F_want_many := funT_mk (st := st_want_many) l_want_many lT_want_many c_want_many k_want_many
  have b_want_many := F_want_many.binds (ps := ["value", "most", "least"]) fun _ _ _ _ _ _ _ us its hl h2 => match us, its, hl, h2 with | [_, _, _], [_, _], _, _ => ⟨_, rfl, rfl⟩
  have F_is_word := fun_mk (st := st_is_word) l_is_word c_is_word k_is_word
  have b_is_word := F_is_word.binds (ps := ["value", "many"]) fun _ _ _ _ _ _ us hl => match us, hl with | [_, _], _ => rfl
  have F_law_draw := fun_mk (st := st_law_draw) l_law_draw c_law_draw k_law_draw
  have b_law_draw := F_law_draw.binds (ps := ["pot", "size"]) fun _ _ _ _ _ _ us hl => match us, hl with | [_, _], _ => rfl
  have F_law_is_list := fun_mk (st := st_law_is_list) l_law_is_list c_law_is_list k_law_is_list
  have b_law_is_list := F_law_is_list.binds (ps := ["thing"]) fun _ _ _ _ _ _ us hl => match us, hl with | [_], _ => rfl
  have F_law_is_number := fun_mk (st := st_law_is_number) l_law_is_number c_law_is_number k_law_is_number
  have b_law_is_number := F_law_is_number.binds (ps := ["thing"]) fun _ _ _ _ _ _ us hl => match us, hl with | [_], _ => rfl
  have F_law_is_row := fun_mk (st := st_law_is_row) l_law_is_row c_law_is_row k_law_is_row
  have b_law_is_row := F_law_is_row.binds (ps := ["thing"]) fun _ _ _ _ _ _ us hl => match us, hl with | [_], _ => rfl
  have F_law_is_word := fun_mk (st := st_law_is_word) l_law_is_word c_law_is_word k_law_is_word
  have b_law_is_word := F_law_is_word.binds (ps := ["thing", "many"]) fun _ _ _ _ _ _ us hl => match us, hl with | [_, _], _ => rfl
  have F_idle_rows := fun_mk (st := st_idle_rows) l_idle_rows c_idle_rows k_idle_rows
  have b_idle_rows := F_idle_rows.binds (ps := ["size"]) fun _ _ _ _ _ _ us hl => match us, hl with | [_], _ => rfl
  have F_Told_init := fun_mk (st := st_Told_init) l_Told_init c_Told_init k_Told_init
  have b_Told_init := F_Told_init.binds (ps := ["self", "rows", "determinant"]) fun _ _ _ _ _ _ us hl => match us, hl with | [_, _, _], _ => rfl
  have F_are_rows := fun_mk (st := st_are_rows) l_are_rows c_are_rows k_are_rows
  have b_are_rows := F_are_rows.binds (ps := ["value"]) fun _ _ _ _ _ _ us hl => match us, hl with | [_], _ => rfl
  have F_left_without := fun_mk (st := st_left_without) l_left_without c_left_without k_left_without
  have b_left_without := F_left_without.binds (ps := ["rows", "place", "other"]) fun _ _ _ _ _ _ us hl => match us, hl with | [_, _, _], _ => rfl
  have F_determinant_of := fun_mk (st := st_determinant_of) l_determinant_of c_determinant_of k_determinant_of
  have b_determinant_of := F_determinant_of.binds (ps := ["rows"]) fun _ _ _ _ _ _ us hl => match us, hl with | [_], _ => rfl
  have F_told_rows := fun_mk (st := st_told_rows) l_told_rows c_told_rows k_told_rows
  have b_told_rows := F_told_rows.binds (ps := ["value"]) fun _ _ _ _ _ _ us hl => match us, hl with | [_], _ => rfl
  have F_Table_init := fun_mk (st := st_Table_init) l_Table_init c_Table_init k_Table_init
  have b_Table_init := F_Table_init.binds (ps := ["self", "rows"]) fun _ _ _ _ _ _ us hl => match us, hl with | [_, _], _ => rfl
  have F_table_by := fun_mk (st := st_table_by) l_table_by c_table_by k_table_by
  have b_table_by := F_table_by.binds (ps := ["rows", "determinant"]) fun _ _ _ _ _ _ us hl => match us, hl with | [_, _], _ => rfl
  have F_idle := fun_mk (st := st_idle) l_idle c_idle k_idle
  have b_idle := F_idle.binds (ps := ["size"]) fun _ _ _ _ _ _ us hl => match us, hl with | [_], _ => rfl
  have F_law_pick := fun_mk (st := st_law_pick) l_law_pick c_law_pick k_law_pick
  have b_law_pick := F_law_pick.binds (ps := ["pot", "some"]) fun _ _ _ _ _ _ us hl => match us, hl with | [_, _], _ => rfl
  have F_law_things := fun_mk (st := st_law_things) l_law_things c_law_things k_law_things
  have b_law_things := F_law_things.binds (ps := ["pot"]) fun _ _ _ _ _ _ us hl => match us, hl with | [_], _ => rfl
  have F_law_right := fun_mk (st := st_law_right) l_law_right c_law_right k_law_right
  have b_law_right := F_law_right.binds (ps := ["pot"]) fun _ _ _ _ _ _ us hl => match us, hl with | [_], _ => rfl
  have F_Table_repr := fun_mk (st := st_Table_repr) l_Table_repr c_Table_repr k_Table_repr
  have b_Table_repr := F_Table_repr.binds (ps := ["self"]) fun _ _ _ _ _ _ us hl => match us, hl with | [_], _ => rfl
  have F_law := fun_mk (st := st_law) l_law c_law k_law
  have b_law := F_law.binds (ps := ["script"]) fun _ _ _ _ _ _ us hl => match us, hl with | [_], _ => rfl
  have kw_is_count_0_value := kwb_mk (ps := ["value"]) (n := 0) (ks := ["value"]) (is := [0]) F_is_count fun _ _ _ _ _ _ us ws h1 h2 => match us, ws, h1, h2 with | [], [_], _, _ => rfl
  have kw_is_integer_0_value := kwb_mk (ps := ["value"]) (n := 0) (ks := ["value"]) (is := [0]) F_is_integer fun _ _ _ _ _ _ us ws h1 h2 => match us, ws, h1, h2 with | [], [_], _, _ => rfl
  have kw_is_list_0_value := kwb_mk (ps := ["value"]) (n := 0) (ks := ["value"]) (is := [0]) F_is_list fun _ _ _ _ _ _ us ws h1 h2 => match us, ws, h1, h2 with | [], [_], _, _ => rfl
  have kw_is_row_0_value := kwb_mk (ps := ["value"]) (n := 0) (ks := ["value"]) (is := [0]) F_is_row fun _ _ _ _ _ _ us ws h1 h2 => match us, ws, h1, h2 with | [], [_], _, _ => rfl
  have kw_is_word_0_many_value := kwb_mk (ps := ["value", "many"]) (n := 0) (ks := ["many", "value"]) (is := [1, 0]) F_is_word fun _ _ _ _ _ _ us ws h1 h2 => match us, ws, h1, h2 with | [], [_, _], _, _ => rfl
  refine ⟨PySem.W.fnOf "law" "law" (defArgs st_law) (defBody st_law) (defScope st_law) .none kV_law dc_law pm_law an_law cd_law ct_law, cfg K C0 C1, f_law, rfl, fun s u => ?_, fun base _ _ => ?_, plain⟩
  · exact .of_eq rfl
  · have rg_Table_repr : Rpg l.prog w K mg base (cfg K C0 C1) 1 1 A_Table_repr _ "Table(" 0 ")" := wg_Table_repr T F_Table_repr b_Table_repr a_Table_repr i_Table_repr
    have rp_ok : RpOk l.prog w K mg base (cfg K C0 C1) 1 rps := by
      intro c q h
      unfold rps at h
      split at h
      · cases h
        exact ⟨_, _, rg_Table_repr⟩
      · cases h
    have c_law_pot : Cal l.prog w K mg base (cfg K C0 C1) 1 "_law_pot" A_law_pot _ ["script", "k"] f_law_pot := ⟨(w_law_pot T F_law_pot  ), k_law_pot, b_law_pot, PySem.W.mg_of X W a_law_pot⟩
    have c_is_integer : Cal l.prog w K mg base (cfg K C0 C1) 1 "is_integer" A_is_integer _ ["value"] f_is_integer := ⟨(w_is_integer T F_is_integer  ), k_is_integer, b_is_integer, PySem.W.mg_of X W a_is_integer⟩
    have c_is_count : Cal l.prog w K mg base (cfg K C0 C1) 2 "is_count" A_is_count _ ["value"] f_is_count := ⟨(w_is_count T F_is_count c_is_integer ), k_is_count, b_is_count, PySem.W.mg_of X W a_is_count⟩
    have c_is_list : Cal l.prog w K mg base (cfg K C0 C1) 1 "is_list" A_is_list _ ["value"] f_is_list := ⟨(w_is_list T F_is_list  ), k_is_list, b_is_list, PySem.W.mg_of X W a_is_list⟩
    have c_is_row : Cal l.prog w K mg base (cfg K C0 C1) 2 "is_row" A_is_row _ ["value"] f_is_row := ⟨(w_is_row T F_is_row c_is_integer c_is_list ), k_is_row, b_is_row, PySem.W.mg_of X W a_is_row⟩
    have c_is_word_of : Cal l.prog w K mg base (cfg K C0 C1) 2 "is_word_of" A_is_word_of _ ["value", "many"] f_is_word_of := ⟨(w_is_word_of T F_is_word_of c_is_integer c_is_list ), k_is_word_of, b_is_word_of, PySem.W.mg_of X W a_is_word_of⟩
    have c_want_many : Cal l.prog w K mg base (cfg K C0 C1) 2 "want_many" A_want_many _ ["value", "most", "least"] f_want_many := ⟨(w_want_many T F_want_many c_is_integer ), k_want_many, b_want_many, PySem.W.mg_of X W a_want_many⟩
    have c_is_word : Cal l.prog w K mg base (cfg K C0 C1) 3 "is_word" A_is_word _ ["value", "many"] f_is_word := ⟨(w_is_word T F_is_word c_is_word_of c_want_many ), k_is_word, b_is_word, PySem.W.mg_of X W a_is_word⟩
    have c_law_draw : Cal l.prog w K mg base (cfg K C0 C1) 1 "_law_draw" A_law_draw _ ["pot", "size"] f_law_draw := ⟨(w_law_draw T F_law_draw  ), k_law_draw, b_law_draw, PySem.W.mg_of X W a_law_draw⟩
    have c_law_is_list : Cal l.prog w K mg base (cfg K C0 C1) 1 "_law_is_list" A_law_is_list _ ["thing"] f_law_is_list := ⟨(w_law_is_list T F_law_is_list  ), k_law_is_list, b_law_is_list, PySem.W.mg_of X W a_law_is_list⟩
    have c_law_is_number : Cal l.prog w K mg base (cfg K C0 C1) 1 "_law_is_number" A_law_is_number _ ["thing"] f_law_is_number := ⟨(w_law_is_number T F_law_is_number  ), k_law_is_number, b_law_is_number, PySem.W.mg_of X W a_law_is_number⟩
    have c_law_is_row : Cal l.prog w K mg base (cfg K C0 C1) 2 "_law_is_row" A_law_is_row _ ["thing"] f_law_is_row := ⟨(w_law_is_row T F_law_is_row c_law_is_list c_law_is_number ), k_law_is_row, b_law_is_row, PySem.W.mg_of X W a_law_is_row⟩
    have c_law_is_word : Cal l.prog w K mg base (cfg K C0 C1) 2 "_law_is_word" A_law_is_word _ ["thing", "many"] f_law_is_word := ⟨(w_law_is_word T F_law_is_word c_law_is_list c_law_is_number ), k_law_is_word, b_law_is_word, PySem.W.mg_of X W a_law_is_word⟩
    have c_idle_rows : Cal l.prog w K mg base (cfg K C0 C1) 1 "idle_rows" A_idle_rows _ ["size"] f_idle_rows := ⟨(w_idle_rows T F_idle_rows  ), k_idle_rows, b_idle_rows, PySem.W.mg_of X W a_idle_rows⟩
    have m_Told_init : Mkc l.prog w K mg base (cfg K C0 C1) 1 0 "Told" A_Told_init _ ["self", "rows", "determinant"] f_Told_init := ⟨(w_Told_init T F_Told_init  ), b_Told_init, ⟨mk0, a_Told_init, i_Told_init, kc0⟩, PySem.W.mg_of X W aC0⟩
    have c_are_rows : Cal l.prog w K mg base (cfg K C0 C1) 2 "are_rows" A_are_rows _ ["value"] f_are_rows := ⟨(w_are_rows T F_are_rows c_is_integer c_is_list ), k_are_rows, b_are_rows, PySem.W.mg_of X W a_are_rows⟩
    have c_left_without : Cal l.prog w K mg base (cfg K C0 C1) 1 "left_without" A_left_without _ ["rows", "place", "other"] f_left_without := ⟨(w_left_without T F_left_without  ), k_left_without, b_left_without, PySem.W.mg_of X W a_left_without⟩
    have c_determinant_of : Cal l.prog w K mg base (cfg K C0 C1) 4 "determinant_of" A_determinant_of _ ["rows"] (f_determinant_of 3) := ⟨(w_determinant_of T F_determinant_of b_determinant_of (PySem.W.mg_of X W a_determinant_of) c_left_without  3), k_determinant_of, b_determinant_of, PySem.W.mg_of X W a_determinant_of⟩
    have c_told_rows : Cal l.prog w K mg base (cfg K C0 C1) 5 "told_rows" A_told_rows _ ["value"] f_told_rows := ⟨(w_told_rows T F_told_rows m_Told_init c_are_rows c_determinant_of ), k_told_rows, b_told_rows, PySem.W.mg_of X W a_told_rows⟩
    have m_Table_init : Mkc l.prog w K mg base (cfg K C0 C1) 6 1 "Table" A_Table_init _ ["self", "rows"] f_Table_init := ⟨(w_Table_init T F_Table_init c_told_rows ), b_Table_init, ⟨mk1, a_Table_init, i_Table_init, kc1⟩, PySem.W.mg_of X W aC1⟩
    have c_table_by : Cal l.prog w K mg base (cfg K C0 C1) 8 "table_by" A_table_by _ ["rows", "determinant"] f_table_by := ⟨(w_table_by T F_table_by m_Table_init m_Told_init ), k_table_by, b_table_by, PySem.W.mg_of X W a_table_by⟩
    have c_idle : Cal l.prog w K mg base (cfg K C0 C1) 9 "idle" A_idle _ ["size"] f_idle := ⟨(w_idle T F_idle c_idle_rows c_is_integer c_table_by ), k_idle, b_idle, PySem.W.mg_of X W a_idle⟩
    have c_law_pick : Cal l.prog w K mg base (cfg K C0 C1) 2 "_law_pick" A_law_pick _ ["pot", "some"] f_law_pick := ⟨(w_law_pick T F_law_pick c_law_draw ), k_law_pick, b_law_pick, PySem.W.mg_of X W a_law_pick⟩
    have c_law_things : Cal l.prog w K mg base (cfg K C0 C1) 10 "_law_things" A_law_things _ ["pot"] f_law_things := ⟨(w_law_things T F_law_things c_idle c_law_draw c_law_pick ), k_law_things, b_law_things, PySem.W.mg_of X W a_law_things⟩
    have c_law_right : Cal l.prog w K mg base (cfg K C0 C1) 11 "_law_right" A_law_right _ ["pot"] f_law_right := ⟨(w_law_right T F_law_right c_is_count c_is_integer c_is_list c_is_row c_is_word c_law_draw c_law_is_list c_law_is_number c_law_is_row c_law_is_word c_law_things rp_ok kw_is_count_0_value kw_is_integer_0_value kw_is_list_0_value kw_is_row_0_value kw_is_word_0_many_value), k_law_right, b_law_right, PySem.W.mg_of X W a_law_right⟩
    have r_Table_repr : Rpr l.prog w K mg base (cfg K C0 C1) 1 1 A_Table_repr _ ["self"] f_Table_repr := ⟨(w_Table_repr T F_Table_repr  ), b_Table_repr, a_Table_repr, i_Table_repr⟩
    exact w_law T F_law c_law_pot c_law_right 
end Lk17

open PySem PySem.W PyProof.Rows in
set_option maxRecDepth 100000 in
set_option maxHeartbeats 0 in
theorem PySem.Challenge.cw_keptbowls_k17_any_values_as_rows_and_wor_holds : PySem.Challenge.rw_keptbowls_k17_any_values_as_rows_and_wor.Holds := by
  w_on; o_law; k_head; (case hw => w_witness2)
  k_fill
  refine Kb.walk_k (l := PySem.Challenge.rw_keptbowls_k17_any_values_as_rows_and_wor) (n := 63) (k := 12) (x := "script") rfl (by decide) rfl ⟨rfl, by decide, by decide⟩ (fun w h Y => PySem.W.kIn_of Y) ?F
  case F =>
    intro w mg fa h KX W hmg
    refine' Lk17.all_mk Lk17.plain KX W hmg ?aC0 ?pg0 ?hd0 ?po0 ?sa0 ?kc0 ?mk0 ?ha0 ?hm0 ?nf0x0 ?nf0x1 ?aC1 ?pg1 ?hd1 ?po1 ?sa1 ?kc1 ?mk1 ?ha1 ?hm1 ?nf1x0 ?nf1x1 ?hn ?htk ?kt_NoneType_0 ?kt_bool_0 ?kt_int_0 ?kt_str_0 ?kt_list_0 ?kt_tuple_0 ?kt_dict_0 ?ic0 ?ty0 ?kc_0_0 ?kc_1_0 ?ki_bool_0 ?ki_bool_1 ?ki_int_0 ?ki_int_1 ?ki_list_0 ?ki_list_1 ?ki_tuple_0 ?ki_tuple_1 ?z_abs ?z_all ?z_bool ?z_divmod ?z_enumerate ?z_int ?z_isinstance ?z_len ?z_list ?z_max ?z_min ?z_range ?z_repr ?z_tuple ?kk_MOST_LETTERS ?kk_MOST_MAKERS ?kk_MOST_SIZE ?a_law_pot ?l_law_pot ?c_law_pot ?k_law_pot ?a_is_integer ?l_is_integer ?c_is_integer ?k_is_integer ?a_is_count ?l_is_count ?c_is_count ?k_is_count ?a_is_list ?l_is_list ?c_is_list ?k_is_list ?a_is_row ?l_is_row ?c_is_row ?k_is_row ?a_is_word_of ?l_is_word_of ?c_is_word_of ?k_is_word_of ?a_want_many ?l_want_many ?lT_want_many ?c_want_many ?k_want_many ?a_is_word ?l_is_word ?c_is_word ?k_is_word ?a_law_draw ?l_law_draw ?c_law_draw ?k_law_draw ?a_law_is_list ?l_law_is_list ?c_law_is_list ?k_law_is_list ?a_law_is_number ?l_law_is_number ?c_law_is_number ?k_law_is_number ?a_law_is_row ?l_law_is_row ?c_law_is_row ?k_law_is_row ?a_law_is_word ?l_law_is_word ?c_law_is_word ?k_law_is_word ?a_idle_rows ?l_idle_rows ?c_idle_rows ?k_idle_rows ?a_Told_init ?i_Told_init ?l_Told_init ?c_Told_init ?k_Told_init ?a_are_rows ?l_are_rows ?c_are_rows ?k_are_rows ?a_left_without ?l_left_without ?c_left_without ?k_left_without ?a_determinant_of ?l_determinant_of ?c_determinant_of ?k_determinant_of ?a_told_rows ?l_told_rows ?c_told_rows ?k_told_rows ?a_Table_init ?i_Table_init ?l_Table_init ?c_Table_init ?k_Table_init ?a_table_by ?l_table_by ?c_table_by ?k_table_by ?a_idle ?l_idle ?c_idle ?k_idle ?a_law_pick ?l_law_pick ?c_law_pick ?k_law_pick ?a_law_things ?l_law_things ?c_law_things ?k_law_things ?a_law_right ?l_law_right ?c_law_right ?k_law_right ?a_Table_repr ?i_Table_repr ?l_Table_repr ?c_Table_repr ?k_Table_repr ?a_law ?l_law ?c_law ?k_law
    (case aC0 => k_is)
    (case pg0 => k_is)
    (case hd0 => k_is)
    (case po0 => k_is)
    (case sa0 => k_is)
    (case kc0 => k_is)
    (case mk0 => k_is)
    (case ha0 => k_is)
    (case hm0 => k_is)
    (case nf0x0 => k_is)
    (case nf0x1 => k_is)
    (case aC1 => k_is)
    (case pg1 => k_is)
    (case hd1 => k_is)
    (case po1 => k_is)
    (case sa1 => k_is)
    (case kc1 => k_is)
    (case mk1 => k_is)
    (case ha1 => k_is)
    (case hm1 => k_is)
    (case nf1x0 => k_is)
    (case nf1x1 => k_is)
    (case hn => k_is)
    (case htk => k_is)
    (case kt_NoneType_0 => k_is)
    (case kt_bool_0 => k_is)
    (case kt_int_0 => k_is)
    (case kt_str_0 => k_is)
    (case kt_list_0 => k_is)
    (case kt_tuple_0 => k_is)
    (case kt_dict_0 => k_is)
    (case ic0 => k_is)
    (case ty0 => k_is)
    (case kc_0_0 => k_is)
    (case kc_1_0 => k_is)
    (case ki_bool_0 => k_is)
    (case ki_bool_1 => k_is)
    (case ki_int_0 => k_is)
    (case ki_int_1 => k_is)
    (case ki_list_0 => k_is)
    (case ki_list_1 => k_is)
    (case ki_tuple_0 => k_is)
    (case ki_tuple_1 => k_is)
    (case z_abs => k_is)
    (case z_all => k_is)
    (case z_bool => k_is)
    (case z_divmod => k_is)
    (case z_enumerate => k_is)
    (case z_int => k_is)
    (case z_isinstance => k_is)
    (case z_len => k_is)
    (case z_list => k_is)
    (case z_max => k_is)
    (case z_min => k_is)
    (case z_range => k_is)
    (case z_repr => k_is)
    (case z_tuple => k_is)
    (case kk_MOST_LETTERS => k_is)
    (case kk_MOST_MAKERS => k_is)
    (case kk_MOST_SIZE => k_is)
    (case a_law_pot => k_is)
    (case l_law_pot => k_is)
    (case c_law_pot => k_is)
    (case k_law_pot => k_is)
    (case a_is_integer => k_is)
    (case l_is_integer => k_is)
    (case c_is_integer => k_is)
    (case k_is_integer => k_is)
    (case a_is_count => k_is)
    (case l_is_count => k_is)
    (case c_is_count => k_is)
    (case k_is_count => k_is)
    (case a_is_list => k_is)
    (case l_is_list => k_is)
    (case c_is_list => k_is)
    (case k_is_list => k_is)
    (case a_is_row => k_is)
    (case l_is_row => k_is)
    (case c_is_row => k_is)
    (case k_is_row => k_is)
    (case a_is_word_of => k_is)
    (case l_is_word_of => k_is)
    (case c_is_word_of => k_is)
    (case k_is_word_of => k_is)
    (case a_want_many => k_is)
    (case l_want_many => k_is)
    (case lT_want_many => k_is)
    (case c_want_many => k_is)
    (case k_want_many => k_is)
    (case a_is_word => k_is)
    (case l_is_word => k_is)
    (case c_is_word => k_is)
    (case k_is_word => k_is)
    (case a_law_draw => k_is)
    (case l_law_draw => k_is)
    (case c_law_draw => k_is)
    (case k_law_draw => k_is)
    (case a_law_is_list => k_is)
    (case l_law_is_list => k_is)
    (case c_law_is_list => k_is)
    (case k_law_is_list => k_is)
    (case a_law_is_number => k_is)
    (case l_law_is_number => k_is)
    (case c_law_is_number => k_is)
    (case k_law_is_number => k_is)
    (case a_law_is_row => k_is)
    (case l_law_is_row => k_is)
    (case c_law_is_row => k_is)
    (case k_law_is_row => k_is)
    (case a_law_is_word => k_is)
    (case l_law_is_word => k_is)
    (case c_law_is_word => k_is)
    (case k_law_is_word => k_is)
    (case a_idle_rows => k_is)
    (case l_idle_rows => k_is)
    (case c_idle_rows => k_is)
    (case k_idle_rows => k_is)
    (case a_Told_init => k_is)
    (case i_Told_init => k_is)
    (case l_Told_init => k_is)
    (case c_Told_init => k_is)
    (case k_Told_init => k_is)
    (case a_are_rows => k_is)
    (case l_are_rows => k_is)
    (case c_are_rows => k_is)
    (case k_are_rows => k_is)
    (case a_left_without => k_is)
    (case l_left_without => k_is)
    (case c_left_without => k_is)
    (case k_left_without => k_is)
    (case a_determinant_of => k_is)
    (case l_determinant_of => k_is)
    (case c_determinant_of => k_is)
    (case k_determinant_of => k_is)
    (case a_told_rows => k_is)
    (case l_told_rows => k_is)
    (case c_told_rows => k_is)
    (case k_told_rows => k_is)
    (case a_Table_init => k_is)
    (case i_Table_init => k_is)
    (case l_Table_init => k_is)
    (case c_Table_init => k_is)
    (case k_Table_init => k_is)
    (case a_table_by => k_is)
    (case l_table_by => k_is)
    (case c_table_by => k_is)
    (case k_table_by => k_is)
    (case a_idle => k_is)
    (case l_idle => k_is)
    (case c_idle => k_is)
    (case k_idle => k_is)
    (case a_law_pick => k_is)
    (case l_law_pick => k_is)
    (case c_law_pick => k_is)
    (case k_law_pick => k_is)
    (case a_law_things => k_is)
    (case l_law_things => k_is)
    (case c_law_things => k_is)
    (case k_law_things => k_is)
    (case a_law_right => k_is)
    (case l_law_right => k_is)
    (case c_law_right => k_is)
    (case k_law_right => k_is)
    (case a_Table_repr => k_is)
    (case i_Table_repr => k_is)
    (case l_Table_repr => k_is)
    (case c_Table_repr => k_is)
    (case k_Table_repr => k_is)
    (case a_law => k_is)
    (case l_law => k_is)
    (case c_law => k_is)
    (case k_law => k_is)
#print axioms PySem.Challenge.cw_keptbowls_k17_any_values_as_rows_and_wor_holds
