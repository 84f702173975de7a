import PyProof.Rows.All
import HandS.ForMost
import HandS.ForExc
import HandS.Walk
import HandS.Wide
import HandS.Deep
import HandS.TupAny
import HandS.IsInst
import HandS.Style
import HandS.RaiseMore
import HandS.TupMul
import PyProof.ReprRoads
import HandS.EndBits
import HandS.HeadEnd
import HandS.Head0
import HandS.Head1
import HandS.Head2
import HandS.HeadHook1
import HandS.HeadHook2
import HandS.Defaults
import HandS.HeadHook3
import HandS.HeadHook4
import HandS.Head4
import PySem.Challenge.RW_twospeeds_k05_whole_field_of_numbers
set_option Elab.async false
set_option linter.all false
set_option maxRecDepth 100000
section
set_option maxHeartbeats 4000000
/-! DLA: slots that hold data (PyData), lists that a frame owns, the state of both. -/
namespace DL
open PySem PySem.Spec L2

def keyD : Key → PyData
  | .inl i => .int i
  | .inr x => .str x
mutual
/-- a value is a datum, all of it in what stays -/
inductive Rep (K : PySem.W.Frag) (G : Hp) : V → PyData → Prop
  | non : Rep K G .non .none
  | bl (b : Bool) : Rep K G (.bl b) (.bool b)
  | int (i : Int) : Rep K G (.int i) (.int i)
  | str (x : Str) : Rep K G (.str x) (.str x)
  | lst {a : Addr} {xs : List V} {ds : List PyData} : G a = some (.lst xs) → Reps K G xs ds → Rep K G (.ref a) (.list ds)
  | tup {a : Addr} {xs : List V} {ds : List PyData} : SqT K G a xs → Reps K G xs ds → Rep K G (.ref a) (.tuple ds)
  | dic {a : Addr} {kvs : List (Key × V)} {es : List (PyData × PyData)} : G a = some (.dK kvs) → RepKV K G kvs es → Rep K G (.ref a) (.dict es)
inductive Reps (K : PySem.W.Frag) (G : Hp) : List V → List PyData → Prop
  | nil : Reps K G [] []
  | cons {v : V} {vs : List V} {d : PyData} {ds : List PyData} : Rep K G v d → Reps K G vs ds → Reps K G (v :: vs) (d :: ds)
inductive RepKV (K : PySem.W.Frag) (G : Hp) : List (Key × V) → List (PyData × PyData) → Prop
  | nil : RepKV K G [] []
  | cons {k : Key} {v : V} {kvs : List (Key × V)} {d : PyData} {es : List (PyData × PyData)} : Rep K G v d → RepKV K G kvs es → RepKV K G ((k, v) :: kvs) ((keyD k, d) :: es)
end

theorem rd_mono {G G' : Hp} (s : Same G G') {a : Addr} {u : HO} (h : Rd G a u) : Rd G' a u := by
  rcases h with h | ⟨o, h⟩
  · exact Or.inl (s _ _ h)
  · exact Or.inr ⟨o, s _ _ h⟩
theorem sqt_mono {K : PySem.W.Frag} {G G' : Hp} (s : Same G G') {a : Addr} {xs : List V} (h : SqT K G a xs) : SqT K G' a xs := by
  rcases h with h | h
  · exact Or.inl (rd_mono s h)
  · exact Or.inr h
theorem sql_mono {K : PySem.W.Frag} {G G' : Hp} (s : Same G G') {a : Addr} {xs : List V} (h : SqL K G a xs) : SqL K G' a xs := by
  rcases h with h | h
  · exact Or.inl (rd_mono s h)
  · exact Or.inr h
section
variable {K : PySem.W.Frag} {G G' : Hp}
mutual
theorem rep_mono (s : Same G G') : ∀ (d : PyData) (v : V), Rep K G v d → Rep K G' v d
  | .none, _, h => by cases h; exact .non
  | .bool b, _, h => by cases h; exact .bl b
  | .int i, _, h => by cases h; exact .int i
  | .str x, _, h => by cases h; exact .str x
  | .list ds, _, h => by
    cases h with
    | lst hs ha => exact .lst (s _ _ hs) (reps_mono s ds _ ha)
  | .tuple ds, _, h => by
    cases h with
    | tup hs ha => exact .tup (sqt_mono s hs) (reps_mono s ds _ ha)
  | .dict es, _, h => by
    cases h with
    | dic hs ha => exact .dic (s _ _ hs) (repkv_mono s es _ ha)
theorem reps_mono (s : Same G G') : ∀ (ds : List PyData) (vs : List V), Reps K G vs ds → Reps K G' vs ds
  | [], _, h => by cases h; exact .nil
  | d :: ds, _, h => by
    cases h with
    | cons h1 h2 => exact .cons (rep_mono s d _ h1) (reps_mono s ds _ h2)
theorem repkv_mono (s : Same G G') : ∀ (es : List (PyData × PyData)) (kvs : List (Key × V)), RepKV K G kvs es → RepKV K G' kvs es
  | [], _, h => by cases h; exact .nil
  | (_, d) :: es, _, h => by
    cases h with
    | cons h1 h2 => exact .cons (rep_mono s d _ h1) (repkv_mono s es _ h2)
end
mutual
/-- data without dicts, for the kit's own rules of data -/
theorem Rep.dp : ∀ (d : PyData) (v : V), Rep K G v d → d.hasDict = false → Dp K G v d
  | .none, _, h, _ => by cases h; exact .non
  | .bool b, _, h, _ => by cases h; exact .bl b
  | .int i, _, h, _ => by cases h; exact .int i
  | .str x, _, h, _ => by cases h; exact .str x
  | .list ds, _, h, n => by
    cases h with
    | lst hs ha => exact .lst (SqL.of hs) (Reps.dp ds _ ha (by simpa [PyData.hasDict] using n))
  | .tuple ds, _, h, n => by
    cases h with
    | tup hs ha => exact .tup hs (Reps.dp ds _ ha (by simpa [PyData.hasDict] using n))
  | .dict _, _, _, n => by simp [PyData.hasDict] at n
theorem Reps.dp : ∀ (ds : List PyData) (vs : List V), Reps K G vs ds → PyData.hasDictAll ds = false → DpAll K G vs ds
  | [], _, h, _ => by cases h; exact .nil
  | d :: ds, _, h, n => by
    have n' : (d.hasDict || PyData.hasDictAll ds) = false := by simpa [PyData.hasDictAll] using n
    rw [Bool.or_eq_false_iff] at n'
    cases h with
    | cons h1 h2 => exact .cons (Rep.dp d _ h1 n'.1) (Reps.dp ds _ h2 n'.2)
end
theorem Reps.len : ∀ {vs : List V} {ds : List PyData}, Reps K G vs ds → vs.length = ds.length
  | _, _, .nil => rfl
  | _, _, .cons _ r => congrArg (· + 1) (Reps.len r)
theorem Reps.app : ∀ {vs ws : List V} {ds es : List PyData}, Reps K G vs ds → Reps K G ws es → Reps K G (vs ++ ws) (ds ++ es)
  | _, _, _, _, .nil, s => s
  | _, _, _, _, .cons r t, s => .cons r (Reps.app t s)
theorem Reps.get : ∀ {vs : List V} {ds : List PyData} {i : Nat} {d : PyData}, Reps K G vs ds → ds[i]? = some d → ∃ v, vs[i]? = some v ∧ Rep K G v d
  | _, _, _, _, .nil, e => by simp at e
  | _, _, 0, _, .cons r _, e => by simp at e; subst e; exact ⟨_, rfl, r⟩
  | _, _, i + 1, d, .cons _ t, e => by
    obtain ⟨v, h1, h2⟩ := Reps.get (i := i) (d := d) t (by simpa using e)
    exact ⟨v, by simpa using h1, h2⟩
theorem Reps.get' : ∀ {vs : List V} {ds : List PyData} {i : Nat} {v : V}, Reps K G vs ds → vs[i]? = some v → ∃ d, ds[i]? = some d ∧ Rep K G v d
  | _, _, _, _, .nil, e => by simp at e
  | _, _, 0, _, .cons r _, e => by simp at e; subst e; exact ⟨_, rfl, r⟩
  | _, _, i + 1, v, .cons _ t, e => by
    obtain ⟨d, h1, h2⟩ := Reps.get' (i := i) (v := v) t (by simpa using e)
    exact ⟨d, by simpa using h1, h2⟩
theorem Reps.setAt : ∀ {vs : List V} {ds : List PyData} (i : Nat) {v : V} {d : PyData}, Reps K G vs ds → Rep K G v d → Reps K G (vs.set i v) (ds.set i d)
  | _, _, _, _, _, .nil, _ => .nil
  | _, _, 0, _, _, .cons _ t, r => .cons r t
  | _, _, i + 1, _, _, .cons q t, r => .cons q (Reps.setAt i t r)
theorem Reps.takeN : ∀ {vs : List V} {ds : List PyData} (n : Nat), Reps K G vs ds → Reps K G (vs.take n) (ds.take n)
  | _, _, 0, _ => .nil
  | _, _, _ + 1, .nil => .nil
  | _, _, n + 1, .cons r t => .cons r (Reps.takeN n t)
theorem Reps.dropN : ∀ {vs : List V} {ds : List PyData} (n : Nat), Reps K G vs ds → Reps K G (vs.drop n) (ds.drop n)
  | _, _, 0, r => r
  | _, _, _ + 1, .nil => .nil
  | _, _, n + 1, .cons _ t => Reps.dropN n t
theorem Reps.rev : ∀ {vs : List V} {ds : List PyData}, Reps K G vs ds → Reps K G vs.reverse ds.reverse
  | _, _, .nil => .nil
  | _, _, .cons r t => by
    rw [List.reverse_cons, List.reverse_cons]
    exact Reps.app (Reps.rev t) (.cons r .nil)
theorem reps_ints : ∀ ns : List Int, Reps K G (ns.map V.int) (ns.map PyData.int)
  | [] => .nil
  | n :: ns => .cons (.int n) (reps_ints ns)
theorem reps_ints_inv : ∀ {ns : List Int} {vs : List V}, Reps K G vs (ns.map PyData.int) → vs = ns.map V.int
  | [], _, h => by cases h; rfl
  | n :: ns, _, h => by
    cases h with
    | cons h1 h2 => cases h1; rw [reps_ints_inv h2]; rfl
theorem reps_bools_inv : ∀ {ns : List Bool} {vs : List V}, Reps K G vs (ns.map PyData.bool) → vs = ns.map V.bl
  | [], _, h => by cases h; rfl
  | n :: ns, _, h => by
    cases h with
    | cons h1 h2 => cases h1; rw [reps_bools_inv h2]; rfl
theorem reps_strs_inv : ∀ {ns : List Str} {vs : List V}, Reps K G vs (ns.map PyData.str) → vs = ns.map V.str
  | [], _, h => by cases h; rfl
  | n :: ns, _, h => by
    cases h with
    | cons h1 h2 => cases h1; rw [reps_strs_inv h2]; rfl
end

/-- a thing of one's own kind that a frame owns: what is true of the heap at its addresses -/
structure Res where
  P : PySem.W.Frag → Hp → Hp → Addr → List Addr → Prop
  keep : ∀ {K : PySem.W.Frag} {G H G' H' : Hp} {a : Addr} {fp : List Addr}, Same G G' → (∀ b ∈ fp, ∀ o, H b = some o → H' b = some o) → P K G H a fp → P K G' H' a fp

/-- a slot: nothing; a datum; a list of the frame's own (io: it came in by this parameter and goes out by it); a thing of one's own kind -/
inductive SD where
  | no | val (d : PyData) | own (io : Bool) (ds : List PyData) | res (io : Bool) (r : Res)
abbrev DSt := List SD

/-- the world of a frame: the part of the heap that stays, the heap, each slot's own addresses -/
structure Wd where
  G : Hp
  H : Hp
  F : Nat → List Addr

/-- the values of the parameters as they came; what is new since the entry -/
structure Par where
  σ0 : St
  N : Addr → Prop
/-- a slot and what it holds; v0: the parameter as it came; N: what is new since the entry -/
def slotOk (K : PySem.W.Frag) (v0 : Option (Option V)) (N : Addr → Prop) (w : Wd) (fp : List Addr) (v : Option (Option V)) : SD → Prop
  | .no => fp = []
  | .val d => fp = [] ∧ ∃ u, v = some (some u) ∧ Rep K w.G u d
  | .own io ds => ∃ a vs, v = some (some (.ref a)) ∧ fp = [a] ∧ w.H a = some (.lst vs) ∧ Reps K w.G vs ds ∧ ((io = true → v0 = some (some (.ref a))) ∧ (io = false → N a))
  | .res io r => ∃ a, v = some (some (.ref a)) ∧ r.P K w.G w.H a fp ∧ ((io = true → v0 = some (some (.ref a))) ∧ (io = false → ∀ b ∈ fp, N b))

structure FI (K : PySem.W.Frag) (P : Par) (w : Wd) (σ : St) (ρ : DSt) : Prop where
  gh : Same w.G w.H
  len : σ.length = ρ.length
  ok : ∀ i s, ρ[i]? = some s → slotOk K P.σ0[i]? P.N w (w.F i) σ[i]? s
  out : ∀ i, ρ.length ≤ i → w.F i = []
  foot : ∀ i b, b ∈ w.F i → w.G b = none ∧ w.H b ≠ none
  sep : ∀ i j b, i ≠ j → b ∈ w.F i → b ∉ w.F j

/-- how a world goes on -/
structure Stp (w w' : Wd) : Prop where
  g : Same w.G w'.G
  gf : ∀ b, w.H b ≠ none → w.G b = none → (∀ i, b ∉ w.F i) → w'.G b = none
  h : ∀ b o, w.H b = some o → (∀ i, b ∉ w.F i) → w'.H b = some o
  t : ∀ b, w.H b ≠ none → w'.H b ≠ none
  f : ∀ i b, b ∈ w'.F i → b ∈ w.F i ∨ w.H b = none
theorem Stp.refl (w : Wd) : Stp w w := ⟨fun _ _ h => h, fun _ _ h _ => h, fun _ _ h _ => h, fun _ h => h, fun _ _ h => .inl h⟩
theorem Stp.trans {w w1 w2 : Wd} (a : Stp w w1) (b : Stp w1 w2) : Stp w w2 := by
  have nf : ∀ c, w.H c ≠ none → (∀ i, c ∉ w.F i) → ∀ i, c ∉ w1.F i := fun c h n i z => by
    rcases a.f i c z with q | q
    · exact n i q
    · exact h q
  refine ⟨fun c o h => b.g c o (a.g c o h), fun c h g n => b.gf c (a.t c h) (a.gf c h g n) (nf c h n), fun c o h n => b.h c o (a.h c o h n) (nf c (by rw [h]; exact fun z => nomatch z) n), fun c h => b.t c (a.t c h), fun i c z => ?_⟩
  rcases b.f i c z with q | q
  · exact a.f i c q
  · refine .inr ?_
    cases e : w.H c with
    | none => rfl
    | some o => exact absurd q (a.t c (by rw [e]; exact fun z => nomatch z))

/-- what an expression gives: a datum; the slot of a name -/
inductive R where
  | d (x : PyData) | s (i : Nat)
def RepR (K : PySem.W.Frag) (w : Wd) (σ : St) (v : V) : R → Prop
  | .d x => Rep K w.G v x
  | .s i => σ[i]? = some (some v)
theorem RepR.step {K : PySem.W.Frag} {w w' : Wd} {σ : St} {v : V} {r : R} (s : Stp w w') (h : RepR K w σ v r) : RepR K w' σ v r := by
  cases r with
  | d x => exact rep_mono s.g _ _ h
  | s i => exact h

/-- what is seen at a result: a datum -/
def vw (ρ : DSt) (r : R) (k : PyData → Prop) : Prop := match r with
  | .d x => k x
  | .s i => match ρ[i]? with
    | some (.val d) => k d
    | some (.own _ ds) => k (.list ds)
    | _ => False
/-- a value seen: a list by its items (the list itself may be the frame's own), else as it is -/
def Top (K : PySem.W.Frag) (w : Wd) (v : V) : PyData → Prop
  | .list ds => ∃ a vs, v = .ref a ∧ w.H a = some (.lst vs) ∧ Reps K w.G vs ds
  | d => Rep K w.G v d
theorem rep_top {K : PySem.W.Frag} {w : Wd} {v : V} {d : PyData} (gh : Same w.G w.H) (h : Rep K w.G v d) : Top K w v d := by
  cases d with
  | list ds =>
    cases h with
    | lst hs ha => exact ⟨_, _, rfl, gh _ _ hs, ha⟩
  | _ => exact h
theorem vw_top {K : PySem.W.Frag} {P : Par} {w : Wd} {σ : St} {ρ : DSt} {v : V} {r : R} {k : PyData → Prop} (I : FI K P w σ ρ) (h : RepR K w σ v r) (q : vw ρ r k) : ∃ d, Top K w v d ∧ k d := by
  cases r with
  | d x => exact ⟨x, rep_top I.gh h, q⟩
  | s i =>
    have h : σ[i]? = some (some v) := h
    have q : (match ρ[i]? with
      | some (.val d) => k d
      | some (.own _ ds) => k (.list ds)
      | _ => False) := q
    cases e : ρ[i]? with
    | none => rw [e] at q; exact q.elim
    | some s =>
      rw [e] at q
      have ok := I.ok i s e
      cases s with
      | no => exact q.elim
      | res _ _ => exact q.elim
      | val d =>
        obtain ⟨_, u, e2, hr⟩ := ok
        rw [h] at e2
        cases e2
        exact ⟨d, rep_top I.gh hr, q⟩
      | own io ds =>
        obtain ⟨a, vs, e2, _, hh, hr, _⟩ := ok
        rw [h] at e2
        cases e2
        exact ⟨.list ds, ⟨a, vs, rfl, hh, hr⟩, q⟩
/-- seen in the whole heap -/
theorem Top.rep {K : PySem.W.Frag} {w : Wd} {v : V} {d : PyData} (gh : Same w.G w.H) (h : Top K w v d) : Rep K w.H v d := by
  cases d with
  | list ds =>
    obtain ⟨a, vs, rfl, hs, hr⟩ := h
    exact .lst hs (reps_mono gh _ _ hr)
  | none => exact rep_mono gh _ _ h
  | bool b => exact rep_mono gh _ _ h
  | int i => exact rep_mono gh _ _ h
  | str x => exact rep_mono gh _ _ h
  | tuple ds => exact rep_mono gh _ _ h
  | dict _ => exact rep_mono gh _ _ h

/-- a slot's tie behind a change of the world that leaves its own addresses -/
theorem slotOk.go {K : PySem.W.Frag} {v0 v : Option (Option V)} {N : Addr → Prop} {w w' : Wd} {fp : List Addr} {s : SD} (h : slotOk K v0 N w fp v s) (g : Same w.G w'.G) (hh : ∀ b ∈ fp, ∀ o, w.H b = some o → w'.H b = some o) : slotOk K v0 N w' fp v s := by
  cases s with
  | no => exact h
  | val d =>
    obtain ⟨h1, u, h2, h3⟩ := h
    exact ⟨h1, u, h2, rep_mono g _ _ h3⟩
  | own io ds =>
    obtain ⟨a, vs, h1, h2, h3, h4, h5⟩ := h
    exact ⟨a, vs, h1, h2, hh a (by rw [h2]; exact List.mem_cons_self) _ h3, reps_mono g _ _ h4, h5⟩
  | res io r =>
    obtain ⟨a, h1, h2, h3⟩ := h
    exact ⟨a, h1, r.keep g hh h2, h3⟩

/-! ### new objects -/
section
variable {K : PySem.W.Frag} {P : Par} {w : Wd} {σ : St} {ρ : DSt} {p : Addr} {o : HO}
theorem FI.fresh (I : FI K P w σ ρ) (hp : w.H p = none) : w.G p = none ∧ ∀ i b, b ∈ w.F i → b ≠ p :=
  ⟨I.gh.free hp, fun i b hb z => (I.foot i b hb).2 (by rw [z]; exact hp)⟩
theorem same_new {H : Hp} (h : H p = none) : Same H (upd H p o) := fun b u e => by rw [upd_ne (ne_of_none e h)]; exact e
theorem there_new {H : Hp} (b : Addr) (h : H b ≠ none) : upd H p o b ≠ none := by
  by_cases e : b = p
  · subst e; rw [upd_same]; exact fun z => nomatch z
  · rw [upd_ne e]; exact h
/-- a new object that stays -/
theorem FI.new (I : FI K P w σ ρ) (hp : w.H p = none) : FI K P ⟨upd w.G p o, upd w.H p o, w.F⟩ σ ρ ∧ Stp w ⟨upd w.G p o, upd w.H p o, w.F⟩ := by
  obtain ⟨hg, np⟩ := I.fresh hp
  refine ⟨⟨fun b u h => ?_, I.len, fun i s e => (I.ok i s e).go (same_new hg) fun b _ u h => same_new hp b u h, I.out, fun i b hb => ⟨?_, there_new b (I.foot i b hb).2⟩, I.sep⟩,
    ⟨same_new hg, fun b h1 h2 _ => ?_, fun b u h _ => same_new hp b u h, there_new, fun i b hb => .inl hb⟩⟩
  · have h : upd w.G p o b = some u := h
    show upd w.H p o b = some u
    by_cases e : b = p
    · subst e
      rw [upd_same] at h ⊢
      exact h
    · rw [upd_ne e] at h ⊢
      exact I.gh b u h
  · show upd w.G p o b = none
    rw [upd_ne (np i b hb)]; exact (I.foot i b hb).1
  · show upd w.G p o b = none
    rw [upd_ne (fun z => h1 (by rw [z]; exact hp))]; exact h2
/-- slot i holds v from now on: a datum -/
theorem FI.set (I : FI K P w σ ρ) {i : Nat} {v : V} {d : PyData} (h : Rep K w.G v d) : FI K P ⟨w.G, w.H, fun j => if j = i then [] else w.F j⟩ (σ.set i (some v)) (ρ.set i (.val d)) ∧ Stp w ⟨w.G, w.H, fun j => if j = i then [] else w.F j⟩ := by
  have sub : ∀ j b, b ∈ (if j = i then ([] : List Addr) else w.F j) → b ∈ w.F j := fun j b hb => by
    by_cases e : j = i
    · rw [if_pos e] at hb; cases hb
    · rw [if_neg e] at hb; exact hb
  refine ⟨⟨I.gh, by rw [List.length_set, List.length_set]; exact I.len, fun j s e => ?_, fun j hj => ?_, fun j b hb => I.foot j b (sub j b hb), fun j l b hjl hb hb' => I.sep j l b hjl (sub j b hb) (sub l b hb')⟩,
    ⟨fun _ _ h => h, fun _ _ h _ => h, fun _ _ h _ => h, fun _ h => h, fun j b hb => .inl (sub j b hb)⟩⟩
  · by_cases hj : i = j
    · subst hj
      have hlt : i < ρ.length := by
        rcases Nat.lt_or_ge i ρ.length with q | q
        · exact q
        · rw [List.getElem?_eq_none (by rw [List.length_set]; exact q)] at e; cases e
      rw [List.getElem?_set_self hlt] at e
      cases e
      rw [List.getElem?_set_self (by rw [I.len]; exact hlt)]
      exact ⟨if_pos rfl, v, rfl, h⟩
    · rw [List.getElem?_set_ne hj] at e
      rw [List.getElem?_set_ne hj]
      have ok := I.ok j s e
      show slotOk K P.σ0[j]? P.N _ (if j = i then [] else w.F j) σ[j]? s
      rw [if_neg (Ne.symm hj)]
      exact ok.go (fun _ _ h => h) fun _ _ _ h => h
  · show (if j = i then [] else w.F j) = []
    by_cases e : j = i
    · rw [if_pos e]
    · rw [if_neg e]; exact I.out j (by rw [← List.length_set (as := ρ)]; exact hj)
/-- a slot's own list comes to what stays -/
theorem FI.freeze (I : FI K P w σ ρ) {i : Nat} {ds : List PyData} (h : ρ[i]? = some (.own false ds)) :
    ∃ a vs, σ[i]? = some (some (.ref a)) ∧ w.H a = some (.lst vs) ∧ FI K P ⟨upd w.G a (.lst vs), w.H, fun j => if j = i then [] else w.F j⟩ σ (ρ.set i (.val (.list ds))) ∧
      Stp w ⟨upd w.G a (.lst vs), w.H, fun j => if j = i then [] else w.F j⟩ ∧ Rep K (upd w.G a (.lst vs)) (.ref a) (.list ds) := by
  obtain ⟨a, vs, h1, h2, h3, h4, _⟩ := I.ok i _ h
  have sub : ∀ j b, b ∈ (if j = i then ([] : List Addr) else w.F j) → b ∈ w.F j ∧ j ≠ i := fun j b hb => by
    by_cases e : j = i
    · rw [if_pos e] at hb; cases hb
    · rw [if_neg e] at hb; exact ⟨hb, e⟩
  have ha : a ∈ w.F i := by rw [h2]; exact List.mem_cons_self
  have hg : w.G a = none := (I.foot i a ha).1
  have hrep : Rep K (upd w.G a (.lst vs)) (.ref a) (.list ds) := .lst upd_same (reps_mono (same_new hg) _ _ h4)
  have hlt : i < ρ.length := (List.getElem?_eq_some_iff.mp h).1
  refine ⟨a, vs, h1, h3, ⟨fun b u e => ?_, by rw [List.length_set]; exact I.len, fun j s e => ?_, fun j hj => ?_, fun j b hb => ⟨?_, (I.foot j b (sub j b hb).1).2⟩, fun j l b hjl hb hb' => I.sep j l b hjl (sub j b hb).1 (sub l b hb').1⟩,
    ⟨same_new hg, fun b e1 e2 e3 => ?_, fun _ _ h _ => h, fun _ h => h, fun j b hb => .inl (sub j b hb).1⟩, hrep⟩
  · have e : upd w.G a (.lst vs) b = some u := e
    show w.H b = some u
    by_cases q : b = a
    · subst q
      rw [upd_same] at e
      rw [h3]; exact e
    · rw [upd_ne q] at e
      exact I.gh b u e
  · by_cases hj : i = j
    · subst hj
      rw [List.getElem?_set_self hlt] at e
      cases e
      exact ⟨if_pos rfl, .ref a, h1, hrep⟩
    · rw [List.getElem?_set_ne hj] at e
      show slotOk K P.σ0[j]? P.N _ (if j = i then [] else w.F j) σ[j]? s
      rw [if_neg (Ne.symm hj)]
      exact (I.ok j s e).go (same_new hg) fun _ _ _ h => h
  · show (if j = i then [] else w.F j) = []
    by_cases e : j = i
    · rw [if_pos e]
    · rw [if_neg e]; exact I.out j (by rw [← List.length_set (as := ρ)]; exact hj)
  · obtain ⟨q1, q2⟩ := sub j b hb
    show upd w.G a (.lst vs) b = none
    rw [upd_ne (fun z => I.sep j i b q2 q1 (by rw [z]; exact ha))]
    exact (I.foot j b q1).1
  · show upd w.G a (.lst vs) b = none
    rw [upd_ne (fun z => e3 i (by rw [z]; exact ha))]
    exact e2
/-- slot i holds a new list of its own -/
theorem FI.setOwn (I : FI K P w σ ρ) {i : Nat} {a : Addr} {vs : List V} {ds : List PyData} (hf : ∀ j, a ∉ w.F j) (hg : w.G a = none) (hh : w.H a = some (.lst vs)) (hr : Reps K w.G vs ds) (hn : P.N a) (hi : i < ρ.length) :
    FI K P ⟨w.G, w.H, fun j => if j = i then [a] else w.F j⟩ (σ.set i (some (.ref a))) (ρ.set i (.own false ds)) := by
  have sub : ∀ j b, b ∈ (if j = i then [a] else w.F j) → (j = i ∧ b = a) ∨ (j ≠ i ∧ b ∈ w.F j) := fun j b hb => by
    by_cases e : j = i
    · rw [if_pos e] at hb; exact .inl ⟨e, by simpa using hb⟩
    · rw [if_neg e] at hb; exact .inr ⟨e, hb⟩
  refine ⟨I.gh, by rw [List.length_set, List.length_set]; exact I.len, fun j s e => ?_, fun j hj => ?_, fun j b hb => ?_, fun j l b hjl hb hb' => ?_⟩
  · by_cases hj : i = j
    · subst hj
      rw [List.getElem?_set_self hi] at e
      cases e
      rw [List.getElem?_set_self (by rw [I.len]; exact hi)]
      exact ⟨a, vs, rfl, if_pos rfl, hh, hr, (fun z => nomatch z), fun _ => hn⟩
    · rw [List.getElem?_set_ne hj] at e
      rw [List.getElem?_set_ne hj]
      show slotOk K P.σ0[j]? P.N _ (if j = i then [a] else w.F j) σ[j]? s
      rw [if_neg (Ne.symm hj)]
      exact (I.ok j s e).go (fun _ _ h => h) fun _ _ _ h => h
  · have hj : ρ.length ≤ j := by rw [← List.length_set (as := ρ)]; exact hj
    show (if j = i then [a] else w.F j) = []
    rw [if_neg (by omega)]
    exact I.out j hj
  · rcases sub j b hb with ⟨_, rfl⟩ | ⟨_, q⟩
    · exact ⟨hg, by rw [hh]; exact fun z => nomatch z⟩
    · exact I.foot j b q
  · rcases sub j b hb with ⟨e1, rfl⟩ | ⟨_, q⟩
    · rcases sub l b hb' with ⟨e2, _⟩ | ⟨_, q'⟩
      · exact hjl (e1.trans e2.symm)
      · exact hf l q'
    · rcases sub l b hb' with ⟨_, rfl⟩ | ⟨_, q'⟩
      · exact hf j q
      · exact I.sep j l b hjl q q'
/-- slot i's own list changes -/
theorem FI.mut (I : FI K P w σ ρ) {i : Nat} {io : Bool} {ds es : List PyData} {a : Addr} {ws : List V} (h : ρ[i]? = some (.own io ds)) (ha : σ[i]? = some (some (.ref a))) (hr : Reps K w.G ws es) :
    FI K P ⟨w.G, upd w.H a (.lst ws), w.F⟩ σ (ρ.set i (.own io es)) ∧ Stp w ⟨w.G, upd w.H a (.lst ws), w.F⟩ := by
  obtain ⟨a', vs, h1, h2, h3, h4, h5⟩ := I.ok i _ h
  rw [ha] at h1
  cases h1
  have hm : a ∈ w.F i := by rw [h2]; exact List.mem_cons_self
  have hlt : i < ρ.length := (List.getElem?_eq_some_iff.mp h).1
  have nw : ∀ b o, b ≠ a → w.H b = some o → upd w.H a (.lst ws) b = some o := fun b o n e => by rw [upd_ne n]; exact e
  refine ⟨⟨fun b u e => ?_, by rw [List.length_set]; exact I.len, fun j s e => ?_, fun j hj => I.out j (by rw [← List.length_set (as := ρ)]; exact hj), fun j b hb => ⟨(I.foot j b hb).1, ?_⟩, I.sep⟩,
    ⟨fun _ _ h => h, fun _ _ h _ => h, fun b o e n => nw b o (fun z => n i (by rw [z]; exact hm)) e, fun b e => there_new b e, fun j b hb => .inl hb⟩⟩
  · exact nw b u (fun z => by rw [z, (I.foot i a hm).1] at e; cases e) (I.gh b u e)
  · by_cases hj : i = j
    · subst hj
      rw [List.getElem?_set_self hlt] at e
      cases e
      exact ⟨a, ws, ha, h2, upd_same, hr, h5⟩
    · rw [List.getElem?_set_ne hj] at e
      exact (I.ok j s e).go (fun _ _ h => h) fun b hb o e => nw b o (fun z => I.sep j i b (Ne.symm hj) hb (by rw [z]; exact hm)) e
  · exact there_new b (I.foot j b hb).2
end

/-- a result made a datum that stays -/
def frz (ρ : DSt) (r : R) (k : PyData → DSt → Prop) : Prop := match r with
  | .d x => k x ρ
  | .s i => match ρ[i]? with
    | some (.val d) => k d ρ
    | some (.own false ds) => k (.list ds) (ρ.set i (.val (.list ds)))
    | _ => False
theorem frz_ok {K : PySem.W.Frag} {P : Par} {w : Wd} {σ : St} {ρ : DSt} {v : V} {r : R} {k : PyData → DSt → Prop} (I : FI K P w σ ρ) (h : RepR K w σ v r) (q : frz ρ r k) :
    ∃ d ρ' w', FI K P w' σ ρ' ∧ Stp w w' ∧ w'.H = w.H ∧ Rep K w'.G v d ∧ k d ρ' := by
  cases r with
  | d x => exact ⟨x, ρ, w, I, Stp.refl w, rfl, h, q⟩
  | s i =>
    have h : σ[i]? = some (some v) := h
    have q : (match ρ[i]? with
      | some (.val d) => k d ρ
      | some (.own false ds) => k (.list ds) (ρ.set i (.val (.list ds)))
      | _ => False) := q
    cases e : ρ[i]? with
    | none => rw [e] at q; exact q.elim
    | some s =>
      rw [e] at q
      cases s with
      | no => exact q.elim
      | res _ _ => exact q.elim
      | val d =>
        obtain ⟨_, u, e2, hr⟩ := I.ok i _ e
        rw [h] at e2
        cases e2
        exact ⟨d, ρ, w, I, Stp.refl w, rfl, hr, q⟩
      | own io ds =>
        cases io with
        | true => exact q.elim
        | false =>
          obtain ⟨a, vs, h1, _, h3, h4, h5⟩ := I.freeze e
          rw [h] at h1
          cases h1
          exact ⟨_, _, _, h3, h4, rfl, h5, q⟩
end DL

end
section
set_option maxHeartbeats 4000000
/-! DLB: what expressions come to, as readings over data. -/
namespace DL
open PySem PySem.Spec L2

/-- an exception: its class, its fields -/
structure Exd where
  C : Addr
  fs : List (Str × PyData)
def RepF (K : PySem.W.Frag) (G : Hp) : List (Str × V) → List (Str × PyData) → Prop := Paired fun p q => p.1 = q.1 ∧ Rep K G p.2 q.2
def RepE (K : PySem.W.Frag) (w : Wd) (cls : Value) (d : Option Addr) (e : Exd) : Prop :=
  cls = .ref e.C ∧ ((e.fs = [] ∧ d = none) ∨ ∃ dd fvs, d = some dd ∧ w.G dd = some (.xd fvs) ∧ RepF K w.G fvs e.fs)
abbrev WD := Exd → DSt → Prop

/-- what a derivation leans on: the parameters, the worlds that may come, what is wished of an exception -/
structure DC (X : Cx) where
  P : Par
  A : Wd → Prop
  cl : ∀ w w', A w → Stp w w' → A w'
  nw : ∀ w p, A w → w.H p = none → P.N p
  gd : X.A.guards = some []
  calm : X.calm = true
  nd : X.N.Nodup
  un : X.A.units + 100 < cLine
  W : WD
  WH : WX
  tk : Takes X WH
  hW : ∀ e ρ σ w cls d, A w → FI X.K P w σ ρ → RepE X.K w cls d e → W e ρ → WH cls d σ w.H

abbrev TED := DSt → (R → DSt → Prop) → Prop
abbrev TTD := DSt → (Bool → DSt → Prop) → Prop
abbrev TND := DSt → (List PyData → DSt → Prop) → Prop
inductive RepRs (K : PySem.W.Frag) (w : Wd) (σ : St) : List V → List R → Prop
  | nil : RepRs K w σ [] []
  | cons {v vs r rs} : RepR K w σ v r → RepRs K w σ vs rs → RepRs K w σ (v :: vs) (r :: rs)

section
variable {X : Cx}
structure DE (C : DC X) (e : Expr) (te : TE) (t : TED) : Prop where
  pe : PE X e te
  run : ∀ (w : Wd) (σ : St) (ρ : DSt) (Q : VK) (QD : R → DSt → Prop), C.A w → FI X.K C.P w σ ρ → t ρ QD →
    (∀ v r w' ρ', Stp w w' → FI X.K C.P w' σ ρ' → RepR X.K w' σ v r → QD r ρ' → Q v w'.H) → te σ w.H Q
structure DT (C : DC X) (e : Expr) (tt : TT) (t : TTD) : Prop where
  pt : PT X e tt
  run : ∀ (w : Wd) (σ : St) (ρ : DSt) (Q : Bool → Hp → Prop) (QD : Bool → DSt → Prop), C.A w → FI X.K C.P w σ ρ → t ρ QD →
    (∀ b w' ρ', Stp w w' → FI X.K C.P w' σ ρ' → QD b ρ' → Q b w'.H) → tt σ w.H Q
/-- and, or: whatever the whole is -/
structure DW (C : DC X) (e : Expr) (tt : TT) (t : TTD) : Prop where
  pw : PW X e tt
  run : ∀ (w : Wd) (σ : St) (ρ : DSt) (Q : Bool → Hp → Prop) (QD : Bool → DSt → Prop), C.A w → FI X.K C.P w σ ρ → t ρ QD →
    (∀ b w' ρ', Stp w w' → FI X.K C.P w' σ ρ' → QD b ρ' → Q b w'.H) → tt σ w.H Q
/-- a new list that nobody else holds -/
structure DN (C : DC X) (e : Expr) (te : TE) (t : TND) : Prop where
  pe : PE X e te
  run : ∀ (w : Wd) (σ : St) (ρ : DSt) (Q : VK) (QD : List PyData → DSt → Prop), C.A w → FI X.K C.P w σ ρ → t ρ QD →
    (∀ a vs ds w' ρ', Stp w w' → FI X.K C.P w' σ ρ' → w.H a = none → w'.G a = none → (∀ i, a ∉ w'.F i) → w'.H a = some (.lst vs) → Reps X.K w'.G vs ds → QD ds ρ' → Q (.ref a) w'.H) → te σ w.H Q
/-- arguments, items: data that stay -/
structure DA (C : DC X) (es : List Expr) (ta : TA) (t : TND) : Prop where
  pa : PA X es ta
  run : ∀ (w : Wd) (σ : St) (ρ : DSt) (Q : List V → Hp → Prop) (QD : List PyData → DSt → Prop), C.A w → FI X.K C.P w σ ρ → t ρ QD →
    (∀ vs ds w' ρ', Stp w w' → FI X.K C.P w' σ ρ' → Reps X.K w'.G vs ds → QD ds ρ' → Q vs w'.H) → ta σ w.H Q

variable {C : DC X} {a b c e : Expr} {ta tb tc te : TE} {da db dc de : TED} {pos : Pos}

/-! ### names, constants -/
def dVar (i : Nat) : TED := fun ρ Q => (match ρ[i]? with | some (.val _) => True | some (.own _ _) => True | _ => False) ∧ Q (.s i) ρ
theorem slot_there {K : PySem.W.Frag} {P : Par} {w : Wd} {σ : St} {ρ : DSt} {i : Nat} (I : FI K P w σ ρ) (h : match ρ[i]? with | some (.val _) => True | some (.own _ _) => True | _ => False) : ∃ v, σ[i]? = some (some v) := by
  cases e : ρ[i]? with
  | none => rw [e] at h; exact h.elim
  | some s =>
    rw [e] at h
    have ok := I.ok i s e
    cases s with
    | no => exact h.elim
    | res _ _ => exact h.elim
    | val d =>
      obtain ⟨_, u, e2, _⟩ := ok
      exact ⟨u, e2⟩
    | own io ds =>
      obtain ⟨a, vs, e2, _⟩ := ok
      exact ⟨_, e2⟩
theorem de_var (i : Nat) {x : Str} (hN : X.N[i]? = some x := by rfl) (hv : Vis X.env.scope x := by first | exact Or.inl rfl | exact Or.inr (Or.inl rfl) | exact Or.inr (Or.inr rfl)) (hd : (x == ("__debug__" : Str)) = false := by decide)
    (hcd : (x == ("__classdict__" : Str)) = false := by decide) : DE C (.Name x pos) (tVar i) (dVar i) := by
  refine ⟨pe_var hN hv hd hcd, fun w σ ρ Q QD hA I h k => ?_⟩
  obtain ⟨h1, h2⟩ := h
  obtain ⟨v, e⟩ := slot_there I h1
  exact ⟨v, e, k v (.s i) w ρ (Stp.refl w) I e h2⟩
def dC (d : PyData) : TED := fun ρ Q => Q (.d d) ρ
theorem de_c {v : V} {d : PyData} (h : PE X e (tC v)) (hr : ∀ G, Rep X.K G v d) : DE C e (tC v) (dC d) :=
  ⟨h, fun w σ ρ Q QD hA I q k => k v (.d d) w ρ (Stp.refl w) I (hr _) q⟩
theorem de_int {i j} : DE C (.Constant (.int i) j pos) (tC (.int i)) (dC (.int i)) := de_c pe_int fun _ => .int i
theorem de_bl {i j} : DE C (.Constant (.bool i) j pos) (tC (.bl i)) (dC (.bool i)) := de_c pe_bl fun _ => .bl i
theorem de_non {j} : DE C (.Constant .none j pos) (tC .non) (dC .none) := de_c pe_non fun _ => .non
theorem de_str {x j} : DE C (.Constant (.str x) j pos) (tC (.str x)) (dC (.str x)) := de_c pe_str fun _ => .str x
/-- a constant of the module -/
theorem de_glob {x : Str} {v : V} {u : Value} {d : PyData} (hg : Gl X x) (hm : X.mg x = some u) (r : RelV v u) (hr : ∀ G, Rep X.K G v d) (hd : (x == ("__debug__" : Str)) = false := by decide) : DE C (.Name x pos) (tC v) (dC d) :=
  de_c (pe_glob hg hm r hd) hr

/-! ### two operands -/
/-- an operation on two data -/
def dOp (f : PyData → PyData → (PyData → Prop) → Prop) (da db : TED) : TED := fun ρ Q => da ρ fun r1 ρ1 => db ρ1 fun r2 ρ2 => vw ρ2 r1 fun x => vw ρ2 r2 fun y => f x y fun z => Q (.d z) ρ2
/-- a rule by values serves an operation on data -/
def OpD (X : Cx) (C : DC X) (r : R2) (f : PyData → PyData → (PyData → Prop) → Prop) : Prop :=
  ∀ (w : Wd) (σ : St) (ρ : DSt) (u v : V) (x y : PyData) (Q : VK) (kd : PyData → Prop), C.A w → FI X.K C.P w σ ρ → Top X.K w u x → Top X.K w v y → f x y kd →
    (∀ z d w', Stp w w' → FI X.K C.P w' σ ρ → Rep X.K w'.G z d → kd d → Q z w'.H) → r u v w.H Q
theorem op_run {r : R2} {f : PyData → PyData → (PyData → Prop) → Prop} (hr : OpD X C r f) (ha : DE C a ta da) (hb : DE C b tb db) :
    ∀ (w : Wd) (σ : St) (ρ : DSt) (Q : VK) (QD : R → DSt → Prop), C.A w → FI X.K C.P w σ ρ → dOp f da db ρ QD →
    (∀ v r w' ρ', Stp w w' → FI X.K C.P w' σ ρ' → RepR X.K w' σ v r → QD r ρ' → Q v w'.H) → tOp r ta tb σ w.H Q := by
  intro w σ ρ Q QD hA I q k
  refine ha.run w σ ρ _ _ hA I q fun u r1 w1 ρ1 s1 I1 R1 q1 => ?_
  refine hb.run w1 σ ρ1 _ _ (C.cl _ _ hA s1) I1 q1 fun v r2 w2 ρ2 s2 I2 R2 q2 => ?_
  obtain ⟨x, tx, q3⟩ := vw_top I2 (R1.step s2) q2
  obtain ⟨y, ty, q4⟩ := vw_top I2 R2 q3
  exact hr w2 σ ρ2 u v x y Q _ (C.cl _ _ (C.cl _ _ hA s1) s2) I2 tx ty q4 fun z d w3 s3 I3 R3 q5 => k z (.d d) w3 ρ2 ((s1.trans s2).trans s3) I3 R3 q5
theorem de_op {op : Operator} {r : R2} {f : PyData → PyData → (PyData → Prop) → Prop} (ho : OpR X (binaryOp op) r ∧ OpD X C r f) (ha : DE C a ta da) (hb : DE C b tb db) : DE C (.BinOp a op b pos) (tOp r ta tb) (dOp f da db) :=
  ⟨pe_op ho.1 ha.pe hb.pe, op_run ho.2 ha hb⟩
theorem de_cmp {op : CmpOp} {r : R2} {f : PyData → PyData → (PyData → Prop) → Prop} (ho : OpR X (compareOp op) r ∧ OpD X C r f) (ha : DE C a ta da) (hb : DE C b tb db) (hm : behindInMarks op b = false) : DE C (.Compare a [op] [b] pos) (tOp r ta tb) (dOp f da db) :=
  ⟨pe_cmpR ho.1 ha.pe hb.pe hm, op_run ho.2 ha hb⟩
def dTest (t : TED) : TTD := fun ρ Q => t ρ fun r ρ1 => vw ρ1 r fun x => match x with | .bool k => Q k ρ1 | _ => False
theorem test_run (ha : DE C a ta da) : ∀ (w : Wd) (σ : St) (ρ : DSt) (Q : Bool → Hp → Prop) (QD : Bool → DSt → Prop), C.A w → FI X.K C.P w σ ρ → dTest da ρ QD →
    (∀ b w' ρ', Stp w w' → FI X.K C.P w' σ ρ' → QD b ρ' → Q b w'.H) → tTest ta σ w.H Q := by
  intro w σ ρ Q QD hA I q k
  refine ha.run w σ ρ _ _ hA I q fun u r1 w1 ρ1 s1 I1 R1 q1 => ?_
  obtain ⟨x, tx, q2⟩ := vw_top I1 R1 q1
  cases x with
  | bool z =>
    cases tx
    exact ⟨z, rfl, k z w1 ρ1 s1 I1 q2⟩
  | _ => exact q2.elim
theorem dt_cmp {op : CmpOp} {r : R2} {f : PyData → PyData → (PyData → Prop) → Prop} (ho : OpR X (compareOp op) r ∧ OpD X C r f) (ha : DE C a ta da) (hb : DE C b tb db) (hm : behindInMarks op b = false) : DT C (.Compare a [op] [b] pos) (tTest (tOp r ta tb)) (dTest (dOp f da db)) :=
  ⟨pt_cmpR ho.1 ha.pe hb.pe hm, test_run (de_cmp (pos := pos) ho ha hb hm)⟩

/-! ### ints -/
def int2 (f : Int → Int → (PyData → Prop) → Prop) (x y : PyData) (k : PyData → Prop) : Prop := match x, y with
  | .int i, .int j => f i j k
  | _, _ => False
theorem int2_inv {f : Int → Int → (PyData → Prop) → Prop} {x y : PyData} {k : PyData → Prop} (h : int2 f x y k) : ∃ i j, x = .int i ∧ y = .int j ∧ f i j k := by
  unfold int2 at h
  split at h
  · exact ⟨_, _, rfl, rfl, h⟩
  · exact h.elim
/-- an operation on ints, under Cd -/
def dI (Cd : Int → Int → Prop) (g : Int → Int → Int) : PyData → PyData → (PyData → Prop) → Prop := int2 fun i j k => Cd i j ∧ k (.int (g i j))
def dI0 (g : Int → Int → Int) : PyData → PyData → (PyData → Prop) → Prop := int2 fun i j k => k (.int (g i j))
def dB0 (g : Int → Int → Bool) : PyData → PyData → (PyData → Prop) → Prop := int2 fun i j k => k (.bool (g i j))
theorem opd_I {Cd : Int → Int → Prop} {g : Int → Int → Int} : OpD X C (rI Cd fun i j => .int (g i j)) (dI Cd g) := by
  intro w σ ρ u v x y Q kd hA I tx ty h k
  obtain ⟨i, j, rfl, rfl, hc, q⟩ := int2_inv h
  cases tx
  cases ty
  exact ⟨i, j, rfl, rfl, hc, k _ (.int (g i j)) w (Stp.refl w) I (.int _) q⟩
theorem opd_I0 {g : Int → Int → Int} : OpD X C (rI0 fun i j => .int (g i j)) (dI0 g) := by
  intro w σ ρ u v x y Q kd hA I tx ty h k
  obtain ⟨i, j, rfl, rfl, q⟩ := int2_inv h
  cases tx
  cases ty
  exact ⟨i, j, rfl, rfl, k _ (.int (g i j)) w (Stp.refl w) I (.int _) q⟩
theorem opd_B0 {g : Int → Int → Bool} : OpD X C (rI0 fun i j => .bl (g i j)) (dB0 g) := by
  intro w σ ρ u v x y Q kd hA I tx ty h k
  obtain ⟨i, j, rfl, rfl, q⟩ := int2_inv h
  cases tx
  cases ty
  exact ⟨i, j, rfl, rfl, k _ (.bool (g i j)) w (Stp.refl w) I (.bl _) q⟩
theorem od_add : OpR X (binaryOp .Add) (rI0 fun i j => .int (i + j)) ∧ OpD X C (rI0 fun i j => .int (i + j)) (dI0 fun i j => i + j) := ⟨op_add, opd_I0⟩
theorem od_sub : OpR X (binaryOp .Sub) (rI0 fun i j => .int (i - j)) ∧ OpD X C (rI0 fun i j => .int (i - j)) (dI0 fun i j => i - j) := ⟨op_sub, opd_I0⟩
theorem od_mul : OpR X (binaryOp .Mult) (rI CMulW fun i j => .int (i * j)) ∧ OpD X C (rI CMulW fun i j => .int (i * j)) (dI CMulW fun i j => i * j) := ⟨op_mulW, opd_I⟩
/-- // by a divisor of less than 9000 bits -/
def CDivF (_ j : Int) : Prop := j ≠ 0 ∧ j.natAbs.log2 < 9000
theorem op_fdivF : OpR X (binaryOp .FloorDiv) (rI CDivF fun i j => .int (i.fdiv j)) := opI fun _ _ _ _ _ _ _ hc q => PyProof.Rows.floordiv_int hc.1 q (.inl (PyProof.noPylong_of_log2 hc.2))
theorem od_fdiv : OpR X (binaryOp .FloorDiv) (rI CDivF fun i j => .int (i.fdiv j)) ∧ OpD X C (rI CDivF fun i j => .int (i.fdiv j)) (dI CDivF fun i j => i.fdiv j) := ⟨op_fdivF, opd_I⟩
theorem od_mod : OpR X (binaryOp .Mod) (rI (fun _ j => j ≠ 0) fun i j => .int (i.fmod j)) ∧ OpD X C (rI (fun _ j => j ≠ 0) fun i j => .int (i.fmod j)) (dI (fun _ j => j ≠ 0) fun i j => i.fmod j) := ⟨op_modN, opd_I⟩
theorem od_pow : OpR X (binaryOp .Pow) (rI CPow fun i j => .int (i ^ j.toNat)) ∧ OpD X C (rI CPow fun i j => .int (i ^ j.toNat)) (dI CPow fun i j => i ^ j.toNat) := ⟨op_pow, opd_I⟩
theorem od_lt : OpR X (compareOp .Lt) (rI0 fun i j => .bl (decide (i < j))) ∧ OpD X C (rI0 fun i j => .bl (decide (i < j))) (dB0 fun i j => decide (i < j)) := ⟨op_lt, opd_B0⟩
theorem od_le : OpR X (compareOp .LtE) (rI0 fun i j => .bl (decide (i ≤ j))) ∧ OpD X C (rI0 fun i j => .bl (decide (i ≤ j))) (dB0 fun i j => decide (i ≤ j)) := ⟨op_le, opd_B0⟩
theorem od_gt : OpR X (compareOp .Gt) (rI0 fun i j => .bl (decide (j < i))) ∧ OpD X C (rI0 fun i j => .bl (decide (j < i))) (dB0 fun i j => decide (j < i)) := ⟨op_gt, opd_B0⟩
theorem od_ge : OpR X (compareOp .GtE) (rI0 fun i j => .bl (decide (j ≤ i))) ∧ OpD X C (rI0 fun i j => .bl (decide (j ≤ i))) (dB0 fun i j => decide (j ≤ i)) := ⟨op_ge, opd_B0⟩
/-! ### == and != of any data -/
def dEq (x y : PyData) (k : PyData → Prop) : Prop := SeqAt.shaped x = true ∧ SeqAt.shaped y = true ∧ k (.bool (PyData.eqv x y))
def dNe (x y : PyData) (k : PyData → Prop) : Prop := SeqAt.shaped x = true ∧ SeqAt.shaped y = true ∧ k (.bool (!PyData.eqv x y))
theorem od_eq : OpR X (compareOp .Eq) (rEqD X.K) ∧ OpD X C (rEqD X.K) dEq := by
  refine ⟨op_eqD (by have := C.un; omega), fun w σ ρ u v x y Q kd hA I tx ty h k => ?_⟩
  obtain ⟨h1, h2, q⟩ := h
  exact ⟨x, y, (tx.rep I.gh).dp _ _ (PyData.hasDict_of_canLay _ (SeqAt.canLay_of_shaped h1)), (ty.rep I.gh).dp _ _ (PyData.hasDict_of_canLay _ (SeqAt.canLay_of_shaped h2)), h1, h2, k _ _ w (Stp.refl w) I (.bl _) q⟩
theorem od_ne : OpR X (compareOp .NotEq) (rNeD X.K) ∧ OpD X C (rNeD X.K) dNe := by
  refine ⟨op_neD (by have := C.un; omega), fun w σ ρ u v x y Q kd hA I tx ty h k => ?_⟩
  obtain ⟨h1, h2, q⟩ := h
  exact ⟨x, y, (tx.rep I.gh).dp _ _ (PyData.hasDict_of_canLay _ (SeqAt.canLay_of_shaped h1)), (ty.rep I.gh).dp _ _ (PyData.hasDict_of_canLay _ (SeqAt.canLay_of_shaped h2)), h1, h2, k _ _ w (Stp.refl w) I (.bl _) q⟩
/-! ### tests -/
variable {ua ub : TT} {xa xb : TTD} {rest : List Expr}
def dAnd (t u : TTD) : TTD := fun ρ Q => t ρ fun b ρ1 => match b with | true => u ρ1 Q | false => Q false ρ1
def dOr (t u : TTD) : TTD := fun ρ Q => t ρ fun b ρ1 => match b with | true => Q true ρ1 | false => u ρ1 Q
def dNot (t : TTD) : TTD := fun ρ Q => t ρ fun b ρ1 => Q (!b) ρ1
theorem dw_and1 (ha : DT C a ua xa) : DW C (.BoolOp .And [a] pos) ua xa := ⟨pw_and1 ha.pt, ha.run⟩
theorem dw_or1 (ha : DT C a ua xa) : DW C (.BoolOp .Or [a] pos) ua xa := ⟨pw_or1 ha.pt, ha.run⟩
theorem dw_and (ha : DT C a ua xa) (hb : DW C (.BoolOp .And (b :: rest) pos) ub xb) : DW C (.BoolOp .And (a :: b :: rest) pos) (tAnd ua ub) (dAnd xa xb) := by
  refine ⟨pw_and ha.pt hb.pw, fun w σ ρ Q QD hA I q k => ?_⟩
  refine ha.run w σ ρ _ _ hA I q fun z w1 ρ1 s1 I1 q1 => ?_
  cases z with
  | true =>
    show ub σ w1.H Q
    exact hb.run w1 σ ρ1 _ _ (C.cl _ _ hA s1) I1 q1 fun z2 w2 ρ2 s2 I2 q2 => k z2 w2 ρ2 (s1.trans s2) I2 q2
  | false => exact k false w1 ρ1 s1 I1 q1
theorem dw_or (ha : DT C a ua xa) (hb : DW C (.BoolOp .Or (b :: rest) pos) ub xb) : DW C (.BoolOp .Or (a :: b :: rest) pos) (tOr ua ub) (dOr xa xb) := by
  refine ⟨pw_or ha.pt hb.pw, fun w σ ρ Q QD hA I q k => ?_⟩
  refine ha.run w σ ρ _ _ hA I q fun z w1 ρ1 s1 I1 q1 => ?_
  cases z with
  | false =>
    show ub σ w1.H Q
    exact hb.run w1 σ ρ1 _ _ (C.cl _ _ hA s1) I1 q1 fun z2 w2 ρ2 s2 I2 q2 => k z2 w2 ρ2 (s1.trans s2) I2 q2
  | true => exact k true w1 ρ1 s1 I1 q1
theorem DW.dt (h : DW C a ua xa) : DT C a ua xa := ⟨h.pw.pt, h.run⟩
theorem dt_not (ha : DT C a ua xa) : DT C (.UnaryOp .Not a pos) (tNot ua) (dNot xa) :=
  ⟨pt_not ha.pt, fun w σ ρ Q QD hA I q k => ha.run w σ ρ _ _ hA I q fun z w1 ρ1 s1 I1 q1 => k (!z) w1 ρ1 s1 I1 q1⟩
/-- an expression that gives a bool, as a test -/
theorem dt_val (h : DE C a ta da) (he : ∀ whole, isTrue a X.env whole = (do let v ← whole; standAt a.pos; holding [v] (truthy v)) := by intro _; rfl) : DT C a (tB ta) (dTest da) :=
  ⟨pt_val h.pe he, test_run h⟩
/-- values: and, or, not, if -/
def dAndV (da db : TED) : TED := fun ρ Q => da ρ fun r ρ1 => vw ρ1 r fun x => match x with | .bool true => db ρ1 Q | .bool false => Q (.d (.bool false)) ρ1 | _ => False
def dOrV (da db : TED) : TED := fun ρ Q => da ρ fun r ρ1 => vw ρ1 r fun x => match x with | .bool false => db ρ1 Q | .bool true => Q (.d (.bool true)) ρ1 | _ => False
def dNotV (da : TED) : TED := fun ρ Q => da ρ fun r ρ1 => vw ρ1 r fun x => match x with | .bool k => Q (.d (.bool (!k))) ρ1 | _ => False
theorem de_one {op} (h : DE C a ta da) : DE C (.BoolOp op [a] pos) ta da := ⟨pe_one h.pe, h.run⟩
theorem de_and (ha : DE C a ta da) (hb : DE C (.BoolOp .And (b :: rest) pos) tb db) : DE C (.BoolOp .And (a :: b :: rest) pos) (tAndV ta tb) (dAndV da db) := by
  refine ⟨pe_and ha.pe hb.pe, fun w σ ρ Q QD hA I q k => ?_⟩
  refine ha.run w σ ρ _ _ hA I q fun u r1 w1 ρ1 s1 I1 R1 q1 => ?_
  obtain ⟨x, tx, q2⟩ := vw_top I1 R1 q1
  cases x with
  | bool z =>
    cases tx
    cases z with
    | true => exact ⟨true, rfl, hb.run w1 σ ρ1 _ _ (C.cl _ _ hA s1) I1 q2 fun v2 r2 w2 ρ2 s2 I2 R2 q3 => k v2 r2 w2 ρ2 (s1.trans s2) I2 R2 q3⟩
    | false => exact ⟨false, rfl, k _ (.d (.bool false)) w1 ρ1 s1 I1 (.bl _) q2⟩
  | _ => exact q2.elim
theorem de_or (ha : DE C a ta da) (hb : DE C (.BoolOp .Or (b :: rest) pos) tb db) : DE C (.BoolOp .Or (a :: b :: rest) pos) (tOrV ta tb) (dOrV da db) := by
  refine ⟨pe_or ha.pe hb.pe, fun w σ ρ Q QD hA I q k => ?_⟩
  refine ha.run w σ ρ _ _ hA I q fun u r1 w1 ρ1 s1 I1 R1 q1 => ?_
  obtain ⟨x, tx, q2⟩ := vw_top I1 R1 q1
  cases x with
  | bool z =>
    cases tx
    cases z with
    | false => exact ⟨false, rfl, hb.run w1 σ ρ1 _ _ (C.cl _ _ hA s1) I1 q2 fun v2 r2 w2 ρ2 s2 I2 R2 q3 => k v2 r2 w2 ρ2 (s1.trans s2) I2 R2 q3⟩
    | true => exact ⟨true, rfl, k _ (.d (.bool true)) w1 ρ1 s1 I1 (.bl _) q2⟩
  | _ => exact q2.elim
theorem de_not (ha : DE C a ta da) : DE C (.UnaryOp .Not a pos) (tNotV ta) (dNotV da) := by
  refine ⟨pe_not ha.pe, fun w σ ρ Q QD hA I q k => ?_⟩
  refine ha.run w σ ρ _ _ hA I q fun u r1 w1 ρ1 s1 I1 R1 q1 => ?_
  obtain ⟨x, tx, q2⟩ := vw_top I1 R1 q1
  cases x with
  | bool z =>
    cases tx
    exact ⟨z, rfl, k _ (.d (.bool (!z))) w1 ρ1 s1 I1 (.bl _) q2⟩
  | _ => exact q2.elim
def dIf (t : TTD) (da db : TED) : TED := fun ρ Q => t ρ fun b ρ1 => match b with | true => da ρ1 Q | false => db ρ1 Q
theorem de_if (hc : DT C c ua xa) (ha : DE C a ta da) (hb : DE C b tb db) : DE C (.IfExp c a b pos) (tIf ua ta tb) (dIf xa da db) := by
  refine ⟨pe_ifExp hc.pt ha.pe hb.pe, fun w σ ρ Q QD hA I q k => ?_⟩
  refine hc.run w σ ρ _ _ hA I q fun z w1 ρ1 s1 I1 q1 => ?_
  cases z with
  | true =>
    show ta σ w1.H Q
    exact ha.run w1 σ ρ1 _ _ (C.cl _ _ hA s1) I1 q1 fun v2 r2 w2 ρ2 s2 I2 R2 q3 => k v2 r2 w2 ρ2 (s1.trans s2) I2 R2 q3
  | false =>
    show tb σ w1.H Q
    exact hb.run w1 σ ρ1 _ _ (C.cl _ _ hA s1) I1 q1 fun v2 r2 w2 ρ2 s2 I2 R2 q3 => k v2 r2 w2 ρ2 (s1.trans s2) I2 R2 q3
/-- -x -/
def dNeg (da : TED) : TED := fun ρ Q => da ρ fun r ρ1 => vw ρ1 r fun x => match x with | .int i => Q (.d (.int (-i))) ρ1 | _ => False
theorem de_neg (ha : DE C a ta da) : DE C (.UnaryOp .USub a pos) (tUn (rU fun i => .int (-i)) ta) (dNeg da) := by
  refine ⟨pe_un un_neg ha.pe, fun w σ ρ Q QD hA I q k => ?_⟩
  refine ha.run w σ ρ _ _ hA I q fun u r1 w1 ρ1 s1 I1 R1 q1 => ?_
  obtain ⟨x, tx, q2⟩ := vw_top I1 R1 q1
  cases x with
  | int i =>
    cases tx
    exact ⟨i, rfl, k _ (.d (.int (-i))) w1 ρ1 s1 I1 (.int _) q2⟩
  | _ => exact q2.elim

/-! ### items, displays -/
def dNil : TND := fun ρ Q => Q [] ρ
def dCons (da : TED) (dr : TND) : TND := fun ρ Q => da ρ fun r ρ1 => frz ρ1 r fun d ρ2 => dr ρ2 fun ds ρ3 => Q (d :: ds) ρ3
variable {es : List Expr} {tr : TA} {dr : TND}
theorem da_nil : DA C [] tNil dNil := ⟨pa_nil, fun w σ ρ Q QD hA I q k => k [] [] w ρ (Stp.refl w) I .nil q⟩
theorem da_cons (ha : DE C e te de) (hr : DA C es tr dr) (hs : starEach (e :: es) X.env = (false, eval e X.env) :: starEach es X.env := by rfl) : DA C (e :: es) (tCons te tr) (dCons de dr) := by
  refine ⟨pa_cons ha.pe hr.pa hs, fun w σ ρ Q QD hA I q k => ?_⟩
  refine ha.run w σ ρ _ _ hA I q fun u r1 w1 ρ1 s1 I1 R1 q1 => ?_
  obtain ⟨d, ρ2, w2, I2, s2, hh, hrep, q2⟩ := frz_ok I1 R1 q1
  rw [← hh]
  have s12 := s1.trans s2
  exact hr.run w2 σ ρ2 _ _ (C.cl _ _ hA s12) I2 q2 fun vs ds w3 ρ3 s3 I3 R3 q3 => k (u :: vs) (d :: ds) w3 ρ3 (s12.trans s3) I3 (.cons (rep_mono s3.g _ _ hrep) R3) q3
def dTup (dr : TND) : TED := fun ρ Q => dr ρ fun ds ρ1 => ds.length ≤ sizeLine ∧ Q (.d (.tuple ds)) ρ1
theorem de_tup {k0} (h : DA C es tr dr) : DE C (.Tuple es k0 pos) (tTup tr) (dTup dr) := by
  refine ⟨pe_tup h.pa, fun w σ ρ Q QD hA I q k => ?_⟩
  refine h.run w σ ρ _ _ hA I q fun vs ds w1 ρ1 s1 I1 R1 q1 => ?_
  obtain ⟨hl, q1⟩ := q1
  refine ⟨by rw [R1.len]; exact hl, fun p hp => ?_⟩
  obtain ⟨I2, s2⟩ := I1.new (o := .tup vs) hp
  exact k (.ref p) (.d (.tuple ds)) _ ρ1 (s1.trans s2) I2 (.tup (SqT.of upd_same) (reps_mono s2.g _ _ R1)) q1
def nLst (dr : TND) : TND := fun ρ Q => dr ρ fun ds ρ1 => ds.length ≤ sizeLine ∧ Q ds ρ1
theorem FI.air {P : Par} {w : Wd} {σ : St} {ρ : DSt} {p : Addr} {o : HO} (I : FI X.K P w σ ρ) (hp : w.H p = none) : FI X.K P ⟨w.G, upd w.H p o, w.F⟩ σ ρ ∧ Stp w ⟨w.G, upd w.H p o, w.F⟩ := by
  obtain ⟨hg, np⟩ := I.fresh hp
  exact ⟨⟨fun b u h => same_new hp b u (I.gh b u h), I.len, fun i s e => (I.ok i s e).go (fun _ _ h => h) fun b _ u h => same_new hp b u h, I.out, fun i b hb => ⟨(I.foot i b hb).1, there_new b (I.foot i b hb).2⟩, I.sep⟩,
    ⟨fun _ _ h => h, fun _ _ h _ => h, fun b u h _ => same_new hp b u h, there_new, fun i b hb => .inl hb⟩⟩
theorem dn_lst (h : DA C es tr dr) : DN C (.List es pos) (tLst tr) (nLst dr) := by
  refine ⟨pe_lst h.pa, fun w σ ρ Q QD hA I q k => ?_⟩
  refine h.run w σ ρ _ _ hA I q fun vs ds w1 ρ1 s1 I1 R1 q1 => ?_
  obtain ⟨hl, q1⟩ := q1
  refine ⟨by rw [R1.len]; exact hl, fun p hp => ?_⟩
  obtain ⟨I2, s2⟩ := FI.air I1 (o := .lst vs) hp
  refine k p vs ds ⟨w1.G, upd w1.H p (.lst vs), w1.F⟩ ρ1 (s1.trans s2) I2 ?_ (I1.fresh hp).1 (fun i z => (I1.fresh hp).2 i p z rfl) upd_same R1 q1
  cases e0 : w.H p with
  | none => rfl
  | some o => exact absurd hp (s1.t p (by rw [e0]; exact fun z => nomatch z))
/-- a new list, left to stay -/
def dNew (t : TND) : TED := fun ρ Q => t ρ fun ds ρ1 => Q (.d (.list ds)) ρ1
theorem stay {P : Par} {w w1 : Wd} {σ : St} {ρ : DSt} {a : Addr} {vs : List V} {ds : List PyData} (s1 : Stp w w1) (I1 : FI X.K P w1 σ ρ) (n0 : w.H a = none) (hg : w1.G a = none) (hf : ∀ i, a ∉ w1.F i) (hh : w1.H a = some (.lst vs)) (hr : Reps X.K w1.G vs ds) :
    FI X.K P ⟨upd w1.G a (.lst vs), w1.H, w1.F⟩ σ ρ ∧ Stp w ⟨upd w1.G a (.lst vs), w1.H, w1.F⟩ ∧ Rep X.K (upd w1.G a (.lst vs)) (.ref a) (.list ds) := by
  refine ⟨⟨fun b u e => ?_, I1.len, fun i s e => (I1.ok i s e).go (same_new hg) fun _ _ _ h => h, I1.out, fun i b hb => ⟨?_, (I1.foot i b hb).2⟩, I1.sep⟩,
    ⟨fun b u h => same_new hg b u (s1.g b u h), fun b h1 h2 h3 => ?_, s1.h, s1.t, s1.f⟩, .lst upd_same (reps_mono (same_new hg) _ _ hr)⟩
  · have e : upd w1.G a (.lst vs) b = some u := e
    show w1.H b = some u
    by_cases q : b = a
    · subst q
      rw [upd_same] at e
      rw [hh]; exact e
    · rw [upd_ne q] at e
      exact I1.gh b u e
  · show upd w1.G a (.lst vs) b = none
    rw [upd_ne (fun z => hf i (by rw [← z]; exact hb))]
    exact (I1.foot i b hb).1
  · show upd w1.G a (.lst vs) b = none
    rw [upd_ne (fun z => h1 (by rw [z]; exact n0))]
    exact s1.gf b h1 h2 h3
theorem de_new {t : TND} (h : DN C e te t) : DE C e te (dNew t) := by
  refine ⟨h.pe, fun w σ ρ Q QD hA I q k => ?_⟩
  refine h.run w σ ρ _ _ hA I q fun a vs ds w1 ρ1 s1 I1 n0 hg hf hh hr q1 => ?_
  obtain ⟨I2, s2, r2⟩ := stay s1 I1 n0 hg hf hh hr
  exact k (.ref a) (.d (.list ds)) ⟨upd w1.G a (.lst vs), w1.H, w1.F⟩ ρ1 s2 I2 r2 q1

/-! ### subscripts -/
def atD (x y : PyData) (k : PyData → Prop) : Prop := match x, y with
  | .tuple ds, .int i => (match atI ds i with | some d => k d | none => False)
  | .list ds, .int i => (match atI ds i with | some d => k d | none => False)
  | _, _ => False
theorem atI_rep {G : Hp} {vs : List V} {ds : List PyData} {i : Int} {d : PyData} (r : Reps X.K G vs ds) (h : atI ds i = some d) : ∃ v, atI vs i = some v ∧ Rep X.K G v d := by
  unfold atI at h ⊢
  rw [r.len]
  cases e : ixN ds.length i with
  | none => rw [e] at h; cases h
  | some j =>
    rw [e] at h
    exact r.get (show ds[j]? = some d from h)
theorem atD_inv {x y : PyData} {k : PyData → Prop} (h : atD x y k) : ∃ ds i d, (x = .tuple ds ∨ x = .list ds) ∧ y = .int i ∧ atI ds i = some d ∧ k d := by
  unfold atD at h
  split at h
  · split at h
    · exact ⟨_, _, _, .inl rfl, rfl, by assumption, h⟩
    · exact h.elim
  · split at h
    · exact ⟨_, _, _, .inr rfl, rfl, by assumption, h⟩
    · exact h.elim
  · exact h.elim
theorem de_ix (ha : DE C a ta da) (hb : DE C b tb db) (hs : PlainIx b := by intro _ _; rfl) : DE C (.Subscript a b pos) (tOp (rIx X.K) ta tb) (dOp atD da db) := by
  refine ⟨pe_ix ix_seq ha.pe hb.pe hs, op_run (fun w σ ρ u v x y Q kd hA I tx ty h k => ?_) ha hb⟩
  obtain ⟨ds, i, d, hx, rfl, hi, q⟩ := atD_inv h
  cases ty
  rcases hx with rfl | rfl
  · cases tx with
    | tup hs hr =>
      obtain ⟨z, hz, rz⟩ := atI_rep hr hi
      exact .inr (.inl ⟨_, _, i, z, rfl, rfl, sqt_mono I.gh hs, hz, k z d w (Stp.refl w) I rz q⟩)
  · obtain ⟨p, vs, rfl, hs, hr⟩ := tx
    obtain ⟨z, hz, rz⟩ := atI_rep hr hi
    exact .inl ⟨p, vs, i, z, rfl, rfl, SqL.of hs, hz, k z d w (Stp.refl w) I rz q⟩
end
end DL

end
section
set_option maxHeartbeats 4000000
/-! DLC: statements, targets, loops, comprehensions as readings over data. -/
namespace DL
open PySem PySem.Spec L2

/-- what a def gives back: a datum that stays, a new list -/
inductive Ret where
  | d (x : PyData) | n (ds : List PyData)
def RepRet (K : PySem.W.Frag) (N : Addr → Prop) (w : Wd) (v : V) : Ret → Prop
  | .d x => Rep K w.G v x
  | .n ds => ∃ a vs, v = .ref a ∧ N a ∧ w.G a = none ∧ (∀ i, a ∉ w.F i) ∧ w.H a = some (.lst vs) ∧ Reps K w.G vs ds
structure DEnds where
  nx : DSt → Prop
  rt : Ret → DSt → Prop
  bk : DSt → Prop := fun _ => False
  ct : DSt → Prop := fun _ => False
abbrev TSD := DEnds → DSt → Prop

section
variable {X : Cx}
/-- ends over data and ends over values meet, from the world w on -/
structure EndsOk (C : DC X) (w : Wd) (D : Ends) (DD : DEnds) : Prop where
  nx : ∀ w' σ' ρ', Stp w w' → FI X.K C.P w' σ' ρ' → DD.nx ρ' → D.nx σ' w'.H
  rt : ∀ v r w' σ' ρ', Stp w w' → FI X.K C.P w' σ' ρ' → RepRet X.K C.P.N w' v r → DD.rt r ρ' → D.rt v w'.H
  bk : ∀ w' σ' ρ', Stp w w' → FI X.K C.P w' σ' ρ' → DD.bk ρ' → D.bk σ' w'.H
  ct : ∀ w' σ' ρ', Stp w w' → FI X.K C.P w' σ' ρ' → DD.ct ρ' → D.ct σ' w'.H
structure DS (C : DC X) (st : Stmt) (ts : TS) (t : TSD) : Prop where
  ps : PS X st ts
  run : ∀ (w : Wd) (σ : St) (ρ : DSt) (D : Ends) (DD : DEnds), C.A w → FI X.K C.P w σ ρ → t DD ρ → EndsOk C w D DD → ts D σ w.H
structure DSs (C : DC X) (sts : List Stmt) (ts : TS) (t : TSD) : Prop where
  pss : PSs X sts ts
  run : ∀ (w : Wd) (σ : St) (ρ : DSt) (D : Ends) (DD : DEnds), C.A w → FI X.K C.P w σ ρ → t DD ρ → EndsOk C w D DD → ts D σ w.H
theorem EndsOk.step {C : DC X} {w w1 : Wd} {D : Ends} {DD : DEnds} (s : Stp w w1) (e : EndsOk C w D DD) : EndsOk C w1 D DD :=
  ⟨fun w' σ' ρ' s' => e.nx w' σ' ρ' (s.trans s'), fun v r w' σ' ρ' s' => e.rt v r w' σ' ρ' (s.trans s'), fun w' σ' ρ' s' => e.bk w' σ' ρ' (s.trans s'), fun w' σ' ρ' s' => e.ct w' σ' ρ' (s.trans s')⟩
variable {C : DC X} {st : Stmt} {rest body : List Stmt} {ts tr : TS} {t u : TSD} {a b c e tg iter : Expr} {ta te : TE} {da de : TED} {pos : Pos}

/-! ### blocks -/
def sNext : TSD := fun D ρ => D.nx ρ
def sSeq (t u : TSD) : TSD := fun D ρ => t { D with nx := u D } ρ
theorem dss_nil : DSs C [] tNext sNext := ⟨pss_nil, fun w σ ρ D DD hA I q k => k.nx w σ ρ (Stp.refl w) I q⟩
theorem dss_cons (h1 : DS C st ts t) (h2 : DSs C rest tr u) : DSs C (st :: rest) (tSeq ts tr) (sSeq t u) := by
  refine ⟨pss_cons h1.ps h2.pss, fun w σ ρ D DD hA I q k => ?_⟩
  exact h1.run w σ ρ { D with nx := tr D } { DD with nx := u DD } hA I q ⟨fun w' σ' ρ' s' I' q' => h2.run w' σ' ρ' D DD (C.cl _ _ hA s') I' q' (k.step s'), k.rt, k.bk, k.ct⟩
theorem dss_one (h1 : DS C st ts t) : DSs C [st] ts t := ⟨pss_one h1.ps, h1.run⟩
theorem ds_pass : DS C (.Pass pos) tNext sNext := ⟨ps_pass, fun w σ ρ D DD hA I q k => k.nx w σ ρ (Stp.refl w) I q⟩
def sBreak : TSD := fun D ρ => D.bk ρ
def sCont : TSD := fun D ρ => D.ct ρ
theorem ds_break : DS C (.Break pos) tBreak sBreak := ⟨ps_break, fun w σ ρ D DD hA I q k => k.bk w σ ρ (Stp.refl w) I q⟩
theorem ds_continue : DS C (.Continue pos) tCont sCont := ⟨ps_continue, fun w σ ρ D DD hA I q k => k.ct w σ ρ (Stp.refl w) I q⟩
def sDrop (de : TED) : TSD := fun D ρ => de ρ fun _ ρ1 => D.nx ρ1
theorem ds_expr (h : DE C e te de) (hs : swapsWith e none pos.line X.env = pure false := by rfl) : DS C (.Expr e pos) (tDrop te) (sDrop de) :=
  ⟨ps_expr h.pe hs, fun w σ ρ D DD hA I q k => h.run w σ ρ _ _ hA I q fun v r w1 ρ1 s1 I1 R1 q1 => k.nx w1 σ ρ1 s1 I1 q1⟩

/-! ### return -/
def sRet (de : TED) : TSD := fun D ρ => de ρ fun r ρ1 => frz ρ1 r fun d ρ2 => D.rt (.d d) ρ2
theorem ds_ret (h : DE C e te de) : DS C (.Return (some e) pos) (tRet te) (sRet de) := by
  refine ⟨ps_ret h.pe, fun w σ ρ D DD hA I q k => ?_⟩
  refine h.run w σ ρ _ _ hA I q fun v r w1 ρ1 s1 I1 R1 q1 => ?_
  obtain ⟨d, ρ2, w2, I2, s2, hh, hrep, q2⟩ := frz_ok I1 R1 q1
  rw [← hh]
  exact k.rt v (.d d) w2 σ ρ2 (s1.trans s2) I2 hrep q2
def sRetN (t : TND) : TSD := fun D ρ => t ρ fun ds ρ1 => D.rt (.n ds) ρ1
/-- return of a list just made -/
theorem ds_retN {t : TND} (h : DN C e te t) : DS C (.Return (some e) pos) (tRet te) (sRetN t) :=
  ⟨ps_ret h.pe, fun w σ ρ D DD hA I q k => h.run w σ ρ _ _ hA I q fun a vs ds w1 ρ1 s1 I1 n0 hg hf hh hr q1 => k.rt (.ref a) (.n ds) w1 σ ρ1 s1 I1 ⟨a, vs, rfl, C.nw w a hA n0, hg, hf, hh, hr⟩ q1⟩
/-- return of a list that the def has filled itself, slot i -/
def sRetOwn (i : Nat) : TSD := fun D ρ => match ρ[i]? with
  | some (.own false ds) => D.rt (.n ds) (ρ.set i .no)
  | _ => False
theorem FI.drop {K : PySem.W.Frag} {P : Par} {w : Wd} {σ : St} {ρ : DSt} (I : FI K P w σ ρ) (i : Nat) : FI K P ⟨w.G, w.H, fun j => if j = i then [] else w.F j⟩ σ (ρ.set i .no) ∧ Stp w ⟨w.G, w.H, fun j => if j = i then [] else w.F j⟩ := by
  have sub : ∀ j b, b ∈ (if j = i then ([] : List Addr) else w.F j) → b ∈ w.F j := fun j b hb => by
    by_cases e : j = i
    · rw [if_pos e] at hb; cases hb
    · rw [if_neg e] at hb; exact hb
  refine ⟨⟨I.gh, by rw [List.length_set]; exact I.len, fun j s e => ?_, fun j hj => ?_, fun j b hb => I.foot j b (sub j b hb), fun j l b hjl hb hb' => I.sep j l b hjl (sub j b hb) (sub l b hb')⟩,
    ⟨fun _ _ h => h, fun _ _ h _ => h, fun _ _ h _ => h, fun _ h => h, fun j b hb => .inl (sub j b hb)⟩⟩
  · by_cases hj : i = j
    · subst hj
      have hlt : i < ρ.length := by
        rcases Nat.lt_or_ge i ρ.length with q | q
        · exact q
        · rw [List.getElem?_eq_none (by rw [List.length_set]; exact q)] at e; cases e
      rw [List.getElem?_set_self hlt] at e
      cases e
      exact if_pos rfl
    · rw [List.getElem?_set_ne hj] at e
      show slotOk K P.σ0[j]? P.N _ (if j = i then [] else w.F j) σ[j]? s
      rw [if_neg (Ne.symm hj)]
      exact (I.ok j s e).go (fun _ _ h => h) fun _ _ _ h => h
  · show (if j = i then [] else w.F j) = []
    by_cases e : j = i
    · rw [if_pos e]
    · rw [if_neg e]; exact I.out j (by rw [← List.length_set (as := ρ)]; exact hj)
theorem ds_retOwn (i : Nat) {x : Str} {p : Pos} (hN : X.N[i]? = some x := by rfl) (hv : Vis X.env.scope x := by first | exact Or.inl rfl | exact Or.inr (Or.inl rfl) | exact Or.inr (Or.inr rfl)) (hd : (x == ("__debug__" : Str)) = false := by decide)
    (hcd : (x == ("__classdict__" : Str)) = false := by decide) : DS C (.Return (some (.Name x p)) pos) (tRet (tVar i)) (sRetOwn i) := by
  refine ⟨ps_ret (pe_var hN hv hd hcd), fun w σ ρ D DD hA I q k => ?_⟩
  have q : (match ρ[i]? with
    | some (.own false ds) => DD.rt (.n ds) (ρ.set i .no)
    | _ => False) := q
  cases e : ρ[i]? with
  | none => rw [e] at q; exact q.elim
  | some s =>
    rw [e] at q
    cases s with
    | no => exact q.elim
    | val _ => exact q.elim
    | res _ _ => exact q.elim
    | own io ds =>
      cases io with
      | true => exact q.elim
      | false =>
        obtain ⟨a, vs, h1, h2, h3, h4, h5⟩ := I.ok i _ e
        obtain ⟨I2, s2⟩ := I.drop i
        have ha : a ∈ w.F i := by rw [h2]; exact List.mem_cons_self
        refine ⟨.ref a, h1, k.rt (.ref a) (.n ds) ⟨w.G, w.H, fun j => if j = i then [] else w.F j⟩ σ _ s2 I2 ⟨a, vs, rfl, h5.2 rfl, (I.foot i a ha).1, fun j hj => ?_, h3, h4⟩ q⟩
        have hj : a ∈ (if j = i then [] else w.F j) := hj
        by_cases z : j = i
        · rw [if_pos z] at hj; cases hj
        · rw [if_neg z] at hj
          exact I.sep j i a z hj ha
def sRetU : TSD := fun D ρ => D.rt (.d .none) ρ
theorem ds_retU : DS C (.Return none pos) tRetN sRetU := ⟨ps_retN, fun w σ ρ D DD hA I q k => k.rt .non (.d .none) w σ ρ (Stp.refl w) I .non q⟩

/-! ### targets -/
abbrev TGD := PyData → DSt → (DSt → Prop) → Prop
/-- a target that stores at the slots of T alone -/
structure DG (C : DC X) (tg : Expr) (g : TG) (T : List Nat) (d : TGD) : Prop where
  pg : PG X tg g
  run : ∀ (w : Wd) (σ : St) (ρ : DSt) (v : V) (x : PyData) (Q : St → Hp → Prop) (QD : DSt → Prop), C.A w → FI X.K C.P w σ ρ → Rep X.K w.G v x → d x ρ QD →
    (∀ w' σ' ρ', Stp w w' → FI X.K C.P w' σ' ρ' → (∀ vs : List Nat, (∀ i ∈ T, i ∈ vs) → wipe σ' vs = wipe σ vs) → QD ρ' → Q σ' w'.H) → g v σ w.H Q
def gName' (i : Nat) : TGD := fun x ρ k => k (ρ.set i (.val x))
theorem wipe_set {σ : St} {i : Nat} {o : Option V} : ∀ {vs : List Nat}, i ∈ vs → wipe (σ.set i o) vs = wipe σ vs
  | v :: vs, h => by
    show (wipe (σ.set i o) vs).set v none = (wipe σ vs).set v none
    by_cases hv : i ∈ vs
    · rw [wipe_set hv]
    · have e : v = i := by
        rcases List.mem_cons.mp h with q | q
        · exact q.symm
        · exact absurd q hv
      subst e
      have out : ∀ (τ : St) (ws : List Nat), v ∉ ws → wipe (τ.set v o) ws = (wipe τ ws).set v o := by
        intro τ ws
        induction ws with
        | nil => intro _; rfl
        | cons z zs ih =>
          intro hz
          show (wipe (τ.set v o) zs).set z none = ((wipe τ zs).set z none).set v o
          rw [ih fun q => hz (List.mem_cons_of_mem _ q), List.set_comm _ _ (fun q => hz (by rw [q]; exact List.mem_cons_self))]
      rw [out σ vs hv, List.set_set]
theorem dg_name (i : Nat) {x : Str} (hi : X.N[i]? = some x := by rfl) (hx : Loc X.env.scope x := by first | exact Or.inl rfl | exact Or.inr rfl) (hf : X.fn x = true ∨ X.env.scope.names.lookup x = some .local := by first | exact .inl rfl | exact .inr rfl) :
    DG C (.Name x pos) (gName i) [i] (gName' i) :=
  ⟨pg_name C.nd hi hx hf, fun w σ ρ v d Q QD hA I hr q k => k ⟨w.G, w.H, fun j => if j = i then [] else w.F j⟩ _ _ (I.set hr).2 (I.set hr).1 (fun vs h => wipe_set (h i List.mem_cons_self)) q⟩
abbrev TGsD := List PyData → DSt → (DSt → Prop) → Prop
structure DGs (C : DC X) (tgs : List Expr) (g : TGs) (T : List Nat) (d : TGsD) : Prop where
  pgs : PGs X tgs g
  run : ∀ (w : Wd) (σ : St) (ρ : DSt) (vs : List V) (xs : List PyData) (Q : St → Hp → Prop) (QD : DSt → Prop), C.A w → FI X.K C.P w σ ρ → Reps X.K w.G vs xs → d xs ρ QD →
    (∀ w' σ' ρ', Stp w w' → FI X.K C.P w' σ' ρ' → (∀ vs : List Nat, (∀ i ∈ T, i ∈ vs) → wipe σ' vs = wipe σ vs) → QD ρ' → Q σ' w'.H) → g vs σ w.H Q
def gNil' : TGsD := fun xs ρ k => match xs with | [] => k ρ | _ => False
def gCons' (g : TGD) (r : TGsD) : TGsD := fun xs ρ k => match xs with | x :: xs => g x ρ fun ρ1 => r xs ρ1 k | [] => False
theorem dgs_nil : DGs C [] gNil [] gNil' := by
  refine ⟨pgs_nil, fun w σ ρ vs xs Q QD hA I hr q k => ?_⟩
  cases hr with
  | nil => exact ⟨rfl, k w σ ρ (Stp.refl w) I (fun _ _ => rfl) q⟩
  | cons _ _ => exact q.elim
theorem dgs_cons {tgs : List Expr} {g : TG} {gs : TGs} {T Ts : List Nat} {d : TGD} {ds : TGsD} (h1 : DG C tg g T d) (h2 : DGs C tgs gs Ts ds) (hs : (assignEach (tg :: tgs) X.env).map (·.2) = assign tg X.env :: (assignEach tgs X.env).map (·.2) := by rfl) :
    DGs C (tg :: tgs) (gCons g gs) (T ++ Ts) (gCons' d ds) := by
  refine ⟨pgs_cons h1.pg h2.pgs hs, fun w σ ρ vs xs Q QD hA I hr q k => ?_⟩
  cases hr with
  | nil => exact q.elim
  | cons r rs =>
    refine ⟨_, _, rfl, h1.run w σ ρ _ _ _ _ hA I r q fun w1 σ1 ρ1 s1 I1 e1 q1 => ?_⟩
    refine h2.run w1 σ1 ρ1 _ _ _ _ (C.cl _ _ hA s1) I1 (reps_mono s1.g _ _ rs) q1 fun w2 σ2 ρ2 s2 I2 e2 q2 => k w2 σ2 ρ2 (s1.trans s2) I2 (fun vs h => ?_) q2
    rw [e2 vs fun i hi => h i (List.mem_append_right _ hi), e1 vs fun i hi => h i (List.mem_append_left _ hi)]
def gTup' (r : TGsD) : TGD := fun x ρ k => match x with | .tuple xs => r xs ρ k | _ => False
def lenIs (n : Nat) (r : TGsD) : TGsD := fun xs ρ k => xs.length = n ∧ r xs ρ k
theorem dg_tup {tgs : List Expr} {gs : TGs} {T : List Nat} {ds : TGsD} {k0 : Nat} {n : Nat} (h : DGs C tgs gs T ds) (hn : (assignEach tgs X.env).length = n := by rfl) (hst : (assignEach tgs X.env).findIdx? (·.1) = none := by rfl) :
    DG C (.Tuple tgs k0 pos) (gTup X.K n gs) T (gTup' (lenIs n ds)) := by
  refine ⟨pg_tup C.calm h.pgs hn hst, fun w σ ρ v x Q QD hA I hr q k => ?_⟩
  cases x with
  | tuple xs =>
    cases hr with
    | tup hs ha =>
      obtain ⟨hl, q⟩ := q
      exact ⟨_, _, rfl, sqt_mono I.gh hs, by rw [ha.len]; exact hl, h.run w σ ρ _ _ _ _ hA I ha q k⟩
  | _ => exact q.elim

/-! ### assignments -/
/-- name = value -/
def sSet (i : Nat) (de : TED) : TSD := fun D ρ => de ρ fun r ρ1 => frz ρ1 r fun d ρ2 => D.nx (ρ2.set i (.val d))
theorem ds_set (i : Nat) {x : Str} {px : Pos} (h : DE C e te de) (hi : X.N[i]? = some x := by rfl) (hx : Loc X.env.scope x := by first | exact Or.inl rfl | exact Or.inr rfl) (hs : swapsWith e (some (.Name x px)) pos.line X.env = pure false := by rfl)
    (hf : X.fn x = true ∨ X.env.scope.names.lookup x = some .local := by first | exact .inl rfl | exact .inr rfl) : DS C (.Assign [.Name x px] e pos) (tAsg te (gName i)) (sSet i de) := by
  refine ⟨ps_set C.nd hi hx h.pe hs hf, fun w σ ρ D DD hA I q k => ?_⟩
  refine h.run w σ ρ _ _ hA I q fun v r w1 ρ1 s1 I1 R1 q1 => ?_
  obtain ⟨d, ρ2, w2, I2, s2, hh, hrep, q2⟩ := frz_ok I1 R1 q1
  rw [← hh]
  have z := I2.set (i := i) hrep
  exact k.nx ⟨w2.G, w2.H, fun j => if j = i then [] else w2.F j⟩ _ _ ((s1.trans s2).trans z.2) z.1 q2
/-- name = a new list, the name's own from now on -/
def sOwn (i : Nat) (t : TND) : TSD := fun D ρ => t ρ fun ds ρ1 => i < ρ1.length ∧ D.nx (ρ1.set i (.own false ds))
theorem ds_own (i : Nat) {x : Str} {px : Pos} {t : TND} (h : DN C e te t) (hi : X.N[i]? = some x := by rfl) (hx : Loc X.env.scope x := by first | exact Or.inl rfl | exact Or.inr rfl) (hs : swapsWith e (some (.Name x px)) pos.line X.env = pure false := by rfl)
    (hf : X.fn x = true ∨ X.env.scope.names.lookup x = some .local := by first | exact .inl rfl | exact .inr rfl) : DS C (.Assign [.Name x px] e pos) (tAsg te (gName i)) (sOwn i t) := by
  refine ⟨ps_set C.nd hi hx h.pe hs hf, fun w σ ρ D DD hA I q k => ?_⟩
  refine h.run w σ ρ _ _ hA I q fun a vs ds w1 ρ1 s1 I1 n0 hg hf' hh hr q1 => ?_
  have z := I1.setOwn (i := i) hf' hg hh hr (C.nw w a hA n0) q1.1
  refine k.nx ⟨w1.G, w1.H, fun j => if j = i then [a] else w1.F j⟩ _ _ ⟨s1.g, s1.gf, s1.h, s1.t, fun j b hb => ?_⟩ z q1.2
  have hb : b ∈ (if j = i then [a] else w1.F j) := hb
  by_cases e : j = i
  · rw [if_pos e] at hb
    have : b = a := by simpa using hb
    rw [this]; exact .inr n0
  · rw [if_neg e] at hb
    exact s1.f j b hb
/-- target = value -/
def sAsg (de : TED) (g : TGD) : TSD := fun D ρ => de ρ fun r ρ1 => frz ρ1 r fun d ρ2 => g d ρ2 D.nx
theorem ds_asg {g : TG} {T : List Nat} {d : TGD} (h : DE C e te de) (hg : DG C tg g T d) (hs : swapsWithSole [tg] e pos.line X.env = pure false := by rfl) (hw : swappedStores [tg] e X.env = pure none := by rfl)
    (h1 : (assignEach [tg] X.env).map (·.2) = [assign tg X.env] := by rfl) : DS C (.Assign [tg] e pos) (tAsg te g) (sAsg de d) := by
  refine ⟨ps_asg h.pe hg.pg hs hw h1, fun w σ ρ D DD hA I q k => ?_⟩
  refine h.run w σ ρ _ _ hA I q fun v r w1 ρ1 s1 I1 R1 q1 => ?_
  obtain ⟨x, ρ2, w2, I2, s2, hh, hrep, q2⟩ := frz_ok I1 R1 q1
  rw [← hh]
  exact hg.run w2 σ ρ2 v x _ _ (C.cl _ _ hA (s1.trans s2)) I2 hrep q2 fun w3 σ3 ρ3 s3 I3 _ q3 => k.nx w3 σ3 ρ3 ((s1.trans s2).trans s3) I3 q3
/-- a, b = x, y -/
def sPar (i j : Nat) (t : TND) : TSD := fun D ρ => t ρ fun ds ρ1 => match ds with | [x, y] => D.nx ((ρ1.set i (.val x)).set j (.val y)) | _ => False
variable {ta' : TA} {dr : TND}
theorem ds_par {i j : Nat} {x y : Str} {px py pt : Pos} {kt k2 pt2} (ha : DA C [a, b] ta' dr) (hi : X.N[i]? = some x := by rfl) (hj : X.N[j]? = some y := by rfl) (hij : i ≠ j := by decide)
    (hx : X.env.scope.names.lookup x = some .local := by rfl) (hy : X.env.scope.names.lookup y = some .local := by rfl)
    (hw : swappedStores [.Tuple [.Name x px, .Name y py] kt pt] (.Tuple [a, b] k2 pt2) X.env = pure (some [x, y]) := by rfl)
    (hs : swapsWithSole [.Tuple [.Name x px, .Name y py] kt pt] (.Tuple [a, b] k2 pt2) pos.line X.env = pure false := by rfl) :
    DS C (.Assign [.Tuple [.Name x px, .Name y py] kt pt] (.Tuple [a, b] k2 pt2) pos) (tPar i j ta') (sPar i j dr) := by
  refine ⟨ps_par C.calm C.nd hi hj hij hx hy ha.pa hw hs, fun w σ ρ D DD hA I q k => ?_⟩
  refine ha.run w σ ρ _ _ hA I q fun vs ds w1 ρ1 s1 I1 R1 q1 => ?_
  cases R1 with
  | nil => exact q1.elim
  | cons r1 R1 =>
    cases R1 with
    | nil => exact q1.elim
    | cons r2 R1 =>
      cases R1 with
      | cons _ _ => exact q1.elim
      | nil =>
        have z1 := I1.set (i := i) r1
        have z2 := z1.1.set (i := j) r2
        exact ⟨_, _, rfl, k.nx ⟨w1.G, w1.H, fun j' => if j' = j then [] else if j' = i then [] else w1.F j'⟩ _ _ ((s1.trans z1.2).trans z2.2) z2.1 q1⟩

/-! ### if, while -/
variable {ua : TT} {xa : TTD} {tb : TS} {d1 d2 : TSD}
def sIf (x : TTD) (t u : TSD) : TSD := fun D ρ => x ρ fun b ρ1 => match b with | true => t D ρ1 | false => u D ρ1
theorem ds_if {els : List Stmt} {te' : TS} (hc : DT C c ua xa) (h1 : DSs C body tb d1) (h2 : DSs C els te' d2) : DS C (.If c body els pos) (tIfS ua tb te') (sIf xa d1 d2) := by
  refine ⟨ps_if hc.pt h1.pss h2.pss, fun w σ ρ D DD hA I q k => ?_⟩
  refine hc.run w σ ρ _ _ hA I q fun z w1 ρ1 s1 I1 q1 => ?_
  cases z with
  | true =>
    show tb D σ w1.H
    exact h1.run w1 σ ρ1 D DD (C.cl _ _ hA s1) I1 q1 (k.step s1)
  | false =>
    show te' D σ w1.H
    exact h2.run w1 σ ρ1 D DD (C.cl _ _ hA s1) I1 q1 (k.step s1)
def sWhile (x : TTD) (t : TSD) : TSD := fun D ρ => ∃ W : Nat → DSt → Prop, (∃ m, W m ρ) ∧ ∀ m ρ, W m ρ →
  x ρ fun b ρ1 => match b with
    | true => t { D with nx := fun ρ2 => ∃ m', m' < m ∧ W m' ρ2, ct := fun ρ2 => ∃ m', m' < m ∧ W m' ρ2, bk := D.nx } ρ1
    | false => D.nx ρ1
theorem DC.passes (C : DC X) (hp : PassesOwn (model X.prog X.w) X.A X.env X.xe) : PassesOwn (model X.prog X.w) X.A X.env X.xe := hp
theorem ds_while (hp : PassesOwn (model X.prog X.w) X.A X.env X.xe) (hc : DT C c ua xa) (h1 : DSs C body tb d1) : DS C (.While c body [] pos) (tWhile ua tb) (sWhile xa d1) := by
  refine ⟨ps_while hp hc.pt h1.pss, fun w σ ρ D DD hA I q k => ?_⟩
  obtain ⟨W, ⟨m0, h0⟩, turn⟩ := q
  refine ⟨fun m σ' H' => ∃ w' ρ', w'.H = H' ∧ Stp w w' ∧ FI X.K C.P w' σ' ρ' ∧ W m ρ', ⟨m0, w, ρ, rfl, Stp.refl w, I, h0⟩, ?_⟩
  rintro m σ1 H1 ⟨w1, ρ1, rfl, s1, I1, q1⟩
  refine hc.run w1 σ1 ρ1 _ _ (C.cl _ _ hA s1) I1 (turn m ρ1 q1) fun z w2 ρ2 s2 I2 q2 => ?_
  cases z with
  | false =>
    rw [if_neg Bool.false_ne_true]
    exact k.nx w2 σ1 ρ2 (s1.trans s2) I2 q2
  | true =>
    rw [if_pos rfl]
    refine ⟨fun σ' H' => ∃ m', m' < m ∧ ∃ w' ρ', w'.H = H' ∧ Stp w w' ∧ FI X.K C.P w' σ' ρ' ∧ W m' ρ', fun σ' H' h => h, ?_⟩
    refine h1.run w2 σ1 ρ2 _ _ (C.cl _ _ hA (s1.trans s2)) I2 q2 ⟨fun w' σ' ρ' s' I' h => ?_, fun v r w' σ' ρ' s' I' R' h => k.rt v r w' σ' ρ' ((s1.trans s2).trans s') I' R' h, fun w' σ' ρ' s' I' h => k.nx w' σ' ρ' ((s1.trans s2).trans s') I' h, fun w' σ' ρ' s' I' h => ?_⟩
    · obtain ⟨m', hm, hW⟩ := h
      exact ⟨m', hm, w', ρ', rfl, (s1.trans s2).trans s', I', hW⟩
    · obtain ⟨m', hm, hW⟩ := h
      exact ⟨m', hm, w', ρ', rfl, (s1.trans s2).trans s', I', hW⟩

/-! ### what is walked -/
/-- it walks these data; an item may be a new pair -/
structure WalkD (K : PySem.W.Frag) (G : Hp) (J : It) (items : List PyData) : Prop where
  go : ∀ i H, i < items.length → Same G H → J.go i H
  stop : ∀ H, Same G H → J.stop items.length H
  yld : ∀ i H x H', i < items.length → Same G H → J.yld i H x H' → ∃ d, items[i]? = some d ∧ ((H' = H ∧ Rep K G x d) ∨ ∃ T u1 u2 d1 d2, x = .ref T ∧ H T = none ∧ H' = upd H T (.tup [u1, u2]) ∧ d = .tuple [d1, d2] ∧ Rep K G u1 d1 ∧ Rep K G u2 d2)
structure DI (C : DC X) (tg iter : Expr) (wi : TI) (t : TND) : Prop where
  pi : PI X tg iter wi
  run : ∀ (w : Wd) (σ : St) (ρ : DSt) (Q : It → Hp → Prop) (QD : List PyData → DSt → Prop), C.A w → FI X.K C.P w σ ρ → t ρ QD →
    (∀ J items w' ρ', Stp w w' → FI X.K C.P w' σ ρ' → WalkD X.K w'.G J items → QD items ρ' → Q J w'.H) → wi σ w.H Q
def asInt1 (ds : List PyData) (k : Int → Prop) : Prop := match ds with | [.int j] => k j | _ => False
theorem asInt1_inv {ds : List PyData} {k : Int → Prop} (h : asInt1 ds k) : ∃ j, ds = [.int j] ∧ k j := by
  unfold asInt1 at h
  split at h
  · exact ⟨_, rfl, h⟩
  · exact h.elim
def asInt2 (ds : List PyData) (k : Int → Int → Prop) : Prop := match ds with | [.int i, .int j] => k i j | _ => False
theorem asInt2_inv {ds : List PyData} {k : Int → Int → Prop} (h : asInt2 ds k) : ∃ i j, ds = [.int i, .int j] ∧ k i j := by
  unfold asInt2 at h
  split at h
  · exact ⟨_, _, rfl, h⟩
  · exact h.elim
/-- a range -/
def range1D (dr : TND) : TND := fun ρ Q => dr ρ fun ds ρ1 => asInt1 ds fun j => -(2 ^ 62) ≤ j ∧ j < 2 ^ 62 ∧ Q ((List.range j.toNat).map fun (k : Nat) => .int (k : Int)) ρ1
theorem int_args {K : PySem.W.Frag} {G : Hp} {ns : List Int} {vs : List V} (h : Reps K G vs (ns.map PyData.int)) : vs = ns.map V.int := by
  induction ns generalizing vs with
  | nil => cases h; rfl
  | cons n ns ih =>
    cases h with
    | cons h1 h2 => cases h1; rw [ih h2]; rfl
theorem di_range1 {p : Pos} (hg : Gl X "range") (hm : X.mg "range" = none) (ha : DA C [a] ta' dr) (hs : starEach [a] X.env = [(false, eval a X.env)] := by rfl) : DI C tg (.Call (.Name "range" p) [a] [] pos) (iRng1 ta') (range1D dr) := by
  refine ⟨pi_range1 hg hm ha.pa hs, fun w σ ρ Q QD hA I q k => ?_⟩
  refine ha.run w σ ρ _ _ hA I q fun vs ds w1 ρ1 s1 I1 R1 q1 => ?_
  obtain ⟨j, rfl, h1, h2, q2⟩ := asInt1_inv q1
  have e := int_args (ns := [j]) R1
  subst e
  refine ⟨j, rfl, h1, h2, k _ _ w1 ρ1 s1 I1 ⟨fun i H hi _ => ?_, fun H _ => ?_, fun i H x H' hi _ y => ?_⟩ q2⟩
  · rw [List.length_map, List.length_range] at hi; exact hi
  · rw [List.length_map, List.length_range]; exact Nat.le_refl _
  · rw [List.length_map, List.length_range] at hi
    obtain ⟨rfl, rfl⟩ := y
    refine ⟨.int (i : Int), by rw [List.getElem?_map, List.getElem?_range hi]; rfl, .inl ⟨rfl, ?_⟩⟩
    have e0 : (0 : Int) + (i : Int) = (i : Int) := Int.zero_add _
    rw [e0]
    exact .int _
def range2D (dr : TND) : TND := fun ρ Q => dr ρ fun ds ρ1 => asInt2 ds fun i j => (-(2 ^ 62) ≤ i ∧ i < 2 ^ 62 ∧ -(2 ^ 62) ≤ j ∧ j < 2 ^ 62) ∧ Q ((List.range (j - i).toNat).map fun (k : Nat) => .int (i + (k : Int))) ρ1
theorem di_range2 {p : Pos} (hg : Gl X "range") (hm : X.mg "range" = none) (ha : DA C [a, b] ta' dr) (hs : starEach [a, b] X.env = [(false, eval a X.env), (false, eval b X.env)] := by rfl) (hs2 : starEach [b] X.env = [(false, eval b X.env)] := by rfl) :
    DI C tg (.Call (.Name "range" p) [a, b] [] pos) (iRng2 ta') (range2D dr) := by
  refine ⟨pi_range2 hg hm ha.pa hs hs2, fun w σ ρ Q QD hA I q k => ?_⟩
  refine ha.run w σ ρ _ _ hA I q fun vs ds w1 ρ1 s1 I1 R1 q1 => ?_
  obtain ⟨lo, j, rfl, h1, q2⟩ := asInt2_inv q1
  have e := int_args (ns := [lo, j]) R1
  subst e
  refine ⟨lo, j, rfl, h1, k _ _ w1 ρ1 s1 I1 ⟨fun i H hi _ => ?_, fun H _ => ?_, fun i H x H' hi _ y => ?_⟩ q2⟩
  · rw [List.length_map, List.length_range] at hi; exact hi
  · rw [List.length_map, List.length_range]; exact Nat.le_refl _
  · rw [List.length_map, List.length_range] at hi
    obtain ⟨rfl, rfl⟩ := y
    exact ⟨.int (lo + (i : Int)), by rw [List.getElem?_map, List.getElem?_range hi]; rfl, .inl ⟨rfl, .int _⟩⟩
/-- a list, a tuple -/
def itemsD (de : TED) : TND := fun ρ Q => de ρ fun r ρ1 => frz ρ1 r fun d ρ2 => match d with | .list ds => Q ds ρ2 | _ => False
def itemsT (de : TED) : TND := fun ρ Q => de ρ fun r ρ1 => frz ρ1 r fun d ρ2 => match d with | .tuple ds => Q ds ρ2 | _ => False
theorem walkd_list {K : PySem.W.Frag} {G : Hp} {l : Addr} {vs : List V} {ds : List PyData} (h : G l = some (.lst vs)) (hr : Reps K G vs ds) : WalkD K G (Itl K l) ds := by
  refine ⟨fun i H hi s => ?_, fun H s => ⟨vs, SqL.of (s _ _ h), by rw [hr.len]; exact Nat.le_refl _⟩, fun i H x H' hi s y => ?_⟩
  · have hi' : i < vs.length := by rw [hr.len]; exact hi
    exact ⟨vs, vs[i], SqL.of (s _ _ h), by simp [hi']⟩
  · have e := y.2 vs (SqL.of (s _ _ h))
    obtain ⟨d, h1, h2⟩ := hr.get' e
    exact ⟨d, h1, .inl ⟨y.1, h2⟩⟩
theorem walkd_tup {K : PySem.W.Frag} {G : Hp} {l : Addr} {vs : List V} {ds : List PyData} (h : SqT K G l vs) (hr : Reps K G vs ds) : WalkD K G (Itt K l) ds := by
  refine ⟨fun i H hi s => ?_, fun H s => ⟨vs, sqt_mono s h, by rw [hr.len]; exact Nat.le_refl _⟩, fun i H x H' hi s y => ?_⟩
  · have hi' : i < vs.length := by rw [hr.len]; exact hi
    exact ⟨vs, vs[i], sqt_mono s h, by simp [hi']⟩
  · have e := y.2 vs (sqt_mono s h)
    obtain ⟨d, h1, h2⟩ := hr.get' e
    exact ⟨d, h1, .inl ⟨y.1, h2⟩⟩
theorem di_list (h : DE C e te de) : DI C tg e (iList X.K te) (itemsD de) := by
  refine ⟨pi_list h.pe, fun w σ ρ Q QD hA I q k => ?_⟩
  refine h.run w σ ρ _ _ hA I q fun v r w1 ρ1 s1 I1 R1 q1 => ?_
  obtain ⟨d, ρ2, w2, I2, s2, hh, hrep, q2⟩ := frz_ok I1 R1 q1
  rw [← hh]
  cases d with
  | list ds =>
    cases hrep with
    | lst hs hr => exact ⟨_, rfl, ⟨_, SqL.of (I2.gh _ _ hs)⟩, k _ _ w2 ρ2 (s1.trans s2) I2 (walkd_list hs hr) q2⟩
  | _ => exact q2.elim
theorem di_tup (h : DE C e te de) : DI C tg e (iTup X.K te) (itemsT de) := by
  refine ⟨pi_tup h.pe, fun w σ ρ Q QD hA I q k => ?_⟩
  refine h.run w σ ρ _ _ hA I q fun v r w1 ρ1 s1 I1 R1 q1 => ?_
  obtain ⟨d, ρ2, w2, I2, s2, hh, hrep, q2⟩ := frz_ok I1 R1 q1
  rw [← hh]
  cases d with
  | tuple ds =>
    cases hrep with
    | tup hs hr => exact ⟨_, rfl, ⟨_, sqt_mono I2.gh hs⟩, k _ _ w2 ρ2 (s1.trans s2) I2 (walkd_tup hs hr) q2⟩
  | _ => exact q2.elim
/-- an item comes -/
theorem item_come {K : PySem.W.Frag} {P : Par} {G0 : Hp} {J : It} {items : List PyData} {w : Wd} {σ : St} {ρ : DSt} {i : Nat} {x : V} {H' : Hp} (W : WalkD K G0 J items) (I : FI K P w σ ρ) (g : Same G0 w.G) (hi : i < items.length) (y : J.yld i w.H x H') :
    ∃ d w', items[i]? = some d ∧ w'.H = H' ∧ Stp w w' ∧ FI K P w' σ ρ ∧ Rep K w'.G x d := by
  have gH : Same G0 w.H := fun b o h => I.gh b o (g b o h)
  obtain ⟨d, hd, h⟩ := W.yld i w.H x H' hi gH y
  rcases h with ⟨rfl, hr⟩ | ⟨T, u1, u2, d1, d2, rfl, hT, rfl, rfl, r1, r2⟩
  · exact ⟨d, w, hd, rfl, Stp.refl w, I, rep_mono g _ _ hr⟩
  · refine ⟨_, ⟨upd w.G T (.tup [u1, u2]), upd w.H T (.tup [u1, u2]), w.F⟩, hd, rfl, ?_, ?_, ?_⟩
    · have hg : w.G T = none := I.gh.free hT
      refine ⟨same_new hg, fun b h1 h2 _ => ?_, fun b u h _ => same_new hT b u h, there_new, fun i b hb => .inl hb⟩
      show upd w.G T _ b = none
      rw [upd_ne (fun z => h1 (by rw [z]; exact hT))]; exact h2
    · exact (FI.new I hT).1
    · have hg : w.G T = none := I.gh.free hT
      have sg : Same G0 (upd w.G T (.tup [u1, u2])) := fun b o h => same_new hg b o (g b o h)
      exact .tup (SqT.of upd_same) (.cons (rep_mono sg _ _ r1) (.cons (rep_mono sg _ _ r2) .nil))

/-! ### for -/
def forD (g : TGD) (t : TSD) (D : DEnds) : List PyData → DSt → Prop
  | [], ρ => D.nx ρ
  | x :: xs, ρ => g x ρ fun ρ1 => t { D with nx := forD g t D xs, ct := forD g t D xs, bk := D.nx } ρ1
def sFor (ti : TND) (g : TGD) (t : TSD) : TSD := fun D ρ => ti ρ fun items ρ1 => forD g t D items ρ1
theorem ds_for {wi : TI} {ti : TND} {g : TG} {T : List Nat} {d : TGD} (hp : PassesOwn (model X.prog X.w) X.A X.env X.xe) (hi : DI C tg iter wi ti) (hg : DG C tg g T d) (h1 : DSs C body tb d1) (hs : ∀ x, foldedSetIterable iter X.env x = pure x := by intro _; rfl) :
    DS C (.For tg iter body [] pos) (tFor wi g tb) (sFor ti d d1) := by
  refine ⟨ps_for hp C.calm hi.pi hg.pg h1.pss hs, fun w σ ρ D DD hA I q k => ?_⟩
  refine hi.run w σ ρ _ _ hA I q fun J items w1 ρ1 s1 I1 WK q1 => ?_
  refine ⟨fun i m σ' H' => m = items.length - i ∧ i ≤ items.length ∧ ∃ w' ρ', w'.H = H' ∧ Stp w1 w' ∧ FI X.K C.P w' σ' ρ' ∧ forD d d1 DD (items.drop i) ρ', ⟨items.length, by simp, Nat.zero_le _, w1, ρ1, rfl, Stp.refl w1, I1, by rw [List.drop_zero]; exact q1⟩, ?_⟩
  rintro i m σ2 H2 ⟨rfl, hi2, w2, ρ2, rfl, s2, I2, q2⟩
  have hA2 := C.cl _ _ (C.cl _ _ hA s1) s2
  have gH : Same w1.G w2.H := fun b o h => I2.gh b o (s2.g b o h)
  by_cases hlt : i < items.length
  · refine .inr ⟨WK.go i _ hlt gH, fun σ' H' => ∃ w' ρ', w'.H = H' ∧ Stp w1 w' ∧ FI X.K C.P w' σ' ρ' ∧ forD d d1 DD (items.drop (i + 1)) ρ', fun σ' H' h => ⟨items.length - (i + 1), by omega, rfl, hlt, h⟩, fun x H' y => ?_⟩
    obtain ⟨z, w3, hz, rfl, s3, I3, r3⟩ := item_come WK I2 s2.g hlt y
    have ed : items.drop i = z :: items.drop (i + 1) := by
      have e1 := List.getElem?_eq_some_iff.mp hz
      rw [List.drop_eq_getElem_cons hlt, e1.2]
    rw [ed] at q2
    refine hg.run w3 σ2 ρ2 x z _ _ (C.cl _ _ hA2 s3) I3 r3 q2 fun w4 σ4 ρ4 s4 I4 _ q4 => ?_
    have s34 := s3.trans s4
    refine h1.run w4 σ4 ρ4 _ _ (C.cl _ _ hA2 s34) I4 q4 ⟨fun w' σ' ρ' s' I' h => ⟨w', ρ', rfl, (s2.trans s34).trans s', I', h⟩, fun v r w' σ' ρ' s' I' R' h => k.rt v r w' σ' ρ' (s1.trans ((s2.trans s34).trans s')) I' R' h,
      fun w' σ' ρ' s' I' h => k.nx w' σ' ρ' (s1.trans ((s2.trans s34).trans s')) I' h, fun w' σ' ρ' s' I' h => ⟨w', ρ', rfl, (s2.trans s34).trans s', I', h⟩⟩
  · have e : i = items.length := by omega
    subst e
    rw [List.drop_length] at q2
    exact .inl ⟨WK.stop _ gH, k.nx w2 σ2 ρ2 (s1.trans s2) I2 q2⟩
end
end DL

end
section
set_option maxHeartbeats 4000000
/-! DLD: defs over data: what one promises, its call, its body. -/
namespace DL
open PySem PySem.Spec L2
open PyProof.Rows (envOfC)

/-- a def's promise over data: the arguments, what is wanted of the end, of an exception. The first argument may be lent -/
abbrev DSp := List SD → (Ret → List SD → Prop) → (Exd → List SD → Prop) → Prop
/-- no argument but the first is lent -/
def lentOne : List SD → Bool
  | .own io _ :: r => io && r.all fun s => match s with | .val _ => true | _ => false
  | .res io _ :: r => io && r.all fun s => match s with | .val _ => true | _ => false
  | l => l.all fun s => match s with | .val _ => true | _ => false
def parOf (vs : List V) (w : Wd) : Par := ⟨vs.map some, fun a => w.H a = none⟩
def spOf (K : PySem.W.Frag) (p : DSp) : Sp := fun vs H Q E => ∃ (w : Wd) (α : List SD) (QD : Ret → List SD → Prop) (ED : Exd → List SD → Prop), w.H = H ∧ FI K (parOf vs w) w (vs.map some) α ∧ lentOne α = true ∧ p α QD ED ∧
  (∀ v r w' α', Stp w w' → FI K (parOf vs w) w' (vs.map some) α' → RepRet K (parOf vs w).N w' v r → QD r α' → Q v w'.H) ∧
  (∀ e α' w' cls d, Stp w w' → FI K (parOf vs w) w' (vs.map some) α' → RepE K w' cls d e → ED e α' → E cls d w'.H)
/-- a def keeps its promise, where nothing is being shown (what repr of a container asks) -/
structure FnD (P : Program) (w : World) (K : PySem.W.Frag) (mg : Str → Option Value) (base : Heap) (k : Nat) (f : Addr) (fd : FuncData) (ps : List Str) (p : DSp) : Prop where
  len : ∀ α QD ED, p α QD ED → α.length = ps.length
  run : ∀ (A : Around) (outer : List Env) (s : Shared) (H : Hp) (args : Args) (us : List Value) (vs : List V) (Q : VK) (E : XK), A.guards = some [] → Room k A → Env0 P w K mg base A outer s H → BindsTo s fd args (ps.zip us) → Vals vs us → spOf K p vs H Q E →
    codeAny (model P w) A (.call (.ref f) args) (CR (L2.CX P w) outer P w H s Q E) s
theorem spOf.len {K : PySem.W.Frag} {p : DSp} {ps : List Str} (hl : ∀ α QD ED, p α QD ED → α.length = ps.length) {vs : List V} {H : Hp} {Q : VK} {E : XK} (h : spOf K p vs H Q E) : vs.length = ps.length := by
  obtain ⟨w, α, QD, ED, _, I, _, hp, _⟩ := h
  have e := I.len
  rw [List.length_map] at e
  rw [e, hl α QD ED hp]
theorem FnD.mono {P : Program} {w : World} {K : PySem.W.Frag} {mg : Str → Option Value} {base : Heap} {j k : Nat} {f : Addr} {fd : FuncData} {ps : List Str} {p : DSp} (F : FnD P w K mg base j f fd ps p) (h : j ≤ k) : FnD P w K mg base k f fd ps p :=
  ⟨F.len, fun A outer s H args us vs Q E hg hr => F.run A outer s H args us vs Q E hg (hr.mono h)⟩

/-! ### the call -/
section
variable {X : Cx} {k : Nat} {f : Addr} {fd : FuncData} {ps : List Str} {p : DSp} {x : Str} {px pos : Pos} {e : Expr} {es : List Expr} {ta : TA}
theorem run_fnD {E : L2.St → XK} {pins : List (Addr × Obj)} {σ : L2.St} {H : Hp} {s : Shared} {Q : VK} {us : List Value} {vs : List V} (F : FnD X.prog X.w X.K X.mg X.base k f fd ps p) (hgd : X.A.guards = some []) (hr : Room k X.A) (hb : Binds X.K fd ps []) (hx : PassesAt (L2.CX X.prog X.w) X σ (E σ))
    (I : Inv X pins σ H s) (r : Vals vs us) (h : spOf X.K p vs H Q (E σ)) : wpAny (model X.prog X.w) X.A (call (.ref f) us) (EP X pins σ Q) X.xe s := by
  have n1 : us.length = ps.length := r.length.symm.trans (spOf.len F.len h)
  have bb : BindsTo s fd ⟨us, []⟩ (ps.zip us) := by
    have z := hb s us I.kIn (by simpa using n1)
    simpa using z
  refine wpAny_call (codeAny_mono (F.run X.A X.stack s H ⟨us, []⟩ us vs Q (E σ) hgd hr I.env0 bb r h) ?_)
  intro res s' got
  match res, got with
  | .error ex, got => exact hx pins H s ex s' I got
  | .ok (.ret u), got => exact I.after got
  | .ok .next, got => exact got.elim
  | .ok .brk, got => exact got.elim
  | .ok .cont, got => exact got.elim
theorem pe_callD {E : L2.St → XK} (F : FnD X.prog X.w X.K X.mg X.base k f fd ps p) (hgd : X.A.guards = some []) (hr : Room k X.A) (hg : Gl X x) (hm : X.mg x = some (.ref f)) (hk : PySem.W.keepIn X.K (.ref f) = true) (hb : Binds X.K fd ps [])
    (hx : ∀ σ, PassesAt (L2.CX X.prog X.w) X σ (E σ)) (ha : PA X (e :: es) ta) (hdb : (x == ("__debug__" : Str)) = false := by decide)
    (he : starEach (e :: es) X.env = (false, eval e X.env) :: starEach es X.env := by rfl) (hpl : (backTo pos (starEach es X.env)).any (·.1) = false := by rfl) :
    PE X (.Call (.Name x px) (e :: es) [] pos) (tCallS (spOf X.K p) E ta) :=
  ⟨fun pins s σ H Q I h => wpAny_Call_Name_kw (ld_glob I hg hm (PySem.W.callWith_K (h₀ := X.base) I.ok.mod.kin hk
    (thn (ha.run pos pins s σ H _ I h) fun us s1 ⟨vs, H1, I1, r, q⟩ => ⟨I1.kIn, run_fnD F hgd hr hb (hx σ) I1 r q⟩) he hpl) hdb)⟩

def valsFI {K : PySem.W.Frag} {w : Wd} {vs : List V} {ds : List PyData} (gh : Same w.G w.H) (hr : Reps K w.G vs ds) (P : Par) : FI K P ⟨w.G, w.H, fun _ => []⟩ (vs.map some) (ds.map SD.val) := by
  refine ⟨gh, by rw [List.length_map, List.length_map, hr.len], fun i s e => ?_, fun _ _ => rfl, fun i b hb => (nomatch hb), fun i j b _ hb => (nomatch hb)⟩
  rw [List.getElem?_map] at e
  cases q : ds[i]? with
  | none => rw [q] at e; cases e
  | some d =>
    rw [q] at e
    cases e
    obtain ⟨v, h1, h2⟩ := hr.get q
    exact ⟨rfl, v, by rw [List.getElem?_map, h1]; rfl, h2⟩
theorem lentOne_vals (ds : List PyData) : lentOne (ds.map SD.val) = true := by
  have h : (ds.map SD.val).all (fun s => match s with | .val _ => true | _ => false) = true := by
    rw [List.all_eq_true]
    intro s hs
    obtain ⟨d, _, rfl⟩ := List.mem_map.mp hs
    rfl
  cases ds with
  | nil => rfl
  | cons d ds => exact h

variable {C : DC X} {dr : TND}
/-- what comes back from a call: a datum -/
def retD (Q : R → DSt → Prop) (ρ : DSt) : Ret → Prop
  | .d x => Q (.d x) ρ
  | .n ds => Q (.d (.list ds)) ρ
def retN (Q : List PyData → DSt → Prop) (ρ : DSt) : Ret → Prop
  | .n ds => Q ds ρ
  | .d _ => False
def dCall (p : DSp) (W : WD) (dr : TND) : TED := fun ρ Q => dr ρ fun ds ρ1 => p (ds.map SD.val) (fun r _ => retD Q ρ1 r) (fun e _ => W e ρ1)
def nCall (p : DSp) (W : WD) (dr : TND) : TND := fun ρ Q => dr ρ fun ds ρ1 => p (ds.map SD.val) (fun r _ => retN Q ρ1 r) (fun e _ => W e ρ1)
/-- the caller's world behind a call that was lent nothing -/
theorem call_back {P : Par} {w1 w' : Wd} {σ : L2.St} {ρ : DSt} {Pc : Par} {vs : List V} {α' : List SD} (I1 : FI X.K P w1 σ ρ) (s : Stp ⟨w1.G, w1.H, fun _ => []⟩ w') (I' : FI X.K Pc w' (vs.map some) α') :
    FI X.K P ⟨w'.G, w'.H, w1.F⟩ σ ρ ∧ Stp w1 ⟨w'.G, w'.H, w1.F⟩ := by
  have no : ∀ (b : Addr) (i : Nat), b ∉ (fun _ => ([] : List Addr)) i := fun b i z => nomatch z
  refine ⟨⟨I'.gh, I1.len, fun i st e => (I1.ok i st e).go s.g fun b _ o h => s.h b o h (no b), I1.out, fun i b hb => ?_, I1.sep⟩, ⟨s.g, fun b h1 h2 _ => s.gf b h1 h2 (no b), fun b o h _ => s.h b o h (no b), s.t, fun i b hb => .inl hb⟩⟩
  obtain ⟨h1, h2⟩ := I1.foot i b hb
  exact ⟨s.gf b h2 h1 (no b), s.t b h2⟩
/-- a new list that came back -/
theorem back_new {P : Par} {w0 w1 : Wd} {σ : L2.St} {ρ : DSt} {w' : Wd} {a : Addr} {vs : List V} {ds : List PyData} (s0 : Stp w0 w1) (I2 : FI X.K P ⟨w'.G, w'.H, w1.F⟩ σ ρ) (I1 : FI X.K P w1 σ ρ) (hn : w1.H a = none) : w0.H a = none ∧ ∀ i, a ∉ w1.F i := by
  refine ⟨?_, fun i z => (I1.foot i a z).2 hn⟩
  cases e0 : w0.H a with
  | none => rfl
  | some o => exact absurd hn (s0.t a (by rw [e0]; exact fun z => nomatch z))
theorem call_core (ha : DA C (e :: es) ta dr) (w : Wd) (σ : L2.St) (ρ : DSt) (Q : VK) (fin : Ret → DSt → Prop) (hA : C.A w) (I : FI X.K C.P w σ ρ)
    (q : dr ρ fun ds ρ1 => p (ds.map SD.val) (fun r _ => fin r ρ1) (fun e _ => C.W e ρ1))
    (k : ∀ (v : V) (r : Ret) (w1 w' : Wd) (ρ1 : DSt), Stp w w1 → FI X.K C.P w1 σ ρ1 → FI X.K C.P ⟨w'.G, w'.H, w1.F⟩ σ ρ1 → Stp w1 ⟨w'.G, w'.H, w1.F⟩ → (match r with
      | .d x => Rep X.K w'.G v x
      | .n ds => ∃ (a : Addr) (vs : List V), v = .ref a ∧ w1.H a = none ∧ w'.G a = none ∧ w'.H a = some (.lst vs) ∧ Reps X.K w'.G vs ds) → fin r ρ1 → Q v w'.H) :
    tCallS (spOf X.K p) (WE C.WH) ta σ w.H Q := by
  refine ha.run w σ ρ _ _ hA I q fun vs ds w1 ρ1 s1 I1 R1 q1 => ?_
  refine ⟨⟨w1.G, w1.H, fun _ => []⟩, ds.map SD.val, _, _, rfl, valsFI I1.gh R1 _, lentOne_vals ds, q1, fun v r w' α' s' I' hr' q' => ?_, fun ex α' w' cls d s' I' hr' q' => ?_⟩
  · obtain ⟨I2, s2⟩ := call_back I1 s' I'
    refine k v r w1 w' ρ1 s1 I1 I2 s2 ?_ q'
    cases r with
    | d x => exact hr'
    | n xs =>
      obtain ⟨a, ws, rfl, h1, h2, _, h4, h5⟩ := hr'
      exact ⟨a, ws, rfl, h1, h2, h4, h5⟩
  · obtain ⟨I2, s2⟩ := call_back I1 s' I'
    exact C.hW ex ρ1 σ ⟨w'.G, w'.H, w1.F⟩ cls d (C.cl _ _ hA (s1.trans s2)) I2 hr' q'
theorem de_call (F : FnD X.prog X.w X.K X.mg X.base k f fd ps p) (hr : Room k X.A) (hg : Gl X x) (hm : X.mg x = some (.ref f)) (hk : PySem.W.keepIn X.K (.ref f) = true) (hb : Binds X.K fd ps [])
    (ha : DA C (e :: es) ta dr) (hdb : (x == ("__debug__" : Str)) = false := by decide) (he : starEach (e :: es) X.env = (false, eval e X.env) :: starEach es X.env := by rfl) (hpl : (backTo pos (starEach es X.env)).any (·.1) = false := by rfl) :
    DE C (.Call (.Name x px) (e :: es) [] pos) (tCallS (spOf X.K p) (WE C.WH) ta) (dCall p C.W dr) := by
  refine ⟨pe_callD F C.gd hr hg hm hk hb (fun σ => passAt C.tk σ) ha.pa hdb he hpl, fun w σ ρ Q QD hA I q kk => ?_⟩
  refine call_core ha w σ ρ Q (fun r ρ1 => retD QD ρ1 r) hA I q fun v r w1 w' ρ1 s1 I1 I2 s2 hv q' => ?_
  cases r with
  | d x => exact kk v (.d x) ⟨w'.G, w'.H, w1.F⟩ ρ1 (s1.trans s2) I2 hv q'
  | n xs =>
    obtain ⟨a, ws, rfl, h1, h2, h4, h5⟩ := hv
    obtain ⟨n0, nf⟩ := back_new (vs := ws) (ds := xs) s1 I2 I1 h1
    obtain ⟨I3, s3, r3⟩ := stay (s1.trans s2) I2 n0 h2 nf h4 h5
    exact kk (.ref a) (.d (.list xs)) ⟨upd w'.G a (.lst ws), w'.H, w1.F⟩ ρ1 s3 I3 r3 q'
theorem dn_call (F : FnD X.prog X.w X.K X.mg X.base k f fd ps p) (hr : Room k X.A) (hg : Gl X x) (hm : X.mg x = some (.ref f)) (hk : PySem.W.keepIn X.K (.ref f) = true) (hb : Binds X.K fd ps [])
    (ha : DA C (e :: es) ta dr) (hdb : (x == ("__debug__" : Str)) = false := by decide) (he : starEach (e :: es) X.env = (false, eval e X.env) :: starEach es X.env := by rfl) (hpl : (backTo pos (starEach es X.env)).any (·.1) = false := by rfl) :
    DN C (.Call (.Name x px) (e :: es) [] pos) (tCallS (spOf X.K p) (WE C.WH) ta) (nCall p C.W dr) := by
  refine ⟨pe_callD F C.gd hr hg hm hk hb (fun σ => passAt C.tk σ) ha.pa hdb he hpl, fun w σ ρ Q QD hA I q kk => ?_⟩
  refine call_core ha w σ ρ Q (fun r ρ1 => retN QD ρ1 r) hA I q fun v r w1 w' ρ1 s1 I1 I2 s2 hv q' => ?_
  cases r with
  | d x => exact (show False from q').elim
  | n xs =>
    obtain ⟨a, ws, rfl, h1, h2, h4, h5⟩ := hv
    obtain ⟨n0, nf⟩ := back_new (vs := ws) (ds := xs) s1 I2 I1 h1
    exact kk a ws xs ⟨w'.G, w'.H, w1.F⟩ ρ1 (s1.trans s2) I2 n0 h2 nf h4 h5 q'

/-! ### a call that is lent slot i -/
def lendK (ρ : DSt) (i : Nat) (k : SD → Prop) : Prop := match ρ[i]? with
  | some (.own _ ds) => k (.own true ds)
  | some (.res _ r) => k (.res true r)
  | _ => False
def backK (ρ : DSt) (i : Nat) (α : List SD) (k : DSt → Prop) : Prop := match ρ[i]?, α with
  | some (.own io _), .own true ds :: _ => k (ρ.set i (.own io ds))
  | some (.res io _), .res true r :: _ => k (ρ.set i (.res io r))
  | _, _ => False
def dCallL (p : DSp) (W : WD) (i : Nat) (dr : TND) : TED := fun ρ Q => dr ρ fun ds ρ1 => lendK ρ1 i fun s0 => p (s0 :: ds.map SD.val) (fun r α => backK ρ1 i α fun ρ2 => retD Q ρ2 r) (fun e α => backK ρ1 i α fun ρ2 => W e ρ2)
def nCallL (p : DSp) (W : WD) (i : Nat) (dr : TND) : TND := fun ρ Q => dr ρ fun ds ρ1 => lendK ρ1 i fun s0 => p (s0 :: ds.map SD.val) (fun r α => backK ρ1 i α fun ρ2 => retN Q ρ2 r) (fun e α => backK ρ1 i α fun ρ2 => W e ρ2)
theorem lendK_inv {ρ : DSt} {i : Nat} {k : SD → Prop} (h : lendK ρ i k) : (∃ io ds, ρ[i]? = some (.own io ds) ∧ k (.own true ds)) ∨ ∃ io r, ρ[i]? = some (.res io r) ∧ k (.res true r) := by
  unfold lendK at h
  split at h
  · exact .inl ⟨_, _, by assumption, h⟩
  · exact .inr ⟨_, _, by assumption, h⟩
  · exact h.elim
theorem backK_inv {ρ : DSt} {i : Nat} {α : List SD} {k : DSt → Prop} (h : backK ρ i α k) : (∃ io ds ds' r, ρ[i]? = some (.own io ds) ∧ α = .own true ds' :: r ∧ k (ρ.set i (.own io ds'))) ∨ ∃ io q q' r, ρ[i]? = some (.res io q) ∧ α = .res true q' :: r ∧ k (ρ.set i (.res io q')) := by
  unfold backK at h
  split at h
  · exact .inl ⟨_, _, _, _, by assumption, rfl, h⟩
  · exact .inr ⟨_, _, _, _, by assumption, rfl, h⟩
  · exact h.elim
/-- the lent slot as the callee's first argument -/
theorem lent_in {P : Par} {w1 : Wd} {σ : L2.St} {ρ : DSt} {i : Nat} {s0 s0' : SD} {v0 : V} {vs : List V} {ds : List PyData} (I1 : FI X.K P w1 σ ρ) (R1 : Reps X.K w1.G vs ds) (h0 : σ[i]? = some (some v0)) (hs : ρ[i]? = some s0)
    (hc : (∃ io xs, s0 = .own io xs ∧ s0' = .own true xs) ∨ ∃ io r, s0 = .res io r ∧ s0' = .res true r) :
    FI X.K (parOf (v0 :: vs) ⟨w1.G, w1.H, fun j => if j = 0 then w1.F i else []⟩) ⟨w1.G, w1.H, fun j => if j = 0 then w1.F i else []⟩ ((v0 :: vs).map some) (s0' :: ds.map SD.val) := by
  have f0 : ∀ j b, b ∈ (if j = 0 then w1.F i else ([] : List Addr)) → j = 0 ∧ b ∈ w1.F i := fun j b hb => by
    by_cases e : j = 0
    · rw [if_pos e] at hb; exact ⟨e, hb⟩
    · rw [if_neg e] at hb; cases hb
  refine ⟨I1.gh, by rw [List.length_map, List.length_cons, List.length_cons, List.length_map, R1.len], fun j s e => ?_, fun j hj => ?_, fun j b hb => I1.foot i b (f0 j b hb).2, fun j l b hjl hb hb' => hjl ((f0 j b hb).1.trans (f0 l b hb').1.symm)⟩
  · cases j with
    | zero =>
      cases e
      have ok := I1.ok i s0 hs
      rw [h0] at ok
      rcases hc with ⟨io, xs, rfl, rfl⟩ | ⟨io, r, rfl, rfl⟩
      · obtain ⟨a, ws, h1, h2, h3, h4, _⟩ := ok
        cases h1
        exact ⟨a, ws, rfl, h2, h3, h4, fun _ => rfl, fun z => nomatch z⟩
      · obtain ⟨a, h1, h2, _⟩ := ok
        cases h1
        exact ⟨a, rfl, h2, fun _ => rfl, fun z => nomatch z⟩
    | succ j =>
      have e : (ds.map SD.val)[j]? = some s := by simpa using e
      rw [List.getElem?_map] at e
      cases q : ds[j]? with
      | none => rw [q] at e; cases e
      | some d =>
        rw [q] at e
        cases e
        obtain ⟨v, h1, h2⟩ := R1.get q
        exact ⟨rfl, v, by simp [h1], h2⟩
  · show (if j = 0 then w1.F i else []) = []
    rw [if_neg (by intro z; subst z; simp at hj)]
/-- the caller's world behind a call that was lent slot i -/
theorem lent_back {C : DC X} {w1 w' : Wd} {σ : L2.St} {ρ : DSt} {i : Nat} {s1 s1' s2 : SD} {v0 : V} {vs : List V} {α : List SD} (hA : C.A w1) (I1 : FI X.K C.P w1 σ ρ) (s : Stp ⟨w1.G, w1.H, fun j => if j = 0 then w1.F i else []⟩ w') {Pc : Par} (hP : Pc = parOf (v0 :: vs) ⟨w1.G, w1.H, fun j => if j = 0 then w1.F i else []⟩)
    (I' : FI X.K Pc w' ((v0 :: vs).map some) (s1' :: α)) (h0 : σ[i]? = some (some v0)) (hs : ρ[i]? = some s1)
    (hc : (∃ io xs ys, s1 = .own io xs ∧ s1' = .own true ys ∧ s2 = .own io ys) ∨ ∃ io r r', s1 = .res io r ∧ s1' = .res true r' ∧ s2 = .res io r') :
    FI X.K C.P ⟨w'.G, w'.H, fun j => if j = i then w'.F 0 else w1.F j⟩ σ (ρ.set i s2) ∧ Stp w1 ⟨w'.G, w'.H, fun j => if j = i then w'.F 0 else w1.F j⟩ := by
  have hlt : i < ρ.length := (List.getElem?_eq_some_iff.mp hs).1
  have fc : ∀ b, (∀ j, b ∉ w1.F j) → ∀ j, b ∉ (if j = 0 then w1.F i else ([] : List Addr)) := fun b n j z => by
    by_cases e : j = 0
    · rw [if_pos e] at z; exact n i z
    · rw [if_neg e] at z; cases z
  have fo : ∀ l b, l ≠ i → b ∈ w1.F l → ∀ j, b ∉ (if j = 0 then w1.F i else ([] : List Addr)) := fun l b n hb j z => by
    by_cases e : j = 0
    · rw [if_pos e] at z; exact I1.sep l i b n hb z
    · rw [if_neg e] at z; cases z
  have f0 : ∀ b, b ∈ w'.F 0 → b ∈ w1.F i ∨ w1.H b = none := fun b hb => by
    rcases s.f 0 b hb with q | q
    · have q : b ∈ (if (0 : Nat) = 0 then w1.F i else ([] : List Addr)) := q
      rw [if_pos rfl] at q; exact .inl q
    · exact .inr q
  have sub : ∀ j b, b ∈ (if j = i then w'.F 0 else w1.F j) → (j = i ∧ b ∈ w'.F 0) ∨ (j ≠ i ∧ b ∈ w1.F j) := fun j b hb => by
    by_cases e : j = i
    · rw [if_pos e] at hb; exact .inl ⟨e, hb⟩
    · rw [if_neg e] at hb; exact .inr ⟨e, hb⟩
  refine ⟨⟨I'.gh, by rw [List.length_set]; exact I1.len, fun j st e => ?_, fun j hj => ?_, fun j b hb => ?_, fun j l b hjl hb hb' => ?_⟩, ⟨s.g, fun b h1 h2 h3 => s.gf b h1 h2 (fc b h3), fun b o h1 h2 => s.h b o h1 (fc b h2), s.t, fun j b hb => ?_⟩⟩
  · by_cases hj : i = j
    · subst hj
      rw [List.getElem?_set_self hlt] at e
      cases e
      show slotOk X.K C.P.σ0[i]? C.P.N _ (if i = i then w'.F 0 else w1.F i) σ[i]? _
      rw [if_pos rfl]
      have ok := I1.ok i _ hs
      have ok' := I'.ok 0 s1' rfl
      rcases hc with ⟨io, xs, ys, rfl, rfl, rfl⟩ | ⟨io, r, r', rfl, rfl, rfl⟩
      · obtain ⟨a, ws, h1, h2, h3, h4, h5, h6⟩ := ok
        obtain ⟨a', ws', g1, g2, g3, g4, _⟩ := ok'
        rw [h0] at h1
        cases h1
        cases g1
        exact ⟨a, ws', h0, g2, g3, g4, h5, h6⟩
      · obtain ⟨a, h1, h2, h5, h6⟩ := ok
        obtain ⟨a', g1, g2, _⟩ := ok'
        rw [h0] at h1
        cases h1
        cases g1
        refine ⟨a, h0, g2, h5, fun z b hb => ?_⟩
        rcases f0 b hb with q | q
        · exact h6 z b q
        · exact C.nw w1 b hA q
    · rw [List.getElem?_set_ne hj] at e
      show slotOk X.K C.P.σ0[j]? C.P.N _ (if j = i then w'.F 0 else w1.F j) σ[j]? st
      rw [if_neg (Ne.symm hj)]
      exact (I1.ok j st e).go s.g fun b hb o h => s.h b o h (fo j b (Ne.symm hj) hb)
  · have hj : ρ.length ≤ j := by rw [← List.length_set (as := ρ)]; exact hj
    show (if j = i then w'.F 0 else w1.F j) = []
    rw [if_neg (by omega)]
    exact I1.out j hj
  · rcases sub j b hb with ⟨_, q⟩ | ⟨e, q⟩
    · exact I'.foot 0 b q
    · obtain ⟨h1, h2⟩ := I1.foot j b q
      exact ⟨s.gf b h2 h1 (fo j b e q), s.t b h2⟩
  · rcases sub j b hb with ⟨e1, q⟩ | ⟨e1, q⟩
    · rcases sub l b hb' with ⟨e2, _⟩ | ⟨e2, q'⟩
      · exact hjl (e1.trans e2.symm)
      · rcases f0 b q with z | z
        · exact I1.sep l i b e2 q' z
        · exact (I1.foot l b q').2 z
    · rcases sub l b hb' with ⟨e2, q'⟩ | ⟨e2, q'⟩
      · rcases f0 b q' with z | z
        · exact I1.sep j i b e1 q z
        · exact (I1.foot j b q).2 z
      · exact I1.sep j l b hjl q q'
  · rcases sub j b hb with ⟨e1, q⟩ | ⟨_, q⟩
    · rw [e1]; exact f0 b q
    · exact .inl q
theorem callL_core {i : Nat} (ha : DA C es ta dr) (w : Wd) (σ : L2.St) (ρ : DSt) (Q : VK) (fin : Ret → DSt → Prop) (hA : C.A w) (I : FI X.K C.P w σ ρ) (hv : ∃ v0, σ[i]? = some (some v0))
    (q : dr ρ fun ds ρ1 => lendK ρ1 i fun s0 => p (s0 :: ds.map SD.val) (fun r α => backK ρ1 i α fun ρ2 => fin r ρ2) (fun e α => backK ρ1 i α fun ρ2 => C.W e ρ2))
    (k : ∀ (v : V) (r : Ret) (w1 w2 : Wd) (ρ2 : DSt), Stp w w1 → FI X.K C.P w2 σ ρ2 → Stp w1 w2 → (match r with
      | .d x => Rep X.K w2.G v x
      | .n ds => ∃ (a : Addr) (vs : List V), v = .ref a ∧ w1.H a = none ∧ w2.G a = none ∧ (∀ j, a ∉ w2.F j) ∧ w2.H a = some (.lst vs) ∧ Reps X.K w2.G vs ds) → fin r ρ2 → Q v w2.H) :
    tCallS (spOf X.K p) (WE C.WH) (tCons (tVar i) ta) σ w.H Q := by
  obtain ⟨v0, h0⟩ := hv
  refine ⟨v0, h0, ha.run w σ ρ _ _ hA I q fun vs ds w1 ρ1 s1 I1 R1 q1 => ?_⟩
  have hA1 := C.cl _ _ hA s1
  obtain ⟨s0, s0', hs, hc, q2⟩ : ∃ s0 s0', ρ1[i]? = some s0 ∧ ((∃ io xs, s0 = .own io xs ∧ s0' = .own true xs) ∨ ∃ io r, s0 = .res io r ∧ s0' = .res true r) ∧
      p (s0' :: ds.map SD.val) (fun r α => backK ρ1 i α fun ρ2 => fin r ρ2) (fun e α => backK ρ1 i α fun ρ2 => C.W e ρ2) := by
    rcases lendK_inv q1 with ⟨io, xs, e, q2⟩ | ⟨io, r, e, q2⟩
    · exact ⟨_, _, e, .inl ⟨io, xs, rfl, rfl⟩, q2⟩
    · exact ⟨_, _, e, .inr ⟨io, r, rfl, rfl⟩, q2⟩
  have lo : lentOne (s0' :: ds.map SD.val) = true := by
    have h : (ds.map SD.val).all (fun s => match s with | .val _ => true | _ => false) = true := by
      rw [List.all_eq_true]
      intro s hs
      obtain ⟨d, _, rfl⟩ := List.mem_map.mp hs
      rfl
    rcases hc with ⟨io, xs, rfl, rfl⟩ | ⟨io, r, rfl, rfl⟩ <;> exact h
  -- behind the call: the slot as the callee left it
  have aft : ∀ (w' : Wd) (α' : List SD) (g : DSt → Prop), Stp ⟨w1.G, w1.H, fun j => if j = 0 then w1.F i else []⟩ w' → FI X.K (parOf (v0 :: vs) ⟨w1.G, w1.H, fun j => if j = 0 then w1.F i else []⟩) w' ((v0 :: vs).map some) α' → backK ρ1 i α' g →
      ∃ ρ2, FI X.K C.P ⟨w'.G, w'.H, fun j => if j = i then w'.F 0 else w1.F j⟩ σ ρ2 ∧ Stp w1 ⟨w'.G, w'.H, fun j => if j = i then w'.F 0 else w1.F j⟩ ∧ g ρ2 := by
    intro w' α' g s' I' hb
    rcases backK_inv hb with ⟨io, xs, ys, r, e, rfl, hg⟩ | ⟨io, z, z', r, e, rfl, hg⟩
    · obtain ⟨a1, a2⟩ := lent_back (s2 := .own io ys) hA1 I1 s' rfl I' h0 e (.inl ⟨io, xs, ys, rfl, rfl, rfl⟩)
      exact ⟨_, a1, a2, hg⟩
    · obtain ⟨a1, a2⟩ := lent_back (s2 := .res io z') hA1 I1 s' rfl I' h0 e (.inr ⟨io, z, z', rfl, rfl, rfl⟩)
      exact ⟨_, a1, a2, hg⟩
  refine ⟨⟨w1.G, w1.H, fun j => if j = 0 then w1.F i else []⟩, s0' :: ds.map SD.val, _, _, rfl, lent_in I1 R1 h0 hs hc, lo, q2, fun v r w' α' s' I' hr' q' => ?_, fun ex α' w' cls d s' I' hr' q' => ?_⟩
  · obtain ⟨ρ2, I2, s2, q3⟩ := aft w' α' _ s' I' q'
    refine k v r w1 ⟨w'.G, w'.H, fun j => if j = i then w'.F 0 else w1.F j⟩ ρ2 s1 I2 s2 ?_ q3
    cases r with
    | d x => exact hr'
    | n xs =>
      obtain ⟨a, ws, rfl, h1, h2, h3, h4, h5⟩ := hr'
      refine ⟨a, ws, rfl, h1, h2, fun j hj => ?_, h4, h5⟩
      have hj : a ∈ (if j = i then w'.F 0 else w1.F j) := hj
      by_cases e : j = i
      · rw [if_pos e] at hj; exact h3 0 hj
      · rw [if_neg e] at hj; exact (I1.foot j a hj).2 h1
  · obtain ⟨ρ2, I2, s2, q3⟩ := aft w' α' _ s' I' q'
    exact C.hW ex ρ2 σ ⟨w'.G, w'.H, fun j => if j = i then w'.F 0 else w1.F j⟩ cls d (C.cl _ _ hA1 s2) I2 hr' q3
theorem slot_lent {K : PySem.W.Frag} {P : Par} {w : Wd} {σ : L2.St} {ρ : DSt} {i : Nat} {s : SD} (I : FI K P w σ ρ) (e : ρ[i]? = some s) (h : s ≠ .no) : ∃ v, σ[i]? = some (some v) := by
  have ok := I.ok i s e
  cases s with
  | no => exact absurd rfl h
  | val d => exact ⟨_, ok.2.choose_spec.1⟩
  | own io ds => exact ⟨_, ok.choose_spec.choose_spec.1⟩
  | res io r => exact ⟨_, ok.choose_spec.1⟩
def isLent (ρ : DSt) (i : Nat) : Prop := match ρ[i]? with
  | some (.own _ _) => True
  | some (.res _ _) => True
  | _ => False
theorem isLent_v {K : PySem.W.Frag} {P : Par} {w : Wd} {σ : L2.St} {ρ : DSt} {i : Nat} (I : FI K P w σ ρ) (h : isLent ρ i) : ∃ v, σ[i]? = some (some v) := by
  unfold isLent at h
  cases e : ρ[i]? with
  | none => rw [e] at h; exact h.elim
  | some s =>
    rw [e] at h
    refine slot_lent I e ?_
    rintro rfl
    exact h
def withLent (i : Nat) (t : TED) : TED := fun ρ Q => isLent ρ i ∧ t ρ Q
def withLentN (i : Nat) (t : TND) : TND := fun ρ Q => isLent ρ i ∧ t ρ Q
variable {y : Str} {py : Pos}
theorem de_callL (i : Nat) (F : FnD X.prog X.w X.K X.mg X.base k f fd ps p) (hr : Room k X.A) (hg : Gl X x) (hm : X.mg x = some (.ref f)) (hk : PySem.W.keepIn X.K (.ref f) = true) (hb : Binds X.K fd ps [])
    (ha : DA C es ta dr) (hN : X.N[i]? = some y := by rfl) (hv : Vis X.env.scope y := by first | exact Or.inl rfl | exact Or.inr (Or.inl rfl) | exact Or.inr (Or.inr rfl)) (hd : (y == ("__debug__" : Str)) = false := by decide) (hcd : (y == ("__classdict__" : Str)) = false := by decide)
    (hdb : (x == ("__debug__" : Str)) = false := by decide) (he : starEach (.Name y py :: es) X.env = (false, eval (.Name y py) X.env) :: starEach es X.env := by rfl) (hpl : (backTo pos (starEach es X.env)).any (·.1) = false := by rfl) :
    DE C (.Call (.Name x px) (.Name y py :: es) [] pos) (tCallS (spOf X.K p) (WE C.WH) (tCons (tVar i) ta)) (withLent i (dCallL p C.W i dr)) := by
  refine ⟨pe_callD F C.gd hr hg hm hk hb (fun σ => passAt C.tk σ) (pa_cons (pe_var hN hv hd hcd) ha.pa he) hdb he hpl, fun w σ ρ Q QD hA I q kk => ?_⟩
  refine callL_core ha w σ ρ Q (fun r ρ1 => retD QD ρ1 r) hA I (isLent_v I q.1) q.2 fun v r w1 w2 ρ2 s1 I2 s2 hv' q' => ?_
  cases r with
  | d x => exact kk v (.d x) w2 ρ2 (s1.trans s2) I2 hv' q'
  | n xs =>
    obtain ⟨a, ws, rfl, h1, h2, h3, h4, h5⟩ := hv'
    have n0 : w.H a = none := by
      cases e0 : w.H a with
      | none => rfl
      | some o => exact absurd h1 (s1.t a (by rw [e0]; exact fun z => nomatch z))
    obtain ⟨I3, s3, r3⟩ := stay (s1.trans s2) I2 n0 h2 h3 h4 h5
    exact kk (.ref a) (.d (.list xs)) ⟨upd w2.G a (.lst ws), w2.H, w2.F⟩ ρ2 s3 I3 r3 q'
theorem dn_callL (i : Nat) (F : FnD X.prog X.w X.K X.mg X.base k f fd ps p) (hr : Room k X.A) (hg : Gl X x) (hm : X.mg x = some (.ref f)) (hk : PySem.W.keepIn X.K (.ref f) = true) (hb : Binds X.K fd ps [])
    (ha : DA C es ta dr) (hN : X.N[i]? = some y := by rfl) (hv : Vis X.env.scope y := by first | exact Or.inl rfl | exact Or.inr (Or.inl rfl) | exact Or.inr (Or.inr rfl)) (hd : (y == ("__debug__" : Str)) = false := by decide) (hcd : (y == ("__classdict__" : Str)) = false := by decide)
    (hdb : (x == ("__debug__" : Str)) = false := by decide) (he : starEach (.Name y py :: es) X.env = (false, eval (.Name y py) X.env) :: starEach es X.env := by rfl) (hpl : (backTo pos (starEach es X.env)).any (·.1) = false := by rfl) :
    DN C (.Call (.Name x px) (.Name y py :: es) [] pos) (tCallS (spOf X.K p) (WE C.WH) (tCons (tVar i) ta)) (withLentN i (nCallL p C.W i dr)) := by
  refine ⟨pe_callD F C.gd hr hg hm hk hb (fun σ => passAt C.tk σ) (pa_cons (pe_var hN hv hd hcd) ha.pa he) hdb he hpl, fun w σ ρ Q QD hA I q kk => ?_⟩
  refine callL_core ha w σ ρ Q (fun r ρ1 => retN QD ρ1 r) hA I (isLent_v I q.1) q.2 fun v r w1 w2 ρ2 s1 I2 s2 hv' q' => ?_
  cases r with
  | d x => exact (show False from q').elim
  | n xs =>
    obtain ⟨a, ws, rfl, h1, h2, h3, h4, h5⟩ := hv'
    have n0 : w.H a = none := by
      cases e0 : w.H a with
      | none => rfl
      | some o => exact absurd h1 (s1.t a (by rw [e0]; exact fun z => nomatch z))
    exact kk a ws xs w2 ρ2 (s1.trans s2) I2 n0 h2 h3 h4 h5 q'
end

/-! ### the body -/
/-- what goes out by the arguments -/
def outK (α : List SD) (ρ : DSt) (k : List SD → Prop) : Prop := match α with
  | .own _ _ :: r => (match ρ with | .own true ds :: _ => k (.own true ds :: r) | _ => False)
  | .res _ _ :: r => (match ρ with | .res true q :: _ => k (.res true q :: r) | _ => False)
  | l => k l
/-- the slots at the entry -/
def startD (n : Nat) (α : List SD) : DSt := α ++ List.replicate (n - α.length) .no
theorem fi_start {K : PySem.W.Frag} {w : Wd} {vs : List V} {α : List SD} {P : Par} (N : List Str) (I : FI K P w (vs.map some) α) (hP : P.σ0 = vs.map some) : FI K ⟨start N vs, P.N⟩ w (start N vs) (startD N.length α) := by
  have hl : vs.length = α.length := by have := I.len; rwa [List.length_map] at this
  have e1 : ∀ i, i < α.length → (start N vs)[i]? = (vs.map some)[i]? := fun i hi => by
    unfold L2.start
    rw [List.getElem?_append_left (by rw [List.length_map, hl]; exact hi)]
  refine ⟨I.gh, ?_, fun i s e => ?_, fun i hi => I.out i (Nat.le_trans ?_ hi), I.foot, I.sep⟩
  · unfold L2.start startD
    rw [List.length_append, List.length_append, List.length_map, List.length_replicate, List.length_replicate, hl]
  · by_cases hi : i < α.length
    · have e : α[i]? = some s := by
        unfold startD at e
        rw [List.getElem?_append_left hi] at e; exact e
      have ok := I.ok i s e
      show slotOk K (start N vs)[i]? P.N w (w.F i) (start N vs)[i]? s
      rw [hP] at ok
      rw [e1 i hi]
      exact ok
    · unfold startD at e
      rw [List.getElem?_append_right (by omega), List.getElem?_replicate] at e
      split at e
      · cases e
        exact I.out i (by omega)
      · cases e
  · unfold startD
    rw [List.length_append]
    omega
/-- the arguments' tie at the end -/
theorem fi_end {K : PySem.W.Frag} {w w' : Wd} {vs : List V} {α : List SD} {P : Par} {N : List Str} {σ' : L2.St} {ρ' : DSt} {k : List SD → Prop} (I : FI K P w (vs.map some) α) (hP : P.σ0 = vs.map some) (hlo : lentOne α = true) (s : Stp w w') (I' : FI K ⟨start N vs, P.N⟩ w' σ' ρ') (h : outK α ρ' k) :
    ∃ α' w'', w''.G = w'.G ∧ w''.H = w'.H ∧ (∀ i b, b ∈ w''.F i → b ∈ w'.F i) ∧ FI K P w'' (vs.map some) α' ∧ Stp w w'' ∧ k α' := by
  have hl : vs.length = α.length := by have := I.len; rwa [List.length_map] at this
  -- without a lent argument
  have plain : (∀ st ∈ α, ∃ d, st = .val d) → FI K P ⟨w'.G, w'.H, fun _ => []⟩ (vs.map some) α ∧ Stp w ⟨w'.G, w'.H, fun _ => []⟩ := fun hv => by
    refine ⟨⟨I'.gh, I.len, fun i st e => ?_, fun _ _ => rfl, fun i b hb => (nomatch hb), fun i j b _ hb => (nomatch hb)⟩, ⟨s.g, s.gf, s.h, s.t, fun i b hb => (nomatch hb)⟩⟩
    obtain ⟨d, rfl⟩ := hv st (List.mem_of_getElem? e)
    obtain ⟨_, u, h1, h2⟩ := I.ok i _ e
    exact ⟨rfl, u, h1, rep_mono s.g _ _ h2⟩
  -- with one
  have lent : ∀ (s0 s1 : SD) (r : List SD) (ρr : DSt), α = s0 :: r → ρ' = s1 :: ρr → (∀ st ∈ r, ∃ d, st = .val d) → ((∃ io xs ys, s0 = .own io xs ∧ s1 = .own true ys) ∨ ∃ io q q', s0 = .res io q ∧ s1 = .res true q') →
      FI K P ⟨w'.G, w'.H, fun i => if i = 0 then w'.F 0 else []⟩ (vs.map some) (s1 :: r) ∧ Stp w ⟨w'.G, w'.H, fun i => if i = 0 then w'.F 0 else []⟩ := by
    intro s0 s1 r ρr ea er hv hc
    subst ea er
    have f0 : ∀ j b, b ∈ (if j = 0 then w'.F 0 else ([] : List Addr)) → j = 0 ∧ b ∈ w'.F 0 := fun j b hb => by
      by_cases e : j = 0
      · rw [if_pos e] at hb; exact ⟨e, hb⟩
      · rw [if_neg e] at hb; cases hb
    refine ⟨⟨I'.gh, I.len, fun i st e => ?_, fun i hi => ?_, fun i b hb => I'.foot 0 b (f0 i b hb).2, fun i j b hij hb hb' => hij ((f0 i b hb).1.trans (f0 j b hb').1.symm)⟩, ⟨s.g, s.gf, s.h, s.t, fun i b hb => ?_⟩⟩
    · cases i with
      | zero =>
        cases e
        have ok' := I'.ok 0 s1 rfl
        show slotOk K P.σ0[0]? P.N _ (w'.F 0) (vs.map some)[0]? s1
        cases vs with
        | nil => cases hl
        | cons v0 vr =>
          have e0 : (start N (v0 :: vr))[0]? = some (some v0) := rfl
          have ep : P.σ0[0]? = some (some v0) := by rw [hP]; rfl
          rcases hc with ⟨io, xs, ys, rfl, rfl⟩ | ⟨io, q, q', rfl, rfl⟩
          · obtain ⟨a, ws, h1, h2, h3, h4, h5, _⟩ := ok'
            have h5 := h5 rfl
            rw [e0] at h5
            cases h5
            exact ⟨a, ws, rfl, h2, h3, h4, fun _ => ep, fun z => nomatch z⟩
          · obtain ⟨a, h1, h2, h5, _⟩ := ok'
            have h5 := h5 rfl
            rw [e0] at h5
            cases h5
            exact ⟨a, rfl, h2, fun _ => ep, fun z => nomatch z⟩
      | succ i =>
        have e' : r[i]? = some st := by simpa using e
        obtain ⟨d, rfl⟩ := hv st (List.mem_of_getElem? e')
        obtain ⟨_, u, h1, h2⟩ := I.ok (i + 1) (.val d) (by simpa using e')
        exact ⟨rfl, u, h1, rep_mono s.g _ _ h2⟩
    · show (if i = 0 then w'.F 0 else []) = []
      rw [if_neg (by intro z; subst z; simp at hi)]
    · obtain ⟨rfl, q⟩ := f0 i b hb
      exact s.f 0 b q
  have vals : ∀ r : List SD, (r.all fun s => match s with | .val _ => true | _ => false) = true → ∀ st ∈ r, ∃ d, st = .val d := fun r hr st hm => by
    have z := List.all_eq_true.mp hr st hm
    cases st with
    | val d => exact ⟨d, rfl⟩
    | _ => cases z
  cases α with
  | nil => exact ⟨[], ⟨w'.G, w'.H, fun _ => []⟩, rfl, rfl, (fun i b hb => nomatch (show b ∈ ([] : List Addr) from hb)), (plain fun st hm => (nomatch hm)).1, (plain fun st hm => (nomatch hm)).2, h⟩
  | cons s0 r =>
    cases s0 with
    | no => cases hlo
    | val d =>
      have hv := vals (.val d :: r) hlo
      exact ⟨_, ⟨w'.G, w'.H, fun _ => []⟩, rfl, rfl, (fun i b hb => nomatch (show b ∈ ([] : List Addr) from hb)), (plain hv).1, (plain hv).2, h⟩
    | own io xs =>
      have hv := vals r (Bool.and_eq_true_iff.mp hlo).2
      cases ρ' with
      | nil => exact (show False from h).elim
      | cons s1 ρr =>
        cases s1 with
        | no => exact (show False from h).elim
        | val _ => exact (show False from h).elim
        | res _ _ => exact (show False from h).elim
        | own io' ys =>
          cases io' with
          | false => exact (show False from h).elim
          | true =>
            obtain ⟨h1, h2⟩ := lent _ _ r ρr rfl rfl hv (.inl ⟨io, xs, ys, rfl, rfl⟩)
            refine ⟨_, ⟨w'.G, w'.H, fun i => if i = 0 then w'.F 0 else []⟩, rfl, rfl, fun i b hb => ?_, h1, h2, h⟩
            have hb : b ∈ (if i = 0 then w'.F 0 else ([] : List Addr)) := hb
            by_cases e : i = 0
            · rw [if_pos e] at hb; rw [e]; exact hb
            · rw [if_neg e] at hb; cases hb
    | res io q =>
      have hv := vals r (Bool.and_eq_true_iff.mp hlo).2
      cases ρ' with
      | nil => exact (show False from h).elim
      | cons s1 ρr =>
        cases s1 with
        | no => exact (show False from h).elim
        | val _ => exact (show False from h).elim
        | own _ _ => exact (show False from h).elim
        | res io' q' =>
          cases io' with
          | false => exact (show False from h).elim
          | true =>
            obtain ⟨h1, h2⟩ := lent _ _ r ρr rfl rfl hv (.inr ⟨io, q, q', rfl, rfl⟩)
            refine ⟨_, ⟨w'.G, w'.H, fun i => if i = 0 then w'.F 0 else []⟩, rfl, rfl, fun i b hb => ?_, h1, h2, h⟩
            have hb : b ∈ (if i = 0 then w'.F 0 else ([] : List Addr)) := hb
            by_cases e : i = 0
            · rw [if_pos e] at hb; rw [e]; exact hb
            · rw [if_neg e] at hb; cases hb

/-- THE RULE: a def by its body's derivation and that derivation's reading -/
theorem fnd_of {P : Program} {w : World} {K : PySem.W.Frag} {mg : Str → Option Value} {base : Heap} {k : Nat} {f : Addr} {name qual : Str} {params : Arguments} {body : List Stmt} {scope : Scope} {dV kV doc pm cdv ct oc : Value} {an od : Option Addr}
    {osl : Array (Option Value)} {N ps : List Str} {p : DSp} (lk : K.lookup f = some ⟨oc, od, .func (PySem.W.fnOf name qual params body scope dV kV doc pm an cdv ct), osl⟩) (hcd : PySem.W.codeIn K cdv qual = true) (S : FnScope N ps scope)
    (len : ∀ α QD ED, p α QD ED → α.length = ps.length)
    (hbody : ∀ (A : Around) (outer : List Env) (s : Shared) (H : Hp) (E : XK) (C : DC (cxOf (L2.CX P w) P w K mg base N qual scope f cdv A outer s H E)) (α : List SD) (QD : Ret → List SD → Prop) (ED : Exd → List SD → Prop),
      Room k (A.deeper (envOfC qual scope s.heap.objs.size f cdv)) → C.W = (fun e ρ => outK α ρ fun α' => ED e α') → p α QD ED →
      ∃ ts t, DSs C body ts t ∧ t { nx := fun ρ => outK α ρ fun α' => QD (.d .none) α', rt := fun r ρ => outK α ρ fun α' => QD r α' } (startD N.length α)) :
    FnD P w K mg base (k + 1) f (PySem.W.fnOf name qual params body scope dV kV doc pm an cdv ct) ps p := by
  refine ⟨len, fun A outer s H args us vs Q E hgd hr e0 hb r hsp => ?_⟩
  have hl := spOf.len len hsp
  obtain ⟨wd, α, QD, ED, eH, I0, hlo, hp, hret, hexc⟩ := hsp
  have kin0 : K.In s.heap := PySem.W.Frag.In.keeps e0.mod.kin fun c u q => (e0.bs c u q).1
  have lim0 : s.heap.NoLimit := Heap.NoLimit.keeps e0.mod.nolimit fun c u q => (e0.bs c u q).1
  have kinds : ∀ y ∈ ps.zip us, scope.names.lookup y.1 = some .local ∨ (scope.names.lookup y.1 = some .cell ∧ ((cellsFrom (s.heap.objs.size + 1) scope.names []).lookup y.1).isSome = true) := fun ⟨n, v⟩ hy =>
    (S.par n (List.of_mem_zip hy).1).imp id fun c => ⟨c, PySem.W.cellsFrom_some _ _ _ (.inl c)⟩
  let C : DC (cxOf (L2.CX P w) P w K mg base N qual scope f cdv A outer s H E) :=
    { P := ⟨start N vs, (parOf vs wd).N⟩, A := fun w' => Stp wd w', cl := fun _ _ a b => a.trans b,
      nw := fun w' q a e => by
        show wd.H q = none
        cases z : wd.H q with
        | none => rfl
        | some o => exact absurd e (a.t q (by rw [z]; exact fun z => nomatch z)),
      gd := hgd, calm := rfl, nd := S.nd, un := (by have := (hr.deeper (envOfC qual scope s.heap.objs.size f cdv)).un; show (A.deeper (envOfC qual scope s.heap.objs.size f cdv)).units + 100 < _; omega),
      W := fun e ρ => outK α ρ fun α' => ED e α', WH := fun cls d _ H => E cls d H, tk := takes_of rfl rfl rfl rfl,
      hW := fun e ρ σ w' cls d a I re h => by
        obtain ⟨α', w'', g1, g2, _, I2, s2, h2⟩ := fi_end (P := parOf vs wd) (N := N) I0 rfl hlo a I h
        have z := hexc e α' w'' cls d s2 I2 ⟨re.1, by rw [g1]; exact re.2⟩ h2
        rw [g2] at z
        exact z }
  obtain ⟨ts, t, hd, ht⟩ := hbody A outer s H E C α QD ED (hr.deeper _) rfl hp
  refine codeAny_call_function hr.depth (kin0 _ _ lk) rfl S.co S.gen rfl (PySem.W.codeRec_of kin0 hcd) (hb _ _ _ _ ?_)
  refine wpAny_newFunctionEnv_cells S.kind kinds fun env henv s1 x => ?_
  subst henv
  refine ⟨lim0.keeps x.toInCall.keep, codeAny_func ?_⟩
  have J0 : Inv (cxOf (L2.CX P w) P w K mg base N qual scope f cdv A outer s H E) [] (start N vs) H s1 := inv_start S hr.hd e0 hl r x
  -- the ends
  have ends : EndsOk C wd { nx := fun _ H' => Q .non H', rt := Q } { nx := fun ρ => outK α ρ fun α' => QD (.d .none) α', rt := fun r ρ => outK α ρ fun α' => QD r α' } := by
    have one : ∀ v r w' σ' ρ', Stp wd w' → FI K C.P w' σ' ρ' → RepRet K C.P.N w' v r → outK α ρ' (fun α' => QD r α') → Q v w'.H := by
      intro v r w' σ' ρ' s' I' hr' h
      obtain ⟨α', w'', g1, g2, g3, I2, s2, h2⟩ := fi_end (P := parOf vs wd) (N := N) I0 rfl hlo s' I' h
      have rr : RepRet K (parOf vs wd).N w'' v r := by
        cases r with
        | d y =>
          show Rep K w''.G v y
          rw [g1]; exact hr'
        | n ds =>
          obtain ⟨a, ws, h1, h3, h4, h5, h6, h7⟩ := hr'
          exact ⟨a, ws, h1, h3, by rw [g1]; exact h4, fun i z => h5 i (g3 i a z), by rw [g2]; exact h6, by rw [g1]; exact h7⟩
      have z := hret v r w'' α' s2 I2 rr h2
      rw [g2] at z
      exact z
    exact ⟨fun w' σ' ρ' s' I' h => one .non (.d .none) w' σ' ρ' s' I' .non h, one, fun _ _ _ _ _ h => h.elim, fun _ _ _ _ _ h => h.elim⟩
  have go := hd.run wd (start N vs) (startD N.length α) _ _ (Stp.refl wd) (fi_start N I0 rfl) ht ends
  rw [eH] at go
  refine wpAny_mono (hd.pss.run [] s1 (start N vs) H _ J0 go) ?_ fun _ _ z => z
  intro fl s' got
  have fin : ∀ {σ' : L2.St} {H' : Hp} {v : V} {u : Value}, Inv (cxOf (L2.CX P w) P w K mg base N qual scope f cdv A outer s H E) [] σ' H' s' → RelV v u → Q v H' → CE outer P w H s Q u s' :=
    fun J rv q => ⟨_, _, J.os, J.bare, J.base, J.hok, rv, q⟩
  match fl, got with
  | .ret u, ⟨v, σ', H', J, rv, q⟩ => exact fin J rv q
  | .next, ⟨σ', H', J, q⟩ => exact fin (v := V.non) (u := Value.none) J rfl q
  | .brk, ⟨_, _, _, q⟩ => exact q.elim
  | .cont, ⟨_, _, _, q⟩ => exact q.elim
end DL

end
section
set_option maxHeartbeats 4000000
/-! DLE: more of expressions and statements over data. -/
namespace DL
open PySem PySem.Spec L2
section
variable {X : Cx} {C : DC X} {a b c e : Expr} {ta tb tc te : TE} {da db dc de : TED} {pos : Pos} {es : List Expr} {tr : TA} {dr : TND}

theorem opr_or {f : Value → Value → Sem Value} {r r' : R2} (h : OpR X f r) (h' : OpR X f r') : OpR X f (fun x y H Q => r x y H Q ∨ r' x y H Q) := by
  intro pins s σ H x y v u Q I rx ry q
  rcases q with q | q
  · exact h pins s σ H x y v u Q I rx ry q
  · exact h' pins s σ H x y v u Q I rx ry q

/-! ### + of ints, texts, tuples, lists -/
def rAddU (K : PySem.W.Frag) : R2 := fun x y H Q => rI0 (fun i j => .int (i + j)) x y H Q ∨ (∃ i j, x = .str i ∧ y = .str j ∧ i.length + j.length ≤ sizeLine ∧ Q (.str (i ++ j)) H) ∨ rCatA K x y H Q ∨ rCat x y H Q
def dAdd (x y : PyData) (k : PyData → Prop) : Prop := match x, y with
  | .int i, .int j => k (.int (i + j))
  | .str a, .str b => a.length + b.length ≤ sizeLine ∧ k (.str (a ++ b))
  | .tuple xs, .tuple ys => xs.length + ys.length ≤ sizeLine ∧ k (.tuple (xs ++ ys))
  | .list xs, .list ys => xs.length + ys.length ≤ sizeLine ∧ k (.list (xs ++ ys))
  | _, _ => False
theorem Reps.nil_l {G : Hp} {vs : List V} {ds : List PyData} (r : Reps X.K G vs ds) : vs = [] ↔ ds = [] := by
  cases r with
  | nil => simp
  | cons _ _ => simp
theorem od_addU : OpR X (binaryOp .Add) (rAddU X.K) ∧ OpD X C (rAddU X.K) dAdd := by
  refine ⟨opr_or op_add (opr_or op_add_str (opr_or op_catA op_cat)), fun w σ ρ u v x y Q kd hA I tx ty h k => ?_⟩
  unfold dAdd at h
  split at h
  · cases tx
    cases ty
    exact .inl ⟨_, _, rfl, rfl, k _ (.int _) w (Stp.refl w) I (.int _) h⟩
  · cases tx
    cases ty
    exact .inr (.inl ⟨_, _, rfl, rfl, h.1, k _ (.str _) w (Stp.refl w) I (.str _) h.2⟩)
  · rename_i xs ys
    obtain ⟨hl, h⟩ := h
    cases tx with
    | tup hx rx =>
      rename_i ax vx
      cases ty with
      | tup hy ry =>
        rename_i ay vy
        refine .inr (.inr (.inl ⟨_, _, _, _, rfl, rfl, sqt_mono I.gh hx, sqt_mono I.gh hy, by rw [rx.len, ry.len]; exact hl, fun e => ?_, fun e1 e2 => ?_, fun e1 e2 p hp => ?_⟩))
        · have z := rx.nil_l.mp e
          subst z
          exact k (.ref ay) (.tuple ys) w (Stp.refl w) I (.tup hy ry) h
        · have z := ry.nil_l.mp e2
          subst z
          rw [List.append_nil] at h
          exact k (.ref ax) (.tuple xs) w (Stp.refl w) I (.tup hx rx) h
        · obtain ⟨I2, s2⟩ := I.new (o := .tup (vx ++ vy)) hp
          exact k (.ref p) (.tuple (xs ++ ys)) ⟨upd w.G p _, upd w.H p _, w.F⟩ s2 I2 (.tup (SqT.of upd_same) (reps_mono s2.g _ _ (rx.app ry))) h
  · rename_i xs ys
    obtain ⟨hl, h⟩ := h
    obtain ⟨ax, vx, rfl, hx, rx⟩ := tx
    obtain ⟨ay, vy, rfl, hy, ry⟩ := ty
    refine .inr (.inr (.inr ⟨_, _, _, _, rfl, rfl, hx, hy, by rw [rx.len, ry.len]; exact hl, fun p hp => ?_⟩))
    obtain ⟨I2, s2⟩ := I.new (o := .lst (vx ++ vy)) hp
    exact k (.ref p) (.list (xs ++ ys)) ⟨upd w.G p _, upd w.H p _, w.F⟩ s2 I2 (.lst upd_same (reps_mono s2.g _ _ (rx.app ry))) h
  · exact h.elim
def asLL (x y : PyData) (k : List PyData → List PyData → Prop) : Prop := match x, y with
  | .list xs, .list ys => k xs ys
  | _, _ => False
theorem asLL_inv {x y : PyData} {k : List PyData → List PyData → Prop} (h : asLL x y k) : ∃ xs ys, x = .list xs ∧ y = .list ys ∧ k xs ys := by
  unfold asLL at h
  split at h
  · exact ⟨_, _, rfl, rfl, h⟩
  · exact h.elim
/-- list + list as a new list of one's own -/
def nCat (da db : TED) : TND := fun ρ Q => da ρ fun r1 ρ1 => db ρ1 fun r2 ρ2 => vw ρ2 r1 fun x => vw ρ2 r2 fun y => asLL x y fun xs ys => xs.length + ys.length ≤ sizeLine ∧ Q (xs ++ ys) ρ2
theorem air_new {w w1 : Wd} {p : Addr} (s : Stp w w1) (hp : w1.H p = none) : w.H p = none := by
  cases e0 : w.H p with
  | none => rfl
  | some o => exact absurd hp (s.t p (by rw [e0]; exact fun z => nomatch z))
theorem dn_cat (ha : DE C a ta da) (hb : DE C b tb db) : DN C (.BinOp a .Add b pos) (tOp rCat ta tb) (nCat da db) := by
  refine ⟨pe_op op_cat ha.pe hb.pe, fun w σ ρ Q QD hA I q k => ?_⟩
  refine ha.run w σ ρ _ _ hA I q fun u r1 w1 ρ1 s1 I1 R1 q1 => ?_
  refine hb.run w1 σ ρ1 _ _ (C.cl _ _ hA s1) I1 q1 fun v r2 w2 ρ2 s2 I2 R2 q2 => ?_
  obtain ⟨x, tx, q3⟩ := vw_top I2 (R1.step s2) q2
  obtain ⟨y, ty, q4⟩ := vw_top I2 R2 q3
  obtain ⟨xs, ys, rfl, rfl, hl, h⟩ := asLL_inv q4
  obtain ⟨ax, vx, rfl, hx, rx⟩ := tx
  obtain ⟨ay, vy, rfl, hy, ry⟩ := ty
  refine ⟨_, _, _, _, rfl, rfl, hx, hy, by rw [rx.len, ry.len]; exact hl, fun p hp => ?_⟩
  obtain ⟨I3, s3⟩ := FI.air I2 (o := .lst (vx ++ vy)) hp
  exact k p (vx ++ vy) (xs ++ ys) ⟨w2.G, upd w2.H p _, w2.F⟩ ρ2 ((s1.trans s2).trans s3) I3 (air_new (s1.trans s2) hp) (I2.fresh hp).1 (fun i z => (I2.fresh hp).2 i p z rfl) upd_same (rx.app ry) h

/-! ### built-ins of one value -/
/-- a rule by values for a function of one datum -/
def CallD1 (X : Cx) (C : DC X) (r : List V → Hp → VK → Prop) (f : PyData → (PyData → Prop) → Prop) : Prop :=
  ∀ (w : Wd) (σ : L2.St) (ρ : DSt) (u : V) (x : PyData) (Q : VK) (kd : PyData → Prop), C.A w → FI X.K C.P w σ ρ → Top X.K w u x → f x kd →
    (∀ z d w', Stp w w' → FI X.K C.P w' σ ρ → Rep X.K w'.G z d → kd d → Q z w'.H) → r [u] w.H Q
def dF1 (f : PyData → (PyData → Prop) → Prop) (da : TED) : TED := fun ρ Q => da ρ fun r ρ1 => vw ρ1 r fun x => f x fun z => Q (.d z) ρ1
theorem f1_run {r : List V → Hp → VK → Prop} {f : PyData → (PyData → Prop) → Prop} (h1 : CallD1 X C r f) (ha : DE C a ta da) :
    ∀ (w : Wd) (σ : L2.St) (ρ : DSt) (Q : VK) (QD : R → DSt → Prop), C.A w → FI X.K C.P w σ ρ → dF1 f da ρ QD →
    (∀ v r w' ρ', Stp w w' → FI X.K C.P w' σ ρ' → RepR X.K w' σ v r → QD r ρ' → Q v w'.H) → tCB r (tCons ta tNil) σ w.H Q := by
  intro w σ ρ Q QD hA I q k
  refine ha.run w σ ρ _ _ hA I q fun u r1 w1 ρ1 s1 I1 R1 q1 => ?_
  obtain ⟨x, tx, q2⟩ := vw_top I1 R1 q1
  exact h1 w1 σ ρ1 u x Q _ (C.cl _ _ hA s1) I1 tx q2 fun z d w2 s2 I2 R2 q3 => k z (.d d) w2 ρ1 (s1.trans s2) I2 R2 q3
variable {x : Str} {p : Pos} {id : String} {r : List V → Hp → VK → Prop} {f : PyData → (PyData → Prop) → Prop}
theorem de_B1 (hc : CallR X (.builtin id) r ∧ CallD1 X C r f) (hm : X.mg x = none) (ha : DE C a ta da) (hv : bootBuiltins x = some (.builtin id) := by decide +kernel) (hg : Gl X x := by rfl) (hn : x ≠ "__name__" := by decide) (hdb : (x == ("__debug__" : Str)) = false := by decide)
    (he : starEach [a] X.env = (false, eval a X.env) :: starEach [] X.env := by rfl) (hpl : (backTo pos (starEach [] X.env)).any (·.1) = false := by rfl) : DE C (.Call (.Name x p) [a] [] pos) (tCB r (tCons ta tNil)) (dF1 f da) :=
  ⟨pe_callB hc.1 hg hm hv (pa_cons ha.pe pa_nil he) hn hdb he hpl, f1_run hc.2 ha⟩
theorem de_Ty1 {T : String} (hc : CallR X (.type T) r ∧ CallD1 X C r f) (hm : X.mg x = none) (ha : DE C a ta da) (hv : bootBuiltins x = some (.type T) := by decide +kernel) (hg : Gl X x := by rfl) (hn : x ≠ "__name__" := by decide) (hdb : (x == ("__debug__" : Str)) = false := by decide)
    (he : starEach [a] X.env = (false, eval a X.env) :: starEach [] X.env := by rfl) (hpl : (backTo pos (starEach [] X.env)).any (·.1) = false := by rfl) : DE C (.Call (.Name x p) [a] [] pos) (tCB r (tCons ta tNil)) (dF1 f da) :=
  ⟨pe_callTy hc.1 hg hm hv (pa_cons ha.pe pa_nil he) hn hdb he hpl, f1_run hc.2 ha⟩
/-- len -/
def fLen (x : PyData) (k : PyData → Prop) : Prop := match x with
  | .list xs => k (.int (xs.length : Nat))
  | .tuple xs => k (.int (xs.length : Nat))
  | .str s => s.length ≤ sizeLine ∧ k (.int (s.length : Nat))
  | _ => False
theorem cd_len : CallR X (.builtin "len") (fun xs H Q => ∃ x n, xs = [x] ∧ LenV X.K x H n ∧ Q (.int n) H) ∧ CallD1 X C (fun xs H Q => ∃ x n, xs = [x] ∧ LenV X.K x H n ∧ Q (.int n) H) fLen := by
  refine ⟨call_len, fun w σ ρ u x Q kd hA I tx h k => ?_⟩
  cases x with
  | list xs =>
    obtain ⟨a, vs, rfl, hs, hr⟩ := tx
    refine ⟨_, vs.length, rfl, .inl ⟨vs, SqL.of hs, rfl⟩, ?_⟩
    rw [hr.len]
    exact k _ (.int _) w (Stp.refl w) I (.int _) h
  | tuple xs =>
    cases tx with
    | tup hs hr =>
      rename_i a vs
      refine ⟨_, vs.length, rfl, .inr ⟨vs, sqt_mono I.gh hs, rfl⟩, ?_⟩
      rw [hr.len]
      exact k _ (.int _) w (Stp.refl w) I (.int _) h
  | str s =>
    cases tx
    exact ⟨_, s.length, rfl, ⟨h.1, rfl⟩, k _ (.int _) w (Stp.refl w) I (.int _) h.2⟩
  | _ => exact h.elim
/-- abs -/
def fAbs (x : PyData) (k : PyData → Prop) : Prop := match x with
  | .int i => k (.int (if i < 0 then -i else i))
  | _ => False
theorem cd_abs : CallR X (.builtin "abs") (fun xs H Q => ∃ i, xs = [.int i] ∧ Q (.int (if i < 0 then -i else i)) H) ∧ CallD1 X C (fun xs H Q => ∃ i, xs = [.int i] ∧ Q (.int (if i < 0 then -i else i)) H) fAbs := by
  refine ⟨call_abs, fun w σ ρ u x Q kd hA I tx h k => ?_⟩
  cases x with
  | int i =>
    cases tx
    exact ⟨i, rfl, k _ (.int _) w (Stp.refl w) I (.int _) h⟩
  | _ => exact h.elim
/-- tuple(a list) -/
def fTup (x : PyData) (k : PyData → Prop) : Prop := match x with
  | .list xs => k (.tuple xs)
  | .tuple xs => k (.tuple xs)
  | _ => False
abbrev rTupOf (K : PySem.W.Frag) : List V → Hp → VK → Prop := fun xs H Q => ∃ p ys, xs = [.ref p] ∧ ((SqL K H p ys ∧ ∀ l, H l = none → Q (.ref l) (upd H l (.tup ys))) ∨ (SqT K H p ys ∧ Q (.ref p) H))
theorem cd_tuple : CallR X (.type "tuple") (rTupOf X.K) ∧ CallD1 X C (rTupOf X.K) fTup := by
  refine ⟨call_tuple_of, fun w σ ρ u x Q kd hA I tx h k => ?_⟩
  cases x with
  | list xs =>
    obtain ⟨a, vs, rfl, hs, hr⟩ := tx
    refine ⟨a, vs, rfl, .inl ⟨SqL.of hs, fun p hp => ?_⟩⟩
    obtain ⟨I2, s2⟩ := I.new (o := .tup vs) hp
    exact k (.ref p) (.tuple xs) ⟨upd w.G p _, upd w.H p _, w.F⟩ s2 I2 (.tup (SqT.of upd_same) (reps_mono s2.g _ _ hr)) h
  | tuple xs =>
    cases tx with
    | tup hs hr =>
      rename_i a vs
      exact ⟨a, vs, rfl, .inr ⟨sqt_mono I.gh hs, k (.ref a) (.tuple xs) w (Stp.refl w) I (.tup hs hr) h⟩⟩
  | _ => exact h.elim
/-- all, any of bools -/
def fAll (x : PyData) (k : PyData → Prop) : Prop := ∃ bs : List Bool, x = .list (bs.map .bool) ∧ k (.bool (bs.all fun b => b))
def fAny (x : PyData) (k : PyData → Prop) : Prop := ∃ bs : List Bool, x = .list (bs.map .bool) ∧ k (.bool (bs.any fun b => b))
theorem cd_all : CallR X (.builtin "all") (rAll X.K) ∧ CallD1 X C (rAll X.K) fAll := by
  refine ⟨cr_all C.calm, fun w σ ρ u x Q kd hA I tx h k => ?_⟩
  obtain ⟨bs, rfl, h⟩ := h
  obtain ⟨a, vs, rfl, hs, hr⟩ := tx
  have e := reps_bools_inv hr
  subst e
  exact ⟨a, bs, rfl, SqL.of hs, k _ (.bool _) w (Stp.refl w) I (.bl _) h⟩
theorem cd_any : CallR X (.builtin "any") (rAny X.K) ∧ CallD1 X C (rAny X.K) fAny := by
  refine ⟨cr_any C.calm, fun w σ ρ u x Q kd hA I tx h k => ?_⟩
  obtain ⟨bs, rfl, h⟩ := h
  obtain ⟨a, vs, rfl, hs, hr⟩ := tx
  have e := reps_bools_inv hr
  subst e
  exact ⟨a, bs, rfl, SqL.of hs, k _ (.bool _) w (Stp.refl w) I (.bl _) h⟩
/-- repr: the text of a datum -/
def fRepr (x : PyData) (k : PyData → Prop) : Prop := x.showable = true ∧ x.hasDict = false ∧ x.depth ≤ 60 ∧ x.shown.length ≤ sizeLine ∧ k (.str x.shown)
def rRepr (K : PySem.W.Frag) : List V → Hp → VK → Prop := fun xs H Q => ∃ v d, xs = [v] ∧ Dp K H v d ∧ d.showable = true ∧ d.hasDict = false ∧ d.depth ≤ 60 ∧ d.shown.length ≤ sizeLine ∧ Q (.str d.shown) H
theorem call_repr (gd : X.A.guards = some []) (un : X.A.units + 100 < cLine) : CallR X (.builtin "repr") (rRepr X.K) := by
  intro pins s σ H xs us Q I rx h
  obtain ⟨v, d, rfl, hd, hs, hn, hdep, hsz, q⟩ := h
  obtain ⟨u, rfl, ru⟩ := vals1 rx
  obtain ⟨as, rd⟩ := Dp.reads I d v u hd ru
  have fin : ∀ t, EP X pins σ Q (.str d.shown t) s := fun t => ⟨.str d.shown, H, I, ⟨t, rfl⟩, q⟩
  have fin2 : ∀ h' t tk, (∀ b o, s.heap.get? b = some o → h'.get? b = some o) → EP X pins σ Q (.str d.shown t) { s with heap := h', toks := tk } := fun h' t tk hk => ⟨.str d.shown, H, I.kept (t' := tk) hk, ⟨t, rfl⟩, q⟩
  cases rd with
  | none => exact PySem.P.repr_of_none (by simpa only [PyData.shown] using fin2 s.heap _ _ fun _ _ z => z)
  | bool b => exact PySem.P.repr_of_bool (by simpa only [PyData.shown] using fin2 s.heap _ _ fun _ _ z => z)
  | int i t => exact PySem.P.repr_of_int (by simpa [PyData.showable] using hs) (by simpa only [PyData.shown] using fin2 s.heap _ _ fun _ _ z => z)
  | str z t => exact PySem.P.repr_of_str (by simpa only [PyData.shown] using fin2 s.heap _ _ fun _ _ z => z) (by simpa only [PyData.shown] using hsz)
  | list h1 h2 h3 h4 => exact repr_of_reads' (Reads.list h1 h2 h3 h4) hs (fun z => by rw [hn] at z; cases z) gd (by omega) (fun _ _ z => z) fin2 hsz
  | tuple h1 h2 h3 h4 => exact repr_of_reads' (Reads.tuple h1 h2 h3 h4) hs (fun z => by rw [hn] at z; cases z) gd (by omega) (fun _ _ z => z) fin2 hsz
  | dict _ _ _ _ _ => simp [PyData.hasDict] at hn
theorem cd_repr : CallR X (.builtin "repr") (rRepr X.K) ∧ CallD1 X C (rRepr X.K) fRepr := by
  refine ⟨call_repr C.gd C.un, fun w σ ρ u x Q kd hA I tx h k => ?_⟩
  obtain ⟨h1, h2, h3, h4, h5⟩ := h
  exact ⟨u, x, rfl, (tx.rep I.gh).dp _ _ h2, h1, h2, h3, h4, k _ (.str _) w (Stp.refl w) I (.str _) h5⟩
end
end DL

end
section
set_option maxHeartbeats 4000000
/-! DLF: a law's end over such a def. -/
namespace DL
open PySem PySem.Spec L2
open PyProof.Rows (IntsAre AllBare)

/-- the script: read, never written -/
def scriptR (ns : List Int) : Res where
  P := fun K G _ a fp => fp = [] ∧ SqL K G a (ns.map V.int)
  keep := fun s _ h => ⟨h.1, sql_mono s h.2⟩
/-- what a law promises: True -/
def lawSp : DSp := fun α QD _ => ∃ ns : List Int, ns.length ≤ 63 ∧ α = [.res true (scriptR ns)] ∧ QD (.d (.bool true)) α
theorem lawSp_sp {K : PySem.W.Frag} {H : Hp} {a : Addr} {ns : List Int} (hl : ns.length ≤ 63) (hs : SqL K H a (ns.map V.int)) : spOf K lawSp [.ref a] H (fun v _ => v = .bl true) fun _ _ _ => False := by
  refine ⟨⟨H, H, fun _ => []⟩, [.res true (scriptR ns)], fun r _ => r = .d (.bool true), fun _ _ => False, rfl, ⟨fun _ _ h => h, rfl, fun i s e => ?_, fun _ _ => rfl, fun i b hb => (nomatch hb), fun i j b _ hb => (nomatch hb)⟩, rfl, ⟨ns, hl, rfl, rfl⟩, fun v r w' α' _ _ hr h => ?_, fun _ _ _ _ _ _ _ _ h => h⟩
  · cases i with
    | zero => cases e; exact ⟨a, rfl, ⟨rfl, hs⟩, fun _ => rfl, fun z => nomatch z⟩
    | succ i => simp at e
  · subst h
    cases hr
    rfl
theorem law_callD {P : Program} {w : World} {K : PySem.W.Frag} {mg mb : Str → Option Value} {k : Nat} {fa a : Addr} {fd : FuncData} {x : Str} {s1 : Shared} {vs : List Value} {ns : List Int}
    (KX : K.In s1.heap) (hns : s1.heap.Ns mainGlobals mg) (hb : s1.heap.Ns builtinsNs mb) (hbb : ∀ x : Str, x ≠ "__name__" → mb x = bootBuiltins x) (hlim : s1.heap.NoLimit) (hg : s1.gens = #[])
    (ha : s1.heap.get? a = some { cls := .type "list", data := .seq vs.toArray }) (hi : IntsAre vs ns) (hl : ns.length ≤ 63) (hr : Room k callerA)
    (F : ∀ base : Heap, K.In base → base.Ns mainGlobals mg → FnD P w K mg base k fa fd [x] lawSp) (hbind : ∀ (s : Shared) (u : Value), BindsTo s fd ⟨[u], []⟩ [(x, u)]) :
    codeAny (model P w) callerA (.call (.ref fa) ⟨[.ref a], []⟩) (fun r s' => r = .ok (.ret (.bool true)) ∧ OldK s1.heap s'.heap ∧ s'.os = s1.os ∧ AllBare s'.gens) s1 := by
  have hline : ns.length ≤ sizeLine := Nat.le_trans hl (by decide)
  have main : ∀ H : Hp, Only H → SqL K H a (ns.map V.int) → HOk P w H s1.heap → (∀ b, H b ≠ none → b = a) → (H a ≠ none → K.lookup a = none) →
      codeAny (model P w) callerA (.call (.ref fa) ⟨[.ref a], []⟩) (fun r s' => r = .ok (.ret (.bool true)) ∧ OldK s1.heap s'.heap ∧ s'.os = s1.os ∧ AllBare s'.gens) s1 := by
    intro H only seq hok one away
    -- the heap without what is tracked: a dict is never the script
    have dicts : ∀ (b : Addr) (o : Obj) (es : Array DictEntry) (n : Nat), s1.heap.get? b = some o → o.data = .dict es n → H b = none := by
      intro b o es n e d
      cases q : H b with
      | none => rfl
      | some u =>
        obtain rfl : b = a := one b (by rw [q]; exact fun z => nomatch z)
        rw [ha] at e
        cases e
        exact nomatch (show Data.seq vs.toArray _ = Data.dict es n from d)
    have ns2 : ∀ (b : Addr) (m : Str → Option Value), s1.heap.Ns b m → (hidT s1.heap H).Ns b m := by
      rintro b m ⟨o, es, n, e, d, rest⟩
      exact ⟨o, es, n, hidT_get e (dicts b o es n e d), d, rest⟩
    have kin : K.In (hidT s1.heap H) := by
      intro b o e
      refine hidT_get (KX b o e) ?_
      cases q : H b with
      | none => rfl
      | some u =>
        obtain rfl : b = a := one b (by rw [q]; exact fun z => nomatch z)
        rw [away (by rw [q]; exact fun z => nomatch z)] at e
        cases e
    have mod : Mod K mg (hidT s1.heap H) := by
      obtain ⟨mc, l1, l2⟩ := hlim
      exact ⟨kin, ns2 _ _ hns, ⟨mb, ns2 _ _ hb, hbb⟩, ⟨mc, ns2 _ _ l1, l2⟩⟩
    have env : Env0 P w K mg (hidT s1.heap H) callerA [] s1 H :=
      ⟨rfl, mod, fun b o e => of_hidT e, Nat.le_of_eq (hidT_size _ _), trivial, (fun b z => nomatch (show b ∈ ([] : List Addr) from z)), hok, .of_eq hg⟩
    refine codeAny_mono ((F _ kin (ns2 _ _ hns)).run callerA [] s1 H ⟨[.ref a], []⟩ [.ref a] [.ref a] _ _ rfl hr env (hbind s1 (.ref a)) (.cons rfl .nil) (lawSp_sp hl seq)) ?_
    intro r s' got
    match r, got with
    | .error ex, ⟨_, _, _, _, _, _, _, _, _, _, _, _, z⟩ => exact z.elim
    | .ok .next, got => exact got.elim
    | .ok .brk, got => exact got.elim
    | .ok .cont, got => exact got.elim
    | .ok (.ret u), ⟨v, H', os, bare, un, hok', rv, q⟩ =>
      obtain rfl : v = .bl true := q
      obtain rfl : u = Value.bool true := rv
      refine ⟨rfl, OldK.of_keep fun b o e => ?_, os, bare⟩
      rcases only b with z | ⟨ob, xs, z⟩
      · exact un.keep b o e z (fun y => nomatch (show b ∈ ([] : List Addr) from y)) (fun y => nomatch (show b ∈ ([] : List Addr) from y))
      · have e1 := (hok b _ z).1
        rw [e] at e1
        cases e1
        exact (hok' b _ (un.frzs b _ _ z)).1
  have rv := vals_ints hi
  cases hk : K.lookup a with
  | some o =>
    have e := KX a o hk
    rw [ha] at e
    cases e
    exact main (fun _ => none) (fun _ => .inl rfl) (.inr ⟨_, vs.toArray, _, hk, rfl, rfl, rfl, by rw [List.size_toArray, hi.length]; exact hline, by simpa using rv⟩)
      (fun b u z => nomatch (show (none : Option HO) = some u from z)) (fun b z => absurd rfl z) (fun z => absurd rfl z)
  | none =>
    have at_ : ∀ b, (if b = a then some (HO.frz { cls := .type "list", data := .seq vs.toArray } (.lst (ns.map V.int))) else none) ≠ none → b = a := fun b z => by
      by_cases hb : b = a
      · exact hb
      · exact absurd (if_neg hb) z
    refine main (fun b => if b = a then some (.frz { cls := .type "list", data := .seq vs.toArray } (.lst (ns.map V.int))) else none) (fun b => ?_) (.inl (.inr ⟨_, if_pos rfl⟩)) (fun b u z => ?_) at_ (fun _ => hk)
    · by_cases hb : b = a
      · exact .inr ⟨_, _, if_pos hb⟩
      · exact .inl (if_neg hb)
    · obtain rfl : b = a := at_ b (by rw [show (if b = a then some (HO.frz { cls := .type "list", data := .seq vs.toArray } (.lst (ns.map V.int))) else none) = some u from z]; exact fun z => nomatch z)
      have z' := (if_pos rfl).symm.trans z
      cases z'
      exact ⟨ha, by rw [List.length_map]; exact hline, vs, _, rv, ha⟩
/-- the law's call behind a head by facts -/
theorem walkD {l : PySem.W.OpenLaw} {k : Nat} {q : Program} {loose : List Str} {XP : (Str → Option Value) → Heap → Prop} {YP : World → Heap → Prop} {d : DefRec} {x : Str}
    (hn : l.most = some 63) (hdf : d.params.defaults = []) (hr : Room k callerA)
    (F : ∀ (w : World) (mg : Str → Option Value) (fa : Addr) (h : Heap), YP w h → h.Ns mainGlobals mg → mg d.name = some (.ref fa) →
      ∃ (K : PySem.W.Frag) (fd : FuncData), K.In h ∧ (∀ (s : Shared) (u : Value), BindsTo s fd ⟨[u], []⟩ [(x, u)]) ∧ ∀ base : Heap, K.In base → base.Ns mainGlobals mg → FnD l.prog w K mg base k fa fd [x] lawSp) :
    PySem.W.WalkO q loose XP YP l.row.toRowW d [] (fun f vs => PySem.call f vs) := by
  refine Att.attach_call hn hdf ?_
  intro w s0 s1 mg mb fa o pm cd doc a vs ns G Y ho hd hcd hmg hobj hints hlen hg
  obtain ⟨K, fd, KX, hb, hF⟩ := F w mg fa _ Y G.T.g hmg
  exact law_callD KX G.T.g G.T.b G.T.builtins G.T.nolimit hg hobj hints hlen hr hF hb
end DL

end
section
set_option maxHeartbeats 4000000
/-! DLG: slices, membership, lists that change, comprehensions, pairs walked. -/
namespace DL
open PySem PySem.Spec L2
section
variable {X : Cx} {C : DC X} {a b c e : Expr} {ta tb tc te : TE} {da db dc de : TED} {pos : Pos} {es : List Expr} {tr : TA} {dr : TND}

/-! ### two built-ins of two ints -/
def fMax : PyData → PyData → (PyData → Prop) → Prop := int2 fun i j k => k (.int (if j > i then j else i))
def fMin : PyData → PyData → (PyData → Prop) → Prop := int2 fun i j k => k (.int (if j < i then j else i))
theorem two_run {r : List V → Hp → VK → Prop} {f : PyData → PyData → (PyData → Prop) → Prop} (hr : ∀ (w : Wd) (σ : L2.St) (ρ : DSt) (u v : V) (x y : PyData) (Q : VK) (kd : PyData → Prop), FI X.K C.P w σ ρ → Top X.K w u x → Top X.K w v y → f x y kd → (∀ z d, Rep X.K w.G z d → kd d → Q z w.H) → r [u, v] w.H Q)
    (ha : DE C a ta da) (hb : DE C b tb db) : ∀ (w : Wd) (σ : L2.St) (ρ : DSt) (Q : VK) (QD : R → DSt → Prop), C.A w → FI X.K C.P w σ ρ → dOp f da db ρ QD →
    (∀ v r w' ρ', Stp w w' → FI X.K C.P w' σ ρ' → RepR X.K w' σ v r → QD r ρ' → Q v w'.H) → tCB r (tCons ta (tCons tb tNil)) σ w.H Q := by
  intro w σ ρ Q QD hA I q k
  refine ha.run w σ ρ _ _ hA I q fun u r1 w1 ρ1 s1 I1 R1 q1 => ?_
  refine hb.run w1 σ ρ1 _ _ (C.cl _ _ hA s1) I1 q1 fun v r2 w2 ρ2 s2 I2 R2 q2 => ?_
  obtain ⟨x, tx, q3⟩ := vw_top I2 (R1.step s2) q2
  obtain ⟨y, ty, q4⟩ := vw_top I2 R2 q3
  exact hr w2 σ ρ2 u v x y Q _ I2 tx ty q4 fun z d R3 q5 => k z (.d d) w2 ρ2 (s1.trans s2) I2 R3 q5
theorem de_max {p : Pos} (hm : X.mg "max" = none) (ha : DE C a ta da) (hb : DE C b tb db) (hg : Gl X "max" := by rfl) (he : starEach [a, b] X.env = (false, eval a X.env) :: starEach [b] X.env := by rfl) (he2 : starEach [b] X.env = (false, eval b X.env) :: starEach [] X.env := by rfl)
    (hpl : (backTo pos (starEach [b] X.env)).any (·.1) = false := by rfl) : DE C (.Call (.Name "max" p) [a, b] [] pos) (tCB (fun xs H Q => ∃ i j, xs = [.int i, .int j] ∧ Q (.int (if j > i then j else i)) H) (tCons ta (tCons tb tNil))) (dOp fMax da db) := by
  refine ⟨pe_callB (call_max2 C.calm) hg hm (by decide +kernel) (pa_cons ha.pe (pa_cons hb.pe pa_nil he2) he) (by decide) (by decide) he hpl, two_run (fun w σ ρ u v x y Q kd I tx ty h k => ?_) ha hb⟩
  obtain ⟨i, j, rfl, rfl, q⟩ := int2_inv h
  cases tx
  cases ty
  exact ⟨i, j, rfl, k _ _ (.int _) q⟩
theorem de_min {p : Pos} (hm : X.mg "min" = none) (ha : DE C a ta da) (hb : DE C b tb db) (hg : Gl X "min" := by rfl) (he : starEach [a, b] X.env = (false, eval a X.env) :: starEach [b] X.env := by rfl) (he2 : starEach [b] X.env = (false, eval b X.env) :: starEach [] X.env := by rfl)
    (hpl : (backTo pos (starEach [b] X.env)).any (·.1) = false := by rfl) : DE C (.Call (.Name "min" p) [a, b] [] pos) (tCB (fun xs H Q => ∃ i j, xs = [.int i, .int j] ∧ Q (.int (if j < i then j else i)) H) (tCons ta (tCons tb tNil))) (dOp fMin da db) := by
  refine ⟨pe_callB (call_min2 C.calm) hg hm (by decide +kernel) (pa_cons ha.pe (pa_cons hb.pe pa_nil he2) he) (by decide) (by decide) he hpl, two_run (fun w σ ρ u v x y Q kd I tx ty h k => ?_) ha hb⟩
  obtain ⟨i, j, rfl, rfl, q⟩ := int2_inv h
  cases tx
  cases ty
  exact ⟨i, j, rfl, k _ _ (.int _) q⟩

/-! ### is None, is True -/
def isNoneD : PyData → Bool
  | .none => true | _ => false
def dIs (x y : PyData) (k : PyData → Prop) : Prop := match y with
  | .none => k (.bool (isNoneD x))
  | .bool b => (match x with | .bool a => k (.bool (decide (a = b))) | _ => False)
  | _ => False
def dIsNot (x y : PyData) (k : PyData → Prop) : Prop := match y with
  | .none => k (.bool (!isNoneD x))
  | .bool b => (match x with | .bool a => k (.bool (!decide (a = b))) | _ => False)
  | _ => False
def rIsU : R2 := fun x y H Q => (y = .non ∧ Q (.bl (decide (x = .non))) H) ∨ rIsB x y H Q
def rIsNotU : R2 := fun x y H Q => (y = .non ∧ Q (.bl (!decide (x = .non))) H) ∨ rNotB x y H Q
theorem top_non {w : Wd} {u : V} {x : PyData} (t : Top X.K w u x) : decide (u = .non) = (isNoneD x) := by
  cases x with
  | none => cases t; rfl
  | bool b => cases t; rfl
  | int b => cases t; rfl
  | str b => cases t; rfl
  | list ds => obtain ⟨_, _, rfl, _⟩ := t; rfl
  | tuple ds => cases t; rfl
  | dict ds => cases t; rfl
theorem od_is : OpR X (compareOp .Is) rIsU ∧ OpD X C rIsU dIs := by
  refine ⟨opr_or op_isN op_isBl, fun w σ ρ u v x y Q kd hA I tx ty h k => ?_⟩
  unfold dIs at h
  split at h
  · cases ty
    refine .inl ⟨rfl, ?_⟩
    rw [top_non tx]
    exact k _ _ w (Stp.refl w) I (.bl _) h
  · split at h
    · cases tx
      cases ty
      exact .inr ⟨_, _, rfl, rfl, k _ _ w (Stp.refl w) I (.bl _) h⟩
    · exact h.elim
  · exact h.elim
theorem od_isNot : OpR X (compareOp .IsNot) rIsNotU ∧ OpD X C rIsNotU dIsNot := by
  refine ⟨opr_or op_notN op_notBl, fun w σ ρ u v x y Q kd hA I tx ty h k => ?_⟩
  unfold dIsNot at h
  split at h
  · cases ty
    refine .inl ⟨rfl, ?_⟩
    rw [top_non tx]
    exact k _ _ w (Stp.refl w) I (.bl _) h
  · split at h
    · cases tx
      cases ty
      exact .inr ⟨_, _, rfl, rfl, k _ _ w (Stp.refl w) I (.bl _) h⟩
    · exact h.elim
  · exact h.elim

/-! ### in, not in -/
/-- flat data: in a list or tuple of such; any data in a list -/
def flatD : PyData → Bool
  | .none => true | .bool _ => true | .int _ => true | .str _ => true | _ => false
def inD (x : PyData) (ys : List PyData) : Bool := ys.any fun z => PyData.eqv z x
def dIn (neg : Bool) (x y : PyData) (k : PyData → Prop) : Prop := match y with
  | .list ys => SeqAt.shaped x = true ∧ SeqAt.shaped (.list ys) = true ∧ k (.bool (if neg then !inD x ys else inD x ys))
  | .tuple ys => flatD x = true ∧ ys.all flatD = true ∧ k (.bool (if neg then !inD x ys else inD x ys))
  | _ => False
def rInU (K : PySem.W.Frag) : R2 := fun x y H Q => rInD K x y H Q ∨ rIn K false x y H Q
def rNotInU (K : PySem.W.Frag) : R2 := fun x y H Q => rNotInD K x y H Q ∨ rIn K true x y H Q
theorem flat_v {G : Hp} {u : V} {x : PyData} (h : Rep X.K G u x) (f : flatD x = true) : flatV u = true := by
  cases h <;> first | rfl | cases f
theorem eqv_flat {G : Hp} {u v : V} {x y : PyData} (h : Rep X.K G u x) (g : Rep X.K G v y) (f : flatD x = true) (f' : flatD y = true) : eqV v u = PyData.eqv y x := by
  cases h <;> cases g <;> first | rfl | cases f | cases f' | simp [eqV, PyData.eqv]
theorem inv_flat {G : Hp} {u : V} {x : PyData} (h : Rep X.K G u x) (f : flatD x = true) : ∀ {vs : List V} {ys : List PyData}, Reps X.K G vs ys → ys.all flatD = true → vs.all flatV = true ∧ inV u vs = inD x ys
  | _, _, .nil, _ => ⟨rfl, rfl⟩
  | _, _, .cons r t, hf => by
    rw [List.all_cons, Bool.and_eq_true] at hf
    obtain ⟨h1, h2⟩ := inv_flat h f t hf.2
    refine ⟨by rw [List.all_cons, flat_v r hf.1, h1] <;> rfl, ?_⟩
    show ((eqV _ u) || (inV u _)) = ((PyData.eqv _ x) || (inD x _))
    rw [h2, eqv_flat h r f hf.1]
theorem rep_flat {w : Wd} {u : V} {x : PyData} (t : Top X.K w u x) (f : flatD x = true) : Rep X.K w.G u x := by
  cases x with
  | list _ => cases f
  | _ => exact t
theorem od_in : OpR X (compareOp .In) (rInU X.K) ∧ OpD X C (rInU X.K) (dIn false) := by
  refine ⟨opr_or (op_inD (by have := C.un; omega)) op_in_seq, fun w σ ρ u v x y Q kd hA I tx ty h k => ?_⟩
  unfold dIn at h
  split at h
  · obtain ⟨h1, h2, h3⟩ := h
    refine .inl ⟨x, _, (tx.rep I.gh).dp _ _ (PyData.hasDict_of_canLay _ (SeqAt.canLay_of_shaped h1)), (ty.rep I.gh).dp _ _ (PyData.hasDict_of_canLay _ (SeqAt.canLay_of_shaped h2)), h1, h2, k _ _ w (Stp.refl w) I (.bl _) h3⟩
  · obtain ⟨h1, h2, h3⟩ := h
    cases ty with
    | tup hs hr =>
      obtain ⟨g1, g2⟩ := inv_flat (rep_flat tx h1) h1 hr h2
      refine .inr ⟨_, _, rfl, .inr (sqt_mono I.gh hs), flat_v (rep_flat tx h1) h1, g1, ?_⟩
      rw [g2]
      exact k _ _ w (Stp.refl w) I (.bl _) h3
  · exact h.elim
theorem od_notIn : OpR X (compareOp .NotIn) (rNotInU X.K) ∧ OpD X C (rNotInU X.K) (dIn true) := by
  refine ⟨opr_or (op_notInD (by have := C.un; omega)) op_notIn_seq, fun w σ ρ u v x y Q kd hA I tx ty h k => ?_⟩
  unfold dIn at h
  split at h
  · obtain ⟨h1, h2, h3⟩ := h
    refine .inl ⟨x, _, (tx.rep I.gh).dp _ _ (PyData.hasDict_of_canLay _ (SeqAt.canLay_of_shaped h1)), (ty.rep I.gh).dp _ _ (PyData.hasDict_of_canLay _ (SeqAt.canLay_of_shaped h2)), h1, h2, k _ _ w (Stp.refl w) I (.bl _) h3⟩
  · obtain ⟨h1, h2, h3⟩ := h
    cases ty with
    | tup hs hr =>
      obtain ⟨g1, g2⟩ := inv_flat (rep_flat tx h1) h1 hr h2
      refine .inr ⟨_, _, rfl, .inr (sqt_mono I.gh hs), flat_v (rep_flat tx h1) h1, g1, ?_⟩
      rw [g2]
      exact k _ _ w (Stp.refl w) I (.bl _) h3
  · exact h.elim

/-! ### a < b <= c -/
def dChain (f g : PyData → PyData → (PyData → Prop) → Prop) (da db dc : TED) : TED := fun ρ Q => da ρ fun r1 ρ1 => db ρ1 fun r2 ρ2 => vw ρ2 r1 fun x => vw ρ2 r2 fun y => f x y fun z => match z with
  | .bool true => dc ρ2 fun r3 ρ3 => vw ρ3 r2 fun y' => vw ρ3 r3 fun z => g y' z fun d => Q (.d d) ρ3
  | .bool false => Q (.d (.bool false)) ρ2
  | _ => False
theorem chain_run {r r' : R2} {f g : PyData → PyData → (PyData → Prop) → Prop} (hr : OpD X C r f) (hr' : OpD X C r' g) (ha : DE C a ta da) (hb : DE C b tb db) (hc : DE C c tc dc) :
    ∀ (w : Wd) (σ : L2.St) (ρ : DSt) (Q : VK) (QD : R → DSt → Prop), C.A w → FI X.K C.P w σ ρ → dChain f g da db dc ρ QD →
    (∀ v r w' ρ', Stp w w' → FI X.K C.P w' σ ρ' → RepR X.K w' σ v r → QD r ρ' → Q v w'.H) → tChain r r' ta tb tc σ w.H Q := by
  intro w σ ρ Q QD hA I q k
  refine ha.run w σ ρ _ _ hA I q fun u r1 w1 ρ1 s1 I1 R1 q1 => ?_
  refine hb.run w1 σ ρ1 _ _ (C.cl _ _ hA s1) I1 q1 fun v r2 w2 ρ2 s2 I2 R2 q2 => ?_
  obtain ⟨x, tx, q3⟩ := vw_top I2 (R1.step s2) q2
  obtain ⟨y, ty, q4⟩ := vw_top I2 R2 q3
  refine hr w2 σ ρ2 u v x y _ _ (C.cl _ _ (C.cl _ _ hA s1) s2) I2 tx ty q4 fun z d w3 s3 I3 R3 q5 => ?_
  have s23 := (s1.trans s2).trans s3
  cases d with
  | bool bb =>
    cases R3
    refine ⟨bb, rfl, ?_⟩
    cases bb with
    | false => rw [if_neg Bool.false_ne_true]; exact k _ (.d (.bool false)) w3 ρ2 s23 I3 (.bl _) q5
    | true =>
      rw [if_pos rfl]
      refine hc.run w3 σ ρ2 _ _ (C.cl _ _ hA s23) I3 q5 fun v3 r3 w4 ρ4 s4 I4 R4 q6 => ?_
      obtain ⟨y2, ty2, q7⟩ := vw_top I4 ((R2.step s3).step s4) q6
      obtain ⟨z2, tz2, q8⟩ := vw_top I4 R4 q7
      exact hr' w4 σ ρ4 v v3 y2 z2 Q _ (C.cl _ _ hA (s23.trans s4)) I4 ty2 tz2 q8 fun z5 d5 w5 s5 I5 R5 q9 => k z5 (.d d5) w5 ρ4 ((s23.trans s4).trans s5) I5 R5 q9
  | _ => exact q5.elim
theorem de_chain {op op' : CmpOp} {r r' : R2} {f g : PyData → PyData → (PyData → Prop) → Prop} (ho : OpR X (compareOp op) r ∧ OpD X C r f) (ho' : OpR X (compareOp op') r' ∧ OpD X C r' g) (ha : DE C a ta da) (hb : DE C b tb db) (hc : DE C c tc dc)
    (hm : lastMarks [op, op'] [b, c] = false := by with_unfolding_all rfl) : DE C (.Compare a [op, op'] [b, c] pos) (tChain r r' ta tb tc) (dChain f g da db dc) :=
  ⟨pe_chain ho.1 ho'.1 ha.pe hb.pe hc.pe hm, chain_run ho.2 ho'.2 ha hb hc⟩
theorem dt_chain {op op' : CmpOp} {r r' : R2} {f g : PyData → PyData → (PyData → Prop) → Prop} (ho : OpR X (compareOp op) r ∧ OpD X C r f) (ho' : OpR X (compareOp op') r' ∧ OpD X C r' g) (ha : DE C a ta da) (hb : DE C b tb db) (hc : DE C c tc dc)
    (hm : lastMarks [op, op'] [b, c] = false := by with_unfolding_all rfl) : DT C (.Compare a [op, op'] [b, c] pos) (tTest (tChain r r' ta tb tc)) (dTest (dChain f g da db dc)) :=
  ⟨pt_chain ho.1 ho'.1 ha.pe hb.pe hc.pe hm, test_run (de_chain (pos := pos) ho ho' ha hb hc hm)⟩

/-! ### slices -/
abbrev TOD := DSt → (Option Int → DSt → Prop) → Prop
structure DO (C : DC X) (e : Option Expr) (to : TO) (t : TOD) : Prop where
  po : PO X e to
  run : ∀ (w : Wd) (σ : L2.St) (ρ : DSt) (Q : Option Int → Hp → Prop) (QD : Option Int → DSt → Prop), C.A w → FI X.K C.P w σ ρ → t ρ QD →
    (∀ o w' ρ', Stp w w' → FI X.K C.P w' σ ρ' → QD o ρ' → Q o w'.H) → to σ w.H Q
def oNone : TOD := fun ρ Q => Q none ρ
def oSome (de : TED) : TOD := fun ρ Q => de ρ fun r ρ1 => vw ρ1 r fun x => match x with | .int i => Q (some i) ρ1 | _ => False
theorem do_none : DO C none tNoPart oNone := ⟨po_none, fun w σ ρ Q QD hA I q k => k none w ρ (Stp.refl w) I q⟩
theorem do_some (h : DE C e te de) : DO C (some e) (tPart te) (oSome de) := by
  refine ⟨po_some h.pe, fun w σ ρ Q QD hA I q k => ?_⟩
  refine h.run w σ ρ _ _ hA I q fun u r1 w1 ρ1 s1 I1 R1 q1 => ?_
  obtain ⟨x, tx, q2⟩ := vw_top I1 R1 q1
  cases x with
  | int i =>
    cases tx
    exact ⟨i, rfl, k (some i) w1 ρ1 s1 I1 q2⟩
  | _ => exact q2.elim
def cutD {α : Type} (xs : List α) (lo hi : Option Int) : List α := (xs.drop (HT.sIx xs.length 0 lo)).take (HT.sIx xs.length xs.length hi - HT.sIx xs.length 0 lo)
theorem cut_reps {G : Hp} {vs : List V} {ds : List PyData} (r : Reps X.K G vs ds) (lo hi : Option Int) : Reps X.K G (cutV vs lo hi) (cutD ds lo hi) := by
  unfold cutV cutD
  rw [r.len]
  exact (r.dropN _).takeN _
def rSlU (K : PySem.W.Frag) : V → Option Int → Option Int → Hp → VK → Prop := fun x lo hi H Q => rSlA K x lo hi H Q ∨ rSlS x lo hi H Q
/-- a tuple's, a text's slice -/
def dSl (da : TED) (tl th : TOD) : TED := fun ρ Q => da ρ fun r ρ1 => tl ρ1 fun lo ρ2 => th ρ2 fun hi ρ3 => vw ρ3 r fun x => match x with
  | .tuple ds => Q (.d (.tuple (cutD ds lo hi))) ρ3
  | .str z => z.length ≤ sizeLine ∧ Q (.d (.str (cutS z lo hi))) ρ3
  | _ => False
theorem cut_whole {ds : List PyData} {lo hi : Option Int} (h : HT.sIx ds.length 0 lo = 0 ∧ HT.sIx ds.length ds.length hi = ds.length) : cutD ds lo hi = ds := by
  unfold cutD
  rw [h.1, h.2, List.drop_zero, Nat.sub_zero, List.take_length]
variable {lo hi : Option Expr} {tl th : TO} {dl dh : TOD} {p2 : Pos}
theorem de_slice (ha : DE C a ta da) (hl : DO C lo tl dl) (hh : DO C hi th dh) : DE C (.Subscript a (.Slice lo hi none p2) pos) (tSl (rSlU X.K) ta tl th) (dSl da dl dh) := by
  refine ⟨pe_slice (sl_tupA.or sl_str) ha.pe hl.po hh.po, fun w σ ρ Q QD hA I q k => ?_⟩
  refine ha.run w σ ρ _ _ hA I q fun u r1 w1 ρ1 s1 I1 R1 q1 => ?_
  refine hl.run w1 σ ρ1 _ _ (C.cl _ _ hA s1) I1 q1 fun l w2 ρ2 s2 I2 q2 => ?_
  refine hh.run w2 σ ρ2 _ _ (C.cl _ _ hA (s1.trans s2)) I2 q2 fun h w3 ρ3 s3 I3 q3 => ?_
  have s23 := (s1.trans s2).trans s3
  obtain ⟨x, tx, q4⟩ := vw_top I3 ((R1.step s2).step s3) q3
  cases x with
  | tuple ds =>
    cases tx with
    | tup hs hr =>
      rename_i aa vs
      refine .inl ⟨aa, vs, rfl, sqt_mono I3.gh hs, fun e => ?_, fun _ p hp => ?_⟩
      · rw [hr.len] at e
        have q4 : QD (.d (.tuple (cutD ds l h))) ρ3 := q4
        rw [cut_whole e] at q4
        exact k (.ref aa) (.d (.tuple ds)) w3 ρ3 s23 I3 (.tup hs hr) q4
      · obtain ⟨I4, s4⟩ := I3.new (o := .tup (cutV vs l h)) hp
        exact k (.ref p) (.d (.tuple (cutD ds l h))) ⟨upd w3.G p _, upd w3.H p _, w3.F⟩ ρ3 (s23.trans s4) I4 (.tup (SqT.of upd_same) (reps_mono s4.g _ _ (cut_reps hr l h))) q4
  | str z =>
    cases tx
    exact .inr ⟨z, rfl, q4.1, k _ (.d (.str _)) w3 ρ3 s23 I3 (.str _) q4.2⟩
  | _ => exact q4.elim
/-- a list's slice -/
def nSl (da : TED) (tl th : TOD) : TND := fun ρ Q => da ρ fun r ρ1 => tl ρ1 fun lo ρ2 => th ρ2 fun hi ρ3 => vw ρ3 r fun x => match x with
  | .list ds => Q (cutD ds lo hi) ρ3
  | _ => False
theorem dn_slice (ha : DE C a ta da) (hl : DO C lo tl dl) (hh : DO C hi th dh) : DN C (.Subscript a (.Slice lo hi none p2) pos) (tSl (rSlL X.K) ta tl th) (nSl da dl dh) := by
  refine ⟨pe_slice sl_list ha.pe hl.po hh.po, fun w σ ρ Q QD hA I q k => ?_⟩
  refine ha.run w σ ρ _ _ hA I q fun u r1 w1 ρ1 s1 I1 R1 q1 => ?_
  refine hl.run w1 σ ρ1 _ _ (C.cl _ _ hA s1) I1 q1 fun l w2 ρ2 s2 I2 q2 => ?_
  refine hh.run w2 σ ρ2 _ _ (C.cl _ _ hA (s1.trans s2)) I2 q2 fun h w3 ρ3 s3 I3 q3 => ?_
  have s23 := (s1.trans s2).trans s3
  obtain ⟨x, tx, q4⟩ := vw_top I3 ((R1.step s2).step s3) q3
  cases x with
  | list ds =>
    obtain ⟨aa, vs, rfl, hs, hr⟩ := tx
    refine ⟨aa, vs, rfl, SqL.of hs, fun p hp => ?_⟩
    obtain ⟨I4, s4⟩ := FI.air I3 (o := .lst (cutV vs l h)) hp
    exact k p (cutV vs l h) (cutD ds l h) ⟨w3.G, upd w3.H p _, w3.F⟩ ρ3 (s23.trans s4) I4 (air_new s23 hp) (I3.fresh hp).1 (fun i z => (I3.fresh hp).2 i p z rfl) upd_same (cut_reps hr l h) q4
  | _ => exact q4.elim
/-- xs[::-1] -/
def nRev (da : TED) : TND := fun ρ Q => da ρ fun r ρ1 => vw ρ1 r fun x => match x with | .list ds => Q ds.reverse ρ1 | _ => False
theorem dn_rev {k0 : Nat} {q1 q2 q3 : Pos} (ha : DE C a ta da) : DN C (.Subscript a (.Slice none none (some (.UnaryOp .USub (.Constant (.int 1) k0 q1) q2)) q3) pos) (tRevL X.K ta) (nRev da) := by
  refine ⟨pe_revL ha.pe, fun w σ ρ Q QD hA I q k => ?_⟩
  refine ha.run w σ ρ _ _ hA I q fun u r1 w1 ρ1 s1 I1 R1 q1 => ?_
  obtain ⟨x, tx, q4⟩ := vw_top I1 R1 q1
  cases x with
  | list ds =>
    obtain ⟨aa, vs, rfl, hs, hr⟩ := tx
    refine ⟨aa, vs, rfl, SqL.of hs, fun p hp => ?_⟩
    obtain ⟨I4, s4⟩ := FI.air I1 (o := .lst vs.reverse) hp
    exact k p vs.reverse ds.reverse ⟨w1.G, upd w1.H p _, w1.F⟩ ρ1 (s1.trans s4) I4 (air_new s1 hp) (I1.fresh hp).1 (fun i z => (I1.fresh hp).2 i p z rfl) upd_same hr.rev q4
  | _ => exact q4.elim
/-- list(x) -/
def nList (da : TED) : TND := fun ρ Q => da ρ fun r ρ1 => vw ρ1 r fun x => match x with | .list ds => Q ds ρ1 | .tuple ds => Q ds ρ1 | _ => False
abbrev rListOf (K : PySem.W.Frag) : List V → Hp → VK → Prop := fun xs H Q => ∃ p ys, xs = [.ref p] ∧ (SqL K H p ys ∨ SqT K H p ys) ∧ ∀ l, H l = none → Q (.ref l) (upd H l (.lst ys))
theorem dn_listOf {p : Pos} (hm : X.mg "list" = none) (ha : DE C a ta da) (hg : Gl X "list" := by rfl) (he : starEach [a] X.env = (false, eval a X.env) :: starEach [] X.env := by rfl) (hpl : (backTo pos (starEach [] X.env)).any (·.1) = false := by rfl) :
    DN C (.Call (.Name "list" p) [a] [] pos) (tCB (rListOf X.K) (tCons ta tNil)) (nList da) := by
  refine ⟨pe_callTy call_list_of hg hm (by decide +kernel) (pa_cons ha.pe pa_nil he) (by decide) (by decide) he hpl, fun w σ ρ Q QD hA I q k => ?_⟩
  refine ha.run w σ ρ _ _ hA I q fun u r1 w1 ρ1 s1 I1 R1 q1 => ?_
  obtain ⟨x, tx, q4⟩ := vw_top I1 R1 q1
  have fin : ∀ (aa : Addr) (vs : List V) (ds : List PyData), u = .ref aa → (SqL X.K w1.H aa vs ∨ SqT X.K w1.H aa vs) → Reps X.K w1.G vs ds → QD ds ρ1 → rListOf X.K [u] w1.H Q := by
    rintro aa vs ds rfl hs hr q5
    refine ⟨aa, vs, rfl, hs, fun p hp => ?_⟩
    obtain ⟨I4, s4⟩ := FI.air I1 (o := .lst vs) hp
    exact k p vs ds ⟨w1.G, upd w1.H p _, w1.F⟩ ρ1 (s1.trans s4) I4 (air_new s1 hp) (I1.fresh hp).1 (fun i z => (I1.fresh hp).2 i p z rfl) upd_same hr q5
  cases x with
  | list ds =>
    obtain ⟨aa, vs, e, hs, hr⟩ := tx
    exact fin aa vs ds e (.inl (SqL.of hs)) hr q4
  | tuple ds =>
    cases tx with
    | tup hs hr => exact fin _ _ ds rfl (.inr (sqt_mono I1.gh hs)) hr q4
  | _ => exact q4.elim

/-! ### a frame's own lists change -/
theorem own_at {P : Par} {w : Wd} {σ : L2.St} {ρ : DSt} {i : Nat} {io : Bool} {ds : List PyData} (I : FI X.K P w σ ρ) (h : ρ[i]? = some (.own io ds)) : ∃ l vs, σ[i]? = some (some (.ref l)) ∧ w.H l = some (.lst vs) ∧ Reps X.K w.G vs ds := by
  obtain ⟨l, vs, h1, _, h3, h4, _⟩ := I.ok i _ h
  exact ⟨l, vs, h1, h3, h4⟩
def ownK (ρ : DSt) (i : Nat) (k : Bool → List PyData → Prop) : Prop := match ρ[i]? with
  | some (.own io ds) => k io ds
  | _ => False
theorem ownK_inv {ρ : DSt} {i : Nat} {k : Bool → List PyData → Prop} (h : ownK ρ i k) : ∃ io ds, ρ[i]? = some (.own io ds) ∧ k io ds := by
  unfold ownK at h
  split at h
  · exact ⟨_, _, by assumption, h⟩
  · exact h.elim
/-- xs.append(e), xs in slot i -/
def sApp (i : Nat) (de : TED) : TSD := fun D ρ => ownK ρ i (fun _ _ => True) ∧ de ρ fun r ρ1 => frz ρ1 r fun d ρ2 => ownK ρ2 i fun io ds => ds.length < sizeLine ∧ D.nx (ρ2.set i (.own io (ds ++ [d])))
variable {y : Str} {py apos cpos spos : Pos}
theorem ds_app (i : Nat) (h : DE C e te de) (hN : X.N[i]? = some y := by rfl) (hv : Vis X.env.scope y := by first | exact Or.inl rfl | exact Or.inr (Or.inl rfl) | exact Or.inr (Or.inr rfl)) (hd : (y == ("__debug__" : Str)) = false := by decide) (hcd : (y == ("__classdict__" : Str)) = false := by decide)
    (he : starEach [e] X.env = (false, eval e X.env) :: starEach [] X.env := by rfl)
    (hbase : attributeBase (.Name y py) "append" X.env (eval (.Name y py) X.env) = eval (.Name y py) X.env := by rfl)
    (hfew : ((backTo cpos (starEach [e] X.env)).all (fun x => !x.1) && (backToKw cpos (keywordEach [] X.env)).all (fun x => x.1.isSome)
      && decide ([e].length + ([] : List Keyword).length + (if ([] : List Keyword).isEmpty then 0 else 1) < 30)) = true := by rfl)
    (hline : (apos.endLine == cpos.line) = true := by rfl) (hplain : (backTo cpos (starEach [] X.env)).any (·.1) = false := by rfl)
    (hs : swapsWith (.Call (.Attribute (.Name y py) "append" apos) [e] [] cpos) none spos.line X.env = pure false := by rfl) :
    DS C (.Expr (.Call (.Attribute (.Name y py) "append" apos) [e] [] cpos) spos) (tDrop (tBM X.K "list" rAppend (tVar i) (tCons te tNil))) (sApp i de) := by
  refine ⟨ps_expr (pe_bm PySem.F.plainAttrs_list PySem.F.slot_list_append PySem.F.type_list_append mt_append (pe_var hN hv hd hcd) (pa_cons h.pe pa_nil he) hbase hfew hline he hplain) hs, fun w σ ρ D DD hA I q k => ?_⟩
  obtain ⟨q0, q⟩ := q
  obtain ⟨io0, ds0, e0, _⟩ := ownK_inv q0
  obtain ⟨l, vs0, h1, h2, _⟩ := own_at I e0
  refine ⟨.ref l, h1, .inl ⟨rfl, vs0, SqL.of h2⟩, ?_⟩
  refine h.run w σ ρ _ _ hA I q fun u r1 w1 ρ1 s1 I1 R1 q1 => ?_
  obtain ⟨d, ρ2, w2, I2, s2, hh, hrep, q2⟩ := frz_ok I1 R1 q1
  obtain ⟨io, ds, e2, hlen, q3⟩ := ownK_inv q2
  obtain ⟨l', vs, g1, g2, g3⟩ := own_at I2 e2
  rw [h1] at g1
  cases g1
  rw [hh] at g2
  refine ⟨l, vs, u, rfl, rfl, g2, by rw [g3.len]; exact hlen, ?_⟩
  obtain ⟨I3, s3⟩ := I2.mut e2 h1 (g3.app (.cons hrep .nil))
  rw [← hh]
  exact k.nx ⟨w2.G, upd w2.H l _, w2.F⟩ σ _ ((s1.trans s2).trans s3) I3 q3
/-- xs[e] = v, xs in slot i -/
def sPut (i : Nat) (dv di : TED) : TSD := fun D ρ => dv ρ fun r ρ1 => frz ρ1 r fun d ρ2 => ownK ρ2 i (fun _ _ => True) ∧ di ρ2 fun r2 ρ3 => vw ρ3 r2 fun x => ownK ρ3 i fun io ds => match x with
  | .int z => (match ixN ds.length z with | some j => D.nx (ρ3.set i (.own io (ds.set j d))) | none => False)
  | _ => False
theorem ds_put (i : Nat) {iv : Expr} {ti : TE} {di : TED} {tpos : Pos} (h : DE C e te de) (hix : DE C iv ti di) (hN : X.N[i]? = some y := by rfl) (hv : Vis X.env.scope y := by first | exact Or.inl rfl | exact Or.inr (Or.inl rfl) | exact Or.inr (Or.inr rfl)) (hd : (y == ("__debug__" : Str)) = false := by decide) (hcd : (y == ("__classdict__" : Str)) = false := by decide)
    (hsub : ∀ v, assign (.Subscript (.Name y py) iv tpos) X.env v = (do
      let ov ← holding [v] (eval (.Name y py) X.env)
      let iv ← holding [v, ov] (eval iv X.env)
      standAt tpos
      holding [v, ov, iv] (setItem ov iv v)
      release [v, ov, iv] []) := by intro _; rfl)
    (hs : swapsWithSole [.Subscript (.Name y py) iv tpos] e spos.line X.env = pure false := by rfl) (hw : swappedStores [.Subscript (.Name y py) iv tpos] e X.env = pure none := by rfl)
    (h1 : (assignEach [.Subscript (.Name y py) iv tpos] X.env).map (·.2) = [assign (.Subscript (.Name y py) iv tpos) X.env] := by rfl) :
    DS C (.Assign [.Subscript (.Name y py) iv tpos] e spos) (tAsg te (gSub (tVar i) ti rSetL)) (sPut i de di) := by
  refine ⟨ps_asg h.pe (pg_sub (pe_var hN hv hd hcd) hix.pe set_list hsub) hs hw h1, fun w σ ρ D DD hA I q k => ?_⟩
  refine h.run w σ ρ _ _ hA I q fun u r1 w1 ρ1 s1 I1 R1 q1 => ?_
  obtain ⟨d, ρ2, w2, I2, s2, hh, hrep, q2⟩ := frz_ok I1 R1 q1
  obtain ⟨q0, q2⟩ := q2
  obtain ⟨io0, ds0, e0, _⟩ := ownK_inv q0
  obtain ⟨l, vs0, g1, g2, _⟩ := own_at I2 e0
  refine ⟨.ref l, g1, ?_⟩
  rw [← hh]
  refine hix.run w2 σ ρ2 _ _ (C.cl _ _ hA (s1.trans s2)) I2 q2 fun v2 r2 w3 ρ3 s3 I3 R3 q3 => ?_
  obtain ⟨x, tx, q4⟩ := vw_top I3 R3 q3
  obtain ⟨io, ds, e3, q5⟩ := ownK_inv q4
  obtain ⟨l', vs, f1, f2, f3⟩ := own_at I3 e3
  rw [g1] at f1
  cases f1
  cases x with
  | int z =>
    cases tx
    have q5 : (match ixN ds.length z with | some j => DD.nx (ρ3.set i (.own io (ds.set j d))) | none => False) := q5
    cases ej : ixN ds.length z with
    | none => rw [ej] at q5; exact q5.elim
    | some j =>
      rw [ej] at q5
      refine ⟨l, vs, z, j, rfl, rfl, f2, by rw [f3.len]; exact ej, ?_⟩
      obtain ⟨I4, s4⟩ := I3.mut e3 g1 (f3.setAt j (rep_mono s3.g _ _ hrep))
      exact k.nx ⟨w3.G, upd w3.H l _, w3.F⟩ σ _ (((s1.trans s2).trans s3).trans s4) I4 q5
  | _ => exact q5.elim
/-- xs.pop(), xs in slot i -/
def dPop (i : Nat) : TED := fun ρ Q => ownK ρ i fun io ds => match ds[ds.length - 1]? with
  | some d => Q (.d d) (ρ.set i (.own io ds.dropLast))
  | none => False
theorem Reps.drop1 {G : Hp} : ∀ {vs : List V} {ds : List PyData}, Reps X.K G vs ds → Reps X.K G vs.dropLast ds.dropLast
  | _, _, .nil => .nil
  | _, _, .cons _ .nil => .nil
  | _, _, .cons r (.cons q t) => .cons r (Reps.drop1 (.cons q t))
theorem de_pop (i : Nat) (hN : X.N[i]? = some y := by rfl) (hv : Vis X.env.scope y := by first | exact Or.inl rfl | exact Or.inr (Or.inl rfl) | exact Or.inr (Or.inr rfl)) (hd : (y == ("__debug__" : Str)) = false := by decide) (hcd : (y == ("__classdict__" : Str)) = false := by decide)
    (hbase : attributeBase (.Name y py) "pop" X.env (eval (.Name y py) X.env) = eval (.Name y py) X.env := by rfl) (hline : (apos.endLine == cpos.line) = true := by rfl) :
    DE C (.Call (.Attribute (.Name y py) "pop" apos) [] [] cpos) (tBM0 X.K "list" rPop (tVar i)) (dPop i) := by
  refine ⟨pe_bm0 PySem.F.plainAttrs_list PySem.F.slot_list_pop PySem.F.type_list_pop mt_pop (pe_var hN hv hd hcd) hbase hline, fun w σ ρ Q QD hA I q k => ?_⟩
  obtain ⟨io, ds, e, q1⟩ := ownK_inv q
  obtain ⟨l, vs, h1, h2, h3⟩ := own_at I e
  have q1 : (match ds[ds.length - 1]? with | some d => QD (.d d) (ρ.set i (.own io ds.dropLast)) | none => False) := q1
  cases el : ds[ds.length - 1]? with
  | none => rw [el] at q1; exact q1.elim
  | some d =>
    rw [el] at q1
    obtain ⟨v, hv1, hv2⟩ := h3.get el
    refine ⟨.ref l, h1, .inl ⟨rfl, vs, SqL.of h2⟩, l, vs, v, rfl, rfl, h2, by rw [h3.len]; exact hv1, ?_⟩
    obtain ⟨I3, s3⟩ := I.mut e h1 h3.drop1
    exact k v (.d d) ⟨w.G, upd w.H l _, w.F⟩ _ s3 I3 hv2 q1
end
end DL

end
section
set_option maxHeartbeats 4000000
/-! DLH: names with an operator, bools as ints, three names at once, lists unpacked, raise, pairs walked, comprehensions. -/
namespace DL
open PySem PySem.Spec L2
section
variable {X : Cx} {C : DC X} {a b c e tg iter : Expr} {ta tb tc te : TE} {da db dc de : TED} {pos : Pos} {es : List Expr} {tr : TA} {dr : TND}

/-! ### bools as ints -/
def bi (b : Bool) : Int := if b = true then 1 else 0
def rSubU : R2 := fun x y H Q => rI0 (fun i j => .int (i - j)) x y H Q ∨ ∃ p q, x = .bl p ∧ y = .bl q ∧ Q (.int (bi p - bi q)) H
theorem op_subB : OpR X (binaryOp .Sub) (fun x y H Q => ∃ p q, x = .bl p ∧ y = .bl q ∧ Q (.int (bi p - bi q)) H) := by
  intro pins s σ H x y v u Q I rx ry h
  obtain ⟨p, k, rfl, rfl, q⟩ := h
  cases rx
  cases ry
  exact PyProof.Rows.sub_bool ⟨.int (bi p - bi k), H, I.tok _, ⟨_, rfl⟩, q⟩
def dSub (x y : PyData) (k : PyData → Prop) : Prop := match x, y with
  | .int i, .int j => k (.int (i - j))
  | .bool p, .bool q => k (.int (bi p - bi q))
  | _, _ => False
theorem od_subU : OpR X (binaryOp .Sub) rSubU ∧ OpD X C rSubU dSub := by
  refine ⟨opr_or op_sub op_subB, fun w σ ρ u v x y Q kd hA I tx ty h k => ?_⟩
  unfold dSub at h
  split at h
  · cases tx
    cases ty
    exact .inl ⟨_, _, rfl, rfl, k _ _ w (Stp.refl w) I (.int _) h⟩
  · cases tx
    cases ty
    exact .inr ⟨_, _, rfl, rfl, k _ _ w (Stp.refl w) I (.int _) h⟩
  · exact h.elim

/-! ### name op= value -/
theorem od_iadd : OpR X (inplaceOp .Add) (rI0 fun i j => .int (i + j)) ∧ OpD X C (rI0 fun i j => .int (i + j)) (dI0 fun i j => i + j) := ⟨iop_add, opd_I0⟩
theorem od_isub : OpR X (inplaceOp .Sub) (rI0 fun i j => .int (i - j)) ∧ OpD X C (rI0 fun i j => .int (i - j)) (dI0 fun i j => i - j) := ⟨iop_sub, opd_I0⟩
theorem iop_mulW : OpR X (inplaceOp .Mult) (rI CMulW fun i j => .int (i * j)) := opI fun _ _ _ _ _ _ _ hc q => PyProof.Rows.imul_int q hc.ok
theorem od_imul : OpR X (inplaceOp .Mult) (rI CMulW fun i j => .int (i * j)) ∧ OpD X C (rI CMulW fun i j => .int (i * j)) (dI CMulW fun i j => i * j) := ⟨iop_mulW, opd_I⟩
theorem iop_fdivF : OpR X (inplaceOp .FloorDiv) (rI CDivF fun i j => .int (i.fdiv j)) := opI fun _ _ _ _ _ _ _ hc q => PyProof.Rows.ifloordiv_int hc.1 q (.inl (PyProof.noPylong_of_log2 hc.2))
theorem od_ifdiv : OpR X (inplaceOp .FloorDiv) (rI CDivF fun i j => .int (i.fdiv j)) ∧ OpD X C (rI CDivF fun i j => .int (i.fdiv j)) (dI CDivF fun i j => i.fdiv j) := ⟨iop_fdivF, opd_I⟩
def rIAddS : R2 := fun x y H Q => ∃ i j, x = .str i ∧ y = .str j ∧ i.length + j.length ≤ sizeLine ∧ Q (.str (i ++ j)) H
def rIAddU : R2 := fun x y H Q => rI0 (fun i j => .int (i + j)) x y H Q ∨ rIAddS x y H Q
def dIAdd (x y : PyData) (k : PyData → Prop) : Prop := match x, y with
  | .int i, .int j => k (.int (i + j))
  | .str i, .str j => i.length + j.length ≤ sizeLine ∧ k (.str (i ++ j))
  | _, _ => False
theorem od_iaddU : OpR X (inplaceOp .Add) rIAddU ∧ OpD X C rIAddU dIAdd := by
  refine ⟨opr_or iop_add iop_add_str, fun w σ ρ u v x y Q kd hA I tx ty h k => ?_⟩
  unfold dIAdd at h
  split at h
  · cases tx
    cases ty
    exact .inl ⟨_, _, rfl, rfl, k _ _ w (Stp.refl w) I (.int _) h⟩
  · cases tx
    cases ty
    exact .inr ⟨_, _, rfl, rfl, h.1, k _ _ w (Stp.refl w) I (.str _) h.2⟩
  · exact h.elim
def sAug (i : Nat) (de : TED) (f : PyData → PyData → (PyData → Prop) → Prop) : TSD := fun D ρ => match ρ[i]? with
  | some (.val x) => de ρ fun r ρ1 => vw ρ1 r fun y => f x y fun z => D.nx (ρ1.set i (.val z))
  | _ => False
theorem ds_aug (i : Nat) {x : Str} {op : Operator} {r : R2} {f : PyData → PyData → (PyData → Prop) → Prop} {pos' : Pos} (ho : OpR X (inplaceOp op) r ∧ OpD X C r f) (h : DE C e te de) (hi : X.N[i]? = some x := by rfl) (hx : Loc X.env.scope x := by first | exact Or.inl rfl | exact Or.inr rfl)
    (hf : X.fn x = true ∨ X.env.scope.names.lookup x = some .local := by first | exact .inl rfl | exact .inr rfl) : DS C (.AugAssign (.Name x pos') op e pos) (tAug i te r) (sAug i de f) := by
  refine ⟨ps_aug C.nd hi hx h.pe (fun pins s σ H x y v u Q I rx ry h => ho.1 pins s σ H x y v u Q I rx ry h) hf, fun w σ ρ D DD hA I q k => ?_⟩
  have q : (match ρ[i]? with
    | some (.val x) => de ρ fun r ρ1 => vw ρ1 r fun y => f x y fun z => DD.nx (ρ1.set i (.val z))
    | _ => False) := q
  cases e0 : ρ[i]? with
  | none => rw [e0] at q; exact q.elim
  | some s =>
    rw [e0] at q
    cases s with
    | no => exact q.elim
    | own _ _ => exact q.elim
    | res _ _ => exact q.elim
    | val xd =>
      obtain ⟨_, u, e1, hr⟩ := I.ok i _ e0
      refine ⟨u, e1, h.run w σ ρ _ _ hA I q fun v r1 w1 ρ1 s1 I1 R1 q1 => ?_⟩
      obtain ⟨y, ty, q2⟩ := vw_top I1 R1 q1
      refine ho.2 w1 σ ρ1 u v xd y _ _ (C.cl _ _ hA s1) I1 (rep_top I1.gh (rep_mono s1.g _ _ hr)) ty q2 fun z d w2 s2 I2 R2 q3 => ?_
      have z2 := I2.set (i := i) R2
      exact k.nx ⟨w2.G, w2.H, fun j => if j = i then [] else w2.F j⟩ _ _ ((s1.trans s2).trans z2.2) z2.1 q3

/-! ### a, b, c = x, y, z -/
def asThree (ds : List PyData) (k : PyData → PyData → PyData → Prop) : Prop := match ds with | [x, y, z] => k x y z | _ => False
def sPar3 (i j l : Nat) (t : TND) : TSD := fun D ρ => t ρ fun ds ρ1 => asThree ds fun x y z => D.nx (((ρ1.set i (.val x)).set j (.val y)).set l (.val z))
theorem asThree_inv {ds : List PyData} {k : PyData → PyData → PyData → Prop} (h : asThree ds k) : ∃ x y z, ds = [x, y, z] ∧ k x y z := by
  unfold asThree at h
  split at h
  · exact ⟨_, _, _, rfl, h⟩
  · exact h.elim
theorem ds_par3 {i j l : Nat} {x y z : Str} {px py pz pt : Pos} {kt k2 pt2} (ha : DA C [a, b, c] tr dr) (hi : X.N[i]? = some x := by rfl) (hj : X.N[j]? = some y := by rfl) (hl : X.N[l]? = some z := by rfl) (hij : i ≠ j := by decide) (hil : i ≠ l := by decide) (hjl : j ≠ l := by decide)
    (hx : X.env.scope.names.lookup x = some .local := by rfl) (hy : X.env.scope.names.lookup y = some .local := by rfl) (hz : X.env.scope.names.lookup z = some .local := by rfl)
    (hw : swappedStores [.Tuple [.Name x px, .Name y py, .Name z pz] kt pt] (.Tuple [a, b, c] k2 pt2) X.env = pure (some [x, y, z]) := by rfl)
    (hs : swapsWithSole [.Tuple [.Name x px, .Name y py, .Name z pz] kt pt] (.Tuple [a, b, c] k2 pt2) pos.line X.env = pure false := by rfl) :
    DS C (.Assign [.Tuple [.Name x px, .Name y py, .Name z pz] kt pt] (.Tuple [a, b, c] k2 pt2) pos) (tPar3 i j l tr) (sPar3 i j l dr) := by
  refine ⟨ps_par3 C.calm C.nd hi hj hl hij hil hjl hx hy hz ha.pa hw hs, fun w σ ρ D DD hA I q k => ?_⟩
  refine ha.run w σ ρ _ _ hA I q fun vs ds w1 ρ1 s1 I1 R1 q1 => ?_
  obtain ⟨x1, x2, x3, rfl, q2⟩ := asThree_inv q1
  cases R1 with
  | cons r1 R1 =>
    cases R1 with
    | cons r2 R1 =>
      cases R1 with
      | cons r3 R1 =>
        cases R1
        have z1 := I1.set (i := i) r1
        have z2 := z1.1.set (i := j) r2
        have z3 := z2.1.set (i := l) r3
        exact ⟨_, _, _, rfl, k.nx ⟨w1.G, w1.H, fun j' => if j' = l then [] else if j' = j then [] else if j' = i then [] else w1.F j'⟩ _ _ (((s1.trans z1.2).trans z2.2).trans z3.2) z3.1 q2⟩

/-! ### a list unpacked -/
def gLst' (r : TGsD) : TGD := fun x ρ k => match x with | .list xs => r xs ρ k | _ => False
theorem dg_lst {tgs : List Expr} {gs : TGs} {T : List Nat} {ds : TGsD} {k0 : Nat} {n : Nat} (h : DGs C tgs gs T ds) (hn : (assignEach tgs X.env).length = n := by rfl) (hst : (assignEach tgs X.env).findIdx? (·.1) = none := by rfl) :
    DG C (.Tuple tgs k0 pos) (gLst X.K n gs) T (gLst' (lenIs n ds)) := by
  refine ⟨pg_lst C.calm h.pgs hn hst, fun w σ ρ v x Q QD hA I hr q k => ?_⟩
  cases x with
  | list xs =>
    cases hr with
    | lst hs ha =>
      obtain ⟨hl, q⟩ := q
      exact ⟨_, _, rfl, SqL.of (I.gh _ _ hs), by rw [ha.len]; exact hl, h.run w σ ρ _ _ _ _ hA I ha q k⟩
  | _ => exact q.elim

/-! ### raise -/
def sRaise (W : WD) (cls : Addr) : TSD := fun _ ρ => W ⟨cls, []⟩ ρ
theorem ds_raise {cls : Addr} (h : PMk X e (fun _ H Q => Q (.ref cls) none H)) : DS C (.Raise (some e) none pos) (fun _ σ H => C.WH (.ref cls) none σ H) (sRaise C.W cls) :=
  ⟨ps_raise C.calm C.tk h, fun w σ ρ D DD hA I q k => C.hW ⟨cls, []⟩ ρ σ w (.ref cls) none hA I ⟨rfl, .inl ⟨rfl, rfl⟩⟩ q⟩

/-! ### pairs walked -/
def enumD (ds : List PyData) : List PyData := ds.zipIdx.map fun p => .tuple [.int (p.2 : Int), p.1]
def asL1 (ds : List PyData) (k : List PyData → Prop) : Prop := match ds with | [.list xs] => k xs | _ => False
theorem asL1_inv {ds : List PyData} {k : List PyData → Prop} (h : asL1 ds k) : ∃ xs, ds = [.list xs] ∧ k xs := by
  unfold asL1 at h
  split at h
  · exact ⟨_, rfl, h⟩
  · exact h.elim
def enumI (dr : TND) : TND := fun ρ Q => dr ρ fun ds ρ1 => asL1 ds fun xs => Q (enumD xs) ρ1
theorem di_enum {p tpos : Pos} {elts : List Expr} {kk : Nat} (hm : X.mg "enumerate" = none) (ha : DA C [e] tr dr) (hg : Gl X "enumerate" := by rfl) (hs : starEach [e] X.env = [(false, eval e X.env)] := by rfl) :
    DI C (.Tuple elts kk tpos) (.Call (.Name "enumerate" p) [e] [] pos) (iEnum X.K tr) (enumI dr) := by
  refine ⟨pi_enum hg hm ha.pa hs, fun w σ ρ Q QD hA I q k => ?_⟩
  refine ha.run w σ ρ _ _ hA I q fun vs ds w1 ρ1 s1 I1 R1 q1 => ?_
  obtain ⟨xs, rfl, q2⟩ := asL1_inv q1
  cases R1 with
  | cons r R1 =>
    cases R1
    cases r with
    | lst hg hr =>
      rename_i l us
      have len : (enumD xs).length = us.length := by unfold enumD; rw [List.length_map, List.length_zipIdx, hr.len]
      refine ⟨l, us, rfl, SqL.of (I1.gh _ _ hg), k (Ite X.K l) (enumD xs) w1 ρ1 s1 I1 ⟨fun i H hi s => ?_, fun H s => ⟨us, SqL.of (s _ _ hg), by rw [len]; exact Nat.le_refl _⟩, fun i H x H' hi s y => ?_⟩ q2⟩
      · have hi' : i < us.length := by rw [← len]; exact hi
        exact ⟨us, us[i], SqL.of (s _ _ hg), by simp [hi']⟩
      · obtain ⟨T, u, rfl, hT, rfl, hx⟩ := y
        obtain ⟨d, hd, rd⟩ := hr.get' (hx us (SqL.of (s _ _ hg)))
        refine ⟨.tuple [.int (i : Int), d], ?_, .inr ⟨T, _, u, .int (i : Int), d, rfl, hT, rfl, rfl, .int _, rd⟩⟩
        unfold enumD
        rw [List.getElem?_map, List.getElem?_zipIdx, hd]
        simp
def asL2 (ds : List PyData) (k : List PyData → List PyData → Prop) : Prop := match ds with | [.list xs, .list ys] => k xs ys | _ => False
theorem asL2_inv {ds : List PyData} {k : List PyData → List PyData → Prop} (h : asL2 ds k) : ∃ xs ys, ds = [.list xs, .list ys] ∧ k xs ys := by
  unfold asL2 at h
  split at h
  · exact ⟨_, _, rfl, h⟩
  · exact h.elim
def zipD (xs ys : List PyData) : List PyData := (xs.zip ys).map fun p => .tuple [p.1, p.2]
def zipI (dr : TND) : TND := fun ρ Q => dr ρ fun ds ρ1 => asL2 ds fun xs ys => Q (zipD xs ys) ρ1
theorem di_zip {p tpos : Pos} {elts : List Expr} {kk : Nat} {e2 : Expr} (hm : X.mg "zip" = none) (ha : DA C [e, e2] tr dr) (hg : Gl X "zip" := by rfl) (hs : starEach [e, e2] X.env = (false, eval e X.env) :: starEach [e2] X.env := by rfl) (hpl : (backTo pos (starEach [e2] X.env)).any (·.1) = false := by rfl) :
    DI C (.Tuple elts kk tpos) (.Call (.Name "zip" p) [e, e2] [] pos) (iZip X.K tr) (zipI dr) := by
  refine ⟨pi_zip hg hm ha.pa hs hpl, fun w σ ρ Q QD hA I q k => ?_⟩
  refine ha.run w σ ρ _ _ hA I q fun vs ds w1 ρ1 s1 I1 R1 q1 => ?_
  obtain ⟨xs, ys, rfl, q2⟩ := asL2_inv q1
  cases R1 with
  | cons r R1 =>
    cases R1 with
    | cons r' R1 =>
      cases R1
      cases r with
      | lst hg1 hr1 =>
        cases r' with
        | lst hg2 hr2 =>
          rename_i l us m ws
          have len : (zipD xs ys).length = min us.length ws.length := by unfold zipD; rw [List.length_map, List.length_zip, hr1.len, hr2.len]
          refine ⟨l, m, us, ws, rfl, SqL.of (I1.gh _ _ hg1), SqL.of (I1.gh _ _ hg2), k (Itz X.K l m) (zipD xs ys) w1 ρ1 s1 I1 ⟨fun i H hi s => ?_, fun H s => ⟨us, ws, SqL.of (s _ _ hg1), SqL.of (s _ _ hg2), by rw [len]; omega⟩, fun i H x H' hi s y => ?_⟩ q2⟩
          · rw [len] at hi
            have h1 : i < us.length := by omega
            have h2 : i < ws.length := by omega
            exact ⟨us, ws, us[i], ws[i], SqL.of (s _ _ hg1), SqL.of (s _ _ hg2), by simp [h1], by simp [h2]⟩
          · obtain ⟨T, u, v, rfl, hT, rfl, hx, hy⟩ := y
            obtain ⟨d, hd, rd⟩ := hr1.get' (hx us (SqL.of (s _ _ hg1)))
            obtain ⟨d', hd', rd'⟩ := hr2.get' (hy ws (SqL.of (s _ _ hg2)))
            refine ⟨.tuple [d, d'], ?_, .inr ⟨T, u, v, d, d', rfl, hT, rfl, rfl, rd, rd'⟩⟩
            unfold zipD
            rw [List.getElem?_map, (List.getElem?_zip_eq_some (z := (d, d'))).mpr ⟨hd, hd'⟩]
            rfl

/-! ### comprehensions -/
def wipeD (ρ : DSt) : List Nat → DSt
  | [] => ρ
  | v :: vs => (wipeD ρ vs).set v .no
theorem FI.wipe {K : PySem.W.Frag} {P : Par} {σ : St} : ∀ {vs : List Nat} {w : Wd} {ρ : DSt}, FI K P w σ ρ → ∃ w', w'.G = w.G ∧ w'.H = w.H ∧ FI K P w' σ (wipeD ρ vs) ∧ Stp w w' ∧ ∀ i b, b ∈ w'.F i → b ∈ w.F i
  | [], w, ρ, I => ⟨w, rfl, rfl, I, Stp.refl w, fun _ _ h => h⟩
  | v :: vs, w, ρ, I => by
    obtain ⟨w1, g, h, I1, s1, f1⟩ := FI.wipe (vs := vs) I
    obtain ⟨I2, s2⟩ := I1.drop v
    refine ⟨⟨w1.G, w1.H, fun j => if j = v then [] else w1.F j⟩, g, h, I2, s1.trans s2, fun i b hb => f1 i b ?_⟩
    have hb : b ∈ (if i = v then ([] : List Addr) else w1.F i) := hb
    by_cases e : i = v
    · rw [if_pos e] at hb; cases hb
    · rw [if_neg e] at hb; exact hb
theorem wipeD_len (ρ : DSt) : ∀ vs : List Nat, (wipeD ρ vs).length = ρ.length
  | [] => rfl
  | v :: vs => by unfold wipeD; rw [List.length_set, wipeD_len ρ vs]
theorem wipeD_in {ρ : DSt} {i : Nat} {s : SD} : ∀ {vs : List Nat}, (wipeD ρ vs)[i]? = some s → i ∈ vs → s = .no
  | v :: vs, h, hm => by
    unfold wipeD at h
    by_cases e : v = i
    · subst e
      have hlt : v < (wipeD ρ vs).length := by
        rcases Nat.lt_or_ge v (wipeD ρ vs).length with q | q
        · exact q
        · rw [List.getElem?_eq_none (by rw [List.length_set]; exact q)] at h; cases h
      rw [List.getElem?_set_self hlt] at h
      cases h; rfl
    · rw [List.getElem?_set_ne e] at h
      exact wipeD_in h (by rcases List.mem_cons.mp hm with q | q; exact absurd q.symm e; exact q)
theorem wipe_in {σ : St} {i : Nat} : ∀ {vs : List Nat}, i ∈ vs → (L2.wipe σ vs)[i]? = if i < σ.length then some none else none
  | v :: vs, h => by
    show ((L2.wipe σ vs).set v none)[i]? = _
    by_cases e : v = i
    · subst e
      rw [List.getElem?_set, if_pos rfl, wipe_length]
    · rw [List.getElem?_set_ne e]
      exact wipe_in (by rcases List.mem_cons.mp h with q | q; exact absurd q.symm e; exact q)
theorem wipe_idem (σ : St) (vs : List Nat) : L2.wipe (L2.wipe σ vs) vs = L2.wipe σ vs := by
  refine List.ext_getElem? fun i => ?_
  by_cases h : i ∈ vs
  · rw [wipe_in h, wipe_in h, wipe_length]
  · rw [wipe_out h, wipe_out h]
/-- the block's slots: what was wiped may hold anything -/
theorem FI.other {K : PySem.W.Frag} {P : Par} {w : Wd} {σ σ' : St} {ρ : DSt} {vs : List Nat} (I : FI K P w σ ρ) (hn : ∀ i ∈ vs, ∀ s, ρ[i]? = some s → s = .no) (hl : σ'.length = σ.length) (he : ∀ i, i ∉ vs → σ'[i]? = σ[i]?) : FI K P w σ' ρ := by
  refine ⟨I.gh, by rw [hl]; exact I.len, fun i s e => ?_, I.out, I.foot, I.sep⟩
  by_cases hi : i ∈ vs
  · have := hn i hi s e
    subst this
    exact I.ok i _ e
  · rw [he i hi]
    exact I.ok i s e
/-- the context of a comprehension's block: no exception comes out of it -/
def DC.blk {X : Cx} (C : DC X) (s : Shared) (H : Hp) (scope : Scope) (cenv : Env) (fp : List Addr) : DC (X.blk s H scope cenv fp) :=
  { P := C.P, A := C.A, cl := C.cl, nw := C.nw, gd := C.gd, calm := C.calm, nd := C.nd, un := C.un, W := fun _ _ => False, WH := fun _ _ _ _ => False,
    tk := fun u s' ⟨_, _, _, _, _, _, _, _, _, _, _, _, _, _, _, _, w⟩ => w, hW := fun _ _ _ _ _ _ _ _ _ h => h }
def lcD (vs : List Nat) (g : TGD) (t : TTD) (te : TED) : List PyData → List PyData → DSt → (List PyData → DSt → Prop) → Prop
  | [], acc, ρ, Q => Q acc ρ
  | x :: xs, acc, ρ, Q => g x ρ fun ρ1 => t ρ1 fun b ρ2 => match b with
    | true => te ρ2 fun r ρ3 => frz ρ3 r fun d ρ4 => acc.length < sizeLine ∧ lcD vs g t te xs (acc ++ [d]) (wipeD ρ4 vs) Q
    | false => lcD vs g t te xs acc (wipeD ρ2 vs) Q
def nLc (vs : List Nat) (ti : TND) (g : TGD) (t : TTD) (te : TED) : TND := fun ρ Q => ti ρ fun items ρ1 => lcD vs g t te items [] (wipeD ρ1 vs) Q
def dYes : TTD := fun ρ Q => Q true ρ
/-- the tests of a clause -/
structure DTs (C : DC X) (ifs : List Expr) (tt : TT) (t : TTD) : Prop where
  pts : PTs X ifs tt
  run : ∀ (w : Wd) (σ : St) (ρ : DSt) (Q : Bool → Hp → Prop) (QD : Bool → DSt → Prop), C.A w → FI X.K C.P w σ ρ → t ρ QD →
    (∀ b w' ρ', Stp w w' → FI X.K C.P w' σ ρ' → QD b ρ' → Q b w'.H) → tt σ w.H Q
theorem dts_nil : DTs C [] tYes dYes := ⟨pts_nil, fun w σ ρ Q QD hA I q k => k true w ρ (Stp.refl w) I q⟩
theorem dts_one {ua : TT} {xa : TTD} (h : DT C c ua xa) : DTs C [c] ua xa := ⟨pts_one h.pt, h.run⟩
abbrev BlkEnv (X : Cx) (scope : Scope) (cl : List (Str × Addr)) (Ca : Addr) : Env := compEnvC scope cl Ca X.env
section
variable {elt : Expr} {ifs : List Expr} {scope : Scope} {own : List (Str × Nat)} {wi : TI} {ti : TND} {g : TG} {T : List Nat} {d : TGD} {tt : TT} {t : TTD}
theorem lc_run (hi : DI C tg iter wi ti)
    (hg : ∀ (s : Shared) (H : Hp) (Ca : Addr) (cl : List (Str × Addr)) (fp : List Addr), DG (C.blk s H scope (compEnvC scope cl Ca X.env) fp) tg g T d)
    (ht : ∀ (s : Shared) (H : Hp) (Ca : Addr) (cl : List (Str × Addr)) (fp : List Addr), DTs (C.blk s H scope (compEnvC scope cl Ca X.env) fp) ifs tt t)
    (he : ∀ (s : Shared) (H : Hp) (Ca : Addr) (cl : List (Str × Addr)) (fp : List Addr), DE (C.blk s H scope (compEnvC scope cl Ca X.env) fp) elt te de) (hT : ∀ i ∈ T, i ∈ own.map (·.2)) :
    ∀ (w : Wd) (σ : St) (ρ : DSt) (Q : VK) (QD : List PyData → DSt → Prop), C.A w → FI X.K C.P w σ ρ → nLc (own.map (·.2)) ti d t de ρ QD →
    (∀ a vs ds w' ρ', Stp w w' → FI X.K C.P w' σ ρ' → w.H a = none → w'.G a = none → (∀ i, a ∉ w'.F i) → w'.H a = some (.lst vs) → Reps X.K w'.G vs ds → QD ds ρ' → Q (.ref a) w'.H) → tLc wi g tt te (own.map (·.2)) σ w.H Q := by
  intro w σ ρ Q QD hA I q k
  have gg := hg X.s_0 X.H_0 0 [] []
  have tt' := ht X.s_0 X.H_0 0 [] []
  have ee := he X.s_0 X.H_0 0 [] []
  refine hi.run w σ ρ _ _ hA I q fun J items w1 ρ1 s1 I1 WK q1 D hD => ?_
  obtain ⟨v1, g1, h1, J1, s2, f1⟩ := FI.wipe (vs := own.map (·.2)) I1
  have hD1 : v1.H D = none := by rw [h1]; exact hD
  obtain ⟨J2, s3⟩ := FI.air J1 (o := .lst []) hD1
  have s03 := s2.trans s3
  refine ⟨fun i m H' => m = items.length - i ∧ i ≤ items.length ∧ ∃ w' ρ' us ds, w'.H = H' ∧ Stp v1 w' ∧ FI X.K C.P w' σ ρ' ∧ w'.H D = some (.lst us) ∧ Reps X.K w'.G us ds ∧ w'.G D = none ∧ (∀ i, D ∉ w'.F i) ∧
    (∀ j ∈ own.map (·.2), ∀ s, ρ'[j]? = some s → s = .no) ∧ lcD (own.map (·.2)) d t de (items.drop i) ds ρ' QD,
    ⟨items.length, by simp, Nat.zero_le _, ⟨v1.G, upd v1.H D (.lst []), v1.F⟩, wipeD ρ1 (own.map (·.2)), [], [], by rw [h1], s3, J2, upd_same, .nil, (J1.fresh hD1).1, fun i z => (J1.fresh hD1).2 i D z rfl, fun j hj s e => wipeD_in e hj, by rw [List.drop_zero]; exact q1⟩, ?_⟩
  rintro i m H' ⟨rfl, hi2, w2, ρ2, us, ds, rfl, s4, I2, hD2, R2, hG2, hF2, hno, q2⟩
  have hA2 := C.cl _ _ (C.cl _ _ (C.cl _ _ hA s1) s2) s4
  have g12 : Same w1.G w2.G := fun b o h => s4.g b o (by rw [g1]; exact h)
  have gH : Same w1.G w2.H := fun b o h => I2.gh b o (g12 b o h)
  by_cases hlt : i < items.length
  · refine .inr ⟨WK.go i _ hlt gH, fun H' => ∃ w' ρ' us ds, w'.H = H' ∧ Stp v1 w' ∧ FI X.K C.P w' σ ρ' ∧ w'.H D = some (.lst us) ∧ Reps X.K w'.G us ds ∧ w'.G D = none ∧ (∀ i, D ∉ w'.F i) ∧
      (∀ j ∈ own.map (·.2), ∀ s, ρ'[j]? = some s → s = .no) ∧ lcD (own.map (·.2)) d t de (items.drop (i + 1)) ds ρ' QD, fun H' h => ⟨items.length - (i + 1), by omega, rfl, hlt, h⟩, fun x H' y => ?_⟩
    obtain ⟨z, w3, hz, rfl, s5, I3, r3⟩ := item_come WK I2 g12 hlt y
    have ed : items.drop i = z :: items.drop (i + 1) := by
      have e1 := List.getElem?_eq_some_iff.mp hz
      rw [List.drop_eq_getElem_cons hlt, e1.2]
    rw [ed] at q2
    have I3' : FI X.K C.P w3 (L2.wipe σ (own.map (·.2))) ρ2 := I3.other hno (wipe_length σ _) fun i hi => wipe_out hi
    refine gg.run w3 _ ρ2 x z _ _ (C.cl _ _ hA2 s5) I3' r3 q2 fun w4 σ4 ρ4 s6 I4 e4 q4 => ?_
    have e4 : L2.wipe σ4 (own.map (·.2)) = L2.wipe σ (own.map (·.2)) := (e4 _ hT).trans (wipe_idem σ _)
    refine ⟨e4, tt'.run w4 σ4 ρ4 _ _ (C.cl _ _ (C.cl _ _ hA2 s5) s6) I4 q4 fun b w5 ρ5 s7 I5 q5 => ?_⟩
    have s57 := (s5.trans s6).trans s7
    -- what stays of D
    have fin : ∀ (w6 : Wd) (ρ6 : DSt), Stp w2 w6 → FI X.K C.P w6 σ4 ρ6 → w6.H D = some (.lst us) ∧ w6.G D = none ∧ (∀ i, D ∉ w6.F i) ∧ ∃ w7, w7.G = w6.G ∧ w7.H = w6.H ∧ FI X.K C.P w7 σ (wipeD ρ6 (own.map (·.2))) ∧ Stp w2 w7 ∧ (∀ i, D ∉ w7.F i) := by
      intro w6 ρ6 s I6
      have hF6 : ∀ i, D ∉ w6.F i := fun i z => by
        rcases s.f i D z with q | q
        · exact hF2 i q
        · rw [hD2] at q; cases q
      obtain ⟨w7, g7, h7, I7, s8, f7⟩ := FI.wipe (vs := own.map (·.2)) I6
      have hl : σ.length = σ4.length := by rw [← wipe_length σ (own.map (·.2)), ← e4, wipe_length]
      refine ⟨s.h D _ hD2 hF2, s.gf D (by rw [hD2]; exact fun z => nomatch z) hG2 hF2, hF6, w7, g7, h7, I7.other (fun j hj s e => wipeD_in e hj) hl fun j hj => ?_, s.trans s8, fun i z => hF6 i (f7 i D z)⟩
      rw [← wipe_out (σ := σ) hj, ← e4, wipe_out hj]
    cases b with
    | false =>
      rw [if_neg Bool.false_ne_true]
      obtain ⟨a1, a2, a3, w7, g7, h7, I7, s7', f7⟩ := fin w5 ρ5 s57 I5
      exact ⟨w7, _, us, ds, h7, s4.trans s7', I7, by rw [h7]; exact a1, by rw [g7]; exact reps_mono s57.g _ _ R2, by rw [g7]; exact a2, f7, fun j hj s e => wipeD_in e hj, q5⟩
    | true =>
      rw [if_pos rfl]
      refine ee.run w5 σ4 ρ5 _ _ (C.cl _ _ hA2 s57) I5 q5 fun v r w6 ρ6 s8 I6 R6 q6 => ?_
      obtain ⟨dd, ρ7, w7, I7, s9, hh, hrep, q7⟩ := frz_ok I6 R6 q6
      obtain ⟨hsz, q7⟩ := q7
      have s79 := (s57.trans s8).trans s9
      obtain ⟨a1, a2, a3, w8, g8, h8, I8, s8', f8⟩ := fin w7 ρ7 s79 I7
      have RR : Reps X.K w8.G us ds := by rw [g8]; exact reps_mono s79.g _ _ R2
      have hG8 : w8.G D = none := by rw [g8]; exact a2
      refine ⟨us, by rw [← hh]; exact a1, by rw [RR.len]; exact hsz, ⟨w8.G, upd w8.H D (.lst (us ++ [v])), w8.F⟩, _, us ++ [v], ds ++ [dd], by rw [h8, hh], ?_, ?_, upd_same, RR.app (.cons (by rw [g8]; exact hrep) .nil), hG8, f8, fun j hj s e => wipeD_in e hj, q7⟩
      · have S := s4.trans s8'
        exact ⟨S.g, S.gf, fun b o h n => by
          show upd w8.H D _ b = some o
          rw [upd_ne (ne_of_none h hD1)]
          exact S.h b o h n, fun b h => there_new b (S.t b h), S.f⟩
      · refine ⟨fun b o h => ?_, I8.len, fun i s e => (I8.ok i s e).go (fun _ _ h => h) fun b hb o h => ?_, I8.out, fun i b hb => ⟨(I8.foot i b hb).1, there_new b (I8.foot i b hb).2⟩, I8.sep⟩
        · show upd w8.H D _ b = some o
          rw [upd_ne (ne_of_none h hG8)]
          exact I8.gh b o h
        · show upd w8.H D _ b = some o
          rw [upd_ne (fun z => f8 i (by rw [← z]; exact hb))]
          exact h
  · have e : i = items.length := by omega
    subst e
    rw [List.drop_length] at q2
    have hw : w.H D = none := by
      cases e0 : w.H D with
      | none => rfl
      | some o => exact absurd hD (s1.t D (by rw [e0]; exact fun z => nomatch z))
    exact .inl ⟨WK.stop _ gH, k D us ds w2 ρ2 ((s1.trans s2).trans s4) I2 hw hG2 hF2 hD2 R2 q2⟩
theorem dn_lc (own : List (Str × Nat)) (hi : DI C tg iter wi ti) (ok : blkC X.N X.env.scope scope own = true)
    (hg : ∀ (s : Shared) (H : Hp) (Ca : Addr) (cl : List (Str × Addr)) (fp : List Addr), DG (C.blk s H scope (compEnvC scope cl Ca X.env) fp) tg g T d)
    (ht : ∀ (s : Shared) (H : Hp) (Ca : Addr) (cl : List (Str × Addr)) (fp : List Addr), DTs (C.blk s H scope (compEnvC scope cl Ca X.env) fp) ifs tt t)
    (he : ∀ (s : Shared) (H : Hp) (Ca : Addr) (cl : List (Str × Addr)) (fp : List Addr), DE (C.blk s H scope (compEnvC scope cl Ca X.env) fp) elt te de) (hT : ∀ i ∈ T, i ∈ own.map (·.2) := by decide) (hs : ∀ x, foldedSetIterable iter X.env x = pure x := by intro _; rfl) :
    DN C (.ListComp elt [⟨tg, iter, ifs, 0⟩] scope pos) (tLc wi g tt te (own.map (·.2))) (nLc (own.map (·.2)) ti d t de) :=
  ⟨pe_lc C.calm C.nd hi.pi (blkOk_by ok) (fun s H Ca cl fp => (hg s H Ca cl fp).pg) (fun s H Ca cl fp => (ht s H Ca cl fp).pts) (fun s H Ca cl fp => (he s H Ca cl fp).pe) hs, lc_run hi hg ht he hT⟩
/-- name = [..], all on one line -/
theorem ds_setLc (i : Nat) (own : List (Str × Nat)) {y : Str} {py spos : Pos} (hi : DI C tg iter wi ti) (ok : blkC X.N X.env.scope scope own = true)
    (hg : ∀ (s : Shared) (H : Hp) (Ca : Addr) (cl : List (Str × Addr)) (fp : List Addr), DG (C.blk s H scope (compEnvC scope cl Ca X.env) fp) tg g T d)
    (ht : ∀ (s : Shared) (H : Hp) (Ca : Addr) (cl : List (Str × Addr)) (fp : List Addr), DTs (C.blk s H scope (compEnvC scope cl Ca X.env) fp) ifs tt t)
    (he : ∀ (s : Shared) (H : Hp) (Ca : Addr) (cl : List (Str × Addr)) (fp : List Addr), DE (C.blk s H scope (compEnvC scope cl Ca X.env) fp) elt te de) (hT : ∀ i ∈ T, i ∈ own.map (·.2) := by decide)
    (hy : X.N[i]? = some y := by rfl) (hyl : X.env.scope.names.lookup y = some .local := by rfl) (hsw : swapsWith (.ListComp elt [⟨tg, iter, ifs, 0⟩] scope pos) (some (.Name y py)) spos.line X.env = pure true := by rfl) (hs : ∀ x, foldedSetIterable iter X.env x = pure x := by intro _; rfl) :
    DS C (.Assign [.Name y py] (.ListComp elt [⟨tg, iter, ifs, 0⟩] scope pos) spos) (tAsg (tLc wi g tt te (own.map (·.2))) (gName i)) (sOwn i (nLc (own.map (·.2)) ti d t de)) := by
  refine ⟨ps_setLc C.calm C.nd hy hyl hsw hi.pi (blkOk_by ok) (fun s H Ca cl fp => (hg s H Ca cl fp).pg) (fun s H Ca cl fp => (ht s H Ca cl fp).pts) (fun s H Ca cl fp => (he s H Ca cl fp).pe) hs, fun w σ ρ D DD hA I q k => ?_⟩
  refine lc_run hi hg ht he hT w σ ρ _ _ hA I q fun a vs ds w1 ρ1 s1 I1 n0 hg hf' hh hr q1 => ?_
  have z := I1.setOwn (i := i) hf' hg hh hr (C.nw w a hA n0) q1.1
  refine k.nx ⟨w1.G, w1.H, fun j => if j = i then [a] else w1.F j⟩ _ _ ⟨s1.g, s1.gf, s1.h, s1.t, fun j b hb => ?_⟩ z q1.2
  have hb : b ∈ (if j = i then [a] else w1.F j) := hb
  by_cases e : j = i
  · rw [if_pos e] at hb
    have : b = a := by simpa using hb
    rw [this]; exact .inr n0
  · rw [if_neg e] at hb
    exact s1.f j b hb
end
end
end DL

end
section
set_option maxHeartbeats 4000000
/-! DLI: calls by the callee's record, the script's slices, a module's constants, a def behind a head. -/
namespace DL
open PySem PySem.Spec L2
open PyProof.Rows (envOfC)
/-- a def that may be called by the name x -/
structure CalD (P : Program) (w : World) (K : PySem.W.Frag) (mg : Str → Option Value) (base : Heap) (k : Nat) (x : Str) (ps : List Str) (p : DSp) : Prop where
  ex : ∃ f fd, FnD P w K mg base k f fd ps p ∧ mg x = some (.ref f) ∧ PySem.W.keepIn K (.ref f) = true ∧ Binds K fd ps []
theorem CalD.mono {P : Program} {w : World} {K : PySem.W.Frag} {mg : Str → Option Value} {base : Heap} {j k : Nat} {x : Str} {ps : List Str} {p : DSp} (F : CalD P w K mg base j x ps p) (h : j ≤ k) : CalD P w K mg base k x ps p := by
  obtain ⟨f, fd, a, b⟩ := F.ex
  exact ⟨f, fd, a.mono h, b⟩
section
variable {X : Cx} {k : Nat} {ps : List Str} {p : DSp} {x : Str} {px pos : Pos} {e : Expr} {es : List Expr} {ta : TA} {C : DC X} {dr : TND}
theorem de_callC (F : CalD X.prog X.w X.K X.mg X.base k x ps p) (hr : Room k X.A) (ha : DA C (e :: es) ta dr) (hg : Gl X x := by rfl) (hdb : (x == ("__debug__" : Str)) = false := by decide)
    (he : starEach (e :: es) X.env = (false, eval e X.env) :: starEach es X.env := by rfl) (hpl : (backTo pos (starEach es X.env)).any (·.1) = false := by rfl) :
    DE C (.Call (.Name x px) (e :: es) [] pos) (tCallS (spOf X.K p) (WE C.WH) ta) (dCall p C.W dr) := by
  obtain ⟨f, fd, F, hm, hk, hb⟩ := F.ex
  exact de_call F hr hg hm hk hb ha hdb he hpl
theorem dn_callC (F : CalD X.prog X.w X.K X.mg X.base k x ps p) (hr : Room k X.A) (ha : DA C (e :: es) ta dr) (hg : Gl X x := by rfl) (hdb : (x == ("__debug__" : Str)) = false := by decide)
    (he : starEach (e :: es) X.env = (false, eval e X.env) :: starEach es X.env := by rfl) (hpl : (backTo pos (starEach es X.env)).any (·.1) = false := by rfl) :
    DN C (.Call (.Name x px) (e :: es) [] pos) (tCallS (spOf X.K p) (WE C.WH) ta) (nCall p C.W dr) := by
  obtain ⟨f, fd, F, hm, hk, hb⟩ := F.ex
  exact dn_call F hr hg hm hk hb ha hdb he hpl
variable {y : Str} {py : Pos}
theorem de_callLC (i : Nat) (F : CalD X.prog X.w X.K X.mg X.base k x ps p) (hr : Room k X.A) (ha : DA C es ta dr) (hg : Gl X x := by rfl)
    (hN : X.N[i]? = some y := by rfl) (hv : Vis X.env.scope y := by first | exact Or.inl rfl | exact Or.inr (Or.inl rfl) | exact Or.inr (Or.inr rfl)) (hd : (y == ("__debug__" : Str)) = false := by decide) (hcd : (y == ("__classdict__" : Str)) = false := by decide)
    (hdb : (x == ("__debug__" : Str)) = false := by decide) (he : starEach (.Name y py :: es) X.env = (false, eval (.Name y py) X.env) :: starEach es X.env := by rfl) (hpl : (backTo pos (starEach es X.env)).any (·.1) = false := by rfl) :
    DE C (.Call (.Name x px) (.Name y py :: es) [] pos) (tCallS (spOf X.K p) (WE C.WH) (tCons (tVar i) ta)) (withLent i (dCallL p C.W i dr)) := by
  obtain ⟨f, fd, F, hm, hk, hb⟩ := F.ex
  exact de_callL i F hr hg hm hk hb ha hN hv hd hcd hdb he hpl
theorem dn_callLC (i : Nat) (F : CalD X.prog X.w X.K X.mg X.base k x ps p) (hr : Room k X.A) (ha : DA C es ta dr) (hg : Gl X x := by rfl)
    (hN : X.N[i]? = some y := by rfl) (hv : Vis X.env.scope y := by first | exact Or.inl rfl | exact Or.inr (Or.inl rfl) | exact Or.inr (Or.inr rfl)) (hd : (y == ("__debug__" : Str)) = false := by decide) (hcd : (y == ("__classdict__" : Str)) = false := by decide)
    (hdb : (x == ("__debug__" : Str)) = false := by decide) (he : starEach (.Name y py :: es) X.env = (false, eval (.Name y py) X.env) :: starEach es X.env := by rfl) (hpl : (backTo pos (starEach es X.env)).any (·.1) = false := by rfl) :
    DN C (.Call (.Name x px) (.Name y py :: es) [] pos) (tCallS (spOf X.K p) (WE C.WH) (tCons (tVar i) ta)) (withLentN i (nCallL p C.W i dr)) := by
  obtain ⟨f, fd, F, hm, hk, hb⟩ := F.ex
  exact dn_callL i F hr hg hm hk hb ha hN hv hd hcd hdb he hpl

/-! ### the script's slices -/
def scrK (ρ : DSt) (i : Nat) (k : List Int → Prop) : Prop := ∃ ns, ρ[i]? = some (.res true (scriptR ns)) ∧ k ns
def nScr (i : Nat) (tl th : TOD) : TND := fun ρ Q => scrK ρ i (fun _ => True) ∧ tl ρ fun lo ρ2 => th ρ2 fun hi ρ3 => scrK ρ3 i fun ns => Q (cutD (ns.map PyData.int) lo hi) ρ3
variable {lo hi : Option Expr} {tl th : TO} {dl dh : TOD} {p2 : Pos}
theorem scr_at {K : PySem.W.Frag} {P : Par} {w : Wd} {σ : L2.St} {ρ : DSt} {i : Nat} {k : List Int → Prop} (I : FI K P w σ ρ) (h : scrK ρ i k) : ∃ a ns, σ[i]? = some (some (.ref a)) ∧ SqL K w.G a (ns.map V.int) ∧ k ns := by
  obtain ⟨ns, e, q⟩ := h
  obtain ⟨a, h1, h2, _⟩ := I.ok i _ e
  exact ⟨a, ns, h1, h2.2, q⟩
theorem reps_int {K : PySem.W.Frag} {G : Hp} : ∀ ns : List Int, Reps K G (ns.map V.int) (ns.map PyData.int)
  | [] => .nil
  | n :: ns => .cons (.int n) (reps_int ns)
theorem dn_scr (i : Nat) (hl : DO C lo tl dl) (hh : DO C hi th dh) (hN : X.N[i]? = some y := by rfl) (hv : Vis X.env.scope y := by first | exact Or.inl rfl | exact Or.inr (Or.inl rfl) | exact Or.inr (Or.inr rfl)) (hd : (y == ("__debug__" : Str)) = false := by decide) (hcd : (y == ("__classdict__" : Str)) = false := by decide) :
    DN C (.Subscript (.Name y py) (.Slice lo hi none p2) pos) (tSl (rSlL X.K) (tVar i) tl th) (nScr i dl dh) := by
  refine ⟨pe_slice sl_list (pe_var hN hv hd hcd) hl.po hh.po, fun w σ ρ Q QD hA I q k => ?_⟩
  obtain ⟨q0, q⟩ := q
  obtain ⟨a, ns0, h1, _, _⟩ := scr_at I q0
  refine ⟨.ref a, h1, ?_⟩
  refine hl.run w σ ρ _ _ hA I q fun l w2 ρ2 s2 I2 q2 => ?_
  refine hh.run w2 σ ρ2 _ _ (C.cl _ _ hA s2) I2 q2 fun h w3 ρ3 s3 I3 q3 => ?_
  have s23 := s2.trans s3
  obtain ⟨a', ns, h2, hs, q4⟩ := scr_at I3 q3
  rw [h1] at h2
  cases h2
  refine ⟨a, ns.map V.int, rfl, sql_mono I3.gh hs, fun p hp => ?_⟩
  obtain ⟨I4, s4⟩ := FI.air I3 (o := .lst (cutV (ns.map V.int) l h)) hp
  exact k p (cutV (ns.map V.int) l h) (cutD (ns.map PyData.int) l h) ⟨w3.G, upd w3.H p _, w3.F⟩ ρ3 (s23.trans s4) I4 (air_new s23 hp) (I3.fresh hp).1 (fun i z => (I3.fresh hp).2 i p z rfl) upd_same (cut_reps (reps_int ns) l h) q4

/-! ### a module's constants -/
theorem de_gtup {x : Str} {u : Addr} {vs : List V} {ds : List PyData} (hm : X.mg x = some (.ref u)) (ht : ∀ H : Hp, SqT X.K H u vs) (hr : ∀ G, Reps X.K G vs ds) (hg : Gl X x := by rfl) (hd : (x == ("__debug__" : Str)) = false := by decide) : DE C (.Name x pos) (tC (.ref u)) (dC (.tuple ds)) :=
  de_glob hg hm rfl (fun G => .tup (ht G) (hr G)) hd
theorem de_gint {x : Str} {i : Int} (hm : ∃ t, X.mg x = some (.int i t)) (hg : Gl X x := by rfl) (hd : (x == ("__debug__" : Str)) = false := by decide) : DE C (.Name x pos) (tC (.int i)) (dC (.int i)) := by
  obtain ⟨t, hm⟩ := hm
  exact de_glob hg hm ⟨t, rfl⟩ (fun _ => .int i) hd
theorem de_gstr {x z : Str} (hm : ∃ t, X.mg x = some (.str z t)) (hg : Gl X x := by rfl) (hd : (x == ("__debug__" : Str)) = false := by decide) : DE C (.Name x pos) (tC (.str z)) (dC (.str z)) := by
  obtain ⟨t, hm⟩ := hm
  exact de_glob hg hm ⟨t, rfl⟩ (fun _ => .str z) hd
end
/-! ### own exceptions of a text -/
/-- an own exception class of the ValueError kind, by the name x -/
structure ExcD (K : PySem.W.Frag) (mg : Str → Option Value) (x : Str) (cls : Addr) : Prop where
  q : PySem.W.excIn K cls He.veBase "ValueError.__new__" = true
  g : mg x = some (.ref cls)
  k : PySem.W.keepIn K (.ref cls) = true
  s : PySem.W.subIn K (.ref cls) (.type "BaseException") = some true
  t : PySem.W.typeIn K (.ref cls) = some (.type "type")
section
variable {X : Cx} {C : DC X} {pos p p2 pos2 : Pos} {x m : Str} {cls : Addr} {j : Nat}
theorem ds_raiseC (h : ExcD X.K X.mg x cls) (hg : Gl X x := by rfl) (hdb : (x == ("__debug__" : Str)) = false := by decide) : DS C (.Raise (some (.Call (.Name x p) [.Constant (.str m) j p2] [] pos2)) none pos) (fun _ σ H => C.WH (.ref cls) none σ H) (sRaise C.W cls) :=
  ds_raise (pmk_own PySem.F.excBase_ValueError h.q h.g h.k (raises_own h.s h.t) hg hdb)
end
theorem body_of {X : Cx} {C : DC X} {body : List Stmt} {ts : TS} {t : TSD} {D : DEnds} {ρ : DSt} (h : DSs C body ts t) (h2 : t D ρ) : ∃ ts t, DSs C body ts t ∧ t D ρ := ⟨ts, t, h, h2⟩
/-! ### the names that gen.py prints -/
abbrev W0 : WD := fun _ _ => False
abbrev dLt : PyData → PyData → (PyData → Prop) → Prop := dB0 fun i j => decide (i < j)
abbrev dLe : PyData → PyData → (PyData → Prop) → Prop := dB0 fun i j => decide (i ≤ j)
abbrev dGt : PyData → PyData → (PyData → Prop) → Prop := dB0 fun i j => decide (j < i)
abbrev dGe : PyData → PyData → (PyData → Prop) → Prop := dB0 fun i j => decide (j ≤ i)
abbrev dMul : PyData → PyData → (PyData → Prop) → Prop := dI CMulW fun i j => i * j
abbrev dFdiv : PyData → PyData → (PyData → Prop) → Prop := dI CDivF fun i j => i.fdiv j
abbrev dMod : PyData → PyData → (PyData → Prop) → Prop := dI (fun _ j => j ≠ 0) fun i j => i.fmod j
abbrev dPow : PyData → PyData → (PyData → Prop) → Prop := dI CPow fun i j => i ^ j.toNat
abbrev dISub : PyData → PyData → (PyData → Prop) → Prop := dI0 fun i j => i - j
/-! ### a def behind a head by facts -/
theorem FunD.okD {P : Program} {w : World} {K : PySem.W.Frag} {mg : Str → Option Value} {base : Heap} {k : Nat} {f : Addr} {fd : FuncData} {name qual : Str} {params : Arguments} {body : List Stmt} {scope : Scope} {dvs : List V} {kws : List (Str × V)} {N ps : List Str} {p : DSp}
    (F : L2.FunD K name qual params body scope dvs kws f fd) (S : FnScope N ps scope) (len : ∀ α QD ED, p α QD ED → α.length = ps.length)
    (hbody : ∀ (cdv : Value) (A : Around) (outer : List Env) (s : Shared) (H : Hp) (E : XK) (C : DC (cxOf (L2.CX P w) P w K mg base N qual scope f cdv A outer s H E)) (α : List SD) (QD : Ret → List SD → Prop) (ED : Exd → List SD → Prop),
      Room k (A.deeper (envOfC qual scope s.heap.objs.size f cdv)) → C.W = (fun e ρ => outK α ρ fun α' => ED e α') → p α QD ED →
      ∃ ts t, DSs C body ts t ∧ t { nx := fun ρ => outK α ρ fun α' => QD (.d .none) α', rt := fun r ρ => outK α ρ fun α' => QD r α' } (startD N.length α)) :
    FnD P w K mg base (k + 1) f fd ps p := by
  obtain ⟨oc, od, dV, kV, doc, pm, an, cdv, ct, osl, rfl, lk, hcd, _, _⟩ := F.ex
  exact fnd_of lk hcd S len fun A outer s H E C α QD ED hr hW hp => hbody cdv A outer s H E C α QD ED hr hW hp
end DL

end
namespace KK
/-! ### the numbers of a field, in plain -/
structure Nu where
  p : Int
  q : Int
  d : Int
  s : Int
def sg (s : Int) : Int := if s < 0 then -1 else 1
def gc (p q s : Int) : Int := (((p.natAbs.gcd q.natAbs).gcd s.natAbs : Nat) : Int)
def low (p q d s : Int) : Nu := ⟨sg s * p / gc p q s, sg s * q / gc p q s, if q = 0 then 0 else d, sg s * s / gc p q s⟩
theorem sg_sq (s : Int) : sg s * sg s = 1 := by unfold sg; split <;> rfl
theorem gc_pos {p q s : Int} (h : s ≠ 0) : 0 < gc p q s := by
  unfold gc
  have : 0 < (p.natAbs.gcd q.natAbs).gcd s.natAbs := Nat.gcd_pos_of_pos_right _ (by omega)
  omega
theorem gc_dp {p q s : Int} : gc p q s ∣ p := Int.ofNat_dvd_left.mpr (Nat.dvd_trans (Nat.gcd_dvd_left _ _) (Nat.gcd_dvd_left _ _))
theorem gc_dq {p q s : Int} : gc p q s ∣ q := Int.ofNat_dvd_left.mpr (Nat.dvd_trans (Nat.gcd_dvd_left _ _) (Nat.gcd_dvd_right _ _))
theorem gc_ds {p q s : Int} : gc p q s ∣ s := Int.ofNat_dvd_left.mpr (Nat.gcd_dvd_right _ _)
theorem back {g σ x : Int} (h : g ∣ x) (e : σ * σ = 1) : x = σ * g * (σ * x / g) := by
  obtain ⟨y, rfl⟩ := h
  by_cases hg : g = 0
  · subst hg; simp
  · have : σ * (g * y) / g = σ * y := by rw [Int.mul_left_comm, Int.mul_ediv_cancel_left _ hg]
    rw [this]
    grind
theorem low_spec {p q s : Int} (d : Int) (h : s ≠ 0) : ∃ k, k ≠ 0 ∧ p = k * (low p q d s).p ∧ q = k * (low p q d s).q ∧ s = k * (low p q d s).s ∧ 0 < (low p q d s).s := by
  have g0 := gc_pos (p := p) (q := q) h
  have e := sg_sq s
  have hs := back (gc_ds (p := p) (q := q) (s := s)) e
  have hk : sg s * gc p q s ≠ 0 := fun z => h (by rw [hs, z]; simp)
  refine ⟨sg s * gc p q s, hk, back gc_dp e, back gc_dq e, hs, ?_⟩
  show 0 < sg s * s / gc p q s
  have pos : 0 < sg s * s := by unfold sg; split <;> omega
  exact Int.ediv_pos_of_pos_of_dvd pos (by omega) (Int.dvd_mul_of_dvd_right gc_ds)
theorem gc_scale (k p q s : Int) : gc (k * p) (k * q) (k * s) = (k.natAbs : Int) * gc p q s := by
  unfold gc
  rw [Int.natAbs_mul, Int.natAbs_mul, Int.natAbs_mul, Nat.gcd_mul_left, Nat.gcd_mul_left, Int.natCast_mul]
theorem sg_scale {k s : Int} (hk : k ≠ 0) (hs : s ≠ 0) (x : Int) : sg (k * s) * (k * x) = (k.natAbs : Int) * (sg s * x) := by
  have key : sg (k * s) * k = (k.natAbs : Int) * sg s := by
    unfold sg
    rcases Int.lt_or_gt_of_ne hk with h1 | h1 <;> rcases Int.lt_or_gt_of_ne hs with h2 | h2
    · have := Int.mul_pos_of_neg_of_neg h1 h2
      rw [if_neg (by omega), if_pos h2]; omega
    · have := Int.mul_neg_of_neg_of_pos h1 h2
      rw [if_pos (by omega), if_neg (by omega)]; omega
    · have := Int.mul_neg_of_pos_of_neg h1 h2
      rw [if_pos (by omega), if_pos h2]; omega
    · have := Int.mul_pos h1 h2
      rw [if_neg (by omega), if_neg (by omega)]; omega
  rw [← Int.mul_assoc, key, Int.mul_assoc]
theorem low_scale {k p q s : Int} (d : Int) (hk : k ≠ 0) (hs : s ≠ 0) : low (k * p) (k * q) d (k * s) = low p q d s := by
  unfold low
  have kp : (0 : Int) < (k.natAbs : Int) := by omega
  rw [gc_scale, sg_scale hk hs, sg_scale hk hs, sg_scale hk hs, Int.mul_ediv_mul_of_pos _ _ kp, Int.mul_ediv_mul_of_pos _ _ kp, Int.mul_ediv_mul_of_pos _ _ kp]
  have : (k * q = 0) ↔ (q = 0) := by rw [Int.mul_eq_zero]; simp [hk]
  simp only [this]
theorem low_d {p q d d' s : Int} (h : q ≠ 0 → d = d') : low p q d s = low p q d' s := by
  unfold low
  by_cases hq : q = 0
  · simp [hq]
  · simp [hq, h hq]
theorem low_eq {p q d s p' q' d' s' : Int} (hs : s ≠ 0) (hs' : s' ≠ 0) (e1 : p * s' = p' * s) (e2 : q * s' = q' * s) (e3 : q ≠ 0 → d = d') : low p q d s = low p' q' d' s' := by
  rw [← low_scale d hs' hs, ← low_scale d' hs hs', Int.mul_comm s' p, Int.mul_comm s' q, e1, e2, Int.mul_comm s p', Int.mul_comm s q', Int.mul_comm s' s]
  refine low_d fun h => e3 fun z => h ?_
  rw [← e2, z, Int.zero_mul]
theorem low_dd {p q d s : Int} (hs : s ≠ 0) : (low p q d s).d = if (low p q d s).q = 0 then 0 else d := by
  obtain ⟨k, hk, _, h2, _⟩ := low_spec (p := p) (q := q) d hs
  have : (q = 0) ↔ ((low p q d s).q = 0) := by
    constructor
    · intro h; rw [h] at h2; rcases Int.mul_eq_zero.mp h2.symm with z | z; exact absurd z hk; rw [h]; exact z
    · intro h; rw [h2, h, Int.mul_zero]
  show (if q = 0 then 0 else d) = _
  simp only [this]
/-! signs -/
def sgi (x : Int) : Int := if 0 < x then 1 else if x < 0 then -1 else 0
def sos (p q d : Int) : Int := if sgi p = (if 0 < d then sgi q else 0) ∨ (if 0 < d then sgi q else 0) = 0 then sgi p else if sgi p = 0 then (if 0 < d then sgi q else 0) else if 0 < p * p - q * q * d then sgi p else (if 0 < d then sgi q else 0)
theorem sgi_pos {x : Int} (h : 0 < x) : sgi x = 1 := by unfold sgi; rw [if_pos h]
theorem sgi_neg {x : Int} (h : x < 0) : sgi x = -1 := by unfold sgi; rw [if_neg (by omega), if_pos h]
theorem sgi_mul (x y : Int) : sgi (x * y) = sgi x * sgi y := by
  rcases Int.lt_trichotomy x 0 with h1 | h1 | h1 <;> rcases Int.lt_trichotomy y 0 with h2 | h2 | h2
  · rw [sgi_neg h1, sgi_neg h2, sgi_pos (Int.mul_pos_of_neg_of_neg h1 h2)]; rfl
  · subst h2; simp [sgi]
  · rw [sgi_neg h1, sgi_pos h2, sgi_neg (Int.mul_neg_of_neg_of_pos h1 h2)]; rfl
  · subst h1; simp [sgi]
  · subst h1; simp [sgi]
  · subst h1; simp [sgi]
  · rw [sgi_pos h1, sgi_neg h2, sgi_neg (Int.mul_neg_of_pos_of_neg h1 h2)]; rfl
  · subst h2; simp [sgi]
  · rw [sgi_pos h1, sgi_pos h2, sgi_pos (Int.mul_pos h1 h2)]; rfl
theorem sgi_z {x : Int} : sgi x = 0 ↔ x = 0 := by unfold sgi; split <;> (try split) <;> omega
theorem sos_P {p q d : Int} (hd : 0 < d) (h : 0 < p * p - q * q * d) : sos p q d = sgi p := by
  unfold sos
  simp only [if_pos hd, if_pos h]
  have hp : sgi p ≠ 0 := fun z => by
    rw [sgi_z] at z; subst z
    have h1 : 0 ≤ q * q := by rcases Int.le_total 0 q with a | a; exact Int.mul_nonneg a a; exact Int.mul_nonneg_of_nonpos_of_nonpos a a
    have := Int.mul_nonneg h1 (Int.le_of_lt hd)
    omega
  split
  · rfl
  · simp [hp]
theorem sos_N {p q d : Int} (hd : 0 < d) (h : p * p - q * q * d < 0) : sos p q d = sgi q := by
  unfold sos
  simp only [if_pos hd, if_neg (show ¬ 0 < p * p - q * q * d by omega)]
  have hq : sgi q ≠ 0 := fun z => by
    rw [sgi_z] at z; subst z
    have h1 : 0 ≤ p * p := by rcases Int.le_total 0 p with a | a; exact Int.mul_nonneg a a; exact Int.mul_nonneg_of_nonpos_of_nonpos a a
    omega
  split
  · rename_i h; rcases h with h | h; exact h; exact absurd h hq
  · split <;> rfl
theorem sos_00 {d : Int} : sos 0 0 d = 0 := by unfold sos sgi; simp
theorem sq_nn (q : Int) : 0 ≤ q * q := by rcases Int.le_total 0 q with a | a; exact Int.mul_nonneg a a; exact Int.mul_nonneg_of_nonpos_of_nonpos a a
/-- |x| > |y|: x + y has x's sign -/
theorem dom {x y : Int} (h : y * y < x * x) : sgi (x + y) = sgi x := by
  have hx : x ≠ 0 := fun z => by subst z; have := sq_nn y; omega
  rcases Int.lt_or_gt_of_ne hx with a | a
  · have : x + y < 0 := by
      rcases Int.lt_or_le (x + y) 0 with b | b
      · exact b
      · have h1 : y - x > 0 := by omega
        have := Int.mul_nonneg b (Int.le_of_lt h1)
        have e : (x + y) * (y - x) = y * y - x * x := by grind
        omega
    rw [sgi_neg this, sgi_neg a]
  · have : 0 < x + y := by
      rcases Int.lt_or_le 0 (x + y) with b | b
      · exact b
      · have h1 : x - y > 0 := by omega
        have := Int.mul_nonneg (show 0 ≤ -(x + y) by omega) (Int.le_of_lt h1)
        have e : -(x + y) * (x - y) = y * y - x * x := by grind
        omega
    rw [sgi_pos this, sgi_pos a]
/-- d is no square: no p / q squared -/
def Irr (d : Int) : Prop := ∀ p q : Int, p * p = q * q * d → p = 0 ∧ q = 0
theorem sos_scale {k p q d : Int} (hd : 0 < d) (hk : 0 < k) (ir : Irr d) : sos (k * p) (k * q) d = sos p q d := by
  have kk := Int.mul_pos hk hk
  have e : (k * p) * (k * p) - (k * q) * (k * q) * d = (k * k) * (p * p - q * q * d) := by grind
  rcases Int.lt_trichotomy (p * p - q * q * d) 0 with h | h | h
  · have h2 := Int.mul_neg_of_pos_of_neg kk h
    rw [sos_N hd h, sos_N hd (by omega), sgi_mul, sgi_pos hk, Int.one_mul]
  · obtain ⟨rfl, rfl⟩ := ir p q (by omega)
    simp
  · have h2 := Int.mul_pos kk h
    rw [sos_P hd h, sos_P hd (by omega), sgi_mul, sgi_pos hk, Int.one_mul]
theorem sos_mul {p q p' q' d : Int} (hd : 0 < d) (ir : Irr d) : sos p q d * sos p' q' d = sos (p * p' + q * q' * d) (p * q' + q * p') d := by
  have e : (p * p' + q * q' * d) * (p * p' + q * q' * d) - (p * q' + q * p') * (p * q' + q * p') * d = (p * p - q * q * d) * (p' * p' - q' * q' * d) := by grind
  rcases Int.lt_trichotomy (p * p - q * q * d) 0 with h | h | h
  · rcases Int.lt_trichotomy (p' * p' - q' * q' * d) 0 with h' | h' | h'
    · have h2 := Int.mul_pos_of_neg_of_neg h h'
      rw [sos_N hd h, sos_N hd h', sos_P hd (by omega), ← sgi_mul]
      have hdq : sgi (q * q' * d) = sgi (q * q') := by rw [sgi_mul, sgi_pos hd, Int.mul_one]
      rw [← hdq, Int.add_comm]
      refine (dom ?_).symm
      have a1 := Int.mul_lt_mul_of_pos_left (show p' * p' < q' * q' * d by omega) (show 0 < q * q * d by have := sq_nn p; omega)
      have a2 := Int.mul_le_mul_of_nonneg_right (show p * p ≤ q * q * d by omega) (sq_nn p')
      have e1 : p * p' * (p * p') = p * p * (p' * p') := by grind
      have e2 : q * q' * d * (q * q' * d) = q * q * d * (q' * q' * d) := by grind
      omega
    · obtain ⟨rfl, rfl⟩ := ir p' q' (by omega)
      simp [sos_00]
    · have h2 := Int.mul_neg_of_neg_of_pos h h'
      rw [sos_N hd h, sos_P hd h', sos_N hd (by omega), ← sgi_mul, Int.add_comm]
      refine (dom ?_).symm
      have a1 := Int.mul_lt_mul_of_pos_left (show q' * q' * d < p' * p' by omega) (show 0 < q * q * d by have := sq_nn p; omega)
      have a2 := Int.mul_le_mul_of_nonneg_right (show p * p ≤ q * q * d by omega) (Int.mul_nonneg (sq_nn q') (Int.le_of_lt hd))
      have e1 : p * q' * (p * q') * d = p * p * (q' * q' * d) := by grind
      have e2 : q * p' * (q * p') * d = q * q * d * (p' * p') := by grind
      have : p * q' * (p * q') * d < q * p' * (q * p') * d := by omega
      exact Int.lt_of_mul_lt_mul_right this (Int.le_of_lt hd)
  · obtain ⟨rfl, rfl⟩ := ir p q (by omega)
    simp [sos_00]
  · rcases Int.lt_trichotomy (p' * p' - q' * q' * d) 0 with h' | h' | h'
    · have h2 := Int.mul_neg_of_pos_of_neg h h'
      rw [sos_P hd h, sos_N hd h', sos_N hd (by omega), ← sgi_mul]
      refine (dom ?_).symm
      have a1 := Int.mul_lt_mul_of_pos_left (show p' * p' < q' * q' * d by omega) (show 0 < p * p by have := Int.mul_nonneg (sq_nn q) (Int.le_of_lt hd); omega)
      have a2 := Int.mul_le_mul_of_nonneg_right (show q * q * d ≤ p * p by omega) (sq_nn p')
      have e1 : p * q' * (p * q') * d = p * p * (q' * q' * d) := by grind
      have e2 : q * p' * (q * p') * d = q * q * d * (p' * p') := by grind
      have : q * p' * (q * p') * d < p * q' * (p * q') * d := by omega
      exact Int.lt_of_mul_lt_mul_right this (Int.le_of_lt hd)
    · obtain ⟨rfl, rfl⟩ := ir p' q' (by omega)
      simp [sos_00]
    · have h2 := Int.mul_pos h h'
      rw [sos_P hd h, sos_P hd h', sos_P hd (by omega), ← sgi_mul]
      refine (dom ?_).symm
      have a1 := Int.mul_lt_mul_of_pos_left (show q' * q' * d < p' * p' by omega) (show 0 < p * p by have := Int.mul_nonneg (sq_nn q) (Int.le_of_lt hd); omega)
      have a2 := Int.mul_le_mul_of_nonneg_right (show q * q * d ≤ p * p by omega) (Int.mul_nonneg (sq_nn q') (Int.le_of_lt hd))
      have e1 : p * p' * (p * p') = p * p * (p' * p') := by grind
      have e2 : q * q' * d * (q * q' * d) = q * q * d * (q' * q' * d) := by grind
      omega
/-! no square -/
theorem irr_of {d π e : Int} (hd : d = π * e) (hπ : 1 < π) (h1 : ∀ n : Int, π ∣ n * n → π ∣ n) (h2 : ∀ n : Int, π ∣ n * n * e → π ∣ n) : Irr d := by
  have main : ∀ (m : Nat) (p q : Int), q.natAbs ≤ m → p * p = q * q * d → q = 0 := by
    intro m
    induction m with
    | zero => intro p q h _; omega
    | succ m ih =>
      intro p q h e0
      subst hd
      obtain ⟨p', rfl⟩ := h1 p ⟨q * q * e, by rw [e0]; grind⟩
      have e1 : π * (π * (p' * p')) = π * (q * q * e) := by grind
      have e2 := Int.eq_of_mul_eq_mul_left (by omega) e1
      obtain ⟨q', rfl⟩ := h2 q ⟨p' * p', e2.symm⟩
      have e3 : π * (π * (q' * q' * e)) = π * (p' * p') := by rw [e2]; grind
      have e4 := Int.eq_of_mul_eq_mul_left (by omega) e3
      by_cases z : q' = 0
      · rw [z, Int.mul_zero]
      · have hlt : q'.natAbs < (π * q').natAbs := by
          rw [Int.natAbs_mul]
          have : 1 < π.natAbs := by omega
          have := Nat.mul_lt_mul_of_pos_right this (show 0 < q'.natAbs by omega)
          omega
        have := ih p' q' (by omega) (by rw [← e4]; grind)
        exact absurd this z
  intro p q e0
  have hq := main q.natAbs p q (Nat.le_refl _) e0
  subst hq
  have : p * p = 0 := by rw [e0]; simp
  rcases Int.mul_eq_zero.mp this with z | z <;> exact ⟨z, rfl⟩
theorem mod_mul (π n k : Int) : (n * n * k) % π = ((n % π) * (n % π) * k) % π := by rw [Int.mul_emod (n * n), Int.mul_emod n n, ← Int.mul_emod, Int.mul_emod (n % π * (n % π))]
theorem m2 (n : Int) : n % 2 = 0 ∨ n % 2 = 1 := by omega
theorem irr2 : Irr 2 := by
  have key : ∀ n : Int, (2 : Int) ∣ n * n → (2 : Int) ∣ n := fun n h => by
    rw [Int.dvd_iff_emod_eq_zero] at h ⊢
    rcases m2 n with z | z
    · exact z
    · rw [Int.mul_emod, z] at h
      exact absurd h (by decide)
  exact irr_of (π := 2) (e := 1) rfl (by decide) key fun n h => key n (by rwa [Int.mul_one] at h)
theorem m3 (n : Int) : n % 3 = 0 ∨ n % 3 = 1 ∨ n % 3 = 2 := by omega
theorem irr3 : Irr 3 := irr_of (π := 3) (e := 1) rfl (by decide) (fun n h => by rw [Int.dvd_iff_emod_eq_zero] at *; rcases m3 n with z | z | z; exact z; all_goals (rw [Int.mul_emod, z] at h; cases h)) (fun n h => by rw [Int.mul_one] at h; rw [Int.dvd_iff_emod_eq_zero] at *; rcases m3 n with z | z | z; exact z; all_goals (rw [Int.mul_emod, z] at h; cases h))
theorem irr6 : Irr 6 := irr_of (π := 3) (e := 2) rfl (by decide) (fun n h => by rw [Int.dvd_iff_emod_eq_zero] at *; rcases m3 n with z | z | z; exact z; all_goals (rw [Int.mul_emod, z] at h; cases h)) (fun n h => by rw [Int.dvd_iff_emod_eq_zero] at *; rw [mod_mul] at h; rcases m3 n with z | z | z; exact z; all_goals (rw [z] at h; cases h))
theorem m5 (n : Int) : n % 5 = 0 ∨ n % 5 = 1 ∨ n % 5 = 2 ∨ n % 5 = 3 ∨ n % 5 = 4 := by omega
theorem irr5 : Irr 5 := irr_of (π := 5) (e := 1) rfl (by decide) (fun n h => by rw [Int.dvd_iff_emod_eq_zero] at *; rcases m5 n with z | z | z | z | z; exact z; all_goals (rw [Int.mul_emod, z] at h; cases h)) (fun n h => by rw [Int.mul_one] at h; rw [Int.dvd_iff_emod_eq_zero] at *; rcases m5 n with z | z | z | z | z; exact z; all_goals (rw [Int.mul_emod, z] at h; cases h))
end KK

set_option maxHeartbeats 1000000
namespace KK
open PySem PySem.Spec PyProof.Rows L2 DL
/-! ### plain: small tools -/
theorem shp_int (i : Int) : SeqAt.shaped (.int i) = true := rfl
theorem eqv_int (i j : Int) : PyData.eqv (.int i) (.int j) = decide (i = j) := rfl
def DEnd (α : List SD) (QD : Ret → List SD → Prop) : DEnds := { nx := fun ρ => outK α ρ fun α' => QD (.d .none) α', rt := fun r ρ => outK α ρ fun α' => QD r α' }
def Bd (n : Nat) (i : Int) : Prop := i.natAbs < 2 ^ n
theorem Bd.mono {n m : Nat} {i : Int} (h : Bd n i) (e : n ≤ m) : Bd m i := Nat.lt_of_lt_of_le h (Nat.pow_le_pow_right (by decide) e)
theorem Bd.mul {n m : Nat} {i j : Int} (h : Bd n i) (k : Bd m j) : Bd (n + m) (i * j) := by
  unfold Bd at *
  rw [Int.natAbs_mul, Nat.pow_add]
  rcases Nat.eq_zero_or_pos i.natAbs with z | z
  · rw [z, Nat.zero_mul]; exact Nat.mul_pos (Nat.pow_pos (by decide)) (Nat.pow_pos (by decide))
  · exact Nat.mul_lt_mul_of_le_of_lt (Nat.le_of_lt h) k (Nat.pow_pos (by decide)) |> fun x => x
theorem Bd.add {n m k : Nat} {i j : Int} (h : Bd n i) (l : Bd m j) (e : max n m + 1 ≤ k) : Bd k (i + j) := by
  refine Bd.mono (n := max n m + 1) ?_ e
  have h1 : Bd (max n m) i := h.mono (Nat.le_max_left _ _)
  have h2 : Bd (max n m) j := l.mono (Nat.le_max_right _ _)
  unfold Bd at *
  rw [Nat.pow_succ]
  have := Int.natAbs_add_le i j
  omega
theorem Bd.neg {n : Nat} {i : Int} (h : Bd n i) : Bd n (-i) := by unfold Bd; rw [Int.natAbs_neg]; exact h
theorem Bd.sub {n m k : Nat} {i j : Int} (h : Bd n i) (l : Bd m j) (e : max n m + 1 ≤ k) : Bd k (i - j) := by rw [Int.sub_eq_add_neg]; exact h.add l.neg e
theorem Bd.div {n : Nat} {i : Int} (h : Bd n i) (j : Int) (hj : 0 < j) : Bd n (i / j) := by
  unfold Bd at *
  refine Nat.lt_of_le_of_lt ?_ h
  exact Int.natAbs_ediv_le_natAbs _ _
theorem Bd.cm {n m : Nat} {i j : Int} (h : Bd n i) (k : Bd m j) (e : n + m ≤ 999990) : CMulW i j := wide_mul (a := n + 1) (b := m + 1) (h.mono (by omega)) (k.mono (by omega)) (by omega) (by omega) (by omega)
theorem Bd.log {n : Nat} {i : Int} (h : Bd n i) (e : n ≤ 8999) : i.natAbs.log2 < 9000 := by
  unfold Bd at h
  by_cases z : i.natAbs = 0
  · rw [z]; decide
  · exact Nat.lt_of_lt_of_le ((Nat.log2_lt z).mpr h) (by omega)
theorem fd_pos {a b : Int} (h : 0 < b) : a.fdiv b = a / b := Int.fdiv_eq_ediv_of_nonneg _ (Int.le_of_lt h)
theorem fm_pos {a b : Int} (h : 0 < b) : a.fmod b = a % b := Int.fmod_eq_emod_of_nonneg _ (Int.le_of_lt h)
theorem sgi_bi (p : Int) : DL.bi (decide (0 < p)) - DL.bi (decide (p < 0)) = sgi p := by
  unfold DL.bi sgi
  by_cases h : 0 < p
  · have : ¬ p < 0 := by omega
    simp [sSeq, sIf, sNext, sSet, sAug, sRet, sPar, sPar3, asThree, sRaise, sAsg, sOwn, sApp, sPut, sRetN, sRetOwn, sRetU, sDrop, sBreak, sCont, dVar, dC, dOp, dTest, dCons, dNil, dTup, nLst, dNew, dNeg, dIf, dF1, dAnd, dOr, dNot, dAndV, dOrV, dNotV, dCall, nCall, dCallL, nCallL, withLent, withLentN, vw, frz, dI, dI0, dB0, int2, dEq, dNe, dAdd, dSub, dIAdd, atD, gName', gTup', gNil', gCons', gLst', lenIs, retD, retN, lendK, backK, isLent, ownK, fAbs, fLen, fMax, fMin, startD, outK, shp_int, eqv_int, h, this]
  · by_cases h' : p < 0
    · simp [sSeq, sIf, sNext, sSet, sAug, sRet, sPar, sPar3, asThree, sRaise, sAsg, sOwn, sApp, sPut, sRetN, sRetOwn, sRetU, sDrop, sBreak, sCont, dVar, dC, dOp, dTest, dCons, dNil, dTup, nLst, dNew, dNeg, dIf, dF1, dAnd, dOr, dNot, dAndV, dOrV, dNotV, dCall, nCall, dCallL, nCallL, withLent, withLentN, vw, frz, dI, dI0, dB0, int2, dEq, dNe, dAdd, dSub, dIAdd, atD, gName', gTup', gNil', gCons', gLst', lenIs, retD, retN, lendK, backK, isLent, ownK, fAbs, fLen, fMax, fMin, startD, outK, shp_int, eqv_int, h, h']
    · simp [sSeq, sIf, sNext, sSet, sAug, sRet, sPar, sPar3, asThree, sRaise, sAsg, sOwn, sApp, sPut, sRetN, sRetOwn, sRetU, sDrop, sBreak, sCont, dVar, dC, dOp, dTest, dCons, dNil, dTup, nLst, dNew, dNeg, dIf, dF1, dAnd, dOr, dNot, dAndV, dOrV, dNotV, dCall, nCall, dCallL, nCallL, withLent, withLentN, vw, frz, dI, dI0, dB0, int2, dEq, dNe, dAdd, dSub, dIAdd, atD, gName', gTup', gNil', gCons', gLst', lenIs, retD, retN, lendK, backK, isLent, ownK, fAbs, fLen, fMax, fMin, startD, outK, shp_int, eqv_int, h, h']
end KK

set_option maxHeartbeats 1000000
namespace KK
open PySem PySem.Spec PyProof.Rows L2 DL
/-! ### what the defs do -/
abbrev iv (i : Int) : SD := .val (.int i)
def Nu.D (x : Nu) : PyData := .tuple [.int x.p, .int x.q, .int x.d, .int x.s]
def Nb (n : Nat) (x : Nu) : Prop := Bd n x.p ∧ Bd n x.q ∧ Bd n x.d ∧ Bd n x.s
def nmax (a b : Int) : Int := if b > a then b else a
/-- the roots agree -/
def rts (x y : Nu) : Prop := x.d ≠ 0 → y.d ≠ 0 → x.d = y.d
def nplus (x y : Nu) : Nu := low (x.p * y.s + y.p * x.s) (x.q * y.s + y.q * x.s) (nmax x.d y.d) (x.s * y.s)
def nopp (x : Nu) : Nu := ⟨-x.p, -x.q, x.d, x.s⟩
def nminus (x y : Nu) : Nu := nplus x (nopp y)
def ntimes (x y : Nu) : Nu := low (x.p * y.p + x.q * y.q * nmax x.d y.d) (x.p * y.q + x.q * y.p) (nmax x.d y.d) (x.s * y.s)
def ninv (y : Nu) : Nu := low (y.p * y.s) (-y.q * y.s) y.d (y.p * y.p - y.q * y.q * y.d)
def nover (x y : Nu) : Nu := ntimes x (ninv y)
def isqr (a n : Int) : Prop := 0 ≤ n ∧ n * n ≤ a ∧ a < (n + 1) * (n + 1)
def Fl (x : Nu) (n : Int) : Prop := ∃ r, isqr (x.q * x.q * x.d) r ∧ n = if 0 ≤ x.q then (x.p + r) / x.s else (x.p - r - 1) / x.s
def sqfree (r : Int) : Prop := ∀ m : Int, 1 < m → ¬ (m * m ∣ r)
def p_common_divisor : DSp := fun α QD _ => ∃ a b : Int, α = [iv a, iv b] ∧ QD (.d (.int (Int.gcd a b))) α
def p_root_floor : DSp := fun α QD _ => ∃ a : Int, α = [iv a] ∧ 0 ≤ a ∧ Bd 8000 a ∧ ∀ n, isqr a n → QD (.d (.int n)) α
def p_without_squares : DSp := fun α QD _ => ∃ a : Int, α = [iv a] ∧ 0 < a ∧ Bd 4000 a ∧ ∀ f r, 0 < f → 0 < r → f * f * r = a → sqfree r → QD (.d (.tuple [.int f, .int r])) α
def p_lowest : DSp := fun α QD _ => ∃ p q d s : Int, α = [iv p, iv q, iv d, iv s] ∧ s ≠ 0 ∧ Bd 8000 s ∧ QD (.d (low p q d s).D) α
/-- number: where it does not raise -/
def p_number : DSp := fun α QD _ => ∃ p q d s : Int, α = [iv p, iv q, iv d, iv s] ∧ s ≠ 0 ∧ 0 ≤ d ∧ Bd 4000 q ∧ Bd 4000 d ∧ Bd 8000 s ∧
  ∀ f r, ((d = 0 ∧ f = 0 ∧ r = 0) ∨ (0 < d ∧ 0 < f ∧ 0 < r ∧ f * f * r = d ∧ sqfree r)) → QD (.d (if r < 2 then low (p + q * f) 0 0 s else low p (q * f) r s).D) α
def p_sign_of_sum : DSp := fun α QD _ => ∃ p q d : Int, α = [iv p, iv q, iv d] ∧ Bd 100000 p ∧ Bd 100000 q ∧ Bd 100000 d ∧ QD (.d (.int (sos p q d))) α
def p_sign : DSp := fun α QD _ => ∃ x : Nu, α = [.val x.D] ∧ Nb 20000 x ∧ QD (.d (.int (sos x.p x.q x.d))) α
def p_root_of : DSp := fun α QD _ => ∃ x y : Nu, α = [.val x.D, .val y.D] ∧ rts x y ∧ QD (.d (.int (nmax x.d y.d))) α
def p_plus : DSp := fun α QD _ => ∃ x y : Nu, α = [.val x.D, .val y.D] ∧ rts x y ∧ Nb 4000 x ∧ Nb 4000 y ∧ x.s ≠ 0 ∧ y.s ≠ 0 ∧ QD (.d (nplus x y).D) α
def p_opposite : DSp := fun α QD _ => ∃ x : Nu, α = [.val x.D] ∧ QD (.d (nopp x).D) α
def p_minus : DSp := fun α QD _ => ∃ x y : Nu, α = [.val x.D, .val y.D] ∧ rts x y ∧ Nb 4000 x ∧ Nb 4000 y ∧ x.s ≠ 0 ∧ y.s ≠ 0 ∧ QD (.d (nminus x y).D) α
def p_times : DSp := fun α QD _ => ∃ x y : Nu, α = [.val x.D, .val y.D] ∧ rts x y ∧ Nb 4000 x ∧ Nb 4000 y ∧ x.s ≠ 0 ∧ y.s ≠ 0 ∧ QD (.d (ntimes x y).D) α
def p_over : DSp := fun α QD _ => ∃ x y : Nu, α = [.val x.D, .val y.D] ∧ rts x y ∧ Nb 1000 x ∧ Nb 1000 y ∧ x.s ≠ 0 ∧ y.s ≠ 0 ∧ y.p * y.p - y.q * y.q * y.d ≠ 0 ∧ QD (.d (nover x y).D) α
/-- compare: where the roots agree -/
def p_compare : DSp := fun α QD _ => ∃ x y : Nu, α = [.val x.D, .val y.D] ∧ Nb 4000 x ∧ Nb 4000 y ∧ (x.d = y.d ∨ (x.q = 0 ∧ x.d = 0) ∨ (y.q = 0 ∧ y.d = 0)) ∧ 0 ≤ x.d ∧ 0 ≤ y.d ∧ 0 < x.s ∧ 0 < y.s ∧ QD (.d (.int (sos (x.p * y.s - y.p * x.s) (x.q * y.s - y.q * x.s) (nmax x.d y.d)))) α
def p_floor : DSp := fun α QD _ => ∃ x : Nu, α = [.val x.D] ∧ Nb 2000 x ∧ 0 < x.s ∧ 0 ≤ x.d ∧ ∀ n, Fl x n → QD (.d (.int n)) α
/-! the draws -/
structure Spl where
  ns : List Int
  pl : Int
  ce : Int
  si : Int
def Spl.L (s : Spl) : List PyData := [.list (s.ns.map PyData.int), .int s.pl, .int s.ce, .int s.si]
abbrev Spl.S (s : Spl) : SD := .own true s.L
def Sok (n : Nat) (s : Spl) : Prop := 0 ≤ s.pl ∧ s.pl ≤ n ∧ s.ns.length ≤ 64
def p__law_stirred : DSp := fun α QD _ => ∃ c p : Int, α = [iv c, iv p] ∧ 0 ≤ p ∧ p < 2 ^ 60 ∧ 0 ≤ c ∧ c < 2 ^ 60 ∧ ∀ n, QD (.d (.int n)) α
def p__law_spool_of : DSp := fun α QD _ => ∃ ns : List Int, α = [.res true (scriptR ns)] ∧ ns.length ≤ 63 ∧ ∀ s, Sok 0 s → QD (.n s.L) α
def p__law_upto : DSp := fun α QD _ => ∃ (s : Spl) (m : Nat) (b : Int), α = [s.S, iv b] ∧ Sok m s ∧ m < 2 ^ 59 ∧ 0 < b ∧ Bd 8000 b ∧ ∀ n s', 0 ≤ n → n < b → Sok (m + 1) s' → QD (.d (.int n)) [s'.S, iv b]
def p__law_choice : DSp := fun α QD _ => ∃ (s : Spl) (m : Nat) (xs : List PyData), α = [s.S, .val (.list xs)] ∧ Sok m s ∧ m < 2 ^ 59 ∧ xs ≠ [] ∧ xs.length < 2 ^ 60 ∧ ∀ x s', x ∈ xs → Sok (m + 1) s' → QD (.d x) [s'.S, .val (.list xs)]
def p_law : DSp := lawSp
end KK

set_option maxHeartbeats 1000000
namespace KK
open PySem PySem.Spec L2 DL
def v_ZERO : List V := [.int 0, .int 0, .int 0, .int 1]
def l_ZERO : List PyData := [.int 0, .int 0, .int 0, .int 1]
abbrev d_ZERO : PyData := .tuple l_ZERO
theorem rep_ZERO (K : PySem.W.Frag) : ∀ G, Reps K G v_ZERO l_ZERO := fun G => .cons (.int _) (.cons (.int _) (.cons (.int _) (.cons (.int _) (.nil))))
/-! ### readings of the text (printed by gen.py) -/
def n_common_divisor : List Str := ["first", "second"]
def r_common_divisor (W : WD) : TSD := sSeq (sWhile (dTest (dOp dNe (dVar 1) (dC (.int 0)))) (sPar 0 1 (dCons (dVar 1) (dCons (dOp dMod (dVar 0) (dVar 1)) (dNil))))) (sRet (dF1 fAbs (dVar 0)))
def n_root_floor : List Str := ["number", "found", "following"]
def r_root_floor (W : WD) : TSD := sSeq (sIf (dTest (dOp dLt (dVar 0) (dC (.int 2)))) (sRet (dVar 0)) (sNext)) (sSeq (sSet 1 (dC (.int 1))) (sSeq (sWhile (dTest (dOp dLe (dOp dMul (dVar 1) (dVar 1)) (dVar 0))) (sAug 1 (dC (.int 2)) dMul)) (sSeq (sSet 2 (dOp dFdiv (dOp dAdd (dVar 1) (dOp dFdiv (dVar 0) (dVar 1))) (dC (.int 2)))) (sSeq (sWhile (dTest (dOp dLt (dVar 2) (dVar 1))) (sSeq (sSet 1 (dVar 2)) (sSet 2 (dOp dFdiv (dOp dAdd (dVar 1) (dOp dFdiv (dVar 0) (dVar 1))) (dC (.int 2)))))) (sRet (dVar 1))))))
def n_without_squares : List Str := ["number", "factor", "rest", "prime"]
def r_without_squares (W : WD) : TSD := sSeq (sPar3 1 2 3 (dCons (dC (.int 1)) (dCons (dVar 0) (dCons (dC (.int 2)) (dNil))))) (sSeq (sWhile (dTest (dOp dLe (dOp dMul (dVar 3) (dVar 3)) (dVar 2))) (sSeq (sWhile (dTest (dOp dEq (dOp dMod (dVar 2) (dOp dMul (dVar 3) (dVar 3))) (dC (.int 0)))) (sSeq (sAug 2 (dOp dMul (dVar 3) (dVar 3)) dFdiv) (sAug 1 (dVar 3) dMul))) (sAug 3 (dC (.int 1)) dIAdd))) (sRet (dTup (dCons (dVar 1) (dCons (dVar 2) (dNil))))))
def n_lowest : List Str := ["p", "q", "d", "s", "divisor"]
def r_lowest (W : WD) : TSD := sSeq (sIf (dTest (dOp dLt (dVar 3) (dC (.int 0)))) (sPar3 0 1 3 (dCons (dNeg (dVar 0)) (dCons (dNeg (dVar 1)) (dCons (dNeg (dVar 3)) (dNil))))) (sNext)) (sSeq (sSet 4 (dCall p_common_divisor W (dCons (dCall p_common_divisor W (dCons (dVar 0) (dCons (dVar 1) (dNil)))) (dCons (dVar 3) (dNil))))) (sSeq (sPar3 0 1 3 (dCons (dOp dFdiv (dVar 0) (dVar 4)) (dCons (dOp dFdiv (dVar 1) (dVar 4)) (dCons (dOp dFdiv (dVar 3) (dVar 4)) (dNil))))) (sRet (dTup (dCons (dVar 0) (dCons (dVar 1) (dCons (dIf (dTest (dOp dNe (dVar 1) (dC (.int 0)))) (dVar 2) (dC (.int 0))) (dCons (dVar 3) (dNil)))))))))
def n_number : List Str := ["p", "q", "d", "s", "factor", "rest"]
def r_number (W : WD) (k_InvalidNumber : Addr) : TSD := sSeq (sIf (dOr (dTest (dOp dEq (dVar 3) (dC (.int 0)))) (dTest (dOp dLt (dVar 2) (dC (.int 0))))) (sRaise W k_InvalidNumber) (sNext)) (sSeq (sAsg (dIf (dTest (dOp dGt (dVar 2) (dC (.int 0)))) (dCall p_without_squares W (dCons (dVar 2) (dNil))) (dTup (dCons (dC (.int 0)) (dCons (dC (.int 0)) (dNil))))) (gTup' (lenIs 2 (gCons' (gName' 4) (gCons' (gName' 5) (gNil')))))) (sSeq (sIf (dTest (dOp dLt (dVar 5) (dC (.int 2)))) (sRet (dCall p_lowest W (dCons (dOp dAdd (dVar 0) (dOp dMul (dVar 1) (dVar 4))) (dCons (dC (.int 0)) (dCons (dC (.int 0)) (dCons (dVar 3) (dNil))))))) (sNext)) (sRet (dCall p_lowest W (dCons (dVar 0) (dCons (dOp dMul (dVar 1) (dVar 4)) (dCons (dVar 5) (dCons (dVar 3) (dNil)))))))))
def n_sign_of_sum : List Str := ["p", "q", "d", "first", "second", "gap"]
def r_sign_of_sum (W : WD) : TSD := sSeq (sPar 3 4 (dCons (dOp dSub (dOp dGt (dVar 0) (dC (.int 0))) (dOp dLt (dVar 0) (dC (.int 0)))) (dCons (dIf (dTest (dOp dGt (dVar 2) (dC (.int 0)))) (dOp dSub (dOp dGt (dVar 1) (dC (.int 0))) (dOp dLt (dVar 1) (dC (.int 0)))) (dC (.int 0))) (dNil)))) (sSeq (sIf (dOr (dTest (dOp dEq (dVar 3) (dVar 4))) (dTest (dOp dEq (dVar 4) (dC (.int 0))))) (sRet (dVar 3)) (sNext)) (sSeq (sIf (dTest (dOp dEq (dVar 3) (dC (.int 0)))) (sRet (dVar 4)) (sNext)) (sSeq (sSet 5 (dOp dSub (dOp dMul (dVar 0) (dVar 0)) (dOp dMul (dOp dMul (dVar 1) (dVar 1)) (dVar 2)))) (sRet (dIf (dTest (dOp dGt (dVar 5) (dC (.int 0)))) (dVar 3) (dVar 4))))))
def n_sign : List Str := ["one"]
def r_sign (W : WD) : TSD := sRet (dCall p_sign_of_sum W (dCons (dOp atD (dVar 0) (dC (.int 0))) (dCons (dOp atD (dVar 0) (dC (.int 1))) (dCons (dOp atD (dVar 0) (dC (.int 2))) (dNil)))))
def n_root_of : List Str := ["first", "second"]
def r_root_of (W : WD) (k_OtherRoot : Addr) : TSD := sSeq (sIf (dAnd (dTest (dOp dNe (dOp atD (dVar 0) (dC (.int 2))) (dC (.int 0)))) (dAnd (dTest (dOp dNe (dOp atD (dVar 1) (dC (.int 2))) (dC (.int 0)))) (dTest (dOp dNe (dOp atD (dVar 0) (dC (.int 2))) (dOp atD (dVar 1) (dC (.int 2))))))) (sRaise W k_OtherRoot) (sNext)) (sRet (dOp fMax (dOp atD (dVar 0) (dC (.int 2))) (dOp atD (dVar 1) (dC (.int 2)))))
def n_plus : List Str := ["first", "second", "d", "p"]
def r_plus (W : WD) : TSD := sSeq (sSet 2 (dCall p_root_of W (dCons (dVar 0) (dCons (dVar 1) (dNil))))) (sSeq (sSet 3 (dOp dAdd (dOp dMul (dOp atD (dVar 0) (dC (.int 0))) (dOp atD (dVar 1) (dC (.int 3)))) (dOp dMul (dOp atD (dVar 1) (dC (.int 0))) (dOp atD (dVar 0) (dC (.int 3)))))) (sRet (dCall p_lowest W (dCons (dVar 3) (dCons (dOp dAdd (dOp dMul (dOp atD (dVar 0) (dC (.int 1))) (dOp atD (dVar 1) (dC (.int 3)))) (dOp dMul (dOp atD (dVar 1) (dC (.int 1))) (dOp atD (dVar 0) (dC (.int 3))))) (dCons (dVar 2) (dCons (dOp dMul (dOp atD (dVar 0) (dC (.int 3))) (dOp atD (dVar 1) (dC (.int 3)))) (dNil))))))))
def n_opposite : List Str := ["one"]
def r_opposite (W : WD) : TSD := sRet (dTup (dCons (dNeg (dOp atD (dVar 0) (dC (.int 0)))) (dCons (dNeg (dOp atD (dVar 0) (dC (.int 1)))) (dCons (dOp atD (dVar 0) (dC (.int 2))) (dCons (dOp atD (dVar 0) (dC (.int 3))) (dNil))))))
def n_minus : List Str := ["first", "second"]
def r_minus (W : WD) : TSD := sRet (dCall p_plus W (dCons (dVar 0) (dCons (dCall p_opposite W (dCons (dVar 1) (dNil))) (dNil))))
def n_times : List Str := ["first", "second", "d", "p"]
def r_times (W : WD) : TSD := sSeq (sSet 2 (dCall p_root_of W (dCons (dVar 0) (dCons (dVar 1) (dNil))))) (sSeq (sSet 3 (dOp dAdd (dOp dMul (dOp atD (dVar 0) (dC (.int 0))) (dOp atD (dVar 1) (dC (.int 0)))) (dOp dMul (dOp dMul (dOp atD (dVar 0) (dC (.int 1))) (dOp atD (dVar 1) (dC (.int 1)))) (dVar 2)))) (sRet (dCall p_lowest W (dCons (dVar 3) (dCons (dOp dAdd (dOp dMul (dOp atD (dVar 0) (dC (.int 0))) (dOp atD (dVar 1) (dC (.int 1)))) (dOp dMul (dOp atD (dVar 0) (dC (.int 1))) (dOp atD (dVar 1) (dC (.int 0))))) (dCons (dVar 2) (dCons (dOp dMul (dOp atD (dVar 0) (dC (.int 3))) (dOp atD (dVar 1) (dC (.int 3)))) (dNil))))))))
def n_over : List Str := ["first", "second", "p", "q", "d", "s"]
def r_over (W : WD) (k_ZeroDivisor : Addr) : TSD := sSeq (sIf (dTest (dOp dEq (dVar 1) (dC d_ZERO))) (sRaise W k_ZeroDivisor) (sNext)) (sSeq (sAsg (dVar 1) (gTup' (lenIs 4 (gCons' (gName' 2) (gCons' (gName' 3) (gCons' (gName' 4) (gCons' (gName' 5) (gNil')))))))) (sRet (dCall p_times W (dCons (dVar 0) (dCons (dCall p_lowest W (dCons (dOp dMul (dVar 2) (dVar 5)) (dCons (dOp dMul (dNeg (dVar 3)) (dVar 5)) (dCons (dVar 4) (dCons (dOp dSub (dOp dMul (dVar 2) (dVar 2)) (dOp dMul (dOp dMul (dVar 3) (dVar 3)) (dVar 4))) (dNil)))))) (dNil))))))
def n_compare : List Str := ["first", "second", "p", "q", "r", "left", "right", "gap"]
def r_compare (W : WD) : TSD := sSeq (sSet 2 (dOp dSub (dOp dMul (dOp atD (dVar 0) (dC (.int 0))) (dOp atD (dVar 1) (dC (.int 3)))) (dOp dMul (dOp atD (dVar 1) (dC (.int 0))) (dOp atD (dVar 0) (dC (.int 3)))))) (sSeq (sPar 3 4 (dCons (dOp dMul (dOp atD (dVar 0) (dC (.int 1))) (dOp atD (dVar 1) (dC (.int 3)))) (dCons (dOp dMul (dNeg (dOp atD (dVar 1) (dC (.int 1)))) (dOp atD (dVar 0) (dC (.int 3)))) (dNil)))) (sSeq (sIf (dOr (dTest (dOp dEq (dOp atD (dVar 0) (dC (.int 2))) (dOp atD (dVar 1) (dC (.int 2))))) (dTest (dOp dEq (dVar 4) (dC (.int 0))))) (sRet (dCall p_sign_of_sum W (dCons (dVar 2) (dCons (dOp dAdd (dVar 3) (dIf (dTest (dOp dEq (dOp atD (dVar 0) (dC (.int 2))) (dOp atD (dVar 1) (dC (.int 2))))) (dVar 4) (dC (.int 0)))) (dCons (dOp atD (dVar 0) (dC (.int 2))) (dNil)))))) (sNext)) (sSeq (sIf (dTest (dOp dEq (dVar 3) (dC (.int 0)))) (sRet (dCall p_sign_of_sum W (dCons (dVar 2) (dCons (dVar 4) (dCons (dOp atD (dVar 1) (dC (.int 2))) (dNil)))))) (sNext)) (sSeq (sPar 5 6 (dCons (dCall p_sign_of_sum W (dCons (dVar 2) (dCons (dVar 3) (dCons (dOp atD (dVar 0) (dC (.int 2))) (dNil))))) (dCons (dOp dSub (dOp dLt (dVar 4) (dC (.int 0))) (dOp dGt (dVar 4) (dC (.int 0)))) (dNil)))) (sSeq (sIf (dTest (dOp dNe (dVar 5) (dVar 6))) (sRet (dOp dSub (dOp dGt (dVar 5) (dVar 6)) (dOp dLt (dVar 5) (dVar 6)))) (sNext)) (sSeq (sSet 7 (dCall p_sign_of_sum W (dCons (dOp dSub (dOp dAdd (dOp dMul (dVar 2) (dVar 2)) (dOp dMul (dOp dMul (dVar 3) (dVar 3)) (dOp atD (dVar 0) (dC (.int 2))))) (dOp dMul (dOp dMul (dVar 4) (dVar 4)) (dOp atD (dVar 1) (dC (.int 2))))) (dCons (dOp dMul (dOp dMul (dC (.int 2)) (dVar 2)) (dVar 3)) (dCons (dOp atD (dVar 0) (dC (.int 2))) (dNil)))))) (sRet (dOp dMul (dVar 7) (dVar 5)))))))))
def n_floor : List Str := ["one", "p", "q", "d", "s", "square"]
def r_floor (W : WD) : TSD := sSeq (sAsg (dVar 0) (gTup' (lenIs 4 (gCons' (gName' 1) (gCons' (gName' 2) (gCons' (gName' 3) (gCons' (gName' 4) (gNil')))))))) (sSeq (sSet 5 (dOp dMul (dOp dMul (dVar 2) (dVar 2)) (dVar 3))) (sSeq (sIf (dTest (dOp dGe (dVar 2) (dC (.int 0)))) (sRet (dOp dFdiv (dOp dAdd (dVar 1) (dCall p_root_floor W (dCons (dVar 5) (dNil)))) (dVar 4))) (sNext)) (sRet (dOp dFdiv (dOp dSub (dOp dSub (dVar 1) (dCall p_root_floor W (dCons (dVar 5) (dNil)))) (dC (.int 1))) (dVar 4)))))
def n__law_stirred : List Str := ["cell", "place", "modulus", "value", "turn"]
def r__law_stirred (W : WD) : TSD := sSeq (sSet 2 (dC (.int 1180591620717411303449))) (sSeq (sSet 3 (dOp dMod (dOp dAdd (dOp dAdd (dOp dMul (dVar 0) (dC (.int 2685821657736338717))) (dOp dMul (dVar 1) (dC (.int 2891336453)))) (dC (.int 19))) (dVar 2))) (sSeq (sFor (range1D (dCons (dC (.int 4)) (dNil))) (gName' 4) (sSet 3 (dOp dMod (dOp dAdd (dOp dAdd (dOp dAdd (dOp dMul (dVar 3) (dVar 3)) (dOp dMul (dC (.int 3)) (dVar 3))) (dOp dMul (dC (.int 32452843)) (dVar 4))) (dVar 1)) (dVar 2)))) (sRet (dOp dAdd (dOp dMul (dVar 3) (dVar 2)) (dOp dMod (dOp dAdd (dOp dMul (dVar 3) (dC (.int 1103515245))) (dVar 1)) (dVar 2))))))
def n__law_spool_of : List Str := ["script", "numbers", "place", "cell"]
def r__law_spool_of (W : WD) : TSD := sSeq (sOwn 1 (nLc [3] (itemsD (dNew (nScr 0 (oNone) (oSome (dC (.int 16)))))) (gName' 3) (dYes) (dF1 fAbs (dVar 3)))) (sSeq (sFor (enumI (dCons (dNew (nScr 0 (oSome (dC (.int 16))) (oSome (dC (.int 64))))) (dNil))) (gTup' (lenIs 2 (gCons' (gName' 2) (gCons' (gName' 3) (gNil'))))) (sPut 1 (dOp dAdd (dOp atD (dVar 1) (dOp dMod (dVar 2) (dC (.int 16)))) (dF1 fAbs (dVar 3))) (dOp dMod (dVar 2) (dC (.int 16))))) (sRetN (nLst (dCons (dVar 1) (dCons (dC (.int 0)) (dCons (dC (.int 0)) (dCons (dC (.int 0)) (dNil))))))))
def n__law_upto : List Str := ["spool", "bound", "numbers", "place", "cell", "found"]
def r__law_upto (W : WD) : TSD := sSeq (sIf (dTest (dOp dLt (dOp atD (dVar 0) (dC (.int 3))) (dVar 1))) (sSeq (sPar 2 3 (dCons (dOp atD (dVar 0) (dC (.int 0))) (dCons (dOp atD (dVar 0) (dC (.int 1))) (dNil)))) (sSeq (sSet 4 (dIf (dTest (dOp dNe (dVar 2) (dNew (nLst (dNil))))) (dOp atD (dVar 2) (dOp dMod (dVar 3) (dF1 fLen (dVar 2)))) (dC (.int 0)))) (sSeq (sIf (dOr (dTest (dOp dGe (dVar 3) (dF1 fLen (dVar 2)))) (dTest (dOp dLt (dVar 4) (dOp dPow (dC (.int 10)) (dC (.int 15)))))) (sSet 4 (dCall p__law_stirred W (dCons (dOp dMod (dVar 4) (dC (.int 998244353))) (dCons (dVar 3) (dNil))))) (sNext)) (sSeq (sPut 0 (dOp dAdd (dVar 3) (dC (.int 1))) (dC (.int 1))) (sSeq (sPut 0 (dVar 4) (dC (.int 2))) (sPut 0 (dVar 4) (dC (.int 3)))))))) (sNext)) (sSeq (sSet 5 (dOp dMod (dOp atD (dVar 0) (dC (.int 2))) (dVar 1))) (sSeq (sPut 0 (dOp dFdiv (dOp atD (dVar 0) (dC (.int 2))) (dVar 1)) (dC (.int 2))) (sSeq (sPut 0 (dOp dFdiv (dOp atD (dVar 0) (dC (.int 3))) (dVar 1)) (dC (.int 3))) (sRet (dVar 5)))))
def n__law_choice : List Str := ["spool", "items"]
def r__law_choice (W : WD) : TSD := sRet (dOp atD (dVar 1) (withLent 0 (dCallL p__law_upto W 0 (dCons (dF1 fLen (dVar 1)) (dNil)))))
def n_law : List Str := ["script", "spool", "turn", "d", "some", "index", "size", "p", "q", "one", "two", "three", "low", "value", "root"]
def r_law (W : WD) : TSD := sSeq (sOwn 1 (withLentN 0 (nCallL p__law_spool_of W 0 (dNil)))) (sSeq (sFor (range1D (dCons (dC (.int 8)) (dNil))) (gName' 2) (sSeq (sSet 3 (withLent 1 (dCallL p__law_choice W 1 (dCons (dNew (nLst (dCons (dC (.int 2)) (dCons (dC (.int 3)) (dCons (dC (.int 5)) (dCons (dC (.int 6)) (dCons (dC (.int 12)) (dCons (dC (.int 45)) (dNil))))))))) (dNil))))) (sSeq (sOwn 4 (nLst (dNil))) (sSeq (sFor (range1D (dCons (dC (.int 3)) (dNil))) (gName' 5) (sSeq (sSet 6 (withLent 1 (dCallL p__law_choice W 1 (dCons (dNew (nLst (dCons (dC (.int 3)) (dCons (dC (.int 10)) (dCons (dOp dPow (dC (.int 10)) (dC (.int 15))) (dNil)))))) (dNil))))) (sSeq (sPar 7 8 (dCons (dOp dSub (withLent 1 (dCallL p__law_upto W 1 (dCons (dOp dAdd (dOp dMul (dC (.int 2)) (dVar 6)) (dC (.int 1))) (dNil)))) (dVar 6)) (dCons (dOp dSub (withLent 1 (dCallL p__law_upto W 1 (dCons (dOp dAdd (dOp dMul (dC (.int 2)) (dVar 6)) (dC (.int 1))) (dNil)))) (dVar 6)) (dNil)))) (sApp 4 (dCall p_number W (dCons (dVar 7) (dCons (dVar 8) (dCons (dVar 3) (dCons (dOp dAdd (dC (.int 1)) (withLent 1 (dCallL p__law_upto W 1 (dCons (dVar 6) (dNil))))) (dNil)))))))))) (sSeq (sAsg (dVar 4) (gLst' (lenIs 3 (gCons' (gName' 9) (gCons' (gName' 10) (gCons' (gName' 11) (gNil'))))))) (sSeq (sIf (dTest (dOp dNe (dCall p_plus W (dCons (dVar 9) (dCons (dCall p_plus W (dCons (dVar 10) (dCons (dVar 11) (dNil)))) (dNil)))) (dCall p_plus W (dCons (dCall p_plus W (dCons (dVar 11) (dCons (dVar 9) (dNil)))) (dCons (dVar 10) (dNil)))))) (sRet (dC (.bool false))) (sNext)) (sSeq (sIf (dTest (dOp dNe (dCall p_times W (dCons (dVar 9) (dCons (dCall p_plus W (dCons (dVar 10) (dCons (dVar 11) (dNil)))) (dNil)))) (dCall p_plus W (dCons (dCall p_times W (dCons (dVar 11) (dCons (dVar 9) (dNil)))) (dCons (dCall p_times W (dCons (dVar 10) (dCons (dVar 9) (dNil)))) (dNil)))))) (sRet (dC (.bool false))) (sNext)) (sSeq (sIf (dOr (dTest (dOp dNe (dCall p_plus W (dCons (dCall p_minus W (dCons (dVar 9) (dCons (dVar 10) (dNil)))) (dCons (dVar 10) (dNil)))) (dVar 9))) (dTest (dOp dNe (dCall p_minus W (dCons (dVar 9) (dCons (dVar 10) (dNil)))) (dCall p_opposite W (dCons (dCall p_minus W (dCons (dVar 10) (dCons (dVar 9) (dNil)))) (dNil)))))) (sRet (dC (.bool false))) (sNext)) (sSeq (sIf (dAnd (dTest (dOp dNe (dCall p_sign W (dCons (dVar 10) (dNil))) (dC (.int 0)))) (dTest (dOp dNe (dCall p_times W (dCons (dCall p_over W (dCons (dVar 9) (dCons (dVar 10) (dNil)))) (dCons (dVar 10) (dNil)))) (dVar 9)))) (sRet (dC (.bool false))) (sNext)) (sSeq (sIf (dTest (dOp dNe (dCall p_compare W (dCons (dVar 9) (dCons (dVar 10) (dNil)))) (dCall p_sign W (dCons (dCall p_minus W (dCons (dVar 9) (dCons (dVar 10) (dNil)))) (dNil))))) (sRet (dC (.bool false))) (sNext)) (sSeq (sIf (dTest (dOp dNe (dCall p_compare W (dCons (dCall p_plus W (dCons (dVar 9) (dCons (dVar 11) (dNil)))) (dCons (dCall p_plus W (dCons (dVar 10) (dCons (dVar 11) (dNil)))) (dNil)))) (dCall p_compare W (dCons (dVar 9) (dCons (dVar 10) (dNil)))))) (sRet (dC (.bool false))) (sNext)) (sSeq (sIf (dTest (dOp dNe (dOp dMul (dCall p_sign W (dCons (dVar 11) (dNil))) (dCall p_compare W (dCons (dVar 9) (dCons (dVar 10) (dNil))))) (dCall p_compare W (dCons (dCall p_times W (dCons (dVar 9) (dCons (dVar 11) (dNil)))) (dCons (dCall p_times W (dCons (dVar 10) (dCons (dVar 11) (dNil)))) (dNil)))))) (sRet (dC (.bool false))) (sNext)) (sSeq (sSet 12 (dCall p_number W (dCons (dCall p_floor W (dCons (dVar 9) (dNil))) (dCons (dC (.int 0)) (dCons (dC (.int 0)) (dCons (dC (.int 1)) (dNil))))))) (sSeq (sIf (dOr (dTest (dOp dGt (dCall p_compare W (dCons (dVar 12) (dCons (dVar 9) (dNil)))) (dC (.int 0)))) (dTest (dOp dLt (dCall p_compare W (dCons (dCall p_plus W (dCons (dVar 12) (dCons (dTup (dCons (dC (.int 1)) (dCons (dC (.int 0)) (dCons (dC (.int 0)) (dCons (dC (.int 1)) (dNil)))))) (dNil)))) (dCons (dVar 9) (dNil)))) (dC (.int 1))))) (sRet (dC (.bool false))) (sNext)) (sSeq (sSet 13 (dOp dSub (withLent 1 (dCallL p__law_upto W 1 (dCons (dC (.int 1000)) (dNil)))) (dC (.int 500)))) (sSeq (sIf (dTest (dOp dNe (dCall p_floor W (dCons (dCall p_plus W (dCons (dVar 9) (dCons (dCall p_number W (dCons (dVar 13) (dCons (dC (.int 0)) (dCons (dC (.int 0)) (dCons (dC (.int 1)) (dNil)))))) (dNil)))) (dNil))) (dOp dAdd (dCall p_floor W (dCons (dVar 9) (dNil))) (dVar 13)))) (sRet (dC (.bool false))) (sNext)) (sSeq (sSet 14 (dCall p_number W (dCons (dC (.int 0)) (dCons (dC (.int 1)) (dCons (dVar 3) (dCons (dC (.int 1)) (dNil))))))) (sIf (dOr (dTest (dOp dNe (dCall p_times W (dCons (dVar 14) (dCons (dVar 14) (dNil)))) (dCall p_number W (dCons (dVar 3) (dCons (dC (.int 0)) (dCons (dC (.int 0)) (dCons (dC (.int 1)) (dNil)))))))) (dTest (dOp dNe (dCall p_sign W (dCons (dVar 14) (dNil))) (dC (.int 1))))) (sRet (dC (.bool false))) (sNext))))))))))))))))))) (sRet (dC (.bool true))))
end KK
set_option maxHeartbeats 1000000
namespace KK
open PySem PySem.Spec PyProof.Rows L2 DL
theorem pure_common_divisor (α : List SD) (QD : Ret → List SD → Prop) (ED : Exd → List SD → Prop) (W : WD) (hW : W = fun e ρ => outK α ρ fun α' => ED e α') (h : p_common_divisor α QD ED) : r_common_divisor W (DEnd α QD) (startD n_common_divisor.length α) := by
  obtain ⟨a, b, rfl, hq⟩ := h
  unfold r_common_divisor DEnd
  refine ⟨fun m ρ => ∃ x y : Int, ρ = [iv x, iv y] ∧ m = y.natAbs ∧ Int.gcd x y = Int.gcd a b, ⟨_, a, b, rfl, rfl, rfl⟩, ?_⟩
  rintro _ _ ⟨x, y, rfl, rfl, hg⟩
  by_cases hy : y = 0
  · subst hy
    simp [sSeq, sIf, sNext, sSet, sAug, sRet, sPar, sPar3, asThree, sRaise, sAsg, sOwn, sApp, sPut, sRetN, sRetOwn, sRetU, sDrop, sBreak, sCont, dVar, dC, dOp, dTest, dCons, dNil, dTup, nLst, dNew, dNeg, dIf, dF1, dAnd, dOr, dNot, dAndV, dOrV, dNotV, dCall, nCall, dCallL, nCallL, withLent, withLentN, vw, frz, dI, dI0, dB0, int2, dEq, dNe, dAdd, dSub, dIAdd, atD, gName', gTup', gNil', gCons', gLst', lenIs, retD, retN, lendK, backK, isLent, ownK, fAbs, fLen, fMax, fMin, startD, outK, shp_int, eqv_int]
    rw [← hg] at hq
    have e : ((Int.gcd x 0 : Nat) : Int) = if x < 0 then -x else x := by
      rw [Int.gcd_zero_right]; split <;> omega
    rwa [e] at hq
  · simp [sSeq, sIf, sNext, sSet, sAug, sRet, sPar, sPar3, asThree, sRaise, sAsg, sOwn, sApp, sPut, sRetN, sRetOwn, sRetU, sDrop, sBreak, sCont, dVar, dC, dOp, dTest, dCons, dNil, dTup, nLst, dNew, dNeg, dIf, dF1, dAnd, dOr, dNot, dAndV, dOrV, dNotV, dCall, nCall, dCallL, nCallL, withLent, withLentN, vw, frz, dI, dI0, dB0, int2, dEq, dNe, dAdd, dSub, dIAdd, atD, gName', gTup', gNil', gCons', gLst', lenIs, retD, retN, lendK, backK, isLent, ownK, fAbs, fLen, fMax, fMin, startD, outK, shp_int, eqv_int, hy]
    refine ⟨(x.fmod y).natAbs, ?_, y, x.fmod y, ⟨rfl, rfl⟩, rfl, ?_⟩
    · rcases Int.lt_or_gt_of_ne hy with h | h
      · have h1 := Int.fmod_nonneg_of_pos (-x) (show 0 < -y by omega)
        have h2 := Int.fmod_lt_of_pos (-x) (show 0 < -y by omega)
        rw [Int.neg_fmod_neg] at h1 h2
        omega
      · have h1 := Int.fmod_nonneg_of_pos x h
        have h2 := Int.fmod_lt_of_pos x h
        omega
    · rw [← hg]
      have e : x.fmod y = x - y * (x.fdiv y) := by have := Int.mul_fdiv_add_fmod x y; omega
      rw [e, Int.gcd_comm x y, Int.sub_eq_add_neg, ← Int.mul_neg, Int.gcd_add_mul_left_right]
theorem newton {a f : Int} (hf : 0 < f) (ha : 0 ≤ a) (r : Int) (h : r * r ≤ a) (hr : 0 ≤ r) : r ≤ (f + a / f) / 2 := by
  rcases Int.lt_or_le ((f + a / f) / 2) r with z | z
  · have h1 : f + a / f ≤ 2 * r - 1 := by omega
    have h2 : a < f * (a / f + 1) := by
      have := Int.lt_mul_ediv_self_add (x := a) hf
      grind
    have h3 : f * (a / f + 1) ≤ f * (2 * r - f) := Int.mul_le_mul_of_nonneg_left (by omega) (by omega)
    have h4 := sq_nn (r - f)
    grind
  · exact z
theorem Bd.two {i : Int} (h0 : 0 ≤ i) (h : i < 4) : Bd 2 i := by unfold Bd; omega
theorem Bd.of {n : Nat} {i j : Int} (h : Bd n j) (h0 : 0 ≤ i) (h1 : i ≤ j) : Bd n i := by unfold Bd at *; omega
theorem pure_root_floor (α : List SD) (QD : Ret → List SD → Prop) (ED : Exd → List SD → Prop) (W : WD) (hW : W = fun e ρ => outK α ρ fun α' => ED e α') (h : p_root_floor α QD ED) : r_root_floor W (DEnd α QD) (startD n_root_floor.length α) := by
  obtain ⟨a, rfl, ha, hB, hq⟩ := h
  unfold r_root_floor DEnd
  have B2 : Bd 8002 (2 * a) := by
    have := (Bd.two (i := 2) (by omega) (by omega)).mul hB
    exact this.mono (by omega)
  by_cases h2 : a < 2
  · simp [sSeq, sIf, sNext, sSet, sAug, sRet, sPar, sPar3, asThree, sRaise, sAsg, sOwn, sApp, sPut, sRetN, sRetOwn, sRetU, sDrop, sBreak, sCont, dVar, dC, dOp, dTest, dCons, dNil, dTup, nLst, dNew, dNeg, dIf, dF1, dAnd, dOr, dNot, dAndV, dOrV, dNotV, dCall, nCall, dCallL, nCallL, withLent, withLentN, vw, frz, dI, dI0, dB0, int2, dEq, dNe, dAdd, dSub, dIAdd, atD, gName', gTup', gNil', gCons', gLst', lenIs, retD, retN, lendK, backK, isLent, ownK, fAbs, fLen, fMax, fMin, startD, outK, shp_int, eqv_int, h2]
    refine hq a ⟨ha, ?_, ?_⟩ <;> (have : a = 0 ∨ a = 1 := by omega) <;> rcases this with rfl | rfl <;> decide
  · simp [sSeq, sIf, sNext, sSet, sAug, sRet, sPar, sPar3, asThree, sRaise, sAsg, sOwn, sApp, sPut, sRetN, sRetOwn, sRetU, sDrop, sBreak, sCont, dVar, dC, dOp, dTest, dCons, dNil, dTup, nLst, dNew, dNeg, dIf, dF1, dAnd, dOr, dNot, dAndV, dOrV, dNotV, dCall, nCall, dCallL, nCallL, withLent, withLentN, vw, frz, dI, dI0, dB0, int2, dEq, dNe, dAdd, dSub, dIAdd, atD, gName', gTup', gNil', gCons', gLst', lenIs, retD, retN, lendK, backK, isLent, ownK, fAbs, fLen, fMax, fMin, startD, outK, shp_int, eqv_int, h2, n_root_floor]
    refine ⟨fun m ρ => ∃ f : Int, ρ = [iv a, iv f, .no] ∧ 0 < f ∧ f ≤ 2 * a ∧ m = (2 * a - f).natAbs, ⟨_, 1, rfl, by omega, by omega, rfl⟩, ?_⟩
    rintro _ _ ⟨f, rfl, f0, fa, rfl⟩
    have Bf : Bd 8002 f := B2.of (by omega) fa
    simp [sSeq, sIf, sNext, sSet, sAug, sRet, sPar, sPar3, asThree, sRaise, sAsg, sOwn, sApp, sPut, sRetN, sRetOwn, sRetU, sDrop, sBreak, sCont, dVar, dC, dOp, dTest, dCons, dNil, dTup, nLst, dNew, dNeg, dIf, dF1, dAnd, dOr, dNot, dAndV, dOrV, dNotV, dCall, nCall, dCallL, nCallL, withLent, withLentN, vw, frz, dI, dI0, dB0, int2, dEq, dNe, dAdd, dSub, dIAdd, atD, gName', gTup', gNil', gCons', gLst', lenIs, retD, retN, lendK, backK, isLent, ownK, fAbs, fLen, fMax, fMin, startD, outK, shp_int, eqv_int]
    refine ⟨Bf.cm Bf (by omega), ?_⟩
    by_cases hff : f * f ≤ a
    · have : f ≤ a := by
        have := Int.mul_le_mul_of_nonneg_left (show 1 ≤ f by omega) (show 0 ≤ f by omega)
        omega
      simp [sSeq, sIf, sNext, sSet, sAug, sRet, sPar, sPar3, asThree, sRaise, sAsg, sOwn, sApp, sPut, sRetN, sRetOwn, sRetU, sDrop, sBreak, sCont, dVar, dC, dOp, dTest, dCons, dNil, dTup, nLst, dNew, dNeg, dIf, dF1, dAnd, dOr, dNot, dAndV, dOrV, dNotV, dCall, nCall, dCallL, nCallL, withLent, withLentN, vw, frz, dI, dI0, dB0, int2, dEq, dNe, dAdd, dSub, dIAdd, atD, gName', gTup', gNil', gCons', gLst', lenIs, retD, retN, lendK, backK, isLent, ownK, fAbs, fLen, fMax, fMin, startD, outK, shp_int, eqv_int, hff]
      exact ⟨Bf.cm (Bd.two (i := 2) (by omega) (by omega)) (by omega), (2 * a - f * 2).natAbs, by omega, by omega, by omega, rfl⟩
    · simp [sSeq, sIf, sNext, sSet, sAug, sRet, sPar, sPar3, asThree, sRaise, sAsg, sOwn, sApp, sPut, sRetN, sRetOwn, sRetU, sDrop, sBreak, sCont, dVar, dC, dOp, dTest, dCons, dNil, dTup, nLst, dNew, dNeg, dIf, dF1, dAnd, dOr, dNot, dAndV, dOrV, dNotV, dCall, nCall, dCallL, nCallL, withLent, withLentN, vw, frz, dI, dI0, dB0, int2, dEq, dNe, dAdd, dSub, dIAdd, atD, gName', gTup', gNil', gCons', gLst', lenIs, retD, retN, lendK, backK, isLent, ownK, fAbs, fLen, fMax, fMin, startD, outK, shp_int, eqv_int, hff]
      have cd : ∀ g x : Int, 0 < g → g ≤ 2 * a → CDivF x g := fun g x h1 h2 => ⟨by omega, (B2.of (by omega) h2).log (by omega)⟩
      have c2 : ∀ x : Int, CDivF x 2 := fun x => ⟨by decide, by decide⟩
      have da : ∀ g : Int, 0 < g → 0 ≤ a / g ∧ a / g ≤ a := fun g hg => ⟨Int.ediv_nonneg ha (by omega), Int.ediv_le_self _ ha⟩
      refine ⟨cd f a f0 fa, c2 _, ?_⟩
      rw [fd_pos f0, fd_pos (show (0 : Int) < 2 by decide)]
      refine ⟨fun m ρ => ∃ f : Int, ρ = [iv a, iv f, iv ((f + a / f) / 2)] ∧ 0 < f ∧ f ≤ 2 * a ∧ (∀ r, 0 ≤ r → r * r ≤ a → r ≤ f) ∧ m = f.natAbs, ⟨_, f, rfl, f0, fa, fun r h0 hr => ?_, rfl⟩, ?_⟩
      · rcases Int.lt_or_le f r with z | z
        · have := Int.mul_le_mul (show f ≤ r by omega) (show f ≤ r by omega) (by omega) (by omega)
          omega
        · exact z
      rintro _ _ ⟨g, rfl, g0, ga, hg, rfl⟩
      simp [sSeq, sIf, sNext, sSet, sAug, sRet, sPar, sPar3, asThree, sRaise, sAsg, sOwn, sApp, sPut, sRetN, sRetOwn, sRetU, sDrop, sBreak, sCont, dVar, dC, dOp, dTest, dCons, dNil, dTup, nLst, dNew, dNeg, dIf, dF1, dAnd, dOr, dNot, dAndV, dOrV, dNotV, dCall, nCall, dCallL, nCallL, withLent, withLentN, vw, frz, dI, dI0, dB0, int2, dEq, dNe, dAdd, dSub, dIAdd, atD, gName', gTup', gNil', gCons', gLst', lenIs, retD, retN, lendK, backK, isLent, ownK, fAbs, fLen, fMax, fMin, startD, outK, shp_int, eqv_int]
      have nw : ∀ r, 0 ≤ r → r * r ≤ a → r ≤ (g + a / g) / 2 := fun r h0 hr => newton g0 ha r hr h0
      by_cases hlt : (g + a / g) / 2 < g
      · have p1 : 1 ≤ (g + a / g) / 2 := nw 1 (by omega) (by omega)
        simp [sSeq, sIf, sNext, sSet, sAug, sRet, sPar, sPar3, asThree, sRaise, sAsg, sOwn, sApp, sPut, sRetN, sRetOwn, sRetU, sDrop, sBreak, sCont, dVar, dC, dOp, dTest, dCons, dNil, dTup, nLst, dNew, dNeg, dIf, dF1, dAnd, dOr, dNot, dAndV, dOrV, dNotV, dCall, nCall, dCallL, nCallL, withLent, withLentN, vw, frz, dI, dI0, dB0, int2, dEq, dNe, dAdd, dSub, dIAdd, atD, gName', gTup', gNil', gCons', gLst', lenIs, retD, retN, lendK, backK, isLent, ownK, fAbs, fLen, fMax, fMin, startD, outK, shp_int, eqv_int, hlt]
        refine ⟨cd _ _ (by omega) (by omega), c2 _, ?_⟩
        rw [fd_pos (show 0 < (g + a / g) / 2 by omega), fd_pos (show (0 : Int) < 2 by decide)]
        exact ⟨_, by omega, _, ⟨rfl, rfl⟩, by omega, by omega, nw, rfl⟩
      · simp [sSeq, sIf, sNext, sSet, sAug, sRet, sPar, sPar3, asThree, sRaise, sAsg, sOwn, sApp, sPut, sRetN, sRetOwn, sRetU, sDrop, sBreak, sCont, dVar, dC, dOp, dTest, dCons, dNil, dTup, nLst, dNew, dNeg, dIf, dF1, dAnd, dOr, dNot, dAndV, dOrV, dNotV, dCall, nCall, dCallL, nCallL, withLent, withLentN, vw, frz, dI, dI0, dB0, int2, dEq, dNe, dAdd, dSub, dIAdd, atD, gName', gTup', gNil', gCons', gLst', lenIs, retD, retN, lendK, backK, isLent, ownK, fAbs, fLen, fMax, fMin, startD, outK, shp_int, eqv_int, hlt]
        have h1 : g ≤ a / g := by omega
        have h2 : g * g ≤ a := by
          have h3 := Int.mul_le_mul_of_nonneg_left h1 (show 0 ≤ g by omega)
          have h4 := Int.mul_ediv_self_le (x := a) (k := g) (by omega)
          omega
        refine hq g ⟨by omega, h2, ?_⟩
        rcases Int.lt_or_le a ((g + 1) * (g + 1)) with z | z
        · exact z
        · have := hg (g + 1) (by omega) z
          omega
theorem pure_without_squares (α : List SD) (QD : Ret → List SD → Prop) (ED : Exd → List SD → Prop) (W : WD) (hW : W = fun e ρ => outK α ρ fun α' => ED e α') (h : p_without_squares α QD ED) : r_without_squares W (DEnd α QD) (startD n_without_squares.length α) := by
  obtain ⟨a, rfl, ha, hB, hq⟩ := h
  unfold r_without_squares DEnd
  have B2 : Bd 4003 (4 * a) := by
    have := (show Bd 3 4 by unfold Bd; decide).mul hB
    exact this.mono (by omega)
  have Ba : ∀ {i : Int}, 0 ≤ i → i ≤ 4 * a → Bd 4003 i := fun h0 h1 => B2.of h0 h1
  simp [sSeq, sIf, sNext, sSet, sAug, sRet, sPar, sPar3, asThree, sRaise, sAsg, sOwn, sApp, sPut, sRetN, sRetOwn, sRetU, sDrop, sBreak, sCont, dVar, dC, dOp, dTest, dCons, dNil, dTup, nLst, dNew, dNeg, dIf, dF1, dAnd, dOr, dNot, dAndV, dOrV, dNotV, dCall, nCall, dCallL, nCallL, withLent, withLentN, vw, frz, dI, dI0, dB0, int2, dEq, dNe, dAdd, dSub, dIAdd, atD, gName', gTup', gNil', gCons', gLst', lenIs, retD, retN, lendK, backK, isLent, ownK, fAbs, fLen, fMax, fMin, startD, outK, shp_int, eqv_int, n_without_squares]
  refine ⟨fun m ρ => ∃ f r p : Int, ρ = [iv a, iv f, iv r, iv p] ∧ 0 < f ∧ 0 < r ∧ 1 < p ∧ p ≤ a + 1 + 1 ∧ f * f * r = a ∧ (∀ k : Int, 1 < k → k < p → ¬ (k * k ∣ r)) ∧ m = (a + 2 - p).natAbs, ⟨_, 1, a, 2, rfl, by omega, ha, by omega, by omega, by omega, fun k h1 h2 => by omega, rfl⟩, ?_⟩
  rintro _ _ ⟨f, r, p, rfl, f0, r0, p1, pa, e, hs, rfl⟩
  have ff : 1 ≤ f * f := by have := Int.mul_pos f0 f0; omega
  have ra : r ≤ a := by
    have := Int.mul_le_mul_of_nonneg_right ff (show 0 ≤ r by omega)
    omega
  have fa : f ≤ a := by
    have h1 := Int.mul_le_mul_of_nonneg_left (show 1 ≤ f by omega) (show 0 ≤ f by omega)
    have h2 := Int.mul_le_mul_of_nonneg_left (show 1 ≤ r by omega) (show 0 ≤ f * f by omega)
    omega
  have Bp : Bd 4003 p := Ba (by omega) (by omega)
  simp [sSeq, sIf, sNext, sSet, sAug, sRet, sPar, sPar3, asThree, sRaise, sAsg, sOwn, sApp, sPut, sRetN, sRetOwn, sRetU, sDrop, sBreak, sCont, dVar, dC, dOp, dTest, dCons, dNil, dTup, nLst, dNew, dNeg, dIf, dF1, dAnd, dOr, dNot, dAndV, dOrV, dNotV, dCall, nCall, dCallL, nCallL, withLent, withLentN, vw, frz, dI, dI0, dB0, int2, dEq, dNe, dAdd, dSub, dIAdd, atD, gName', gTup', gNil', gCons', gLst', lenIs, retD, retN, lendK, backK, isLent, ownK, fAbs, fLen, fMax, fMin, startD, outK, shp_int, eqv_int]
  refine ⟨Bp.cm Bp (by omega), ?_⟩
  by_cases hpp : p * p ≤ r
  · simp [sSeq, sIf, sNext, sSet, sAug, sRet, sPar, sPar3, asThree, sRaise, sAsg, sOwn, sApp, sPut, sRetN, sRetOwn, sRetU, sDrop, sBreak, sCont, dVar, dC, dOp, dTest, dCons, dNil, dTup, nLst, dNew, dNeg, dIf, dF1, dAnd, dOr, dNot, dAndV, dOrV, dNotV, dCall, nCall, dCallL, nCallL, withLent, withLentN, vw, frz, dI, dI0, dB0, int2, dEq, dNe, dAdd, dSub, dIAdd, atD, gName', gTup', gNil', gCons', gLst', lenIs, retD, retN, lendK, backK, isLent, ownK, fAbs, fLen, fMax, fMin, startD, outK, shp_int, eqv_int, hpp]
    have hpa : p ≤ a := by
      have := Int.mul_le_mul_of_nonneg_left (show 1 ≤ p by omega) (show 0 ≤ p by omega)
      omega
    have p0 : 0 < p * p := Int.mul_pos (by omega) (by omega)
    refine ⟨fun m ρ => ∃ f r : Int, ρ = [iv a, iv f, iv r, iv p] ∧ 0 < f ∧ 0 < r ∧ f * f * r = a ∧ (∀ k : Int, 1 < k → k < p → ¬ (k * k ∣ r)) ∧ m = r.natAbs, ⟨_, f, r, rfl, f0, r0, e, hs, rfl⟩, ?_⟩
    rintro _ _ ⟨f', r', rfl, f0, r0, e, hs, rfl⟩
    have fm : (r'.fmod (p * p) = 0) ↔ (p * p ∣ r') := by rw [fm_pos p0, ← Int.dvd_iff_emod_eq_zero]
    have ff : 1 ≤ f' * f' := by have := Int.mul_pos f0 f0; omega
    have ra : r' ≤ a := by
      have := Int.mul_le_mul_of_nonneg_right ff (show 0 ≤ r' by omega)
      omega
    have fa : f' ≤ a := by
      have h1 := Int.mul_le_mul_of_nonneg_left (show 1 ≤ f' by omega) (show 0 ≤ f' by omega)
      have h2 := Int.mul_le_mul_of_nonneg_left (show 1 ≤ r' by omega) (show 0 ≤ f' * f' by omega)
      omega
    simp [sSeq, sIf, sNext, sSet, sAug, sRet, sPar, sPar3, asThree, sRaise, sAsg, sOwn, sApp, sPut, sRetN, sRetOwn, sRetU, sDrop, sBreak, sCont, dVar, dC, dOp, dTest, dCons, dNil, dTup, nLst, dNew, dNeg, dIf, dF1, dAnd, dOr, dNot, dAndV, dOrV, dNotV, dCall, nCall, dCallL, nCallL, withLent, withLentN, vw, frz, dI, dI0, dB0, int2, dEq, dNe, dAdd, dSub, dIAdd, atD, gName', gTup', gNil', gCons', gLst', lenIs, retD, retN, lendK, backK, isLent, ownK, fAbs, fLen, fMax, fMin, startD, outK, shp_int, eqv_int]
    refine ⟨Bp.cm Bp (by omega), by omega, ?_⟩
    by_cases hd : p * p ∣ r'
    · have hd' := fm.mpr hd
      simp [sSeq, sIf, sNext, sSet, sAug, sRet, sPar, sPar3, asThree, sRaise, sAsg, sOwn, sApp, sPut, sRetN, sRetOwn, sRetU, sDrop, sBreak, sCont, dVar, dC, dOp, dTest, dCons, dNil, dTup, nLst, dNew, dNeg, dIf, dF1, dAnd, dOr, dNot, dAndV, dOrV, dNotV, dCall, nCall, dCallL, nCallL, withLent, withLentN, vw, frz, dI, dI0, dB0, int2, dEq, dNe, dAdd, dSub, dIAdd, atD, gName', gTup', gNil', gCons', gLst', lenIs, retD, retN, lendK, backK, isLent, ownK, fAbs, fLen, fMax, fMin, startD, outK, shp_int, eqv_int, hd']
      obtain ⟨t, rfl⟩ := hd
      have t0 : 0 < t := by
        rcases Int.lt_or_le 0 t with z | z
        · exact z
        · have := Int.mul_nonpos_of_nonneg_of_nonpos (show 0 ≤ p * p by omega) z
          omega
      have et : (p * p * t).fdiv (p * p) = t := by rw [fd_pos p0, Int.mul_ediv_cancel_left _ (by omega)]
      have B9 : Bd 8006 (p * p) := (Bp.mul Bp).mono (by omega)
      refine ⟨Bp.cm Bp (by omega), ⟨by omega, B9.log (by omega)⟩, (Ba (by omega) (by omega)).cm Bp (by omega), ?_⟩
      rw [et]
      have lt : t < p * p * t := by
        have h4 : 4 ≤ p * p := by
          have := Int.mul_le_mul (show 2 ≤ p by omega) (show 2 ≤ p by omega) (by omega) (by omega)
          omega
        have := Int.mul_le_mul_of_nonneg_right h4 (show 0 ≤ t by omega)
        omega
      refine ⟨_, ?_, f' * p, t, ⟨rfl, rfl⟩, Int.mul_pos f0 (by omega), t0, by rw [← e]; grind, fun k h1 h2 hk => hs k h1 h2 (Int.dvd_trans hk (Int.dvd_mul_left _ _)), rfl⟩
      omega
    · have hd' : ¬ (r'.fmod (p * p) = 0) := fun z => hd (fm.mp z)
      simp [sSeq, sIf, sNext, sSet, sAug, sRet, sPar, sPar3, asThree, sRaise, sAsg, sOwn, sApp, sPut, sRetN, sRetOwn, sRetU, sDrop, sBreak, sCont, dVar, dC, dOp, dTest, dCons, dNil, dTup, nLst, dNew, dNeg, dIf, dF1, dAnd, dOr, dNot, dAndV, dOrV, dNotV, dCall, nCall, dCallL, nCallL, withLent, withLentN, vw, frz, dI, dI0, dB0, int2, dEq, dNe, dAdd, dSub, dIAdd, atD, gName', gTup', gNil', gCons', gLst', lenIs, retD, retN, lendK, backK, isLent, ownK, fAbs, fLen, fMax, fMin, startD, outK, shp_int, eqv_int, hd']
      refine ⟨_, ?_, f', r', p + 1, ⟨rfl, rfl, rfl⟩, f0, r0, by omega, by omega, e, fun k h1 h2 => ?_, rfl⟩
      · omega
      · by_cases hk : k = p
        · rw [hk]; exact hd
        · exact hs k h1 (by omega)
  · simp [sSeq, sIf, sNext, sSet, sAug, sRet, sPar, sPar3, asThree, sRaise, sAsg, sOwn, sApp, sPut, sRetN, sRetOwn, sRetU, sDrop, sBreak, sCont, dVar, dC, dOp, dTest, dCons, dNil, dTup, nLst, dNew, dNeg, dIf, dF1, dAnd, dOr, dNot, dAndV, dOrV, dNotV, dCall, nCall, dCallL, nCallL, withLent, withLentN, vw, frz, dI, dI0, dB0, int2, dEq, dNe, dAdd, dSub, dIAdd, atD, gName', gTup', gNil', gCons', gLst', lenIs, retD, retN, lendK, backK, isLent, ownK, fAbs, fLen, fMax, fMin, startD, outK, shp_int, eqv_int, hpp]
    refine ⟨by decide, hq f r f0 r0 e fun k hk hd => ?_⟩
    have h3 : k * k ≤ r := Int.le_of_dvd r0 hd
    rcases Int.lt_or_le k p with z | z
    · exact hs k hk z hd
    · have := Int.mul_le_mul z z (by omega) (by omega)
      omega
end KK

set_option maxHeartbeats 1000000
namespace KK
open PySem PySem.Spec PyProof.Rows L2 DL
theorem gc_bd {p q s : Int} {n : Nat} (hs : s ≠ 0) (h : Bd n s) : Bd n (gc p q s) := by
  have h1 : (gc p q s).natAbs ≤ s.natAbs := Nat.le_of_dvd (by omega) (Int.natAbs_dvd_natAbs.mpr gc_ds)
  unfold Bd at *
  omega
theorem gc_int (p q s : Int) : ((Int.gcd ((Int.gcd p q : Nat) : Int) s : Nat) : Int) = gc p q s := by
  unfold gc Int.gcd
  rw [Int.natAbs_natCast]
theorem low_q {p q d s : Int} (hs : s ≠ 0) : (low p q d s).q = 0 ↔ q = 0 := by
  obtain ⟨k, hk, _, h2, _⟩ := low_spec (p := p) (q := q) d hs
  constructor
  · intro h; rw [h2, h, Int.mul_zero]
  · intro h; rw [h] at h2 ⊢; rcases Int.mul_eq_zero.mp h2.symm with z | z; exact absurd z hk; exact z
theorem pure_lowest (α : List SD) (QD : Ret → List SD → Prop) (ED : Exd → List SD → Prop) (W : WD) (hW : W = fun e ρ => outK α ρ fun α' => ED e α') (h : p_lowest α QD ED) : r_lowest W (DEnd α QD) (startD n_lowest.length α) := by
  obtain ⟨p, q, d, s, rfl, hs, hB, hq⟩ := h
  unfold r_lowest DEnd
  have g0 := gc_pos (p := p) (q := q) hs
  have gB : CDivF 0 (gc p q s) := ⟨by omega, (gc_bd hs hB).log (by omega)⟩
  have cd : ∀ x, CDivF x (gc p q s) := fun _ => gB
  have lq := low_q (p := p) (q := q) (d := d) hs
  by_cases h0 : s < 0
  · have e : gc (-p) (-q) (-s) = gc p q s := by unfold gc; rw [Int.natAbs_neg, Int.natAbs_neg, Int.natAbs_neg]
    have sg' : sg s = -1 := by unfold sg; rw [if_pos h0]
    have e3 : low p q d s = ⟨-p / gc p q s, -q / gc p q s, if q = 0 then 0 else d, -s / gc p q s⟩ := by unfold low; rw [sg']; simp [sSeq, sIf, sNext, sSet, sAug, sRet, sPar, sPar3, asThree, sRaise, sAsg, sOwn, sApp, sPut, sRetN, sRetOwn, sRetU, sDrop, sBreak, sCont, dVar, dC, dOp, dTest, dCons, dNil, dTup, nLst, dNew, dNeg, dIf, dF1, dAnd, dOr, dNot, dAndV, dOrV, dNotV, dCall, nCall, dCallL, nCallL, withLent, withLentN, vw, frz, dI, dI0, dB0, int2, dEq, dNe, dAdd, dSub, dIAdd, atD, gName', gTup', gNil', gCons', gLst', lenIs, retD, retN, lendK, backK, isLent, ownK, fAbs, fLen, fMax, fMin, startD, outK, shp_int, eqv_int]
    rw [e3] at hq lq
    simp [sSeq, sIf, sNext, sSet, sAug, sRet, sPar, sPar3, asThree, sRaise, sAsg, sOwn, sApp, sPut, sRetN, sRetOwn, sRetU, sDrop, sBreak, sCont, dVar, dC, dOp, dTest, dCons, dNil, dTup, nLst, dNew, dNeg, dIf, dF1, dAnd, dOr, dNot, dAndV, dOrV, dNotV, dCall, nCall, dCallL, nCallL, withLent, withLentN, vw, frz, dI, dI0, dB0, int2, dEq, dNe, dAdd, dSub, dIAdd, atD, gName', gTup', gNil', gCons', gLst', lenIs, retD, retN, lendK, backK, isLent, ownK, fAbs, fLen, fMax, fMin, startD, outK, shp_int, eqv_int, h0, n_lowest]
    refine ⟨-p, -q, rfl, _, -s, rfl, ?_⟩
    rw [gc_int, e]
    simp [sSeq, sIf, sNext, sSet, sAug, sRet, sPar, sPar3, asThree, sRaise, sAsg, sOwn, sApp, sPut, sRetN, sRetOwn, sRetU, sDrop, sBreak, sCont, dVar, dC, dOp, dTest, dCons, dNil, dTup, nLst, dNew, dNeg, dIf, dF1, dAnd, dOr, dNot, dAndV, dOrV, dNotV, dCall, nCall, dCallL, nCallL, withLent, withLentN, vw, frz, dI, dI0, dB0, int2, dEq, dNe, dAdd, dSub, dIAdd, atD, gName', gTup', gNil', gCons', gLst', lenIs, retD, retN, lendK, backK, isLent, ownK, fAbs, fLen, fMax, fMin, startD, outK, shp_int, eqv_int, cd]
    rw [fd_pos g0, fd_pos g0, fd_pos g0]
    have lq : -q / gc p q s = 0 ↔ q = 0 := lq
    by_cases hz : q = 0
    · have := lq.mpr hz
      subst hz
      simp [sSeq, sIf, sNext, sSet, sAug, sRet, sPar, sPar3, asThree, sRaise, sAsg, sOwn, sApp, sPut, sRetN, sRetOwn, sRetU, sDrop, sBreak, sCont, dVar, dC, dOp, dTest, dCons, dNil, dTup, nLst, dNew, dNeg, dIf, dF1, dAnd, dOr, dNot, dAndV, dOrV, dNotV, dCall, nCall, dCallL, nCallL, withLent, withLentN, vw, frz, dI, dI0, dB0, int2, dEq, dNe, dAdd, dSub, dIAdd, atD, gName', gTup', gNil', gCons', gLst', lenIs, retD, retN, lendK, backK, isLent, ownK, fAbs, fLen, fMax, fMin, startD, outK, shp_int, eqv_int] at hq ⊢
      exact ⟨by decide, hq⟩
    · have : ¬ (-q / gc p q s = 0) := fun z => hz (lq.mp z)
      simp [sSeq, sIf, sNext, sSet, sAug, sRet, sPar, sPar3, asThree, sRaise, sAsg, sOwn, sApp, sPut, sRetN, sRetOwn, sRetU, sDrop, sBreak, sCont, dVar, dC, dOp, dTest, dCons, dNil, dTup, nLst, dNew, dNeg, dIf, dF1, dAnd, dOr, dNot, dAndV, dOrV, dNotV, dCall, nCall, dCallL, nCallL, withLent, withLentN, vw, frz, dI, dI0, dB0, int2, dEq, dNe, dAdd, dSub, dIAdd, atD, gName', gTup', gNil', gCons', gLst', lenIs, retD, retN, lendK, backK, isLent, ownK, fAbs, fLen, fMax, fMin, startD, outK, shp_int, eqv_int, hz] at hq
      simp [sSeq, sIf, sNext, sSet, sAug, sRet, sPar, sPar3, asThree, sRaise, sAsg, sOwn, sApp, sPut, sRetN, sRetOwn, sRetU, sDrop, sBreak, sCont, dVar, dC, dOp, dTest, dCons, dNil, dTup, nLst, dNew, dNeg, dIf, dF1, dAnd, dOr, dNot, dAndV, dOrV, dNotV, dCall, nCall, dCallL, nCallL, withLent, withLentN, vw, frz, dI, dI0, dB0, int2, dEq, dNe, dAdd, dSub, dIAdd, atD, gName', gTup', gNil', gCons', gLst', lenIs, retD, retN, lendK, backK, isLent, ownK, fAbs, fLen, fMax, fMin, startD, outK, shp_int, eqv_int, this]
      exact ⟨by decide, hq⟩
  · have sg' : sg s = 1 := by unfold sg; rw [if_neg h0]
    have e3 : low p q d s = ⟨p / gc p q s, q / gc p q s, if q = 0 then 0 else d, s / gc p q s⟩ := by unfold low; rw [sg']; simp [sSeq, sIf, sNext, sSet, sAug, sRet, sPar, sPar3, asThree, sRaise, sAsg, sOwn, sApp, sPut, sRetN, sRetOwn, sRetU, sDrop, sBreak, sCont, dVar, dC, dOp, dTest, dCons, dNil, dTup, nLst, dNew, dNeg, dIf, dF1, dAnd, dOr, dNot, dAndV, dOrV, dNotV, dCall, nCall, dCallL, nCallL, withLent, withLentN, vw, frz, dI, dI0, dB0, int2, dEq, dNe, dAdd, dSub, dIAdd, atD, gName', gTup', gNil', gCons', gLst', lenIs, retD, retN, lendK, backK, isLent, ownK, fAbs, fLen, fMax, fMin, startD, outK, shp_int, eqv_int]
    rw [e3] at hq lq
    simp [sSeq, sIf, sNext, sSet, sAug, sRet, sPar, sPar3, asThree, sRaise, sAsg, sOwn, sApp, sPut, sRetN, sRetOwn, sRetU, sDrop, sBreak, sCont, dVar, dC, dOp, dTest, dCons, dNil, dTup, nLst, dNew, dNeg, dIf, dF1, dAnd, dOr, dNot, dAndV, dOrV, dNotV, dCall, nCall, dCallL, nCallL, withLent, withLentN, vw, frz, dI, dI0, dB0, int2, dEq, dNe, dAdd, dSub, dIAdd, atD, gName', gTup', gNil', gCons', gLst', lenIs, retD, retN, lendK, backK, isLent, ownK, fAbs, fLen, fMax, fMin, startD, outK, shp_int, eqv_int, h0, n_lowest]
    refine ⟨p, q, rfl, _, s, rfl, ?_⟩
    rw [gc_int]
    simp [sSeq, sIf, sNext, sSet, sAug, sRet, sPar, sPar3, asThree, sRaise, sAsg, sOwn, sApp, sPut, sRetN, sRetOwn, sRetU, sDrop, sBreak, sCont, dVar, dC, dOp, dTest, dCons, dNil, dTup, nLst, dNew, dNeg, dIf, dF1, dAnd, dOr, dNot, dAndV, dOrV, dNotV, dCall, nCall, dCallL, nCallL, withLent, withLentN, vw, frz, dI, dI0, dB0, int2, dEq, dNe, dAdd, dSub, dIAdd, atD, gName', gTup', gNil', gCons', gLst', lenIs, retD, retN, lendK, backK, isLent, ownK, fAbs, fLen, fMax, fMin, startD, outK, shp_int, eqv_int, cd]
    rw [fd_pos g0, fd_pos g0, fd_pos g0]
    have lq : q / gc p q s = 0 ↔ q = 0 := lq
    by_cases hz : q = 0
    · subst hz
      simp [sSeq, sIf, sNext, sSet, sAug, sRet, sPar, sPar3, asThree, sRaise, sAsg, sOwn, sApp, sPut, sRetN, sRetOwn, sRetU, sDrop, sBreak, sCont, dVar, dC, dOp, dTest, dCons, dNil, dTup, nLst, dNew, dNeg, dIf, dF1, dAnd, dOr, dNot, dAndV, dOrV, dNotV, dCall, nCall, dCallL, nCallL, withLent, withLentN, vw, frz, dI, dI0, dB0, int2, dEq, dNe, dAdd, dSub, dIAdd, atD, gName', gTup', gNil', gCons', gLst', lenIs, retD, retN, lendK, backK, isLent, ownK, fAbs, fLen, fMax, fMin, startD, outK, shp_int, eqv_int] at hq ⊢
      exact ⟨by decide, hq⟩
    · have : ¬ (q / gc p q s = 0) := fun z => hz (lq.mp z)
      simp [sSeq, sIf, sNext, sSet, sAug, sRet, sPar, sPar3, asThree, sRaise, sAsg, sOwn, sApp, sPut, sRetN, sRetOwn, sRetU, sDrop, sBreak, sCont, dVar, dC, dOp, dTest, dCons, dNil, dTup, nLst, dNew, dNeg, dIf, dF1, dAnd, dOr, dNot, dAndV, dOrV, dNotV, dCall, nCall, dCallL, nCallL, withLent, withLentN, vw, frz, dI, dI0, dB0, int2, dEq, dNe, dAdd, dSub, dIAdd, atD, gName', gTup', gNil', gCons', gLst', lenIs, retD, retN, lendK, backK, isLent, ownK, fAbs, fLen, fMax, fMin, startD, outK, shp_int, eqv_int, hz] at hq
      simp [sSeq, sIf, sNext, sSet, sAug, sRet, sPar, sPar3, asThree, sRaise, sAsg, sOwn, sApp, sPut, sRetN, sRetOwn, sRetU, sDrop, sBreak, sCont, dVar, dC, dOp, dTest, dCons, dNil, dTup, nLst, dNew, dNeg, dIf, dF1, dAnd, dOr, dNot, dAndV, dOrV, dNotV, dCall, nCall, dCallL, nCallL, withLent, withLentN, vw, frz, dI, dI0, dB0, int2, dEq, dNe, dAdd, dSub, dIAdd, atD, gName', gTup', gNil', gCons', gLst', lenIs, retD, retN, lendK, backK, isLent, ownK, fAbs, fLen, fMax, fMin, startD, outK, shp_int, eqv_int, this]
      exact ⟨by decide, hq⟩
theorem pure_number {k_InvalidNumber : Addr} (α : List SD) (QD : Ret → List SD → Prop) (ED : Exd → List SD → Prop) (W : WD) (hW : W = fun e ρ => outK α ρ fun α' => ED e α') (h : p_number α QD ED) : r_number W k_InvalidNumber (DEnd α QD) (startD n_number.length α) := by
  obtain ⟨p, q, d, s, rfl, hs, hd, hBq, hBd, hBs, hq⟩ := h
  unfold r_number DEnd
  simp [sSeq, sIf, sNext, sSet, sAug, sRet, sPar, sPar3, asThree, sRaise, sAsg, sOwn, sApp, sPut, sRetN, sRetOwn, sRetU, sDrop, sBreak, sCont, dVar, dC, dOp, dTest, dCons, dNil, dTup, nLst, dNew, dNeg, dIf, dF1, dAnd, dOr, dNot, dAndV, dOrV, dNotV, dCall, nCall, dCallL, nCallL, withLent, withLentN, vw, frz, dI, dI0, dB0, int2, dEq, dNe, dAdd, dSub, dIAdd, atD, gName', gTup', gNil', gCons', gLst', lenIs, retD, retN, lendK, backK, isLent, ownK, fAbs, fLen, fMax, fMin, startD, outK, shp_int, eqv_int, hs, show ¬ d < 0 by omega, n_number]
  by_cases h0 : 0 < d
  · simp [sSeq, sIf, sNext, sSet, sAug, sRet, sPar, sPar3, asThree, sRaise, sAsg, sOwn, sApp, sPut, sRetN, sRetOwn, sRetU, sDrop, sBreak, sCont, dVar, dC, dOp, dTest, dCons, dNil, dTup, nLst, dNew, dNeg, dIf, dF1, dAnd, dOr, dNot, dAndV, dOrV, dNotV, dCall, nCall, dCallL, nCallL, withLent, withLentN, vw, frz, dI, dI0, dB0, int2, dEq, dNe, dAdd, dSub, dIAdd, atD, gName', gTup', gNil', gCons', gLst', lenIs, retD, retN, lendK, backK, isLent, ownK, fAbs, fLen, fMax, fMin, startD, outK, shp_int, eqv_int, h0]
    refine ⟨d, ⟨rfl, h0, hBd, ?_⟩⟩
    intro f r f0 r0 e sq
    have key := hq f r (.inr ⟨h0, f0, r0, e, sq⟩)
    have fB : Bd 4000 f := by
      refine hBd.of (by omega) ?_
      have h1 := Int.mul_le_mul_of_nonneg_left (show 1 ≤ f by omega) (show 0 ≤ f by omega)
      have h2 := Int.mul_le_mul_of_nonneg_left (show 1 ≤ r by omega) (show 0 ≤ f * f by have := Int.mul_pos f0 f0; omega)
      omega
    simp [sSeq, sIf, sNext, sSet, sAug, sRet, sPar, sPar3, asThree, sRaise, sAsg, sOwn, sApp, sPut, sRetN, sRetOwn, sRetU, sDrop, sBreak, sCont, dVar, dC, dOp, dTest, dCons, dNil, dTup, nLst, dNew, dNeg, dIf, dF1, dAnd, dOr, dNot, dAndV, dOrV, dNotV, dCall, nCall, dCallL, nCallL, withLent, withLentN, vw, frz, dI, dI0, dB0, int2, dEq, dNe, dAdd, dSub, dIAdd, atD, gName', gTup', gNil', gCons', gLst', lenIs, retD, retN, lendK, backK, isLent, ownK, fAbs, fLen, fMax, fMin, startD, outK, shp_int, eqv_int]
    by_cases hr : r < 2
    · simp [sSeq, sIf, sNext, sSet, sAug, sRet, sPar, sPar3, asThree, sRaise, sAsg, sOwn, sApp, sPut, sRetN, sRetOwn, sRetU, sDrop, sBreak, sCont, dVar, dC, dOp, dTest, dCons, dNil, dTup, nLst, dNew, dNeg, dIf, dF1, dAnd, dOr, dNot, dAndV, dOrV, dNotV, dCall, nCall, dCallL, nCallL, withLent, withLentN, vw, frz, dI, dI0, dB0, int2, dEq, dNe, dAdd, dSub, dIAdd, atD, gName', gTup', gNil', gCons', gLst', lenIs, retD, retN, lendK, backK, isLent, ownK, fAbs, fLen, fMax, fMin, startD, outK, shp_int, eqv_int, hr] at key ⊢
      exact ⟨hBq.cm fB (by omega), p + q * f, 0, 0, s, rfl, hs, hBs, key⟩
    · simp [sSeq, sIf, sNext, sSet, sAug, sRet, sPar, sPar3, asThree, sRaise, sAsg, sOwn, sApp, sPut, sRetN, sRetOwn, sRetU, sDrop, sBreak, sCont, dVar, dC, dOp, dTest, dCons, dNil, dTup, nLst, dNew, dNeg, dIf, dF1, dAnd, dOr, dNot, dAndV, dOrV, dNotV, dCall, nCall, dCallL, nCallL, withLent, withLentN, vw, frz, dI, dI0, dB0, int2, dEq, dNe, dAdd, dSub, dIAdd, atD, gName', gTup', gNil', gCons', gLst', lenIs, retD, retN, lendK, backK, isLent, ownK, fAbs, fLen, fMax, fMin, startD, outK, shp_int, eqv_int, hr] at key ⊢
      exact ⟨hBq.cm fB (by omega), p, q * f, r, s, rfl, hs, hBs, key⟩
  · have : d = 0 := by omega
    subst this
    simp [sSeq, sIf, sNext, sSet, sAug, sRet, sPar, sPar3, asThree, sRaise, sAsg, sOwn, sApp, sPut, sRetN, sRetOwn, sRetU, sDrop, sBreak, sCont, dVar, dC, dOp, dTest, dCons, dNil, dTup, nLst, dNew, dNeg, dIf, dF1, dAnd, dOr, dNot, dAndV, dOrV, dNotV, dCall, nCall, dCallL, nCallL, withLent, withLentN, vw, frz, dI, dI0, dB0, int2, dEq, dNe, dAdd, dSub, dIAdd, atD, gName', gTup', gNil', gCons', gLst', lenIs, retD, retN, lendK, backK, isLent, ownK, fAbs, fLen, fMax, fMin, startD, outK, shp_int, eqv_int]
    have key := hq 0 0 (.inl ⟨rfl, rfl, rfl⟩)
    simp [sSeq, sIf, sNext, sSet, sAug, sRet, sPar, sPar3, asThree, sRaise, sAsg, sOwn, sApp, sPut, sRetN, sRetOwn, sRetU, sDrop, sBreak, sCont, dVar, dC, dOp, dTest, dCons, dNil, dTup, nLst, dNew, dNeg, dIf, dF1, dAnd, dOr, dNot, dAndV, dOrV, dNotV, dCall, nCall, dCallL, nCallL, withLent, withLentN, vw, frz, dI, dI0, dB0, int2, dEq, dNe, dAdd, dSub, dIAdd, atD, gName', gTup', gNil', gCons', gLst', lenIs, retD, retN, lendK, backK, isLent, ownK, fAbs, fLen, fMax, fMin, startD, outK, shp_int, eqv_int] at key
    exact ⟨by decide, hBq.cm (show Bd 1 0 by unfold Bd; decide) (by omega), p, 0, 0, s, rfl, hs, hBs, key⟩
theorem pure_sign_of_sum (α : List SD) (QD : Ret → List SD → Prop) (ED : Exd → List SD → Prop) (W : WD) (hW : W = fun e ρ => outK α ρ fun α' => ED e α') (h : p_sign_of_sum α QD ED) : r_sign_of_sum W (DEnd α QD) (startD n_sign_of_sum.length α) := by
  obtain ⟨p, q, d, rfl, hp, hq', hd, hq⟩ := h
  unfold r_sign_of_sum DEnd
  unfold sos at hq
  have fin : ∀ b : Int, b = (if 0 < d then sgi q else 0) → sSeq (sIf (dOr (dTest (dOp dEq (dVar 3) (dVar 4))) (dTest (dOp dEq (dVar 4) (dC (.int 0))))) (sRet (dVar 3)) (sNext)) (sSeq (sIf (dTest (dOp dEq (dVar 3) (dC (.int 0)))) (sRet (dVar 4)) (sNext)) (sSeq (sSet 5 (dOp dSub (dOp dMul (dVar 0) (dVar 0)) (dOp dMul (dOp dMul (dVar 1) (dVar 1)) (dVar 2)))) (sRet (dIf (dTest (dOp dGt (dVar 5) (dC (.int 0)))) (dVar 3) (dVar 4)))))
      (DEnd [iv p, iv q, iv d] QD) [iv p, iv q, iv d, iv (sgi p), iv b, .no] := by
    intro b eb
    rw [← eb] at hq
    simp [sSeq, sIf, sNext, sSet, sAug, sRet, sPar, sPar3, asThree, sRaise, sAsg, sOwn, sApp, sPut, sRetN, sRetOwn, sRetU, sDrop, sBreak, sCont, dVar, dC, dOp, dTest, dCons, dNil, dTup, nLst, dNew, dNeg, dIf, dF1, dAnd, dOr, dNot, dAndV, dOrV, dNotV, dCall, nCall, dCallL, nCallL, withLent, withLentN, vw, frz, dI, dI0, dB0, int2, dEq, dNe, dAdd, dSub, dIAdd, atD, gName', gTup', gNil', gCons', gLst', lenIs, retD, retN, lendK, backK, isLent, ownK, fAbs, fLen, fMax, fMin, startD, outK, shp_int, eqv_int, DEnd]
    by_cases h1 : sgi p = b
    · simp [sSeq, sIf, sNext, sSet, sAug, sRet, sPar, sPar3, asThree, sRaise, sAsg, sOwn, sApp, sPut, sRetN, sRetOwn, sRetU, sDrop, sBreak, sCont, dVar, dC, dOp, dTest, dCons, dNil, dTup, nLst, dNew, dNeg, dIf, dF1, dAnd, dOr, dNot, dAndV, dOrV, dNotV, dCall, nCall, dCallL, nCallL, withLent, withLentN, vw, frz, dI, dI0, dB0, int2, dEq, dNe, dAdd, dSub, dIAdd, atD, gName', gTup', gNil', gCons', gLst', lenIs, retD, retN, lendK, backK, isLent, ownK, fAbs, fLen, fMax, fMin, startD, outK, shp_int, eqv_int, h1] at hq ⊢
      exact hq
    · by_cases h2 : b = 0
      · simp [sSeq, sIf, sNext, sSet, sAug, sRet, sPar, sPar3, asThree, sRaise, sAsg, sOwn, sApp, sPut, sRetN, sRetOwn, sRetU, sDrop, sBreak, sCont, dVar, dC, dOp, dTest, dCons, dNil, dTup, nLst, dNew, dNeg, dIf, dF1, dAnd, dOr, dNot, dAndV, dOrV, dNotV, dCall, nCall, dCallL, nCallL, withLent, withLentN, vw, frz, dI, dI0, dB0, int2, dEq, dNe, dAdd, dSub, dIAdd, atD, gName', gTup', gNil', gCons', gLst', lenIs, retD, retN, lendK, backK, isLent, ownK, fAbs, fLen, fMax, fMin, startD, outK, shp_int, eqv_int, h1, h2] at hq ⊢
        have : ¬ sgi p = 0 := fun z => h1 (by rw [z, h2])
        simp [sSeq, sIf, sNext, sSet, sAug, sRet, sPar, sPar3, asThree, sRaise, sAsg, sOwn, sApp, sPut, sRetN, sRetOwn, sRetU, sDrop, sBreak, sCont, dVar, dC, dOp, dTest, dCons, dNil, dTup, nLst, dNew, dNeg, dIf, dF1, dAnd, dOr, dNot, dAndV, dOrV, dNotV, dCall, nCall, dCallL, nCallL, withLent, withLentN, vw, frz, dI, dI0, dB0, int2, dEq, dNe, dAdd, dSub, dIAdd, atD, gName', gTup', gNil', gCons', gLst', lenIs, retD, retN, lendK, backK, isLent, ownK, fAbs, fLen, fMax, fMin, startD, outK, shp_int, eqv_int, this]
        exact hq
      · by_cases h3 : sgi p = 0
        · have h1' : ¬ (0 = b) := fun z => h2 z.symm
          simp [sSeq, sIf, sNext, sSet, sAug, sRet, sPar, sPar3, asThree, sRaise, sAsg, sOwn, sApp, sPut, sRetN, sRetOwn, sRetU, sDrop, sBreak, sCont, dVar, dC, dOp, dTest, dCons, dNil, dTup, nLst, dNew, dNeg, dIf, dF1, dAnd, dOr, dNot, dAndV, dOrV, dNotV, dCall, nCall, dCallL, nCallL, withLent, withLentN, vw, frz, dI, dI0, dB0, int2, dEq, dNe, dAdd, dSub, dIAdd, atD, gName', gTup', gNil', gCons', gLst', lenIs, retD, retN, lendK, backK, isLent, ownK, fAbs, fLen, fMax, fMin, startD, outK, shp_int, eqv_int, h3, h1', h2] at hq ⊢
          exact hq
        · simp [sSeq, sIf, sNext, sSet, sAug, sRet, sPar, sPar3, asThree, sRaise, sAsg, sOwn, sApp, sPut, sRetN, sRetOwn, sRetU, sDrop, sBreak, sCont, dVar, dC, dOp, dTest, dCons, dNil, dTup, nLst, dNew, dNeg, dIf, dF1, dAnd, dOr, dNot, dAndV, dOrV, dNotV, dCall, nCall, dCallL, nCallL, withLent, withLentN, vw, frz, dI, dI0, dB0, int2, dEq, dNe, dAdd, dSub, dIAdd, atD, gName', gTup', gNil', gCons', gLst', lenIs, retD, retN, lendK, backK, isLent, ownK, fAbs, fLen, fMax, fMin, startD, outK, shp_int, eqv_int, h1, h2, h3] at hq ⊢
          refine ⟨hp.cm hp (by omega), hq'.cm hq' (by omega), (hq'.mul hq').cm hd (by omega), ?_⟩
          by_cases h4 : q * q * d < p * p
          · simp [sSeq, sIf, sNext, sSet, sAug, sRet, sPar, sPar3, asThree, sRaise, sAsg, sOwn, sApp, sPut, sRetN, sRetOwn, sRetU, sDrop, sBreak, sCont, dVar, dC, dOp, dTest, dCons, dNil, dTup, nLst, dNew, dNeg, dIf, dF1, dAnd, dOr, dNot, dAndV, dOrV, dNotV, dCall, nCall, dCallL, nCallL, withLent, withLentN, vw, frz, dI, dI0, dB0, int2, dEq, dNe, dAdd, dSub, dIAdd, atD, gName', gTup', gNil', gCons', gLst', lenIs, retD, retN, lendK, backK, isLent, ownK, fAbs, fLen, fMax, fMin, startD, outK, shp_int, eqv_int, h4] at hq ⊢
            exact hq
          · simp [sSeq, sIf, sNext, sSet, sAug, sRet, sPar, sPar3, asThree, sRaise, sAsg, sOwn, sApp, sPut, sRetN, sRetOwn, sRetU, sDrop, sBreak, sCont, dVar, dC, dOp, dTest, dCons, dNil, dTup, nLst, dNew, dNeg, dIf, dF1, dAnd, dOr, dNot, dAndV, dOrV, dNotV, dCall, nCall, dCallL, nCallL, withLent, withLentN, vw, frz, dI, dI0, dB0, int2, dEq, dNe, dAdd, dSub, dIAdd, atD, gName', gTup', gNil', gCons', gLst', lenIs, retD, retN, lendK, backK, isLent, ownK, fAbs, fLen, fMax, fMin, startD, outK, shp_int, eqv_int, h4] at hq ⊢
            exact hq
  by_cases h0 : 0 < d
  · simp [sSeq, sIf, sNext, sSet, sAug, sRet, sPar, sPar3, asThree, sRaise, sAsg, sOwn, sApp, sPut, sRetN, sRetOwn, sRetU, sDrop, sBreak, sCont, dVar, dC, dOp, dTest, dCons, dNil, dTup, nLst, dNew, dNeg, dIf, dF1, dAnd, dOr, dNot, dAndV, dOrV, dNotV, dCall, nCall, dCallL, nCallL, withLent, withLentN, vw, frz, dI, dI0, dB0, int2, dEq, dNe, dAdd, dSub, dIAdd, atD, gName', gTup', gNil', gCons', gLst', lenIs, retD, retN, lendK, backK, isLent, ownK, fAbs, fLen, fMax, fMin, startD, outK, shp_int, eqv_int, h0, n_sign_of_sum, sgi_bi]
    have := fin (sgi q) (by rw [if_pos h0])
    simp [sSeq, sIf, sNext, sSet, sAug, sRet, sPar, sPar3, asThree, sRaise, sAsg, sOwn, sApp, sPut, sRetN, sRetOwn, sRetU, sDrop, sBreak, sCont, dVar, dC, dOp, dTest, dCons, dNil, dTup, nLst, dNew, dNeg, dIf, dF1, dAnd, dOr, dNot, dAndV, dOrV, dNotV, dCall, nCall, dCallL, nCallL, withLent, withLentN, vw, frz, dI, dI0, dB0, int2, dEq, dNe, dAdd, dSub, dIAdd, atD, gName', gTup', gNil', gCons', gLst', lenIs, retD, retN, lendK, backK, isLent, ownK, fAbs, fLen, fMax, fMin, startD, outK, shp_int, eqv_int, DEnd] at this
    exact this
  · simp [sSeq, sIf, sNext, sSet, sAug, sRet, sPar, sPar3, asThree, sRaise, sAsg, sOwn, sApp, sPut, sRetN, sRetOwn, sRetU, sDrop, sBreak, sCont, dVar, dC, dOp, dTest, dCons, dNil, dTup, nLst, dNew, dNeg, dIf, dF1, dAnd, dOr, dNot, dAndV, dOrV, dNotV, dCall, nCall, dCallL, nCallL, withLent, withLentN, vw, frz, dI, dI0, dB0, int2, dEq, dNe, dAdd, dSub, dIAdd, atD, gName', gTup', gNil', gCons', gLst', lenIs, retD, retN, lendK, backK, isLent, ownK, fAbs, fLen, fMax, fMin, startD, outK, shp_int, eqv_int, h0, n_sign_of_sum, sgi_bi]
    have := fin 0 (by rw [if_neg h0])
    simp [sSeq, sIf, sNext, sSet, sAug, sRet, sPar, sPar3, asThree, sRaise, sAsg, sOwn, sApp, sPut, sRetN, sRetOwn, sRetU, sDrop, sBreak, sCont, dVar, dC, dOp, dTest, dCons, dNil, dTup, nLst, dNew, dNeg, dIf, dF1, dAnd, dOr, dNot, dAndV, dOrV, dNotV, dCall, nCall, dCallL, nCallL, withLent, withLentN, vw, frz, dI, dI0, dB0, int2, dEq, dNe, dAdd, dSub, dIAdd, atD, gName', gTup', gNil', gCons', gLst', lenIs, retD, retN, lendK, backK, isLent, ownK, fAbs, fLen, fMax, fMin, startD, outK, shp_int, eqv_int, DEnd] at this
    exact this
theorem pure_sign (α : List SD) (QD : Ret → List SD → Prop) (ED : Exd → List SD → Prop) (W : WD) (hW : W = fun e ρ => outK α ρ fun α' => ED e α') (h : p_sign α QD ED) : r_sign W (DEnd α QD) (startD n_sign.length α) := by
  obtain ⟨x, rfl, hB, hq⟩ := h
  unfold r_sign DEnd
  simp [sSeq, sIf, sNext, sSet, sAug, sRet, sPar, sPar3, asThree, sRaise, sAsg, sOwn, sApp, sPut, sRetN, sRetOwn, sRetU, sDrop, sBreak, sCont, dVar, dC, dOp, dTest, dCons, dNil, dTup, nLst, dNew, dNeg, dIf, dF1, dAnd, dOr, dNot, dAndV, dOrV, dNotV, dCall, nCall, dCallL, nCallL, withLent, withLentN, vw, frz, dI, dI0, dB0, int2, dEq, dNe, dAdd, dSub, dIAdd, atD, gName', gTup', gNil', gCons', gLst', lenIs, retD, retN, lendK, backK, isLent, ownK, fAbs, fLen, fMax, fMin, startD, outK, shp_int, eqv_int, Nu.D, n_sign, atI, ixN]
  exact ⟨x.p, x.q, x.d, rfl, hB.1.mono (by omega), hB.2.1.mono (by omega), hB.2.2.1.mono (by omega), hq⟩
end KK

set_option maxHeartbeats 1000000
namespace KK
open PySem PySem.Spec PyProof.Rows L2 DL
theorem pure_root_of {k_OtherRoot : Addr} (α : List SD) (QD : Ret → List SD → Prop) (ED : Exd → List SD → Prop) (W : WD) (hW : W = fun e ρ => outK α ρ fun α' => ED e α') (h : p_root_of α QD ED) : r_root_of W k_OtherRoot (DEnd α QD) (startD n_root_of.length α) := by
  obtain ⟨x, y, rfl, hr, hq⟩ := h
  unfold r_root_of DEnd
  unfold nmax at hq
  unfold rts at hr
  simp [sSeq, sIf, sNext, sSet, sAug, sRet, sPar, sPar3, asThree, sRaise, sAsg, sOwn, sApp, sPut, sRetN, sRetOwn, sRetU, sDrop, sBreak, sCont, dVar, dC, dOp, dTest, dCons, dNil, dTup, nLst, dNew, dNeg, dIf, dF1, dAnd, dOr, dNot, dAndV, dOrV, dNotV, dCall, nCall, dCallL, nCallL, withLent, withLentN, vw, frz, dI, dI0, dB0, int2, dEq, dNe, dAdd, dSub, dIAdd, atD, gName', gTup', gNil', gCons', gLst', lenIs, retD, retN, lendK, backK, isLent, ownK, fAbs, fLen, fMax, fMin, startD, outK, shp_int, eqv_int, atI, ixN, Nu.D, n_root_of] at hq ⊢
  by_cases h1 : x.d = 0
  · simp [sSeq, sIf, sNext, sSet, sAug, sRet, sPar, sPar3, asThree, sRaise, sAsg, sOwn, sApp, sPut, sRetN, sRetOwn, sRetU, sDrop, sBreak, sCont, dVar, dC, dOp, dTest, dCons, dNil, dTup, nLst, dNew, dNeg, dIf, dF1, dAnd, dOr, dNot, dAndV, dOrV, dNotV, dCall, nCall, dCallL, nCallL, withLent, withLentN, vw, frz, dI, dI0, dB0, int2, dEq, dNe, dAdd, dSub, dIAdd, atD, gName', gTup', gNil', gCons', gLst', lenIs, retD, retN, lendK, backK, isLent, ownK, fAbs, fLen, fMax, fMin, startD, outK, shp_int, eqv_int, atI, ixN, h1] at hq ⊢
    exact hq
  · by_cases h2 : y.d = 0
    · simp [sSeq, sIf, sNext, sSet, sAug, sRet, sPar, sPar3, asThree, sRaise, sAsg, sOwn, sApp, sPut, sRetN, sRetOwn, sRetU, sDrop, sBreak, sCont, dVar, dC, dOp, dTest, dCons, dNil, dTup, nLst, dNew, dNeg, dIf, dF1, dAnd, dOr, dNot, dAndV, dOrV, dNotV, dCall, nCall, dCallL, nCallL, withLent, withLentN, vw, frz, dI, dI0, dB0, int2, dEq, dNe, dAdd, dSub, dIAdd, atD, gName', gTup', gNil', gCons', gLst', lenIs, retD, retN, lendK, backK, isLent, ownK, fAbs, fLen, fMax, fMin, startD, outK, shp_int, eqv_int, atI, ixN, h1, h2] at hq ⊢
      exact hq
    · have h3 := hr h1 h2
      rw [h3] at hq ⊢
      simp [sSeq, sIf, sNext, sSet, sAug, sRet, sPar, sPar3, asThree, sRaise, sAsg, sOwn, sApp, sPut, sRetN, sRetOwn, sRetU, sDrop, sBreak, sCont, dVar, dC, dOp, dTest, dCons, dNil, dTup, nLst, dNew, dNeg, dIf, dF1, dAnd, dOr, dNot, dAndV, dOrV, dNotV, dCall, nCall, dCallL, nCallL, withLent, withLentN, vw, frz, dI, dI0, dB0, int2, dEq, dNe, dAdd, dSub, dIAdd, atD, gName', gTup', gNil', gCons', gLst', lenIs, retD, retN, lendK, backK, isLent, ownK, fAbs, fLen, fMax, fMin, startD, outK, shp_int, eqv_int, atI, ixN, h2] at hq ⊢
      exact hq
theorem low_n0 {p q d s : Int} (hs : s ≠ 0) : (low p q d s).s ≠ 0 := by
  obtain ⟨k, hk, _, _, h3, h4⟩ := low_spec (p := p) (q := q) d hs
  omega
theorem pure_plus (α : List SD) (QD : Ret → List SD → Prop) (ED : Exd → List SD → Prop) (W : WD) (hW : W = fun e ρ => outK α ρ fun α' => ED e α') (h : p_plus α QD ED) : r_plus W (DEnd α QD) (startD n_plus.length α) := by
  obtain ⟨x, y, rfl, hr, ⟨b1, b2, b3, b4⟩, ⟨c1, c2, c3, c4⟩, hx, hy, hq⟩ := h
  unfold r_plus DEnd
  simp [sSeq, sIf, sNext, sSet, sAug, sRet, sPar, sPar3, asThree, sRaise, sAsg, sOwn, sApp, sPut, sRetN, sRetOwn, sRetU, sDrop, sBreak, sCont, dVar, dC, dOp, dTest, dCons, dNil, dTup, nLst, dNew, dNeg, dIf, dF1, dAnd, dOr, dNot, dAndV, dOrV, dNotV, dCall, nCall, dCallL, nCallL, withLent, withLentN, vw, frz, dI, dI0, dB0, int2, dEq, dNe, dAdd, dSub, dIAdd, atD, gName', gTup', gNil', gCons', gLst', lenIs, retD, retN, lendK, backK, isLent, ownK, fAbs, fLen, fMax, fMin, startD, outK, shp_int, eqv_int, atI, ixN, n_plus]
  refine ⟨x, y, rfl, hr, ?_⟩
  simp [sSeq, sIf, sNext, sSet, sAug, sRet, sPar, sPar3, asThree, sRaise, sAsg, sOwn, sApp, sPut, sRetN, sRetOwn, sRetU, sDrop, sBreak, sCont, dVar, dC, dOp, dTest, dCons, dNil, dTup, nLst, dNew, dNeg, dIf, dF1, dAnd, dOr, dNot, dAndV, dOrV, dNotV, dCall, nCall, dCallL, nCallL, withLent, withLentN, vw, frz, dI, dI0, dB0, int2, dEq, dNe, dAdd, dSub, dIAdd, atD, gName', gTup', gNil', gCons', gLst', lenIs, retD, retN, lendK, backK, isLent, ownK, fAbs, fLen, fMax, fMin, startD, outK, shp_int, eqv_int, atI, ixN, Nu.D]
  exact ⟨b1.cm c4 (by omega), c1.cm b4 (by omega), b2.cm c4 (by omega), c2.cm b4 (by omega), b4.cm c4 (by omega), _, _, _, _, rfl, Int.mul_ne_zero hx hy, (b4.mul c4).mono (by omega), hq⟩
theorem pure_opposite (α : List SD) (QD : Ret → List SD → Prop) (ED : Exd → List SD → Prop) (W : WD) (hW : W = fun e ρ => outK α ρ fun α' => ED e α') (h : p_opposite α QD ED) : r_opposite W (DEnd α QD) (startD n_opposite.length α) := by
  obtain ⟨x, rfl, hq⟩ := h
  unfold r_opposite DEnd
  simp [sSeq, sIf, sNext, sSet, sAug, sRet, sPar, sPar3, asThree, sRaise, sAsg, sOwn, sApp, sPut, sRetN, sRetOwn, sRetU, sDrop, sBreak, sCont, dVar, dC, dOp, dTest, dCons, dNil, dTup, nLst, dNew, dNeg, dIf, dF1, dAnd, dOr, dNot, dAndV, dOrV, dNotV, dCall, nCall, dCallL, nCallL, withLent, withLentN, vw, frz, dI, dI0, dB0, int2, dEq, dNe, dAdd, dSub, dIAdd, atD, gName', gTup', gNil', gCons', gLst', lenIs, retD, retN, lendK, backK, isLent, ownK, fAbs, fLen, fMax, fMin, startD, outK, shp_int, eqv_int, atI, ixN, n_opposite, Nu.D]
  exact ⟨by decide, hq⟩
theorem pure_minus (α : List SD) (QD : Ret → List SD → Prop) (ED : Exd → List SD → Prop) (W : WD) (hW : W = fun e ρ => outK α ρ fun α' => ED e α') (h : p_minus α QD ED) : r_minus W (DEnd α QD) (startD n_minus.length α) := by
  obtain ⟨x, y, rfl, hr, hbx, ⟨c1, c2, c3, c4⟩, hx, hy, hq⟩ := h
  unfold r_minus DEnd
  simp [sSeq, sIf, sNext, sSet, sAug, sRet, sPar, sPar3, asThree, sRaise, sAsg, sOwn, sApp, sPut, sRetN, sRetOwn, sRetU, sDrop, sBreak, sCont, dVar, dC, dOp, dTest, dCons, dNil, dTup, nLst, dNew, dNeg, dIf, dF1, dAnd, dOr, dNot, dAndV, dOrV, dNotV, dCall, nCall, dCallL, nCallL, withLent, withLentN, vw, frz, dI, dI0, dB0, int2, dEq, dNe, dAdd, dSub, dIAdd, atD, gName', gTup', gNil', gCons', gLst', lenIs, retD, retN, lendK, backK, isLent, ownK, fAbs, fLen, fMax, fMin, startD, outK, shp_int, eqv_int, atI, ixN, n_minus]
  refine ⟨y, rfl, ?_⟩
  simp [sSeq, sIf, sNext, sSet, sAug, sRet, sPar, sPar3, asThree, sRaise, sAsg, sOwn, sApp, sPut, sRetN, sRetOwn, sRetU, sDrop, sBreak, sCont, dVar, dC, dOp, dTest, dCons, dNil, dTup, nLst, dNew, dNeg, dIf, dF1, dAnd, dOr, dNot, dAndV, dOrV, dNotV, dCall, nCall, dCallL, nCallL, withLent, withLentN, vw, frz, dI, dI0, dB0, int2, dEq, dNe, dAdd, dSub, dIAdd, atD, gName', gTup', gNil', gCons', gLst', lenIs, retD, retN, lendK, backK, isLent, ownK, fAbs, fLen, fMax, fMin, startD, outK, shp_int, eqv_int, atI, ixN]
  exact ⟨x, nopp y, rfl, hr, hbx, ⟨c1.neg, c2.neg, c3, c4⟩, hx, hy, hq⟩
theorem pure_times (α : List SD) (QD : Ret → List SD → Prop) (ED : Exd → List SD → Prop) (W : WD) (hW : W = fun e ρ => outK α ρ fun α' => ED e α') (h : p_times α QD ED) : r_times W (DEnd α QD) (startD n_times.length α) := by
  obtain ⟨x, y, rfl, hr, ⟨b1, b2, b3, b4⟩, ⟨c1, c2, c3, c4⟩, hx, hy, hq⟩ := h
  unfold r_times DEnd
  simp [sSeq, sIf, sNext, sSet, sAug, sRet, sPar, sPar3, asThree, sRaise, sAsg, sOwn, sApp, sPut, sRetN, sRetOwn, sRetU, sDrop, sBreak, sCont, dVar, dC, dOp, dTest, dCons, dNil, dTup, nLst, dNew, dNeg, dIf, dF1, dAnd, dOr, dNot, dAndV, dOrV, dNotV, dCall, nCall, dCallL, nCallL, withLent, withLentN, vw, frz, dI, dI0, dB0, int2, dEq, dNe, dAdd, dSub, dIAdd, atD, gName', gTup', gNil', gCons', gLst', lenIs, retD, retN, lendK, backK, isLent, ownK, fAbs, fLen, fMax, fMin, startD, outK, shp_int, eqv_int, atI, ixN, n_times]
  refine ⟨x, y, rfl, hr, ?_⟩
  have bm : Bd 4000 (nmax x.d y.d) := by unfold nmax; split; exact c3; exact b3
  simp [sSeq, sIf, sNext, sSet, sAug, sRet, sPar, sPar3, asThree, sRaise, sAsg, sOwn, sApp, sPut, sRetN, sRetOwn, sRetU, sDrop, sBreak, sCont, dVar, dC, dOp, dTest, dCons, dNil, dTup, nLst, dNew, dNeg, dIf, dF1, dAnd, dOr, dNot, dAndV, dOrV, dNotV, dCall, nCall, dCallL, nCallL, withLent, withLentN, vw, frz, dI, dI0, dB0, int2, dEq, dNe, dAdd, dSub, dIAdd, atD, gName', gTup', gNil', gCons', gLst', lenIs, retD, retN, lendK, backK, isLent, ownK, fAbs, fLen, fMax, fMin, startD, outK, shp_int, eqv_int, atI, ixN, Nu.D]
  exact ⟨b1.cm c1 (by omega), b2.cm c2 (by omega), (b2.mul c2).cm bm (by omega), b1.cm c2 (by omega), b2.cm c1 (by omega), b4.cm c4 (by omega), _, _, _, _, rfl, Int.mul_ne_zero hx hy, (b4.mul c4).mono (by omega), hq⟩
theorem low_bd {p q d s : Int} {n : Nat} (hs : s ≠ 0) (h1 : Bd n p) (h2 : Bd n q) (h3 : Bd n d) (h4 : Bd n s) : Nb n (low p q d s) := by
  obtain ⟨k, hk, e1, e2, e3, _⟩ := low_spec (p := p) (q := q) d hs
  have one : ∀ {a b : Int}, Bd n a → a = k * b → Bd n b := fun {a b} h e => by
    unfold Bd at *
    rw [e, Int.natAbs_mul] at h
    have := Nat.le_mul_of_pos_left b.natAbs (show 0 < k.natAbs by omega)
    omega
  refine ⟨one h1 e1, one h2 e2, ?_, one h4 e3⟩
  rw [low_dd hs]
  split
  · unfold Bd; exact Nat.pow_pos (by decide)
  · exact h3
theorem pure_over {k_ZeroDivisor : Addr} (α : List SD) (QD : Ret → List SD → Prop) (ED : Exd → List SD → Prop) (W : WD) (hW : W = fun e ρ => outK α ρ fun α' => ED e α') (h : p_over α QD ED) : r_over W k_ZeroDivisor (DEnd α QD) (startD n_over.length α) := by
  obtain ⟨x, y, rfl, hr, hbx, ⟨c1, c2, c3, c4⟩, hx, hy, hn, hq⟩ := h
  unfold r_over DEnd
  have ne : PyData.eqv y.D (.tuple l_ZERO) = false := by
    show PyData.eqvAll [.int y.p, .int y.q, .int y.d, .int y.s] [.int 0, .int 0, .int 0, .int 1] = false
    simp [sSeq, sIf, sNext, sSet, sAug, sRet, sPar, sPar3, asThree, sRaise, sAsg, sOwn, sApp, sPut, sRetN, sRetOwn, sRetU, sDrop, sBreak, sCont, dVar, dC, dOp, dTest, dCons, dNil, dTup, nLst, dNew, dNeg, dIf, dF1, dAnd, dOr, dNot, dAndV, dOrV, dNotV, dCall, nCall, dCallL, nCallL, withLent, withLentN, vw, frz, dI, dI0, dB0, int2, dEq, dNe, dAdd, dSub, dIAdd, atD, gName', gTup', gNil', gCons', gLst', lenIs, retD, retN, lendK, backK, isLent, ownK, fAbs, fLen, fMax, fMin, startD, outK, shp_int, eqv_int, atI, ixN, PyData.eqvAll]
    intro h1 h2
    rw [h1, h2] at hn
    simp [sSeq, sIf, sNext, sSet, sAug, sRet, sPar, sPar3, asThree, sRaise, sAsg, sOwn, sApp, sPut, sRetN, sRetOwn, sRetU, sDrop, sBreak, sCont, dVar, dC, dOp, dTest, dCons, dNil, dTup, nLst, dNew, dNeg, dIf, dF1, dAnd, dOr, dNot, dAndV, dOrV, dNotV, dCall, nCall, dCallL, nCallL, withLent, withLentN, vw, frz, dI, dI0, dB0, int2, dEq, dNe, dAdd, dSub, dIAdd, atD, gName', gTup', gNil', gCons', gLst', lenIs, retD, retN, lendK, backK, isLent, ownK, fAbs, fLen, fMax, fMin, startD, outK, shp_int, eqv_int, atI, ixN] at hn
  have sh : SeqAt.shaped y.D = true := by rfl
  have shz : SeqAt.shaped (.tuple l_ZERO) = true := by rfl
  simp [sSeq, sIf, sNext, sSet, sAug, sRet, sPar, sPar3, asThree, sRaise, sAsg, sOwn, sApp, sPut, sRetN, sRetOwn, sRetU, sDrop, sBreak, sCont, dVar, dC, dOp, dTest, dCons, dNil, dTup, nLst, dNew, dNeg, dIf, dF1, dAnd, dOr, dNot, dAndV, dOrV, dNotV, dCall, nCall, dCallL, nCallL, withLent, withLentN, vw, frz, dI, dI0, dB0, int2, dEq, dNe, dAdd, dSub, dIAdd, atD, gName', gTup', gNil', gCons', gLst', lenIs, retD, retN, lendK, backK, isLent, ownK, fAbs, fLen, fMax, fMin, startD, outK, shp_int, eqv_int, atI, ixN, n_over, ne, sh, shz]
  simp [sSeq, sIf, sNext, sSet, sAug, sRet, sPar, sPar3, asThree, sRaise, sAsg, sOwn, sApp, sPut, sRetN, sRetOwn, sRetU, sDrop, sBreak, sCont, dVar, dC, dOp, dTest, dCons, dNil, dTup, nLst, dNew, dNeg, dIf, dF1, dAnd, dOr, dNot, dAndV, dOrV, dNotV, dCall, nCall, dCallL, nCallL, withLent, withLentN, vw, frz, dI, dI0, dB0, int2, dEq, dNe, dAdd, dSub, dIAdd, atD, gName', gTup', gNil', gCons', gLst', lenIs, retD, retN, lendK, backK, isLent, ownK, fAbs, fLen, fMax, fMin, startD, outK, shp_int, eqv_int, atI, ixN, Nu.D]
  have B2 : Bd 2000 (y.p * y.p) := (c1.mul c1).mono (by omega)
  have B3 : Bd 3000 (y.q * y.q * y.d) := ((c2.mul c2).mul c3).mono (by omega)
  have B4 : Bd 3500 (y.p * y.p - y.q * y.q * y.d) := B2.sub B3 (by omega)
  refine ⟨c1.cm c4 (by omega), c2.neg.cm c4 (by omega), c1.cm c1 (by omega), c2.cm c2 (by omega), (c2.mul c2).cm c3 (by omega), _, _, _, _, rfl, hn, B4.mono (by omega), ?_⟩
  simp [sSeq, sIf, sNext, sSet, sAug, sRet, sPar, sPar3, asThree, sRaise, sAsg, sOwn, sApp, sPut, sRetN, sRetOwn, sRetU, sDrop, sBreak, sCont, dVar, dC, dOp, dTest, dCons, dNil, dTup, nLst, dNew, dNeg, dIf, dF1, dAnd, dOr, dNot, dAndV, dOrV, dNotV, dCall, nCall, dCallL, nCallL, withLent, withLentN, vw, frz, dI, dI0, dB0, int2, dEq, dNe, dAdd, dSub, dIAdd, atD, gName', gTup', gNil', gCons', gLst', lenIs, retD, retN, lendK, backK, isLent, ownK, fAbs, fLen, fMax, fMin, startD, outK, shp_int, eqv_int, atI, ixN]
  refine ⟨x, ninv y, rfl, ?_, ⟨hbx.1.mono (by omega), hbx.2.1.mono (by omega), hbx.2.2.1.mono (by omega), hbx.2.2.2.mono (by omega)⟩, ?_, hx, low_n0 hn, hq⟩
  · intro h1 h2
    unfold ninv at h2 ⊢
    rw [low_dd hn] at h2 ⊢
    split at h2
    · exact absurd rfl h2
    · rename_i hz; rw [if_neg hz]; exact hr h1 h2
  · exact low_bd hn ((c1.mul c4).mono (by omega)) ((c2.neg.mul c4).mono (by omega)) (c3.mono (by omega)) (B4.mono (by omega))
theorem sos_q0 (p d : Int) : sos p 0 d = sgi p := by
  unfold sos
  have : (if 0 < d then sgi 0 else 0) = 0 := by split <;> rfl
  simp [sSeq, sIf, sNext, sSet, sAug, sRet, sPar, sPar3, asThree, sRaise, sAsg, sOwn, sApp, sPut, sRetN, sRetOwn, sRetU, sDrop, sBreak, sCont, dVar, dC, dOp, dTest, dCons, dNil, dTup, nLst, dNew, dNeg, dIf, dF1, dAnd, dOr, dNot, dAndV, dOrV, dNotV, dCall, nCall, dCallL, nCallL, withLent, withLentN, vw, frz, dI, dI0, dB0, int2, dEq, dNe, dAdd, dSub, dIAdd, atD, gName', gTup', gNil', gCons', gLst', lenIs, retD, retN, lendK, backK, isLent, ownK, fAbs, fLen, fMax, fMin, startD, outK, shp_int, eqv_int, atI, ixN, this]
theorem pure_compare (α : List SD) (QD : Ret → List SD → Prop) (ED : Exd → List SD → Prop) (W : WD) (hW : W = fun e ρ => outK α ρ fun α' => ED e α') (h : p_compare α QD ED) : r_compare W (DEnd α QD) (startD n_compare.length α) := by
  obtain ⟨x, y, rfl, ⟨b1, b2, b3, b4⟩, ⟨c1, c2, c3, c4⟩, hc, dx, dy, hx, hy, hq⟩ := h
  unfold r_compare DEnd
  simp [sSeq, sIf, sNext, sSet, sAug, sRet, sPar, sPar3, asThree, sRaise, sAsg, sOwn, sApp, sPut, sRetN, sRetOwn, sRetU, sDrop, sBreak, sCont, dVar, dC, dOp, dTest, dCons, dNil, dTup, nLst, dNew, dNeg, dIf, dF1, dAnd, dOr, dNot, dAndV, dOrV, dNotV, dCall, nCall, dCallL, nCallL, withLent, withLentN, vw, frz, dI, dI0, dB0, int2, dEq, dNe, dAdd, dSub, dIAdd, atD, gName', gTup', gNil', gCons', gLst', lenIs, retD, retN, lendK, backK, isLent, ownK, fAbs, fLen, fMax, fMin, startD, outK, shp_int, eqv_int, atI, ixN, n_compare, Nu.D]
  refine ⟨b1.cm c4 (by omega), c1.cm b4 (by omega), b2.cm c4 (by omega), c2.neg.cm b4 (by omega), ?_⟩
  have BP : Bd 8010 (x.p * y.s - y.p * x.s) := (b1.mul c4).sub (c1.mul b4) (by omega)
  have BQ : Bd 8010 (x.q * y.s - y.q * x.s) := (b2.mul c4).sub (c2.mul b4) (by omega)
  have eq1 : x.q * y.s + -y.q * x.s = x.q * y.s - y.q * x.s := by grind
  by_cases h1 : x.d = y.d
  · have e : nmax x.d y.d = y.d := by unfold nmax; split <;> omega
    rw [e] at hq
    simp only [Nu.D, h1] at hq
    simp only [h1, decide_true]
    refine ⟨_, _, _, rfl, BP.mono (by omega), ?_, c3.mono (by omega), ?_⟩
    · rw [eq1]; exact BQ.mono (by omega)
    · rw [eq1]; exact hq
  · rcases hc with hc | hc | hc
    · exact absurd hc h1
    · obtain ⟨h2, h3⟩ := hc
      have d0 : ¬ (0 = y.d) := fun z => h1 (by rw [h3, z])
      have e : nmax 0 y.d = y.d := by unfold nmax; split <;> omega
      have xs : x.s ≠ 0 := by omega
      rw [h3, h2, e] at hq
      simp only [Nu.D, h3, h2] at hq
      simp only [h3, h2, Int.zero_mul] at hq ⊢
      by_cases h4 : y.q = 0
      · simp [sSeq, sIf, sNext, sSet, sAug, sRet, sPar, sPar3, asThree, sRaise, sAsg, sOwn, sApp, sPut, sRetN, sRetOwn, sRetU, sDrop, sBreak, sCont, dVar, dC, dOp, dTest, dCons, dNil, dTup, nLst, dNew, dNeg, dIf, dF1, dAnd, dOr, dNot, dAndV, dOrV, dNotV, dCall, nCall, dCallL, nCallL, withLent, withLentN, vw, frz, dI, dI0, dB0, int2, dEq, dNe, dAdd, dSub, dIAdd, atD, gName', gTup', gNil', gCons', gLst', lenIs, retD, retN, lendK, backK, isLent, ownK, fAbs, fLen, fMax, fMin, startD, outK, shp_int, eqv_int, atI, ixN, d0, h4]
        refine ⟨_, _, _, rfl, BP.mono (by omega), (show Bd 1 0 by unfold Bd; decide).mono (by omega), (show Bd 1 0 by unfold Bd; decide).mono (by omega), ?_⟩
        simp [sSeq, sIf, sNext, sSet, sAug, sRet, sPar, sPar3, asThree, sRaise, sAsg, sOwn, sApp, sPut, sRetN, sRetOwn, sRetU, sDrop, sBreak, sCont, dVar, dC, dOp, dTest, dCons, dNil, dTup, nLst, dNew, dNeg, dIf, dF1, dAnd, dOr, dNot, dAndV, dOrV, dNotV, dCall, nCall, dCallL, nCallL, withLent, withLentN, vw, frz, dI, dI0, dB0, int2, dEq, dNe, dAdd, dSub, dIAdd, atD, gName', gTup', gNil', gCons', gLst', lenIs, retD, retN, lendK, backK, isLent, ownK, fAbs, fLen, fMax, fMin, startD, outK, shp_int, eqv_int, atI, ixN, h4, sos_q0] at hq
        rw [sos_q0]
        exact hq
      · have h5 : ¬ (-y.q * x.s = 0) := fun z => by
          rcases Int.mul_eq_zero.mp z with z | z
          · omega
          · exact xs z
        have e6 : 0 - y.q * x.s = -y.q * x.s := by grind
        rw [e6] at hq
        simp only [d0, h5, decide_false]
        exact ⟨_, _, _, rfl, BP.mono (by omega), (c2.neg.mul b4).mono (by omega), c3.mono (by omega), hq⟩
    · obtain ⟨h2, h3⟩ := hc
      have d0 : ¬ (x.d = 0) := fun z => h1 (by rw [h3, z])
      have e : nmax x.d 0 = x.d := by unfold nmax; split <;> omega
      rw [h3, h2, e] at hq
      simp only [Nu.D, h3, h2] at hq
      simp only [h3, h2] at hq ⊢
      simp [sSeq, sIf, sNext, sSet, sAug, sRet, sPar, sPar3, asThree, sRaise, sAsg, sOwn, sApp, sPut, sRetN, sRetOwn, sRetU, sDrop, sBreak, sCont, dVar, dC, dOp, dTest, dCons, dNil, dTup, nLst, dNew, dNeg, dIf, dF1, dAnd, dOr, dNot, dAndV, dOrV, dNotV, dCall, nCall, dCallL, nCallL, withLent, withLentN, vw, frz, dI, dI0, dB0, int2, dEq, dNe, dAdd, dSub, dIAdd, atD, gName', gTup', gNil', gCons', gLst', lenIs, retD, retN, lendK, backK, isLent, ownK, fAbs, fLen, fMax, fMin, startD, outK, shp_int, eqv_int, atI, ixN, d0]
      refine ⟨_, _, _, rfl, BP.mono (by omega), (b2.mul c4).mono (by omega), b3.mono (by omega), ?_⟩
      simpa [sSeq, sIf, sNext, sSet, sAug, sRet, sPar, sPar3, asThree, sRaise, sAsg, sOwn, sApp, sPut, sRetN, sRetOwn, sRetU, sDrop, sBreak, sCont, dVar, dC, dOp, dTest, dCons, dNil, dTup, nLst, dNew, dNeg, dIf, dF1, dAnd, dOr, dNot, dAndV, dOrV, dNotV, dCall, nCall, dCallL, nCallL, withLent, withLentN, vw, frz, dI, dI0, dB0, int2, dEq, dNe, dAdd, dSub, dIAdd, atD, gName', gTup', gNil', gCons', gLst', lenIs, retD, retN, lendK, backK, isLent, ownK, fAbs, fLen, fMax, fMin, startD, outK, shp_int, eqv_int, atI, ixN] using hq
theorem pure_floor (α : List SD) (QD : Ret → List SD → Prop) (ED : Exd → List SD → Prop) (W : WD) (hW : W = fun e ρ => outK α ρ fun α' => ED e α') (h : p_floor α QD ED) : r_floor W (DEnd α QD) (startD n_floor.length α) := by
  obtain ⟨x, rfl, ⟨b1, b2, b3, b4⟩, hs, hd, hq⟩ := h
  unfold r_floor DEnd
  have cd : ∀ z, CDivF z x.s := fun _ => ⟨by omega, b4.log (by omega)⟩
  have nn : 0 ≤ x.q * x.q * x.d := Int.mul_nonneg (sq_nn _) hd
  have BB : Bd 8000 (x.q * x.q * x.d) := ((b2.mul b2).mul b3).mono (by omega)
  simp [sSeq, sIf, sNext, sSet, sAug, sRet, sPar, sPar3, asThree, sRaise, sAsg, sOwn, sApp, sPut, sRetN, sRetOwn, sRetU, sDrop, sBreak, sCont, dVar, dC, dOp, dTest, dCons, dNil, dTup, nLst, dNew, dNeg, dIf, dF1, dAnd, dOr, dNot, dAndV, dOrV, dNotV, dCall, nCall, dCallL, nCallL, withLent, withLentN, vw, frz, dI, dI0, dB0, int2, dEq, dNe, dAdd, dSub, dIAdd, atD, gName', gTup', gNil', gCons', gLst', lenIs, retD, retN, lendK, backK, isLent, ownK, fAbs, fLen, fMax, fMin, startD, outK, shp_int, eqv_int, atI, ixN, n_floor, Nu.D]
  refine ⟨b2.cm b2 (by omega), (b2.mul b2).cm b3 (by omega), ?_⟩
  by_cases h1 : 0 ≤ x.q
  · simp [sSeq, sIf, sNext, sSet, sAug, sRet, sPar, sPar3, asThree, sRaise, sAsg, sOwn, sApp, sPut, sRetN, sRetOwn, sRetU, sDrop, sBreak, sCont, dVar, dC, dOp, dTest, dCons, dNil, dTup, nLst, dNew, dNeg, dIf, dF1, dAnd, dOr, dNot, dAndV, dOrV, dNotV, dCall, nCall, dCallL, nCallL, withLent, withLentN, vw, frz, dI, dI0, dB0, int2, dEq, dNe, dAdd, dSub, dIAdd, atD, gName', gTup', gNil', gCons', gLst', lenIs, retD, retN, lendK, backK, isLent, ownK, fAbs, fLen, fMax, fMin, startD, outK, shp_int, eqv_int, atI, ixN, h1]
    refine ⟨_, rfl, nn, BB, fun n hn => ?_⟩
    simp [sSeq, sIf, sNext, sSet, sAug, sRet, sPar, sPar3, asThree, sRaise, sAsg, sOwn, sApp, sPut, sRetN, sRetOwn, sRetU, sDrop, sBreak, sCont, dVar, dC, dOp, dTest, dCons, dNil, dTup, nLst, dNew, dNeg, dIf, dF1, dAnd, dOr, dNot, dAndV, dOrV, dNotV, dCall, nCall, dCallL, nCallL, withLent, withLentN, vw, frz, dI, dI0, dB0, int2, dEq, dNe, dAdd, dSub, dIAdd, atD, gName', gTup', gNil', gCons', gLst', lenIs, retD, retN, lendK, backK, isLent, ownK, fAbs, fLen, fMax, fMin, startD, outK, shp_int, eqv_int, atI, ixN, cd]
    rw [fd_pos hs]
    exact hq _ ⟨n, hn, by rw [if_pos h1]⟩
  · simp [sSeq, sIf, sNext, sSet, sAug, sRet, sPar, sPar3, asThree, sRaise, sAsg, sOwn, sApp, sPut, sRetN, sRetOwn, sRetU, sDrop, sBreak, sCont, dVar, dC, dOp, dTest, dCons, dNil, dTup, nLst, dNew, dNeg, dIf, dF1, dAnd, dOr, dNot, dAndV, dOrV, dNotV, dCall, nCall, dCallL, nCallL, withLent, withLentN, vw, frz, dI, dI0, dB0, int2, dEq, dNe, dAdd, dSub, dIAdd, atD, gName', gTup', gNil', gCons', gLst', lenIs, retD, retN, lendK, backK, isLent, ownK, fAbs, fLen, fMax, fMin, startD, outK, shp_int, eqv_int, atI, ixN, h1]
    refine ⟨_, rfl, nn, BB, fun n hn => ?_⟩
    simp [sSeq, sIf, sNext, sSet, sAug, sRet, sPar, sPar3, asThree, sRaise, sAsg, sOwn, sApp, sPut, sRetN, sRetOwn, sRetU, sDrop, sBreak, sCont, dVar, dC, dOp, dTest, dCons, dNil, dTup, nLst, dNew, dNeg, dIf, dF1, dAnd, dOr, dNot, dAndV, dOrV, dNotV, dCall, nCall, dCallL, nCallL, withLent, withLentN, vw, frz, dI, dI0, dB0, int2, dEq, dNe, dAdd, dSub, dIAdd, atD, gName', gTup', gNil', gCons', gLst', lenIs, retD, retN, lendK, backK, isLent, ownK, fAbs, fLen, fMax, fMin, startD, outK, shp_int, eqv_int, atI, ixN, cd]
    rw [fd_pos hs]
    exact hq _ ⟨n, hn, by rw [if_neg h1]⟩
end KK

set_option maxHeartbeats 1000000
namespace KK
open PySem PySem.Spec L2 DL
theorem forD_inv {g : TGD} {t : TSD} {D : DEnds} (Inv : Nat → DSt → Prop) : ∀ (items : List PyData) (ρ : DSt), Inv items.length ρ → (∀ k x ρ (N : DSt → Prop), x ∈ items → (∀ ρ', Inv k ρ' → N ρ') → Inv (k + 1) ρ → g x ρ fun ρ1 => t { D with nx := N, ct := N, bk := D.nx } ρ1) →
    (∀ ρ, Inv 0 ρ → D.nx ρ) → forD g t D items ρ
  | [], ρ, h, _, fin => fin ρ h
  | x :: xs, ρ, h, step, fin => step xs.length x ρ (forD g t D xs) List.mem_cons_self (fun ρ' h' => forD_inv Inv xs ρ' h' (fun k y ρ N hy => step k y ρ N (List.mem_cons_of_mem _ hy)) fin) h
theorem range1_mem {n : Int} {x : PyData} (h : x ∈ (List.range n.toNat).map fun (k : Nat) => PyData.int (k : Int)) : ∃ k : Int, x = .int k ∧ 0 ≤ k ∧ k < n := by
  obtain ⟨k, hk, rfl⟩ := List.mem_map.mp h
  rw [List.mem_range] at hk
  exact ⟨k, rfl, by omega, by omega⟩
theorem cm_of {i j : Int} (a b : Nat) (h1 : i.natAbs < 2 ^ a) (h2 : j.natAbs < 2 ^ b) (e : a + b ≤ 999990) : CMulW i j := Bd.cm (n := a) (m := b) h1 h2 e
theorem pure__law_stirred (α : List SD) (QD : Ret → List SD → Prop) (ED : Exd → List SD → Prop) (W : WD) (hW : W = fun e ρ => outK α ρ fun α' => ED e α') (h : p__law_stirred α QD ED) : r__law_stirred W (DEnd α QD) (startD n__law_stirred.length α) := by
  obtain ⟨c, p, rfl, p0, p1, c0, c1, hq⟩ := h
  unfold r__law_stirred DEnd
  simp [sSeq, sIf, sNext, sSet, sAug, sRet, sPar, sPar3, asThree, sRaise, sAsg, sOwn, sApp, sPut, sRetN, sRetOwn, sRetU, sDrop, sBreak, sCont, dVar, dC, dOp, dTest, dCons, dNil, dTup, nLst, dNew, dNeg, dIf, dF1, dAnd, dOr, dNot, dAndV, dOrV, dNotV, dCall, nCall, dCallL, nCallL, withLent, withLentN, vw, frz, dI, dI0, dB0, int2, dEq, dNe, dAdd, dSub, dIAdd, atD, gName', gTup', gNil', gCons', gLst', lenIs, retD, retN, lendK, backK, isLent, ownK, fAbs, fLen, fMax, fMin, startD, outK, shp_int, eqv_int, n__law_stirred]
  refine ⟨cm_of 60 62 (by omega) (by decide) (by omega), cm_of 60 62 (by omega) (by decide) (by omega), ?_⟩
  refine ⟨by decide, by decide, ?_⟩
  refine forD_inv (fun _ ρ => ∃ v t, ρ = [iv c, iv p, iv 1180591620717411303449, iv v, t] ∧ 0 ≤ v ∧ v < 1180591620717411303449) _ _ ⟨_, _, rfl, ?_, ?_⟩ ?_ ?_
  · exact Int.fmod_nonneg_of_pos _ (by decide)
  · exact Int.fmod_lt_of_pos _ (by decide)
  · rintro _ x _ N hx hN ⟨v, t, rfl, v0, v1⟩
    obtain ⟨k, rfl, k0, k1⟩ := range1_mem hx
    simp [sSeq, sIf, sNext, sSet, sAug, sRet, sPar, sPar3, asThree, sRaise, sAsg, sOwn, sApp, sPut, sRetN, sRetOwn, sRetU, sDrop, sBreak, sCont, dVar, dC, dOp, dTest, dCons, dNil, dTup, nLst, dNew, dNeg, dIf, dF1, dAnd, dOr, dNot, dAndV, dOrV, dNotV, dCall, nCall, dCallL, nCallL, withLent, withLentN, vw, frz, dI, dI0, dB0, int2, dEq, dNe, dAdd, dSub, dIAdd, atD, gName', gTup', gNil', gCons', gLst', lenIs, retD, retN, lendK, backK, isLent, ownK, fAbs, fLen, fMax, fMin, startD, outK, shp_int, eqv_int]
    refine ⟨cm_of 80 80 (by omega) (by omega) (by omega), cm_of 80 80 (by decide) (by omega) (by omega), cm_of 80 80 (by decide) (by omega) (by omega), ?_⟩
    exact hN _ ⟨_, _, rfl, Int.fmod_nonneg_of_pos _ (by decide), Int.fmod_lt_of_pos _ (by decide)⟩
  · rintro _ ⟨v, t, rfl, v0, v1⟩
    simp [sSeq, sIf, sNext, sSet, sAug, sRet, sPar, sPar3, asThree, sRaise, sAsg, sOwn, sApp, sPut, sRetN, sRetOwn, sRetU, sDrop, sBreak, sCont, dVar, dC, dOp, dTest, dCons, dNil, dTup, nLst, dNew, dNeg, dIf, dF1, dAnd, dOr, dNot, dAndV, dOrV, dNotV, dCall, nCall, dCallL, nCallL, withLent, withLentN, vw, frz, dI, dI0, dB0, int2, dEq, dNe, dAdd, dSub, dIAdd, atD, gName', gTup', gNil', gCons', gLst', lenIs, retD, retN, lendK, backK, isLent, ownK, fAbs, fLen, fMax, fMin, startD, outK, shp_int, eqv_int]
    exact ⟨cm_of 80 80 (by omega) (by decide) (by omega), cm_of 80 80 (by omega) (by decide) (by omega), hq _⟩
theorem lc_abs (s0 s1 s2 : SD) (Q : List PyData → DSt → Prop) : ∀ (ns : List Int) (acc : List PyData), acc.length + ns.length ≤ 1000 → Q (acc ++ ns.map fun n => .int (if n < 0 then -n else n)) [s0, s1, s2, .no] → lcD [3] (gName' 3) dYes (dF1 fAbs (dVar 3)) (ns.map PyData.int) acc [s0, s1, s2, .no] Q
  | [], acc, _, h => by simpa [sSeq, sIf, sNext, sSet, sAug, sRet, sPar, sPar3, asThree, sRaise, sAsg, sOwn, sApp, sPut, sRetN, sRetOwn, sRetU, sDrop, sBreak, sCont, dVar, dC, dOp, dTest, dCons, dNil, dTup, nLst, dNew, dNeg, dIf, dF1, dAnd, dOr, dNot, dAndV, dOrV, dNotV, dCall, nCall, dCallL, nCallL, withLent, withLentN, vw, frz, dI, dI0, dB0, int2, dEq, dNe, dAdd, dSub, dIAdd, atD, gName', gTup', gNil', gCons', gLst', lenIs, retD, retN, lendK, backK, isLent, ownK, fAbs, fLen, fMax, fMin, startD, outK, shp_int, eqv_int, lcD] using h
  | n :: ns, acc, hl, h => by
    simp only [List.length_cons] at hl
    have ih := lc_abs s0 s1 s2 Q ns (acc ++ [.int (if n < 0 then -n else n)]) (by simp [sSeq, sIf, sNext, sSet, sAug, sRet, sPar, sPar3, asThree, sRaise, sAsg, sOwn, sApp, sPut, sRetN, sRetOwn, sRetU, sDrop, sBreak, sCont, dVar, dC, dOp, dTest, dCons, dNil, dTup, nLst, dNew, dNeg, dIf, dF1, dAnd, dOr, dNot, dAndV, dOrV, dNotV, dCall, nCall, dCallL, nCallL, withLent, withLentN, vw, frz, dI, dI0, dB0, int2, dEq, dNe, dAdd, dSub, dIAdd, atD, gName', gTup', gNil', gCons', gLst', lenIs, retD, retN, lendK, backK, isLent, ownK, fAbs, fLen, fMax, fMin, startD, outK, shp_int, eqv_int]; omega) (by simpa [sSeq, sIf, sNext, sSet, sAug, sRet, sPar, sPar3, asThree, sRaise, sAsg, sOwn, sApp, sPut, sRetN, sRetOwn, sRetU, sDrop, sBreak, sCont, dVar, dC, dOp, dTest, dCons, dNil, dTup, nLst, dNew, dNeg, dIf, dF1, dAnd, dOr, dNot, dAndV, dOrV, dNotV, dCall, nCall, dCallL, nCallL, withLent, withLentN, vw, frz, dI, dI0, dB0, int2, dEq, dNe, dAdd, dSub, dIAdd, atD, gName', gTup', gNil', gCons', gLst', lenIs, retD, retN, lendK, backK, isLent, ownK, fAbs, fLen, fMax, fMin, startD, outK, shp_int, eqv_int] using h)
    have hz : acc.length < sizeLine := Nat.lt_of_lt_of_le (show acc.length < 1001 by omega) (by rw [sizeLine_eq]; decide)
    simp [sSeq, sIf, sNext, sSet, sAug, sRet, sPar, sPar3, asThree, sRaise, sAsg, sOwn, sApp, sPut, sRetN, sRetOwn, sRetU, sDrop, sBreak, sCont, dVar, dC, dOp, dTest, dCons, dNil, dTup, nLst, dNew, dNeg, dIf, dF1, dAnd, dOr, dNot, dAndV, dOrV, dNotV, dCall, nCall, dCallL, nCallL, withLent, withLentN, vw, frz, dI, dI0, dB0, int2, dEq, dNe, dAdd, dSub, dIAdd, atD, gName', gTup', gNil', gCons', gLst', lenIs, retD, retN, lendK, backK, isLent, ownK, fAbs, fLen, fMax, fMin, startD, outK, shp_int, eqv_int, lcD, dYes, wipeD, hz]
    exact ih
theorem cutD_map {α β : Type} (f : α → β) (xs : List α) (lo hi : Option Int) : cutD (xs.map f) lo hi = (cutD xs lo hi).map f := by
  unfold cutD
  simp [sSeq, sIf, sNext, sSet, sAug, sRet, sPar, sPar3, asThree, sRaise, sAsg, sOwn, sApp, sPut, sRetN, sRetOwn, sRetU, sDrop, sBreak, sCont, dVar, dC, dOp, dTest, dCons, dNil, dTup, nLst, dNew, dNeg, dIf, dF1, dAnd, dOr, dNot, dAndV, dOrV, dNotV, dCall, nCall, dCallL, nCallL, withLent, withLentN, vw, frz, dI, dI0, dB0, int2, dEq, dNe, dAdd, dSub, dIAdd, atD, gName', gTup', gNil', gCons', gLst', lenIs, retD, retN, lendK, backK, isLent, ownK, fAbs, fLen, fMax, fMin, startD, outK, shp_int, eqv_int, List.map_take, List.map_drop]
theorem cut_len {α : Type} (xs : List α) (lo hi : Option Int) : (cutD xs lo hi).length = min (HT.sIx xs.length xs.length hi - HT.sIx xs.length 0 lo) (xs.length - HT.sIx xs.length 0 lo) := by
  unfold cutD
  simp [sSeq, sIf, sNext, sSet, sAug, sRet, sPar, sPar3, asThree, sRaise, sAsg, sOwn, sApp, sPut, sRetN, sRetOwn, sRetU, sDrop, sBreak, sCont, dVar, dC, dOp, dTest, dCons, dNil, dTup, nLst, dNew, dNeg, dIf, dF1, dAnd, dOr, dNot, dAndV, dOrV, dNotV, dCall, nCall, dCallL, nCallL, withLent, withLentN, vw, frz, dI, dI0, dB0, int2, dEq, dNe, dAdd, dSub, dIAdd, atD, gName', gTup', gNil', gCons', gLst', lenIs, retD, retN, lendK, backK, isLent, ownK, fAbs, fLen, fMax, fMin, startD, outK, shp_int, eqv_int]
theorem wipe3 (a b c d : SD) : wipeD [a, b, c, d] [3] = [a, b, c, .no] := rfl
theorem scrK_at {ρ : DSt} {i : Nat} {ns : List Int} {k : List Int → Prop} (h : ρ[i]? = some (.res true (scriptR ns))) (q : k ns) : scrK ρ i k := ⟨ns, h, q⟩
theorem enum_mem {x : PyData} {cs : List Int} (h : x ∈ enumD (cs.map PyData.int)) : ∃ (i : Nat) (c : Int), x = .tuple [.int i, .int c] ∧ i < cs.length := by
  unfold enumD at h
  obtain ⟨⟨d, i⟩, hm, rfl⟩ := List.mem_map.mp h
  obtain ⟨h1, h2, h3⟩ := List.mem_zipIdx hm
  simp [sSeq, sIf, sNext, sSet, sAug, sRet, sPar, sPar3, asThree, sRaise, sAsg, sOwn, sApp, sPut, sRetN, sRetOwn, sRetU, sDrop, sBreak, sCont, dVar, dC, dOp, dTest, dCons, dNil, dTup, nLst, dNew, dNeg, dIf, dF1, dAnd, dOr, dNot, dAndV, dOrV, dNotV, dCall, nCall, dCallL, nCallL, withLent, withLentN, vw, frz, dI, dI0, dB0, int2, dEq, dNe, dAdd, dSub, dIAdd, atD, gName', gTup', gNil', gCons', gLst', lenIs, retD, retN, lendK, backK, isLent, ownK, fAbs, fLen, fMax, fMin, startD, outK, shp_int, eqv_int, wipe3] at h2 h3
  exact ⟨i, cs[i], by simp [sSeq, sIf, sNext, sSet, sAug, sRet, sPar, sPar3, asThree, sRaise, sAsg, sOwn, sApp, sPut, sRetN, sRetOwn, sRetU, sDrop, sBreak, sCont, dVar, dC, dOp, dTest, dCons, dNil, dTup, nLst, dNew, dNeg, dIf, dF1, dAnd, dOr, dNot, dAndV, dOrV, dNotV, dCall, nCall, dCallL, nCallL, withLent, withLentN, vw, frz, dI, dI0, dB0, int2, dEq, dNe, dAdd, dSub, dIAdd, atD, gName', gTup', gNil', gCons', gLst', lenIs, retD, retN, lendK, backK, isLent, ownK, fAbs, fLen, fMax, fMin, startD, outK, shp_int, eqv_int, wipe3, h3], by omega⟩
theorem ixN_ok {n : Nat} {z : Int} (h0 : 0 ≤ z) (h1 : z < n) : ixN n z = some z.toNat := by unfold ixN; rw [if_pos h0, if_pos h1]
theorem atI_int {ms : List Int} {z : Int} (h0 : 0 ≤ z) (h1 : z < ms.length) : ∃ y, atI (ms.map PyData.int) z = some (.int y) := by
  unfold atI
  rw [List.length_map, ixN_ok h0 h1]
  have : z.toNat < ms.length := by omega
  exact ⟨ms[z.toNat], by simp [sSeq, sIf, sNext, sSet, sAug, sRet, sPar, sPar3, asThree, sRaise, sAsg, sOwn, sApp, sPut, sRetN, sRetOwn, sRetU, sDrop, sBreak, sCont, dVar, dC, dOp, dTest, dCons, dNil, dTup, nLst, dNew, dNeg, dIf, dF1, dAnd, dOr, dNot, dAndV, dOrV, dNotV, dCall, nCall, dCallL, nCallL, withLent, withLentN, vw, frz, dI, dI0, dB0, int2, dEq, dNe, dAdd, dSub, dIAdd, atD, gName', gTup', gNil', gCons', gLst', lenIs, retD, retN, lendK, backK, isLent, ownK, fAbs, fLen, fMax, fMin, startD, outK, shp_int, eqv_int, wipe3, this]⟩
theorem pure__law_spool_of (α : List SD) (QD : Ret → List SD → Prop) (ED : Exd → List SD → Prop) (W : WD) (hW : W = fun e ρ => outK α ρ fun α' => ED e α') (h : p__law_spool_of α QD ED) : r__law_spool_of W (DEnd α QD) (startD n__law_spool_of.length α) := by
  obtain ⟨ns, rfl, hl, hq⟩ := h
  unfold r__law_spool_of DEnd
  simp [sSeq, sIf, sNext, sSet, sAug, sRet, sPar, sPar3, asThree, sRaise, sAsg, sOwn, sApp, sPut, sRetN, sRetOwn, sRetU, sDrop, sBreak, sCont, dVar, dC, dOp, dTest, dCons, dNil, dTup, nLst, dNew, dNeg, dIf, dF1, dAnd, dOr, dNot, dAndV, dOrV, dNotV, dCall, nCall, dCallL, nCallL, withLent, withLentN, vw, frz, dI, dI0, dB0, int2, dEq, dNe, dAdd, dSub, dIAdd, atD, gName', gTup', gNil', gCons', gLst', lenIs, retD, retN, lendK, backK, isLent, ownK, fAbs, fLen, fMax, fMin, startD, outK, shp_int, eqv_int, wipe3, n__law_spool_of]
  refine scrK_at rfl trivial |> fun s0 => ⟨s0, ?_⟩
  refine scrK_at rfl ?_
  have e16 : cutD (ns.map PyData.int) none (some 16) = (ns.take 16).map PyData.int := by
    rw [cutD_map]
    congr 1
    unfold DL.cutD
    rw [HT.sIx_none, show (some (16 : Int)) = some ((16 : Nat) : Int) from rfl, HT.sIx_nat]
    simp [sSeq, sIf, sNext, sSet, sAug, sRet, sPar, sPar3, asThree, sRaise, sAsg, sOwn, sApp, sPut, sRetN, sRetOwn, sRetU, sDrop, sBreak, sCont, dVar, dC, dOp, dTest, dCons, dNil, dTup, nLst, dNew, dNeg, dIf, dF1, dAnd, dOr, dNot, dAndV, dOrV, dNotV, dCall, nCall, dCallL, nCallL, withLent, withLentN, vw, frz, dI, dI0, dB0, int2, dEq, dNe, dAdd, dSub, dIAdd, atD, gName', gTup', gNil', gCons', gLst', lenIs, retD, retN, lendK, backK, isLent, ownK, fAbs, fLen, fMax, fMin, startD, outK, shp_int, eqv_int, wipe3]
    try rw [List.take_eq_take_iff]
    try omega
  rw [e16]
  refine lc_abs _ _ _ _ _ _ (by simp [sSeq, sIf, sNext, sSet, sAug, sRet, sPar, sPar3, asThree, sRaise, sAsg, sOwn, sApp, sPut, sRetN, sRetOwn, sRetU, sDrop, sBreak, sCont, dVar, dC, dOp, dTest, dCons, dNil, dTup, nLst, dNew, dNeg, dIf, dF1, dAnd, dOr, dNot, dAndV, dOrV, dNotV, dCall, nCall, dCallL, nCallL, withLent, withLentN, vw, frz, dI, dI0, dB0, int2, dEq, dNe, dAdd, dSub, dIAdd, atD, gName', gTup', gNil', gCons', gLst', lenIs, retD, retN, lendK, backK, isLent, ownK, fAbs, fLen, fMax, fMin, startD, outK, shp_int, eqv_int, wipe3]; omega) ?_
  simp [sSeq, sIf, sNext, sSet, sAug, sRet, sPar, sPar3, asThree, sRaise, sAsg, sOwn, sApp, sPut, sRetN, sRetOwn, sRetU, sDrop, sBreak, sCont, dVar, dC, dOp, dTest, dCons, dNil, dTup, nLst, dNew, dNeg, dIf, dF1, dAnd, dOr, dNot, dAndV, dOrV, dNotV, dCall, nCall, dCallL, nCallL, withLent, withLentN, vw, frz, dI, dI0, dB0, int2, dEq, dNe, dAdd, dSub, dIAdd, atD, gName', gTup', gNil', gCons', gLst', lenIs, retD, retN, lendK, backK, isLent, ownK, fAbs, fLen, fMax, fMin, startD, outK, shp_int, eqv_int, wipe3]
  refine scrK_at rfl trivial |> fun s0 => ⟨s0, ?_⟩
  refine scrK_at rfl ?_
  simp [sSeq, sIf, sNext, sSet, sAug, sRet, sPar, sPar3, asThree, sRaise, sAsg, sOwn, sApp, sPut, sRetN, sRetOwn, sRetU, sDrop, sBreak, sCont, dVar, dC, dOp, dTest, dCons, dNil, dTup, nLst, dNew, dNeg, dIf, dF1, dAnd, dOr, dNot, dAndV, dOrV, dNotV, dCall, nCall, dCallL, nCallL, withLent, withLentN, vw, frz, dI, dI0, dB0, int2, dEq, dNe, dAdd, dSub, dIAdd, atD, gName', gTup', gNil', gCons', gLst', lenIs, retD, retN, lendK, backK, isLent, ownK, fAbs, fLen, fMax, fMin, startD, outK, shp_int, eqv_int, wipe3]
  rw [cutD_map]
  refine forD_inv (fun _ ρ => ∃ (ms : List Int) (a b : SD), ρ = [.res true (scriptR ns), .own false (ms.map PyData.int), a, b] ∧ ms.length = min 16 ns.length) _ _ ⟨(ns.take 16).map fun n => if n < 0 then -n else n, .no, .no, by simp [sSeq, sIf, sNext, sSet, sAug, sRet, sPar, sPar3, asThree, sRaise, sAsg, sOwn, sApp, sPut, sRetN, sRetOwn, sRetU, sDrop, sBreak, sCont, dVar, dC, dOp, dTest, dCons, dNil, dTup, nLst, dNew, dNeg, dIf, dF1, dAnd, dOr, dNot, dAndV, dOrV, dNotV, dCall, nCall, dCallL, nCallL, withLent, withLentN, vw, frz, dI, dI0, dB0, int2, dEq, dNe, dAdd, dSub, dIAdd, atD, gName', gTup', gNil', gCons', gLst', lenIs, retD, retN, lendK, backK, isLent, ownK, fAbs, fLen, fMax, fMin, startD, outK, shp_int, eqv_int, wipe3, Function.comp_def], by simp [sSeq, sIf, sNext, sSet, sAug, sRet, sPar, sPar3, asThree, sRaise, sAsg, sOwn, sApp, sPut, sRetN, sRetOwn, sRetU, sDrop, sBreak, sCont, dVar, dC, dOp, dTest, dCons, dNil, dTup, nLst, dNew, dNeg, dIf, dF1, dAnd, dOr, dNot, dAndV, dOrV, dNotV, dCall, nCall, dCallL, nCallL, withLent, withLentN, vw, frz, dI, dI0, dB0, int2, dEq, dNe, dAdd, dSub, dIAdd, atD, gName', gTup', gNil', gCons', gLst', lenIs, retD, retN, lendK, backK, isLent, ownK, fAbs, fLen, fMax, fMin, startD, outK, shp_int, eqv_int, wipe3]⟩ ?_ ?_
  · rintro _ x _ N hx hN ⟨ms, a, b, rfl, hm⟩
    obtain ⟨i, c, rfl, hi⟩ := enum_mem hx
    rw [cut_len] at hi
    have hn : 16 < ns.length := by
      have h1 : HT.sIx ns.length 0 (some 16) = min 16 ns.length := HT.sIx_nat _ _ 16
      rw [h1] at hi
      omega
    have hm16 : ms.length = 16 := by omega
    have z0 := Int.fmod_nonneg_of_pos (i : Int) (show (0 : Int) < 16 by decide)
    have z1 := Int.fmod_lt_of_pos (i : Int) (show (0 : Int) < 16 by decide)
    generalize hz : (i : Int).fmod 16 = z at z0 z1
    obtain ⟨y, hy⟩ := atI_int (ms := ms) z0 (by omega)
    have ix := ixN_ok (n := ms.length) z0 (by omega)
    simp [sSeq, sIf, sNext, sSet, sAug, sRet, sPar, sPar3, asThree, sRaise, sAsg, sOwn, sApp, sPut, sRetN, sRetOwn, sRetU, sDrop, sBreak, sCont, dVar, dC, dOp, dTest, dCons, dNil, dTup, nLst, dNew, dNeg, dIf, dF1, dAnd, dOr, dNot, dAndV, dOrV, dNotV, dCall, nCall, dCallL, nCallL, withLent, withLentN, vw, frz, dI, dI0, dB0, int2, dEq, dNe, dAdd, dSub, dIAdd, atD, gName', gTup', gNil', gCons', gLst', lenIs, retD, retN, lendK, backK, isLent, ownK, fAbs, fLen, fMax, fMin, startD, outK, shp_int, eqv_int, wipe3, hz, hy, ix]
    exact hN _ ⟨ms.set z.toNat (y + if c < 0 then -c else c), iv i, iv c, by simp [sSeq, sIf, sNext, sSet, sAug, sRet, sPar, sPar3, asThree, sRaise, sAsg, sOwn, sApp, sPut, sRetN, sRetOwn, sRetU, sDrop, sBreak, sCont, dVar, dC, dOp, dTest, dCons, dNil, dTup, nLst, dNew, dNeg, dIf, dF1, dAnd, dOr, dNot, dAndV, dOrV, dNotV, dCall, nCall, dCallL, nCallL, withLent, withLentN, vw, frz, dI, dI0, dB0, int2, dEq, dNe, dAdd, dSub, dIAdd, atD, gName', gTup', gNil', gCons', gLst', lenIs, retD, retN, lendK, backK, isLent, ownK, fAbs, fLen, fMax, fMin, startD, outK, shp_int, eqv_int, wipe3, List.map_set], by simpa [sSeq, sIf, sNext, sSet, sAug, sRet, sPar, sPar3, asThree, sRaise, sAsg, sOwn, sApp, sPut, sRetN, sRetOwn, sRetU, sDrop, sBreak, sCont, dVar, dC, dOp, dTest, dCons, dNil, dTup, nLst, dNew, dNeg, dIf, dF1, dAnd, dOr, dNot, dAndV, dOrV, dNotV, dCall, nCall, dCallL, nCallL, withLent, withLentN, vw, frz, dI, dI0, dB0, int2, dEq, dNe, dAdd, dSub, dIAdd, atD, gName', gTup', gNil', gCons', gLst', lenIs, retD, retN, lendK, backK, isLent, ownK, fAbs, fLen, fMax, fMin, startD, outK, shp_int, eqv_int, wipe3] using hm⟩
  · rintro _ ⟨ms, a, b, rfl, hm⟩
    simp [sSeq, sIf, sNext, sSet, sAug, sRet, sPar, sPar3, asThree, sRaise, sAsg, sOwn, sApp, sPut, sRetN, sRetOwn, sRetU, sDrop, sBreak, sCont, dVar, dC, dOp, dTest, dCons, dNil, dTup, nLst, dNew, dNeg, dIf, dF1, dAnd, dOr, dNot, dAndV, dOrV, dNotV, dCall, nCall, dCallL, nCallL, withLent, withLentN, vw, frz, dI, dI0, dB0, int2, dEq, dNe, dAdd, dSub, dIAdd, atD, gName', gTup', gNil', gCons', gLst', lenIs, retD, retN, lendK, backK, isLent, ownK, fAbs, fLen, fMax, fMin, startD, outK, shp_int, eqv_int, wipe3]
    exact ⟨by decide, hq ⟨ms, 0, 0, 0⟩ ⟨Int.le_refl _, Int.le_refl _, by show ms.length ≤ 64; omega⟩⟩
theorem lay_ints : ∀ ns : List Int, PyData.canLayAll0 (ns.map PyData.int) = true
  | [] => rfl
  | n :: ns => by
    show (PyData.canLay0 (.int n) && PyData.canLayAll0 (ns.map PyData.int)) = true
    rw [lay_ints ns]; rfl
theorem dep_ints : ∀ ns : List Int, PyData.depthAll (ns.map PyData.int) = 0
  | [] => rfl
  | n :: ns => by
    show max (PyData.depth (.int n)) (PyData.depthAll (ns.map PyData.int)) = 0
    rw [dep_ints ns]; rfl
theorem shp_ints (ns : List Int) : SeqAt.shaped (.list (ns.map PyData.int)) = true := by
  show (PyData.canLayAll0 (ns.map PyData.int) && decide (PyData.depthAll (ns.map PyData.int) + 1 ≤ 64)) = true
  rw [lay_ints, dep_ints]; rfl
theorem shp_nil : SeqAt.shaped (.list []) = true := rfl
theorem eqv_nil (ns : List PyData) : PyData.eqv (.list ns) (.list []) = ns.isEmpty := by cases ns <;> rfl
theorem upto_fill (W : WD) (D : DEnds) (ns : List Int) (pl ce si b : Int) (h0 : 0 ≤ pl) (h1 : pl < 2 ^ 60) (hD : ∀ c : Int, D.nx [Spl.S ⟨ns, pl + 1, c, c⟩, iv b, .val (.list (ns.map PyData.int)), iv pl, iv c, .no]) (ce' : Int) :
    sSeq (sIf (dOr (dTest (dOp dGe (dVar 3) (dF1 fLen (dVar 2)))) (dTest (dOp dLt (dVar 4) (dOp dPow (dC (.int 10)) (dC (.int 15)))))) (sSet 4 (dCall p__law_stirred W (dCons (dOp dMod (dVar 4) (dC (.int 998244353))) (dCons (dVar 3) (dNil))))) (sNext)) (sSeq (sPut 0 (dOp dAdd (dVar 3) (dC (.int 1))) (dC (.int 1))) (sSeq (sPut 0 (dVar 4) (dC (.int 2))) (sPut 0 (dVar 4) (dC (.int 3))))) D
      [Spl.S ⟨ns, pl, ce, si⟩, iv b, .val (.list (ns.map PyData.int)), iv pl, iv ce', .no] := by
  have pw : CPow 10 15 := ⟨by decide, by decide, by decide⟩
  have z0 := Int.fmod_nonneg_of_pos ce' (show (0 : Int) < 998244353 by decide)
  have z1 := Int.fmod_lt_of_pos ce' (show (0 : Int) < 998244353 by decide)
  by_cases c1 : (ns.length : Int) ≤ pl
  · simp [sSeq, sIf, sNext, sSet, sAug, sRet, sPar, sPar3, asThree, sRaise, sAsg, sOwn, sApp, sPut, sRetN, sRetOwn, sRetU, sDrop, sBreak, sCont, dVar, dC, dOp, dTest, dCons, dNil, dTup, nLst, dNew, dNeg, dIf, dF1, dAnd, dOr, dNot, dAndV, dOrV, dNotV, dCall, nCall, dCallL, nCallL, withLent, withLentN, vw, frz, dI, dI0, dB0, int2, dEq, dNe, dAdd, dSub, dIAdd, atD, gName', gTup', gNil', gCons', gLst', lenIs, retD, retN, lendK, backK, isLent, ownK, fAbs, fLen, fMax, fMin, startD, outK, shp_int, eqv_int, wipe3, c1, Spl.L]
    refine ⟨_, _, rfl, h0, h1, z0, by omega, fun n => ?_⟩
    simp [sSeq, sIf, sNext, sSet, sAug, sRet, sPar, sPar3, asThree, sRaise, sAsg, sOwn, sApp, sPut, sRetN, sRetOwn, sRetU, sDrop, sBreak, sCont, dVar, dC, dOp, dTest, dCons, dNil, dTup, nLst, dNew, dNeg, dIf, dF1, dAnd, dOr, dNot, dAndV, dOrV, dNotV, dCall, nCall, dCallL, nCallL, withLent, withLentN, vw, frz, dI, dI0, dB0, int2, dEq, dNe, dAdd, dSub, dIAdd, atD, gName', gTup', gNil', gCons', gLst', lenIs, retD, retN, lendK, backK, isLent, ownK, fAbs, fLen, fMax, fMin, startD, outK, shp_int, eqv_int, wipe3, ixN]
    exact hD n
  · by_cases c2 : ce' < 10 ^ 15
    · simp [sSeq, sIf, sNext, sSet, sAug, sRet, sPar, sPar3, asThree, sRaise, sAsg, sOwn, sApp, sPut, sRetN, sRetOwn, sRetU, sDrop, sBreak, sCont, dVar, dC, dOp, dTest, dCons, dNil, dTup, nLst, dNew, dNeg, dIf, dF1, dAnd, dOr, dNot, dAndV, dOrV, dNotV, dCall, nCall, dCallL, nCallL, withLent, withLentN, vw, frz, dI, dI0, dB0, int2, dEq, dNe, dAdd, dSub, dIAdd, atD, gName', gTup', gNil', gCons', gLst', lenIs, retD, retN, lendK, backK, isLent, ownK, fAbs, fLen, fMax, fMin, startD, outK, shp_int, eqv_int, wipe3] at c2
      simp [sSeq, sIf, sNext, sSet, sAug, sRet, sPar, sPar3, asThree, sRaise, sAsg, sOwn, sApp, sPut, sRetN, sRetOwn, sRetU, sDrop, sBreak, sCont, dVar, dC, dOp, dTest, dCons, dNil, dTup, nLst, dNew, dNeg, dIf, dF1, dAnd, dOr, dNot, dAndV, dOrV, dNotV, dCall, nCall, dCallL, nCallL, withLent, withLentN, vw, frz, dI, dI0, dB0, int2, dEq, dNe, dAdd, dSub, dIAdd, atD, gName', gTup', gNil', gCons', gLst', lenIs, retD, retN, lendK, backK, isLent, ownK, fAbs, fLen, fMax, fMin, startD, outK, shp_int, eqv_int, wipe3, c1, c2, Spl.L, pw]
      refine ⟨_, _, rfl, h0, h1, z0, by omega, fun n => ?_⟩
      simp [sSeq, sIf, sNext, sSet, sAug, sRet, sPar, sPar3, asThree, sRaise, sAsg, sOwn, sApp, sPut, sRetN, sRetOwn, sRetU, sDrop, sBreak, sCont, dVar, dC, dOp, dTest, dCons, dNil, dTup, nLst, dNew, dNeg, dIf, dF1, dAnd, dOr, dNot, dAndV, dOrV, dNotV, dCall, nCall, dCallL, nCallL, withLent, withLentN, vw, frz, dI, dI0, dB0, int2, dEq, dNe, dAdd, dSub, dIAdd, atD, gName', gTup', gNil', gCons', gLst', lenIs, retD, retN, lendK, backK, isLent, ownK, fAbs, fLen, fMax, fMin, startD, outK, shp_int, eqv_int, wipe3, ixN]
      exact hD n
    · simp [sSeq, sIf, sNext, sSet, sAug, sRet, sPar, sPar3, asThree, sRaise, sAsg, sOwn, sApp, sPut, sRetN, sRetOwn, sRetU, sDrop, sBreak, sCont, dVar, dC, dOp, dTest, dCons, dNil, dTup, nLst, dNew, dNeg, dIf, dF1, dAnd, dOr, dNot, dAndV, dOrV, dNotV, dCall, nCall, dCallL, nCallL, withLent, withLentN, vw, frz, dI, dI0, dB0, int2, dEq, dNe, dAdd, dSub, dIAdd, atD, gName', gTup', gNil', gCons', gLst', lenIs, retD, retN, lendK, backK, isLent, ownK, fAbs, fLen, fMax, fMin, startD, outK, shp_int, eqv_int, wipe3] at c2
      have c3 : ¬ ce' < 1000000000000000 := by omega
      simp [sSeq, sIf, sNext, sSet, sAug, sRet, sPar, sPar3, asThree, sRaise, sAsg, sOwn, sApp, sPut, sRetN, sRetOwn, sRetU, sDrop, sBreak, sCont, dVar, dC, dOp, dTest, dCons, dNil, dTup, nLst, dNew, dNeg, dIf, dF1, dAnd, dOr, dNot, dAndV, dOrV, dNotV, dCall, nCall, dCallL, nCallL, withLent, withLentN, vw, frz, dI, dI0, dB0, int2, dEq, dNe, dAdd, dSub, dIAdd, atD, gName', gTup', gNil', gCons', gLst', lenIs, retD, retN, lendK, backK, isLent, ownK, fAbs, fLen, fMax, fMin, startD, outK, shp_int, eqv_int, wipe3, c1, c3, Spl.L, pw, ixN]
      exact hD ce'
theorem pure__law_upto (α : List SD) (QD : Ret → List SD → Prop) (ED : Exd → List SD → Prop) (W : WD) (hW : W = fun e ρ => outK α ρ fun α' => ED e α') (h : p__law_upto α QD ED) : r__law_upto W (DEnd α QD) (startD n__law_upto.length α) := by
  obtain ⟨⟨ns, pl, ce, si⟩, m, b, rfl, ⟨h0, h1, h2⟩, hm, b0, bB, hq⟩ := h
  have h0 : 0 ≤ pl := h0
  have h1 : pl ≤ m := h1
  have h2 : ns.length ≤ 64 := h2
  have cd : ∀ z, CDivF z b := fun _ => ⟨by omega, bB.log (by omega)⟩
  have nz : ¬ b = 0 := by omega
  have fin : ∀ (pl' ce' si' : Int) (a2 a3 a4 : SD), 0 ≤ pl' → pl' ≤ ((m + 1 : Nat) : Int) → sSeq (sSet 5 (dOp dMod (dOp atD (dVar 0) (dC (.int 2))) (dVar 1))) (sSeq (sPut 0 (dOp dFdiv (dOp atD (dVar 0) (dC (.int 2))) (dVar 1)) (dC (.int 2))) (sSeq (sPut 0 (dOp dFdiv (dOp atD (dVar 0) (dC (.int 3))) (dVar 1)) (dC (.int 3))) (sRet (dVar 5))))
      (DEnd [Spl.S ⟨ns, pl, ce, si⟩, iv b] QD) [Spl.S ⟨ns, pl', ce', si'⟩, iv b, a2, a3, a4, .no] := by
    intro pl' ce' si' a2 a3 a4 k0 k1
    simp [sSeq, sIf, sNext, sSet, sAug, sRet, sPar, sPar3, asThree, sRaise, sAsg, sOwn, sApp, sPut, sRetN, sRetOwn, sRetU, sDrop, sBreak, sCont, dVar, dC, dOp, dTest, dCons, dNil, dTup, nLst, dNew, dNeg, dIf, dF1, dAnd, dOr, dNot, dAndV, dOrV, dNotV, dCall, nCall, dCallL, nCallL, withLent, withLentN, vw, frz, dI, dI0, dB0, int2, dEq, dNe, dAdd, dSub, dIAdd, atD, gName', gTup', gNil', gCons', gLst', lenIs, retD, retN, lendK, backK, isLent, ownK, fAbs, fLen, fMax, fMin, startD, outK, shp_int, eqv_int, wipe3, DEnd, Spl.L, atI, ixN, nz, cd]
    exact hq (ce'.fmod b) ⟨ns, pl', ce'.fdiv b, si'.fdiv b⟩ (Int.fmod_nonneg_of_pos _ b0) (Int.fmod_lt_of_pos _ b0) ⟨k0, k1, h2⟩
  have e0 : (startD n__law_upto.length [Spl.S ⟨ns, pl, ce, si⟩, iv b]) = [Spl.S ⟨ns, pl, ce, si⟩, iv b, .no, .no, .no, .no] := rfl
  rw [e0]
  unfold r__law_upto
  by_cases hsi : si < b
  · have step : ∀ c : Int, _ := fun c => upto_fill W { DEnd [Spl.S ⟨ns, pl, ce, si⟩, iv b] QD with nx := fun ρ => sSeq (sSet 5 (dOp dMod (dOp atD (dVar 0) (dC (.int 2))) (dVar 1))) (sSeq (sPut 0 (dOp dFdiv (dOp atD (dVar 0) (dC (.int 2))) (dVar 1)) (dC (.int 2))) (sSeq (sPut 0 (dOp dFdiv (dOp atD (dVar 0) (dC (.int 3))) (dVar 1)) (dC (.int 3))) (sRet (dVar 5)))) (DEnd [Spl.S ⟨ns, pl, ce, si⟩, iv b] QD) ρ } ns pl ce si b h0 (by omega) (fun c => fin _ _ _ _ _ _ (by omega) (by omega)) c
    have key : ∀ (R G : TSD), (∀ c : Int, R { DEnd [Spl.S ⟨ns, pl, ce, si⟩, iv b] QD with nx := fun ρ => G (DEnd [Spl.S ⟨ns, pl, ce, si⟩, iv b] QD) ρ } [Spl.S ⟨ns, pl, ce, si⟩, iv b, .val (.list (ns.map PyData.int)), iv pl, iv c, .no]) →
        sSeq (sIf (dTest (dOp dLt (dOp atD (dVar 0) (dC (.int 3))) (dVar 1))) (sSeq (sPar 2 3 (dCons (dOp atD (dVar 0) (dC (.int 0))) (dCons (dOp atD (dVar 0) (dC (.int 1))) (dNil)))) (sSeq (sSet 4 (dIf (dTest (dOp dNe (dVar 2) (dNew (nLst (dNil))))) (dOp atD (dVar 2) (dOp dMod (dVar 3) (dF1 fLen (dVar 2)))) (dC (.int 0)))) R)) (sNext)) G (DEnd [Spl.S ⟨ns, pl, ce, si⟩, iv b] QD) [Spl.S ⟨ns, pl, ce, si⟩, iv b, .no, .no, .no, .no] := by
      intro R G hR
      by_cases hns : ns = []
      · subst hns
        have := hR 0
        simp [sSeq, sIf, sNext, sSet, sAug, sRet, sPar, sPar3, asThree, sRaise, sAsg, sOwn, sApp, sPut, sRetN, sRetOwn, sRetU, sDrop, sBreak, sCont, dVar, dC, dOp, dTest, dCons, dNil, dTup, nLst, dNew, dNeg, dIf, dF1, dAnd, dOr, dNot, dAndV, dOrV, dNotV, dCall, nCall, dCallL, nCallL, withLent, withLentN, vw, frz, dI, dI0, dB0, int2, dEq, dNe, dAdd, dSub, dIAdd, atD, gName', gTup', gNil', gCons', gLst', lenIs, retD, retN, lendK, backK, isLent, ownK, fAbs, fLen, fMax, fMin, startD, outK, shp_int, eqv_int, wipe3, Spl.L, atI, ixN, hsi, shp_nil, eqv_nil]
        exact this
      · have l0 : (0 : Int) < ns.length := by
          have := List.length_pos_iff.mpr hns
          omega
        obtain ⟨y, hy⟩ := atI_int (ms := ns) (Int.fmod_nonneg_of_pos pl l0) (Int.fmod_lt_of_pos pl l0)
        have := hR y
        simp [sSeq, sIf, sNext, sSet, sAug, sRet, sPar, sPar3, asThree, sRaise, sAsg, sOwn, sApp, sPut, sRetN, sRetOwn, sRetU, sDrop, sBreak, sCont, dVar, dC, dOp, dTest, dCons, dNil, dTup, nLst, dNew, dNeg, dIf, dF1, dAnd, dOr, dNot, dAndV, dOrV, dNotV, dCall, nCall, dCallL, nCallL, withLent, withLentN, vw, frz, dI, dI0, dB0, int2, dEq, dNe, dAdd, dSub, dIAdd, atD, gName', gTup', gNil', gCons', gLst', lenIs, retD, retN, lendK, backK, isLent, ownK, fAbs, fLen, fMax, fMin, startD, outK, shp_int, eqv_int, wipe3, Spl.L, hsi, shp_nil, shp_ints ns, hy]
        have a3 : atI [PyData.list (ns.map PyData.int), .int pl, .int ce, .int si] 3 = some (.int si) := rfl
        have a0 : atI [PyData.list (ns.map PyData.int), .int pl, .int ce, .int si] 0 = some (.list (ns.map PyData.int)) := rfl
        have a1 : atI [PyData.list (ns.map PyData.int), .int pl, .int ce, .int si] 1 = some (.int pl) := rfl
        have hns' : ns.isEmpty = false := by simp [sSeq, sIf, sNext, sSet, sAug, sRet, sPar, sPar3, asThree, sRaise, sAsg, sOwn, sApp, sPut, sRetN, sRetOwn, sRetU, sDrop, sBreak, sCont, dVar, dC, dOp, dTest, dCons, dNil, dTup, nLst, dNew, dNeg, dIf, dF1, dAnd, dOr, dNot, dAndV, dOrV, dNotV, dCall, nCall, dCallL, nCallL, withLent, withLentN, vw, frz, dI, dI0, dB0, int2, dEq, dNe, dAdd, dSub, dIAdd, atD, gName', gTup', gNil', gCons', gLst', lenIs, retD, retN, lendK, backK, isLent, ownK, fAbs, fLen, fMax, fMin, startD, outK, shp_int, eqv_int, wipe3, hns]
        simp [sSeq, sIf, sNext, sSet, sAug, sRet, sPar, sPar3, asThree, sRaise, sAsg, sOwn, sApp, sPut, sRetN, sRetOwn, sRetU, sDrop, sBreak, sCont, dVar, dC, dOp, dTest, dCons, dNil, dTup, nLst, dNew, dNeg, dIf, dF1, dAnd, dOr, dNot, dAndV, dOrV, dNotV, dCall, nCall, dCallL, nCallL, withLent, withLentN, vw, frz, dI, dI0, dB0, int2, dEq, dNe, dAdd, dSub, dIAdd, atD, gName', gTup', gNil', gCons', gLst', lenIs, retD, retN, lendK, backK, isLent, ownK, fAbs, fLen, fMax, fMin, startD, outK, shp_int, eqv_int, wipe3, a3, a0, a1, hsi, shp_nil, eqv_nil, hns', shp_ints ns, hy]
        exact ⟨hns, this⟩
    exact key _ _ step
  · have := fin pl ce si .no .no .no h0 (by omega)
    simp [sSeq, sIf, sNext, sSet, sAug, sRet, sPar, sPar3, asThree, sRaise, sAsg, sOwn, sApp, sPut, sRetN, sRetOwn, sRetU, sDrop, sBreak, sCont, dVar, dC, dOp, dTest, dCons, dNil, dTup, nLst, dNew, dNeg, dIf, dF1, dAnd, dOr, dNot, dAndV, dOrV, dNotV, dCall, nCall, dCallL, nCallL, withLent, withLentN, vw, frz, dI, dI0, dB0, int2, dEq, dNe, dAdd, dSub, dIAdd, atD, gName', gTup', gNil', gCons', gLst', lenIs, retD, retN, lendK, backK, isLent, ownK, fAbs, fLen, fMax, fMin, startD, outK, shp_int, eqv_int, wipe3, Spl.L, hsi, DEnd, atI, ixN] at this ⊢
    exact this
theorem atI_mem {α : Type} {xs : List α} {z : Int} (h0 : 0 ≤ z) (h1 : z < xs.length) : ∃ y, y ∈ xs ∧ atI xs z = some y := by
  unfold atI
  rw [ixN_ok h0 h1]
  have : z.toNat < xs.length := by omega
  exact ⟨xs[z.toNat], List.getElem_mem _, by simp [sSeq, sIf, sNext, sSet, sAug, sRet, sPar, sPar3, asThree, sRaise, sAsg, sOwn, sApp, sPut, sRetN, sRetOwn, sRetU, sDrop, sBreak, sCont, dVar, dC, dOp, dTest, dCons, dNil, dTup, nLst, dNew, dNeg, dIf, dF1, dAnd, dOr, dNot, dAndV, dOrV, dNotV, dCall, nCall, dCallL, nCallL, withLent, withLentN, vw, frz, dI, dI0, dB0, int2, dEq, dNe, dAdd, dSub, dIAdd, atD, gName', gTup', gNil', gCons', gLst', lenIs, retD, retN, lendK, backK, isLent, ownK, fAbs, fLen, fMax, fMin, startD, outK, shp_int, eqv_int, wipe3, this]⟩
theorem pure__law_choice (α : List SD) (QD : Ret → List SD → Prop) (ED : Exd → List SD → Prop) (W : WD) (hW : W = fun e ρ => outK α ρ fun α' => ED e α') (h : p__law_choice α QD ED) : r__law_choice W (DEnd α QD) (startD n__law_choice.length α) := by
  obtain ⟨s, m, xs, rfl, hs, hm, hx, hl, hq⟩ := h
  have l0 : 0 < xs.length := List.length_pos_iff.mpr hx
  unfold r__law_choice DEnd
  simp [sSeq, sIf, sNext, sSet, sAug, sRet, sPar, sPar3, asThree, sRaise, sAsg, sOwn, sApp, sPut, sRetN, sRetOwn, sRetU, sDrop, sBreak, sCont, dVar, dC, dOp, dTest, dCons, dNil, dTup, nLst, dNew, dNeg, dIf, dF1, dAnd, dOr, dNot, dAndV, dOrV, dNotV, dCall, nCall, dCallL, nCallL, withLent, withLentN, vw, frz, dI, dI0, dB0, int2, dEq, dNe, dAdd, dSub, dIAdd, atD, gName', gTup', gNil', gCons', gLst', lenIs, retD, retN, lendK, backK, isLent, ownK, fAbs, fLen, fMax, fMin, startD, outK, shp_int, eqv_int, wipe3, n__law_choice, Spl.S]
  refine ⟨s, m, xs.length, rfl, hs, hm, by omega, by unfold Bd; exact Nat.lt_of_lt_of_le (show (xs.length : Int).natAbs < 2 ^ 60 by omega) (Nat.pow_le_pow_right (by decide) (by omega)), fun n s' n0 n1 hs' => ?_⟩
  obtain ⟨y, hy, e⟩ := atI_mem (xs := xs) n0 n1
  simp [sSeq, sIf, sNext, sSet, sAug, sRet, sPar, sPar3, asThree, sRaise, sAsg, sOwn, sApp, sPut, sRetN, sRetOwn, sRetU, sDrop, sBreak, sCont, dVar, dC, dOp, dTest, dCons, dNil, dTup, nLst, dNew, dNeg, dIf, dF1, dAnd, dOr, dNot, dAndV, dOrV, dNotV, dCall, nCall, dCallL, nCallL, withLent, withLentN, vw, frz, dI, dI0, dB0, int2, dEq, dNe, dAdd, dSub, dIAdd, atD, gName', gTup', gNil', gCons', gLst', lenIs, retD, retN, lendK, backK, isLent, ownK, fAbs, fLen, fMax, fMin, startD, outK, shp_int, eqv_int, wipe3, Spl.S, e]
  exact hq y s' hy hs'
end KK

set_option maxHeartbeats 1000000
namespace KK
open PySem PySem.Spec L2 DL
/-! ### expressions without effect, evaluated -/
def Ev (t : TED) (ρ : DSt) (z : PyData) : Prop := ∀ Q : R → DSt → Prop, (∀ r, (∀ k : PyData → Prop, k z → vw ρ r k) → (∀ k : PyData → DSt → Prop, k z ρ → frz ρ r k) → Q r ρ) → t ρ Q
def EvA (t : TND) (ρ : DSt) (zs : List PyData) : Prop := ∀ Q : List PyData → DSt → Prop, Q zs ρ → t ρ Q
def EvT (t : TTD) (ρ : DSt) (b : Bool) : Prop := ∀ Q : Bool → DSt → Prop, Q b ρ → t ρ Q
/-- a def that gives z of these data -/
def Pr (p : DSp) (ds : List PyData) (z : PyData) : Prop := ∀ (QD : Ret → List SD → Prop) (ED : Exd → List SD → Prop), QD (.d z) (ds.map SD.val) → p (ds.map SD.val) QD ED
section
variable {ρ : DSt} {a b c : TED} {x y z : PyData} {ta tb : TTD} {u v : Bool}
theorem ev_var (i : Nat) (h : ρ[i]? = some (.val z)) : Ev (dVar i) ρ z := by
  intro Q k
  refine ⟨by rw [h] <;> trivial, k _ (fun k hk => ?_) (fun k hk => ?_)⟩
  · show (match ρ[i]? with | some (.val d) => k d | some (.own _ ds) => k (.list ds) | _ => False)
    rw [h]; exact hk
  · show (match ρ[i]? with | some (.val d) => k d ρ | some (.own false ds) => k (.list ds) (ρ.set i (.val (.list ds))) | _ => False)
    rw [h]; exact hk
theorem ev_c : Ev (dC z) ρ z := fun Q k => k _ (fun _ h => h) (fun _ h => h)
theorem ev_op {f : PyData → PyData → (PyData → Prop) → Prop} (ha : Ev a ρ x) (hb : Ev b ρ y) (hf : ∀ k : PyData → Prop, k z → f x y k) : Ev (dOp f a b) ρ z := by
  intro Q k
  refine ha _ fun r1 h1 _ => hb _ fun r2 h2 _ => h1 _ (h2 _ (hf _ (k _ (fun _ h => h) (fun _ h => h))))
theorem eva_nil : EvA dNil ρ [] := fun Q h => h
theorem eva_cons {dr : TND} {zs : List PyData} (ha : Ev a ρ x) (hr : EvA dr ρ zs) : EvA (dCons a dr) ρ (x :: zs) := fun Q h => ha _ fun r _ h2 => h2 _ (hr _ h)
theorem ev_tup {dr : TND} {zs : List PyData} (h : EvA dr ρ zs) (hl : zs.length ≤ 1000) : Ev (dTup dr) ρ (.tuple zs) := fun Q k => h _ ⟨Nat.le_trans hl (by rw [sizeLine_eq]; decide), k _ (fun _ h => h) (fun _ h => h)⟩
theorem ev_call {p : DSp} {W : WD} {dr : TND} {zs : List PyData} (h : EvA dr ρ zs) (hp : Pr p zs z) : Ev (dCall p W dr) ρ z := fun Q k => h _ (hp _ _ (k _ (fun _ h => h) (fun _ h => h)))
theorem evt_test {t : TED} (h : Ev t ρ (.bool u)) : EvT (dTest t) ρ u := fun Q hq => h _ fun r h1 _ => h1 _ hq
theorem evt_or (h : EvT ta ρ u) (h2 : u = false → EvT tb ρ v) : EvT (dOr ta tb) ρ (u || v) := fun Q hq => h _ (by cases u with | true => exact hq | false => exact h2 rfl _ hq)
theorem evt_and (h : EvT ta ρ u) (h2 : u = true → EvT tb ρ v) : EvT (dAnd ta tb) ρ (u && v) := fun Q hq => h _ (by cases u with | false => exact hq | true => exact h2 rfl _ hq)
theorem evt_not (h : EvT ta ρ u) : EvT (dNot ta) ρ (!u) := fun Q hq => h _ hq
theorem s_if {x : TTD} {t e : TSD} {D : DEnds} (h : EvT x ρ u) (k : if u = true then t D ρ else e D ρ) : sIf x t e D ρ := h _ (by cases u with | true => exact k | false => exact k)
theorem s_chk {x : TTD} {t n : TSD} {D : DEnds} (h : EvT x ρ false) (k : n D ρ) : sSeq (sIf x t sNext) n D ρ := h _ k
theorem s_set {i : Nat} {n : TSD} {D : DEnds} (h : Ev a ρ z) (k : n D (ρ.set i (.val z))) : sSeq (sSet i a) n D ρ := h _ fun r _ h2 => h2 _ k
theorem ev_ne {z w : PyData} (ha : Ev a ρ z) (hb : Ev b ρ w) (h1 : SeqAt.shaped z = true) (h2 : SeqAt.shaped w = true) (e : PyData.eqv z w = true) : EvT (dTest (dOp dNe a b)) ρ false :=
  evt_test (ev_op (z := .bool false) ha hb fun k hk => ⟨h1, h2, by rw [e]; exact hk⟩)
theorem ev_neI {i j : Int} (ha : Ev a ρ (.int i)) (hb : Ev b ρ (.int j)) (e : i = j) : EvT (dTest (dOp dNe a b)) ρ false := ev_ne ha hb rfl rfl (by subst e; simp [PyData.eqv])
theorem ev_neI' {i j : Int} (ha : Ev a ρ (.int i)) (hb : Ev b ρ (.int j)) : EvT (dTest (dOp dNe a b)) ρ (!decide (i = j)) :=
  evt_test (ev_op (z := .bool (!decide (i = j))) ha hb fun k hk => ⟨rfl, rfl, hk⟩)
end
/-! ### field values -/
structure Fv (d : Int) (n : Nat) (x : Nu) (p q s : Int) : Prop where
  e : x = low p q d s
  s0 : s ≠ 0
  b : Nb n x
def Ex (t : TED) (ρ : DSt) (d : Int) (n : Nat) (p q s : Int) : Prop := ∃ x, Fv d n x p q s ∧ Ev t ρ x.D
def Dd (d : Int) : Prop := 0 < d ∧ d < 64 ∧ Irr d
theorem nu_shaped (x : Nu) : SeqAt.shaped x.D = true := rfl
theorem nu_eqv (x : Nu) : PyData.eqv x.D x.D = true := by
  show PyData.eqvAll [.int x.p, .int x.q, .int x.d, .int x.s] [.int x.p, .int x.q, .int x.d, .int x.s] = true
  simp [PyData.eqvAll, PyData.eqv]
section
variable {d : Int} {n m : Nat} {x y : Nu} {p q s p' q' s' : Int}
theorem Fv.kk (h : Fv d n x p q s) : ∃ k, k ≠ 0 ∧ p = k * x.p ∧ q = k * x.q ∧ s = k * x.s ∧ 0 < x.s ∧ x.d = if x.q = 0 then 0 else d := by
  obtain ⟨rfl, s0, _⟩ := h
  obtain ⟨k, h1, h2, h3, h4, h5⟩ := low_spec (p := p) (q := q) d s0
  exact ⟨k, h1, h2, h3, h4, h5, low_dd s0⟩
theorem Fv.rts (hx : Fv d n x p q s) (hy : Fv d m y p' q' s') : rts x y := by
  obtain ⟨_, _, _, _, _, _, h1⟩ := hx.kk
  obtain ⟨_, _, _, _, _, _, h2⟩ := hy.kk
  intro a b
  rw [h1] at a ⊢
  rw [h2] at b ⊢
  split at a
  · exact absurd rfl a
  · split at b
    · exact absurd rfl b
    · rename_i z1 z2; rw [if_neg z1, if_neg z2]
theorem bd0 (n : Nat) : Bd n 0 := by unfold Bd; exact Nat.pow_pos (by decide)
theorem bdd (hd : Dd d) (hn : 6 ≤ n) : Bd n d := (show Bd 6 d by unfold Bd; have := hd.1; have := hd.2.1; omega).mono hn
theorem Fv.nmx (hx : Fv d n x p q s) (hy : Fv d m y p' q' s') (hd : Dd d) : (x.q ≠ 0 ∨ y.q ≠ 0 → nmax x.d y.d = d) ∧ (x.q = 0 → y.q = 0 → nmax x.d y.d = 0) := by
  obtain ⟨_, _, _, _, _, _, h1⟩ := hx.kk
  obtain ⟨_, _, _, _, _, _, h2⟩ := hy.kk
  have := hd.1
  rw [h1, h2]
  refine ⟨fun h => ?_, fun a b => by rw [if_pos a, if_pos b]; rfl⟩
  unfold nmax
  by_cases a : x.q = 0 <;> by_cases b : y.q = 0 <;> simp [a, b] at h ⊢
  · omega
  · intro z; omega
theorem nplus_V (hx : Fv d n x p q s) (hy : Fv d m y p' q' s') (hd : Dd d) : Fv d (n + m + 7) (nplus x y) (p * s' + p' * s) (q * s' + q' * s) (s * s') := by
  obtain ⟨k, k0, e1, e2, e3, e4, _⟩ := hx.kk
  obtain ⟨l, l0, f1, f2, f3, f4, _⟩ := hy.kk
  obtain ⟨n1, n2⟩ := hx.nmx hy hd
  have ne : x.s * y.s ≠ 0 := Int.mul_ne_zero (by omega) (by omega)
  have eq : nplus x y = low (p * s' + p' * s) (q * s' + q' * s) d (s * s') := by
    unfold nplus
    refine low_eq ne (Int.mul_ne_zero hx.s0 hy.s0) ?_ ?_ fun h => n1 ?_
    · rw [e1, e3, f1, f3]; grind
    · rw [e2, e3, f2, f3]; grind
    · rcases Classical.em (x.q = 0) with a | a
      · rcases Classical.em (y.q = 0) with b | b
        · exact absurd (by rw [a, b]; simp) h
        · exact .inr b
      · exact .inl a
  refine ⟨eq, Int.mul_ne_zero hx.s0 hy.s0, ?_⟩
  obtain ⟨b1, b2, b3, b4⟩ := hx.b
  obtain ⟨c1, c2, c3, c4⟩ := hy.b
  unfold nplus
  have bm : Bd (n + m + 7) (nmax x.d y.d) := by unfold nmax; split; exact c3.mono (by omega); exact b3.mono (by omega)
  exact low_bd ne ((b1.mul c4).add (c1.mul b4) (by omega)) ((b2.mul c4).add (c2.mul b4) (by omega)) bm ((b4.mul c4).mono (by omega))
theorem nopp_V (hx : Fv d n x p q s) : Fv d n (nopp x) (-p) (-q) s := by
  obtain ⟨b1, b2, b3, b4⟩ := hx.b
  refine ⟨?_, hx.s0, b1.neg, b2.neg, b3, b4⟩
  have e := hx.e
  subst e
  unfold nopp low
  have hg : gc (-p) (-q) s = gc p q s := by unfold gc; rw [Int.natAbs_neg, Int.natAbs_neg]
  have dv : ∀ a : Int, gc p q s ∣ a → -(sg s * a / gc p q s) = sg s * -a / gc p q s := fun a h => by
    rw [Int.mul_neg, Int.neg_ediv_of_dvd (Int.dvd_trans h (Int.dvd_mul_left _ _))]
  simp only [hg, dv p gc_dp, dv q gc_dq, Int.neg_eq_zero]
theorem ntimes_V (hx : Fv d n x p q s) (hy : Fv d m y p' q' s') (hd : Dd d) : Fv d (n + m + 7) (ntimes x y) (p * p' + q * q' * d) (p * q' + q * p') (s * s') := by
  obtain ⟨k, k0, e1, e2, e3, e4, dx⟩ := hx.kk
  obtain ⟨l, l0, f1, f2, f3, f4, dy⟩ := hy.kk
  obtain ⟨n1, n2⟩ := hx.nmx hy hd
  have ne : x.s * y.s ≠ 0 := Int.mul_ne_zero (by omega) (by omega)
  have em : x.q * y.q * nmax x.d y.d = x.q * y.q * d := by
    rcases Classical.em (x.q = 0) with a | a
    · rw [a]; simp
    · rw [n1 (.inl a)]
  have eq : ntimes x y = low (p * p' + q * q' * d) (p * q' + q * p') d (s * s') := by
    unfold ntimes
    rw [em]
    refine low_eq ne (Int.mul_ne_zero hx.s0 hy.s0) ?_ ?_ fun h => n1 ?_
    · rw [e1, e2, e3, f1, f2, f3]; grind
    · rw [e1, e2, e3, f1, f2, f3]; grind
    · rcases Classical.em (x.q = 0) with a | a
      · rcases Classical.em (y.q = 0) with b | b
        · exact absurd (by rw [a, b]; simp) h
        · exact .inr b
      · exact .inl a
  refine ⟨eq, Int.mul_ne_zero hx.s0 hy.s0, ?_⟩
  obtain ⟨b1, b2, b3, b4⟩ := hx.b
  obtain ⟨c1, c2, c3, c4⟩ := hy.b
  unfold ntimes
  rw [em]
  have bm : Bd (n + m + 7) (nmax x.d y.d) := by unfold nmax; split; exact c3.mono (by omega); exact b3.mono (by omega)
  exact low_bd ne ((b1.mul c1).add ((b2.mul c2).mul (bdd hd (Nat.le_refl 6))) (by omega)) ((b1.mul c2).add (b2.mul c1) (by omega)) bm ((b4.mul c4).mono (by omega))
theorem norm_ne (hd : Dd d) (h : x.p ≠ 0 ∨ x.q ≠ 0) : x.p * x.p - x.q * x.q * d ≠ 0 := fun z => by
  obtain ⟨a, b⟩ := hd.2.2 x.p x.q (by omega)
  rcases h with h | h
  · exact h a
  · exact h b
theorem ninv_V (hy : Fv d m y p' q' s') (hd : Dd d) (h : y.p ≠ 0 ∨ y.q ≠ 0) : y.p * y.p - y.q * y.q * y.d ≠ 0 ∧ Fv d (2 * m + 7) (ninv y) (y.p * y.s) (-y.q * y.s) (y.p * y.p - y.q * y.q * d) := by
  obtain ⟨l, l0, f1, f2, f3, f4, dy⟩ := hy.kk
  have em : y.q * y.q * y.d = y.q * y.q * d := by
    rw [dy]
    split
    · rename_i z; rw [z]; simp
    · rfl
  have nz := norm_ne hd h
  obtain ⟨c1, c2, c3, c4⟩ := hy.b
  have bn : Bd (2 * m + 7) (y.p * y.p - y.q * y.q * d) := (c1.mul c1).sub ((c2.mul c2).mul (bdd hd (Nat.le_refl 6))) (by omega)
  refine ⟨by rw [em]; exact nz, ?_, nz, ?_⟩
  · unfold ninv
    rw [em]
    refine low_d fun h => ?_
    rw [dy, if_neg]
    intro z
    rw [z] at h
    simp at h
  · unfold ninv
    rw [em]
    exact low_bd nz ((c1.mul c4).mono (by omega)) ((c2.neg.mul c4).mono (by omega)) (c3.mono (by omega)) bn
/-! the promises of the field's defs -/
variable {ρ : DSt} {a b : TED} {W : WD}
theorem nb_mono {n m : Nat} {x : Nu} (h : Nb n x) (e : n ≤ m) : Nb m x := ⟨h.1.mono e, h.2.1.mono e, h.2.2.1.mono e, h.2.2.2.mono e⟩
theorem ex_plus (ha : Ex a ρ d n p q s) (hb : Ex b ρ d m p' q' s') (hd : Dd d) (h1 : n ≤ 4000 := by omega) (h2 : m ≤ 4000 := by omega) : Ex (dCall p_plus W (dCons a (dCons b dNil))) ρ d (n + m + 7) (p * s' + p' * s) (q * s' + q' * s) (s * s') := by
  obtain ⟨x, fx, ex⟩ := ha
  obtain ⟨y, fy, ey⟩ := hb
  obtain ⟨_, _, _, _, _, sx, _⟩ := fx.kk
  obtain ⟨_, _, _, _, _, sy, _⟩ := fy.kk
  exact ⟨nplus x y, nplus_V fx fy hd, ev_call (eva_cons ex (eva_cons ey eva_nil)) fun QD ED hq => ⟨x, y, rfl, fx.rts fy, nb_mono fx.b h1, nb_mono fy.b h2, by omega, by omega, hq⟩⟩
theorem ex_opp (ha : Ex a ρ d n p q s) : Ex (dCall p_opposite W (dCons a dNil)) ρ d n (-p) (-q) s := by
  obtain ⟨x, fx, ex⟩ := ha
  exact ⟨nopp x, nopp_V fx, ev_call (eva_cons ex eva_nil) fun QD ED hq => ⟨x, rfl, hq⟩⟩
theorem ex_minus (ha : Ex a ρ d n p q s) (hb : Ex b ρ d m p' q' s') (hd : Dd d) (h1 : n ≤ 4000 := by omega) (h2 : m ≤ 4000 := by omega) : Ex (dCall p_minus W (dCons a (dCons b dNil))) ρ d (n + m + 7) (p * s' + -p' * s) (q * s' + -q' * s) (s * s') := by
  obtain ⟨x, fx, ex⟩ := ha
  obtain ⟨y, fy, ey⟩ := hb
  obtain ⟨_, _, _, _, _, sx, _⟩ := fx.kk
  obtain ⟨_, _, _, _, _, sy, _⟩ := fy.kk
  exact ⟨nminus x y, nplus_V fx (nopp_V fy) hd, ev_call (eva_cons ex (eva_cons ey eva_nil)) fun QD ED hq => ⟨x, y, rfl, fx.rts fy, nb_mono fx.b h1, nb_mono fy.b h2, by omega, by omega, hq⟩⟩
theorem ex_times (ha : Ex a ρ d n p q s) (hb : Ex b ρ d m p' q' s') (hd : Dd d) (h1 : n ≤ 4000 := by omega) (h2 : m ≤ 4000 := by omega) : Ex (dCall p_times W (dCons a (dCons b dNil))) ρ d (n + m + 7) (p * p' + q * q' * d) (p * q' + q * p') (s * s') := by
  obtain ⟨x, fx, ex⟩ := ha
  obtain ⟨y, fy, ey⟩ := hb
  obtain ⟨_, _, _, _, _, sx, _⟩ := fx.kk
  obtain ⟨_, _, _, _, _, sy, _⟩ := fy.kk
  exact ⟨ntimes x y, ntimes_V fx fy hd, ev_call (eva_cons ex (eva_cons ey eva_nil)) fun QD ED hq => ⟨x, y, rfl, fx.rts fy, nb_mono fx.b h1, nb_mono fy.b h2, by omega, by omega, hq⟩⟩
/-- x / y, y not zero -/
theorem ex_over (ha : Ex a ρ d n p q s) (hb : Ex b ρ d m p' q' s') (hd : Dd d) (h0 : p' ≠ 0 ∨ q' ≠ 0) (h1 : n ≤ 1000 := by omega) (h2 : m ≤ 1000 := by omega) :
    Ex (dCall p_over W (dCons a (dCons b dNil))) ρ d (n + (2 * m + 7) + 7) (p * (p' * s') + q * (-q' * s') * d) (p * (-q' * s') + q * (p' * s')) (s * (p' * p' - q' * q' * d)) := by
  obtain ⟨x, fx, ex⟩ := ha
  obtain ⟨y, fy, ey⟩ := hb
  obtain ⟨_, _, _, _, _, sx, _⟩ := fx.kk
  obtain ⟨l, l0, f1, f2, f3, sy, _⟩ := fy.kk
  have hz : y.p ≠ 0 ∨ y.q ≠ 0 := by
    rcases h0 with h | h
    · exact .inl fun z => h (by rw [f1, z, Int.mul_zero])
    · exact .inr fun z => h (by rw [f2, z, Int.mul_zero])
  obtain ⟨nz, fi⟩ := ninv_V fy hd hz
  have ft := ntimes_V fx fi hd
  have nn := norm_ne hd hz
  have ne : p' * p' - q' * q' * d ≠ 0 := by
    rw [f1, f2, show l * y.p * (l * y.p) - l * y.q * (l * y.q) * d = l * l * (y.p * y.p - y.q * y.q * d) by grind]
    exact Int.mul_ne_zero (Int.mul_ne_zero l0 l0) nn
  refine ⟨nover x y, ⟨?_, Int.mul_ne_zero fx.s0 ne, ft.b⟩, ev_call (eva_cons ex (eva_cons ey eva_nil)) fun QD ED hq => ⟨x, y, rfl, fx.rts fy, nb_mono fx.b h1, nb_mono fy.b h2, by omega, by omega, nz, hq⟩⟩
  unfold nover
  rw [ft.e]
  refine low_eq ft.s0 (Int.mul_ne_zero fx.s0 ne) ?_ ?_ fun _ => rfl
  · rw [f1, f2, f3]; grind
  · rw [f1, f2, f3]; grind
theorem ex_ne (ha : Ex a ρ d n p q s) (hb : Ex b ρ d m p' q' s') (e1 : p * s' = p' * s) (e2 : q * s' = q' * s) : EvT (dTest (dOp dNe a b)) ρ false := by
  obtain ⟨x, fx, ex⟩ := ha
  obtain ⟨y, fy, ey⟩ := hb
  have : x = y := by rw [fx.e, fy.e]; exact low_eq fx.s0 fy.s0 e1 e2 fun _ => rfl
  subst this
  exact ev_ne ex ey (nu_shaped x) (nu_shaped x) (nu_eqv x)
theorem sos_xd (h : x.d = if x.q = 0 then 0 else d) : sos x.p x.q x.d = sos x.p x.q d := by
  rw [h]
  split
  · rename_i z; rw [z, sos_q0, sos_q0]
  · rfl
theorem ex_sign (ha : Ex a ρ d n p q s) (hd : Dd d) (hs : 0 < s) (h1 : n ≤ 20000 := by omega) : Ev (dCall p_sign W (dCons a dNil)) ρ (.int (sos p q d)) := by
  obtain ⟨x, fx, ex⟩ := ha
  obtain ⟨k, k0, e1, e2, e3, e4, dx⟩ := fx.kk
  have kp : 0 < k := by
    rcases Int.lt_or_gt_of_ne k0 with z | z
    · have := Int.mul_neg_of_neg_of_pos z e4; omega
    · exact z
  refine ev_call (eva_cons ex eva_nil) fun QD ED hq => ⟨x, rfl, nb_mono fx.b h1, ?_⟩
  rw [sos_xd dx]
  rw [e1, e2, sos_scale hd.1 kp hd.2.2] at hq
  exact hq
theorem ex_compare (ha : Ex a ρ d n p q s) (hb : Ex b ρ d m p' q' s') (hd : Dd d) (hs : 0 < s) (hs' : 0 < s') (h1 : n ≤ 4000 := by omega) (h2 : m ≤ 4000 := by omega) :
    Ev (dCall p_compare W (dCons a (dCons b dNil))) ρ (.int (sos (p * s' - p' * s) (q * s' - q' * s) d)) := by
  obtain ⟨x, fx, ex⟩ := ha
  obtain ⟨y, fy, ey⟩ := hb
  obtain ⟨k, k0, e1, e2, e3, e4, dx⟩ := fx.kk
  obtain ⟨l, l0, f1, f2, f3, f4, dy⟩ := fy.kk
  obtain ⟨n1, n2⟩ := fx.nmx fy hd
  have pos : ∀ {k z w : Int}, k ≠ 0 → w = k * z → 0 < z → 0 < w → 0 < k := fun {k z w} h0 e h1 h2 => by
    rcases Int.lt_or_gt_of_ne h0 with c | c
    · have := Int.mul_neg_of_neg_of_pos c h1; omega
    · exact c
  have kp := pos k0 e3 e4 hs
  have lp := pos l0 f3 f4 hs'
  have hd0 := hd.1
  refine ev_call (eva_cons ex (eva_cons ey eva_nil)) fun QD ED hq => ⟨x, y, rfl, nb_mono fx.b h1, nb_mono fy.b h2, ?_, by rw [dx]; split <;> omega, by rw [dy]; split <;> omega, e4, f4, ?_⟩
  · rw [dx, dy]
    by_cases z1 : x.q = 0
    · exact .inr (.inl ⟨z1, by rw [if_pos z1]⟩)
    · by_cases z2 : y.q = 0
      · exact .inr (.inr ⟨z2, by rw [if_pos z2]⟩)
      · rw [if_neg z1, if_neg z2]; exact .inl rfl
  · have s1 : p * s' - p' * s = (k * l) * (x.p * y.s - y.p * x.s) := by rw [e1, e3, f1, f3]; grind
    have s2 : q * s' - q' * s = (k * l) * (x.q * y.s - y.q * x.s) := by rw [e2, e3, f2, f3]; grind
    rw [s1, s2, sos_scale hd.1 (Int.mul_pos kp lp) hd.2.2] at hq
    by_cases z : x.q ≠ 0 ∨ y.q ≠ 0
    · rw [n1 z]; exact hq
    · have z1 : x.q = 0 := Classical.byContradiction fun h => z (.inl h)
      have z2 : y.q = 0 := Classical.byContradiction fun h => z (.inr h)
      rw [z1, z2] at hq ⊢
      simp only [Int.zero_mul, Int.sub_zero, sos_q0] at hq ⊢
      exact hq
end
end KK

set_option maxHeartbeats 1000000
namespace KK
open PySem PySem.Spec L2 DL
/-! ### floors -/
theorem isqr_ex : ∀ n : Nat, ∃ r : Int, isqr n r
  | 0 => ⟨0, by unfold isqr; decide⟩
  | n + 1 => by
    obtain ⟨r, h0, h1, h2⟩ := isqr_ex n
    by_cases h : (r + 1) * (r + 1) ≤ ((n + 1 : Nat) : Int)
    · refine ⟨r + 1, by omega, h, ?_⟩
      have : (r + 1 + 1) * (r + 1 + 1) = (r + 1) * (r + 1) + 2 * r + 3 := by grind
      omega
    · exact ⟨r, h0, by omega, by omega⟩
theorem isqr_uniq {a r t : Int} (h : isqr a r) (k : isqr a t) : r = t := by
  obtain ⟨h0, h1, h2⟩ := h
  obtain ⟨k0, k1, k2⟩ := k
  rcases Int.lt_trichotomy r t with z | z | z
  · have := Int.mul_le_mul (show r + 1 ≤ t by omega) (show r + 1 ≤ t by omega) (by omega) (by omega)
    omega
  · exact z
  · have := Int.mul_le_mul (show t + 1 ≤ r by omega) (show t + 1 ≤ r by omega) (by omega) (by omega)
    omega
section
variable {d : Int} {n m : Nat} {x y : Nu} {p q s p' q' s' : Int} {ρ : DSt} {a b : TED} {W : WD}
theorem fl_ex (hd : 0 ≤ x.d) : ∃ k, Fl x k := by
  obtain ⟨r, h⟩ := isqr_ex (x.q * x.q * x.d).toNat
  have : (((x.q * x.q * x.d).toNat : Nat) : Int) = x.q * x.q * x.d := Int.toNat_of_nonneg (Int.mul_nonneg (sq_nn _) hd)
  rw [this] at h
  exact ⟨_, r, h, rfl⟩
theorem fl_uniq {k l : Int} (h : Fl x k) (g : Fl x l) : k = l := by
  obtain ⟨r, h1, rfl⟩ := h
  obtain ⟨t, g1, rfl⟩ := g
  rw [isqr_uniq h1 g1]
/-- a value that is its own lowest form -/
theorem Fv.self (h : Fv d n x p q s) : Fv d n x x.p x.q x.s := by
  obtain ⟨k, k0, e1, e2, e3, e4, dx⟩ := h.kk
  refine ⟨?_, by omega, h.b⟩
  have := low_scale (p := x.p) (q := x.q) (s := x.s) d k0 (by omega)
  rw [← e1, ← e2, ← e3, ← h.e] at this
  exact this
theorem low_gc (hs : s ≠ 0) : gc (low p q d s).p (low p q d s).q (low p q d s).s = 1 := by
  obtain ⟨k, k0, e1, e2, e3, e4⟩ := low_spec (p := p) (q := q) d hs
  have g0 := gc_pos (p := p) (q := q) hs
  have e := gc_scale k (low p q d s).p (low p q d s).q (low p q d s).s
  rw [← e1, ← e2, ← e3] at e
  have hb := back (gc_ds (p := p) (q := q) (s := s)) (sg_sq s)
  have e5 : s = sg s * gc p q s * (low p q d s).s := hb
  have e6 : k = sg s * gc p q s := by
    have : k * (low p q d s).s = sg s * gc p q s * (low p q d s).s := by rw [← e3, ← e5]
    exact Int.eq_of_mul_eq_mul_right (by omega) this
  have e7 : (k.natAbs : Int) = gc p q s := by
    rw [e6]
    unfold sg
    split <;> omega
  rw [e7] at e
  have : gc p q s * 1 = gc p q s * gc (low p q d s).p (low p q d s).q (low p q d s).s := by rw [Int.mul_one]; exact e
  exact (Int.eq_of_mul_eq_mul_left (by omega) this).symm
theorem gc_shift (v : Int) (hs : x.s ≠ 0) (h : gc x.p x.q x.s = 1) : gc (x.p + v * x.s) x.q x.s = 1 := by
  have g0 := gc_pos (p := x.p + v * x.s) (q := x.q) hs
  have d1 : gc (x.p + v * x.s) x.q x.s ∣ x.p := by
    have := Int.dvd_sub (gc_dp (p := x.p + v * x.s) (q := x.q) (s := x.s)) (Int.dvd_trans (gc_ds (p := x.p + v * x.s) (q := x.q) (s := x.s)) (Int.dvd_mul_left v x.s))
    rwa [Int.add_sub_cancel] at this
  have d2 : gc (x.p + v * x.s) x.q x.s ∣ gc x.p x.q x.s := by
    have n1 := Int.natAbs_dvd_natAbs.mpr d1
    have n2 := Int.natAbs_dvd_natAbs.mpr (gc_dq (p := x.p + v * x.s) (q := x.q) (s := x.s))
    have n3 := Int.natAbs_dvd_natAbs.mpr (gc_ds (p := x.p + v * x.s) (q := x.q) (s := x.s))
    have := Nat.dvd_gcd (Nat.dvd_gcd n1 n2) n3
    exact Int.natAbs_dvd_natAbs.mp (by unfold gc at this ⊢; simpa using this)
  rw [h] at d2
  have := Int.le_of_dvd (by decide) d2
  omega
theorem low_one {p q d s : Int} (hs : 0 < s) (h : gc p q s = 1) : low p q d s = ⟨p, q, if q = 0 then 0 else d, s⟩ := by
  unfold low
  have : sg s = 1 := by unfold sg; rw [if_neg (by omega)]
  rw [h, this]
  simp
/-- x and a whole number more -/
theorem fl_shift (h : Fv d n x p q s) {k : Int} (v : Int) (hk : Fl x k) : Fl (low (x.p + v * x.s) x.q d x.s) (k + v) := by
  obtain ⟨l, l0, e1, e2, e3, e4, dx⟩ := h.kk
  have g1 : gc x.p x.q x.s = 1 := by rw [h.e]; exact low_gc h.s0
  rw [low_one e4 (gc_shift v (by omega) g1), ← dx]
  obtain ⟨r, h1, rfl⟩ := hk
  refine ⟨r, h1, ?_⟩
  show (if 0 ≤ x.q then (x.p + r) / x.s else (x.p - r - 1) / x.s) + v = if 0 ≤ x.q then (x.p + v * x.s + r) / x.s else (x.p + v * x.s - r - 1) / x.s
  split
  · rw [show x.p + v * x.s + r = x.p + r + v * x.s by grind, Int.add_mul_ediv_right _ _ (by omega)]
  · rw [show x.p + v * x.s - r - 1 = x.p - r - 1 + v * x.s by grind, Int.add_mul_ediv_right _ _ (by omega)]
theorem sq_lt {a b : Int} (h0 : 0 ≤ a) (h : a < b) : a * a < b * b := by
  have := Int.mul_le_mul (show a + 1 ≤ b by omega) (show a + 1 ≤ b by omega) (by omega) (by omega)
  have e : (a + 1) * (a + 1) = a * a + 2 * a + 1 := by grind
  omega
theorem sq_le {a b : Int} (h0 : 0 ≤ a) (h : a ≤ b) : a * a ≤ b * b := Int.mul_le_mul h h h0 (by omega)
/-- the floor is not above, the next is above -/
theorem fl_sos (h : Fv d n x p q s) (hd : Dd d) {k : Int} (hk : Fl x k) : sos (k * x.s - x.p) (0 - x.q) d ≤ 0 ∧ sos ((k + 1) * x.s - x.p) (0 - x.q) d = 1 := by
  obtain ⟨l, l0, e1, e2, e3, e4, dx⟩ := h.kk
  obtain ⟨r, ⟨r0, r1, r2⟩, ek⟩ := hk
  have hd0 := hd.1
  have qd : x.q * x.q * x.d = x.q * x.q * d := by
    rw [dx]; split
    · rename_i z; rw [z]; simp
    · rfl
  rw [qd] at r1 r2
  have nq : (0 - x.q) * (0 - x.q) * d = x.q * x.q * d := by grind
  by_cases hq : 0 ≤ x.q
  · rw [if_pos hq] at ek
    have l1 : k * x.s ≤ x.p + r := by
      rw [ek, Int.mul_comm]; exact Int.mul_ediv_self_le (by omega)
    have l2 : x.p + r < (k + 1) * x.s := by
      rw [ek, Int.mul_comm]
      have := Int.lt_mul_ediv_self_add (x := x.p + r) e4
      grind
    by_cases z : x.q = 0
    · have r00 : r = 0 := by
        rw [z] at r1
        rcases Int.lt_or_le 0 r with c | c
        · have := Int.mul_pos c c; simp at r1; omega
        · omega
      rw [z]
      simp only [Int.sub_zero, sos_q0]
      refine ⟨?_, sgi_pos (by omega)⟩
      unfold sgi
      split
      · omega
      · split <;> omega
    · have qp : 0 < x.q * x.q * d := Int.mul_pos (Int.mul_pos (by omega) (by omega)) hd0
      constructor
      · rcases Int.lt_trichotomy ((k * x.s - x.p) * (k * x.s - x.p) - (0 - x.q) * (0 - x.q) * d) 0 with c | c | c
        · rw [sos_N hd0 c, sgi_neg (by omega)]; decide
        · obtain ⟨_, a2⟩ := hd.2.2 _ _ (show (k * x.s - x.p) * (k * x.s - x.p) = (0 - x.q) * (0 - x.q) * d by omega)
          omega
        · rw [sos_P hd0 c]
          rcases Int.lt_or_le 0 (k * x.s - x.p) with t | t
          · have := sq_le (show 0 ≤ k * x.s - x.p by omega) (show k * x.s - x.p ≤ r by omega)
            omega
          · unfold sgi
            rw [if_neg (by omega)]
            split <;> omega
      · have := sq_le (show 0 ≤ r + 1 by omega) (show r + 1 ≤ (k + 1) * x.s - x.p by omega)
        rw [sos_P hd0 (by omega), sgi_pos (by omega)]
  · rw [if_neg hq] at ek
    have l1 : k * x.s ≤ x.p - r - 1 := by
      rw [ek, Int.mul_comm]; exact Int.mul_ediv_self_le (by omega)
    have l2 : x.p - r - 1 < (k + 1) * x.s := by
      rw [ek, Int.mul_comm]
      have := Int.lt_mul_ediv_self_add (x := x.p - r - 1) e4
      grind
    have neq : r * r ≠ x.q * x.q * d := fun z => by
      obtain ⟨_, a2⟩ := hd.2.2 _ _ z
      omega
    constructor
    · have := sq_le (show 0 ≤ r + 1 by omega) (show r + 1 ≤ -(k * x.s - x.p) by omega)
      have e : -(k * x.s - x.p) * -(k * x.s - x.p) = (k * x.s - x.p) * (k * x.s - x.p) := by grind
      rw [sos_P hd0 (by omega), sgi_neg (by omega)]; decide
    · rcases Int.lt_trichotomy (((k + 1) * x.s - x.p) * ((k + 1) * x.s - x.p) - (0 - x.q) * (0 - x.q) * d) 0 with c | c | c
      · rw [sos_N hd0 c, sgi_pos (by omega)]
      · obtain ⟨_, a2⟩ := hd.2.2 _ _ (show ((k + 1) * x.s - x.p) * ((k + 1) * x.s - x.p) = (0 - x.q) * (0 - x.q) * d by omega)
        omega
      · rw [sos_P hd0 c]
        rcases Int.lt_or_le ((k + 1) * x.s - x.p) 0 with t | t
        · have := sq_le (show 0 ≤ -((k + 1) * x.s - x.p) by omega) (show -((k + 1) * x.s - x.p) ≤ r by omega)
          have e : -((k + 1) * x.s - x.p) * -((k + 1) * x.s - x.p) = ((k + 1) * x.s - x.p) * ((k + 1) * x.s - x.p) := by grind
          omega
        · rcases Int.lt_or_le 0 ((k + 1) * x.s - x.p) with u | u
          · exact sgi_pos u
          · have : (k + 1) * x.s - x.p = 0 := by omega
            rw [this] at c
            have := sq_nn (0 - x.q)
            have := Int.mul_nonneg this (Int.le_of_lt hd0)
            omega
theorem ex_floor (h : Fv d n x p q s) (hd : Dd d) (ea : Ev a ρ x.D) {k : Int} (hk : Fl x k) (h1 : n ≤ 2000 := by omega) : Ev (dCall p_floor W (dCons a dNil)) ρ (.int k) := by
  obtain ⟨l, l0, e1, e2, e3, e4, dx⟩ := h.kk
  have := hd.1
  exact ev_call (eva_cons ea eva_nil) fun QD ED hq => ⟨x, rfl, nb_mono h.b h1, e4, by rw [dx]; split <;> omega, fun j hj => by rw [fl_uniq hj hk]; exact hq⟩
theorem fl_bd (h : Fv d n x p q s) (hd : Dd d) {k : Int} (hk : Fl x k) : Bd (n + 6) k := by
  obtain ⟨l, l0, e1, e2, e3, e4, dx⟩ := h.kk
  obtain ⟨r, ⟨r0, r1, r2⟩, ek⟩ := hk
  obtain ⟨b1, b2, b3, b4⟩ := h.b
  have hd0 := hd.1
  have hd1 := hd.2.1
  have rb : Bd (n + 4) r := by
    have dle : x.d ≤ 64 := by rw [dx]; split <;> omega
    have e8 : x.q * x.q * x.d ≤ 8 * (x.q.natAbs : Int) * (8 * (x.q.natAbs : Int)) := by
      have h1 := Int.mul_le_mul_of_nonneg_left dle (sq_nn x.q)
      have h2 : (x.q.natAbs : Int) * (x.q.natAbs : Int) = x.q * x.q := Int.natAbs_mul_self
      have h3 : 8 * (x.q.natAbs : Int) * (8 * (x.q.natAbs : Int)) = (x.q.natAbs : Int) * (x.q.natAbs : Int) * 64 := by grind
      rw [h3, h2]; exact h1
    have le : r ≤ 8 * (x.q.natAbs : Int) := by
      rcases Int.lt_or_le (8 * (x.q.natAbs : Int)) r with c | c
      · have := sq_lt (by omega) c
        omega
      · exact c
    have b8 : Bd (n + 4) (8 * (x.q.natAbs : Int)) := by
      have : Bd n (x.q.natAbs : Int) := by unfold Bd at *; omega
      exact ((show Bd 4 8 by unfold Bd; decide).mul this).mono (by omega)
    exact b8.of r0 le
  rw [ek]
  split
  · exact Bd.div (b1.add rb (by omega)) _ e4
  · refine Bd.div ?_ _ e4
    exact (b1.sub rb (k := n + 5) (by omega)).sub (show Bd 1 1 by unfold Bd; decide) (by omega)
end
/-! ### the six roots -/
theorem root6 {z f r : Int} (hz : z = 2 ∨ z = 3 ∨ z = 5 ∨ z = 6 ∨ z = 12 ∨ z = 45) (f0 : 0 < f) (r0 : 0 < r) (e : f * f * r = z) (sq : sqfree r) : 2 ≤ r ∧ r ≤ 6 ∧ Dd r ∧ f ≤ 3 := by
  have fr : f * f ≤ z := by
    have := Int.mul_le_mul_of_nonneg_left (show 1 ≤ r by omega) (show 0 ≤ f * f by have := Int.mul_pos f0 f0; omega)
    omega
  have f7 : f < 7 := by
    rcases Int.lt_or_le f 7 with c | c
    · exact c
    · have := sq_le (show (0 : Int) ≤ 7 by decide) c
      omega
  have hf : f = 1 ∨ f = 2 ∨ f = 3 ∨ f = 4 ∨ f = 5 ∨ f = 6 := by omega
  have n12 : ¬ sqfree 12 := fun h => h 2 (by decide) (by decide)
  have n45 : ¬ sqfree 45 := fun h => h 3 (by decide) (by decide)
  have d2 : Dd 2 := ⟨by decide, by decide, irr2⟩
  have d3 : Dd 3 := ⟨by decide, by decide, irr3⟩
  have d5 : Dd 5 := ⟨by decide, by decide, irr5⟩
  have d6 : Dd 6 := ⟨by decide, by decide, irr6⟩
  rcases hf with rfl | rfl | rfl | rfl | rfl | rfl
  · have : r = z := by omega
    subst this
    rcases hz with rfl | rfl | rfl | rfl | rfl | rfl
    · exact ⟨by decide, by decide, d2, by decide⟩
    · exact ⟨by decide, by decide, d3, by decide⟩
    · exact ⟨by decide, by decide, d5, by decide⟩
    · exact ⟨by decide, by decide, d6, by decide⟩
    · exact absurd sq n12
    · exact absurd sq n45
  · have : r = 3 := by omega
    subst this
    exact ⟨by decide, by decide, d3, by decide⟩
  · have : r = 5 := by omega
    subst this
    exact ⟨by decide, by decide, d5, by decide⟩
  · exfalso; omega
  · exfalso; omega
  · exfalso; omega
end KK

set_option maxHeartbeats 1000000
namespace KK
open PySem PySem.Spec L2 DL
theorem tab6 {z : Int} (hz : z = 2 ∨ z = 3 ∨ z = 5 ∨ z = 6 ∨ z = 12 ∨ z = 45) : ∃ f0 r0 : Int, Dd r0 ∧ 2 ≤ r0 ∧ 0 < f0 ∧ f0 ≤ 3 ∧ f0 * f0 * r0 = z ∧ ∀ f r, 0 < f → 0 < r → f * f * r = z → sqfree r → f = f0 ∧ r = r0 := by
  have uniq : ∀ f0 r0 : Int, 0 < f0 → f0 ≤ 3 → r0 ≤ 6 → 2 ≤ r0 → f0 * f0 * r0 = z → ∀ f r, 0 < f → 0 < r → f * f * r = z → sqfree r → f = f0 ∧ r = r0 := by
    intro f0 r0 a0 a1 a2 a3 e0 f r b0 b1 e sq
    obtain ⟨h2, h6, _, h3⟩ := root6 hz b0 b1 e sq
    have hf : f = 1 ∨ f = 2 ∨ f = 3 := by omega
    have hf0 : f0 = 1 ∨ f0 = 2 ∨ f0 = 3 := by omega
    rcases hf with rfl | rfl | rfl <;> rcases hf0 with rfl | rfl | rfl <;> rcases hz with rfl | rfl | rfl | rfl | rfl | rfl <;> omega
  rcases hz with rfl | rfl | rfl | rfl | rfl | rfl
  · exact ⟨1, 2, ⟨by decide, by decide, irr2⟩, by decide, by decide, by decide, by decide, uniq 1 2 (by decide) (by decide) (by decide) (by decide) (by decide)⟩
  · exact ⟨1, 3, ⟨by decide, by decide, irr3⟩, by decide, by decide, by decide, by decide, uniq 1 3 (by decide) (by decide) (by decide) (by decide) (by decide)⟩
  · exact ⟨1, 5, ⟨by decide, by decide, irr5⟩, by decide, by decide, by decide, by decide, uniq 1 5 (by decide) (by decide) (by decide) (by decide) (by decide)⟩
  · exact ⟨1, 6, ⟨by decide, by decide, irr6⟩, by decide, by decide, by decide, by decide, uniq 1 6 (by decide) (by decide) (by decide) (by decide) (by decide)⟩
  · exact ⟨2, 3, ⟨by decide, by decide, irr3⟩, by decide, by decide, by decide, by decide, uniq 2 3 (by decide) (by decide) (by decide) (by decide) (by decide)⟩
  · exact ⟨3, 5, ⟨by decide, by decide, irr5⟩, by decide, by decide, by decide, by decide, uniq 3 5 (by decide) (by decide) (by decide) (by decide) (by decide)⟩
section
variable {ρ : DSt} {a b c e : TED} {W : WD} {D : DEnds} {nn : TSD}
theorem ev_new {dr : TND} {zs : List PyData} (h : EvA dr ρ zs) (hl : zs.length ≤ 1000) : Ev (dNew (nLst dr)) ρ (.list zs) := fun Q k => h _ ⟨Nat.le_trans hl (by rw [sizeLine_eq]; decide), k _ (fun _ h => h) (fun _ h => h)⟩
theorem Pr.run {p : DSp} {ds : List PyData} {z : PyData} (h : Pr p ds z) {Q : R → DSt → Prop} (k : Q (.d z) ρ) : p (ds.map SD.val) (fun r _ => retD Q ρ r) (fun e _ => W e ρ) := h _ _ k
/-- the roots of a turn -/
structure Rt (z f r : Int) : Prop where
  d : Dd r
  r2 : 2 ≤ r
  f0 : 0 < f
  f3 : f ≤ 3
  e : f * f * r = z
  u : ∀ f' r', 0 < f' → 0 < r' → f' * f' * r' = z → sqfree r' → f' = f ∧ r' = r
theorem Rt.z {z f r : Int} (h : Rt z f r) : 0 < z ∧ z < 600 := by
  have h1 := h.d.1
  have h2 := h.d.2.1
  have h3 := h.f3
  have h4 := h.f0
  have hf : f = 1 ∨ f = 2 ∨ f = 3 := by omega
  have := h.e
  rcases hf with rfl | rfl | rfl <;> omega
theorem pr_number {z f r p q s : Int} (h : Rt z f r) (hs : 0 < s) (hq : Bd 3000 q) (hs' : Bd 3000 s) : Pr p_number [.int p, .int q, .int z, .int s] (low p (q * f) r s).D := by
  intro QD ED k
  have hz := h.z
  refine ⟨p, q, z, s, rfl, by omega, by omega, hq.mono (by omega), (show Bd 10 z by unfold Bd; omega).mono (by omega), hs'.mono (by omega), fun f' r' hc => ?_⟩
  rcases hc with ⟨h0, _⟩ | ⟨_, h1, h2, h3, h4⟩
  · omega
  · obtain ⟨rfl, rfl⟩ := h.u f' r' h1 h2 h3 h4
    rw [if_neg (by have := h.r2; omega)]
    exact k
theorem ex_whole (d : Int) {n : Nat} {v : Int} (ha : Ev a ρ (.int v)) (hb : Bd n v) (hn : 1 ≤ n) : Ex (dCall p_number W (dCons a (dCons (dC (.int 0)) (dCons (dC (.int 0)) (dCons (dC (.int 1)) dNil))))) ρ d n v 0 1 := by
  have one : Bd n 1 := (show Bd 1 1 by unfold Bd; decide).mono hn
  have e : low (v + 0 * 0) 0 0 1 = low v 0 d 1 := by rw [Int.zero_mul, Int.add_zero]; exact low_d fun h => absurd rfl h
  refine ⟨low v 0 d 1, ⟨rfl, by decide, ?_⟩, ev_call (eva_cons ha (eva_cons ev_c (eva_cons ev_c (eva_cons ev_c eva_nil)))) fun QD ED k => ⟨v, 0, 0, 1, rfl, by decide, by decide, bd0 _, bd0 _, (show Bd 1 1 by unfold Bd; decide).mono (by omega), fun f' r' hc => ?_⟩⟩
  · have e2 : low v 0 d 1 = low v 0 0 1 := low_d fun h => absurd rfl h
    rw [e2]
    exact low_bd (by decide) hb (bd0 _) (bd0 _) one
  · rcases hc with ⟨_, rfl, rfl⟩ | ⟨h, _⟩
    · rw [if_pos (by decide)]
      rw [e]
      exact k
    · exact absurd h (by decide)
/-! draws -/
theorem dr_upto {io : Bool} {s : Spl} {m : Nat} {b : Int} {Q : R → DSt → Prop} (h : ρ[1]? = some (.own io s.L)) (ha : Ev a ρ (.int b)) (hs : Sok m s) (hm : m < 1000) (h0 : 0 < b) (hb : Bd 1000 b) (k : ∀ n s', 0 ≤ n → n < b → Sok (m + 1) s' → Q (.d (.int n)) (ρ.set 1 (.own io s'.L))) :
    withLent 1 (dCallL p__law_upto W 1 (dCons a dNil)) ρ Q := by
  refine ⟨by unfold isLent; rw [h]; trivial, eva_cons ha eva_nil _ ?_⟩
  show lendK ρ 1 _
  unfold lendK
  rw [h]
  refine ⟨s, m, b, rfl, hs, by omega, h0, hb.mono (by omega), fun n s' n0 n1 hs' => ?_⟩
  unfold backK
  rw [h]
  exact k n s' n0 n1 hs'
theorem dr_choice {io : Bool} {s : Spl} {m : Nat} {xs : List PyData} {Q : R → DSt → Prop} (h : ρ[1]? = some (.own io s.L)) (ha : Ev a ρ (.list xs)) (hs : Sok m s) (hm : m < 1000) (h0 : xs ≠ []) (hb : xs.length < 1000) (k : ∀ x s', x ∈ xs → Sok (m + 1) s' → Q (.d x) (ρ.set 1 (.own io s'.L))) :
    withLent 1 (dCallL p__law_choice W 1 (dCons a dNil)) ρ Q := by
  refine ⟨by unfold isLent; rw [h]; trivial, eva_cons ha eva_nil _ ?_⟩
  show lendK ρ 1 _
  unfold lendK
  rw [h]
  refine ⟨s, m, xs, rfl, hs, by omega, h0, by omega, fun x s' hx hs' => ?_⟩
  unfold backK
  rw [h]
  exact k x s' hx hs'
theorem s_spool {ns : List Int} {rest : DSt} (hl : ns.length ≤ 63) (k : ∀ s, Sok 0 s → nn D (.res true (scriptR ns) :: .own false s.L :: rest)) : sSeq (sOwn 1 (withLentN 0 (nCallL p__law_spool_of W 0 dNil))) nn D (.res true (scriptR ns) :: .no :: rest) := by
  refine ⟨trivial, ns, rfl, hl, fun s hs => ⟨?_, k s hs⟩⟩
  show 1 < _
  simp
end
end KK

set_option maxHeartbeats 2000000
namespace KK
open PySem PySem.Spec L2 DL
theorem rg {P : Prop} (a b : P) : P := a
def Good (r : Int) (y : PyData) : Prop := ∃ x p q s, y = Nu.D x ∧ Fv r 60 x p q s ∧ 0 < s
/-- one number drawn -/
def drawOne (W : WD) : TSD := sSeq (sSet 6 (withLent 1 (dCallL p__law_choice W 1 (dCons (dNew (nLst (dCons (dC (.int 3)) (dCons (dC (.int 10)) (dCons (dOp dPow (dC (.int 10)) (dC (.int 15))) (dNil)))))) (dNil))))) (sSeq (sPar 7 8 (dCons (dOp dSub (withLent 1 (dCallL p__law_upto W 1 (dCons (dOp dAdd (dOp dMul (dC (.int 2)) (dVar 6)) (dC (.int 1))) (dNil)))) (dVar 6)) (dCons (dOp dSub (withLent 1 (dCallL p__law_upto W 1 (dCons (dOp dAdd (dOp dMul (dC (.int 2)) (dVar 6)) (dC (.int 1))) (dNil)))) (dVar 6)) (dNil)))) (sApp 4 (dCall p_number W (dCons (dVar 7) (dCons (dVar 8) (dCons (dVar 3) (dCons (dOp dAdd (dC (.int 1)) (withLent 1 (dCallL p__law_upto W 1 (dCons (dVar 6) (dNil))))) (dNil))))))))
theorem small_mul {i j : Int} (h1 : i.natAbs < 2 ^ 100) (h2 : j.natAbs < 2 ^ 100) : CMulW i j := Bd.cm (n := 100) (m := 100) h1 h2 (by omega)
theorem drawOne_ok (W : WD) (D : DEnds) {z f r : Int} (hz : Rt z f r) {sc : SD} {s : Spl} {m : Nat} (hs : Sok m s) (hm : m < 900) (t2 i5 i6 i7 i8 a9 b9 c9 d9 e9 f9 : SD) (ds : List PyData) (hd : ds.length < 10)
    (k : ∀ (s' : Spl) (y : PyData) (j6 j7 j8 : SD), Sok (m + 4) s' → Good r y → D.nx [sc, .own false s'.L, t2, iv z, .own false (ds ++ [y]), i5, j6, j7, j8, a9, b9, c9, d9, e9, f9]) :
    drawOne W D [sc, .own false s.L, t2, iv z, .own false ds, i5, i6, i7, i8, a9, b9, c9, d9, e9, f9] := by
  have pw : CPow 10 15 := ⟨by decide, by decide, by decide⟩
  unfold drawOne
  refine dr_choice (xs := [.int 3, .int 10, .int (10 ^ 15)]) rfl (ev_new (eva_cons ev_c (eva_cons ev_c (eva_cons (ev_op ev_c ev_c fun k hk => ⟨pw, hk⟩) eva_nil))) (by decide)) hs (by omega) (by simp) (by decide) fun x s1 hx hs1 => ?_
  obtain ⟨g, rfl, g0, g1⟩ : ∃ g : Int, x = .int g ∧ 0 < g ∧ g ≤ 10 ^ 15 := by
    simp only [List.mem_cons, List.not_mem_nil, or_false] at hx
    rcases hx with rfl | rfl | rfl
    · exact ⟨3, rfl, by decide, by decide⟩
    · exact ⟨10, rfl, by decide, by decide⟩
    · exact ⟨10 ^ 15, rfl, by decide, by decide⟩
  have ev2 : ∀ (ρ : DSt), ρ[6]? = some (iv g) → Ev (dOp dAdd (dOp dMul (dC (.int 2)) (dVar 6)) (dC (.int 1))) ρ (.int (2 * g + 1)) := fun ρ h =>
    ev_op (x := .int (2 * g)) (y := .int 1) (ev_op (x := .int 2) (y := .int g) ev_c (ev_var 6 h) fun k hk => ⟨small_mul (by decide) (by omega), hk⟩) ev_c fun k hk => hk
  have b2 : Bd 1000 (2 * g + 1) := (show Bd 60 (2 * g + 1) by unfold Bd; omega).mono (by omega)
  refine dr_upto rfl (ev2 _ (by rfl)) hs1 (by omega) (by omega) b2 fun n1 s2 n10 n11 hs2 => ?_
  refine ⟨trivial, ?_⟩
  refine dr_upto rfl (ev2 _ (by rfl)) hs2 (by omega) (by omega) b2 fun n2 s3 n20 n21 hs3 => ?_
  refine ⟨trivial, trivial, trivial, trivial, trivial, ?_⟩
  refine dr_upto rfl (ev_var 6 (by rfl)) hs3 (by omega) g0 ((show Bd 60 g by unfold Bd; omega).mono (by omega)) fun n3 s4 n30 n31 hs4 => ?_
  have pr := pr_number (p := n1 - g) (q := n2 - g) (s := 1 + n3) hz (by omega) ((show Bd 60 (n2 - g) by unfold Bd; omega).mono (by omega)) ((show Bd 60 (1 + n3) by unfold Bd; omega).mono (by omega))
  simp only [vw, dAdd, frz, dNil]
  refine pr _ _ ?_
  refine ⟨Nat.lt_of_lt_of_le (show ds.length < 1000 by omega) (by rw [sizeLine_eq]; decide), ?_⟩
  refine k s4 _ _ _ _ hs4 ⟨low (n1 - g) ((n2 - g) * f) r (1 + n3), _, _, _, rfl, ⟨rfl, by omega, ?_⟩, by omega⟩
  have f0 := hz.f0
  have f3 := hz.f3
  refine low_bd (by omega) (show Bd 60 (n1 - g) by unfold Bd; omega) ?_ (bdd hz.d (by omega)) (show Bd 60 (1 + n3) by unfold Bd; omega)
  exact ((show Bd 52 (n2 - g) by unfold Bd; omega).mul (show Bd 2 f by unfold Bd; omega)).mono (by omega)
end KK

set_option maxHeartbeats 4000000
namespace KK
open PySem PySem.Spec L2 DL
theorem evt_and0 {ρ : DSt} {ta tb : TTD} {u : Bool} (h : EvT ta ρ u) (h2 : u = true → EvT tb ρ false) : EvT (dAnd ta tb) ρ false := fun Q hq => h _ (by cases u with | false => exact hq | true => exact h2 rfl _ hq)
theorem evt_or0 {ρ : DSt} {ta tb : TTD} (h : EvT ta ρ false) (h2 : EvT tb ρ false) : EvT (dOr ta tb) ρ false := fun Q hq => h _ (h2 _ hq)
theorem sos_range (p q d : Int) : sos p q d = -1 ∨ sos p q d = 0 ∨ sos p q d = 1 := by
  have sg3 : ∀ x, sgi x = -1 ∨ sgi x = 0 ∨ sgi x = 1 := fun x => by unfold sgi; split; exact .inr (.inr rfl); split; exact .inl rfl; exact .inr (.inl rfl)
  have b3 : (if 0 < d then sgi q else 0) = -1 ∨ (if 0 < d then sgi q else 0) = 0 ∨ (if 0 < d then sgi q else 0) = 1 := by split; exact sg3 q; exact .inr (.inl rfl)
  have a3 := sg3 p
  unfold sos
  generalize (if 0 < d then sgi q else 0) = b at b3 ⊢
  generalize sgi p = a at a3 ⊢
  split
  · exact a3
  · split
    · exact b3
    · split
      · exact a3
      · exact b3
theorem ev_gtI {ρ : DSt} {a b : TED} {i j : Int} (ha : Ev a ρ (.int i)) (hb : Ev b ρ (.int j)) (h : ¬ j < i) : EvT (dTest (dOp dGt a b)) ρ false :=
  evt_test (ev_op (z := .bool false) ha hb fun k hk => by show k (.bool (decide (j < i))); rw [decide_eq_false h]; exact hk)
theorem ev_ltI {ρ : DSt} {a b : TED} {i j : Int} (ha : Ev a ρ (.int i)) (hb : Ev b ρ (.int j)) (h : ¬ i < j) : EvT (dTest (dOp dLt a b)) ρ false :=
  evt_test (ev_op (z := .bool false) ha hb fun k hk => by show k (.bool (decide (i < j))); rw [decide_eq_false h]; exact hk)
/-- the checks of a turn -/
def checks (W : WD) : TSD := (sSeq (sIf (dTest (dOp dNe (dCall p_plus W (dCons (dVar 9) (dCons (dCall p_plus W (dCons (dVar 10) (dCons (dVar 11) (dNil)))) (dNil)))) (dCall p_plus W (dCons (dCall p_plus W (dCons (dVar 11) (dCons (dVar 9) (dNil)))) (dCons (dVar 10) (dNil)))))) (sRet (dC (.bool false))) (sNext)) (sSeq (sIf (dTest (dOp dNe (dCall p_times W (dCons (dVar 9) (dCons (dCall p_plus W (dCons (dVar 10) (dCons (dVar 11) (dNil)))) (dNil)))) (dCall p_plus W (dCons (dCall p_times W (dCons (dVar 11) (dCons (dVar 9) (dNil)))) (dCons (dCall p_times W (dCons (dVar 10) (dCons (dVar 9) (dNil)))) (dNil)))))) (sRet (dC (.bool false))) (sNext)) (sSeq (sIf (dOr (dTest (dOp dNe (dCall p_plus W (dCons (dCall p_minus W (dCons (dVar 9) (dCons (dVar 10) (dNil)))) (dCons (dVar 10) (dNil)))) (dVar 9))) (dTest (dOp dNe (dCall p_minus W (dCons (dVar 9) (dCons (dVar 10) (dNil)))) (dCall p_opposite W (dCons (dCall p_minus W (dCons (dVar 10) (dCons (dVar 9) (dNil)))) (dNil)))))) (sRet (dC (.bool false))) (sNext)) (sSeq (sIf (dAnd (dTest (dOp dNe (dCall p_sign W (dCons (dVar 10) (dNil))) (dC (.int 0)))) (dTest (dOp dNe (dCall p_times W (dCons (dCall p_over W (dCons (dVar 9) (dCons (dVar 10) (dNil)))) (dCons (dVar 10) (dNil)))) (dVar 9)))) (sRet (dC (.bool false))) (sNext)) (sSeq (sIf (dTest (dOp dNe (dCall p_compare W (dCons (dVar 9) (dCons (dVar 10) (dNil)))) (dCall p_sign W (dCons (dCall p_minus W (dCons (dVar 9) (dCons (dVar 10) (dNil)))) (dNil))))) (sRet (dC (.bool false))) (sNext)) (sSeq (sIf (dTest (dOp dNe (dCall p_compare W (dCons (dCall p_plus W (dCons (dVar 9) (dCons (dVar 11) (dNil)))) (dCons (dCall p_plus W (dCons (dVar 10) (dCons (dVar 11) (dNil)))) (dNil)))) (dCall p_compare W (dCons (dVar 9) (dCons (dVar 10) (dNil)))))) (sRet (dC (.bool false))) (sNext)) (sSeq (sIf (dTest (dOp dNe (dOp dMul (dCall p_sign W (dCons (dVar 11) (dNil))) (dCall p_compare W (dCons (dVar 9) (dCons (dVar 10) (dNil))))) (dCall p_compare W (dCons (dCall p_times W (dCons (dVar 9) (dCons (dVar 11) (dNil)))) (dCons (dCall p_times W (dCons (dVar 10) (dCons (dVar 11) (dNil)))) (dNil)))))) (sRet (dC (.bool false))) (sNext)) (sSeq (sSet 12 (dCall p_number W (dCons (dCall p_floor W (dCons (dVar 9) (dNil))) (dCons (dC (.int 0)) (dCons (dC (.int 0)) (dCons (dC (.int 1)) (dNil))))))) (sSeq (sIf (dOr (dTest (dOp dGt (dCall p_compare W (dCons (dVar 12) (dCons (dVar 9) (dNil)))) (dC (.int 0)))) (dTest (dOp dLt (dCall p_compare W (dCons (dCall p_plus W (dCons (dVar 12) (dCons (dTup (dCons (dC (.int 1)) (dCons (dC (.int 0)) (dCons (dC (.int 0)) (dCons (dC (.int 1)) (dNil)))))) (dNil)))) (dCons (dVar 9) (dNil)))) (dC (.int 1))))) (sRet (dC (.bool false))) (sNext)) (sSeq (sSet 13 (dOp dSub (withLent 1 (dCallL p__law_upto W 1 (dCons (dC (.int 1000)) (dNil)))) (dC (.int 500)))) (sSeq (sIf (dTest (dOp dNe (dCall p_floor W (dCons (dCall p_plus W (dCons (dVar 9) (dCons (dCall p_number W (dCons (dVar 13) (dCons (dC (.int 0)) (dCons (dC (.int 0)) (dCons (dC (.int 1)) (dNil)))))) (dNil)))) (dNil))) (dOp dAdd (dCall p_floor W (dCons (dVar 9) (dNil))) (dVar 13)))) (sRet (dC (.bool false))) (sNext)) (sSeq (sSet 14 (dCall p_number W (dCons (dC (.int 0)) (dCons (dC (.int 1)) (dCons (dVar 3) (dCons (dC (.int 1)) (dNil))))))) (sIf (dOr (dTest (dOp dNe (dCall p_times W (dCons (dVar 14) (dCons (dVar 14) (dNil)))) (dCall p_number W (dCons (dVar 3) (dCons (dC (.int 0)) (dCons (dC (.int 0)) (dCons (dC (.int 1)) (dNil)))))))) (dTest (dOp dNe (dCall p_sign W (dCons (dVar 14) (dNil))) (dC (.int 1))))) (sRet (dC (.bool false))) (sNext))))))))))))))
theorem checks_ok (W : WD) (D : DEnds) {z f r : Int} (hz : Rt z f r) {sc : SD} {s : Spl} {m : Nat} (hs : Sok m s) (hm : m < 900) (t2 t4 i5 i6 i7 i8 d9 e9 f9 : SD) {x1 x2 x3 : Nu} {p1 q1 s1 p2 q2 s2 p3 q3 s3 : Int}
    (f1 : Fv r 60 x1 p1 q1 s1) (f2 : Fv r 60 x2 p2 q2 s2) (f3 : Fv r 60 x3 p3 q3 s3) (h1 : 0 < s1) (h2 : 0 < s2) (h3 : 0 < s3)
    (k : ∀ (s' : Spl) (j1 j2 j3 : SD), Sok (m + 1) s' → D.nx [sc, .own false s'.L, t2, iv z, t4, i5, i6, i7, i8, .val x1.D, .val x2.D, .val x3.D, j1, j2, j3]) :
    checks W D [sc, .own false s.L, t2, iv z, t4, i5, i6, i7, i8, .val x1.D, .val x2.D, .val x3.D, d9, e9, f9] := by
  have hd := hz.d
  have hd0 := hd.1
  have s12 := Int.mul_pos h1 h2
  have s13 := Int.mul_pos h1 h3
  have s23 := Int.mul_pos h2 h3
  have s33 := Int.mul_pos h3 h3
  unfold checks
  generalize hρ : [sc, .own false s.L, t2, iv z, t4, i5, i6, i7, i8, .val x1.D, .val x2.D, .val x3.D, d9, e9, f9] = ρ
  have e1 : Ex (dVar 9) ρ r 60 p1 q1 s1 := ⟨x1, f1, ev_var 9 (by rw [← hρ]; rfl)⟩
  have e2 : Ex (dVar 10) ρ r 60 p2 q2 s2 := ⟨x2, f2, ev_var 10 (by rw [← hρ]; rfl)⟩
  have e3 : Ex (dVar 11) ρ r 60 p3 q3 s3 := ⟨x3, f3, ev_var 11 (by rw [← hρ]; rfl)⟩
  refine s_chk (ex_ne (ex_plus e1 (ex_plus e2 e3 hd) hd) (ex_plus (ex_plus e3 e1 hd) e2 hd) (by grind) (by grind)) ?_
  refine s_chk (ex_ne (ex_times e1 (ex_plus e2 e3 hd) hd) (ex_plus (ex_times e3 e1 hd) (ex_times e2 e1 hd) hd) (by grind) (by grind)) ?_
  refine s_chk (evt_or0 (ex_ne (ex_plus (ex_minus e1 e2 hd) e2 hd) e1 (by grind) (by grind)) (ex_ne (ex_minus e1 e2 hd) (ex_opp (ex_minus e2 e1 hd)) (by grind) (by grind))) ?_
  refine s_chk (evt_and0 (ev_neI' (ex_sign e2 hd h2) ev_c) fun h => ?_) ?_
  · have nz : p2 ≠ 0 ∨ q2 ≠ 0 := by
      rcases Classical.em (p2 = 0) with c | c
      · rcases Classical.em (q2 = 0) with c' | c'
        · subst c c'
          rw [sos_00] at h
          simp at h
        · exact .inr c'
      · exact .inl c
    exact ex_ne (ex_times (ex_over e1 e2 hd nz) e2 hd) e1 (by grind) (by grind)
  refine s_chk (ev_neI (ex_compare e1 e2 hd h1 h2) (ex_sign (ex_minus e1 e2 hd) hd s12) (by congr 1 <;> grind)) ?_
  refine s_chk (ev_neI (ex_compare (ex_plus e1 e3 hd) (ex_plus e2 e3 hd) hd s13 s23) (ex_compare e1 e2 hd h1 h2) ?_) ?_
  · rw [← sos_scale (k := s3 * s3) (p := p1 * s2 - p2 * s1) hd0 s33 hd.2.2]
    congr 1 <;> grind
  refine s_chk (ev_neI (i := sos p3 q3 r * sos (p1 * s2 - p2 * s1) (q1 * s2 - q2 * s1) r) (ev_op (ex_sign e3 hd h3) (ex_compare e1 e2 hd h1 h2) fun k hk => ⟨?_, hk⟩) (ex_compare (ex_times e1 e3 hd) (ex_times e2 e3 hd) hd s13 s23) ?_) ?_
  · have a1 := sos_range p3 q3 r
    have a2 := sos_range (p1 * s2 - p2 * s1) (q1 * s2 - q2 * s1) r
    refine small_mul ?_ ?_ <;> omega
  · rw [sos_mul hd0 hd.2.2, ← sos_scale hd0 h3 hd.2.2]
    congr 1 <;> grind
  -- the floor
  obtain ⟨l1, l10, la, lb, lc, ld, le⟩ := f1.kk
  obtain ⟨fl, hfl⟩ := fl_ex (x := x1) (by rw [le]; split <;> omega)
  have hx1 : Ev (dVar 9) ρ x1.D := ev_var 9 (by rw [← hρ]; rfl)
  obtain ⟨xl, fxl, exl⟩ := ex_whole (W := W) (n := 66) r (ex_floor (W := W) f1 hd hx1 hfl) (fl_bd f1 hd hfl) (by omega)
  refine s_set exl ?_
  have hρ2 : ρ.set 12 (.val xl.D) = [sc, .own false s.L, t2, iv z, t4, i5, i6, i7, i8, .val x1.D, .val x2.D, .val x3.D, .val xl.D, e9, f9] := by rw [← hρ]; rfl
  rw [hρ2]
  clear e1 e2 e3 exl hρ2 hx1 hρ
  generalize hρ : [sc, .own false s.L, t2, iv z, t4, i5, i6, i7, i8, .val x1.D, .val x2.D, .val x3.D, .val xl.D, e9, f9] = ρ
  have e1 : Ex (dVar 9) ρ r 60 x1.p x1.q x1.s := ⟨x1, f1.self, ev_var 9 (by rw [← hρ]; rfl)⟩
  have el : Ex (dVar 12) ρ r 66 fl 0 1 := ⟨xl, fxl, ev_var 12 (by rw [← hρ]; rfl)⟩
  have eone : Ex (dTup (dCons (dC (.int 1)) (dCons (dC (.int 0)) (dCons (dC (.int 0)) (dCons (dC (.int 1)) (dNil)))))) ρ r 60 1 0 1 := by
    have e : (⟨1, 0, 0, 1⟩ : Nu) = low 1 0 r 1 := by rw [low_one (by decide) (by decide)]; rfl
    refine ⟨⟨1, 0, 0, 1⟩, ⟨e, by decide, ?_⟩, ev_tup (eva_cons ev_c (eva_cons ev_c (eva_cons ev_c (eva_cons ev_c eva_nil)))) (by decide)⟩
    have o : Bd 60 1 := (show Bd 1 1 by unfold Bd; decide).mono (by omega)
    exact ⟨o, bd0 _, bd0 _, o⟩
  obtain ⟨c1, c2⟩ := fl_sos f1 hd hfl
  refine s_chk (evt_or0 (ev_gtI (ex_compare el e1 hd (by decide) ld) ev_c ?_) (ev_ltI (ex_compare (ex_plus el eone hd) e1 hd (by decide) ld) ev_c ?_)) ?_
  · have : sos (fl * x1.s - x1.p * 1) (0 * x1.s - x1.q * 1) r = sos (fl * x1.s - x1.p) (0 - x1.q) r := by congr 1 <;> grind
    rw [this]; omega
  · have : sos ((fl * 1 + 1 * 1) * x1.s - x1.p * (1 * 1)) ((0 * 1 + 0 * 1) * x1.s - x1.q * (1 * 1)) r = sos ((fl + 1) * x1.s - x1.p) (0 - x1.q) r := by congr 1 <;> grind
    rw [this, c2]; decide
  -- a whole number more
  refine dr_upto (b := 1000) (by rw [← hρ]; rfl) ev_c hs (by omega) (by decide) ((show Bd 10 1000 by unfold Bd; decide).mono (by omega)) fun v s' v0 v1 hs' => ?_
  simp only [vw, dC, dSub, frz]
  have hρ2 : (ρ.set 1 (.own false s'.L)).set 13 (iv (v - 500)) = [sc, .own false s'.L, t2, iv z, t4, i5, i6, i7, i8, .val x1.D, .val x2.D, .val x3.D, .val xl.D, iv (v - 500), f9] := by rw [← hρ]; rfl
  rw [hρ2]
  clear e1 el eone hρ2 hρ
  generalize hρ : [sc, .own false s'.L, t2, iv z, t4, i5, i6, i7, i8, .val x1.D, .val x2.D, .val x3.D, .val xl.D, iv (v - 500), f9] = ρ
  have hx1 : Ev (dVar 9) ρ x1.D := ev_var 9 (by rw [← hρ]; rfl)
  have hv : Ev (dVar 13) ρ (.int (v - 500)) := ev_var 13 (by rw [← hρ]; rfl)
  have e1 : Ex (dVar 9) ρ r 60 x1.p x1.q x1.s := ⟨x1, f1.self, hx1⟩
  obtain ⟨xm, fxm, exm⟩ := ex_plus (W := W) e1 (ex_whole (W := W) (n := 10) r hv (show Bd 10 (v - 500) by unfold Bd; omega) (by omega)) hd
  have hxm : Fl xm (fl + (v - 500)) := by
    have := fl_shift f1 (v - 500) hfl
    rw [fxm.e]
    have a1 : x1.p * 1 + (v - 500) * x1.s = x1.p + (v - 500) * x1.s := by grind
    have a2 : x1.q * 1 + 0 * x1.s = x1.q := by grind
    rw [a1, a2, Int.mul_one]
    exact this
  refine s_chk (ev_neI (ex_floor fxm hd exm hxm) (ev_op (ex_floor f1 hd hx1 hfl) hv fun k hk => hk) rfl) ?_
  -- the root
  have hz3 : Ev (dVar 3) ρ (.int z) := ev_var 3 (by rw [← hρ]; rfl)
  have b1 : Bd 3000 1 := (show Bd 1 1 by unfold Bd; decide).mono (by omega)
  have f0 := hz.f0
  have f3' := hz.f3
  have er : Ev (dCall p_number W (dCons (dC (.int 0)) (dCons (dC (.int 1)) (dCons (dVar 3) (dCons (dC (.int 1)) (dNil)))))) ρ (low 0 (1 * f) r 1).D := ev_call (eva_cons ev_c (eva_cons ev_c (eva_cons hz3 (eva_cons ev_c eva_nil)))) (pr_number hz (by decide) b1 b1)
  refine s_set er ?_
  have hρ2 : ρ.set 14 (.val (low 0 (1 * f) r 1).D) = [sc, .own false s'.L, t2, iv z, t4, i5, i6, i7, i8, .val x1.D, .val x2.D, .val x3.D, .val xl.D, iv (v - 500), .val (low 0 (1 * f) r 1).D] := by rw [← hρ]; rfl
  rw [hρ2]
  clear e1 exm hx1 hv hz3 er hρ2 hρ
  generalize hρ : [sc, .own false s'.L, t2, iv z, t4, i5, i6, i7, i8, .val x1.D, .val x2.D, .val x3.D, .val xl.D, iv (v - 500), .val (low 0 (1 * f) r 1).D] = ρ
  have fr : Fv r 60 (low 0 (1 * f) r 1) 0 (1 * f) 1 := ⟨rfl, by decide, low_bd (by decide) (bd0 _) ((show Bd 2 (1 * f) by unfold Bd; omega).mono (by omega)) (bdd hd (by omega)) ((show Bd 1 1 by unfold Bd; decide).mono (by omega))⟩
  have e14 : Ex (dVar 14) ρ r 60 0 (1 * f) 1 := ⟨_, fr, ev_var 14 (by rw [← hρ]; rfl)⟩
  have hz3 : Ev (dVar 3) ρ (.int z) := ev_var 3 (by rw [← hρ]; rfl)
  have hzz := hz.z
  refine s_if (u := false) (evt_or0 (ex_ne (ex_times e14 e14 hd) (ex_whole (n := 10) r hz3 (show Bd 10 z by unfold Bd; omega) (by omega)) ?_ ?_) (ev_neI (ex_sign e14 hd (by decide)) ev_c ?_)) ?_
  · have := hz.e
    grind
  · grind
  · have hN : 0 * 0 - 1 * f * (1 * f) * r < 0 := by
      have := Int.mul_pos (Int.mul_pos f0 f0) hd0
      have e : 0 * 0 - 1 * f * (1 * f) * r = -(f * f * r) := by grind
      omega
    rw [sos_N hd0 hN, sgi_pos (by omega)]
  · rw [if_neg Bool.false_ne_true, ← hρ]
    exact k _ _ _ _ hs'
theorem pure_law (α : List SD) (QD : Ret → List SD → Prop) (ED : Exd → List SD → Prop) (W : WD) (hW : W = fun e ρ => outK α ρ fun α' => ED e α') (h : p_law α QD ED) : r_law W (DEnd α QD) (startD n_law.length α) := by
  obtain ⟨ns, hl, rfl, hq⟩ := h
  show sSeq (sOwn 1 (withLentN 0 (nCallL p__law_spool_of W 0 dNil))) (sSeq (sFor (range1D (dCons (dC (.int 8)) (dNil))) (gName' 2) (sSeq (sSet 3 (withLent 1 (dCallL p__law_choice W 1 (dCons (dNew (nLst (dCons (dC (.int 2)) (dCons (dC (.int 3)) (dCons (dC (.int 5)) (dCons (dC (.int 6)) (dCons (dC (.int 12)) (dCons (dC (.int 45)) (dNil))))))))) (dNil))))) (sSeq (sOwn 4 (nLst (dNil))) (sSeq (sFor (range1D (dCons (dC (.int 3)) (dNil))) (gName' 5) (drawOne W)) (sSeq (sAsg (dVar 4) (gLst' (lenIs 3 (gCons' (gName' 9) (gCons' (gName' 10) (gCons' (gName' 11) (gNil'))))))) (checks W)))))) (sRet (dC (.bool true))))
    (DEnd [.res true (scriptR ns)] QD) (.res true (scriptR ns) :: .no :: [.no, .no, .no, .no, .no, .no, .no, .no, .no, .no, .no, .no, .no])
  refine s_spool hl fun s hs => ?_
  refine ⟨by decide, by decide, ?_⟩
  refine forD_inv (fun k ρ => ∃ (s : Spl) (m : Nat) (a2 a3 a4 a5 a6 a7 a8 a9 b0 b1 b2 b3 b4 : SD), ρ = [.res true (scriptR ns), .own false s.L, a2, a3, a4, a5, a6, a7, a8, a9, b0, b1, b2, b3, b4] ∧ Sok m s ∧ m + 20 * k ≤ 200) _ _
    ⟨s, 0, .no, .no, .no, .no, .no, .no, .no, .no, .no, .no, .no, .no, .no, rfl, hs, by decide⟩ ?_ ?_
  · rintro j x _ N hx hN ⟨s, m, a2, a3, a4, a5, a6, a7, a8, a9, b0, b1, b2, b3, b4, rfl, hs, hm⟩
    refine dr_choice (xs := [.int 2, .int 3, .int 5, .int 6, .int 12, .int 45]) rfl (ev_new (eva_cons ev_c (eva_cons ev_c (eva_cons ev_c (eva_cons ev_c (eva_cons ev_c (eva_cons ev_c eva_nil)))))) (by decide)) hs (by omega) (by simp) (by decide) fun y s1 hy hs1 => ?_
    obtain ⟨z, rfl, hz⟩ : ∃ z : Int, y = .int z ∧ (z = 2 ∨ z = 3 ∨ z = 5 ∨ z = 6 ∨ z = 12 ∨ z = 45) := by
      simp only [List.mem_cons, List.not_mem_nil, or_false] at hy
      rcases hy with rfl | rfl | rfl | rfl | rfl | rfl
      · exact ⟨_, rfl, .inl rfl⟩
      · exact ⟨_, rfl, .inr (.inl rfl)⟩
      · exact ⟨_, rfl, .inr (.inr (.inl rfl))⟩
      · exact ⟨_, rfl, .inr (.inr (.inr (.inl rfl)))⟩
      · exact ⟨_, rfl, .inr (.inr (.inr (.inr (.inl rfl))))⟩
      · exact ⟨_, rfl, .inr (.inr (.inr (.inr (.inr rfl))))⟩
    obtain ⟨f, r, hd, r2, f0, f3, e, u⟩ := tab6 hz
    have rt : Rt z f r := ⟨hd, r2, f0, f3, e, u⟩
    refine ⟨Nat.zero_le _, by show 4 < _; simp, ?_⟩
    refine ⟨by decide, by decide, ?_⟩
    refine forD_inv (fun k ρ => ∃ (s : Spl) (m' : Nat) (ds : List PyData) (i5 i6 i7 i8 : SD), ρ = [.res true (scriptR ns), .own false s.L, .val x, iv z, .own false ds, i5, i6, i7, i8, a9, b0, b1, b2, b3, b4] ∧ Sok m' s ∧ m' + 4 * k ≤ m + 1 + 12 ∧ ds.length + k = 3 ∧ ∀ y ∈ ds, Good r y) _ _
      ⟨s1, m + 1, [], a5, a6, a7, a8, rfl, hs1, by simp, by simp, fun y h => nomatch h⟩ ?_ ?_
    · rintro j' x' _ N' _ hN' ⟨s, m', ds, i5, i6, i7, i8, rfl, hs, hm', hlen, hg⟩
      refine drawOne_ok W _ rt hs (by omega) _ _ _ _ _ _ _ _ _ _ _ ds (by omega) fun s' y j6 j7 j8 hs' hy => hN' _ ⟨s', m' + 4, ds ++ [y], _, j6, j7, j8, rfl, hs', by omega, by simp; omega, fun w hw => ?_⟩
      rcases List.mem_append.mp hw with h | h
      · exact hg w h
      · rw [List.mem_singleton.mp h]; exact hy
    · rintro _ ⟨s, m', ds, i5, i6, i7, i8, rfl, hs, hm', hlen, hg⟩
      obtain ⟨y1, y2, y3, rfl⟩ : ∃ y1 y2 y3, ds = [y1, y2, y3] := by
        match ds, hlen with
        | [y1, y2, y3], _ => exact ⟨y1, y2, y3, rfl⟩
      obtain ⟨x1, p1, q1, s1', rfl, f1, h1⟩ := hg y1 (by simp)
      obtain ⟨x2, p2, q2, s2', rfl, f2, h2⟩ := hg y2 (by simp)
      obtain ⟨x3, p3, q3, s3', rfl, f3', h3⟩ := hg y3 (by simp)
      refine ⟨trivial, rfl, ?_⟩
      exact checks_ok W _ rt hs (by omega) _ _ _ _ _ _ _ _ _ f1 f2 f3' h1 h2 h3 fun s' j1 j2 j3 hs' => hN _ ⟨s', m' + 1, _, _, _, _, _, _, _, _, _, _, _, _, _, rfl, hs', by omega⟩
  · rintro _ ⟨s, m, a2, a3, a4, a5, a6, a7, a8, a9, b0, b1, b2, b3, b4, rfl, hs, hm⟩
    exact hq
end KK

namespace KK
open PySem PySem.Spec L2 DL
theorem len_common_divisor : ∀ α QD ED, p_common_divisor α QD ED → α.length = [("first" : Str), "second"].length := by rintro α QD ED ⟨a, b, rfl, _⟩; rfl
theorem len_root_floor : ∀ α QD ED, p_root_floor α QD ED → α.length = [("number" : Str)].length := by rintro α QD ED ⟨a, rfl, _⟩; rfl
theorem len_without_squares : ∀ α QD ED, p_without_squares α QD ED → α.length = [("number" : Str)].length := by rintro α QD ED ⟨a, rfl, _⟩; rfl
theorem len_lowest : ∀ α QD ED, p_lowest α QD ED → α.length = [("p" : Str), "q", "d", "s"].length := by rintro α QD ED ⟨a, b, c, d, rfl, _⟩; rfl
theorem len_number : ∀ α QD ED, p_number α QD ED → α.length = [("p" : Str), "q", "d", "s"].length := by rintro α QD ED ⟨a, b, c, d, rfl, _⟩; rfl
theorem len_sign_of_sum : ∀ α QD ED, p_sign_of_sum α QD ED → α.length = [("p" : Str), "q", "d"].length := by rintro α QD ED ⟨a, b, c, rfl, _⟩; rfl
theorem len_sign : ∀ α QD ED, p_sign α QD ED → α.length = [("one" : Str)].length := by rintro α QD ED ⟨a, rfl, _⟩; rfl
theorem len_root_of : ∀ α QD ED, p_root_of α QD ED → α.length = [("first" : Str), "second"].length := by rintro α QD ED ⟨a, b, rfl, _⟩; rfl
theorem len_plus : ∀ α QD ED, p_plus α QD ED → α.length = [("first" : Str), "second"].length := by rintro α QD ED ⟨a, b, rfl, _⟩; rfl
theorem len_opposite : ∀ α QD ED, p_opposite α QD ED → α.length = [("one" : Str)].length := by rintro α QD ED ⟨a, rfl, _⟩; rfl
theorem len_minus : ∀ α QD ED, p_minus α QD ED → α.length = [("first" : Str), "second"].length := by rintro α QD ED ⟨a, b, rfl, _⟩; rfl
theorem len_times : ∀ α QD ED, p_times α QD ED → α.length = [("first" : Str), "second"].length := by rintro α QD ED ⟨a, b, rfl, _⟩; rfl
theorem len_over : ∀ α QD ED, p_over α QD ED → α.length = [("first" : Str), "second"].length := by rintro α QD ED ⟨a, b, rfl, _⟩; rfl
theorem len_compare : ∀ α QD ED, p_compare α QD ED → α.length = [("first" : Str), "second"].length := by rintro α QD ED ⟨a, b, rfl, _⟩; rfl
theorem len_floor : ∀ α QD ED, p_floor α QD ED → α.length = [("one" : Str)].length := by rintro α QD ED ⟨a, rfl, _⟩; rfl
theorem len__law_stirred : ∀ α QD ED, p__law_stirred α QD ED → α.length = [("cell" : Str), "place"].length := by rintro α QD ED ⟨a, b, rfl, _⟩; rfl
theorem len__law_spool_of : ∀ α QD ED, p__law_spool_of α QD ED → α.length = [("script" : Str)].length := by rintro α QD ED ⟨a, rfl, _⟩; rfl
theorem len__law_upto : ∀ α QD ED, p__law_upto α QD ED → α.length = [("spool" : Str), "bound"].length := by rintro α QD ED ⟨a, m, b, rfl, _⟩; rfl
theorem len__law_choice : ∀ α QD ED, p__law_choice α QD ED → α.length = [("spool" : Str), "items"].length := by rintro α QD ED ⟨a, m, b, rfl, _⟩; rfl
theorem len_law : ∀ α QD ED, p_law α QD ED → α.length = [("script" : Str)].length := by rintro α QD ED ⟨ns, _, rfl, _⟩; rfl
end KK

set_option maxHeartbeats 0
namespace KK
open PySem PySem.Spec PyProof.Rows L2 DL
def top (i : Nat) : Stmt := PySem.Challenge.pw_twospeeds_k05_whole_field_of_numbers.main.body.getD i (.Pass ⟨0, 0, 0, 0⟩)
abbrev FnP (K : PySem.W.Frag) (x : Str) (st : Stmt) (f : Addr) (fd : FuncData) : Prop := L2.FunD K x x (defArgs st) (defBody st) (defScope st) [] [] f fd
section
variable {P : Program} {w : World} {K : PySem.W.Frag} {mg : Str → Option Value} {base : Heap} {f : Addr} {fd : FuncData}
theorem sc_common_divisor : FnScope n_common_divisor ["first", "second"] (defScope (top 7)) := ⟨rfl, rfl, rfl, by decide +kernel, rfl, by decide +kernel, by decide +kernel⟩
theorem ok_common_divisor (F : FnP K "common_divisor" (top 7) f fd) (z_abs : mg "abs" = none) : FnD P w K mg base 1 f fd ["first", "second"] p_common_divisor := by
  refine FunD.okD F sc_common_divisor len_common_divisor fun cdv A outer s H E C α QD ED hr hW hp => ?_
  exact body_of (dss_cons (ds_while (passes_of rfl) (dt_cmp od_ne (de_var 1) (de_int) rfl) (dss_one (ds_par (i := 0) (j := 1) (da_cons (de_var 1) (da_cons (de_op od_mod (de_var 0) (de_var 1)) (da_nil)))))) (dss_one (ds_ret (de_B1 cd_abs z_abs (de_var 0))))) (pure_common_divisor α QD ED C.W hW hp)
theorem sc_root_floor : FnScope n_root_floor ["number"] (defScope (top 8)) := ⟨rfl, rfl, rfl, by decide +kernel, rfl, by decide +kernel, by decide +kernel⟩
theorem ok_root_floor (F : FnP K "root_floor" (top 8) f fd) : FnD P w K mg base 1 f fd ["number"] p_root_floor := by
  refine FunD.okD F sc_root_floor len_root_floor fun cdv A outer s H E C α QD ED hr hW hp => ?_
  exact body_of (dss_cons (ds_if (dt_cmp od_lt (de_var 0) (de_int) rfl) (dss_one (ds_ret (de_var 0))) (dss_nil)) (dss_cons (ds_set 1 (de_int)) (dss_cons (ds_while (passes_of rfl) (dt_cmp od_le (de_op od_mul (de_var 1) (de_var 1)) (de_var 0) rfl) (dss_one (ds_aug 1 od_imul (de_int)))) (dss_cons (ds_set 2 (de_op od_fdiv (de_op od_addU (de_var 1) (de_op od_fdiv (de_var 0) (de_var 1))) (de_int))) (dss_cons (ds_while (passes_of rfl) (dt_cmp od_lt (de_var 2) (de_var 1) rfl) (dss_cons (ds_set 1 (de_var 2)) (dss_one (ds_set 2 (de_op od_fdiv (de_op od_addU (de_var 1) (de_op od_fdiv (de_var 0) (de_var 1))) (de_int)))))) (dss_one (ds_ret (de_var 1)))))))) (pure_root_floor α QD ED C.W hW hp)
theorem sc_without_squares : FnScope n_without_squares ["number"] (defScope (top 9)) := ⟨rfl, rfl, rfl, by decide +kernel, rfl, by decide +kernel, by decide +kernel⟩
theorem ok_without_squares (F : FnP K "without_squares" (top 9) f fd) : FnD P w K mg base 1 f fd ["number"] p_without_squares := by
  refine FunD.okD F sc_without_squares len_without_squares fun cdv A outer s H E C α QD ED hr hW hp => ?_
  exact body_of (dss_cons (ds_par3 (i := 1) (j := 2) (l := 3) (da_cons (de_int) (da_cons (de_var 0) (da_cons (de_int) (da_nil))))) (dss_cons (ds_while (passes_of rfl) (dt_cmp od_le (de_op od_mul (de_var 3) (de_var 3)) (de_var 2) rfl) (dss_cons (ds_while (passes_of rfl) (dt_cmp od_eq (de_op od_mod (de_var 2) (de_op od_mul (de_var 3) (de_var 3))) (de_int) rfl) (dss_cons (ds_aug 2 od_ifdiv (de_op od_mul (de_var 3) (de_var 3))) (dss_one (ds_aug 1 od_imul (de_var 3))))) (dss_one (ds_aug 3 od_iaddU (de_int))))) (dss_one (ds_ret (de_tup (da_cons (de_var 1) (da_cons (de_var 2) (da_nil)))))))) (pure_without_squares α QD ED C.W hW hp)
theorem sc_lowest : FnScope n_lowest ["p", "q", "d", "s"] (defScope (top 10)) := ⟨rfl, rfl, rfl, by decide +kernel, rfl, by decide +kernel, by decide +kernel⟩
theorem ok_lowest (F : FnP K "lowest" (top 10) f fd) (c_common_divisor : CalD P w K mg base 1 "common_divisor" ["first", "second"] p_common_divisor) : FnD P w K mg base 2 f fd ["p", "q", "d", "s"] p_lowest := by
  refine FunD.okD F sc_lowest len_lowest fun cdv A outer s H E C α QD ED hr hW hp => ?_
  exact body_of (dss_cons (ds_if (dt_cmp od_lt (de_var 3) (de_int) rfl) (dss_one (ds_par3 (i := 0) (j := 1) (l := 3) (da_cons (de_neg (de_var 0)) (da_cons (de_neg (de_var 1)) (da_cons (de_neg (de_var 3)) (da_nil)))))) (dss_nil)) (dss_cons (ds_set 4 (de_callC (c_common_divisor.mono (by decide)) hr (da_cons (de_callC (c_common_divisor.mono (by decide)) hr (da_cons (de_var 0) (da_cons (de_var 1) (da_nil)))) (da_cons (de_var 3) (da_nil))))) (dss_cons (ds_par3 (i := 0) (j := 1) (l := 3) (da_cons (de_op od_fdiv (de_var 0) (de_var 4)) (da_cons (de_op od_fdiv (de_var 1) (de_var 4)) (da_cons (de_op od_fdiv (de_var 3) (de_var 4)) (da_nil))))) (dss_one (ds_ret (de_tup (da_cons (de_var 0) (da_cons (de_var 1) (da_cons (de_if (dt_cmp od_ne (de_var 1) (de_int) rfl) (de_var 2) (de_int)) (da_cons (de_var 3) (da_nil))))))))))) (pure_lowest α QD ED C.W hW hp)
theorem sc_number : FnScope n_number ["p", "q", "d", "s"] (defScope (top 11)) := ⟨rfl, rfl, rfl, by decide +kernel, rfl, by decide +kernel, by decide +kernel⟩
theorem ok_number (F : FnP K "number" (top 11) f fd) {k_InvalidNumber : Addr} (x_InvalidNumber : ExcD K mg "InvalidNumber" k_InvalidNumber) (c_lowest : CalD P w K mg base 2 "lowest" ["p", "q", "d", "s"] p_lowest) (c_without_squares : CalD P w K mg base 1 "without_squares" ["number"] p_without_squares) : FnD P w K mg base 3 f fd ["p", "q", "d", "s"] p_number := by
  refine FunD.okD F sc_number len_number fun cdv A outer s H E C α QD ED hr hW hp => ?_
  exact body_of (dss_cons (ds_if ((dw_or (dt_cmp od_eq (de_var 3) (de_int) rfl) (dw_or1 (dt_cmp od_lt (de_var 2) (de_int) rfl))).dt) (dss_one (ds_raiseC x_InvalidNumber)) (dss_nil)) (dss_cons (ds_asg (de_if (dt_cmp od_gt (de_var 2) (de_int) rfl) (de_callC (c_without_squares.mono (by decide)) hr (da_cons (de_var 2) (da_nil))) (de_tup (da_cons (de_int) (da_cons (de_int) (da_nil))))) (dg_tup (dgs_cons (dg_name 4) (dgs_cons (dg_name 5) (dgs_nil))))) (dss_cons (ds_if (dt_cmp od_lt (de_var 5) (de_int) rfl) (dss_one (ds_ret (de_callC (c_lowest.mono (by decide)) hr (da_cons (de_op od_addU (de_var 0) (de_op od_mul (de_var 1) (de_var 4))) (da_cons (de_int) (da_cons (de_int) (da_cons (de_var 3) (da_nil)))))))) (dss_nil)) (dss_one (ds_ret (de_callC (c_lowest.mono (by decide)) hr (da_cons (de_var 0) (da_cons (de_op od_mul (de_var 1) (de_var 4)) (da_cons (de_var 5) (da_cons (de_var 3) (da_nil))))))))))) (pure_number α QD ED C.W hW hp)
theorem sc_sign_of_sum : FnScope n_sign_of_sum ["p", "q", "d"] (defScope (top 12)) := ⟨rfl, rfl, rfl, by decide +kernel, rfl, by decide +kernel, by decide +kernel⟩
theorem ok_sign_of_sum (F : FnP K "sign_of_sum" (top 12) f fd) : FnD P w K mg base 1 f fd ["p", "q", "d"] p_sign_of_sum := by
  refine FunD.okD F sc_sign_of_sum len_sign_of_sum fun cdv A outer s H E C α QD ED hr hW hp => ?_
  exact body_of (dss_cons (ds_par (i := 3) (j := 4) (da_cons (de_op od_subU (de_cmp od_gt (de_var 0) (de_int) rfl) (de_cmp od_lt (de_var 0) (de_int) rfl)) (da_cons (de_if (dt_cmp od_gt (de_var 2) (de_int) rfl) (de_op od_subU (de_cmp od_gt (de_var 1) (de_int) rfl) (de_cmp od_lt (de_var 1) (de_int) rfl)) (de_int)) (da_nil)))) (dss_cons (ds_if ((dw_or (dt_cmp od_eq (de_var 3) (de_var 4) rfl) (dw_or1 (dt_cmp od_eq (de_var 4) (de_int) rfl))).dt) (dss_one (ds_ret (de_var 3))) (dss_nil)) (dss_cons (ds_if (dt_cmp od_eq (de_var 3) (de_int) rfl) (dss_one (ds_ret (de_var 4))) (dss_nil)) (dss_cons (ds_set 5 (de_op od_subU (de_op od_mul (de_var 0) (de_var 0)) (de_op od_mul (de_op od_mul (de_var 1) (de_var 1)) (de_var 2)))) (dss_one (ds_ret (de_if (dt_cmp od_gt (de_var 5) (de_int) rfl) (de_var 3) (de_var 4)))))))) (pure_sign_of_sum α QD ED C.W hW hp)
theorem sc_sign : FnScope n_sign ["one"] (defScope (top 13)) := ⟨rfl, rfl, rfl, by decide +kernel, rfl, by decide +kernel, by decide +kernel⟩
theorem ok_sign (F : FnP K "sign" (top 13) f fd) (c_sign_of_sum : CalD P w K mg base 1 "sign_of_sum" ["p", "q", "d"] p_sign_of_sum) : FnD P w K mg base 2 f fd ["one"] p_sign := by
  refine FunD.okD F sc_sign len_sign fun cdv A outer s H E C α QD ED hr hW hp => ?_
  exact body_of (dss_one (ds_ret (de_callC (c_sign_of_sum.mono (by decide)) hr (da_cons (de_ix (de_var 0) (de_int)) (da_cons (de_ix (de_var 0) (de_int)) (da_cons (de_ix (de_var 0) (de_int)) (da_nil))))))) (pure_sign α QD ED C.W hW hp)
theorem sc_root_of : FnScope n_root_of ["first", "second"] (defScope (top 14)) := ⟨rfl, rfl, rfl, by decide +kernel, rfl, by decide +kernel, by decide +kernel⟩
theorem ok_root_of (F : FnP K "root_of" (top 14) f fd) (z_max : mg "max" = none) {k_OtherRoot : Addr} (x_OtherRoot : ExcD K mg "OtherRoot" k_OtherRoot) : FnD P w K mg base 1 f fd ["first", "second"] p_root_of := by
  refine FunD.okD F sc_root_of len_root_of fun cdv A outer s H E C α QD ED hr hW hp => ?_
  exact body_of (dss_cons (ds_if ((dw_and (dt_cmp od_ne (de_ix (de_var 0) (de_int)) (de_int) rfl) (dw_and (dt_cmp od_ne (de_ix (de_var 1) (de_int)) (de_int) rfl) (dw_and1 (dt_cmp od_ne (de_ix (de_var 0) (de_int)) (de_ix (de_var 1) (de_int)) rfl)))).dt) (dss_one (ds_raiseC x_OtherRoot)) (dss_nil)) (dss_one (ds_ret (de_max z_max (de_ix (de_var 0) (de_int)) (de_ix (de_var 1) (de_int)))))) (pure_root_of α QD ED C.W hW hp)
theorem sc_plus : FnScope n_plus ["first", "second"] (defScope (top 15)) := ⟨rfl, rfl, rfl, by decide +kernel, rfl, by decide +kernel, by decide +kernel⟩
theorem ok_plus (F : FnP K "plus" (top 15) f fd) (c_root_of : CalD P w K mg base 1 "root_of" ["first", "second"] p_root_of) (c_lowest : CalD P w K mg base 2 "lowest" ["p", "q", "d", "s"] p_lowest) : FnD P w K mg base 3 f fd ["first", "second"] p_plus := by
  refine FunD.okD F sc_plus len_plus fun cdv A outer s H E C α QD ED hr hW hp => ?_
  exact body_of (dss_cons (ds_set 2 (de_callC (c_root_of.mono (by decide)) hr (da_cons (de_var 0) (da_cons (de_var 1) (da_nil))))) (dss_cons (ds_set 3 (de_op od_addU (de_op od_mul (de_ix (de_var 0) (de_int)) (de_ix (de_var 1) (de_int))) (de_op od_mul (de_ix (de_var 1) (de_int)) (de_ix (de_var 0) (de_int))))) (dss_one (ds_ret (de_callC (c_lowest.mono (by decide)) hr (da_cons (de_var 3) (da_cons (de_op od_addU (de_op od_mul (de_ix (de_var 0) (de_int)) (de_ix (de_var 1) (de_int))) (de_op od_mul (de_ix (de_var 1) (de_int)) (de_ix (de_var 0) (de_int)))) (da_cons (de_var 2) (da_cons (de_op od_mul (de_ix (de_var 0) (de_int)) (de_ix (de_var 1) (de_int))) (da_nil)))))))))) (pure_plus α QD ED C.W hW hp)
theorem sc_opposite : FnScope n_opposite ["one"] (defScope (top 16)) := ⟨rfl, rfl, rfl, by decide +kernel, rfl, by decide +kernel, by decide +kernel⟩
theorem ok_opposite (F : FnP K "opposite" (top 16) f fd) : FnD P w K mg base 1 f fd ["one"] p_opposite := by
  refine FunD.okD F sc_opposite len_opposite fun cdv A outer s H E C α QD ED hr hW hp => ?_
  exact body_of (dss_one (ds_ret (de_tup (da_cons (de_neg (de_ix (de_var 0) (de_int))) (da_cons (de_neg (de_ix (de_var 0) (de_int))) (da_cons (de_ix (de_var 0) (de_int)) (da_cons (de_ix (de_var 0) (de_int)) (da_nil)))))))) (pure_opposite α QD ED C.W hW hp)
theorem sc_minus : FnScope n_minus ["first", "second"] (defScope (top 17)) := ⟨rfl, rfl, rfl, by decide +kernel, rfl, by decide +kernel, by decide +kernel⟩
theorem ok_minus (F : FnP K "minus" (top 17) f fd) (c_plus : CalD P w K mg base 3 "plus" ["first", "second"] p_plus) (c_opposite : CalD P w K mg base 1 "opposite" ["one"] p_opposite) : FnD P w K mg base 4 f fd ["first", "second"] p_minus := by
  refine FunD.okD F sc_minus len_minus fun cdv A outer s H E C α QD ED hr hW hp => ?_
  exact body_of (dss_one (ds_ret (de_callC (c_plus.mono (by decide)) hr (da_cons (de_var 0) (da_cons (de_callC (c_opposite.mono (by decide)) hr (da_cons (de_var 1) (da_nil))) (da_nil)))))) (pure_minus α QD ED C.W hW hp)
theorem sc_times : FnScope n_times ["first", "second"] (defScope (top 18)) := ⟨rfl, rfl, rfl, by decide +kernel, rfl, by decide +kernel, by decide +kernel⟩
theorem ok_times (F : FnP K "times" (top 18) f fd) (c_root_of : CalD P w K mg base 1 "root_of" ["first", "second"] p_root_of) (c_lowest : CalD P w K mg base 2 "lowest" ["p", "q", "d", "s"] p_lowest) : FnD P w K mg base 3 f fd ["first", "second"] p_times := by
  refine FunD.okD F sc_times len_times fun cdv A outer s H E C α QD ED hr hW hp => ?_
  exact body_of (dss_cons (ds_set 2 (de_callC (c_root_of.mono (by decide)) hr (da_cons (de_var 0) (da_cons (de_var 1) (da_nil))))) (dss_cons (ds_set 3 (de_op od_addU (de_op od_mul (de_ix (de_var 0) (de_int)) (de_ix (de_var 1) (de_int))) (de_op od_mul (de_op od_mul (de_ix (de_var 0) (de_int)) (de_ix (de_var 1) (de_int))) (de_var 2)))) (dss_one (ds_ret (de_callC (c_lowest.mono (by decide)) hr (da_cons (de_var 3) (da_cons (de_op od_addU (de_op od_mul (de_ix (de_var 0) (de_int)) (de_ix (de_var 1) (de_int))) (de_op od_mul (de_ix (de_var 0) (de_int)) (de_ix (de_var 1) (de_int)))) (da_cons (de_var 2) (da_cons (de_op od_mul (de_ix (de_var 0) (de_int)) (de_ix (de_var 1) (de_int))) (da_nil)))))))))) (pure_times α QD ED C.W hW hp)
theorem sc_over : FnScope n_over ["first", "second"] (defScope (top 19)) := ⟨rfl, rfl, rfl, by decide +kernel, rfl, by decide +kernel, by decide +kernel⟩
theorem ok_over (F : FnP K "over" (top 19) f fd) {u_ZERO : Addr} (g_ZERO : mg "ZERO" = some (.ref u_ZERO) ∧ (∀ H : Hp, SqT K H u_ZERO v_ZERO) ∧ ∀ G, Reps K G v_ZERO l_ZERO) {k_ZeroDivisor : Addr} (x_ZeroDivisor : ExcD K mg "ZeroDivisor" k_ZeroDivisor) (c_times : CalD P w K mg base 3 "times" ["first", "second"] p_times) (c_lowest : CalD P w K mg base 2 "lowest" ["p", "q", "d", "s"] p_lowest) : FnD P w K mg base 4 f fd ["first", "second"] p_over := by
  refine FunD.okD F sc_over len_over fun cdv A outer s H E C α QD ED hr hW hp => ?_
  exact body_of (dss_cons (ds_if (dt_cmp od_eq (de_var 1) (de_gtup g_ZERO.1 g_ZERO.2.1 g_ZERO.2.2) rfl) (dss_one (ds_raiseC x_ZeroDivisor)) (dss_nil)) (dss_cons (ds_asg (de_var 1) (dg_tup (dgs_cons (dg_name 2) (dgs_cons (dg_name 3) (dgs_cons (dg_name 4) (dgs_cons (dg_name 5) (dgs_nil))))))) (dss_one (ds_ret (de_callC (c_times.mono (by decide)) hr (da_cons (de_var 0) (da_cons (de_callC (c_lowest.mono (by decide)) hr (da_cons (de_op od_mul (de_var 2) (de_var 5)) (da_cons (de_op od_mul (de_neg (de_var 3)) (de_var 5)) (da_cons (de_var 4) (da_cons (de_op od_subU (de_op od_mul (de_var 2) (de_var 2)) (de_op od_mul (de_op od_mul (de_var 3) (de_var 3)) (de_var 4))) (da_nil)))))) (da_nil)))))))) (pure_over α QD ED C.W hW hp)
theorem sc_compare : FnScope n_compare ["first", "second"] (defScope (top 20)) := ⟨rfl, rfl, rfl, by decide +kernel, rfl, by decide +kernel, by decide +kernel⟩
theorem ok_compare (F : FnP K "compare" (top 20) f fd) (c_sign_of_sum : CalD P w K mg base 1 "sign_of_sum" ["p", "q", "d"] p_sign_of_sum) : FnD P w K mg base 2 f fd ["first", "second"] p_compare := by
  refine FunD.okD F sc_compare len_compare fun cdv A outer s H E C α QD ED hr hW hp => ?_
  exact body_of (dss_cons (ds_set 2 (de_op od_subU (de_op od_mul (de_ix (de_var 0) (de_int)) (de_ix (de_var 1) (de_int))) (de_op od_mul (de_ix (de_var 1) (de_int)) (de_ix (de_var 0) (de_int))))) (dss_cons (ds_par (i := 3) (j := 4) (da_cons (de_op od_mul (de_ix (de_var 0) (de_int)) (de_ix (de_var 1) (de_int))) (da_cons (de_op od_mul (de_neg (de_ix (de_var 1) (de_int))) (de_ix (de_var 0) (de_int))) (da_nil)))) (dss_cons (ds_if ((dw_or (dt_cmp od_eq (de_ix (de_var 0) (de_int)) (de_ix (de_var 1) (de_int)) rfl) (dw_or1 (dt_cmp od_eq (de_var 4) (de_int) rfl))).dt) (dss_one (ds_ret (de_callC (c_sign_of_sum.mono (by decide)) hr (da_cons (de_var 2) (da_cons (de_op od_addU (de_var 3) (de_if (dt_cmp od_eq (de_ix (de_var 0) (de_int)) (de_ix (de_var 1) (de_int)) rfl) (de_var 4) (de_int))) (da_cons (de_ix (de_var 0) (de_int)) (da_nil))))))) (dss_nil)) (dss_cons (ds_if (dt_cmp od_eq (de_var 3) (de_int) rfl) (dss_one (ds_ret (de_callC (c_sign_of_sum.mono (by decide)) hr (da_cons (de_var 2) (da_cons (de_var 4) (da_cons (de_ix (de_var 1) (de_int)) (da_nil))))))) (dss_nil)) (dss_cons (ds_par (i := 5) (j := 6) (da_cons (de_callC (c_sign_of_sum.mono (by decide)) hr (da_cons (de_var 2) (da_cons (de_var 3) (da_cons (de_ix (de_var 0) (de_int)) (da_nil))))) (da_cons (de_op od_subU (de_cmp od_lt (de_var 4) (de_int) rfl) (de_cmp od_gt (de_var 4) (de_int) rfl)) (da_nil)))) (dss_cons (ds_if (dt_cmp od_ne (de_var 5) (de_var 6) rfl) (dss_one (ds_ret (de_op od_subU (de_cmp od_gt (de_var 5) (de_var 6) rfl) (de_cmp od_lt (de_var 5) (de_var 6) rfl)))) (dss_nil)) (dss_cons (ds_set 7 (de_callC (c_sign_of_sum.mono (by decide)) hr (da_cons (de_op od_subU (de_op od_addU (de_op od_mul (de_var 2) (de_var 2)) (de_op od_mul (de_op od_mul (de_var 3) (de_var 3)) (de_ix (de_var 0) (de_int)))) (de_op od_mul (de_op od_mul (de_var 4) (de_var 4)) (de_ix (de_var 1) (de_int)))) (da_cons (de_op od_mul (de_op od_mul (de_int) (de_var 2)) (de_var 3)) (da_cons (de_ix (de_var 0) (de_int)) (da_nil)))))) (dss_one (ds_ret (de_op od_mul (de_var 7) (de_var 5))))))))))) (pure_compare α QD ED C.W hW hp)
theorem sc_floor : FnScope n_floor ["one"] (defScope (top 21)) := ⟨rfl, rfl, rfl, by decide +kernel, rfl, by decide +kernel, by decide +kernel⟩
theorem ok_floor (F : FnP K "floor" (top 21) f fd) (c_root_floor : CalD P w K mg base 1 "root_floor" ["number"] p_root_floor) : FnD P w K mg base 2 f fd ["one"] p_floor := by
  refine FunD.okD F sc_floor len_floor fun cdv A outer s H E C α QD ED hr hW hp => ?_
  exact body_of (dss_cons (ds_asg (de_var 0) (dg_tup (dgs_cons (dg_name 1) (dgs_cons (dg_name 2) (dgs_cons (dg_name 3) (dgs_cons (dg_name 4) (dgs_nil))))))) (dss_cons (ds_set 5 (de_op od_mul (de_op od_mul (de_var 2) (de_var 2)) (de_var 3))) (dss_cons (ds_if (dt_cmp od_ge (de_var 2) (de_int) rfl) (dss_one (ds_ret (de_op od_fdiv (de_op od_addU (de_var 1) (de_callC (c_root_floor.mono (by decide)) hr (da_cons (de_var 5) (da_nil)))) (de_var 4)))) (dss_nil)) (dss_one (ds_ret (de_op od_fdiv (de_op od_subU (de_op od_subU (de_var 1) (de_callC (c_root_floor.mono (by decide)) hr (da_cons (de_var 5) (da_nil)))) (de_int)) (de_var 4))))))) (pure_floor α QD ED C.W hW hp)
theorem sc__law_stirred : FnScope n__law_stirred ["cell", "place"] (defScope (top 23)) := ⟨rfl, rfl, rfl, by decide +kernel, rfl, by decide +kernel, by decide +kernel⟩
theorem ok__law_stirred (F : FnP K "_law_stirred" (top 23) f fd) (z_range : mg "range" = none) : FnD P w K mg base 1 f fd ["cell", "place"] p__law_stirred := by
  refine FunD.okD F sc__law_stirred len__law_stirred fun cdv A outer s H E C α QD ED hr hW hp => ?_
  exact body_of (dss_cons (ds_set 2 (de_int)) (dss_cons (ds_set 3 (de_op od_mod (de_op od_addU (de_op od_addU (de_op od_mul (de_var 0) (de_int)) (de_op od_mul (de_var 1) (de_int))) (de_int)) (de_var 2))) (dss_cons (ds_for (passes_of rfl) (di_range1 rfl z_range (da_cons (de_int) (da_nil))) (dg_name 4) (dss_one (ds_set 3 (de_op od_mod (de_op od_addU (de_op od_addU (de_op od_addU (de_op od_mul (de_var 3) (de_var 3)) (de_op od_mul (de_int) (de_var 3))) (de_op od_mul (de_int) (de_var 4))) (de_var 1)) (de_var 2))))) (dss_one (ds_ret (de_op od_addU (de_op od_mul (de_var 3) (de_var 2)) (de_op od_mod (de_op od_addU (de_op od_mul (de_var 3) (de_int)) (de_var 1)) (de_var 2)))))))) (pure__law_stirred α QD ED C.W hW hp)
theorem sc__law_spool_of : FnScope n__law_spool_of ["script"] (defScope (top 24)) := ⟨rfl, rfl, rfl, by decide +kernel, rfl, by decide +kernel, by decide +kernel⟩
theorem ok__law_spool_of (F : FnP K "_law_spool_of" (top 24) f fd) (z_enumerate : mg "enumerate" = none) (z_abs : mg "abs" = none) : FnD P w K mg base 1 f fd ["script"] p__law_spool_of := by
  refine FunD.okD F sc__law_spool_of len__law_spool_of fun cdv A outer s H E C α QD ED hr hW hp => ?_
  exact body_of (dss_cons (ds_setLc 1 [("cell", 3)] (di_list (de_new (dn_scr 0 (do_none) (do_some (de_int))))) (by kernel_rfl) (fun _ _ _ _ _ => dg_name 3) (fun _ _ _ _ _ => dts_nil) (fun _ _ _ _ _ => de_B1 cd_abs z_abs (de_var 3))) (dss_cons (ds_for (passes_of rfl) (di_enum z_enumerate (da_cons (de_new (dn_scr 0 (do_some (de_int)) (do_some (de_int)))) (da_nil))) (dg_tup (dgs_cons (dg_name 2) (dgs_cons (dg_name 3) (dgs_nil)))) (dss_one (ds_put 1 (de_op od_addU (de_ix (de_var 1) (de_op od_mod (de_var 2) (de_int))) (de_B1 cd_abs z_abs (de_var 3))) (de_op od_mod (de_var 2) (de_int))))) (dss_one (ds_retN (dn_lst (da_cons (de_var 1) (da_cons (de_int) (da_cons (de_int) (da_cons (de_int) (da_nil)))))))))) (pure__law_spool_of α QD ED C.W hW hp)
theorem sc__law_upto : FnScope n__law_upto ["spool", "bound"] (defScope (top 25)) := ⟨rfl, rfl, rfl, by decide +kernel, rfl, by decide +kernel, by decide +kernel⟩
theorem ok__law_upto (F : FnP K "_law_upto" (top 25) f fd) (z_len : mg "len" = none) (c__law_stirred : CalD P w K mg base 1 "_law_stirred" ["cell", "place"] p__law_stirred) : FnD P w K mg base 2 f fd ["spool", "bound"] p__law_upto := by
  refine FunD.okD F sc__law_upto len__law_upto fun cdv A outer s H E C α QD ED hr hW hp => ?_
  exact body_of (dss_cons (ds_if (dt_cmp od_lt (de_ix (de_var 0) (de_int)) (de_var 1) rfl) (dss_cons (ds_par (i := 2) (j := 3) (da_cons (de_ix (de_var 0) (de_int)) (da_cons (de_ix (de_var 0) (de_int)) (da_nil)))) (dss_cons (ds_set 4 (de_if (dt_cmp od_ne (de_var 2) (de_new (dn_lst (da_nil))) rfl) (de_ix (de_var 2) (de_op od_mod (de_var 3) (de_B1 cd_len z_len (de_var 2)))) (de_int))) (dss_cons (ds_if ((dw_or (dt_cmp od_ge (de_var 3) (de_B1 cd_len z_len (de_var 2)) rfl) (dw_or1 (dt_cmp od_lt (de_var 4) (de_op od_pow (de_int) (de_int)) rfl))).dt) (dss_one (ds_set 4 (de_callC (c__law_stirred.mono (by decide)) hr (da_cons (de_op od_mod (de_var 4) (de_int)) (da_cons (de_var 3) (da_nil)))))) (dss_nil)) (dss_cons (ds_put 0 (de_op od_addU (de_var 3) (de_int)) (de_int)) (dss_cons (ds_put 0 (de_var 4) (de_int)) (dss_one (ds_put 0 (de_var 4) (de_int)))))))) (dss_nil)) (dss_cons (ds_set 5 (de_op od_mod (de_ix (de_var 0) (de_int)) (de_var 1))) (dss_cons (ds_put 0 (de_op od_fdiv (de_ix (de_var 0) (de_int)) (de_var 1)) (de_int)) (dss_cons (ds_put 0 (de_op od_fdiv (de_ix (de_var 0) (de_int)) (de_var 1)) (de_int)) (dss_one (ds_ret (de_var 5))))))) (pure__law_upto α QD ED C.W hW hp)
theorem sc__law_choice : FnScope n__law_choice ["spool", "items"] (defScope (top 26)) := ⟨rfl, rfl, rfl, by decide +kernel, rfl, by decide +kernel, by decide +kernel⟩
theorem ok__law_choice (F : FnP K "_law_choice" (top 26) f fd) (z_len : mg "len" = none) (c__law_upto : CalD P w K mg base 2 "_law_upto" ["spool", "bound"] p__law_upto) : FnD P w K mg base 3 f fd ["spool", "items"] p__law_choice := by
  refine FunD.okD F sc__law_choice len__law_choice fun cdv A outer s H E C α QD ED hr hW hp => ?_
  exact body_of (dss_one (ds_ret (de_ix (de_var 1) (de_callLC 0 (c__law_upto.mono (by decide)) hr (da_cons (de_B1 cd_len z_len (de_var 1)) (da_nil)))))) (pure__law_choice α QD ED C.W hW hp)
theorem sc_law : FnScope n_law ["script"] (defScope (top 27)) := ⟨rfl, rfl, rfl, by decide +kernel, rfl, by decide +kernel, by decide +kernel⟩
theorem ok_law (F : FnP K "law" (top 27) f fd) (z_range : mg "range" = none) (c__law_spool_of : CalD P w K mg base 1 "_law_spool_of" ["script"] p__law_spool_of) (c__law_choice : CalD P w K mg base 3 "_law_choice" ["spool", "items"] p__law_choice) (c_number : CalD P w K mg base 3 "number" ["p", "q", "d", "s"] p_number) (c_plus : CalD P w K mg base 3 "plus" ["first", "second"] p_plus) (c_times : CalD P w K mg base 3 "times" ["first", "second"] p_times) (c_compare : CalD P w K mg base 2 "compare" ["first", "second"] p_compare) (c_sign : CalD P w K mg base 2 "sign" ["one"] p_sign) (c_floor : CalD P w K mg base 2 "floor" ["one"] p_floor) (c__law_upto : CalD P w K mg base 2 "_law_upto" ["spool", "bound"] p__law_upto) (c_minus : CalD P w K mg base 4 "minus" ["first", "second"] p_minus) (c_opposite : CalD P w K mg base 1 "opposite" ["one"] p_opposite) (c_over : CalD P w K mg base 4 "over" ["first", "second"] p_over) : FnD P w K mg base 5 f fd ["script"] p_law := by
  refine FunD.okD F sc_law len_law fun cdv A outer s H E C α QD ED hr hW hp => ?_
  exact body_of (dss_cons (ds_own 1 (dn_callLC 0 (c__law_spool_of.mono (by decide)) hr (da_nil))) (dss_cons (ds_for (passes_of rfl) (di_range1 rfl z_range (da_cons (de_int) (da_nil))) (dg_name 2) (dss_cons (ds_set 3 (de_callLC 1 (c__law_choice.mono (by decide)) hr (da_cons (de_new (dn_lst (da_cons (de_int) (da_cons (de_int) (da_cons (de_int) (da_cons (de_int) (da_cons (de_int) (da_cons (de_int) (da_nil))))))))) (da_nil)))) (dss_cons (ds_own 4 (dn_lst (da_nil))) (dss_cons (ds_for (passes_of rfl) (di_range1 rfl z_range (da_cons (de_int) (da_nil))) (dg_name 5) (dss_cons (ds_set 6 (de_callLC 1 (c__law_choice.mono (by decide)) hr (da_cons (de_new (dn_lst (da_cons (de_int) (da_cons (de_int) (da_cons (de_op od_pow (de_int) (de_int)) (da_nil)))))) (da_nil)))) (dss_cons (ds_par (i := 7) (j := 8) (da_cons (de_op od_subU (de_callLC 1 (c__law_upto.mono (by decide)) hr (da_cons (de_op od_addU (de_op od_mul (de_int) (de_var 6)) (de_int)) (da_nil))) (de_var 6)) (da_cons (de_op od_subU (de_callLC 1 (c__law_upto.mono (by decide)) hr (da_cons (de_op od_addU (de_op od_mul (de_int) (de_var 6)) (de_int)) (da_nil))) (de_var 6)) (da_nil)))) (dss_one (ds_app 4 (de_callC (c_number.mono (by decide)) hr (da_cons (de_var 7) (da_cons (de_var 8) (da_cons (de_var 3) (da_cons (de_op od_addU (de_int) (de_callLC 1 (c__law_upto.mono (by decide)) hr (da_cons (de_var 6) (da_nil)))) (da_nil))))))))))) (dss_cons (ds_asg (de_var 4) (dg_lst (dgs_cons (dg_name 9) (dgs_cons (dg_name 10) (dgs_cons (dg_name 11) (dgs_nil)))))) (dss_cons (ds_if (dt_cmp od_ne (de_callC (c_plus.mono (by decide)) hr (da_cons (de_var 9) (da_cons (de_callC (c_plus.mono (by decide)) hr (da_cons (de_var 10) (da_cons (de_var 11) (da_nil)))) (da_nil)))) (de_callC (c_plus.mono (by decide)) hr (da_cons (de_callC (c_plus.mono (by decide)) hr (da_cons (de_var 11) (da_cons (de_var 9) (da_nil)))) (da_cons (de_var 10) (da_nil)))) rfl) (dss_one (ds_ret (de_bl))) (dss_nil)) (dss_cons (ds_if (dt_cmp od_ne (de_callC (c_times.mono (by decide)) hr (da_cons (de_var 9) (da_cons (de_callC (c_plus.mono (by decide)) hr (da_cons (de_var 10) (da_cons (de_var 11) (da_nil)))) (da_nil)))) (de_callC (c_plus.mono (by decide)) hr (da_cons (de_callC (c_times.mono (by decide)) hr (da_cons (de_var 11) (da_cons (de_var 9) (da_nil)))) (da_cons (de_callC (c_times.mono (by decide)) hr (da_cons (de_var 10) (da_cons (de_var 9) (da_nil)))) (da_nil)))) rfl) (dss_one (ds_ret (de_bl))) (dss_nil)) (dss_cons (ds_if ((dw_or (dt_cmp od_ne (de_callC (c_plus.mono (by decide)) hr (da_cons (de_callC (c_minus.mono (by decide)) hr (da_cons (de_var 9) (da_cons (de_var 10) (da_nil)))) (da_cons (de_var 10) (da_nil)))) (de_var 9) rfl) (dw_or1 (dt_cmp od_ne (de_callC (c_minus.mono (by decide)) hr (da_cons (de_var 9) (da_cons (de_var 10) (da_nil)))) (de_callC (c_opposite.mono (by decide)) hr (da_cons (de_callC (c_minus.mono (by decide)) hr (da_cons (de_var 10) (da_cons (de_var 9) (da_nil)))) (da_nil))) rfl))).dt) (dss_one (ds_ret (de_bl))) (dss_nil)) (dss_cons (ds_if ((dw_and (dt_cmp od_ne (de_callC (c_sign.mono (by decide)) hr (da_cons (de_var 10) (da_nil))) (de_int) rfl) (dw_and1 (dt_cmp od_ne (de_callC (c_times.mono (by decide)) hr (da_cons (de_callC (c_over.mono (by decide)) hr (da_cons (de_var 9) (da_cons (de_var 10) (da_nil)))) (da_cons (de_var 10) (da_nil)))) (de_var 9) rfl))).dt) (dss_one (ds_ret (de_bl))) (dss_nil)) (dss_cons (ds_if (dt_cmp od_ne (de_callC (c_compare.mono (by decide)) hr (da_cons (de_var 9) (da_cons (de_var 10) (da_nil)))) (de_callC (c_sign.mono (by decide)) hr (da_cons (de_callC (c_minus.mono (by decide)) hr (da_cons (de_var 9) (da_cons (de_var 10) (da_nil)))) (da_nil))) rfl) (dss_one (ds_ret (de_bl))) (dss_nil)) (dss_cons (ds_if (dt_cmp od_ne (de_callC (c_compare.mono (by decide)) hr (da_cons (de_callC (c_plus.mono (by decide)) hr (da_cons (de_var 9) (da_cons (de_var 11) (da_nil)))) (da_cons (de_callC (c_plus.mono (by decide)) hr (da_cons (de_var 10) (da_cons (de_var 11) (da_nil)))) (da_nil)))) (de_callC (c_compare.mono (by decide)) hr (da_cons (de_var 9) (da_cons (de_var 10) (da_nil)))) rfl) (dss_one (ds_ret (de_bl))) (dss_nil)) (dss_cons (ds_if (dt_cmp od_ne (de_op od_mul (de_callC (c_sign.mono (by decide)) hr (da_cons (de_var 11) (da_nil))) (de_callC (c_compare.mono (by decide)) hr (da_cons (de_var 9) (da_cons (de_var 10) (da_nil))))) (de_callC (c_compare.mono (by decide)) hr (da_cons (de_callC (c_times.mono (by decide)) hr (da_cons (de_var 9) (da_cons (de_var 11) (da_nil)))) (da_cons (de_callC (c_times.mono (by decide)) hr (da_cons (de_var 10) (da_cons (de_var 11) (da_nil)))) (da_nil)))) rfl) (dss_one (ds_ret (de_bl))) (dss_nil)) (dss_cons (ds_set 12 (de_callC (c_number.mono (by decide)) hr (da_cons (de_callC (c_floor.mono (by decide)) hr (da_cons (de_var 9) (da_nil))) (da_cons (de_int) (da_cons (de_int) (da_cons (de_int) (da_nil))))))) (dss_cons (ds_if ((dw_or (dt_cmp od_gt (de_callC (c_compare.mono (by decide)) hr (da_cons (de_var 12) (da_cons (de_var 9) (da_nil)))) (de_int) rfl) (dw_or1 (dt_cmp od_lt (de_callC (c_compare.mono (by decide)) hr (da_cons (de_callC (c_plus.mono (by decide)) hr (da_cons (de_var 12) (da_cons (de_tup (da_cons (de_int) (da_cons (de_int) (da_cons (de_int) (da_cons (de_int) (da_nil)))))) (da_nil)))) (da_cons (de_var 9) (da_nil)))) (de_int) rfl))).dt) (dss_one (ds_ret (de_bl))) (dss_nil)) (dss_cons (ds_set 13 (de_op od_subU (de_callLC 1 (c__law_upto.mono (by decide)) hr (da_cons (de_int) (da_nil))) (de_int))) (dss_cons (ds_if (dt_cmp od_ne (de_callC (c_floor.mono (by decide)) hr (da_cons (de_callC (c_plus.mono (by decide)) hr (da_cons (de_var 9) (da_cons (de_callC (c_number.mono (by decide)) hr (da_cons (de_var 13) (da_cons (de_int) (da_cons (de_int) (da_cons (de_int) (da_nil)))))) (da_nil)))) (da_nil))) (de_op od_addU (de_callC (c_floor.mono (by decide)) hr (da_cons (de_var 9) (da_nil))) (de_var 13)) rfl) (dss_one (ds_ret (de_bl))) (dss_nil)) (dss_cons (ds_set 14 (de_callC (c_number.mono (by decide)) hr (da_cons (de_int) (da_cons (de_int) (da_cons (de_var 3) (da_cons (de_int) (da_nil))))))) (dss_one (ds_if ((dw_or (dt_cmp od_ne (de_callC (c_times.mono (by decide)) hr (da_cons (de_var 14) (da_cons (de_var 14) (da_nil)))) (de_callC (c_number.mono (by decide)) hr (da_cons (de_var 3) (da_cons (de_int) (da_cons (de_int) (da_cons (de_int) (da_nil)))))) rfl) (dw_or1 (dt_cmp od_ne (de_callC (c_sign.mono (by decide)) hr (da_cons (de_var 14) (da_nil))) (de_int) rfl))).dt) (dss_one (ds_ret (de_bl))) (dss_nil)))))))))))))))))))) (dss_one (ds_ret (de_bl))))) (pure_law α QD ED C.W hW hp)
end
abbrev RR : PySem.W.OpenRow := PySem.W.OpenLaw.row PySem.Challenge.rw_twospeeds_k05_whole_field_of_numbers
def dd_common_divisor : He.DefD := ⟨("common_divisor", none), "common_divisor", "common_divisor", defArgs (top 7), defBody (top 7), defScope (top 7), [], []⟩
def dd_root_floor : He.DefD := ⟨("root_floor", none), "root_floor", "root_floor", defArgs (top 8), defBody (top 8), defScope (top 8), [], []⟩
def dd_without_squares : He.DefD := ⟨("without_squares", none), "without_squares", "without_squares", defArgs (top 9), defBody (top 9), defScope (top 9), [], []⟩
def dd_lowest : He.DefD := ⟨("lowest", none), "lowest", "lowest", defArgs (top 10), defBody (top 10), defScope (top 10), [], []⟩
def dd_number : He.DefD := ⟨("number", none), "number", "number", defArgs (top 11), defBody (top 11), defScope (top 11), [], []⟩
def dd_sign_of_sum : He.DefD := ⟨("sign_of_sum", none), "sign_of_sum", "sign_of_sum", defArgs (top 12), defBody (top 12), defScope (top 12), [], []⟩
def dd_sign : He.DefD := ⟨("sign", none), "sign", "sign", defArgs (top 13), defBody (top 13), defScope (top 13), [], []⟩
def dd_root_of : He.DefD := ⟨("root_of", none), "root_of", "root_of", defArgs (top 14), defBody (top 14), defScope (top 14), [], []⟩
def dd_plus : He.DefD := ⟨("plus", none), "plus", "plus", defArgs (top 15), defBody (top 15), defScope (top 15), [], []⟩
def dd_opposite : He.DefD := ⟨("opposite", none), "opposite", "opposite", defArgs (top 16), defBody (top 16), defScope (top 16), [], []⟩
def dd_minus : He.DefD := ⟨("minus", none), "minus", "minus", defArgs (top 17), defBody (top 17), defScope (top 17), [], []⟩
def dd_times : He.DefD := ⟨("times", none), "times", "times", defArgs (top 18), defBody (top 18), defScope (top 18), [], []⟩
def dd_over : He.DefD := ⟨("over", none), "over", "over", defArgs (top 19), defBody (top 19), defScope (top 19), [], []⟩
def dd_compare : He.DefD := ⟨("compare", none), "compare", "compare", defArgs (top 20), defBody (top 20), defScope (top 20), [], []⟩
def dd_floor : He.DefD := ⟨("floor", none), "floor", "floor", defArgs (top 21), defBody (top 21), defScope (top 21), [], []⟩
def dd__law_stirred : He.DefD := ⟨("_law_stirred", none), "_law_stirred", "_law_stirred", defArgs (top 23), defBody (top 23), defScope (top 23), [], []⟩
def dd__law_spool_of : He.DefD := ⟨("_law_spool_of", none), "_law_spool_of", "_law_spool_of", defArgs (top 24), defBody (top 24), defScope (top 24), [], []⟩
def dd__law_upto : He.DefD := ⟨("_law_upto", none), "_law_upto", "_law_upto", defArgs (top 25), defBody (top 25), defScope (top 25), [], []⟩
def dd__law_choice : He.DefD := ⟨("_law_choice", none), "_law_choice", "_law_choice", defArgs (top 26), defBody (top 26), defScope (top 26), [], []⟩
def dd_law : He.DefD := ⟨("law", none), "law", "law", defArgs (top 27), defBody (top 27), defScope (top 27), [], []⟩
def fn : List He.DefD := [dd_common_divisor, dd_root_floor, dd_without_squares, dd_lowest, dd_number, dd_sign_of_sum, dd_sign, dd_root_of, dd_plus, dd_opposite, dd_minus, dd_times, dd_over, dd_compare, dd_floor, dd__law_stirred, dd__law_spool_of, dd__law_upto, dd__law_choice, dd_law]
def fa : List He.Fa := [.glo "common_divisor", .glo "root_floor", .glo "without_squares", .glo "lowest", .glo "number", .glo "sign_of_sum", .glo "sign", .glo "root_of", .glo "plus", .glo "opposite", .glo "minus", .glo "times", .glo "over", .glo "compare", .glo "floor", .glo "_law_stirred", .glo "_law_spool_of", .glo "_law_upto", .glo "_law_choice", .glo "law", .free "abs", .glo "InvalidNumber", .exc "InvalidNumber", .free "max", .glo "OtherRoot", .exc "OtherRoot", .glo "ZeroDivisor", .exc "ZeroDivisor", .glo "ZERO", .free "range", .free "enumerate", .free "len"]
def ex (K : PySem.W.Frag) : Bool := He.tupB K "ZERO" [.int 0, .int 0, .int 0, .int 1]
abbrev hk : PySem.W.Hook := He.hookX 5 fa fn [] [] ex
def ob (s : PySem.W.SharedT) : He.AlX := He.obsX 5 fa fn [] [] ex (HandSHeadRun.getT s)
theorem ob_eq (s : PySem.W.SharedT) : ob s = hk.obs s.abs := He.obsX_eq (HandSHeadRun.getT_eq s)
def loose : List Str := ["TwoSpeedsError", "InvalidNumber", "ZeroDivisor", "OtherRoot", "ZERO", "common_divisor", "root_floor", "without_squares", "lowest", "number", "sign_of_sum", "sign", "root_of", "plus", "opposite", "minus", "times", "over", "compare", "floor", "_law_stirred", "_law_spool_of", "_law_upto", "_law_choice"]
theorem run (w : World) : HandSHeadRun.RunEq RR (PySem.W.view RR.prog [27]) hk ob 4000 loose w := by
  intro os
  kernel_rfl
theorem facts {P : Program} {w : World} {K : PySem.W.Frag} {h : Heap} {mg : Str → Option Value} {f : Addr} (X : K.In h) (G : h.Ns mainGlobals mg) (hfa : mg ("law" : Str) = some (.ref f)) (c : He.SaysX fa fn [] [] ex w h K) :
    ∃ fd : FuncData, (∀ (s : Shared) (v : Value), BindsTo s fd ⟨[v], []⟩ [("script", v)]) ∧ ∀ base : Heap, K.In base → base.Ns mainGlobals mg → FnD P w K mg base 5 f fd ["script"] lawSp := by
  have z_abs := He.free_ok X G (c.t.d.fact 20 (f := .free "abs") rfl)
  have z_max := He.free_ok X G (c.t.d.fact 23 (f := .free "max") rfl)
  have z_range := He.free_ok X G (c.t.d.fact 29 (f := .free "range") rfl)
  have z_enumerate := He.free_ok X G (c.t.d.fact 30 (f := .free "enumerate") rfl)
  have z_len := He.free_ok X G (c.t.d.fact 31 (f := .free "len") rfl)
  have x_InvalidNumber : ExcD K mg "InvalidNumber" (He.ga K "InvalidNumber") := by
    obtain ⟨h1, h2, h3, h4⟩ := He.exc_ok (c.t.d.fact 22 (f := .exc "InvalidNumber") rfl)
    exact ⟨h1, He.glo_ok X G (c.t.d.fact 21 (f := .glo "InvalidNumber") rfl), h2, h3, h4⟩
  have x_OtherRoot : ExcD K mg "OtherRoot" (He.ga K "OtherRoot") := by
    obtain ⟨h1, h2, h3, h4⟩ := He.exc_ok (c.t.d.fact 25 (f := .exc "OtherRoot") rfl)
    exact ⟨h1, He.glo_ok X G (c.t.d.fact 24 (f := .glo "OtherRoot") rfl), h2, h3, h4⟩
  have x_ZeroDivisor : ExcD K mg "ZeroDivisor" (He.ga K "ZeroDivisor") := by
    obtain ⟨h1, h2, h3, h4⟩ := He.exc_ok (c.t.d.fact 27 (f := .exc "ZeroDivisor") rfl)
    exact ⟨h1, He.glo_ok X G (c.t.d.fact 26 (f := .glo "ZeroDivisor") rfl), h2, h3, h4⟩
  have g_ZERO : mg "ZERO" = some (.ref (He.ga K "ZERO")) ∧ (∀ H : Hp, SqT K H (He.ga K "ZERO") v_ZERO) ∧ ∀ G, Reps K G v_ZERO l_ZERO := ⟨He.glo_ok X G (c.t.d.fact 28 (f := .glo "ZERO") rfl), fun H => He.tupB_ok (x := "ZERO") (vs := [.int 0, .int 0, .int 0, .int 1]) c.more H, rep_ZERO K⟩
  obtain ⟨fd_common_divisor, F_common_divisor⟩ := c.t.d.def_ 0 (d := dd_common_divisor) rfl
  obtain ⟨fd_root_floor, F_root_floor⟩ := c.t.d.def_ 1 (d := dd_root_floor) rfl
  obtain ⟨fd_without_squares, F_without_squares⟩ := c.t.d.def_ 2 (d := dd_without_squares) rfl
  obtain ⟨fd_lowest, F_lowest⟩ := c.t.d.def_ 3 (d := dd_lowest) rfl
  obtain ⟨fd_number, F_number⟩ := c.t.d.def_ 4 (d := dd_number) rfl
  obtain ⟨fd_sign_of_sum, F_sign_of_sum⟩ := c.t.d.def_ 5 (d := dd_sign_of_sum) rfl
  obtain ⟨fd_sign, F_sign⟩ := c.t.d.def_ 6 (d := dd_sign) rfl
  obtain ⟨fd_root_of, F_root_of⟩ := c.t.d.def_ 7 (d := dd_root_of) rfl
  obtain ⟨fd_plus, F_plus⟩ := c.t.d.def_ 8 (d := dd_plus) rfl
  obtain ⟨fd_opposite, F_opposite⟩ := c.t.d.def_ 9 (d := dd_opposite) rfl
  obtain ⟨fd_minus, F_minus⟩ := c.t.d.def_ 10 (d := dd_minus) rfl
  obtain ⟨fd_times, F_times⟩ := c.t.d.def_ 11 (d := dd_times) rfl
  obtain ⟨fd_over, F_over⟩ := c.t.d.def_ 12 (d := dd_over) rfl
  obtain ⟨fd_compare, F_compare⟩ := c.t.d.def_ 13 (d := dd_compare) rfl
  obtain ⟨fd_floor, F_floor⟩ := c.t.d.def_ 14 (d := dd_floor) rfl
  obtain ⟨fd__law_stirred, F__law_stirred⟩ := c.t.d.def_ 15 (d := dd__law_stirred) rfl
  obtain ⟨fd__law_spool_of, F__law_spool_of⟩ := c.t.d.def_ 16 (d := dd__law_spool_of) rfl
  obtain ⟨fd__law_upto, F__law_upto⟩ := c.t.d.def_ 17 (d := dd__law_upto) rfl
  obtain ⟨fd__law_choice, F__law_choice⟩ := c.t.d.def_ 18 (d := dd__law_choice) rfl
  obtain ⟨fd_law, F_law⟩ := c.t.d.def_ 19 (d := dd_law) rfl
  have c_common_divisor : ∀ base : Heap, CalD P w K mg base 1 "common_divisor" ["first", "second"] p_common_divisor := fun base => ⟨⟨_, fd_common_divisor, ok_common_divisor F_common_divisor z_abs, He.glo_ok X G (c.t.d.fact 0 (f := .glo "common_divisor") rfl), F_common_divisor.kp, F_common_divisor.bindsN fun _ _ _ _ _ _ us hl => match us, hl with | [_, _], _ => rfl⟩⟩
  have c_root_floor : ∀ base : Heap, CalD P w K mg base 1 "root_floor" ["number"] p_root_floor := fun base => ⟨⟨_, fd_root_floor, ok_root_floor F_root_floor, He.glo_ok X G (c.t.d.fact 1 (f := .glo "root_floor") rfl), F_root_floor.kp, F_root_floor.bindsN fun _ _ _ _ _ _ us hl => match us, hl with | [_], _ => rfl⟩⟩
  have c_without_squares : ∀ base : Heap, CalD P w K mg base 1 "without_squares" ["number"] p_without_squares := fun base => ⟨⟨_, fd_without_squares, ok_without_squares F_without_squares, He.glo_ok X G (c.t.d.fact 2 (f := .glo "without_squares") rfl), F_without_squares.kp, F_without_squares.bindsN fun _ _ _ _ _ _ us hl => match us, hl with | [_], _ => rfl⟩⟩
  have c_lowest : ∀ base : Heap, CalD P w K mg base 2 "lowest" ["p", "q", "d", "s"] p_lowest := fun base => ⟨⟨_, fd_lowest, ok_lowest F_lowest (c_common_divisor base), He.glo_ok X G (c.t.d.fact 3 (f := .glo "lowest") rfl), F_lowest.kp, F_lowest.bindsN fun _ _ _ _ _ _ us hl => match us, hl with | [_, _, _, _], _ => rfl⟩⟩
  have c_number : ∀ base : Heap, CalD P w K mg base 3 "number" ["p", "q", "d", "s"] p_number := fun base => ⟨⟨_, fd_number, ok_number F_number x_InvalidNumber (c_lowest base) (c_without_squares base), He.glo_ok X G (c.t.d.fact 4 (f := .glo "number") rfl), F_number.kp, F_number.bindsN fun _ _ _ _ _ _ us hl => match us, hl with | [_, _, _, _], _ => rfl⟩⟩
  have c_sign_of_sum : ∀ base : Heap, CalD P w K mg base 1 "sign_of_sum" ["p", "q", "d"] p_sign_of_sum := fun base => ⟨⟨_, fd_sign_of_sum, ok_sign_of_sum F_sign_of_sum, He.glo_ok X G (c.t.d.fact 5 (f := .glo "sign_of_sum") rfl), F_sign_of_sum.kp, F_sign_of_sum.bindsN fun _ _ _ _ _ _ us hl => match us, hl with | [_, _, _], _ => rfl⟩⟩
  have c_sign : ∀ base : Heap, CalD P w K mg base 2 "sign" ["one"] p_sign := fun base => ⟨⟨_, fd_sign, ok_sign F_sign (c_sign_of_sum base), He.glo_ok X G (c.t.d.fact 6 (f := .glo "sign") rfl), F_sign.kp, F_sign.bindsN fun _ _ _ _ _ _ us hl => match us, hl with | [_], _ => rfl⟩⟩
  have c_root_of : ∀ base : Heap, CalD P w K mg base 1 "root_of" ["first", "second"] p_root_of := fun base => ⟨⟨_, fd_root_of, ok_root_of F_root_of z_max x_OtherRoot, He.glo_ok X G (c.t.d.fact 7 (f := .glo "root_of") rfl), F_root_of.kp, F_root_of.bindsN fun _ _ _ _ _ _ us hl => match us, hl with | [_, _], _ => rfl⟩⟩
  have c_plus : ∀ base : Heap, CalD P w K mg base 3 "plus" ["first", "second"] p_plus := fun base => ⟨⟨_, fd_plus, ok_plus F_plus (c_root_of base) (c_lowest base), He.glo_ok X G (c.t.d.fact 8 (f := .glo "plus") rfl), F_plus.kp, F_plus.bindsN fun _ _ _ _ _ _ us hl => match us, hl with | [_, _], _ => rfl⟩⟩
  have c_opposite : ∀ base : Heap, CalD P w K mg base 1 "opposite" ["one"] p_opposite := fun base => ⟨⟨_, fd_opposite, ok_opposite F_opposite, He.glo_ok X G (c.t.d.fact 9 (f := .glo "opposite") rfl), F_opposite.kp, F_opposite.bindsN fun _ _ _ _ _ _ us hl => match us, hl with | [_], _ => rfl⟩⟩
  have c_minus : ∀ base : Heap, CalD P w K mg base 4 "minus" ["first", "second"] p_minus := fun base => ⟨⟨_, fd_minus, ok_minus F_minus (c_plus base) (c_opposite base), He.glo_ok X G (c.t.d.fact 10 (f := .glo "minus") rfl), F_minus.kp, F_minus.bindsN fun _ _ _ _ _ _ us hl => match us, hl with | [_, _], _ => rfl⟩⟩
  have c_times : ∀ base : Heap, CalD P w K mg base 3 "times" ["first", "second"] p_times := fun base => ⟨⟨_, fd_times, ok_times F_times (c_root_of base) (c_lowest base), He.glo_ok X G (c.t.d.fact 11 (f := .glo "times") rfl), F_times.kp, F_times.bindsN fun _ _ _ _ _ _ us hl => match us, hl with | [_, _], _ => rfl⟩⟩
  have c_over : ∀ base : Heap, CalD P w K mg base 4 "over" ["first", "second"] p_over := fun base => ⟨⟨_, fd_over, ok_over F_over g_ZERO x_ZeroDivisor (c_times base) (c_lowest base), He.glo_ok X G (c.t.d.fact 12 (f := .glo "over") rfl), F_over.kp, F_over.bindsN fun _ _ _ _ _ _ us hl => match us, hl with | [_, _], _ => rfl⟩⟩
  have c_compare : ∀ base : Heap, CalD P w K mg base 2 "compare" ["first", "second"] p_compare := fun base => ⟨⟨_, fd_compare, ok_compare F_compare (c_sign_of_sum base), He.glo_ok X G (c.t.d.fact 13 (f := .glo "compare") rfl), F_compare.kp, F_compare.bindsN fun _ _ _ _ _ _ us hl => match us, hl with | [_, _], _ => rfl⟩⟩
  have c_floor : ∀ base : Heap, CalD P w K mg base 2 "floor" ["one"] p_floor := fun base => ⟨⟨_, fd_floor, ok_floor F_floor (c_root_floor base), He.glo_ok X G (c.t.d.fact 14 (f := .glo "floor") rfl), F_floor.kp, F_floor.bindsN fun _ _ _ _ _ _ us hl => match us, hl with | [_], _ => rfl⟩⟩
  have c__law_stirred : ∀ base : Heap, CalD P w K mg base 1 "_law_stirred" ["cell", "place"] p__law_stirred := fun base => ⟨⟨_, fd__law_stirred, ok__law_stirred F__law_stirred z_range, He.glo_ok X G (c.t.d.fact 15 (f := .glo "_law_stirred") rfl), F__law_stirred.kp, F__law_stirred.bindsN fun _ _ _ _ _ _ us hl => match us, hl with | [_, _], _ => rfl⟩⟩
  have c__law_spool_of : ∀ base : Heap, CalD P w K mg base 1 "_law_spool_of" ["script"] p__law_spool_of := fun base => ⟨⟨_, fd__law_spool_of, ok__law_spool_of F__law_spool_of z_enumerate z_abs, He.glo_ok X G (c.t.d.fact 16 (f := .glo "_law_spool_of") rfl), F__law_spool_of.kp, F__law_spool_of.bindsN fun _ _ _ _ _ _ us hl => match us, hl with | [_], _ => rfl⟩⟩
  have c__law_upto : ∀ base : Heap, CalD P w K mg base 2 "_law_upto" ["spool", "bound"] p__law_upto := fun base => ⟨⟨_, fd__law_upto, ok__law_upto F__law_upto z_len (c__law_stirred base), He.glo_ok X G (c.t.d.fact 17 (f := .glo "_law_upto") rfl), F__law_upto.kp, F__law_upto.bindsN fun _ _ _ _ _ _ us hl => match us, hl with | [_, _], _ => rfl⟩⟩
  have c__law_choice : ∀ base : Heap, CalD P w K mg base 3 "_law_choice" ["spool", "items"] p__law_choice := fun base => ⟨⟨_, fd__law_choice, ok__law_choice F__law_choice z_len (c__law_upto base), He.glo_ok X G (c.t.d.fact 18 (f := .glo "_law_choice") rfl), F__law_choice.kp, F__law_choice.bindsN fun _ _ _ _ _ _ us hl => match us, hl with | [_, _], _ => rfl⟩⟩
  have e := hfa.symm.trans (He.glo_ok X G (c.t.d.fact 19 (f := .glo "law") rfl))
  cases e
  have b := L2.FunD.bindsA (ps := ["script"]) F_law fun _ _ _ _ _ _ us hl => match us, hl with | [_], _ => rfl
  exact ⟨fd_law, fun s v => b s [v] rfl, fun base _ _ => ok_law F_law z_range (c__law_spool_of base) (c__law_choice base) (c_number base) (c_plus base) (c_times base) (c_compare base) (c_sign base) (c_floor base) (c__law_upto base) (c_minus base) (c_opposite base) (c_over base)⟩
end KK
open PySem PySem.W PySem.Calls PyProof.Rows
theorem PySem.Challenge.cw_twospeeds_k05_whole_field_of_numbers_holds : PySem.Challenge.rw_twospeeds_k05_whole_field_of_numbers.Holds := by
  w_on; o_law
  refine HandSHeadRun.head_any (r := OpenLaw.row PySem.Challenge.rw_twospeeds_k05_whole_field_of_numbers) (q := view (OpenLaw.row PySem.Challenge.rw_twospeeds_k05_whole_field_of_numbers).prog [27]) (H := KK.hk) (ob := KK.ob) (M := 4000) (loose := KK.loose) (d := HandSHeadRun.topDef (OpenLaw.row PySem.Challenge.rw_twospeeds_k05_whole_field_of_numbers).prog 27) (kwd := []) KK.ob_eq
    (by kernel_rfl) (fun s => by kernel_rfl) KK.run (by kernel_rfl) (by kernel_rfl) (by kernel_rfl) (by rfl) (by first | assumption | decide +kernel) (by decide +kernel) ⟨rfl, rfl, rfl, rfl, rfl, by decide +kernel⟩ ?hw ?hc
  case hw => w_witness2
  case hc =>
    refine DL.walkD (l := PySem.Challenge.rw_twospeeds_k05_whole_field_of_numbers) (k := 5) (x := "script") rfl (by kernel_rfl) ⟨rfl, by decide, by decide⟩ ?F
    intro w mg fa h Y G hmg0
    obtain ⟨K, KX, c⟩ := Y
    have hmg : mg ("law" : PySem.Str) = some (.ref fa) := by
      have e : (HandSHeadRun.topDef (OpenLaw.row PySem.Challenge.rw_twospeeds_k05_whole_field_of_numbers).prog 27).name = ("law" : PySem.Str) := by kernel_rfl
      rw [← e]
      exact hmg0
    obtain ⟨fd, hb, hF⟩ := KK.facts (P := (PySem.Challenge.rw_twospeeds_k05_whole_field_of_numbers).prog) (w := w) KX G hmg c
    exact ⟨K, fd, KX, hb, hF⟩
