import PyProof.Rows.All
import PyProof.ReprLen
import HandS.ForMost
import HandS.ForExc
import HandS.Walk
import HandS.Wide
import HandS.Deep
import HandS.TupAny
import HandS.IsInst
import HandS.Style
import HandS.RaiseMore
import HandS.TupMul
import PyProof.ReprRoads
import HandS.EndBits
import HandS.HeadEnd
import HandS.Head0
import HandS.Head1
import HandS.Head2
import HandS.HeadHook1
import HandS.HeadHook2
import HandS.Defaults
import HandS.HeadHook3
import HandS.HeadHook4
import HandS.ExcIs
import KE.DataFind
import KE.KTupSum
import KE.DataMinMax
import KE.KRevSl
import KE.GoesMore
import HandS.Dict
import HandS.Head4
import PySem.Challenge.RW_twospeeds_k13_whole_expansions
set_option Elab.async false
set_option linter.all false
set_option maxRecDepth 100000
section
set_option maxHeartbeats 4000000
/-! DLA: slots that hold data (PyData), lists that a frame owns, the state of both. -/
namespace DL
open PySem PySem.Spec L2

def keyD : Key → PyData
  | .inl i => .int i
  | .inr x => .str x
mutual
/-- a value is a datum, all of it in what stays -/
inductive Rep (K : PySem.W.Frag) (G : Hp) : V → PyData → Prop
  | non : Rep K G .non .none
  | bl (b : Bool) : Rep K G (.bl b) (.bool b)
  | int (i : Int) : Rep K G (.int i) (.int i)
  | str (x : Str) : Rep K G (.str x) (.str x)
  | lst {a : Addr} {xs : List V} {ds : List PyData} : G a = some (.lst xs) → Reps K G xs ds → Rep K G (.ref a) (.list ds)
  | tup {a : Addr} {xs : List V} {ds : List PyData} : SqT K G a xs → Reps K G xs ds → Rep K G (.ref a) (.tuple ds)
  | dic {a : Addr} {kvs : List (Key × V)} {es : List (PyData × PyData)} : G a = some (.dK kvs) → RepKV K G kvs es → Rep K G (.ref a) (.dict es)
inductive Reps (K : PySem.W.Frag) (G : Hp) : List V → List PyData → Prop
  | nil : Reps K G [] []
  | cons {v : V} {vs : List V} {d : PyData} {ds : List PyData} : Rep K G v d → Reps K G vs ds → Reps K G (v :: vs) (d :: ds)
inductive RepKV (K : PySem.W.Frag) (G : Hp) : List (Key × V) → List (PyData × PyData) → Prop
  | nil : RepKV K G [] []
  | cons {k : Key} {v : V} {kvs : List (Key × V)} {d : PyData} {es : List (PyData × PyData)} : Rep K G v d → RepKV K G kvs es → RepKV K G ((k, v) :: kvs) ((keyD k, d) :: es)
end

theorem rd_mono {G G' : Hp} (s : Same G G') {a : Addr} {u : HO} (h : Rd G a u) : Rd G' a u := by
  rcases h with h | ⟨o, h⟩
  · exact Or.inl (s _ _ h)
  · exact Or.inr ⟨o, s _ _ h⟩
theorem sqt_mono {K : PySem.W.Frag} {G G' : Hp} (s : Same G G') {a : Addr} {xs : List V} (h : SqT K G a xs) : SqT K G' a xs := by
  rcases h with h | h
  · exact Or.inl (rd_mono s h)
  · exact Or.inr h
theorem sql_mono {K : PySem.W.Frag} {G G' : Hp} (s : Same G G') {a : Addr} {xs : List V} (h : SqL K G a xs) : SqL K G' a xs := by
  rcases h with h | h
  · exact Or.inl (rd_mono s h)
  · exact Or.inr h
section
variable {K : PySem.W.Frag} {G G' : Hp}
mutual
theorem rep_mono (s : Same G G') : ∀ (d : PyData) (v : V), Rep K G v d → Rep K G' v d
  | .none, _, h => by cases h; exact .non
  | .bool b, _, h => by cases h; exact .bl b
  | .int i, _, h => by cases h; exact .int i
  | .str x, _, h => by cases h; exact .str x
  | .list ds, _, h => by
    cases h with
    | lst hs ha => exact .lst (s _ _ hs) (reps_mono s ds _ ha)
  | .tuple ds, _, h => by
    cases h with
    | tup hs ha => exact .tup (sqt_mono s hs) (reps_mono s ds _ ha)
  | .dict es, _, h => by
    cases h with
    | dic hs ha => exact .dic (s _ _ hs) (repkv_mono s es _ ha)
theorem reps_mono (s : Same G G') : ∀ (ds : List PyData) (vs : List V), Reps K G vs ds → Reps K G' vs ds
  | [], _, h => by cases h; exact .nil
  | d :: ds, _, h => by
    cases h with
    | cons h1 h2 => exact .cons (rep_mono s d _ h1) (reps_mono s ds _ h2)
theorem repkv_mono (s : Same G G') : ∀ (es : List (PyData × PyData)) (kvs : List (Key × V)), RepKV K G kvs es → RepKV K G' kvs es
  | [], _, h => by cases h; exact .nil
  | (_, d) :: es, _, h => by
    cases h with
    | cons h1 h2 => exact .cons (rep_mono s d _ h1) (repkv_mono s es _ h2)
end
mutual
/-- data without dicts, for the kit's own rules of data -/
theorem Rep.dp : ∀ (d : PyData) (v : V), Rep K G v d → d.hasDict = false → Dp K G v d
  | .none, _, h, _ => by cases h; exact .non
  | .bool b, _, h, _ => by cases h; exact .bl b
  | .int i, _, h, _ => by cases h; exact .int i
  | .str x, _, h, _ => by cases h; exact .str x
  | .list ds, _, h, n => by
    cases h with
    | lst hs ha => exact .lst (SqL.of hs) (Reps.dp ds _ ha (by simpa [PyData.hasDict] using n))
  | .tuple ds, _, h, n => by
    cases h with
    | tup hs ha => exact .tup hs (Reps.dp ds _ ha (by simpa [PyData.hasDict] using n))
  | .dict _, _, _, n => by simp [PyData.hasDict] at n
theorem Reps.dp : ∀ (ds : List PyData) (vs : List V), Reps K G vs ds → PyData.hasDictAll ds = false → DpAll K G vs ds
  | [], _, h, _ => by cases h; exact .nil
  | d :: ds, _, h, n => by
    have n' : (d.hasDict || PyData.hasDictAll ds) = false := by simpa [PyData.hasDictAll] using n
    rw [Bool.or_eq_false_iff] at n'
    cases h with
    | cons h1 h2 => exact .cons (Rep.dp d _ h1 n'.1) (Reps.dp ds _ h2 n'.2)
end
theorem Reps.len : ∀ {vs : List V} {ds : List PyData}, Reps K G vs ds → vs.length = ds.length
  | _, _, .nil => rfl
  | _, _, .cons _ r => congrArg (· + 1) (Reps.len r)
theorem Reps.app : ∀ {vs ws : List V} {ds es : List PyData}, Reps K G vs ds → Reps K G ws es → Reps K G (vs ++ ws) (ds ++ es)
  | _, _, _, _, .nil, s => s
  | _, _, _, _, .cons r t, s => .cons r (Reps.app t s)
theorem Reps.get : ∀ {vs : List V} {ds : List PyData} {i : Nat} {d : PyData}, Reps K G vs ds → ds[i]? = some d → ∃ v, vs[i]? = some v ∧ Rep K G v d
  | _, _, _, _, .nil, e => by simp at e
  | _, _, 0, _, .cons r _, e => by simp at e; subst e; exact ⟨_, rfl, r⟩
  | _, _, i + 1, d, .cons _ t, e => by
    obtain ⟨v, h1, h2⟩ := Reps.get (i := i) (d := d) t (by simpa using e)
    exact ⟨v, by simpa using h1, h2⟩
theorem Reps.get' : ∀ {vs : List V} {ds : List PyData} {i : Nat} {v : V}, Reps K G vs ds → vs[i]? = some v → ∃ d, ds[i]? = some d ∧ Rep K G v d
  | _, _, _, _, .nil, e => by simp at e
  | _, _, 0, _, .cons r _, e => by simp at e; subst e; exact ⟨_, rfl, r⟩
  | _, _, i + 1, v, .cons _ t, e => by
    obtain ⟨d, h1, h2⟩ := Reps.get' (i := i) (v := v) t (by simpa using e)
    exact ⟨d, by simpa using h1, h2⟩
theorem Reps.setAt : ∀ {vs : List V} {ds : List PyData} (i : Nat) {v : V} {d : PyData}, Reps K G vs ds → Rep K G v d → Reps K G (vs.set i v) (ds.set i d)
  | _, _, _, _, _, .nil, _ => .nil
  | _, _, 0, _, _, .cons _ t, r => .cons r t
  | _, _, i + 1, _, _, .cons q t, r => .cons q (Reps.setAt i t r)
theorem Reps.takeN : ∀ {vs : List V} {ds : List PyData} (n : Nat), Reps K G vs ds → Reps K G (vs.take n) (ds.take n)
  | _, _, 0, _ => .nil
  | _, _, _ + 1, .nil => .nil
  | _, _, n + 1, .cons r t => .cons r (Reps.takeN n t)
theorem Reps.dropN : ∀ {vs : List V} {ds : List PyData} (n : Nat), Reps K G vs ds → Reps K G (vs.drop n) (ds.drop n)
  | _, _, 0, r => r
  | _, _, _ + 1, .nil => .nil
  | _, _, n + 1, .cons _ t => Reps.dropN n t
theorem Reps.rev : ∀ {vs : List V} {ds : List PyData}, Reps K G vs ds → Reps K G vs.reverse ds.reverse
  | _, _, .nil => .nil
  | _, _, .cons r t => by
    rw [List.reverse_cons, List.reverse_cons]
    exact Reps.app (Reps.rev t) (.cons r .nil)
theorem reps_ints : ∀ ns : List Int, Reps K G (ns.map V.int) (ns.map PyData.int)
  | [] => .nil
  | n :: ns => .cons (.int n) (reps_ints ns)
theorem reps_ints_inv : ∀ {ns : List Int} {vs : List V}, Reps K G vs (ns.map PyData.int) → vs = ns.map V.int
  | [], _, h => by cases h; rfl
  | n :: ns, _, h => by
    cases h with
    | cons h1 h2 => cases h1; rw [reps_ints_inv h2]; rfl
theorem reps_bools_inv : ∀ {ns : List Bool} {vs : List V}, Reps K G vs (ns.map PyData.bool) → vs = ns.map V.bl
  | [], _, h => by cases h; rfl
  | n :: ns, _, h => by
    cases h with
    | cons h1 h2 => cases h1; rw [reps_bools_inv h2]; rfl
theorem reps_strs_inv : ∀ {ns : List Str} {vs : List V}, Reps K G vs (ns.map PyData.str) → vs = ns.map V.str
  | [], _, h => by cases h; rfl
  | n :: ns, _, h => by
    cases h with
    | cons h1 h2 => cases h1; rw [reps_strs_inv h2]; rfl
end

/-- a thing of one's own kind that a frame owns: what is true of the heap at its addresses -/
structure Res where
  P : PySem.W.Frag → Hp → Hp → Addr → List Addr → Prop
  keep : ∀ {K : PySem.W.Frag} {G H G' H' : Hp} {a : Addr} {fp : List Addr}, Same G G' → (∀ b ∈ fp, ∀ o, H b = some o → H' b = some o) → P K G H a fp → P K G' H' a fp

/-- a slot: nothing; a datum; a list of the frame's own (io: it came in by this parameter and goes out by it); a thing of one's own kind -/
inductive SD where
  | no | val (d : PyData) | own (io : Bool) (ds : List PyData) | res (io : Bool) (r : Res)
abbrev DSt := List SD

/-- the world of a frame: the part of the heap that stays, the heap, each slot's own addresses -/
structure Wd where
  G : Hp
  H : Hp
  F : Nat → List Addr

/-- the values of the parameters as they came; what is new since the entry -/
structure Par where
  σ0 : St
  N : Addr → Prop
/-- a slot and what it holds; v0: the parameter as it came; N: what is new since the entry -/
def slotOk (K : PySem.W.Frag) (v0 : Option (Option V)) (N : Addr → Prop) (w : Wd) (fp : List Addr) (v : Option (Option V)) : SD → Prop
  | .no => fp = []
  | .val d => fp = [] ∧ ∃ u, v = some (some u) ∧ Rep K w.G u d
  | .own io ds => ∃ a vs, v = some (some (.ref a)) ∧ fp = [a] ∧ w.H a = some (.lst vs) ∧ Reps K w.G vs ds ∧ ((io = true → v0 = some (some (.ref a))) ∧ (io = false → N a))
  | .res io r => ∃ a, v = some (some (.ref a)) ∧ r.P K w.G w.H a fp ∧ ((io = true → v0 = some (some (.ref a))) ∧ (io = false → ∀ b ∈ fp, N b))

structure FI (K : PySem.W.Frag) (P : Par) (w : Wd) (σ : St) (ρ : DSt) : Prop where
  gh : Same w.G w.H
  len : σ.length = ρ.length
  ok : ∀ i s, ρ[i]? = some s → slotOk K P.σ0[i]? P.N w (w.F i) σ[i]? s
  out : ∀ i, ρ.length ≤ i → w.F i = []
  foot : ∀ i b, b ∈ w.F i → w.G b = none ∧ w.H b ≠ none
  sep : ∀ i j b, i ≠ j → b ∈ w.F i → b ∉ w.F j

/-- how a world goes on -/
structure Stp (w w' : Wd) : Prop where
  g : Same w.G w'.G
  gf : ∀ b, w.H b ≠ none → w.G b = none → (∀ i, b ∉ w.F i) → w'.G b = none
  h : ∀ b o, w.H b = some o → (∀ i, b ∉ w.F i) → w'.H b = some o
  t : ∀ b, w.H b ≠ none → w'.H b ≠ none
  f : ∀ i b, b ∈ w'.F i → b ∈ w.F i ∨ w.H b = none
theorem Stp.refl (w : Wd) : Stp w w := ⟨fun _ _ h => h, fun _ _ h _ => h, fun _ _ h _ => h, fun _ h => h, fun _ _ h => .inl h⟩
theorem Stp.trans {w w1 w2 : Wd} (a : Stp w w1) (b : Stp w1 w2) : Stp w w2 := by
  have nf : ∀ c, w.H c ≠ none → (∀ i, c ∉ w.F i) → ∀ i, c ∉ w1.F i := fun c h n i z => by
    rcases a.f i c z with q | q
    · exact n i q
    · exact h q
  refine ⟨fun c o h => b.g c o (a.g c o h), fun c h g n => b.gf c (a.t c h) (a.gf c h g n) (nf c h n), fun c o h n => b.h c o (a.h c o h n) (nf c (by rw [h]; exact fun z => nomatch z) n), fun c h => b.t c (a.t c h), fun i c z => ?_⟩
  rcases b.f i c z with q | q
  · exact a.f i c q
  · refine .inr ?_
    cases e : w.H c with
    | none => rfl
    | some o => exact absurd q (a.t c (by rw [e]; exact fun z => nomatch z))

/-- what an expression gives: a datum; the slot of a name -/
inductive R where
  | d (x : PyData) | s (i : Nat)
def RepR (K : PySem.W.Frag) (w : Wd) (σ : St) (v : V) : R → Prop
  | .d x => Rep K w.G v x
  | .s i => σ[i]? = some (some v)
theorem RepR.step {K : PySem.W.Frag} {w w' : Wd} {σ : St} {v : V} {r : R} (s : Stp w w') (h : RepR K w σ v r) : RepR K w' σ v r := by
  cases r with
  | d x => exact rep_mono s.g _ _ h
  | s i => exact h

/-- what is seen at a result: a datum -/
def vw (ρ : DSt) (r : R) (k : PyData → Prop) : Prop := match r with
  | .d x => k x
  | .s i => match ρ[i]? with
    | some (.val d) => k d
    | some (.own _ ds) => k (.list ds)
    | _ => False
/-- a value seen: a list by its items (the list itself may be the frame's own), else as it is -/
def Top (K : PySem.W.Frag) (w : Wd) (v : V) : PyData → Prop
  | .list ds => ∃ a vs, v = .ref a ∧ w.H a = some (.lst vs) ∧ Reps K w.G vs ds
  | d => Rep K w.G v d
theorem rep_top {K : PySem.W.Frag} {w : Wd} {v : V} {d : PyData} (gh : Same w.G w.H) (h : Rep K w.G v d) : Top K w v d := by
  cases d with
  | list ds =>
    cases h with
    | lst hs ha => exact ⟨_, _, rfl, gh _ _ hs, ha⟩
  | _ => exact h
theorem vw_top {K : PySem.W.Frag} {P : Par} {w : Wd} {σ : St} {ρ : DSt} {v : V} {r : R} {k : PyData → Prop} (I : FI K P w σ ρ) (h : RepR K w σ v r) (q : vw ρ r k) : ∃ d, Top K w v d ∧ k d := by
  cases r with
  | d x => exact ⟨x, rep_top I.gh h, q⟩
  | s i =>
    have h : σ[i]? = some (some v) := h
    have q : (match ρ[i]? with
      | some (.val d) => k d
      | some (.own _ ds) => k (.list ds)
      | _ => False) := q
    cases e : ρ[i]? with
    | none => rw [e] at q; exact q.elim
    | some s =>
      rw [e] at q
      have ok := I.ok i s e
      cases s with
      | no => exact q.elim
      | res _ _ => exact q.elim
      | val d =>
        obtain ⟨_, u, e2, hr⟩ := ok
        rw [h] at e2
        cases e2
        exact ⟨d, rep_top I.gh hr, q⟩
      | own io ds =>
        obtain ⟨a, vs, e2, _, hh, hr, _⟩ := ok
        rw [h] at e2
        cases e2
        exact ⟨.list ds, ⟨a, vs, rfl, hh, hr⟩, q⟩
/-- seen in the whole heap -/
theorem Top.rep {K : PySem.W.Frag} {w : Wd} {v : V} {d : PyData} (gh : Same w.G w.H) (h : Top K w v d) : Rep K w.H v d := by
  cases d with
  | list ds =>
    obtain ⟨a, vs, rfl, hs, hr⟩ := h
    exact .lst hs (reps_mono gh _ _ hr)
  | none => exact rep_mono gh _ _ h
  | bool b => exact rep_mono gh _ _ h
  | int i => exact rep_mono gh _ _ h
  | str x => exact rep_mono gh _ _ h
  | tuple ds => exact rep_mono gh _ _ h
  | dict _ => exact rep_mono gh _ _ h

/-- a slot's tie behind a change of the world that leaves its own addresses -/
theorem slotOk.go {K : PySem.W.Frag} {v0 v : Option (Option V)} {N : Addr → Prop} {w w' : Wd} {fp : List Addr} {s : SD} (h : slotOk K v0 N w fp v s) (g : Same w.G w'.G) (hh : ∀ b ∈ fp, ∀ o, w.H b = some o → w'.H b = some o) : slotOk K v0 N w' fp v s := by
  cases s with
  | no => exact h
  | val d =>
    obtain ⟨h1, u, h2, h3⟩ := h
    exact ⟨h1, u, h2, rep_mono g _ _ h3⟩
  | own io ds =>
    obtain ⟨a, vs, h1, h2, h3, h4, h5⟩ := h
    exact ⟨a, vs, h1, h2, hh a (by rw [h2]; exact List.mem_cons_self) _ h3, reps_mono g _ _ h4, h5⟩
  | res io r =>
    obtain ⟨a, h1, h2, h3⟩ := h
    exact ⟨a, h1, r.keep g hh h2, h3⟩

/-! ### new objects -/
section
variable {K : PySem.W.Frag} {P : Par} {w : Wd} {σ : St} {ρ : DSt} {p : Addr} {o : HO}
theorem FI.fresh (I : FI K P w σ ρ) (hp : w.H p = none) : w.G p = none ∧ ∀ i b, b ∈ w.F i → b ≠ p :=
  ⟨I.gh.free hp, fun i b hb z => (I.foot i b hb).2 (by rw [z]; exact hp)⟩
theorem same_new {H : Hp} (h : H p = none) : Same H (upd H p o) := fun b u e => by rw [upd_ne (ne_of_none e h)]; exact e
theorem there_new {H : Hp} (b : Addr) (h : H b ≠ none) : upd H p o b ≠ none := by
  by_cases e : b = p
  · subst e; rw [upd_same]; exact fun z => nomatch z
  · rw [upd_ne e]; exact h
/-- a new object that stays -/
theorem FI.new (I : FI K P w σ ρ) (hp : w.H p = none) : FI K P ⟨upd w.G p o, upd w.H p o, w.F⟩ σ ρ ∧ Stp w ⟨upd w.G p o, upd w.H p o, w.F⟩ := by
  obtain ⟨hg, np⟩ := I.fresh hp
  refine ⟨⟨fun b u h => ?_, I.len, fun i s e => (I.ok i s e).go (same_new hg) fun b _ u h => same_new hp b u h, I.out, fun i b hb => ⟨?_, there_new b (I.foot i b hb).2⟩, I.sep⟩,
    ⟨same_new hg, fun b h1 h2 _ => ?_, fun b u h _ => same_new hp b u h, there_new, fun i b hb => .inl hb⟩⟩
  · have h : upd w.G p o b = some u := h
    show upd w.H p o b = some u
    by_cases e : b = p
    · subst e
      rw [upd_same] at h ⊢
      exact h
    · rw [upd_ne e] at h ⊢
      exact I.gh b u h
  · show upd w.G p o b = none
    rw [upd_ne (np i b hb)]; exact (I.foot i b hb).1
  · show upd w.G p o b = none
    rw [upd_ne (fun z => h1 (by rw [z]; exact hp))]; exact h2
/-- slot i holds v from now on: a datum -/
theorem FI.set (I : FI K P w σ ρ) {i : Nat} {v : V} {d : PyData} (h : Rep K w.G v d) : FI K P ⟨w.G, w.H, fun j => if j = i then [] else w.F j⟩ (σ.set i (some v)) (ρ.set i (.val d)) ∧ Stp w ⟨w.G, w.H, fun j => if j = i then [] else w.F j⟩ := by
  have sub : ∀ j b, b ∈ (if j = i then ([] : List Addr) else w.F j) → b ∈ w.F j := fun j b hb => by
    by_cases e : j = i
    · rw [if_pos e] at hb; cases hb
    · rw [if_neg e] at hb; exact hb
  refine ⟨⟨I.gh, by rw [List.length_set, List.length_set]; exact I.len, fun j s e => ?_, fun j hj => ?_, fun j b hb => I.foot j b (sub j b hb), fun j l b hjl hb hb' => I.sep j l b hjl (sub j b hb) (sub l b hb')⟩,
    ⟨fun _ _ h => h, fun _ _ h _ => h, fun _ _ h _ => h, fun _ h => h, fun j b hb => .inl (sub j b hb)⟩⟩
  · by_cases hj : i = j
    · subst hj
      have hlt : i < ρ.length := by
        rcases Nat.lt_or_ge i ρ.length with q | q
        · exact q
        · rw [List.getElem?_eq_none (by rw [List.length_set]; exact q)] at e; cases e
      rw [List.getElem?_set_self hlt] at e
      cases e
      rw [List.getElem?_set_self (by rw [I.len]; exact hlt)]
      exact ⟨if_pos rfl, v, rfl, h⟩
    · rw [List.getElem?_set_ne hj] at e
      rw [List.getElem?_set_ne hj]
      have ok := I.ok j s e
      show slotOk K P.σ0[j]? P.N _ (if j = i then [] else w.F j) σ[j]? s
      rw [if_neg (Ne.symm hj)]
      exact ok.go (fun _ _ h => h) fun _ _ _ h => h
  · show (if j = i then [] else w.F j) = []
    by_cases e : j = i
    · rw [if_pos e]
    · rw [if_neg e]; exact I.out j (by rw [← List.length_set (as := ρ)]; exact hj)
/-- a slot's own list comes to what stays -/
theorem FI.freeze (I : FI K P w σ ρ) {i : Nat} {ds : List PyData} (h : ρ[i]? = some (.own false ds)) :
    ∃ a vs, σ[i]? = some (some (.ref a)) ∧ w.H a = some (.lst vs) ∧ FI K P ⟨upd w.G a (.lst vs), w.H, fun j => if j = i then [] else w.F j⟩ σ (ρ.set i (.val (.list ds))) ∧
      Stp w ⟨upd w.G a (.lst vs), w.H, fun j => if j = i then [] else w.F j⟩ ∧ Rep K (upd w.G a (.lst vs)) (.ref a) (.list ds) := by
  obtain ⟨a, vs, h1, h2, h3, h4, _⟩ := I.ok i _ h
  have sub : ∀ j b, b ∈ (if j = i then ([] : List Addr) else w.F j) → b ∈ w.F j ∧ j ≠ i := fun j b hb => by
    by_cases e : j = i
    · rw [if_pos e] at hb; cases hb
    · rw [if_neg e] at hb; exact ⟨hb, e⟩
  have ha : a ∈ w.F i := by rw [h2]; exact List.mem_cons_self
  have hg : w.G a = none := (I.foot i a ha).1
  have hrep : Rep K (upd w.G a (.lst vs)) (.ref a) (.list ds) := .lst upd_same (reps_mono (same_new hg) _ _ h4)
  have hlt : i < ρ.length := (List.getElem?_eq_some_iff.mp h).1
  refine ⟨a, vs, h1, h3, ⟨fun b u e => ?_, by rw [List.length_set]; exact I.len, fun j s e => ?_, fun j hj => ?_, fun j b hb => ⟨?_, (I.foot j b (sub j b hb).1).2⟩, fun j l b hjl hb hb' => I.sep j l b hjl (sub j b hb).1 (sub l b hb').1⟩,
    ⟨same_new hg, fun b e1 e2 e3 => ?_, fun _ _ h _ => h, fun _ h => h, fun j b hb => .inl (sub j b hb).1⟩, hrep⟩
  · have e : upd w.G a (.lst vs) b = some u := e
    show w.H b = some u
    by_cases q : b = a
    · subst q
      rw [upd_same] at e
      rw [h3]; exact e
    · rw [upd_ne q] at e
      exact I.gh b u e
  · by_cases hj : i = j
    · subst hj
      rw [List.getElem?_set_self hlt] at e
      cases e
      exact ⟨if_pos rfl, .ref a, h1, hrep⟩
    · rw [List.getElem?_set_ne hj] at e
      show slotOk K P.σ0[j]? P.N _ (if j = i then [] else w.F j) σ[j]? s
      rw [if_neg (Ne.symm hj)]
      exact (I.ok j s e).go (same_new hg) fun _ _ _ h => h
  · show (if j = i then [] else w.F j) = []
    by_cases e : j = i
    · rw [if_pos e]
    · rw [if_neg e]; exact I.out j (by rw [← List.length_set (as := ρ)]; exact hj)
  · obtain ⟨q1, q2⟩ := sub j b hb
    show upd w.G a (.lst vs) b = none
    rw [upd_ne (fun z => I.sep j i b q2 q1 (by rw [z]; exact ha))]
    exact (I.foot j b q1).1
  · show upd w.G a (.lst vs) b = none
    rw [upd_ne (fun z => e3 i (by rw [z]; exact ha))]
    exact e2
/-- slot i holds a new list of its own -/
theorem FI.setOwn (I : FI K P w σ ρ) {i : Nat} {a : Addr} {vs : List V} {ds : List PyData} (hf : ∀ j, a ∉ w.F j) (hg : w.G a = none) (hh : w.H a = some (.lst vs)) (hr : Reps K w.G vs ds) (hn : P.N a) (hi : i < ρ.length) :
    FI K P ⟨w.G, w.H, fun j => if j = i then [a] else w.F j⟩ (σ.set i (some (.ref a))) (ρ.set i (.own false ds)) := by
  have sub : ∀ j b, b ∈ (if j = i then [a] else w.F j) → (j = i ∧ b = a) ∨ (j ≠ i ∧ b ∈ w.F j) := fun j b hb => by
    by_cases e : j = i
    · rw [if_pos e] at hb; exact .inl ⟨e, by simpa using hb⟩
    · rw [if_neg e] at hb; exact .inr ⟨e, hb⟩
  refine ⟨I.gh, by rw [List.length_set, List.length_set]; exact I.len, fun j s e => ?_, fun j hj => ?_, fun j b hb => ?_, fun j l b hjl hb hb' => ?_⟩
  · by_cases hj : i = j
    · subst hj
      rw [List.getElem?_set_self hi] at e
      cases e
      rw [List.getElem?_set_self (by rw [I.len]; exact hi)]
      exact ⟨a, vs, rfl, if_pos rfl, hh, hr, (fun z => nomatch z), fun _ => hn⟩
    · rw [List.getElem?_set_ne hj] at e
      rw [List.getElem?_set_ne hj]
      show slotOk K P.σ0[j]? P.N _ (if j = i then [a] else w.F j) σ[j]? s
      rw [if_neg (Ne.symm hj)]
      exact (I.ok j s e).go (fun _ _ h => h) fun _ _ _ h => h
  · have hj : ρ.length ≤ j := by rw [← List.length_set (as := ρ)]; exact hj
    show (if j = i then [a] else w.F j) = []
    rw [if_neg (by omega)]
    exact I.out j hj
  · rcases sub j b hb with ⟨_, rfl⟩ | ⟨_, q⟩
    · exact ⟨hg, by rw [hh]; exact fun z => nomatch z⟩
    · exact I.foot j b q
  · rcases sub j b hb with ⟨e1, rfl⟩ | ⟨_, q⟩
    · rcases sub l b hb' with ⟨e2, _⟩ | ⟨_, q'⟩
      · exact hjl (e1.trans e2.symm)
      · exact hf l q'
    · rcases sub l b hb' with ⟨_, rfl⟩ | ⟨_, q'⟩
      · exact hf j q
      · exact I.sep j l b hjl q q'
/-- slot i's own list changes -/
theorem FI.mut (I : FI K P w σ ρ) {i : Nat} {io : Bool} {ds es : List PyData} {a : Addr} {ws : List V} (h : ρ[i]? = some (.own io ds)) (ha : σ[i]? = some (some (.ref a))) (hr : Reps K w.G ws es) :
    FI K P ⟨w.G, upd w.H a (.lst ws), w.F⟩ σ (ρ.set i (.own io es)) ∧ Stp w ⟨w.G, upd w.H a (.lst ws), w.F⟩ := by
  obtain ⟨a', vs, h1, h2, h3, h4, h5⟩ := I.ok i _ h
  rw [ha] at h1
  cases h1
  have hm : a ∈ w.F i := by rw [h2]; exact List.mem_cons_self
  have hlt : i < ρ.length := (List.getElem?_eq_some_iff.mp h).1
  have nw : ∀ b o, b ≠ a → w.H b = some o → upd w.H a (.lst ws) b = some o := fun b o n e => by rw [upd_ne n]; exact e
  refine ⟨⟨fun b u e => ?_, by rw [List.length_set]; exact I.len, fun j s e => ?_, fun j hj => I.out j (by rw [← List.length_set (as := ρ)]; exact hj), fun j b hb => ⟨(I.foot j b hb).1, ?_⟩, I.sep⟩,
    ⟨fun _ _ h => h, fun _ _ h _ => h, fun b o e n => nw b o (fun z => n i (by rw [z]; exact hm)) e, fun b e => there_new b e, fun j b hb => .inl hb⟩⟩
  · exact nw b u (fun z => by rw [z, (I.foot i a hm).1] at e; cases e) (I.gh b u e)
  · by_cases hj : i = j
    · subst hj
      rw [List.getElem?_set_self hlt] at e
      cases e
      exact ⟨a, ws, ha, h2, upd_same, hr, h5⟩
    · rw [List.getElem?_set_ne hj] at e
      exact (I.ok j s e).go (fun _ _ h => h) fun b hb o e => nw b o (fun z => I.sep j i b (Ne.symm hj) hb (by rw [z]; exact hm)) e
  · exact there_new b (I.foot j b hb).2
end

/-- a result made a datum that stays -/
def frz (ρ : DSt) (r : R) (k : PyData → DSt → Prop) : Prop := match r with
  | .d x => k x ρ
  | .s i => match ρ[i]? with
    | some (.val d) => k d ρ
    | some (.own false ds) => k (.list ds) (ρ.set i (.val (.list ds)))
    | _ => False
theorem frz_ok {K : PySem.W.Frag} {P : Par} {w : Wd} {σ : St} {ρ : DSt} {v : V} {r : R} {k : PyData → DSt → Prop} (I : FI K P w σ ρ) (h : RepR K w σ v r) (q : frz ρ r k) :
    ∃ d ρ' w', FI K P w' σ ρ' ∧ Stp w w' ∧ w'.H = w.H ∧ Rep K w'.G v d ∧ k d ρ' := by
  cases r with
  | d x => exact ⟨x, ρ, w, I, Stp.refl w, rfl, h, q⟩
  | s i =>
    have h : σ[i]? = some (some v) := h
    have q : (match ρ[i]? with
      | some (.val d) => k d ρ
      | some (.own false ds) => k (.list ds) (ρ.set i (.val (.list ds)))
      | _ => False) := q
    cases e : ρ[i]? with
    | none => rw [e] at q; exact q.elim
    | some s =>
      rw [e] at q
      cases s with
      | no => exact q.elim
      | res _ _ => exact q.elim
      | val d =>
        obtain ⟨_, u, e2, hr⟩ := I.ok i _ e
        rw [h] at e2
        cases e2
        exact ⟨d, ρ, w, I, Stp.refl w, rfl, hr, q⟩
      | own io ds =>
        cases io with
        | true => exact q.elim
        | false =>
          obtain ⟨a, vs, h1, _, h3, h4, h5⟩ := I.freeze e
          rw [h] at h1
          cases h1
          exact ⟨_, _, _, h3, h4, rfl, h5, q⟩
end DL

end
section
set_option maxHeartbeats 4000000
/-! DLB: what expressions come to, as readings over data. -/
namespace DL
open PySem PySem.Spec L2

/-- an exception: its class, its fields -/
structure Exd where
  C : Addr
  fs : List (Str × PyData)
def RepF (K : PySem.W.Frag) (G : Hp) : List (Str × V) → List (Str × PyData) → Prop := Paired fun p q => p.1 = q.1 ∧ Rep K G p.2 q.2
def RepE (K : PySem.W.Frag) (w : Wd) (cls : Value) (d : Option Addr) (e : Exd) : Prop :=
  cls = .ref e.C ∧ ((e.fs = [] ∧ d = none) ∨ ∃ dd fvs, e.fs ≠ [] ∧ d = some dd ∧ w.G dd = some (.xd fvs) ∧ RepF K w.G fvs e.fs)
abbrev WD := Exd → DSt → Prop

/-- what a derivation leans on: the parameters, the worlds that may come, what is wished of an exception -/
structure DC (X : Cx) where
  P : Par
  A : Wd → Prop
  cl : ∀ w w', A w → Stp w w' → A w'
  nw : ∀ w p, A w → w.H p = none → P.N p
  gd : X.A.guards = some []
  calm : X.calm = true
  nd : X.N.Nodup
  un : X.A.units + 100 < cLine
  W : WD
  WH : WX
  tk : Takes X WH
  hW : ∀ e ρ σ w cls d, A w → FI X.K P w σ ρ → RepE X.K w cls d e → W e ρ → WH cls d σ w.H

abbrev TED := DSt → (R → DSt → Prop) → Prop
abbrev TTD := DSt → (Bool → DSt → Prop) → Prop
abbrev TND := DSt → (List PyData → DSt → Prop) → Prop
inductive RepRs (K : PySem.W.Frag) (w : Wd) (σ : St) : List V → List R → Prop
  | nil : RepRs K w σ [] []
  | cons {v vs r rs} : RepR K w σ v r → RepRs K w σ vs rs → RepRs K w σ (v :: vs) (r :: rs)

section
variable {X : Cx}
structure DE (C : DC X) (e : Expr) (te : TE) (t : TED) : Prop where
  pe : PE X e te
  run : ∀ (w : Wd) (σ : St) (ρ : DSt) (Q : VK) (QD : R → DSt → Prop), C.A w → FI X.K C.P w σ ρ → t ρ QD →
    (∀ v r w' ρ', Stp w w' → FI X.K C.P w' σ ρ' → RepR X.K w' σ v r → QD r ρ' → Q v w'.H) → te σ w.H Q
structure DT (C : DC X) (e : Expr) (tt : TT) (t : TTD) : Prop where
  pt : PT X e tt
  run : ∀ (w : Wd) (σ : St) (ρ : DSt) (Q : Bool → Hp → Prop) (QD : Bool → DSt → Prop), C.A w → FI X.K C.P w σ ρ → t ρ QD →
    (∀ b w' ρ', Stp w w' → FI X.K C.P w' σ ρ' → QD b ρ' → Q b w'.H) → tt σ w.H Q
/-- and, or: whatever the whole is -/
structure DW (C : DC X) (e : Expr) (tt : TT) (t : TTD) : Prop where
  pw : PW X e tt
  run : ∀ (w : Wd) (σ : St) (ρ : DSt) (Q : Bool → Hp → Prop) (QD : Bool → DSt → Prop), C.A w → FI X.K C.P w σ ρ → t ρ QD →
    (∀ b w' ρ', Stp w w' → FI X.K C.P w' σ ρ' → QD b ρ' → Q b w'.H) → tt σ w.H Q
/-- a new list that nobody else holds -/
structure DN (C : DC X) (e : Expr) (te : TE) (t : TND) : Prop where
  pe : PE X e te
  run : ∀ (w : Wd) (σ : St) (ρ : DSt) (Q : VK) (QD : List PyData → DSt → Prop), C.A w → FI X.K C.P w σ ρ → t ρ QD →
    (∀ a vs ds w' ρ', Stp w w' → FI X.K C.P w' σ ρ' → w.H a = none → w'.G a = none → (∀ i, a ∉ w'.F i) → w'.H a = some (.lst vs) → Reps X.K w'.G vs ds → QD ds ρ' → Q (.ref a) w'.H) → te σ w.H Q
/-- arguments, items: data that stay -/
structure DA (C : DC X) (es : List Expr) (ta : TA) (t : TND) : Prop where
  pa : PA X es ta
  run : ∀ (w : Wd) (σ : St) (ρ : DSt) (Q : List V → Hp → Prop) (QD : List PyData → DSt → Prop), C.A w → FI X.K C.P w σ ρ → t ρ QD →
    (∀ vs ds w' ρ', Stp w w' → FI X.K C.P w' σ ρ' → Reps X.K w'.G vs ds → QD ds ρ' → Q vs w'.H) → ta σ w.H Q

variable {C : DC X} {a b c e : Expr} {ta tb tc te : TE} {da db dc de : TED} {pos : Pos}

/-! ### names, constants -/
def dVar (i : Nat) : TED := fun ρ Q => (match ρ[i]? with | some (.val _) => True | some (.own _ _) => True | _ => False) ∧ Q (.s i) ρ
theorem slot_there {K : PySem.W.Frag} {P : Par} {w : Wd} {σ : St} {ρ : DSt} {i : Nat} (I : FI K P w σ ρ) (h : match ρ[i]? with | some (.val _) => True | some (.own _ _) => True | _ => False) : ∃ v, σ[i]? = some (some v) := by
  cases e : ρ[i]? with
  | none => rw [e] at h; exact h.elim
  | some s =>
    rw [e] at h
    have ok := I.ok i s e
    cases s with
    | no => exact h.elim
    | res _ _ => exact h.elim
    | val d =>
      obtain ⟨_, u, e2, _⟩ := ok
      exact ⟨u, e2⟩
    | own io ds =>
      obtain ⟨a, vs, e2, _⟩ := ok
      exact ⟨_, e2⟩
theorem de_var (i : Nat) {x : Str} (hN : X.N[i]? = some x := by rfl) (hv : Vis X.env.scope x := by first | exact Or.inl rfl | exact Or.inr (Or.inl rfl) | exact Or.inr (Or.inr rfl)) (hd : (x == ("__debug__" : Str)) = false := by decide)
    (hcd : (x == ("__classdict__" : Str)) = false := by decide) : DE C (.Name x pos) (tVar i) (dVar i) := by
  refine ⟨pe_var hN hv hd hcd, fun w σ ρ Q QD hA I h k => ?_⟩
  obtain ⟨h1, h2⟩ := h
  obtain ⟨v, e⟩ := slot_there I h1
  exact ⟨v, e, k v (.s i) w ρ (Stp.refl w) I e h2⟩
def dC (d : PyData) : TED := fun ρ Q => Q (.d d) ρ
theorem de_c {v : V} {d : PyData} (h : PE X e (tC v)) (hr : ∀ G, Rep X.K G v d) : DE C e (tC v) (dC d) :=
  ⟨h, fun w σ ρ Q QD hA I q k => k v (.d d) w ρ (Stp.refl w) I (hr _) q⟩
theorem de_int {i j} : DE C (.Constant (.int i) j pos) (tC (.int i)) (dC (.int i)) := de_c pe_int fun _ => .int i
theorem de_bl {i j} : DE C (.Constant (.bool i) j pos) (tC (.bl i)) (dC (.bool i)) := de_c pe_bl fun _ => .bl i
theorem de_non {j} : DE C (.Constant .none j pos) (tC .non) (dC .none) := de_c pe_non fun _ => .non
theorem de_str {x j} : DE C (.Constant (.str x) j pos) (tC (.str x)) (dC (.str x)) := de_c pe_str fun _ => .str x
/-- a constant of the module -/
theorem de_glob {x : Str} {v : V} {u : Value} {d : PyData} (hg : Gl X x) (hm : X.mg x = some u) (r : RelV v u) (hr : ∀ G, Rep X.K G v d) (hd : (x == ("__debug__" : Str)) = false := by decide) : DE C (.Name x pos) (tC v) (dC d) :=
  de_c (pe_glob hg hm r hd) hr

/-! ### two operands -/
/-- an operation on two data -/
def dOp (f : PyData → PyData → (PyData → Prop) → Prop) (da db : TED) : TED := fun ρ Q => da ρ fun r1 ρ1 => db ρ1 fun r2 ρ2 => vw ρ2 r1 fun x => vw ρ2 r2 fun y => f x y fun z => Q (.d z) ρ2
/-- a rule by values serves an operation on data -/
def OpD (X : Cx) (C : DC X) (r : R2) (f : PyData → PyData → (PyData → Prop) → Prop) : Prop :=
  ∀ (w : Wd) (σ : St) (ρ : DSt) (u v : V) (x y : PyData) (Q : VK) (kd : PyData → Prop), C.A w → FI X.K C.P w σ ρ → Top X.K w u x → Top X.K w v y → f x y kd →
    (∀ z d w', Stp w w' → FI X.K C.P w' σ ρ → Rep X.K w'.G z d → kd d → Q z w'.H) → r u v w.H Q
theorem op_run {r : R2} {f : PyData → PyData → (PyData → Prop) → Prop} (hr : OpD X C r f) (ha : DE C a ta da) (hb : DE C b tb db) :
    ∀ (w : Wd) (σ : St) (ρ : DSt) (Q : VK) (QD : R → DSt → Prop), C.A w → FI X.K C.P w σ ρ → dOp f da db ρ QD →
    (∀ v r w' ρ', Stp w w' → FI X.K C.P w' σ ρ' → RepR X.K w' σ v r → QD r ρ' → Q v w'.H) → tOp r ta tb σ w.H Q := by
  intro w σ ρ Q QD hA I q k
  refine ha.run w σ ρ _ _ hA I q fun u r1 w1 ρ1 s1 I1 R1 q1 => ?_
  refine hb.run w1 σ ρ1 _ _ (C.cl _ _ hA s1) I1 q1 fun v r2 w2 ρ2 s2 I2 R2 q2 => ?_
  obtain ⟨x, tx, q3⟩ := vw_top I2 (R1.step s2) q2
  obtain ⟨y, ty, q4⟩ := vw_top I2 R2 q3
  exact hr w2 σ ρ2 u v x y Q _ (C.cl _ _ (C.cl _ _ hA s1) s2) I2 tx ty q4 fun z d w3 s3 I3 R3 q5 => k z (.d d) w3 ρ2 ((s1.trans s2).trans s3) I3 R3 q5
theorem de_op {op : Operator} {r : R2} {f : PyData → PyData → (PyData → Prop) → Prop} (ho : OpR X (binaryOp op) r ∧ OpD X C r f) (ha : DE C a ta da) (hb : DE C b tb db) : DE C (.BinOp a op b pos) (tOp r ta tb) (dOp f da db) :=
  ⟨pe_op ho.1 ha.pe hb.pe, op_run ho.2 ha hb⟩
theorem de_cmp {op : CmpOp} {r : R2} {f : PyData → PyData → (PyData → Prop) → Prop} (ho : OpR X (compareOp op) r ∧ OpD X C r f) (ha : DE C a ta da) (hb : DE C b tb db) (hm : behindInMarks op b = false) : DE C (.Compare a [op] [b] pos) (tOp r ta tb) (dOp f da db) :=
  ⟨pe_cmpR ho.1 ha.pe hb.pe hm, op_run ho.2 ha hb⟩
def dTest (t : TED) : TTD := fun ρ Q => t ρ fun r ρ1 => vw ρ1 r fun x => match x with | .bool k => Q k ρ1 | _ => False
theorem test_run (ha : DE C a ta da) : ∀ (w : Wd) (σ : St) (ρ : DSt) (Q : Bool → Hp → Prop) (QD : Bool → DSt → Prop), C.A w → FI X.K C.P w σ ρ → dTest da ρ QD →
    (∀ b w' ρ', Stp w w' → FI X.K C.P w' σ ρ' → QD b ρ' → Q b w'.H) → tTest ta σ w.H Q := by
  intro w σ ρ Q QD hA I q k
  refine ha.run w σ ρ _ _ hA I q fun u r1 w1 ρ1 s1 I1 R1 q1 => ?_
  obtain ⟨x, tx, q2⟩ := vw_top I1 R1 q1
  cases x with
  | bool z =>
    cases tx
    exact ⟨z, rfl, k z w1 ρ1 s1 I1 q2⟩
  | _ => exact q2.elim
theorem dt_cmp {op : CmpOp} {r : R2} {f : PyData → PyData → (PyData → Prop) → Prop} (ho : OpR X (compareOp op) r ∧ OpD X C r f) (ha : DE C a ta da) (hb : DE C b tb db) (hm : behindInMarks op b = false) : DT C (.Compare a [op] [b] pos) (tTest (tOp r ta tb)) (dTest (dOp f da db)) :=
  ⟨pt_cmpR ho.1 ha.pe hb.pe hm, test_run (de_cmp (pos := pos) ho ha hb hm)⟩

/-! ### ints -/
def int2 (f : Int → Int → (PyData → Prop) → Prop) (x y : PyData) (k : PyData → Prop) : Prop := match x, y with
  | .int i, .int j => f i j k
  | _, _ => False
theorem int2_inv {f : Int → Int → (PyData → Prop) → Prop} {x y : PyData} {k : PyData → Prop} (h : int2 f x y k) : ∃ i j, x = .int i ∧ y = .int j ∧ f i j k := by
  unfold int2 at h
  split at h
  · exact ⟨_, _, rfl, rfl, h⟩
  · exact h.elim
/-- an operation on ints, under Cd -/
def dI (Cd : Int → Int → Prop) (g : Int → Int → Int) : PyData → PyData → (PyData → Prop) → Prop := int2 fun i j k => Cd i j ∧ k (.int (g i j))
def dI0 (g : Int → Int → Int) : PyData → PyData → (PyData → Prop) → Prop := int2 fun i j k => k (.int (g i j))
def dB0 (g : Int → Int → Bool) : PyData → PyData → (PyData → Prop) → Prop := int2 fun i j k => k (.bool (g i j))
theorem opd_I {Cd : Int → Int → Prop} {g : Int → Int → Int} : OpD X C (rI Cd fun i j => .int (g i j)) (dI Cd g) := by
  intro w σ ρ u v x y Q kd hA I tx ty h k
  obtain ⟨i, j, rfl, rfl, hc, q⟩ := int2_inv h
  cases tx
  cases ty
  exact ⟨i, j, rfl, rfl, hc, k _ (.int (g i j)) w (Stp.refl w) I (.int _) q⟩
theorem opd_I0 {g : Int → Int → Int} : OpD X C (rI0 fun i j => .int (g i j)) (dI0 g) := by
  intro w σ ρ u v x y Q kd hA I tx ty h k
  obtain ⟨i, j, rfl, rfl, q⟩ := int2_inv h
  cases tx
  cases ty
  exact ⟨i, j, rfl, rfl, k _ (.int (g i j)) w (Stp.refl w) I (.int _) q⟩
theorem opd_B0 {g : Int → Int → Bool} : OpD X C (rI0 fun i j => .bl (g i j)) (dB0 g) := by
  intro w σ ρ u v x y Q kd hA I tx ty h k
  obtain ⟨i, j, rfl, rfl, q⟩ := int2_inv h
  cases tx
  cases ty
  exact ⟨i, j, rfl, rfl, k _ (.bool (g i j)) w (Stp.refl w) I (.bl _) q⟩
theorem od_add : OpR X (binaryOp .Add) (rI0 fun i j => .int (i + j)) ∧ OpD X C (rI0 fun i j => .int (i + j)) (dI0 fun i j => i + j) := ⟨op_add, opd_I0⟩
theorem od_sub : OpR X (binaryOp .Sub) (rI0 fun i j => .int (i - j)) ∧ OpD X C (rI0 fun i j => .int (i - j)) (dI0 fun i j => i - j) := ⟨op_sub, opd_I0⟩
theorem od_mul : OpR X (binaryOp .Mult) (rI CMulW fun i j => .int (i * j)) ∧ OpD X C (rI CMulW fun i j => .int (i * j)) (dI CMulW fun i j => i * j) := ⟨op_mulW, opd_I⟩
/-- // by a divisor of less than 9000 bits -/
def CDivF (_ j : Int) : Prop := j ≠ 0 ∧ j.natAbs.log2 < 9000
theorem op_fdivF : OpR X (binaryOp .FloorDiv) (rI CDivF fun i j => .int (i.fdiv j)) := opI fun _ _ _ _ _ _ _ hc q => PyProof.Rows.floordiv_int hc.1 q (.inl (PyProof.noPylong_of_log2 hc.2))
theorem od_fdiv : OpR X (binaryOp .FloorDiv) (rI CDivF fun i j => .int (i.fdiv j)) ∧ OpD X C (rI CDivF fun i j => .int (i.fdiv j)) (dI CDivF fun i j => i.fdiv j) := ⟨op_fdivF, opd_I⟩
theorem od_mod : OpR X (binaryOp .Mod) (rI (fun _ j => j ≠ 0) fun i j => .int (i.fmod j)) ∧ OpD X C (rI (fun _ j => j ≠ 0) fun i j => .int (i.fmod j)) (dI (fun _ j => j ≠ 0) fun i j => i.fmod j) := ⟨op_modN, opd_I⟩
theorem od_pow : OpR X (binaryOp .Pow) (rI CPow fun i j => .int (i ^ j.toNat)) ∧ OpD X C (rI CPow fun i j => .int (i ^ j.toNat)) (dI CPow fun i j => i ^ j.toNat) := ⟨op_pow, opd_I⟩
theorem od_lt : OpR X (compareOp .Lt) (rI0 fun i j => .bl (decide (i < j))) ∧ OpD X C (rI0 fun i j => .bl (decide (i < j))) (dB0 fun i j => decide (i < j)) := ⟨op_lt, opd_B0⟩
theorem od_le : OpR X (compareOp .LtE) (rI0 fun i j => .bl (decide (i ≤ j))) ∧ OpD X C (rI0 fun i j => .bl (decide (i ≤ j))) (dB0 fun i j => decide (i ≤ j)) := ⟨op_le, opd_B0⟩
theorem od_gt : OpR X (compareOp .Gt) (rI0 fun i j => .bl (decide (j < i))) ∧ OpD X C (rI0 fun i j => .bl (decide (j < i))) (dB0 fun i j => decide (j < i)) := ⟨op_gt, opd_B0⟩
theorem od_ge : OpR X (compareOp .GtE) (rI0 fun i j => .bl (decide (j ≤ i))) ∧ OpD X C (rI0 fun i j => .bl (decide (j ≤ i))) (dB0 fun i j => decide (j ≤ i)) := ⟨op_ge, opd_B0⟩
/-! ### == and != of any data -/
def dEq (x y : PyData) (k : PyData → Prop) : Prop := SeqAt.shaped x = true ∧ SeqAt.shaped y = true ∧ k (.bool (PyData.eqv x y))
def dNe (x y : PyData) (k : PyData → Prop) : Prop := SeqAt.shaped x = true ∧ SeqAt.shaped y = true ∧ k (.bool (!PyData.eqv x y))
theorem od_eq : OpR X (compareOp .Eq) (rEqD X.K) ∧ OpD X C (rEqD X.K) dEq := by
  refine ⟨op_eqD (by have := C.un; omega), fun w σ ρ u v x y Q kd hA I tx ty h k => ?_⟩
  obtain ⟨h1, h2, q⟩ := h
  exact ⟨x, y, (tx.rep I.gh).dp _ _ (PyData.hasDict_of_canLay _ (SeqAt.canLay_of_shaped h1)), (ty.rep I.gh).dp _ _ (PyData.hasDict_of_canLay _ (SeqAt.canLay_of_shaped h2)), h1, h2, k _ _ w (Stp.refl w) I (.bl _) q⟩
theorem od_ne : OpR X (compareOp .NotEq) (rNeD X.K) ∧ OpD X C (rNeD X.K) dNe := by
  refine ⟨op_neD (by have := C.un; omega), fun w σ ρ u v x y Q kd hA I tx ty h k => ?_⟩
  obtain ⟨h1, h2, q⟩ := h
  exact ⟨x, y, (tx.rep I.gh).dp _ _ (PyData.hasDict_of_canLay _ (SeqAt.canLay_of_shaped h1)), (ty.rep I.gh).dp _ _ (PyData.hasDict_of_canLay _ (SeqAt.canLay_of_shaped h2)), h1, h2, k _ _ w (Stp.refl w) I (.bl _) q⟩
/-! ### tests -/
variable {ua ub : TT} {xa xb : TTD} {rest : List Expr}
def dAnd (t u : TTD) : TTD := fun ρ Q => t ρ fun b ρ1 => match b with | true => u ρ1 Q | false => Q false ρ1
def dOr (t u : TTD) : TTD := fun ρ Q => t ρ fun b ρ1 => match b with | true => Q true ρ1 | false => u ρ1 Q
def dNot (t : TTD) : TTD := fun ρ Q => t ρ fun b ρ1 => Q (!b) ρ1
theorem dw_and1 (ha : DT C a ua xa) : DW C (.BoolOp .And [a] pos) ua xa := ⟨pw_and1 ha.pt, ha.run⟩
theorem dw_or1 (ha : DT C a ua xa) : DW C (.BoolOp .Or [a] pos) ua xa := ⟨pw_or1 ha.pt, ha.run⟩
theorem dw_and (ha : DT C a ua xa) (hb : DW C (.BoolOp .And (b :: rest) pos) ub xb) : DW C (.BoolOp .And (a :: b :: rest) pos) (tAnd ua ub) (dAnd xa xb) := by
  refine ⟨pw_and ha.pt hb.pw, fun w σ ρ Q QD hA I q k => ?_⟩
  refine ha.run w σ ρ _ _ hA I q fun z w1 ρ1 s1 I1 q1 => ?_
  cases z with
  | true =>
    show ub σ w1.H Q
    exact hb.run w1 σ ρ1 _ _ (C.cl _ _ hA s1) I1 q1 fun z2 w2 ρ2 s2 I2 q2 => k z2 w2 ρ2 (s1.trans s2) I2 q2
  | false => exact k false w1 ρ1 s1 I1 q1
theorem dw_or (ha : DT C a ua xa) (hb : DW C (.BoolOp .Or (b :: rest) pos) ub xb) : DW C (.BoolOp .Or (a :: b :: rest) pos) (tOr ua ub) (dOr xa xb) := by
  refine ⟨pw_or ha.pt hb.pw, fun w σ ρ Q QD hA I q k => ?_⟩
  refine ha.run w σ ρ _ _ hA I q fun z w1 ρ1 s1 I1 q1 => ?_
  cases z with
  | false =>
    show ub σ w1.H Q
    exact hb.run w1 σ ρ1 _ _ (C.cl _ _ hA s1) I1 q1 fun z2 w2 ρ2 s2 I2 q2 => k z2 w2 ρ2 (s1.trans s2) I2 q2
  | true => exact k true w1 ρ1 s1 I1 q1
theorem DW.dt (h : DW C a ua xa) : DT C a ua xa := ⟨h.pw.pt, h.run⟩
theorem dt_not (ha : DT C a ua xa) : DT C (.UnaryOp .Not a pos) (tNot ua) (dNot xa) :=
  ⟨pt_not ha.pt, fun w σ ρ Q QD hA I q k => ha.run w σ ρ _ _ hA I q fun z w1 ρ1 s1 I1 q1 => k (!z) w1 ρ1 s1 I1 q1⟩
/-- an expression that gives a bool, as a test -/
theorem dt_val (h : DE C a ta da) (he : ∀ whole, isTrue a X.env whole = (do let v ← whole; standAt a.pos; holding [v] (truthy v)) := by intro _; rfl) : DT C a (tB ta) (dTest da) :=
  ⟨pt_val h.pe he, test_run h⟩
/-- values: and, or, not, if -/
def dAndV (da db : TED) : TED := fun ρ Q => da ρ fun r ρ1 => vw ρ1 r fun x => match x with | .bool true => db ρ1 Q | .bool false => Q (.d (.bool false)) ρ1 | _ => False
def dOrV (da db : TED) : TED := fun ρ Q => da ρ fun r ρ1 => vw ρ1 r fun x => match x with | .bool false => db ρ1 Q | .bool true => Q (.d (.bool true)) ρ1 | _ => False
def dNotV (da : TED) : TED := fun ρ Q => da ρ fun r ρ1 => vw ρ1 r fun x => match x with | .bool k => Q (.d (.bool (!k))) ρ1 | _ => False
theorem de_one {op} (h : DE C a ta da) : DE C (.BoolOp op [a] pos) ta da := ⟨pe_one h.pe, h.run⟩
theorem de_and (ha : DE C a ta da) (hb : DE C (.BoolOp .And (b :: rest) pos) tb db) : DE C (.BoolOp .And (a :: b :: rest) pos) (tAndV ta tb) (dAndV da db) := by
  refine ⟨pe_and ha.pe hb.pe, fun w σ ρ Q QD hA I q k => ?_⟩
  refine ha.run w σ ρ _ _ hA I q fun u r1 w1 ρ1 s1 I1 R1 q1 => ?_
  obtain ⟨x, tx, q2⟩ := vw_top I1 R1 q1
  cases x with
  | bool z =>
    cases tx
    cases z with
    | true => exact ⟨true, rfl, hb.run w1 σ ρ1 _ _ (C.cl _ _ hA s1) I1 q2 fun v2 r2 w2 ρ2 s2 I2 R2 q3 => k v2 r2 w2 ρ2 (s1.trans s2) I2 R2 q3⟩
    | false => exact ⟨false, rfl, k _ (.d (.bool false)) w1 ρ1 s1 I1 (.bl _) q2⟩
  | _ => exact q2.elim
theorem de_or (ha : DE C a ta da) (hb : DE C (.BoolOp .Or (b :: rest) pos) tb db) : DE C (.BoolOp .Or (a :: b :: rest) pos) (tOrV ta tb) (dOrV da db) := by
  refine ⟨pe_or ha.pe hb.pe, fun w σ ρ Q QD hA I q k => ?_⟩
  refine ha.run w σ ρ _ _ hA I q fun u r1 w1 ρ1 s1 I1 R1 q1 => ?_
  obtain ⟨x, tx, q2⟩ := vw_top I1 R1 q1
  cases x with
  | bool z =>
    cases tx
    cases z with
    | false => exact ⟨false, rfl, hb.run w1 σ ρ1 _ _ (C.cl _ _ hA s1) I1 q2 fun v2 r2 w2 ρ2 s2 I2 R2 q3 => k v2 r2 w2 ρ2 (s1.trans s2) I2 R2 q3⟩
    | true => exact ⟨true, rfl, k _ (.d (.bool true)) w1 ρ1 s1 I1 (.bl _) q2⟩
  | _ => exact q2.elim
theorem de_not (ha : DE C a ta da) : DE C (.UnaryOp .Not a pos) (tNotV ta) (dNotV da) := by
  refine ⟨pe_not ha.pe, fun w σ ρ Q QD hA I q k => ?_⟩
  refine ha.run w σ ρ _ _ hA I q fun u r1 w1 ρ1 s1 I1 R1 q1 => ?_
  obtain ⟨x, tx, q2⟩ := vw_top I1 R1 q1
  cases x with
  | bool z =>
    cases tx
    exact ⟨z, rfl, k _ (.d (.bool (!z))) w1 ρ1 s1 I1 (.bl _) q2⟩
  | _ => exact q2.elim
def dIf (t : TTD) (da db : TED) : TED := fun ρ Q => t ρ fun b ρ1 => match b with | true => da ρ1 Q | false => db ρ1 Q
theorem de_if (hc : DT C c ua xa) (ha : DE C a ta da) (hb : DE C b tb db) : DE C (.IfExp c a b pos) (tIf ua ta tb) (dIf xa da db) := by
  refine ⟨pe_ifExp hc.pt ha.pe hb.pe, fun w σ ρ Q QD hA I q k => ?_⟩
  refine hc.run w σ ρ _ _ hA I q fun z w1 ρ1 s1 I1 q1 => ?_
  cases z with
  | true =>
    show ta σ w1.H Q
    exact ha.run w1 σ ρ1 _ _ (C.cl _ _ hA s1) I1 q1 fun v2 r2 w2 ρ2 s2 I2 R2 q3 => k v2 r2 w2 ρ2 (s1.trans s2) I2 R2 q3
  | false =>
    show tb σ w1.H Q
    exact hb.run w1 σ ρ1 _ _ (C.cl _ _ hA s1) I1 q1 fun v2 r2 w2 ρ2 s2 I2 R2 q3 => k v2 r2 w2 ρ2 (s1.trans s2) I2 R2 q3
/-- -x -/
def dNeg (da : TED) : TED := fun ρ Q => da ρ fun r ρ1 => vw ρ1 r fun x => match x with | .int i => Q (.d (.int (-i))) ρ1 | _ => False
theorem de_neg (ha : DE C a ta da) : DE C (.UnaryOp .USub a pos) (tUn (rU fun i => .int (-i)) ta) (dNeg da) := by
  refine ⟨pe_un un_neg ha.pe, fun w σ ρ Q QD hA I q k => ?_⟩
  refine ha.run w σ ρ _ _ hA I q fun u r1 w1 ρ1 s1 I1 R1 q1 => ?_
  obtain ⟨x, tx, q2⟩ := vw_top I1 R1 q1
  cases x with
  | int i =>
    cases tx
    exact ⟨i, rfl, k _ (.d (.int (-i))) w1 ρ1 s1 I1 (.int _) q2⟩
  | _ => exact q2.elim

/-! ### items, displays -/
def dNil : TND := fun ρ Q => Q [] ρ
def dCons (da : TED) (dr : TND) : TND := fun ρ Q => da ρ fun r ρ1 => frz ρ1 r fun d ρ2 => dr ρ2 fun ds ρ3 => Q (d :: ds) ρ3
variable {es : List Expr} {tr : TA} {dr : TND}
theorem da_nil : DA C [] tNil dNil := ⟨pa_nil, fun w σ ρ Q QD hA I q k => k [] [] w ρ (Stp.refl w) I .nil q⟩
theorem da_cons (ha : DE C e te de) (hr : DA C es tr dr) (hs : starEach (e :: es) X.env = (false, eval e X.env) :: starEach es X.env := by rfl) : DA C (e :: es) (tCons te tr) (dCons de dr) := by
  refine ⟨pa_cons ha.pe hr.pa hs, fun w σ ρ Q QD hA I q k => ?_⟩
  refine ha.run w σ ρ _ _ hA I q fun u r1 w1 ρ1 s1 I1 R1 q1 => ?_
  obtain ⟨d, ρ2, w2, I2, s2, hh, hrep, q2⟩ := frz_ok I1 R1 q1
  rw [← hh]
  have s12 := s1.trans s2
  exact hr.run w2 σ ρ2 _ _ (C.cl _ _ hA s12) I2 q2 fun vs ds w3 ρ3 s3 I3 R3 q3 => k (u :: vs) (d :: ds) w3 ρ3 (s12.trans s3) I3 (.cons (rep_mono s3.g _ _ hrep) R3) q3
def dTup (dr : TND) : TED := fun ρ Q => dr ρ fun ds ρ1 => ds.length ≤ sizeLine ∧ Q (.d (.tuple ds)) ρ1
theorem de_tup {k0} (h : DA C es tr dr) : DE C (.Tuple es k0 pos) (tTup tr) (dTup dr) := by
  refine ⟨pe_tup h.pa, fun w σ ρ Q QD hA I q k => ?_⟩
  refine h.run w σ ρ _ _ hA I q fun vs ds w1 ρ1 s1 I1 R1 q1 => ?_
  obtain ⟨hl, q1⟩ := q1
  refine ⟨by rw [R1.len]; exact hl, fun p hp => ?_⟩
  obtain ⟨I2, s2⟩ := I1.new (o := .tup vs) hp
  exact k (.ref p) (.d (.tuple ds)) _ ρ1 (s1.trans s2) I2 (.tup (SqT.of upd_same) (reps_mono s2.g _ _ R1)) q1
def nLst (dr : TND) : TND := fun ρ Q => dr ρ fun ds ρ1 => ds.length ≤ sizeLine ∧ Q ds ρ1
theorem FI.air {P : Par} {w : Wd} {σ : St} {ρ : DSt} {p : Addr} {o : HO} (I : FI X.K P w σ ρ) (hp : w.H p = none) : FI X.K P ⟨w.G, upd w.H p o, w.F⟩ σ ρ ∧ Stp w ⟨w.G, upd w.H p o, w.F⟩ := by
  obtain ⟨hg, np⟩ := I.fresh hp
  exact ⟨⟨fun b u h => same_new hp b u (I.gh b u h), I.len, fun i s e => (I.ok i s e).go (fun _ _ h => h) fun b _ u h => same_new hp b u h, I.out, fun i b hb => ⟨(I.foot i b hb).1, there_new b (I.foot i b hb).2⟩, I.sep⟩,
    ⟨fun _ _ h => h, fun _ _ h _ => h, fun b u h _ => same_new hp b u h, there_new, fun i b hb => .inl hb⟩⟩
theorem dn_lst (h : DA C es tr dr) : DN C (.List es pos) (tLst tr) (nLst dr) := by
  refine ⟨pe_lst h.pa, fun w σ ρ Q QD hA I q k => ?_⟩
  refine h.run w σ ρ _ _ hA I q fun vs ds w1 ρ1 s1 I1 R1 q1 => ?_
  obtain ⟨hl, q1⟩ := q1
  refine ⟨by rw [R1.len]; exact hl, fun p hp => ?_⟩
  obtain ⟨I2, s2⟩ := FI.air I1 (o := .lst vs) hp
  refine k p vs ds ⟨w1.G, upd w1.H p (.lst vs), w1.F⟩ ρ1 (s1.trans s2) I2 ?_ (I1.fresh hp).1 (fun i z => (I1.fresh hp).2 i p z rfl) upd_same R1 q1
  cases e0 : w.H p with
  | none => rfl
  | some o => exact absurd hp (s1.t p (by rw [e0]; exact fun z => nomatch z))
/-- a new list, left to stay -/
def dNew (t : TND) : TED := fun ρ Q => t ρ fun ds ρ1 => Q (.d (.list ds)) ρ1
theorem stay {P : Par} {w w1 : Wd} {σ : St} {ρ : DSt} {a : Addr} {vs : List V} {ds : List PyData} (s1 : Stp w w1) (I1 : FI X.K P w1 σ ρ) (n0 : w.H a = none) (hg : w1.G a = none) (hf : ∀ i, a ∉ w1.F i) (hh : w1.H a = some (.lst vs)) (hr : Reps X.K w1.G vs ds) :
    FI X.K P ⟨upd w1.G a (.lst vs), w1.H, w1.F⟩ σ ρ ∧ Stp w ⟨upd w1.G a (.lst vs), w1.H, w1.F⟩ ∧ Rep X.K (upd w1.G a (.lst vs)) (.ref a) (.list ds) := by
  refine ⟨⟨fun b u e => ?_, I1.len, fun i s e => (I1.ok i s e).go (same_new hg) fun _ _ _ h => h, I1.out, fun i b hb => ⟨?_, (I1.foot i b hb).2⟩, I1.sep⟩,
    ⟨fun b u h => same_new hg b u (s1.g b u h), fun b h1 h2 h3 => ?_, s1.h, s1.t, s1.f⟩, .lst upd_same (reps_mono (same_new hg) _ _ hr)⟩
  · have e : upd w1.G a (.lst vs) b = some u := e
    show w1.H b = some u
    by_cases q : b = a
    · subst q
      rw [upd_same] at e
      rw [hh]; exact e
    · rw [upd_ne q] at e
      exact I1.gh b u e
  · show upd w1.G a (.lst vs) b = none
    rw [upd_ne (fun z => hf i (by rw [← z]; exact hb))]
    exact (I1.foot i b hb).1
  · show upd w1.G a (.lst vs) b = none
    rw [upd_ne (fun z => h1 (by rw [z]; exact n0))]
    exact s1.gf b h1 h2 h3
theorem de_new {t : TND} (h : DN C e te t) : DE C e te (dNew t) := by
  refine ⟨h.pe, fun w σ ρ Q QD hA I q k => ?_⟩
  refine h.run w σ ρ _ _ hA I q fun a vs ds w1 ρ1 s1 I1 n0 hg hf hh hr q1 => ?_
  obtain ⟨I2, s2, r2⟩ := stay s1 I1 n0 hg hf hh hr
  exact k (.ref a) (.d (.list ds)) ⟨upd w1.G a (.lst vs), w1.H, w1.F⟩ ρ1 s2 I2 r2 q1

/-! ### subscripts -/
def atD (x y : PyData) (k : PyData → Prop) : Prop := match x, y with
  | .tuple ds, .int i => (match atI ds i with | some d => k d | none => False)
  | .list ds, .int i => (match atI ds i with | some d => k d | none => False)
  | _, _ => False
theorem atI_rep {G : Hp} {vs : List V} {ds : List PyData} {i : Int} {d : PyData} (r : Reps X.K G vs ds) (h : atI ds i = some d) : ∃ v, atI vs i = some v ∧ Rep X.K G v d := by
  unfold atI at h ⊢
  rw [r.len]
  cases e : ixN ds.length i with
  | none => rw [e] at h; cases h
  | some j =>
    rw [e] at h
    exact r.get (show ds[j]? = some d from h)
theorem atD_inv {x y : PyData} {k : PyData → Prop} (h : atD x y k) : ∃ ds i d, (x = .tuple ds ∨ x = .list ds) ∧ y = .int i ∧ atI ds i = some d ∧ k d := by
  unfold atD at h
  split at h
  · split at h
    · exact ⟨_, _, _, .inl rfl, rfl, by assumption, h⟩
    · exact h.elim
  · split at h
    · exact ⟨_, _, _, .inr rfl, rfl, by assumption, h⟩
    · exact h.elim
  · exact h.elim
theorem de_ix (ha : DE C a ta da) (hb : DE C b tb db) (hs : PlainIx b := by intro _ _; rfl) : DE C (.Subscript a b pos) (tOp (rIx X.K) ta tb) (dOp atD da db) := by
  refine ⟨pe_ix ix_seq ha.pe hb.pe hs, op_run (fun w σ ρ u v x y Q kd hA I tx ty h k => ?_) ha hb⟩
  obtain ⟨ds, i, d, hx, rfl, hi, q⟩ := atD_inv h
  cases ty
  rcases hx with rfl | rfl
  · cases tx with
    | tup hs hr =>
      obtain ⟨z, hz, rz⟩ := atI_rep hr hi
      exact .inr (.inl ⟨_, _, i, z, rfl, rfl, sqt_mono I.gh hs, hz, k z d w (Stp.refl w) I rz q⟩)
  · obtain ⟨p, vs, rfl, hs, hr⟩ := tx
    obtain ⟨z, hz, rz⟩ := atI_rep hr hi
    exact .inl ⟨p, vs, i, z, rfl, rfl, SqL.of hs, hz, k z d w (Stp.refl w) I rz q⟩
end
end DL

end
section
set_option maxHeartbeats 4000000
/-! DLC: statements, targets, loops, comprehensions as readings over data. -/
namespace DL
open PySem PySem.Spec L2

/-- what a def gives back: a datum that stays, a new list -/
inductive Ret where
  | d (x : PyData) | n (ds : List PyData)
def RepRet (K : PySem.W.Frag) (N : Addr → Prop) (w : Wd) (v : V) : Ret → Prop
  | .d x => Rep K w.G v x
  | .n ds => ∃ a vs, v = .ref a ∧ N a ∧ w.G a = none ∧ (∀ i, a ∉ w.F i) ∧ w.H a = some (.lst vs) ∧ Reps K w.G vs ds
structure DEnds where
  nx : DSt → Prop
  rt : Ret → DSt → Prop
  bk : DSt → Prop := fun _ => False
  ct : DSt → Prop := fun _ => False
abbrev TSD := DEnds → DSt → Prop

section
variable {X : Cx}
/-- ends over data and ends over values meet, from the world w on -/
structure EndsOk (C : DC X) (w : Wd) (D : Ends) (DD : DEnds) : Prop where
  nx : ∀ w' σ' ρ', Stp w w' → FI X.K C.P w' σ' ρ' → DD.nx ρ' → D.nx σ' w'.H
  rt : ∀ v r w' σ' ρ', Stp w w' → FI X.K C.P w' σ' ρ' → RepRet X.K C.P.N w' v r → DD.rt r ρ' → D.rt v w'.H
  bk : ∀ w' σ' ρ', Stp w w' → FI X.K C.P w' σ' ρ' → DD.bk ρ' → D.bk σ' w'.H
  ct : ∀ w' σ' ρ', Stp w w' → FI X.K C.P w' σ' ρ' → DD.ct ρ' → D.ct σ' w'.H
structure DS (C : DC X) (st : Stmt) (ts : TS) (t : TSD) : Prop where
  ps : PS X st ts
  run : ∀ (w : Wd) (σ : St) (ρ : DSt) (D : Ends) (DD : DEnds), C.A w → FI X.K C.P w σ ρ → t DD ρ → EndsOk C w D DD → ts D σ w.H
structure DSs (C : DC X) (sts : List Stmt) (ts : TS) (t : TSD) : Prop where
  pss : PSs X sts ts
  run : ∀ (w : Wd) (σ : St) (ρ : DSt) (D : Ends) (DD : DEnds), C.A w → FI X.K C.P w σ ρ → t DD ρ → EndsOk C w D DD → ts D σ w.H
theorem EndsOk.step {C : DC X} {w w1 : Wd} {D : Ends} {DD : DEnds} (s : Stp w w1) (e : EndsOk C w D DD) : EndsOk C w1 D DD :=
  ⟨fun w' σ' ρ' s' => e.nx w' σ' ρ' (s.trans s'), fun v r w' σ' ρ' s' => e.rt v r w' σ' ρ' (s.trans s'), fun w' σ' ρ' s' => e.bk w' σ' ρ' (s.trans s'), fun w' σ' ρ' s' => e.ct w' σ' ρ' (s.trans s')⟩
variable {C : DC X} {st : Stmt} {rest body : List Stmt} {ts tr : TS} {t u : TSD} {a b c e tg iter : Expr} {ta te : TE} {da de : TED} {pos : Pos}

/-! ### blocks -/
def sNext : TSD := fun D ρ => D.nx ρ
def sSeq (t u : TSD) : TSD := fun D ρ => t { D with nx := u D } ρ
theorem dss_nil : DSs C [] tNext sNext := ⟨pss_nil, fun w σ ρ D DD hA I q k => k.nx w σ ρ (Stp.refl w) I q⟩
theorem dss_cons (h1 : DS C st ts t) (h2 : DSs C rest tr u) : DSs C (st :: rest) (tSeq ts tr) (sSeq t u) := by
  refine ⟨pss_cons h1.ps h2.pss, fun w σ ρ D DD hA I q k => ?_⟩
  exact h1.run w σ ρ { D with nx := tr D } { DD with nx := u DD } hA I q ⟨fun w' σ' ρ' s' I' q' => h2.run w' σ' ρ' D DD (C.cl _ _ hA s') I' q' (k.step s'), k.rt, k.bk, k.ct⟩
theorem dss_one (h1 : DS C st ts t) : DSs C [st] ts t := ⟨pss_one h1.ps, h1.run⟩
theorem ds_pass : DS C (.Pass pos) tNext sNext := ⟨ps_pass, fun w σ ρ D DD hA I q k => k.nx w σ ρ (Stp.refl w) I q⟩
def sBreak : TSD := fun D ρ => D.bk ρ
def sCont : TSD := fun D ρ => D.ct ρ
theorem ds_break : DS C (.Break pos) tBreak sBreak := ⟨ps_break, fun w σ ρ D DD hA I q k => k.bk w σ ρ (Stp.refl w) I q⟩
theorem ds_continue : DS C (.Continue pos) tCont sCont := ⟨ps_continue, fun w σ ρ D DD hA I q k => k.ct w σ ρ (Stp.refl w) I q⟩
def sDrop (de : TED) : TSD := fun D ρ => de ρ fun _ ρ1 => D.nx ρ1
theorem ds_expr (h : DE C e te de) (hs : swapsWith e none pos.line X.env = pure false := by rfl) : DS C (.Expr e pos) (tDrop te) (sDrop de) :=
  ⟨ps_expr h.pe hs, fun w σ ρ D DD hA I q k => h.run w σ ρ _ _ hA I q fun v r w1 ρ1 s1 I1 R1 q1 => k.nx w1 σ ρ1 s1 I1 q1⟩

/-! ### return -/
def sRet (de : TED) : TSD := fun D ρ => de ρ fun r ρ1 => frz ρ1 r fun d ρ2 => D.rt (.d d) ρ2
theorem ds_ret (h : DE C e te de) : DS C (.Return (some e) pos) (tRet te) (sRet de) := by
  refine ⟨ps_ret h.pe, fun w σ ρ D DD hA I q k => ?_⟩
  refine h.run w σ ρ _ _ hA I q fun v r w1 ρ1 s1 I1 R1 q1 => ?_
  obtain ⟨d, ρ2, w2, I2, s2, hh, hrep, q2⟩ := frz_ok I1 R1 q1
  rw [← hh]
  exact k.rt v (.d d) w2 σ ρ2 (s1.trans s2) I2 hrep q2
def sRetN (t : TND) : TSD := fun D ρ => t ρ fun ds ρ1 => D.rt (.n ds) ρ1
/-- return of a list just made -/
theorem ds_retN {t : TND} (h : DN C e te t) : DS C (.Return (some e) pos) (tRet te) (sRetN t) :=
  ⟨ps_ret h.pe, fun w σ ρ D DD hA I q k => h.run w σ ρ _ _ hA I q fun a vs ds w1 ρ1 s1 I1 n0 hg hf hh hr q1 => k.rt (.ref a) (.n ds) w1 σ ρ1 s1 I1 ⟨a, vs, rfl, C.nw w a hA n0, hg, hf, hh, hr⟩ q1⟩
/-- return of a list that the def has filled itself, slot i -/
def sRetOwn (i : Nat) : TSD := fun D ρ => match ρ[i]? with
  | some (.own false ds) => D.rt (.n ds) (ρ.set i .no)
  | _ => False
theorem FI.drop {K : PySem.W.Frag} {P : Par} {w : Wd} {σ : St} {ρ : DSt} (I : FI K P w σ ρ) (i : Nat) : FI K P ⟨w.G, w.H, fun j => if j = i then [] else w.F j⟩ σ (ρ.set i .no) ∧ Stp w ⟨w.G, w.H, fun j => if j = i then [] else w.F j⟩ := by
  have sub : ∀ j b, b ∈ (if j = i then ([] : List Addr) else w.F j) → b ∈ w.F j := fun j b hb => by
    by_cases e : j = i
    · rw [if_pos e] at hb; cases hb
    · rw [if_neg e] at hb; exact hb
  refine ⟨⟨I.gh, by rw [List.length_set]; exact I.len, fun j s e => ?_, fun j hj => ?_, fun j b hb => I.foot j b (sub j b hb), fun j l b hjl hb hb' => I.sep j l b hjl (sub j b hb) (sub l b hb')⟩,
    ⟨fun _ _ h => h, fun _ _ h _ => h, fun _ _ h _ => h, fun _ h => h, fun j b hb => .inl (sub j b hb)⟩⟩
  · by_cases hj : i = j
    · subst hj
      have hlt : i < ρ.length := by
        rcases Nat.lt_or_ge i ρ.length with q | q
        · exact q
        · rw [List.getElem?_eq_none (by rw [List.length_set]; exact q)] at e; cases e
      rw [List.getElem?_set_self hlt] at e
      cases e
      exact if_pos rfl
    · rw [List.getElem?_set_ne hj] at e
      show slotOk K P.σ0[j]? P.N _ (if j = i then [] else w.F j) σ[j]? s
      rw [if_neg (Ne.symm hj)]
      exact (I.ok j s e).go (fun _ _ h => h) fun _ _ _ h => h
  · show (if j = i then [] else w.F j) = []
    by_cases e : j = i
    · rw [if_pos e]
    · rw [if_neg e]; exact I.out j (by rw [← List.length_set (as := ρ)]; exact hj)
theorem ds_retOwn (i : Nat) {x : Str} {p : Pos} (hN : X.N[i]? = some x := by rfl) (hv : Vis X.env.scope x := by first | exact Or.inl rfl | exact Or.inr (Or.inl rfl) | exact Or.inr (Or.inr rfl)) (hd : (x == ("__debug__" : Str)) = false := by decide)
    (hcd : (x == ("__classdict__" : Str)) = false := by decide) : DS C (.Return (some (.Name x p)) pos) (tRet (tVar i)) (sRetOwn i) := by
  refine ⟨ps_ret (pe_var hN hv hd hcd), fun w σ ρ D DD hA I q k => ?_⟩
  have q : (match ρ[i]? with
    | some (.own false ds) => DD.rt (.n ds) (ρ.set i .no)
    | _ => False) := q
  cases e : ρ[i]? with
  | none => rw [e] at q; exact q.elim
  | some s =>
    rw [e] at q
    cases s with
    | no => exact q.elim
    | val _ => exact q.elim
    | res _ _ => exact q.elim
    | own io ds =>
      cases io with
      | true => exact q.elim
      | false =>
        obtain ⟨a, vs, h1, h2, h3, h4, h5⟩ := I.ok i _ e
        obtain ⟨I2, s2⟩ := I.drop i
        have ha : a ∈ w.F i := by rw [h2]; exact List.mem_cons_self
        refine ⟨.ref a, h1, k.rt (.ref a) (.n ds) ⟨w.G, w.H, fun j => if j = i then [] else w.F j⟩ σ _ s2 I2 ⟨a, vs, rfl, h5.2 rfl, (I.foot i a ha).1, fun j hj => ?_, h3, h4⟩ q⟩
        have hj : a ∈ (if j = i then [] else w.F j) := hj
        by_cases z : j = i
        · rw [if_pos z] at hj; cases hj
        · rw [if_neg z] at hj
          exact I.sep j i a z hj ha
def sRetU : TSD := fun D ρ => D.rt (.d .none) ρ
theorem ds_retU : DS C (.Return none pos) tRetN sRetU := ⟨ps_retN, fun w σ ρ D DD hA I q k => k.rt .non (.d .none) w σ ρ (Stp.refl w) I .non q⟩

/-! ### targets -/
abbrev TGD := PyData → DSt → (DSt → Prop) → Prop
/-- a target that stores at the slots of T alone -/
structure DG (C : DC X) (tg : Expr) (g : TG) (T : List Nat) (d : TGD) : Prop where
  pg : PG X tg g
  run : ∀ (w : Wd) (σ : St) (ρ : DSt) (v : V) (x : PyData) (Q : St → Hp → Prop) (QD : DSt → Prop), C.A w → FI X.K C.P w σ ρ → Rep X.K w.G v x → d x ρ QD →
    (∀ w' σ' ρ', Stp w w' → FI X.K C.P w' σ' ρ' → (∀ vs : List Nat, (∀ i ∈ T, i ∈ vs) → wipe σ' vs = wipe σ vs) → QD ρ' → Q σ' w'.H) → g v σ w.H Q
def gName' (i : Nat) : TGD := fun x ρ k => k (ρ.set i (.val x))
theorem wipe_set {σ : St} {i : Nat} {o : Option V} : ∀ {vs : List Nat}, i ∈ vs → wipe (σ.set i o) vs = wipe σ vs
  | v :: vs, h => by
    show (wipe (σ.set i o) vs).set v none = (wipe σ vs).set v none
    by_cases hv : i ∈ vs
    · rw [wipe_set hv]
    · have e : v = i := by
        rcases List.mem_cons.mp h with q | q
        · exact q.symm
        · exact absurd q hv
      subst e
      have out : ∀ (τ : St) (ws : List Nat), v ∉ ws → wipe (τ.set v o) ws = (wipe τ ws).set v o := by
        intro τ ws
        induction ws with
        | nil => intro _; rfl
        | cons z zs ih =>
          intro hz
          show (wipe (τ.set v o) zs).set z none = ((wipe τ zs).set z none).set v o
          rw [ih fun q => hz (List.mem_cons_of_mem _ q), List.set_comm _ _ (fun q => hz (by rw [q]; exact List.mem_cons_self))]
      rw [out σ vs hv, List.set_set]
theorem dg_name (i : Nat) {x : Str} (hi : X.N[i]? = some x := by rfl) (hx : Loc X.env.scope x := by first | exact Or.inl rfl | exact Or.inr rfl) (hf : X.fn x = true ∨ X.env.scope.names.lookup x = some .local := by first | exact .inl rfl | exact .inr rfl) :
    DG C (.Name x pos) (gName i) [i] (gName' i) :=
  ⟨pg_name C.nd hi hx hf, fun w σ ρ v d Q QD hA I hr q k => k ⟨w.G, w.H, fun j => if j = i then [] else w.F j⟩ _ _ (I.set hr).2 (I.set hr).1 (fun vs h => wipe_set (h i List.mem_cons_self)) q⟩
abbrev TGsD := List PyData → DSt → (DSt → Prop) → Prop
structure DGs (C : DC X) (tgs : List Expr) (g : TGs) (T : List Nat) (d : TGsD) : Prop where
  pgs : PGs X tgs g
  run : ∀ (w : Wd) (σ : St) (ρ : DSt) (vs : List V) (xs : List PyData) (Q : St → Hp → Prop) (QD : DSt → Prop), C.A w → FI X.K C.P w σ ρ → Reps X.K w.G vs xs → d xs ρ QD →
    (∀ w' σ' ρ', Stp w w' → FI X.K C.P w' σ' ρ' → (∀ vs : List Nat, (∀ i ∈ T, i ∈ vs) → wipe σ' vs = wipe σ vs) → QD ρ' → Q σ' w'.H) → g vs σ w.H Q
def gNil' : TGsD := fun xs ρ k => match xs with | [] => k ρ | _ => False
def gCons' (g : TGD) (r : TGsD) : TGsD := fun xs ρ k => match xs with | x :: xs => g x ρ fun ρ1 => r xs ρ1 k | [] => False
theorem dgs_nil : DGs C [] gNil [] gNil' := by
  refine ⟨pgs_nil, fun w σ ρ vs xs Q QD hA I hr q k => ?_⟩
  cases hr with
  | nil => exact ⟨rfl, k w σ ρ (Stp.refl w) I (fun _ _ => rfl) q⟩
  | cons _ _ => exact q.elim
theorem dgs_cons {tgs : List Expr} {g : TG} {gs : TGs} {T Ts : List Nat} {d : TGD} {ds : TGsD} (h1 : DG C tg g T d) (h2 : DGs C tgs gs Ts ds) (hs : (assignEach (tg :: tgs) X.env).map (·.2) = assign tg X.env :: (assignEach tgs X.env).map (·.2) := by rfl) :
    DGs C (tg :: tgs) (gCons g gs) (T ++ Ts) (gCons' d ds) := by
  refine ⟨pgs_cons h1.pg h2.pgs hs, fun w σ ρ vs xs Q QD hA I hr q k => ?_⟩
  cases hr with
  | nil => exact q.elim
  | cons r rs =>
    refine ⟨_, _, rfl, h1.run w σ ρ _ _ _ _ hA I r q fun w1 σ1 ρ1 s1 I1 e1 q1 => ?_⟩
    refine h2.run w1 σ1 ρ1 _ _ _ _ (C.cl _ _ hA s1) I1 (reps_mono s1.g _ _ rs) q1 fun w2 σ2 ρ2 s2 I2 e2 q2 => k w2 σ2 ρ2 (s1.trans s2) I2 (fun vs h => ?_) q2
    rw [e2 vs fun i hi => h i (List.mem_append_right _ hi), e1 vs fun i hi => h i (List.mem_append_left _ hi)]
def gTup' (r : TGsD) : TGD := fun x ρ k => match x with | .tuple xs => r xs ρ k | _ => False
def lenIs (n : Nat) (r : TGsD) : TGsD := fun xs ρ k => xs.length = n ∧ r xs ρ k
theorem dg_tup {tgs : List Expr} {gs : TGs} {T : List Nat} {ds : TGsD} {k0 : Nat} {n : Nat} (h : DGs C tgs gs T ds) (hn : (assignEach tgs X.env).length = n := by rfl) (hst : (assignEach tgs X.env).findIdx? (·.1) = none := by rfl) :
    DG C (.Tuple tgs k0 pos) (gTup X.K n gs) T (gTup' (lenIs n ds)) := by
  refine ⟨pg_tup C.calm h.pgs hn hst, fun w σ ρ v x Q QD hA I hr q k => ?_⟩
  cases x with
  | tuple xs =>
    cases hr with
    | tup hs ha =>
      obtain ⟨hl, q⟩ := q
      exact ⟨_, _, rfl, sqt_mono I.gh hs, by rw [ha.len]; exact hl, h.run w σ ρ _ _ _ _ hA I ha q k⟩
  | _ => exact q.elim

/-! ### assignments -/
/-- name = value -/
def sSet (i : Nat) (de : TED) : TSD := fun D ρ => de ρ fun r ρ1 => frz ρ1 r fun d ρ2 => D.nx (ρ2.set i (.val d))
theorem ds_set (i : Nat) {x : Str} {px : Pos} (h : DE C e te de) (hi : X.N[i]? = some x := by rfl) (hx : Loc X.env.scope x := by first | exact Or.inl rfl | exact Or.inr rfl) (hs : swapsWith e (some (.Name x px)) pos.line X.env = pure false := by rfl)
    (hf : X.fn x = true ∨ X.env.scope.names.lookup x = some .local := by first | exact .inl rfl | exact .inr rfl) : DS C (.Assign [.Name x px] e pos) (tAsg te (gName i)) (sSet i de) := by
  refine ⟨ps_set C.nd hi hx h.pe hs hf, fun w σ ρ D DD hA I q k => ?_⟩
  refine h.run w σ ρ _ _ hA I q fun v r w1 ρ1 s1 I1 R1 q1 => ?_
  obtain ⟨d, ρ2, w2, I2, s2, hh, hrep, q2⟩ := frz_ok I1 R1 q1
  rw [← hh]
  have z := I2.set (i := i) hrep
  exact k.nx ⟨w2.G, w2.H, fun j => if j = i then [] else w2.F j⟩ _ _ ((s1.trans s2).trans z.2) z.1 q2
/-- name = a new list, the name's own from now on -/
def sOwn (i : Nat) (t : TND) : TSD := fun D ρ => t ρ fun ds ρ1 => i < ρ1.length ∧ D.nx (ρ1.set i (.own false ds))
theorem ds_own (i : Nat) {x : Str} {px : Pos} {t : TND} (h : DN C e te t) (hi : X.N[i]? = some x := by rfl) (hx : Loc X.env.scope x := by first | exact Or.inl rfl | exact Or.inr rfl) (hs : swapsWith e (some (.Name x px)) pos.line X.env = pure false := by rfl)
    (hf : X.fn x = true ∨ X.env.scope.names.lookup x = some .local := by first | exact .inl rfl | exact .inr rfl) : DS C (.Assign [.Name x px] e pos) (tAsg te (gName i)) (sOwn i t) := by
  refine ⟨ps_set C.nd hi hx h.pe hs hf, fun w σ ρ D DD hA I q k => ?_⟩
  refine h.run w σ ρ _ _ hA I q fun a vs ds w1 ρ1 s1 I1 n0 hg hf' hh hr q1 => ?_
  have z := I1.setOwn (i := i) hf' hg hh hr (C.nw w a hA n0) q1.1
  refine k.nx ⟨w1.G, w1.H, fun j => if j = i then [a] else w1.F j⟩ _ _ ⟨s1.g, s1.gf, s1.h, s1.t, fun j b hb => ?_⟩ z q1.2
  have hb : b ∈ (if j = i then [a] else w1.F j) := hb
  by_cases e : j = i
  · rw [if_pos e] at hb
    have : b = a := by simpa using hb
    rw [this]; exact .inr n0
  · rw [if_neg e] at hb
    exact s1.f j b hb
/-- target = value -/
def sAsg (de : TED) (g : TGD) : TSD := fun D ρ => de ρ fun r ρ1 => frz ρ1 r fun d ρ2 => g d ρ2 D.nx
theorem ds_asg {g : TG} {T : List Nat} {d : TGD} (h : DE C e te de) (hg : DG C tg g T d) (hs : swapsWithSole [tg] e pos.line X.env = pure false := by rfl) (hw : swappedStores [tg] e X.env = pure none := by rfl)
    (h1 : (assignEach [tg] X.env).map (·.2) = [assign tg X.env] := by rfl) : DS C (.Assign [tg] e pos) (tAsg te g) (sAsg de d) := by
  refine ⟨ps_asg h.pe hg.pg hs hw h1, fun w σ ρ D DD hA I q k => ?_⟩
  refine h.run w σ ρ _ _ hA I q fun v r w1 ρ1 s1 I1 R1 q1 => ?_
  obtain ⟨x, ρ2, w2, I2, s2, hh, hrep, q2⟩ := frz_ok I1 R1 q1
  rw [← hh]
  exact hg.run w2 σ ρ2 v x _ _ (C.cl _ _ hA (s1.trans s2)) I2 hrep q2 fun w3 σ3 ρ3 s3 I3 _ q3 => k.nx w3 σ3 ρ3 ((s1.trans s2).trans s3) I3 q3
/-- a, b = x, y -/
def sPar (i j : Nat) (t : TND) : TSD := fun D ρ => t ρ fun ds ρ1 => match ds with | [x, y] => D.nx ((ρ1.set i (.val x)).set j (.val y)) | _ => False
variable {ta' : TA} {dr : TND}
theorem ds_par {i j : Nat} {x y : Str} {px py pt : Pos} {kt k2 pt2} (ha : DA C [a, b] ta' dr) (hi : X.N[i]? = some x := by rfl) (hj : X.N[j]? = some y := by rfl) (hij : i ≠ j := by decide)
    (hx : X.env.scope.names.lookup x = some .local := by rfl) (hy : X.env.scope.names.lookup y = some .local := by rfl)
    (hw : swappedStores [.Tuple [.Name x px, .Name y py] kt pt] (.Tuple [a, b] k2 pt2) X.env = pure (some [x, y]) := by rfl)
    (hs : swapsWithSole [.Tuple [.Name x px, .Name y py] kt pt] (.Tuple [a, b] k2 pt2) pos.line X.env = pure false := by rfl) :
    DS C (.Assign [.Tuple [.Name x px, .Name y py] kt pt] (.Tuple [a, b] k2 pt2) pos) (tPar i j ta') (sPar i j dr) := by
  refine ⟨ps_par C.calm C.nd hi hj hij hx hy ha.pa hw hs, fun w σ ρ D DD hA I q k => ?_⟩
  refine ha.run w σ ρ _ _ hA I q fun vs ds w1 ρ1 s1 I1 R1 q1 => ?_
  cases R1 with
  | nil => exact q1.elim
  | cons r1 R1 =>
    cases R1 with
    | nil => exact q1.elim
    | cons r2 R1 =>
      cases R1 with
      | cons _ _ => exact q1.elim
      | nil =>
        have z1 := I1.set (i := i) r1
        have z2 := z1.1.set (i := j) r2
        exact ⟨_, _, rfl, k.nx ⟨w1.G, w1.H, fun j' => if j' = j then [] else if j' = i then [] else w1.F j'⟩ _ _ ((s1.trans z1.2).trans z2.2) z2.1 q1⟩

/-! ### if, while -/
variable {ua : TT} {xa : TTD} {tb : TS} {d1 d2 : TSD}
def sIf (x : TTD) (t u : TSD) : TSD := fun D ρ => x ρ fun b ρ1 => match b with | true => t D ρ1 | false => u D ρ1
theorem ds_if {els : List Stmt} {te' : TS} (hc : DT C c ua xa) (h1 : DSs C body tb d1) (h2 : DSs C els te' d2) : DS C (.If c body els pos) (tIfS ua tb te') (sIf xa d1 d2) := by
  refine ⟨ps_if hc.pt h1.pss h2.pss, fun w σ ρ D DD hA I q k => ?_⟩
  refine hc.run w σ ρ _ _ hA I q fun z w1 ρ1 s1 I1 q1 => ?_
  cases z with
  | true =>
    show tb D σ w1.H
    exact h1.run w1 σ ρ1 D DD (C.cl _ _ hA s1) I1 q1 (k.step s1)
  | false =>
    show te' D σ w1.H
    exact h2.run w1 σ ρ1 D DD (C.cl _ _ hA s1) I1 q1 (k.step s1)
def sWhile (x : TTD) (t : TSD) : TSD := fun D ρ => ∃ W : Nat → DSt → Prop, (∃ m, W m ρ) ∧ ∀ m ρ, W m ρ →
  x ρ fun b ρ1 => match b with
    | true => t { D with nx := fun ρ2 => ∃ m', m' < m ∧ W m' ρ2, ct := fun ρ2 => ∃ m', m' < m ∧ W m' ρ2, bk := D.nx } ρ1
    | false => D.nx ρ1
theorem DC.passes (C : DC X) (hp : PassesOwn (model X.prog X.w) X.A X.env X.xe) : PassesOwn (model X.prog X.w) X.A X.env X.xe := hp
theorem ds_while (hp : PassesOwn (model X.prog X.w) X.A X.env X.xe) (hc : DT C c ua xa) (h1 : DSs C body tb d1) : DS C (.While c body [] pos) (tWhile ua tb) (sWhile xa d1) := by
  refine ⟨ps_while hp hc.pt h1.pss, fun w σ ρ D DD hA I q k => ?_⟩
  obtain ⟨W, ⟨m0, h0⟩, turn⟩ := q
  refine ⟨fun m σ' H' => ∃ w' ρ', w'.H = H' ∧ Stp w w' ∧ FI X.K C.P w' σ' ρ' ∧ W m ρ', ⟨m0, w, ρ, rfl, Stp.refl w, I, h0⟩, ?_⟩
  rintro m σ1 H1 ⟨w1, ρ1, rfl, s1, I1, q1⟩
  refine hc.run w1 σ1 ρ1 _ _ (C.cl _ _ hA s1) I1 (turn m ρ1 q1) fun z w2 ρ2 s2 I2 q2 => ?_
  cases z with
  | false =>
    rw [if_neg Bool.false_ne_true]
    exact k.nx w2 σ1 ρ2 (s1.trans s2) I2 q2
  | true =>
    rw [if_pos rfl]
    refine ⟨fun σ' H' => ∃ m', m' < m ∧ ∃ w' ρ', w'.H = H' ∧ Stp w w' ∧ FI X.K C.P w' σ' ρ' ∧ W m' ρ', fun σ' H' h => h, ?_⟩
    refine h1.run w2 σ1 ρ2 _ _ (C.cl _ _ hA (s1.trans s2)) I2 q2 ⟨fun w' σ' ρ' s' I' h => ?_, fun v r w' σ' ρ' s' I' R' h => k.rt v r w' σ' ρ' ((s1.trans s2).trans s') I' R' h, fun w' σ' ρ' s' I' h => k.nx w' σ' ρ' ((s1.trans s2).trans s') I' h, fun w' σ' ρ' s' I' h => ?_⟩
    · obtain ⟨m', hm, hW⟩ := h
      exact ⟨m', hm, w', ρ', rfl, (s1.trans s2).trans s', I', hW⟩
    · obtain ⟨m', hm, hW⟩ := h
      exact ⟨m', hm, w', ρ', rfl, (s1.trans s2).trans s', I', hW⟩

/-! ### what is walked -/
/-- it walks these data; an item may be a new pair -/
structure WalkD (K : PySem.W.Frag) (G : Hp) (J : It) (items : List PyData) : Prop where
  go : ∀ i H, i < items.length → Same G H → J.go i H
  stop : ∀ H, Same G H → J.stop items.length H
  yld : ∀ i H x H', i < items.length → Same G H → J.yld i H x H' → ∃ d, items[i]? = some d ∧ ((H' = H ∧ Rep K G x d) ∨ ∃ T u1 u2 d1 d2, x = .ref T ∧ H T = none ∧ H' = upd H T (.tup [u1, u2]) ∧ d = .tuple [d1, d2] ∧ Rep K G u1 d1 ∧ Rep K G u2 d2)
structure DI (C : DC X) (tg iter : Expr) (wi : TI) (t : TND) : Prop where
  pi : PI X tg iter wi
  run : ∀ (w : Wd) (σ : St) (ρ : DSt) (Q : It → Hp → Prop) (QD : List PyData → DSt → Prop), C.A w → FI X.K C.P w σ ρ → t ρ QD →
    (∀ J items w' ρ', Stp w w' → FI X.K C.P w' σ ρ' → WalkD X.K w'.G J items → QD items ρ' → Q J w'.H) → wi σ w.H Q
def asInt1 (ds : List PyData) (k : Int → Prop) : Prop := match ds with | [.int j] => k j | _ => False
theorem asInt1_inv {ds : List PyData} {k : Int → Prop} (h : asInt1 ds k) : ∃ j, ds = [.int j] ∧ k j := by
  unfold asInt1 at h
  split at h
  · exact ⟨_, rfl, h⟩
  · exact h.elim
def asInt2 (ds : List PyData) (k : Int → Int → Prop) : Prop := match ds with | [.int i, .int j] => k i j | _ => False
theorem asInt2_inv {ds : List PyData} {k : Int → Int → Prop} (h : asInt2 ds k) : ∃ i j, ds = [.int i, .int j] ∧ k i j := by
  unfold asInt2 at h
  split at h
  · exact ⟨_, _, rfl, h⟩
  · exact h.elim
/-- a range -/
def range1D (dr : TND) : TND := fun ρ Q => dr ρ fun ds ρ1 => asInt1 ds fun j => -(2 ^ 62) ≤ j ∧ j < 2 ^ 62 ∧ Q ((List.range j.toNat).map fun (k : Nat) => .int (k : Int)) ρ1
theorem int_args {K : PySem.W.Frag} {G : Hp} {ns : List Int} {vs : List V} (h : Reps K G vs (ns.map PyData.int)) : vs = ns.map V.int := by
  induction ns generalizing vs with
  | nil => cases h; rfl
  | cons n ns ih =>
    cases h with
    | cons h1 h2 => cases h1; rw [ih h2]; rfl
theorem di_range1 {p : Pos} (hg : Gl X "range") (hm : X.mg "range" = none) (ha : DA C [a] ta' dr) (hs : starEach [a] X.env = [(false, eval a X.env)] := by rfl) : DI C tg (.Call (.Name "range" p) [a] [] pos) (iRng1 ta') (range1D dr) := by
  refine ⟨pi_range1 hg hm ha.pa hs, fun w σ ρ Q QD hA I q k => ?_⟩
  refine ha.run w σ ρ _ _ hA I q fun vs ds w1 ρ1 s1 I1 R1 q1 => ?_
  obtain ⟨j, rfl, h1, h2, q2⟩ := asInt1_inv q1
  have e := int_args (ns := [j]) R1
  subst e
  refine ⟨j, rfl, h1, h2, k _ _ w1 ρ1 s1 I1 ⟨fun i H hi _ => ?_, fun H _ => ?_, fun i H x H' hi _ y => ?_⟩ q2⟩
  · rw [List.length_map, List.length_range] at hi; exact hi
  · rw [List.length_map, List.length_range]; exact Nat.le_refl _
  · rw [List.length_map, List.length_range] at hi
    obtain ⟨rfl, rfl⟩ := y
    refine ⟨.int (i : Int), by rw [List.getElem?_map, List.getElem?_range hi]; rfl, .inl ⟨rfl, ?_⟩⟩
    have e0 : (0 : Int) + (i : Int) = (i : Int) := Int.zero_add _
    rw [e0]
    exact .int _
def range2D (dr : TND) : TND := fun ρ Q => dr ρ fun ds ρ1 => asInt2 ds fun i j => (-(2 ^ 62) ≤ i ∧ i < 2 ^ 62 ∧ -(2 ^ 62) ≤ j ∧ j < 2 ^ 62) ∧ Q ((List.range (j - i).toNat).map fun (k : Nat) => .int (i + (k : Int))) ρ1
theorem di_range2 {p : Pos} (hg : Gl X "range") (hm : X.mg "range" = none) (ha : DA C [a, b] ta' dr) (hs : starEach [a, b] X.env = [(false, eval a X.env), (false, eval b X.env)] := by rfl) (hs2 : starEach [b] X.env = [(false, eval b X.env)] := by rfl) :
    DI C tg (.Call (.Name "range" p) [a, b] [] pos) (iRng2 ta') (range2D dr) := by
  refine ⟨pi_range2 hg hm ha.pa hs hs2, fun w σ ρ Q QD hA I q k => ?_⟩
  refine ha.run w σ ρ _ _ hA I q fun vs ds w1 ρ1 s1 I1 R1 q1 => ?_
  obtain ⟨lo, j, rfl, h1, q2⟩ := asInt2_inv q1
  have e := int_args (ns := [lo, j]) R1
  subst e
  refine ⟨lo, j, rfl, h1, k _ _ w1 ρ1 s1 I1 ⟨fun i H hi _ => ?_, fun H _ => ?_, fun i H x H' hi _ y => ?_⟩ q2⟩
  · rw [List.length_map, List.length_range] at hi; exact hi
  · rw [List.length_map, List.length_range]; exact Nat.le_refl _
  · rw [List.length_map, List.length_range] at hi
    obtain ⟨rfl, rfl⟩ := y
    exact ⟨.int (lo + (i : Int)), by rw [List.getElem?_map, List.getElem?_range hi]; rfl, .inl ⟨rfl, .int _⟩⟩
/-- a list, a tuple -/
def itemsD (de : TED) : TND := fun ρ Q => de ρ fun r ρ1 => frz ρ1 r fun d ρ2 => match d with | .list ds => Q ds ρ2 | _ => False
def itemsT (de : TED) : TND := fun ρ Q => de ρ fun r ρ1 => frz ρ1 r fun d ρ2 => match d with | .tuple ds => Q ds ρ2 | _ => False
theorem walkd_list {K : PySem.W.Frag} {G : Hp} {l : Addr} {vs : List V} {ds : List PyData} (h : G l = some (.lst vs)) (hr : Reps K G vs ds) : WalkD K G (Itl K l) ds := by
  refine ⟨fun i H hi s => ?_, fun H s => ⟨vs, SqL.of (s _ _ h), by rw [hr.len]; exact Nat.le_refl _⟩, fun i H x H' hi s y => ?_⟩
  · have hi' : i < vs.length := by rw [hr.len]; exact hi
    exact ⟨vs, vs[i], SqL.of (s _ _ h), by simp [hi']⟩
  · have e := y.2 vs (SqL.of (s _ _ h))
    obtain ⟨d, h1, h2⟩ := hr.get' e
    exact ⟨d, h1, .inl ⟨y.1, h2⟩⟩
theorem walkd_tup {K : PySem.W.Frag} {G : Hp} {l : Addr} {vs : List V} {ds : List PyData} (h : SqT K G l vs) (hr : Reps K G vs ds) : WalkD K G (Itt K l) ds := by
  refine ⟨fun i H hi s => ?_, fun H s => ⟨vs, sqt_mono s h, by rw [hr.len]; exact Nat.le_refl _⟩, fun i H x H' hi s y => ?_⟩
  · have hi' : i < vs.length := by rw [hr.len]; exact hi
    exact ⟨vs, vs[i], sqt_mono s h, by simp [hi']⟩
  · have e := y.2 vs (sqt_mono s h)
    obtain ⟨d, h1, h2⟩ := hr.get' e
    exact ⟨d, h1, .inl ⟨y.1, h2⟩⟩
theorem di_list (h : DE C e te de) : DI C tg e (iList X.K te) (itemsD de) := by
  refine ⟨pi_list h.pe, fun w σ ρ Q QD hA I q k => ?_⟩
  refine h.run w σ ρ _ _ hA I q fun v r w1 ρ1 s1 I1 R1 q1 => ?_
  obtain ⟨d, ρ2, w2, I2, s2, hh, hrep, q2⟩ := frz_ok I1 R1 q1
  rw [← hh]
  cases d with
  | list ds =>
    cases hrep with
    | lst hs hr => exact ⟨_, rfl, ⟨_, SqL.of (I2.gh _ _ hs)⟩, k _ _ w2 ρ2 (s1.trans s2) I2 (walkd_list hs hr) q2⟩
  | _ => exact q2.elim
theorem di_tup (h : DE C e te de) : DI C tg e (iTup X.K te) (itemsT de) := by
  refine ⟨pi_tup h.pe, fun w σ ρ Q QD hA I q k => ?_⟩
  refine h.run w σ ρ _ _ hA I q fun v r w1 ρ1 s1 I1 R1 q1 => ?_
  obtain ⟨d, ρ2, w2, I2, s2, hh, hrep, q2⟩ := frz_ok I1 R1 q1
  rw [← hh]
  cases d with
  | tuple ds =>
    cases hrep with
    | tup hs hr => exact ⟨_, rfl, ⟨_, sqt_mono I2.gh hs⟩, k _ _ w2 ρ2 (s1.trans s2) I2 (walkd_tup hs hr) q2⟩
  | _ => exact q2.elim
/-- an item comes -/
theorem item_come {K : PySem.W.Frag} {P : Par} {G0 : Hp} {J : It} {items : List PyData} {w : Wd} {σ : St} {ρ : DSt} {i : Nat} {x : V} {H' : Hp} (W : WalkD K G0 J items) (I : FI K P w σ ρ) (g : Same G0 w.G) (hi : i < items.length) (y : J.yld i w.H x H') :
    ∃ d w', items[i]? = some d ∧ w'.H = H' ∧ Stp w w' ∧ FI K P w' σ ρ ∧ Rep K w'.G x d := by
  have gH : Same G0 w.H := fun b o h => I.gh b o (g b o h)
  obtain ⟨d, hd, h⟩ := W.yld i w.H x H' hi gH y
  rcases h with ⟨rfl, hr⟩ | ⟨T, u1, u2, d1, d2, rfl, hT, rfl, rfl, r1, r2⟩
  · exact ⟨d, w, hd, rfl, Stp.refl w, I, rep_mono g _ _ hr⟩
  · refine ⟨_, ⟨upd w.G T (.tup [u1, u2]), upd w.H T (.tup [u1, u2]), w.F⟩, hd, rfl, ?_, ?_, ?_⟩
    · have hg : w.G T = none := I.gh.free hT
      refine ⟨same_new hg, fun b h1 h2 _ => ?_, fun b u h _ => same_new hT b u h, there_new, fun i b hb => .inl hb⟩
      show upd w.G T _ b = none
      rw [upd_ne (fun z => h1 (by rw [z]; exact hT))]; exact h2
    · exact (FI.new I hT).1
    · have hg : w.G T = none := I.gh.free hT
      have sg : Same G0 (upd w.G T (.tup [u1, u2])) := fun b o h => same_new hg b o (g b o h)
      exact .tup (SqT.of upd_same) (.cons (rep_mono sg _ _ r1) (.cons (rep_mono sg _ _ r2) .nil))

/-! ### for -/
def forD (g : TGD) (t : TSD) (D : DEnds) : List PyData → DSt → Prop
  | [], ρ => D.nx ρ
  | x :: xs, ρ => g x ρ fun ρ1 => t { D with nx := forD g t D xs, ct := forD g t D xs, bk := D.nx } ρ1
def sFor (ti : TND) (g : TGD) (t : TSD) : TSD := fun D ρ => ti ρ fun items ρ1 => forD g t D items ρ1
theorem ds_for {wi : TI} {ti : TND} {g : TG} {T : List Nat} {d : TGD} (hp : PassesOwn (model X.prog X.w) X.A X.env X.xe) (hi : DI C tg iter wi ti) (hg : DG C tg g T d) (h1 : DSs C body tb d1) (hs : ∀ x, foldedSetIterable iter X.env x = pure x := by intro _; rfl) :
    DS C (.For tg iter body [] pos) (tFor wi g tb) (sFor ti d d1) := by
  refine ⟨ps_for hp C.calm hi.pi hg.pg h1.pss hs, fun w σ ρ D DD hA I q k => ?_⟩
  refine hi.run w σ ρ _ _ hA I q fun J items w1 ρ1 s1 I1 WK q1 => ?_
  refine ⟨fun i m σ' H' => m = items.length - i ∧ i ≤ items.length ∧ ∃ w' ρ', w'.H = H' ∧ Stp w1 w' ∧ FI X.K C.P w' σ' ρ' ∧ forD d d1 DD (items.drop i) ρ', ⟨items.length, by simp, Nat.zero_le _, w1, ρ1, rfl, Stp.refl w1, I1, by rw [List.drop_zero]; exact q1⟩, ?_⟩
  rintro i m σ2 H2 ⟨rfl, hi2, w2, ρ2, rfl, s2, I2, q2⟩
  have hA2 := C.cl _ _ (C.cl _ _ hA s1) s2
  have gH : Same w1.G w2.H := fun b o h => I2.gh b o (s2.g b o h)
  by_cases hlt : i < items.length
  · refine .inr ⟨WK.go i _ hlt gH, fun σ' H' => ∃ w' ρ', w'.H = H' ∧ Stp w1 w' ∧ FI X.K C.P w' σ' ρ' ∧ forD d d1 DD (items.drop (i + 1)) ρ', fun σ' H' h => ⟨items.length - (i + 1), by omega, rfl, hlt, h⟩, fun x H' y => ?_⟩
    obtain ⟨z, w3, hz, rfl, s3, I3, r3⟩ := item_come WK I2 s2.g hlt y
    have ed : items.drop i = z :: items.drop (i + 1) := by
      have e1 := List.getElem?_eq_some_iff.mp hz
      rw [List.drop_eq_getElem_cons hlt, e1.2]
    rw [ed] at q2
    refine hg.run w3 σ2 ρ2 x z _ _ (C.cl _ _ hA2 s3) I3 r3 q2 fun w4 σ4 ρ4 s4 I4 _ q4 => ?_
    have s34 := s3.trans s4
    refine h1.run w4 σ4 ρ4 _ _ (C.cl _ _ hA2 s34) I4 q4 ⟨fun w' σ' ρ' s' I' h => ⟨w', ρ', rfl, (s2.trans s34).trans s', I', h⟩, fun v r w' σ' ρ' s' I' R' h => k.rt v r w' σ' ρ' (s1.trans ((s2.trans s34).trans s')) I' R' h,
      fun w' σ' ρ' s' I' h => k.nx w' σ' ρ' (s1.trans ((s2.trans s34).trans s')) I' h, fun w' σ' ρ' s' I' h => ⟨w', ρ', rfl, (s2.trans s34).trans s', I', h⟩⟩
  · have e : i = items.length := by omega
    subst e
    rw [List.drop_length] at q2
    exact .inl ⟨WK.stop _ gH, k.nx w2 σ2 ρ2 (s1.trans s2) I2 q2⟩
end
end DL

end
section
set_option maxHeartbeats 4000000
/-! DLD: defs over data: what one promises, its call, its body. -/
namespace DL
open PySem PySem.Spec L2
open PyProof.Rows (envOfC)

/-- a def's promise over data: the arguments, what is wanted of the end, of an exception. The first argument may be lent -/
abbrev DSp := List SD → (Ret → List SD → Prop) → (Exd → List SD → Prop) → Prop
/-- no argument but the first is lent -/
def lentOne : List SD → Bool
  | .own io _ :: r => io && r.all fun s => match s with | .val _ => true | _ => false
  | .res io _ :: r => io && r.all fun s => match s with | .val _ => true | _ => false
  | l => l.all fun s => match s with | .val _ => true | _ => false
def parOf (vs : List V) (w : Wd) : Par := ⟨vs.map some, fun a => w.H a = none⟩
def spOf (K : PySem.W.Frag) (p : DSp) : Sp := fun vs H Q E => ∃ (w : Wd) (α : List SD) (QD : Ret → List SD → Prop) (ED : Exd → List SD → Prop), w.H = H ∧ FI K (parOf vs w) w (vs.map some) α ∧ lentOne α = true ∧ p α QD ED ∧
  (∀ v r w' α', Stp w w' → FI K (parOf vs w) w' (vs.map some) α' → RepRet K (parOf vs w).N w' v r → QD r α' → Q v w'.H) ∧
  (∀ e α' w' cls d, Stp w w' → FI K (parOf vs w) w' (vs.map some) α' → RepE K w' cls d e → ED e α' → E cls d w'.H)
/-- a def keeps its promise, where nothing is being shown (what repr of a container asks) -/
structure FnD (P : Program) (w : World) (K : PySem.W.Frag) (mg : Str → Option Value) (base : Heap) (k : Nat) (f : Addr) (fd : FuncData) (ps : List Str) (p : DSp) : Prop where
  len : ∀ α QD ED, p α QD ED → α.length = ps.length
  run : ∀ (A : Around) (outer : List Env) (s : Shared) (H : Hp) (args : Args) (us : List Value) (vs : List V) (Q : VK) (E : XK), A.guards = some [] → Room k A → Env0 P w K mg base A outer s H → BindsTo s fd args (ps.zip us) → Vals vs us → spOf K p vs H Q E →
    codeAny (model P w) A (.call (.ref f) args) (CR (L2.CX P w) outer P w H s Q E) s
theorem spOf.len {K : PySem.W.Frag} {p : DSp} {ps : List Str} (hl : ∀ α QD ED, p α QD ED → α.length = ps.length) {vs : List V} {H : Hp} {Q : VK} {E : XK} (h : spOf K p vs H Q E) : vs.length = ps.length := by
  obtain ⟨w, α, QD, ED, _, I, _, hp, _⟩ := h
  have e := I.len
  rw [List.length_map] at e
  rw [e, hl α QD ED hp]
theorem FnD.mono {P : Program} {w : World} {K : PySem.W.Frag} {mg : Str → Option Value} {base : Heap} {j k : Nat} {f : Addr} {fd : FuncData} {ps : List Str} {p : DSp} (F : FnD P w K mg base j f fd ps p) (h : j ≤ k) : FnD P w K mg base k f fd ps p :=
  ⟨F.len, fun A outer s H args us vs Q E hg hr => F.run A outer s H args us vs Q E hg (hr.mono h)⟩

/-! ### the call -/
section
variable {X : Cx} {k : Nat} {f : Addr} {fd : FuncData} {ps : List Str} {p : DSp} {x : Str} {px pos : Pos} {e : Expr} {es : List Expr} {ta : TA}
theorem run_fnD {E : L2.St → XK} {pins : List (Addr × Obj)} {σ : L2.St} {H : Hp} {s : Shared} {Q : VK} {us : List Value} {vs : List V} (F : FnD X.prog X.w X.K X.mg X.base k f fd ps p) (hgd : X.A.guards = some []) (hr : Room k X.A) (hb : Binds X.K fd ps []) (hx : PassesAt (L2.CX X.prog X.w) X σ (E σ))
    (I : Inv X pins σ H s) (r : Vals vs us) (h : spOf X.K p vs H Q (E σ)) : wpAny (model X.prog X.w) X.A (call (.ref f) us) (EP X pins σ Q) X.xe s := by
  have n1 : us.length = ps.length := r.length.symm.trans (spOf.len F.len h)
  have bb : BindsTo s fd ⟨us, []⟩ (ps.zip us) := by
    have z := hb s us I.kIn (by simpa using n1)
    simpa using z
  refine wpAny_call (codeAny_mono (F.run X.A X.stack s H ⟨us, []⟩ us vs Q (E σ) hgd hr I.env0 bb r h) ?_)
  intro res s' got
  match res, got with
  | .error ex, got => exact hx pins H s ex s' I got
  | .ok (.ret u), got => exact I.after got
  | .ok .next, got => exact got.elim
  | .ok .brk, got => exact got.elim
  | .ok .cont, got => exact got.elim
theorem pe_callD {E : L2.St → XK} (F : FnD X.prog X.w X.K X.mg X.base k f fd ps p) (hgd : X.A.guards = some []) (hr : Room k X.A) (hg : Gl X x) (hm : X.mg x = some (.ref f)) (hk : PySem.W.keepIn X.K (.ref f) = true) (hb : Binds X.K fd ps [])
    (hx : ∀ σ, PassesAt (L2.CX X.prog X.w) X σ (E σ)) (ha : PA X (e :: es) ta) (hdb : (x == ("__debug__" : Str)) = false := by decide)
    (he : starEach (e :: es) X.env = (false, eval e X.env) :: starEach es X.env := by rfl) (hpl : (backTo pos (starEach es X.env)).any (·.1) = false := by rfl) :
    PE X (.Call (.Name x px) (e :: es) [] pos) (tCallS (spOf X.K p) E ta) :=
  ⟨fun pins s σ H Q I h => wpAny_Call_Name_kw (ld_glob I hg hm (PySem.W.callWith_K (h₀ := X.base) I.ok.mod.kin hk
    (thn (ha.run pos pins s σ H _ I h) fun us s1 ⟨vs, H1, I1, r, q⟩ => ⟨I1.kIn, run_fnD F hgd hr hb (hx σ) I1 r q⟩) he hpl) hdb)⟩

def valsFI {K : PySem.W.Frag} {w : Wd} {vs : List V} {ds : List PyData} (gh : Same w.G w.H) (hr : Reps K w.G vs ds) (P : Par) : FI K P ⟨w.G, w.H, fun _ => []⟩ (vs.map some) (ds.map SD.val) := by
  refine ⟨gh, by rw [List.length_map, List.length_map, hr.len], fun i s e => ?_, fun _ _ => rfl, fun i b hb => (nomatch hb), fun i j b _ hb => (nomatch hb)⟩
  rw [List.getElem?_map] at e
  cases q : ds[i]? with
  | none => rw [q] at e; cases e
  | some d =>
    rw [q] at e
    cases e
    obtain ⟨v, h1, h2⟩ := hr.get q
    exact ⟨rfl, v, by rw [List.getElem?_map, h1]; rfl, h2⟩
theorem lentOne_vals (ds : List PyData) : lentOne (ds.map SD.val) = true := by
  have h : (ds.map SD.val).all (fun s => match s with | .val _ => true | _ => false) = true := by
    rw [List.all_eq_true]
    intro s hs
    obtain ⟨d, _, rfl⟩ := List.mem_map.mp hs
    rfl
  cases ds with
  | nil => rfl
  | cons d ds => exact h

variable {C : DC X} {dr : TND}
/-- what comes back from a call: a datum -/
def retD (Q : R → DSt → Prop) (ρ : DSt) : Ret → Prop
  | .d x => Q (.d x) ρ
  | .n ds => Q (.d (.list ds)) ρ
def retN (Q : List PyData → DSt → Prop) (ρ : DSt) : Ret → Prop
  | .n ds => Q ds ρ
  | .d _ => False
def dCall (p : DSp) (W : WD) (dr : TND) : TED := fun ρ Q => dr ρ fun ds ρ1 => p (ds.map SD.val) (fun r _ => retD Q ρ1 r) (fun e _ => W e ρ1)
def nCall (p : DSp) (W : WD) (dr : TND) : TND := fun ρ Q => dr ρ fun ds ρ1 => p (ds.map SD.val) (fun r _ => retN Q ρ1 r) (fun e _ => W e ρ1)
/-- the caller's world behind a call that was lent nothing -/
theorem call_back {P : Par} {w1 w' : Wd} {σ : L2.St} {ρ : DSt} {Pc : Par} {vs : List V} {α' : List SD} (I1 : FI X.K P w1 σ ρ) (s : Stp ⟨w1.G, w1.H, fun _ => []⟩ w') (I' : FI X.K Pc w' (vs.map some) α') :
    FI X.K P ⟨w'.G, w'.H, w1.F⟩ σ ρ ∧ Stp w1 ⟨w'.G, w'.H, w1.F⟩ := by
  have no : ∀ (b : Addr) (i : Nat), b ∉ (fun _ => ([] : List Addr)) i := fun b i z => nomatch z
  refine ⟨⟨I'.gh, I1.len, fun i st e => (I1.ok i st e).go s.g fun b _ o h => s.h b o h (no b), I1.out, fun i b hb => ?_, I1.sep⟩, ⟨s.g, fun b h1 h2 _ => s.gf b h1 h2 (no b), fun b o h _ => s.h b o h (no b), s.t, fun i b hb => .inl hb⟩⟩
  obtain ⟨h1, h2⟩ := I1.foot i b hb
  exact ⟨s.gf b h2 h1 (no b), s.t b h2⟩
/-- a new list that came back -/
theorem back_new {P : Par} {w0 w1 : Wd} {σ : L2.St} {ρ : DSt} {w' : Wd} {a : Addr} {vs : List V} {ds : List PyData} (s0 : Stp w0 w1) (I2 : FI X.K P ⟨w'.G, w'.H, w1.F⟩ σ ρ) (I1 : FI X.K P w1 σ ρ) (hn : w1.H a = none) : w0.H a = none ∧ ∀ i, a ∉ w1.F i := by
  refine ⟨?_, fun i z => (I1.foot i a z).2 hn⟩
  cases e0 : w0.H a with
  | none => rfl
  | some o => exact absurd hn (s0.t a (by rw [e0]; exact fun z => nomatch z))
theorem call_core (ha : DA C (e :: es) ta dr) (w : Wd) (σ : L2.St) (ρ : DSt) (Q : VK) (fin : Ret → DSt → Prop) (hA : C.A w) (I : FI X.K C.P w σ ρ)
    (q : dr ρ fun ds ρ1 => p (ds.map SD.val) (fun r _ => fin r ρ1) (fun e _ => C.W e ρ1))
    (k : ∀ (v : V) (r : Ret) (w1 w' : Wd) (ρ1 : DSt), Stp w w1 → FI X.K C.P w1 σ ρ1 → FI X.K C.P ⟨w'.G, w'.H, w1.F⟩ σ ρ1 → Stp w1 ⟨w'.G, w'.H, w1.F⟩ → (match r with
      | .d x => Rep X.K w'.G v x
      | .n ds => ∃ (a : Addr) (vs : List V), v = .ref a ∧ w1.H a = none ∧ w'.G a = none ∧ w'.H a = some (.lst vs) ∧ Reps X.K w'.G vs ds) → fin r ρ1 → Q v w'.H) :
    tCallS (spOf X.K p) (WE C.WH) ta σ w.H Q := by
  refine ha.run w σ ρ _ _ hA I q fun vs ds w1 ρ1 s1 I1 R1 q1 => ?_
  refine ⟨⟨w1.G, w1.H, fun _ => []⟩, ds.map SD.val, _, _, rfl, valsFI I1.gh R1 _, lentOne_vals ds, q1, fun v r w' α' s' I' hr' q' => ?_, fun ex α' w' cls d s' I' hr' q' => ?_⟩
  · obtain ⟨I2, s2⟩ := call_back I1 s' I'
    refine k v r w1 w' ρ1 s1 I1 I2 s2 ?_ q'
    cases r with
    | d x => exact hr'
    | n xs =>
      obtain ⟨a, ws, rfl, h1, h2, _, h4, h5⟩ := hr'
      exact ⟨a, ws, rfl, h1, h2, h4, h5⟩
  · obtain ⟨I2, s2⟩ := call_back I1 s' I'
    exact C.hW ex ρ1 σ ⟨w'.G, w'.H, w1.F⟩ cls d (C.cl _ _ hA (s1.trans s2)) I2 hr' q'
theorem de_call (F : FnD X.prog X.w X.K X.mg X.base k f fd ps p) (hr : Room k X.A) (hg : Gl X x) (hm : X.mg x = some (.ref f)) (hk : PySem.W.keepIn X.K (.ref f) = true) (hb : Binds X.K fd ps [])
    (ha : DA C (e :: es) ta dr) (hdb : (x == ("__debug__" : Str)) = false := by decide) (he : starEach (e :: es) X.env = (false, eval e X.env) :: starEach es X.env := by rfl) (hpl : (backTo pos (starEach es X.env)).any (·.1) = false := by rfl) :
    DE C (.Call (.Name x px) (e :: es) [] pos) (tCallS (spOf X.K p) (WE C.WH) ta) (dCall p C.W dr) := by
  refine ⟨pe_callD F C.gd hr hg hm hk hb (fun σ => passAt C.tk σ) ha.pa hdb he hpl, fun w σ ρ Q QD hA I q kk => ?_⟩
  refine call_core ha w σ ρ Q (fun r ρ1 => retD QD ρ1 r) hA I q fun v r w1 w' ρ1 s1 I1 I2 s2 hv q' => ?_
  cases r with
  | d x => exact kk v (.d x) ⟨w'.G, w'.H, w1.F⟩ ρ1 (s1.trans s2) I2 hv q'
  | n xs =>
    obtain ⟨a, ws, rfl, h1, h2, h4, h5⟩ := hv
    obtain ⟨n0, nf⟩ := back_new (vs := ws) (ds := xs) s1 I2 I1 h1
    obtain ⟨I3, s3, r3⟩ := stay (s1.trans s2) I2 n0 h2 nf h4 h5
    exact kk (.ref a) (.d (.list xs)) ⟨upd w'.G a (.lst ws), w'.H, w1.F⟩ ρ1 s3 I3 r3 q'
theorem dn_call (F : FnD X.prog X.w X.K X.mg X.base k f fd ps p) (hr : Room k X.A) (hg : Gl X x) (hm : X.mg x = some (.ref f)) (hk : PySem.W.keepIn X.K (.ref f) = true) (hb : Binds X.K fd ps [])
    (ha : DA C (e :: es) ta dr) (hdb : (x == ("__debug__" : Str)) = false := by decide) (he : starEach (e :: es) X.env = (false, eval e X.env) :: starEach es X.env := by rfl) (hpl : (backTo pos (starEach es X.env)).any (·.1) = false := by rfl) :
    DN C (.Call (.Name x px) (e :: es) [] pos) (tCallS (spOf X.K p) (WE C.WH) ta) (nCall p C.W dr) := by
  refine ⟨pe_callD F C.gd hr hg hm hk hb (fun σ => passAt C.tk σ) ha.pa hdb he hpl, fun w σ ρ Q QD hA I q kk => ?_⟩
  refine call_core ha w σ ρ Q (fun r ρ1 => retN QD ρ1 r) hA I q fun v r w1 w' ρ1 s1 I1 I2 s2 hv q' => ?_
  cases r with
  | d x => exact (show False from q').elim
  | n xs =>
    obtain ⟨a, ws, rfl, h1, h2, h4, h5⟩ := hv
    obtain ⟨n0, nf⟩ := back_new (vs := ws) (ds := xs) s1 I2 I1 h1
    exact kk a ws xs ⟨w'.G, w'.H, w1.F⟩ ρ1 (s1.trans s2) I2 n0 h2 nf h4 h5 q'

/-! ### a call that is lent slot i -/
def lendK (ρ : DSt) (i : Nat) (k : SD → Prop) : Prop := match ρ[i]? with
  | some (.own _ ds) => k (.own true ds)
  | some (.res _ r) => k (.res true r)
  | _ => False
def backK (ρ : DSt) (i : Nat) (α : List SD) (k : DSt → Prop) : Prop := match ρ[i]?, α with
  | some (.own io _), .own true ds :: _ => k (ρ.set i (.own io ds))
  | some (.res io _), .res true r :: _ => k (ρ.set i (.res io r))
  | _, _ => False
def dCallL (p : DSp) (W : WD) (i : Nat) (dr : TND) : TED := fun ρ Q => dr ρ fun ds ρ1 => lendK ρ1 i fun s0 => p (s0 :: ds.map SD.val) (fun r α => backK ρ1 i α fun ρ2 => retD Q ρ2 r) (fun e α => backK ρ1 i α fun ρ2 => W e ρ2)
def nCallL (p : DSp) (W : WD) (i : Nat) (dr : TND) : TND := fun ρ Q => dr ρ fun ds ρ1 => lendK ρ1 i fun s0 => p (s0 :: ds.map SD.val) (fun r α => backK ρ1 i α fun ρ2 => retN Q ρ2 r) (fun e α => backK ρ1 i α fun ρ2 => W e ρ2)
theorem lendK_inv {ρ : DSt} {i : Nat} {k : SD → Prop} (h : lendK ρ i k) : (∃ io ds, ρ[i]? = some (.own io ds) ∧ k (.own true ds)) ∨ ∃ io r, ρ[i]? = some (.res io r) ∧ k (.res true r) := by
  unfold lendK at h
  split at h
  · exact .inl ⟨_, _, by assumption, h⟩
  · exact .inr ⟨_, _, by assumption, h⟩
  · exact h.elim
theorem backK_inv {ρ : DSt} {i : Nat} {α : List SD} {k : DSt → Prop} (h : backK ρ i α k) : (∃ io ds ds' r, ρ[i]? = some (.own io ds) ∧ α = .own true ds' :: r ∧ k (ρ.set i (.own io ds'))) ∨ ∃ io q q' r, ρ[i]? = some (.res io q) ∧ α = .res true q' :: r ∧ k (ρ.set i (.res io q')) := by
  unfold backK at h
  split at h
  · exact .inl ⟨_, _, _, _, by assumption, rfl, h⟩
  · exact .inr ⟨_, _, _, _, by assumption, rfl, h⟩
  · exact h.elim
/-- the lent slot as the callee's first argument -/
theorem lent_in {P : Par} {w1 : Wd} {σ : L2.St} {ρ : DSt} {i : Nat} {s0 s0' : SD} {v0 : V} {vs : List V} {ds : List PyData} (I1 : FI X.K P w1 σ ρ) (R1 : Reps X.K w1.G vs ds) (h0 : σ[i]? = some (some v0)) (hs : ρ[i]? = some s0)
    (hc : (∃ io xs, s0 = .own io xs ∧ s0' = .own true xs) ∨ ∃ io r, s0 = .res io r ∧ s0' = .res true r) :
    FI X.K (parOf (v0 :: vs) ⟨w1.G, w1.H, fun j => if j = 0 then w1.F i else []⟩) ⟨w1.G, w1.H, fun j => if j = 0 then w1.F i else []⟩ ((v0 :: vs).map some) (s0' :: ds.map SD.val) := by
  have f0 : ∀ j b, b ∈ (if j = 0 then w1.F i else ([] : List Addr)) → j = 0 ∧ b ∈ w1.F i := fun j b hb => by
    by_cases e : j = 0
    · rw [if_pos e] at hb; exact ⟨e, hb⟩
    · rw [if_neg e] at hb; cases hb
  refine ⟨I1.gh, by rw [List.length_map, List.length_cons, List.length_cons, List.length_map, R1.len], fun j s e => ?_, fun j hj => ?_, fun j b hb => I1.foot i b (f0 j b hb).2, fun j l b hjl hb hb' => hjl ((f0 j b hb).1.trans (f0 l b hb').1.symm)⟩
  · cases j with
    | zero =>
      cases e
      have ok := I1.ok i s0 hs
      rw [h0] at ok
      rcases hc with ⟨io, xs, rfl, rfl⟩ | ⟨io, r, rfl, rfl⟩
      · obtain ⟨a, ws, h1, h2, h3, h4, _⟩ := ok
        cases h1
        exact ⟨a, ws, rfl, h2, h3, h4, fun _ => rfl, fun z => nomatch z⟩
      · obtain ⟨a, h1, h2, _⟩ := ok
        cases h1
        exact ⟨a, rfl, h2, fun _ => rfl, fun z => nomatch z⟩
    | succ j =>
      have e : (ds.map SD.val)[j]? = some s := by simpa using e
      rw [List.getElem?_map] at e
      cases q : ds[j]? with
      | none => rw [q] at e; cases e
      | some d =>
        rw [q] at e
        cases e
        obtain ⟨v, h1, h2⟩ := R1.get q
        exact ⟨rfl, v, by simp [h1], h2⟩
  · show (if j = 0 then w1.F i else []) = []
    rw [if_neg (by intro z; subst z; simp at hj)]
/-- the caller's world behind a call that was lent slot i -/
theorem lent_back {C : DC X} {w1 w' : Wd} {σ : L2.St} {ρ : DSt} {i : Nat} {s1 s1' s2 : SD} {v0 : V} {vs : List V} {α : List SD} (hA : C.A w1) (I1 : FI X.K C.P w1 σ ρ) (s : Stp ⟨w1.G, w1.H, fun j => if j = 0 then w1.F i else []⟩ w') {Pc : Par} (hP : Pc = parOf (v0 :: vs) ⟨w1.G, w1.H, fun j => if j = 0 then w1.F i else []⟩)
    (I' : FI X.K Pc w' ((v0 :: vs).map some) (s1' :: α)) (h0 : σ[i]? = some (some v0)) (hs : ρ[i]? = some s1)
    (hc : (∃ io xs ys, s1 = .own io xs ∧ s1' = .own true ys ∧ s2 = .own io ys) ∨ ∃ io r r', s1 = .res io r ∧ s1' = .res true r' ∧ s2 = .res io r') :
    FI X.K C.P ⟨w'.G, w'.H, fun j => if j = i then w'.F 0 else w1.F j⟩ σ (ρ.set i s2) ∧ Stp w1 ⟨w'.G, w'.H, fun j => if j = i then w'.F 0 else w1.F j⟩ := by
  have hlt : i < ρ.length := (List.getElem?_eq_some_iff.mp hs).1
  have fc : ∀ b, (∀ j, b ∉ w1.F j) → ∀ j, b ∉ (if j = 0 then w1.F i else ([] : List Addr)) := fun b n j z => by
    by_cases e : j = 0
    · rw [if_pos e] at z; exact n i z
    · rw [if_neg e] at z; cases z
  have fo : ∀ l b, l ≠ i → b ∈ w1.F l → ∀ j, b ∉ (if j = 0 then w1.F i else ([] : List Addr)) := fun l b n hb j z => by
    by_cases e : j = 0
    · rw [if_pos e] at z; exact I1.sep l i b n hb z
    · rw [if_neg e] at z; cases z
  have f0 : ∀ b, b ∈ w'.F 0 → b ∈ w1.F i ∨ w1.H b = none := fun b hb => by
    rcases s.f 0 b hb with q | q
    · have q : b ∈ (if (0 : Nat) = 0 then w1.F i else ([] : List Addr)) := q
      rw [if_pos rfl] at q; exact .inl q
    · exact .inr q
  have sub : ∀ j b, b ∈ (if j = i then w'.F 0 else w1.F j) → (j = i ∧ b ∈ w'.F 0) ∨ (j ≠ i ∧ b ∈ w1.F j) := fun j b hb => by
    by_cases e : j = i
    · rw [if_pos e] at hb; exact .inl ⟨e, hb⟩
    · rw [if_neg e] at hb; exact .inr ⟨e, hb⟩
  refine ⟨⟨I'.gh, by rw [List.length_set]; exact I1.len, fun j st e => ?_, fun j hj => ?_, fun j b hb => ?_, fun j l b hjl hb hb' => ?_⟩, ⟨s.g, fun b h1 h2 h3 => s.gf b h1 h2 (fc b h3), fun b o h1 h2 => s.h b o h1 (fc b h2), s.t, fun j b hb => ?_⟩⟩
  · by_cases hj : i = j
    · subst hj
      rw [List.getElem?_set_self hlt] at e
      cases e
      show slotOk X.K C.P.σ0[i]? C.P.N _ (if i = i then w'.F 0 else w1.F i) σ[i]? _
      rw [if_pos rfl]
      have ok := I1.ok i _ hs
      have ok' := I'.ok 0 s1' rfl
      rcases hc with ⟨io, xs, ys, rfl, rfl, rfl⟩ | ⟨io, r, r', rfl, rfl, rfl⟩
      · obtain ⟨a, ws, h1, h2, h3, h4, h5, h6⟩ := ok
        obtain ⟨a', ws', g1, g2, g3, g4, _⟩ := ok'
        rw [h0] at h1
        cases h1
        cases g1
        exact ⟨a, ws', h0, g2, g3, g4, h5, h6⟩
      · obtain ⟨a, h1, h2, h5, h6⟩ := ok
        obtain ⟨a', g1, g2, _⟩ := ok'
        rw [h0] at h1
        cases h1
        cases g1
        refine ⟨a, h0, g2, h5, fun z b hb => ?_⟩
        rcases f0 b hb with q | q
        · exact h6 z b q
        · exact C.nw w1 b hA q
    · rw [List.getElem?_set_ne hj] at e
      show slotOk X.K C.P.σ0[j]? C.P.N _ (if j = i then w'.F 0 else w1.F j) σ[j]? st
      rw [if_neg (Ne.symm hj)]
      exact (I1.ok j st e).go s.g fun b hb o h => s.h b o h (fo j b (Ne.symm hj) hb)
  · have hj : ρ.length ≤ j := by rw [← List.length_set (as := ρ)]; exact hj
    show (if j = i then w'.F 0 else w1.F j) = []
    rw [if_neg (by omega)]
    exact I1.out j hj
  · rcases sub j b hb with ⟨_, q⟩ | ⟨e, q⟩
    · exact I'.foot 0 b q
    · obtain ⟨h1, h2⟩ := I1.foot j b q
      exact ⟨s.gf b h2 h1 (fo j b e q), s.t b h2⟩
  · rcases sub j b hb with ⟨e1, q⟩ | ⟨e1, q⟩
    · rcases sub l b hb' with ⟨e2, _⟩ | ⟨e2, q'⟩
      · exact hjl (e1.trans e2.symm)
      · rcases f0 b q with z | z
        · exact I1.sep l i b e2 q' z
        · exact (I1.foot l b q').2 z
    · rcases sub l b hb' with ⟨e2, q'⟩ | ⟨e2, q'⟩
      · rcases f0 b q' with z | z
        · exact I1.sep j i b e1 q z
        · exact (I1.foot j b q).2 z
      · exact I1.sep j l b hjl q q'
  · rcases sub j b hb with ⟨e1, q⟩ | ⟨_, q⟩
    · rw [e1]; exact f0 b q
    · exact .inl q
theorem callL_core {i : Nat} (ha : DA C es ta dr) (w : Wd) (σ : L2.St) (ρ : DSt) (Q : VK) (fin : Ret → DSt → Prop) (hA : C.A w) (I : FI X.K C.P w σ ρ) (hv : ∃ v0, σ[i]? = some (some v0))
    (q : dr ρ fun ds ρ1 => lendK ρ1 i fun s0 => p (s0 :: ds.map SD.val) (fun r α => backK ρ1 i α fun ρ2 => fin r ρ2) (fun e α => backK ρ1 i α fun ρ2 => C.W e ρ2))
    (k : ∀ (v : V) (r : Ret) (w1 w2 : Wd) (ρ2 : DSt), Stp w w1 → FI X.K C.P w2 σ ρ2 → Stp w1 w2 → (match r with
      | .d x => Rep X.K w2.G v x
      | .n ds => ∃ (a : Addr) (vs : List V), v = .ref a ∧ w1.H a = none ∧ w2.G a = none ∧ (∀ j, a ∉ w2.F j) ∧ w2.H a = some (.lst vs) ∧ Reps X.K w2.G vs ds) → fin r ρ2 → Q v w2.H) :
    tCallS (spOf X.K p) (WE C.WH) (tCons (tVar i) ta) σ w.H Q := by
  obtain ⟨v0, h0⟩ := hv
  refine ⟨v0, h0, ha.run w σ ρ _ _ hA I q fun vs ds w1 ρ1 s1 I1 R1 q1 => ?_⟩
  have hA1 := C.cl _ _ hA s1
  obtain ⟨s0, s0', hs, hc, q2⟩ : ∃ s0 s0', ρ1[i]? = some s0 ∧ ((∃ io xs, s0 = .own io xs ∧ s0' = .own true xs) ∨ ∃ io r, s0 = .res io r ∧ s0' = .res true r) ∧
      p (s0' :: ds.map SD.val) (fun r α => backK ρ1 i α fun ρ2 => fin r ρ2) (fun e α => backK ρ1 i α fun ρ2 => C.W e ρ2) := by
    rcases lendK_inv q1 with ⟨io, xs, e, q2⟩ | ⟨io, r, e, q2⟩
    · exact ⟨_, _, e, .inl ⟨io, xs, rfl, rfl⟩, q2⟩
    · exact ⟨_, _, e, .inr ⟨io, r, rfl, rfl⟩, q2⟩
  have lo : lentOne (s0' :: ds.map SD.val) = true := by
    have h : (ds.map SD.val).all (fun s => match s with | .val _ => true | _ => false) = true := by
      rw [List.all_eq_true]
      intro s hs
      obtain ⟨d, _, rfl⟩ := List.mem_map.mp hs
      rfl
    rcases hc with ⟨io, xs, rfl, rfl⟩ | ⟨io, r, rfl, rfl⟩ <;> exact h
  -- behind the call: the slot as the callee left it
  have aft : ∀ (w' : Wd) (α' : List SD) (g : DSt → Prop), Stp ⟨w1.G, w1.H, fun j => if j = 0 then w1.F i else []⟩ w' → FI X.K (parOf (v0 :: vs) ⟨w1.G, w1.H, fun j => if j = 0 then w1.F i else []⟩) w' ((v0 :: vs).map some) α' → backK ρ1 i α' g →
      ∃ ρ2, FI X.K C.P ⟨w'.G, w'.H, fun j => if j = i then w'.F 0 else w1.F j⟩ σ ρ2 ∧ Stp w1 ⟨w'.G, w'.H, fun j => if j = i then w'.F 0 else w1.F j⟩ ∧ g ρ2 := by
    intro w' α' g s' I' hb
    rcases backK_inv hb with ⟨io, xs, ys, r, e, rfl, hg⟩ | ⟨io, z, z', r, e, rfl, hg⟩
    · obtain ⟨a1, a2⟩ := lent_back (s2 := .own io ys) hA1 I1 s' rfl I' h0 e (.inl ⟨io, xs, ys, rfl, rfl, rfl⟩)
      exact ⟨_, a1, a2, hg⟩
    · obtain ⟨a1, a2⟩ := lent_back (s2 := .res io z') hA1 I1 s' rfl I' h0 e (.inr ⟨io, z, z', rfl, rfl, rfl⟩)
      exact ⟨_, a1, a2, hg⟩
  refine ⟨⟨w1.G, w1.H, fun j => if j = 0 then w1.F i else []⟩, s0' :: ds.map SD.val, _, _, rfl, lent_in I1 R1 h0 hs hc, lo, q2, fun v r w' α' s' I' hr' q' => ?_, fun ex α' w' cls d s' I' hr' q' => ?_⟩
  · obtain ⟨ρ2, I2, s2, q3⟩ := aft w' α' _ s' I' q'
    refine k v r w1 ⟨w'.G, w'.H, fun j => if j = i then w'.F 0 else w1.F j⟩ ρ2 s1 I2 s2 ?_ q3
    cases r with
    | d x => exact hr'
    | n xs =>
      obtain ⟨a, ws, rfl, h1, h2, h3, h4, h5⟩ := hr'
      refine ⟨a, ws, rfl, h1, h2, fun j hj => ?_, h4, h5⟩
      have hj : a ∈ (if j = i then w'.F 0 else w1.F j) := hj
      by_cases e : j = i
      · rw [if_pos e] at hj; exact h3 0 hj
      · rw [if_neg e] at hj; exact (I1.foot j a hj).2 h1
  · obtain ⟨ρ2, I2, s2, q3⟩ := aft w' α' _ s' I' q'
    exact C.hW ex ρ2 σ ⟨w'.G, w'.H, fun j => if j = i then w'.F 0 else w1.F j⟩ cls d (C.cl _ _ hA1 s2) I2 hr' q3
theorem slot_lent {K : PySem.W.Frag} {P : Par} {w : Wd} {σ : L2.St} {ρ : DSt} {i : Nat} {s : SD} (I : FI K P w σ ρ) (e : ρ[i]? = some s) (h : s ≠ .no) : ∃ v, σ[i]? = some (some v) := by
  have ok := I.ok i s e
  cases s with
  | no => exact absurd rfl h
  | val d => exact ⟨_, ok.2.choose_spec.1⟩
  | own io ds => exact ⟨_, ok.choose_spec.choose_spec.1⟩
  | res io r => exact ⟨_, ok.choose_spec.1⟩
def isLent (ρ : DSt) (i : Nat) : Prop := match ρ[i]? with
  | some (.own _ _) => True
  | some (.res _ _) => True
  | _ => False
theorem isLent_v {K : PySem.W.Frag} {P : Par} {w : Wd} {σ : L2.St} {ρ : DSt} {i : Nat} (I : FI K P w σ ρ) (h : isLent ρ i) : ∃ v, σ[i]? = some (some v) := by
  unfold isLent at h
  cases e : ρ[i]? with
  | none => rw [e] at h; exact h.elim
  | some s =>
    rw [e] at h
    refine slot_lent I e ?_
    rintro rfl
    exact h
def withLent (i : Nat) (t : TED) : TED := fun ρ Q => isLent ρ i ∧ t ρ Q
def withLentN (i : Nat) (t : TND) : TND := fun ρ Q => isLent ρ i ∧ t ρ Q
variable {y : Str} {py : Pos}
theorem de_callL (i : Nat) (F : FnD X.prog X.w X.K X.mg X.base k f fd ps p) (hr : Room k X.A) (hg : Gl X x) (hm : X.mg x = some (.ref f)) (hk : PySem.W.keepIn X.K (.ref f) = true) (hb : Binds X.K fd ps [])
    (ha : DA C es ta dr) (hN : X.N[i]? = some y := by rfl) (hv : Vis X.env.scope y := by first | exact Or.inl rfl | exact Or.inr (Or.inl rfl) | exact Or.inr (Or.inr rfl)) (hd : (y == ("__debug__" : Str)) = false := by decide) (hcd : (y == ("__classdict__" : Str)) = false := by decide)
    (hdb : (x == ("__debug__" : Str)) = false := by decide) (he : starEach (.Name y py :: es) X.env = (false, eval (.Name y py) X.env) :: starEach es X.env := by rfl) (hpl : (backTo pos (starEach es X.env)).any (·.1) = false := by rfl) :
    DE C (.Call (.Name x px) (.Name y py :: es) [] pos) (tCallS (spOf X.K p) (WE C.WH) (tCons (tVar i) ta)) (withLent i (dCallL p C.W i dr)) := by
  refine ⟨pe_callD F C.gd hr hg hm hk hb (fun σ => passAt C.tk σ) (pa_cons (pe_var hN hv hd hcd) ha.pa he) hdb he hpl, fun w σ ρ Q QD hA I q kk => ?_⟩
  refine callL_core ha w σ ρ Q (fun r ρ1 => retD QD ρ1 r) hA I (isLent_v I q.1) q.2 fun v r w1 w2 ρ2 s1 I2 s2 hv' q' => ?_
  cases r with
  | d x => exact kk v (.d x) w2 ρ2 (s1.trans s2) I2 hv' q'
  | n xs =>
    obtain ⟨a, ws, rfl, h1, h2, h3, h4, h5⟩ := hv'
    have n0 : w.H a = none := by
      cases e0 : w.H a with
      | none => rfl
      | some o => exact absurd h1 (s1.t a (by rw [e0]; exact fun z => nomatch z))
    obtain ⟨I3, s3, r3⟩ := stay (s1.trans s2) I2 n0 h2 h3 h4 h5
    exact kk (.ref a) (.d (.list xs)) ⟨upd w2.G a (.lst ws), w2.H, w2.F⟩ ρ2 s3 I3 r3 q'
theorem dn_callL (i : Nat) (F : FnD X.prog X.w X.K X.mg X.base k f fd ps p) (hr : Room k X.A) (hg : Gl X x) (hm : X.mg x = some (.ref f)) (hk : PySem.W.keepIn X.K (.ref f) = true) (hb : Binds X.K fd ps [])
    (ha : DA C es ta dr) (hN : X.N[i]? = some y := by rfl) (hv : Vis X.env.scope y := by first | exact Or.inl rfl | exact Or.inr (Or.inl rfl) | exact Or.inr (Or.inr rfl)) (hd : (y == ("__debug__" : Str)) = false := by decide) (hcd : (y == ("__classdict__" : Str)) = false := by decide)
    (hdb : (x == ("__debug__" : Str)) = false := by decide) (he : starEach (.Name y py :: es) X.env = (false, eval (.Name y py) X.env) :: starEach es X.env := by rfl) (hpl : (backTo pos (starEach es X.env)).any (·.1) = false := by rfl) :
    DN C (.Call (.Name x px) (.Name y py :: es) [] pos) (tCallS (spOf X.K p) (WE C.WH) (tCons (tVar i) ta)) (withLentN i (nCallL p C.W i dr)) := by
  refine ⟨pe_callD F C.gd hr hg hm hk hb (fun σ => passAt C.tk σ) (pa_cons (pe_var hN hv hd hcd) ha.pa he) hdb he hpl, fun w σ ρ Q QD hA I q kk => ?_⟩
  refine callL_core ha w σ ρ Q (fun r ρ1 => retN QD ρ1 r) hA I (isLent_v I q.1) q.2 fun v r w1 w2 ρ2 s1 I2 s2 hv' q' => ?_
  cases r with
  | d x => exact (show False from q').elim
  | n xs =>
    obtain ⟨a, ws, rfl, h1, h2, h3, h4, h5⟩ := hv'
    have n0 : w.H a = none := by
      cases e0 : w.H a with
      | none => rfl
      | some o => exact absurd h1 (s1.t a (by rw [e0]; exact fun z => nomatch z))
    exact kk a ws xs w2 ρ2 (s1.trans s2) I2 n0 h2 h3 h4 h5 q'
end

/-! ### the body -/
/-- what goes out by the arguments -/
def outK (α : List SD) (ρ : DSt) (k : List SD → Prop) : Prop := match α with
  | .own _ _ :: r => (match ρ with | .own true ds :: _ => k (.own true ds :: r) | _ => False)
  | .res _ _ :: r => (match ρ with | .res true q :: _ => k (.res true q :: r) | _ => False)
  | l => k l
/-- the slots at the entry -/
def startD (n : Nat) (α : List SD) : DSt := α ++ List.replicate (n - α.length) .no
theorem fi_start {K : PySem.W.Frag} {w : Wd} {vs : List V} {α : List SD} {P : Par} (N : List Str) (I : FI K P w (vs.map some) α) (hP : P.σ0 = vs.map some) : FI K ⟨start N vs, P.N⟩ w (start N vs) (startD N.length α) := by
  have hl : vs.length = α.length := by have := I.len; rwa [List.length_map] at this
  have e1 : ∀ i, i < α.length → (start N vs)[i]? = (vs.map some)[i]? := fun i hi => by
    unfold L2.start
    rw [List.getElem?_append_left (by rw [List.length_map, hl]; exact hi)]
  refine ⟨I.gh, ?_, fun i s e => ?_, fun i hi => I.out i (Nat.le_trans ?_ hi), I.foot, I.sep⟩
  · unfold L2.start startD
    rw [List.length_append, List.length_append, List.length_map, List.length_replicate, List.length_replicate, hl]
  · by_cases hi : i < α.length
    · have e : α[i]? = some s := by
        unfold startD at e
        rw [List.getElem?_append_left hi] at e; exact e
      have ok := I.ok i s e
      show slotOk K (start N vs)[i]? P.N w (w.F i) (start N vs)[i]? s
      rw [hP] at ok
      rw [e1 i hi]
      exact ok
    · unfold startD at e
      rw [List.getElem?_append_right (by omega), List.getElem?_replicate] at e
      split at e
      · cases e
        exact I.out i (by omega)
      · cases e
  · unfold startD
    rw [List.length_append]
    omega
/-- the arguments' tie at the end -/
theorem fi_end {K : PySem.W.Frag} {w w' : Wd} {vs : List V} {α : List SD} {P : Par} {N : List Str} {σ' : L2.St} {ρ' : DSt} {k : List SD → Prop} (I : FI K P w (vs.map some) α) (hP : P.σ0 = vs.map some) (hlo : lentOne α = true) (s : Stp w w') (I' : FI K ⟨start N vs, P.N⟩ w' σ' ρ') (h : outK α ρ' k) :
    ∃ α' w'', w''.G = w'.G ∧ w''.H = w'.H ∧ (∀ i b, b ∈ w''.F i → b ∈ w'.F i) ∧ FI K P w'' (vs.map some) α' ∧ Stp w w'' ∧ k α' := by
  have hl : vs.length = α.length := by have := I.len; rwa [List.length_map] at this
  -- without a lent argument
  have plain : (∀ st ∈ α, ∃ d, st = .val d) → FI K P ⟨w'.G, w'.H, fun _ => []⟩ (vs.map some) α ∧ Stp w ⟨w'.G, w'.H, fun _ => []⟩ := fun hv => by
    refine ⟨⟨I'.gh, I.len, fun i st e => ?_, fun _ _ => rfl, fun i b hb => (nomatch hb), fun i j b _ hb => (nomatch hb)⟩, ⟨s.g, s.gf, s.h, s.t, fun i b hb => (nomatch hb)⟩⟩
    obtain ⟨d, rfl⟩ := hv st (List.mem_of_getElem? e)
    obtain ⟨_, u, h1, h2⟩ := I.ok i _ e
    exact ⟨rfl, u, h1, rep_mono s.g _ _ h2⟩
  -- with one
  have lent : ∀ (s0 s1 : SD) (r : List SD) (ρr : DSt), α = s0 :: r → ρ' = s1 :: ρr → (∀ st ∈ r, ∃ d, st = .val d) → ((∃ io xs ys, s0 = .own io xs ∧ s1 = .own true ys) ∨ ∃ io q q', s0 = .res io q ∧ s1 = .res true q') →
      FI K P ⟨w'.G, w'.H, fun i => if i = 0 then w'.F 0 else []⟩ (vs.map some) (s1 :: r) ∧ Stp w ⟨w'.G, w'.H, fun i => if i = 0 then w'.F 0 else []⟩ := by
    intro s0 s1 r ρr ea er hv hc
    subst ea er
    have f0 : ∀ j b, b ∈ (if j = 0 then w'.F 0 else ([] : List Addr)) → j = 0 ∧ b ∈ w'.F 0 := fun j b hb => by
      by_cases e : j = 0
      · rw [if_pos e] at hb; exact ⟨e, hb⟩
      · rw [if_neg e] at hb; cases hb
    refine ⟨⟨I'.gh, I.len, fun i st e => ?_, fun i hi => ?_, fun i b hb => I'.foot 0 b (f0 i b hb).2, fun i j b hij hb hb' => hij ((f0 i b hb).1.trans (f0 j b hb').1.symm)⟩, ⟨s.g, s.gf, s.h, s.t, fun i b hb => ?_⟩⟩
    · cases i with
      | zero =>
        cases e
        have ok' := I'.ok 0 s1 rfl
        show slotOk K P.σ0[0]? P.N _ (w'.F 0) (vs.map some)[0]? s1
        cases vs with
        | nil => cases hl
        | cons v0 vr =>
          have e0 : (start N (v0 :: vr))[0]? = some (some v0) := rfl
          have ep : P.σ0[0]? = some (some v0) := by rw [hP]; rfl
          rcases hc with ⟨io, xs, ys, rfl, rfl⟩ | ⟨io, q, q', rfl, rfl⟩
          · obtain ⟨a, ws, h1, h2, h3, h4, h5, _⟩ := ok'
            have h5 := h5 rfl
            rw [e0] at h5
            cases h5
            exact ⟨a, ws, rfl, h2, h3, h4, fun _ => ep, fun z => nomatch z⟩
          · obtain ⟨a, h1, h2, h5, _⟩ := ok'
            have h5 := h5 rfl
            rw [e0] at h5
            cases h5
            exact ⟨a, rfl, h2, fun _ => ep, fun z => nomatch z⟩
      | succ i =>
        have e' : r[i]? = some st := by simpa using e
        obtain ⟨d, rfl⟩ := hv st (List.mem_of_getElem? e')
        obtain ⟨_, u, h1, h2⟩ := I.ok (i + 1) (.val d) (by simpa using e')
        exact ⟨rfl, u, h1, rep_mono s.g _ _ h2⟩
    · show (if i = 0 then w'.F 0 else []) = []
      rw [if_neg (by intro z; subst z; simp at hi)]
    · obtain ⟨rfl, q⟩ := f0 i b hb
      exact s.f 0 b q
  have vals : ∀ r : List SD, (r.all fun s => match s with | .val _ => true | _ => false) = true → ∀ st ∈ r, ∃ d, st = .val d := fun r hr st hm => by
    have z := List.all_eq_true.mp hr st hm
    cases st with
    | val d => exact ⟨d, rfl⟩
    | _ => cases z
  cases α with
  | nil => exact ⟨[], ⟨w'.G, w'.H, fun _ => []⟩, rfl, rfl, (fun i b hb => nomatch (show b ∈ ([] : List Addr) from hb)), (plain fun st hm => (nomatch hm)).1, (plain fun st hm => (nomatch hm)).2, h⟩
  | cons s0 r =>
    cases s0 with
    | no => cases hlo
    | val d =>
      have hv := vals (.val d :: r) hlo
      exact ⟨_, ⟨w'.G, w'.H, fun _ => []⟩, rfl, rfl, (fun i b hb => nomatch (show b ∈ ([] : List Addr) from hb)), (plain hv).1, (plain hv).2, h⟩
    | own io xs =>
      have hv := vals r (Bool.and_eq_true_iff.mp hlo).2
      cases ρ' with
      | nil => exact (show False from h).elim
      | cons s1 ρr =>
        cases s1 with
        | no => exact (show False from h).elim
        | val _ => exact (show False from h).elim
        | res _ _ => exact (show False from h).elim
        | own io' ys =>
          cases io' with
          | false => exact (show False from h).elim
          | true =>
            obtain ⟨h1, h2⟩ := lent _ _ r ρr rfl rfl hv (.inl ⟨io, xs, ys, rfl, rfl⟩)
            refine ⟨_, ⟨w'.G, w'.H, fun i => if i = 0 then w'.F 0 else []⟩, rfl, rfl, fun i b hb => ?_, h1, h2, h⟩
            have hb : b ∈ (if i = 0 then w'.F 0 else ([] : List Addr)) := hb
            by_cases e : i = 0
            · rw [if_pos e] at hb; rw [e]; exact hb
            · rw [if_neg e] at hb; cases hb
    | res io q =>
      have hv := vals r (Bool.and_eq_true_iff.mp hlo).2
      cases ρ' with
      | nil => exact (show False from h).elim
      | cons s1 ρr =>
        cases s1 with
        | no => exact (show False from h).elim
        | val _ => exact (show False from h).elim
        | own _ _ => exact (show False from h).elim
        | res io' q' =>
          cases io' with
          | false => exact (show False from h).elim
          | true =>
            obtain ⟨h1, h2⟩ := lent _ _ r ρr rfl rfl hv (.inr ⟨io, q, q', rfl, rfl⟩)
            refine ⟨_, ⟨w'.G, w'.H, fun i => if i = 0 then w'.F 0 else []⟩, rfl, rfl, fun i b hb => ?_, h1, h2, h⟩
            have hb : b ∈ (if i = 0 then w'.F 0 else ([] : List Addr)) := hb
            by_cases e : i = 0
            · rw [if_pos e] at hb; rw [e]; exact hb
            · rw [if_neg e] at hb; cases hb

/-- THE RULE: a def by its body's derivation and that derivation's reading -/
theorem fnd_of {P : Program} {w : World} {K : PySem.W.Frag} {mg : Str → Option Value} {base : Heap} {k : Nat} {f : Addr} {name qual : Str} {params : Arguments} {body : List Stmt} {scope : Scope} {dV kV doc pm cdv ct oc : Value} {an od : Option Addr}
    {osl : Array (Option Value)} {N ps : List Str} {p : DSp} (lk : K.lookup f = some ⟨oc, od, .func (PySem.W.fnOf name qual params body scope dV kV doc pm an cdv ct), osl⟩) (hcd : PySem.W.codeIn K cdv qual = true) (S : FnScope N ps scope)
    (len : ∀ α QD ED, p α QD ED → α.length = ps.length)
    (hbody : ∀ (A : Around) (outer : List Env) (s : Shared) (H : Hp) (E : XK) (C : DC (cxOf (L2.CX P w) P w K mg base N qual scope f cdv A outer s H E)) (α : List SD) (QD : Ret → List SD → Prop) (ED : Exd → List SD → Prop),
      Room k (A.deeper (envOfC qual scope s.heap.objs.size f cdv)) → C.W = (fun e ρ => outK α ρ fun α' => ED e α') → p α QD ED →
      ∃ ts t, DSs C body ts t ∧ t { nx := fun ρ => outK α ρ fun α' => QD (.d .none) α', rt := fun r ρ => outK α ρ fun α' => QD r α' } (startD N.length α)) :
    FnD P w K mg base (k + 1) f (PySem.W.fnOf name qual params body scope dV kV doc pm an cdv ct) ps p := by
  refine ⟨len, fun A outer s H args us vs Q E hgd hr e0 hb r hsp => ?_⟩
  have hl := spOf.len len hsp
  obtain ⟨wd, α, QD, ED, eH, I0, hlo, hp, hret, hexc⟩ := hsp
  have kin0 : K.In s.heap := PySem.W.Frag.In.keeps e0.mod.kin fun c u q => (e0.bs c u q).1
  have lim0 : s.heap.NoLimit := Heap.NoLimit.keeps e0.mod.nolimit fun c u q => (e0.bs c u q).1
  have kinds : ∀ y ∈ ps.zip us, scope.names.lookup y.1 = some .local ∨ (scope.names.lookup y.1 = some .cell ∧ ((cellsFrom (s.heap.objs.size + 1) scope.names []).lookup y.1).isSome = true) := fun ⟨n, v⟩ hy =>
    (S.par n (List.of_mem_zip hy).1).imp id fun c => ⟨c, PySem.W.cellsFrom_some _ _ _ (.inl c)⟩
  let C : DC (cxOf (L2.CX P w) P w K mg base N qual scope f cdv A outer s H E) :=
    { P := ⟨start N vs, (parOf vs wd).N⟩, A := fun w' => Stp wd w', cl := fun _ _ a b => a.trans b,
      nw := fun w' q a e => by
        show wd.H q = none
        cases z : wd.H q with
        | none => rfl
        | some o => exact absurd e (a.t q (by rw [z]; exact fun z => nomatch z)),
      gd := hgd, calm := rfl, nd := S.nd, un := (by have := (hr.deeper (envOfC qual scope s.heap.objs.size f cdv)).un; show (A.deeper (envOfC qual scope s.heap.objs.size f cdv)).units + 100 < _; omega),
      W := fun e ρ => outK α ρ fun α' => ED e α', WH := fun cls d _ H => E cls d H, tk := takes_of rfl rfl rfl rfl,
      hW := fun e ρ σ w' cls d a I re h => by
        obtain ⟨α', w'', g1, g2, _, I2, s2, h2⟩ := fi_end (P := parOf vs wd) (N := N) I0 rfl hlo a I h
        have z := hexc e α' w'' cls d s2 I2 ⟨re.1, by rw [g1]; exact re.2⟩ h2
        rw [g2] at z
        exact z }
  obtain ⟨ts, t, hd, ht⟩ := hbody A outer s H E C α QD ED (hr.deeper _) rfl hp
  refine codeAny_call_function hr.depth (kin0 _ _ lk) rfl S.co S.gen rfl (PySem.W.codeRec_of kin0 hcd) (hb _ _ _ _ ?_)
  refine wpAny_newFunctionEnv_cells S.kind kinds fun env henv s1 x => ?_
  subst henv
  refine ⟨lim0.keeps x.toInCall.keep, codeAny_func ?_⟩
  have J0 : Inv (cxOf (L2.CX P w) P w K mg base N qual scope f cdv A outer s H E) [] (start N vs) H s1 := inv_start S hr.hd e0 hl r x
  -- the ends
  have ends : EndsOk C wd { nx := fun _ H' => Q .non H', rt := Q } { nx := fun ρ => outK α ρ fun α' => QD (.d .none) α', rt := fun r ρ => outK α ρ fun α' => QD r α' } := by
    have one : ∀ v r w' σ' ρ', Stp wd w' → FI K C.P w' σ' ρ' → RepRet K C.P.N w' v r → outK α ρ' (fun α' => QD r α') → Q v w'.H := by
      intro v r w' σ' ρ' s' I' hr' h
      obtain ⟨α', w'', g1, g2, g3, I2, s2, h2⟩ := fi_end (P := parOf vs wd) (N := N) I0 rfl hlo s' I' h
      have rr : RepRet K (parOf vs wd).N w'' v r := by
        cases r with
        | d y =>
          show Rep K w''.G v y
          rw [g1]; exact hr'
        | n ds =>
          obtain ⟨a, ws, h1, h3, h4, h5, h6, h7⟩ := hr'
          exact ⟨a, ws, h1, h3, by rw [g1]; exact h4, fun i z => h5 i (g3 i a z), by rw [g2]; exact h6, by rw [g1]; exact h7⟩
      have z := hret v r w'' α' s2 I2 rr h2
      rw [g2] at z
      exact z
    exact ⟨fun w' σ' ρ' s' I' h => one .non (.d .none) w' σ' ρ' s' I' .non h, one, fun _ _ _ _ _ h => h.elim, fun _ _ _ _ _ h => h.elim⟩
  have go := hd.run wd (start N vs) (startD N.length α) _ _ (Stp.refl wd) (fi_start N I0 rfl) ht ends
  rw [eH] at go
  refine wpAny_mono (hd.pss.run [] s1 (start N vs) H _ J0 go) ?_ fun _ _ z => z
  intro fl s' got
  have fin : ∀ {σ' : L2.St} {H' : Hp} {v : V} {u : Value}, Inv (cxOf (L2.CX P w) P w K mg base N qual scope f cdv A outer s H E) [] σ' H' s' → RelV v u → Q v H' → CE outer P w H s Q u s' :=
    fun J rv q => ⟨_, _, J.os, J.bare, J.base, J.hok, rv, q⟩
  match fl, got with
  | .ret u, ⟨v, σ', H', J, rv, q⟩ => exact fin J rv q
  | .next, ⟨σ', H', J, q⟩ => exact fin (v := V.non) (u := Value.none) J rfl q
  | .brk, ⟨_, _, _, q⟩ => exact q.elim
  | .cont, ⟨_, _, _, q⟩ => exact q.elim
end DL

end
section
set_option maxHeartbeats 4000000
/-! DLE: more of expressions and statements over data. -/
namespace DL
open PySem PySem.Spec L2
section
variable {X : Cx} {C : DC X} {a b c e : Expr} {ta tb tc te : TE} {da db dc de : TED} {pos : Pos} {es : List Expr} {tr : TA} {dr : TND}

theorem opr_or {f : Value → Value → Sem Value} {r r' : R2} (h : OpR X f r) (h' : OpR X f r') : OpR X f (fun x y H Q => r x y H Q ∨ r' x y H Q) := by
  intro pins s σ H x y v u Q I rx ry q
  rcases q with q | q
  · exact h pins s σ H x y v u Q I rx ry q
  · exact h' pins s σ H x y v u Q I rx ry q

/-! ### + of ints, texts, tuples, lists -/
def rAddU (K : PySem.W.Frag) : R2 := fun x y H Q => rI0 (fun i j => .int (i + j)) x y H Q ∨ (∃ i j, x = .str i ∧ y = .str j ∧ i.length + j.length ≤ sizeLine ∧ Q (.str (i ++ j)) H) ∨ rCatA K x y H Q ∨ rCat x y H Q
def dAdd (x y : PyData) (k : PyData → Prop) : Prop := match x, y with
  | .int i, .int j => k (.int (i + j))
  | .str a, .str b => a.length + b.length ≤ sizeLine ∧ k (.str (a ++ b))
  | .tuple xs, .tuple ys => xs.length + ys.length ≤ sizeLine ∧ k (.tuple (xs ++ ys))
  | .list xs, .list ys => xs.length + ys.length ≤ sizeLine ∧ k (.list (xs ++ ys))
  | _, _ => False
theorem Reps.nil_l {G : Hp} {vs : List V} {ds : List PyData} (r : Reps X.K G vs ds) : vs = [] ↔ ds = [] := by
  cases r with
  | nil => simp
  | cons _ _ => simp
theorem od_addU : OpR X (binaryOp .Add) (rAddU X.K) ∧ OpD X C (rAddU X.K) dAdd := by
  refine ⟨opr_or op_add (opr_or op_add_str (opr_or op_catA op_cat)), fun w σ ρ u v x y Q kd hA I tx ty h k => ?_⟩
  unfold dAdd at h
  split at h
  · cases tx
    cases ty
    exact .inl ⟨_, _, rfl, rfl, k _ (.int _) w (Stp.refl w) I (.int _) h⟩
  · cases tx
    cases ty
    exact .inr (.inl ⟨_, _, rfl, rfl, h.1, k _ (.str _) w (Stp.refl w) I (.str _) h.2⟩)
  · rename_i xs ys
    obtain ⟨hl, h⟩ := h
    cases tx with
    | tup hx rx =>
      rename_i ax vx
      cases ty with
      | tup hy ry =>
        rename_i ay vy
        refine .inr (.inr (.inl ⟨_, _, _, _, rfl, rfl, sqt_mono I.gh hx, sqt_mono I.gh hy, by rw [rx.len, ry.len]; exact hl, fun e => ?_, fun e1 e2 => ?_, fun e1 e2 p hp => ?_⟩))
        · have z := rx.nil_l.mp e
          subst z
          exact k (.ref ay) (.tuple ys) w (Stp.refl w) I (.tup hy ry) h
        · have z := ry.nil_l.mp e2
          subst z
          rw [List.append_nil] at h
          exact k (.ref ax) (.tuple xs) w (Stp.refl w) I (.tup hx rx) h
        · obtain ⟨I2, s2⟩ := I.new (o := .tup (vx ++ vy)) hp
          exact k (.ref p) (.tuple (xs ++ ys)) ⟨upd w.G p _, upd w.H p _, w.F⟩ s2 I2 (.tup (SqT.of upd_same) (reps_mono s2.g _ _ (rx.app ry))) h
  · rename_i xs ys
    obtain ⟨hl, h⟩ := h
    obtain ⟨ax, vx, rfl, hx, rx⟩ := tx
    obtain ⟨ay, vy, rfl, hy, ry⟩ := ty
    refine .inr (.inr (.inr ⟨_, _, _, _, rfl, rfl, hx, hy, by rw [rx.len, ry.len]; exact hl, fun p hp => ?_⟩))
    obtain ⟨I2, s2⟩ := I.new (o := .lst (vx ++ vy)) hp
    exact k (.ref p) (.list (xs ++ ys)) ⟨upd w.G p _, upd w.H p _, w.F⟩ s2 I2 (.lst upd_same (reps_mono s2.g _ _ (rx.app ry))) h
  · exact h.elim
def asLL (x y : PyData) (k : List PyData → List PyData → Prop) : Prop := match x, y with
  | .list xs, .list ys => k xs ys
  | _, _ => False
theorem asLL_inv {x y : PyData} {k : List PyData → List PyData → Prop} (h : asLL x y k) : ∃ xs ys, x = .list xs ∧ y = .list ys ∧ k xs ys := by
  unfold asLL at h
  split at h
  · exact ⟨_, _, rfl, rfl, h⟩
  · exact h.elim
/-- list + list as a new list of one's own -/
def nCat (da db : TED) : TND := fun ρ Q => da ρ fun r1 ρ1 => db ρ1 fun r2 ρ2 => vw ρ2 r1 fun x => vw ρ2 r2 fun y => asLL x y fun xs ys => xs.length + ys.length ≤ sizeLine ∧ Q (xs ++ ys) ρ2
theorem air_new {w w1 : Wd} {p : Addr} (s : Stp w w1) (hp : w1.H p = none) : w.H p = none := by
  cases e0 : w.H p with
  | none => rfl
  | some o => exact absurd hp (s.t p (by rw [e0]; exact fun z => nomatch z))
theorem dn_cat (ha : DE C a ta da) (hb : DE C b tb db) : DN C (.BinOp a .Add b pos) (tOp rCat ta tb) (nCat da db) := by
  refine ⟨pe_op op_cat ha.pe hb.pe, fun w σ ρ Q QD hA I q k => ?_⟩
  refine ha.run w σ ρ _ _ hA I q fun u r1 w1 ρ1 s1 I1 R1 q1 => ?_
  refine hb.run w1 σ ρ1 _ _ (C.cl _ _ hA s1) I1 q1 fun v r2 w2 ρ2 s2 I2 R2 q2 => ?_
  obtain ⟨x, tx, q3⟩ := vw_top I2 (R1.step s2) q2
  obtain ⟨y, ty, q4⟩ := vw_top I2 R2 q3
  obtain ⟨xs, ys, rfl, rfl, hl, h⟩ := asLL_inv q4
  obtain ⟨ax, vx, rfl, hx, rx⟩ := tx
  obtain ⟨ay, vy, rfl, hy, ry⟩ := ty
  refine ⟨_, _, _, _, rfl, rfl, hx, hy, by rw [rx.len, ry.len]; exact hl, fun p hp => ?_⟩
  obtain ⟨I3, s3⟩ := FI.air I2 (o := .lst (vx ++ vy)) hp
  exact k p (vx ++ vy) (xs ++ ys) ⟨w2.G, upd w2.H p _, w2.F⟩ ρ2 ((s1.trans s2).trans s3) I3 (air_new (s1.trans s2) hp) (I2.fresh hp).1 (fun i z => (I2.fresh hp).2 i p z rfl) upd_same (rx.app ry) h

/-! ### built-ins of one value -/
/-- a rule by values for a function of one datum -/
def CallD1 (X : Cx) (C : DC X) (r : List V → Hp → VK → Prop) (f : PyData → (PyData → Prop) → Prop) : Prop :=
  ∀ (w : Wd) (σ : L2.St) (ρ : DSt) (u : V) (x : PyData) (Q : VK) (kd : PyData → Prop), C.A w → FI X.K C.P w σ ρ → Top X.K w u x → f x kd →
    (∀ z d w', Stp w w' → FI X.K C.P w' σ ρ → Rep X.K w'.G z d → kd d → Q z w'.H) → r [u] w.H Q
def dF1 (f : PyData → (PyData → Prop) → Prop) (da : TED) : TED := fun ρ Q => da ρ fun r ρ1 => vw ρ1 r fun x => f x fun z => Q (.d z) ρ1
theorem f1_run {r : List V → Hp → VK → Prop} {f : PyData → (PyData → Prop) → Prop} (h1 : CallD1 X C r f) (ha : DE C a ta da) :
    ∀ (w : Wd) (σ : L2.St) (ρ : DSt) (Q : VK) (QD : R → DSt → Prop), C.A w → FI X.K C.P w σ ρ → dF1 f da ρ QD →
    (∀ v r w' ρ', Stp w w' → FI X.K C.P w' σ ρ' → RepR X.K w' σ v r → QD r ρ' → Q v w'.H) → tCB r (tCons ta tNil) σ w.H Q := by
  intro w σ ρ Q QD hA I q k
  refine ha.run w σ ρ _ _ hA I q fun u r1 w1 ρ1 s1 I1 R1 q1 => ?_
  obtain ⟨x, tx, q2⟩ := vw_top I1 R1 q1
  exact h1 w1 σ ρ1 u x Q _ (C.cl _ _ hA s1) I1 tx q2 fun z d w2 s2 I2 R2 q3 => k z (.d d) w2 ρ1 (s1.trans s2) I2 R2 q3
variable {x : Str} {p : Pos} {id : String} {r : List V → Hp → VK → Prop} {f : PyData → (PyData → Prop) → Prop}
theorem de_B1 (hc : CallR X (.builtin id) r ∧ CallD1 X C r f) (hm : X.mg x = none) (ha : DE C a ta da) (hv : bootBuiltins x = some (.builtin id) := by decide +kernel) (hg : Gl X x := by rfl) (hn : x ≠ "__name__" := by decide) (hdb : (x == ("__debug__" : Str)) = false := by decide)
    (he : starEach [a] X.env = (false, eval a X.env) :: starEach [] X.env := by rfl) (hpl : (backTo pos (starEach [] X.env)).any (·.1) = false := by rfl) : DE C (.Call (.Name x p) [a] [] pos) (tCB r (tCons ta tNil)) (dF1 f da) :=
  ⟨pe_callB hc.1 hg hm hv (pa_cons ha.pe pa_nil he) hn hdb he hpl, f1_run hc.2 ha⟩
theorem de_Ty1 {T : String} (hc : CallR X (.type T) r ∧ CallD1 X C r f) (hm : X.mg x = none) (ha : DE C a ta da) (hv : bootBuiltins x = some (.type T) := by decide +kernel) (hg : Gl X x := by rfl) (hn : x ≠ "__name__" := by decide) (hdb : (x == ("__debug__" : Str)) = false := by decide)
    (he : starEach [a] X.env = (false, eval a X.env) :: starEach [] X.env := by rfl) (hpl : (backTo pos (starEach [] X.env)).any (·.1) = false := by rfl) : DE C (.Call (.Name x p) [a] [] pos) (tCB r (tCons ta tNil)) (dF1 f da) :=
  ⟨pe_callTy hc.1 hg hm hv (pa_cons ha.pe pa_nil he) hn hdb he hpl, f1_run hc.2 ha⟩
/-- len -/
def fLen (x : PyData) (k : PyData → Prop) : Prop := match x with
  | .list xs => k (.int (xs.length : Nat))
  | .tuple xs => k (.int (xs.length : Nat))
  | .str s => s.length ≤ sizeLine ∧ k (.int (s.length : Nat))
  | _ => False
theorem cd_len : CallR X (.builtin "len") (fun xs H Q => ∃ x n, xs = [x] ∧ LenV X.K x H n ∧ Q (.int n) H) ∧ CallD1 X C (fun xs H Q => ∃ x n, xs = [x] ∧ LenV X.K x H n ∧ Q (.int n) H) fLen := by
  refine ⟨call_len, fun w σ ρ u x Q kd hA I tx h k => ?_⟩
  cases x with
  | list xs =>
    obtain ⟨a, vs, rfl, hs, hr⟩ := tx
    refine ⟨_, vs.length, rfl, .inl ⟨vs, SqL.of hs, rfl⟩, ?_⟩
    rw [hr.len]
    exact k _ (.int _) w (Stp.refl w) I (.int _) h
  | tuple xs =>
    cases tx with
    | tup hs hr =>
      rename_i a vs
      refine ⟨_, vs.length, rfl, .inr ⟨vs, sqt_mono I.gh hs, rfl⟩, ?_⟩
      rw [hr.len]
      exact k _ (.int _) w (Stp.refl w) I (.int _) h
  | str s =>
    cases tx
    exact ⟨_, s.length, rfl, ⟨h.1, rfl⟩, k _ (.int _) w (Stp.refl w) I (.int _) h.2⟩
  | _ => exact h.elim
/-- abs -/
def fAbs (x : PyData) (k : PyData → Prop) : Prop := match x with
  | .int i => k (.int (if i < 0 then -i else i))
  | _ => False
theorem cd_abs : CallR X (.builtin "abs") (fun xs H Q => ∃ i, xs = [.int i] ∧ Q (.int (if i < 0 then -i else i)) H) ∧ CallD1 X C (fun xs H Q => ∃ i, xs = [.int i] ∧ Q (.int (if i < 0 then -i else i)) H) fAbs := by
  refine ⟨call_abs, fun w σ ρ u x Q kd hA I tx h k => ?_⟩
  cases x with
  | int i =>
    cases tx
    exact ⟨i, rfl, k _ (.int _) w (Stp.refl w) I (.int _) h⟩
  | _ => exact h.elim
/-- tuple(a list) -/
def fTup (x : PyData) (k : PyData → Prop) : Prop := match x with
  | .list xs => k (.tuple xs)
  | .tuple xs => k (.tuple xs)
  | _ => False
abbrev rTupOf (K : PySem.W.Frag) : List V → Hp → VK → Prop := fun xs H Q => ∃ p ys, xs = [.ref p] ∧ ((SqL K H p ys ∧ ∀ l, H l = none → Q (.ref l) (upd H l (.tup ys))) ∨ (SqT K H p ys ∧ Q (.ref p) H))
theorem cd_tuple : CallR X (.type "tuple") (rTupOf X.K) ∧ CallD1 X C (rTupOf X.K) fTup := by
  refine ⟨call_tuple_of, fun w σ ρ u x Q kd hA I tx h k => ?_⟩
  cases x with
  | list xs =>
    obtain ⟨a, vs, rfl, hs, hr⟩ := tx
    refine ⟨a, vs, rfl, .inl ⟨SqL.of hs, fun p hp => ?_⟩⟩
    obtain ⟨I2, s2⟩ := I.new (o := .tup vs) hp
    exact k (.ref p) (.tuple xs) ⟨upd w.G p _, upd w.H p _, w.F⟩ s2 I2 (.tup (SqT.of upd_same) (reps_mono s2.g _ _ hr)) h
  | tuple xs =>
    cases tx with
    | tup hs hr =>
      rename_i a vs
      exact ⟨a, vs, rfl, .inr ⟨sqt_mono I.gh hs, k (.ref a) (.tuple xs) w (Stp.refl w) I (.tup hs hr) h⟩⟩
  | _ => exact h.elim
/-- all, any of bools -/
def fAll (x : PyData) (k : PyData → Prop) : Prop := ∃ bs : List Bool, x = .list (bs.map .bool) ∧ k (.bool (bs.all fun b => b))
def fAny (x : PyData) (k : PyData → Prop) : Prop := ∃ bs : List Bool, x = .list (bs.map .bool) ∧ k (.bool (bs.any fun b => b))
theorem cd_all : CallR X (.builtin "all") (rAll X.K) ∧ CallD1 X C (rAll X.K) fAll := by
  refine ⟨cr_all C.calm, fun w σ ρ u x Q kd hA I tx h k => ?_⟩
  obtain ⟨bs, rfl, h⟩ := h
  obtain ⟨a, vs, rfl, hs, hr⟩ := tx
  have e := reps_bools_inv hr
  subst e
  exact ⟨a, bs, rfl, SqL.of hs, k _ (.bool _) w (Stp.refl w) I (.bl _) h⟩
theorem cd_any : CallR X (.builtin "any") (rAny X.K) ∧ CallD1 X C (rAny X.K) fAny := by
  refine ⟨cr_any C.calm, fun w σ ρ u x Q kd hA I tx h k => ?_⟩
  obtain ⟨bs, rfl, h⟩ := h
  obtain ⟨a, vs, rfl, hs, hr⟩ := tx
  have e := reps_bools_inv hr
  subst e
  exact ⟨a, bs, rfl, SqL.of hs, k _ (.bool _) w (Stp.refl w) I (.bl _) h⟩
/-- repr: the text of a datum -/
def fRepr (x : PyData) (k : PyData → Prop) : Prop := x.showable = true ∧ x.hasDict = false ∧ x.depth ≤ 60 ∧ x.shown.length ≤ sizeLine ∧ k (.str x.shown)
def rRepr (K : PySem.W.Frag) : List V → Hp → VK → Prop := fun xs H Q => ∃ v d, xs = [v] ∧ Dp K H v d ∧ d.showable = true ∧ d.hasDict = false ∧ d.depth ≤ 60 ∧ d.shown.length ≤ sizeLine ∧ Q (.str d.shown) H
theorem call_repr (gd : X.A.guards = some []) (un : X.A.units + 100 < cLine) : CallR X (.builtin "repr") (rRepr X.K) := by
  intro pins s σ H xs us Q I rx h
  obtain ⟨v, d, rfl, hd, hs, hn, hdep, hsz, q⟩ := h
  obtain ⟨u, rfl, ru⟩ := vals1 rx
  obtain ⟨as, rd⟩ := Dp.reads I d v u hd ru
  have fin : ∀ t, EP X pins σ Q (.str d.shown t) s := fun t => ⟨.str d.shown, H, I, ⟨t, rfl⟩, q⟩
  have fin2 : ∀ h' t tk, (∀ b o, s.heap.get? b = some o → h'.get? b = some o) → EP X pins σ Q (.str d.shown t) { s with heap := h', toks := tk } := fun h' t tk hk => ⟨.str d.shown, H, I.kept (t' := tk) hk, ⟨t, rfl⟩, q⟩
  cases rd with
  | none => exact PySem.P.repr_of_none (by simpa only [PyData.shown] using fin2 s.heap _ _ fun _ _ z => z)
  | bool b => exact PySem.P.repr_of_bool (by simpa only [PyData.shown] using fin2 s.heap _ _ fun _ _ z => z)
  | int i t => exact PySem.P.repr_of_int (by simpa [PyData.showable] using hs) (by simpa only [PyData.shown] using fin2 s.heap _ _ fun _ _ z => z)
  | str z t => exact PySem.P.repr_of_str (by simpa only [PyData.shown] using fin2 s.heap _ _ fun _ _ z => z) (by simpa only [PyData.shown] using hsz)
  | list h1 h2 h3 h4 => exact repr_of_reads' (Reads.list h1 h2 h3 h4) hs (fun z => by rw [hn] at z; cases z) gd (by omega) (fun _ _ z => z) fin2 hsz
  | tuple h1 h2 h3 h4 => exact repr_of_reads' (Reads.tuple h1 h2 h3 h4) hs (fun z => by rw [hn] at z; cases z) gd (by omega) (fun _ _ z => z) fin2 hsz
  | dict _ _ _ _ _ => simp [PyData.hasDict] at hn
theorem cd_repr : CallR X (.builtin "repr") (rRepr X.K) ∧ CallD1 X C (rRepr X.K) fRepr := by
  refine ⟨call_repr C.gd C.un, fun w σ ρ u x Q kd hA I tx h k => ?_⟩
  obtain ⟨h1, h2, h3, h4, h5⟩ := h
  exact ⟨u, x, rfl, (tx.rep I.gh).dp _ _ h2, h1, h2, h3, h4, k _ (.str _) w (Stp.refl w) I (.str _) h5⟩
end
end DL

end
section
set_option maxHeartbeats 4000000
/-! DLF: a law's end over such a def. -/
namespace DL
open PySem PySem.Spec L2
open PyProof.Rows (IntsAre AllBare)

/-- the script: read, never written -/
def scriptR (ns : List Int) : Res where
  P := fun K G _ a fp => fp = [] ∧ SqL K G a (ns.map V.int)
  keep := fun s _ h => ⟨h.1, sql_mono s h.2⟩
/-- what a law promises: True -/
def lawSp : DSp := fun α QD _ => ∃ ns : List Int, ns.length ≤ 63 ∧ α = [.res true (scriptR ns)] ∧ QD (.d (.bool true)) α
theorem lawSp_sp {K : PySem.W.Frag} {H : Hp} {a : Addr} {ns : List Int} (hl : ns.length ≤ 63) (hs : SqL K H a (ns.map V.int)) : spOf K lawSp [.ref a] H (fun v _ => v = .bl true) fun _ _ _ => False := by
  refine ⟨⟨H, H, fun _ => []⟩, [.res true (scriptR ns)], fun r _ => r = .d (.bool true), fun _ _ => False, rfl, ⟨fun _ _ h => h, rfl, fun i s e => ?_, fun _ _ => rfl, fun i b hb => (nomatch hb), fun i j b _ hb => (nomatch hb)⟩, rfl, ⟨ns, hl, rfl, rfl⟩, fun v r w' α' _ _ hr h => ?_, fun _ _ _ _ _ _ _ _ h => h⟩
  · cases i with
    | zero => cases e; exact ⟨a, rfl, ⟨rfl, hs⟩, fun _ => rfl, fun z => nomatch z⟩
    | succ i => simp at e
  · subst h
    cases hr
    rfl
theorem law_callD {P : Program} {w : World} {K : PySem.W.Frag} {mg mb : Str → Option Value} {k : Nat} {fa a : Addr} {fd : FuncData} {x : Str} {s1 : Shared} {vs : List Value} {ns : List Int}
    (KX : K.In s1.heap) (hns : s1.heap.Ns mainGlobals mg) (hb : s1.heap.Ns builtinsNs mb) (hbb : ∀ x : Str, x ≠ "__name__" → mb x = bootBuiltins x) (hlim : s1.heap.NoLimit) (hg : s1.gens = #[])
    (ha : s1.heap.get? a = some { cls := .type "list", data := .seq vs.toArray }) (hi : IntsAre vs ns) (hl : ns.length ≤ 63) (hr : Room k callerA)
    (F : ∀ base : Heap, K.In base → base.Ns mainGlobals mg → FnD P w K mg base k fa fd [x] lawSp) (hbind : ∀ (s : Shared) (u : Value), BindsTo s fd ⟨[u], []⟩ [(x, u)]) :
    codeAny (model P w) callerA (.call (.ref fa) ⟨[.ref a], []⟩) (fun r s' => r = .ok (.ret (.bool true)) ∧ OldK s1.heap s'.heap ∧ s'.os = s1.os ∧ AllBare s'.gens) s1 := by
  have hline : ns.length ≤ sizeLine := Nat.le_trans hl (by decide)
  have main : ∀ H : Hp, Only H → SqL K H a (ns.map V.int) → HOk P w H s1.heap → (∀ b, H b ≠ none → b = a) → (H a ≠ none → K.lookup a = none) →
      codeAny (model P w) callerA (.call (.ref fa) ⟨[.ref a], []⟩) (fun r s' => r = .ok (.ret (.bool true)) ∧ OldK s1.heap s'.heap ∧ s'.os = s1.os ∧ AllBare s'.gens) s1 := by
    intro H only seq hok one away
    -- the heap without what is tracked: a dict is never the script
    have dicts : ∀ (b : Addr) (o : Obj) (es : Array DictEntry) (n : Nat), s1.heap.get? b = some o → o.data = .dict es n → H b = none := by
      intro b o es n e d
      cases q : H b with
      | none => rfl
      | some u =>
        obtain rfl : b = a := one b (by rw [q]; exact fun z => nomatch z)
        rw [ha] at e
        cases e
        exact nomatch (show Data.seq vs.toArray _ = Data.dict es n from d)
    have ns2 : ∀ (b : Addr) (m : Str → Option Value), s1.heap.Ns b m → (hidT s1.heap H).Ns b m := by
      rintro b m ⟨o, es, n, e, d, rest⟩
      exact ⟨o, es, n, hidT_get e (dicts b o es n e d), d, rest⟩
    have kin : K.In (hidT s1.heap H) := by
      intro b o e
      refine hidT_get (KX b o e) ?_
      cases q : H b with
      | none => rfl
      | some u =>
        obtain rfl : b = a := one b (by rw [q]; exact fun z => nomatch z)
        rw [away (by rw [q]; exact fun z => nomatch z)] at e
        cases e
    have mod : Mod K mg (hidT s1.heap H) := by
      obtain ⟨mc, l1, l2⟩ := hlim
      exact ⟨kin, ns2 _ _ hns, ⟨mb, ns2 _ _ hb, hbb⟩, ⟨mc, ns2 _ _ l1, l2⟩⟩
    have env : Env0 P w K mg (hidT s1.heap H) callerA [] s1 H :=
      ⟨rfl, mod, fun b o e => of_hidT e, Nat.le_of_eq (hidT_size _ _), trivial, (fun b z => nomatch (show b ∈ ([] : List Addr) from z)), hok, .of_eq hg⟩
    refine codeAny_mono ((F _ kin (ns2 _ _ hns)).run callerA [] s1 H ⟨[.ref a], []⟩ [.ref a] [.ref a] _ _ rfl hr env (hbind s1 (.ref a)) (.cons rfl .nil) (lawSp_sp hl seq)) ?_
    intro r s' got
    match r, got with
    | .error ex, ⟨_, _, _, _, _, _, _, _, _, _, _, _, z⟩ => exact z.elim
    | .ok .next, got => exact got.elim
    | .ok .brk, got => exact got.elim
    | .ok .cont, got => exact got.elim
    | .ok (.ret u), ⟨v, H', os, bare, un, hok', rv, q⟩ =>
      obtain rfl : v = .bl true := q
      obtain rfl : u = Value.bool true := rv
      refine ⟨rfl, OldK.of_keep fun b o e => ?_, os, bare⟩
      rcases only b with z | ⟨ob, xs, z⟩
      · exact un.keep b o e z (fun y => nomatch (show b ∈ ([] : List Addr) from y)) (fun y => nomatch (show b ∈ ([] : List Addr) from y))
      · have e1 := (hok b _ z).1
        rw [e] at e1
        cases e1
        exact (hok' b _ (un.frzs b _ _ z)).1
  have rv := vals_ints hi
  cases hk : K.lookup a with
  | some o =>
    have e := KX a o hk
    rw [ha] at e
    cases e
    exact main (fun _ => none) (fun _ => .inl rfl) (.inr ⟨_, vs.toArray, _, hk, rfl, rfl, rfl, by rw [List.size_toArray, hi.length]; exact hline, by simpa using rv⟩)
      (fun b u z => nomatch (show (none : Option HO) = some u from z)) (fun b z => absurd rfl z) (fun z => absurd rfl z)
  | none =>
    have at_ : ∀ b, (if b = a then some (HO.frz { cls := .type "list", data := .seq vs.toArray } (.lst (ns.map V.int))) else none) ≠ none → b = a := fun b z => by
      by_cases hb : b = a
      · exact hb
      · exact absurd (if_neg hb) z
    refine main (fun b => if b = a then some (.frz { cls := .type "list", data := .seq vs.toArray } (.lst (ns.map V.int))) else none) (fun b => ?_) (.inl (.inr ⟨_, if_pos rfl⟩)) (fun b u z => ?_) at_ (fun _ => hk)
    · by_cases hb : b = a
      · exact .inr ⟨_, _, if_pos hb⟩
      · exact .inl (if_neg hb)
    · obtain rfl : b = a := at_ b (by rw [show (if b = a then some (HO.frz { cls := .type "list", data := .seq vs.toArray } (.lst (ns.map V.int))) else none) = some u from z]; exact fun z => nomatch z)
      have z' := (if_pos rfl).symm.trans z
      cases z'
      exact ⟨ha, by rw [List.length_map]; exact hline, vs, _, rv, ha⟩
/-- the law's call behind a head by facts -/
theorem walkD {l : PySem.W.OpenLaw} {k : Nat} {q : Program} {loose : List Str} {XP : (Str → Option Value) → Heap → Prop} {YP : World → Heap → Prop} {d : DefRec} {x : Str}
    (hn : l.most = some 63) (hdf : d.params.defaults = []) (hr : Room k callerA)
    (F : ∀ (w : World) (mg : Str → Option Value) (fa : Addr) (h : Heap), YP w h → h.Ns mainGlobals mg → mg d.name = some (.ref fa) →
      ∃ (K : PySem.W.Frag) (fd : FuncData), K.In h ∧ (∀ (s : Shared) (u : Value), BindsTo s fd ⟨[u], []⟩ [(x, u)]) ∧ ∀ base : Heap, K.In base → base.Ns mainGlobals mg → FnD l.prog w K mg base k fa fd [x] lawSp) :
    PySem.W.WalkO q loose XP YP l.row.toRowW d [] (fun f vs => PySem.call f vs) := by
  refine Att.attach_call hn hdf ?_
  intro w s0 s1 mg mb fa o pm cd doc a vs ns G Y ho hd hcd hmg hobj hints hlen hg
  obtain ⟨K, fd, KX, hb, hF⟩ := F w mg fa _ Y G.T.g hmg
  exact law_callD KX G.T.g G.T.b G.T.builtins G.T.nolimit hg hobj hints hlen hr hF hb
end DL

end
section
set_option maxHeartbeats 4000000
/-! DLG: slices, membership, lists that change, comprehensions, pairs walked. -/
namespace DL
open PySem PySem.Spec L2
section
variable {X : Cx} {C : DC X} {a b c e : Expr} {ta tb tc te : TE} {da db dc de : TED} {pos : Pos} {es : List Expr} {tr : TA} {dr : TND}

/-! ### two built-ins of two ints -/
def fMax : PyData → PyData → (PyData → Prop) → Prop := int2 fun i j k => k (.int (if j > i then j else i))
def fMin : PyData → PyData → (PyData → Prop) → Prop := int2 fun i j k => k (.int (if j < i then j else i))
theorem two_run {r : List V → Hp → VK → Prop} {f : PyData → PyData → (PyData → Prop) → Prop} (hr : ∀ (w : Wd) (σ : L2.St) (ρ : DSt) (u v : V) (x y : PyData) (Q : VK) (kd : PyData → Prop), FI X.K C.P w σ ρ → Top X.K w u x → Top X.K w v y → f x y kd → (∀ z d, Rep X.K w.G z d → kd d → Q z w.H) → r [u, v] w.H Q)
    (ha : DE C a ta da) (hb : DE C b tb db) : ∀ (w : Wd) (σ : L2.St) (ρ : DSt) (Q : VK) (QD : R → DSt → Prop), C.A w → FI X.K C.P w σ ρ → dOp f da db ρ QD →
    (∀ v r w' ρ', Stp w w' → FI X.K C.P w' σ ρ' → RepR X.K w' σ v r → QD r ρ' → Q v w'.H) → tCB r (tCons ta (tCons tb tNil)) σ w.H Q := by
  intro w σ ρ Q QD hA I q k
  refine ha.run w σ ρ _ _ hA I q fun u r1 w1 ρ1 s1 I1 R1 q1 => ?_
  refine hb.run w1 σ ρ1 _ _ (C.cl _ _ hA s1) I1 q1 fun v r2 w2 ρ2 s2 I2 R2 q2 => ?_
  obtain ⟨x, tx, q3⟩ := vw_top I2 (R1.step s2) q2
  obtain ⟨y, ty, q4⟩ := vw_top I2 R2 q3
  exact hr w2 σ ρ2 u v x y Q _ I2 tx ty q4 fun z d R3 q5 => k z (.d d) w2 ρ2 (s1.trans s2) I2 R3 q5
theorem de_max {p : Pos} (hm : X.mg "max" = none) (ha : DE C a ta da) (hb : DE C b tb db) (hg : Gl X "max" := by rfl) (he : starEach [a, b] X.env = (false, eval a X.env) :: starEach [b] X.env := by rfl) (he2 : starEach [b] X.env = (false, eval b X.env) :: starEach [] X.env := by rfl)
    (hpl : (backTo pos (starEach [b] X.env)).any (·.1) = false := by rfl) : DE C (.Call (.Name "max" p) [a, b] [] pos) (tCB (fun xs H Q => ∃ i j, xs = [.int i, .int j] ∧ Q (.int (if j > i then j else i)) H) (tCons ta (tCons tb tNil))) (dOp fMax da db) := by
  refine ⟨pe_callB (call_max2 C.calm) hg hm (by decide +kernel) (pa_cons ha.pe (pa_cons hb.pe pa_nil he2) he) (by decide) (by decide) he hpl, two_run (fun w σ ρ u v x y Q kd I tx ty h k => ?_) ha hb⟩
  obtain ⟨i, j, rfl, rfl, q⟩ := int2_inv h
  cases tx
  cases ty
  exact ⟨i, j, rfl, k _ _ (.int _) q⟩
theorem de_min {p : Pos} (hm : X.mg "min" = none) (ha : DE C a ta da) (hb : DE C b tb db) (hg : Gl X "min" := by rfl) (he : starEach [a, b] X.env = (false, eval a X.env) :: starEach [b] X.env := by rfl) (he2 : starEach [b] X.env = (false, eval b X.env) :: starEach [] X.env := by rfl)
    (hpl : (backTo pos (starEach [b] X.env)).any (·.1) = false := by rfl) : DE C (.Call (.Name "min" p) [a, b] [] pos) (tCB (fun xs H Q => ∃ i j, xs = [.int i, .int j] ∧ Q (.int (if j < i then j else i)) H) (tCons ta (tCons tb tNil))) (dOp fMin da db) := by
  refine ⟨pe_callB (call_min2 C.calm) hg hm (by decide +kernel) (pa_cons ha.pe (pa_cons hb.pe pa_nil he2) he) (by decide) (by decide) he hpl, two_run (fun w σ ρ u v x y Q kd I tx ty h k => ?_) ha hb⟩
  obtain ⟨i, j, rfl, rfl, q⟩ := int2_inv h
  cases tx
  cases ty
  exact ⟨i, j, rfl, k _ _ (.int _) q⟩

/-! ### is None, is True -/
def isNoneD : PyData → Bool
  | .none => true | _ => false
def dIs (x y : PyData) (k : PyData → Prop) : Prop := match y with
  | .none => k (.bool (isNoneD x))
  | .bool b => (match x with | .bool a => k (.bool (decide (a = b))) | _ => False)
  | _ => False
def dIsNot (x y : PyData) (k : PyData → Prop) : Prop := match y with
  | .none => k (.bool (!isNoneD x))
  | .bool b => (match x with | .bool a => k (.bool (!decide (a = b))) | _ => False)
  | _ => False
def rIsU : R2 := fun x y H Q => (y = .non ∧ Q (.bl (decide (x = .non))) H) ∨ rIsB x y H Q
def rIsNotU : R2 := fun x y H Q => (y = .non ∧ Q (.bl (!decide (x = .non))) H) ∨ rNotB x y H Q
theorem top_non {w : Wd} {u : V} {x : PyData} (t : Top X.K w u x) : decide (u = .non) = (isNoneD x) := by
  cases x with
  | none => cases t; rfl
  | bool b => cases t; rfl
  | int b => cases t; rfl
  | str b => cases t; rfl
  | list ds => obtain ⟨_, _, rfl, _⟩ := t; rfl
  | tuple ds => cases t; rfl
  | dict ds => cases t; rfl
theorem od_is : OpR X (compareOp .Is) rIsU ∧ OpD X C rIsU dIs := by
  refine ⟨opr_or op_isN op_isBl, fun w σ ρ u v x y Q kd hA I tx ty h k => ?_⟩
  unfold dIs at h
  split at h
  · cases ty
    refine .inl ⟨rfl, ?_⟩
    rw [top_non tx]
    exact k _ _ w (Stp.refl w) I (.bl _) h
  · split at h
    · cases tx
      cases ty
      exact .inr ⟨_, _, rfl, rfl, k _ _ w (Stp.refl w) I (.bl _) h⟩
    · exact h.elim
  · exact h.elim
theorem od_isNot : OpR X (compareOp .IsNot) rIsNotU ∧ OpD X C rIsNotU dIsNot := by
  refine ⟨opr_or op_notN op_notBl, fun w σ ρ u v x y Q kd hA I tx ty h k => ?_⟩
  unfold dIsNot at h
  split at h
  · cases ty
    refine .inl ⟨rfl, ?_⟩
    rw [top_non tx]
    exact k _ _ w (Stp.refl w) I (.bl _) h
  · split at h
    · cases tx
      cases ty
      exact .inr ⟨_, _, rfl, rfl, k _ _ w (Stp.refl w) I (.bl _) h⟩
    · exact h.elim
  · exact h.elim

/-! ### in, not in -/
/-- flat data: in a list or tuple of such; any data in a list -/
def flatD : PyData → Bool
  | .none => true | .bool _ => true | .int _ => true | .str _ => true | _ => false
def inD (x : PyData) (ys : List PyData) : Bool := ys.any fun z => PyData.eqv z x
def dIn (neg : Bool) (x y : PyData) (k : PyData → Prop) : Prop := match y with
  | .list ys => SeqAt.shaped x = true ∧ SeqAt.shaped (.list ys) = true ∧ k (.bool (if neg then !inD x ys else inD x ys))
  | .tuple ys => flatD x = true ∧ ys.all flatD = true ∧ k (.bool (if neg then !inD x ys else inD x ys))
  | _ => False
def rInU (K : PySem.W.Frag) : R2 := fun x y H Q => rInD K x y H Q ∨ rIn K false x y H Q
def rNotInU (K : PySem.W.Frag) : R2 := fun x y H Q => rNotInD K x y H Q ∨ rIn K true x y H Q
theorem flat_v {G : Hp} {u : V} {x : PyData} (h : Rep X.K G u x) (f : flatD x = true) : flatV u = true := by
  cases h <;> first | rfl | cases f
theorem eqv_flat {G : Hp} {u v : V} {x y : PyData} (h : Rep X.K G u x) (g : Rep X.K G v y) (f : flatD x = true) (f' : flatD y = true) : eqV v u = PyData.eqv y x := by
  cases h <;> cases g <;> first | rfl | cases f | cases f' | simp [eqV, PyData.eqv]
theorem inv_flat {G : Hp} {u : V} {x : PyData} (h : Rep X.K G u x) (f : flatD x = true) : ∀ {vs : List V} {ys : List PyData}, Reps X.K G vs ys → ys.all flatD = true → vs.all flatV = true ∧ inV u vs = inD x ys
  | _, _, .nil, _ => ⟨rfl, rfl⟩
  | _, _, .cons r t, hf => by
    rw [List.all_cons, Bool.and_eq_true] at hf
    obtain ⟨h1, h2⟩ := inv_flat h f t hf.2
    refine ⟨by rw [List.all_cons, flat_v r hf.1, h1] <;> rfl, ?_⟩
    show ((eqV _ u) || (inV u _)) = ((PyData.eqv _ x) || (inD x _))
    rw [h2, eqv_flat h r f hf.1]
theorem rep_flat {w : Wd} {u : V} {x : PyData} (t : Top X.K w u x) (f : flatD x = true) : Rep X.K w.G u x := by
  cases x with
  | list _ => cases f
  | _ => exact t
theorem od_in : OpR X (compareOp .In) (rInU X.K) ∧ OpD X C (rInU X.K) (dIn false) := by
  refine ⟨opr_or (op_inD (by have := C.un; omega)) op_in_seq, fun w σ ρ u v x y Q kd hA I tx ty h k => ?_⟩
  unfold dIn at h
  split at h
  · obtain ⟨h1, h2, h3⟩ := h
    refine .inl ⟨x, _, (tx.rep I.gh).dp _ _ (PyData.hasDict_of_canLay _ (SeqAt.canLay_of_shaped h1)), (ty.rep I.gh).dp _ _ (PyData.hasDict_of_canLay _ (SeqAt.canLay_of_shaped h2)), h1, h2, k _ _ w (Stp.refl w) I (.bl _) h3⟩
  · obtain ⟨h1, h2, h3⟩ := h
    cases ty with
    | tup hs hr =>
      obtain ⟨g1, g2⟩ := inv_flat (rep_flat tx h1) h1 hr h2
      refine .inr ⟨_, _, rfl, .inr (sqt_mono I.gh hs), flat_v (rep_flat tx h1) h1, g1, ?_⟩
      rw [g2]
      exact k _ _ w (Stp.refl w) I (.bl _) h3
  · exact h.elim
theorem od_notIn : OpR X (compareOp .NotIn) (rNotInU X.K) ∧ OpD X C (rNotInU X.K) (dIn true) := by
  refine ⟨opr_or (op_notInD (by have := C.un; omega)) op_notIn_seq, fun w σ ρ u v x y Q kd hA I tx ty h k => ?_⟩
  unfold dIn at h
  split at h
  · obtain ⟨h1, h2, h3⟩ := h
    refine .inl ⟨x, _, (tx.rep I.gh).dp _ _ (PyData.hasDict_of_canLay _ (SeqAt.canLay_of_shaped h1)), (ty.rep I.gh).dp _ _ (PyData.hasDict_of_canLay _ (SeqAt.canLay_of_shaped h2)), h1, h2, k _ _ w (Stp.refl w) I (.bl _) h3⟩
  · obtain ⟨h1, h2, h3⟩ := h
    cases ty with
    | tup hs hr =>
      obtain ⟨g1, g2⟩ := inv_flat (rep_flat tx h1) h1 hr h2
      refine .inr ⟨_, _, rfl, .inr (sqt_mono I.gh hs), flat_v (rep_flat tx h1) h1, g1, ?_⟩
      rw [g2]
      exact k _ _ w (Stp.refl w) I (.bl _) h3
  · exact h.elim

/-! ### a < b <= c -/
def dChain (f g : PyData → PyData → (PyData → Prop) → Prop) (da db dc : TED) : TED := fun ρ Q => da ρ fun r1 ρ1 => db ρ1 fun r2 ρ2 => vw ρ2 r1 fun x => vw ρ2 r2 fun y => f x y fun z => match z with
  | .bool true => dc ρ2 fun r3 ρ3 => vw ρ3 r2 fun y' => vw ρ3 r3 fun z => g y' z fun d => Q (.d d) ρ3
  | .bool false => Q (.d (.bool false)) ρ2
  | _ => False
theorem chain_run {r r' : R2} {f g : PyData → PyData → (PyData → Prop) → Prop} (hr : OpD X C r f) (hr' : OpD X C r' g) (ha : DE C a ta da) (hb : DE C b tb db) (hc : DE C c tc dc) :
    ∀ (w : Wd) (σ : L2.St) (ρ : DSt) (Q : VK) (QD : R → DSt → Prop), C.A w → FI X.K C.P w σ ρ → dChain f g da db dc ρ QD →
    (∀ v r w' ρ', Stp w w' → FI X.K C.P w' σ ρ' → RepR X.K w' σ v r → QD r ρ' → Q v w'.H) → tChain r r' ta tb tc σ w.H Q := by
  intro w σ ρ Q QD hA I q k
  refine ha.run w σ ρ _ _ hA I q fun u r1 w1 ρ1 s1 I1 R1 q1 => ?_
  refine hb.run w1 σ ρ1 _ _ (C.cl _ _ hA s1) I1 q1 fun v r2 w2 ρ2 s2 I2 R2 q2 => ?_
  obtain ⟨x, tx, q3⟩ := vw_top I2 (R1.step s2) q2
  obtain ⟨y, ty, q4⟩ := vw_top I2 R2 q3
  refine hr w2 σ ρ2 u v x y _ _ (C.cl _ _ (C.cl _ _ hA s1) s2) I2 tx ty q4 fun z d w3 s3 I3 R3 q5 => ?_
  have s23 := (s1.trans s2).trans s3
  cases d with
  | bool bb =>
    cases R3
    refine ⟨bb, rfl, ?_⟩
    cases bb with
    | false => rw [if_neg Bool.false_ne_true]; exact k _ (.d (.bool false)) w3 ρ2 s23 I3 (.bl _) q5
    | true =>
      rw [if_pos rfl]
      refine hc.run w3 σ ρ2 _ _ (C.cl _ _ hA s23) I3 q5 fun v3 r3 w4 ρ4 s4 I4 R4 q6 => ?_
      obtain ⟨y2, ty2, q7⟩ := vw_top I4 ((R2.step s3).step s4) q6
      obtain ⟨z2, tz2, q8⟩ := vw_top I4 R4 q7
      exact hr' w4 σ ρ4 v v3 y2 z2 Q _ (C.cl _ _ hA (s23.trans s4)) I4 ty2 tz2 q8 fun z5 d5 w5 s5 I5 R5 q9 => k z5 (.d d5) w5 ρ4 ((s23.trans s4).trans s5) I5 R5 q9
  | _ => exact q5.elim
theorem de_chain {op op' : CmpOp} {r r' : R2} {f g : PyData → PyData → (PyData → Prop) → Prop} (ho : OpR X (compareOp op) r ∧ OpD X C r f) (ho' : OpR X (compareOp op') r' ∧ OpD X C r' g) (ha : DE C a ta da) (hb : DE C b tb db) (hc : DE C c tc dc)
    (hm : lastMarks [op, op'] [b, c] = false := by with_unfolding_all rfl) : DE C (.Compare a [op, op'] [b, c] pos) (tChain r r' ta tb tc) (dChain f g da db dc) :=
  ⟨pe_chain ho.1 ho'.1 ha.pe hb.pe hc.pe hm, chain_run ho.2 ho'.2 ha hb hc⟩
theorem dt_chain {op op' : CmpOp} {r r' : R2} {f g : PyData → PyData → (PyData → Prop) → Prop} (ho : OpR X (compareOp op) r ∧ OpD X C r f) (ho' : OpR X (compareOp op') r' ∧ OpD X C r' g) (ha : DE C a ta da) (hb : DE C b tb db) (hc : DE C c tc dc)
    (hm : lastMarks [op, op'] [b, c] = false := by with_unfolding_all rfl) : DT C (.Compare a [op, op'] [b, c] pos) (tTest (tChain r r' ta tb tc)) (dTest (dChain f g da db dc)) :=
  ⟨pt_chain ho.1 ho'.1 ha.pe hb.pe hc.pe hm, test_run (de_chain (pos := pos) ho ho' ha hb hc hm)⟩

/-! ### slices -/
abbrev TOD := DSt → (Option Int → DSt → Prop) → Prop
structure DO (C : DC X) (e : Option Expr) (to : TO) (t : TOD) : Prop where
  po : PO X e to
  run : ∀ (w : Wd) (σ : L2.St) (ρ : DSt) (Q : Option Int → Hp → Prop) (QD : Option Int → DSt → Prop), C.A w → FI X.K C.P w σ ρ → t ρ QD →
    (∀ o w' ρ', Stp w w' → FI X.K C.P w' σ ρ' → QD o ρ' → Q o w'.H) → to σ w.H Q
def oNone : TOD := fun ρ Q => Q none ρ
def oSome (de : TED) : TOD := fun ρ Q => de ρ fun r ρ1 => vw ρ1 r fun x => match x with | .int i => Q (some i) ρ1 | _ => False
theorem do_none : DO C none tNoPart oNone := ⟨po_none, fun w σ ρ Q QD hA I q k => k none w ρ (Stp.refl w) I q⟩
theorem do_some (h : DE C e te de) : DO C (some e) (tPart te) (oSome de) := by
  refine ⟨po_some h.pe, fun w σ ρ Q QD hA I q k => ?_⟩
  refine h.run w σ ρ _ _ hA I q fun u r1 w1 ρ1 s1 I1 R1 q1 => ?_
  obtain ⟨x, tx, q2⟩ := vw_top I1 R1 q1
  cases x with
  | int i =>
    cases tx
    exact ⟨i, rfl, k (some i) w1 ρ1 s1 I1 q2⟩
  | _ => exact q2.elim
def cutD {α : Type} (xs : List α) (lo hi : Option Int) : List α := (xs.drop (HT.sIx xs.length 0 lo)).take (HT.sIx xs.length xs.length hi - HT.sIx xs.length 0 lo)
theorem cut_reps {G : Hp} {vs : List V} {ds : List PyData} (r : Reps X.K G vs ds) (lo hi : Option Int) : Reps X.K G (cutV vs lo hi) (cutD ds lo hi) := by
  unfold cutV cutD
  rw [r.len]
  exact (r.dropN _).takeN _
def rSlU (K : PySem.W.Frag) : V → Option Int → Option Int → Hp → VK → Prop := fun x lo hi H Q => rSlA K x lo hi H Q ∨ rSlS x lo hi H Q
/-- a tuple's, a text's slice -/
def dSl (da : TED) (tl th : TOD) : TED := fun ρ Q => da ρ fun r ρ1 => tl ρ1 fun lo ρ2 => th ρ2 fun hi ρ3 => vw ρ3 r fun x => match x with
  | .tuple ds => Q (.d (.tuple (cutD ds lo hi))) ρ3
  | .str z => z.length ≤ sizeLine ∧ Q (.d (.str (cutS z lo hi))) ρ3
  | _ => False
theorem cut_whole {ds : List PyData} {lo hi : Option Int} (h : HT.sIx ds.length 0 lo = 0 ∧ HT.sIx ds.length ds.length hi = ds.length) : cutD ds lo hi = ds := by
  unfold cutD
  rw [h.1, h.2, List.drop_zero, Nat.sub_zero, List.take_length]
variable {lo hi : Option Expr} {tl th : TO} {dl dh : TOD} {p2 : Pos}
theorem de_slice (ha : DE C a ta da) (hl : DO C lo tl dl) (hh : DO C hi th dh) : DE C (.Subscript a (.Slice lo hi none p2) pos) (tSl (rSlU X.K) ta tl th) (dSl da dl dh) := by
  refine ⟨pe_slice (sl_tupA.or sl_str) ha.pe hl.po hh.po, fun w σ ρ Q QD hA I q k => ?_⟩
  refine ha.run w σ ρ _ _ hA I q fun u r1 w1 ρ1 s1 I1 R1 q1 => ?_
  refine hl.run w1 σ ρ1 _ _ (C.cl _ _ hA s1) I1 q1 fun l w2 ρ2 s2 I2 q2 => ?_
  refine hh.run w2 σ ρ2 _ _ (C.cl _ _ hA (s1.trans s2)) I2 q2 fun h w3 ρ3 s3 I3 q3 => ?_
  have s23 := (s1.trans s2).trans s3
  obtain ⟨x, tx, q4⟩ := vw_top I3 ((R1.step s2).step s3) q3
  cases x with
  | tuple ds =>
    cases tx with
    | tup hs hr =>
      rename_i aa vs
      refine .inl ⟨aa, vs, rfl, sqt_mono I3.gh hs, fun e => ?_, fun _ p hp => ?_⟩
      · rw [hr.len] at e
        have q4 : QD (.d (.tuple (cutD ds l h))) ρ3 := q4
        rw [cut_whole e] at q4
        exact k (.ref aa) (.d (.tuple ds)) w3 ρ3 s23 I3 (.tup hs hr) q4
      · obtain ⟨I4, s4⟩ := I3.new (o := .tup (cutV vs l h)) hp
        exact k (.ref p) (.d (.tuple (cutD ds l h))) ⟨upd w3.G p _, upd w3.H p _, w3.F⟩ ρ3 (s23.trans s4) I4 (.tup (SqT.of upd_same) (reps_mono s4.g _ _ (cut_reps hr l h))) q4
  | str z =>
    cases tx
    exact .inr ⟨z, rfl, q4.1, k _ (.d (.str _)) w3 ρ3 s23 I3 (.str _) q4.2⟩
  | _ => exact q4.elim
/-- a list's slice -/
def nSl (da : TED) (tl th : TOD) : TND := fun ρ Q => da ρ fun r ρ1 => tl ρ1 fun lo ρ2 => th ρ2 fun hi ρ3 => vw ρ3 r fun x => match x with
  | .list ds => Q (cutD ds lo hi) ρ3
  | _ => False
theorem dn_slice (ha : DE C a ta da) (hl : DO C lo tl dl) (hh : DO C hi th dh) : DN C (.Subscript a (.Slice lo hi none p2) pos) (tSl (rSlL X.K) ta tl th) (nSl da dl dh) := by
  refine ⟨pe_slice sl_list ha.pe hl.po hh.po, fun w σ ρ Q QD hA I q k => ?_⟩
  refine ha.run w σ ρ _ _ hA I q fun u r1 w1 ρ1 s1 I1 R1 q1 => ?_
  refine hl.run w1 σ ρ1 _ _ (C.cl _ _ hA s1) I1 q1 fun l w2 ρ2 s2 I2 q2 => ?_
  refine hh.run w2 σ ρ2 _ _ (C.cl _ _ hA (s1.trans s2)) I2 q2 fun h w3 ρ3 s3 I3 q3 => ?_
  have s23 := (s1.trans s2).trans s3
  obtain ⟨x, tx, q4⟩ := vw_top I3 ((R1.step s2).step s3) q3
  cases x with
  | list ds =>
    obtain ⟨aa, vs, rfl, hs, hr⟩ := tx
    refine ⟨aa, vs, rfl, SqL.of hs, fun p hp => ?_⟩
    obtain ⟨I4, s4⟩ := FI.air I3 (o := .lst (cutV vs l h)) hp
    exact k p (cutV vs l h) (cutD ds l h) ⟨w3.G, upd w3.H p _, w3.F⟩ ρ3 (s23.trans s4) I4 (air_new s23 hp) (I3.fresh hp).1 (fun i z => (I3.fresh hp).2 i p z rfl) upd_same (cut_reps hr l h) q4
  | _ => exact q4.elim
/-- xs[::-1] -/
def nRev (da : TED) : TND := fun ρ Q => da ρ fun r ρ1 => vw ρ1 r fun x => match x with | .list ds => Q ds.reverse ρ1 | _ => False
theorem dn_rev {k0 : Nat} {q1 q2 q3 : Pos} (ha : DE C a ta da) : DN C (.Subscript a (.Slice none none (some (.UnaryOp .USub (.Constant (.int 1) k0 q1) q2)) q3) pos) (tRevL X.K ta) (nRev da) := by
  refine ⟨pe_revL ha.pe, fun w σ ρ Q QD hA I q k => ?_⟩
  refine ha.run w σ ρ _ _ hA I q fun u r1 w1 ρ1 s1 I1 R1 q1 => ?_
  obtain ⟨x, tx, q4⟩ := vw_top I1 R1 q1
  cases x with
  | list ds =>
    obtain ⟨aa, vs, rfl, hs, hr⟩ := tx
    refine ⟨aa, vs, rfl, SqL.of hs, fun p hp => ?_⟩
    obtain ⟨I4, s4⟩ := FI.air I1 (o := .lst vs.reverse) hp
    exact k p vs.reverse ds.reverse ⟨w1.G, upd w1.H p _, w1.F⟩ ρ1 (s1.trans s4) I4 (air_new s1 hp) (I1.fresh hp).1 (fun i z => (I1.fresh hp).2 i p z rfl) upd_same hr.rev q4
  | _ => exact q4.elim
/-- list(x) -/
def nList (da : TED) : TND := fun ρ Q => da ρ fun r ρ1 => vw ρ1 r fun x => match x with | .list ds => Q ds ρ1 | .tuple ds => Q ds ρ1 | _ => False
abbrev rListOf (K : PySem.W.Frag) : List V → Hp → VK → Prop := fun xs H Q => ∃ p ys, xs = [.ref p] ∧ (SqL K H p ys ∨ SqT K H p ys) ∧ ∀ l, H l = none → Q (.ref l) (upd H l (.lst ys))
theorem dn_listOf {p : Pos} (hm : X.mg "list" = none) (ha : DE C a ta da) (hg : Gl X "list" := by rfl) (he : starEach [a] X.env = (false, eval a X.env) :: starEach [] X.env := by rfl) (hpl : (backTo pos (starEach [] X.env)).any (·.1) = false := by rfl) :
    DN C (.Call (.Name "list" p) [a] [] pos) (tCB (rListOf X.K) (tCons ta tNil)) (nList da) := by
  refine ⟨pe_callTy call_list_of hg hm (by decide +kernel) (pa_cons ha.pe pa_nil he) (by decide) (by decide) he hpl, fun w σ ρ Q QD hA I q k => ?_⟩
  refine ha.run w σ ρ _ _ hA I q fun u r1 w1 ρ1 s1 I1 R1 q1 => ?_
  obtain ⟨x, tx, q4⟩ := vw_top I1 R1 q1
  have fin : ∀ (aa : Addr) (vs : List V) (ds : List PyData), u = .ref aa → (SqL X.K w1.H aa vs ∨ SqT X.K w1.H aa vs) → Reps X.K w1.G vs ds → QD ds ρ1 → rListOf X.K [u] w1.H Q := by
    rintro aa vs ds rfl hs hr q5
    refine ⟨aa, vs, rfl, hs, fun p hp => ?_⟩
    obtain ⟨I4, s4⟩ := FI.air I1 (o := .lst vs) hp
    exact k p vs ds ⟨w1.G, upd w1.H p _, w1.F⟩ ρ1 (s1.trans s4) I4 (air_new s1 hp) (I1.fresh hp).1 (fun i z => (I1.fresh hp).2 i p z rfl) upd_same hr q5
  cases x with
  | list ds =>
    obtain ⟨aa, vs, e, hs, hr⟩ := tx
    exact fin aa vs ds e (.inl (SqL.of hs)) hr q4
  | tuple ds =>
    cases tx with
    | tup hs hr => exact fin _ _ ds rfl (.inr (sqt_mono I1.gh hs)) hr q4
  | _ => exact q4.elim

/-! ### a frame's own lists change -/
theorem own_at {P : Par} {w : Wd} {σ : L2.St} {ρ : DSt} {i : Nat} {io : Bool} {ds : List PyData} (I : FI X.K P w σ ρ) (h : ρ[i]? = some (.own io ds)) : ∃ l vs, σ[i]? = some (some (.ref l)) ∧ w.H l = some (.lst vs) ∧ Reps X.K w.G vs ds := by
  obtain ⟨l, vs, h1, _, h3, h4, _⟩ := I.ok i _ h
  exact ⟨l, vs, h1, h3, h4⟩
def ownK (ρ : DSt) (i : Nat) (k : Bool → List PyData → Prop) : Prop := match ρ[i]? with
  | some (.own io ds) => k io ds
  | _ => False
theorem ownK_inv {ρ : DSt} {i : Nat} {k : Bool → List PyData → Prop} (h : ownK ρ i k) : ∃ io ds, ρ[i]? = some (.own io ds) ∧ k io ds := by
  unfold ownK at h
  split at h
  · exact ⟨_, _, by assumption, h⟩
  · exact h.elim
/-- xs.append(e), xs in slot i -/
def sApp (i : Nat) (de : TED) : TSD := fun D ρ => ownK ρ i (fun _ _ => True) ∧ de ρ fun r ρ1 => frz ρ1 r fun d ρ2 => ownK ρ2 i fun io ds => ds.length < sizeLine ∧ D.nx (ρ2.set i (.own io (ds ++ [d])))
variable {y : Str} {py apos cpos spos : Pos}
theorem ds_app (i : Nat) (h : DE C e te de) (hN : X.N[i]? = some y := by rfl) (hv : Vis X.env.scope y := by first | exact Or.inl rfl | exact Or.inr (Or.inl rfl) | exact Or.inr (Or.inr rfl)) (hd : (y == ("__debug__" : Str)) = false := by decide) (hcd : (y == ("__classdict__" : Str)) = false := by decide)
    (he : starEach [e] X.env = (false, eval e X.env) :: starEach [] X.env := by rfl)
    (hbase : attributeBase (.Name y py) "append" X.env (eval (.Name y py) X.env) = eval (.Name y py) X.env := by rfl)
    (hfew : ((backTo cpos (starEach [e] X.env)).all (fun x => !x.1) && (backToKw cpos (keywordEach [] X.env)).all (fun x => x.1.isSome)
      && decide ([e].length + ([] : List Keyword).length + (if ([] : List Keyword).isEmpty then 0 else 1) < 30)) = true := by rfl)
    (hline : (apos.endLine == cpos.line) = true := by rfl) (hplain : (backTo cpos (starEach [] X.env)).any (·.1) = false := by rfl)
    (hs : swapsWith (.Call (.Attribute (.Name y py) "append" apos) [e] [] cpos) none spos.line X.env = pure false := by rfl) :
    DS C (.Expr (.Call (.Attribute (.Name y py) "append" apos) [e] [] cpos) spos) (tDrop (tBM X.K "list" rAppend (tVar i) (tCons te tNil))) (sApp i de) := by
  refine ⟨ps_expr (pe_bm PySem.F.plainAttrs_list PySem.F.slot_list_append PySem.F.type_list_append mt_append (pe_var hN hv hd hcd) (pa_cons h.pe pa_nil he) hbase hfew hline he hplain) hs, fun w σ ρ D DD hA I q k => ?_⟩
  obtain ⟨q0, q⟩ := q
  obtain ⟨io0, ds0, e0, _⟩ := ownK_inv q0
  obtain ⟨l, vs0, h1, h2, _⟩ := own_at I e0
  refine ⟨.ref l, h1, .inl ⟨rfl, vs0, SqL.of h2⟩, ?_⟩
  refine h.run w σ ρ _ _ hA I q fun u r1 w1 ρ1 s1 I1 R1 q1 => ?_
  obtain ⟨d, ρ2, w2, I2, s2, hh, hrep, q2⟩ := frz_ok I1 R1 q1
  obtain ⟨io, ds, e2, hlen, q3⟩ := ownK_inv q2
  obtain ⟨l', vs, g1, g2, g3⟩ := own_at I2 e2
  rw [h1] at g1
  cases g1
  rw [hh] at g2
  refine ⟨l, vs, u, rfl, rfl, g2, by rw [g3.len]; exact hlen, ?_⟩
  obtain ⟨I3, s3⟩ := I2.mut e2 h1 (g3.app (.cons hrep .nil))
  rw [← hh]
  exact k.nx ⟨w2.G, upd w2.H l _, w2.F⟩ σ _ ((s1.trans s2).trans s3) I3 q3
/-- xs[e] = v, xs in slot i -/
def sPut (i : Nat) (dv di : TED) : TSD := fun D ρ => dv ρ fun r ρ1 => frz ρ1 r fun d ρ2 => ownK ρ2 i (fun _ _ => True) ∧ di ρ2 fun r2 ρ3 => vw ρ3 r2 fun x => ownK ρ3 i fun io ds => match x with
  | .int z => (match ixN ds.length z with | some j => D.nx (ρ3.set i (.own io (ds.set j d))) | none => False)
  | _ => False
theorem ds_put (i : Nat) {iv : Expr} {ti : TE} {di : TED} {tpos : Pos} (h : DE C e te de) (hix : DE C iv ti di) (hN : X.N[i]? = some y := by rfl) (hv : Vis X.env.scope y := by first | exact Or.inl rfl | exact Or.inr (Or.inl rfl) | exact Or.inr (Or.inr rfl)) (hd : (y == ("__debug__" : Str)) = false := by decide) (hcd : (y == ("__classdict__" : Str)) = false := by decide)
    (hsub : ∀ v, assign (.Subscript (.Name y py) iv tpos) X.env v = (do
      let ov ← holding [v] (eval (.Name y py) X.env)
      let iv ← holding [v, ov] (eval iv X.env)
      standAt tpos
      holding [v, ov, iv] (setItem ov iv v)
      release [v, ov, iv] []) := by intro _; rfl)
    (hs : swapsWithSole [.Subscript (.Name y py) iv tpos] e spos.line X.env = pure false := by rfl) (hw : swappedStores [.Subscript (.Name y py) iv tpos] e X.env = pure none := by rfl)
    (h1 : (assignEach [.Subscript (.Name y py) iv tpos] X.env).map (·.2) = [assign (.Subscript (.Name y py) iv tpos) X.env] := by rfl) :
    DS C (.Assign [.Subscript (.Name y py) iv tpos] e spos) (tAsg te (gSub (tVar i) ti rSetL)) (sPut i de di) := by
  refine ⟨ps_asg h.pe (pg_sub (pe_var hN hv hd hcd) hix.pe set_list hsub) hs hw h1, fun w σ ρ D DD hA I q k => ?_⟩
  refine h.run w σ ρ _ _ hA I q fun u r1 w1 ρ1 s1 I1 R1 q1 => ?_
  obtain ⟨d, ρ2, w2, I2, s2, hh, hrep, q2⟩ := frz_ok I1 R1 q1
  obtain ⟨q0, q2⟩ := q2
  obtain ⟨io0, ds0, e0, _⟩ := ownK_inv q0
  obtain ⟨l, vs0, g1, g2, _⟩ := own_at I2 e0
  refine ⟨.ref l, g1, ?_⟩
  rw [← hh]
  refine hix.run w2 σ ρ2 _ _ (C.cl _ _ hA (s1.trans s2)) I2 q2 fun v2 r2 w3 ρ3 s3 I3 R3 q3 => ?_
  obtain ⟨x, tx, q4⟩ := vw_top I3 R3 q3
  obtain ⟨io, ds, e3, q5⟩ := ownK_inv q4
  obtain ⟨l', vs, f1, f2, f3⟩ := own_at I3 e3
  rw [g1] at f1
  cases f1
  cases x with
  | int z =>
    cases tx
    have q5 : (match ixN ds.length z with | some j => DD.nx (ρ3.set i (.own io (ds.set j d))) | none => False) := q5
    cases ej : ixN ds.length z with
    | none => rw [ej] at q5; exact q5.elim
    | some j =>
      rw [ej] at q5
      refine ⟨l, vs, z, j, rfl, rfl, f2, by rw [f3.len]; exact ej, ?_⟩
      obtain ⟨I4, s4⟩ := I3.mut e3 g1 (f3.setAt j (rep_mono s3.g _ _ hrep))
      exact k.nx ⟨w3.G, upd w3.H l _, w3.F⟩ σ _ (((s1.trans s2).trans s3).trans s4) I4 q5
  | _ => exact q5.elim
/-- xs.pop(), xs in slot i -/
def dPop (i : Nat) : TED := fun ρ Q => ownK ρ i fun io ds => match ds[ds.length - 1]? with
  | some d => Q (.d d) (ρ.set i (.own io ds.dropLast))
  | none => False
theorem Reps.drop1 {G : Hp} : ∀ {vs : List V} {ds : List PyData}, Reps X.K G vs ds → Reps X.K G vs.dropLast ds.dropLast
  | _, _, .nil => .nil
  | _, _, .cons _ .nil => .nil
  | _, _, .cons r (.cons q t) => .cons r (Reps.drop1 (.cons q t))
theorem de_pop (i : Nat) (hN : X.N[i]? = some y := by rfl) (hv : Vis X.env.scope y := by first | exact Or.inl rfl | exact Or.inr (Or.inl rfl) | exact Or.inr (Or.inr rfl)) (hd : (y == ("__debug__" : Str)) = false := by decide) (hcd : (y == ("__classdict__" : Str)) = false := by decide)
    (hbase : attributeBase (.Name y py) "pop" X.env (eval (.Name y py) X.env) = eval (.Name y py) X.env := by rfl) (hline : (apos.endLine == cpos.line) = true := by rfl) :
    DE C (.Call (.Attribute (.Name y py) "pop" apos) [] [] cpos) (tBM0 X.K "list" rPop (tVar i)) (dPop i) := by
  refine ⟨pe_bm0 PySem.F.plainAttrs_list PySem.F.slot_list_pop PySem.F.type_list_pop mt_pop (pe_var hN hv hd hcd) hbase hline, fun w σ ρ Q QD hA I q k => ?_⟩
  obtain ⟨io, ds, e, q1⟩ := ownK_inv q
  obtain ⟨l, vs, h1, h2, h3⟩ := own_at I e
  have q1 : (match ds[ds.length - 1]? with | some d => QD (.d d) (ρ.set i (.own io ds.dropLast)) | none => False) := q1
  cases el : ds[ds.length - 1]? with
  | none => rw [el] at q1; exact q1.elim
  | some d =>
    rw [el] at q1
    obtain ⟨v, hv1, hv2⟩ := h3.get el
    refine ⟨.ref l, h1, .inl ⟨rfl, vs, SqL.of h2⟩, l, vs, v, rfl, rfl, h2, by rw [h3.len]; exact hv1, ?_⟩
    obtain ⟨I3, s3⟩ := I.mut e h1 h3.drop1
    exact k v (.d d) ⟨w.G, upd w.H l _, w.F⟩ _ s3 I3 hv2 q1
end
end DL

end
section
set_option maxHeartbeats 4000000
/-! DLH: names with an operator, bools as ints, three names at once, lists unpacked, raise, pairs walked, comprehensions. -/
namespace DL
open PySem PySem.Spec L2
section
variable {X : Cx} {C : DC X} {a b c e tg iter : Expr} {ta tb tc te : TE} {da db dc de : TED} {pos : Pos} {es : List Expr} {tr : TA} {dr : TND}

/-! ### bools as ints -/
def bi (b : Bool) : Int := if b = true then 1 else 0
def rSubU : R2 := fun x y H Q => rI0 (fun i j => .int (i - j)) x y H Q ∨ ∃ p q, x = .bl p ∧ y = .bl q ∧ Q (.int (bi p - bi q)) H
theorem op_subB : OpR X (binaryOp .Sub) (fun x y H Q => ∃ p q, x = .bl p ∧ y = .bl q ∧ Q (.int (bi p - bi q)) H) := by
  intro pins s σ H x y v u Q I rx ry h
  obtain ⟨p, k, rfl, rfl, q⟩ := h
  cases rx
  cases ry
  exact PyProof.Rows.sub_bool ⟨.int (bi p - bi k), H, I.tok _, ⟨_, rfl⟩, q⟩
def dSub (x y : PyData) (k : PyData → Prop) : Prop := match x, y with
  | .int i, .int j => k (.int (i - j))
  | .bool p, .bool q => k (.int (bi p - bi q))
  | _, _ => False
theorem od_subU : OpR X (binaryOp .Sub) rSubU ∧ OpD X C rSubU dSub := by
  refine ⟨opr_or op_sub op_subB, fun w σ ρ u v x y Q kd hA I tx ty h k => ?_⟩
  unfold dSub at h
  split at h
  · cases tx
    cases ty
    exact .inl ⟨_, _, rfl, rfl, k _ _ w (Stp.refl w) I (.int _) h⟩
  · cases tx
    cases ty
    exact .inr ⟨_, _, rfl, rfl, k _ _ w (Stp.refl w) I (.int _) h⟩
  · exact h.elim

/-! ### name op= value -/
theorem od_iadd : OpR X (inplaceOp .Add) (rI0 fun i j => .int (i + j)) ∧ OpD X C (rI0 fun i j => .int (i + j)) (dI0 fun i j => i + j) := ⟨iop_add, opd_I0⟩
theorem od_isub : OpR X (inplaceOp .Sub) (rI0 fun i j => .int (i - j)) ∧ OpD X C (rI0 fun i j => .int (i - j)) (dI0 fun i j => i - j) := ⟨iop_sub, opd_I0⟩
theorem iop_mulW : OpR X (inplaceOp .Mult) (rI CMulW fun i j => .int (i * j)) := opI fun _ _ _ _ _ _ _ hc q => PyProof.Rows.imul_int q hc.ok
theorem od_imul : OpR X (inplaceOp .Mult) (rI CMulW fun i j => .int (i * j)) ∧ OpD X C (rI CMulW fun i j => .int (i * j)) (dI CMulW fun i j => i * j) := ⟨iop_mulW, opd_I⟩
theorem iop_fdivF : OpR X (inplaceOp .FloorDiv) (rI CDivF fun i j => .int (i.fdiv j)) := opI fun _ _ _ _ _ _ _ hc q => PyProof.Rows.ifloordiv_int hc.1 q (.inl (PyProof.noPylong_of_log2 hc.2))
theorem od_ifdiv : OpR X (inplaceOp .FloorDiv) (rI CDivF fun i j => .int (i.fdiv j)) ∧ OpD X C (rI CDivF fun i j => .int (i.fdiv j)) (dI CDivF fun i j => i.fdiv j) := ⟨iop_fdivF, opd_I⟩
def rIAddS : R2 := fun x y H Q => ∃ i j, x = .str i ∧ y = .str j ∧ i.length + j.length ≤ sizeLine ∧ Q (.str (i ++ j)) H
def rIAddU : R2 := fun x y H Q => rI0 (fun i j => .int (i + j)) x y H Q ∨ rIAddS x y H Q
def dIAdd (x y : PyData) (k : PyData → Prop) : Prop := match x, y with
  | .int i, .int j => k (.int (i + j))
  | .str i, .str j => i.length + j.length ≤ sizeLine ∧ k (.str (i ++ j))
  | _, _ => False
theorem od_iaddU : OpR X (inplaceOp .Add) rIAddU ∧ OpD X C rIAddU dIAdd := by
  refine ⟨opr_or iop_add iop_add_str, fun w σ ρ u v x y Q kd hA I tx ty h k => ?_⟩
  unfold dIAdd at h
  split at h
  · cases tx
    cases ty
    exact .inl ⟨_, _, rfl, rfl, k _ _ w (Stp.refl w) I (.int _) h⟩
  · cases tx
    cases ty
    exact .inr ⟨_, _, rfl, rfl, h.1, k _ _ w (Stp.refl w) I (.str _) h.2⟩
  · exact h.elim
def sAug (i : Nat) (de : TED) (f : PyData → PyData → (PyData → Prop) → Prop) : TSD := fun D ρ => match ρ[i]? with
  | some (.val x) => de ρ fun r ρ1 => vw ρ1 r fun y => f x y fun z => D.nx (ρ1.set i (.val z))
  | _ => False
theorem ds_aug (i : Nat) {x : Str} {op : Operator} {r : R2} {f : PyData → PyData → (PyData → Prop) → Prop} {pos' : Pos} (ho : OpR X (inplaceOp op) r ∧ OpD X C r f) (h : DE C e te de) (hi : X.N[i]? = some x := by rfl) (hx : Loc X.env.scope x := by first | exact Or.inl rfl | exact Or.inr rfl)
    (hf : X.fn x = true ∨ X.env.scope.names.lookup x = some .local := by first | exact .inl rfl | exact .inr rfl) : DS C (.AugAssign (.Name x pos') op e pos) (tAug i te r) (sAug i de f) := by
  refine ⟨ps_aug C.nd hi hx h.pe (fun pins s σ H x y v u Q I rx ry h => ho.1 pins s σ H x y v u Q I rx ry h) hf, fun w σ ρ D DD hA I q k => ?_⟩
  have q : (match ρ[i]? with
    | some (.val x) => de ρ fun r ρ1 => vw ρ1 r fun y => f x y fun z => DD.nx (ρ1.set i (.val z))
    | _ => False) := q
  cases e0 : ρ[i]? with
  | none => rw [e0] at q; exact q.elim
  | some s =>
    rw [e0] at q
    cases s with
    | no => exact q.elim
    | own _ _ => exact q.elim
    | res _ _ => exact q.elim
    | val xd =>
      obtain ⟨_, u, e1, hr⟩ := I.ok i _ e0
      refine ⟨u, e1, h.run w σ ρ _ _ hA I q fun v r1 w1 ρ1 s1 I1 R1 q1 => ?_⟩
      obtain ⟨y, ty, q2⟩ := vw_top I1 R1 q1
      refine ho.2 w1 σ ρ1 u v xd y _ _ (C.cl _ _ hA s1) I1 (rep_top I1.gh (rep_mono s1.g _ _ hr)) ty q2 fun z d w2 s2 I2 R2 q3 => ?_
      have z2 := I2.set (i := i) R2
      exact k.nx ⟨w2.G, w2.H, fun j => if j = i then [] else w2.F j⟩ _ _ ((s1.trans s2).trans z2.2) z2.1 q3

/-! ### a, b, c = x, y, z -/
def asThree (ds : List PyData) (k : PyData → PyData → PyData → Prop) : Prop := match ds with | [x, y, z] => k x y z | _ => False
def sPar3 (i j l : Nat) (t : TND) : TSD := fun D ρ => t ρ fun ds ρ1 => asThree ds fun x y z => D.nx (((ρ1.set i (.val x)).set j (.val y)).set l (.val z))
theorem asThree_inv {ds : List PyData} {k : PyData → PyData → PyData → Prop} (h : asThree ds k) : ∃ x y z, ds = [x, y, z] ∧ k x y z := by
  unfold asThree at h
  split at h
  · exact ⟨_, _, _, rfl, h⟩
  · exact h.elim
theorem ds_par3 {i j l : Nat} {x y z : Str} {px py pz pt : Pos} {kt k2 pt2} (ha : DA C [a, b, c] tr dr) (hi : X.N[i]? = some x := by rfl) (hj : X.N[j]? = some y := by rfl) (hl : X.N[l]? = some z := by rfl) (hij : i ≠ j := by decide) (hil : i ≠ l := by decide) (hjl : j ≠ l := by decide)
    (hx : X.env.scope.names.lookup x = some .local := by rfl) (hy : X.env.scope.names.lookup y = some .local := by rfl) (hz : X.env.scope.names.lookup z = some .local := by rfl)
    (hw : swappedStores [.Tuple [.Name x px, .Name y py, .Name z pz] kt pt] (.Tuple [a, b, c] k2 pt2) X.env = pure (some [x, y, z]) := by rfl)
    (hs : swapsWithSole [.Tuple [.Name x px, .Name y py, .Name z pz] kt pt] (.Tuple [a, b, c] k2 pt2) pos.line X.env = pure false := by rfl) :
    DS C (.Assign [.Tuple [.Name x px, .Name y py, .Name z pz] kt pt] (.Tuple [a, b, c] k2 pt2) pos) (tPar3 i j l tr) (sPar3 i j l dr) := by
  refine ⟨ps_par3 C.calm C.nd hi hj hl hij hil hjl hx hy hz ha.pa hw hs, fun w σ ρ D DD hA I q k => ?_⟩
  refine ha.run w σ ρ _ _ hA I q fun vs ds w1 ρ1 s1 I1 R1 q1 => ?_
  obtain ⟨x1, x2, x3, rfl, q2⟩ := asThree_inv q1
  cases R1 with
  | cons r1 R1 =>
    cases R1 with
    | cons r2 R1 =>
      cases R1 with
      | cons r3 R1 =>
        cases R1
        have z1 := I1.set (i := i) r1
        have z2 := z1.1.set (i := j) r2
        have z3 := z2.1.set (i := l) r3
        exact ⟨_, _, _, rfl, k.nx ⟨w1.G, w1.H, fun j' => if j' = l then [] else if j' = j then [] else if j' = i then [] else w1.F j'⟩ _ _ (((s1.trans z1.2).trans z2.2).trans z3.2) z3.1 q2⟩

/-! ### a list unpacked -/
def gLst' (r : TGsD) : TGD := fun x ρ k => match x with | .list xs => r xs ρ k | _ => False
theorem dg_lst {tgs : List Expr} {gs : TGs} {T : List Nat} {ds : TGsD} {k0 : Nat} {n : Nat} (h : DGs C tgs gs T ds) (hn : (assignEach tgs X.env).length = n := by rfl) (hst : (assignEach tgs X.env).findIdx? (·.1) = none := by rfl) :
    DG C (.Tuple tgs k0 pos) (gLst X.K n gs) T (gLst' (lenIs n ds)) := by
  refine ⟨pg_lst C.calm h.pgs hn hst, fun w σ ρ v x Q QD hA I hr q k => ?_⟩
  cases x with
  | list xs =>
    cases hr with
    | lst hs ha =>
      obtain ⟨hl, q⟩ := q
      exact ⟨_, _, rfl, SqL.of (I.gh _ _ hs), by rw [ha.len]; exact hl, h.run w σ ρ _ _ _ _ hA I ha q k⟩
  | _ => exact q.elim

/-! ### raise -/
def sRaise (W : WD) (cls : Addr) : TSD := fun _ ρ => W ⟨cls, []⟩ ρ
theorem ds_raise {cls : Addr} (h : PMk X e (fun _ H Q => Q (.ref cls) none H)) : DS C (.Raise (some e) none pos) (fun _ σ H => C.WH (.ref cls) none σ H) (sRaise C.W cls) :=
  ⟨ps_raise C.calm C.tk h, fun w σ ρ D DD hA I q k => C.hW ⟨cls, []⟩ ρ σ w (.ref cls) none hA I ⟨rfl, .inl ⟨rfl, rfl⟩⟩ q⟩

/-! ### pairs walked -/
def enumD (ds : List PyData) : List PyData := ds.zipIdx.map fun p => .tuple [.int (p.2 : Int), p.1]
def asL1 (ds : List PyData) (k : List PyData → Prop) : Prop := match ds with | [.list xs] => k xs | _ => False
theorem asL1_inv {ds : List PyData} {k : List PyData → Prop} (h : asL1 ds k) : ∃ xs, ds = [.list xs] ∧ k xs := by
  unfold asL1 at h
  split at h
  · exact ⟨_, rfl, h⟩
  · exact h.elim
def enumI (dr : TND) : TND := fun ρ Q => dr ρ fun ds ρ1 => asL1 ds fun xs => Q (enumD xs) ρ1
theorem di_enum {p tpos : Pos} {elts : List Expr} {kk : Nat} (hm : X.mg "enumerate" = none) (ha : DA C [e] tr dr) (hg : Gl X "enumerate" := by rfl) (hs : starEach [e] X.env = [(false, eval e X.env)] := by rfl) :
    DI C (.Tuple elts kk tpos) (.Call (.Name "enumerate" p) [e] [] pos) (iEnum X.K tr) (enumI dr) := by
  refine ⟨pi_enum hg hm ha.pa hs, fun w σ ρ Q QD hA I q k => ?_⟩
  refine ha.run w σ ρ _ _ hA I q fun vs ds w1 ρ1 s1 I1 R1 q1 => ?_
  obtain ⟨xs, rfl, q2⟩ := asL1_inv q1
  cases R1 with
  | cons r R1 =>
    cases R1
    cases r with
    | lst hg hr =>
      rename_i l us
      have len : (enumD xs).length = us.length := by unfold enumD; rw [List.length_map, List.length_zipIdx, hr.len]
      refine ⟨l, us, rfl, SqL.of (I1.gh _ _ hg), k (Ite X.K l) (enumD xs) w1 ρ1 s1 I1 ⟨fun i H hi s => ?_, fun H s => ⟨us, SqL.of (s _ _ hg), by rw [len]; exact Nat.le_refl _⟩, fun i H x H' hi s y => ?_⟩ q2⟩
      · have hi' : i < us.length := by rw [← len]; exact hi
        exact ⟨us, us[i], SqL.of (s _ _ hg), by simp [hi']⟩
      · obtain ⟨T, u, rfl, hT, rfl, hx⟩ := y
        obtain ⟨d, hd, rd⟩ := hr.get' (hx us (SqL.of (s _ _ hg)))
        refine ⟨.tuple [.int (i : Int), d], ?_, .inr ⟨T, _, u, .int (i : Int), d, rfl, hT, rfl, rfl, .int _, rd⟩⟩
        unfold enumD
        rw [List.getElem?_map, List.getElem?_zipIdx, hd]
        simp
def asL2 (ds : List PyData) (k : List PyData → List PyData → Prop) : Prop := match ds with | [.list xs, .list ys] => k xs ys | _ => False
theorem asL2_inv {ds : List PyData} {k : List PyData → List PyData → Prop} (h : asL2 ds k) : ∃ xs ys, ds = [.list xs, .list ys] ∧ k xs ys := by
  unfold asL2 at h
  split at h
  · exact ⟨_, _, rfl, h⟩
  · exact h.elim
def zipD (xs ys : List PyData) : List PyData := (xs.zip ys).map fun p => .tuple [p.1, p.2]
def zipI (dr : TND) : TND := fun ρ Q => dr ρ fun ds ρ1 => asL2 ds fun xs ys => Q (zipD xs ys) ρ1
theorem di_zip {p tpos : Pos} {elts : List Expr} {kk : Nat} {e2 : Expr} (hm : X.mg "zip" = none) (ha : DA C [e, e2] tr dr) (hg : Gl X "zip" := by rfl) (hs : starEach [e, e2] X.env = (false, eval e X.env) :: starEach [e2] X.env := by rfl) (hpl : (backTo pos (starEach [e2] X.env)).any (·.1) = false := by rfl) :
    DI C (.Tuple elts kk tpos) (.Call (.Name "zip" p) [e, e2] [] pos) (iZip X.K tr) (zipI dr) := by
  refine ⟨pi_zip hg hm ha.pa hs hpl, fun w σ ρ Q QD hA I q k => ?_⟩
  refine ha.run w σ ρ _ _ hA I q fun vs ds w1 ρ1 s1 I1 R1 q1 => ?_
  obtain ⟨xs, ys, rfl, q2⟩ := asL2_inv q1
  cases R1 with
  | cons r R1 =>
    cases R1 with
    | cons r' R1 =>
      cases R1
      cases r with
      | lst hg1 hr1 =>
        cases r' with
        | lst hg2 hr2 =>
          rename_i l us m ws
          have len : (zipD xs ys).length = min us.length ws.length := by unfold zipD; rw [List.length_map, List.length_zip, hr1.len, hr2.len]
          refine ⟨l, m, us, ws, rfl, SqL.of (I1.gh _ _ hg1), SqL.of (I1.gh _ _ hg2), k (Itz X.K l m) (zipD xs ys) w1 ρ1 s1 I1 ⟨fun i H hi s => ?_, fun H s => ⟨us, ws, SqL.of (s _ _ hg1), SqL.of (s _ _ hg2), by rw [len]; omega⟩, fun i H x H' hi s y => ?_⟩ q2⟩
          · rw [len] at hi
            have h1 : i < us.length := by omega
            have h2 : i < ws.length := by omega
            exact ⟨us, ws, us[i], ws[i], SqL.of (s _ _ hg1), SqL.of (s _ _ hg2), by simp [h1], by simp [h2]⟩
          · obtain ⟨T, u, v, rfl, hT, rfl, hx, hy⟩ := y
            obtain ⟨d, hd, rd⟩ := hr1.get' (hx us (SqL.of (s _ _ hg1)))
            obtain ⟨d', hd', rd'⟩ := hr2.get' (hy ws (SqL.of (s _ _ hg2)))
            refine ⟨.tuple [d, d'], ?_, .inr ⟨T, u, v, d, d', rfl, hT, rfl, rfl, rd, rd'⟩⟩
            unfold zipD
            rw [List.getElem?_map, (List.getElem?_zip_eq_some (z := (d, d'))).mpr ⟨hd, hd'⟩]
            rfl

/-! ### comprehensions -/
def wipeD (ρ : DSt) : List Nat → DSt
  | [] => ρ
  | v :: vs => (wipeD ρ vs).set v .no
theorem FI.wipe {K : PySem.W.Frag} {P : Par} {σ : St} : ∀ {vs : List Nat} {w : Wd} {ρ : DSt}, FI K P w σ ρ → ∃ w', w'.G = w.G ∧ w'.H = w.H ∧ FI K P w' σ (wipeD ρ vs) ∧ Stp w w' ∧ ∀ i b, b ∈ w'.F i → b ∈ w.F i
  | [], w, ρ, I => ⟨w, rfl, rfl, I, Stp.refl w, fun _ _ h => h⟩
  | v :: vs, w, ρ, I => by
    obtain ⟨w1, g, h, I1, s1, f1⟩ := FI.wipe (vs := vs) I
    obtain ⟨I2, s2⟩ := I1.drop v
    refine ⟨⟨w1.G, w1.H, fun j => if j = v then [] else w1.F j⟩, g, h, I2, s1.trans s2, fun i b hb => f1 i b ?_⟩
    have hb : b ∈ (if i = v then ([] : List Addr) else w1.F i) := hb
    by_cases e : i = v
    · rw [if_pos e] at hb; cases hb
    · rw [if_neg e] at hb; exact hb
theorem wipeD_len (ρ : DSt) : ∀ vs : List Nat, (wipeD ρ vs).length = ρ.length
  | [] => rfl
  | v :: vs => by unfold wipeD; rw [List.length_set, wipeD_len ρ vs]
theorem wipeD_in {ρ : DSt} {i : Nat} {s : SD} : ∀ {vs : List Nat}, (wipeD ρ vs)[i]? = some s → i ∈ vs → s = .no
  | v :: vs, h, hm => by
    unfold wipeD at h
    by_cases e : v = i
    · subst e
      have hlt : v < (wipeD ρ vs).length := by
        rcases Nat.lt_or_ge v (wipeD ρ vs).length with q | q
        · exact q
        · rw [List.getElem?_eq_none (by rw [List.length_set]; exact q)] at h; cases h
      rw [List.getElem?_set_self hlt] at h
      cases h; rfl
    · rw [List.getElem?_set_ne e] at h
      exact wipeD_in h (by rcases List.mem_cons.mp hm with q | q; exact absurd q.symm e; exact q)
theorem wipe_in {σ : St} {i : Nat} : ∀ {vs : List Nat}, i ∈ vs → (L2.wipe σ vs)[i]? = if i < σ.length then some none else none
  | v :: vs, h => by
    show ((L2.wipe σ vs).set v none)[i]? = _
    by_cases e : v = i
    · subst e
      rw [List.getElem?_set, if_pos rfl, wipe_length]
    · rw [List.getElem?_set_ne e]
      exact wipe_in (by rcases List.mem_cons.mp h with q | q; exact absurd q.symm e; exact q)
theorem wipe_idem (σ : St) (vs : List Nat) : L2.wipe (L2.wipe σ vs) vs = L2.wipe σ vs := by
  refine List.ext_getElem? fun i => ?_
  by_cases h : i ∈ vs
  · rw [wipe_in h, wipe_in h, wipe_length]
  · rw [wipe_out h, wipe_out h]
/-- the block's slots: what was wiped may hold anything -/
theorem FI.other {K : PySem.W.Frag} {P : Par} {w : Wd} {σ σ' : St} {ρ : DSt} {vs : List Nat} (I : FI K P w σ ρ) (hn : ∀ i ∈ vs, ∀ s, ρ[i]? = some s → s = .no) (hl : σ'.length = σ.length) (he : ∀ i, i ∉ vs → σ'[i]? = σ[i]?) : FI K P w σ' ρ := by
  refine ⟨I.gh, by rw [hl]; exact I.len, fun i s e => ?_, I.out, I.foot, I.sep⟩
  by_cases hi : i ∈ vs
  · have := hn i hi s e
    subst this
    exact I.ok i _ e
  · rw [he i hi]
    exact I.ok i s e
/-- the context of a comprehension's block: no exception comes out of it -/
def DC.blk {X : Cx} (C : DC X) (s : Shared) (H : Hp) (scope : Scope) (cenv : Env) (fp : List Addr) : DC (X.blk s H scope cenv fp) :=
  { P := C.P, A := C.A, cl := C.cl, nw := C.nw, gd := C.gd, calm := C.calm, nd := C.nd, un := C.un, W := fun _ _ => False, WH := fun _ _ _ _ => False,
    tk := fun u s' ⟨_, _, _, _, _, _, _, _, _, _, _, _, _, _, _, _, w⟩ => w, hW := fun _ _ _ _ _ _ _ _ _ h => h }
def lcD (vs : List Nat) (g : TGD) (t : TTD) (te : TED) : List PyData → List PyData → DSt → (List PyData → DSt → Prop) → Prop
  | [], acc, ρ, Q => Q acc ρ
  | x :: xs, acc, ρ, Q => g x ρ fun ρ1 => t ρ1 fun b ρ2 => match b with
    | true => te ρ2 fun r ρ3 => frz ρ3 r fun d ρ4 => acc.length < sizeLine ∧ lcD vs g t te xs (acc ++ [d]) (wipeD ρ4 vs) Q
    | false => lcD vs g t te xs acc (wipeD ρ2 vs) Q
def nLc (vs : List Nat) (ti : TND) (g : TGD) (t : TTD) (te : TED) : TND := fun ρ Q => ti ρ fun items ρ1 => lcD vs g t te items [] (wipeD ρ1 vs) Q
def dYes : TTD := fun ρ Q => Q true ρ
/-- the tests of a clause -/
structure DTs (C : DC X) (ifs : List Expr) (tt : TT) (t : TTD) : Prop where
  pts : PTs X ifs tt
  run : ∀ (w : Wd) (σ : St) (ρ : DSt) (Q : Bool → Hp → Prop) (QD : Bool → DSt → Prop), C.A w → FI X.K C.P w σ ρ → t ρ QD →
    (∀ b w' ρ', Stp w w' → FI X.K C.P w' σ ρ' → QD b ρ' → Q b w'.H) → tt σ w.H Q
theorem dts_nil : DTs C [] tYes dYes := ⟨pts_nil, fun w σ ρ Q QD hA I q k => k true w ρ (Stp.refl w) I q⟩
theorem dts_one {ua : TT} {xa : TTD} (h : DT C c ua xa) : DTs C [c] ua xa := ⟨pts_one h.pt, h.run⟩
abbrev BlkEnv (X : Cx) (scope : Scope) (cl : List (Str × Addr)) (Ca : Addr) : Env := compEnvC scope cl Ca X.env
section
variable {elt : Expr} {ifs : List Expr} {scope : Scope} {own : List (Str × Nat)} {wi : TI} {ti : TND} {g : TG} {T : List Nat} {d : TGD} {tt : TT} {t : TTD}
theorem lc_run (hi : DI C tg iter wi ti)
    (hg : ∀ (s : Shared) (H : Hp) (Ca : Addr) (cl : List (Str × Addr)) (fp : List Addr), DG (C.blk s H scope (compEnvC scope cl Ca X.env) fp) tg g T d)
    (ht : ∀ (s : Shared) (H : Hp) (Ca : Addr) (cl : List (Str × Addr)) (fp : List Addr), DTs (C.blk s H scope (compEnvC scope cl Ca X.env) fp) ifs tt t)
    (he : ∀ (s : Shared) (H : Hp) (Ca : Addr) (cl : List (Str × Addr)) (fp : List Addr), DE (C.blk s H scope (compEnvC scope cl Ca X.env) fp) elt te de) (hT : ∀ i ∈ T, i ∈ own.map (·.2)) :
    ∀ (w : Wd) (σ : St) (ρ : DSt) (Q : VK) (QD : List PyData → DSt → Prop), C.A w → FI X.K C.P w σ ρ → nLc (own.map (·.2)) ti d t de ρ QD →
    (∀ a vs ds w' ρ', Stp w w' → FI X.K C.P w' σ ρ' → w.H a = none → w'.G a = none → (∀ i, a ∉ w'.F i) → w'.H a = some (.lst vs) → Reps X.K w'.G vs ds → QD ds ρ' → Q (.ref a) w'.H) → tLc wi g tt te (own.map (·.2)) σ w.H Q := by
  intro w σ ρ Q QD hA I q k
  have gg := hg X.s_0 X.H_0 0 [] []
  have tt' := ht X.s_0 X.H_0 0 [] []
  have ee := he X.s_0 X.H_0 0 [] []
  refine hi.run w σ ρ _ _ hA I q fun J items w1 ρ1 s1 I1 WK q1 D hD => ?_
  obtain ⟨v1, g1, h1, J1, s2, f1⟩ := FI.wipe (vs := own.map (·.2)) I1
  have hD1 : v1.H D = none := by rw [h1]; exact hD
  obtain ⟨J2, s3⟩ := FI.air J1 (o := .lst []) hD1
  have s03 := s2.trans s3
  refine ⟨fun i m H' => m = items.length - i ∧ i ≤ items.length ∧ ∃ w' ρ' us ds, w'.H = H' ∧ Stp v1 w' ∧ FI X.K C.P w' σ ρ' ∧ w'.H D = some (.lst us) ∧ Reps X.K w'.G us ds ∧ w'.G D = none ∧ (∀ i, D ∉ w'.F i) ∧
    (∀ j ∈ own.map (·.2), ∀ s, ρ'[j]? = some s → s = .no) ∧ lcD (own.map (·.2)) d t de (items.drop i) ds ρ' QD,
    ⟨items.length, by simp, Nat.zero_le _, ⟨v1.G, upd v1.H D (.lst []), v1.F⟩, wipeD ρ1 (own.map (·.2)), [], [], by rw [h1], s3, J2, upd_same, .nil, (J1.fresh hD1).1, fun i z => (J1.fresh hD1).2 i D z rfl, fun j hj s e => wipeD_in e hj, by rw [List.drop_zero]; exact q1⟩, ?_⟩
  rintro i m H' ⟨rfl, hi2, w2, ρ2, us, ds, rfl, s4, I2, hD2, R2, hG2, hF2, hno, q2⟩
  have hA2 := C.cl _ _ (C.cl _ _ (C.cl _ _ hA s1) s2) s4
  have g12 : Same w1.G w2.G := fun b o h => s4.g b o (by rw [g1]; exact h)
  have gH : Same w1.G w2.H := fun b o h => I2.gh b o (g12 b o h)
  by_cases hlt : i < items.length
  · refine .inr ⟨WK.go i _ hlt gH, fun H' => ∃ w' ρ' us ds, w'.H = H' ∧ Stp v1 w' ∧ FI X.K C.P w' σ ρ' ∧ w'.H D = some (.lst us) ∧ Reps X.K w'.G us ds ∧ w'.G D = none ∧ (∀ i, D ∉ w'.F i) ∧
      (∀ j ∈ own.map (·.2), ∀ s, ρ'[j]? = some s → s = .no) ∧ lcD (own.map (·.2)) d t de (items.drop (i + 1)) ds ρ' QD, fun H' h => ⟨items.length - (i + 1), by omega, rfl, hlt, h⟩, fun x H' y => ?_⟩
    obtain ⟨z, w3, hz, rfl, s5, I3, r3⟩ := item_come WK I2 g12 hlt y
    have ed : items.drop i = z :: items.drop (i + 1) := by
      have e1 := List.getElem?_eq_some_iff.mp hz
      rw [List.drop_eq_getElem_cons hlt, e1.2]
    rw [ed] at q2
    have I3' : FI X.K C.P w3 (L2.wipe σ (own.map (·.2))) ρ2 := I3.other hno (wipe_length σ _) fun i hi => wipe_out hi
    refine gg.run w3 _ ρ2 x z _ _ (C.cl _ _ hA2 s5) I3' r3 q2 fun w4 σ4 ρ4 s6 I4 e4 q4 => ?_
    have e4 : L2.wipe σ4 (own.map (·.2)) = L2.wipe σ (own.map (·.2)) := (e4 _ hT).trans (wipe_idem σ _)
    refine ⟨e4, tt'.run w4 σ4 ρ4 _ _ (C.cl _ _ (C.cl _ _ hA2 s5) s6) I4 q4 fun b w5 ρ5 s7 I5 q5 => ?_⟩
    have s57 := (s5.trans s6).trans s7
    -- what stays of D
    have fin : ∀ (w6 : Wd) (ρ6 : DSt), Stp w2 w6 → FI X.K C.P w6 σ4 ρ6 → w6.H D = some (.lst us) ∧ w6.G D = none ∧ (∀ i, D ∉ w6.F i) ∧ ∃ w7, w7.G = w6.G ∧ w7.H = w6.H ∧ FI X.K C.P w7 σ (wipeD ρ6 (own.map (·.2))) ∧ Stp w2 w7 ∧ (∀ i, D ∉ w7.F i) := by
      intro w6 ρ6 s I6
      have hF6 : ∀ i, D ∉ w6.F i := fun i z => by
        rcases s.f i D z with q | q
        · exact hF2 i q
        · rw [hD2] at q; cases q
      obtain ⟨w7, g7, h7, I7, s8, f7⟩ := FI.wipe (vs := own.map (·.2)) I6
      have hl : σ.length = σ4.length := by rw [← wipe_length σ (own.map (·.2)), ← e4, wipe_length]
      refine ⟨s.h D _ hD2 hF2, s.gf D (by rw [hD2]; exact fun z => nomatch z) hG2 hF2, hF6, w7, g7, h7, I7.other (fun j hj s e => wipeD_in e hj) hl fun j hj => ?_, s.trans s8, fun i z => hF6 i (f7 i D z)⟩
      rw [← wipe_out (σ := σ) hj, ← e4, wipe_out hj]
    cases b with
    | false =>
      rw [if_neg Bool.false_ne_true]
      obtain ⟨a1, a2, a3, w7, g7, h7, I7, s7', f7⟩ := fin w5 ρ5 s57 I5
      exact ⟨w7, _, us, ds, h7, s4.trans s7', I7, by rw [h7]; exact a1, by rw [g7]; exact reps_mono s57.g _ _ R2, by rw [g7]; exact a2, f7, fun j hj s e => wipeD_in e hj, q5⟩
    | true =>
      rw [if_pos rfl]
      refine ee.run w5 σ4 ρ5 _ _ (C.cl _ _ hA2 s57) I5 q5 fun v r w6 ρ6 s8 I6 R6 q6 => ?_
      obtain ⟨dd, ρ7, w7, I7, s9, hh, hrep, q7⟩ := frz_ok I6 R6 q6
      obtain ⟨hsz, q7⟩ := q7
      have s79 := (s57.trans s8).trans s9
      obtain ⟨a1, a2, a3, w8, g8, h8, I8, s8', f8⟩ := fin w7 ρ7 s79 I7
      have RR : Reps X.K w8.G us ds := by rw [g8]; exact reps_mono s79.g _ _ R2
      have hG8 : w8.G D = none := by rw [g8]; exact a2
      refine ⟨us, by rw [← hh]; exact a1, by rw [RR.len]; exact hsz, ⟨w8.G, upd w8.H D (.lst (us ++ [v])), w8.F⟩, _, us ++ [v], ds ++ [dd], by rw [h8, hh], ?_, ?_, upd_same, RR.app (.cons (by rw [g8]; exact hrep) .nil), hG8, f8, fun j hj s e => wipeD_in e hj, q7⟩
      · have S := s4.trans s8'
        exact ⟨S.g, S.gf, fun b o h n => by
          show upd w8.H D _ b = some o
          rw [upd_ne (ne_of_none h hD1)]
          exact S.h b o h n, fun b h => there_new b (S.t b h), S.f⟩
      · refine ⟨fun b o h => ?_, I8.len, fun i s e => (I8.ok i s e).go (fun _ _ h => h) fun b hb o h => ?_, I8.out, fun i b hb => ⟨(I8.foot i b hb).1, there_new b (I8.foot i b hb).2⟩, I8.sep⟩
        · show upd w8.H D _ b = some o
          rw [upd_ne (ne_of_none h hG8)]
          exact I8.gh b o h
        · show upd w8.H D _ b = some o
          rw [upd_ne (fun z => f8 i (by rw [← z]; exact hb))]
          exact h
  · have e : i = items.length := by omega
    subst e
    rw [List.drop_length] at q2
    have hw : w.H D = none := by
      cases e0 : w.H D with
      | none => rfl
      | some o => exact absurd hD (s1.t D (by rw [e0]; exact fun z => nomatch z))
    exact .inl ⟨WK.stop _ gH, k D us ds w2 ρ2 ((s1.trans s2).trans s4) I2 hw hG2 hF2 hD2 R2 q2⟩
/-! the same, each block's own spec left open -/
def teS (C : DC X) (de : TED) : TE := fun σ H Q => ∃ (w : Wd) (ρ : DSt) (QD : R → DSt → Prop), w.H = H ∧ C.A w ∧ FI X.K C.P w σ ρ ∧ de ρ QD ∧ (∀ v r w' ρ', Stp w w' → FI X.K C.P w' σ ρ' → RepR X.K w' σ v r → QD r ρ' → Q v w'.H)
def ttS (C : DC X) (t : TTD) : TT := fun σ H Q => ∃ (w : Wd) (ρ : DSt) (QD : Bool → DSt → Prop), w.H = H ∧ C.A w ∧ FI X.K C.P w σ ρ ∧ t ρ QD ∧ (∀ b w' ρ', Stp w w' → FI X.K C.P w' σ ρ' → QD b ρ' → Q b w'.H)
def tgS (C : DC X) (T : List Nat) (d : TGD) : TG := fun v σ H Q => ∃ (w : Wd) (ρ : DSt) (x : PyData) (QD : DSt → Prop), w.H = H ∧ C.A w ∧ FI X.K C.P w σ ρ ∧ Rep X.K w.G v x ∧ d x ρ QD ∧
  (∀ w' σ' ρ', Stp w w' → FI X.K C.P w' σ' ρ' → (∀ vs : List Nat, (∀ i ∈ T, i ∈ vs) → L2.wipe σ' vs = L2.wipe σ vs) → QD ρ' → Q σ' w'.H)
variable {s0 : Shared} {H0 : Hp} {cenv : Env} {fp : List Addr}
theorem blkE (h : ∃ te, DE (C.blk s0 H0 scope cenv fp) elt te de) : DE (C.blk s0 H0 scope cenv fp) elt (teS C de) de := by
  obtain ⟨te, h⟩ := h
  refine ⟨⟨fun pins s σ H Q I hh => ?_⟩, fun w σ ρ Q QD hA I q k => ⟨w, ρ, QD, rfl, hA, I, q, k⟩⟩
  obtain ⟨w, ρ, QD, rfl, hA, J, q, k⟩ := hh
  exact h.pe.run pins s σ w.H Q I (h.run w σ ρ Q QD hA J q k)
theorem blkT (h : ∃ tt, DTs (C.blk s0 H0 scope cenv fp) ifs tt t) : DTs (C.blk s0 H0 scope cenv fp) ifs (ttS C t) t := by
  obtain ⟨tt, h⟩ := h
  refine ⟨⟨fun pins s σ H Q I hh => ?_⟩, fun w σ ρ Q QD hA I q k => ⟨w, ρ, QD, rfl, hA, I, q, k⟩⟩
  obtain ⟨w, ρ, QD, rfl, hA, J, q, k⟩ := hh
  exact h.pts.run pins s σ w.H Q I (h.run w σ ρ Q QD hA J q k)
theorem blkG (h : ∃ g, DG (C.blk s0 H0 scope cenv fp) tg g T d) : DG (C.blk s0 H0 scope cenv fp) tg (tgS C T d) T d := by
  obtain ⟨g, h⟩ := h
  refine ⟨⟨fun pins s σ H v u Q I r hh => ?_⟩, fun w σ ρ v x Q QD hA I hr q k => ⟨w, ρ, x, QD, rfl, hA, I, hr, q, k⟩⟩
  obtain ⟨w, ρ, x, QD, rfl, hA, J, hr, q, k⟩ := hh
  exact h.pg.run pins s σ w.H v u Q I r (h.run w σ ρ v x Q QD hA J hr q k)
theorem dn_lc (own : List (Str × Nat)) (hi : DI C tg iter wi ti) (ok : blkC X.N X.env.scope scope own = true)
    (hg : ∀ (s : Shared) (H : Hp) (Ca : Addr) (cl : List (Str × Addr)) (fp : List Addr), ∃ g, DG (C.blk s H scope (compEnvC scope cl Ca X.env) fp) tg g T d)
    (ht : ∀ (s : Shared) (H : Hp) (Ca : Addr) (cl : List (Str × Addr)) (fp : List Addr), ∃ tt, DTs (C.blk s H scope (compEnvC scope cl Ca X.env) fp) ifs tt t)
    (he : ∀ (s : Shared) (H : Hp) (Ca : Addr) (cl : List (Str × Addr)) (fp : List Addr), ∃ te, DE (C.blk s H scope (compEnvC scope cl Ca X.env) fp) elt te de) (hT : ∀ i ∈ T, i ∈ own.map (·.2) := by decide) (hs : ∀ x, foldedSetIterable iter X.env x = pure x := by intro _; rfl) :
    DN C (.ListComp elt [⟨tg, iter, ifs, 0⟩] scope pos) (tLc wi (tgS C T d) (ttS C t) (teS C de) (own.map (·.2))) (nLc (own.map (·.2)) ti d t de) :=
  ⟨pe_lc C.calm C.nd hi.pi (blkOk_by ok) (fun s H Ca cl fp => (blkG (hg s H Ca cl fp)).pg) (fun s H Ca cl fp => (blkT (ht s H Ca cl fp)).pts) (fun s H Ca cl fp => (blkE (he s H Ca cl fp)).pe) hs, lc_run hi (fun s H Ca cl fp => blkG (hg s H Ca cl fp)) (fun s H Ca cl fp => blkT (ht s H Ca cl fp)) (fun s H Ca cl fp => blkE (he s H Ca cl fp)) hT⟩
/-- name = [..], all on one line -/
theorem ds_setLc (i : Nat) (own : List (Str × Nat)) {y : Str} {py spos : Pos} (hi : DI C tg iter wi ti) (ok : blkC X.N X.env.scope scope own = true)
    (hg : ∀ (s : Shared) (H : Hp) (Ca : Addr) (cl : List (Str × Addr)) (fp : List Addr), ∃ g, DG (C.blk s H scope (compEnvC scope cl Ca X.env) fp) tg g T d)
    (ht : ∀ (s : Shared) (H : Hp) (Ca : Addr) (cl : List (Str × Addr)) (fp : List Addr), ∃ tt, DTs (C.blk s H scope (compEnvC scope cl Ca X.env) fp) ifs tt t)
    (he : ∀ (s : Shared) (H : Hp) (Ca : Addr) (cl : List (Str × Addr)) (fp : List Addr), ∃ te, DE (C.blk s H scope (compEnvC scope cl Ca X.env) fp) elt te de) (hT : ∀ i ∈ T, i ∈ own.map (·.2) := by decide)
    (hy : X.N[i]? = some y := by rfl) (hyl : X.env.scope.names.lookup y = some .local := by rfl) (hsw : swapsWith (.ListComp elt [⟨tg, iter, ifs, 0⟩] scope pos) (some (.Name y py)) spos.line X.env = pure true := by rfl) (hs : ∀ x, foldedSetIterable iter X.env x = pure x := by intro _; rfl) :
    DS C (.Assign [.Name y py] (.ListComp elt [⟨tg, iter, ifs, 0⟩] scope pos) spos) (tAsg (tLc wi (tgS C T d) (ttS C t) (teS C de) (own.map (·.2))) (gName i)) (sOwn i (nLc (own.map (·.2)) ti d t de)) := by
  refine ⟨ps_setLc C.calm C.nd hy hyl hsw hi.pi (blkOk_by ok) (fun s H Ca cl fp => (blkG (hg s H Ca cl fp)).pg) (fun s H Ca cl fp => (blkT (ht s H Ca cl fp)).pts) (fun s H Ca cl fp => (blkE (he s H Ca cl fp)).pe) hs, fun w σ ρ D DD hA I q k => ?_⟩
  refine lc_run hi (fun s H Ca cl fp => blkG (hg s H Ca cl fp)) (fun s H Ca cl fp => blkT (ht s H Ca cl fp)) (fun s H Ca cl fp => blkE (he s H Ca cl fp)) hT w σ ρ _ _ hA I q fun a vs ds w1 ρ1 s1 I1 n0 hg hf' hh hr q1 => ?_
  have z := I1.setOwn (i := i) hf' hg hh hr (C.nw w a hA n0) q1.1
  refine k.nx ⟨w1.G, w1.H, fun j => if j = i then [a] else w1.F j⟩ _ _ ⟨s1.g, s1.gf, s1.h, s1.t, fun j b hb => ?_⟩ z q1.2
  have hb : b ∈ (if j = i then [a] else w1.F j) := hb
  by_cases e : j = i
  · rw [if_pos e] at hb
    have : b = a := by simpa using hb
    rw [this]; exact .inr n0
  · rw [if_neg e] at hb
    exact s1.f j b hb
end
end
end DL

end
section
set_option maxHeartbeats 4000000
/-! DLI: calls by the callee's record, the script's slices, a module's constants, a def behind a head. -/
namespace DL
open PySem PySem.Spec L2
open PyProof.Rows (envOfC)
/-- a def that may be called by the name x -/
structure CalD (P : Program) (w : World) (K : PySem.W.Frag) (mg : Str → Option Value) (base : Heap) (k : Nat) (x : Str) (ps : List Str) (p : DSp) : Prop where
  ex : ∃ f fd, FnD P w K mg base k f fd ps p ∧ mg x = some (.ref f) ∧ PySem.W.keepIn K (.ref f) = true ∧ Binds K fd ps []
theorem CalD.mono {P : Program} {w : World} {K : PySem.W.Frag} {mg : Str → Option Value} {base : Heap} {j k : Nat} {x : Str} {ps : List Str} {p : DSp} (F : CalD P w K mg base j x ps p) (h : j ≤ k) : CalD P w K mg base k x ps p := by
  obtain ⟨f, fd, a, b⟩ := F.ex
  exact ⟨f, fd, a.mono h, b⟩
section
variable {X : Cx} {k : Nat} {ps : List Str} {p : DSp} {x : Str} {px pos : Pos} {e : Expr} {es : List Expr} {ta : TA} {C : DC X} {dr : TND}
theorem de_callC (F : CalD X.prog X.w X.K X.mg X.base k x ps p) (hr : Room k X.A) (ha : DA C (e :: es) ta dr) (hg : Gl X x := by rfl) (hdb : (x == ("__debug__" : Str)) = false := by decide)
    (he : starEach (e :: es) X.env = (false, eval e X.env) :: starEach es X.env := by rfl) (hpl : (backTo pos (starEach es X.env)).any (·.1) = false := by rfl) :
    DE C (.Call (.Name x px) (e :: es) [] pos) (tCallS (spOf X.K p) (WE C.WH) ta) (dCall p C.W dr) := by
  obtain ⟨f, fd, F, hm, hk, hb⟩ := F.ex
  exact de_call F hr hg hm hk hb ha hdb he hpl
theorem dn_callC (F : CalD X.prog X.w X.K X.mg X.base k x ps p) (hr : Room k X.A) (ha : DA C (e :: es) ta dr) (hg : Gl X x := by rfl) (hdb : (x == ("__debug__" : Str)) = false := by decide)
    (he : starEach (e :: es) X.env = (false, eval e X.env) :: starEach es X.env := by rfl) (hpl : (backTo pos (starEach es X.env)).any (·.1) = false := by rfl) :
    DN C (.Call (.Name x px) (e :: es) [] pos) (tCallS (spOf X.K p) (WE C.WH) ta) (nCall p C.W dr) := by
  obtain ⟨f, fd, F, hm, hk, hb⟩ := F.ex
  exact dn_call F hr hg hm hk hb ha hdb he hpl
variable {y : Str} {py : Pos}
theorem de_callLC (i : Nat) (F : CalD X.prog X.w X.K X.mg X.base k x ps p) (hr : Room k X.A) (ha : DA C es ta dr) (hg : Gl X x := by rfl)
    (hN : X.N[i]? = some y := by rfl) (hv : Vis X.env.scope y := by first | exact Or.inl rfl | exact Or.inr (Or.inl rfl) | exact Or.inr (Or.inr rfl)) (hd : (y == ("__debug__" : Str)) = false := by decide) (hcd : (y == ("__classdict__" : Str)) = false := by decide)
    (hdb : (x == ("__debug__" : Str)) = false := by decide) (he : starEach (.Name y py :: es) X.env = (false, eval (.Name y py) X.env) :: starEach es X.env := by rfl) (hpl : (backTo pos (starEach es X.env)).any (·.1) = false := by rfl) :
    DE C (.Call (.Name x px) (.Name y py :: es) [] pos) (tCallS (spOf X.K p) (WE C.WH) (tCons (tVar i) ta)) (withLent i (dCallL p C.W i dr)) := by
  obtain ⟨f, fd, F, hm, hk, hb⟩ := F.ex
  exact de_callL i F hr hg hm hk hb ha hN hv hd hcd hdb he hpl
theorem dn_callLC (i : Nat) (F : CalD X.prog X.w X.K X.mg X.base k x ps p) (hr : Room k X.A) (ha : DA C es ta dr) (hg : Gl X x := by rfl)
    (hN : X.N[i]? = some y := by rfl) (hv : Vis X.env.scope y := by first | exact Or.inl rfl | exact Or.inr (Or.inl rfl) | exact Or.inr (Or.inr rfl)) (hd : (y == ("__debug__" : Str)) = false := by decide) (hcd : (y == ("__classdict__" : Str)) = false := by decide)
    (hdb : (x == ("__debug__" : Str)) = false := by decide) (he : starEach (.Name y py :: es) X.env = (false, eval (.Name y py) X.env) :: starEach es X.env := by rfl) (hpl : (backTo pos (starEach es X.env)).any (·.1) = false := by rfl) :
    DN C (.Call (.Name x px) (.Name y py :: es) [] pos) (tCallS (spOf X.K p) (WE C.WH) (tCons (tVar i) ta)) (withLentN i (nCallL p C.W i dr)) := by
  obtain ⟨f, fd, F, hm, hk, hb⟩ := F.ex
  exact dn_callL i F hr hg hm hk hb ha hN hv hd hcd hdb he hpl

/-! ### the script's slices -/
def scrK (ρ : DSt) (i : Nat) (k : List Int → Prop) : Prop := ∃ ns, ρ[i]? = some (.res true (scriptR ns)) ∧ k ns
def nScr (i : Nat) (tl th : TOD) : TND := fun ρ Q => scrK ρ i (fun _ => True) ∧ tl ρ fun lo ρ2 => th ρ2 fun hi ρ3 => scrK ρ3 i fun ns => Q (cutD (ns.map PyData.int) lo hi) ρ3
variable {lo hi : Option Expr} {tl th : TO} {dl dh : TOD} {p2 : Pos}
theorem scr_at {K : PySem.W.Frag} {P : Par} {w : Wd} {σ : L2.St} {ρ : DSt} {i : Nat} {k : List Int → Prop} (I : FI K P w σ ρ) (h : scrK ρ i k) : ∃ a ns, σ[i]? = some (some (.ref a)) ∧ SqL K w.G a (ns.map V.int) ∧ k ns := by
  obtain ⟨ns, e, q⟩ := h
  obtain ⟨a, h1, h2, _⟩ := I.ok i _ e
  exact ⟨a, ns, h1, h2.2, q⟩
theorem reps_int {K : PySem.W.Frag} {G : Hp} : ∀ ns : List Int, Reps K G (ns.map V.int) (ns.map PyData.int)
  | [] => .nil
  | n :: ns => .cons (.int n) (reps_int ns)
theorem dn_scr (i : Nat) (hl : DO C lo tl dl) (hh : DO C hi th dh) (hN : X.N[i]? = some y := by rfl) (hv : Vis X.env.scope y := by first | exact Or.inl rfl | exact Or.inr (Or.inl rfl) | exact Or.inr (Or.inr rfl)) (hd : (y == ("__debug__" : Str)) = false := by decide) (hcd : (y == ("__classdict__" : Str)) = false := by decide) :
    DN C (.Subscript (.Name y py) (.Slice lo hi none p2) pos) (tSl (rSlL X.K) (tVar i) tl th) (nScr i dl dh) := by
  refine ⟨pe_slice sl_list (pe_var hN hv hd hcd) hl.po hh.po, fun w σ ρ Q QD hA I q k => ?_⟩
  obtain ⟨q0, q⟩ := q
  obtain ⟨a, ns0, h1, _, _⟩ := scr_at I q0
  refine ⟨.ref a, h1, ?_⟩
  refine hl.run w σ ρ _ _ hA I q fun l w2 ρ2 s2 I2 q2 => ?_
  refine hh.run w2 σ ρ2 _ _ (C.cl _ _ hA s2) I2 q2 fun h w3 ρ3 s3 I3 q3 => ?_
  have s23 := s2.trans s3
  obtain ⟨a', ns, h2, hs, q4⟩ := scr_at I3 q3
  rw [h1] at h2
  cases h2
  refine ⟨a, ns.map V.int, rfl, sql_mono I3.gh hs, fun p hp => ?_⟩
  obtain ⟨I4, s4⟩ := FI.air I3 (o := .lst (cutV (ns.map V.int) l h)) hp
  exact k p (cutV (ns.map V.int) l h) (cutD (ns.map PyData.int) l h) ⟨w3.G, upd w3.H p _, w3.F⟩ ρ3 (s23.trans s4) I4 (air_new s23 hp) (I3.fresh hp).1 (fun i z => (I3.fresh hp).2 i p z rfl) upd_same (cut_reps (reps_int ns) l h) q4

/-! ### a module's constants -/
theorem de_gtup {x : Str} {u : Addr} {vs : List V} {ds : List PyData} (hm : X.mg x = some (.ref u)) (ht : ∀ H : Hp, SqT X.K H u vs) (hr : ∀ G, Reps X.K G vs ds) (hg : Gl X x := by rfl) (hd : (x == ("__debug__" : Str)) = false := by decide) : DE C (.Name x pos) (tC (.ref u)) (dC (.tuple ds)) :=
  de_glob hg hm rfl (fun G => .tup (ht G) (hr G)) hd
theorem de_gint {x : Str} {i : Int} (hm : ∃ t, X.mg x = some (.int i t)) (hg : Gl X x := by rfl) (hd : (x == ("__debug__" : Str)) = false := by decide) : DE C (.Name x pos) (tC (.int i)) (dC (.int i)) := by
  obtain ⟨t, hm⟩ := hm
  exact de_glob hg hm ⟨t, rfl⟩ (fun _ => .int i) hd
theorem de_gstr {x z : Str} (hm : ∃ t, X.mg x = some (.str z t)) (hg : Gl X x := by rfl) (hd : (x == ("__debug__" : Str)) = false := by decide) : DE C (.Name x pos) (tC (.str z)) (dC (.str z)) := by
  obtain ⟨t, hm⟩ := hm
  exact de_glob hg hm ⟨t, rfl⟩ (fun _ => .str z) hd
end
/-! ### own exceptions of a text -/
/-- an own exception class of the ValueError kind, by the name x -/
structure ExcD (K : PySem.W.Frag) (mg : Str → Option Value) (x : Str) (cls : Addr) : Prop where
  q : PySem.W.excIn K cls He.veBase "ValueError.__new__" = true
  g : mg x = some (.ref cls)
  k : PySem.W.keepIn K (.ref cls) = true
  s : PySem.W.subIn K (.ref cls) (.type "BaseException") = some true
  t : PySem.W.typeIn K (.ref cls) = some (.type "type")
section
variable {X : Cx} {C : DC X} {pos p p2 pos2 : Pos} {x m : Str} {cls : Addr} {j : Nat}
theorem ds_raiseC (h : ExcD X.K X.mg x cls) (hg : Gl X x := by rfl) (hdb : (x == ("__debug__" : Str)) = false := by decide) : DS C (.Raise (some (.Call (.Name x p) [.Constant (.str m) j p2] [] pos2)) none pos) (fun _ σ H => C.WH (.ref cls) none σ H) (sRaise C.W cls) :=
  ds_raise (pmk_own PySem.F.excBase_ValueError h.q h.g h.k (raises_own h.s h.t) hg hdb)
end
theorem body_of {X : Cx} {C : DC X} {body : List Stmt} {ts : TS} {t : TSD} {D : DEnds} {ρ : DSt} (h : DSs C body ts t) (h2 : t D ρ) : ∃ ts t, DSs C body ts t ∧ t D ρ := ⟨ts, t, h, h2⟩
/-! ### the names that gen.py prints -/
abbrev W0 : WD := fun _ _ => False
abbrev dLt : PyData → PyData → (PyData → Prop) → Prop := dB0 fun i j => decide (i < j)
abbrev dLe : PyData → PyData → (PyData → Prop) → Prop := dB0 fun i j => decide (i ≤ j)
abbrev dGt : PyData → PyData → (PyData → Prop) → Prop := dB0 fun i j => decide (j < i)
abbrev dGe : PyData → PyData → (PyData → Prop) → Prop := dB0 fun i j => decide (j ≤ i)
abbrev dMul : PyData → PyData → (PyData → Prop) → Prop := dI CMulW fun i j => i * j
abbrev dFdiv : PyData → PyData → (PyData → Prop) → Prop := dI CDivF fun i j => i.fdiv j
abbrev dMod : PyData → PyData → (PyData → Prop) → Prop := dI (fun _ j => j ≠ 0) fun i j => i.fmod j
abbrev dPow : PyData → PyData → (PyData → Prop) → Prop := dI CPow fun i j => i ^ j.toNat
abbrev dISub : PyData → PyData → (PyData → Prop) → Prop := dI0 fun i j => i - j
/-! ### a def behind a head by facts -/
theorem FunD.okD {P : Program} {w : World} {K : PySem.W.Frag} {mg : Str → Option Value} {base : Heap} {k : Nat} {f : Addr} {fd : FuncData} {name qual : Str} {params : Arguments} {body : List Stmt} {scope : Scope} {dvs : List V} {kws : List (Str × V)} {N ps : List Str} {p : DSp}
    (F : L2.FunD K name qual params body scope dvs kws f fd) (S : FnScope N ps scope) (len : ∀ α QD ED, p α QD ED → α.length = ps.length)
    (hbody : ∀ (cdv : Value) (A : Around) (outer : List Env) (s : Shared) (H : Hp) (E : XK) (C : DC (cxOf (L2.CX P w) P w K mg base N qual scope f cdv A outer s H E)) (α : List SD) (QD : Ret → List SD → Prop) (ED : Exd → List SD → Prop),
      Room k (A.deeper (envOfC qual scope s.heap.objs.size f cdv)) → C.W = (fun e ρ => outK α ρ fun α' => ED e α') → p α QD ED →
      ∃ ts t, DSs C body ts t ∧ t { nx := fun ρ => outK α ρ fun α' => QD (.d .none) α', rt := fun r ρ => outK α ρ fun α' => QD r α' } (startD N.length α)) :
    FnD P w K mg base (k + 1) f fd ps p := by
  obtain ⟨oc, od, dV, kV, doc, pm, an, cdv, ct, osl, rfl, lk, hcd, _, _⟩ := F.ex
  exact fnd_of lk hcd S len fun A outer s H E C α QD ED hr hW hp => hbody cdv A outer s H E C α QD ED hr hW hp
end DL

end
section
set_option maxHeartbeats 4000000
/-! DLJ: an exception caught and kept, isinstance of it, list.count, list.index. -/
namespace DL
open PySem PySem.Spec L2
/-- an exception object of class cls, own dict d, at a: as it stands behind its suite -/
def ExK (cls : Value) (d : Option Addr) (a : Addr) : HO := .ext fun h => ∃ (oe : Obj) (vs : Array Value), h.get? a = some oe ∧ Zc cls d oe ∧ oe.data = .fields vs
theorem exK_ok {P : Program} {w : World} {H : Hp} {h : Heap} {a : Addr} {cls : Value} {d : Option Addr} {oe : Obj} {vs : Array Value} (e : h.get? a = some oe) (z : Zc cls d oe) (dd : oe.data = .fields vs) : ObjOk P w H h a (ExK cls d a) :=
  ⟨⟨oe, vs, e, z, dd⟩, ⟨oe, e⟩, fun _ _ ⟨o, v, q, r⟩ k => ⟨o, v, k o q, r⟩⟩
section
variable {X : Cx} {pins : List (Addr × Obj)} {σ : L2.St} {H : Hp} {s : Shared}
/-- an object that is there, untracked till now, is tracked -/
theorem trk {a : Addr} {o : HO} (I : Inv X pins σ H s) (hn : H a = none) (h0 : X.s_0.heap.get? a = none) (hL : a ≠ X.env.locals) (hc : ∀ x c, X.env.cells.lookup x = some c → c ≠ a) (hp : ∀ p ∈ X.pn ++ pins, p.1 ≠ a) (new : ObjOk X.prog X.w (upd H a o) s.heap a o) :
    Inv X pins σ (upd H a o) s := by
  refine ⟨I.ok, I.os, I.bare, ⟨I.base.keep, I.base.slot, fun b u q n hx => ?_, I.base.there, fun b xs q => ?_, fun b u xs q => ?_, fun b ps q => ?_⟩, I.loc, I.cell, ?_, fun x c e => ?_, fun p hq => ?_, fun b u e => ?_, I.len⟩
  · rw [upd_ne (fun z => by rw [z, h0] at q; cases q)]; exact I.base.free b u q n hx
  · have z := I.base.tups b xs q
    rw [upd_ne (ne_of_none z hn)]; exact z
  · have z := I.base.frzs b u xs q
    rw [upd_ne (ne_of_none z hn)]; exact z
  · obtain ⟨m, z⟩ := I.base.tbls b ps q
    exact ⟨m, by rw [upd_ne (ne_of_none z hn)]; exact z⟩
  · rw [upd_ne (Ne.symm hL)]; exact I.free
  · rw [upd_ne (hc x c e)]; exact I.freeC x c e
  · obtain ⟨e, n, ne, nf, d⟩ := I.pin p hq
    exact ⟨e, by rw [upd_ne (hp p hq)]; exact n, ne, nf, d⟩
  · by_cases hb : b = a
    · subst hb
      rw [upd_same] at e
      cases e
      exact new
    · rw [upd_ne hb] at e
      exact (I.hok b u e).stay (fun c v _ q => q) (fun c q => by rw [upd_ne (ne_of_none q hn)]; exact q) fun c xs q => by rw [upd_ne (ne_of_none q hn)]; exact q
end
/-- what 'except x as n' wishes of an exception that its suite keeps -/
def wAsK (K : PySem.W.Frag) (c : Value) (i : Nat) (ts : Addr → Value → Option Addr → TS) (Wout : WX) (D : Ends) : WX := fun cls d σ H =>
  ∃ b, PySem.W.exmOne K cls c = some b ∧ (b = true → ∀ a, H a = none → ts a cls d { nx := fun σ' H' => D.nx (σ'.set i none) (upd H' a (ExK cls d a)), rt := fun _ _ => False, bk := fun _ _ => False, ct := fun _ _ => False } (σ.set i (some (.ref a))) H) ∧
    (b = false → Wout cls d σ H)
section
variable {X : Cx} {x n : Str} {c : Value} {i : Nat} {body suite : List Stmt} {b₀ : Stmt} {np pos pos' : Pos} {tb : WX → TS} {ts : Addr → Value → Option Addr → TS} {Wout : WX}
theorem ps_try_keep (hs : X.stack = X.env :: X.outer) (hf : X.env.frame = some X.env.locals) (hN : X.N.Nodup) (hi : X.N[i]? = some n) (hln : X.env.kindOf n = some .local) (hc : Names X x c) (tk : Takes X Wout) (hex : X.ex = [])
    (hb : ∀ (W : WX) (pn : List (Addr × Obj)) (xe : Value → Shared → Prop), Takes (X.tr pn xe) W → PassesOwn (model X.prog X.w) X.A X.env xe → PSs (X.tr pn xe) body (tb W))
    (hsu : ∀ (a : Addr) (oe : Obj) (cls : Value) (d : Option Addr) (pn : List (Addr × Obj)), Zc cls d oe → (∃ vs, oe.data = .fields vs) → PSs (X.suite a ((a, oe) :: pn)) (b₀ :: suite) (ts a cls d)) :
    PS X (.Try body [.ExceptHandler (some (.Name x np)) (some n) (b₀ :: suite) pos'] [] [] pos) (fun D σ H => tb (wAsK X.K c i ts Wout D) D σ H) := by
  refine ⟨fun pins s σ H D I h => ?_⟩
  have ok := I.ok
  have hfr : X.A.frames = some (X.env :: X.outer) := by rw [ok.frames, hs]
  have hloc : Loc X.env.scope n := .inl hln
  refine wpAny_Try_except ?_
  refine wpAny_mono ((hb (wAsK X.K c i ts Wout D) (X.pn ++ pins) (fun e s₁ => wpAny (model X.prog X.w) X.A (noteFrame e X.env) (fun _ s₂ => wpAny (model X.prog X.w) X.A (setFlight e none) (fun _ s₃ =>
    wpAny (model X.prog X.w) X.A (handleBy e X.env [.ExceptHandler (some (.Name x np)) (some n) (b₀ :: suite) pos']) (SP X pins D) X.xe s₃) X.xe s₂) X.xe s₁) (fun u s' xx => ?_) PassesOwn.looking).run [] s σ H D (I.toTry _) h) (fun f s1 hsp => ?_) (fun e s1 he => he)
  · obtain ⟨a, B, sI, pins', σ', H', cls, d, rfl, J', nb, up, sky, na, os, ag, b, hb1, hyes, hno⟩ := xx
    have J : Inv X pins σ' H' sI := J'.ofTry ok
    have sky' : Sky B (X.env :: X.outer) a (Zc cls d) X.env.locals s'.heap := by rw [← hs]; exact sky
    show wpAny (model X.prog X.w) X.A (noteFrame (.ref a) X.env) _ _ _
    refine Sky.land Zc.steady hfr hf sky' fun h3 fl3 up3 => ?_
    have J3 : Inv X pins σ' H' { s' with heap := h3 } := J.landed nb fl3.1 (up.trans up3) os ag
    obtain ⟨oe3, vs3, he3, hz3, hd3⟩ := fl3.there
    have notFr : ∀ {h : Heap} {o : Obj} {vs : Array Value}, h.FunFrames B (X.env :: X.outer) → h.get? a = some o → o.data = .fields vs → a ∉ frs (X.env :: X.outer) := fun {h o vs} ff e dd hm => by
      obtain ⟨_, o', e', hnf⟩ := ff.mem hm
      rw [e] at e'; cases e'
      exact hnf _ dd
    have nfr := notFr fl3.2.2.1 he3 hd3
    have nL : a ≠ X.env.locals := fun z => nfr (List.mem_filterMap.mpr ⟨X.env, List.mem_cons_self, by rw [hf, z]⟩)
    have nF : a ∉ X.fs := fun hm => by
      obtain ⟨e, he, q⟩ := List.mem_filterMap.mp hm
      exact nfr (List.mem_filterMap.mpr ⟨e, List.mem_cons_of_mem _ he, q⟩)
    -- a was not there when the body ended, nor at the entry
    have nB : B.get? a = none := fl3.2.1
    have nI : sI.heap.get? a = none := by
      cases q : sI.heap.get? a with
      | none => rfl
      | some o =>
        have z := nb a o q (by rw [hs]; exact nfr)
        rw [nB] at z
        cases z
    have n0 : X.s_0.heap.get? a = none := by
      cases q : X.s_0.heap.get? a with
      | none => rfl
      | some o =>
        obtain ⟨o', z⟩ := J.base.there a o q (by rw [hex]; exact fun z => nomatch z)
        rw [nI] at z
        cases z
    have nC : ∀ y c', X.env.cells.lookup y = some c' → c' ≠ a := fun y c' e z => by
      obtain ⟨v, o, q, _⟩ := J.cell y c' e
      rw [z, nI] at q
      cases q
    have nP : ∀ p ∈ X.pn ++ pins, p.1 ≠ a := fun p hp z => by
      obtain ⟨q, _⟩ := J.pin p hp
      rw [z, nI] at q
      cases q
    have S3 := J3.suite he3 hd3 na nL nF
    refine wpAny_handleBy_cons (codeAny_handlers_test ?_) (by intro q; cases q)
    have LT : PySem.W.Looks (model X.prog X.w) h3 (typeOf (.ref a)) cls := fun A Q E s k q => wpAny_typeOf_ref (k _ _ he3) (by rw [hz3.1]; exact q)
    have LM := PySem.W.exm_one (M := model X.prog X.w) (J3.kIn) LT hb1
    have test : ∀ {Q : Value → Shared → Prop} {E : Value → Shared → Prop}, Q c { s' with heap := h3 } → wpAny (model X.prog X.w) (X.A.mark (some (.ref a))) (eval (.Name x np) X.env) Q E { s' with heap := h3 } := fun {Q E} q => by
      obtain ⟨hg, hdbg, hm | ⟨hm, hv, hnn⟩⟩ := hc
      · exact ld_glob (X := X.suite a ((a, oe3) :: (X.pn ++ pins))) S3 hg hm q hdbg
      · exact ld_blt (X := X.suite a ((a, oe3) :: (X.pn ++ pins))) S3 hg hm hv q hnn hdbg
    refine test (LM.here ?_)
    cases b with
    | true =>
      refine codeAny_handlers_suite_as ?_
      refine HandSPX.lands_againZ fl3 fun h4 fl4 up4 => ?_
      have J4 : Inv X pins σ' H' { s' with heap := h4 } := J.landed nb fl4.1 ((up.trans up3).trans up4) os ag
      obtain ⟨oe4, vs4, he4, hz4, hd4⟩ := fl4.there
      have S4 := J4.suite he4 hd4 na nL nF
      refine store_ok (X := X.suite a ((a, oe4) :: (X.pn ++ pins))) (v := .ref a) S4 hN hi hloc rfl (fun s5 S5 => ?_) (.inr hln)
      refine wpAny_mono ((hsu a oe4 cls d (X.pn ++ pins) hz4 ⟨_, hd4⟩).run [] s5 _ H' _ S5 (hyes rfl a na)) (fun f s6 hsp => ?_) (fun _ _ z => False.elim z)
      cases f with
      | next =>
        obtain ⟨σ6, H6, S6, q6⟩ := hsp
        obtain ⟨hget, hnone, _⟩ := S6.pin (a, oe4) (List.mem_append_left _ List.mem_cons_self)
        have J6 := trk (o := ExK cls d a) (S6.unsuite ok) hnone n0 nL nC nP (exK_ok hget hz4 hd4)
        exact gone_ok J6 hN hi hln fun s7 J7 => ⟨_, _, J7, q6⟩
      | brk =>
        obtain ⟨σ6, H6, S6, q6⟩ := hsp
        exact q6.elim
      | cont =>
        obtain ⟨σ6, H6, S6, q6⟩ := hsp
        exact q6.elim
      | ret u =>
        obtain ⟨v6, σ6, H6, S6, r6, q6⟩ := hsp
        exact q6.elim
    | false =>
      show wpAny _ X.A (handleBy (.ref a) X.env []) _ _ _
      refine wpAny_handleBy_nil ?_
      obtain ⟨k1, k2, k3, oe, vs, T, oT, ts', he, hz, hd, h1, hr⟩ := id fl3
      unfold PySem.passOn
      refine wpAny_bind (wpAny_field he hd h1 ?_)
      rw [if_neg (show ¬ ((Value.ref T == Value.none) = true) from by simp)]
      have fin : wpAny (model X.prog X.w) X.A (setFlight (.ref a) X.env.frame) (fun _ s4 => wpAny (model X.prog X.w) X.A (throw (.ref a) : Sem Flow) (SP X pins D) X.xe s4) X.xe { s' with heap := h3 } := by
        rw [hf]
        refine HandSPX.setFlight_upZ fl3 fun h4 hh4 up4 => wpAny_throw (tk _ _ ?_)
        exact ⟨a, B, sI, pins, σ', H', cls, d, rfl, J, nb, (up.trans up3).trans up4, .inr (.inr (by rw [hs]; exact hh4)), na, os, ag, hno rfl⟩
      first
        | exact wpAny_bind (wpAny_pure (wpAny_bind fin))
        | exact wpAny_bind fin
  · cases f with
    | next =>
      obtain ⟨σ', H', J', q⟩ := hsp
      exact wpAny_execs_nil ⟨σ', H', J'.ofTry ok, q⟩
    | brk =>
      obtain ⟨σ', H', J', q⟩ := hsp
      exact ⟨σ', H', J'.ofTry ok, q⟩
    | cont =>
      obtain ⟨σ', H', J', q⟩ := hsp
      exact ⟨σ', H', J'.ofTry ok, q⟩
    | ret u =>
      obtain ⟨v, σ', H', J', r, q⟩ := hsp
      exact ⟨v, σ', H', J'.ofTry ok, r, q⟩
end

/-! ### kept, over data -/
/-- a kept exception without fields -/
def excR (e : Exd) : Res where
  P := fun _ _ H a fp => fp = [a] ∧ e.fs = [] ∧ H a = some (ExK (.ref e.C) none a)
  keep := fun {K G H G' H' a fp} _ k h => by
    obtain ⟨h1, h2, h3⟩ := h
    exact ⟨h1, h2, k a (by rw [h1]; exact List.mem_cons_self) _ h3⟩
theorem FI.setRes {K : PySem.W.Frag} {P : Par} {w : Wd} {σ : L2.St} {ρ : DSt} (I : FI K P w σ ρ) {i : Nat} {a : Addr} {r : Res} {fp : List Addr} (hf : ∀ b ∈ fp, ∀ j, b ∉ w.F j) (hb : ∀ b ∈ fp, w.G b = none ∧ w.H b ≠ none) (hP : r.P K w.G w.H a fp) (hn : ∀ b ∈ fp, P.N b) (hi : i < ρ.length) :
    FI K P ⟨w.G, w.H, fun j => if j = i then fp else w.F j⟩ (σ.set i (some (.ref a))) (ρ.set i (.res false r)) := by
  have sub : ∀ j b, b ∈ (if j = i then fp else w.F j) → (j = i ∧ b ∈ fp) ∨ (j ≠ i ∧ b ∈ w.F j) := fun j b hb => by
    by_cases e : j = i
    · rw [if_pos e] at hb; exact .inl ⟨e, hb⟩
    · rw [if_neg e] at hb; exact .inr ⟨e, hb⟩
  refine ⟨I.gh, by rw [List.length_set, List.length_set]; exact I.len, fun j s e => ?_, fun j hj => ?_, fun j b hb' => ?_, fun j l b hjl hb1 hb2 => ?_⟩
  · by_cases hj : i = j
    · subst hj
      rw [List.getElem?_set_self hi] at e
      cases e
      rw [List.getElem?_set_self (by rw [I.len]; exact hi)]
      refine ⟨a, rfl, ?_, (fun z => nomatch z), fun _ b h => ?_⟩
      · show r.P K w.G w.H a (if i = i then fp else w.F i)
        rw [if_pos rfl]; exact hP
      · have h : b ∈ (if i = i then fp else w.F i) := h
        rw [if_pos rfl] at h
        exact hn b h
    · rw [List.getElem?_set_ne hj] at e
      rw [List.getElem?_set_ne hj]
      show slotOk K P.σ0[j]? P.N _ (if j = i then fp else w.F j) σ[j]? s
      rw [if_neg (Ne.symm hj)]
      exact (I.ok j s e).go (fun _ _ h => h) fun _ _ _ h => h
  · have hj : ρ.length ≤ j := by rw [← List.length_set (as := ρ)]; exact hj
    show (if j = i then fp else w.F j) = []
    rw [if_neg (by omega)]
    exact I.out j hj
  · rcases sub j b hb' with ⟨_, q⟩ | ⟨_, q⟩
    · exact hb b q
    · exact I.foot j b q
  · rcases sub j b hb1 with ⟨e1, q⟩ | ⟨_, q⟩
    · rcases sub l b hb2 with ⟨e2, _⟩ | ⟨_, q'⟩
      · exact hjl (e1.trans e2.symm)
      · exact hf b q l q'
    · rcases sub l b hb2 with ⟨_, q'⟩ | ⟨_, q'⟩
      · exact hf b q' j q
      · exact I.sep j l b hjl q q'
section
variable {X : Cx} {C : DC X} {body : List Stmt} {t : WD → TSD}
/-- there are data that make it well -/
def tbS (C : DC X) (t : WD → TSD) : WX → TS := fun W D σ H => ∃ (w : Wd) (ρ : DSt) (DD : DEnds) (Wd' : WD), w.H = H ∧ C.A w ∧ FI X.K C.P w σ ρ ∧ t Wd' DD ρ ∧ EndsOk C w D DD ∧
  (∀ e ρ' σ' w' cls d, C.A w' → Stp w w' → FI X.K C.P w' σ' ρ' → RepE X.K w' cls d e → Wd' e ρ' → W cls d σ' w'.H)
/-- try: .. except C as e: caught = e; cat: the classes that it catches -/
def sTry (cat : Addr → Prop) (iC iE : Nat) (t : WD → TSD) : TSD := fun D ρ => t (fun e ρ' => cat e.C ∧ e.fs = [] ∧ iC < ρ'.length ∧ iE < ρ'.length ∧ D.nx ((ρ'.set iE .no).set iC (.res false (excR e)))) D ρ
variable {x n y : Str} {kc : Addr} {np pos pos' py pn' pa : Pos} {cat : Addr → Prop}
theorem ds_try (iC iE : Nat) (hbody : ∀ (pn : List (Addr × Obj)) (xe : Value → Shared → Prop) (C' : DC (X.tr pn xe)), PassesOwn (model X.prog X.w) X.A X.env xe → ∃ ts, DSs C' body ts (t C'.W))
    (hcat : ∀ a, cat a → PySem.W.exmOne X.K (.ref a) (.ref kc) = some true) (hm : X.mg x = some (.ref kc)) (hce : iC ≠ iE := by decide)
    (hs : X.stack = X.env :: X.outer := by rfl) (hf : X.env.frame = some X.env.locals := by rfl) (hex : X.ex = [] := by rfl) (hg : Gl X x := by rfl) (hdb : (x == ("__debug__" : Str)) = false := by decide)
    (hiE : X.N[iE]? = some n := by rfl) (hln : X.env.kindOf n = some .local := by rfl) (hiC : X.N[iC]? = some y := by rfl) (hlc : X.env.scope.names.lookup y = some .local := by rfl) (hvE : X.env.scope.names.lookup n = some .local := by rfl)
    (hd : (n == ("__debug__" : Str)) = false := by decide) (hcd : (n == ("__classdict__" : Str)) = false := by decide)
    (hsw : swapsWith (.Name n pn') (some (.Name y py)) pa.line X.env = pure false := by rfl) :
    DS C (.Try body [.ExceptHandler (some (.Name x np)) (some n) [.Assign [.Name y py] (.Name n pn') pa] pos'] [] [] pos)
      (fun D σ H => tbS C t (wAsK X.K (.ref kc) iE (fun _ _ _ => tAsg (tVar iE) (gName iC)) C.WH D) D σ H) (sTry cat iC iE t) := by
  refine ⟨ps_try_keep hs hf C.nd hiE hln ⟨hg, hdb, .inl hm⟩ C.tk hex (fun W pn xe tk hp => ⟨fun pins s σ H D I h => ?_⟩) (fun a oe cls d pn _ _ => ?_), fun w σ ρ D DD hA I q k => ?_⟩
  · obtain ⟨w, ρ, DD, Wd', rfl, hA, J, ht, ends, hW⟩ := h
    let C' : DC (X.tr pn xe) := { P := C.P, A := fun w' => C.A w' ∧ Stp w w', cl := fun w1 w2 h s => ⟨C.cl w1 w2 h.1 s, h.2.trans s⟩, nw := fun w' p h e => C.nw w' p h.1 e, gd := C.gd, calm := C.calm, nd := C.nd, un := C.un, W := Wd', WH := W, tk := tk, hW := fun e ρ' σ' w' cls d h I' re z => hW e ρ' σ' w' cls d h.1 h.2 I' re z }
    obtain ⟨ts, hd⟩ := hbody pn xe C' hp
    exact hd.pss.run pins s σ w.H D I (hd.run w σ ρ D DD ⟨hA, Stp.refl w⟩ J ht ⟨ends.nx, ends.rt, ends.bk, ends.ct⟩)
  · exact pss_one (ps_set (X := X.suite a ((a, oe) :: pn)) (i := iC) C.nd hiC (.inl hlc) (pe_var (X := X.suite a ((a, oe) :: pn)) hiE (.inl hvE) hd hcd) hsw (.inr hlc))
  · refine ⟨w, ρ, DD, _, rfl, hA, I, q, k, fun e ρ' σ' w' cls d hA' s' I' re h => ?_⟩
    obtain ⟨hc, hfs, l1, l2, hnx⟩ := h
    obtain ⟨rfl, hre⟩ := re
    have hd0 : d = none := by
      rcases hre with ⟨_, z⟩ | ⟨dd, fvs, z, _⟩
      · exact z
      · exact absurd hfs z
    subst hd0
    refine ⟨true, hcat _ hc, fun _ a na => ?_, fun z => nomatch z⟩
    have l1' : iC < σ'.length := by rw [I'.len]; exact l1
    have l2' : iE < σ'.length := by rw [I'.len]; exact l2
    refine ⟨.ref a, List.getElem?_set_self l2', ?_⟩
    obtain ⟨I1, s1⟩ := FI.air I' (o := ExK (.ref e.C) none a) na
    obtain ⟨I2, s2⟩ := I1.drop iE
    have fresh := I'.fresh na
    have I3 := FI.setRes I2 (i := iC) (a := a) (r := excR e) (fp := [a]) (fun b hb j hj => by
        obtain rfl : b = a := by simpa using hb
        have hj : b ∈ (if j = iE then ([] : List Addr) else w'.F j) := hj
        by_cases z : j = iE
        · rw [if_pos z] at hj; cases hj
        · rw [if_neg z] at hj; exact fresh.2 j b hj rfl)
      (fun b hb => by
        obtain rfl : b = a := by simpa using hb
        exact ⟨fresh.1, by show upd w'.H b _ b ≠ none; rw [upd_same]; exact fun z => nomatch z⟩)
      ⟨rfl, hfs, upd_same⟩ (fun b hb => by
        obtain rfl : b = a := by simpa using hb
        exact C.nw w' b hA' na) (by rw [List.length_set]; exact l1)
    have I4 := FI.other (σ' := (((σ'.set iE (some (.ref a))).set iC (some (.ref a))).set iE none)) (vs := [iE]) I3 (fun j hj st e => by
        obtain rfl : j = iE := by simpa using hj
        rw [List.getElem?_set_ne hce, List.getElem?_set_self l2] at e
        cases e; rfl) (by simp) (fun j hj => by
        have hj : j ≠ iE := by simpa using hj
        rw [List.getElem?_set_ne (Ne.symm hj)]
        by_cases z : iC = j
        · subst z
          rw [List.getElem?_set_self (by rw [List.length_set]; exact l1'), List.getElem?_set_self l1']
        · rw [List.getElem?_set_ne z, List.getElem?_set_ne z, List.getElem?_set_ne (Ne.symm hj)])
    have st : Stp w ⟨w'.G, upd w'.H a (ExK (.ref e.C) none a), fun j => if j = iC then [a] else if j = iE then [] else w'.F j⟩ := by
      have s3 := (s'.trans s1).trans s2
      refine ⟨s3.g, s3.gf, s3.h, s3.t, fun j b hb => ?_⟩
      have hb : b ∈ (if j = iC then [a] else if j = iE then [] else w'.F j) := hb
      by_cases z : j = iC
      · rw [if_pos z] at hb
        obtain rfl : b = a := by simpa using hb
        cases q0 : w.H b with
        | none => exact .inr rfl
        | some o => exact absurd na (s'.t b (by rw [q0]; exact fun z => nomatch z))
      · rw [if_neg z] at hb
        exact s3.f j b hb
    exact k.nx _ _ _ st I4 hnx
end

/-! ### is None, of anything held -/
section
variable {X : Cx} {C : DC X} {y : Str} {py pos p2 p3 : Pos} {k0 : Nat}
def dIsNone (i : Nat) : TED := fun ρ Q => match ρ[i]? with
  | some (.val x) => Q (.d (.bool (isNoneD x))) ρ
  | some (.own _ _) => Q (.d (.bool false)) ρ
  | some (.res _ _) => Q (.d (.bool false)) ρ
  | _ => False
theorem isnone_run (i : Nat) : ∀ (w : Wd) (σ : L2.St) (ρ : DSt) (Q : VK) (QD : R → DSt → Prop), C.A w → FI X.K C.P w σ ρ → dIsNone i ρ QD →
    (∀ v r w' ρ', Stp w w' → FI X.K C.P w' σ ρ' → RepR X.K w' σ v r → QD r ρ' → Q v w'.H) → tOp (fun x y H Q => y = .non ∧ Q (.bl (decide (x = .non))) H) (tVar i) (tC .non) σ w.H Q := by
  intro w σ ρ Q QD hA I q k
  unfold dIsNone at q
  split at q
  · rename_i x e
    obtain ⟨_, u, e1, hr⟩ := I.ok i _ e
    refine ⟨u, e1, rfl, ?_⟩
    rw [top_non (rep_top I.gh hr)]
    exact k _ (.d (.bool _)) w ρ (Stp.refl w) I (.bl _) q
  · rename_i io ds e
    obtain ⟨a, vs, e1, _⟩ := I.ok i _ e
    exact ⟨_, e1, rfl, k _ (.d (.bool false)) w ρ (Stp.refl w) I (.bl _) q⟩
  · rename_i io r e
    obtain ⟨a, e1, _⟩ := I.ok i _ e
    exact ⟨_, e1, rfl, k _ (.d (.bool false)) w ρ (Stp.refl w) I (.bl _) q⟩
  · exact q.elim
theorem de_isNone (i : Nat) (hN : X.N[i]? = some y := by rfl) (hv : Vis X.env.scope y := by first | exact Or.inl rfl | exact Or.inr (Or.inl rfl) | exact Or.inr (Or.inr rfl)) (hd : (y == ("__debug__" : Str)) = false := by decide) (hcd : (y == ("__classdict__" : Str)) = false := by decide) :
    DE C (.Compare (.Name y py) [.Is] [.Constant .none k0 p2] pos) (tOp (fun x y H Q => y = .non ∧ Q (.bl (decide (x = .non))) H) (tVar i) (tC .non)) (dIsNone i) :=
  ⟨pe_cmpR op_isN (pe_var hN hv hd hcd) pe_non rfl, isnone_run i⟩
theorem dt_isNone (i : Nat) (hN : X.N[i]? = some y := by rfl) (hv : Vis X.env.scope y := by first | exact Or.inl rfl | exact Or.inr (Or.inl rfl) | exact Or.inr (Or.inr rfl)) (hd : (y == ("__debug__" : Str)) = false := by decide) (hcd : (y == ("__classdict__" : Str)) = false := by decide) :
    DT C (.Compare (.Name y py) [.Is] [.Constant .none k0 p2] pos) (tTest (tOp (fun x y H Q => y = .non ∧ Q (.bl (decide (x = .non))) H) (tVar i) (tC .non))) (dTest (dIsNone i)) :=
  ⟨pt_cmpR op_isN (pe_var hN hv hd hcd) pe_non rfl, test_run (de_isNone (y := y) (py := py) (p2 := p2) (k0 := k0) (pos := pos) i hN hv hd hcd)⟩
end
/-! ### isinstance of a kept exception -/
def rIsX (K : PySem.W.Frag) : List V → Hp → VK → Prop := fun xs H Q => ∃ (a D : Addr) (c : V) (cv : Value) (b : Bool), xs = [.ref a, c] ∧ H a = some (ExK (.ref D) none a) ∧ L2.ExcC K D ∧ (∀ u, RelV c u → u = cv) ∧ PySem.W.kitOne K (.ref D) cv = some b ∧ Q (.bl b) H
theorem call_isX {X : Cx} : CallR X (.builtin "isinstance") (rIsX X.K) := by
  intro pins s σ H xs us Q I r h
  obtain ⟨a, D, c, cv, b, rfl, ha, C, hcv, e, q⟩ := h
  cases r with
  | cons rx rr =>
    cases rr with
    | cons rt rr =>
      cases rr
      cases rx
      have ec := hcv _ rt
      subst ec
      obtain ⟨⟨oe, vs, hget, hz, hv⟩, _⟩ := I.hok a _ ha
      have J : PySem.W.InstAt s.heap a oe D none := by
        obtain ⟨oc, od, oda, osl⟩ := oe
        obtain ⟨h1, h2⟩ := hz
        dsimp only at h1 h2 hv
        subst h1 h2 hv
        exact ⟨hget, rfl, rfl, trivial⟩
      exact PySem.W.kia_one (PySem.W.handS_kitx_exc C.hg C.hk C.hs C.hd C.ha C.hn C.ht C.hm) I.kIn J e (fun z => nomatch z) fun tk => ⟨.bl b, H, I.kept (t' := tk) fun _ _ z => z, rfl, q⟩
section
variable {X : Cx} {C : DC X} {y : Str} {py pos p : Pos} {e2 : Expr} {cV : V} {cv : Value}
def dIsX (i : Nat) (R0 : Addr → Bool → Prop) : TED := fun ρ Q => ∃ io e b, ρ[i]? = some (.res io (excR e)) ∧ R0 e.C b ∧ Q (.d (.bool b)) ρ
theorem de_isX (i : Nat) {R0 : Addr → Bool → Prop} (hR : ∀ D b, R0 D b → L2.ExcC X.K D ∧ PySem.W.kitOne X.K (.ref D) cv = some b) (hm : X.mg "isinstance" = none) (h2 : PE X e2 (tC cV)) (hrel : ∀ u, RelV cV u → u = cv)
    (hg : Gl X "isinstance" := by rfl) (hN : X.N[i]? = some y := by rfl) (hv : Vis X.env.scope y := by first | exact Or.inl rfl | exact Or.inr (Or.inl rfl) | exact Or.inr (Or.inr rfl)) (hd : (y == ("__debug__" : Str)) = false := by decide) (hcd : (y == ("__classdict__" : Str)) = false := by decide)
    (he : starEach [.Name y py, e2] X.env = (false, eval (.Name y py) X.env) :: starEach [e2] X.env := by rfl) (he2 : starEach [e2] X.env = (false, eval e2 X.env) :: starEach [] X.env := by rfl) (hpl : (backTo pos (starEach [e2] X.env)).any (·.1) = false := by rfl) :
    DE C (.Call (.Name "isinstance" p) [.Name y py, e2] [] pos) (tCB (rIsX X.K) (tCons (tVar i) (tCons (tC cV) tNil))) (dIsX i R0) := by
  refine ⟨pe_callB call_isX hg hm (by decide +kernel) (pa_cons (pe_var hN hv hd hcd) (pa_cons h2 pa_nil he2) he) (by decide) (by decide) he hpl, fun w σ ρ Q QD hA I q k => ?_⟩
  obtain ⟨io, e, b, e0, hr, q⟩ := q
  obtain ⟨a, e1, ⟨_, hfs, hH⟩, _⟩ := I.ok i _ e0
  obtain ⟨hC, hk⟩ := hR _ _ hr
  exact ⟨_, e1, a, e.C, cV, cv, b, rfl, hH, hC, hrel, hk, k _ (.d (.bool b)) w ρ (Stp.refl w) I (.bl _) q⟩
end
/-! ### list.count, list.index -/
def rCountD (K : PySem.W.Frag) : V → List V → Hp → VK → Prop := fun x xs H Q => ∃ (a : Addr) (y : V) (d : PyData) (ds : List PyData), x = V.ref a ∧ xs = [y] ∧ Dp K H (V.ref a) (.list ds) ∧ Dp K H y d ∧ PyData.plainAll ds = true ∧ d.plain = true ∧ PyData.depthAll ds ≤ 60 ∧
  Q (.int ((ds.countP fun z => PyData.eqv z d : Nat) : Int)) H
theorem mt_countD {X : Cx} (hu : X.A.units + 65 < cLine) : MtR X "list.count" (rCountD X.K) := by
  intro pins s σ H x xs v us Q I rx rxs h
  obtain ⟨a, y, d, ds, rfl, rfl, hl, hy, pl, pd, dp, q⟩ := h
  cases rx
  cases rxs with
  | cons ry rt =>
    cases rt
    obtain ⟨bs, r1⟩ := Dp.reads I d y _ hy ry
    cases hl with
    | lst hs ha =>
      obtain ⟨its, rv, hl, hlen⟩ := I.list hs
      obtain ⟨as, h4⟩ := Dp.readsAll I ds _ its ha rv
      exact SeqAt.count_list_data hl.isList (show ReadsAll s.heap its.toArray.toList ds as from h4) r1 pl pd (by have := Nat.min_le_left (PyData.depthAll ds) d.depth; omega) ⟨.int _, H, I.tok _, ⟨_, rfl⟩, q⟩
def fCount (x y : PyData) (k : PyData → Prop) : Prop := match x with
  | .list ds => PyData.plainAll ds = true ∧ y.plain = true ∧ PyData.depthAll ds ≤ 60 ∧ PyData.hasDictAll ds = false ∧ y.hasDict = false ∧ k (.int ((ds.countP fun z => PyData.eqv z y : Nat) : Int))
  | _ => False
def fIndex (x y : PyData) (k : PyData → Prop) : Prop := match x with
  | .list ds => SeqAt.shaped (.list ds) = true ∧ SeqAt.shaped y = true ∧ ∃ j z, ds[j]? = some z ∧ PyData.eqv z y = true ∧ (∀ (m : Nat) (z' : PyData), m < j → ds[m]? = some z' → PyData.eqv z' y = false) ∧ k (.int (j : Nat))
  | _ => False
section
variable {X : Cx} {C : DC X} {o e : Expr} {to te : TE} {d1 d2 : TED} {apos cpos : Pos}
def isL : PyData → Prop
  | .list _ => True
  | _ => False
def dM1 (f : PyData → PyData → (PyData → Prop) → Prop) (d1 d2 : TED) : TED := fun ρ Q => d1 ρ fun r1 ρ1 => vw ρ1 r1 fun x => isL x ∧ d2 ρ1 fun r2 ρ2 => vw ρ2 r1 fun x => vw ρ2 r2 fun y => f x y fun z => Q (.d z) ρ2
theorem list_m1 {r : V → List V → Hp → VK → Prop} {f : PyData → PyData → (PyData → Prop) → Prop} (ho : DE C o to d1) (he : DE C e te d2)
    (hr : ∀ (w : Wd) (u v : V) (x y : PyData) (Q : VK) (kd : PyData → Prop), Same w.G w.H → Top X.K w u x → Top X.K w v y → f x y kd → (∀ z d, Rep X.K w.G z d → kd d → Q z w.H) → r u [v] w.H Q) :
    ∀ (w : Wd) (σ : L2.St) (ρ : DSt) (Q : VK) (QD : R → DSt → Prop), C.A w → FI X.K C.P w σ ρ → dM1 f d1 d2 ρ QD →
    (∀ v r w' ρ', Stp w w' → FI X.K C.P w' σ ρ' → RepR X.K w' σ v r → QD r ρ' → Q v w'.H) → tBM X.K "list" r to (tCons te tNil) σ w.H Q := by
  intro w σ ρ Q QD hA I q k
  refine ho.run w σ ρ _ _ hA I q fun u r1 w1 ρ1 s1 I1 R1 q1 => ?_
  obtain ⟨x, tx, hL, q1⟩ := vw_top I1 R1 q1
  cases x with
  | list ds =>
    obtain ⟨a, vs, rfl, hh, hr'⟩ := tx
    refine ⟨.inl ⟨rfl, vs, SqL.of hh⟩, ?_⟩
    refine he.run w1 σ ρ1 _ _ (C.cl _ _ hA s1) I1 q1 fun v r2 w2 ρ2 s2 I2 R2 q2 => ?_
    obtain ⟨x, tx, q3⟩ := vw_top I2 (R1.step s2) q2
    obtain ⟨y, ty, q4⟩ := vw_top I2 R2 q3
    exact hr w2 _ v x y Q _ I2.gh tx ty q4 fun z d R3 q5 => k z (.d d) w2 ρ2 (s1.trans s2) I2 R3 q5
  | _ => exact hL.elim
theorem de_count (ho : DE C o to d1) (he : DE C e te d2) (hbase : attributeBase o "count" X.env (eval o X.env) = eval o X.env := by rfl)
    (hfew : ((backTo cpos (starEach [e] X.env)).all (fun x => !x.1) && (backToKw cpos (keywordEach [] X.env)).all (fun x => x.1.isSome)
      && decide ([e].length + ([] : List Keyword).length + (if ([] : List Keyword).isEmpty then 0 else 1) < 30)) = true := by rfl)
    (hline : (apos.endLine == cpos.line) = true := by rfl) (hse : starEach [e] X.env = (false, eval e X.env) :: starEach [] X.env := by rfl) (hplain : (backTo cpos (starEach [] X.env)).any (·.1) = false := by rfl) :
    DE C (.Call (.Attribute o "count" apos) [e] [] cpos) (tBM X.K "list" (rCountD X.K) to (tCons te tNil)) (dM1 fCount d1 d2) := by
  refine ⟨pe_bm PySem.F.plainAttrs_list PySem.F.slot_list_count PySem.F.type_list_count (mt_countD (by have := C.un; omega)) ho.pe (pa_cons he.pe pa_nil hse) hbase hfew hline hse hplain, list_m1 ho he fun w u v x y Q kd gh tx ty h k => ?_⟩
  unfold fCount at h
  split at h
  · rename_i ds
    obtain ⟨h1, h2, h3, h4, h5, h6⟩ := h
    obtain ⟨a, vs, rfl, hh, hr'⟩ := tx
    exact ⟨a, v, y, ds, rfl, rfl, (Rep.lst hh (reps_mono gh _ _ hr')).dp (.list ds) _ (by simpa [PyData.hasDict] using h4), (ty.rep gh).dp _ _ h5, h1, h2, h3, k _ _ (.int _) h6⟩
  · exact h.elim
theorem de_index (ho : DE C o to d1) (he : DE C e te d2) (hbase : attributeBase o "index" X.env (eval o X.env) = eval o X.env := by rfl)
    (hfew : ((backTo cpos (starEach [e] X.env)).all (fun x => !x.1) && (backToKw cpos (keywordEach [] X.env)).all (fun x => x.1.isSome)
      && decide ([e].length + ([] : List Keyword).length + (if ([] : List Keyword).isEmpty then 0 else 1) < 30)) = true := by rfl)
    (hline : (apos.endLine == cpos.line) = true := by rfl) (hse : starEach [e] X.env = (false, eval e X.env) :: starEach [] X.env := by rfl) (hplain : (backTo cpos (starEach [] X.env)).any (·.1) = false := by rfl) :
    DE C (.Call (.Attribute o "index" apos) [e] [] cpos) (tBM X.K "list" (rIndexD X.K) to (tCons te tNil)) (dM1 fIndex d1 d2) := by
  refine ⟨pe_bm PySem.F.plainAttrs_list PySem.F.slot_list_index PySem.F.type_list_index (mt_indexD (by have := C.un; omega)) ho.pe (pa_cons he.pe pa_nil hse) hbase hfew hline hse hplain, list_m1 ho he fun w u v x y Q kd gh tx ty h k => ?_⟩
  unfold fIndex at h
  split at h
  · rename_i ds
    obtain ⟨h1, h2, j, z, h3, h4, h5, h6⟩ := h
    obtain ⟨a, vs, rfl, hh, hr'⟩ := tx
    exact ⟨a, v, y, ds, j, z, rfl, rfl, (Rep.lst hh (reps_mono gh _ _ hr')).dp (.list ds) _ (PyData.hasDict_of_canLay _ (SeqAt.canLay_of_shaped h1)), (ty.rep gh).dp _ _ (PyData.hasDict_of_canLay _ (SeqAt.canLay_of_shaped h2)), h1, h2, h3, h4, h5, k _ _ (.int _) h6⟩
  · exact h.elim
end
/-! ### isinstance of data -/
def isIntD : PyData → Bool
  | .int _ => true | .bool _ => true | _ => false
def isBoolD : PyData → Bool
  | .bool _ => true | _ => false
def isTupD : PyData → Bool
  | .tuple _ => true | _ => false
end DL

end
section
set_option maxHeartbeats 4000000
/-! DLK: isinstance of data. -/
namespace DL
open PySem PySem.Spec L2
def tyN : PyData → String
  | .none => "NoneType" | .bool _ => "bool" | .int _ => "int" | .str _ => "str" | .list _ => "list" | .tuple _ => "tuple" | .dict _ => "dict"
theorem rep_ty {K : PySem.W.Frag} {G H : Hp} (gh : Same G H) {v : V} : ∀ {d : PyData}, Rep K G v d → TyX K H v (.type (tyN d)) := by
  intro d h
  cases h with
  | non => exact .base .non
  | bl b => exact .base (.bl b)
  | int i => exact .base (.int i)
  | str x => exact .base (.str x)
  | lst hs _ => exact .base (.lst (gh _ _ hs))
  | tup hs _ =>
    rcases hs with (h | ⟨o, h⟩) | ⟨o, its, n, h1, h2, _⟩
    · exact .base (.tup (gh _ _ h))
    · exact .fTuple (gh _ _ h)
    · exact .kTuple h1 h2
  | dic hs _ => exact .base (.dK (gh _ _ hs))
section
variable {X : Cx} {C : DC X} {e : Expr} {te : TE} {de : TED} {p q pos : Pos} {T : String} {isT : PyData → Bool}
def dIsD (isT : PyData → Bool) (de : TED) : TED := fun ρ Q => de ρ fun r ρ1 => vw ρ1 r fun x => Q (.d (.bool (isT x))) ρ1
theorem de_isD (hT : ∀ d, PySem.W.kitOne X.K (.type (tyN d)) (.type T) = some (isT d)) (hm : X.mg "isinstance" = none) {x : Str} (hx : X.mg x = none) (hb : bootBuiltins x = some (.type T)) (he : DE C e te de) (hgx : Gl X x := by rfl) (hg : Gl X "isinstance" := by rfl)
    (hn : x ≠ "__name__" := by decide) (hdx : (x == ("__debug__" : Str)) = false := by decide)
    (hs : starEach [e, .Name x q] X.env = (false, eval e X.env) :: starEach [.Name x q] X.env := by rfl) (hs2 : starEach [.Name x q] X.env = (false, eval (.Name x q) X.env) :: starEach [] X.env := by rfl) (hpl : (backTo pos (starEach [.Name x q] X.env)).any (·.1) = false := by rfl) :
    DE C (.Call (.Name "isinstance" p) [e, .Name x q] [] pos) (tCB (rIsi X.K) (tCons te (tCons (tC (.ty T)) tNil))) (dIsD isT de) := by
  refine ⟨pe_callB call_isi hg hm (by decide +kernel) (pa_cons he.pe (pa_cons (pe_bltn hgx hx hb rfl hn hdx) pa_nil hs2) hs) (by decide) (by decide) hs hpl, fun w σ ρ Q QD hA I q k => ?_⟩
  refine he.run w σ ρ _ _ hA I q fun v r1 w1 ρ1 s1 I1 R1 q1 => ?_
  obtain ⟨d, td, q2⟩ := vw_top I1 R1 q1
  exact ⟨v, .ty T, .type (tyN d), .type T, isT d, rfl, .ty T, rep_ty (fun _ _ h => h) (td.rep I1.gh), hT d, k _ (.d (.bool _)) w1 ρ1 s1 I1 (.bl _) q2⟩
theorem kit_int {K : PySem.W.Frag} (d : PyData) : PySem.W.kitOne K (.type (tyN d)) (.type "int") = some (isIntD d) := by cases d <;> rfl
theorem kit_bool {K : PySem.W.Frag} (d : PyData) : PySem.W.kitOne K (.type (tyN d)) (.type "bool") = some (isBoolD d) := by cases d <;> rfl
theorem kit_tuple {K : PySem.W.Frag} (d : PyData) : PySem.W.kitOne K (.type (tyN d)) (.type "tuple") = some (isTupD d) := by cases d <;> rfl
end

/-! ### facts of exception classes, by names -/
def excB (K : PySem.W.Frag) (x : Str) : Bool := decide (PySem.W.findIn K (.ref (He.ga K x)) "__getattribute__" = some (some (.builtin "BaseException.__getattribute__"))) && (decide (PySem.W.findIn K (.ref (He.ga K x)) "__getattr__" = some none) &&
  (decide (PySem.W.subIn K (.ref (He.ga K x)) (.type "BaseException") = some true) && (PySem.W.hasDictIn K (He.ga K x) && (decide (PySem.W.findIn K (.ref (He.ga K x)) "__class__" = some (some (.builtin "object.__class__"))) &&
  (decide (PySem.W.specialIn K (.builtin "object.__class__") "__get__" = some (some (.builtin "getset_descriptor.__get__"))) && (decide (PySem.W.takesIn K (.builtin "object.__class__") = some true) && decide (PySem.W.mroIn K (He.ga K x) (.type "object") = some true)))))))
theorem excB_ok {K : PySem.W.Frag} {x : Str} (h : excB K x = true) : L2.ExcC K (He.ga K x) := by
  unfold excB at h
  simp only [Bool.and_eq_true, decide_eq_true_eq] at h
  obtain ⟨h1, h2, h3, h4, h5, h6, h7, h8⟩ := h
  exact ⟨h1, h2, h3, h4, h5, h6, h7, h8⟩
def kitB (K : PySem.W.Frag) (x y : Str) (b : Bool) : Bool := decide (PySem.W.kitOne K (.ref (He.ga K x)) (.ref (He.ga K y)) = some b)
theorem kitB_ok {K : PySem.W.Frag} {x y : Str} {b : Bool} (h : kitB K x y b = true) : PySem.W.kitOne K (.ref (He.ga K x)) (.ref (He.ga K y)) = some b := of_decide_eq_true h
def kitT (K : PySem.W.Frag) (x : Str) (T : String) (b : Bool) : Bool := decide (PySem.W.kitOne K (.ref (He.ga K x)) (.type T) = some b)
theorem kitT_ok {K : PySem.W.Frag} {x : Str} {T : String} {b : Bool} (h : kitT K x T b = true) : PySem.W.kitOne K (.ref (He.ga K x)) (.type T) = some b := of_decide_eq_true h
def exmB (K : PySem.W.Frag) (x y : Str) : Bool := decide (PySem.W.exmOne K (.ref (He.ga K x)) (.ref (He.ga K y)) = some true)
theorem exmB_ok {K : PySem.W.Frag} {x y : Str} (h : exmB K x y = true) : PySem.W.exmOne K (.ref (He.ga K x)) (.ref (He.ga K y)) = some true := of_decide_eq_true h

/-! ### texts compared, whatever their letters -/
def dEqS (x y : PyData) (k : PyData → Prop) : Prop := match x, y with
  | .str a, .str b => k (.bool (decide (a = b)))
  | _, _ => False
theorem od_eqS {X : Cx} {C : DC X} : OpR X (compareOp .Eq) rEq ∧ OpD X C rEq dEqS := by
  refine ⟨op_eq, fun w σ ρ u v x y Q kd hA I tx ty h k => ?_⟩
  unfold dEqS at h
  split at h
  · cases tx
    cases ty
    rename_i a b
    refine ⟨rfl, ?_⟩
    have e : decide (V.str a = V.str b) = decide (a = b) := by
      by_cases q : a = b
      · subst q; simp
      · have : ¬ (V.str a = V.str b) := fun z => q (V.str.inj z)
        simp [q, this]
    rw [e]
    exact k _ _ w (Stp.refl w) I (.bl _) h
  · exact h.elim
end DL

end
section
set_option maxHeartbeats 4000000
/-! DLM: sum, min, max of a list or tuple of ints; int of an int or a truth value. -/
namespace DL
open PySem PySem.Spec L2 PyProof.Rows
theorem ints_read {h : Heap} : ∀ (ns : List Int) (vs : List Value) (as : List Addr), ReadsAll h vs (ns.map PyData.int) as → IntsAre vs ns
  | [], _, _, r => by
    cases r
    exact .nil
  | n :: ns, _, _, r => by
    cases r with
    | cons h1 h2 =>
      cases h1 with
      | int _ t => exact .cons n t (ints_read ns _ _ h2)
theorem alike_ints (ns : List Int) : PySem.W.AlikeAll (ns.map PyData.int) := by
  refine ⟨fun x hx y hy => ?_, fun x hx => ?_⟩
  · obtain ⟨i, _, rfl⟩ := List.mem_map.mp hx
    obtain ⟨j, _, rfl⟩ := List.mem_map.mp hy
    rfl
  · obtain ⟨i, _, rfl⟩ := List.mem_map.mp hx
    exact fun z => nomatch z
theorem dep_map : ∀ ns : List Int, PyData.depthAll (ns.map PyData.int) = 0
  | [] => rfl
  | n :: ns => by
    show max (PyData.depth (.int n)) (PyData.depthAll (ns.map PyData.int)) = 0
    rw [dep_map ns]; rfl
/-- a list or a tuple of ints -/
def IntsD (d : PyData) (ns : List Int) : Prop := d = .list (ns.map PyData.int) ∨ d = .tuple (ns.map PyData.int)
section
variable {prog : Program} {w : World} {A : Around} {E : Value → Shared → Prop} {s : Shared} {b : Addr} {d : PyData} {as : List Addr} {Q : Value → Shared → Prop} {ns : List Int} {n : Int}
theorem sumR (hh : A.handled = none) (r : Reads s.heap (.ref b) d as) (hd : IntsD d ns)
    (h : ∀ h' tk t', (∀ b o, s.heap.get? b = some o → h'.get? b = some o) → Q (.int ns.sum t') { s with heap := h', toks := tk }) : wpAny (model prog w) A (call (.builtin "sum") [.ref b]) Q E s := by
  rcases hd with rfl | rfl
  · cases r with
    | list h1 h2 h3 h4 =>
      rename_i o vs m as
      exact sum_raw hh (its := vs.toList) ⟨o, h1, h2, m, by simpa using h3⟩ (ints_read ns _ _ h4) h
  · cases r with
    | tuple h1 h2 h3 h4 =>
      rename_i o vs m
      have hi := ints_read ns _ _ h4
      obtain ⟨xs, e⟩ := hi.allInts.items
      have hn : numsOf (intItems xs).toList = ns := by rw [← e]; exact hi.numsOf
      rw [nums_intItems] at hn
      have ht : s.heap.IsTuple b (intItems xs) := ⟨o, h1, h2, m, by rw [← e]; simpa using h3⟩
      refine PySem.W.ktm_sumG hh ht fun h' tk t' hk => ?_
      have := h h' tk t' hk
      rw [preSum_eq, List.take_of_length_le (by simp), hn]; exact this
theorem minR (hh : A.handled = none) (hu : A.units + 2 < cLine) (r : Reads s.heap (.ref b) d as) (hd : IntsD d (n :: ns))
    (h : ∀ h' tk t', (∀ b o, s.heap.get? b = some o → h'.get? b = some o) → Q (.int (ns.foldl min n) t') { s with heap := h', toks := tk }) : wpAny (model prog w) A (call (.builtin "min") [.ref b]) Q E s := by
  have dep : PyData.depthAll (PyData.int n :: ns.map PyData.int) = 0 := dep_map (n :: ns)
  have fin : ∀ (v : Value) (h' : Heap) (tk : Tok) (bs : List Addr), Reads h' v (PySem.W.minD (.int n) (ns.map .int)) bs → (∀ b o, s.heap.get? b = some o → h'.get? b = some o) → Q v { s with heap := h', toks := tk } := fun v h' tk bs hr hk => by
    rw [PySem.W.minD_ints] at hr
    cases hr with
    | int _ t => exact h h' tk t hk
  rcases hd with rfl | rfl
  · cases r with
    | list h1 h2 h3 h4 =>
      rename_i o vs m as
      exact PySem.W.min_list_data hh ⟨o, h1, h2, m, h3⟩ h4 (alike_ints (n :: ns)) (by rw [dep]; omega) fun _ v h' tk bs _ hr hk => fin v h' tk bs hr hk
  · cases r with
    | tuple h1 h2 h3 h4 =>
      rename_i o vs m
      exact PySem.W.min_tuple_data hh ⟨o, h1, h2, m, h3⟩ h4 (alike_ints (n :: ns)) (by rw [dep]; omega) fun _ v h' tk bs _ hr hk => fin v h' tk bs hr hk
theorem maxR (hh : A.handled = none) (hu : A.units + 2 < cLine) (r : Reads s.heap (.ref b) d as) (hd : IntsD d (n :: ns))
    (h : ∀ h' tk t', (∀ b o, s.heap.get? b = some o → h'.get? b = some o) → Q (.int (ns.foldl max n) t') { s with heap := h', toks := tk }) : wpAny (model prog w) A (call (.builtin "max") [.ref b]) Q E s := by
  have dep : PyData.depthAll (PyData.int n :: ns.map PyData.int) = 0 := dep_map (n :: ns)
  have fin : ∀ (v : Value) (h' : Heap) (tk : Tok) (bs : List Addr), Reads h' v (PySem.W.maxD (.int n) (ns.map .int)) bs → (∀ b o, s.heap.get? b = some o → h'.get? b = some o) → Q v { s with heap := h', toks := tk } := fun v h' tk bs hr hk => by
    rw [PySem.W.maxD_ints] at hr
    cases hr with
    | int _ t => exact h h' tk t hk
  rcases hd with rfl | rfl
  · cases r with
    | list h1 h2 h3 h4 =>
      rename_i o vs m as
      exact PySem.W.max_list_data hh ⟨o, h1, h2, m, h3⟩ h4 (alike_ints (n :: ns)) (by rw [dep]; omega) fun _ v h' tk bs _ hr hk => fin v h' tk bs hr hk
  · cases r with
    | tuple h1 h2 h3 h4 =>
      rename_i o vs m
      exact PySem.W.max_tuple_data hh ⟨o, h1, h2, m, h3⟩ h4 (alike_ints (n :: ns)) (by rw [dep]; omega) fun _ v h' tk bs _ hr hk => fin v h' tk bs hr hk
end
section
variable {X : Cx} {C : DC X}
theorem nd_ints : ∀ ns : List Int, PyData.hasDictAll (ns.map PyData.int) = false
  | [] => rfl
  | n :: ns => by
    show (PyData.hasDict (.int n) || PyData.hasDictAll (ns.map PyData.int)) = false
    rw [nd_ints ns]; rfl
theorem IntsD.nd {d : PyData} {ns : List Int} (h : IntsD d ns) : d.hasDict = false := by
  rcases h with rfl | rfl <;> exact nd_ints ns
theorem IntsD.ref {H : Hp} {v : V} {u : Value} {d : PyData} {ns : List Int} (h : IntsD d ns) (hd : Dp X.K H v d) (r : RelV v u) : ∃ a, u = .ref a := by
  rcases h with rfl | rfl
  · cases hd with
    | lst _ _ => cases r; exact ⟨_, rfl⟩
  · cases hd with
    | tup _ _ => cases r; exact ⟨_, rfl⟩
def fSum (x : PyData) (k : PyData → Prop) : Prop := ∃ ns : List Int, IntsD x ns ∧ k (.int ns.sum)
def fMin1 (x : PyData) (k : PyData → Prop) : Prop := ∃ (n : Int) (ns : List Int), IntsD x (n :: ns) ∧ k (.int (ns.foldl min n))
def fMax1 (x : PyData) (k : PyData → Prop) : Prop := ∃ (n : Int) (ns : List Int), IntsD x (n :: ns) ∧ k (.int (ns.foldl max n))
def rSumD (K : PySem.W.Frag) : List V → Hp → VK → Prop := fun xs H Q => ∃ v d ns, xs = [v] ∧ Dp K H v d ∧ IntsD d ns ∧ Q (.int ns.sum) H
def rMinD (K : PySem.W.Frag) : List V → Hp → VK → Prop := fun xs H Q => ∃ v d n ns, xs = [v] ∧ Dp K H v d ∧ IntsD d (n :: ns) ∧ Q (.int (ns.foldl min n)) H
def rMaxI (K : PySem.W.Frag) : List V → Hp → VK → Prop := fun xs H Q => ∃ v d n ns, xs = [v] ∧ Dp K H v d ∧ IntsD d (n :: ns) ∧ Q (.int (ns.foldl max n)) H
theorem cd_sum : CallR X (.builtin "sum") (rSumD X.K) ∧ CallD1 X C (rSumD X.K) fSum := by
  refine ⟨fun pins s σ H xs us Q I rx h => ?_, fun w σ ρ u x Q kd hA I tx h k => ?_⟩
  · obtain ⟨v, d, ns, rfl, hd, hn, q⟩ := h
    obtain ⟨u, rfl, ru⟩ := vals1 rx
    obtain ⟨as, rd⟩ := Dp.reads I d v u hd ru
    obtain ⟨a, rfl⟩ := hn.ref hd ru
    exact sumR (I.ok.hd C.calm) rd hn fun h' tk t' hk => ⟨.int _, H, I.kept hk, ⟨_, rfl⟩, q⟩
  · obtain ⟨ns, hn, h⟩ := h
    exact ⟨u, x, ns, rfl, (tx.rep I.gh).dp _ _ hn.nd, hn, k _ (.int _) w (Stp.refl w) I (.int _) h⟩
theorem cd_min1 : CallR X (.builtin "min") (rMinD X.K) ∧ CallD1 X C (rMinD X.K) fMin1 := by
  refine ⟨fun pins s σ H xs us Q I rx h => ?_, fun w σ ρ u x Q kd hA I tx h k => ?_⟩
  · obtain ⟨v, d, n, ns, rfl, hd, hn, q⟩ := h
    obtain ⟨u, rfl, ru⟩ := vals1 rx
    obtain ⟨as, rd⟩ := Dp.reads I d v u hd ru
    obtain ⟨a, rfl⟩ := hn.ref hd ru
    exact minR (I.ok.hd C.calm) (by have := C.un; omega) rd hn fun h' tk t' hk => ⟨.int _, H, I.kept hk, ⟨_, rfl⟩, q⟩
  · obtain ⟨n, ns, hn, h⟩ := h
    exact ⟨u, x, n, ns, rfl, (tx.rep I.gh).dp _ _ hn.nd, hn, k _ (.int _) w (Stp.refl w) I (.int _) h⟩
theorem cd_max1 : CallR X (.builtin "max") (rMaxI X.K) ∧ CallD1 X C (rMaxI X.K) fMax1 := by
  refine ⟨fun pins s σ H xs us Q I rx h => ?_, fun w σ ρ u x Q kd hA I tx h k => ?_⟩
  · obtain ⟨v, d, n, ns, rfl, hd, hn, q⟩ := h
    obtain ⟨u, rfl, ru⟩ := vals1 rx
    obtain ⟨as, rd⟩ := Dp.reads I d v u hd ru
    obtain ⟨a, rfl⟩ := hn.ref hd ru
    exact maxR (I.ok.hd C.calm) (by have := C.un; omega) rd hn fun h' tk t' hk => ⟨.int _, H, I.kept hk, ⟨_, rfl⟩, q⟩
  · obtain ⟨n, ns, hn, h⟩ := h
    exact ⟨u, x, n, ns, rfl, (tx.rep I.gh).dp _ _ hn.nd, hn, k _ (.int _) w (Stp.refl w) I (.int _) h⟩
/-- int of an int or of a truth value -/
def fInt (x : PyData) (k : PyData → Prop) : Prop := match x with
  | .int i => k (.int i)
  | .bool b => k (.int (if b then 1 else 0))
  | _ => False
abbrev rInt1 : List V → Hp → VK → Prop := fun xs H Q => (∃ i, xs = [.int i] ∧ Q (.int i) H) ∨ ∃ k, xs = [.bl k] ∧ Q (.int (if k then 1 else 0)) H
theorem cd_int : CallR X (.type "int") rInt1 ∧ CallD1 X C rInt1 fInt := by
  refine ⟨call_int1, fun w σ ρ u x Q kd hA I tx h k => ?_⟩
  cases x with
  | int i =>
    cases tx
    exact .inl ⟨i, rfl, k _ (.int _) w (Stp.refl w) I (.int _) h⟩
  | bool b =>
    cases tx
    exact .inr ⟨b, rfl, k _ (.int _) w (Stp.refl w) I (.int _) h⟩
  | _ => exact h.elim
end
end DL

end
section
set_option maxHeartbeats 4000000
/-! DLQ: texts joined and counted, a tuple turned round, no item of a tuple of data, what is never reached. -/
namespace DL
open PySem PySem.Spec L2 PyProof.Rows HT
section
variable {prog : Program} {w : World} {A : Around} {E : Value → Shared → Prop} {s : Shared}
theorem places_rev (n : Nat) : Builtin.Slice.slicePlaces ((n : Int) - 1) (-1) (-1) = n := by
  unfold Builtin.Slice.slicePlaces
  have h1 : ¬ ((-1 : Int) > 0) := by decide
  rw [if_neg h1]
  by_cases h : (n : Int) - 1 > -1
  · rw [if_pos h, show (- -1 : Int) = 1 by decide, Int.ediv_one]
    omega
  · rw [if_neg h]
    omega
theorem sliceApplied_rev {sl : Addr} {u : Tok} {n : Nat} {Q : Int × Int × Nat → Shared → Prop} (hs : s.heap.IsSliceOf sl .none .none (.int (-1) u)) (h : Q ((n : Int) - 1, -1, n) s) : wpAny (model prog w) A (Builtin.Slice.sliceApplied (.ref sl) (pure (n : Int))) Q E s := by
  obtain ⟨os, hos, hcs, hds⟩ := id hs
  unfold Builtin.Slice.sliceApplied Builtin.Slice.sliceFields
  refine wpAny_bind (wpAny_bind (wpAny_field hos hds (x := .none) rfl (wpAny_bind (wpAny_field hos hds (x := .none) rfl (wpAny_bind (wpAny_field hos hds (x := .int (-1) u) rfl (wpAny_pure ?_)))))))
  refine wpAny_bind (slicePart_int ?_)
  show wpAny _ _ (if ((-1 : Int) == 0) = true then _ else _) _ _ s
  rw [if_neg (by decide)]
  refine wpAny_bind (slicePart_none (wpAny_bind (slicePart_none (wpAny_bind (wpAny_pure ?_)))))
  show wpAny _ _ (pure ((n : Int) - 1, (-1 : Int), Builtin.Slice.slicePlaces ((n : Int) - 1) (-1) (-1))) _ _ s
  rw [places_rev]
  exact wpAny_pure h
theorem pick_rev (xs : Array Value) : ((List.range xs.size).filterMap fun (m : Nat) => xs[(((xs.size : Int) - 1) + (m : Int) * (-1)).toNat]?).toArray = xs.toList.reverse.toArray := by
  have e : (fun (m : Nat) => xs[(((xs.size : Int) - 1) + (m : Int) * (-1)).toNat]?) = (fun x => xs[x]?) ∘ fun m => xs.size - 1 - m := by
    funext m
    show _ = xs[xs.size - 1 - m]?
    have : (((xs.size : Int) - 1) + (m : Int) * (-1)).toNat = xs.size - 1 - m := by omega
    rw [this]
  rw [e, ← List.filterMap_map, PySem.W.krv_range, List.filterMap_reverse, PySem.W.krv_all]
theorem getItem_tuple_rev {t sl : Addr} {items : Array Value} {u : Tok} {Q : Value → Shared → Prop} (ht : IsTup s.heap t items) (hs : s.heap.IsSliceOf sl .none .none (.int (-1) u))
    (h : Q (.ref s.heap.objs.size) { s with heap := s.heap.push { cls := .type "tuple", data := .seq items.toList.reverse.toArray } })
    (hsz : items.size ≤ sizeLine) : wpAny (model prog w) A (getItem (.ref t) (.ref sl)) Q E s := by
  have htake : sizeOk (.seq items.toList.reverse.toArray) := by
    show items.toList.reverse.toArray.size ≤ sizeLine
    rw [List.size_toArray, List.length_reverse, Array.length_toList]
    exact hsz
  obtain ⟨os, hos, hcs, hds⟩ := id hs
  have hTs : s.TypeIs (.ref sl) "slice" := ⟨os, hos, hcs⟩
  unfold getItem
  try with_reducible refine wpAny_holding ?_
  first | refine wpAny_bind (wpAny_pure ?_) | skip
  refine wpAny_bind (wpAny_sequenceKey ht.typeIs (by decide) ?_)
  refine wpAny_bind (wpAny_callSpecial?_slot (name := Str.ofString "__getitem__") ht.typeIs PyProof.Rows.slot_tuple_getitem
    (wpAny_call_entry PyProof.Rows.slot_tuple_getitem ht.typeIs entry_tuple_getitem ?_ (args_tuple_getitem _ _)))
  show wpAny _ _ (Builtin.Tuple.tupleItemsOf (.ref t) >>= _) _ _ s
  refine wpAny_bind (tupleItemsOf_ ht ?_)
  refine wpAny_bind (wpAny_typeOf hTs ?_)
  rw [if_pos (by decide)]
  refine wpAny_bind (sliceApplied_rev hs ?_)
  have hno : ¬ ((((items.size : Int) - 1) == 0 && (-1 : Int) == 1 && items.size == items.size) = true) := by
    intro q
    rw [Bool.and_eq_true, Bool.and_eq_true] at q
    exact absurd (eq_of_beq q.1.2) (by decide)
  show wpAny _ _ (if (((items.size : Int) - 1) == 0 && (-1 : Int) == 1 && items.size == items.size) = true then _ else _) _ _ s
  rw [if_neg hno, pick_rev]
  first
    | exact wpAny_bind (m := Builtin.Tuple.tupleExact _) (wpAny_newObj_type (wpAny_pure ⟨_, rfl, wpAny_pure h⟩) htake)
    | exact wpAny_bind (m := Builtin.Tuple.tupleExact _) (wpAny_newObj_type (wpAny_bind (wpAny_pure (wpAny_pure ⟨_, rfl, wpAny_pure h⟩))) htake)
    | exact wpAny_bind (wpAny_bind (m := Builtin.Tuple.tupleExact _) (wpAny_newObj_type (wpAny_pure (wpAny_pure ⟨_, rfl, wpAny_pure h⟩)) htake))
    | exact wpAny_bind (wpAny_bind (m := Builtin.Tuple.tupleExact _) (wpAny_newObj_type (wpAny_pure ⟨_, rfl, wpAny_pure h⟩) htake))
end
section
variable {X : Cx}
def tRevT (K : PySem.W.Frag) (te : TE) : TE := fun σ H Q => te σ H fun x H1 => ∃ a xs, x = .ref a ∧ SqT K H1 a xs ∧ ∀ p, H1 p = none → Q (.ref p) (upd H1 p (.tup xs.reverse))
theorem pe_revT {e : Expr} {te : TE} {k : Nat} {p1 p2 p3 pos : Pos} (he : PE X e te) : PE X (.Subscript e (.Slice none none (some (.UnaryOp .USub (.Constant (.int 1) k p1) p2)) p3) pos) (tRevT X.K te) := by
  refine ⟨fun pins s σ H Q I h => ?_⟩
  refine Subscript_ (thn (he.run pins s σ H _ I h) fun v s1 ⟨x, H1, I1, r1, q1⟩ => ?_)
  obtain ⟨a, xs, ex, hx, q⟩ := q1
  subst ex
  cases r1
  have hst : PO X (some (.UnaryOp .USub (.Constant (.int 1) k p1) p2)) (tPart (tUn (rU fun i => .int (-i)) (tC (.int 1)))) := po_some (pe_un un_neg pe_int)
  refine wpAny_Slice (thn (po_none.run pins s1 σ H1 (fun o H2 => o = none ∧ H2 = H1) I1 ⟨rfl, rfl⟩) fun vl s2 ⟨l, H2, I2, pl, el, e2⟩ => ?_)
  subst el e2
  refine thn (po_none.run pins s2 σ H2 (fun o H3 => o = none ∧ H3 = H2) I2 ⟨rfl, rfl⟩) fun vu s3 ⟨u, H3, I3, pu, eu, e3⟩ => ?_
  subst eu e3
  refine thn (hst.run pins s3 σ H3 (fun o H4 => o = some (-1) ∧ H4 = H3) I3 ⟨1, rfl, -1, rfl, rfl, rfl⟩) fun vs s4 ⟨o, H4, I4, ps, eo, e4⟩ => ?_
  subst eo e4
  have I5 : Inv X pins σ H4 { s4 with heap := s4.heap.push { cls := .type "slice", data := .fields #[vl, vu, vs] } } := I4.kept (t' := s4.toks) fun b ob q => Heap.get?_push_of_some _ q
  obtain ⟨its, r, ht, hz⟩ := I5.tuple hx
  have hlen := r.length
  show wpAny (model X.prog X.w) X.A (subscriptTail e (.Slice none none (some (.UnaryOp .USub (.Constant (.int 1) k p1) p2)) p3) (.ref a) (.ref s4.heap.objs.size)) (EP X pins σ Q) X.xe { s4 with heap := s4.heap.push { cls := .type "slice", data := .fields #[vl, vu, vs] } }
  cases pl
  cases pu
  cases ps
  refine tail_any (ops := [.ref a, .ref s4.heap.objs.size]) ht.typeIs (slot_tuple_getitem.lookup) ?_ (by with_unfolding_all rfl)
  refine getItem_tuple_rev ht (Heap.IsSliceOf.new _ _ _ _) ?_ (by rw [List.size_toArray]; omega)
  refine ⟨.ref _, _, I5.laid (t' := s4.toks) (o := .tup xs.reverse) (fun b ob q => Heap.get?_push_of_some _ q) (Nat.le_refl _) ?_, rfl, q _ (I5.hok.fresh (Nat.le_refl _))⟩
  exact ⟨by rw [List.length_reverse]; exact hz, _, r.reverse, ⟨_, Heap.get?_push_size _ rfl, rfl, _, rfl⟩⟩

variable {C : DC X} {a o e : Expr} {ta to te : TE} {da d1 d2 : TED} {pos : Pos}
/-- t[::-1] of a tuple -/
def dRevT (da : TED) : TED := fun ρ Q => da ρ fun r ρ1 => vw ρ1 r fun x => match x with | .tuple ds => Q (.d (.tuple ds.reverse)) ρ1 | _ => False
theorem de_revT {k0 : Nat} {q1 q2 q3 : Pos} (ha : DE C a ta da) : DE C (.Subscript a (.Slice none none (some (.UnaryOp .USub (.Constant (.int 1) k0 q1) q2)) q3) pos) (tRevT X.K ta) (dRevT da) := by
  refine ⟨pe_revT ha.pe, fun w σ ρ Q QD hA I q k => ?_⟩
  refine ha.run w σ ρ _ _ hA I q fun u r1 w1 ρ1 s1 I1 R1 q1 => ?_
  obtain ⟨x, tx, q4⟩ := vw_top I1 R1 q1
  cases x with
  | tuple ds =>
    cases tx with
    | tup hs hr =>
      rename_i aa vs
      refine ⟨aa, vs, rfl, sqt_mono I1.gh hs, fun p hp => ?_⟩
      obtain ⟨I4, s4⟩ := I1.new (o := .tup vs.reverse) hp
      exact k (.ref p) (.d (.tuple ds.reverse)) ⟨upd w1.G p _, upd w1.H p _, w1.F⟩ ρ1 (s1.trans s4) I4 (.tup (SqT.of upd_same) (reps_mono s4.g _ _ hr.rev)) q4
  | _ => exact q4.elim
/-- not in a tuple of data -/
def dNotInT (x y : PyData) (k : PyData → Prop) : Prop := match y with
  | .tuple ys => SeqAt.shaped x = true ∧ SeqAt.shaped (.tuple ys) = true ∧ k (.bool (!inD x ys))
  | _ => False
def rNotInT (K : PySem.W.Frag) : R2 := fun x y H Q => ∃ d ds, Dp K H x d ∧ Dp K H y (.tuple ds) ∧ SeqAt.shaped d = true ∧ SeqAt.shaped (.tuple ds) = true ∧ Q (.bl (!ds.any fun z => PyData.eqv z d)) H
theorem op_notInT (hu : X.A.units + 65 < cLine) : OpR X (compareOp .NotIn) (rNotInT X.K) := by
  intro pins s σ H x y v u Q I rx ry h
  obtain ⟨d, ds, hd, he, sd, se, q⟩ := h
  obtain ⟨as, r1⟩ := Dp.reads I d x v hd rx
  obtain ⟨bs, r2⟩ := Dp.reads I (.tuple ds) y u he ry
  exact SeqAt.notIn_tuple_reads r2 r1 (SeqAt.canLay_of_shaped se) (SeqAt.canLay_of_shaped sd) (room_in_shaped sd hu) ⟨.bl _, H, I, rfl, q⟩
theorem od_notInT : OpR X (compareOp .NotIn) (rNotInT X.K) ∧ OpD X C (rNotInT X.K) dNotInT := by
  refine ⟨op_notInT (by have := C.un; omega), fun w σ ρ u v x y Q kd hA I tx ty h k => ?_⟩
  unfold dNotInT at h
  split at h
  · obtain ⟨h1, h2, h3⟩ := h
    exact ⟨x, _, (tx.rep I.gh).dp _ _ (PyData.hasDict_of_canLay _ (SeqAt.canLay_of_shaped h1)), (ty.rep I.gh).dp _ _ (PyData.hasDict_of_canLay _ (SeqAt.canLay_of_shaped h2)), h1, h2, k _ _ w (Stp.refl w) I (.bl _) h3⟩
  · exact h.elim
/-- sep.join(a list of texts) -/
def fJoin (x y : PyData) (k : PyData → Prop) : Prop := match x, y with
  | .str a, .list ds => ∃ ys : List Str, ds = ys.map PyData.str ∧ (ys.map (·.length)).sum + ys.length * a.length ≤ 16777216 ∧ k (.str (Txt.join a ys))
  | _, _ => False
def isS : PyData → Prop
  | .str _ => True
  | _ => False
/-- a text's method -/
def dMS (f : PyData → PyData → (PyData → Prop) → Prop) (d1 d2 : TED) : TED := fun ρ Q => d1 ρ fun r1 ρ1 => vw ρ1 r1 fun x => isS x ∧ d2 ρ1 fun r2 ρ2 => vw ρ2 r2 fun y => f x y fun z => Q (.d z) ρ2
theorem reps_strs {G : Hp} : ∀ {vs : List V} {ys : List Str}, Reps X.K G vs (ys.map PyData.str) → vs = ys.map V.str
  | _, [], h => by cases h; rfl
  | _, y :: ys, h => by
    rw [List.map_cons] at h
    cases h with
    | cons r t =>
      cases r
      rw [reps_strs t]
      rfl
theorem str_m1 {r : V → List V → Hp → VK → Prop} {f : PyData → PyData → (PyData → Prop) → Prop} (ho : DE C o to d1) (he : DE C e te d2)
    (hr : ∀ (w : Wd) (v : V) (x : Str) (y : PyData) (Q : VK) (kd : PyData → Prop), Same w.G w.H → Top X.K w v y → f (.str x) y kd → (∀ z d, Rep X.K w.G z d → kd d → Q z w.H) → r (.str x) [v] w.H Q) :
    ∀ (w : Wd) (σ : L2.St) (ρ : DSt) (Q : VK) (QD : R → DSt → Prop), C.A w → FI X.K C.P w σ ρ → dMS f d1 d2 ρ QD →
    (∀ v r w' ρ', Stp w w' → FI X.K C.P w' σ ρ' → RepR X.K w' σ v r → QD r ρ' → Q v w'.H) → tM1 r to te σ w.H Q := by
  intro w σ ρ Q QD hA I q k
  refine ho.run w σ ρ _ _ hA I q fun u r1 w1 ρ1 s1 I1 R1 q1 => ?_
  obtain ⟨x, tx, hL, q1⟩ := vw_top I1 R1 q1
  cases x with
  | str a =>
    cases tx
    refine ⟨⟨a, rfl⟩, ?_⟩
    refine he.run w1 σ ρ1 _ _ (C.cl _ _ hA s1) I1 q1 fun v r2 w2 ρ2 s2 I2 R2 q2 => ?_
    obtain ⟨y, ty, q4⟩ := vw_top I2 R2 q2
    exact hr w2 v a y Q _ I2.gh ty q4 fun z d R3 q5 => k z (.d d) w2 ρ2 (s1.trans s2) I2 R3 q5
  | _ => exact hL.elim
theorem de_join {apos : Pos} (ho : DE C o to d1) (he : DE C e te d2) (hs : starEach [e] X.env = [(false, eval e X.env)] := by rfl) (hbase : attributeBase o "join" X.env (eval o X.env) = eval o X.env := by rfl) (hline : (apos.endLine == pos.line) = true := by rfl) :
    DE C (.Call (.Attribute o "join" apos) [e] [] pos) (tM1 (fun x xs H Q => ∃ a p, ∃ ys : List Str, x = .str a ∧ xs = [.ref p] ∧ (SqL X.K H p (ys.map V.str) ∨ SqT X.K H p (ys.map V.str)) ∧
      (ys.map (·.length)).sum + ys.length * a.length ≤ 16777216 ∧ Q (.str (Txt.join a ys)) H) to te) (dMS fJoin d1 d2) := by
  refine ⟨pe_join ho.pe he.pe hs hbase hline, str_m1 ho he fun w v x y Q kd gh ty h k => ?_⟩
  cases y with
  | list ds =>
    obtain ⟨ys, rfl, h1, h2⟩ := h
    obtain ⟨a, vs, rfl, hh, hr⟩ := ty
    have := reps_strs hr
    subst this
    exact ⟨x, a, ys, rfl, rfl, .inl (SqL.of hh), h1, k _ _ (.str _) h2⟩
  | _ => exact h.elim
/-- text.count(text) -/
def fCountS (x y : PyData) (k : PyData → Prop) : Prop := match x, y with
  | .str a, .str b => k (.int (Txt.count a b))
  | _, _ => False
theorem de_countS {apos : Pos} (ho : DE C o to d1) (he : DE C e te d2) (hs : starEach [e] X.env = [(false, eval e X.env)] := by rfl) (hbase : attributeBase o "count" X.env (eval o X.env) = eval o X.env := by rfl) (hline : (apos.endLine == pos.line) = true := by rfl) :
    DE C (.Call (.Attribute o "count" apos) [e] [] pos) (tM1 (fun x xs H Q => ∃ a b, x = .str a ∧ xs = [.str b] ∧ Q (.int (Txt.count a b)) H) to te) (dMS fCountS d1 d2) := by
  refine ⟨pe_m1 PySem.F.slot_str_count PySem.F.type_str_count mt_count ho.pe he.pe hs hbase hline, str_m1 ho he fun w v x y Q kd gh ty h k => ?_⟩
  cases y with
  | str b =>
    cases ty
    exact ⟨x, b, rfl, rfl, k _ _ (.int _) h⟩
  | _ => exact h.elim
/-- text[i] -/
def atS (x y : PyData) (k : PyData → Prop) : Prop := match x, y with
  | .str z, .int i => z.length ≤ sizeLine ∧ ∃ c, atI z.cps.toList i = some c ∧ k (.str ⟨#[c]⟩)
  | _, _ => False
theorem de_ixS {db : TED} {b : Expr} {tb : TE} (ha : DE C a ta da) (hb : DE C b tb db) (hs : PlainIx b := by intro _ _; rfl) : DE C (.Subscript a b pos) (tOp rIxS ta tb) (dOp atS da db) := by
  refine ⟨pe_ix ix_str ha.pe hb.pe hs, op_run (fun w σ ρ u v x y Q kd hA I tx ty h k => ?_) ha hb⟩
  unfold atS at h
  split at h
  · obtain ⟨hz, c, hc, q⟩ := h
    cases tx
    cases ty
    exact ⟨_, _, c, rfl, rfl, hz, hc, k _ _ w (Stp.refl w) I (.str _) q⟩
  · exact h.elim
/-- what is never reached -/
def sNever : TSD := fun _ _ => False
theorem ds_never {st : Stmt} : DS C st (fun _ _ _ => False) sNever := ⟨⟨fun _ _ _ _ _ _ h => h.elim⟩, fun _ _ _ _ _ _ _ h _ => h.elim⟩

/-! zip of a list and a tuple -/
def ItzM (K : PySem.W.Frag) (a b : Addr) : It :=
  ⟨fun i H => ∃ (xs ys : List V) (x y : V), SqL K H a xs ∧ SqT K H b ys ∧ xs[i]? = some x ∧ ys[i]? = some y,
    fun i H v H' => ∃ T x y, v = .ref T ∧ H T = none ∧ H' = upd H T (.tup [x, y]) ∧ (∀ xs, SqL K H a xs → xs[i]? = some x) ∧ ∀ ys, SqT K H b ys → ys[i]? = some y,
    fun i H => ∃ xs ys : List V, SqL K H a xs ∧ SqT K H b ys ∧ i ≤ xs.length ∧ i ≤ ys.length ∧ (i = xs.length ∨ i = ys.length)⟩
theorem turn_zipM {P : Program} {w : World} {K : PySem.W.Frag} {elts : List Expr} {kk : Nat} {tpos : Pos} {a b z TI TO i1 i2 : Addr} (S : ZipSep2 z TI TO i1 i2 [i1, a] [i2, b]) (na : a ≠ i1) (nb : b ≠ i2) :
    Turn P w K (.Tuple elts kk tpos) (ItzM K a b) [z, TI, TO, i1, i2] z (fun i h => IsZip h z TI TO .none ∧ IsTupOf2 h TI (.ref i1) (.ref i2) ∧ (∃ x y, IsTupOf2 h TO x y) ∧ h.IsListIter i1 a i ∧ h.IsTupleIter i2 b i) where
  mem := by simp
  obj := fun i h st c hc => by
    obtain ⟨hz, hTI, ⟨x, y, hTO⟩, ⟨o1, e1, _, d1⟩, ⟨o2, e2, _, d2⟩⟩ := st
    have e' : c = z ∨ c = TI ∨ c = TO ∨ c = i1 ∨ c = i2 := by simpa using hc
    rcases e' with q | q | q | q | q <;> rw [q]
    · exact ⟨_, hz, fun v q => nomatch q⟩
    · exact ⟨_, hTI, fun v q => nomatch q⟩
    · exact ⟨_, hTO, fun v q => nomatch q⟩
    · exact ⟨o1, e1, fun v q => by rw [d1] at q; cases q⟩
    · exact ⟨o2, e2, fun v q => by rw [d2] at q; cases q⟩
  keep := fun i h h' st k => by
    obtain ⟨hz, hTI, ⟨x, y, hTO⟩, h1, h2⟩ := st
    exact ⟨k z (by simp) _ hz, k TI (by simp) _ hTI, ⟨x, y, k TO (by simp) _ hTO⟩, h1.at fun o q => k i1 (by simp) o q, h2.at fun o q => k i2 (by simp) o q⟩
  item := by
    intro X hP hw hK hc i pins s σ H E I hf st hg
    subst hP hw hK
    obtain ⟨hz, hTI, ⟨x0, y0, hTO⟩, h1, h2⟩ := st
    obtain ⟨xs, ys, x, y, hqx, hqy, hx, hy⟩ := hg
    obtain ⟨its, rv, p, _⟩ := I.list hqx
    obtain ⟨its2, rv2, p2, _⟩ := I.tuple hqy
    obtain ⟨u, hu, ru⟩ := rv.get hx
    obtain ⟨u2, hu2, ru2⟩ := rv2.get hy
    have hzl : z < s.heap.objs.size := Heap.lt_size hz
    have D1 := Draws.list (prog := X.prog) (w := X.w) (A := X.A.in1) (I.ok.hd hc) i1 a na its.toArray
    have D2 := Draws.tuple (prog := X.prog) (w := X.w) (A := X.A.in1) (I.ok.hd hc) i2 b nb its2.toArray
    have l1 : i < its.toArray.size := by
      rw [List.size_toArray]
      rcases Nat.lt_or_ge i its.length with c | c
      · exact c
      · rw [List.getElem?_eq_none c] at hu; cases hu
    have l2 : i < its2.toArray.size := by
      rw [List.size_toArray]
      rcases Nat.lt_or_ge i its2.length with c | c
      · exact c
      · rw [List.getElem?_eq_none c] at hu2; cases hu2
    refine wpAny_pyNext_zipD2_item S D1 D2 hz hTI hTO ⟨h1, p.isList⟩ ⟨h2, p2⟩ l1 l2 fun v1 v2 h' tk P1 P2 z' TO' st1 st2 hT hsz hk => ?_
    have e1 : v1 = u := Option.some.inj (P1.symm.trans (by simpa using hu))
    have e2 : v2 = u2 := Option.some.inj (P2.symm.trans (by simpa using hu2))
    subst e1 e2
    refine ⟨_, rfl, wpAny_letOwnedTupleGo_zip (s := { s with heap := h', toks := tk }) z' fun h'' z'' sb => ?_⟩
    have hT2 := (sb.2 _ (Nat.ne_of_gt hzl)).trans hT
    have new : ObjOk X.prog X.w (upd H s.heap.objs.size (.tup [x, y])) h'' s.heap.objs.size (.tup [x, y]) :=
      ⟨by show 2 ≤ sizeLine; decide, [v1, v2], .cons ru (.cons ru2 .nil), ⟨_, hT2, rfl, _, rfl⟩⟩
    have I1 : Inv X pins σ (upd H s.heap.objs.size (.tup [x, y])) { s with heap := h'', toks := tk } :=
      I.turnedNew (ch := [z, TI, TO, i1, i2]) (fun c o hb q => (sb.2 c (fun q' => hb (by simp [q']))).trans (hk c o (fun q' => hb (by simp [q'])) (fun q' => hb (by simp [q'])) (fun q' => hb (by simp [q'])) (fun q' => hb (by simp [q'])) q)) hf (Nat.le_refl _) new
    refine ⟨.ref s.heap.objs.size, _, I1, rfl, ⟨_, x, y, rfl, I.hok.fresh (Nat.le_refl _), rfl, fun l hl => by rw [I.list_inj hl hqx]; exact hx, fun l hl => by rw [I.tuple_inj hl hqy]; exact hy⟩, ⟨z'', ?_, ⟨v1, v2, ?_⟩, ?_, ?_⟩, fun c hcm => ?_⟩
    · exact (sb.2 _ S.TIz).trans (hk _ _ S.TIz S.TITO S.TIi1 S.TIi2 hTI)
    · exact (sb.2 _ S.TOz).trans TO'
    · exact st1.1.at fun o q => (sb.2 _ S.zi1.symm).trans q
    · exact st2.1.at fun o q => (sb.2 _ S.zi2.symm).trans q
    · have hlt : c < s.heap.objs.size := by
        have e' : c = z ∨ c = TI ∨ c = TO ∨ c = i1 ∨ c = i2 := by simpa using hcm
        rcases e' with q | q | q | q | q <;> rw [q]
        · exact hzl
        · exact Heap.lt_size hTI
        · exact Heap.lt_size hTO
        · obtain ⟨_, e1, _⟩ := h1; exact Heap.lt_size e1
        · obtain ⟨_, e2, _⟩ := h2; exact Heap.lt_size e2
      rw [upd_ne (Nat.ne_of_lt hlt)]
      exact (hf c hcm).1
  done := by
    intro X hP hw hK hc i pins s σ H E I hf st hg
    subst hP hw hK
    obtain ⟨hz, hTI, ⟨x0, y0, hTO⟩, h1, h2⟩ := st
    obtain ⟨xs, ys, hqx, hqy, le1, le2, hend⟩ := hg
    obtain ⟨its, rv, p, _⟩ := I.list hqx
    obtain ⟨its2, rv2, p2, _⟩ := I.tuple hqy
    have l1 := rv.length
    have l2 := rv2.length
    have D1 := Draws.list (prog := X.prog) (w := X.w) (A := X.A.in1) (I.ok.hd hc) i1 a na its.toArray
    have D2 := Draws.tuple (prog := X.prog) (w := X.w) (A := X.A.in1) (I.ok.hd hc) i2 b nb its2.toArray
    refine wpAny_pyNext_zipD2_end S D1 D2 hz hTI hTO ⟨h1, p.isList⟩ ⟨h2, p2⟩ (by rw [List.size_toArray]; omega) (by rw [List.size_toArray]; omega) (by rw [List.size_toArray, List.size_toArray]; omega) fun h' tk hk => ?_
    exact ⟨rfl, I.turnedL (ch := [z, TI, TO, i1, i2]) (fun c o hb q =>
      hk c o (fun q' => hb (by simp [q'])) (fun q' => hb (by simp [q'])) (fun q' => hb (by simp [q'])) (fun q' => hb (by simp [q'])) q) hf⟩
  self := fun A i s Q E st h => wpAny_pyIter_zip st.1 h
theorem neA {i j : Nat} (h : i ≠ j) : (i : Addr) ≠ j := h
theorem niA {i j k : Nat} (h1 : i ≠ j) (h2 : i ≠ k) : (i : Addr) ∉ ([j, k] : List Addr) := by
  simp only [List.mem_cons, List.not_mem_nil, or_false, not_or]
  exact ⟨h1, h2⟩
theorem sep_apart (I a b : Nat) (h1 : a < I) (h2 : b < I) : ZipSep2 (I + 4) (I + 2) (I + 3) I (I + 1) [I, a] [I + 1, b] :=
  ⟨neA (by omega), neA (by omega), neA (by omega), neA (by omega), by simp, niA (by omega) (by omega), niA (by omega) (by omega), neA (by omega), by simp, niA (by omega) (by omega), niA (by omega) (by omega), niA (by omega) (by omega), niA (by omega) (by omega)⟩
def iZipM (K : PySem.W.Frag) (ta : TA) : TI := fun σ H R => ta σ H fun vs H1 => ∃ a b xs ys, vs = [.ref a, .ref b] ∧ SqL K H1 a xs ∧ SqT K H1 b ys ∧ R (ItzM K a b) H1
theorem pi_zipM {e e2 : Expr} {ta : TA} {p pos tpos : Pos} {elts : List Expr} {kk : Nat} (hg : Gl X "zip") (hm : X.mg "zip" = none) (ha : PA X [e, e2] ta)
    (hs : starEach [e, e2] X.env = (false, eval e X.env) :: starEach [e2] X.env := by rfl) (hpl : (backTo pos (starEach [e2] X.env)).any (·.1) = false := by rfl) :
    PI X (.Tuple elts kk tpos) (.Call (.Name "zip" p) [e, e2] [] pos) (iZipM X.K ta) := by
  refine ⟨fun pins s σ H R I h => ?_⟩
  refine Call_ (ld_blt I hg hm PyProof.Rows.boot_zip (PyProof.Rows.callWith_type1 (thn (ha.run pos pins s σ H _ I h) fun us s1 ⟨vs, H1, I1, r1, q1⟩ => ?_) hs hpl))
  obtain ⟨a, b, xs, ys, ex, hqx, hqy, q⟩ := q1
  subst ex
  cases r1 with
  | cons r rr =>
    cases rr with
    | cons r' rr =>
      cases rr
      cases r
      cases r'
      obtain ⟨its, rv, p1, _⟩ := I1.list hqx
      obtain ⟨its2, rv2, p2, _⟩ := I1.tuple hqy
      have la := p1.lt
      have lb : b < s1.heap.objs.size := by obtain ⟨o2, ho2, _⟩ := id p2; exact Heap.lt_size ho2
      refine zip_begins2 (begins_list a its.toArray) (begins_tuple b its2.toArray) p1.isList p2 fun h' hz hTI hTO g1 g2 hsz hk => wpAny_pyIter_zip hz ?_
      have I2 : Inv X pins σ H1 { s1 with heap := h' } := I1.kept (t' := s1.toks) hk
      have sep := sep_apart s1.heap.objs.size a b la lb
      refine ⟨s1.heap.objs.size + 4, [s1.heap.objs.size + 4, s1.heap.objs.size + 2, s1.heap.objs.size + 3, s1.heap.objs.size, s1.heap.objs.size + 1], _, _, H1, rfl, I2, turn_zipM sep (Nat.ne_of_lt la) (Nat.ne_of_lt (Nat.lt_succ_of_lt lb)), ⟨hz, hTI, ⟨_, _, hTO⟩, ⟨_, g1, rfl, rfl⟩, ⟨_, g2, rfl, rfl⟩⟩, fun c hcm => ?_, q⟩
      have e' : c = s1.heap.objs.size + 4 ∨ c = s1.heap.objs.size + 2 ∨ c = s1.heap.objs.size + 3 ∨ c = s1.heap.objs.size ∨ c = s1.heap.objs.size + 1 := by simpa using hcm
      have hle : s1.heap.objs.size ≤ c := by
        rcases e' with z | z | z | z | z <;> rw [z] <;> first | exact Nat.le_add_right _ _ | exact Nat.le_refl _
      exact I1.fpOk hle (I1.hok.fresh hle)
def asLT (ds : List PyData) (k : List PyData → List PyData → Prop) : Prop := match ds with | [.list xs, .tuple ys] => k xs ys | _ => False
theorem asLT_inv {ds : List PyData} {k : List PyData → List PyData → Prop} (h : asLT ds k) : ∃ xs ys, ds = [.list xs, .tuple ys] ∧ k xs ys := by
  unfold asLT at h
  split at h
  · exact ⟨_, _, rfl, h⟩
  · exact h.elim
def zipM (dr : TND) : TND := fun ρ Q => dr ρ fun ds ρ1 => asLT ds fun xs ys => Q (zipD xs ys) ρ1
theorem di_zipM {e2 : Expr} {tr : TA} {dr : TND} {p tpos : Pos} {elts : List Expr} {kk : Nat} (hm : X.mg "zip" = none) (ha : DA C [e, e2] tr dr) (hg : Gl X "zip" := by rfl) (hs : starEach [e, e2] X.env = (false, eval e X.env) :: starEach [e2] X.env := by rfl) (hpl : (backTo pos (starEach [e2] X.env)).any (·.1) = false := by rfl) :
    DI C (.Tuple elts kk tpos) (.Call (.Name "zip" p) [e, e2] [] pos) (iZipM X.K tr) (zipM dr) := by
  refine ⟨pi_zipM hg hm ha.pa hs hpl, fun w σ ρ Q QD hA I q k => ?_⟩
  refine ha.run w σ ρ _ _ hA I q fun vs ds w1 ρ1 s1 I1 R1 q1 => ?_
  obtain ⟨xs, ys, rfl, q2⟩ := asLT_inv q1
  cases R1 with
  | cons r R1 =>
    cases R1 with
    | cons r' R1 =>
      cases R1
      cases r with
      | lst hg1 hr1 =>
        cases r' with
        | tup hg2 hr2 =>
          rename_i l us m ws
          have len : (zipD xs ys).length = min us.length ws.length := by unfold zipD; rw [List.length_map, List.length_zip, hr1.len, hr2.len]
          refine ⟨l, m, us, ws, rfl, SqL.of (I1.gh _ _ hg1), sqt_mono I1.gh hg2, k (ItzM X.K l m) (zipD xs ys) w1 ρ1 s1 I1 ⟨fun i H hi s => ?_, fun H s => ⟨us, ws, SqL.of (s _ _ hg1), sqt_mono s hg2, by rw [len]; omega, by rw [len]; omega, by rw [len]; omega⟩, fun i H x H' hi s y => ?_⟩ q2⟩
          · rw [len] at hi
            have h1 : i < us.length := by omega
            have h2 : i < ws.length := by omega
            exact ⟨us, ws, us[i], ws[i], SqL.of (s _ _ hg1), sqt_mono s hg2, by simp [h1], by simp [h2]⟩
          · obtain ⟨T, u, v, rfl, hT, rfl, hx, hy⟩ := y
            obtain ⟨d, hd, rd⟩ := hr1.get' (hx us (SqL.of (s _ _ hg1)))
            obtain ⟨d', hd', rd'⟩ := hr2.get' (hy ws (sqt_mono s hg2))
            refine ⟨.tuple [d, d'], ?_, .inr ⟨T, u, v, d, d', rfl, hT, rfl, rfl, rd, rd'⟩⟩
            unfold zipD
            rw [List.getElem?_map, (List.getElem?_zip_eq_some (z := (d, d'))).mpr ⟨hd, hd'⟩]
            rfl
end
end DL

end
section
set_option maxHeartbeats 4000000
/-! DLU: a dict of a frame's own: keys tuples of ints, values ints. -/
namespace DL
open PySem PySem.Spec PyProof.Rows L2

/-- a key, the tuple's address, the value, its mark -/
abbrev Ent := List Int × Addr × Int × Tok
def iK (ks : List Int) : List Key := ks.map Sum.inl
def entX (z : Ent) : List Key × Addr × Value := (iK z.1, z.2.1, .int z.2.2.1 z.2.2.2)
theorem iK_inj : ∀ {a b : List Int}, iK a = iK b → a = b
  | [], [], _ => rfl
  | [], _ :: _, h => by simp [iK] at h
  | _ :: _, [], h => by simp [iK] at h
  | x :: xs, y :: ys, h => by
    simp only [iK, List.map_cons, List.cons.injEq] at h
    rw [Sum.inl.inj h.1, iK_inj (a := xs) (b := ys) h.2]
theorem iK_V (ks : List Int) : (iK ks).map kV = ks.map V.int := by
  unfold iK
  rw [List.map_map]
  rfl
theorem entry_any (P P' : Program) (w w' : World) (z : Ent) : entryOfKey (tupleKind (mixKind P w)) (entX z) = entryOfKey (tupleKind (mixKind P' w')) (entX z) := by
  have h : tupleKeyHash (mixKind P w) (iK z.1) = tupleKeyHash (mixKind P' w') (iK z.1) := by
    unfold tupleKeyHash iK
    rw [List.map_map, List.map_map]
    rfl
  show (⟨tupleKeyHash (mixKind P w) (iK z.1), _, _⟩ : DictEntry) = ⟨tupleKeyHash (mixKind P' w') (iK z.1), _, _⟩
  rw [h]
/-- at a: a dict of these entries -/
def dtE (a : Addr) (L : List Ent) : HO := .ext fun h => ∃ (o : Obj) (es : Array DictEntry) (ep : Nat), h.get? a = some o ∧ o.ExactDict ∧ o.data = .dict es ep ∧
  (∀ (P : Program) (w : World), es.toList = (L.map entX).map (entryOfKey (tupleKind (mixKind P w)))) ∧ ((L.map entX).map (·.1)).Nodup
theorem dtE_ok {P : Program} {w : World} {H : Hp} {h : Heap} {a : Addr} {L : List Ent} {o : Obj} {es : Array DictEntry} {ep : Nat} (h1 : h.get? a = some o) (h2 : o.ExactDict) (h3 : o.data = .dict es ep)
    (h4 : es.toList = (L.map entX).map (entryOfKey (tupleKind (mixKind P w)))) (h5 : ((L.map entX).map (·.1)).Nodup) : ObjOk P w H h a (dtE a L) := by
  refine ⟨⟨o, es, ep, h1, h2, h3, fun P' w' => ?_, h5⟩, ⟨o, h1⟩, fun g1 g2 ⟨o, es, ep, e1, r⟩ k => ⟨o, es, ep, k _ e1, r⟩⟩
  rw [h4, List.map_map, List.map_map]
  exact List.map_congr_left fun z _ => entry_any P P' w w' z
/-- the keys' tuples stand -/
def EntT (K : PySem.W.Frag) (H : Hp) (L : List Ent) : Prop := ∀ z ∈ L, SqT K H z.2.1 (z.1.map V.int)
section
variable {X : Cx} {pins : List (Addr × Obj)} {σ : L2.St} {H : Hp} {s : Shared} {a b : Addr} {ks : List Int} {L : List Ent} {A : Around} {E : Value → Shared → Prop}
theorem key_ofT (I : Inv X pins σ H s) (h : SqT X.K H b (ks.map V.int)) : (tupleKind (mixKind X.prog X.w)).is s.heap (iK ks) b := by
  obtain ⟨its, r, ⟨o, h1, h2, n, h3⟩, _⟩ := I.tuple h
  exact ⟨o, its.toArray, n, h1, h2, h3, by simpa using items_are (ks := iK ks) (by rw [iK_V]; exact r)⟩
theorem dtE_dict (I : Inv X pins σ H s) (e : H a = some (dtE a L)) (t : EntT X.K H L) : s.heap.DictOfH (tupleKind (mixKind X.prog X.w)) a (L.map entX) := by
  obtain ⟨⟨o, es, ep, h1, h2, h3, h4, h5⟩, _, _⟩ := I.hok a _ e
  refine ⟨o, es, ep, h1, h2, h3, h4 _ _, fun x hx => ?_, h5⟩
  obtain ⟨z, hz, rfl⟩ := List.mem_map.mp hx
  exact key_ofT I (t z hz)
end
/-- the keys and values -/
def entY (z : Ent) : List Int × Int := (z.1, z.2.2.1)
def lk (es : List (List Int × Int)) (k : List Int) : Option Int := (es.find? fun e => decide (e.1 = k)).map (·.2)
theorem at_lk (k : List Int) : ∀ L : List Ent, (∃ p n t, atKey (L.map entX) (iK k) = some p ∧ lk (L.map entY) k = some n ∧ p.2 = .int n t) ∨ (atKey (L.map entX) (iK k) = none ∧ lk (L.map entY) k = none)
  | [] => .inr ⟨rfl, rfl⟩
  | z :: L => by
    by_cases h : z.1 = k
    · refine .inl ⟨(z.2.1, .int z.2.2.1 z.2.2.2), z.2.2.1, z.2.2.2, ?_, ?_, rfl⟩
      · unfold atKey
        rw [List.map_cons, List.find?_cons_of_pos (by simp [entX, h])]
        rfl
      · unfold lk
        rw [List.map_cons, List.find?_cons_of_pos (by simp [entY, h])]
        rfl
    · have h1 : atKey ((z :: L).map entX) (iK k) = atKey (L.map entX) (iK k) := by
        unfold atKey
        rw [List.map_cons, List.find?_cons_of_neg]
        exact fun q => h (iK_inj (of_decide_eq_true q))
      have h2 : lk ((z :: L).map entY) k = lk (L.map entY) k := by
        unfold lk
        rw [List.map_cons, List.find?_cons_of_neg]
        exact fun q => h (of_decide_eq_true q)
      rw [h1, h2]
      exact at_lk k L
/-- such a dict in a slot -/
def dctR (es : List (List Int × Int)) : Res where
  P := fun K G H a fp => fp = [a] ∧ (a == sysModules) = false ∧ ∃ L : List Ent, H a = some (dtE a L) ∧ L.map entY = es ∧ EntT K G L
  keep := fun {K G H G' H' a fp} s k ⟨h1, h2, L, h3, h4, h5⟩ => ⟨h1, h2, L, k a (by rw [h1]; exact List.mem_cons_self) _ h3, h4, fun z hz => sqt_mono s (h5 z hz)⟩
/-! ### the operations -/
def rNotD (K : PySem.W.Frag) : R2 := fun x y H Q => ∃ (b a : Addr) (ks : List Int) (L : List Ent), x = .ref b ∧ y = .ref a ∧ (a == sysModules) = false ∧ H a = some (dtE a L) ∧ EntT K H L ∧ SqT K H b (ks.map V.int) ∧ Q (.bl (!(lk (L.map entY) ks).isSome)) H
theorem op_notD {X : Cx} (hu : X.A.units + 1 < cLine) : OpR X (compareOp .NotIn) (rNotD X.K) := by
  intro pins s σ H x y v u Q I rx ry ⟨b, a, ks, L, e1, e2, hs, e, t, tb, q⟩
  subst e1 e2
  obtain rfl : v = Value.ref b := rx
  obtain rfl : u = Value.ref a := ry
  refine wpAny_notIn_heap (tupleKind_room_in1 hu) (key_ofT I tb) hs (dtE_dict I e t) ?_
  have es : (atKey (L.map entX) (iK ks)).isSome = (lk (L.map entY) ks).isSome := by
    rcases at_lk ks L with ⟨p, n, t, h1, h2, _⟩ | ⟨h1, h2⟩
    · rw [h1, h2]; rfl
    · rw [h1, h2]; rfl
  rw [es]
  exact ⟨.bl (!(lk (L.map entY) ks).isSome), H, I.tok _, rfl, q⟩
def tGetD (K : PySem.W.Frag) (td ty : TE) : TE := fun σ H Q => td σ H fun x H1 => ty σ H1 fun y H2 => ∃ (b a : Addr) (ks : List Int) (L : List Ent) (n : Int), x = .ref a ∧ y = .ref b ∧ H2 a = some (dtE a L) ∧ EntT K H2 L ∧ SqT K H2 b (ks.map V.int) ∧ lk (L.map entY) ks = some n ∧ Q (.int n) H2
theorem pe_getD {X : Cx} {o i : Expr} {td ty : TE} {pos : Pos} (hu : X.A.units + 1 < cLine) (ho : PE X o td) (hi : PE X i ty) (hs : NoSl i) : PE X (.Subscript o i pos) (tGetD X.K td ty) := by
  refine ⟨fun pins s σ H Q I h => ?_⟩
  refine subD_of PySem.F.slot_dict_getitem.lookup hs (thn (ho.run pins s σ H _ I h) fun u s1 ⟨x, H1, I1, rx, q1⟩ => thn (hi.run pins s1 σ H1 _ I1 q1) fun iv s2 ⟨y, H2, I2, ry, b, a, ks, L, n, e1, e2, e, t, tb, hl, q2⟩ => ?_)
  subst e1 e2
  obtain rfl : u = Value.ref a := rx
  obtain rfl : iv = Value.ref b := ry
  have dd := dtE_dict I2 e t
  refine ⟨?_, ?_⟩
  · obtain ⟨o, _, _, h1, h2, _⟩ := dd
    exact ⟨o, h1, h2.1⟩
  · rcases at_lk ks L with ⟨p, n', t', h1, h2, h3⟩ | ⟨_, h2⟩
    · rw [h2] at hl
      cases hl
      refine wpAny_getItem_heap (tupleKind_room_in1 hu) (key_ofT I2 tb) dd h1 ?_
      rw [h3]
      exact ⟨.int n, H2, I2.tok _, ⟨t', rfl⟩, q2⟩
    · rw [h2] at hl
      cases hl
def rSetD (K : PySem.W.Frag) : V → V → V → Hp → (Hp → Prop) → Prop := fun o i v H Q => ∃ (a b : Addr) (ks : List Int) (n : Int) (L : List Ent), o = .ref a ∧ i = .ref b ∧ v = .int n ∧ H a = some (dtE a L) ∧ EntT K H L ∧ SqT K H b (ks.map V.int) ∧ L.length < 1000000 ∧ lk (L.map entY) ks = none ∧
  ∀ t, Q (upd H a (dtE a (L ++ [(ks, b, n, t)])))
theorem set_dictE {X : Cx} (hu : X.A.units + 1 < cLine) : PSet X (rSetD X.K) := by
  intro pins s σ H o i v ov iv u Q I ro ri rv ⟨a, b, ks, n, L, e1, e2, e3, e, t, tb, hl, hk, q⟩
  subst e1 e2 e3
  obtain rfl : ov = Value.ref a := ro
  obtain rfl : iv = Value.ref b := ri
  obtain ⟨tk, rfl⟩ := rv
  have dd := dtE_dict I e t
  have hn : atKey (L.map entX) (iK ks) = none := by
    rcases at_lk ks L with ⟨p, n', t', h1, h2, h3⟩ | ⟨h1, _⟩
    · rw [h2] at hk; cases hk
    · exact h1
  refine wpAny_setItem_heap (hsz := by rw [List.length_map, sizeLine_eq]; omega) (tupleKind_room_in1 hu) (key_ofT I tb) dd fun h' dd' hs => ?_
  rw [storedH_new hn] at dd'
  obtain ⟨ob, es, ep, hq, h2, h3, h4, _, h5⟩ := dd'
  have eL : L.map entX ++ [(iK ks, b, Value.int n tk)] = (L ++ [(ks, b, n, tk)]).map entX := by rw [List.map_append]; rfl
  rw [eL] at h4 h5
  exact ⟨_, d_write I (by rw [e]; exact True.intro) hs ⟨ob, hq⟩ (dtE_ok hq h2 h3 h4 h5), q tk⟩
def tNewD : TE := fun _ H Q => ∀ p, H p = none → (p == sysModules) = false → Q (.ref p) (upd H p (dtE p []))
theorem pe_newD {X : Cx} {pos : Pos} : PE X (.Dict [] [] pos) tNewD := ⟨fun pins s σ H Q I h =>
  wpAny_Dict_empty ⟨.ref s.heap.objs.size, _, I.laid (a := s.heap.objs.size) (o := dtE s.heap.objs.size []) (t' := s.toks) (fun _ _ q => Heap.get?_push_of_some _ q) (Nat.le_refl _)
    (dtE_ok (L := []) (Heap.get?_push_size _ rfl) ⟨rfl, rfl, rfl⟩ rfl rfl List.nodup_nil), rfl, h _ (I.hok.fresh (Nat.le_refl _)) (beq_eq_false_iff_ne.mpr (Ne.symm (Nat.ne_of_lt I.big)))⟩⟩

/-! ### over data -/
section
variable {X : Cx} {C : DC X} {e iv : Expr} {te ti : TE} {de di : TED} {pos spos tpos : Pos} {y : Str} {py : Pos}
/-- the slot's dict -/
def dctK (ρ : DSt) (i : Nat) (k : List (List Int × Int) → Prop) : Prop := ∃ es, ρ[i]? = some (.res false (dctR es)) ∧ k es
def asInts (x : PyData) (k : List Int → Prop) : Prop := ∃ ks : List Int, x = .tuple (ks.map PyData.int) ∧ k ks
theorem dct_at {K : PySem.W.Frag} {P : Par} {w : Wd} {σ : L2.St} {ρ : DSt} {i : Nat} {es : List (List Int × Int)} (I : FI K P w σ ρ) (h : ρ[i]? = some (.res false (dctR es))) :
    ∃ a L, σ[i]? = some (some (.ref a)) ∧ w.F i = [a] ∧ (a == sysModules) = false ∧ w.H a = some (dtE a L) ∧ L.map entY = es ∧ EntT K w.G L := by
  obtain ⟨a, h1, ⟨h2, h3, L, h4, h5, h6⟩, _⟩ := I.ok i _ h
  exact ⟨a, L, h1, h2, h3, h4, h5, h6⟩
theorem ent_up {K : PySem.W.Frag} {G H : Hp} {L : List Ent} (s : Same G H) (h : EntT K G L) : EntT K H L := fun z hz => sqt_mono s (h z hz)
theorem ints_invU {K : PySem.W.Frag} {G : Hp} : ∀ {is : List Int} {vs : List V}, Reps K G vs (is.map PyData.int) → vs = is.map V.int
  | [], _, .nil => rfl
  | i :: is, _, .cons (v := v) r rr => by
    cases r
    rw [ints_invU rr]
    rfl
theorem tup_ints {K : PySem.W.Frag} {w : Wd} {v : V} {ks : List Int} (h : Top K w v (.tuple (ks.map PyData.int))) : ∃ b, v = .ref b ∧ SqT K w.G b (ks.map V.int) := by
  have h : Rep K w.G v (.tuple (ks.map PyData.int)) := h
  cases h with
  | tup hs hr =>
    rw [ints_invU hr] at hs
    exact ⟨_, rfl, hs⟩
def dNotD (i : Nat) (de : TED) : TED := fun ρ Q => de ρ fun r ρ1 => vw ρ1 r fun x => asInts x fun ks => dctK ρ1 i fun es => Q (.d (.bool (!(lk es ks).isSome))) ρ1
theorem de_notD (i : Nat) (h : DE C e te de) (hN : X.N[i]? = some y := by rfl) (hv : Vis X.env.scope y := by first | exact Or.inl rfl | exact Or.inr (Or.inl rfl) | exact Or.inr (Or.inr rfl)) (hd : (y == ("__debug__" : Str)) = false := by decide) (hcd : (y == ("__classdict__" : Str)) = false := by decide) :
    DE C (.Compare e [.NotIn] [.Name y py] pos) (tOp (rNotD X.K) te (tVar i)) (dNotD i de) := by
  refine ⟨pe_cmpR (op_notD (by have := C.un; omega)) h.pe (pe_var hN hv hd hcd) rfl, fun w σ ρ Q QD hA I q k => ?_⟩
  refine h.run w σ ρ _ _ hA I q fun v r w1 ρ1 s1 I1 R1 q1 => ?_
  obtain ⟨x, tx, ks, rfl, es, e0, q2⟩ := vw_top I1 R1 q1
  obtain ⟨a, L, h1, h2, h3, h4, h5, h6⟩ := dct_at I1 e0
  obtain ⟨b, rfl, hb⟩ := tup_ints tx
  refine ⟨_, h1, b, a, ks, L, rfl, rfl, h3, h4, ent_up I1.gh h6, sqt_mono I1.gh hb, ?_⟩
  rw [h5]
  exact k _ (.d (.bool _)) w1 ρ1 s1 I1 (.bl _) q2
theorem dt_notD (i : Nat) (h : DE C e te de) (hN : X.N[i]? = some y := by rfl) (hv : Vis X.env.scope y := by first | exact Or.inl rfl | exact Or.inr (Or.inl rfl) | exact Or.inr (Or.inr rfl)) (hd : (y == ("__debug__" : Str)) = false := by decide) (hcd : (y == ("__classdict__" : Str)) = false := by decide) :
    DT C (.Compare e [.NotIn] [.Name y py] pos) (tTest (tOp (rNotD X.K) te (tVar i))) (dTest (dNotD i de)) :=
  ⟨pt_cmpR (op_notD (by have := C.un; omega)) h.pe (pe_var hN hv hd hcd) rfl, test_run (de_notD (py := py) (pos := pos) i h hN hv hd hcd)⟩
def dGetD (i : Nat) (di : TED) : TED := fun ρ Q => dctK ρ i (fun _ => True) ∧ di ρ fun r ρ1 => vw ρ1 r fun x => asInts x fun ks => dctK ρ1 i fun es => ∃ n, lk es ks = some n ∧ Q (.d (.int n)) ρ1
theorem de_getD (i : Nat) (h : DE C iv ti di) (hs : NoSl iv := by intro _ _; rfl) (hN : X.N[i]? = some y := by rfl) (hv : Vis X.env.scope y := by first | exact Or.inl rfl | exact Or.inr (Or.inl rfl) | exact Or.inr (Or.inr rfl)) (hd : (y == ("__debug__" : Str)) = false := by decide) (hcd : (y == ("__classdict__" : Str)) = false := by decide) :
    DE C (.Subscript (.Name y py) iv pos) (tGetD X.K (tVar i) ti) (dGetD i di) := by
  refine ⟨pe_getD (by have := C.un; omega) (pe_var hN hv hd hcd) h.pe hs, fun w σ ρ Q QD hA I q k => ?_⟩
  obtain ⟨⟨es0, e0, _⟩, q⟩ := q
  obtain ⟨a, L0, g1, _⟩ := dct_at I e0
  refine ⟨_, g1, ?_⟩
  refine h.run w σ ρ _ _ hA I q fun v r w1 ρ1 s1 I1 R1 q1 => ?_
  obtain ⟨x, tx, ks, rfl, es, e1, n, hl, q2⟩ := vw_top I1 R1 q1
  obtain ⟨a', L, h1, h2, h3, h4, h5, h6⟩ := dct_at I1 e1
  rw [g1] at h1
  cases h1
  obtain ⟨b, rfl, hb⟩ := tup_ints tx
  exact ⟨b, a, ks, L, n, rfl, rfl, h4, ent_up I1.gh h6, sqt_mono I1.gh hb, by rw [h5]; exact hl, k _ (.d (.int n)) w1 ρ1 s1 I1 (.int n) q2⟩
/-- slot i's dict gets a new key -/
theorem FI.putD {K : PySem.W.Frag} {P : Par} {w : Wd} {σ : L2.St} {ρ : DSt} (I : FI K P w σ ρ) {i : Nat} {es : List (List Int × Int)} {a : Addr} {L : List Ent} {z : Ent} (h : ρ[i]? = some (.res false (dctR es))) (ha : σ[i]? = some (some (.ref a))) (hs : (a == sysModules) = false) (hL : L.map entY = es) (ht : EntT K w.G (L ++ [z])) :
    FI K P ⟨w.G, upd w.H a (dtE a (L ++ [z])), w.F⟩ σ (ρ.set i (.res false (dctR (es ++ [entY z])))) ∧ Stp w ⟨w.G, upd w.H a (dtE a (L ++ [z])), w.F⟩ := by
  obtain ⟨a', h1, ⟨h2, _⟩, hN⟩ := I.ok i _ h
  rw [ha] at h1
  cases h1
  have hm : a ∈ w.F i := by rw [h2]; exact List.mem_cons_self
  have hlt : i < ρ.length := (List.getElem?_eq_some_iff.mp h).1
  have nw : ∀ b o, b ≠ a → w.H b = some o → upd w.H a (dtE a (L ++ [z])) b = some o := fun b o n e => by rw [upd_ne n]; exact e
  refine ⟨⟨fun b u e => ?_, by rw [List.length_set]; exact I.len, fun j s e => ?_, fun j hj => I.out j (by rw [← List.length_set (as := ρ)]; exact hj), fun j b hb => ⟨(I.foot j b hb).1, there_new b (I.foot j b hb).2⟩, I.sep⟩,
    ⟨fun _ _ h => h, fun _ _ h _ => h, fun b o e n => nw b o (fun z => n i (by rw [z]; exact hm)) e, fun b e => there_new b e, fun j b hb => .inl hb⟩⟩
  · exact nw b u (fun z => by rw [z, (I.foot i a hm).1] at e; cases e) (I.gh b u e)
  · by_cases hj : i = j
    · subst hj
      rw [List.getElem?_set_self hlt] at e
      cases e
      exact ⟨a, ha, ⟨h2, hs, L ++ [z], upd_same, by rw [List.map_append, hL]; rfl, ht⟩, hN⟩
    · rw [List.getElem?_set_ne hj] at e
      exact (I.ok j s e).go (fun _ _ h => h) fun b hb o e => nw b o (fun z => I.sep j i b (Ne.symm hj) hb (by rw [z]; exact hm)) e
def asInt0 (x : PyData) (k : Int → Prop) : Prop := ∃ n, x = .int n ∧ k n
/-- places[key] = value, a new key -/
def sPutD (i : Nat) (de di : TED) : TSD := fun D ρ => de ρ fun r ρ1 => vw ρ1 r fun x => asInt0 x fun n => dctK ρ1 i (fun _ => True) ∧ di ρ1 fun r2 ρ2 => vw ρ2 r2 fun y => asInts y fun ks => dctK ρ2 i fun es => es.length < 1000000 ∧ lk es ks = none ∧ D.nx (ρ2.set i (.res false (dctR (es ++ [(ks, n)]))))
theorem ds_putD (i : Nat) (h : DE C e te de) (hix : DE C iv ti di) (hN : X.N[i]? = some y := by rfl) (hv : Vis X.env.scope y := by first | exact Or.inl rfl | exact Or.inr (Or.inl rfl) | exact Or.inr (Or.inr rfl)) (hd : (y == ("__debug__" : Str)) = false := by decide) (hcd : (y == ("__classdict__" : Str)) = false := by decide)
    (hsub : ∀ v, assign (.Subscript (.Name y py) iv tpos) X.env v = (do
      let ov ← holding [v] (eval (.Name y py) X.env)
      let iv ← holding [v, ov] (eval iv X.env)
      standAt tpos
      holding [v, ov, iv] (setItem ov iv v)
      release [v, ov, iv] []) := by intro _; rfl)
    (hs : swapsWithSole [.Subscript (.Name y py) iv tpos] e spos.line X.env = pure false := by rfl) (hw : swappedStores [.Subscript (.Name y py) iv tpos] e X.env = pure none := by rfl)
    (h1 : (assignEach [.Subscript (.Name y py) iv tpos] X.env).map (·.2) = [assign (.Subscript (.Name y py) iv tpos) X.env] := by rfl) :
    DS C (.Assign [.Subscript (.Name y py) iv tpos] e spos) (tAsg te (gSub (tVar i) ti (rSetD X.K))) (sPutD i de di) := by
  refine ⟨ps_asg h.pe (pg_sub (pe_var hN hv hd hcd) hix.pe (set_dictE (by have := C.un; omega)) hsub) hs hw h1, fun w σ ρ D DD hA I q k => ?_⟩
  refine h.run w σ ρ _ _ hA I q fun u r1 w1 ρ1 s1 I1 R1 q1 => ?_
  obtain ⟨x, tx, n, rfl, ⟨es0, e0, _⟩, q2⟩ := vw_top I1 R1 q1
  cases (show Rep X.K w1.G u (.int n) from tx)
  obtain ⟨a, L0, g1, _⟩ := dct_at I1 e0
  refine ⟨_, g1, ?_⟩
  refine hix.run w1 σ ρ1 _ _ (C.cl _ _ hA s1) I1 q2 fun v2 r2 w2 ρ2 s2 I2 R2 q3 => ?_
  obtain ⟨y', ty, ks, rfl, es, e1, hl, hk, q4⟩ := vw_top I2 R2 q3
  obtain ⟨a', L, f1, f2, f3, f4, f5, f6⟩ := dct_at I2 e1
  rw [g1] at f1
  cases f1
  obtain ⟨b, rfl, hb⟩ := tup_ints ty
  refine ⟨a, b, ks, n, L, rfl, rfl, rfl, f4, ent_up I2.gh f6, sqt_mono I2.gh hb, by rw [← f5, List.length_map] at hl; exact hl, by rw [f5]; exact hk, fun t => ?_⟩
  obtain ⟨I3, s3⟩ := FI.putD (z := (ks, b, n, t)) I2 e1 g1 f3 f5 (fun z hz => by
    rcases List.mem_append.mp hz with hz | hz
    · exact f6 z hz
    · have : z = (ks, b, n, t) := by simpa using hz
      subst this
      exact hb)
  exact k.nx ⟨w2.G, upd w2.H a (dtE a (L ++ [(ks, b, n, t)])), w2.F⟩ σ _ ((s1.trans s2).trans s3) I3 q4
/-- a, b = [..], {} -/
def sParD (i j : Nat) (t : TND) : TSD := fun D ρ => t ρ fun ds ρ1 => i < ρ1.length ∧ j < ρ1.length ∧ D.nx ((ρ1.set i (.own false ds)).set j (.res false (dctR [])))
theorem ds_parD {i j : Nat} {x : Str} {px pt pd : Pos} {kt k2 pt2} {a : Expr} {ta : TE} {t : TND} (ha : DN C a ta t) (hi : X.N[i]? = some x := by rfl) (hj : X.N[j]? = some y := by rfl) (hij : i ≠ j := by decide)
    (hx : X.env.scope.names.lookup x = some .local := by rfl) (hy : X.env.scope.names.lookup y = some .local := by rfl)
    (hw : swappedStores [.Tuple [.Name x px, .Name y py] kt pt] (.Tuple [a, .Dict [] [] pd] k2 pt2) X.env = pure (some [x, y]) := by rfl)
    (hs : swapsWithSole [.Tuple [.Name x px, .Name y py] kt pt] (.Tuple [a, .Dict [] [] pd] k2 pt2) pos.line X.env = pure false := by rfl)
    (h1 : starEach [a, .Dict [] [] pd] X.env = (false, eval a X.env) :: starEach [.Dict [] [] pd] X.env := by rfl) (h2 : starEach [.Dict [] [] pd] X.env = (false, eval (.Dict [] [] pd) X.env) :: starEach [] X.env := by rfl) :
    DS C (.Assign [.Tuple [.Name x px, .Name y py] kt pt] (.Tuple [a, .Dict [] [] pd] k2 pt2) pos) (tPar i j (tCons ta (tCons tNewD tNil))) (sParD i j t) := by
  refine ⟨ps_par C.calm C.nd hi hj hij hx hy (pa_cons ha.pe (pa_cons pe_newD pa_nil h2) h1) hw hs, fun w σ ρ D DD hA I q k => ?_⟩
  refine ha.run w σ ρ _ _ hA I q fun c vs ds w1 ρ1 s1 I1 n0 hg hf hh hr q1 => ?_
  obtain ⟨q2, q3, q4⟩ := q1
  intro p hp hsy
  have hA1 := C.cl _ _ hA s1
  have hpc : p ≠ c := fun z => by rw [z, hh] at hp; cases hp
  obtain ⟨I2, s2⟩ := FI.air I1 (o := dtE p []) hp
  have hgp := (I1.fresh hp).1
  have hfp : ∀ k, p ∉ w1.F k := fun k z => (I1.fresh hp).2 k p z rfl
  have hh2 : (upd w1.H p (dtE p [])) c = some (.lst vs) := by rw [upd_ne (Ne.symm hpc)]; exact hh
  have z1 := I2.setOwn (i := i) hf hg hh2 hr (C.nw w c hA n0) q2
  have hfp2 : ∀ b ∈ [p], ∀ k, b ∉ (if k = i then [c] else w1.F k) := fun b hb k => by
    have : b = p := by simpa using hb
    subst this
    split
    · simpa using hpc
    · exact hfp k
  have z2 := z1.setRes (i := j) (a := p) (r := dctR []) (fp := [p]) hfp2 (fun b hb => by
      have : b = p := by simpa using hb
      subst this
      refine ⟨hgp, ?_⟩
      show upd w1.H b (dtE b []) b ≠ none
      rw [upd_same]
      exact fun z => nomatch z) ⟨rfl, hsy, [], upd_same, rfl, fun z hz => nomatch hz⟩ (fun b hb => by
      have : b = p := by simpa using hb
      subst this
      exact C.nw w1 b hA1 hp) (by rw [List.length_set]; exact q3)
  have s4 := s1.trans s2
  refine ⟨_, _, rfl, k.nx ⟨w1.G, upd w1.H p (dtE p []), fun k => if k = j then [p] else if k = i then [c] else w1.F k⟩ _ _ ⟨s4.g, s4.gf, s4.h, s4.t, fun k b hb => ?_⟩ z2 q4⟩
  have hb : b ∈ (if k = j then [p] else if k = i then [c] else w1.F k) := hb
  by_cases e : k = j
  · rw [if_pos e] at hb
    have : b = p := by simpa using hb
    subst this
    exact .inr (air_new s1 hp)
  · rw [if_neg e] at hb
    by_cases e2 : k = i
    · rw [if_pos e2] at hb
      have : b = c := by simpa using hb
      subst this
      exact .inr n0
    · rw [if_neg e2] at hb
      exact s1.f k b hb
end
end DL

end
namespace KK
/-! ### the numbers of a field, in plain -/
structure Nu where
  p : Int
  q : Int
  d : Int
  s : Int
def sg (s : Int) : Int := if s < 0 then -1 else 1
def gc (p q s : Int) : Int := (((p.natAbs.gcd q.natAbs).gcd s.natAbs : Nat) : Int)
def low (p q d s : Int) : Nu := ⟨sg s * p / gc p q s, sg s * q / gc p q s, if q = 0 then 0 else d, sg s * s / gc p q s⟩
theorem sg_sq (s : Int) : sg s * sg s = 1 := by unfold sg; split <;> rfl
theorem gc_pos {p q s : Int} (h : s ≠ 0) : 0 < gc p q s := by
  unfold gc
  have : 0 < (p.natAbs.gcd q.natAbs).gcd s.natAbs := Nat.gcd_pos_of_pos_right _ (by omega)
  omega
theorem gc_dp {p q s : Int} : gc p q s ∣ p := Int.ofNat_dvd_left.mpr (Nat.dvd_trans (Nat.gcd_dvd_left _ _) (Nat.gcd_dvd_left _ _))
theorem gc_dq {p q s : Int} : gc p q s ∣ q := Int.ofNat_dvd_left.mpr (Nat.dvd_trans (Nat.gcd_dvd_left _ _) (Nat.gcd_dvd_right _ _))
theorem gc_ds {p q s : Int} : gc p q s ∣ s := Int.ofNat_dvd_left.mpr (Nat.gcd_dvd_right _ _)
theorem back {g σ x : Int} (h : g ∣ x) (e : σ * σ = 1) : x = σ * g * (σ * x / g) := by
  obtain ⟨y, rfl⟩ := h
  by_cases hg : g = 0
  · subst hg; simp
  · have : σ * (g * y) / g = σ * y := by rw [Int.mul_left_comm, Int.mul_ediv_cancel_left _ hg]
    rw [this]
    grind
theorem low_spec {p q s : Int} (d : Int) (h : s ≠ 0) : ∃ k, k ≠ 0 ∧ p = k * (low p q d s).p ∧ q = k * (low p q d s).q ∧ s = k * (low p q d s).s ∧ 0 < (low p q d s).s := by
  have g0 := gc_pos (p := p) (q := q) h
  have e := sg_sq s
  have hs := back (gc_ds (p := p) (q := q) (s := s)) e
  have hk : sg s * gc p q s ≠ 0 := fun z => h (by rw [hs, z]; simp)
  refine ⟨sg s * gc p q s, hk, back gc_dp e, back gc_dq e, hs, ?_⟩
  show 0 < sg s * s / gc p q s
  have pos : 0 < sg s * s := by unfold sg; split <;> omega
  exact Int.ediv_pos_of_pos_of_dvd pos (by omega) (Int.dvd_mul_of_dvd_right gc_ds)
theorem gc_scale (k p q s : Int) : gc (k * p) (k * q) (k * s) = (k.natAbs : Int) * gc p q s := by
  unfold gc
  rw [Int.natAbs_mul, Int.natAbs_mul, Int.natAbs_mul, Nat.gcd_mul_left, Nat.gcd_mul_left, Int.natCast_mul]
theorem sg_scale {k s : Int} (hk : k ≠ 0) (hs : s ≠ 0) (x : Int) : sg (k * s) * (k * x) = (k.natAbs : Int) * (sg s * x) := by
  have key : sg (k * s) * k = (k.natAbs : Int) * sg s := by
    unfold sg
    rcases Int.lt_or_gt_of_ne hk with h1 | h1 <;> rcases Int.lt_or_gt_of_ne hs with h2 | h2
    · have := Int.mul_pos_of_neg_of_neg h1 h2
      rw [if_neg (by omega), if_pos h2]; omega
    · have := Int.mul_neg_of_neg_of_pos h1 h2
      rw [if_pos (by omega), if_neg (by omega)]; omega
    · have := Int.mul_neg_of_pos_of_neg h1 h2
      rw [if_pos (by omega), if_pos h2]; omega
    · have := Int.mul_pos h1 h2
      rw [if_neg (by omega), if_neg (by omega)]; omega
  rw [← Int.mul_assoc, key, Int.mul_assoc]
theorem low_scale {k p q s : Int} (d : Int) (hk : k ≠ 0) (hs : s ≠ 0) : low (k * p) (k * q) d (k * s) = low p q d s := by
  unfold low
  have kp : (0 : Int) < (k.natAbs : Int) := by omega
  rw [gc_scale, sg_scale hk hs, sg_scale hk hs, sg_scale hk hs, Int.mul_ediv_mul_of_pos _ _ kp, Int.mul_ediv_mul_of_pos _ _ kp, Int.mul_ediv_mul_of_pos _ _ kp]
  have : (k * q = 0) ↔ (q = 0) := by rw [Int.mul_eq_zero]; simp [hk]
  simp only [this]
theorem low_d {p q d d' s : Int} (h : q ≠ 0 → d = d') : low p q d s = low p q d' s := by
  unfold low
  by_cases hq : q = 0
  · simp [hq]
  · simp [hq, h hq]
theorem low_eq {p q d s p' q' d' s' : Int} (hs : s ≠ 0) (hs' : s' ≠ 0) (e1 : p * s' = p' * s) (e2 : q * s' = q' * s) (e3 : q ≠ 0 → d = d') : low p q d s = low p' q' d' s' := by
  rw [← low_scale d hs' hs, ← low_scale d' hs hs', Int.mul_comm s' p, Int.mul_comm s' q, e1, e2, Int.mul_comm s p', Int.mul_comm s q', Int.mul_comm s' s]
  refine low_d fun h => e3 fun z => h ?_
  rw [← e2, z, Int.zero_mul]
theorem low_dd {p q d s : Int} (hs : s ≠ 0) : (low p q d s).d = if (low p q d s).q = 0 then 0 else d := by
  obtain ⟨k, hk, _, h2, _⟩ := low_spec (p := p) (q := q) d hs
  have : (q = 0) ↔ ((low p q d s).q = 0) := by
    constructor
    · intro h; rw [h] at h2; rcases Int.mul_eq_zero.mp h2.symm with z | z; exact absurd z hk; rw [h]; exact z
    · intro h; rw [h2, h, Int.mul_zero]
  show (if q = 0 then 0 else d) = _
  simp only [this]
/-! signs -/
def sgi (x : Int) : Int := if 0 < x then 1 else if x < 0 then -1 else 0
def sos (p q d : Int) : Int := if sgi p = (if 0 < d then sgi q else 0) ∨ (if 0 < d then sgi q else 0) = 0 then sgi p else if sgi p = 0 then (if 0 < d then sgi q else 0) else if 0 < p * p - q * q * d then sgi p else (if 0 < d then sgi q else 0)
theorem sgi_pos {x : Int} (h : 0 < x) : sgi x = 1 := by unfold sgi; rw [if_pos h]
theorem sgi_neg {x : Int} (h : x < 0) : sgi x = -1 := by unfold sgi; rw [if_neg (by omega), if_pos h]
theorem sgi_mul (x y : Int) : sgi (x * y) = sgi x * sgi y := by
  rcases Int.lt_trichotomy x 0 with h1 | h1 | h1 <;> rcases Int.lt_trichotomy y 0 with h2 | h2 | h2
  · rw [sgi_neg h1, sgi_neg h2, sgi_pos (Int.mul_pos_of_neg_of_neg h1 h2)]; rfl
  · subst h2; simp [sgi]
  · rw [sgi_neg h1, sgi_pos h2, sgi_neg (Int.mul_neg_of_neg_of_pos h1 h2)]; rfl
  · subst h1; simp [sgi]
  · subst h1; simp [sgi]
  · subst h1; simp [sgi]
  · rw [sgi_pos h1, sgi_neg h2, sgi_neg (Int.mul_neg_of_pos_of_neg h1 h2)]; rfl
  · subst h2; simp [sgi]
  · rw [sgi_pos h1, sgi_pos h2, sgi_pos (Int.mul_pos h1 h2)]; rfl
theorem sgi_z {x : Int} : sgi x = 0 ↔ x = 0 := by unfold sgi; split <;> (try split) <;> omega
theorem sos_P {p q d : Int} (hd : 0 < d) (h : 0 < p * p - q * q * d) : sos p q d = sgi p := by
  unfold sos
  simp only [if_pos hd, if_pos h]
  have hp : sgi p ≠ 0 := fun z => by
    rw [sgi_z] at z; subst z
    have h1 : 0 ≤ q * q := by rcases Int.le_total 0 q with a | a; exact Int.mul_nonneg a a; exact Int.mul_nonneg_of_nonpos_of_nonpos a a
    have := Int.mul_nonneg h1 (Int.le_of_lt hd)
    omega
  split
  · rfl
  · simp [hp]
theorem sos_N {p q d : Int} (hd : 0 < d) (h : p * p - q * q * d < 0) : sos p q d = sgi q := by
  unfold sos
  simp only [if_pos hd, if_neg (show ¬ 0 < p * p - q * q * d by omega)]
  have hq : sgi q ≠ 0 := fun z => by
    rw [sgi_z] at z; subst z
    have h1 : 0 ≤ p * p := by rcases Int.le_total 0 p with a | a; exact Int.mul_nonneg a a; exact Int.mul_nonneg_of_nonpos_of_nonpos a a
    omega
  split
  · rename_i h; rcases h with h | h; exact h; exact absurd h hq
  · split <;> rfl
theorem sos_00 {d : Int} : sos 0 0 d = 0 := by unfold sos sgi; simp
theorem sq_nn (q : Int) : 0 ≤ q * q := by rcases Int.le_total 0 q with a | a; exact Int.mul_nonneg a a; exact Int.mul_nonneg_of_nonpos_of_nonpos a a
/-- |x| > |y|: x + y has x's sign -/
theorem dom {x y : Int} (h : y * y < x * x) : sgi (x + y) = sgi x := by
  have hx : x ≠ 0 := fun z => by subst z; have := sq_nn y; omega
  rcases Int.lt_or_gt_of_ne hx with a | a
  · have : x + y < 0 := by
      rcases Int.lt_or_le (x + y) 0 with b | b
      · exact b
      · have h1 : y - x > 0 := by omega
        have := Int.mul_nonneg b (Int.le_of_lt h1)
        have e : (x + y) * (y - x) = y * y - x * x := by grind
        omega
    rw [sgi_neg this, sgi_neg a]
  · have : 0 < x + y := by
      rcases Int.lt_or_le 0 (x + y) with b | b
      · exact b
      · have h1 : x - y > 0 := by omega
        have := Int.mul_nonneg (show 0 ≤ -(x + y) by omega) (Int.le_of_lt h1)
        have e : -(x + y) * (x - y) = y * y - x * x := by grind
        omega
    rw [sgi_pos this, sgi_pos a]
/-- d is no square: no p / q squared -/
def Irr (d : Int) : Prop := ∀ p q : Int, p * p = q * q * d → p = 0 ∧ q = 0
theorem sos_scale {k p q d : Int} (hd : 0 < d) (hk : 0 < k) (ir : Irr d) : sos (k * p) (k * q) d = sos p q d := by
  have kk := Int.mul_pos hk hk
  have e : (k * p) * (k * p) - (k * q) * (k * q) * d = (k * k) * (p * p - q * q * d) := by grind
  rcases Int.lt_trichotomy (p * p - q * q * d) 0 with h | h | h
  · have h2 := Int.mul_neg_of_pos_of_neg kk h
    rw [sos_N hd h, sos_N hd (by omega), sgi_mul, sgi_pos hk, Int.one_mul]
  · obtain ⟨rfl, rfl⟩ := ir p q (by omega)
    simp
  · have h2 := Int.mul_pos kk h
    rw [sos_P hd h, sos_P hd (by omega), sgi_mul, sgi_pos hk, Int.one_mul]
theorem sos_mul {p q p' q' d : Int} (hd : 0 < d) (ir : Irr d) : sos p q d * sos p' q' d = sos (p * p' + q * q' * d) (p * q' + q * p') d := by
  have e : (p * p' + q * q' * d) * (p * p' + q * q' * d) - (p * q' + q * p') * (p * q' + q * p') * d = (p * p - q * q * d) * (p' * p' - q' * q' * d) := by grind
  rcases Int.lt_trichotomy (p * p - q * q * d) 0 with h | h | h
  · rcases Int.lt_trichotomy (p' * p' - q' * q' * d) 0 with h' | h' | h'
    · have h2 := Int.mul_pos_of_neg_of_neg h h'
      rw [sos_N hd h, sos_N hd h', sos_P hd (by omega), ← sgi_mul]
      have hdq : sgi (q * q' * d) = sgi (q * q') := by rw [sgi_mul, sgi_pos hd, Int.mul_one]
      rw [← hdq, Int.add_comm]
      refine (dom ?_).symm
      have a1 := Int.mul_lt_mul_of_pos_left (show p' * p' < q' * q' * d by omega) (show 0 < q * q * d by have := sq_nn p; omega)
      have a2 := Int.mul_le_mul_of_nonneg_right (show p * p ≤ q * q * d by omega) (sq_nn p')
      have e1 : p * p' * (p * p') = p * p * (p' * p') := by grind
      have e2 : q * q' * d * (q * q' * d) = q * q * d * (q' * q' * d) := by grind
      omega
    · obtain ⟨rfl, rfl⟩ := ir p' q' (by omega)
      simp [sos_00]
    · have h2 := Int.mul_neg_of_neg_of_pos h h'
      rw [sos_N hd h, sos_P hd h', sos_N hd (by omega), ← sgi_mul, Int.add_comm]
      refine (dom ?_).symm
      have a1 := Int.mul_lt_mul_of_pos_left (show q' * q' * d < p' * p' by omega) (show 0 < q * q * d by have := sq_nn p; omega)
      have a2 := Int.mul_le_mul_of_nonneg_right (show p * p ≤ q * q * d by omega) (Int.mul_nonneg (sq_nn q') (Int.le_of_lt hd))
      have e1 : p * q' * (p * q') * d = p * p * (q' * q' * d) := by grind
      have e2 : q * p' * (q * p') * d = q * q * d * (p' * p') := by grind
      have : p * q' * (p * q') * d < q * p' * (q * p') * d := by omega
      exact Int.lt_of_mul_lt_mul_right this (Int.le_of_lt hd)
  · obtain ⟨rfl, rfl⟩ := ir p q (by omega)
    simp [sos_00]
  · rcases Int.lt_trichotomy (p' * p' - q' * q' * d) 0 with h' | h' | h'
    · have h2 := Int.mul_neg_of_pos_of_neg h h'
      rw [sos_P hd h, sos_N hd h', sos_N hd (by omega), ← sgi_mul]
      refine (dom ?_).symm
      have a1 := Int.mul_lt_mul_of_pos_left (show p' * p' < q' * q' * d by omega) (show 0 < p * p by have := Int.mul_nonneg (sq_nn q) (Int.le_of_lt hd); omega)
      have a2 := Int.mul_le_mul_of_nonneg_right (show q * q * d ≤ p * p by omega) (sq_nn p')
      have e1 : p * q' * (p * q') * d = p * p * (q' * q' * d) := by grind
      have e2 : q * p' * (q * p') * d = q * q * d * (p' * p') := by grind
      have : q * p' * (q * p') * d < p * q' * (p * q') * d := by omega
      exact Int.lt_of_mul_lt_mul_right this (Int.le_of_lt hd)
    · obtain ⟨rfl, rfl⟩ := ir p' q' (by omega)
      simp [sos_00]
    · have h2 := Int.mul_pos h h'
      rw [sos_P hd h, sos_P hd h', sos_P hd (by omega), ← sgi_mul]
      refine (dom ?_).symm
      have a1 := Int.mul_lt_mul_of_pos_left (show q' * q' * d < p' * p' by omega) (show 0 < p * p by have := Int.mul_nonneg (sq_nn q) (Int.le_of_lt hd); omega)
      have a2 := Int.mul_le_mul_of_nonneg_right (show q * q * d ≤ p * p by omega) (Int.mul_nonneg (sq_nn q') (Int.le_of_lt hd))
      have e1 : p * p' * (p * p') = p * p * (p' * p') := by grind
      have e2 : q * q' * d * (q * q' * d) = q * q * d * (q' * q' * d) := by grind
      omega
/-! no square -/
theorem irr_of {d π e : Int} (hd : d = π * e) (hπ : 1 < π) (h1 : ∀ n : Int, π ∣ n * n → π ∣ n) (h2 : ∀ n : Int, π ∣ n * n * e → π ∣ n) : Irr d := by
  have main : ∀ (m : Nat) (p q : Int), q.natAbs ≤ m → p * p = q * q * d → q = 0 := by
    intro m
    induction m with
    | zero => intro p q h _; omega
    | succ m ih =>
      intro p q h e0
      subst hd
      obtain ⟨p', rfl⟩ := h1 p ⟨q * q * e, by rw [e0]; grind⟩
      have e1 : π * (π * (p' * p')) = π * (q * q * e) := by grind
      have e2 := Int.eq_of_mul_eq_mul_left (by omega) e1
      obtain ⟨q', rfl⟩ := h2 q ⟨p' * p', e2.symm⟩
      have e3 : π * (π * (q' * q' * e)) = π * (p' * p') := by rw [e2]; grind
      have e4 := Int.eq_of_mul_eq_mul_left (by omega) e3
      by_cases z : q' = 0
      · rw [z, Int.mul_zero]
      · have hlt : q'.natAbs < (π * q').natAbs := by
          rw [Int.natAbs_mul]
          have : 1 < π.natAbs := by omega
          have := Nat.mul_lt_mul_of_pos_right this (show 0 < q'.natAbs by omega)
          omega
        have := ih p' q' (by omega) (by rw [← e4]; grind)
        exact absurd this z
  intro p q e0
  have hq := main q.natAbs p q (Nat.le_refl _) e0
  subst hq
  have : p * p = 0 := by rw [e0]; simp
  rcases Int.mul_eq_zero.mp this with z | z <;> exact ⟨z, rfl⟩
theorem mod_mul (π n k : Int) : (n * n * k) % π = ((n % π) * (n % π) * k) % π := by rw [Int.mul_emod (n * n), Int.mul_emod n n, ← Int.mul_emod, Int.mul_emod (n % π * (n % π))]
theorem m2 (n : Int) : n % 2 = 0 ∨ n % 2 = 1 := by omega
theorem irr2 : Irr 2 := by
  have key : ∀ n : Int, (2 : Int) ∣ n * n → (2 : Int) ∣ n := fun n h => by
    rw [Int.dvd_iff_emod_eq_zero] at h ⊢
    rcases m2 n with z | z
    · exact z
    · rw [Int.mul_emod, z] at h
      exact absurd h (by decide)
  exact irr_of (π := 2) (e := 1) rfl (by decide) key fun n h => key n (by rwa [Int.mul_one] at h)
theorem m3 (n : Int) : n % 3 = 0 ∨ n % 3 = 1 ∨ n % 3 = 2 := by omega
theorem irr3 : Irr 3 := irr_of (π := 3) (e := 1) rfl (by decide) (fun n h => by rw [Int.dvd_iff_emod_eq_zero] at *; rcases m3 n with z | z | z; exact z; all_goals (rw [Int.mul_emod, z] at h; cases h)) (fun n h => by rw [Int.mul_one] at h; rw [Int.dvd_iff_emod_eq_zero] at *; rcases m3 n with z | z | z; exact z; all_goals (rw [Int.mul_emod, z] at h; cases h))
theorem irr6 : Irr 6 := irr_of (π := 3) (e := 2) rfl (by decide) (fun n h => by rw [Int.dvd_iff_emod_eq_zero] at *; rcases m3 n with z | z | z; exact z; all_goals (rw [Int.mul_emod, z] at h; cases h)) (fun n h => by rw [Int.dvd_iff_emod_eq_zero] at *; rw [mod_mul] at h; rcases m3 n with z | z | z; exact z; all_goals (rw [z] at h; cases h))
theorem m5 (n : Int) : n % 5 = 0 ∨ n % 5 = 1 ∨ n % 5 = 2 ∨ n % 5 = 3 ∨ n % 5 = 4 := by omega
theorem irr5 : Irr 5 := irr_of (π := 5) (e := 1) rfl (by decide) (fun n h => by rw [Int.dvd_iff_emod_eq_zero] at *; rcases m5 n with z | z | z | z | z; exact z; all_goals (rw [Int.mul_emod, z] at h; cases h)) (fun n h => by rw [Int.mul_one] at h; rw [Int.dvd_iff_emod_eq_zero] at *; rcases m5 n with z | z | z | z | z; exact z; all_goals (rw [Int.mul_emod, z] at h; cases h))
end KK

set_option maxHeartbeats 1000000
namespace KK
/-! ### the order of p + q root d: sums, products -/
theorem sos_rg (p q d : Int) : sos p q d = -1 ∨ sos p q d = 0 ∨ sos p q d = 1 := by
  unfold sos sgi
  split <;> (try split) <;> (try split) <;> (try split) <;> (try split) <;> (try split) <;> omega
theorem sos_q00 (p d : Int) : sos p 0 d = sgi p := by
  unfold sos
  have : (if 0 < d then sgi 0 else 0) = 0 := by split <;> rfl
  rw [this]; simp
theorem sgi_ng (x : Int) : sgi (-x) = -sgi x := by unfold sgi; split <;> split <;> (try split) <;> omega
theorem sgi_p {x : Int} : sgi x = 1 ↔ 0 < x := by unfold sgi; split <;> (try split) <;> omega
theorem sgi_n {x : Int} : sgi x = -1 ↔ x < 0 := by unfold sgi; split <;> (try split) <;> omega
theorem sgi_0 {x : Int} : 0 ≤ sgi x ↔ 0 ≤ x := by unfold sgi; split <;> (try split) <;> omega
theorem sos_ng (p q d : Int) : sos (-p) (-q) d = -sos p q d := by
  have e : -p * -p - -q * -q * d = p * p - q * q * d := by grind
  unfold sos
  rw [sgi_ng, sgi_ng, e]
  generalize sgi p = a
  generalize p * p - q * q * d = N
  by_cases hd : 0 < d
  · simp only [if_pos hd]
    generalize sgi q = b
    split <;> split <;> (try split) <;> (try split) <;> (try split) <;> (try split) <;> omega
  · simp only [if_neg hd]; simp
section
variable {d : Int} (hd : 0 < d) (ir : Irr d)
include hd ir
theorem sos_z {p q : Int} (h : sos p q d = 0) : p = 0 ∧ q = 0 := by
  rcases Int.lt_trichotomy (p * p - q * q * d) 0 with c | c | c
  · rw [sos_N hd c, sgi_z] at h
    subst h
    have := sq_nn p
    simp at c
    omega
  · exact ir p q (by omega)
  · rw [sos_P hd c, sgi_z] at h
    subst h
    have := Int.mul_nonneg (sq_nn q) (Int.le_of_lt hd)
    simp at c
    omega
/-- an integer more -/
theorem sos_int {p q t : Int} (h : 0 ≤ sos p q d) (ht : 0 < t) : sos (p + t) q d = 1 := by
  rcases Int.lt_trichotomy (p * p - q * q * d) 0 with c | c | c
  · rw [sos_N hd c, sgi_0] at h
    have q0 : 0 < q := by
      rcases Int.lt_or_le 0 q with z | z
      · exact z
      · have : q = 0 := by omega
        subst this
        have := sq_nn p
        simp at c
        omega
    rcases Int.lt_trichotomy ((p + t) * (p + t) - q * q * d) 0 with c2 | c2 | c2
    · rw [sos_N hd c2]; exact sgi_p.mpr q0
    · obtain ⟨_, z⟩ := ir (p + t) q (by omega); omega
    · rw [sos_P hd c2]
      refine sgi_p.mpr ?_
      rcases Int.lt_or_le 0 (p + t) with z | z
      · exact z
      · have := Int.mul_le_mul (show -(p + t) ≤ -p by omega) (show -(p + t) ≤ -p by omega) (by omega) (by omega)
        have e1 : -(p + t) * -(p + t) = (p + t) * (p + t) := by grind
        have e2 : -p * -p = p * p := by grind
        omega
  · obtain ⟨z1, z2⟩ := ir p q (by omega)
    subst z1 z2
    rw [sos_q00]
    exact sgi_p.mpr (by omega)
  · rw [sos_P hd c, sgi_0] at h
    have := Int.mul_le_mul (show p ≤ p + t by omega) (show p ≤ p + t by omega) h (by omega)
    rw [sos_P hd (by omega)]
    exact sgi_p.mpr (by
      rcases Int.lt_or_le 0 p with z | z
      · omega
      · omega)
theorem sos_sq {p q : Int} (h : p ≠ 0 ∨ q ≠ 0) : p * p - q * q * d ≠ 0 := fun z => by
  obtain ⟨a, b⟩ := ir p q (by omega)
  rcases h with h | h
  · exact h a
  · exact h b
theorem sos_addP {p q p' q' : Int} (h : 0 ≤ sos p q d) (h' : sos p' q' d = 1) : sos (p + p') (q + q') d = 1 := by
  have nz : p' ≠ 0 ∨ q' ≠ 0 := by
    rcases Classical.em (p' = 0) with a | a
    · rcases Classical.em (q' = 0) with b | b
      · subst a b; rw [sos_00] at h'; cases h'
      · exact .inr b
    · exact .inl a
  have n0 := sos_sq hd ir nz
  -- B * conj B = N
  have cj : sos p' q' d * sos p' (-q') d = sgi (p' * p' - q' * q' * d) := by
    rw [sos_mul hd ir]
    have e1 : p' * p' + q' * -q' * d = p' * p' - q' * q' * d := by grind
    have e2 : p' * -q' + q' * p' = 0 := by grind
    rw [e1, e2, sos_q00]
  rw [h', Int.one_mul] at cj
  have ac : sos p q d * sos p' (-q') d = sos (p * p' + q * -q' * d) (p * -q' + q * p') d := sos_mul hd ir
  have tot : sos (p + p') (q + q') d * sos p' (-q') d = sos (p * p' + q * -q' * d + (p' * p' - q' * q' * d)) (p * -q' + q * p') d := by
    rw [sos_mul hd ir]
    congr 1 <;> grind
  rcases Int.lt_or_gt_of_ne n0 with c | c
  · rw [sgi_n.mpr c] at cj
    rw [cj] at ac tot
    have k : 0 ≤ sos (-(p * p' + q * -q' * d)) (-(p * -q' + q * p')) d := by rw [sos_ng, ← ac]; omega
    have k2 := sos_int hd ir k (t := -(p' * p' - q' * q' * d)) (by omega)
    have e : -(p * p' + q * -q' * d) + -(p' * p' - q' * q' * d) = -(p * p' + q * -q' * d + (p' * p' - q' * q' * d)) := by grind
    rw [e, sos_ng] at k2
    omega
  · rw [sgi_p.mpr c] at cj
    rw [cj] at ac tot
    have k : 0 ≤ sos (p * p' + q * -q' * d) (p * -q' + q * p') d := by rw [← ac]; omega
    have k2 := sos_int hd ir k c
    omega
theorem sos_add {p q p' q' : Int} (h : 0 ≤ sos p q d) (h' : 0 ≤ sos p' q' d) : 0 ≤ sos (p + p') (q + q') d := by
  rcases sos_rg p' q' d with c | c | c
  · omega
  · obtain ⟨rfl, rfl⟩ := sos_z hd ir c
    simpa using h
  · rw [sos_addP hd ir h c]; decide
theorem sos_mulN {p q p' q' : Int} (h : 0 ≤ sos p q d) (h' : 0 ≤ sos p' q' d) : 0 ≤ sos (p * p' + q * q' * d) (p * q' + q * p') d := by
  rw [← sos_mul hd ir]; exact Int.mul_nonneg h h'
theorem sos_intN {p q t : Int} (h : 0 ≤ sos p q d) (ht : 0 ≤ t) : 0 ≤ sos (p + t) q d := by
  rcases Int.lt_or_le 0 t with c | c
  · rw [sos_int hd ir h c]; decide
  · have : t = 0 := by omega
    subst this; simpa using h
/-- of the square root: g is near q root d -/
theorem sos_le {r q : Int} (hr : 0 ≤ r) (hq : 0 ≤ q) (h : r * r ≤ q * q * d) : 0 ≤ sos (-r) q d := by
  rcases Int.lt_trichotomy ((-r) * (-r) - q * q * d) 0 with c | c | c
  · rw [sos_N hd c]; exact sgi_0.mpr hq
  · obtain ⟨z1, z2⟩ := ir (-r) q (by omega)
    rw [z1, z2, sos_00]; decide
  · have e : (-r) * (-r) = r * r := by grind
    omega
theorem sos_ge {r q : Int} (hr : 0 ≤ r) (h : q * q * d ≤ r * r) : 0 ≤ sos r (-q) d := by
  rcases Int.lt_trichotomy (r * r - -q * -q * d) 0 with c | c | c
  · have e : -q * -q * d = q * q * d := by grind
    omega
  · obtain ⟨z1, z2⟩ := ir r (-q) (by omega)
    rw [z1, z2, sos_00]; decide
  · rw [sos_P hd c]; exact sgi_0.mpr hr
end
end KK

set_option maxHeartbeats 1000000
namespace KK
open PySem PySem.Spec PyProof.Rows L2 DL
/-! ### plain: small tools -/
theorem shp_int (i : Int) : SeqAt.shaped (.int i) = true := rfl
theorem eqv_int (i j : Int) : PyData.eqv (.int i) (.int j) = decide (i = j) := rfl
def DEnd (α : List SD) (QD : Ret → List SD → Prop) : DEnds := { nx := fun ρ => outK α ρ fun α' => QD (.d .none) α', rt := fun r ρ => outK α ρ fun α' => QD r α' }
def Bd (n : Nat) (i : Int) : Prop := i.natAbs < 2 ^ n
theorem Bd.mono {n m : Nat} {i : Int} (h : Bd n i) (e : n ≤ m) : Bd m i := Nat.lt_of_lt_of_le h (Nat.pow_le_pow_right (by decide) e)
theorem Bd.mul {n m : Nat} {i j : Int} (h : Bd n i) (k : Bd m j) : Bd (n + m) (i * j) := by
  unfold Bd at *
  rw [Int.natAbs_mul, Nat.pow_add]
  rcases Nat.eq_zero_or_pos i.natAbs with z | z
  · rw [z, Nat.zero_mul]; exact Nat.mul_pos (Nat.pow_pos (by decide)) (Nat.pow_pos (by decide))
  · exact Nat.mul_lt_mul_of_le_of_lt (Nat.le_of_lt h) k (Nat.pow_pos (by decide)) |> fun x => x
theorem Bd.add {n m k : Nat} {i j : Int} (h : Bd n i) (l : Bd m j) (e : max n m + 1 ≤ k) : Bd k (i + j) := by
  refine Bd.mono (n := max n m + 1) ?_ e
  have h1 : Bd (max n m) i := h.mono (Nat.le_max_left _ _)
  have h2 : Bd (max n m) j := l.mono (Nat.le_max_right _ _)
  unfold Bd at *
  rw [Nat.pow_succ]
  have := Int.natAbs_add_le i j
  omega
theorem Bd.neg {n : Nat} {i : Int} (h : Bd n i) : Bd n (-i) := by unfold Bd; rw [Int.natAbs_neg]; exact h
theorem Bd.sub {n m k : Nat} {i j : Int} (h : Bd n i) (l : Bd m j) (e : max n m + 1 ≤ k) : Bd k (i - j) := by rw [Int.sub_eq_add_neg]; exact h.add l.neg e
theorem Bd.div {n : Nat} {i : Int} (h : Bd n i) (j : Int) (hj : 0 < j) : Bd n (i / j) := by
  unfold Bd at *
  refine Nat.lt_of_le_of_lt ?_ h
  exact Int.natAbs_ediv_le_natAbs _ _
theorem Bd.cm {n m : Nat} {i j : Int} (h : Bd n i) (k : Bd m j) (e : n + m ≤ 999990) : CMulW i j := wide_mul (a := n + 1) (b := m + 1) (h.mono (by omega)) (k.mono (by omega)) (by omega) (by omega) (by omega)
theorem Bd.log {n : Nat} {i : Int} (h : Bd n i) (e : n ≤ 8999) : i.natAbs.log2 < 9000 := by
  unfold Bd at h
  by_cases z : i.natAbs = 0
  · rw [z]; decide
  · exact Nat.lt_of_lt_of_le ((Nat.log2_lt z).mpr h) (by omega)
theorem fd_pos {a b : Int} (h : 0 < b) : a.fdiv b = a / b := Int.fdiv_eq_ediv_of_nonneg _ (Int.le_of_lt h)
theorem fm_pos {a b : Int} (h : 0 < b) : a.fmod b = a % b := Int.fmod_eq_emod_of_nonneg _ (Int.le_of_lt h)
theorem sgi_bi (p : Int) : DL.bi (decide (0 < p)) - DL.bi (decide (p < 0)) = sgi p := by
  unfold DL.bi sgi
  by_cases h : 0 < p
  · have : ¬ p < 0 := by omega
    simp [sSeq, sIf, sNext, sSet, sAug, sRet, sPar, sPar3, asThree, sRaise, sAsg, sOwn, sApp, sPut, sRetN, sRetOwn, sRetU, sDrop, sBreak, sCont, dVar, dC, dOp, dTest, dCons, dNil, dTup, nLst, dNew, dNeg, dIf, dF1, dAnd, dOr, dNot, dAndV, dOrV, dNotV, dCall, nCall, dCallL, nCallL, withLent, withLentN, vw, frz, dI, dI0, dB0, int2, dEq, dNe, dAdd, dSub, dIAdd, atD, gName', gTup', gNil', gCons', gLst', lenIs, retD, retN, lendK, backK, isLent, ownK, fAbs, fLen, fMax, fMin, startD, outK, shp_int, eqv_int, h, this]
  · by_cases h' : p < 0
    · simp [sSeq, sIf, sNext, sSet, sAug, sRet, sPar, sPar3, asThree, sRaise, sAsg, sOwn, sApp, sPut, sRetN, sRetOwn, sRetU, sDrop, sBreak, sCont, dVar, dC, dOp, dTest, dCons, dNil, dTup, nLst, dNew, dNeg, dIf, dF1, dAnd, dOr, dNot, dAndV, dOrV, dNotV, dCall, nCall, dCallL, nCallL, withLent, withLentN, vw, frz, dI, dI0, dB0, int2, dEq, dNe, dAdd, dSub, dIAdd, atD, gName', gTup', gNil', gCons', gLst', lenIs, retD, retN, lendK, backK, isLent, ownK, fAbs, fLen, fMax, fMin, startD, outK, shp_int, eqv_int, h, h']
    · simp [sSeq, sIf, sNext, sSet, sAug, sRet, sPar, sPar3, asThree, sRaise, sAsg, sOwn, sApp, sPut, sRetN, sRetOwn, sRetU, sDrop, sBreak, sCont, dVar, dC, dOp, dTest, dCons, dNil, dTup, nLst, dNew, dNeg, dIf, dF1, dAnd, dOr, dNot, dAndV, dOrV, dNotV, dCall, nCall, dCallL, nCallL, withLent, withLentN, vw, frz, dI, dI0, dB0, int2, dEq, dNe, dAdd, dSub, dIAdd, atD, gName', gTup', gNil', gCons', gLst', lenIs, retD, retN, lendK, backK, isLent, ownK, fAbs, fLen, fMax, fMin, startD, outK, shp_int, eqv_int, h, h']
end KK

set_option maxHeartbeats 1000000
namespace KK
open PySem PySem.Spec PyProof.Rows L2 DL
/-! ### what the defs do -/
abbrev iv (i : Int) : SD := .val (.int i)
def Nu.D (x : Nu) : PyData := .tuple [.int x.p, .int x.q, .int x.d, .int x.s]
def Nb (n : Nat) (x : Nu) : Prop := Bd n x.p ∧ Bd n x.q ∧ Bd n x.d ∧ Bd n x.s
def nmax (a b : Int) : Int := if b > a then b else a
/-- the roots agree -/
def rts (x y : Nu) : Prop := x.d ≠ 0 → y.d ≠ 0 → x.d = y.d
def nplus (x y : Nu) : Nu := low (x.p * y.s + y.p * x.s) (x.q * y.s + y.q * x.s) (nmax x.d y.d) (x.s * y.s)
def nopp (x : Nu) : Nu := ⟨-x.p, -x.q, x.d, x.s⟩
def nminus (x y : Nu) : Nu := nplus x (nopp y)
def ntimes (x y : Nu) : Nu := low (x.p * y.p + x.q * y.q * nmax x.d y.d) (x.p * y.q + x.q * y.p) (nmax x.d y.d) (x.s * y.s)
def ninv (y : Nu) : Nu := low (y.p * y.s) (-y.q * y.s) y.d (y.p * y.p - y.q * y.q * y.d)
def nover (x y : Nu) : Nu := ntimes x (ninv y)
def isqr (a n : Int) : Prop := 0 ≤ n ∧ n * n ≤ a ∧ a < (n + 1) * (n + 1)
def Fl (x : Nu) (n : Int) : Prop := ∃ r, isqr (x.q * x.q * x.d) r ∧ n = if 0 ≤ x.q then (x.p + r) / x.s else (x.p - r - 1) / x.s
def sqfree (r : Int) : Prop := ∀ m : Int, 1 < m → ¬ (m * m ∣ r)
def p_common_divisor : DSp := fun α QD _ => ∃ a b : Int, α = [iv a, iv b] ∧ QD (.d (.int (Int.gcd a b))) α
def p_root_floor : DSp := fun α QD _ => ∃ a : Int, α = [iv a] ∧ 0 ≤ a ∧ Bd 8000 a ∧ ∀ n, isqr a n → QD (.d (.int n)) α
def p_without_squares : DSp := fun α QD _ => ∃ a : Int, α = [iv a] ∧ 0 < a ∧ Bd 4000 a ∧ ∀ f r, 0 < f → 0 < r → f * f * r = a → sqfree r → QD (.d (.tuple [.int f, .int r])) α
def p_lowest : DSp := fun α QD _ => ∃ p q d s : Int, α = [iv p, iv q, iv d, iv s] ∧ s ≠ 0 ∧ Bd 8000 s ∧ QD (.d (low p q d s).D) α
def p_root_of : DSp := fun α QD _ => ∃ x y : Nu, α = [.val x.D, .val y.D] ∧ rts x y ∧ QD (.d (.int (nmax x.d y.d))) α
def p_plus : DSp := fun α QD _ => ∃ x y : Nu, α = [.val x.D, .val y.D] ∧ rts x y ∧ Nb 4000 x ∧ Nb 4000 y ∧ x.s ≠ 0 ∧ y.s ≠ 0 ∧ QD (.d (nplus x y).D) α
def p_opposite : DSp := fun α QD _ => ∃ x : Nu, α = [.val x.D] ∧ QD (.d (nopp x).D) α
def p_minus : DSp := fun α QD _ => ∃ x y : Nu, α = [.val x.D, .val y.D] ∧ rts x y ∧ Nb 4000 x ∧ Nb 4000 y ∧ x.s ≠ 0 ∧ y.s ≠ 0 ∧ QD (.d (nminus x y).D) α
def p_times : DSp := fun α QD _ => ∃ x y : Nu, α = [.val x.D, .val y.D] ∧ rts x y ∧ Nb 4000 x ∧ Nb 4000 y ∧ x.s ≠ 0 ∧ y.s ≠ 0 ∧ QD (.d (ntimes x y).D) α
def p_over : DSp := fun α QD _ => ∃ x y : Nu, α = [.val x.D, .val y.D] ∧ rts x y ∧ Nb 1000 x ∧ Nb 1000 y ∧ x.s ≠ 0 ∧ y.s ≠ 0 ∧ y.p * y.p - y.q * y.q * y.d ≠ 0 ∧ QD (.d (nover x y).D) α
def p_floor : DSp := fun α QD _ => ∃ x : Nu, α = [.val x.D] ∧ Nb 2000 x ∧ 0 < x.s ∧ 0 ≤ x.d ∧ ∀ n, Fl x n → QD (.d (.int n)) α
/-! the draws -/
structure Spl where
  ns : List Int
  pl : Int
  ce : Int
  si : Int
def Spl.L (s : Spl) : List PyData := [.list (s.ns.map PyData.int), .int s.pl, .int s.ce, .int s.si]
abbrev Spl.S (s : Spl) : SD := .own true s.L
def Sok (n : Nat) (s : Spl) : Prop := 0 ≤ s.pl ∧ s.pl ≤ n ∧ s.ns.length ≤ 64
def p__law_stirred : DSp := fun α QD _ => ∃ c p : Int, α = [iv c, iv p] ∧ 0 ≤ p ∧ p < 2 ^ 60 ∧ 0 ≤ c ∧ c < 2 ^ 60 ∧ ∀ n, QD (.d (.int n)) α
def p__law_spool_of : DSp := fun α QD _ => ∃ ns : List Int, α = [.res true (scriptR ns)] ∧ ns.length ≤ 63 ∧ ∀ s, Sok 0 s → QD (.n s.L) α
def p__law_upto : DSp := fun α QD _ => ∃ (s : Spl) (m : Nat) (b : Int), α = [s.S, iv b] ∧ Sok m s ∧ m < 2 ^ 59 ∧ 0 < b ∧ Bd 8000 b ∧ ∀ n s', 0 ≤ n → n < b → Sok (m + 1) s' → QD (.d (.int n)) [s'.S, iv b]
def p__law_choice : DSp := fun α QD _ => ∃ (s : Spl) (m : Nat) (xs : List PyData), α = [s.S, .val (.list xs)] ∧ Sok m s ∧ m < 2 ^ 59 ∧ xs ≠ [] ∧ xs.length < 2 ^ 60 ∧ ∀ x s', x ∈ xs → Sok (m + 1) s' → QD (.d x) [s'.S, .val (.list xs)]
def p_law : DSp := lawSp
end KK

set_option maxHeartbeats 1000000
namespace KK
open DL
/-! ### decimal bounds of p + q root d -/
def Near (g q d : Int) : Prop := 0 ≤ sos (g + 1) (-q) d ∧ 0 ≤ sos (1 - g) q d
/-- n is the greatest integer at most (p + q root d) / s -/
def FlS (p q d s n : Int) : Prop := 0 ≤ sos (p - n * s) q d ∧ sos (p - (n + 1) * s) q d = -1
section
variable {d : Int} (hd : 0 < d) (ir : Irr d)
include hd ir
theorem near_of {r q : Int} (h : isqr (q * q * d) r) : Near (if 0 < q then r else -r) q d := by
  obtain ⟨r0, h1, h2⟩ := h
  by_cases c : 0 < q
  · rw [if_pos c]
    refine ⟨sos_ge hd ir (by omega) (by omega), ?_⟩
    have := sos_int hd ir (sos_le hd ir r0 (by omega) h1) (show (0 : Int) < 1 by decide)
    rw [show (1 : Int) - r = -r + 1 by omega, this]; decide
  · rw [if_neg c]
    have e : -q * -q * d = q * q * d := by grind
    constructor
    · have := sos_int hd ir (sos_le hd ir r0 (show 0 ≤ -q by omega) (by rw [e]; exact h1)) (show (0 : Int) < 1 by decide)
      rw [this]; decide
    · have := sos_ge hd ir (r := r + 1) (q := -q) (by omega) (by rw [e]; omega)
      rw [Int.neg_neg] at this
      rw [show (1 : Int) - -r = r + 1 by omega]
      exact this
theorem big_pos {p q s T g v : Int} (hs : 0 < s) (hT : 0 < T) (hg : Near g (q * T) d) (h1 : s * v ≤ p * T + g) (hv : 3 < v) : sos p q d = 1 := by
  have := Int.mul_le_mul (show 1 ≤ s by omega) (show 4 ≤ v by omega) (by omega) (by omega)
  have k := sos_int hd ir hg.2 (t := p * T + g - 1) (by omega)
  rw [show 1 - g + (p * T + g - 1) = T * p by rw [Int.mul_comm T]; omega, Int.mul_comm q T, sos_scale hd hT ir] at k
  exact k
theorem big_neg {p q s T g v : Int} (hs : 0 < s) (hT : 0 < T) (hg : Near g (q * T) d) (h2 : p * T + g < s * v + s) (hv : v < -3) : sos p q d = -1 := by
  have := Int.mul_le_mul (show 1 ≤ s by omega) (show 4 ≤ -v by omega) (by omega) (by omega)
  have e : s * -v = -(s * v) := by grind
  have e3 : s * 4 ≤ s * -v := Int.mul_le_mul_of_nonneg_left (by omega) (by omega)
  have k := sos_int hd ir hg.1 (t := -(p * T + g) - 1) (by omega)
  rw [show g + 1 + (-(p * T + g) - 1) = -(T * p) by rw [Int.mul_comm T]; omega, Int.mul_comm q T, sos_ng, sos_scale hd hT ir] at k
  omega
theorem abs_d (q : Int) : 0 ≤ sos (q.natAbs * d) q d ∧ 0 ≤ sos (q.natAbs * d) (-q) d := by
  have n0 : (0 : Int) ≤ q.natAbs * d := Int.mul_nonneg (by omega) (by omega)
  have e1 : (q.natAbs : Int) * q.natAbs = q * q := Int.natAbs_mul_self' q
  have e : q * q * d ≤ q.natAbs * d * (q.natAbs * d) := by
    have : (q.natAbs : Int) * d * (q.natAbs * d) = q * q * d * d := by grind
    rw [this]
    have h := Int.mul_le_mul_of_nonneg_left (show 1 ≤ d by omega) (Int.mul_nonneg (sq_nn q) (show 0 ≤ d by omega))
    omega
  refine ⟨?_, sos_ge hd ir n0 e⟩
  have := sos_ge hd ir (q := -q) n0 (by have : -q * -q * d = q * q * d := by grind
                                        omega)
  rw [Int.neg_neg] at this
  exact this
theorem small_T {p q s T g v : Int} (hs : 0 < s) (hT : 0 < T) (nz : p ≠ 0 ∨ q ≠ 0) (hg : Near g (q * T) d) (h1 : s * v ≤ p * T + g) (h2 : p * T + g < s * v + s) (hv : -3 ≤ v ∧ v ≤ 3) :
    T ≤ (4 * s + 1) * (p.natAbs + q.natAbs * d) := by
  have n0 := sos_sq hd ir nz
  have b1 : s * v ≤ s * 3 := Int.mul_le_mul_of_nonneg_left hv.2 (by omega)
  have b2 : s * -3 ≤ s * v := Int.mul_le_mul_of_nonneg_left hv.1 (by omega)
  have x1 : 0 ≤ sos (4 * s + 1 - p * T) (-(q * T)) d := by
    have := sos_intN hd ir hg.1 (t := 4 * s - (p * T + g)) (by omega)
    rwa [show g + 1 + (4 * s - (p * T + g)) = 4 * s + 1 - p * T by omega] at this
  have x2 : 0 ≤ sos (4 * s + 1 + p * T) (q * T) d := by
    have := sos_intN hd ir hg.2 (t := 4 * s + (p * T + g)) (by omega)
    rwa [show 1 - g + (4 * s + (p * T + g)) = 4 * s + 1 + p * T by omega] at this
  obtain ⟨a1, a2⟩ := abs_d hd ir q
  generalize hK : (p.natAbs + q.natAbs * d : Int) = K
  generalize 4 * s + 1 = C at x1 x2 ⊢
  have y1 : 0 ≤ sos (K - p) q d := by
    have := sos_intN hd ir a1 (t := p.natAbs - p) (by omega)
    rwa [show (q.natAbs * d + (p.natAbs - p) : Int) = K - p by omega] at this
  have y2 : 0 ≤ sos (K + p) (-q) d := by
    have := sos_intN hd ir a2 (t := p.natAbs + p) (by omega)
    rwa [show (q.natAbs * d + (p.natAbs + p) : Int) = K + p by omega] at this
  have z1 := sos_add hd ir (sos_mulN hd ir x1 y2) (sos_mulN hd ir x2 y1)
  have z2 := sos_add hd ir (sos_mulN hd ir x1 y1) (sos_mulN hd ir x2 y2)
  have e1 : (C - p * T) * -q + -(q * T) * (K + p) + ((C + p * T) * q + q * T * (K - p)) = 0 := by grind
  have e2 : (C - p * T) * q + -(q * T) * (K - p) + ((C + p * T) * -q + q * T * (K + p)) = 0 := by grind
  rw [e1, sos_q00, sgi_0] at z1
  rw [e2, sos_q00, sgi_0] at z2
  have f1 : (C - p * T) * (K + p) + -(q * T) * -q * d + ((C + p * T) * (K - p) + q * T * q * d) = 2 * (C * K) - 2 * ((p * p - q * q * d) * T) := by grind
  have f2 : (C - p * T) * (K - p) + -(q * T) * q * d + ((C + p * T) * (K + p) + q * T * -q * d) = 2 * (C * K) + 2 * ((p * p - q * q * d) * T) := by grind
  rw [f1] at z1
  rw [f2] at z2
  rcases Int.lt_or_gt_of_ne n0 with c | c
  · have := Int.mul_le_mul_of_nonneg_right (show 1 ≤ -(p * p - q * q * d) by omega) (show 0 ≤ T by omega)
    have e : -(p * p - q * q * d) * T = -((p * p - q * q * d) * T) := by grind
    omega
  · have := Int.mul_le_mul_of_nonneg_right (show 1 ≤ p * p - q * q * d by omega) (show 0 ≤ T by omega)
    omega
/-! the floor -/
theorem fls_le {p q s n k : Int} (hs : 0 < s) (h : FlS p q d s n) : 0 ≤ sos (p - k * s) q d ↔ k ≤ n := by
  constructor
  · intro c
    rcases Int.lt_or_le n k with z | z
    · exfalso
      have h2 := h.2
      have e0 : sos (-(p - (n + 1) * s)) (-q) d = 1 := by rw [sos_ng, h2]; rfl
      have := sos_intN hd ir (show 0 ≤ sos (-(p - (n + 1) * s)) (-q) d by rw [e0]; decide) (t := (k - (n + 1)) * s) (Int.mul_nonneg (by omega) (by omega))
      have e : -(p - (n + 1) * s) + (k - (n + 1)) * s = -(p - k * s) := by grind
      rw [e, sos_ng] at this
      have z0 : sos (p - k * s) q d = 0 := by omega
      obtain ⟨z1, z2⟩ := sos_z hd ir z0
      subst z2
      rw [sos_q00, sgi_n] at h2
      have := Int.mul_le_mul_of_nonneg_right (show n + 1 ≤ k by omega) (show 0 ≤ s by omega)
      omega
    · exact z
  · intro c
    have := sos_intN hd ir h.1 (t := (n - k) * s) (Int.mul_nonneg (by omega) (by omega))
    have e : p - n * s + (n - k) * s = p - k * s := by grind
    rwa [e] at this
theorem fls_uniq {p q s n k : Int} (hs : 0 < s) (h : FlS p q d s n) (h' : FlS p q d s k) : n = k := by
  have a := (fls_le hd ir hs h' (k := n)).mp h.1
  have b := (fls_le hd ir hs h (k := k)).mp h'.1
  omega
theorem fls_of {p q s r : Int} (hs : 0 < s) (h : isqr (q * q * d) r) : FlS p q d s (if 0 ≤ q then (p + r) / s else (p - r - 1) / s) := by
  obtain ⟨r0, h1, h2⟩ := h
  have up : ∀ a : Int, a / s * s ≤ a ∧ a + 1 ≤ (a / s + 1) * s := fun a => by
    have e := Int.mul_ediv_add_emod a s
    have m0 := Int.emod_nonneg a (show s ≠ 0 by omega)
    have m1 := Int.emod_lt_of_pos a hs
    have e2 : (a / s + 1) * s = s * (a / s) + s := by grind
    have e3 : a / s * s = s * (a / s) := by grind
    omega
  have strict : ∀ {a b : Int}, b ≠ 0 → 0 ≤ sos a b d → sos a b d = 1 := fun {a b} hb hz => by
    rcases sos_rg a b d with c | c | c
    · omega
    · exact absurd (sos_z hd ir c).2 hb
    · exact c
  have neg1 : ∀ {a b : Int}, sos (-a) (-b) d = 1 → sos a b d = -1 := fun {a b} h => by rw [sos_ng] at h; omega
  by_cases c : 0 ≤ q
  · rw [if_pos c]
    obtain ⟨u1, u2⟩ := up (p + r)
    constructor
    · have := sos_intN hd ir (sos_le hd ir r0 c h1) (t := p + r - (p + r) / s * s) (by omega)
      rwa [show -r + (p + r - (p + r) / s * s) = p - (p + r) / s * s by omega] at this
    · refine neg1 ?_
      have k := sos_ge hd ir (r := r + 1) (q := q) (by omega) (by omega)
      rcases Classical.em (q = 0) with z | z
      · subst z
        rw [Int.neg_zero, sos_q00]
        exact sgi_p.mpr (by omega)
      · have := sos_intN hd ir k (t := (((p + r) / s) + 1) * s - p - (r + 1)) (by omega)
        rw [show r + 1 + ((((p + r) / s) + 1) * s - p - (r + 1)) = -(p - ((p + r) / s + 1) * s) by omega] at this
        exact strict (by omega) this
  · rw [if_neg c]
    obtain ⟨u1, u2⟩ := up (p - r - 1)
    have e : -q * -q * d = q * q * d := by grind
    constructor
    · have k := sos_ge hd ir (r := r + 1) (q := -q) (by omega) (by rw [e]; omega)
      rw [Int.neg_neg] at k
      have := sos_intN hd ir k (t := p - (p - r - 1) / s * s - (r + 1)) (by omega)
      rwa [show r + 1 + (p - (p - r - 1) / s * s - (r + 1)) = p - (p - r - 1) / s * s by omega] at this
    · refine neg1 ?_
      have k := sos_le hd ir (q := -q) r0 (by omega) (by rw [e]; exact h1)
      have := sos_intN hd ir k (t := ((p - r - 1) / s + 1) * s - p + r) (by omega)
      rw [show -r + (((p - r - 1) / s + 1) * s - p + r) = -(p - ((p - r - 1) / s + 1) * s) by omega] at this
      exact strict (by omega) this
/-- the first guess of the floor is near it -/
theorem fls_near {p q s n g v : Int} (hs : 0 < s) (h : FlS p q d s n) (hg : Near g q d) (h1 : s * v ≤ p + g) (h2 : p + g < s * v + s) : n - 2 ≤ v ∧ v ≤ n + 2 := by
  constructor
  · rcases Int.lt_or_le v (n - 2) with c | c
    · exfalso
      have k := h.1
      have e := sos_intN hd ir hg.1 (t := (v + 2) * s - p - (g + 1)) (by
        have : (v + 2) * s = s * v + 2 * s := by grind
        omega)
      rw [show g + 1 + ((v + 2) * s - p - (g + 1)) = -(p - (v + 2) * s) by omega, sos_ng] at e
      have k2 := (fls_le hd ir hs h (k := v + 3)).mpr (by omega)
      have e3 := sos_int hd ir k2 (t := s) hs
      have e4 : p - (v + 3) * s + s = p - (v + 2) * s := by grind
      rw [e4] at e3
      omega
    · exact c
  · have e := sos_intN hd ir hg.2 (t := p - (v - 2) * s - (1 - g)) (by
      have : (v - 2) * s = s * v - 2 * s := by grind
      omega)
    rw [show 1 - g + (p - (v - 2) * s - (1 - g)) = p - (v - 2) * s by omega] at e
    have := (fls_le hd ir hs h).mp e
    omega
end
end KK

set_option maxHeartbeats 1000000
namespace KK
open PySem PySem.Spec L2 DL
/-! ### what the defs do: numbers, errors -/
/-- a canonical number -/
def Cn (x : Nu) : Prop := 0 < x.s ∧ gc x.p x.q x.s = 1 ∧ ((x.q = 0 ∧ x.d = 0) ∨ (x.q ≠ 0 ∧ 1 < x.d ∧ sqfree x.d)) ∧ Nb 3000 x
def sqp (d f r : Int) : Prop := (d = 0 ∧ f = 0 ∧ r = 0) ∨ (0 < d ∧ 0 < f ∧ 0 < r ∧ f * f * r = d ∧ sqfree r)
def numF (p q f r s : Int) : Nu := if r < 2 then low (p + q * f) 0 0 s else low p (q * f) r s
def p_number (k : Addr) : DSp := fun α QD ED => ∃ p q d s : Int, α = [iv p, iv q, iv d, iv s] ∧ Bd 4000 q ∧ Bd 4000 d ∧ Bd 8000 s ∧
  ((s = 0 ∨ d < 0) → ED ⟨k, []⟩ α) ∧ (¬ (s = 0 ∨ d < 0) → ∀ f r, sqp d f r → QD (.d (numF p q f r s).D) α)
def p__law_common : DSp := fun α QD _ => ∃ a b : Int, α = [iv a, iv b] ∧ QD (.d (.int (Int.gcd a b))) α
def p__law_lowest : DSp := fun α QD _ => ∃ p q d s : Int, α = [iv p, iv q, iv d, iv s] ∧ s ≠ 0 ∧ Bd 8000 s ∧ QD (.d (if q = 0 ∨ d = 0 then low p 0 0 s else low p q d s).D) α
end KK

set_option maxHeartbeats 1000000
namespace KK
open PySem PySem.Spec L2 DL
/-! ### the law's own numbers: promises -/
/-- a root: no square -/
def Dr (d : Int) : Prop := 0 < d ∧ Bd 34 d ∧ Irr d
/-- a number of the law: in lowest terms where it is zero, of a root or none -/
structure Gd (n : Nat) (x : Nu) : Prop where
  s : 0 < x.s
  r : (x.q = 0 ∧ x.d = 0) ∨ (x.q ≠ 0 ∧ Dr x.d)
  z : x.p = 0 → x.q = 0 → x.s = 1
  b : Nb n x
def isZ (x : Nu) : Prop := x.p = 0 ∧ x.q = 0 ∧ x.d = 0 ∧ x.s = 1
instance (x : Nu) : Decidable (isZ x) := by unfold isZ; infer_instance
instance (x y : Nu) : Decidable (rts x y) := by unfold rts; infer_instance
/-- the root, 2 where there is none -/
def de (x : Nu) : Int := if x.d = 0 then 2 else x.d
def sgn (x : Nu) : Int := sos x.p x.q (de x)
def Flo (x : Nu) (n : Int) : Prop := FlS x.p x.q (de x) x.s n
/-- a drawn ratio: small, above 0 -/
structure Rat (x : Nu) : Prop where
  g : Gd 40 x
  p : x.p.natAbs ≤ 5
  q : x.q.natAbs ≤ 5
  s : x.s ≤ 5
  d : x.d ≤ 21
  o : sgn x = 1
def p__law_negative : DSp := fun α QD _ => ∃ x : Nu, α = [.val x.D] ∧ QD (.d (nopp x).D) α
def p__law_drawn : DSp := fun α QD _ => ∃ (s : Spl) (m : Nat) (d z : Int), α = [s.S, iv d, iv z] ∧ Sok m s ∧ m < 2 ^ 40 ∧ 0 < z ∧ z ≤ 10 ^ 30 ∧ d ≠ 0 ∧
  ∀ (p q t : Int) (s' : Spl), p.natAbs ≤ z.natAbs → q.natAbs ≤ z.natAbs → 0 < t → t ≤ z → Sok (m + 4) s' → QD (.d (low p q d t).D) [s'.S, iv d, iv z]
def p__law_square_root : DSp := fun α QD _ => ∃ a : Int, α = [iv a] ∧ 0 ≤ a ∧ Bd 17000 a ∧ ∀ n, isqr a n → QD (.d (.int n)) α
def p__law_scaled : DSp := fun α QD _ => ∃ (x : Nu) (t : Nat), α = [.val x.D, iv t] ∧ Gd 1100 x ∧ t ≤ 2050 ∧
  ∀ g v : Int, Near g (x.q * 10 ^ t) (de x) → x.s * v ≤ x.p * 10 ^ t + g → x.p * 10 ^ t + g < x.s * v + x.s → QD (.d (.int v)) α
def p__law_sign_of : DSp := fun α QD _ => ∃ x : Nu, α = [.val x.D] ∧ Gd 1100 x ∧ QD (.d (.int (sgn x))) α
end KK

set_option maxHeartbeats 1000000
namespace KK
open PySem PySem.Spec L2 DL
/-! ### the order of the acts: promises -/
def nint (v : Int) : Nu := ⟨v, 0, 0, 1⟩
/-- a ratio: of moderate size, a small root or none, above 0 -/
structure Rx (x : Nu) : Prop where
  g : Gd 150 x
  d : de x < 64
  o : sgn x = 1
/-- L of the first c acts are b's: L (1 + x) < c + 1 ≤ (L + 1) (1 + x) -/
def Cnt (x : Nu) (c L : Int) : Prop := sos ((c + 1) * x.s - L * (x.s + x.p)) (-(L * x.q)) (de x) = 1 ∧ 0 ≤ sos ((L + 1) * (x.s + x.p) - (c + 1) * x.s) ((L + 1) * x.q) (de x)
def p_whole : DSp := fun α QD _ => ∃ v : Int, α = [iv v] ∧ QD (.d (nint v).D) α
end KK

set_option maxHeartbeats 1000000
namespace KK
open PySem PySem.Spec L2 DL
/-! ### words of acts: promises -/
/-- a word of a's (true) and b's -/
def wS (l : List Bool) : Str := ⟨(l.map fun b => if b then 97 else 98).toArray⟩
/-- the first acts of the order -/
def Wrd (x : Nu) (l : List Bool) : Prop := ∀ i, i < l.length → ∃ L L' : Int, Cnt x i L ∧ Cnt x ((i : Int) + 1) L' ∧ l[i]? = some (decide (L' ≤ L))
end KK

set_option maxHeartbeats 1000000
namespace KK
open PySem PySem.Spec L2 DL
/-! ### continued fractions: promises -/
/-- x = (-b + e root d) / (2 a), a root of a X X + b X + c -/
structure Cf (M : Int) (x : Nu) (a b c e d k : Int) : Prop where
  dr : Dr d
  a0 : 0 < a
  e0 : e ≠ 0
  f : b * b - 4 * a * c = e * e * d
  m1 : e * e * d ≤ M
  m2 : b * b ≤ M
  p : sos (-b) e d = 1
  k0 : 0 < k
  xp : -b = k * x.p
  xq : e = k * x.q
  xs : 2 * a = k * x.s
  xd : x.d = d
def nxt (x : Nu) (n : Int) : Nu := ninv (nplus x ⟨-n, 0, 0, 1⟩)
/-- the first quotients -/
def Qs : Nu → List Int → Prop
  | _, [] => True
  | x, n :: l => Flo x n ∧ Qs (nxt x n) l
/-- of the numbers drawn -/
def MQ : Int := 52500
/-- a complete quotient -/
def Cq (x : Nu) : Prop := ∃ a b c e d k : Int, Cf MQ x a b c e d k
/-- quotients: none below 0, from the second one on above 0, all moderate -/
def Qb (lo : Int) : List Int → Prop
  | [] => True
  | n :: l => lo ≤ n ∧ n < 2 ^ 16 ∧ Qb 1 l
/-- a word n times -/
def rp (n : Nat) (v : List Bool) : List Bool := (List.replicate n v).flatten
/-- the quotients as natural numbers -/
def tn (l : List Int) : List Nat := l.map Int.toNat
/-- the last two words -/
def w2 : List Nat → List Bool × List Bool
  | [] => ([false], [true])
  | q :: r => ((w2 r).2, rp q (w2 r).2 ++ (w2 r).1)
def wK (r : List Nat) : List Bool := (w2 r).2
/-- the words, the longest first -/
def tw : List Nat → List (List Bool)
  | [] => [[true]]
  | q :: r => wK (q :: r) :: tw r
/-- greedy digits, the longest size first -/
def gd (c : Nat) : List Nat → List Nat
  | [] => []
  | s :: ss => c / s :: gd (c % s) ss
/-- without the zeros in front -/
def dz : List Nat → List Nat
  | [] => []
  | 0 :: l => dz l
  | (n + 1) :: l => (n + 1) :: l
/-- the digits of c, ascending -/
def Dg (x : Nu) (c : Nat) (ds : List Nat) : Prop := ∃ l, Qs x l ∧ c < (wK (tn l).reverse).length ∧ ds = (dz (gd c ((tw (tn l).reverse).map List.length))).reverse
/-- the lengths of the words -/
def wsz (l : List Int) : List Nat := ((tw (tn l).reverse).map List.length).reverse
def nvs (l : List Nat) : List PyData := List.map (fun n : Nat => PyData.int (n : Int)) l
end KK

set_option maxHeartbeats 1000000
namespace KK
open PySem PySem.Spec L2 DL
/-! ### expansions, reckoned -/
instance : DecidableEq Nu := fun x y => decidable_of_iff (x.p = y.p ∧ x.q = y.q ∧ x.d = y.d ∧ x.s = y.s) ⟨fun h => by cases x; cases y; simp at h; simp [h], fun h => by subst h; simp⟩
/-- the root of n from above, bit by bit -/
def isb (n : Nat) : Nat → Nat → Nat
  | 0, r => r
  | k + 1, r => if (r + 2 ^ k) * (r + 2 ^ k) ≤ n then isb n k (r + 2 ^ k) else isb n k r
def flz (x : Nu) : Int := if 0 ≤ x.q then (x.p + (isb (x.q * x.q * x.d).toNat 12 0 : Nat)) / x.s else (x.p - (isb (x.q * x.q * x.d).toNat 12 0 : Nat) - 1) / x.s
/-- what is left -/
def rs (x : Nu) : Nu := nplus x ⟨-flz x, 0, 0, 1⟩
def nx (x : Nu) : Option Nu := if isZ (rs x) then none else some (ninv (rs x))
def st (x : Nu) : Nat → Option Nu
  | 0 => some x
  | i + 1 => (st x i).bind nx
/-- the first quotients -/
def ql : Nat → Nu → List Int
  | 0, _ => []
  | k + 1, x => flz x :: (match nx x with | none => [] | some y => ql k y)
/-- the quotients from state i on to state n -/
def qseg (x : Nu) (i n : Nat) : List Int := (List.range' i (n - i)).filterMap fun j => (st x j).map flz
/-- in lowest terms -/
def Cnl (x : Nu) : Prop := 0 < x.s ∧ gc x.p x.q x.s = 1 ∧ (x.q = 0 → x.d = 0)
/-- a fraction, not below 0 -/
structure Rq (x : Nu) : Prop where
  g : Gd 70 x
  q : x.q = 0
  p : 0 ≤ x.p
def shf (y : Nu) (v : Int) : Nu := ⟨y.p + v * y.s, y.q, y.d, y.s⟩
/-- a ratio that is expanded -/
def Kq (x : Nu) : Prop := Cnl x ∧ ((∃ y v, Cq y ∧ Cnl y ∧ 0 ≤ v ∧ v ≤ 9 ∧ x = shf y v) ∨ Rq x)
/-- the end or a state again -/
def Rep (x : Nu) (n : Nat) : Prop := st x n = none ∨ ∃ i, i < n ∧ st x i = st x n
def Hlt (x : Nu) : Prop := ∃ n, n ≤ 399 ∧ Rep x n
/-- the parts of the expansion -/
def Xpn (x : Nu) (f g : List Int) : Prop := (∃ n, 0 < n ∧ n ≤ 400 ∧ st x n = none ∧ (∀ j, j < n → st x j ≠ none) ∧ f = qseg x 0 n ∧ g = []) ∨
  ∃ i n, i < n ∧ n ≤ 400 ∧ st x i = st x n ∧ (∀ j, j ≤ n → st x j ≠ none) ∧ (∀ a b, a < b → b < n → st x a ≠ st x b) ∧ f = qseg x 0 i ∧ g = qseg x i n
def qat (f g : List Int) (i : Nat) : PyData := match f[i]? with
  | some q => .int q
  | none => if g = [] then .none else match g[(i - f.length) % g.length]? with
    | some q => .int q
    | none => .none
/-- the matrix of the period -/
def mat : List Int → Int × Int × Int × Int → Int × Int × Int × Int
  | [], m => m
  | q :: r, (a, b, c, e) => mat r (a * q + b, a, c * q + e, c)
/-- the period's own ratio, by the form's roots -/
def numG (g : List Int) (y : Nu) : Bool := match mat g (1, 0, 0, 1) with
  | (a, b, c, e) => let v : Int := Int.gcd (Int.gcd c (a - e)) b
    let b' := b.fdiv v
    let c' := c.fdiv v
    let e' := (a - e).fdiv v
    let D := e' * e' + 4 * b' * c'
    let f : Int := (isb (D.fdiv y.d).toNat 24 0 : Nat)
    decide (v ≠ 0 ∧ c' ≠ 0 ∧ 0 < f ∧ f * f * y.d = D ∧ low e' f y.d (2 * c') = y)
/-- what is left behind the quotients f is y -/
def Chn : List Int → Nu → Nu → Prop
  | [], y, x => x = y
  | q :: f, y, x => flz x = q ∧ ∃ x1, nx x = some x1 ∧ Chn f y x1
def ivs (l : List Int) : List PyData := l.map PyData.int
abbrev prt (f g : List Int) : PyData := .tuple [.tuple (ivs f), .tuple (ivs g)]
/-- convergents behind quotients turned round -/
def cz : List Int → (Int × Int) × (Int × Int)
  | [] => ((1, 0), (0, 1))
  | q :: r => ((q * (cz r).1.1 + (cz r).2.1, q * (cz r).1.2 + (cz r).2.2), (cz r).1)
def czP (l : List Int) (i : Nat) : PyData := .tuple [.int (cz (l.take i).reverse).1.1, .int (cz (l.take i).reverse).1.2]
/-- drawn -/
structure Rz (x : Nu) : Prop where
  r : Rat x
  c : Cnl x
  d : x.d = 0 ∨ x.d ∈ ([2, 3, 5, 6, 7, 13, 21] : List Int)
def p_quotients : DSp := fun α QD _ => ∃ (x : Nu) (k : Nat), α = [.val x.D, iv k] ∧ Kq x ∧ k ≤ 450 ∧ QD (.n (ivs (ql k x))) α
def p_expansion : DSp := fun α QD _ => ∃ x : Nu, α = [.val x.D] ∧ Kq x ∧ Hlt x ∧ ∀ f g, Xpn x f g → QD (.d (prt f g)) α
def p_quotient_at : DSp := fun α QD _ => ∃ (f g : List Int) (i : Nat), α = [.val (prt f g), iv i] ∧ QD (.d (qat f g i)) α
def p_continued : DSp := fun α QD _ => ∃ (f : List Int) (y x : Nu), α = [.val (.tuple (ivs f)), .val y.D] ∧ Kq x ∧ Chn f y x ∧ f.length ≤ 1000 ∧ QD (.d x.D) α
def p_number_of : DSp := fun α QD _ => ∃ (f g : List Int) (x : Nu), α = [.val (prt f g)] ∧ Kq x ∧ Xpn x f g ∧ (g ≠ [] → g.length < 5 ∧ (∀ q ∈ g, 0 ≤ q ∧ q < 21) ∧ ∃ y, Chn f y x ∧ numG g y = true ∧ Dr y.d ∧ sqfree y.d ∧ Gd 40 y) ∧ QD (.d x.D) α
def p_convergents : DSp := fun α QD _ => ∃ (x : Nu) (k : Nat), α = [.val x.D, iv k] ∧ Kq x ∧ k ≤ 40 ∧ QD (.n ((List.range (ql k x).length).map fun i => czP (ql k x) (i + 1))) α
def p__law_drawn_ratio : DSp := fun α QD _ => ∃ (s : Spl) (m : Nat), α = [s.S] ∧ Sok m s ∧ m < 2 ^ 39 ∧ ∀ (x : Nu) (s' : Spl), Rz x → Sok (m + 10) s' → QD (.d x.D) [s'.S]
end KK

set_option maxHeartbeats 1000000
namespace KK
open PySem PySem.Spec L2 DL
def v_ZERO : List V := [.int 0, .int 0, .int 0, .int 1]
def l_ZERO : List PyData := [.int 0, .int 0, .int 0, .int 1]
abbrev d_ZERO : PyData := .tuple l_ZERO
theorem rep_ZERO (K : PySem.W.Frag) : ∀ G, Reps K G v_ZERO l_ZERO := fun G => .cons (.int _) (.cons (.int _) (.cons (.int _) (.cons (.int _) (.nil))))
def v_ONE : List V := [.int 1, .int 0, .int 0, .int 1]
def l_ONE : List PyData := [.int 1, .int 0, .int 0, .int 1]
abbrev d_ONE : PyData := .tuple l_ONE
theorem rep_ONE (K : PySem.W.Frag) : ∀ G, Reps K G v_ONE l_ONE := fun G => .cons (.int _) (.cons (.int _) (.cons (.int _) (.cons (.int _) (.nil))))
/-! ### readings of the text (printed by gen.py) -/
def n_common_divisor : List Str := ["first", "second"]
def r_common_divisor (W : WD) : TSD := sSeq (sWhile (dTest (dOp dNe (dVar 1) (dC (.int 0)))) (sPar 0 1 (dCons (dVar 1) (dCons (dOp dMod (dVar 0) (dVar 1)) (dNil))))) (sRet (dF1 fAbs (dVar 0)))
def n_root_floor : List Str := ["number", "found", "following"]
def r_root_floor (W : WD) : TSD := sSeq (sIf (dTest (dOp dLt (dVar 0) (dC (.int 2)))) (sRet (dVar 0)) (sNext)) (sSeq (sSet 1 (dC (.int 1))) (sSeq (sWhile (dTest (dOp dLe (dOp dMul (dVar 1) (dVar 1)) (dVar 0))) (sAug 1 (dC (.int 2)) dMul)) (sSeq (sSet 2 (dOp dFdiv (dOp dAdd (dVar 1) (dOp dFdiv (dVar 0) (dVar 1))) (dC (.int 2)))) (sSeq (sWhile (dTest (dOp dLt (dVar 2) (dVar 1))) (sSeq (sSet 1 (dVar 2)) (sSet 2 (dOp dFdiv (dOp dAdd (dVar 1) (dOp dFdiv (dVar 0) (dVar 1))) (dC (.int 2)))))) (sRet (dVar 1))))))
def n_without_squares : List Str := ["number", "factor", "rest", "prime"]
def r_without_squares (W : WD) : TSD := sSeq (sPar3 1 2 3 (dCons (dC (.int 1)) (dCons (dVar 0) (dCons (dC (.int 2)) (dNil))))) (sSeq (sWhile (dTest (dOp dLe (dOp dMul (dVar 3) (dVar 3)) (dVar 2))) (sSeq (sWhile (dTest (dOp dEq (dOp dMod (dVar 2) (dOp dMul (dVar 3) (dVar 3))) (dC (.int 0)))) (sSeq (sAug 2 (dOp dMul (dVar 3) (dVar 3)) dFdiv) (sAug 1 (dVar 3) dMul))) (sAug 3 (dC (.int 1)) dIAdd))) (sRet (dTup (dCons (dVar 1) (dCons (dVar 2) (dNil))))))
def n_lowest : List Str := ["p", "q", "d", "s", "divisor"]
def r_lowest (W : WD) : TSD := sSeq (sIf (dTest (dOp dLt (dVar 3) (dC (.int 0)))) (sPar3 0 1 3 (dCons (dNeg (dVar 0)) (dCons (dNeg (dVar 1)) (dCons (dNeg (dVar 3)) (dNil))))) (sNext)) (sSeq (sSet 4 (dCall p_common_divisor W (dCons (dCall p_common_divisor W (dCons (dVar 0) (dCons (dVar 1) (dNil)))) (dCons (dVar 3) (dNil))))) (sSeq (sPar3 0 1 3 (dCons (dOp dFdiv (dVar 0) (dVar 4)) (dCons (dOp dFdiv (dVar 1) (dVar 4)) (dCons (dOp dFdiv (dVar 3) (dVar 4)) (dNil))))) (sRet (dTup (dCons (dVar 0) (dCons (dVar 1) (dCons (dIf (dTest (dOp dNe (dVar 1) (dC (.int 0)))) (dVar 2) (dC (.int 0))) (dCons (dVar 3) (dNil)))))))))
def n_number : List Str := ["p", "q", "d", "s", "factor", "rest"]
def r_number (W : WD) (k_InvalidNumber : Addr) : TSD := sSeq (sIf (dOr (dTest (dOp dEq (dVar 3) (dC (.int 0)))) (dTest (dOp dLt (dVar 2) (dC (.int 0))))) (sRaise W k_InvalidNumber) (sNext)) (sSeq (sAsg (dIf (dTest (dOp dGt (dVar 2) (dC (.int 0)))) (dCall p_without_squares W (dCons (dVar 2) (dNil))) (dTup (dCons (dC (.int 0)) (dCons (dC (.int 0)) (dNil))))) (gTup' (lenIs 2 (gCons' (gName' 4) (gCons' (gName' 5) (gNil')))))) (sSeq (sIf (dTest (dOp dLt (dVar 5) (dC (.int 2)))) (sRet (dCall p_lowest W (dCons (dOp dAdd (dVar 0) (dOp dMul (dVar 1) (dVar 4))) (dCons (dC (.int 0)) (dCons (dC (.int 0)) (dCons (dVar 3) (dNil))))))) (sNext)) (sRet (dCall p_lowest W (dCons (dVar 0) (dCons (dOp dMul (dVar 1) (dVar 4)) (dCons (dVar 5) (dCons (dVar 3) (dNil)))))))))
def n_root_of : List Str := ["first", "second"]
def r_root_of (W : WD) (k_OtherRoot : Addr) : TSD := sSeq (sIf (dAnd (dTest (dOp dNe (dOp atD (dVar 0) (dC (.int 2))) (dC (.int 0)))) (dAnd (dTest (dOp dNe (dOp atD (dVar 1) (dC (.int 2))) (dC (.int 0)))) (dTest (dOp dNe (dOp atD (dVar 0) (dC (.int 2))) (dOp atD (dVar 1) (dC (.int 2))))))) (sRaise W k_OtherRoot) (sNext)) (sRet (dOp fMax (dOp atD (dVar 0) (dC (.int 2))) (dOp atD (dVar 1) (dC (.int 2)))))
def n_plus : List Str := ["first", "second", "d", "p"]
def r_plus (W : WD) : TSD := sSeq (sSet 2 (dCall p_root_of W (dCons (dVar 0) (dCons (dVar 1) (dNil))))) (sSeq (sSet 3 (dOp dAdd (dOp dMul (dOp atD (dVar 0) (dC (.int 0))) (dOp atD (dVar 1) (dC (.int 3)))) (dOp dMul (dOp atD (dVar 1) (dC (.int 0))) (dOp atD (dVar 0) (dC (.int 3)))))) (sRet (dCall p_lowest W (dCons (dVar 3) (dCons (dOp dAdd (dOp dMul (dOp atD (dVar 0) (dC (.int 1))) (dOp atD (dVar 1) (dC (.int 3)))) (dOp dMul (dOp atD (dVar 1) (dC (.int 1))) (dOp atD (dVar 0) (dC (.int 3))))) (dCons (dVar 2) (dCons (dOp dMul (dOp atD (dVar 0) (dC (.int 3))) (dOp atD (dVar 1) (dC (.int 3)))) (dNil))))))))
def n_opposite : List Str := ["one"]
def r_opposite (W : WD) : TSD := sRet (dTup (dCons (dNeg (dOp atD (dVar 0) (dC (.int 0)))) (dCons (dNeg (dOp atD (dVar 0) (dC (.int 1)))) (dCons (dOp atD (dVar 0) (dC (.int 2))) (dCons (dOp atD (dVar 0) (dC (.int 3))) (dNil))))))
def n_minus : List Str := ["first", "second"]
def r_minus (W : WD) : TSD := sRet (dCall p_plus W (dCons (dVar 0) (dCons (dCall p_opposite W (dCons (dVar 1) (dNil))) (dNil))))
def n_times : List Str := ["first", "second", "d", "p"]
def r_times (W : WD) : TSD := sSeq (sSet 2 (dCall p_root_of W (dCons (dVar 0) (dCons (dVar 1) (dNil))))) (sSeq (sSet 3 (dOp dAdd (dOp dMul (dOp atD (dVar 0) (dC (.int 0))) (dOp atD (dVar 1) (dC (.int 0)))) (dOp dMul (dOp dMul (dOp atD (dVar 0) (dC (.int 1))) (dOp atD (dVar 1) (dC (.int 1)))) (dVar 2)))) (sRet (dCall p_lowest W (dCons (dVar 3) (dCons (dOp dAdd (dOp dMul (dOp atD (dVar 0) (dC (.int 0))) (dOp atD (dVar 1) (dC (.int 1)))) (dOp dMul (dOp atD (dVar 0) (dC (.int 1))) (dOp atD (dVar 1) (dC (.int 0))))) (dCons (dVar 2) (dCons (dOp dMul (dOp atD (dVar 0) (dC (.int 3))) (dOp atD (dVar 1) (dC (.int 3)))) (dNil))))))))
def n_over : List Str := ["first", "second", "p", "q", "d", "s"]
def r_over (W : WD) (k_ZeroDivisor : Addr) : TSD := sSeq (sIf (dTest (dOp dEq (dVar 1) (dC d_ZERO))) (sRaise W k_ZeroDivisor) (sNext)) (sSeq (sAsg (dVar 1) (gTup' (lenIs 4 (gCons' (gName' 2) (gCons' (gName' 3) (gCons' (gName' 4) (gCons' (gName' 5) (gNil')))))))) (sRet (dCall p_times W (dCons (dVar 0) (dCons (dCall p_lowest W (dCons (dOp dMul (dVar 2) (dVar 5)) (dCons (dOp dMul (dNeg (dVar 3)) (dVar 5)) (dCons (dVar 4) (dCons (dOp dSub (dOp dMul (dVar 2) (dVar 2)) (dOp dMul (dOp dMul (dVar 3) (dVar 3)) (dVar 4))) (dNil)))))) (dNil))))))
def n_floor : List Str := ["one", "p", "q", "d", "s", "square"]
def r_floor (W : WD) : TSD := sSeq (sAsg (dVar 0) (gTup' (lenIs 4 (gCons' (gName' 1) (gCons' (gName' 2) (gCons' (gName' 3) (gCons' (gName' 4) (gNil')))))))) (sSeq (sSet 5 (dOp dMul (dOp dMul (dVar 2) (dVar 2)) (dVar 3))) (sSeq (sIf (dTest (dOp dGe (dVar 2) (dC (.int 0)))) (sRet (dOp dFdiv (dOp dAdd (dVar 1) (dCall p_root_floor W (dCons (dVar 5) (dNil)))) (dVar 4))) (sNext)) (sRet (dOp dFdiv (dOp dSub (dOp dSub (dVar 1) (dCall p_root_floor W (dCons (dVar 5) (dNil)))) (dC (.int 1))) (dVar 4)))))
def n_whole : List Str := ["value"]
def r_whole (W : WD) : TSD := sRet (dTup (dCons (dVar 0) (dCons (dC (.int 0)) (dCons (dC (.int 0)) (dCons (dC (.int 1)) (dNil))))))
def n_expansion : List Str := ["ratio", "found", "places", "here", "rest", "start"]
def r_expansion (W : WD) : TSD := sSeq (sParD 1 2 (nLst (dNil))) (sSeq (sSet 3 (dVar 0)) (sSeq (sWhile (dTest (dNotD 2 (dVar 3))) (sSeq (sIf (dTest (dOp dEq (dF1 fLen (dVar 1)) (dC (.int 400)))) (sNever) (sNext)) (sSeq (sPutD 2 (dF1 fLen (dVar 1)) (dVar 3)) (sSeq (sApp 1 (dCall p_floor W (dCons (dVar 3) (dNil)))) (sSeq (sSet 4 (dCall p_minus W (dCons (dVar 3) (dCons (dCall p_whole W (dCons (dOp atD (dVar 1) (dNeg (dC (.int 1)))) (dNil))) (dNil))))) (sSeq (sIf (dTest (dOp dEq (dVar 4) (dC d_ZERO))) (sRet (dTup (dCons (dF1 fTup (dVar 1)) (dCons (dTup (dNil)) (dNil))))) (sNext)) (sSet 3 (dCall p_over W (dCons (dC d_ONE) (dCons (dVar 4) (dNil))))))))))) (sSeq (sSet 5 (dGetD 2 (dVar 3))) (sRet (dTup (dCons (dF1 fTup (dNew (nSl (dVar 1) (oNone) (oSome (dVar 5))))) (dCons (dF1 fTup (dNew (nSl (dVar 1) (oSome (dVar 5)) (oNone)))) (dNil))))))))
def n_quotient_at : List Str := ["parts", "place", "first", "period"]
def r_quotient_at (W : WD) : TSD := sSeq (sAsg (dVar 0) (gTup' (lenIs 2 (gCons' (gName' 2) (gCons' (gName' 3) (gNil')))))) (sSeq (sIf (dTest (dOp dLt (dVar 1) (dF1 fLen (dVar 2)))) (sRet (dOp atD (dVar 2) (dVar 1))) (sNext)) (sRet (dIf (dTest (dOp dNe (dVar 3) (dTup (dNil)))) (dOp atD (dVar 3) (dOp dMod (dOp dSub (dVar 1) (dF1 fLen (dVar 2))) (dF1 fLen (dVar 3)))) (dC .none))))
def n_quotients : List Str := ["ratio", "count", "found", "here", "rest"]
def r_quotients (W : WD) : TSD := sSeq (sOwn 2 (nLst (dNil))) (sSeq (sSet 3 (dVar 0)) (sSeq (sWhile (dAnd (dTest (dOp dLt (dF1 fLen (dVar 2)) (dVar 1))) (dTest (dOp dIsNot (dVar 3) (dC .none)))) (sSeq (sApp 2 (dCall p_floor W (dCons (dVar 3) (dNil)))) (sSeq (sSet 4 (dCall p_minus W (dCons (dVar 3) (dCons (dCall p_whole W (dCons (dOp atD (dVar 2) (dNeg (dC (.int 1)))) (dNil))) (dNil))))) (sSet 3 (dIf (dTest (dOp dEq (dVar 4) (dC d_ZERO))) (dC .none) (dCall p_over W (dCons (dC d_ONE) (dCons (dVar 4) (dNil))))))))) (sRetOwn 2)))
def n_continued : List Str := ["first", "last", "found", "quotient"]
def r_continued (W : WD) : TSD := sSeq (sSet 2 (dVar 1)) (sSeq (sFor (itemsD (dNew (nRev (dNew (nList (dVar 0)))))) (gName' 3) (sSet 2 (dCall p_plus W (dCons (dCall p_whole W (dCons (dVar 3) (dNil))) (dCons (dCall p_over W (dCons (dC d_ONE) (dCons (dVar 2) (dNil)))) (dNil)))))) (sRet (dVar 2)))
def n_number_of : List Str := ["parts", "first", "period", "a", "b", "c", "e", "quotient", "divisor"]
def r_number_of (W : WD) (k_InvalidNumber : Addr) : TSD := sSeq (sAsg (dVar 0) (gTup' (lenIs 2 (gCons' (gName' 1) (gCons' (gName' 2) (gNil')))))) (sSeq (sIf (dTest (dOp dEq (dVar 2) (dTup (dNil)))) (sRet (dCall p_continued W (dCons (dSl (dVar 1) (oNone) (oSome (dNeg (dC (.int 1))))) (dCons (dCall p_whole W (dCons (dOp atD (dVar 1) (dNeg (dC (.int 1)))) (dNil))) (dNil))))) (sNext)) (sSeq (sAsg (dTup (dCons (dC (.int 1)) (dCons (dC (.int 0)) (dCons (dC (.int 0)) (dCons (dC (.int 1)) (dNil)))))) (gTup' (lenIs 4 (gCons' (gName' 3) (gCons' (gName' 4) (gCons' (gName' 5) (gCons' (gName' 6) (gNil')))))))) (sSeq (sFor (itemsT (dVar 2)) (gName' 7) (sAsg (dTup (dCons (dOp dAdd (dOp dMul (dVar 3) (dVar 7)) (dVar 4)) (dCons (dVar 3) (dCons (dOp dAdd (dOp dMul (dVar 5) (dVar 7)) (dVar 6)) (dCons (dVar 5) (dNil)))))) (gTup' (lenIs 4 (gCons' (gName' 3) (gCons' (gName' 4) (gCons' (gName' 5) (gCons' (gName' 6) (gNil'))))))))) (sSeq (sSet 8 (dCall p_common_divisor W (dCons (dCall p_common_divisor W (dCons (dVar 5) (dCons (dOp dSub (dVar 3) (dVar 6)) (dNil)))) (dCons (dVar 4) (dNil))))) (sSeq (sPar3 4 5 6 (dCons (dOp dFdiv (dVar 4) (dVar 8)) (dCons (dOp dFdiv (dVar 5) (dVar 8)) (dCons (dOp dFdiv (dOp dSub (dVar 3) (dVar 6)) (dVar 8)) (dNil))))) (sRet (dCall p_continued W (dCons (dVar 1) (dCons (dCall (p_number k_InvalidNumber) W (dCons (dVar 6) (dCons (dC (.int 1)) (dCons (dOp dAdd (dOp dMul (dVar 6) (dVar 6)) (dOp dMul (dOp dMul (dC (.int 4)) (dVar 4)) (dVar 5))) (dCons (dOp dMul (dC (.int 2)) (dVar 5)) (dNil)))))) (dNil))))))))))
def n_convergents : List Str := ["ratio", "count", "found", "top", "bottom", "last_top", "last_bottom", "quotient"]
def r_convergents (W : WD) : TSD := sSeq (sOwn 2 (nLst (dNil))) (sSeq (sAsg (dTup (dCons (dC (.int 1)) (dCons (dC (.int 0)) (dCons (dC (.int 0)) (dCons (dC (.int 1)) (dNil)))))) (gTup' (lenIs 4 (gCons' (gName' 3) (gCons' (gName' 4) (gCons' (gName' 5) (gCons' (gName' 6) (gNil')))))))) (sSeq (sFor (itemsD (dCall p_quotients W (dCons (dVar 0) (dCons (dVar 1) (dNil))))) (gName' 7) (sSeq (sAsg (dTup (dCons (dOp dAdd (dOp dMul (dVar 7) (dVar 3)) (dVar 5)) (dCons (dOp dAdd (dOp dMul (dVar 7) (dVar 4)) (dVar 6)) (dCons (dVar 3) (dCons (dVar 4) (dNil)))))) (gTup' (lenIs 4 (gCons' (gName' 3) (gCons' (gName' 4) (gCons' (gName' 5) (gCons' (gName' 6) (gNil')))))))) (sApp 2 (dTup (dCons (dVar 3) (dCons (dVar 4) (dNil))))))) (sRetOwn 2)))
def n__law_stirred : List Str := ["cell", "place", "modulus", "value", "turn"]
def r__law_stirred (W : WD) : TSD := sSeq (sSet 2 (dC (.int 1180591620717411303449))) (sSeq (sSet 3 (dOp dMod (dOp dAdd (dOp dAdd (dOp dMul (dVar 0) (dC (.int 2685821657736338717))) (dOp dMul (dVar 1) (dC (.int 2891336453)))) (dC (.int 19))) (dVar 2))) (sSeq (sFor (range1D (dCons (dC (.int 4)) (dNil))) (gName' 4) (sSet 3 (dOp dMod (dOp dAdd (dOp dAdd (dOp dAdd (dOp dMul (dVar 3) (dVar 3)) (dOp dMul (dC (.int 3)) (dVar 3))) (dOp dMul (dC (.int 32452843)) (dVar 4))) (dVar 1)) (dVar 2)))) (sRet (dOp dAdd (dOp dMul (dVar 3) (dVar 2)) (dOp dMod (dOp dAdd (dOp dMul (dVar 3) (dC (.int 1103515245))) (dVar 1)) (dVar 2))))))
def n__law_spool_of : List Str := ["script", "numbers", "place", "cell"]
def r__law_spool_of (W : WD) : TSD := sSeq (sOwn 1 (nLc [3] (itemsD (dNew (nScr 0 (oNone) (oSome (dC (.int 16)))))) (gName' 3) (dYes) (dF1 fAbs (dVar 3)))) (sSeq (sFor (enumI (dCons (dNew (nScr 0 (oSome (dC (.int 16))) (oSome (dC (.int 64))))) (dNil))) (gTup' (lenIs 2 (gCons' (gName' 2) (gCons' (gName' 3) (gNil'))))) (sPut 1 (dOp dAdd (dOp atD (dVar 1) (dOp dMod (dVar 2) (dC (.int 16)))) (dF1 fAbs (dVar 3))) (dOp dMod (dVar 2) (dC (.int 16))))) (sRetN (nLst (dCons (dVar 1) (dCons (dC (.int 0)) (dCons (dC (.int 0)) (dCons (dC (.int 0)) (dNil))))))))
def n__law_upto : List Str := ["spool", "bound", "numbers", "place", "cell", "found"]
def r__law_upto (W : WD) : TSD := sSeq (sIf (dTest (dOp dLt (dOp atD (dVar 0) (dC (.int 3))) (dVar 1))) (sSeq (sPar 2 3 (dCons (dOp atD (dVar 0) (dC (.int 0))) (dCons (dOp atD (dVar 0) (dC (.int 1))) (dNil)))) (sSeq (sSet 4 (dIf (dTest (dOp dNe (dVar 2) (dNew (nLst (dNil))))) (dOp atD (dVar 2) (dOp dMod (dVar 3) (dF1 fLen (dVar 2)))) (dC (.int 0)))) (sSeq (sIf (dOr (dTest (dOp dGe (dVar 3) (dF1 fLen (dVar 2)))) (dTest (dOp dLt (dVar 4) (dOp dPow (dC (.int 10)) (dC (.int 15)))))) (sSet 4 (dCall p__law_stirred W (dCons (dOp dMod (dVar 4) (dC (.int 998244353))) (dCons (dVar 3) (dNil))))) (sNext)) (sSeq (sPut 0 (dOp dAdd (dVar 3) (dC (.int 1))) (dC (.int 1))) (sSeq (sPut 0 (dVar 4) (dC (.int 2))) (sPut 0 (dVar 4) (dC (.int 3)))))))) (sNext)) (sSeq (sSet 5 (dOp dMod (dOp atD (dVar 0) (dC (.int 2))) (dVar 1))) (sSeq (sPut 0 (dOp dFdiv (dOp atD (dVar 0) (dC (.int 2))) (dVar 1)) (dC (.int 2))) (sSeq (sPut 0 (dOp dFdiv (dOp atD (dVar 0) (dC (.int 3))) (dVar 1)) (dC (.int 3))) (sRet (dVar 5)))))
def n__law_choice : List Str := ["spool", "items"]
def r__law_choice (W : WD) : TSD := sRet (dOp atD (dVar 1) (withLent 0 (dCallL p__law_upto W 0 (dCons (dF1 fLen (dVar 1)) (dNil)))))
def n__law_common : List Str := ["one", "other"]
def r__law_common (W : WD) : TSD := sSeq (sWhile (dTest (dOp dNe (dVar 1) (dC (.int 0)))) (sPar 0 1 (dCons (dVar 1) (dCons (dOp dMod (dVar 0) (dVar 1)) (dNil))))) (sRet (dF1 fAbs (dVar 0)))
def n__law_square_root : List Str := ["value", "guess", "factor", "better"]
def r__law_square_root (W : WD) : TSD := sSeq (sIf (dTest (dOp dLt (dVar 0) (dC (.int 2)))) (sRet (dVar 0)) (sNext)) (sSeq (sSet 1 (dC (.int 2))) (sSeq (sFor (itemsT (dTup (dCons (dC (.int 65536)) (dCons (dC (.int 2)) (dNil))))) (gName' 2) (sWhile (dTest (dOp dLe (dOp dMul (dOp dMul (dOp dMul (dVar 1) (dVar 1)) (dVar 2)) (dVar 2)) (dOp dMul (dC (.int 4)) (dVar 0)))) (sSet 1 (dOp dMul (dVar 1) (dVar 2))))) (sSeq (sSet 3 (dOp dFdiv (dOp dAdd (dVar 1) (dOp dFdiv (dVar 0) (dVar 1))) (dC (.int 2)))) (sSeq (sWhile (dTest (dOp dLt (dVar 3) (dVar 1))) (sSeq (sSet 1 (dVar 3)) (sSet 3 (dOp dFdiv (dOp dAdd (dVar 1) (dOp dFdiv (dVar 0) (dVar 1))) (dC (.int 2)))))) (sRet (dVar 1))))))
def n__law_lowest : List Str := ["p", "q", "d", "s", "divisor"]
def r__law_lowest (W : WD) : TSD := sSeq (sIf (dOr (dTest (dOp dEq (dVar 1) (dC (.int 0)))) (dTest (dOp dEq (dVar 2) (dC (.int 0))))) (sAsg (dTup (dCons (dC (.int 0)) (dCons (dC (.int 0)) (dNil)))) (gTup' (lenIs 2 (gCons' (gName' 1) (gCons' (gName' 2) (gNil')))))) (sNext)) (sSeq (sSet 4 (dCall p__law_common W (dCons (dCall p__law_common W (dCons (dVar 0) (dCons (dVar 1) (dNil)))) (dCons (dVar 3) (dNil))))) (sSeq (sSet 4 (dIf (dTest (dOp dGt (dVar 3) (dC (.int 0)))) (dVar 4) (dOp dSub (dC (.int 0)) (dVar 4)))) (sRet (dTup (dCons (dOp dFdiv (dVar 0) (dVar 4)) (dCons (dOp dFdiv (dVar 1) (dVar 4)) (dCons (dVar 2) (dCons (dOp dFdiv (dVar 3) (dVar 4)) (dNil)))))))))
def n__law_negative : List Str := ["one"]
def r__law_negative (W : WD) : TSD := sRet (dTup (dCons (dOp dSub (dC (.int 0)) (dOp atD (dVar 0) (dC (.int 0)))) (dCons (dOp dSub (dC (.int 0)) (dOp atD (dVar 0) (dC (.int 1)))) (dCons (dOp atD (dVar 0) (dC (.int 2))) (dCons (dOp atD (dVar 0) (dC (.int 3))) (dNil))))))
def n__law_scaled : List Str := ["one", "places", "p", "q", "d", "s", "ten", "turn", "part"]
def r__law_scaled (W : WD) : TSD := sSeq (sAsg (dVar 0) (gTup' (lenIs 4 (gCons' (gName' 2) (gCons' (gName' 3) (gCons' (gName' 4) (gCons' (gName' 5) (gNil')))))))) (sSeq (sSet 6 (dC (.int 1))) (sSeq (sFor (range1D (dCons (dVar 1) (dNil))) (gName' 7) (sSet 6 (dOp dMul (dVar 6) (dC (.int 10))))) (sSeq (sSet 8 (dCall p__law_square_root W (dCons (dOp dMul (dOp dMul (dOp dMul (dOp dMul (dVar 3) (dVar 3)) (dVar 4)) (dVar 6)) (dVar 6)) (dNil)))) (sRet (dOp dFdiv (dOp dAdd (dOp dMul (dVar 2) (dVar 6)) (dIf (dTest (dOp dGt (dVar 3) (dC (.int 0)))) (dVar 8) (dOp dSub (dC (.int 0)) (dVar 8)))) (dVar 5))))))
def n__law_sign_of : List Str := ["one", "places", "value"]
def r__law_sign_of (W : WD) : TSD := sSeq (sSet 1 (dC (.int 2))) (sSeq (sWhile (dTest (dOp dNe (dSl (dVar 0) (oNone) (oSome (dC (.int 2)))) (dTup (dCons (dC (.int 0)) (dCons (dC (.int 0)) (dNil)))))) (sSeq (sSet 2 (dCall p__law_scaled W (dCons (dVar 0) (dCons (dVar 1) (dNil))))) (sSeq (sIf (dTest (dOp dGt (dF1 fAbs (dVar 2)) (dC (.int 3)))) (sRet (dIf (dTest (dOp dGt (dVar 2) (dC (.int 0)))) (dC (.int 1)) (dOp dSub (dC (.int 0)) (dC (.int 1))))) (sNext)) (sSet 1 (dOp dMul (dC (.int 2)) (dVar 1)))))) (sRet (dC (.int 0))))
def n__law_drawn : List Str := ["spool", "d", "size", "p", "q", "s"]
def r__law_drawn (W : WD) : TSD := sSeq (sPar 3 4 (dCons (dOp dSub (withLent 0 (dCallL p__law_upto W 0 (dCons (dOp dAdd (dOp dMul (dC (.int 2)) (dVar 2)) (dC (.int 1))) (dNil)))) (dVar 2)) (dCons (dOp dSub (withLent 0 (dCallL p__law_upto W 0 (dCons (dOp dAdd (dOp dMul (dC (.int 2)) (dVar 2)) (dC (.int 1))) (dNil)))) (dVar 2)) (dNil)))) (sSeq (sSet 5 (dOp dAdd (dC (.int 1)) (withLent 0 (dCallL p__law_upto W 0 (dCons (dVar 2) (dNil)))))) (sRet (dCall p__law_lowest W (dCons (dVar 3) (dCons (withLent 0 (dCallL p__law_choice W 0 (dCons (dNew (nLst (dCons (dC (.int 0)) (dCons (dVar 4) (dCons (dVar 4) (dNil)))))) (dNil)))) (dCons (dVar 1) (dCons (dVar 5) (dNil))))))))
def n__law_drawn_ratio : List Str := ["spool", "d", "found"]
def r__law_drawn_ratio (W : WD) : TSD := sSeq (sSet 1 (withLent 0 (dCallL p__law_choice W 0 (dCons (dNew (nLst (dCons (dC (.int 2)) (dCons (dC (.int 3)) (dCons (dC (.int 5)) (dCons (dC (.int 5)) (dCons (dC (.int 6)) (dCons (dC (.int 7)) (dCons (dC (.int 13)) (dCons (dC (.int 21)) (dNil))))))))))) (dNil))))) (sSeq (sSet 2 (withLent 0 (dCallL p__law_drawn W 0 (dCons (dVar 1) (dCons (withLent 0 (dCallL p__law_choice W 0 (dCons (dNew (nLst (dCons (dC (.int 1)) (dCons (dC (.int 2)) (dCons (dC (.int 3)) (dCons (dC (.int 5)) (dNil))))))) (dNil)))) (dNil)))))) (sSeq (sIf (dTest (dOp dLt (dCall p__law_sign_of W (dCons (dVar 2) (dNil))) (dC (.int 0)))) (sSet 2 (dCall p__law_negative W (dCons (dVar 2) (dNil)))) (sNext)) (sRet (dIf (dTest (dOp dNe (dSl (dVar 2) (oNone) (oSome (dC (.int 2)))) (dTup (dCons (dC (.int 0)) (dCons (dC (.int 0)) (dNil)))))) (dVar 2) (dTup (dCons (dC (.int 1)) (dCons (dC (.int 1)) (dCons (dC (.int 5)) (dCons (dC (.int 2)) (dNil))))))))))
def n_law : List Str := ["script", "spool", "turn", "ratio", "parts", "large", "value", "more", "due", "found", "place", "under", "rest", "pairs", "top", "bottom", "over_it", "under_it"]
def r_law (W : WD) (k_InvalidNumber : Addr) : TSD := sSeq (sOwn 1 (withLentN 0 (nCallL p__law_spool_of W 0 (dNil)))) (sSeq (sFor (range1D (dCons (dC (.int 8)) (dNil))) (gName' 2) (sSeq (sSet 3 (withLent 1 (dCallL p__law_drawn_ratio W 1 (dNil)))) (sSeq (sSet 4 (dCall p_expansion W (dCons (dVar 3) (dNil)))) (sSeq (sIf (dAnd (dTest (dOp dLt (dF1 fLen (dOp atD (dVar 4) (dC (.int 1)))) (dC (.int 5)))) (dAnd (dTest (dOp dLt (dF1 fMax1 (dOp dAdd (dTup (dCons (dC (.int 1)) (dNil))) (dOp atD (dVar 4) (dC (.int 1))))) (dC (.int 21)))) (dTest (dOp dNe (dCall p_number_of W (dCons (dVar 4) (dNil))) (dVar 3))))) (sRet (dC (.bool false))) (sNext)) (sSeq (sSet 5 (dCall (p_number k_InvalidNumber) W (dCons (dOp dAdd (dC (.int 1)) (withLent 1 (dCallL p__law_upto W 1 (dCons (dOp dPow (dC (.int 10)) (dC (.int 20))) (dNil))))) (dCons (dC (.int 0)) (dCons (dC (.int 0)) (dCons (dOp dAdd (dC (.int 1)) (withLent 1 (dCallL p__law_upto W 1 (dCons (dOp dPow (dC (.int 10)) (dC (.int 20))) (dNil))))) (dNil))))))) (sSeq (sIf (dTest (dOp dNe (dCall p_number_of W (dCons (dCall p_expansion W (dCons (dVar 5) (dNil))) (dNil))) (dVar 5))) (sRet (dC (.bool false))) (sNext)) (sSeq (sSet 6 (dOp dAdd (dC (.int 1)) (withLent 1 (dCallL p__law_upto W 1 (dCons (dC (.int 9)) (dNil)))))) (sSeq (sSet 7 (dCall p_expansion W (dCons (dCall p_plus W (dCons (dVar 3) (dCons (dCall (p_number k_InvalidNumber) W (dCons (dVar 6) (dCons (dC (.int 0)) (dCons (dC (.int 0)) (dCons (dC (.int 1)) (dNil)))))) (dNil)))) (dNil)))) (sSeq (sSet 8 (dOp dAdd (dNew (nLst (dCons (dOp dAdd (dCall p_quotient_at W (dCons (dVar 4) (dCons (dC (.int 0)) (dNil)))) (dVar 6)) (dNil)))) (dNew (nSl (dCall p_quotients W (dCons (dVar 3) (dCons (dC (.int 30)) (dNil)))) (oSome (dC (.int 1))) (oNone))))) (sSeq (sOwn 9 (nLst (dNil))) (sSeq (sFor (range1D (dCons (dC (.int 30)) (dNil))) (gName' 10) (sIf (dTest (dOp dIsNot (dCall p_quotient_at W (dCons (dVar 7) (dCons (dVar 10) (dNil)))) (dC .none))) (sApp 9 (dCall p_quotient_at W (dCons (dVar 7) (dCons (dVar 10) (dNil))))) (sNext))) (sSeq (sIf (dTest (dOp dNe (dVar 9) (dVar 8))) (sRet (dC (.bool false))) (sNext)) (sSeq (sIf (dAnd (dTest (dOp dGt (dCall p_quotient_at W (dCons (dVar 4) (dCons (dC (.int 0)) (dNil)))) (dC (.int 0)))) (dTest (dOp dNe (dVar 3) (dTup (dCons (dC (.int 1)) (dCons (dC (.int 0)) (dCons (dC (.int 0)) (dCons (dC (.int 1)) (dNil))))))))) (sSeq (sSet 11 (dCall p_over W (dCons (dTup (dCons (dC (.int 1)) (dCons (dC (.int 0)) (dCons (dC (.int 0)) (dCons (dC (.int 1)) (dNil)))))) (dCons (dVar 3) (dNil))))) (sIf (dTest (dOp dNe (dCall p_quotients W (dCons (dVar 11) (dCons (dC (.int 31)) (dNil)))) (dOp dAdd (dNew (nLst (dCons (dC (.int 0)) (dNil)))) (dCall p_quotients W (dCons (dVar 3) (dCons (dC (.int 30)) (dNil))))))) (sRet (dC (.bool false))) (sNext))) (sNext)) (sSeq (sSet 12 (dCall p_minus W (dCons (dVar 3) (dCons (dCall (p_number k_InvalidNumber) W (dCons (dCall p_quotient_at W (dCons (dVar 4) (dCons (dC (.int 0)) (dNil)))) (dCons (dC (.int 0)) (dCons (dC (.int 0)) (dCons (dC (.int 1)) (dNil)))))) (dNil))))) (sSeq (sIf (dAnd (dTest (dOp dNe (dSl (dVar 12) (oNone) (oSome (dC (.int 2)))) (dTup (dCons (dC (.int 0)) (dCons (dC (.int 0)) (dNil)))))) (dTest (dOp dNe (dCall p_quotients W (dCons (dCall p_over W (dCons (dTup (dCons (dC (.int 1)) (dCons (dC (.int 0)) (dCons (dC (.int 0)) (dCons (dC (.int 1)) (dNil)))))) (dCons (dVar 12) (dNil)))) (dCons (dC (.int 29)) (dNil)))) (dNew (nSl (dCall p_quotients W (dCons (dVar 3) (dCons (dC (.int 30)) (dNil)))) (oSome (dC (.int 1))) (oNone)))))) (sRet (dC (.bool false))) (sNext)) (sSeq (sSet 13 (dCall p_convergents W (dCons (dVar 3) (dCons (dC (.int 25)) (dNil))))) (sFor (range1D (dCons (dOp dSub (dF1 fLen (dVar 13)) (dC (.int 1))) (dNil))) (gName' 10) (sSeq (sAsg (dOp atD (dVar 13) (dVar 10)) (gTup' (lenIs 2 (gCons' (gName' 14) (gCons' (gName' 15) (gNil')))))) (sSeq (sAsg (dOp atD (dVar 13) (dOp dAdd (dVar 10) (dC (.int 1)))) (gTup' (lenIs 2 (gCons' (gName' 16) (gCons' (gName' 17) (gNil')))))) (sSeq (sSet 6 (dOp dSub (dOp dMul (dVar 16) (dVar 15)) (dOp dMul (dVar 17) (dVar 14)))) (sIf (dTest (dOp dNe (dVar 6) (dOp dSub (dC (.int 1)) (dOp dMul (dC (.int 2)) (dOp dMod (dVar 10) (dC (.int 2))))))) (sRet (dC (.bool false))) (sNext)))))))))))))))))))))) (sRet (dC (.bool true))))
end KK
set_option maxHeartbeats 1000000
namespace KK
open PySem PySem.Spec PyProof.Rows L2 DL
theorem pure_common_divisor (α : List SD) (QD : Ret → List SD → Prop) (ED : Exd → List SD → Prop) (W : WD) (hW : W = fun e ρ => outK α ρ fun α' => ED e α') (h : p_common_divisor α QD ED) : r_common_divisor W (DEnd α QD) (startD n_common_divisor.length α) := by
  obtain ⟨a, b, rfl, hq⟩ := h
  unfold r_common_divisor DEnd
  refine ⟨fun m ρ => ∃ x y : Int, ρ = [iv x, iv y] ∧ m = y.natAbs ∧ Int.gcd x y = Int.gcd a b, ⟨_, a, b, rfl, rfl, rfl⟩, ?_⟩
  rintro _ _ ⟨x, y, rfl, rfl, hg⟩
  by_cases hy : y = 0
  · subst hy
    simp [sSeq, sIf, sNext, sSet, sAug, sRet, sPar, sPar3, asThree, sRaise, sAsg, sOwn, sApp, sPut, sRetN, sRetOwn, sRetU, sDrop, sBreak, sCont, dVar, dC, dOp, dTest, dCons, dNil, dTup, nLst, dNew, dNeg, dIf, dF1, dAnd, dOr, dNot, dAndV, dOrV, dNotV, dCall, nCall, dCallL, nCallL, withLent, withLentN, vw, frz, dI, dI0, dB0, int2, dEq, dNe, dAdd, dSub, dIAdd, atD, gName', gTup', gNil', gCons', gLst', lenIs, retD, retN, lendK, backK, isLent, ownK, fAbs, fLen, fMax, fMin, startD, outK, shp_int, eqv_int]
    rw [← hg] at hq
    have e : ((Int.gcd x 0 : Nat) : Int) = if x < 0 then -x else x := by
      rw [Int.gcd_zero_right]; split <;> omega
    rwa [e] at hq
  · simp [sSeq, sIf, sNext, sSet, sAug, sRet, sPar, sPar3, asThree, sRaise, sAsg, sOwn, sApp, sPut, sRetN, sRetOwn, sRetU, sDrop, sBreak, sCont, dVar, dC, dOp, dTest, dCons, dNil, dTup, nLst, dNew, dNeg, dIf, dF1, dAnd, dOr, dNot, dAndV, dOrV, dNotV, dCall, nCall, dCallL, nCallL, withLent, withLentN, vw, frz, dI, dI0, dB0, int2, dEq, dNe, dAdd, dSub, dIAdd, atD, gName', gTup', gNil', gCons', gLst', lenIs, retD, retN, lendK, backK, isLent, ownK, fAbs, fLen, fMax, fMin, startD, outK, shp_int, eqv_int, hy]
    refine ⟨(x.fmod y).natAbs, ?_, y, x.fmod y, ⟨rfl, rfl⟩, rfl, ?_⟩
    · rcases Int.lt_or_gt_of_ne hy with h | h
      · have h1 := Int.fmod_nonneg_of_pos (-x) (show 0 < -y by omega)
        have h2 := Int.fmod_lt_of_pos (-x) (show 0 < -y by omega)
        rw [Int.neg_fmod_neg] at h1 h2
        omega
      · have h1 := Int.fmod_nonneg_of_pos x h
        have h2 := Int.fmod_lt_of_pos x h
        omega
    · rw [← hg]
      have e : x.fmod y = x - y * (x.fdiv y) := by have := Int.mul_fdiv_add_fmod x y; omega
      rw [e, Int.gcd_comm x y, Int.sub_eq_add_neg, ← Int.mul_neg, Int.gcd_add_mul_left_right]
theorem newton {a f : Int} (hf : 0 < f) (ha : 0 ≤ a) (r : Int) (h : r * r ≤ a) (hr : 0 ≤ r) : r ≤ (f + a / f) / 2 := by
  rcases Int.lt_or_le ((f + a / f) / 2) r with z | z
  · have h1 : f + a / f ≤ 2 * r - 1 := by omega
    have h2 : a < f * (a / f + 1) := by
      have := Int.lt_mul_ediv_self_add (x := a) hf
      grind
    have h3 : f * (a / f + 1) ≤ f * (2 * r - f) := Int.mul_le_mul_of_nonneg_left (by omega) (by omega)
    have h4 := sq_nn (r - f)
    grind
  · exact z
theorem Bd.two {i : Int} (h0 : 0 ≤ i) (h : i < 4) : Bd 2 i := by unfold Bd; omega
theorem Bd.of {n : Nat} {i j : Int} (h : Bd n j) (h0 : 0 ≤ i) (h1 : i ≤ j) : Bd n i := by unfold Bd at *; omega
theorem pure_root_floor (α : List SD) (QD : Ret → List SD → Prop) (ED : Exd → List SD → Prop) (W : WD) (hW : W = fun e ρ => outK α ρ fun α' => ED e α') (h : p_root_floor α QD ED) : r_root_floor W (DEnd α QD) (startD n_root_floor.length α) := by
  obtain ⟨a, rfl, ha, hB, hq⟩ := h
  unfold r_root_floor DEnd
  have B2 : Bd 8002 (2 * a) := by
    have := (Bd.two (i := 2) (by omega) (by omega)).mul hB
    exact this.mono (by omega)
  by_cases h2 : a < 2
  · simp [sSeq, sIf, sNext, sSet, sAug, sRet, sPar, sPar3, asThree, sRaise, sAsg, sOwn, sApp, sPut, sRetN, sRetOwn, sRetU, sDrop, sBreak, sCont, dVar, dC, dOp, dTest, dCons, dNil, dTup, nLst, dNew, dNeg, dIf, dF1, dAnd, dOr, dNot, dAndV, dOrV, dNotV, dCall, nCall, dCallL, nCallL, withLent, withLentN, vw, frz, dI, dI0, dB0, int2, dEq, dNe, dAdd, dSub, dIAdd, atD, gName', gTup', gNil', gCons', gLst', lenIs, retD, retN, lendK, backK, isLent, ownK, fAbs, fLen, fMax, fMin, startD, outK, shp_int, eqv_int, h2]
    refine hq a ⟨ha, ?_, ?_⟩ <;> (have : a = 0 ∨ a = 1 := by omega) <;> rcases this with rfl | rfl <;> decide
  · simp [sSeq, sIf, sNext, sSet, sAug, sRet, sPar, sPar3, asThree, sRaise, sAsg, sOwn, sApp, sPut, sRetN, sRetOwn, sRetU, sDrop, sBreak, sCont, dVar, dC, dOp, dTest, dCons, dNil, dTup, nLst, dNew, dNeg, dIf, dF1, dAnd, dOr, dNot, dAndV, dOrV, dNotV, dCall, nCall, dCallL, nCallL, withLent, withLentN, vw, frz, dI, dI0, dB0, int2, dEq, dNe, dAdd, dSub, dIAdd, atD, gName', gTup', gNil', gCons', gLst', lenIs, retD, retN, lendK, backK, isLent, ownK, fAbs, fLen, fMax, fMin, startD, outK, shp_int, eqv_int, h2, n_root_floor]
    refine ⟨fun m ρ => ∃ f : Int, ρ = [iv a, iv f, .no] ∧ 0 < f ∧ f ≤ 2 * a ∧ m = (2 * a - f).natAbs, ⟨_, 1, rfl, by omega, by omega, rfl⟩, ?_⟩
    rintro _ _ ⟨f, rfl, f0, fa, rfl⟩
    have Bf : Bd 8002 f := B2.of (by omega) fa
    simp [sSeq, sIf, sNext, sSet, sAug, sRet, sPar, sPar3, asThree, sRaise, sAsg, sOwn, sApp, sPut, sRetN, sRetOwn, sRetU, sDrop, sBreak, sCont, dVar, dC, dOp, dTest, dCons, dNil, dTup, nLst, dNew, dNeg, dIf, dF1, dAnd, dOr, dNot, dAndV, dOrV, dNotV, dCall, nCall, dCallL, nCallL, withLent, withLentN, vw, frz, dI, dI0, dB0, int2, dEq, dNe, dAdd, dSub, dIAdd, atD, gName', gTup', gNil', gCons', gLst', lenIs, retD, retN, lendK, backK, isLent, ownK, fAbs, fLen, fMax, fMin, startD, outK, shp_int, eqv_int]
    refine ⟨Bf.cm Bf (by omega), ?_⟩
    by_cases hff : f * f ≤ a
    · have : f ≤ a := by
        have := Int.mul_le_mul_of_nonneg_left (show 1 ≤ f by omega) (show 0 ≤ f by omega)
        omega
      simp [sSeq, sIf, sNext, sSet, sAug, sRet, sPar, sPar3, asThree, sRaise, sAsg, sOwn, sApp, sPut, sRetN, sRetOwn, sRetU, sDrop, sBreak, sCont, dVar, dC, dOp, dTest, dCons, dNil, dTup, nLst, dNew, dNeg, dIf, dF1, dAnd, dOr, dNot, dAndV, dOrV, dNotV, dCall, nCall, dCallL, nCallL, withLent, withLentN, vw, frz, dI, dI0, dB0, int2, dEq, dNe, dAdd, dSub, dIAdd, atD, gName', gTup', gNil', gCons', gLst', lenIs, retD, retN, lendK, backK, isLent, ownK, fAbs, fLen, fMax, fMin, startD, outK, shp_int, eqv_int, hff]
      exact ⟨Bf.cm (Bd.two (i := 2) (by omega) (by omega)) (by omega), (2 * a - f * 2).natAbs, by omega, by omega, by omega, rfl⟩
    · simp [sSeq, sIf, sNext, sSet, sAug, sRet, sPar, sPar3, asThree, sRaise, sAsg, sOwn, sApp, sPut, sRetN, sRetOwn, sRetU, sDrop, sBreak, sCont, dVar, dC, dOp, dTest, dCons, dNil, dTup, nLst, dNew, dNeg, dIf, dF1, dAnd, dOr, dNot, dAndV, dOrV, dNotV, dCall, nCall, dCallL, nCallL, withLent, withLentN, vw, frz, dI, dI0, dB0, int2, dEq, dNe, dAdd, dSub, dIAdd, atD, gName', gTup', gNil', gCons', gLst', lenIs, retD, retN, lendK, backK, isLent, ownK, fAbs, fLen, fMax, fMin, startD, outK, shp_int, eqv_int, hff]
      have cd : ∀ g x : Int, 0 < g → g ≤ 2 * a → CDivF x g := fun g x h1 h2 => ⟨by omega, (B2.of (by omega) h2).log (by omega)⟩
      have c2 : ∀ x : Int, CDivF x 2 := fun x => ⟨by decide, by decide⟩
      have da : ∀ g : Int, 0 < g → 0 ≤ a / g ∧ a / g ≤ a := fun g hg => ⟨Int.ediv_nonneg ha (by omega), Int.ediv_le_self _ ha⟩
      refine ⟨cd f a f0 fa, c2 _, ?_⟩
      rw [fd_pos f0, fd_pos (show (0 : Int) < 2 by decide)]
      refine ⟨fun m ρ => ∃ f : Int, ρ = [iv a, iv f, iv ((f + a / f) / 2)] ∧ 0 < f ∧ f ≤ 2 * a ∧ (∀ r, 0 ≤ r → r * r ≤ a → r ≤ f) ∧ m = f.natAbs, ⟨_, f, rfl, f0, fa, fun r h0 hr => ?_, rfl⟩, ?_⟩
      · rcases Int.lt_or_le f r with z | z
        · have := Int.mul_le_mul (show f ≤ r by omega) (show f ≤ r by omega) (by omega) (by omega)
          omega
        · exact z
      rintro _ _ ⟨g, rfl, g0, ga, hg, rfl⟩
      simp [sSeq, sIf, sNext, sSet, sAug, sRet, sPar, sPar3, asThree, sRaise, sAsg, sOwn, sApp, sPut, sRetN, sRetOwn, sRetU, sDrop, sBreak, sCont, dVar, dC, dOp, dTest, dCons, dNil, dTup, nLst, dNew, dNeg, dIf, dF1, dAnd, dOr, dNot, dAndV, dOrV, dNotV, dCall, nCall, dCallL, nCallL, withLent, withLentN, vw, frz, dI, dI0, dB0, int2, dEq, dNe, dAdd, dSub, dIAdd, atD, gName', gTup', gNil', gCons', gLst', lenIs, retD, retN, lendK, backK, isLent, ownK, fAbs, fLen, fMax, fMin, startD, outK, shp_int, eqv_int]
      have nw : ∀ r, 0 ≤ r → r * r ≤ a → r ≤ (g + a / g) / 2 := fun r h0 hr => newton g0 ha r hr h0
      by_cases hlt : (g + a / g) / 2 < g
      · have p1 : 1 ≤ (g + a / g) / 2 := nw 1 (by omega) (by omega)
        simp [sSeq, sIf, sNext, sSet, sAug, sRet, sPar, sPar3, asThree, sRaise, sAsg, sOwn, sApp, sPut, sRetN, sRetOwn, sRetU, sDrop, sBreak, sCont, dVar, dC, dOp, dTest, dCons, dNil, dTup, nLst, dNew, dNeg, dIf, dF1, dAnd, dOr, dNot, dAndV, dOrV, dNotV, dCall, nCall, dCallL, nCallL, withLent, withLentN, vw, frz, dI, dI0, dB0, int2, dEq, dNe, dAdd, dSub, dIAdd, atD, gName', gTup', gNil', gCons', gLst', lenIs, retD, retN, lendK, backK, isLent, ownK, fAbs, fLen, fMax, fMin, startD, outK, shp_int, eqv_int, hlt]
        refine ⟨cd _ _ (by omega) (by omega), c2 _, ?_⟩
        rw [fd_pos (show 0 < (g + a / g) / 2 by omega), fd_pos (show (0 : Int) < 2 by decide)]
        exact ⟨_, by omega, _, ⟨rfl, rfl⟩, by omega, by omega, nw, rfl⟩
      · simp [sSeq, sIf, sNext, sSet, sAug, sRet, sPar, sPar3, asThree, sRaise, sAsg, sOwn, sApp, sPut, sRetN, sRetOwn, sRetU, sDrop, sBreak, sCont, dVar, dC, dOp, dTest, dCons, dNil, dTup, nLst, dNew, dNeg, dIf, dF1, dAnd, dOr, dNot, dAndV, dOrV, dNotV, dCall, nCall, dCallL, nCallL, withLent, withLentN, vw, frz, dI, dI0, dB0, int2, dEq, dNe, dAdd, dSub, dIAdd, atD, gName', gTup', gNil', gCons', gLst', lenIs, retD, retN, lendK, backK, isLent, ownK, fAbs, fLen, fMax, fMin, startD, outK, shp_int, eqv_int, hlt]
        have h1 : g ≤ a / g := by omega
        have h2 : g * g ≤ a := by
          have h3 := Int.mul_le_mul_of_nonneg_left h1 (show 0 ≤ g by omega)
          have h4 := Int.mul_ediv_self_le (x := a) (k := g) (by omega)
          omega
        refine hq g ⟨by omega, h2, ?_⟩
        rcases Int.lt_or_le a ((g + 1) * (g + 1)) with z | z
        · exact z
        · have := hg (g + 1) (by omega) z
          omega
theorem pure_without_squares (α : List SD) (QD : Ret → List SD → Prop) (ED : Exd → List SD → Prop) (W : WD) (hW : W = fun e ρ => outK α ρ fun α' => ED e α') (h : p_without_squares α QD ED) : r_without_squares W (DEnd α QD) (startD n_without_squares.length α) := by
  obtain ⟨a, rfl, ha, hB, hq⟩ := h
  unfold r_without_squares DEnd
  have B2 : Bd 4003 (4 * a) := by
    have := (show Bd 3 4 by unfold Bd; decide).mul hB
    exact this.mono (by omega)
  have Ba : ∀ {i : Int}, 0 ≤ i → i ≤ 4 * a → Bd 4003 i := fun h0 h1 => B2.of h0 h1
  simp [sSeq, sIf, sNext, sSet, sAug, sRet, sPar, sPar3, asThree, sRaise, sAsg, sOwn, sApp, sPut, sRetN, sRetOwn, sRetU, sDrop, sBreak, sCont, dVar, dC, dOp, dTest, dCons, dNil, dTup, nLst, dNew, dNeg, dIf, dF1, dAnd, dOr, dNot, dAndV, dOrV, dNotV, dCall, nCall, dCallL, nCallL, withLent, withLentN, vw, frz, dI, dI0, dB0, int2, dEq, dNe, dAdd, dSub, dIAdd, atD, gName', gTup', gNil', gCons', gLst', lenIs, retD, retN, lendK, backK, isLent, ownK, fAbs, fLen, fMax, fMin, startD, outK, shp_int, eqv_int, n_without_squares]
  refine ⟨fun m ρ => ∃ f r p : Int, ρ = [iv a, iv f, iv r, iv p] ∧ 0 < f ∧ 0 < r ∧ 1 < p ∧ p ≤ a + 1 + 1 ∧ f * f * r = a ∧ (∀ k : Int, 1 < k → k < p → ¬ (k * k ∣ r)) ∧ m = (a + 2 - p).natAbs, ⟨_, 1, a, 2, rfl, by omega, ha, by omega, by omega, by omega, fun k h1 h2 => by omega, rfl⟩, ?_⟩
  rintro _ _ ⟨f, r, p, rfl, f0, r0, p1, pa, e, hs, rfl⟩
  have ff : 1 ≤ f * f := by have := Int.mul_pos f0 f0; omega
  have ra : r ≤ a := by
    have := Int.mul_le_mul_of_nonneg_right ff (show 0 ≤ r by omega)
    omega
  have fa : f ≤ a := by
    have h1 := Int.mul_le_mul_of_nonneg_left (show 1 ≤ f by omega) (show 0 ≤ f by omega)
    have h2 := Int.mul_le_mul_of_nonneg_left (show 1 ≤ r by omega) (show 0 ≤ f * f by omega)
    omega
  have Bp : Bd 4003 p := Ba (by omega) (by omega)
  simp [sSeq, sIf, sNext, sSet, sAug, sRet, sPar, sPar3, asThree, sRaise, sAsg, sOwn, sApp, sPut, sRetN, sRetOwn, sRetU, sDrop, sBreak, sCont, dVar, dC, dOp, dTest, dCons, dNil, dTup, nLst, dNew, dNeg, dIf, dF1, dAnd, dOr, dNot, dAndV, dOrV, dNotV, dCall, nCall, dCallL, nCallL, withLent, withLentN, vw, frz, dI, dI0, dB0, int2, dEq, dNe, dAdd, dSub, dIAdd, atD, gName', gTup', gNil', gCons', gLst', lenIs, retD, retN, lendK, backK, isLent, ownK, fAbs, fLen, fMax, fMin, startD, outK, shp_int, eqv_int]
  refine ⟨Bp.cm Bp (by omega), ?_⟩
  by_cases hpp : p * p ≤ r
  · simp [sSeq, sIf, sNext, sSet, sAug, sRet, sPar, sPar3, asThree, sRaise, sAsg, sOwn, sApp, sPut, sRetN, sRetOwn, sRetU, sDrop, sBreak, sCont, dVar, dC, dOp, dTest, dCons, dNil, dTup, nLst, dNew, dNeg, dIf, dF1, dAnd, dOr, dNot, dAndV, dOrV, dNotV, dCall, nCall, dCallL, nCallL, withLent, withLentN, vw, frz, dI, dI0, dB0, int2, dEq, dNe, dAdd, dSub, dIAdd, atD, gName', gTup', gNil', gCons', gLst', lenIs, retD, retN, lendK, backK, isLent, ownK, fAbs, fLen, fMax, fMin, startD, outK, shp_int, eqv_int, hpp]
    have hpa : p ≤ a := by
      have := Int.mul_le_mul_of_nonneg_left (show 1 ≤ p by omega) (show 0 ≤ p by omega)
      omega
    have p0 : 0 < p * p := Int.mul_pos (by omega) (by omega)
    refine ⟨fun m ρ => ∃ f r : Int, ρ = [iv a, iv f, iv r, iv p] ∧ 0 < f ∧ 0 < r ∧ f * f * r = a ∧ (∀ k : Int, 1 < k → k < p → ¬ (k * k ∣ r)) ∧ m = r.natAbs, ⟨_, f, r, rfl, f0, r0, e, hs, rfl⟩, ?_⟩
    rintro _ _ ⟨f', r', rfl, f0, r0, e, hs, rfl⟩
    have fm : (r'.fmod (p * p) = 0) ↔ (p * p ∣ r') := by rw [fm_pos p0, ← Int.dvd_iff_emod_eq_zero]
    have ff : 1 ≤ f' * f' := by have := Int.mul_pos f0 f0; omega
    have ra : r' ≤ a := by
      have := Int.mul_le_mul_of_nonneg_right ff (show 0 ≤ r' by omega)
      omega
    have fa : f' ≤ a := by
      have h1 := Int.mul_le_mul_of_nonneg_left (show 1 ≤ f' by omega) (show 0 ≤ f' by omega)
      have h2 := Int.mul_le_mul_of_nonneg_left (show 1 ≤ r' by omega) (show 0 ≤ f' * f' by omega)
      omega
    simp [sSeq, sIf, sNext, sSet, sAug, sRet, sPar, sPar3, asThree, sRaise, sAsg, sOwn, sApp, sPut, sRetN, sRetOwn, sRetU, sDrop, sBreak, sCont, dVar, dC, dOp, dTest, dCons, dNil, dTup, nLst, dNew, dNeg, dIf, dF1, dAnd, dOr, dNot, dAndV, dOrV, dNotV, dCall, nCall, dCallL, nCallL, withLent, withLentN, vw, frz, dI, dI0, dB0, int2, dEq, dNe, dAdd, dSub, dIAdd, atD, gName', gTup', gNil', gCons', gLst', lenIs, retD, retN, lendK, backK, isLent, ownK, fAbs, fLen, fMax, fMin, startD, outK, shp_int, eqv_int]
    refine ⟨Bp.cm Bp (by omega), by omega, ?_⟩
    by_cases hd : p * p ∣ r'
    · have hd' := fm.mpr hd
      simp [sSeq, sIf, sNext, sSet, sAug, sRet, sPar, sPar3, asThree, sRaise, sAsg, sOwn, sApp, sPut, sRetN, sRetOwn, sRetU, sDrop, sBreak, sCont, dVar, dC, dOp, dTest, dCons, dNil, dTup, nLst, dNew, dNeg, dIf, dF1, dAnd, dOr, dNot, dAndV, dOrV, dNotV, dCall, nCall, dCallL, nCallL, withLent, withLentN, vw, frz, dI, dI0, dB0, int2, dEq, dNe, dAdd, dSub, dIAdd, atD, gName', gTup', gNil', gCons', gLst', lenIs, retD, retN, lendK, backK, isLent, ownK, fAbs, fLen, fMax, fMin, startD, outK, shp_int, eqv_int, hd']
      obtain ⟨t, rfl⟩ := hd
      have t0 : 0 < t := by
        rcases Int.lt_or_le 0 t with z | z
        · exact z
        · have := Int.mul_nonpos_of_nonneg_of_nonpos (show 0 ≤ p * p by omega) z
          omega
      have et : (p * p * t).fdiv (p * p) = t := by rw [fd_pos p0, Int.mul_ediv_cancel_left _ (by omega)]
      have B9 : Bd 8006 (p * p) := (Bp.mul Bp).mono (by omega)
      refine ⟨Bp.cm Bp (by omega), ⟨by omega, B9.log (by omega)⟩, (Ba (by omega) (by omega)).cm Bp (by omega), ?_⟩
      rw [et]
      have lt : t < p * p * t := by
        have h4 : 4 ≤ p * p := by
          have := Int.mul_le_mul (show 2 ≤ p by omega) (show 2 ≤ p by omega) (by omega) (by omega)
          omega
        have := Int.mul_le_mul_of_nonneg_right h4 (show 0 ≤ t by omega)
        omega
      refine ⟨_, ?_, f' * p, t, ⟨rfl, rfl⟩, Int.mul_pos f0 (by omega), t0, by rw [← e]; grind, fun k h1 h2 hk => hs k h1 h2 (Int.dvd_trans hk (Int.dvd_mul_left _ _)), rfl⟩
      omega
    · have hd' : ¬ (r'.fmod (p * p) = 0) := fun z => hd (fm.mp z)
      simp [sSeq, sIf, sNext, sSet, sAug, sRet, sPar, sPar3, asThree, sRaise, sAsg, sOwn, sApp, sPut, sRetN, sRetOwn, sRetU, sDrop, sBreak, sCont, dVar, dC, dOp, dTest, dCons, dNil, dTup, nLst, dNew, dNeg, dIf, dF1, dAnd, dOr, dNot, dAndV, dOrV, dNotV, dCall, nCall, dCallL, nCallL, withLent, withLentN, vw, frz, dI, dI0, dB0, int2, dEq, dNe, dAdd, dSub, dIAdd, atD, gName', gTup', gNil', gCons', gLst', lenIs, retD, retN, lendK, backK, isLent, ownK, fAbs, fLen, fMax, fMin, startD, outK, shp_int, eqv_int, hd']
      refine ⟨_, ?_, f', r', p + 1, ⟨rfl, rfl, rfl⟩, f0, r0, by omega, by omega, e, fun k h1 h2 => ?_, rfl⟩
      · omega
      · by_cases hk : k = p
        · rw [hk]; exact hd
        · exact hs k h1 (by omega)
  · simp [sSeq, sIf, sNext, sSet, sAug, sRet, sPar, sPar3, asThree, sRaise, sAsg, sOwn, sApp, sPut, sRetN, sRetOwn, sRetU, sDrop, sBreak, sCont, dVar, dC, dOp, dTest, dCons, dNil, dTup, nLst, dNew, dNeg, dIf, dF1, dAnd, dOr, dNot, dAndV, dOrV, dNotV, dCall, nCall, dCallL, nCallL, withLent, withLentN, vw, frz, dI, dI0, dB0, int2, dEq, dNe, dAdd, dSub, dIAdd, atD, gName', gTup', gNil', gCons', gLst', lenIs, retD, retN, lendK, backK, isLent, ownK, fAbs, fLen, fMax, fMin, startD, outK, shp_int, eqv_int, hpp]
    refine ⟨by decide, hq f r f0 r0 e fun k hk hd => ?_⟩
    have h3 : k * k ≤ r := Int.le_of_dvd r0 hd
    rcases Int.lt_or_le k p with z | z
    · exact hs k hk z hd
    · have := Int.mul_le_mul z z (by omega) (by omega)
      omega
end KK

set_option maxHeartbeats 1000000
namespace KK
open PySem PySem.Spec PyProof.Rows L2 DL
theorem gc_bd {p q s : Int} {n : Nat} (hs : s ≠ 0) (h : Bd n s) : Bd n (gc p q s) := by
  have h1 : (gc p q s).natAbs ≤ s.natAbs := Nat.le_of_dvd (by omega) (Int.natAbs_dvd_natAbs.mpr gc_ds)
  unfold Bd at *
  omega
theorem gc_int (p q s : Int) : ((Int.gcd ((Int.gcd p q : Nat) : Int) s : Nat) : Int) = gc p q s := by
  unfold gc Int.gcd
  rw [Int.natAbs_natCast]
theorem low_q {p q d s : Int} (hs : s ≠ 0) : (low p q d s).q = 0 ↔ q = 0 := by
  obtain ⟨k, hk, _, h2, _⟩ := low_spec (p := p) (q := q) d hs
  constructor
  · intro h; rw [h2, h, Int.mul_zero]
  · intro h; rw [h] at h2 ⊢; rcases Int.mul_eq_zero.mp h2.symm with z | z; exact absurd z hk; exact z
theorem pure_lowest (α : List SD) (QD : Ret → List SD → Prop) (ED : Exd → List SD → Prop) (W : WD) (hW : W = fun e ρ => outK α ρ fun α' => ED e α') (h : p_lowest α QD ED) : r_lowest W (DEnd α QD) (startD n_lowest.length α) := by
  obtain ⟨p, q, d, s, rfl, hs, hB, hq⟩ := h
  unfold r_lowest DEnd
  have g0 := gc_pos (p := p) (q := q) hs
  have gB : CDivF 0 (gc p q s) := ⟨by omega, (gc_bd hs hB).log (by omega)⟩
  have cd : ∀ x, CDivF x (gc p q s) := fun _ => gB
  have lq := low_q (p := p) (q := q) (d := d) hs
  by_cases h0 : s < 0
  · have e : gc (-p) (-q) (-s) = gc p q s := by unfold gc; rw [Int.natAbs_neg, Int.natAbs_neg, Int.natAbs_neg]
    have sg' : sg s = -1 := by unfold sg; rw [if_pos h0]
    have e3 : low p q d s = ⟨-p / gc p q s, -q / gc p q s, if q = 0 then 0 else d, -s / gc p q s⟩ := by unfold low; rw [sg']; simp [sSeq, sIf, sNext, sSet, sAug, sRet, sPar, sPar3, asThree, sRaise, sAsg, sOwn, sApp, sPut, sRetN, sRetOwn, sRetU, sDrop, sBreak, sCont, dVar, dC, dOp, dTest, dCons, dNil, dTup, nLst, dNew, dNeg, dIf, dF1, dAnd, dOr, dNot, dAndV, dOrV, dNotV, dCall, nCall, dCallL, nCallL, withLent, withLentN, vw, frz, dI, dI0, dB0, int2, dEq, dNe, dAdd, dSub, dIAdd, atD, gName', gTup', gNil', gCons', gLst', lenIs, retD, retN, lendK, backK, isLent, ownK, fAbs, fLen, fMax, fMin, startD, outK, shp_int, eqv_int]
    rw [e3] at hq lq
    simp [sSeq, sIf, sNext, sSet, sAug, sRet, sPar, sPar3, asThree, sRaise, sAsg, sOwn, sApp, sPut, sRetN, sRetOwn, sRetU, sDrop, sBreak, sCont, dVar, dC, dOp, dTest, dCons, dNil, dTup, nLst, dNew, dNeg, dIf, dF1, dAnd, dOr, dNot, dAndV, dOrV, dNotV, dCall, nCall, dCallL, nCallL, withLent, withLentN, vw, frz, dI, dI0, dB0, int2, dEq, dNe, dAdd, dSub, dIAdd, atD, gName', gTup', gNil', gCons', gLst', lenIs, retD, retN, lendK, backK, isLent, ownK, fAbs, fLen, fMax, fMin, startD, outK, shp_int, eqv_int, h0, n_lowest]
    refine ⟨-p, -q, rfl, _, -s, rfl, ?_⟩
    rw [gc_int, e]
    simp [sSeq, sIf, sNext, sSet, sAug, sRet, sPar, sPar3, asThree, sRaise, sAsg, sOwn, sApp, sPut, sRetN, sRetOwn, sRetU, sDrop, sBreak, sCont, dVar, dC, dOp, dTest, dCons, dNil, dTup, nLst, dNew, dNeg, dIf, dF1, dAnd, dOr, dNot, dAndV, dOrV, dNotV, dCall, nCall, dCallL, nCallL, withLent, withLentN, vw, frz, dI, dI0, dB0, int2, dEq, dNe, dAdd, dSub, dIAdd, atD, gName', gTup', gNil', gCons', gLst', lenIs, retD, retN, lendK, backK, isLent, ownK, fAbs, fLen, fMax, fMin, startD, outK, shp_int, eqv_int, cd]
    rw [fd_pos g0, fd_pos g0, fd_pos g0]
    have lq : -q / gc p q s = 0 ↔ q = 0 := lq
    by_cases hz : q = 0
    · have := lq.mpr hz
      subst hz
      simp [sSeq, sIf, sNext, sSet, sAug, sRet, sPar, sPar3, asThree, sRaise, sAsg, sOwn, sApp, sPut, sRetN, sRetOwn, sRetU, sDrop, sBreak, sCont, dVar, dC, dOp, dTest, dCons, dNil, dTup, nLst, dNew, dNeg, dIf, dF1, dAnd, dOr, dNot, dAndV, dOrV, dNotV, dCall, nCall, dCallL, nCallL, withLent, withLentN, vw, frz, dI, dI0, dB0, int2, dEq, dNe, dAdd, dSub, dIAdd, atD, gName', gTup', gNil', gCons', gLst', lenIs, retD, retN, lendK, backK, isLent, ownK, fAbs, fLen, fMax, fMin, startD, outK, shp_int, eqv_int] at hq ⊢
      exact ⟨by decide, hq⟩
    · have : ¬ (-q / gc p q s = 0) := fun z => hz (lq.mp z)
      simp [sSeq, sIf, sNext, sSet, sAug, sRet, sPar, sPar3, asThree, sRaise, sAsg, sOwn, sApp, sPut, sRetN, sRetOwn, sRetU, sDrop, sBreak, sCont, dVar, dC, dOp, dTest, dCons, dNil, dTup, nLst, dNew, dNeg, dIf, dF1, dAnd, dOr, dNot, dAndV, dOrV, dNotV, dCall, nCall, dCallL, nCallL, withLent, withLentN, vw, frz, dI, dI0, dB0, int2, dEq, dNe, dAdd, dSub, dIAdd, atD, gName', gTup', gNil', gCons', gLst', lenIs, retD, retN, lendK, backK, isLent, ownK, fAbs, fLen, fMax, fMin, startD, outK, shp_int, eqv_int, hz] at hq
      simp [sSeq, sIf, sNext, sSet, sAug, sRet, sPar, sPar3, asThree, sRaise, sAsg, sOwn, sApp, sPut, sRetN, sRetOwn, sRetU, sDrop, sBreak, sCont, dVar, dC, dOp, dTest, dCons, dNil, dTup, nLst, dNew, dNeg, dIf, dF1, dAnd, dOr, dNot, dAndV, dOrV, dNotV, dCall, nCall, dCallL, nCallL, withLent, withLentN, vw, frz, dI, dI0, dB0, int2, dEq, dNe, dAdd, dSub, dIAdd, atD, gName', gTup', gNil', gCons', gLst', lenIs, retD, retN, lendK, backK, isLent, ownK, fAbs, fLen, fMax, fMin, startD, outK, shp_int, eqv_int, this]
      exact ⟨by decide, hq⟩
  · have sg' : sg s = 1 := by unfold sg; rw [if_neg h0]
    have e3 : low p q d s = ⟨p / gc p q s, q / gc p q s, if q = 0 then 0 else d, s / gc p q s⟩ := by unfold low; rw [sg']; simp [sSeq, sIf, sNext, sSet, sAug, sRet, sPar, sPar3, asThree, sRaise, sAsg, sOwn, sApp, sPut, sRetN, sRetOwn, sRetU, sDrop, sBreak, sCont, dVar, dC, dOp, dTest, dCons, dNil, dTup, nLst, dNew, dNeg, dIf, dF1, dAnd, dOr, dNot, dAndV, dOrV, dNotV, dCall, nCall, dCallL, nCallL, withLent, withLentN, vw, frz, dI, dI0, dB0, int2, dEq, dNe, dAdd, dSub, dIAdd, atD, gName', gTup', gNil', gCons', gLst', lenIs, retD, retN, lendK, backK, isLent, ownK, fAbs, fLen, fMax, fMin, startD, outK, shp_int, eqv_int]
    rw [e3] at hq lq
    simp [sSeq, sIf, sNext, sSet, sAug, sRet, sPar, sPar3, asThree, sRaise, sAsg, sOwn, sApp, sPut, sRetN, sRetOwn, sRetU, sDrop, sBreak, sCont, dVar, dC, dOp, dTest, dCons, dNil, dTup, nLst, dNew, dNeg, dIf, dF1, dAnd, dOr, dNot, dAndV, dOrV, dNotV, dCall, nCall, dCallL, nCallL, withLent, withLentN, vw, frz, dI, dI0, dB0, int2, dEq, dNe, dAdd, dSub, dIAdd, atD, gName', gTup', gNil', gCons', gLst', lenIs, retD, retN, lendK, backK, isLent, ownK, fAbs, fLen, fMax, fMin, startD, outK, shp_int, eqv_int, h0, n_lowest]
    refine ⟨p, q, rfl, _, s, rfl, ?_⟩
    rw [gc_int]
    simp [sSeq, sIf, sNext, sSet, sAug, sRet, sPar, sPar3, asThree, sRaise, sAsg, sOwn, sApp, sPut, sRetN, sRetOwn, sRetU, sDrop, sBreak, sCont, dVar, dC, dOp, dTest, dCons, dNil, dTup, nLst, dNew, dNeg, dIf, dF1, dAnd, dOr, dNot, dAndV, dOrV, dNotV, dCall, nCall, dCallL, nCallL, withLent, withLentN, vw, frz, dI, dI0, dB0, int2, dEq, dNe, dAdd, dSub, dIAdd, atD, gName', gTup', gNil', gCons', gLst', lenIs, retD, retN, lendK, backK, isLent, ownK, fAbs, fLen, fMax, fMin, startD, outK, shp_int, eqv_int, cd]
    rw [fd_pos g0, fd_pos g0, fd_pos g0]
    have lq : q / gc p q s = 0 ↔ q = 0 := lq
    by_cases hz : q = 0
    · subst hz
      simp [sSeq, sIf, sNext, sSet, sAug, sRet, sPar, sPar3, asThree, sRaise, sAsg, sOwn, sApp, sPut, sRetN, sRetOwn, sRetU, sDrop, sBreak, sCont, dVar, dC, dOp, dTest, dCons, dNil, dTup, nLst, dNew, dNeg, dIf, dF1, dAnd, dOr, dNot, dAndV, dOrV, dNotV, dCall, nCall, dCallL, nCallL, withLent, withLentN, vw, frz, dI, dI0, dB0, int2, dEq, dNe, dAdd, dSub, dIAdd, atD, gName', gTup', gNil', gCons', gLst', lenIs, retD, retN, lendK, backK, isLent, ownK, fAbs, fLen, fMax, fMin, startD, outK, shp_int, eqv_int] at hq ⊢
      exact ⟨by decide, hq⟩
    · have : ¬ (q / gc p q s = 0) := fun z => hz (lq.mp z)
      simp [sSeq, sIf, sNext, sSet, sAug, sRet, sPar, sPar3, asThree, sRaise, sAsg, sOwn, sApp, sPut, sRetN, sRetOwn, sRetU, sDrop, sBreak, sCont, dVar, dC, dOp, dTest, dCons, dNil, dTup, nLst, dNew, dNeg, dIf, dF1, dAnd, dOr, dNot, dAndV, dOrV, dNotV, dCall, nCall, dCallL, nCallL, withLent, withLentN, vw, frz, dI, dI0, dB0, int2, dEq, dNe, dAdd, dSub, dIAdd, atD, gName', gTup', gNil', gCons', gLst', lenIs, retD, retN, lendK, backK, isLent, ownK, fAbs, fLen, fMax, fMin, startD, outK, shp_int, eqv_int, hz] at hq
      simp [sSeq, sIf, sNext, sSet, sAug, sRet, sPar, sPar3, asThree, sRaise, sAsg, sOwn, sApp, sPut, sRetN, sRetOwn, sRetU, sDrop, sBreak, sCont, dVar, dC, dOp, dTest, dCons, dNil, dTup, nLst, dNew, dNeg, dIf, dF1, dAnd, dOr, dNot, dAndV, dOrV, dNotV, dCall, nCall, dCallL, nCallL, withLent, withLentN, vw, frz, dI, dI0, dB0, int2, dEq, dNe, dAdd, dSub, dIAdd, atD, gName', gTup', gNil', gCons', gLst', lenIs, retD, retN, lendK, backK, isLent, ownK, fAbs, fLen, fMax, fMin, startD, outK, shp_int, eqv_int, this]
      exact ⟨by decide, hq⟩
end KK

set_option maxHeartbeats 1000000
namespace KK
open PySem PySem.Spec PyProof.Rows L2 DL
theorem pure_root_of {k_OtherRoot : Addr} (α : List SD) (QD : Ret → List SD → Prop) (ED : Exd → List SD → Prop) (W : WD) (hW : W = fun e ρ => outK α ρ fun α' => ED e α') (h : p_root_of α QD ED) : r_root_of W k_OtherRoot (DEnd α QD) (startD n_root_of.length α) := by
  obtain ⟨x, y, rfl, hr, hq⟩ := h
  unfold r_root_of DEnd
  unfold nmax at hq
  unfold rts at hr
  simp [sSeq, sIf, sNext, sSet, sAug, sRet, sPar, sPar3, asThree, sRaise, sAsg, sOwn, sApp, sPut, sRetN, sRetOwn, sRetU, sDrop, sBreak, sCont, dVar, dC, dOp, dTest, dCons, dNil, dTup, nLst, dNew, dNeg, dIf, dF1, dAnd, dOr, dNot, dAndV, dOrV, dNotV, dCall, nCall, dCallL, nCallL, withLent, withLentN, vw, frz, dI, dI0, dB0, int2, dEq, dNe, dAdd, dSub, dIAdd, atD, gName', gTup', gNil', gCons', gLst', lenIs, retD, retN, lendK, backK, isLent, ownK, fAbs, fLen, fMax, fMin, startD, outK, shp_int, eqv_int, atI, ixN, Nu.D, n_root_of] at hq ⊢
  by_cases h1 : x.d = 0
  · simp [sSeq, sIf, sNext, sSet, sAug, sRet, sPar, sPar3, asThree, sRaise, sAsg, sOwn, sApp, sPut, sRetN, sRetOwn, sRetU, sDrop, sBreak, sCont, dVar, dC, dOp, dTest, dCons, dNil, dTup, nLst, dNew, dNeg, dIf, dF1, dAnd, dOr, dNot, dAndV, dOrV, dNotV, dCall, nCall, dCallL, nCallL, withLent, withLentN, vw, frz, dI, dI0, dB0, int2, dEq, dNe, dAdd, dSub, dIAdd, atD, gName', gTup', gNil', gCons', gLst', lenIs, retD, retN, lendK, backK, isLent, ownK, fAbs, fLen, fMax, fMin, startD, outK, shp_int, eqv_int, atI, ixN, h1] at hq ⊢
    exact hq
  · by_cases h2 : y.d = 0
    · simp [sSeq, sIf, sNext, sSet, sAug, sRet, sPar, sPar3, asThree, sRaise, sAsg, sOwn, sApp, sPut, sRetN, sRetOwn, sRetU, sDrop, sBreak, sCont, dVar, dC, dOp, dTest, dCons, dNil, dTup, nLst, dNew, dNeg, dIf, dF1, dAnd, dOr, dNot, dAndV, dOrV, dNotV, dCall, nCall, dCallL, nCallL, withLent, withLentN, vw, frz, dI, dI0, dB0, int2, dEq, dNe, dAdd, dSub, dIAdd, atD, gName', gTup', gNil', gCons', gLst', lenIs, retD, retN, lendK, backK, isLent, ownK, fAbs, fLen, fMax, fMin, startD, outK, shp_int, eqv_int, atI, ixN, h1, h2] at hq ⊢
      exact hq
    · have h3 := hr h1 h2
      rw [h3] at hq ⊢
      simp [sSeq, sIf, sNext, sSet, sAug, sRet, sPar, sPar3, asThree, sRaise, sAsg, sOwn, sApp, sPut, sRetN, sRetOwn, sRetU, sDrop, sBreak, sCont, dVar, dC, dOp, dTest, dCons, dNil, dTup, nLst, dNew, dNeg, dIf, dF1, dAnd, dOr, dNot, dAndV, dOrV, dNotV, dCall, nCall, dCallL, nCallL, withLent, withLentN, vw, frz, dI, dI0, dB0, int2, dEq, dNe, dAdd, dSub, dIAdd, atD, gName', gTup', gNil', gCons', gLst', lenIs, retD, retN, lendK, backK, isLent, ownK, fAbs, fLen, fMax, fMin, startD, outK, shp_int, eqv_int, atI, ixN, h2] at hq ⊢
      exact hq
theorem low_n0 {p q d s : Int} (hs : s ≠ 0) : (low p q d s).s ≠ 0 := by
  obtain ⟨k, hk, _, _, h3, h4⟩ := low_spec (p := p) (q := q) d hs
  omega
theorem pure_plus (α : List SD) (QD : Ret → List SD → Prop) (ED : Exd → List SD → Prop) (W : WD) (hW : W = fun e ρ => outK α ρ fun α' => ED e α') (h : p_plus α QD ED) : r_plus W (DEnd α QD) (startD n_plus.length α) := by
  obtain ⟨x, y, rfl, hr, ⟨b1, b2, b3, b4⟩, ⟨c1, c2, c3, c4⟩, hx, hy, hq⟩ := h
  unfold r_plus DEnd
  simp [sSeq, sIf, sNext, sSet, sAug, sRet, sPar, sPar3, asThree, sRaise, sAsg, sOwn, sApp, sPut, sRetN, sRetOwn, sRetU, sDrop, sBreak, sCont, dVar, dC, dOp, dTest, dCons, dNil, dTup, nLst, dNew, dNeg, dIf, dF1, dAnd, dOr, dNot, dAndV, dOrV, dNotV, dCall, nCall, dCallL, nCallL, withLent, withLentN, vw, frz, dI, dI0, dB0, int2, dEq, dNe, dAdd, dSub, dIAdd, atD, gName', gTup', gNil', gCons', gLst', lenIs, retD, retN, lendK, backK, isLent, ownK, fAbs, fLen, fMax, fMin, startD, outK, shp_int, eqv_int, atI, ixN, n_plus]
  refine ⟨x, y, rfl, hr, ?_⟩
  simp [sSeq, sIf, sNext, sSet, sAug, sRet, sPar, sPar3, asThree, sRaise, sAsg, sOwn, sApp, sPut, sRetN, sRetOwn, sRetU, sDrop, sBreak, sCont, dVar, dC, dOp, dTest, dCons, dNil, dTup, nLst, dNew, dNeg, dIf, dF1, dAnd, dOr, dNot, dAndV, dOrV, dNotV, dCall, nCall, dCallL, nCallL, withLent, withLentN, vw, frz, dI, dI0, dB0, int2, dEq, dNe, dAdd, dSub, dIAdd, atD, gName', gTup', gNil', gCons', gLst', lenIs, retD, retN, lendK, backK, isLent, ownK, fAbs, fLen, fMax, fMin, startD, outK, shp_int, eqv_int, atI, ixN, Nu.D]
  exact ⟨b1.cm c4 (by omega), c1.cm b4 (by omega), b2.cm c4 (by omega), c2.cm b4 (by omega), b4.cm c4 (by omega), _, _, _, _, rfl, Int.mul_ne_zero hx hy, (b4.mul c4).mono (by omega), hq⟩
theorem pure_opposite (α : List SD) (QD : Ret → List SD → Prop) (ED : Exd → List SD → Prop) (W : WD) (hW : W = fun e ρ => outK α ρ fun α' => ED e α') (h : p_opposite α QD ED) : r_opposite W (DEnd α QD) (startD n_opposite.length α) := by
  obtain ⟨x, rfl, hq⟩ := h
  unfold r_opposite DEnd
  simp [sSeq, sIf, sNext, sSet, sAug, sRet, sPar, sPar3, asThree, sRaise, sAsg, sOwn, sApp, sPut, sRetN, sRetOwn, sRetU, sDrop, sBreak, sCont, dVar, dC, dOp, dTest, dCons, dNil, dTup, nLst, dNew, dNeg, dIf, dF1, dAnd, dOr, dNot, dAndV, dOrV, dNotV, dCall, nCall, dCallL, nCallL, withLent, withLentN, vw, frz, dI, dI0, dB0, int2, dEq, dNe, dAdd, dSub, dIAdd, atD, gName', gTup', gNil', gCons', gLst', lenIs, retD, retN, lendK, backK, isLent, ownK, fAbs, fLen, fMax, fMin, startD, outK, shp_int, eqv_int, atI, ixN, n_opposite, Nu.D]
  exact ⟨by decide, hq⟩
theorem pure_minus (α : List SD) (QD : Ret → List SD → Prop) (ED : Exd → List SD → Prop) (W : WD) (hW : W = fun e ρ => outK α ρ fun α' => ED e α') (h : p_minus α QD ED) : r_minus W (DEnd α QD) (startD n_minus.length α) := by
  obtain ⟨x, y, rfl, hr, hbx, ⟨c1, c2, c3, c4⟩, hx, hy, hq⟩ := h
  unfold r_minus DEnd
  simp [sSeq, sIf, sNext, sSet, sAug, sRet, sPar, sPar3, asThree, sRaise, sAsg, sOwn, sApp, sPut, sRetN, sRetOwn, sRetU, sDrop, sBreak, sCont, dVar, dC, dOp, dTest, dCons, dNil, dTup, nLst, dNew, dNeg, dIf, dF1, dAnd, dOr, dNot, dAndV, dOrV, dNotV, dCall, nCall, dCallL, nCallL, withLent, withLentN, vw, frz, dI, dI0, dB0, int2, dEq, dNe, dAdd, dSub, dIAdd, atD, gName', gTup', gNil', gCons', gLst', lenIs, retD, retN, lendK, backK, isLent, ownK, fAbs, fLen, fMax, fMin, startD, outK, shp_int, eqv_int, atI, ixN, n_minus]
  refine ⟨y, rfl, ?_⟩
  simp [sSeq, sIf, sNext, sSet, sAug, sRet, sPar, sPar3, asThree, sRaise, sAsg, sOwn, sApp, sPut, sRetN, sRetOwn, sRetU, sDrop, sBreak, sCont, dVar, dC, dOp, dTest, dCons, dNil, dTup, nLst, dNew, dNeg, dIf, dF1, dAnd, dOr, dNot, dAndV, dOrV, dNotV, dCall, nCall, dCallL, nCallL, withLent, withLentN, vw, frz, dI, dI0, dB0, int2, dEq, dNe, dAdd, dSub, dIAdd, atD, gName', gTup', gNil', gCons', gLst', lenIs, retD, retN, lendK, backK, isLent, ownK, fAbs, fLen, fMax, fMin, startD, outK, shp_int, eqv_int, atI, ixN]
  exact ⟨x, nopp y, rfl, hr, hbx, ⟨c1.neg, c2.neg, c3, c4⟩, hx, hy, hq⟩
theorem pure_times (α : List SD) (QD : Ret → List SD → Prop) (ED : Exd → List SD → Prop) (W : WD) (hW : W = fun e ρ => outK α ρ fun α' => ED e α') (h : p_times α QD ED) : r_times W (DEnd α QD) (startD n_times.length α) := by
  obtain ⟨x, y, rfl, hr, ⟨b1, b2, b3, b4⟩, ⟨c1, c2, c3, c4⟩, hx, hy, hq⟩ := h
  unfold r_times DEnd
  simp [sSeq, sIf, sNext, sSet, sAug, sRet, sPar, sPar3, asThree, sRaise, sAsg, sOwn, sApp, sPut, sRetN, sRetOwn, sRetU, sDrop, sBreak, sCont, dVar, dC, dOp, dTest, dCons, dNil, dTup, nLst, dNew, dNeg, dIf, dF1, dAnd, dOr, dNot, dAndV, dOrV, dNotV, dCall, nCall, dCallL, nCallL, withLent, withLentN, vw, frz, dI, dI0, dB0, int2, dEq, dNe, dAdd, dSub, dIAdd, atD, gName', gTup', gNil', gCons', gLst', lenIs, retD, retN, lendK, backK, isLent, ownK, fAbs, fLen, fMax, fMin, startD, outK, shp_int, eqv_int, atI, ixN, n_times]
  refine ⟨x, y, rfl, hr, ?_⟩
  have bm : Bd 4000 (nmax x.d y.d) := by unfold nmax; split; exact c3; exact b3
  simp [sSeq, sIf, sNext, sSet, sAug, sRet, sPar, sPar3, asThree, sRaise, sAsg, sOwn, sApp, sPut, sRetN, sRetOwn, sRetU, sDrop, sBreak, sCont, dVar, dC, dOp, dTest, dCons, dNil, dTup, nLst, dNew, dNeg, dIf, dF1, dAnd, dOr, dNot, dAndV, dOrV, dNotV, dCall, nCall, dCallL, nCallL, withLent, withLentN, vw, frz, dI, dI0, dB0, int2, dEq, dNe, dAdd, dSub, dIAdd, atD, gName', gTup', gNil', gCons', gLst', lenIs, retD, retN, lendK, backK, isLent, ownK, fAbs, fLen, fMax, fMin, startD, outK, shp_int, eqv_int, atI, ixN, Nu.D]
  exact ⟨b1.cm c1 (by omega), b2.cm c2 (by omega), (b2.mul c2).cm bm (by omega), b1.cm c2 (by omega), b2.cm c1 (by omega), b4.cm c4 (by omega), _, _, _, _, rfl, Int.mul_ne_zero hx hy, (b4.mul c4).mono (by omega), hq⟩
theorem low_bd {p q d s : Int} {n : Nat} (hs : s ≠ 0) (h1 : Bd n p) (h2 : Bd n q) (h3 : Bd n d) (h4 : Bd n s) : Nb n (low p q d s) := by
  obtain ⟨k, hk, e1, e2, e3, _⟩ := low_spec (p := p) (q := q) d hs
  have one : ∀ {a b : Int}, Bd n a → a = k * b → Bd n b := fun {a b} h e => by
    unfold Bd at *
    rw [e, Int.natAbs_mul] at h
    have := Nat.le_mul_of_pos_left b.natAbs (show 0 < k.natAbs by omega)
    omega
  refine ⟨one h1 e1, one h2 e2, ?_, one h4 e3⟩
  rw [low_dd hs]
  split
  · unfold Bd; exact Nat.pow_pos (by decide)
  · exact h3
theorem pure_over {k_ZeroDivisor : Addr} (α : List SD) (QD : Ret → List SD → Prop) (ED : Exd → List SD → Prop) (W : WD) (hW : W = fun e ρ => outK α ρ fun α' => ED e α') (h : p_over α QD ED) : r_over W k_ZeroDivisor (DEnd α QD) (startD n_over.length α) := by
  obtain ⟨x, y, rfl, hr, hbx, ⟨c1, c2, c3, c4⟩, hx, hy, hn, hq⟩ := h
  unfold r_over DEnd
  have ne : PyData.eqv y.D (.tuple l_ZERO) = false := by
    show PyData.eqvAll [.int y.p, .int y.q, .int y.d, .int y.s] [.int 0, .int 0, .int 0, .int 1] = false
    simp [sSeq, sIf, sNext, sSet, sAug, sRet, sPar, sPar3, asThree, sRaise, sAsg, sOwn, sApp, sPut, sRetN, sRetOwn, sRetU, sDrop, sBreak, sCont, dVar, dC, dOp, dTest, dCons, dNil, dTup, nLst, dNew, dNeg, dIf, dF1, dAnd, dOr, dNot, dAndV, dOrV, dNotV, dCall, nCall, dCallL, nCallL, withLent, withLentN, vw, frz, dI, dI0, dB0, int2, dEq, dNe, dAdd, dSub, dIAdd, atD, gName', gTup', gNil', gCons', gLst', lenIs, retD, retN, lendK, backK, isLent, ownK, fAbs, fLen, fMax, fMin, startD, outK, shp_int, eqv_int, atI, ixN, PyData.eqvAll]
    intro h1 h2
    rw [h1, h2] at hn
    simp [sSeq, sIf, sNext, sSet, sAug, sRet, sPar, sPar3, asThree, sRaise, sAsg, sOwn, sApp, sPut, sRetN, sRetOwn, sRetU, sDrop, sBreak, sCont, dVar, dC, dOp, dTest, dCons, dNil, dTup, nLst, dNew, dNeg, dIf, dF1, dAnd, dOr, dNot, dAndV, dOrV, dNotV, dCall, nCall, dCallL, nCallL, withLent, withLentN, vw, frz, dI, dI0, dB0, int2, dEq, dNe, dAdd, dSub, dIAdd, atD, gName', gTup', gNil', gCons', gLst', lenIs, retD, retN, lendK, backK, isLent, ownK, fAbs, fLen, fMax, fMin, startD, outK, shp_int, eqv_int, atI, ixN] at hn
  have sh : SeqAt.shaped y.D = true := by rfl
  have shz : SeqAt.shaped (.tuple l_ZERO) = true := by rfl
  simp [sSeq, sIf, sNext, sSet, sAug, sRet, sPar, sPar3, asThree, sRaise, sAsg, sOwn, sApp, sPut, sRetN, sRetOwn, sRetU, sDrop, sBreak, sCont, dVar, dC, dOp, dTest, dCons, dNil, dTup, nLst, dNew, dNeg, dIf, dF1, dAnd, dOr, dNot, dAndV, dOrV, dNotV, dCall, nCall, dCallL, nCallL, withLent, withLentN, vw, frz, dI, dI0, dB0, int2, dEq, dNe, dAdd, dSub, dIAdd, atD, gName', gTup', gNil', gCons', gLst', lenIs, retD, retN, lendK, backK, isLent, ownK, fAbs, fLen, fMax, fMin, startD, outK, shp_int, eqv_int, atI, ixN, n_over, ne, sh, shz]
  simp [sSeq, sIf, sNext, sSet, sAug, sRet, sPar, sPar3, asThree, sRaise, sAsg, sOwn, sApp, sPut, sRetN, sRetOwn, sRetU, sDrop, sBreak, sCont, dVar, dC, dOp, dTest, dCons, dNil, dTup, nLst, dNew, dNeg, dIf, dF1, dAnd, dOr, dNot, dAndV, dOrV, dNotV, dCall, nCall, dCallL, nCallL, withLent, withLentN, vw, frz, dI, dI0, dB0, int2, dEq, dNe, dAdd, dSub, dIAdd, atD, gName', gTup', gNil', gCons', gLst', lenIs, retD, retN, lendK, backK, isLent, ownK, fAbs, fLen, fMax, fMin, startD, outK, shp_int, eqv_int, atI, ixN, Nu.D]
  have B2 : Bd 2000 (y.p * y.p) := (c1.mul c1).mono (by omega)
  have B3 : Bd 3000 (y.q * y.q * y.d) := ((c2.mul c2).mul c3).mono (by omega)
  have B4 : Bd 3500 (y.p * y.p - y.q * y.q * y.d) := B2.sub B3 (by omega)
  refine ⟨c1.cm c4 (by omega), c2.neg.cm c4 (by omega), c1.cm c1 (by omega), c2.cm c2 (by omega), (c2.mul c2).cm c3 (by omega), _, _, _, _, rfl, hn, B4.mono (by omega), ?_⟩
  simp [sSeq, sIf, sNext, sSet, sAug, sRet, sPar, sPar3, asThree, sRaise, sAsg, sOwn, sApp, sPut, sRetN, sRetOwn, sRetU, sDrop, sBreak, sCont, dVar, dC, dOp, dTest, dCons, dNil, dTup, nLst, dNew, dNeg, dIf, dF1, dAnd, dOr, dNot, dAndV, dOrV, dNotV, dCall, nCall, dCallL, nCallL, withLent, withLentN, vw, frz, dI, dI0, dB0, int2, dEq, dNe, dAdd, dSub, dIAdd, atD, gName', gTup', gNil', gCons', gLst', lenIs, retD, retN, lendK, backK, isLent, ownK, fAbs, fLen, fMax, fMin, startD, outK, shp_int, eqv_int, atI, ixN]
  refine ⟨x, ninv y, rfl, ?_, ⟨hbx.1.mono (by omega), hbx.2.1.mono (by omega), hbx.2.2.1.mono (by omega), hbx.2.2.2.mono (by omega)⟩, ?_, hx, low_n0 hn, hq⟩
  · intro h1 h2
    unfold ninv at h2 ⊢
    rw [low_dd hn] at h2 ⊢
    split at h2
    · exact absurd rfl h2
    · rename_i hz; rw [if_neg hz]; exact hr h1 h2
  · exact low_bd hn ((c1.mul c4).mono (by omega)) ((c2.neg.mul c4).mono (by omega)) (c3.mono (by omega)) (B4.mono (by omega))
theorem sos_q0 (p d : Int) : sos p 0 d = sgi p := by
  unfold sos
  have : (if 0 < d then sgi 0 else 0) = 0 := by split <;> rfl
  simp [sSeq, sIf, sNext, sSet, sAug, sRet, sPar, sPar3, asThree, sRaise, sAsg, sOwn, sApp, sPut, sRetN, sRetOwn, sRetU, sDrop, sBreak, sCont, dVar, dC, dOp, dTest, dCons, dNil, dTup, nLst, dNew, dNeg, dIf, dF1, dAnd, dOr, dNot, dAndV, dOrV, dNotV, dCall, nCall, dCallL, nCallL, withLent, withLentN, vw, frz, dI, dI0, dB0, int2, dEq, dNe, dAdd, dSub, dIAdd, atD, gName', gTup', gNil', gCons', gLst', lenIs, retD, retN, lendK, backK, isLent, ownK, fAbs, fLen, fMax, fMin, startD, outK, shp_int, eqv_int, atI, ixN, this]
theorem pure_floor (α : List SD) (QD : Ret → List SD → Prop) (ED : Exd → List SD → Prop) (W : WD) (hW : W = fun e ρ => outK α ρ fun α' => ED e α') (h : p_floor α QD ED) : r_floor W (DEnd α QD) (startD n_floor.length α) := by
  obtain ⟨x, rfl, ⟨b1, b2, b3, b4⟩, hs, hd, hq⟩ := h
  unfold r_floor DEnd
  have cd : ∀ z, CDivF z x.s := fun _ => ⟨by omega, b4.log (by omega)⟩
  have nn : 0 ≤ x.q * x.q * x.d := Int.mul_nonneg (sq_nn _) hd
  have BB : Bd 8000 (x.q * x.q * x.d) := ((b2.mul b2).mul b3).mono (by omega)
  simp [sSeq, sIf, sNext, sSet, sAug, sRet, sPar, sPar3, asThree, sRaise, sAsg, sOwn, sApp, sPut, sRetN, sRetOwn, sRetU, sDrop, sBreak, sCont, dVar, dC, dOp, dTest, dCons, dNil, dTup, nLst, dNew, dNeg, dIf, dF1, dAnd, dOr, dNot, dAndV, dOrV, dNotV, dCall, nCall, dCallL, nCallL, withLent, withLentN, vw, frz, dI, dI0, dB0, int2, dEq, dNe, dAdd, dSub, dIAdd, atD, gName', gTup', gNil', gCons', gLst', lenIs, retD, retN, lendK, backK, isLent, ownK, fAbs, fLen, fMax, fMin, startD, outK, shp_int, eqv_int, atI, ixN, n_floor, Nu.D]
  refine ⟨b2.cm b2 (by omega), (b2.mul b2).cm b3 (by omega), ?_⟩
  by_cases h1 : 0 ≤ x.q
  · simp [sSeq, sIf, sNext, sSet, sAug, sRet, sPar, sPar3, asThree, sRaise, sAsg, sOwn, sApp, sPut, sRetN, sRetOwn, sRetU, sDrop, sBreak, sCont, dVar, dC, dOp, dTest, dCons, dNil, dTup, nLst, dNew, dNeg, dIf, dF1, dAnd, dOr, dNot, dAndV, dOrV, dNotV, dCall, nCall, dCallL, nCallL, withLent, withLentN, vw, frz, dI, dI0, dB0, int2, dEq, dNe, dAdd, dSub, dIAdd, atD, gName', gTup', gNil', gCons', gLst', lenIs, retD, retN, lendK, backK, isLent, ownK, fAbs, fLen, fMax, fMin, startD, outK, shp_int, eqv_int, atI, ixN, h1]
    refine ⟨_, rfl, nn, BB, fun n hn => ?_⟩
    simp [sSeq, sIf, sNext, sSet, sAug, sRet, sPar, sPar3, asThree, sRaise, sAsg, sOwn, sApp, sPut, sRetN, sRetOwn, sRetU, sDrop, sBreak, sCont, dVar, dC, dOp, dTest, dCons, dNil, dTup, nLst, dNew, dNeg, dIf, dF1, dAnd, dOr, dNot, dAndV, dOrV, dNotV, dCall, nCall, dCallL, nCallL, withLent, withLentN, vw, frz, dI, dI0, dB0, int2, dEq, dNe, dAdd, dSub, dIAdd, atD, gName', gTup', gNil', gCons', gLst', lenIs, retD, retN, lendK, backK, isLent, ownK, fAbs, fLen, fMax, fMin, startD, outK, shp_int, eqv_int, atI, ixN, cd]
    rw [fd_pos hs]
    exact hq _ ⟨n, hn, by rw [if_pos h1]⟩
  · simp [sSeq, sIf, sNext, sSet, sAug, sRet, sPar, sPar3, asThree, sRaise, sAsg, sOwn, sApp, sPut, sRetN, sRetOwn, sRetU, sDrop, sBreak, sCont, dVar, dC, dOp, dTest, dCons, dNil, dTup, nLst, dNew, dNeg, dIf, dF1, dAnd, dOr, dNot, dAndV, dOrV, dNotV, dCall, nCall, dCallL, nCallL, withLent, withLentN, vw, frz, dI, dI0, dB0, int2, dEq, dNe, dAdd, dSub, dIAdd, atD, gName', gTup', gNil', gCons', gLst', lenIs, retD, retN, lendK, backK, isLent, ownK, fAbs, fLen, fMax, fMin, startD, outK, shp_int, eqv_int, atI, ixN, h1]
    refine ⟨_, rfl, nn, BB, fun n hn => ?_⟩
    simp [sSeq, sIf, sNext, sSet, sAug, sRet, sPar, sPar3, asThree, sRaise, sAsg, sOwn, sApp, sPut, sRetN, sRetOwn, sRetU, sDrop, sBreak, sCont, dVar, dC, dOp, dTest, dCons, dNil, dTup, nLst, dNew, dNeg, dIf, dF1, dAnd, dOr, dNot, dAndV, dOrV, dNotV, dCall, nCall, dCallL, nCallL, withLent, withLentN, vw, frz, dI, dI0, dB0, int2, dEq, dNe, dAdd, dSub, dIAdd, atD, gName', gTup', gNil', gCons', gLst', lenIs, retD, retN, lendK, backK, isLent, ownK, fAbs, fLen, fMax, fMin, startD, outK, shp_int, eqv_int, atI, ixN, cd]
    rw [fd_pos hs]
    exact hq _ ⟨n, hn, by rw [if_neg h1]⟩
end KK

set_option maxHeartbeats 1000000
namespace KK
open PySem PySem.Spec L2 DL
theorem forD_inv {g : TGD} {t : TSD} {D : DEnds} (Inv : Nat → DSt → Prop) : ∀ (items : List PyData) (ρ : DSt), Inv items.length ρ → (∀ k x ρ (N : DSt → Prop), x ∈ items → (∀ ρ', Inv k ρ' → N ρ') → Inv (k + 1) ρ → g x ρ fun ρ1 => t { D with nx := N, ct := N, bk := D.nx } ρ1) →
    (∀ ρ, Inv 0 ρ → D.nx ρ) → forD g t D items ρ
  | [], ρ, h, _, fin => fin ρ h
  | x :: xs, ρ, h, step, fin => step xs.length x ρ (forD g t D xs) List.mem_cons_self (fun ρ' h' => forD_inv Inv xs ρ' h' (fun k y ρ N hy => step k y ρ N (List.mem_cons_of_mem _ hy)) fin) h
theorem range1_mem {n : Int} {x : PyData} (h : x ∈ (List.range n.toNat).map fun (k : Nat) => PyData.int (k : Int)) : ∃ k : Int, x = .int k ∧ 0 ≤ k ∧ k < n := by
  obtain ⟨k, hk, rfl⟩ := List.mem_map.mp h
  rw [List.mem_range] at hk
  exact ⟨k, rfl, by omega, by omega⟩
theorem cm_of {i j : Int} (a b : Nat) (h1 : i.natAbs < 2 ^ a) (h2 : j.natAbs < 2 ^ b) (e : a + b ≤ 999990) : CMulW i j := Bd.cm (n := a) (m := b) h1 h2 e
theorem pure__law_stirred (α : List SD) (QD : Ret → List SD → Prop) (ED : Exd → List SD → Prop) (W : WD) (hW : W = fun e ρ => outK α ρ fun α' => ED e α') (h : p__law_stirred α QD ED) : r__law_stirred W (DEnd α QD) (startD n__law_stirred.length α) := by
  obtain ⟨c, p, rfl, p0, p1, c0, c1, hq⟩ := h
  unfold r__law_stirred DEnd
  simp [sSeq, sIf, sNext, sSet, sAug, sRet, sPar, sPar3, asThree, sRaise, sAsg, sOwn, sApp, sPut, sRetN, sRetOwn, sRetU, sDrop, sBreak, sCont, dVar, dC, dOp, dTest, dCons, dNil, dTup, nLst, dNew, dNeg, dIf, dF1, dAnd, dOr, dNot, dAndV, dOrV, dNotV, dCall, nCall, dCallL, nCallL, withLent, withLentN, vw, frz, dI, dI0, dB0, int2, dEq, dNe, dAdd, dSub, dIAdd, atD, gName', gTup', gNil', gCons', gLst', lenIs, retD, retN, lendK, backK, isLent, ownK, fAbs, fLen, fMax, fMin, startD, outK, shp_int, eqv_int, n__law_stirred]
  refine ⟨cm_of 60 62 (by omega) (by decide) (by omega), cm_of 60 62 (by omega) (by decide) (by omega), ?_⟩
  refine ⟨by decide, by decide, ?_⟩
  refine forD_inv (fun _ ρ => ∃ v t, ρ = [iv c, iv p, iv 1180591620717411303449, iv v, t] ∧ 0 ≤ v ∧ v < 1180591620717411303449) _ _ ⟨_, _, rfl, ?_, ?_⟩ ?_ ?_
  · exact Int.fmod_nonneg_of_pos _ (by decide)
  · exact Int.fmod_lt_of_pos _ (by decide)
  · rintro _ x _ N hx hN ⟨v, t, rfl, v0, v1⟩
    obtain ⟨k, rfl, k0, k1⟩ := range1_mem hx
    simp [sSeq, sIf, sNext, sSet, sAug, sRet, sPar, sPar3, asThree, sRaise, sAsg, sOwn, sApp, sPut, sRetN, sRetOwn, sRetU, sDrop, sBreak, sCont, dVar, dC, dOp, dTest, dCons, dNil, dTup, nLst, dNew, dNeg, dIf, dF1, dAnd, dOr, dNot, dAndV, dOrV, dNotV, dCall, nCall, dCallL, nCallL, withLent, withLentN, vw, frz, dI, dI0, dB0, int2, dEq, dNe, dAdd, dSub, dIAdd, atD, gName', gTup', gNil', gCons', gLst', lenIs, retD, retN, lendK, backK, isLent, ownK, fAbs, fLen, fMax, fMin, startD, outK, shp_int, eqv_int]
    refine ⟨cm_of 80 80 (by omega) (by omega) (by omega), cm_of 80 80 (by decide) (by omega) (by omega), cm_of 80 80 (by decide) (by omega) (by omega), ?_⟩
    exact hN _ ⟨_, _, rfl, Int.fmod_nonneg_of_pos _ (by decide), Int.fmod_lt_of_pos _ (by decide)⟩
  · rintro _ ⟨v, t, rfl, v0, v1⟩
    simp [sSeq, sIf, sNext, sSet, sAug, sRet, sPar, sPar3, asThree, sRaise, sAsg, sOwn, sApp, sPut, sRetN, sRetOwn, sRetU, sDrop, sBreak, sCont, dVar, dC, dOp, dTest, dCons, dNil, dTup, nLst, dNew, dNeg, dIf, dF1, dAnd, dOr, dNot, dAndV, dOrV, dNotV, dCall, nCall, dCallL, nCallL, withLent, withLentN, vw, frz, dI, dI0, dB0, int2, dEq, dNe, dAdd, dSub, dIAdd, atD, gName', gTup', gNil', gCons', gLst', lenIs, retD, retN, lendK, backK, isLent, ownK, fAbs, fLen, fMax, fMin, startD, outK, shp_int, eqv_int]
    exact ⟨cm_of 80 80 (by omega) (by decide) (by omega), cm_of 80 80 (by omega) (by decide) (by omega), hq _⟩
theorem lc_abs (s0 s1 s2 : SD) (Q : List PyData → DSt → Prop) : ∀ (ns : List Int) (acc : List PyData), acc.length + ns.length ≤ 1000 → Q (acc ++ ns.map fun n => .int (if n < 0 then -n else n)) [s0, s1, s2, .no] → lcD [3] (gName' 3) dYes (dF1 fAbs (dVar 3)) (ns.map PyData.int) acc [s0, s1, s2, .no] Q
  | [], acc, _, h => by simpa [sSeq, sIf, sNext, sSet, sAug, sRet, sPar, sPar3, asThree, sRaise, sAsg, sOwn, sApp, sPut, sRetN, sRetOwn, sRetU, sDrop, sBreak, sCont, dVar, dC, dOp, dTest, dCons, dNil, dTup, nLst, dNew, dNeg, dIf, dF1, dAnd, dOr, dNot, dAndV, dOrV, dNotV, dCall, nCall, dCallL, nCallL, withLent, withLentN, vw, frz, dI, dI0, dB0, int2, dEq, dNe, dAdd, dSub, dIAdd, atD, gName', gTup', gNil', gCons', gLst', lenIs, retD, retN, lendK, backK, isLent, ownK, fAbs, fLen, fMax, fMin, startD, outK, shp_int, eqv_int, lcD] using h
  | n :: ns, acc, hl, h => by
    simp only [List.length_cons] at hl
    have ih := lc_abs s0 s1 s2 Q ns (acc ++ [.int (if n < 0 then -n else n)]) (by simp [sSeq, sIf, sNext, sSet, sAug, sRet, sPar, sPar3, asThree, sRaise, sAsg, sOwn, sApp, sPut, sRetN, sRetOwn, sRetU, sDrop, sBreak, sCont, dVar, dC, dOp, dTest, dCons, dNil, dTup, nLst, dNew, dNeg, dIf, dF1, dAnd, dOr, dNot, dAndV, dOrV, dNotV, dCall, nCall, dCallL, nCallL, withLent, withLentN, vw, frz, dI, dI0, dB0, int2, dEq, dNe, dAdd, dSub, dIAdd, atD, gName', gTup', gNil', gCons', gLst', lenIs, retD, retN, lendK, backK, isLent, ownK, fAbs, fLen, fMax, fMin, startD, outK, shp_int, eqv_int]; omega) (by simpa [sSeq, sIf, sNext, sSet, sAug, sRet, sPar, sPar3, asThree, sRaise, sAsg, sOwn, sApp, sPut, sRetN, sRetOwn, sRetU, sDrop, sBreak, sCont, dVar, dC, dOp, dTest, dCons, dNil, dTup, nLst, dNew, dNeg, dIf, dF1, dAnd, dOr, dNot, dAndV, dOrV, dNotV, dCall, nCall, dCallL, nCallL, withLent, withLentN, vw, frz, dI, dI0, dB0, int2, dEq, dNe, dAdd, dSub, dIAdd, atD, gName', gTup', gNil', gCons', gLst', lenIs, retD, retN, lendK, backK, isLent, ownK, fAbs, fLen, fMax, fMin, startD, outK, shp_int, eqv_int] using h)
    have hz : acc.length < sizeLine := Nat.lt_of_lt_of_le (show acc.length < 1001 by omega) (by rw [sizeLine_eq]; decide)
    simp [sSeq, sIf, sNext, sSet, sAug, sRet, sPar, sPar3, asThree, sRaise, sAsg, sOwn, sApp, sPut, sRetN, sRetOwn, sRetU, sDrop, sBreak, sCont, dVar, dC, dOp, dTest, dCons, dNil, dTup, nLst, dNew, dNeg, dIf, dF1, dAnd, dOr, dNot, dAndV, dOrV, dNotV, dCall, nCall, dCallL, nCallL, withLent, withLentN, vw, frz, dI, dI0, dB0, int2, dEq, dNe, dAdd, dSub, dIAdd, atD, gName', gTup', gNil', gCons', gLst', lenIs, retD, retN, lendK, backK, isLent, ownK, fAbs, fLen, fMax, fMin, startD, outK, shp_int, eqv_int, lcD, dYes, wipeD, hz]
    exact ih
theorem cutD_map {α β : Type} (f : α → β) (xs : List α) (lo hi : Option Int) : cutD (xs.map f) lo hi = (cutD xs lo hi).map f := by
  unfold cutD
  simp [sSeq, sIf, sNext, sSet, sAug, sRet, sPar, sPar3, asThree, sRaise, sAsg, sOwn, sApp, sPut, sRetN, sRetOwn, sRetU, sDrop, sBreak, sCont, dVar, dC, dOp, dTest, dCons, dNil, dTup, nLst, dNew, dNeg, dIf, dF1, dAnd, dOr, dNot, dAndV, dOrV, dNotV, dCall, nCall, dCallL, nCallL, withLent, withLentN, vw, frz, dI, dI0, dB0, int2, dEq, dNe, dAdd, dSub, dIAdd, atD, gName', gTup', gNil', gCons', gLst', lenIs, retD, retN, lendK, backK, isLent, ownK, fAbs, fLen, fMax, fMin, startD, outK, shp_int, eqv_int, List.map_take, List.map_drop]
theorem cut_len {α : Type} (xs : List α) (lo hi : Option Int) : (cutD xs lo hi).length = min (HT.sIx xs.length xs.length hi - HT.sIx xs.length 0 lo) (xs.length - HT.sIx xs.length 0 lo) := by
  unfold cutD
  simp [sSeq, sIf, sNext, sSet, sAug, sRet, sPar, sPar3, asThree, sRaise, sAsg, sOwn, sApp, sPut, sRetN, sRetOwn, sRetU, sDrop, sBreak, sCont, dVar, dC, dOp, dTest, dCons, dNil, dTup, nLst, dNew, dNeg, dIf, dF1, dAnd, dOr, dNot, dAndV, dOrV, dNotV, dCall, nCall, dCallL, nCallL, withLent, withLentN, vw, frz, dI, dI0, dB0, int2, dEq, dNe, dAdd, dSub, dIAdd, atD, gName', gTup', gNil', gCons', gLst', lenIs, retD, retN, lendK, backK, isLent, ownK, fAbs, fLen, fMax, fMin, startD, outK, shp_int, eqv_int]
theorem wipe3 (a b c d : SD) : wipeD [a, b, c, d] [3] = [a, b, c, .no] := rfl
theorem scrK_at {ρ : DSt} {i : Nat} {ns : List Int} {k : List Int → Prop} (h : ρ[i]? = some (.res true (scriptR ns))) (q : k ns) : scrK ρ i k := ⟨ns, h, q⟩
theorem enum_mem {x : PyData} {cs : List Int} (h : x ∈ enumD (cs.map PyData.int)) : ∃ (i : Nat) (c : Int), x = .tuple [.int i, .int c] ∧ i < cs.length := by
  unfold enumD at h
  obtain ⟨⟨d, i⟩, hm, rfl⟩ := List.mem_map.mp h
  obtain ⟨h1, h2, h3⟩ := List.mem_zipIdx hm
  simp [sSeq, sIf, sNext, sSet, sAug, sRet, sPar, sPar3, asThree, sRaise, sAsg, sOwn, sApp, sPut, sRetN, sRetOwn, sRetU, sDrop, sBreak, sCont, dVar, dC, dOp, dTest, dCons, dNil, dTup, nLst, dNew, dNeg, dIf, dF1, dAnd, dOr, dNot, dAndV, dOrV, dNotV, dCall, nCall, dCallL, nCallL, withLent, withLentN, vw, frz, dI, dI0, dB0, int2, dEq, dNe, dAdd, dSub, dIAdd, atD, gName', gTup', gNil', gCons', gLst', lenIs, retD, retN, lendK, backK, isLent, ownK, fAbs, fLen, fMax, fMin, startD, outK, shp_int, eqv_int, wipe3] at h2 h3
  exact ⟨i, cs[i], by simp [sSeq, sIf, sNext, sSet, sAug, sRet, sPar, sPar3, asThree, sRaise, sAsg, sOwn, sApp, sPut, sRetN, sRetOwn, sRetU, sDrop, sBreak, sCont, dVar, dC, dOp, dTest, dCons, dNil, dTup, nLst, dNew, dNeg, dIf, dF1, dAnd, dOr, dNot, dAndV, dOrV, dNotV, dCall, nCall, dCallL, nCallL, withLent, withLentN, vw, frz, dI, dI0, dB0, int2, dEq, dNe, dAdd, dSub, dIAdd, atD, gName', gTup', gNil', gCons', gLst', lenIs, retD, retN, lendK, backK, isLent, ownK, fAbs, fLen, fMax, fMin, startD, outK, shp_int, eqv_int, wipe3, h3], by omega⟩
theorem ixN_ok {n : Nat} {z : Int} (h0 : 0 ≤ z) (h1 : z < n) : ixN n z = some z.toNat := by unfold ixN; rw [if_pos h0, if_pos h1]
theorem atI_int {ms : List Int} {z : Int} (h0 : 0 ≤ z) (h1 : z < ms.length) : ∃ y, atI (ms.map PyData.int) z = some (.int y) := by
  unfold atI
  rw [List.length_map, ixN_ok h0 h1]
  have : z.toNat < ms.length := by omega
  exact ⟨ms[z.toNat], by simp [sSeq, sIf, sNext, sSet, sAug, sRet, sPar, sPar3, asThree, sRaise, sAsg, sOwn, sApp, sPut, sRetN, sRetOwn, sRetU, sDrop, sBreak, sCont, dVar, dC, dOp, dTest, dCons, dNil, dTup, nLst, dNew, dNeg, dIf, dF1, dAnd, dOr, dNot, dAndV, dOrV, dNotV, dCall, nCall, dCallL, nCallL, withLent, withLentN, vw, frz, dI, dI0, dB0, int2, dEq, dNe, dAdd, dSub, dIAdd, atD, gName', gTup', gNil', gCons', gLst', lenIs, retD, retN, lendK, backK, isLent, ownK, fAbs, fLen, fMax, fMin, startD, outK, shp_int, eqv_int, wipe3, this]⟩
theorem pure__law_spool_of (α : List SD) (QD : Ret → List SD → Prop) (ED : Exd → List SD → Prop) (W : WD) (hW : W = fun e ρ => outK α ρ fun α' => ED e α') (h : p__law_spool_of α QD ED) : r__law_spool_of W (DEnd α QD) (startD n__law_spool_of.length α) := by
  obtain ⟨ns, rfl, hl, hq⟩ := h
  unfold r__law_spool_of DEnd
  simp [sSeq, sIf, sNext, sSet, sAug, sRet, sPar, sPar3, asThree, sRaise, sAsg, sOwn, sApp, sPut, sRetN, sRetOwn, sRetU, sDrop, sBreak, sCont, dVar, dC, dOp, dTest, dCons, dNil, dTup, nLst, dNew, dNeg, dIf, dF1, dAnd, dOr, dNot, dAndV, dOrV, dNotV, dCall, nCall, dCallL, nCallL, withLent, withLentN, vw, frz, dI, dI0, dB0, int2, dEq, dNe, dAdd, dSub, dIAdd, atD, gName', gTup', gNil', gCons', gLst', lenIs, retD, retN, lendK, backK, isLent, ownK, fAbs, fLen, fMax, fMin, startD, outK, shp_int, eqv_int, wipe3, n__law_spool_of]
  refine scrK_at rfl trivial |> fun s0 => ⟨s0, ?_⟩
  refine scrK_at rfl ?_
  have e16 : cutD (ns.map PyData.int) none (some 16) = (ns.take 16).map PyData.int := by
    rw [cutD_map]
    congr 1
    unfold DL.cutD
    rw [HT.sIx_none, show (some (16 : Int)) = some ((16 : Nat) : Int) from rfl, HT.sIx_nat]
    simp [sSeq, sIf, sNext, sSet, sAug, sRet, sPar, sPar3, asThree, sRaise, sAsg, sOwn, sApp, sPut, sRetN, sRetOwn, sRetU, sDrop, sBreak, sCont, dVar, dC, dOp, dTest, dCons, dNil, dTup, nLst, dNew, dNeg, dIf, dF1, dAnd, dOr, dNot, dAndV, dOrV, dNotV, dCall, nCall, dCallL, nCallL, withLent, withLentN, vw, frz, dI, dI0, dB0, int2, dEq, dNe, dAdd, dSub, dIAdd, atD, gName', gTup', gNil', gCons', gLst', lenIs, retD, retN, lendK, backK, isLent, ownK, fAbs, fLen, fMax, fMin, startD, outK, shp_int, eqv_int, wipe3]
    try rw [List.take_eq_take_iff]
    try omega
  rw [e16]
  refine lc_abs _ _ _ _ _ _ (by simp [sSeq, sIf, sNext, sSet, sAug, sRet, sPar, sPar3, asThree, sRaise, sAsg, sOwn, sApp, sPut, sRetN, sRetOwn, sRetU, sDrop, sBreak, sCont, dVar, dC, dOp, dTest, dCons, dNil, dTup, nLst, dNew, dNeg, dIf, dF1, dAnd, dOr, dNot, dAndV, dOrV, dNotV, dCall, nCall, dCallL, nCallL, withLent, withLentN, vw, frz, dI, dI0, dB0, int2, dEq, dNe, dAdd, dSub, dIAdd, atD, gName', gTup', gNil', gCons', gLst', lenIs, retD, retN, lendK, backK, isLent, ownK, fAbs, fLen, fMax, fMin, startD, outK, shp_int, eqv_int, wipe3]; omega) ?_
  simp [sSeq, sIf, sNext, sSet, sAug, sRet, sPar, sPar3, asThree, sRaise, sAsg, sOwn, sApp, sPut, sRetN, sRetOwn, sRetU, sDrop, sBreak, sCont, dVar, dC, dOp, dTest, dCons, dNil, dTup, nLst, dNew, dNeg, dIf, dF1, dAnd, dOr, dNot, dAndV, dOrV, dNotV, dCall, nCall, dCallL, nCallL, withLent, withLentN, vw, frz, dI, dI0, dB0, int2, dEq, dNe, dAdd, dSub, dIAdd, atD, gName', gTup', gNil', gCons', gLst', lenIs, retD, retN, lendK, backK, isLent, ownK, fAbs, fLen, fMax, fMin, startD, outK, shp_int, eqv_int, wipe3]
  refine scrK_at rfl trivial |> fun s0 => ⟨s0, ?_⟩
  refine scrK_at rfl ?_
  simp [sSeq, sIf, sNext, sSet, sAug, sRet, sPar, sPar3, asThree, sRaise, sAsg, sOwn, sApp, sPut, sRetN, sRetOwn, sRetU, sDrop, sBreak, sCont, dVar, dC, dOp, dTest, dCons, dNil, dTup, nLst, dNew, dNeg, dIf, dF1, dAnd, dOr, dNot, dAndV, dOrV, dNotV, dCall, nCall, dCallL, nCallL, withLent, withLentN, vw, frz, dI, dI0, dB0, int2, dEq, dNe, dAdd, dSub, dIAdd, atD, gName', gTup', gNil', gCons', gLst', lenIs, retD, retN, lendK, backK, isLent, ownK, fAbs, fLen, fMax, fMin, startD, outK, shp_int, eqv_int, wipe3]
  rw [cutD_map]
  refine forD_inv (fun _ ρ => ∃ (ms : List Int) (a b : SD), ρ = [.res true (scriptR ns), .own false (ms.map PyData.int), a, b] ∧ ms.length = min 16 ns.length) _ _ ⟨(ns.take 16).map fun n => if n < 0 then -n else n, .no, .no, by simp [sSeq, sIf, sNext, sSet, sAug, sRet, sPar, sPar3, asThree, sRaise, sAsg, sOwn, sApp, sPut, sRetN, sRetOwn, sRetU, sDrop, sBreak, sCont, dVar, dC, dOp, dTest, dCons, dNil, dTup, nLst, dNew, dNeg, dIf, dF1, dAnd, dOr, dNot, dAndV, dOrV, dNotV, dCall, nCall, dCallL, nCallL, withLent, withLentN, vw, frz, dI, dI0, dB0, int2, dEq, dNe, dAdd, dSub, dIAdd, atD, gName', gTup', gNil', gCons', gLst', lenIs, retD, retN, lendK, backK, isLent, ownK, fAbs, fLen, fMax, fMin, startD, outK, shp_int, eqv_int, wipe3, Function.comp_def], by simp [sSeq, sIf, sNext, sSet, sAug, sRet, sPar, sPar3, asThree, sRaise, sAsg, sOwn, sApp, sPut, sRetN, sRetOwn, sRetU, sDrop, sBreak, sCont, dVar, dC, dOp, dTest, dCons, dNil, dTup, nLst, dNew, dNeg, dIf, dF1, dAnd, dOr, dNot, dAndV, dOrV, dNotV, dCall, nCall, dCallL, nCallL, withLent, withLentN, vw, frz, dI, dI0, dB0, int2, dEq, dNe, dAdd, dSub, dIAdd, atD, gName', gTup', gNil', gCons', gLst', lenIs, retD, retN, lendK, backK, isLent, ownK, fAbs, fLen, fMax, fMin, startD, outK, shp_int, eqv_int, wipe3]⟩ ?_ ?_
  · rintro _ x _ N hx hN ⟨ms, a, b, rfl, hm⟩
    obtain ⟨i, c, rfl, hi⟩ := enum_mem hx
    rw [cut_len] at hi
    have hn : 16 < ns.length := by
      have h1 : HT.sIx ns.length 0 (some 16) = min 16 ns.length := HT.sIx_nat _ _ 16
      rw [h1] at hi
      omega
    have hm16 : ms.length = 16 := by omega
    have z0 := Int.fmod_nonneg_of_pos (i : Int) (show (0 : Int) < 16 by decide)
    have z1 := Int.fmod_lt_of_pos (i : Int) (show (0 : Int) < 16 by decide)
    generalize hz : (i : Int).fmod 16 = z at z0 z1
    obtain ⟨y, hy⟩ := atI_int (ms := ms) z0 (by omega)
    have ix := ixN_ok (n := ms.length) z0 (by omega)
    simp [sSeq, sIf, sNext, sSet, sAug, sRet, sPar, sPar3, asThree, sRaise, sAsg, sOwn, sApp, sPut, sRetN, sRetOwn, sRetU, sDrop, sBreak, sCont, dVar, dC, dOp, dTest, dCons, dNil, dTup, nLst, dNew, dNeg, dIf, dF1, dAnd, dOr, dNot, dAndV, dOrV, dNotV, dCall, nCall, dCallL, nCallL, withLent, withLentN, vw, frz, dI, dI0, dB0, int2, dEq, dNe, dAdd, dSub, dIAdd, atD, gName', gTup', gNil', gCons', gLst', lenIs, retD, retN, lendK, backK, isLent, ownK, fAbs, fLen, fMax, fMin, startD, outK, shp_int, eqv_int, wipe3, hz, hy, ix]
    exact hN _ ⟨ms.set z.toNat (y + if c < 0 then -c else c), iv i, iv c, by simp [sSeq, sIf, sNext, sSet, sAug, sRet, sPar, sPar3, asThree, sRaise, sAsg, sOwn, sApp, sPut, sRetN, sRetOwn, sRetU, sDrop, sBreak, sCont, dVar, dC, dOp, dTest, dCons, dNil, dTup, nLst, dNew, dNeg, dIf, dF1, dAnd, dOr, dNot, dAndV, dOrV, dNotV, dCall, nCall, dCallL, nCallL, withLent, withLentN, vw, frz, dI, dI0, dB0, int2, dEq, dNe, dAdd, dSub, dIAdd, atD, gName', gTup', gNil', gCons', gLst', lenIs, retD, retN, lendK, backK, isLent, ownK, fAbs, fLen, fMax, fMin, startD, outK, shp_int, eqv_int, wipe3, List.map_set], by simpa [sSeq, sIf, sNext, sSet, sAug, sRet, sPar, sPar3, asThree, sRaise, sAsg, sOwn, sApp, sPut, sRetN, sRetOwn, sRetU, sDrop, sBreak, sCont, dVar, dC, dOp, dTest, dCons, dNil, dTup, nLst, dNew, dNeg, dIf, dF1, dAnd, dOr, dNot, dAndV, dOrV, dNotV, dCall, nCall, dCallL, nCallL, withLent, withLentN, vw, frz, dI, dI0, dB0, int2, dEq, dNe, dAdd, dSub, dIAdd, atD, gName', gTup', gNil', gCons', gLst', lenIs, retD, retN, lendK, backK, isLent, ownK, fAbs, fLen, fMax, fMin, startD, outK, shp_int, eqv_int, wipe3] using hm⟩
  · rintro _ ⟨ms, a, b, rfl, hm⟩
    simp [sSeq, sIf, sNext, sSet, sAug, sRet, sPar, sPar3, asThree, sRaise, sAsg, sOwn, sApp, sPut, sRetN, sRetOwn, sRetU, sDrop, sBreak, sCont, dVar, dC, dOp, dTest, dCons, dNil, dTup, nLst, dNew, dNeg, dIf, dF1, dAnd, dOr, dNot, dAndV, dOrV, dNotV, dCall, nCall, dCallL, nCallL, withLent, withLentN, vw, frz, dI, dI0, dB0, int2, dEq, dNe, dAdd, dSub, dIAdd, atD, gName', gTup', gNil', gCons', gLst', lenIs, retD, retN, lendK, backK, isLent, ownK, fAbs, fLen, fMax, fMin, startD, outK, shp_int, eqv_int, wipe3]
    exact ⟨by decide, hq ⟨ms, 0, 0, 0⟩ ⟨Int.le_refl _, Int.le_refl _, by show ms.length ≤ 64; omega⟩⟩
theorem lay_ints : ∀ ns : List Int, PyData.canLayAll0 (ns.map PyData.int) = true
  | [] => rfl
  | n :: ns => by
    show (PyData.canLay0 (.int n) && PyData.canLayAll0 (ns.map PyData.int)) = true
    rw [lay_ints ns]; rfl
theorem dep_ints : ∀ ns : List Int, PyData.depthAll (ns.map PyData.int) = 0
  | [] => rfl
  | n :: ns => by
    show max (PyData.depth (.int n)) (PyData.depthAll (ns.map PyData.int)) = 0
    rw [dep_ints ns]; rfl
theorem shp_ints (ns : List Int) : SeqAt.shaped (.list (ns.map PyData.int)) = true := by
  show (PyData.canLayAll0 (ns.map PyData.int) && decide (PyData.depthAll (ns.map PyData.int) + 1 ≤ 64)) = true
  rw [lay_ints, dep_ints]; rfl
theorem shp_nil : SeqAt.shaped (.list []) = true := rfl
theorem eqv_nil (ns : List PyData) : PyData.eqv (.list ns) (.list []) = ns.isEmpty := by cases ns <;> rfl
theorem upto_fill (W : WD) (D : DEnds) (ns : List Int) (pl ce si b : Int) (h0 : 0 ≤ pl) (h1 : pl < 2 ^ 60) (hD : ∀ c : Int, D.nx [Spl.S ⟨ns, pl + 1, c, c⟩, iv b, .val (.list (ns.map PyData.int)), iv pl, iv c, .no]) (ce' : Int) :
    sSeq (sIf (dOr (dTest (dOp dGe (dVar 3) (dF1 fLen (dVar 2)))) (dTest (dOp dLt (dVar 4) (dOp dPow (dC (.int 10)) (dC (.int 15)))))) (sSet 4 (dCall p__law_stirred W (dCons (dOp dMod (dVar 4) (dC (.int 998244353))) (dCons (dVar 3) (dNil))))) (sNext)) (sSeq (sPut 0 (dOp dAdd (dVar 3) (dC (.int 1))) (dC (.int 1))) (sSeq (sPut 0 (dVar 4) (dC (.int 2))) (sPut 0 (dVar 4) (dC (.int 3))))) D
      [Spl.S ⟨ns, pl, ce, si⟩, iv b, .val (.list (ns.map PyData.int)), iv pl, iv ce', .no] := by
  have pw : CPow 10 15 := ⟨by decide, by decide, by decide⟩
  have z0 := Int.fmod_nonneg_of_pos ce' (show (0 : Int) < 998244353 by decide)
  have z1 := Int.fmod_lt_of_pos ce' (show (0 : Int) < 998244353 by decide)
  by_cases c1 : (ns.length : Int) ≤ pl
  · simp [sSeq, sIf, sNext, sSet, sAug, sRet, sPar, sPar3, asThree, sRaise, sAsg, sOwn, sApp, sPut, sRetN, sRetOwn, sRetU, sDrop, sBreak, sCont, dVar, dC, dOp, dTest, dCons, dNil, dTup, nLst, dNew, dNeg, dIf, dF1, dAnd, dOr, dNot, dAndV, dOrV, dNotV, dCall, nCall, dCallL, nCallL, withLent, withLentN, vw, frz, dI, dI0, dB0, int2, dEq, dNe, dAdd, dSub, dIAdd, atD, gName', gTup', gNil', gCons', gLst', lenIs, retD, retN, lendK, backK, isLent, ownK, fAbs, fLen, fMax, fMin, startD, outK, shp_int, eqv_int, wipe3, c1, Spl.L]
    refine ⟨_, _, rfl, h0, h1, z0, by omega, fun n => ?_⟩
    simp [sSeq, sIf, sNext, sSet, sAug, sRet, sPar, sPar3, asThree, sRaise, sAsg, sOwn, sApp, sPut, sRetN, sRetOwn, sRetU, sDrop, sBreak, sCont, dVar, dC, dOp, dTest, dCons, dNil, dTup, nLst, dNew, dNeg, dIf, dF1, dAnd, dOr, dNot, dAndV, dOrV, dNotV, dCall, nCall, dCallL, nCallL, withLent, withLentN, vw, frz, dI, dI0, dB0, int2, dEq, dNe, dAdd, dSub, dIAdd, atD, gName', gTup', gNil', gCons', gLst', lenIs, retD, retN, lendK, backK, isLent, ownK, fAbs, fLen, fMax, fMin, startD, outK, shp_int, eqv_int, wipe3, ixN]
    exact hD n
  · by_cases c2 : ce' < 10 ^ 15
    · simp [sSeq, sIf, sNext, sSet, sAug, sRet, sPar, sPar3, asThree, sRaise, sAsg, sOwn, sApp, sPut, sRetN, sRetOwn, sRetU, sDrop, sBreak, sCont, dVar, dC, dOp, dTest, dCons, dNil, dTup, nLst, dNew, dNeg, dIf, dF1, dAnd, dOr, dNot, dAndV, dOrV, dNotV, dCall, nCall, dCallL, nCallL, withLent, withLentN, vw, frz, dI, dI0, dB0, int2, dEq, dNe, dAdd, dSub, dIAdd, atD, gName', gTup', gNil', gCons', gLst', lenIs, retD, retN, lendK, backK, isLent, ownK, fAbs, fLen, fMax, fMin, startD, outK, shp_int, eqv_int, wipe3] at c2
      simp [sSeq, sIf, sNext, sSet, sAug, sRet, sPar, sPar3, asThree, sRaise, sAsg, sOwn, sApp, sPut, sRetN, sRetOwn, sRetU, sDrop, sBreak, sCont, dVar, dC, dOp, dTest, dCons, dNil, dTup, nLst, dNew, dNeg, dIf, dF1, dAnd, dOr, dNot, dAndV, dOrV, dNotV, dCall, nCall, dCallL, nCallL, withLent, withLentN, vw, frz, dI, dI0, dB0, int2, dEq, dNe, dAdd, dSub, dIAdd, atD, gName', gTup', gNil', gCons', gLst', lenIs, retD, retN, lendK, backK, isLent, ownK, fAbs, fLen, fMax, fMin, startD, outK, shp_int, eqv_int, wipe3, c1, c2, Spl.L, pw]
      refine ⟨_, _, rfl, h0, h1, z0, by omega, fun n => ?_⟩
      simp [sSeq, sIf, sNext, sSet, sAug, sRet, sPar, sPar3, asThree, sRaise, sAsg, sOwn, sApp, sPut, sRetN, sRetOwn, sRetU, sDrop, sBreak, sCont, dVar, dC, dOp, dTest, dCons, dNil, dTup, nLst, dNew, dNeg, dIf, dF1, dAnd, dOr, dNot, dAndV, dOrV, dNotV, dCall, nCall, dCallL, nCallL, withLent, withLentN, vw, frz, dI, dI0, dB0, int2, dEq, dNe, dAdd, dSub, dIAdd, atD, gName', gTup', gNil', gCons', gLst', lenIs, retD, retN, lendK, backK, isLent, ownK, fAbs, fLen, fMax, fMin, startD, outK, shp_int, eqv_int, wipe3, ixN]
      exact hD n
    · simp [sSeq, sIf, sNext, sSet, sAug, sRet, sPar, sPar3, asThree, sRaise, sAsg, sOwn, sApp, sPut, sRetN, sRetOwn, sRetU, sDrop, sBreak, sCont, dVar, dC, dOp, dTest, dCons, dNil, dTup, nLst, dNew, dNeg, dIf, dF1, dAnd, dOr, dNot, dAndV, dOrV, dNotV, dCall, nCall, dCallL, nCallL, withLent, withLentN, vw, frz, dI, dI0, dB0, int2, dEq, dNe, dAdd, dSub, dIAdd, atD, gName', gTup', gNil', gCons', gLst', lenIs, retD, retN, lendK, backK, isLent, ownK, fAbs, fLen, fMax, fMin, startD, outK, shp_int, eqv_int, wipe3] at c2
      have c3 : ¬ ce' < 1000000000000000 := by omega
      simp [sSeq, sIf, sNext, sSet, sAug, sRet, sPar, sPar3, asThree, sRaise, sAsg, sOwn, sApp, sPut, sRetN, sRetOwn, sRetU, sDrop, sBreak, sCont, dVar, dC, dOp, dTest, dCons, dNil, dTup, nLst, dNew, dNeg, dIf, dF1, dAnd, dOr, dNot, dAndV, dOrV, dNotV, dCall, nCall, dCallL, nCallL, withLent, withLentN, vw, frz, dI, dI0, dB0, int2, dEq, dNe, dAdd, dSub, dIAdd, atD, gName', gTup', gNil', gCons', gLst', lenIs, retD, retN, lendK, backK, isLent, ownK, fAbs, fLen, fMax, fMin, startD, outK, shp_int, eqv_int, wipe3, c1, c3, Spl.L, pw, ixN]
      exact hD ce'
theorem pure__law_upto (α : List SD) (QD : Ret → List SD → Prop) (ED : Exd → List SD → Prop) (W : WD) (hW : W = fun e ρ => outK α ρ fun α' => ED e α') (h : p__law_upto α QD ED) : r__law_upto W (DEnd α QD) (startD n__law_upto.length α) := by
  obtain ⟨⟨ns, pl, ce, si⟩, m, b, rfl, ⟨h0, h1, h2⟩, hm, b0, bB, hq⟩ := h
  have h0 : 0 ≤ pl := h0
  have h1 : pl ≤ m := h1
  have h2 : ns.length ≤ 64 := h2
  have cd : ∀ z, CDivF z b := fun _ => ⟨by omega, bB.log (by omega)⟩
  have nz : ¬ b = 0 := by omega
  have fin : ∀ (pl' ce' si' : Int) (a2 a3 a4 : SD), 0 ≤ pl' → pl' ≤ ((m + 1 : Nat) : Int) → sSeq (sSet 5 (dOp dMod (dOp atD (dVar 0) (dC (.int 2))) (dVar 1))) (sSeq (sPut 0 (dOp dFdiv (dOp atD (dVar 0) (dC (.int 2))) (dVar 1)) (dC (.int 2))) (sSeq (sPut 0 (dOp dFdiv (dOp atD (dVar 0) (dC (.int 3))) (dVar 1)) (dC (.int 3))) (sRet (dVar 5))))
      (DEnd [Spl.S ⟨ns, pl, ce, si⟩, iv b] QD) [Spl.S ⟨ns, pl', ce', si'⟩, iv b, a2, a3, a4, .no] := by
    intro pl' ce' si' a2 a3 a4 k0 k1
    simp [sSeq, sIf, sNext, sSet, sAug, sRet, sPar, sPar3, asThree, sRaise, sAsg, sOwn, sApp, sPut, sRetN, sRetOwn, sRetU, sDrop, sBreak, sCont, dVar, dC, dOp, dTest, dCons, dNil, dTup, nLst, dNew, dNeg, dIf, dF1, dAnd, dOr, dNot, dAndV, dOrV, dNotV, dCall, nCall, dCallL, nCallL, withLent, withLentN, vw, frz, dI, dI0, dB0, int2, dEq, dNe, dAdd, dSub, dIAdd, atD, gName', gTup', gNil', gCons', gLst', lenIs, retD, retN, lendK, backK, isLent, ownK, fAbs, fLen, fMax, fMin, startD, outK, shp_int, eqv_int, wipe3, DEnd, Spl.L, atI, ixN, nz, cd]
    exact hq (ce'.fmod b) ⟨ns, pl', ce'.fdiv b, si'.fdiv b⟩ (Int.fmod_nonneg_of_pos _ b0) (Int.fmod_lt_of_pos _ b0) ⟨k0, k1, h2⟩
  have e0 : (startD n__law_upto.length [Spl.S ⟨ns, pl, ce, si⟩, iv b]) = [Spl.S ⟨ns, pl, ce, si⟩, iv b, .no, .no, .no, .no] := rfl
  rw [e0]
  unfold r__law_upto
  by_cases hsi : si < b
  · have step : ∀ c : Int, _ := fun c => upto_fill W { DEnd [Spl.S ⟨ns, pl, ce, si⟩, iv b] QD with nx := fun ρ => sSeq (sSet 5 (dOp dMod (dOp atD (dVar 0) (dC (.int 2))) (dVar 1))) (sSeq (sPut 0 (dOp dFdiv (dOp atD (dVar 0) (dC (.int 2))) (dVar 1)) (dC (.int 2))) (sSeq (sPut 0 (dOp dFdiv (dOp atD (dVar 0) (dC (.int 3))) (dVar 1)) (dC (.int 3))) (sRet (dVar 5)))) (DEnd [Spl.S ⟨ns, pl, ce, si⟩, iv b] QD) ρ } ns pl ce si b h0 (by omega) (fun c => fin _ _ _ _ _ _ (by omega) (by omega)) c
    have key : ∀ (R G : TSD), (∀ c : Int, R { DEnd [Spl.S ⟨ns, pl, ce, si⟩, iv b] QD with nx := fun ρ => G (DEnd [Spl.S ⟨ns, pl, ce, si⟩, iv b] QD) ρ } [Spl.S ⟨ns, pl, ce, si⟩, iv b, .val (.list (ns.map PyData.int)), iv pl, iv c, .no]) →
        sSeq (sIf (dTest (dOp dLt (dOp atD (dVar 0) (dC (.int 3))) (dVar 1))) (sSeq (sPar 2 3 (dCons (dOp atD (dVar 0) (dC (.int 0))) (dCons (dOp atD (dVar 0) (dC (.int 1))) (dNil)))) (sSeq (sSet 4 (dIf (dTest (dOp dNe (dVar 2) (dNew (nLst (dNil))))) (dOp atD (dVar 2) (dOp dMod (dVar 3) (dF1 fLen (dVar 2)))) (dC (.int 0)))) R)) (sNext)) G (DEnd [Spl.S ⟨ns, pl, ce, si⟩, iv b] QD) [Spl.S ⟨ns, pl, ce, si⟩, iv b, .no, .no, .no, .no] := by
      intro R G hR
      by_cases hns : ns = []
      · subst hns
        have := hR 0
        simp [sSeq, sIf, sNext, sSet, sAug, sRet, sPar, sPar3, asThree, sRaise, sAsg, sOwn, sApp, sPut, sRetN, sRetOwn, sRetU, sDrop, sBreak, sCont, dVar, dC, dOp, dTest, dCons, dNil, dTup, nLst, dNew, dNeg, dIf, dF1, dAnd, dOr, dNot, dAndV, dOrV, dNotV, dCall, nCall, dCallL, nCallL, withLent, withLentN, vw, frz, dI, dI0, dB0, int2, dEq, dNe, dAdd, dSub, dIAdd, atD, gName', gTup', gNil', gCons', gLst', lenIs, retD, retN, lendK, backK, isLent, ownK, fAbs, fLen, fMax, fMin, startD, outK, shp_int, eqv_int, wipe3, Spl.L, atI, ixN, hsi, shp_nil, eqv_nil]
        exact this
      · have l0 : (0 : Int) < ns.length := by
          have := List.length_pos_iff.mpr hns
          omega
        obtain ⟨y, hy⟩ := atI_int (ms := ns) (Int.fmod_nonneg_of_pos pl l0) (Int.fmod_lt_of_pos pl l0)
        have := hR y
        simp [sSeq, sIf, sNext, sSet, sAug, sRet, sPar, sPar3, asThree, sRaise, sAsg, sOwn, sApp, sPut, sRetN, sRetOwn, sRetU, sDrop, sBreak, sCont, dVar, dC, dOp, dTest, dCons, dNil, dTup, nLst, dNew, dNeg, dIf, dF1, dAnd, dOr, dNot, dAndV, dOrV, dNotV, dCall, nCall, dCallL, nCallL, withLent, withLentN, vw, frz, dI, dI0, dB0, int2, dEq, dNe, dAdd, dSub, dIAdd, atD, gName', gTup', gNil', gCons', gLst', lenIs, retD, retN, lendK, backK, isLent, ownK, fAbs, fLen, fMax, fMin, startD, outK, shp_int, eqv_int, wipe3, Spl.L, hsi, shp_nil, shp_ints ns, hy]
        have a3 : atI [PyData.list (ns.map PyData.int), .int pl, .int ce, .int si] 3 = some (.int si) := rfl
        have a0 : atI [PyData.list (ns.map PyData.int), .int pl, .int ce, .int si] 0 = some (.list (ns.map PyData.int)) := rfl
        have a1 : atI [PyData.list (ns.map PyData.int), .int pl, .int ce, .int si] 1 = some (.int pl) := rfl
        have hns' : ns.isEmpty = false := by simp [sSeq, sIf, sNext, sSet, sAug, sRet, sPar, sPar3, asThree, sRaise, sAsg, sOwn, sApp, sPut, sRetN, sRetOwn, sRetU, sDrop, sBreak, sCont, dVar, dC, dOp, dTest, dCons, dNil, dTup, nLst, dNew, dNeg, dIf, dF1, dAnd, dOr, dNot, dAndV, dOrV, dNotV, dCall, nCall, dCallL, nCallL, withLent, withLentN, vw, frz, dI, dI0, dB0, int2, dEq, dNe, dAdd, dSub, dIAdd, atD, gName', gTup', gNil', gCons', gLst', lenIs, retD, retN, lendK, backK, isLent, ownK, fAbs, fLen, fMax, fMin, startD, outK, shp_int, eqv_int, wipe3, hns]
        simp [sSeq, sIf, sNext, sSet, sAug, sRet, sPar, sPar3, asThree, sRaise, sAsg, sOwn, sApp, sPut, sRetN, sRetOwn, sRetU, sDrop, sBreak, sCont, dVar, dC, dOp, dTest, dCons, dNil, dTup, nLst, dNew, dNeg, dIf, dF1, dAnd, dOr, dNot, dAndV, dOrV, dNotV, dCall, nCall, dCallL, nCallL, withLent, withLentN, vw, frz, dI, dI0, dB0, int2, dEq, dNe, dAdd, dSub, dIAdd, atD, gName', gTup', gNil', gCons', gLst', lenIs, retD, retN, lendK, backK, isLent, ownK, fAbs, fLen, fMax, fMin, startD, outK, shp_int, eqv_int, wipe3, a3, a0, a1, hsi, shp_nil, eqv_nil, hns', shp_ints ns, hy]
        exact ⟨hns, this⟩
    exact key _ _ step
  · have := fin pl ce si .no .no .no h0 (by omega)
    simp [sSeq, sIf, sNext, sSet, sAug, sRet, sPar, sPar3, asThree, sRaise, sAsg, sOwn, sApp, sPut, sRetN, sRetOwn, sRetU, sDrop, sBreak, sCont, dVar, dC, dOp, dTest, dCons, dNil, dTup, nLst, dNew, dNeg, dIf, dF1, dAnd, dOr, dNot, dAndV, dOrV, dNotV, dCall, nCall, dCallL, nCallL, withLent, withLentN, vw, frz, dI, dI0, dB0, int2, dEq, dNe, dAdd, dSub, dIAdd, atD, gName', gTup', gNil', gCons', gLst', lenIs, retD, retN, lendK, backK, isLent, ownK, fAbs, fLen, fMax, fMin, startD, outK, shp_int, eqv_int, wipe3, Spl.L, hsi, DEnd, atI, ixN] at this ⊢
    exact this
theorem atI_mem {α : Type} {xs : List α} {z : Int} (h0 : 0 ≤ z) (h1 : z < xs.length) : ∃ y, y ∈ xs ∧ atI xs z = some y := by
  unfold atI
  rw [ixN_ok h0 h1]
  have : z.toNat < xs.length := by omega
  exact ⟨xs[z.toNat], List.getElem_mem _, by simp [sSeq, sIf, sNext, sSet, sAug, sRet, sPar, sPar3, asThree, sRaise, sAsg, sOwn, sApp, sPut, sRetN, sRetOwn, sRetU, sDrop, sBreak, sCont, dVar, dC, dOp, dTest, dCons, dNil, dTup, nLst, dNew, dNeg, dIf, dF1, dAnd, dOr, dNot, dAndV, dOrV, dNotV, dCall, nCall, dCallL, nCallL, withLent, withLentN, vw, frz, dI, dI0, dB0, int2, dEq, dNe, dAdd, dSub, dIAdd, atD, gName', gTup', gNil', gCons', gLst', lenIs, retD, retN, lendK, backK, isLent, ownK, fAbs, fLen, fMax, fMin, startD, outK, shp_int, eqv_int, wipe3, this]⟩
theorem pure__law_choice (α : List SD) (QD : Ret → List SD → Prop) (ED : Exd → List SD → Prop) (W : WD) (hW : W = fun e ρ => outK α ρ fun α' => ED e α') (h : p__law_choice α QD ED) : r__law_choice W (DEnd α QD) (startD n__law_choice.length α) := by
  obtain ⟨s, m, xs, rfl, hs, hm, hx, hl, hq⟩ := h
  have l0 : 0 < xs.length := List.length_pos_iff.mpr hx
  unfold r__law_choice DEnd
  simp [sSeq, sIf, sNext, sSet, sAug, sRet, sPar, sPar3, asThree, sRaise, sAsg, sOwn, sApp, sPut, sRetN, sRetOwn, sRetU, sDrop, sBreak, sCont, dVar, dC, dOp, dTest, dCons, dNil, dTup, nLst, dNew, dNeg, dIf, dF1, dAnd, dOr, dNot, dAndV, dOrV, dNotV, dCall, nCall, dCallL, nCallL, withLent, withLentN, vw, frz, dI, dI0, dB0, int2, dEq, dNe, dAdd, dSub, dIAdd, atD, gName', gTup', gNil', gCons', gLst', lenIs, retD, retN, lendK, backK, isLent, ownK, fAbs, fLen, fMax, fMin, startD, outK, shp_int, eqv_int, wipe3, n__law_choice, Spl.S]
  refine ⟨s, m, xs.length, rfl, hs, hm, by omega, by unfold Bd; exact Nat.lt_of_lt_of_le (show (xs.length : Int).natAbs < 2 ^ 60 by omega) (Nat.pow_le_pow_right (by decide) (by omega)), fun n s' n0 n1 hs' => ?_⟩
  obtain ⟨y, hy, e⟩ := atI_mem (xs := xs) n0 n1
  simp [sSeq, sIf, sNext, sSet, sAug, sRet, sPar, sPar3, asThree, sRaise, sAsg, sOwn, sApp, sPut, sRetN, sRetOwn, sRetU, sDrop, sBreak, sCont, dVar, dC, dOp, dTest, dCons, dNil, dTup, nLst, dNew, dNeg, dIf, dF1, dAnd, dOr, dNot, dAndV, dOrV, dNotV, dCall, nCall, dCallL, nCallL, withLent, withLentN, vw, frz, dI, dI0, dB0, int2, dEq, dNe, dAdd, dSub, dIAdd, atD, gName', gTup', gNil', gCons', gLst', lenIs, retD, retN, lendK, backK, isLent, ownK, fAbs, fLen, fMax, fMin, startD, outK, shp_int, eqv_int, wipe3, Spl.S, e]
  exact hq y s' hy hs'
end KK

set_option maxHeartbeats 1000000
namespace KK
open PySem PySem.Spec L2 DL
/-! ### expressions without effect, evaluated -/
def Ev (t : TED) (ρ : DSt) (z : PyData) : Prop := ∀ Q : R → DSt → Prop, (∀ r, (∀ k : PyData → Prop, k z → vw ρ r k) → (∀ k : PyData → DSt → Prop, k z ρ → frz ρ r k) → Q r ρ) → t ρ Q
def EvA (t : TND) (ρ : DSt) (zs : List PyData) : Prop := ∀ Q : List PyData → DSt → Prop, Q zs ρ → t ρ Q
def EvT (t : TTD) (ρ : DSt) (b : Bool) : Prop := ∀ Q : Bool → DSt → Prop, Q b ρ → t ρ Q
/-- a def that gives z of these data -/
def Pr (p : DSp) (ds : List PyData) (z : PyData) : Prop := ∀ (QD : Ret → List SD → Prop) (ED : Exd → List SD → Prop), QD (.d z) (ds.map SD.val) → p (ds.map SD.val) QD ED
section
variable {ρ : DSt} {a b c : TED} {x y z : PyData} {ta tb : TTD} {u v : Bool}
theorem ev_var (i : Nat) (h : ρ[i]? = some (.val z)) : Ev (dVar i) ρ z := by
  intro Q k
  refine ⟨by rw [h] <;> trivial, k _ (fun k hk => ?_) (fun k hk => ?_)⟩
  · show (match ρ[i]? with | some (.val d) => k d | some (.own _ ds) => k (.list ds) | _ => False)
    rw [h]; exact hk
  · show (match ρ[i]? with | some (.val d) => k d ρ | some (.own false ds) => k (.list ds) (ρ.set i (.val (.list ds))) | _ => False)
    rw [h]; exact hk
theorem ev_c : Ev (dC z) ρ z := fun Q k => k _ (fun _ h => h) (fun _ h => h)
theorem ev_op {f : PyData → PyData → (PyData → Prop) → Prop} (ha : Ev a ρ x) (hb : Ev b ρ y) (hf : ∀ k : PyData → Prop, k z → f x y k) : Ev (dOp f a b) ρ z := by
  intro Q k
  refine ha _ fun r1 h1 _ => hb _ fun r2 h2 _ => h1 _ (h2 _ (hf _ (k _ (fun _ h => h) (fun _ h => h))))
theorem eva_nil : EvA dNil ρ [] := fun Q h => h
theorem eva_cons {dr : TND} {zs : List PyData} (ha : Ev a ρ x) (hr : EvA dr ρ zs) : EvA (dCons a dr) ρ (x :: zs) := fun Q h => ha _ fun r _ h2 => h2 _ (hr _ h)
theorem ev_tup {dr : TND} {zs : List PyData} (h : EvA dr ρ zs) (hl : zs.length ≤ 1000) : Ev (dTup dr) ρ (.tuple zs) := fun Q k => h _ ⟨Nat.le_trans hl (by rw [sizeLine_eq]; decide), k _ (fun _ h => h) (fun _ h => h)⟩
theorem ev_call {p : DSp} {W : WD} {dr : TND} {zs : List PyData} (h : EvA dr ρ zs) (hp : Pr p zs z) : Ev (dCall p W dr) ρ z := fun Q k => h _ (hp _ _ (k _ (fun _ h => h) (fun _ h => h)))
theorem evt_test {t : TED} (h : Ev t ρ (.bool u)) : EvT (dTest t) ρ u := fun Q hq => h _ fun r h1 _ => h1 _ hq
theorem evt_or (h : EvT ta ρ u) (h2 : u = false → EvT tb ρ v) : EvT (dOr ta tb) ρ (u || v) := fun Q hq => h _ (by cases u with | true => exact hq | false => exact h2 rfl _ hq)
theorem evt_and (h : EvT ta ρ u) (h2 : u = true → EvT tb ρ v) : EvT (dAnd ta tb) ρ (u && v) := fun Q hq => h _ (by cases u with | false => exact hq | true => exact h2 rfl _ hq)
theorem evt_not (h : EvT ta ρ u) : EvT (dNot ta) ρ (!u) := fun Q hq => h _ hq
theorem s_if {x : TTD} {t e : TSD} {D : DEnds} (h : EvT x ρ u) (k : if u = true then t D ρ else e D ρ) : sIf x t e D ρ := h _ (by cases u with | true => exact k | false => exact k)
theorem s_chk {x : TTD} {t n : TSD} {D : DEnds} (h : EvT x ρ false) (k : n D ρ) : sSeq (sIf x t sNext) n D ρ := h _ k
theorem s_set {i : Nat} {n : TSD} {D : DEnds} (h : Ev a ρ z) (k : n D (ρ.set i (.val z))) : sSeq (sSet i a) n D ρ := h _ fun r _ h2 => h2 _ k
theorem ev_ne {z w : PyData} (ha : Ev a ρ z) (hb : Ev b ρ w) (h1 : SeqAt.shaped z = true) (h2 : SeqAt.shaped w = true) (e : PyData.eqv z w = true) : EvT (dTest (dOp dNe a b)) ρ false :=
  evt_test (ev_op (z := .bool false) ha hb fun k hk => ⟨h1, h2, by rw [e]; exact hk⟩)
theorem ev_neI {i j : Int} (ha : Ev a ρ (.int i)) (hb : Ev b ρ (.int j)) (e : i = j) : EvT (dTest (dOp dNe a b)) ρ false := ev_ne ha hb rfl rfl (by subst e; simp [PyData.eqv])
theorem ev_neI' {i j : Int} (ha : Ev a ρ (.int i)) (hb : Ev b ρ (.int j)) : EvT (dTest (dOp dNe a b)) ρ (!decide (i = j)) :=
  evt_test (ev_op (z := .bool (!decide (i = j))) ha hb fun k hk => ⟨rfl, rfl, hk⟩)
end
/-! ### field values -/
structure Fv (d : Int) (n : Nat) (x : Nu) (p q s : Int) : Prop where
  e : x = low p q d s
  s0 : s ≠ 0
  b : Nb n x
def Ex (t : TED) (ρ : DSt) (d : Int) (n : Nat) (p q s : Int) : Prop := ∃ x, Fv d n x p q s ∧ Ev t ρ x.D
def Dd (d : Int) : Prop := 0 < d ∧ d < 64 ∧ Irr d
theorem nu_shaped (x : Nu) : SeqAt.shaped x.D = true := rfl
theorem nu_eqv (x : Nu) : PyData.eqv x.D x.D = true := by
  show PyData.eqvAll [.int x.p, .int x.q, .int x.d, .int x.s] [.int x.p, .int x.q, .int x.d, .int x.s] = true
  simp [PyData.eqvAll, PyData.eqv]
section
variable {d : Int} {n m : Nat} {x y : Nu} {p q s p' q' s' : Int}
theorem Fv.kk (h : Fv d n x p q s) : ∃ k, k ≠ 0 ∧ p = k * x.p ∧ q = k * x.q ∧ s = k * x.s ∧ 0 < x.s ∧ x.d = if x.q = 0 then 0 else d := by
  obtain ⟨rfl, s0, _⟩ := h
  obtain ⟨k, h1, h2, h3, h4, h5⟩ := low_spec (p := p) (q := q) d s0
  exact ⟨k, h1, h2, h3, h4, h5, low_dd s0⟩
theorem Fv.rts (hx : Fv d n x p q s) (hy : Fv d m y p' q' s') : rts x y := by
  obtain ⟨_, _, _, _, _, _, h1⟩ := hx.kk
  obtain ⟨_, _, _, _, _, _, h2⟩ := hy.kk
  intro a b
  rw [h1] at a ⊢
  rw [h2] at b ⊢
  split at a
  · exact absurd rfl a
  · split at b
    · exact absurd rfl b
    · rename_i z1 z2; rw [if_neg z1, if_neg z2]
theorem bd0 (n : Nat) : Bd n 0 := by unfold Bd; exact Nat.pow_pos (by decide)
theorem bdd (hd : Dd d) (hn : 6 ≤ n) : Bd n d := (show Bd 6 d by unfold Bd; have := hd.1; have := hd.2.1; omega).mono hn
theorem Fv.nmx (hx : Fv d n x p q s) (hy : Fv d m y p' q' s') (hd : Dd d) : (x.q ≠ 0 ∨ y.q ≠ 0 → nmax x.d y.d = d) ∧ (x.q = 0 → y.q = 0 → nmax x.d y.d = 0) := by
  obtain ⟨_, _, _, _, _, _, h1⟩ := hx.kk
  obtain ⟨_, _, _, _, _, _, h2⟩ := hy.kk
  have := hd.1
  rw [h1, h2]
  refine ⟨fun h => ?_, fun a b => by rw [if_pos a, if_pos b]; rfl⟩
  unfold nmax
  by_cases a : x.q = 0 <;> by_cases b : y.q = 0 <;> simp [a, b] at h ⊢
  · omega
  · intro z; omega
theorem nplus_V (hx : Fv d n x p q s) (hy : Fv d m y p' q' s') (hd : Dd d) : Fv d (n + m + 7) (nplus x y) (p * s' + p' * s) (q * s' + q' * s) (s * s') := by
  obtain ⟨k, k0, e1, e2, e3, e4, _⟩ := hx.kk
  obtain ⟨l, l0, f1, f2, f3, f4, _⟩ := hy.kk
  obtain ⟨n1, n2⟩ := hx.nmx hy hd
  have ne : x.s * y.s ≠ 0 := Int.mul_ne_zero (by omega) (by omega)
  have eq : nplus x y = low (p * s' + p' * s) (q * s' + q' * s) d (s * s') := by
    unfold nplus
    refine low_eq ne (Int.mul_ne_zero hx.s0 hy.s0) ?_ ?_ fun h => n1 ?_
    · rw [e1, e3, f1, f3]; grind
    · rw [e2, e3, f2, f3]; grind
    · rcases Classical.em (x.q = 0) with a | a
      · rcases Classical.em (y.q = 0) with b | b
        · exact absurd (by rw [a, b]; simp) h
        · exact .inr b
      · exact .inl a
  refine ⟨eq, Int.mul_ne_zero hx.s0 hy.s0, ?_⟩
  obtain ⟨b1, b2, b3, b4⟩ := hx.b
  obtain ⟨c1, c2, c3, c4⟩ := hy.b
  unfold nplus
  have bm : Bd (n + m + 7) (nmax x.d y.d) := by unfold nmax; split; exact c3.mono (by omega); exact b3.mono (by omega)
  exact low_bd ne ((b1.mul c4).add (c1.mul b4) (by omega)) ((b2.mul c4).add (c2.mul b4) (by omega)) bm ((b4.mul c4).mono (by omega))
theorem nopp_V (hx : Fv d n x p q s) : Fv d n (nopp x) (-p) (-q) s := by
  obtain ⟨b1, b2, b3, b4⟩ := hx.b
  refine ⟨?_, hx.s0, b1.neg, b2.neg, b3, b4⟩
  have e := hx.e
  subst e
  unfold nopp low
  have hg : gc (-p) (-q) s = gc p q s := by unfold gc; rw [Int.natAbs_neg, Int.natAbs_neg]
  have dv : ∀ a : Int, gc p q s ∣ a → -(sg s * a / gc p q s) = sg s * -a / gc p q s := fun a h => by
    rw [Int.mul_neg, Int.neg_ediv_of_dvd (Int.dvd_trans h (Int.dvd_mul_left _ _))]
  simp only [hg, dv p gc_dp, dv q gc_dq, Int.neg_eq_zero]
theorem ntimes_V (hx : Fv d n x p q s) (hy : Fv d m y p' q' s') (hd : Dd d) : Fv d (n + m + 7) (ntimes x y) (p * p' + q * q' * d) (p * q' + q * p') (s * s') := by
  obtain ⟨k, k0, e1, e2, e3, e4, dx⟩ := hx.kk
  obtain ⟨l, l0, f1, f2, f3, f4, dy⟩ := hy.kk
  obtain ⟨n1, n2⟩ := hx.nmx hy hd
  have ne : x.s * y.s ≠ 0 := Int.mul_ne_zero (by omega) (by omega)
  have em : x.q * y.q * nmax x.d y.d = x.q * y.q * d := by
    rcases Classical.em (x.q = 0) with a | a
    · rw [a]; simp
    · rw [n1 (.inl a)]
  have eq : ntimes x y = low (p * p' + q * q' * d) (p * q' + q * p') d (s * s') := by
    unfold ntimes
    rw [em]
    refine low_eq ne (Int.mul_ne_zero hx.s0 hy.s0) ?_ ?_ fun h => n1 ?_
    · rw [e1, e2, e3, f1, f2, f3]; grind
    · rw [e1, e2, e3, f1, f2, f3]; grind
    · rcases Classical.em (x.q = 0) with a | a
      · rcases Classical.em (y.q = 0) with b | b
        · exact absurd (by rw [a, b]; simp) h
        · exact .inr b
      · exact .inl a
  refine ⟨eq, Int.mul_ne_zero hx.s0 hy.s0, ?_⟩
  obtain ⟨b1, b2, b3, b4⟩ := hx.b
  obtain ⟨c1, c2, c3, c4⟩ := hy.b
  unfold ntimes
  rw [em]
  have bm : Bd (n + m + 7) (nmax x.d y.d) := by unfold nmax; split; exact c3.mono (by omega); exact b3.mono (by omega)
  exact low_bd ne ((b1.mul c1).add ((b2.mul c2).mul (bdd hd (Nat.le_refl 6))) (by omega)) ((b1.mul c2).add (b2.mul c1) (by omega)) bm ((b4.mul c4).mono (by omega))
theorem norm_ne (hd : Dd d) (h : x.p ≠ 0 ∨ x.q ≠ 0) : x.p * x.p - x.q * x.q * d ≠ 0 := fun z => by
  obtain ⟨a, b⟩ := hd.2.2 x.p x.q (by omega)
  rcases h with h | h
  · exact h a
  · exact h b
theorem ninv_V (hy : Fv d m y p' q' s') (hd : Dd d) (h : y.p ≠ 0 ∨ y.q ≠ 0) : y.p * y.p - y.q * y.q * y.d ≠ 0 ∧ Fv d (2 * m + 7) (ninv y) (y.p * y.s) (-y.q * y.s) (y.p * y.p - y.q * y.q * d) := by
  obtain ⟨l, l0, f1, f2, f3, f4, dy⟩ := hy.kk
  have em : y.q * y.q * y.d = y.q * y.q * d := by
    rw [dy]
    split
    · rename_i z; rw [z]; simp
    · rfl
  have nz := norm_ne hd h
  obtain ⟨c1, c2, c3, c4⟩ := hy.b
  have bn : Bd (2 * m + 7) (y.p * y.p - y.q * y.q * d) := (c1.mul c1).sub ((c2.mul c2).mul (bdd hd (Nat.le_refl 6))) (by omega)
  refine ⟨by rw [em]; exact nz, ?_, nz, ?_⟩
  · unfold ninv
    rw [em]
    refine low_d fun h => ?_
    rw [dy, if_neg]
    intro z
    rw [z] at h
    simp at h
  · unfold ninv
    rw [em]
    exact low_bd nz ((c1.mul c4).mono (by omega)) ((c2.neg.mul c4).mono (by omega)) (c3.mono (by omega)) bn
/-! the promises of the field's defs -/
variable {ρ : DSt} {a b : TED} {W : WD}
theorem nb_mono {n m : Nat} {x : Nu} (h : Nb n x) (e : n ≤ m) : Nb m x := ⟨h.1.mono e, h.2.1.mono e, h.2.2.1.mono e, h.2.2.2.mono e⟩
theorem ex_plus (ha : Ex a ρ d n p q s) (hb : Ex b ρ d m p' q' s') (hd : Dd d) (h1 : n ≤ 4000 := by omega) (h2 : m ≤ 4000 := by omega) : Ex (dCall p_plus W (dCons a (dCons b dNil))) ρ d (n + m + 7) (p * s' + p' * s) (q * s' + q' * s) (s * s') := by
  obtain ⟨x, fx, ex⟩ := ha
  obtain ⟨y, fy, ey⟩ := hb
  obtain ⟨_, _, _, _, _, sx, _⟩ := fx.kk
  obtain ⟨_, _, _, _, _, sy, _⟩ := fy.kk
  exact ⟨nplus x y, nplus_V fx fy hd, ev_call (eva_cons ex (eva_cons ey eva_nil)) fun QD ED hq => ⟨x, y, rfl, fx.rts fy, nb_mono fx.b h1, nb_mono fy.b h2, by omega, by omega, hq⟩⟩
theorem ex_opp (ha : Ex a ρ d n p q s) : Ex (dCall p_opposite W (dCons a dNil)) ρ d n (-p) (-q) s := by
  obtain ⟨x, fx, ex⟩ := ha
  exact ⟨nopp x, nopp_V fx, ev_call (eva_cons ex eva_nil) fun QD ED hq => ⟨x, rfl, hq⟩⟩
theorem ex_minus (ha : Ex a ρ d n p q s) (hb : Ex b ρ d m p' q' s') (hd : Dd d) (h1 : n ≤ 4000 := by omega) (h2 : m ≤ 4000 := by omega) : Ex (dCall p_minus W (dCons a (dCons b dNil))) ρ d (n + m + 7) (p * s' + -p' * s) (q * s' + -q' * s) (s * s') := by
  obtain ⟨x, fx, ex⟩ := ha
  obtain ⟨y, fy, ey⟩ := hb
  obtain ⟨_, _, _, _, _, sx, _⟩ := fx.kk
  obtain ⟨_, _, _, _, _, sy, _⟩ := fy.kk
  exact ⟨nminus x y, nplus_V fx (nopp_V fy) hd, ev_call (eva_cons ex (eva_cons ey eva_nil)) fun QD ED hq => ⟨x, y, rfl, fx.rts fy, nb_mono fx.b h1, nb_mono fy.b h2, by omega, by omega, hq⟩⟩
theorem ex_times (ha : Ex a ρ d n p q s) (hb : Ex b ρ d m p' q' s') (hd : Dd d) (h1 : n ≤ 4000 := by omega) (h2 : m ≤ 4000 := by omega) : Ex (dCall p_times W (dCons a (dCons b dNil))) ρ d (n + m + 7) (p * p' + q * q' * d) (p * q' + q * p') (s * s') := by
  obtain ⟨x, fx, ex⟩ := ha
  obtain ⟨y, fy, ey⟩ := hb
  obtain ⟨_, _, _, _, _, sx, _⟩ := fx.kk
  obtain ⟨_, _, _, _, _, sy, _⟩ := fy.kk
  exact ⟨ntimes x y, ntimes_V fx fy hd, ev_call (eva_cons ex (eva_cons ey eva_nil)) fun QD ED hq => ⟨x, y, rfl, fx.rts fy, nb_mono fx.b h1, nb_mono fy.b h2, by omega, by omega, hq⟩⟩
/-- x / y, y not zero -/
theorem ex_over (ha : Ex a ρ d n p q s) (hb : Ex b ρ d m p' q' s') (hd : Dd d) (h0 : p' ≠ 0 ∨ q' ≠ 0) (h1 : n ≤ 1000 := by omega) (h2 : m ≤ 1000 := by omega) :
    Ex (dCall p_over W (dCons a (dCons b dNil))) ρ d (n + (2 * m + 7) + 7) (p * (p' * s') + q * (-q' * s') * d) (p * (-q' * s') + q * (p' * s')) (s * (p' * p' - q' * q' * d)) := by
  obtain ⟨x, fx, ex⟩ := ha
  obtain ⟨y, fy, ey⟩ := hb
  obtain ⟨_, _, _, _, _, sx, _⟩ := fx.kk
  obtain ⟨l, l0, f1, f2, f3, sy, _⟩ := fy.kk
  have hz : y.p ≠ 0 ∨ y.q ≠ 0 := by
    rcases h0 with h | h
    · exact .inl fun z => h (by rw [f1, z, Int.mul_zero])
    · exact .inr fun z => h (by rw [f2, z, Int.mul_zero])
  obtain ⟨nz, fi⟩ := ninv_V fy hd hz
  have ft := ntimes_V fx fi hd
  have nn := norm_ne hd hz
  have ne : p' * p' - q' * q' * d ≠ 0 := by
    rw [f1, f2, show l * y.p * (l * y.p) - l * y.q * (l * y.q) * d = l * l * (y.p * y.p - y.q * y.q * d) by grind]
    exact Int.mul_ne_zero (Int.mul_ne_zero l0 l0) nn
  refine ⟨nover x y, ⟨?_, Int.mul_ne_zero fx.s0 ne, ft.b⟩, ev_call (eva_cons ex (eva_cons ey eva_nil)) fun QD ED hq => ⟨x, y, rfl, fx.rts fy, nb_mono fx.b h1, nb_mono fy.b h2, by omega, by omega, nz, hq⟩⟩
  unfold nover
  rw [ft.e]
  refine low_eq ft.s0 (Int.mul_ne_zero fx.s0 ne) ?_ ?_ fun _ => rfl
  · rw [f1, f2, f3]; grind
  · rw [f1, f2, f3]; grind
theorem ex_ne (ha : Ex a ρ d n p q s) (hb : Ex b ρ d m p' q' s') (e1 : p * s' = p' * s) (e2 : q * s' = q' * s) : EvT (dTest (dOp dNe a b)) ρ false := by
  obtain ⟨x, fx, ex⟩ := ha
  obtain ⟨y, fy, ey⟩ := hb
  have : x = y := by rw [fx.e, fy.e]; exact low_eq fx.s0 fy.s0 e1 e2 fun _ => rfl
  subst this
  exact ev_ne ex ey (nu_shaped x) (nu_shaped x) (nu_eqv x)
theorem sos_xd (h : x.d = if x.q = 0 then 0 else d) : sos x.p x.q x.d = sos x.p x.q d := by
  rw [h]
  split
  · rename_i z; rw [z, sos_q0, sos_q0]
  · rfl
end
end KK

set_option maxHeartbeats 1000000
namespace KK
open PySem PySem.Spec L2 DL
/-! ### floors -/
theorem isqr_ex : ∀ n : Nat, ∃ r : Int, isqr n r
  | 0 => ⟨0, by unfold isqr; decide⟩
  | n + 1 => by
    obtain ⟨r, h0, h1, h2⟩ := isqr_ex n
    by_cases h : (r + 1) * (r + 1) ≤ ((n + 1 : Nat) : Int)
    · refine ⟨r + 1, by omega, h, ?_⟩
      have : (r + 1 + 1) * (r + 1 + 1) = (r + 1) * (r + 1) + 2 * r + 3 := by grind
      omega
    · exact ⟨r, h0, by omega, by omega⟩
theorem isqr_uniq {a r t : Int} (h : isqr a r) (k : isqr a t) : r = t := by
  obtain ⟨h0, h1, h2⟩ := h
  obtain ⟨k0, k1, k2⟩ := k
  rcases Int.lt_trichotomy r t with z | z | z
  · have := Int.mul_le_mul (show r + 1 ≤ t by omega) (show r + 1 ≤ t by omega) (by omega) (by omega)
    omega
  · exact z
  · have := Int.mul_le_mul (show t + 1 ≤ r by omega) (show t + 1 ≤ r by omega) (by omega) (by omega)
    omega
section
variable {d : Int} {n m : Nat} {x y : Nu} {p q s p' q' s' : Int} {ρ : DSt} {a b : TED} {W : WD}
theorem fl_ex (hd : 0 ≤ x.d) : ∃ k, Fl x k := by
  obtain ⟨r, h⟩ := isqr_ex (x.q * x.q * x.d).toNat
  have : (((x.q * x.q * x.d).toNat : Nat) : Int) = x.q * x.q * x.d := Int.toNat_of_nonneg (Int.mul_nonneg (sq_nn _) hd)
  rw [this] at h
  exact ⟨_, r, h, rfl⟩
theorem fl_uniq {k l : Int} (h : Fl x k) (g : Fl x l) : k = l := by
  obtain ⟨r, h1, rfl⟩ := h
  obtain ⟨t, g1, rfl⟩ := g
  rw [isqr_uniq h1 g1]
/-- a value that is its own lowest form -/
theorem Fv.self (h : Fv d n x p q s) : Fv d n x x.p x.q x.s := by
  obtain ⟨k, k0, e1, e2, e3, e4, dx⟩ := h.kk
  refine ⟨?_, by omega, h.b⟩
  have := low_scale (p := x.p) (q := x.q) (s := x.s) d k0 (by omega)
  rw [← e1, ← e2, ← e3, ← h.e] at this
  exact this
theorem low_gc (hs : s ≠ 0) : gc (low p q d s).p (low p q d s).q (low p q d s).s = 1 := by
  obtain ⟨k, k0, e1, e2, e3, e4⟩ := low_spec (p := p) (q := q) d hs
  have g0 := gc_pos (p := p) (q := q) hs
  have e := gc_scale k (low p q d s).p (low p q d s).q (low p q d s).s
  rw [← e1, ← e2, ← e3] at e
  have hb := back (gc_ds (p := p) (q := q) (s := s)) (sg_sq s)
  have e5 : s = sg s * gc p q s * (low p q d s).s := hb
  have e6 : k = sg s * gc p q s := by
    have : k * (low p q d s).s = sg s * gc p q s * (low p q d s).s := by rw [← e3, ← e5]
    exact Int.eq_of_mul_eq_mul_right (by omega) this
  have e7 : (k.natAbs : Int) = gc p q s := by
    rw [e6]
    unfold sg
    split <;> omega
  rw [e7] at e
  have : gc p q s * 1 = gc p q s * gc (low p q d s).p (low p q d s).q (low p q d s).s := by rw [Int.mul_one]; exact e
  exact (Int.eq_of_mul_eq_mul_left (by omega) this).symm
theorem gc_shift (v : Int) (hs : x.s ≠ 0) (h : gc x.p x.q x.s = 1) : gc (x.p + v * x.s) x.q x.s = 1 := by
  have g0 := gc_pos (p := x.p + v * x.s) (q := x.q) hs
  have d1 : gc (x.p + v * x.s) x.q x.s ∣ x.p := by
    have := Int.dvd_sub (gc_dp (p := x.p + v * x.s) (q := x.q) (s := x.s)) (Int.dvd_trans (gc_ds (p := x.p + v * x.s) (q := x.q) (s := x.s)) (Int.dvd_mul_left v x.s))
    rwa [Int.add_sub_cancel] at this
  have d2 : gc (x.p + v * x.s) x.q x.s ∣ gc x.p x.q x.s := by
    have n1 := Int.natAbs_dvd_natAbs.mpr d1
    have n2 := Int.natAbs_dvd_natAbs.mpr (gc_dq (p := x.p + v * x.s) (q := x.q) (s := x.s))
    have n3 := Int.natAbs_dvd_natAbs.mpr (gc_ds (p := x.p + v * x.s) (q := x.q) (s := x.s))
    have := Nat.dvd_gcd (Nat.dvd_gcd n1 n2) n3
    exact Int.natAbs_dvd_natAbs.mp (by unfold gc at this ⊢; simpa using this)
  rw [h] at d2
  have := Int.le_of_dvd (by decide) d2
  omega
theorem low_one {p q d s : Int} (hs : 0 < s) (h : gc p q s = 1) : low p q d s = ⟨p, q, if q = 0 then 0 else d, s⟩ := by
  unfold low
  have : sg s = 1 := by unfold sg; rw [if_neg (by omega)]
  rw [h, this]
  simp
/-- x and a whole number more -/
theorem fl_shift (h : Fv d n x p q s) {k : Int} (v : Int) (hk : Fl x k) : Fl (low (x.p + v * x.s) x.q d x.s) (k + v) := by
  obtain ⟨l, l0, e1, e2, e3, e4, dx⟩ := h.kk
  have g1 : gc x.p x.q x.s = 1 := by rw [h.e]; exact low_gc h.s0
  rw [low_one e4 (gc_shift v (by omega) g1), ← dx]
  obtain ⟨r, h1, rfl⟩ := hk
  refine ⟨r, h1, ?_⟩
  show (if 0 ≤ x.q then (x.p + r) / x.s else (x.p - r - 1) / x.s) + v = if 0 ≤ x.q then (x.p + v * x.s + r) / x.s else (x.p + v * x.s - r - 1) / x.s
  split
  · rw [show x.p + v * x.s + r = x.p + r + v * x.s by grind, Int.add_mul_ediv_right _ _ (by omega)]
  · rw [show x.p + v * x.s - r - 1 = x.p - r - 1 + v * x.s by grind, Int.add_mul_ediv_right _ _ (by omega)]
theorem sq_lt {a b : Int} (h0 : 0 ≤ a) (h : a < b) : a * a < b * b := by
  have := Int.mul_le_mul (show a + 1 ≤ b by omega) (show a + 1 ≤ b by omega) (by omega) (by omega)
  have e : (a + 1) * (a + 1) = a * a + 2 * a + 1 := by grind
  omega
theorem sq_le {a b : Int} (h0 : 0 ≤ a) (h : a ≤ b) : a * a ≤ b * b := Int.mul_le_mul h h h0 (by omega)
/-- the floor is not above, the next is above -/
theorem fl_sos (h : Fv d n x p q s) (hd : Dd d) {k : Int} (hk : Fl x k) : sos (k * x.s - x.p) (0 - x.q) d ≤ 0 ∧ sos ((k + 1) * x.s - x.p) (0 - x.q) d = 1 := by
  obtain ⟨l, l0, e1, e2, e3, e4, dx⟩ := h.kk
  obtain ⟨r, ⟨r0, r1, r2⟩, ek⟩ := hk
  have hd0 := hd.1
  have qd : x.q * x.q * x.d = x.q * x.q * d := by
    rw [dx]; split
    · rename_i z; rw [z]; simp
    · rfl
  rw [qd] at r1 r2
  have nq : (0 - x.q) * (0 - x.q) * d = x.q * x.q * d := by grind
  by_cases hq : 0 ≤ x.q
  · rw [if_pos hq] at ek
    have l1 : k * x.s ≤ x.p + r := by
      rw [ek, Int.mul_comm]; exact Int.mul_ediv_self_le (by omega)
    have l2 : x.p + r < (k + 1) * x.s := by
      rw [ek, Int.mul_comm]
      have := Int.lt_mul_ediv_self_add (x := x.p + r) e4
      grind
    by_cases z : x.q = 0
    · have r00 : r = 0 := by
        rw [z] at r1
        rcases Int.lt_or_le 0 r with c | c
        · have := Int.mul_pos c c; simp at r1; omega
        · omega
      rw [z]
      simp only [Int.sub_zero, sos_q0]
      refine ⟨?_, sgi_pos (by omega)⟩
      unfold sgi
      split
      · omega
      · split <;> omega
    · have qp : 0 < x.q * x.q * d := Int.mul_pos (Int.mul_pos (by omega) (by omega)) hd0
      constructor
      · rcases Int.lt_trichotomy ((k * x.s - x.p) * (k * x.s - x.p) - (0 - x.q) * (0 - x.q) * d) 0 with c | c | c
        · rw [sos_N hd0 c, sgi_neg (by omega)]; decide
        · obtain ⟨_, a2⟩ := hd.2.2 _ _ (show (k * x.s - x.p) * (k * x.s - x.p) = (0 - x.q) * (0 - x.q) * d by omega)
          omega
        · rw [sos_P hd0 c]
          rcases Int.lt_or_le 0 (k * x.s - x.p) with t | t
          · have := sq_le (show 0 ≤ k * x.s - x.p by omega) (show k * x.s - x.p ≤ r by omega)
            omega
          · unfold sgi
            rw [if_neg (by omega)]
            split <;> omega
      · have := sq_le (show 0 ≤ r + 1 by omega) (show r + 1 ≤ (k + 1) * x.s - x.p by omega)
        rw [sos_P hd0 (by omega), sgi_pos (by omega)]
  · rw [if_neg hq] at ek
    have l1 : k * x.s ≤ x.p - r - 1 := by
      rw [ek, Int.mul_comm]; exact Int.mul_ediv_self_le (by omega)
    have l2 : x.p - r - 1 < (k + 1) * x.s := by
      rw [ek, Int.mul_comm]
      have := Int.lt_mul_ediv_self_add (x := x.p - r - 1) e4
      grind
    have neq : r * r ≠ x.q * x.q * d := fun z => by
      obtain ⟨_, a2⟩ := hd.2.2 _ _ z
      omega
    constructor
    · have := sq_le (show 0 ≤ r + 1 by omega) (show r + 1 ≤ -(k * x.s - x.p) by omega)
      have e : -(k * x.s - x.p) * -(k * x.s - x.p) = (k * x.s - x.p) * (k * x.s - x.p) := by grind
      rw [sos_P hd0 (by omega), sgi_neg (by omega)]; decide
    · rcases Int.lt_trichotomy (((k + 1) * x.s - x.p) * ((k + 1) * x.s - x.p) - (0 - x.q) * (0 - x.q) * d) 0 with c | c | c
      · rw [sos_N hd0 c, sgi_pos (by omega)]
      · obtain ⟨_, a2⟩ := hd.2.2 _ _ (show ((k + 1) * x.s - x.p) * ((k + 1) * x.s - x.p) = (0 - x.q) * (0 - x.q) * d by omega)
        omega
      · rw [sos_P hd0 c]
        rcases Int.lt_or_le ((k + 1) * x.s - x.p) 0 with t | t
        · have := sq_le (show 0 ≤ -((k + 1) * x.s - x.p) by omega) (show -((k + 1) * x.s - x.p) ≤ r by omega)
          have e : -((k + 1) * x.s - x.p) * -((k + 1) * x.s - x.p) = ((k + 1) * x.s - x.p) * ((k + 1) * x.s - x.p) := by grind
          omega
        · rcases Int.lt_or_le 0 ((k + 1) * x.s - x.p) with u | u
          · exact sgi_pos u
          · have : (k + 1) * x.s - x.p = 0 := by omega
            rw [this] at c
            have := sq_nn (0 - x.q)
            have := Int.mul_nonneg this (Int.le_of_lt hd0)
            omega
theorem ex_floor (h : Fv d n x p q s) (hd : Dd d) (ea : Ev a ρ x.D) {k : Int} (hk : Fl x k) (h1 : n ≤ 2000 := by omega) : Ev (dCall p_floor W (dCons a dNil)) ρ (.int k) := by
  obtain ⟨l, l0, e1, e2, e3, e4, dx⟩ := h.kk
  have := hd.1
  exact ev_call (eva_cons ea eva_nil) fun QD ED hq => ⟨x, rfl, nb_mono h.b h1, e4, by rw [dx]; split <;> omega, fun j hj => by rw [fl_uniq hj hk]; exact hq⟩
theorem fl_bd (h : Fv d n x p q s) (hd : Dd d) {k : Int} (hk : Fl x k) : Bd (n + 6) k := by
  obtain ⟨l, l0, e1, e2, e3, e4, dx⟩ := h.kk
  obtain ⟨r, ⟨r0, r1, r2⟩, ek⟩ := hk
  obtain ⟨b1, b2, b3, b4⟩ := h.b
  have hd0 := hd.1
  have hd1 := hd.2.1
  have rb : Bd (n + 4) r := by
    have dle : x.d ≤ 64 := by rw [dx]; split <;> omega
    have e8 : x.q * x.q * x.d ≤ 8 * (x.q.natAbs : Int) * (8 * (x.q.natAbs : Int)) := by
      have h1 := Int.mul_le_mul_of_nonneg_left dle (sq_nn x.q)
      have h2 : (x.q.natAbs : Int) * (x.q.natAbs : Int) = x.q * x.q := Int.natAbs_mul_self
      have h3 : 8 * (x.q.natAbs : Int) * (8 * (x.q.natAbs : Int)) = (x.q.natAbs : Int) * (x.q.natAbs : Int) * 64 := by grind
      rw [h3, h2]; exact h1
    have le : r ≤ 8 * (x.q.natAbs : Int) := by
      rcases Int.lt_or_le (8 * (x.q.natAbs : Int)) r with c | c
      · have := sq_lt (by omega) c
        omega
      · exact c
    have b8 : Bd (n + 4) (8 * (x.q.natAbs : Int)) := by
      have : Bd n (x.q.natAbs : Int) := by unfold Bd at *; omega
      exact ((show Bd 4 8 by unfold Bd; decide).mul this).mono (by omega)
    exact b8.of r0 le
  rw [ek]
  split
  · exact Bd.div (b1.add rb (by omega)) _ e4
  · refine Bd.div ?_ _ e4
    exact (b1.sub rb (k := n + 5) (by omega)).sub (show Bd 1 1 by unfold Bd; decide) (by omega)
end
/-! ### the six roots -/
end KK

set_option maxHeartbeats 1000000
namespace KK
open PySem PySem.Spec L2 DL
section
variable {ρ : DSt} {a b c e : TED} {W : WD} {D : DEnds} {nn : TSD}
theorem ev_new {dr : TND} {zs : List PyData} (h : EvA dr ρ zs) (hl : zs.length ≤ 1000) : Ev (dNew (nLst dr)) ρ (.list zs) := fun Q k => h _ ⟨Nat.le_trans hl (by rw [sizeLine_eq]; decide), k _ (fun _ h => h) (fun _ h => h)⟩
theorem Pr.run {p : DSp} {ds : List PyData} {z : PyData} (h : Pr p ds z) {Q : R → DSt → Prop} (k : Q (.d z) ρ) : p (ds.map SD.val) (fun r _ => retD Q ρ r) (fun e _ => W e ρ) := h _ _ k
/-- the roots of a turn -/
structure Rt (z f r : Int) : Prop where
  d : Dd r
  r2 : 2 ≤ r
  f0 : 0 < f
  f3 : f ≤ 3
  e : f * f * r = z
  u : ∀ f' r', 0 < f' → 0 < r' → f' * f' * r' = z → sqfree r' → f' = f ∧ r' = r
theorem Rt.z {z f r : Int} (h : Rt z f r) : 0 < z ∧ z < 600 := by
  have h1 := h.d.1
  have h2 := h.d.2.1
  have h3 := h.f3
  have h4 := h.f0
  have hf : f = 1 ∨ f = 2 ∨ f = 3 := by omega
  have := h.e
  rcases hf with rfl | rfl | rfl <;> omega
/-! draws -/
theorem dr_upto {io : Bool} {s : Spl} {m : Nat} {b : Int} {Q : R → DSt → Prop} (h : ρ[1]? = some (.own io s.L)) (ha : Ev a ρ (.int b)) (hs : Sok m s) (hm : m < 2 ^ 50) (h0 : 0 < b) (hb : Bd 1000 b) (k : ∀ n s', 0 ≤ n → n < b → Sok (m + 1) s' → Q (.d (.int n)) (ρ.set 1 (.own io s'.L))) :
    withLent 1 (dCallL p__law_upto W 1 (dCons a dNil)) ρ Q := by
  refine ⟨by unfold isLent; rw [h]; trivial, eva_cons ha eva_nil _ ?_⟩
  show lendK ρ 1 _
  unfold lendK
  rw [h]
  refine ⟨s, m, b, rfl, hs, by omega, h0, hb.mono (by omega), fun n s' n0 n1 hs' => ?_⟩
  unfold backK
  rw [h]
  exact k n s' n0 n1 hs'
theorem dr_choice {io : Bool} {s : Spl} {m : Nat} {xs : List PyData} {Q : R → DSt → Prop} (h : ρ[1]? = some (.own io s.L)) (ha : Ev a ρ (.list xs)) (hs : Sok m s) (hm : m < 2 ^ 50) (h0 : xs ≠ []) (hb : xs.length < 1000) (k : ∀ x s', x ∈ xs → Sok (m + 1) s' → Q (.d x) (ρ.set 1 (.own io s'.L))) :
    withLent 1 (dCallL p__law_choice W 1 (dCons a dNil)) ρ Q := by
  refine ⟨by unfold isLent; rw [h]; trivial, eva_cons ha eva_nil _ ?_⟩
  show lendK ρ 1 _
  unfold lendK
  rw [h]
  refine ⟨s, m, xs, rfl, hs, by omega, h0, by omega, fun x s' hx hs' => ?_⟩
  unfold backK
  rw [h]
  exact k x s' hx hs'
theorem s_spool {ns : List Int} {rest : DSt} (hl : ns.length ≤ 63) (k : ∀ s, Sok 0 s → nn D (.res true (scriptR ns) :: .own false s.L :: rest)) : sSeq (sOwn 1 (withLentN 0 (nCallL p__law_spool_of W 0 dNil))) nn D (.res true (scriptR ns) :: .no :: rest) := by
  refine ⟨trivial, ns, rfl, hl, fun s hs => ⟨?_, k s hs⟩⟩
  show 1 < _
  simp
end
end KK

set_option maxHeartbeats 2000000
namespace KK
open PySem PySem.Spec L2 DL
theorem rg {P : Prop} (a b : P) : P := a
def Good (r : Int) (y : PyData) : Prop := ∃ x p q s, y = Nu.D x ∧ Fv r 60 x p q s ∧ 0 < s
theorem small_mul {i j : Int} (h1 : i.natAbs < 2 ^ 100) (h2 : j.natAbs < 2 ^ 100) : CMulW i j := Bd.cm (n := 100) (m := 100) h1 h2 (by omega)
end KK

set_option maxHeartbeats 4000000
namespace KK
open PySem PySem.Spec L2 DL
theorem evt_and0 {ρ : DSt} {ta tb : TTD} {u : Bool} (h : EvT ta ρ u) (h2 : u = true → EvT tb ρ false) : EvT (dAnd ta tb) ρ false := fun Q hq => h _ (by cases u with | false => exact hq | true => exact h2 rfl _ hq)
theorem evt_or0 {ρ : DSt} {ta tb : TTD} (h : EvT ta ρ false) (h2 : EvT tb ρ false) : EvT (dOr ta tb) ρ false := fun Q hq => h _ (h2 _ hq)
theorem sos_range (p q d : Int) : sos p q d = -1 ∨ sos p q d = 0 ∨ sos p q d = 1 := by
  have sg3 : ∀ x, sgi x = -1 ∨ sgi x = 0 ∨ sgi x = 1 := fun x => by unfold sgi; split; exact .inr (.inr rfl); split; exact .inl rfl; exact .inr (.inl rfl)
  have b3 : (if 0 < d then sgi q else 0) = -1 ∨ (if 0 < d then sgi q else 0) = 0 ∨ (if 0 < d then sgi q else 0) = 1 := by split; exact sg3 q; exact .inr (.inl rfl)
  have a3 := sg3 p
  unfold sos
  generalize (if 0 < d then sgi q else 0) = b at b3 ⊢
  generalize sgi p = a at a3 ⊢
  split
  · exact a3
  · split
    · exact b3
    · split
      · exact a3
      · exact b3
theorem ev_gtI {ρ : DSt} {a b : TED} {i j : Int} (ha : Ev a ρ (.int i)) (hb : Ev b ρ (.int j)) (h : ¬ j < i) : EvT (dTest (dOp dGt a b)) ρ false :=
  evt_test (ev_op (z := .bool false) ha hb fun k hk => by show k (.bool (decide (j < i))); rw [decide_eq_false h]; exact hk)
theorem ev_ltI {ρ : DSt} {a b : TED} {i j : Int} (ha : Ev a ρ (.int i)) (hb : Ev b ρ (.int j)) (h : ¬ i < j) : EvT (dTest (dOp dLt a b)) ρ false :=
  evt_test (ev_op (z := .bool false) ha hb fun k hk => by show k (.bool (decide (i < j))); rw [decide_eq_false h]; exact hk)
end KK

set_option maxHeartbeats 1000000
namespace KK
open PySem PySem.Spec L2 DL
theorem pure_number {k_InvalidNumber : Addr} (α : List SD) (QD : Ret → List SD → Prop) (ED : Exd → List SD → Prop) (W : WD) (hW : W = fun e ρ => outK α ρ fun α' => ED e α') (h : p_number k_InvalidNumber α QD ED) : r_number W k_InvalidNumber (DEnd α QD) (startD n_number.length α) := by
  obtain ⟨p, q, d, s, rfl, hBq, hBd, hBs, hE, hq⟩ := h
  unfold r_number DEnd
  by_cases hc : s = 0 ∨ d < 0
  · have hE := hE hc
    have go : W ⟨k_InvalidNumber, []⟩ [iv p, iv q, iv d, iv s, .no, .no] := by rw [hW]; exact hE
    by_cases h0 : s = 0
    · simp [sSeq, sIf, sNext, sSet, sAug, sRet, sPar, sPar3, asThree, sRaise, sAsg, sOwn, sApp, sPut, sRetN, sRetOwn, sRetU, sDrop, sBreak, sCont, dVar, dC, dOp, dTest, dCons, dNil, dTup, nLst, dNew, dNeg, dIf, dF1, dAnd, dOr, dNot, dAndV, dOrV, dNotV, dCall, nCall, dCallL, nCallL, withLent, withLentN, vw, frz, dI, dI0, dB0, int2, dEq, dNe, dAdd, dSub, dIAdd, atD, gName', gTup', gNil', gCons', gLst', lenIs, retD, retN, lendK, backK, isLent, ownK, fAbs, fLen, fMax, fMin, startD, outK, shp_int, eqv_int, dIsD, dIsX, dIsNone, dM1, isL, fCount, fIndex, dEqS, dIs, fRepr, h0, n_number] at go ⊢
      exact go
    · have h1 : d < 0 := by rcases hc with h | h; exact absurd h h0; exact h
      simp [sSeq, sIf, sNext, sSet, sAug, sRet, sPar, sPar3, asThree, sRaise, sAsg, sOwn, sApp, sPut, sRetN, sRetOwn, sRetU, sDrop, sBreak, sCont, dVar, dC, dOp, dTest, dCons, dNil, dTup, nLst, dNew, dNeg, dIf, dF1, dAnd, dOr, dNot, dAndV, dOrV, dNotV, dCall, nCall, dCallL, nCallL, withLent, withLentN, vw, frz, dI, dI0, dB0, int2, dEq, dNe, dAdd, dSub, dIAdd, atD, gName', gTup', gNil', gCons', gLst', lenIs, retD, retN, lendK, backK, isLent, ownK, fAbs, fLen, fMax, fMin, startD, outK, shp_int, eqv_int, dIsD, dIsX, dIsNone, dM1, isL, fCount, fIndex, dEqS, dIs, fRepr, h0, h1, n_number]
      exact go
  · have hq := hq hc
    have hs : s ≠ 0 := fun z => hc (.inl z)
    have hd : 0 ≤ d := by
      rcases Int.lt_or_le d 0 with z | z
      · exact absurd (.inr z) hc
      · exact z
    simp [sSeq, sIf, sNext, sSet, sAug, sRet, sPar, sPar3, asThree, sRaise, sAsg, sOwn, sApp, sPut, sRetN, sRetOwn, sRetU, sDrop, sBreak, sCont, dVar, dC, dOp, dTest, dCons, dNil, dTup, nLst, dNew, dNeg, dIf, dF1, dAnd, dOr, dNot, dAndV, dOrV, dNotV, dCall, nCall, dCallL, nCallL, withLent, withLentN, vw, frz, dI, dI0, dB0, int2, dEq, dNe, dAdd, dSub, dIAdd, atD, gName', gTup', gNil', gCons', gLst', lenIs, retD, retN, lendK, backK, isLent, ownK, fAbs, fLen, fMax, fMin, startD, outK, shp_int, eqv_int, dIsD, dIsX, dIsNone, dM1, isL, fCount, fIndex, dEqS, dIs, fRepr, hs, show ¬ d < 0 by omega, n_number]
    by_cases h0 : 0 < d
    · simp [sSeq, sIf, sNext, sSet, sAug, sRet, sPar, sPar3, asThree, sRaise, sAsg, sOwn, sApp, sPut, sRetN, sRetOwn, sRetU, sDrop, sBreak, sCont, dVar, dC, dOp, dTest, dCons, dNil, dTup, nLst, dNew, dNeg, dIf, dF1, dAnd, dOr, dNot, dAndV, dOrV, dNotV, dCall, nCall, dCallL, nCallL, withLent, withLentN, vw, frz, dI, dI0, dB0, int2, dEq, dNe, dAdd, dSub, dIAdd, atD, gName', gTup', gNil', gCons', gLst', lenIs, retD, retN, lendK, backK, isLent, ownK, fAbs, fLen, fMax, fMin, startD, outK, shp_int, eqv_int, dIsD, dIsX, dIsNone, dM1, isL, fCount, fIndex, dEqS, dIs, fRepr, h0]
      refine ⟨d, ⟨rfl, h0, hBd, ?_⟩⟩
      intro f r f0 r0 e sq
      have key := hq f r (.inr ⟨h0, f0, r0, e, sq⟩)
      have fB : Bd 4000 f := by
        refine hBd.of (by omega) ?_
        have h1 := Int.mul_le_mul_of_nonneg_left (show 1 ≤ f by omega) (show 0 ≤ f by omega)
        have h2 := Int.mul_le_mul_of_nonneg_left (show 1 ≤ r by omega) (show 0 ≤ f * f by have := Int.mul_pos f0 f0; omega)
        omega
      unfold numF at key
      simp [sSeq, sIf, sNext, sSet, sAug, sRet, sPar, sPar3, asThree, sRaise, sAsg, sOwn, sApp, sPut, sRetN, sRetOwn, sRetU, sDrop, sBreak, sCont, dVar, dC, dOp, dTest, dCons, dNil, dTup, nLst, dNew, dNeg, dIf, dF1, dAnd, dOr, dNot, dAndV, dOrV, dNotV, dCall, nCall, dCallL, nCallL, withLent, withLentN, vw, frz, dI, dI0, dB0, int2, dEq, dNe, dAdd, dSub, dIAdd, atD, gName', gTup', gNil', gCons', gLst', lenIs, retD, retN, lendK, backK, isLent, ownK, fAbs, fLen, fMax, fMin, startD, outK, shp_int, eqv_int, dIsD, dIsX, dIsNone, dM1, isL, fCount, fIndex, dEqS, dIs, fRepr]
      by_cases hr : r < 2
      · simp [sSeq, sIf, sNext, sSet, sAug, sRet, sPar, sPar3, asThree, sRaise, sAsg, sOwn, sApp, sPut, sRetN, sRetOwn, sRetU, sDrop, sBreak, sCont, dVar, dC, dOp, dTest, dCons, dNil, dTup, nLst, dNew, dNeg, dIf, dF1, dAnd, dOr, dNot, dAndV, dOrV, dNotV, dCall, nCall, dCallL, nCallL, withLent, withLentN, vw, frz, dI, dI0, dB0, int2, dEq, dNe, dAdd, dSub, dIAdd, atD, gName', gTup', gNil', gCons', gLst', lenIs, retD, retN, lendK, backK, isLent, ownK, fAbs, fLen, fMax, fMin, startD, outK, shp_int, eqv_int, dIsD, dIsX, dIsNone, dM1, isL, fCount, fIndex, dEqS, dIs, fRepr, hr] at key ⊢
        exact ⟨hBq.cm fB (by omega), p + q * f, 0, 0, s, rfl, hs, hBs, key⟩
      · simp [sSeq, sIf, sNext, sSet, sAug, sRet, sPar, sPar3, asThree, sRaise, sAsg, sOwn, sApp, sPut, sRetN, sRetOwn, sRetU, sDrop, sBreak, sCont, dVar, dC, dOp, dTest, dCons, dNil, dTup, nLst, dNew, dNeg, dIf, dF1, dAnd, dOr, dNot, dAndV, dOrV, dNotV, dCall, nCall, dCallL, nCallL, withLent, withLentN, vw, frz, dI, dI0, dB0, int2, dEq, dNe, dAdd, dSub, dIAdd, atD, gName', gTup', gNil', gCons', gLst', lenIs, retD, retN, lendK, backK, isLent, ownK, fAbs, fLen, fMax, fMin, startD, outK, shp_int, eqv_int, dIsD, dIsX, dIsNone, dM1, isL, fCount, fIndex, dEqS, dIs, fRepr, hr] at key ⊢
        exact ⟨hBq.cm fB (by omega), p, q * f, r, s, rfl, hs, hBs, key⟩
    · have : d = 0 := by omega
      subst this
      simp [sSeq, sIf, sNext, sSet, sAug, sRet, sPar, sPar3, asThree, sRaise, sAsg, sOwn, sApp, sPut, sRetN, sRetOwn, sRetU, sDrop, sBreak, sCont, dVar, dC, dOp, dTest, dCons, dNil, dTup, nLst, dNew, dNeg, dIf, dF1, dAnd, dOr, dNot, dAndV, dOrV, dNotV, dCall, nCall, dCallL, nCallL, withLent, withLentN, vw, frz, dI, dI0, dB0, int2, dEq, dNe, dAdd, dSub, dIAdd, atD, gName', gTup', gNil', gCons', gLst', lenIs, retD, retN, lendK, backK, isLent, ownK, fAbs, fLen, fMax, fMin, startD, outK, shp_int, eqv_int, dIsD, dIsX, dIsNone, dM1, isL, fCount, fIndex, dEqS, dIs, fRepr]
      have key := hq 0 0 (.inl ⟨rfl, rfl, rfl⟩)
      unfold numF at key
      simp [sSeq, sIf, sNext, sSet, sAug, sRet, sPar, sPar3, asThree, sRaise, sAsg, sOwn, sApp, sPut, sRetN, sRetOwn, sRetU, sDrop, sBreak, sCont, dVar, dC, dOp, dTest, dCons, dNil, dTup, nLst, dNew, dNeg, dIf, dF1, dAnd, dOr, dNot, dAndV, dOrV, dNotV, dCall, nCall, dCallL, nCallL, withLent, withLentN, vw, frz, dI, dI0, dB0, int2, dEq, dNe, dAdd, dSub, dIAdd, atD, gName', gTup', gNil', gCons', gLst', lenIs, retD, retN, lendK, backK, isLent, ownK, fAbs, fLen, fMax, fMin, startD, outK, shp_int, eqv_int, dIsD, dIsX, dIsNone, dM1, isL, fCount, fIndex, dEqS, dIs, fRepr] at key
      exact ⟨by decide, hBq.cm (show Bd 1 0 by unfold Bd; decide) (by omega), p, 0, 0, s, rfl, hs, hBs, key⟩
theorem pure__law_common (α : List SD) (QD : Ret → List SD → Prop) (ED : Exd → List SD → Prop) (W : WD) (hW : W = fun e ρ => outK α ρ fun α' => ED e α') (h : p__law_common α QD ED) : r__law_common W (DEnd α QD) (startD n__law_common.length α) := pure_common_divisor α QD ED W hW h
theorem fdn {g a : Int} (hg : 0 < g) (h : g ∣ a) : a.fdiv (-g) = -a / g := by
  obtain ⟨y, rfl⟩ := h
  have e1 : g * y = -g * -y := by grind
  rw [e1, Int.mul_fdiv_cancel_left _ (by omega)]
  rw [show -(-g * -y) = g * -y by grind, Int.mul_ediv_cancel_left _ (by omega)]
theorem pure__law_lowest (α : List SD) (QD : Ret → List SD → Prop) (ED : Exd → List SD → Prop) (W : WD) (hW : W = fun e ρ => outK α ρ fun α' => ED e α') (h : p__law_lowest α QD ED) : r__law_lowest W (DEnd α QD) (startD n__law_lowest.length α) := by
  obtain ⟨p, q, d, s, rfl, hs, hB, hq⟩ := h
  unfold r__law_lowest DEnd
  have key : ∀ q' d' : Int, (q' = 0 ↔ d' = 0) → (if q = 0 ∨ d = 0 then low p 0 0 s else low p q d s) = low p q' d' s →
      sSeq (sSet 4 (dCall p__law_common W (dCons (dCall p__law_common W (dCons (dVar 0) (dCons (dVar 1) (dNil)))) (dCons (dVar 3) (dNil))))) (sSeq (sSet 4 (dIf (dTest (dOp dGt (dVar 3) (dC (.int 0)))) (dVar 4) (dOp dSub (dC (.int 0)) (dVar 4)))) (sRet (dTup (dCons (dOp dFdiv (dVar 0) (dVar 4)) (dCons (dOp dFdiv (dVar 1) (dVar 4)) (dCons (dVar 2) (dCons (dOp dFdiv (dVar 3) (dVar 4)) (dNil))))))))
        { nx := fun ρ => outK [iv p, iv q, iv d, iv s] ρ fun α' => QD (.d .none) α', rt := fun r ρ => outK [iv p, iv q, iv d, iv s] ρ fun α' => QD r α' } [iv p, iv q', iv d', iv s, .no] := by
    intro q' d' hqd e
    rw [e] at hq
    have g0 := gc_pos (p := p) (q := q') hs
    have gB := (gc_bd (p := p) (q := q') hs hB).log (by omega)
    have hdd : (if q' = 0 then 0 else d') = d' := by split; exact (hqd.mp (by assumption)).symm; rfl
    simp [sSeq, sIf, sNext, sSet, sAug, sRet, sPar, sPar3, asThree, sRaise, sAsg, sOwn, sApp, sPut, sRetN, sRetOwn, sRetU, sDrop, sBreak, sCont, dVar, dC, dOp, dTest, dCons, dNil, dTup, nLst, dNew, dNeg, dIf, dF1, dAnd, dOr, dNot, dAndV, dOrV, dNotV, dCall, nCall, dCallL, nCallL, withLent, withLentN, vw, frz, dI, dI0, dB0, int2, dEq, dNe, dAdd, dSub, dIAdd, atD, gName', gTup', gNil', gCons', gLst', lenIs, retD, retN, lendK, backK, isLent, ownK, fAbs, fLen, fMax, fMin, startD, outK, shp_int, eqv_int, dIsD, dIsX, dIsNone, dM1, isL, fCount, fIndex, dEqS, dIs, fRepr]
    refine ⟨p, q', rfl, _, s, rfl, ?_⟩
    rw [gc_int]
    by_cases h0 : 0 < s
    · have sg' : sg s = 1 := by unfold sg; rw [if_neg (by omega)]
      have e3 : low p q' d' s = ⟨p / gc p q' s, q' / gc p q' s, d', s / gc p q' s⟩ := by unfold low; rw [sg', hdd]; simp [sSeq, sIf, sNext, sSet, sAug, sRet, sPar, sPar3, asThree, sRaise, sAsg, sOwn, sApp, sPut, sRetN, sRetOwn, sRetU, sDrop, sBreak, sCont, dVar, dC, dOp, dTest, dCons, dNil, dTup, nLst, dNew, dNeg, dIf, dF1, dAnd, dOr, dNot, dAndV, dOrV, dNotV, dCall, nCall, dCallL, nCallL, withLent, withLentN, vw, frz, dI, dI0, dB0, int2, dEq, dNe, dAdd, dSub, dIAdd, atD, gName', gTup', gNil', gCons', gLst', lenIs, retD, retN, lendK, backK, isLent, ownK, fAbs, fLen, fMax, fMin, startD, outK, shp_int, eqv_int, dIsD, dIsX, dIsNone, dM1, isL, fCount, fIndex, dEqS, dIs, fRepr]
      rw [e3] at hq
      have cd : ∀ x, CDivF x (gc p q' s) := fun _ => ⟨by omega, gB⟩
      simp [sSeq, sIf, sNext, sSet, sAug, sRet, sPar, sPar3, asThree, sRaise, sAsg, sOwn, sApp, sPut, sRetN, sRetOwn, sRetU, sDrop, sBreak, sCont, dVar, dC, dOp, dTest, dCons, dNil, dTup, nLst, dNew, dNeg, dIf, dF1, dAnd, dOr, dNot, dAndV, dOrV, dNotV, dCall, nCall, dCallL, nCallL, withLent, withLentN, vw, frz, dI, dI0, dB0, int2, dEq, dNe, dAdd, dSub, dIAdd, atD, gName', gTup', gNil', gCons', gLst', lenIs, retD, retN, lendK, backK, isLent, ownK, fAbs, fLen, fMax, fMin, startD, outK, shp_int, eqv_int, dIsD, dIsX, dIsNone, dM1, isL, fCount, fIndex, dEqS, dIs, fRepr, h0, cd]
      rw [fd_pos g0, fd_pos g0, fd_pos g0]
      exact ⟨by decide, hq⟩
    · have sg' : sg s = -1 := by unfold sg; rw [if_pos (by omega)]
      have e3 : low p q' d' s = ⟨-p / gc p q' s, -q' / gc p q' s, d', -s / gc p q' s⟩ := by unfold low; rw [sg', hdd]; simp [sSeq, sIf, sNext, sSet, sAug, sRet, sPar, sPar3, asThree, sRaise, sAsg, sOwn, sApp, sPut, sRetN, sRetOwn, sRetU, sDrop, sBreak, sCont, dVar, dC, dOp, dTest, dCons, dNil, dTup, nLst, dNew, dNeg, dIf, dF1, dAnd, dOr, dNot, dAndV, dOrV, dNotV, dCall, nCall, dCallL, nCallL, withLent, withLentN, vw, frz, dI, dI0, dB0, int2, dEq, dNe, dAdd, dSub, dIAdd, atD, gName', gTup', gNil', gCons', gLst', lenIs, retD, retN, lendK, backK, isLent, ownK, fAbs, fLen, fMax, fMin, startD, outK, shp_int, eqv_int, dIsD, dIsX, dIsNone, dM1, isL, fCount, fIndex, dEqS, dIs, fRepr]
      rw [e3] at hq
      have cd : ∀ x, CDivF x (-gc p q' s) := fun _ => ⟨by omega, by rw [Int.natAbs_neg]; exact gB⟩
      simp [sSeq, sIf, sNext, sSet, sAug, sRet, sPar, sPar3, asThree, sRaise, sAsg, sOwn, sApp, sPut, sRetN, sRetOwn, sRetU, sDrop, sBreak, sCont, dVar, dC, dOp, dTest, dCons, dNil, dTup, nLst, dNew, dNeg, dIf, dF1, dAnd, dOr, dNot, dAndV, dOrV, dNotV, dCall, nCall, dCallL, nCallL, withLent, withLentN, vw, frz, dI, dI0, dB0, int2, dEq, dNe, dAdd, dSub, dIAdd, atD, gName', gTup', gNil', gCons', gLst', lenIs, retD, retN, lendK, backK, isLent, ownK, fAbs, fLen, fMax, fMin, startD, outK, shp_int, eqv_int, dIsD, dIsX, dIsNone, dM1, isL, fCount, fIndex, dEqS, dIs, fRepr, h0, cd]
      rw [fdn g0 gc_dp, fdn g0 gc_dq, fdn g0 gc_ds]
      exact ⟨by decide, hq⟩
  by_cases h1 : q = 0
  · have := key 0 0 Iff.rfl (by rw [if_pos (.inl h1)])
    simp [sSeq, sIf, sNext, sSet, sAug, sRet, sPar, sPar3, asThree, sRaise, sAsg, sOwn, sApp, sPut, sRetN, sRetOwn, sRetU, sDrop, sBreak, sCont, dVar, dC, dOp, dTest, dCons, dNil, dTup, nLst, dNew, dNeg, dIf, dF1, dAnd, dOr, dNot, dAndV, dOrV, dNotV, dCall, nCall, dCallL, nCallL, withLent, withLentN, vw, frz, dI, dI0, dB0, int2, dEq, dNe, dAdd, dSub, dIAdd, atD, gName', gTup', gNil', gCons', gLst', lenIs, retD, retN, lendK, backK, isLent, ownK, fAbs, fLen, fMax, fMin, startD, outK, shp_int, eqv_int, dIsD, dIsX, dIsNone, dM1, isL, fCount, fIndex, dEqS, dIs, fRepr, h1, n__law_lowest] at this ⊢
    exact ⟨by decide, this⟩
  · by_cases h2 : d = 0
    · have := key 0 0 Iff.rfl (by rw [if_pos (.inr h2)])
      simp [sSeq, sIf, sNext, sSet, sAug, sRet, sPar, sPar3, asThree, sRaise, sAsg, sOwn, sApp, sPut, sRetN, sRetOwn, sRetU, sDrop, sBreak, sCont, dVar, dC, dOp, dTest, dCons, dNil, dTup, nLst, dNew, dNeg, dIf, dF1, dAnd, dOr, dNot, dAndV, dOrV, dNotV, dCall, nCall, dCallL, nCallL, withLent, withLentN, vw, frz, dI, dI0, dB0, int2, dEq, dNe, dAdd, dSub, dIAdd, atD, gName', gTup', gNil', gCons', gLst', lenIs, retD, retN, lendK, backK, isLent, ownK, fAbs, fLen, fMax, fMin, startD, outK, shp_int, eqv_int, dIsD, dIsX, dIsNone, dM1, isL, fCount, fIndex, dEqS, dIs, fRepr, h1, h2, n__law_lowest] at this ⊢
      exact ⟨by decide, this⟩
    · have := key q d (by simp [sSeq, sIf, sNext, sSet, sAug, sRet, sPar, sPar3, asThree, sRaise, sAsg, sOwn, sApp, sPut, sRetN, sRetOwn, sRetU, sDrop, sBreak, sCont, dVar, dC, dOp, dTest, dCons, dNil, dTup, nLst, dNew, dNeg, dIf, dF1, dAnd, dOr, dNot, dAndV, dOrV, dNotV, dCall, nCall, dCallL, nCallL, withLent, withLentN, vw, frz, dI, dI0, dB0, int2, dEq, dNe, dAdd, dSub, dIAdd, atD, gName', gTup', gNil', gCons', gLst', lenIs, retD, retN, lendK, backK, isLent, ownK, fAbs, fLen, fMax, fMin, startD, outK, shp_int, eqv_int, dIsD, dIsX, dIsNone, dM1, isL, fCount, fIndex, dEqS, dIs, fRepr, h1, h2]) (by rw [if_neg (by simp [sSeq, sIf, sNext, sSet, sAug, sRet, sPar, sPar3, asThree, sRaise, sAsg, sOwn, sApp, sPut, sRetN, sRetOwn, sRetU, sDrop, sBreak, sCont, dVar, dC, dOp, dTest, dCons, dNil, dTup, nLst, dNew, dNeg, dIf, dF1, dAnd, dOr, dNot, dAndV, dOrV, dNotV, dCall, nCall, dCallL, nCallL, withLent, withLentN, vw, frz, dI, dI0, dB0, int2, dEq, dNe, dAdd, dSub, dIAdd, atD, gName', gTup', gNil', gCons', gLst', lenIs, retD, retN, lendK, backK, isLent, ownK, fAbs, fLen, fMax, fMin, startD, outK, shp_int, eqv_int, dIsD, dIsX, dIsNone, dM1, isL, fCount, fIndex, dEqS, dIs, fRepr, h1, h2])])
      simp [sSeq, sIf, sNext, sSet, sAug, sRet, sPar, sPar3, asThree, sRaise, sAsg, sOwn, sApp, sPut, sRetN, sRetOwn, sRetU, sDrop, sBreak, sCont, dVar, dC, dOp, dTest, dCons, dNil, dTup, nLst, dNew, dNeg, dIf, dF1, dAnd, dOr, dNot, dAndV, dOrV, dNotV, dCall, nCall, dCallL, nCallL, withLent, withLentN, vw, frz, dI, dI0, dB0, int2, dEq, dNe, dAdd, dSub, dIAdd, atD, gName', gTup', gNil', gCons', gLst', lenIs, retD, retN, lendK, backK, isLent, ownK, fAbs, fLen, fMax, fMin, startD, outK, shp_int, eqv_int, dIsD, dIsX, dIsNone, dM1, isL, fCount, fIndex, dEqS, dIs, fRepr, h1, h2, n__law_lowest] at this ⊢
      exact this
end KK

set_option maxHeartbeats 2000000
namespace KK
open PySem PySem.Spec L2 DL
theorem small_line {n : Nat} (h : n ≤ 1000) : n ≤ sizeLine := Nat.le_trans h (by rw [sizeLine_eq]; decide)
theorem ev_isX {i : Nat} {ρ : DSt} {e : Exd} {R0 : Addr → Bool → Prop} {b : Bool} (io : Bool) (h : ρ[i]? = some (.res io (excR e))) (hr : R0 e.C b) : Ev (dIsX i R0) ρ (.bool b) := fun Q k => ⟨io, e, b, h, hr, k _ (fun _ h => h) (fun _ h => h)⟩
theorem ev_m1 {ρ : DSt} {f : PyData → PyData → (PyData → Prop) → Prop} {a b : TED} {ds : List PyData} {y z : PyData} (ha : Ev a ρ (.list ds)) (hb : Ev b ρ y) (hf : ∀ k : PyData → Prop, k z → f (.list ds) y k) : Ev (dM1 f a b) ρ z := fun Q k =>
  ha _ fun r1 h1 _ => h1 _ ⟨trivial, hb _ fun r2 h2 _ => h1 _ (h2 _ (hf _ (k _ (fun _ h => h) (fun _ h => h))))⟩
theorem ev_set_seq {ρ : DSt} {i : Nat} {a : TED} {n : TSD} {D : DEnds} {z : PyData} (h : Ev a ρ z) (k : n D (ρ.set i (.val z))) : sSeq (sSet i a) n D ρ := s_set h k
theorem s_ret {ρ : DSt} {a : TED} {D : DEnds} {z : PyData} (h : Ev a ρ z) (k : D.rt (.d z) ρ) : sRet a D ρ := h _ fun r _ h2 => h2 (fun d ρ2 => D.rt (.d d) ρ2) k
end KK

set_option maxHeartbeats 2000000
namespace KK
open PySem PySem.Spec L2 DL
theorem ev_isD {ρ : DSt} {a : TED} {z : PyData} (isT : PyData → Bool) (h : Ev a ρ z) : Ev (dIsD isT a) ρ (.bool (isT z)) := fun Q k => h _ fun r h1 _ => h1 _ (k _ (fun _ h => h) (fun _ h => h))
theorem ev_f1 {ρ : DSt} {f : PyData → (PyData → Prop) → Prop} {a : TED} {x z : PyData} (h : Ev a ρ x) (hf : ∀ k : PyData → Prop, k z → f x k) : Ev (dF1 f a) ρ z := fun Q k => h _ fun r h1 _ => h1 _ (hf _ (k _ (fun _ h => h) (fun _ h => h)))
theorem ev_andV {ρ : DSt} {a b : TED} {z : PyData} (h : Ev a ρ (.bool true)) (h2 : Ev b ρ z) : Ev (dAndV a b) ρ z := fun Q k => h _ fun r h1 _ => h1 _ (h2 _ k)
theorem s_asg {ρ : DSt} {a : TED} {g : TGD} {n : TSD} {D : DEnds} {z : PyData} (h : Ev a ρ z) (k : g z ρ (n D)) : sSeq (sAsg a g) n D ρ := h _ fun r _ h2 => h2 (fun d ρ2 => g d ρ2 (n D)) k
theorem num_canon {x : Nu} (h : Cn x) {f r : Int} (hs : sqp x.d f r) : numF x.p x.q f r x.s = x := by
  obtain ⟨s0, g1, hqd, _⟩ := h
  rcases hqd with ⟨hq, hd⟩ | ⟨hq, hd, sq⟩
  · rcases hs with ⟨_, rfl, rfl⟩ | ⟨h, _⟩
    · unfold numF
      rw [if_pos (by decide), hq]
      rw [hq] at g1
      have : x.p + 0 * 0 = x.p := by omega
      rw [this, low_one s0 g1]
      obtain ⟨p, q, d, s⟩ := x
      simp at hq hd ⊢
      exact ⟨hq.symm, hd.symm⟩
    · omega
  · rcases hs with ⟨h, _⟩ | ⟨_, f0, r0, e, sr⟩
    · omega
    · have f1 : f = 1 := by
        rcases Int.lt_or_le 1 f with z | z
        · exact absurd ⟨r, e.symm⟩ (sq f z)
        · omega
      subst f1
      have er : r = x.d := by omega
      subst er
      unfold numF
      rw [if_neg (by omega), Int.mul_one, low_one s0 g1, if_neg hq]
theorem dr_uptoJ {ρ : DSt} {a : TED} {W : WD} (j : Nat) {io : Bool} {s : Spl} {m : Nat} {b : Int} {Q : R → DSt → Prop} (h : ρ[j]? = some (.own io s.L)) (ha : Ev a ρ (.int b)) (hs : Sok m s) (hm : m < 2 ^ 50) (h0 : 0 < b) (hb : Bd 1000 b) (k : ∀ n s', 0 ≤ n → n < b → Sok (m + 1) s' → Q (.d (.int n)) (ρ.set j (.own io s'.L))) :
    withLent j (dCallL p__law_upto W j (dCons a dNil)) ρ Q := by
  refine ⟨by unfold isLent; rw [h]; trivial, eva_cons ha eva_nil _ ?_⟩
  show lendK ρ j _
  unfold lendK
  rw [h]
  refine ⟨s, m, b, rfl, hs, by omega, h0, hb.mono (by omega), fun n s' n0 n1 hs' => ?_⟩
  unfold backK
  rw [h]
  exact k n s' n0 n1 hs'
end KK

set_option maxHeartbeats 4000000
namespace KK
open PySem PySem.Spec L2 DL
theorem lcD_inv {vs : List Nat} {g : TGD} {te : TED} {Q : List PyData → DSt → Prop} (Inv : Nat → DSt → Prop) (P : PyData → Prop) : ∀ (items acc : List PyData) (ρ : DSt), Inv items.length ρ → acc.length + items.length ≤ 900 → (∀ z ∈ acc, P z) →
    (∀ k x ρ (Q' : R → DSt → Prop), x ∈ items → Inv (k + 1) ρ → (∀ z ρ', P z → Inv k (wipeD ρ' vs) → Q' (.d z) ρ') → g x ρ fun ρ1 => te ρ1 Q') →
    (∀ ds ρ', ds.length = acc.length + items.length → (∀ z ∈ ds, P z) → Inv 0 ρ' → Q ds ρ') → lcD vs g dYes te items acc ρ Q
  | [], acc, ρ, h, _, ha, _, fin => fin acc ρ (by simp) ha h
  | x :: xs, acc, ρ, h, hl, ha, step, fin => by
    simp only [List.length_cons] at hl
    refine step xs.length x ρ _ List.mem_cons_self h fun z ρ' hz hi => ?_
    refine ⟨Nat.lt_of_lt_of_le (show acc.length < 1000 by omega) (by rw [sizeLine_eq]; decide), ?_⟩
    refine lcD_inv Inv P xs (acc ++ [z]) _ hi (by simp; omega) (fun y hy => ?_) (fun k y ρ Q' hy => step k y ρ Q' (List.mem_cons_of_mem _ hy)) fun ds ρ' hd => fin ds ρ' (by simp at hd ⊢; omega)
    rcases List.mem_append.mp hy with h | h
    · exact ha y h
    · rw [List.mem_singleton.mp h]; exact hz
/-! squarefree parts are the same -/
theorem sqf_one {a b r : Nat} (hc : Nat.Coprime a b) (h : a * a ∣ b * b * r) : a * a ∣ r := by
  have c1 : Nat.Coprime (a * a) b := Nat.Coprime.mul_left hc hc
  have c2 : Nat.Coprime (a * a) (b * b) := Nat.Coprime.mul_right c1 c1
  exact Nat.Coprime.dvd_of_dvd_mul_left c2 h
theorem sqf_uniq {f r f' r' : Int} (f0 : 0 < f) (r0 : 0 < r) (f0' : 0 < f') (r0' : 0 < r') (e : f * f * r = f' * f' * r') (s : sqfree r) (s' : sqfree r') : f = f' ∧ r = r' := by
  obtain ⟨F, rfl⟩ := Int.eq_ofNat_of_zero_le (Int.le_of_lt f0)
  obtain ⟨F', rfl⟩ := Int.eq_ofNat_of_zero_le (Int.le_of_lt f0')
  obtain ⟨S, rfl⟩ := Int.eq_ofNat_of_zero_le (Int.le_of_lt r0)
  obtain ⟨S', rfl⟩ := Int.eq_ofNat_of_zero_le (Int.le_of_lt r0')
  have e : F * F * S = F' * F' * S' := by exact_mod_cast e
  have one : ∀ {a b r r' : Nat}, Nat.Coprime a b → a * a * r = b * b * r' → 0 < a → sqfree (r' : Int) → a = 1 := fun {a b r r'} hc h ha hs => by
    have hd : a * a ∣ r' := sqf_one hc ⟨r, h.symm⟩
    rcases Nat.lt_or_ge 1 a with z | z
    · exact absurd (show ((a : Int) * (a : Int)) ∣ (r' : Int) by exact_mod_cast Int.natCast_dvd_natCast.mpr hd) (hs (a : Int) (by omega))
    · omega
  have g0 : 0 < Nat.gcd F F' := Nat.gcd_pos_of_pos_left _ (by omega)
  obtain ⟨a, ha⟩ := Nat.gcd_dvd_left F F'
  obtain ⟨b, hb⟩ := Nat.gcd_dvd_right F F'
  have hc : Nat.Coprime a b := by
    have h1 : a = F / Nat.gcd F F' := (Nat.div_eq_of_eq_mul_right g0 ha).symm
    have h2 : b = F' / Nat.gcd F F' := (Nat.div_eq_of_eq_mul_right g0 hb).symm
    rw [h1, h2]
    exact Nat.coprime_div_gcd_div_gcd g0
  generalize hg : Nat.gcd F F' = g at ha hb g0
  have h3 : a * a * S = b * b * S' := by
    rw [ha, hb] at e
    have e2 : g * g * (a * a * S) = g * g * (b * b * S') := by grind
    exact Nat.eq_of_mul_eq_mul_left (Nat.mul_pos g0 g0) e2
  have a0 : 0 < a := Nat.pos_of_ne_zero fun z => by rw [z] at ha; simp at ha; omega
  have b0 : 0 < b := Nat.pos_of_ne_zero fun z => by rw [z] at hb; simp at hb; omega
  have a1 := one hc h3 a0 s'
  have b1 := one hc.symm h3.symm b0 s
  subst a1 b1
  refine ⟨by rw [ha, hb], ?_⟩
  simp at h3
  rw [h3]
theorem sqp_uniq {d f r f' r' : Int} (h : sqp d f r) (h' : sqp d f' r') : f' = f ∧ r' = r := by
  rcases h with ⟨h1, h2, h3⟩ | ⟨h1, h2, h3, h4, h5⟩ <;> rcases h' with ⟨k1, k2, k3⟩ | ⟨k1, k2, k3, k4, k5⟩
  · omega
  · omega
  · omega
  · exact sqf_uniq k2 k3 h2 h3 (by rw [k4, h4]) k5 h5
/-! shown -/
theorem int_len {i : Int} (h : Bd 1900 i) : (Str.ofString (toString i)).length ≤ 1921 := by
  rw [PySem.ofString_length]
  refine PySem.int_text_length_le (k := 1920) (by decide) ?_
  unfold Bd at h
  by_cases z : i.natAbs = 0
  · rw [z]; decide
  · exact Nat.lt_of_lt_of_le ((Nat.log2_lt z).mpr h) (by decide)
theorem bd_show {i : Int} (h : Bd 1900 i) : i.natAbs.log2 < 1920 := by
  unfold Bd at h
  by_cases z : i.natAbs = 0
  · rw [z]; decide
  · exact Nat.lt_of_lt_of_le ((Nat.log2_lt z).mpr h) (by decide)
theorem nu_shown {x : Nu} (h : Nb 1900 x) : x.D.showable = true ∧ x.D.hasDict = false ∧ x.D.depth ≤ 60 ∧ x.D.shown.length ≤ sizeLine := by
  obtain ⟨h1, h2, h3, h4⟩ := h
  refine ⟨?_, rfl, (by show (1 : Nat) ≤ 60; decide), ?_⟩
  · show (decide _ && (decide _ && (decide _ && (decide _ && true)))) = true
    rw [decide_eq_true (bd_show h1), decide_eq_true (bd_show h2), decide_eq_true (bd_show h3), decide_eq_true (bd_show h4)]; rfl
  · have e := PySem.join_length_add [toString x.p, toString x.q, toString x.d, toString x.s] (by simp)
    have l1 := int_len h1
    have l2 := int_len h2
    have l3 := int_len h3
    have l4 := int_len h4
    simp only [PySem.piled_cons, PySem.piled_nil] at e
    show (("(" : Str) ++ Str.join ", " [toString x.p, toString x.q, toString x.d, toString x.s] ++ (")" : Str)).length ≤ sizeLine
    rw [Str.length_append, Str.length_append]
    have o1 : ("(" : Str).length = 1 := rfl
    have o2 : (")" : Str).length = 1 := rfl
    rw [o1, o2, sizeLine_eq]
    omega
end KK

set_option maxHeartbeats 4000000
namespace KK
open PySem PySem.Spec L2 DL
theorem s_ifseq {ρ : DSt} {x : TTD} {t e n : TSD} {D : DEnds} (h : EvT x ρ true) (k : t { D with nx := n D } ρ) : sSeq (sIf x t e) n D ρ := h _ k
theorem s_set1 {ρ : DSt} {i : Nat} {a : TED} {D : DEnds} {z : PyData} (h : Ev a ρ z) (k : D.nx (ρ.set i (.val z))) : sSet i a D ρ := h _ fun r _ h2 => h2 (fun d ρ2 => D.nx (ρ2.set i (.val d))) k
theorem sqp_f {d f r : Int} (h : sqp d f r) (hd : Bd 60 d) : Bd 60 f := by
  rcases h with ⟨_, rfl, _⟩ | ⟨h0, f0, r0, e, _⟩
  · exact bd0 _
  · refine hd.of (by omega) ?_
    have h1 := Int.mul_le_mul_of_nonneg_left (show 1 ≤ f by omega) (show 0 ≤ f by omega)
    have h2 := Int.mul_le_mul_of_nonneg_left (show 1 ≤ r by omega) (show 0 ≤ f * f by have := Int.mul_pos f0 f0; omega)
    omega
theorem sqp_r {d f r : Int} (h : sqp d f r) (hd : Bd 60 d) : Bd 60 r := by
  rcases h with ⟨_, _, rfl⟩ | ⟨h0, f0, r0, e, _⟩
  · exact bd0 _
  · refine hd.of (by omega) ?_
    have h2 := Int.mul_le_mul_of_nonneg_right (show 1 ≤ f * f by have := Int.mul_pos f0 f0; omega) (show 0 ≤ r by omega)
    omega
theorem numF_Cn {p q d f r s : Int} (hs : s ≠ 0) (h : sqp d f r) (bp : Bd 1000 p) (bq : Bd 1000 q) (bd : Bd 60 d) (bs : Bd 1000 s) : Cn (numF p q f r s) ∧ Nb 1900 (numF p q f r s) := by
  have bf := sqp_f h bd
  have br := sqp_r h bd
  have bqf : Bd 1060 (q * f) := bq.mul bf
  have b1 : Bd 1900 (p + q * f) := bp.add bqf (by omega)
  have key : ∀ (P Q D : Int), Bd 1900 P → Bd 1900 Q → Bd 1900 D → (Q = 0 ∨ (1 < D ∧ sqfree D)) → Cn (low P Q D s) ∧ Nb 1900 (low P Q D s) := by
    intro P Q D b1 b2 b3 hh
    have nb := low_bd hs b1 b2 b3 (bs.mono (show 1000 ≤ 1900 by omega))
    obtain ⟨k, k0, e1, e2, e3, e4⟩ := low_spec (p := P) (q := Q) D hs
    have dd := low_dd (p := P) (q := Q) (d := D) hs
    have qq := low_q (p := P) (q := Q) (d := D) hs
    refine ⟨⟨e4, low_gc hs, ?_, nb_mono nb (by omega)⟩, nb⟩
    by_cases hq : (low P Q D s).q = 0
    · exact .inl ⟨hq, by rw [dd, if_pos hq]⟩
    · rcases hh with h | h
      · exact absurd (qq.mpr h) hq
      · exact .inr ⟨hq, by rw [dd, if_neg hq]; exact h.1, by rw [dd, if_neg hq]; exact h.2⟩
  unfold numF
  by_cases hr : r < 2
  · rw [if_pos hr]
    exact key _ _ _ b1 (bd0 _) (bd0 _) (.inl rfl)
  · rw [if_neg hr]
    refine key _ _ _ (bp.mono (by omega)) (bqf.mono (by omega)) (br.mono (by omega)) (.inr ⟨by omega, ?_⟩)
    rcases h with ⟨_, _, h⟩ | ⟨_, _, _, _, h⟩
    · omega
    · exact h
end KK

namespace KK
open PySem PySem.Spec L2 DL
theorem len_common_divisor : ∀ α QD ED, p_common_divisor α QD ED → α.length = [("first" : Str), "second"].length := by rintro α QD ED ⟨a, b, rfl, _⟩; rfl
theorem len_root_floor : ∀ α QD ED, p_root_floor α QD ED → α.length = [("number" : Str)].length := by rintro α QD ED ⟨a, rfl, _⟩; rfl
theorem len_without_squares : ∀ α QD ED, p_without_squares α QD ED → α.length = [("number" : Str)].length := by rintro α QD ED ⟨a, rfl, _⟩; rfl
theorem len_lowest : ∀ α QD ED, p_lowest α QD ED → α.length = [("p" : Str), "q", "d", "s"].length := by rintro α QD ED ⟨a, b, c, d, rfl, _⟩; rfl
theorem len_root_of : ∀ α QD ED, p_root_of α QD ED → α.length = [("first" : Str), "second"].length := by rintro α QD ED ⟨a, b, rfl, _⟩; rfl
theorem len_plus : ∀ α QD ED, p_plus α QD ED → α.length = [("first" : Str), "second"].length := by rintro α QD ED ⟨a, b, rfl, _⟩; rfl
theorem len_opposite : ∀ α QD ED, p_opposite α QD ED → α.length = [("one" : Str)].length := by rintro α QD ED ⟨a, rfl, _⟩; rfl
theorem len_minus : ∀ α QD ED, p_minus α QD ED → α.length = [("first" : Str), "second"].length := by rintro α QD ED ⟨a, b, rfl, _⟩; rfl
theorem len_times : ∀ α QD ED, p_times α QD ED → α.length = [("first" : Str), "second"].length := by rintro α QD ED ⟨a, b, rfl, _⟩; rfl
theorem len_over : ∀ α QD ED, p_over α QD ED → α.length = [("first" : Str), "second"].length := by rintro α QD ED ⟨a, b, rfl, _⟩; rfl
theorem len_floor : ∀ α QD ED, p_floor α QD ED → α.length = [("one" : Str)].length := by rintro α QD ED ⟨a, rfl, _⟩; rfl
theorem len__law_stirred : ∀ α QD ED, p__law_stirred α QD ED → α.length = [("cell" : Str), "place"].length := by rintro α QD ED ⟨a, b, rfl, _⟩; rfl
theorem len__law_spool_of : ∀ α QD ED, p__law_spool_of α QD ED → α.length = [("script" : Str)].length := by rintro α QD ED ⟨a, rfl, _⟩; rfl
theorem len__law_upto : ∀ α QD ED, p__law_upto α QD ED → α.length = [("spool" : Str), "bound"].length := by rintro α QD ED ⟨a, m, b, rfl, _⟩; rfl
theorem len__law_choice : ∀ α QD ED, p__law_choice α QD ED → α.length = [("spool" : Str), "items"].length := by rintro α QD ED ⟨a, m, b, rfl, _⟩; rfl
theorem len_law : ∀ α QD ED, p_law α QD ED → α.length = [("script" : Str)].length := by rintro α QD ED ⟨ns, _, rfl, _⟩; rfl
end KK

namespace KK
open PySem PySem.Spec L2 DL
theorem len_number {k : Addr} : ∀ α QD ED, p_number k α QD ED → α.length = [("p" : Str), "q", "d", "s"].length := by rintro α QD ED ⟨a, b, c, d, rfl, _⟩; rfl
theorem len__law_common : ∀ α QD ED, p__law_common α QD ED → α.length = [("one" : Str), "other"].length := by rintro α QD ED ⟨a, b, rfl, _⟩; rfl
theorem len__law_lowest : ∀ α QD ED, p__law_lowest α QD ED → α.length = [("p" : Str), "q", "d", "s"].length := by rintro α QD ED ⟨a, b, c, d, rfl, _⟩; rfl
end KK

set_option maxHeartbeats 1000000
namespace KK
open PySem PySem.Spec L2 DL
/-! ### expressions without effect: one rule a construct -/
section
variable {ρ : DSt} {a b c : TED} {i j : Int} {x : Nu} {y z : PyData} {t : TTD} {u v : Bool}
theorem ev_add (ha : Ev a ρ (.int i)) (hb : Ev b ρ (.int j)) : Ev (dOp dAdd a b) ρ (.int (i + j)) := ev_op ha hb fun _ h => h
theorem ev_sub (ha : Ev a ρ (.int i)) (hb : Ev b ρ (.int j)) : Ev (dOp dSub a b) ρ (.int (i - j)) := ev_op ha hb fun _ h => h
theorem ev_mul (ha : Ev a ρ (.int i)) (hb : Ev b ρ (.int j)) (h : CMulW i j) : Ev (dOp dMul a b) ρ (.int (i * j)) := ev_op ha hb fun _ k => ⟨h, k⟩
theorem ev_fdiv (ha : Ev a ρ (.int i)) (hb : Ev b ρ (.int j)) (h : CDivF i j) : Ev (dOp dFdiv a b) ρ (.int (i.fdiv j)) := ev_op ha hb fun _ k => ⟨h, k⟩
theorem ev_mod (ha : Ev a ρ (.int i)) (hb : Ev b ρ (.int j)) (h : j ≠ 0) : Ev (dOp dMod a b) ρ (.int (i.fmod j)) := ev_op ha hb fun _ k => ⟨h, k⟩
theorem ev_pow (ha : Ev a ρ (.int i)) (hb : Ev b ρ (.int j)) (h : CPow i j) : Ev (dOp dPow a b) ρ (.int (i ^ j.toNat)) := ev_op ha hb fun _ k => ⟨h, k⟩
theorem ev_neg (ha : Ev a ρ (.int i)) : Ev (dNeg a) ρ (.int (-i)) := fun Q k => ha _ fun r h1 _ => h1 _ (k _ (fun _ h => h) (fun _ h => h))
theorem ev_max (ha : Ev a ρ (.int i)) (hb : Ev b ρ (.int j)) : Ev (dOp fMax a b) ρ (.int (nmax i j)) := ev_op ha hb fun _ h => h
theorem ev_abs (ha : Ev a ρ (.int i)) : Ev (dF1 fAbs a) ρ (.int (if i < 0 then -i else i)) := fun Q k => ha _ fun r h1 _ => h1 _ (k _ (fun _ h => h) (fun _ h => h))
theorem ev_lt (ha : Ev a ρ (.int i)) (hb : Ev b ρ (.int j)) : Ev (dOp dLt a b) ρ (.bool (decide (i < j))) := ev_op ha hb fun _ h => h
theorem ev_le (ha : Ev a ρ (.int i)) (hb : Ev b ρ (.int j)) : Ev (dOp dLe a b) ρ (.bool (decide (i ≤ j))) := ev_op ha hb fun _ h => h
theorem ev_gt (ha : Ev a ρ (.int i)) (hb : Ev b ρ (.int j)) : Ev (dOp dGt a b) ρ (.bool (decide (j < i))) := ev_op ha hb fun _ h => h
theorem ev_ge (ha : Ev a ρ (.int i)) (hb : Ev b ρ (.int j)) : Ev (dOp dGe a b) ρ (.bool (decide (j ≤ i))) := ev_op ha hb fun _ h => h
theorem ev_eq (ha : Ev a ρ (.int i)) (hb : Ev b ρ (.int j)) : Ev (dOp dEq a b) ρ (.bool (decide (i = j))) := ev_op ha hb fun _ h => ⟨rfl, rfl, h⟩
theorem ev_nei (ha : Ev a ρ (.int i)) (hb : Ev b ρ (.int j)) : Ev (dOp dNe a b) ρ (.bool (!decide (i = j))) := ev_op ha hb fun _ h => ⟨rfl, rfl, h⟩
theorem ev_eqD (ha : Ev a ρ y) (hb : Ev b ρ z) (h1 : SeqAt.shaped y = true := by rfl) (h2 : SeqAt.shaped z = true := by rfl) : Ev (dOp dEq a b) ρ (.bool (PyData.eqv y z)) := ev_op ha hb fun _ h => ⟨h1, h2, h⟩
theorem ev_neD (ha : Ev a ρ y) (hb : Ev b ρ z) (h1 : SeqAt.shaped y = true := by rfl) (h2 : SeqAt.shaped z = true := by rfl) : Ev (dOp dNe a b) ρ (.bool (!PyData.eqv y z)) := ev_op ha hb fun _ h => ⟨h1, h2, h⟩
theorem ev_eqS {y z : Str} (ha : Ev a ρ (.str y)) (hb : Ev b ρ (.str z)) : Ev (dOp dEqS a b) ρ (.bool (decide (y = z))) := ev_op ha hb fun _ h => h
theorem ev_p (ha : Ev a ρ x.D) : Ev (dOp atD a (dC (.int 0))) ρ (.int x.p) := ev_op ha ev_c fun _ h => h
theorem ev_q (ha : Ev a ρ x.D) : Ev (dOp atD a (dC (.int 1))) ρ (.int x.q) := ev_op ha ev_c fun _ h => h
theorem ev_d (ha : Ev a ρ x.D) : Ev (dOp atD a (dC (.int 2))) ρ (.int x.d) := ev_op ha ev_c fun _ h => h
theorem ev_s (ha : Ev a ρ x.D) : Ev (dOp atD a (dC (.int 3))) ρ (.int x.s) := ev_op ha ev_c fun _ h => h
theorem ev_nu {p q d s : Int} (ha : Ev a ρ (.tuple [.int p, .int q, .int d, .int s])) : Ev a ρ (Nu.D ⟨p, q, d, s⟩) := ha
theorem ev_ifT (hc : EvT t ρ true) (ha : Ev a ρ z) : Ev (dIf t a b) ρ z := fun Q k => hc _ (ha Q k)
theorem ev_ifF (hc : EvT t ρ false) (hb : Ev b ρ z) : Ev (dIf t a b) ρ z := fun Q k => hc _ (hb Q k)
theorem ev_ifU (hc : EvT t ρ u) (ha : u = true → Ev a ρ y) (hb : u = false → Ev b ρ z) : Ev (dIf t a b) ρ (if u = true then y else z) := by
  cases u with
  | true => exact ev_ifT hc (ha rfl)
  | false => exact ev_ifF hc (hb rfl)
theorem ev_orV (ha : Ev a ρ (.bool u)) (hb : u = false → Ev b ρ (.bool v)) : Ev (dOrV a b) ρ (.bool (u || v)) := by
  intro Q k
  refine ha _ fun r h1 h2 => h1 _ ?_
  cases u with
  | true => exact k _ (fun _ h => h) (fun _ h => h)
  | false => exact hb rfl Q k
theorem evt_lt (ha : Ev a ρ (.int i)) (hb : Ev b ρ (.int j)) : EvT (dTest (dOp dLt a b)) ρ (decide (i < j)) := evt_test (ev_lt ha hb)
theorem evt_le (ha : Ev a ρ (.int i)) (hb : Ev b ρ (.int j)) : EvT (dTest (dOp dLe a b)) ρ (decide (i ≤ j)) := evt_test (ev_le ha hb)
theorem evt_gt (ha : Ev a ρ (.int i)) (hb : Ev b ρ (.int j)) : EvT (dTest (dOp dGt a b)) ρ (decide (j < i)) := evt_test (ev_gt ha hb)
theorem evt_ge (ha : Ev a ρ (.int i)) (hb : Ev b ρ (.int j)) : EvT (dTest (dOp dGe a b)) ρ (decide (j ≤ i)) := evt_test (ev_ge ha hb)
theorem evt_eq (ha : Ev a ρ (.int i)) (hb : Ev b ρ (.int j)) : EvT (dTest (dOp dEq a b)) ρ (decide (i = j)) := evt_test (ev_eq ha hb)
theorem evt_ne (ha : Ev a ρ (.int i)) (hb : Ev b ρ (.int j)) : EvT (dTest (dOp dNe a b)) ρ (!decide (i = j)) := evt_test (ev_nei ha hb)
theorem evt_eqD (ha : Ev a ρ y) (hb : Ev b ρ z) (h1 : SeqAt.shaped y = true := by rfl) (h2 : SeqAt.shaped z = true := by rfl) : EvT (dTest (dOp dEq a b)) ρ (PyData.eqv y z) := evt_test (ev_eqD ha hb h1 h2)
theorem evt_neD (ha : Ev a ρ y) (hb : Ev b ρ z) (h1 : SeqAt.shaped y = true := by rfl) (h2 : SeqAt.shaped z = true := by rfl) : EvT (dTest (dOp dNe a b)) ρ (!PyData.eqv y z) := evt_test (ev_neD ha hb h1 h2)
theorem evt_as {w : Bool} (h : EvT t ρ u) (e : u = w) : EvT t ρ w := e ▸ h
theorem ev_as {z' : PyData} (h : Ev a ρ z) (e : z = z') : Ev a ρ z' := e ▸ h
end
/-! statements -/
section
variable {ρ : DSt} {a : TED} {t : TTD} {s1 s2 n : TSD} {D : DEnds} {z : PyData} {u : Bool} {dr : TND} {zs : List PyData} {p : DSp} {W : WD} {Q : R → DSt → Prop}
theorem s_ifT (h : EvT t ρ true) (k : s1 D ρ) : sIf t s1 s2 D ρ := h _ k
theorem s_ifF (h : EvT t ρ false) (k : s2 D ρ) : sIf t s1 s2 D ρ := h _ k
theorem s_seq (k : s1 { D with nx := n D } ρ) : sSeq s1 n D ρ := k
theorem s_next (k : D.nx ρ) : sNext D ρ := k
theorem s_raise {C : Addr} (k : W ⟨C, []⟩ ρ) : sRaise W C D ρ := k
/-- a call of data -/
theorem c_call (h : EvA dr ρ zs) (k : p (zs.map SD.val) (fun r _ => retD Q ρ r) (fun e _ => W e ρ)) : dCall p W dr ρ Q := h _ k
theorem s_retc (h : EvA dr ρ zs) (k : p (zs.map SD.val) (fun r _ => match r with | .d z => D.rt (.d z) ρ | .n ds => D.rt (.d (.list ds)) ρ) (fun e _ => W e ρ)) : sRet (dCall p W dr) D ρ := h _ k
theorem s_setc {i : Nat} (h : EvA dr ρ zs) (k : p (zs.map SD.val) (fun r _ => match r with | .d z => n D (ρ.set i (.val z)) | .n ds => n D (ρ.set i (.val (.list ds)))) (fun e _ => W e ρ)) : sSeq (sSet i (dCall p W dr)) n D ρ := h _ k
theorem unpack4 {x : Nu} {i0 i1 i2 i3 : Nat} {N : DSt → Prop} (k : N ((((ρ.set i0 (iv x.p)).set i1 (iv x.q)).set i2 (iv x.d)).set i3 (iv x.s))) : gTup' (lenIs 4 (gCons' (gName' i0) (gCons' (gName' i1) (gCons' (gName' i2) (gCons' (gName' i3) gNil'))))) x.D ρ N := ⟨rfl, k⟩
end
/-! two at once -/
theorem s_par {ρ : DSt} {D : DEnds} {a b : TED} {x y : PyData} {i j : Nat} (ha : Ev a ρ x) (hb : Ev b ρ y) (k : D.nx ((ρ.set i (.val x)).set j (.val y))) : sPar i j (dCons a (dCons b dNil)) D ρ := eva_cons ha (eva_cons hb eva_nil) _ k
theorem s_parS {ρ : DSt} {D : DEnds} {n : TSD} {a b : TED} {x y : PyData} {i j : Nat} (ha : Ev a ρ x) (hb : Ev b ρ y) (k : n D ((ρ.set i (.val x)).set j (.val y))) : sSeq (sPar i j (dCons a (dCons b dNil))) n D ρ := s_par (D := { D with nx := n D }) ha hb k
theorem unpack3 {ρ : DSt} {a b c : PyData} {i0 i1 i2 : Nat} {N : DSt → Prop} (k : N (((ρ.set i0 (.val a)).set i1 (.val b)).set i2 (.val c))) : gTup' (lenIs 3 (gCons' (gName' i0) (gCons' (gName' i1) (gCons' (gName' i2) gNil')))) (.tuple [a, b, c]) ρ N := ⟨rfl, k⟩
theorem unpack2 {ρ : DSt} {a b : PyData} {i0 i1 : Nat} {N : DSt → Prop} (k : N ((ρ.set i0 (.val a)).set i1 (.val b))) : gTup' (lenIs 2 (gCons' (gName' i0) (gCons' (gName' i1) gNil'))) (.tuple [a, b]) ρ N := ⟨rfl, k⟩
/-! calls of a def that is lent a list -/
section
variable {ρ : DSt} {a b : TED} {D : DEnds} {dr : TND} {zs L : List PyData} {p : DSp} {W : WD} {Q : R → DSt → Prop} {QN : List PyData → DSt → Prop} {j : Nat} {io : Bool}
theorem x_lent (h : ρ[j]? = some (.own io L)) (ha : EvA dr ρ zs) (k : p (.own true L :: zs.map SD.val) (fun r α => backK ρ j α fun ρ2 => retD Q ρ2 r) (fun e α => backK ρ j α fun ρ2 => W e ρ2)) : withLent j (dCallL p W j dr) ρ Q := by
  refine ⟨by unfold isLent; rw [h]; trivial, ha _ ?_⟩
  show lendK ρ j _
  unfold lendK
  rw [h]
  exact k
theorem x_back (h : ρ[j]? = some (.own io L)) {L' : List PyData} {α : List SD} {F : DSt → Prop} (k : F (ρ.set j (.own io L'))) : backK ρ j (.own true L' :: α) F := by
  unfold backK
  rw [h]
  exact k
theorem dr_choiceJ (j : Nat) {io : Bool} {s : Spl} {m : Nat} {xs : List PyData} (h : ρ[j]? = some (.own io s.L)) (ha : Ev a ρ (.list xs)) (hs : Sok m s) (hm : m < 2 ^ 50) (h0 : xs ≠ []) (hb : xs.length < 1000) (k : ∀ x s', x ∈ xs → Sok (m + 1) s' → Q (.d x) (ρ.set j (.own io s'.L))) :
    withLent j (dCallL p__law_choice W j (dCons a dNil)) ρ Q :=
  x_lent h (eva_cons ha eva_nil) ⟨s, m, xs, rfl, hs, by omega, h0, by omega, fun x s' hx hs' => x_back h (k x s' hx hs')⟩
/-- the second operand, the first one a datum -/
theorem x_opd {f : PyData → PyData → (PyData → Prop) → Prop} {x y : PyData} (hb : Ev b ρ y) (k : f x y fun z => Q (.d z) ρ) : b ρ (fun r2 ρ2 => vw ρ2 (.d x) fun x => vw ρ2 r2 fun y => f x y fun z => Q (.d z) ρ2) := hb _ fun r2 h2 _ => h2 (fun y => f x y fun z => Q (.d z) ρ) k
/-- the next item -/
theorem x_cons {z : PyData} (ha : Ev a ρ z) (k : dr ρ fun ds ρ2 => QN (z :: ds) ρ2) : dCons a dr ρ QN := ha _ fun r _ h2 => h2 (fun d ρ2 => dr ρ2 fun ds ρ3 => QN (d :: ds) ρ3) k
theorem x_nil (k : QN [] ρ) : dNil ρ QN := k
end
end KK


set_option maxHeartbeats 2000000
namespace KK
open PySem PySem.Spec L2 DL
/-! no square: no fraction's square -/
theorem irr_nonsq {a d : Int} (h0 : 0 ≤ a) (h1 : a * a < d) (h2 : d < (a + 1) * (a + 1)) : Irr d := by
  have main : ∀ (m : Nat) (p q : Int), q.natAbs ≤ m → 0 ≤ p → 0 ≤ q → p * p = q * q * d → q = 0 := by
    intro m
    induction m with
    | zero => intro p q h _ _ _; omega
    | succ m ih =>
      intro p q h hp hq e
      rcases Classical.em (q = 0) with z | z
      · exact z
      have q0 : 0 < q := by omega
      have qq : 0 < q * q := Int.mul_pos q0 q0
      have l1 : a * q < p := by
        rcases Int.lt_or_le (a * q) p with c | c
        · exact c
        · have := Int.mul_le_mul c c hp (by have := Int.mul_nonneg h0 hq; omega)
          have e2 : a * q * (a * q) = q * q * (a * a) := by grind
          have := Int.mul_lt_mul_of_pos_left h1 qq
          omega
      have l2 : p < (a + 1) * q := by
        rcases Int.lt_or_le p ((a + 1) * q) with c | c
        · exact c
        · have := Int.mul_le_mul c c (by have := Int.mul_nonneg (show 0 ≤ a + 1 by omega) hq; omega) hp
          have e2 : (a + 1) * q * ((a + 1) * q) = q * q * ((a + 1) * (a + 1)) := by grind
          have := Int.mul_lt_mul_of_pos_left h2 qq
          omega
      have e3 : (a + 1) * q = a * q + q := by grind
      have key : (d * q - a * p) * (d * q - a * p) = (p - a * q) * (p - a * q) * d := by
        have : (d * q - a * p) * (d * q - a * p) - (p - a * q) * (p - a * q) * d = (d - a * a) * (q * q * d - p * p) := by grind
        rw [e] at this
        simp [sSeq, sIf, sNext, sSet, sAug, sRet, sPar, sPar3, asThree, sRaise, sAsg, sOwn, sApp, sPut, sRetN, sRetOwn, sRetU, sDrop, sBreak, sCont, dVar, dC, dOp, dTest, dCons, dNil, dTup, nLst, dNew, dNeg, dIf, dF1, dAnd, dOr, dNot, dAndV, dOrV, dNotV, dCall, nCall, dCallL, nCallL, withLent, withLentN, vw, frz, dI, dI0, dB0, int2, dEq, dNe, dAdd, dSub, dIAdd, atD, gName', gTup', gNil', gCons', gLst', lenIs, retD, retN, lendK, backK, isLent, ownK, fAbs, fLen, fMax, fMin, startD, outK, shp_int, eqv_int, dIsD, dIsX, dIsNone, dM1, isL, fCount, fIndex, dEqS, dIs, fRepr, atI, ixN] at this
        omega
      have hd : 0 ≤ d * q - a * p := by
        rcases Int.lt_or_le (d * q - a * p) 0 with c | c
        · have c1 : d * q < a * p := by omega
          have := Int.mul_lt_mul_of_pos_right c1 q0
          have e4 : d * q * q = p * p := by rw [e]; grind
          have e5 : a * p * q = a * q * p := by grind
          have := Int.mul_le_mul_of_nonneg_right (Int.le_of_lt l1) hp
          omega
        · exact c
      have := ih (d * q - a * p) (p - a * q) (by omega) hd (by omega) key
      omega
  intro p q e
  have hq : (q.natAbs : Int) = 0 := main q.natAbs p.natAbs q.natAbs (by omega) (by omega) (by omega) (by rw [Int.natAbs_mul_self', Int.natAbs_mul_self']; exact e)
  have hq0 : q = 0 := by omega
  subst hq0
  have : p * p = 0 := by rw [e]; simp [sSeq, sIf, sNext, sSet, sAug, sRet, sPar, sPar3, asThree, sRaise, sAsg, sOwn, sApp, sPut, sRetN, sRetOwn, sRetU, sDrop, sBreak, sCont, dVar, dC, dOp, dTest, dCons, dNil, dTup, nLst, dNew, dNeg, dIf, dF1, dAnd, dOr, dNot, dAndV, dOrV, dNotV, dCall, nCall, dCallL, nCallL, withLent, withLentN, vw, frz, dI, dI0, dB0, int2, dEq, dNe, dAdd, dSub, dIAdd, atD, gName', gTup', gNil', gCons', gLst', lenIs, retD, retN, lendK, backK, isLent, ownK, fAbs, fLen, fMax, fMin, startD, outK, shp_int, eqv_int, dIsD, dIsX, dIsNone, dM1, isL, fCount, fIndex, dEqS, dIs, fRepr, atI, ixN]
  rcases Int.mul_eq_zero.mp this with z | z <;> exact ⟨z, rfl⟩
theorem dr_of {a d : Int} (h0 : 0 ≤ a) (h1 : a * a < d) (h2 : d < (a + 1) * (a + 1)) (hb : Bd 34 d) : Dr d := ⟨by have := sq_nn a; omega, hb, irr_nonsq h0 h1 h2⟩
theorem Dr.ne {d : Int} (h : Dr d) : d ≠ 0 := by have := h.1; omega
theorem low_Gd {n : Nat} {p q d s : Int} (hs : s ≠ 0) (hd : Dr d) (h1 : Bd n p) (h2 : Bd n q) (h3 : Bd n s) (hn : 34 ≤ n) : Gd n (low p q d s) := by
  obtain ⟨k, hk, e1, e2, e3, e4⟩ := low_spec (p := p) (q := q) d hs
  refine ⟨e4, ?_, fun z1 z2 => ?_, low_bd hs h1 h2 (hd.2.1.mono hn) h3⟩
  · rcases Classical.em ((low p q d s).q = 0) with z | z
    · exact .inl ⟨z, by rw [low_dd hs, if_pos z]⟩
    · exact .inr ⟨z, by rw [low_dd hs, if_neg z]; exact hd⟩
  · have g1 := low_gc (p := p) (q := q) (d := d) hs
    rw [z1, z2] at g1
    unfold gc at g1
    simp [sSeq, sIf, sNext, sSet, sAug, sRet, sPar, sPar3, asThree, sRaise, sAsg, sOwn, sApp, sPut, sRetN, sRetOwn, sRetU, sDrop, sBreak, sCont, dVar, dC, dOp, dTest, dCons, dNil, dTup, nLst, dNew, dNeg, dIf, dF1, dAnd, dOr, dNot, dAndV, dOrV, dNotV, dCall, nCall, dCallL, nCallL, withLent, withLentN, vw, frz, dI, dI0, dB0, int2, dEq, dNe, dAdd, dSub, dIAdd, atD, gName', gTup', gNil', gCons', gLst', lenIs, retD, retN, lendK, backK, isLent, ownK, fAbs, fLen, fMax, fMin, startD, outK, shp_int, eqv_int, dIsD, dIsX, dIsNone, dM1, isL, fCount, fIndex, dEqS, dIs, fRepr, atI, ixN] at g1
    omega
theorem Gd.opp {n : Nat} {x : Nu} (h : Gd n x) : Gd n (nopp x) := by
  obtain ⟨h1, h2, h3, b1, b2, b3, b4⟩ := h
  refine ⟨h1, ?_, fun z1 z2 => h3 (by have z1 : -x.p = 0 := z1; omega) (by have z2 : -x.q = 0 := z2; omega), b1.neg, b2.neg, b3, b4⟩
  rcases h2 with ⟨a, b⟩ | ⟨a, b⟩
  · exact .inl ⟨by show -x.q = 0; omega, b⟩
  · exact .inr ⟨by show -x.q ≠ 0; omega, b⟩
theorem Gd.d0 {n : Nat} {x : Nu} (h : Gd n x) : 0 ≤ x.d ∧ (x.d = 0 → x.q = 0) := by
  rcases h.r with ⟨a, b⟩ | ⟨a, b⟩
  · exact ⟨by omega, fun _ => a⟩
  · have := b.1; exact ⟨by omega, fun z => by omega⟩
theorem Gd.norm {n : Nat} {x : Nu} (h : Gd n x) (z : ¬ isZ x) : x.p * x.p - x.q * x.q * x.d ≠ 0 := by
  rcases h.r with ⟨a, b⟩ | ⟨a, b⟩
  · rw [a, b]
    simp [sSeq, sIf, sNext, sSet, sAug, sRet, sPar, sPar3, asThree, sRaise, sAsg, sOwn, sApp, sPut, sRetN, sRetOwn, sRetU, sDrop, sBreak, sCont, dVar, dC, dOp, dTest, dCons, dNil, dTup, nLst, dNew, dNeg, dIf, dF1, dAnd, dOr, dNot, dAndV, dOrV, dNotV, dCall, nCall, dCallL, nCallL, withLent, withLentN, vw, frz, dI, dI0, dB0, int2, dEq, dNe, dAdd, dSub, dIAdd, atD, gName', gTup', gNil', gCons', gLst', lenIs, retD, retN, lendK, backK, isLent, ownK, fAbs, fLen, fMax, fMin, startD, outK, shp_int, eqv_int, dIsD, dIsX, dIsNone, dM1, isL, fCount, fIndex, dEqS, dIs, fRepr, atI, ixN]
    intro hp
    exact z ⟨hp, a, b, h.z hp a⟩
  · intro e
    have := (b.2.2 x.p x.q (by omega)).2
    exact a this
theorem nmax_pos {a b : Int} (h : 0 ≤ a) (h' : 0 ≤ b) (e : nmax a b = 0) : a = 0 ∧ b = 0 := by unfold nmax at e; split at e <;> omega
theorem nmax_bd {n : Nat} {a b : Int} (h : Bd n a) (h' : Bd n b) : Bd n (nmax a b) := by unfold nmax; split; exact h'; exact h
theorem low_or {p q d s : Int} (h : d = 0 → q = 0) : (if q = 0 ∨ d = 0 then low p 0 0 s else low p q d s) = low p q d s := by
  split
  · rename_i c
    have z : q = 0 := by rcases c with c | c; exact c; exact h c
    subst z
    exact low_d fun c => absurd rfl c
  · rfl
theorem rts_inv {x y : Nu} (hn : y.p * y.p - y.q * y.q * y.d ≠ 0) (hs : y.s ≠ 0) (hq : y.d ≠ 0 → y.q ≠ 0) : rts x (ninv y) ↔ rts x y := by
  unfold ninv rts
  rw [low_dd hn]
  have e : (low (y.p * y.s) (-y.q * y.s) y.d (y.p * y.p - y.q * y.q * y.d)).q = 0 ↔ y.q = 0 := by
    rw [low_q hn]
    constructor
    · intro z
      rcases Int.mul_eq_zero.mp z with a | a
      · omega
      · exact absurd a hs
    · intro z; rw [z]; simp [sSeq, sIf, sNext, sSet, sAug, sRet, sPar, sPar3, asThree, sRaise, sAsg, sOwn, sApp, sPut, sRetN, sRetOwn, sRetU, sDrop, sBreak, sCont, dVar, dC, dOp, dTest, dCons, dNil, dTup, nLst, dNew, dNeg, dIf, dF1, dAnd, dOr, dNot, dAndV, dOrV, dNotV, dCall, nCall, dCallL, nCallL, withLent, withLentN, vw, frz, dI, dI0, dB0, int2, dEq, dNe, dAdd, dSub, dIAdd, atD, gName', gTup', gNil', gCons', gLst', lenIs, retD, retN, lendK, backK, isLent, ownK, fAbs, fLen, fMax, fMin, startD, outK, shp_int, eqv_int, dIsD, dIsX, dIsNone, dM1, isL, fCount, fIndex, dEqS, dIs, fRepr, atI, ixN]
  by_cases z : y.q = 0
  · rw [if_pos (e.mpr z)]
    have : y.d = 0 := Classical.byContradiction fun c => hq c z
    simp [sSeq, sIf, sNext, sSet, sAug, sRet, sPar, sPar3, asThree, sRaise, sAsg, sOwn, sApp, sPut, sRetN, sRetOwn, sRetU, sDrop, sBreak, sCont, dVar, dC, dOp, dTest, dCons, dNil, dTup, nLst, dNew, dNeg, dIf, dF1, dAnd, dOr, dNot, dAndV, dOrV, dNotV, dCall, nCall, dCallL, nCallL, withLent, withLentN, vw, frz, dI, dI0, dB0, int2, dEq, dNe, dAdd, dSub, dIAdd, atD, gName', gTup', gNil', gCons', gLst', lenIs, retD, retN, lendK, backK, isLent, ownK, fAbs, fLen, fMax, fMin, startD, outK, shp_int, eqv_int, dIsD, dIsX, dIsNone, dM1, isL, fCount, fIndex, dEqS, dIs, fRepr, atI, ixN, this]
  · rw [if_neg (fun c => z (e.mp c))]
theorem ninv_Nb {y : Nu} {n : Nat} (h : Nb n y) (hd : Bd 34 y.d) (hn : y.p * y.p - y.q * y.q * y.d ≠ 0) : Nb (2 * n + 35) (ninv y) := by
  obtain ⟨c1, c2, c3, c4⟩ := h
  have B2 : Bd (2 * n) (y.p * y.p) := (c1.mul c1).mono (by omega)
  have B3 : Bd (2 * n + 34) (y.q * y.q * y.d) := ((c2.mul c2).mul hd).mono (by omega)
  have B4 : Bd (2 * n + 35) (y.p * y.p - y.q * y.q * y.d) := B2.sub B3 (by omega)
  exact low_bd hn ((c1.mul c4).mono (by omega)) ((c2.neg.mul c4).mono (by omega)) (hd.mono (by omega)) B4
theorem Gd.bd {n : Nat} {x : Nu} (h : Gd n x) : Bd 34 x.d := by
  rcases h.r with ⟨_, b⟩ | ⟨_, b⟩
  · rw [b]; exact bd0 _
  · exact b.2.1
theorem pure__law_negative (α : List SD) (QD : Ret → List SD → Prop) (ED : Exd → List SD → Prop) (W : WD) (hW : W = fun e ρ => outK α ρ fun α' => ED e α') (h : p__law_negative α QD ED) : r__law_negative W (DEnd α QD) (startD n__law_negative.length α) := by
  obtain ⟨x, rfl, hq⟩ := h
  unfold r__law_negative DEnd
  simp [sSeq, sIf, sNext, sSet, sAug, sRet, sPar, sPar3, asThree, sRaise, sAsg, sOwn, sApp, sPut, sRetN, sRetOwn, sRetU, sDrop, sBreak, sCont, dVar, dC, dOp, dTest, dCons, dNil, dTup, nLst, dNew, dNeg, dIf, dF1, dAnd, dOr, dNot, dAndV, dOrV, dNotV, dCall, nCall, dCallL, nCallL, withLent, withLentN, vw, frz, dI, dI0, dB0, int2, dEq, dNe, dAdd, dSub, dIAdd, atD, gName', gTup', gNil', gCons', gLst', lenIs, retD, retN, lendK, backK, isLent, ownK, fAbs, fLen, fMax, fMin, startD, outK, shp_int, eqv_int, dIsD, dIsX, dIsNone, dM1, isL, fCount, fIndex, dEqS, dIs, fRepr, atI, ixN, n__law_negative, Nu.D]
  have hq : QD (.d (.tuple [.int (-x.p), .int (-x.q), .int x.d, .int x.s])) [.val x.D] := hq
  exact ⟨by decide, by simpa [sSeq, sIf, sNext, sSet, sAug, sRet, sPar, sPar3, asThree, sRaise, sAsg, sOwn, sApp, sPut, sRetN, sRetOwn, sRetU, sDrop, sBreak, sCont, dVar, dC, dOp, dTest, dCons, dNil, dTup, nLst, dNew, dNeg, dIf, dF1, dAnd, dOr, dNot, dAndV, dOrV, dNotV, dCall, nCall, dCallL, nCallL, withLent, withLentN, vw, frz, dI, dI0, dB0, int2, dEq, dNe, dAdd, dSub, dIAdd, atD, gName', gTup', gNil', gCons', gLst', lenIs, retD, retN, lendK, backK, isLent, ownK, fAbs, fLen, fMax, fMin, startD, outK, shp_int, eqv_int, dIsD, dIsX, dIsNone, dM1, isL, fCount, fIndex, dEqS, dIs, fRepr, atI, ixN, Nu.D] using hq⟩
theorem bz {z : Int} (h0 : 0 ≤ z) (h : z ≤ 10 ^ 32) : Bd 1000 z := (show Bd 110 z by unfold Bd; omega).mono (by omega)
theorem pure__law_drawn (α : List SD) (QD : Ret → List SD → Prop) (ED : Exd → List SD → Prop) (W : WD) (hW : W = fun e ρ => outK α ρ fun α' => ED e α') (h : p__law_drawn α QD ED) : r__law_drawn W (DEnd α QD) (startD n__law_drawn.length α) := by
  obtain ⟨s, m, d, z, rfl, hs, hm, z0, z1, d0, hq⟩ := h
  have st : startD n__law_drawn.length [s.S, iv d, iv z] = [s.S, iv d, iv z, .no, .no, .no] := rfl
  rw [st]
  unfold r__law_drawn
  have c1 : CMulW 2 z := Bd.cm (n := 2) (m := 1000) (by unfold Bd; decide) (bz (by omega) (by omega)) (by omega)
  refine dr_uptoJ 0 (b := 2 * z + 1) rfl (by (repeat' (first | exact KK.ev_c | exact KK.ev_var _ rfl | exact KK.eva_nil | with_reducible apply KK.eva_cons | with_reducible apply KK.ev_p | with_reducible apply KK.ev_q | with_reducible apply KK.ev_d | with_reducible apply KK.ev_s | with_reducible apply KK.ev_add | with_reducible apply KK.ev_sub | with_reducible apply KK.ev_mul | with_reducible apply KK.ev_fdiv | with_reducible apply KK.ev_mod | with_reducible apply KK.ev_neg | with_reducible apply KK.ev_max | with_reducible apply KK.ev_lt | with_reducible apply KK.ev_le | with_reducible apply KK.ev_gt | with_reducible apply KK.ev_ge | with_reducible apply KK.ev_eq | with_reducible apply KK.ev_nei | with_reducible apply KK.evt_lt | with_reducible apply KK.evt_le | with_reducible apply KK.evt_gt | with_reducible apply KK.evt_ge | with_reducible apply KK.evt_eq | with_reducible apply KK.evt_ne)); exact c1) hs (by omega) (by omega) (bz (by omega) (by omega)) fun p s1 p0 p1 hs1 => ?_
  refine ⟨trivial, ?_⟩
  refine dr_uptoJ 0 (b := 2 * z + 1) rfl (by (repeat' (first | exact KK.ev_c | exact KK.ev_var _ rfl | exact KK.eva_nil | with_reducible apply KK.eva_cons | with_reducible apply KK.ev_p | with_reducible apply KK.ev_q | with_reducible apply KK.ev_d | with_reducible apply KK.ev_s | with_reducible apply KK.ev_add | with_reducible apply KK.ev_sub | with_reducible apply KK.ev_mul | with_reducible apply KK.ev_fdiv | with_reducible apply KK.ev_mod | with_reducible apply KK.ev_neg | with_reducible apply KK.ev_max | with_reducible apply KK.ev_lt | with_reducible apply KK.ev_le | with_reducible apply KK.ev_gt | with_reducible apply KK.ev_ge | with_reducible apply KK.ev_eq | with_reducible apply KK.ev_nei | with_reducible apply KK.evt_lt | with_reducible apply KK.evt_le | with_reducible apply KK.evt_gt | with_reducible apply KK.evt_ge | with_reducible apply KK.evt_eq | with_reducible apply KK.evt_ne)); exact c1) hs1 (by omega) (by omega) (bz (by omega) (by omega)) fun q s2 q0 q1 hs2 => ?_
  refine ⟨trivial, ?_⟩
  refine dr_uptoJ 0 (b := z) rfl (ev_var 2 rfl) hs2 (by omega) (by omega) (bz (by omega) (by omega)) fun t s3 t0 t1 hs3 => ?_
  refine ⟨trivial, ?_⟩
  refine dr_choiceJ 0 (xs := [.int 0, .int (q - z), .int (q - z)]) rfl (ev_new (eva_cons ev_c (eva_cons (ev_var 4 rfl) (eva_cons (ev_var 4 rfl) eva_nil))) (by simp [sSeq, sIf, sNext, sSet, sAug, sRet, sPar, sPar3, asThree, sRaise, sAsg, sOwn, sApp, sPut, sRetN, sRetOwn, sRetU, sDrop, sBreak, sCont, dVar, dC, dOp, dTest, dCons, dNil, dTup, nLst, dNew, dNeg, dIf, dF1, dAnd, dOr, dNot, dAndV, dOrV, dNotV, dCall, nCall, dCallL, nCallL, withLent, withLentN, vw, frz, dI, dI0, dB0, int2, dEq, dNe, dAdd, dSub, dIAdd, atD, gName', gTup', gNil', gCons', gLst', lenIs, retD, retN, lendK, backK, isLent, ownK, fAbs, fLen, fMax, fMin, startD, outK, shp_int, eqv_int, dIsD, dIsX, dIsNone, dM1, isL, fCount, fIndex, dEqS, dIs, fRepr, atI, ixN])) hs3 (by omega) (by simp [sSeq, sIf, sNext, sSet, sAug, sRet, sPar, sPar3, asThree, sRaise, sAsg, sOwn, sApp, sPut, sRetN, sRetOwn, sRetU, sDrop, sBreak, sCont, dVar, dC, dOp, dTest, dCons, dNil, dTup, nLst, dNew, dNeg, dIf, dF1, dAnd, dOr, dNot, dAndV, dOrV, dNotV, dCall, nCall, dCallL, nCallL, withLent, withLentN, vw, frz, dI, dI0, dB0, int2, dEq, dNe, dAdd, dSub, dIAdd, atD, gName', gTup', gNil', gCons', gLst', lenIs, retD, retN, lendK, backK, isLent, ownK, fAbs, fLen, fMax, fMin, startD, outK, shp_int, eqv_int, dIsD, dIsX, dIsNone, dM1, isL, fCount, fIndex, dEqS, dIs, fRepr, atI, ixN]) (by simp [sSeq, sIf, sNext, sSet, sAug, sRet, sPar, sPar3, asThree, sRaise, sAsg, sOwn, sApp, sPut, sRetN, sRetOwn, sRetU, sDrop, sBreak, sCont, dVar, dC, dOp, dTest, dCons, dNil, dTup, nLst, dNew, dNeg, dIf, dF1, dAnd, dOr, dNot, dAndV, dOrV, dNotV, dCall, nCall, dCallL, nCallL, withLent, withLentN, vw, frz, dI, dI0, dB0, int2, dEq, dNe, dAdd, dSub, dIAdd, atD, gName', gTup', gNil', gCons', gLst', lenIs, retD, retN, lendK, backK, isLent, ownK, fAbs, fLen, fMax, fMin, startD, outK, shp_int, eqv_int, dIsD, dIsX, dIsNone, dM1, isL, fCount, fIndex, dEqS, dIs, fRepr, atI, ixN]) fun y s4 hy hs4 => ?_
  obtain ⟨q', rfl, hq'⟩ : ∃ q' : Int, y = .int q' ∧ q'.natAbs ≤ z.natAbs := by
    simp only [List.mem_cons, List.not_mem_nil, or_false] at hy
    rcases hy with rfl | rfl | rfl
    · exact ⟨0, rfl, by omega⟩
    · exact ⟨_, rfl, by omega⟩
    · exact ⟨_, rfl, by omega⟩
  refine ⟨trivial, trivial, ?_⟩
  refine ⟨p - z, q', d, 1 + t, rfl, by omega, (bz (by omega) (by omega)).mono (by omega), ?_⟩
  rw [low_or (fun c => absurd c d0)]
  exact hq (p - z) q' (1 + t) s4 (by omega) hq' (by omega) (by omega) (by obtain ⟨a, b, c⟩ := hs4; exact ⟨a, by omega, c⟩)
theorem Gd.mono {n m : Nat} {x : Nu} (h : Gd n x) (e : n ≤ m) : Gd m x := ⟨h.s, h.r, h.z, nb_mono h.b e⟩
end KK

set_option maxHeartbeats 2000000
namespace KK
open PySem PySem.Spec L2 DL
/-! ### statements -/
section
variable {ρ : DSt} {t : TTD} {b n : TSD} {D : DEnds}
theorem s_while (Inv : Nat → DSt → Prop) (h0 : ∃ m, Inv m ρ)
    (step : ∀ m ρ', Inv m ρ' → ∃ u, EvT t ρ' u ∧ (u = true → b { nx := fun ρ2 => ∃ m', m' < m ∧ Inv m' ρ2, rt := D.rt, bk := n D, ct := fun ρ2 => ∃ m', m' < m ∧ Inv m' ρ2 } ρ') ∧ (u = false → n D ρ')) : sSeq (sWhile t b) n D ρ := by
  refine ⟨Inv, h0, fun m ρ' hi => ?_⟩
  obtain ⟨u, hu, h1, h2⟩ := step m ρ' hi
  refine hu _ ?_
  cases u with
  | true => exact h1 rfl
  | false => exact h2 rfl
theorem s_while1 (Inv : Nat → DSt → Prop) (h0 : ∃ m, Inv m ρ)
    (step : ∀ m ρ', Inv m ρ' → ∃ u, EvT t ρ' u ∧ (u = true → b { nx := fun ρ2 => ∃ m', m' < m ∧ Inv m' ρ2, rt := D.rt, bk := D.nx, ct := fun ρ2 => ∃ m', m' < m ∧ Inv m' ρ2 } ρ') ∧ (u = false → D.nx ρ')) : sWhile t b D ρ := by
  refine ⟨Inv, h0, fun m ρ' hi => ?_⟩
  obtain ⟨u, hu, h1, h2⟩ := step m ρ' hi
  refine hu _ ?_
  cases u with
  | true => exact h1 rfl
  | false => exact h2 rfl
theorem forD_nil {g : TGD} {t : TSD} (k : D.nx ρ) : forD g t D [] ρ := k
theorem s_forT {a : TED} {g : TGD} {t n : TSD} {ds : List PyData} (h : Ev a ρ (.tuple ds)) (k : forD g t { D with nx := n D } ds ρ) : sSeq (sFor (itemsT a) g t) n D ρ :=
  h _ fun r _ h2 => h2 (fun d ρ2 => match d with | .tuple ds => forD g t { D with nx := n D } ds ρ2 | _ => False) k
theorem s_forL {a : TED} {g : TGD} {t n : TSD} {ds : List PyData} (h : Ev a ρ (.list ds)) (k : forD g t { D with nx := n D } ds ρ) : sSeq (sFor (itemsD a) g t) n D ρ :=
  h _ fun r _ h2 => h2 (fun d ρ2 => match d with | .list ds => forD g t { D with nx := n D } ds ρ2 | _ => False) k
end
/-! ### the law's square root -/
theorem pure__law_square_root (α : List SD) (QD : Ret → List SD → Prop) (ED : Exd → List SD → Prop) (W : WD) (hW : W = fun e ρ => outK α ρ fun α' => ED e α') (h : p__law_square_root α QD ED) : r__law_square_root W (DEnd α QD) (startD n__law_square_root.length α) := by
  obtain ⟨a, rfl, ha, hB, hq⟩ := h
  have st : startD n__law_square_root.length [iv a] = [iv a, .no, .no, .no] := rfl
  rw [st]
  unfold r__law_square_root
  have c2 : CDivF a 2 := ⟨by decide, by decide⟩
  have h4 : Bd 17002 (4 * a) := by
    unfold Bd at hB ⊢
    rw [Int.natAbs_mul, show (17002 : Nat) = 2 + 17000 from rfl, Nat.pow_add]
    generalize (2 : Nat) ^ 17000 = M at hB ⊢
    have e1 : (2 : Nat) ^ 2 = 4 := rfl
    have e2 : (4 : Int).natAbs = 4 := rfl
    rw [e1, e2]; omega
  have gB : ∀ g : Int, 0 ≤ g → g * g ≤ 4 * a → Bd 8501 g := fun g g0 hg => by
    unfold Bd at h4 ⊢
    have e : g.natAbs * g.natAbs = (g * g).natAbs := (Int.natAbs_mul g g).symm
    have gg0 := sq_nn g
    have le : (g * g).natAbs ≤ (4 * a).natAbs := by omega
    rw [← e] at le
    rcases Nat.lt_or_ge g.natAbs (2 ^ 8501) with c | c
    · exact c
    · have := Nat.mul_le_mul c c
      rw [← Nat.pow_add, show 8501 + 8501 = 17002 from rfl] at this
      exact absurd h4 (Nat.not_lt.mpr (Nat.le_trans this le))
  by_cases h2 : a < 2
  · refine s_seq (s_ifT (evt_as (by (repeat' (first | exact KK.ev_c | exact KK.ev_var _ rfl | exact KK.eva_nil | with_reducible apply KK.eva_cons | with_reducible apply KK.ev_p | with_reducible apply KK.ev_q | with_reducible apply KK.ev_d | with_reducible apply KK.ev_s | with_reducible apply KK.ev_add | with_reducible apply KK.ev_sub | with_reducible apply KK.ev_mul | with_reducible apply KK.ev_fdiv | with_reducible apply KK.ev_mod | with_reducible apply KK.ev_neg | with_reducible apply KK.ev_max | with_reducible apply KK.ev_lt | with_reducible apply KK.ev_le | with_reducible apply KK.ev_gt | with_reducible apply KK.ev_ge | with_reducible apply KK.ev_eq | with_reducible apply KK.ev_nei | with_reducible apply KK.evt_lt | with_reducible apply KK.evt_le | with_reducible apply KK.evt_gt | with_reducible apply KK.evt_ge | with_reducible apply KK.evt_eq | with_reducible apply KK.evt_ne))) (decide_eq_true h2)) (s_ret (ev_var 0 rfl) ?_))
    refine hq a ⟨ha, ?_, ?_⟩ <;> (have : a = 0 ∨ a = 1 := by omega) <;> rcases this with rfl | rfl <;> decide
  · refine s_chk (evt_as (by (repeat' (first | exact KK.ev_c | exact KK.ev_var _ rfl | exact KK.eva_nil | with_reducible apply KK.eva_cons | with_reducible apply KK.ev_p | with_reducible apply KK.ev_q | with_reducible apply KK.ev_d | with_reducible apply KK.ev_s | with_reducible apply KK.ev_add | with_reducible apply KK.ev_sub | with_reducible apply KK.ev_mul | with_reducible apply KK.ev_fdiv | with_reducible apply KK.ev_mod | with_reducible apply KK.ev_neg | with_reducible apply KK.ev_max | with_reducible apply KK.ev_lt | with_reducible apply KK.ev_le | with_reducible apply KK.ev_gt | with_reducible apply KK.ev_ge | with_reducible apply KK.ev_eq | with_reducible apply KK.ev_nei | with_reducible apply KK.evt_lt | with_reducible apply KK.evt_le | with_reducible apply KK.evt_gt | with_reducible apply KK.evt_ge | with_reducible apply KK.evt_eq | with_reducible apply KK.evt_ne))) (decide_eq_false h2)) ?_
    refine s_set ev_c ?_
    refine s_forT (ds := [.int 65536, .int 2]) (ev_tup (by (repeat' (first | exact KK.ev_c | exact KK.ev_var _ rfl | exact KK.eva_nil | with_reducible apply KK.eva_cons | with_reducible apply KK.ev_p | with_reducible apply KK.ev_q | with_reducible apply KK.ev_d | with_reducible apply KK.ev_s | with_reducible apply KK.ev_add | with_reducible apply KK.ev_sub | with_reducible apply KK.ev_mul | with_reducible apply KK.ev_fdiv | with_reducible apply KK.ev_mod | with_reducible apply KK.ev_neg | with_reducible apply KK.ev_max | with_reducible apply KK.ev_lt | with_reducible apply KK.ev_le | with_reducible apply KK.ev_gt | with_reducible apply KK.ev_ge | with_reducible apply KK.ev_eq | with_reducible apply KK.ev_nei | with_reducible apply KK.evt_lt | with_reducible apply KK.evt_le | with_reducible apply KK.evt_gt | with_reducible apply KK.evt_ge | with_reducible apply KK.evt_eq | with_reducible apply KK.evt_ne))) (by decide)) ?_
    -- one factor
    have one : ∀ (f : Int) (hf : 2 ≤ f) (hf2 : f ≤ 65536) (g : Int) (j2 : SD) (D : DEnds), 2 ≤ g → g * g ≤ 4 * a → (∀ g', 2 ≤ g' → g' * g' ≤ 4 * a → 4 * a < g' * g' * f * f → D.nx [iv a, iv g', iv f, .no]) →
        sWhile (dTest (dOp dLe (dOp dMul (dOp dMul (dOp dMul (dVar 1) (dVar 1)) (dVar 2)) (dVar 2)) (dOp dMul (dC (.int 4)) (dVar 0)))) (sSet 1 (dOp dMul (dVar 1) (dVar 2))) D [iv a, iv g, iv f, .no] := by
      intro f hf hf2 g j2 D g2 gg k
      refine s_while1 (fun m ρ => ∃ g : Int, ρ = [iv a, iv g, iv f, .no] ∧ 2 ≤ g ∧ g * g ≤ 4 * a ∧ m = (4 * a - g).natAbs) ⟨_, g, rfl, g2, gg, rfl⟩ ?_
      rintro m _ ⟨g, rfl, g2, gg, rfl⟩
      have b1 := gB g (by omega) gg
      have bf : Bd 17 f := by unfold Bd; omega
      have e : g * f * (g * f) = g * g * f * f := by grind
      refine ⟨decide (g * g * f * f ≤ 4 * a), ?_, fun hu => ?_, fun hu => ?_⟩
      · (repeat' (first | exact KK.ev_c | exact KK.ev_var _ rfl | exact KK.eva_nil | with_reducible apply KK.eva_cons | with_reducible apply KK.ev_p | with_reducible apply KK.ev_q | with_reducible apply KK.ev_d | with_reducible apply KK.ev_s | with_reducible apply KK.ev_add | with_reducible apply KK.ev_sub | with_reducible apply KK.ev_mul | with_reducible apply KK.ev_fdiv | with_reducible apply KK.ev_mod | with_reducible apply KK.ev_neg | with_reducible apply KK.ev_max | with_reducible apply KK.ev_lt | with_reducible apply KK.ev_le | with_reducible apply KK.ev_gt | with_reducible apply KK.ev_ge | with_reducible apply KK.ev_eq | with_reducible apply KK.ev_nei | with_reducible apply KK.evt_lt | with_reducible apply KK.evt_le | with_reducible apply KK.evt_gt | with_reducible apply KK.evt_ge | with_reducible apply KK.evt_eq | with_reducible apply KK.evt_ne))
        · exact b1.cm b1 (by omega)
        · exact (b1.mul b1).cm bf (by omega)
        · exact ((b1.mul b1).mul bf).cm bf (by omega)
        · exact (show Bd 3 4 by unfold Bd; decide).cm hB (by omega)
      · have hu := of_decide_eq_true hu
        refine s_set1 (by (repeat' (first | exact KK.ev_c | exact KK.ev_var _ rfl | exact KK.eva_nil | with_reducible apply KK.eva_cons | with_reducible apply KK.ev_p | with_reducible apply KK.ev_q | with_reducible apply KK.ev_d | with_reducible apply KK.ev_s | with_reducible apply KK.ev_add | with_reducible apply KK.ev_sub | with_reducible apply KK.ev_mul | with_reducible apply KK.ev_fdiv | with_reducible apply KK.ev_mod | with_reducible apply KK.ev_neg | with_reducible apply KK.ev_max | with_reducible apply KK.ev_lt | with_reducible apply KK.ev_le | with_reducible apply KK.ev_gt | with_reducible apply KK.ev_ge | with_reducible apply KK.ev_eq | with_reducible apply KK.ev_nei | with_reducible apply KK.evt_lt | with_reducible apply KK.evt_le | with_reducible apply KK.evt_gt | with_reducible apply KK.evt_ge | with_reducible apply KK.evt_eq | with_reducible apply KK.evt_ne)); exact b1.cm bf (by omega)) ?_
        have l1 : g * 2 ≤ g * f := Int.mul_le_mul_of_nonneg_left hf (by omega)
        have l2 : g * f ≤ 4 * a := by
          have := Int.mul_le_mul_of_nonneg_left (show 1 ≤ g * f by omega) (show 0 ≤ g * f by omega)
          omega
        exact ⟨(4 * a - g * f).natAbs, by omega, g * f, rfl, by omega, by omega, rfl⟩
      · have hu := of_decide_eq_false hu
        exact k g g2 gg (by omega)
    show sWhile _ _ _ [iv a, iv 2, iv 65536, .no]
    refine one 65536 (by decide) (by decide) 2 .no _ (by decide) (by omega) fun g1 g2 gg _ => ?_
    show sWhile _ _ _ [iv a, iv g1, iv 2, .no]
    refine one 2 (by decide) (by decide) g1 .no _ g2 gg fun g g2 gg hgt => ?_
    have gl : a < g * g := by grind
    dsimp only [forD]
    have cd : ∀ g x : Int, 0 < g → g * g ≤ 4 * a → CDivF x g := fun g x h1 h2 => ⟨by omega, (gB g (by omega) h2).log (by omega)⟩
    have c2 : ∀ x : Int, CDivF x 2 := fun x => ⟨by decide, by decide⟩
    have da : ∀ g : Int, 0 < g → 0 ≤ a / g := fun g hg => Int.ediv_nonneg ha (by omega)
    refine s_set (z := .int ((g + a / g) / 2)) (ev_as (by (repeat' (first | exact KK.ev_c | exact KK.ev_var _ rfl | exact KK.eva_nil | with_reducible apply KK.eva_cons | with_reducible apply KK.ev_p | with_reducible apply KK.ev_q | with_reducible apply KK.ev_d | with_reducible apply KK.ev_s | with_reducible apply KK.ev_add | with_reducible apply KK.ev_sub | with_reducible apply KK.ev_mul | with_reducible apply KK.ev_fdiv | with_reducible apply KK.ev_mod | with_reducible apply KK.ev_neg | with_reducible apply KK.ev_max | with_reducible apply KK.ev_lt | with_reducible apply KK.ev_le | with_reducible apply KK.ev_gt | with_reducible apply KK.ev_ge | with_reducible apply KK.ev_eq | with_reducible apply KK.ev_nei | with_reducible apply KK.evt_lt | with_reducible apply KK.evt_le | with_reducible apply KK.evt_gt | with_reducible apply KK.evt_ge | with_reducible apply KK.evt_eq | with_reducible apply KK.evt_ne)); exact cd _ _ (by omega) gg; exact c2 _) (by rw [fd_pos (show 0 < g by omega), fd_pos (show (0 : Int) < 2 by decide)])) ?_
    refine s_while (fun m ρ => ∃ f : Int, ρ = [iv a, iv f, iv 2, iv ((f + a / f) / 2)] ∧ 0 < f ∧ f * f ≤ 4 * a ∧ (∀ r, 0 ≤ r → r * r ≤ a → r ≤ f) ∧ m = f.natAbs) ⟨_, g, rfl, by omega, gg, fun r h0 hr => ?_, rfl⟩ ?_
    · rcases Int.lt_or_le g r with z | z
      · have := Int.mul_le_mul (show g ≤ r by omega) (show g ≤ r by omega) (by omega) (by omega)
        omega
      · exact z
    rintro m _ ⟨f, rfl, f0, ff, hf, rfl⟩
    have nw : ∀ r, 0 ≤ r → r * r ≤ a → r ≤ (f + a / f) / 2 := fun r h0 hr => newton f0 ha r hr h0
    refine ⟨decide ((f + a / f) / 2 < f), by (repeat' (first | exact KK.ev_c | exact KK.ev_var _ rfl | exact KK.eva_nil | with_reducible apply KK.eva_cons | with_reducible apply KK.ev_p | with_reducible apply KK.ev_q | with_reducible apply KK.ev_d | with_reducible apply KK.ev_s | with_reducible apply KK.ev_add | with_reducible apply KK.ev_sub | with_reducible apply KK.ev_mul | with_reducible apply KK.ev_fdiv | with_reducible apply KK.ev_mod | with_reducible apply KK.ev_neg | with_reducible apply KK.ev_max | with_reducible apply KK.ev_lt | with_reducible apply KK.ev_le | with_reducible apply KK.ev_gt | with_reducible apply KK.ev_ge | with_reducible apply KK.ev_eq | with_reducible apply KK.ev_nei | with_reducible apply KK.evt_lt | with_reducible apply KK.evt_le | with_reducible apply KK.evt_gt | with_reducible apply KK.evt_ge | with_reducible apply KK.evt_eq | with_reducible apply KK.evt_ne)), fun hu => ?_, fun hu => ?_⟩
    · have hlt := of_decide_eq_true hu
      have p1 : 1 ≤ (f + a / f) / 2 := nw 1 (by omega) (by omega)
      refine s_set (ev_var 3 rfl) ?_
      generalize hz : (f + a / f) / 2 = z at *
      have zz : z * z ≤ 4 * a := by
        have := Int.mul_le_mul (show z ≤ f by omega) (show z ≤ f by omega) (by omega) (by omega)
        omega
      refine s_set1 (z := .int ((z + a / z) / 2)) (ev_as (by (repeat' (first | exact KK.ev_c | exact KK.ev_var _ rfl | exact KK.eva_nil | with_reducible apply KK.eva_cons | with_reducible apply KK.ev_p | with_reducible apply KK.ev_q | with_reducible apply KK.ev_d | with_reducible apply KK.ev_s | with_reducible apply KK.ev_add | with_reducible apply KK.ev_sub | with_reducible apply KK.ev_mul | with_reducible apply KK.ev_fdiv | with_reducible apply KK.ev_mod | with_reducible apply KK.ev_neg | with_reducible apply KK.ev_max | with_reducible apply KK.ev_lt | with_reducible apply KK.ev_le | with_reducible apply KK.ev_gt | with_reducible apply KK.ev_ge | with_reducible apply KK.ev_eq | with_reducible apply KK.ev_nei | with_reducible apply KK.evt_lt | with_reducible apply KK.evt_le | with_reducible apply KK.evt_gt | with_reducible apply KK.evt_ge | with_reducible apply KK.evt_eq | with_reducible apply KK.evt_ne)); exact cd _ _ (by omega) zz; exact c2 _) (by rw [fd_pos (show 0 < z by omega), fd_pos (show (0 : Int) < 2 by decide)])) ?_
      exact ⟨_, by omega, z, rfl, by omega, zz, nw, rfl⟩
    · have hlt := of_decide_eq_false hu
      refine s_ret (ev_var 1 rfl) ?_
      have h1 : f ≤ a / f := by omega
      have h2 : f * f ≤ a := by
        have h3 := Int.mul_le_mul_of_nonneg_left h1 (show 0 ≤ f by omega)
        have h4 := Int.mul_ediv_self_le (x := a) (k := f) (by omega)
        omega
      refine hq f ⟨by omega, h2, ?_⟩
      rcases Int.lt_or_le a ((f + 1) * (f + 1)) with z | z
      · exact z
      · have := hf (f + 1) (by omega) z
        omega
end KK

set_option maxHeartbeats 2000000
namespace KK
open PySem PySem.Spec L2 DL
theorem bd10 (t : Nat) : Bd (4 * t + 1) (10 ^ t) := by
  unfold Bd
  have e : ((10 : Int) ^ t).natAbs = 10 ^ t := by rw [Int.natAbs_pow]; rfl
  rw [e, Nat.pow_succ, Nat.pow_mul]
  have := Nat.pow_le_pow_left (show 10 ≤ 2 ^ 4 by decide) t
  have := Nat.pow_pos (n := t) (show 0 < 2 ^ 4 by decide)
  omega
theorem bd10b (t : Nat) : Bd (10 * (t / 3) + 10) (10 ^ t) := by
  unfold Bd
  have e : ((10 : Int) ^ t).natAbs = 10 ^ t := by rw [Int.natAbs_pow]; rfl
  have e2 : 10 ^ t = (10 ^ 3) ^ (t / 3) * 10 ^ (t % 3) := by rw [← Nat.pow_mul, ← Nat.pow_add]; congr 1; omega
  rw [e, e2, Nat.pow_add, Nat.pow_mul]
  have h1 := Nat.pow_le_pow_left (show 10 ^ 3 ≤ 2 ^ 10 by decide) (t / 3)
  have h2 : 10 ^ (t % 3) < 2 ^ 10 := Nat.lt_of_le_of_lt (Nat.pow_le_pow_right (by decide) (show t % 3 ≤ 2 by omega)) (by decide)
  exact Nat.mul_lt_mul_of_le_of_lt h1 h2 (Nat.pow_pos (by decide))
theorem ten_pos (t : Nat) : (0 : Int) < 10 ^ t := Int.pow_pos (by decide)
theorem ten_big (t : Nat) : (2 : Int) ^ (3 * t) ≤ 10 ^ t := by
  rw [Int.pow_mul]
  exact_mod_cast Nat.pow_le_pow_left (show 2 ^ 3 ≤ 10 by decide) t
theorem Gd.de {n : Nat} {x : Nu} (h : Gd n x) : 0 < de x ∧ Irr (de x) ∧ Bd 34 (de x) := by
  unfold KK.de
  rcases h.r with ⟨_, b⟩ | ⟨_, b⟩
  · rw [if_pos b]; exact ⟨by decide, irr2, by unfold Bd; decide⟩
  · rw [if_neg b.ne]; exact ⟨b.1, b.2.2, b.2.1⟩
theorem Gd.qd {n : Nat} {x : Nu} (h : Gd n x) : x.q * x.q * x.d = x.q * x.q * KK.de x := by
  unfold KK.de
  rcases h.r with ⟨a, b⟩ | ⟨_, b⟩
  · rw [a]; simp
  · rw [if_neg b.ne]
section
variable {P Q D S d n : Int} (hd : 0 < d) (ir : Irr d)
include hd ir
theorem sgn_lowN (hS : S ≠ 0) (h : Q ≠ 0 → D = d) : sgn (low P Q D S) = sos (S * P) (S * Q) d := by
  obtain ⟨k, hk, e1, e2, e3, e4⟩ := low_spec (p := P) (q := Q) D hS
  have ed := low_dd (p := P) (q := Q) (d := D) hS
  generalize low P Q D S = w at *
  have kk : 0 < k * k * w.s := Int.mul_pos (by rcases Int.lt_or_gt_of_ne hk with a | a; exact Int.mul_pos_of_neg_of_neg a a; exact Int.mul_pos a a) e4
  have f1 : S * P = k * k * w.s * w.p := by rw [e1, e3]; grind
  have f2 : S * Q = k * k * w.s * w.q := by rw [e2, e3]; grind
  rw [f1, f2, sos_scale hd kk ir]
  unfold sgn de
  by_cases z : w.q = 0
  · rw [z, sos_q00, sos_q00]
  · have q0 : Q ≠ 0 := by rw [e2]; exact Int.mul_ne_zero hk z
    rw [ed, if_neg z, h q0, if_neg (by omega)]
theorem sgn_low (hS : 0 < S) (h : Q ≠ 0 → D = d) : sgn (low P Q D S) = sos P Q d := by
  rw [sgn_lowN hd ir (by omega) h, sos_scale hd hS ir]
/-- the floor of a number in lowest terms, by any of its forms -/
theorem flo_lowN (hS : S ≠ 0) (h : Q ≠ 0 → D = d) : Flo (low P Q D S) n ↔ 0 ≤ sos (S * (P - n * S)) (S * Q) d ∧ sos (S * (P - (n + 1) * S)) (S * Q) d = -1 := by
  obtain ⟨k, hk, e1, e2, e3, e4⟩ := low_spec (p := P) (q := Q) D hS
  have ed := low_dd (p := P) (q := Q) (d := D) hS
  generalize low P Q D S = w at *
  have kk : 0 < k * k * w.s := Int.mul_pos (by rcases Int.lt_or_gt_of_ne hk with a | a; exact Int.mul_pos_of_neg_of_neg a a; exact Int.mul_pos a a) e4
  have f0 : ∀ m : Int, S * (P - m * S) = k * k * w.s * (w.p - m * w.s) := fun m => by rw [e1, e3]; grind
  have f2 : S * Q = k * k * w.s * w.q := by rw [e2, e3]; grind
  rw [f0, f0, f2, sos_scale hd kk ir, sos_scale hd kk ir]
  unfold Flo FlS de
  by_cases z : w.q = 0
  · simp only [z, sos_q00]
  · have q0 : Q ≠ 0 := by rw [e2]; exact Int.mul_ne_zero hk z
    rw [ed, if_neg z, h q0, if_neg (by omega)]
theorem flo_low (hS : 0 < S) (h : Q ≠ 0 → D = d) : Flo (low P Q D S) n ↔ FlS P Q d S n := by
  rw [flo_lowN hd ir (by omega) h, sos_scale hd hS ir, sos_scale hd hS ir]
  rfl
end
theorem low_Gd' {n : Nat} {p q d s : Int} (hs : s ≠ 0) (hd : q ≠ 0 → Dr d) (h1 : Bd n p) (h2 : Bd n q) (h3 : Bd n s) (hn : 34 ≤ n) : Gd n (low p q d s) := by
  by_cases z : q = 0
  · have e : low p q d s = low p q 2 s := low_d fun c => absurd z c
    rw [e]
    exact low_Gd hs ⟨by decide, by unfold Bd; decide, irr2⟩ h1 h2 h3 hn
  · exact low_Gd hs (hd z) h1 h2 h3 hn
theorem fls_bd {p q d s n : Int} (hd : 0 < d) (ir : Irr d) (h : FlS p q d s n) : -(q.natAbs * d) ≤ p - n * s ∧ p - n * s ≤ s + q.natAbs * d := by
  obtain ⟨a1, a2⟩ := abs_d hd ir q
  constructor
  · have := sos_add hd ir h.1 a2
    rw [show q + -q = 0 by omega, sos_q00, sgi_0] at this
    omega
  · have e : 0 ≤ sos (-(p - (n + 1) * s)) (-q) d := by rw [sos_ng, h.2]; decide
    have := sos_add hd ir e a1
    rw [show -q + q = 0 by omega, sos_q00, sgi_0] at this
    have e2 : (n + 1) * s = n * s + s := by grind
    omega
theorem flo_ex {n : Nat} {x : Nu} (h : Gd n x) : ∃ k, Flo x k := by
  obtain ⟨r, hr⟩ := isqr_ex (x.q * x.q * de x).toNat
  have nn : 0 ≤ x.q * x.q * de x := Int.mul_nonneg (sq_nn _) (Int.le_of_lt h.de.1)
  rw [Int.toNat_of_nonneg nn] at hr
  exact ⟨_, fls_of h.de.1 h.de.2.1 h.s hr⟩
theorem flo_of_fl {n : Nat} {x : Nu} (h : Gd n x) {k : Int} (f : Fl x k) : Flo x k := by
  obtain ⟨r, hr, rfl⟩ := f
  rw [h.qd] at hr
  exact fls_of h.de.1 h.de.2.1 h.s hr
section
variable {ρ : DSt} {a : TED} {x : Nu}
theorem ev_pq (ha : Ev a ρ x.D) : Ev (dSl a oNone (oSome (dC (.int 2)))) ρ (.tuple [.int x.p, .int x.q]) := fun Q k =>
  ha _ fun r h1 _ => h1 (fun z => match z with | .tuple ds => Q (.d (.tuple (cutD ds none (some 2)))) ρ | .str z => z.length ≤ sizeLine ∧ Q (.d (.str (cutS z none (some 2)))) ρ | _ => False) (k _ (fun _ h => h) (fun _ h => h))
theorem evt_pq0 (ha : Ev a ρ x.D) : EvT (dTest (dOp dNe (dSl a (oNone) (oSome (dC (.int 2)))) (dTup (dCons (dC (.int 0)) (dCons (dC (.int 0)) (dNil)))))) ρ (!decide (x.p = 0 ∧ x.q = 0)) := by
  refine evt_as (evt_neD (ev_pq ha) (ev_tup (zs := [.int 0, .int 0]) (by (repeat' (first | exact KK.ev_c | exact KK.ev_var _ rfl | exact KK.eva_nil | with_reducible apply KK.eva_cons | with_reducible apply KK.ev_p | with_reducible apply KK.ev_q | with_reducible apply KK.ev_d | with_reducible apply KK.ev_s | with_reducible apply KK.ev_add | with_reducible apply KK.ev_sub | with_reducible apply KK.ev_mul | with_reducible apply KK.ev_fdiv | with_reducible apply KK.ev_mod | with_reducible apply KK.ev_neg | with_reducible apply KK.ev_max | with_reducible apply KK.ev_lt | with_reducible apply KK.ev_le | with_reducible apply KK.ev_gt | with_reducible apply KK.ev_ge | with_reducible apply KK.ev_eq | with_reducible apply KK.ev_nei | with_reducible apply KK.evt_lt | with_reducible apply KK.evt_le | with_reducible apply KK.evt_gt | with_reducible apply KK.evt_ge | with_reducible apply KK.evt_eq | with_reducible apply KK.evt_ne))) (by decide))) ?_
  show (!PyData.eqvAll [.int x.p, .int x.q] [.int 0, .int 0]) = _
  simp only [PyData.eqvAll, PyData.eqv, Bool.and_true, Bool.beq_eq_decide_eq]
  by_cases h1 : x.p = 0 <;> by_cases h2 : x.q = 0 <;> simp [h1, h2]
end
theorem pure__law_scaled (α : List SD) (QD : Ret → List SD → Prop) (ED : Exd → List SD → Prop) (W : WD) (hW : W = fun e ρ => outK α ρ fun α' => ED e α') (h : p__law_scaled α QD ED) : r__law_scaled W (DEnd α QD) (startD n__law_scaled.length α) := by
  obtain ⟨x, t, rfl, gx, ht, hq⟩ := h
  have st : startD n__law_scaled.length [.val x.D, iv t] = [.val x.D, iv t, .no, .no, .no, .no, .no, .no, .no] := rfl
  rw [st]
  unfold r__law_scaled
  obtain ⟨b1, b2, b3, b4⟩ := gx.b
  have sx := gx.s
  refine s_asg (z := x.D) (ev_var 0 rfl) (unpack4 ?_)
  show sSeq _ _ _ [.val x.D, iv t, iv x.p, iv x.q, iv x.d, iv x.s, .no, .no, .no]
  refine s_set ev_c ?_
  refine ⟨trivial, by omega, by omega, ?_⟩
  refine forD_inv (fun k ρ => ∃ j, k ≤ t ∧ ρ = [.val x.D, iv t, iv x.p, iv x.q, iv x.d, iv x.s, iv (10 ^ (t - k)), j, .no]) _ _ ⟨_, by simp, by simp; rfl⟩ ?_ ?_
  · rintro k z _ N hz hN ⟨j, hk, rfl⟩
    have bt : Bd 6860 (10 ^ (t - (k + 1))) := (bd10b _).mono (by omega)
    refine s_set1 (by (repeat' (first | exact KK.ev_c | exact KK.ev_var _ rfl | exact KK.eva_nil | with_reducible apply KK.eva_cons | with_reducible apply KK.ev_p | with_reducible apply KK.ev_q | with_reducible apply KK.ev_d | with_reducible apply KK.ev_s | with_reducible apply KK.ev_add | with_reducible apply KK.ev_sub | with_reducible apply KK.ev_mul | with_reducible apply KK.ev_fdiv | with_reducible apply KK.ev_mod | with_reducible apply KK.ev_neg | with_reducible apply KK.ev_max | with_reducible apply KK.ev_lt | with_reducible apply KK.ev_le | with_reducible apply KK.ev_gt | with_reducible apply KK.ev_ge | with_reducible apply KK.ev_eq | with_reducible apply KK.ev_nei | with_reducible apply KK.evt_lt | with_reducible apply KK.evt_le | with_reducible apply KK.evt_gt | with_reducible apply KK.evt_ge | with_reducible apply KK.evt_eq | with_reducible apply KK.evt_ne)); exact bt.cm (show Bd 4 10 by unfold Bd; decide) (by omega)) (hN _ ⟨.val z, by omega, ?_⟩)
    have : t - k = t - (k + 1) + 1 := by omega
    rw [this, Int.pow_succ]
    rfl
  · rintro _ ⟨j, hk, rfl⟩
    show sSeq _ _ _ [.val x.D, iv t, iv x.p, iv x.q, iv x.d, iv x.s, iv (10 ^ t), j, .no]
    have bt : Bd 6860 (10 ^ t) := (bd10b _).mono (by omega)
    have tp := ten_pos t
    generalize (10 : Int) ^ t = T at *
    have bq := gx.bd
    have bqq := (b2.mul b2).mul bq
    have a : EvA (dCons (dOp dMul (dOp dMul (dOp dMul (dOp dMul (dVar 3) (dVar 3)) (dVar 4)) (dVar 6)) (dVar 6)) (dNil)) [SD.val x.D, iv t, iv x.p, iv x.q, iv x.d, iv x.s, iv T, j, SD.no] [.int (x.q * x.q * x.d * T * T)] := by
      (repeat' (first | exact KK.ev_c | exact KK.ev_var _ rfl | exact KK.eva_nil | with_reducible apply KK.eva_cons | with_reducible apply KK.ev_p | with_reducible apply KK.ev_q | with_reducible apply KK.ev_d | with_reducible apply KK.ev_s | with_reducible apply KK.ev_add | with_reducible apply KK.ev_sub | with_reducible apply KK.ev_mul | with_reducible apply KK.ev_fdiv | with_reducible apply KK.ev_mod | with_reducible apply KK.ev_neg | with_reducible apply KK.ev_max | with_reducible apply KK.ev_lt | with_reducible apply KK.ev_le | with_reducible apply KK.ev_gt | with_reducible apply KK.ev_ge | with_reducible apply KK.ev_eq | with_reducible apply KK.ev_nei | with_reducible apply KK.evt_lt | with_reducible apply KK.evt_le | with_reducible apply KK.evt_gt | with_reducible apply KK.evt_ge | with_reducible apply KK.evt_eq | with_reducible apply KK.evt_ne))
      · exact b2.cm b2 (by omega)
      · exact (b2.mul b2).cm b3 (by omega)
      · exact bqq.cm bt (by omega)
      · exact (bqq.mul bt).cm bt (by omega)
    have a0 : 0 ≤ x.q * x.q * x.d * T * T := Int.mul_nonneg (Int.mul_nonneg (Int.mul_nonneg (sq_nn _) gx.d0.1) (by omega)) (by omega)
    have ab : Bd 17000 (x.q * x.q * x.d * T * T) := ((bqq.mul bt).mul bt).mono (by omega)
    refine s_setc a ⟨_, rfl, a0, ab, fun r hr => ?_⟩
    show sRet _ _ [.val x.D, iv t, iv x.p, iv x.q, iv x.d, iv x.s, iv T, j, iv r]
    have e : x.q * x.q * x.d * T * T = x.q * T * (x.q * T) * de x := by
      rw [gx.qd]; grind
    rw [e] at hr
    have nr := near_of gx.de.1 gx.de.2.1 hr
    have cq : (0 < x.q * T) ↔ 0 < x.q := by
      constructor
      · intro h
        rcases Int.lt_or_le 0 x.q with c | c
        · exact c
        · have := Int.mul_nonpos_of_nonpos_of_nonneg c (show 0 ≤ T by omega); omega
      · intro h; exact Int.mul_pos h tp
    have cd : ∀ a, CDivF a x.s := fun a => ⟨by omega, b4.log (by omega)⟩
    have em : ∀ a : Int, x.s * (a / x.s) ≤ a ∧ a < x.s * (a / x.s) + x.s := fun a => by
      have e := Int.mul_ediv_add_emod a x.s
      have m0 := Int.emod_nonneg a (show x.s ≠ 0 by omega)
      have m1 := Int.emod_lt_of_pos a sx
      omega
    by_cases c : 0 < x.q
    · rw [if_pos (cq.mpr c)] at nr
      refine s_ret (z := .int ((x.p * T + r).fdiv x.s)) (ev_fdiv (ev_add (ev_mul (ev_var 2 rfl) (ev_var 6 rfl) (b1.cm bt (by omega))) (ev_ifT (evt_as (by (repeat' (first | exact KK.ev_c | exact KK.ev_var _ rfl | exact KK.eva_nil | with_reducible apply KK.eva_cons | with_reducible apply KK.ev_p | with_reducible apply KK.ev_q | with_reducible apply KK.ev_d | with_reducible apply KK.ev_s | with_reducible apply KK.ev_add | with_reducible apply KK.ev_sub | with_reducible apply KK.ev_mul | with_reducible apply KK.ev_fdiv | with_reducible apply KK.ev_mod | with_reducible apply KK.ev_neg | with_reducible apply KK.ev_max | with_reducible apply KK.ev_lt | with_reducible apply KK.ev_le | with_reducible apply KK.ev_gt | with_reducible apply KK.ev_ge | with_reducible apply KK.ev_eq | with_reducible apply KK.ev_nei | with_reducible apply KK.evt_lt | with_reducible apply KK.evt_le | with_reducible apply KK.evt_gt | with_reducible apply KK.evt_ge | with_reducible apply KK.evt_eq | with_reducible apply KK.evt_ne))) (decide_eq_true c)) (ev_var 8 rfl))) (ev_var 5 rfl) (cd _)) ?_
      rw [fd_pos sx]
      obtain ⟨m1, m2⟩ := em (x.p * T + r)
      exact hq r _ nr m1 m2
    · rw [if_neg (fun h => c (cq.mp h))] at nr
      refine s_ret (z := .int ((x.p * T + (0 - r)).fdiv x.s)) (ev_fdiv (ev_add (ev_mul (ev_var 2 rfl) (ev_var 6 rfl) (b1.cm bt (by omega))) (ev_ifF (evt_as (by (repeat' (first | exact KK.ev_c | exact KK.ev_var _ rfl | exact KK.eva_nil | with_reducible apply KK.eva_cons | with_reducible apply KK.ev_p | with_reducible apply KK.ev_q | with_reducible apply KK.ev_d | with_reducible apply KK.ev_s | with_reducible apply KK.ev_add | with_reducible apply KK.ev_sub | with_reducible apply KK.ev_mul | with_reducible apply KK.ev_fdiv | with_reducible apply KK.ev_mod | with_reducible apply KK.ev_neg | with_reducible apply KK.ev_max | with_reducible apply KK.ev_lt | with_reducible apply KK.ev_le | with_reducible apply KK.ev_gt | with_reducible apply KK.ev_ge | with_reducible apply KK.ev_eq | with_reducible apply KK.ev_nei | with_reducible apply KK.evt_lt | with_reducible apply KK.evt_le | with_reducible apply KK.evt_gt | with_reducible apply KK.evt_ge | with_reducible apply KK.evt_eq | with_reducible apply KK.evt_ne))) (decide_eq_false c)) (ev_sub ev_c (ev_var 8 rfl)))) (ev_var 5 rfl) (cd _)) ?_
      rw [fd_pos sx, show 0 - r = -r by omega]
      obtain ⟨m1, m2⟩ := em (x.p * T + -r)
      exact hq (-r) _ nr m1 m2
theorem two_bd {n : Nat} {i : Int} (h0 : 0 ≤ i) (h : Bd n i) : i < 2 ^ n := by
  unfold Bd at h
  have : ((2 : Int) ^ n) = ((2 ^ n : Nat) : Int) := by simp
  rw [this]; omega
theorem pure__law_sign_of (α : List SD) (QD : Ret → List SD → Prop) (ED : Exd → List SD → Prop) (W : WD) (hW : W = fun e ρ => outK α ρ fun α' => ED e α') (h : p__law_sign_of α QD ED) : r__law_sign_of W (DEnd α QD) (startD n__law_sign_of.length α) := by
  obtain ⟨x, rfl, gx, hq⟩ := h
  have st : startD n__law_sign_of.length [.val x.D] = [.val x.D, .no, .no] := rfl
  rw [st]
  unfold r__law_sign_of
  obtain ⟨b1, b2, b3, b4⟩ := gx.b
  obtain ⟨hd, ir, bd⟩ := gx.de
  have sx := gx.s
  refine s_set ev_c ?_
  refine s_while (fun m ρ => ∃ (t : Nat) (j : SD), ρ = [.val x.D, iv t, j] ∧ 2 ≤ t ∧ t ≤ 1600 ∧ m = 1700 - t) ⟨_, 2, .no, rfl, by omega, by omega, rfl⟩ ?_
  rintro m _ ⟨t, j, rfl, t2, t16, rfl⟩
  refine ⟨!decide (x.p = 0 ∧ x.q = 0), evt_pq0 (ev_var 0 rfl), fun hu => ?_, fun hu => ?_⟩
  · have nz : x.p ≠ 0 ∨ x.q ≠ 0 := by
      have := of_decide_eq_false (show decide (x.p = 0 ∧ x.q = 0) = false by cases h : decide (x.p = 0 ∧ x.q = 0) with | true => rw [h] at hu; cases hu | false => rfl)
      rcases Classical.em (x.p = 0) with a | a
      · exact .inr fun b => this ⟨a, b⟩
      · exact .inl a
    refine s_setc (zs := [x.D, .int t]) (by (repeat' (first | exact KK.ev_c | exact KK.ev_var _ rfl | exact KK.eva_nil | with_reducible apply KK.eva_cons | with_reducible apply KK.ev_p | with_reducible apply KK.ev_q | with_reducible apply KK.ev_d | with_reducible apply KK.ev_s | with_reducible apply KK.ev_add | with_reducible apply KK.ev_sub | with_reducible apply KK.ev_mul | with_reducible apply KK.ev_fdiv | with_reducible apply KK.ev_mod | with_reducible apply KK.ev_neg | with_reducible apply KK.ev_max | with_reducible apply KK.ev_lt | with_reducible apply KK.ev_le | with_reducible apply KK.ev_gt | with_reducible apply KK.ev_ge | with_reducible apply KK.ev_eq | with_reducible apply KK.ev_nei | with_reducible apply KK.evt_lt | with_reducible apply KK.evt_le | with_reducible apply KK.evt_gt | with_reducible apply KK.evt_ge | with_reducible apply KK.evt_eq | with_reducible apply KK.evt_ne))) ⟨x, t, rfl, gx, by omega, fun g v hn h1 h2 => ?_⟩
    show sSeq _ _ _ [.val x.D, iv t, iv v]
    have tp := ten_pos t
    by_cases c : v < -3 ∨ 3 < v
    · have hab : 3 < (if v < 0 then -v else v) := by split <;> omega
      refine s_seq (s_ifT (evt_as (evt_gt (ev_abs (ev_var 2 rfl)) ev_c) (decide_eq_true hab)) ?_)
      rcases c with c | c
      · refine s_ret (z := .int (0 - 1)) (ev_ifF (evt_as (by (repeat' (first | exact KK.ev_c | exact KK.ev_var _ rfl | exact KK.eva_nil | with_reducible apply KK.eva_cons | with_reducible apply KK.ev_p | with_reducible apply KK.ev_q | with_reducible apply KK.ev_d | with_reducible apply KK.ev_s | with_reducible apply KK.ev_add | with_reducible apply KK.ev_sub | with_reducible apply KK.ev_mul | with_reducible apply KK.ev_fdiv | with_reducible apply KK.ev_mod | with_reducible apply KK.ev_neg | with_reducible apply KK.ev_max | with_reducible apply KK.ev_lt | with_reducible apply KK.ev_le | with_reducible apply KK.ev_gt | with_reducible apply KK.ev_ge | with_reducible apply KK.ev_eq | with_reducible apply KK.ev_nei | with_reducible apply KK.evt_lt | with_reducible apply KK.evt_le | with_reducible apply KK.evt_gt | with_reducible apply KK.evt_ge | with_reducible apply KK.evt_eq | with_reducible apply KK.evt_ne))) (decide_eq_false (by omega))) (ev_sub ev_c ev_c)) ?_
        have := big_neg hd ir sx tp hn h2 c
        have e : sgn x = 0 - 1 := by unfold sgn; rw [this]; rfl
        rw [e] at hq
        exact hq
      · refine s_ret (z := .int 1) (ev_ifT (evt_as (by (repeat' (first | exact KK.ev_c | exact KK.ev_var _ rfl | exact KK.eva_nil | with_reducible apply KK.eva_cons | with_reducible apply KK.ev_p | with_reducible apply KK.ev_q | with_reducible apply KK.ev_d | with_reducible apply KK.ev_s | with_reducible apply KK.ev_add | with_reducible apply KK.ev_sub | with_reducible apply KK.ev_mul | with_reducible apply KK.ev_fdiv | with_reducible apply KK.ev_mod | with_reducible apply KK.ev_neg | with_reducible apply KK.ev_max | with_reducible apply KK.ev_lt | with_reducible apply KK.ev_le | with_reducible apply KK.ev_gt | with_reducible apply KK.ev_ge | with_reducible apply KK.ev_eq | with_reducible apply KK.ev_nei | with_reducible apply KK.evt_lt | with_reducible apply KK.evt_le | with_reducible apply KK.evt_gt | with_reducible apply KK.evt_ge | with_reducible apply KK.evt_eq | with_reducible apply KK.evt_ne))) (decide_eq_true (by omega))) ev_c) ?_
        have := big_pos hd ir sx tp hn h1 c
        have e : sgn x = 1 := this
        rw [e] at hq
        exact hq
    · have hab : ¬ 3 < (if v < 0 then -v else v) := by split <;> omega
      refine s_chk (evt_as (evt_gt (ev_abs (ev_var 2 rfl)) ev_c) (decide_eq_false hab)) ?_
      have sm := small_T hd ir sx tp nz hn h1 h2 (by omega)
      have bs : Bd 1104 (4 * x.s + 1) := ((show Bd 3 4 by unfold Bd; decide).mul b4).add (show Bd 1 1 by unfold Bd; decide) (by omega)
      have bK : Bd 1136 ((x.p.natAbs : Int) + x.q.natAbs * de x) := by
        have n1 : Bd 1100 (x.p.natAbs : Int) := by unfold Bd at b1 ⊢; omega
        have n2 : Bd 1100 (x.q.natAbs : Int) := by unfold Bd at b2 ⊢; omega
        exact n1.add (n2.mul bd) (by omega)
      have up := two_bd (Int.mul_nonneg (by omega) (Int.add_nonneg (by omega) (Int.mul_nonneg (by omega) (by omega)))) (bs.mul bK)
      have t7 : t ≤ 750 := by
        rcases Nat.lt_or_ge 750 t with c | c
        · exfalso
          have l1 := ten_big t
          have l2 : (2 : Int) ^ (1104 + 1136) ≤ 2 ^ (3 * t) := by
            exact_mod_cast Nat.pow_le_pow_right (show 0 < 2 by decide) (show 1104 + 1136 ≤ 3 * t by omega)
          exact absurd (Int.lt_of_le_of_lt (Int.le_trans (Int.le_trans l2 l1) sm) up) (Int.lt_irrefl _)
        · exact c
      refine s_set1 (z := .int (2 * (t : Int))) (by (repeat' (first | exact KK.ev_c | exact KK.ev_var _ rfl | exact KK.eva_nil | with_reducible apply KK.eva_cons | with_reducible apply KK.ev_p | with_reducible apply KK.ev_q | with_reducible apply KK.ev_d | with_reducible apply KK.ev_s | with_reducible apply KK.ev_add | with_reducible apply KK.ev_sub | with_reducible apply KK.ev_mul | with_reducible apply KK.ev_fdiv | with_reducible apply KK.ev_mod | with_reducible apply KK.ev_neg | with_reducible apply KK.ev_max | with_reducible apply KK.ev_lt | with_reducible apply KK.ev_le | with_reducible apply KK.ev_gt | with_reducible apply KK.ev_ge | with_reducible apply KK.ev_eq | with_reducible apply KK.ev_nei | with_reducible apply KK.evt_lt | with_reducible apply KK.evt_le | with_reducible apply KK.evt_gt | with_reducible apply KK.evt_ge | with_reducible apply KK.evt_eq | with_reducible apply KK.evt_ne)); exact Bd.cm (n := 2) (m := 20) (by unfold Bd; decide) (by unfold Bd; omega) (by omega)) ?_
      exact ⟨1700 - 2 * t, by omega, 2 * t, iv v, by simp, by omega, by omega, rfl⟩
  · have hz : x.p = 0 ∧ x.q = 0 := of_decide_eq_true (show decide (x.p = 0 ∧ x.q = 0) = true by cases h : decide (x.p = 0 ∧ x.q = 0) with | true => rfl | false => rw [h] at hu; cases hu)
    refine s_ret ev_c ?_
    have e : sgn x = 0 := by unfold sgn; rw [hz.1, hz.2, sos_00]
    rw [e] at hq
    exact hq
end KK

set_option maxHeartbeats 2000000
namespace KK
open PySem PySem.Spec L2 DL
theorem nint_Gd {n : Nat} {v : Int} (h : Bd n v) (hn : 1 ≤ n) : Gd n ⟨v, 0, 0, 1⟩ := ⟨(show (0 : Int) < 1 by decide), .inl ⟨rfl, rfl⟩, fun _ _ => rfl, h, bd0 _, bd0 _, (show Bd 1 1 by unfold Bd; decide).mono hn⟩
theorem nmax0 {d : Int} (h : 0 ≤ d) : nmax d 0 = d := by unfold nmax; split <;> omega
theorem nplus_int {n : Nat} {x : Nu} (h : Gd n x) (v : Int) : nplus x ⟨v, 0, 0, 1⟩ = low (x.p + v * x.s) x.q x.d x.s := by
  unfold nplus
  show low (x.p * 1 + v * x.s) (x.q * 1 + 0 * x.s) (nmax x.d 0) (x.s * 1) = _
  rw [nmax0 h.d0.1]
  congr 1 <;> grind
theorem Gd.ed {n : Nat} {x : Nu} (h : Gd n x) : x.q ≠ 0 → x.d = KK.de x := fun z => by
  unfold KK.de
  rcases h.r with ⟨a, _⟩ | ⟨_, b⟩
  · exact absurd a z
  · rw [if_neg b.ne]
theorem Gd.dr {n : Nat} {x : Nu} (h : Gd n x) : x.q ≠ 0 → Dr x.d := fun z => by
  rcases h.r with ⟨a, _⟩ | ⟨_, b⟩
  · exact absurd a z
  · exact b
/-- x less an integer near its floor -/
theorem less_ok {x : Nu} (gx : Gd 1000 x) {n f : Int} (hn : Flo x n) (h1 : n - 3 ≤ f) (h2 : f ≤ n + 3) : Bd 1045 f ∧ Gd 1100 (nplus x ⟨-f, 0, 0, 1⟩) ∧ sgn (nplus x ⟨-f, 0, 0, 1⟩) = sos (x.p - f * x.s) x.q (de x) := by
  obtain ⟨hd, ir, bd⟩ := gx.de
  obtain ⟨b1, b2, b3, b4⟩ := gx.b
  have sx := gx.s
  obtain ⟨l1, l2⟩ := fls_bd hd ir hn
  have bq : Bd 1034 ((x.q.natAbs : Int) * de x) := (show Bd 1000 (x.q.natAbs : Int) by unfold Bd at b2 ⊢; omega).mul bd
  have q0 : 0 ≤ (x.q.natAbs : Int) * de x := Int.mul_nonneg (by omega) (by omega)
  have e : x.p - f * x.s = (x.p - n * x.s) - (f - n) * x.s := by grind
  have bn : Bd 1035 (x.p - n * x.s) := by
    have : Bd 1034 x.s := b4.mono (by omega)
    unfold Bd at *
    rw [show 1035 = 1034 + 1 from rfl, Nat.pow_succ]
    generalize (2 : Nat) ^ 1034 = M at *
    omega
  have bf : Bd 1040 (x.p - f * x.s) := by
    rw [e]
    exact bn.sub ((show Bd 3 (f - n) by unfold Bd; omega).mul b4) (by omega)
  have bfs : Bd 1042 (f * x.s) := by
    have := b1.sub bf (k := 1042) (by omega)
    rwa [show x.p - (x.p - f * x.s) = f * x.s by omega] at this
  have bff : Bd 1045 f := by
    have : f.natAbs ≤ (f * x.s).natAbs := by
      rw [Int.natAbs_mul]
      exact Nat.le_mul_of_pos_right _ (by omega)
    exact (show Bd 1042 f from Nat.lt_of_le_of_lt this bfs).mono (by omega)
  have ep : x.p + -f * x.s = x.p - f * x.s := by grind
  refine ⟨bff, ?_, ?_⟩
  · rw [nplus_int gx, ep]
    exact low_Gd' (by omega) gx.dr (bf.mono (by omega)) (b2.mono (by omega)) (b4.mono (by omega)) (by omega)
  · rw [nplus_int gx, ep, sgn_low hd ir sx gx.ed]
end KK

set_option maxHeartbeats 2000000
namespace KK
open PySem PySem.Spec L2 DL
theorem s_setP {ρ : DSt} {a : TED} {n : TSD} {D : DEnds} {i : Nat} (P : PyData → DSt → Prop) (h : ∀ Q : R → DSt → Prop, (∀ z ρ', P z ρ' → Q (.d z) ρ') → a ρ Q) (k : ∀ z ρ', P z ρ' → n D (ρ'.set i (.val z))) : sSeq (sSet i a) n D ρ := h _ fun z ρ' hp => k z ρ' hp
theorem Sok.le {m n : Nat} {s : Spl} (h : Sok m s) (e : m ≤ n) : Sok n s := ⟨h.1, by have := h.2.1; omega, h.2.2⟩
theorem de_opp (x : Nu) : de (nopp x) = de x := rfl
theorem sgn_opp (x : Nu) : sgn (nopp x) = -sgn x := sos_ng x.p x.q (de x)
theorem sgn_nz {n : Nat} {x : Nu} (h : Gd n x) (nz : ¬ (x.p = 0 ∧ x.q = 0)) : sgn x ≠ 0 := fun z => nz (sos_z h.de.1 h.de.2.1 z)
theorem drs {y : PyData} (h : y ∈ ([.int 2, .int 3, .int 5, .int 5, .int 6, .int 7, .int 13, .int 21] : List PyData)) : ∃ d : Int, y = .int d ∧ Dr d ∧ d ≤ 21 := by
  simp only [List.mem_cons, List.not_mem_nil, or_false] at h
  rcases h with rfl | rfl | rfl | rfl | rfl | rfl | rfl | rfl
  · exact ⟨_, rfl, dr_of (a := 1) (by decide) (by decide) (by decide) (by unfold Bd; decide), by decide⟩
  · exact ⟨_, rfl, dr_of (a := 1) (by decide) (by decide) (by decide) (by unfold Bd; decide), by decide⟩
  · exact ⟨_, rfl, dr_of (a := 2) (by decide) (by decide) (by decide) (by unfold Bd; decide), by decide⟩
  · exact ⟨_, rfl, dr_of (a := 2) (by decide) (by decide) (by decide) (by unfold Bd; decide), by decide⟩
  · exact ⟨_, rfl, dr_of (a := 2) (by decide) (by decide) (by decide) (by unfold Bd; decide), by decide⟩
  · exact ⟨_, rfl, dr_of (a := 2) (by decide) (by decide) (by decide) (by unfold Bd; decide), by decide⟩
  · exact ⟨_, rfl, dr_of (a := 3) (by decide) (by decide) (by decide) (by unfold Bd; decide), by decide⟩
  · exact ⟨_, rfl, dr_of (a := 4) (by decide) (by decide) (by decide) (by unfold Bd; decide), by decide⟩
theorem szs {y : PyData} (h : y ∈ ([.int 1, .int 2, .int 3, .int 5] : List PyData)) : ∃ z : Int, y = .int z ∧ 0 < z ∧ z ≤ 5 := by
  simp only [List.mem_cons, List.not_mem_nil, or_false] at h
  rcases h with rfl | rfl | rfl | rfl <;> exact ⟨_, rfl, by decide, by decide⟩
/-- small parts -/
structure Sm (x : Nu) : Prop where
  g : Gd 40 x
  p : x.p.natAbs ≤ 5
  q : x.q.natAbs ≤ 5
  s : x.s ≤ 5
  d : x.d ≤ 21
theorem low_Sm {p q d t z : Int} (hd : Dr d) (h21 : d ≤ 21) (hz : z ≤ 5) (hp : p.natAbs ≤ z.natAbs) (hq : q.natAbs ≤ z.natAbs) (t0 : 0 < t) (t1 : t ≤ z) : Sm (low p q d t) := by
  have B : ∀ i : Int, i.natAbs ≤ z.natAbs → Bd 40 i := fun i hi => (show Bd 3 i by unfold Bd; omega).mono (by omega)
  have ed := low_dd (p := p) (q := q) (d := d) (show t ≠ 0 by omega)
  obtain ⟨k, hk, e1, e2, e3, e4⟩ := low_spec (p := p) (q := q) d (show t ≠ 0 by omega)
  have g := low_Gd (n := 40) (show t ≠ 0 by omega) hd (B p hp) (B q hq) (B t (by omega)) (by omega)
  generalize low p q d t = x at *
  have le : ∀ {a b : Int}, a = k * b → b.natAbs ≤ a.natAbs := fun {a b} h => by
    rw [h, Int.natAbs_mul]
    exact Nat.le_mul_of_pos_left _ (by omega)
  have l1 := le e1
  have l2 := le e2
  have l3 := le e3
  refine ⟨g, by omega, by omega, by omega, ?_⟩
  rw [ed]; split
  · decide
  · exact h21
theorem Sm.opp {x : Nu} (h : Sm x) : Sm (nopp x) := ⟨h.g.opp, by show (-x.p).natAbs ≤ 5; have := h.p; omega, by show (-x.q).natAbs ≤ 5; have := h.q; omega, h.s, h.d⟩
theorem gold : Rat ⟨1, 1, 5, 2⟩ := by
  refine ⟨⟨by decide, .inr ⟨by decide, ?_⟩, (fun h _ => absurd h (by decide)), ?_⟩, by decide, by decide, by decide, by decide, by decide⟩
  · exact dr_of (a := 2) (by decide) (by decide) (by decide) (by unfold Bd; decide)
  · have b : ∀ i : Int, i.natAbs < 8 → Bd 40 i := fun i h => (show Bd 3 i by unfold Bd; omega).mono (by omega)
    exact ⟨b _ (by decide), b _ (by decide), b _ (by decide), b _ (by decide)⟩
end KK

set_option maxHeartbeats 2000000
namespace KK
open PySem PySem.Spec L2 DL
/-! ### the field's operations keep the numbers good -/
theorem nmax_comm (a b : Int) : nmax a b = nmax b a := by unfold nmax; split <;> split <;> omega
theorem ntimes_comm (x y : Nu) : ntimes x y = ntimes y x := by
  unfold ntimes
  rw [nmax_comm x.d y.d]
  congr 1 <;> grind
theorem nmax_root {n m : Nat} {x y : Nu} (gx : Gd n x) (gy : Gd m y) (hr : rts x y) (h : x.q ≠ 0 ∨ y.q ≠ 0) : Dr (nmax x.d y.d) := by
  rcases gx.r with ⟨a, b⟩ | ⟨a, b⟩
  · rcases gy.r with ⟨c, e⟩ | ⟨c, e⟩
    · rcases h with h | h
      · exact absurd a h
      · exact absurd c h
    · rw [b, nmax_comm, nmax0 (Int.le_of_lt e.1)]; exact e
  · rcases gy.r with ⟨c, e⟩ | ⟨c, e⟩
    · rw [e, nmax0 (Int.le_of_lt b.1)]; exact b
    · have := hr b.ne e.ne
      rw [← this]
      have : nmax x.d x.d = x.d := by unfold nmax; split <;> rfl
      rw [this]; exact b
theorem Gd_times {n m : Nat} {x y : Nu} (gx : Gd n x) (gy : Gd m y) (hr : rts x y) (hn : 34 ≤ n + m) : Gd (n + m + 36) (ntimes x y) := by
  obtain ⟨b1, b2, b3, b4⟩ := gx.b
  obtain ⟨c1, c2, c3, c4⟩ := gy.b
  have sx := gx.s
  have sy := gy.s
  have bm : Bd 34 (nmax x.d y.d) := nmax_bd gx.bd gy.bd
  unfold ntimes
  refine low_Gd' (Int.mul_ne_zero (by omega) (by omega)) (fun h => nmax_root gx gy hr ?_) ((b1.mul c1).add ((b2.mul c2).mul bm) (by omega)) ((b1.mul c2).add (b2.mul c1) (by omega)) ((b4.mul c4).mono (by omega)) (by omega)
  rcases Classical.em (x.q = 0) with a | a
  · rcases Classical.em (y.q = 0) with b | b
    · rw [a, b] at h; simp at h
    · exact .inr b
  · exact .inl a
theorem Gd_plus {n m : Nat} {x y : Nu} (gx : Gd n x) (gy : Gd m y) (hr : rts x y) (hn : 34 ≤ n + m) : Gd (n + m + 2) (nplus x y) := by
  obtain ⟨b1, b2, b3, b4⟩ := gx.b
  obtain ⟨c1, c2, c3, c4⟩ := gy.b
  have sx := gx.s
  have sy := gy.s
  unfold nplus
  refine low_Gd' (Int.mul_ne_zero (by omega) (by omega)) (fun h => nmax_root gx gy hr ?_) ((b1.mul c4).add (c1.mul b4) (by omega)) ((b2.mul c4).add (c2.mul b4) (by omega)) ((b4.mul c4).mono (by omega)) (by omega)
  rcases Classical.em (x.q = 0) with a | a
  · rcases Classical.em (y.q = 0) with b | b
    · rw [a, b] at h; simp at h
    · exact .inr b
  · exact .inl a
theorem Gd_inv {n : Nat} {x : Nu} (gx : Gd n x) (hz : ¬ isZ x) (hn : 34 ≤ n) : Gd (2 * n + 35) (ninv x) := by
  obtain ⟨b1, b2, b3, b4⟩ := gx.b
  have bd := gx.bd
  have nn := gx.norm hz
  unfold ninv
  refine low_Gd' nn (fun h => gx.dr fun z => h (by rw [z]; simp)) ((b1.mul b4).mono (by omega)) ((b2.neg.mul b4).mono (by omega)) ((b1.mul b1 |>.mono (m := 2 * n + 34) (by omega)).sub (((b2.mul b2).mul bd).mono (m := 2 * n + 34) (by omega)) (by omega)) (by omega)
theorem nopp_low {p q s : Int} (d : Int) (hs : s ≠ 0) : nopp (low p q d s) = low (-p) (-q) d s := by
  unfold nopp low
  have hg : gc (-p) (-q) s = gc p q s := by unfold gc; rw [Int.natAbs_neg, Int.natAbs_neg]
  have dv : ∀ a : Int, gc p q s ∣ a → -(sg s * a / gc p q s) = sg s * -a / gc p q s := fun a h => by
    rw [Int.mul_neg, Int.neg_ediv_of_dvd (Int.dvd_trans h (Int.dvd_mul_left _ _))]
  simp only [hg, dv p gc_dp, dv q gc_dq, Int.neg_eq_zero]
theorem rts_int (v : Int) (x : Nu) : rts ⟨v, 0, 0, 1⟩ x ∧ rts x ⟨v, 0, 0, 1⟩ := ⟨fun h => absurd rfl h, fun _ h => absurd rfl h⟩
theorem sgn_ne {x : Nu} (h : sgn x = 1) : ¬ isZ x := fun z => by
  unfold sgn at h
  rw [z.1, z.2.1, sos_00] at h
  cases h
/-- the quotient of an integer w by z, z > 0 of the form (f + g root d) / s, less an integer: its sign -/
theorem over_sgn {f g w s N m d : Int} (hd : 0 < d) (ir : Irr d) (hz : sos f g d = 1) (hN : f * f - g * g * d = N) (n0 : N ≠ 0) :
    sos (N * (-(w * f * s) - m * N)) (N * (w * g * s)) d = sos (-(w * s) - m * f) (-(m * g)) d := by
  have k := sos_mul (p := N * (-(w * f * s) - m * N)) (q := N * (w * g * s)) (p' := f) (q' := g) hd ir
  rw [hz, Int.mul_one] at k
  rw [k, ← sos_scale (k := N * N) (p := -(w * s) - m * f) hd (by rcases Int.lt_or_gt_of_ne n0 with c | c; exact Int.mul_pos_of_neg_of_neg c c; exact Int.mul_pos c c) ir]
  subst hN
  congr 1 <;> grind
/-- w / (1 + x) in lowest terms, by the parts of x -/
theorem over_one {n : Nat} {x : Nu} (gx : Gd n x) (ho : sgn x = 1) (w : Int) :
    nover ⟨w, 0, 0, 1⟩ (nplus ⟨1, 0, 0, 1⟩ x) = low (w * (x.s + x.p) * x.s) (-(w * x.q * x.s)) x.d ((x.s + x.p) * (x.s + x.p) - x.q * x.q * de x) ∧ sgn (nplus ⟨1, 0, 0, 1⟩ x) = 1 ∧ (x.s + x.p) * (x.s + x.p) - x.q * x.q * de x ≠ 0 ∧ sos (x.s + x.p) x.q (de x) = 1 := by
  obtain ⟨hd, ir, _⟩ := gx.de
  have sx := gx.s
  have h1 : sos (x.s + x.p) x.q (de x) = 1 := by
    have := sos_int hd ir (show 0 ≤ sos x.p x.q (de x) by unfold sgn at ho; omega) sx
    rwa [Int.add_comm] at this
  have e1 : nplus ⟨1, 0, 0, 1⟩ x = low (x.s + x.p) x.q x.d x.s := by
    unfold nplus
    show low (1 * x.s + x.p * 1) (0 * x.s + x.q * 1) (nmax 0 x.d) (1 * x.s) = _
    rw [nmax_comm, nmax0 gx.d0.1]
    congr 1 <;> grind
  have n0 : (x.s + x.p) * (x.s + x.p) - x.q * x.q * de x ≠ 0 := sos_sq hd ir (by
    rcases Classical.em (x.s + x.p = 0) with a | a
    · rcases Classical.em (x.q = 0) with b | b
      · rw [a, b, sos_00] at h1; cases h1
      · exact .inr b
    · exact .inl a)
  refine ⟨?_, by rw [e1, sgn_low hd ir sx gx.ed]; exact h1, n0, h1⟩
  obtain ⟨k, hk, a1, a2, a3, a4⟩ := low_spec (p := x.s + x.p) (q := x.q) x.d (show x.s ≠ 0 by omega)
  have ad := low_dd (p := x.s + x.p) (q := x.q) (d := x.d) (show x.s ≠ 0 by omega)
  rw [e1]
  generalize low (x.s + x.p) x.q x.d x.s = z at *
  have zd : z.q * z.q * z.d = z.q * z.q * de x := by
    rw [ad]
    split
    · rename_i c; rw [c]; simp
    · rename_i c; rw [gx.ed (by rw [a2]; exact Int.mul_ne_zero hk c)]
  have nz : z.p * z.p - z.q * z.q * z.d ≠ 0 := by
    rw [zd]
    intro c
    apply n0
    rw [a1, a2, show k * z.p * (k * z.p) - k * z.q * (k * z.q) * de x = k * k * (z.p * z.p - z.q * z.q * de x) by grind, c, Int.mul_zero]
  obtain ⟨l, hl, b1, b2, b3, b4⟩ := low_spec (p := z.p * z.s) (q := -z.q * z.s) z.d nz
  have bd := low_dd (p := z.p * z.s) (q := -z.q * z.s) (d := z.d) nz
  unfold nover ntimes ninv
  rw [zd] at nz b1 b2 b3 b4 bd ⊢
  generalize low (z.p * z.s) (-z.q * z.s) z.d (z.p * z.p - z.q * z.q * de x) = i at *
  show low (w * i.p + 0 * i.q * nmax 0 i.d) (w * i.q + 0 * i.p) (nmax 0 i.d) (1 * i.s) = _
  refine low_eq (by omega) n0 ?_ ?_ fun h => ?_
  · have : (w * i.p + 0 * i.q * nmax 0 i.d) * ((x.s + x.p) * (x.s + x.p) - x.q * x.q * de x) * (l * k) = w * (x.s + x.p) * x.s * (1 * i.s) * (l * k) := by
      rw [a1, a2, a3]
      have : l * i.s = z.p * z.p - z.q * z.q * de x := b3.symm
      have : l * i.p = z.p * z.s := b1.symm
      grind
    exact Int.eq_of_mul_eq_mul_right (Int.mul_ne_zero hl hk) this
  · have : (w * i.q + 0 * i.p) * ((x.s + x.p) * (x.s + x.p) - x.q * x.q * de x) * (l * k) = -(w * x.q * x.s) * (1 * i.s) * (l * k) := by
      rw [a1, a2, a3]
      have : l * i.s = z.p * z.p - z.q * z.q * de x := b3.symm
      have : l * i.q = -z.q * z.s := b2.symm
      grind
    exact Int.eq_of_mul_eq_mul_right (Int.mul_ne_zero hl hk) this
  · have iq : i.q ≠ 0 := fun c => h (by rw [c]; simp)
    have zq : z.q ≠ 0 := fun c => iq (by
      have : l * i.q = 0 := by rw [← b2, c]; simp
      rcases Int.mul_eq_zero.mp this with a | a
      · exact absurd a hl
      · exact a)
    have xq : x.q ≠ 0 := by rw [a2]; exact Int.mul_ne_zero hk zq
    have : i.d = x.d := by rw [bd, if_neg iq, ad, if_neg zq]
    rw [this, nmax_comm, nmax0 gx.d0.1]
theorem cnt_of {n : Nat} {x : Nu} (gx : Gd n x) (ho : sgn x = 1) {c k : Int} (h : Flo (nopp (nover ⟨c + 1, 0, 0, 1⟩ (nplus ⟨1, 0, 0, 1⟩ x))) k) : Cnt x c (-k - 1) := by
  obtain ⟨e, _, n0, h1⟩ := over_one gx ho (c + 1)
  obtain ⟨hd, ir, _⟩ := gx.de
  rw [e, nopp_low _ n0, flo_lowN hd ir n0 (fun z => gx.ed fun c => z (by rw [c]; simp))] at h
  obtain ⟨h2, h3⟩ := h
  have f2 := over_sgn (w := c + 1) (s := x.s) (m := k) hd ir h1 rfl n0
  have f3 := over_sgn (w := c + 1) (s := x.s) (m := k + 1) hd ir h1 rfl n0
  rw [Int.neg_neg, f2] at h2
  rw [Int.neg_neg, f3] at h3
  constructor
  · have : sos (-(-((c + 1) * x.s) - (k + 1) * (x.s + x.p))) (-(-((k + 1) * x.q))) (de x) = 1 := by rw [sos_ng, h3]; rfl
    rw [← this]
    congr 1 <;> grind
  · have e1 : (-k - 1 + 1) * (x.s + x.p) - (c + 1) * x.s = -((c + 1) * x.s) - k * (x.s + x.p) := by grind
    have e2 : (-k - 1 + 1) * x.q = -(k * x.q) := by grind
    rw [e1, e2]
    exact h2
end KK

set_option maxHeartbeats 2000000
namespace KK
open PySem PySem.Spec L2 DL
theorem pure_whole (α : List SD) (QD : Ret → List SD → Prop) (ED : Exd → List SD → Prop) (W : WD) (hW : W = fun e ρ => outK α ρ fun α' => ED e α') (h : p_whole α QD ED) : r_whole W (DEnd α QD) (startD n_whole.length α) := by
  obtain ⟨v, rfl, hq⟩ := h
  have st : startD n_whole.length [iv v] = [iv v] := rfl
  rw [st]
  unfold r_whole
  exact s_ret (ev_tup (zs := [.int v, .int 0, .int 0, .int 1]) (by (repeat' (first | exact KK.ev_c | exact KK.ev_var _ rfl | exact KK.eva_nil | with_reducible apply KK.eva_cons | with_reducible apply KK.ev_p | with_reducible apply KK.ev_q | with_reducible apply KK.ev_d | with_reducible apply KK.ev_s | with_reducible apply KK.ev_add | with_reducible apply KK.ev_sub | with_reducible apply KK.ev_mul | with_reducible apply KK.ev_fdiv | with_reducible apply KK.ev_mod | with_reducible apply KK.ev_neg | with_reducible apply KK.ev_max | with_reducible apply KK.ev_lt | with_reducible apply KK.ev_le | with_reducible apply KK.ev_gt | with_reducible apply KK.ev_ge | with_reducible apply KK.ev_eq | with_reducible apply KK.ev_nei | with_reducible apply KK.evt_lt | with_reducible apply KK.evt_le | with_reducible apply KK.evt_gt | with_reducible apply KK.evt_ge | with_reducible apply KK.evt_eq | with_reducible apply KK.evt_ne))) (by simp)) hq
theorem ev_flo {ρ : DSt} {a : TED} {W : WD} {x : Nu} {n : Int} (gx : Gd 1900 x) (ha : Ev a ρ x.D) (hn : Flo x n) : Ev (dCall p_floor W (dCons a dNil)) ρ (.int n) :=
  ev_call (eva_cons ha eva_nil) fun QD ED hq => ⟨x, rfl, nb_mono gx.b (by omega), gx.s, gx.d0.1, fun k hk => by rw [fls_uniq gx.de.1 gx.de.2.1 gx.s (flo_of_fl gx hk) hn]; exact hq⟩
theorem ev_whole {ρ : DSt} {a : TED} {W : WD} {v : Int} (ha : Ev a ρ (.int v)) : Ev (dCall p_whole W (dCons a dNil)) ρ (nint v).D :=
  ev_call (eva_cons ha eva_nil) fun QD ED hq => ⟨v, rfl, hq⟩
theorem Rx.nz {x : Nu} (h : Rx x) : ¬ isZ x := sgn_ne h.o
theorem cnt_ex {x : Nu} (h : Rx x) {c : Int} (hc : Bd 200 c) : Gd 1900 (nover (nint (c + 1)) (nplus (nint 1) x)) ∧ ∃ n, Flo (nopp (nover (nint (c + 1)) (nplus (nint 1) x))) n ∧ Cnt x c (-n - 1) := by
  have g1 : Gd 1 (nint 1) := nint_Gd (by unfold Bd; decide) (by omega)
  have gz := Gd_plus g1 h.g (rts_int 1 x).1 (by omega)
  have gi := Gd_inv gz (sgn_ne (over_one h.g h.o 1).2.1) (by omega)
  have gw : Gd 201 (nint (c + 1)) := nint_Gd (hc.add (show Bd 1 1 by unfold Bd; decide) (by omega)) (by omega)
  have gy := Gd_times gw gi (rts_int (c + 1) _).1 (by omega)
  have gY : Gd 1900 (nover (nint (c + 1)) (nplus (nint 1) x)) := gy.mono (by omega)
  obtain ⟨n, hn⟩ := flo_ex gY.opp
  exact ⟨gY, n, hn, cnt_of h.g h.o hn⟩
theorem cnt_uniq {n : Nat} {x : Nu} (gx : Gd n x) (ho : sgn x = 1) {c L L' : Int} (h : Cnt x c L) (h' : Cnt x c L') : L = L' := by
  obtain ⟨hd, ir, _⟩ := gx.de
  have sx := gx.s
  have f1 : sos (x.s + x.p) x.q (de x) = 1 := by
    have := sos_int hd ir (show 0 ≤ sos x.p x.q (de x) by unfold sgn at ho; omega) sx
    rwa [Int.add_comm] at this
  have one : ∀ {a b : Int}, Cnt x c a → Cnt x c b → a ≤ b := by
    intro a b ha hb
    rcases Int.lt_or_le b a with z | z
    · exfalso
      have k := sos_addP hd ir hb.2 ha.1
      -- (b + 1 - a) (s + p, q) > 0
      have e1 : (b + 1) * (x.s + x.p) - (c + 1) * x.s + ((c + 1) * x.s - a * (x.s + x.p)) = (b + 1 - a) * (x.s + x.p) := by grind
      have e2 : (b + 1) * x.q + -(a * x.q) = (b + 1 - a) * x.q := by grind
      rw [e1, e2] at k
      rcases Int.lt_or_le 0 (b + 1 - a) with y | y
      · omega
      · have m : 0 ≤ sos (-((b + 1 - a) * (x.s + x.p))) (-((b + 1 - a) * x.q)) (de x) := by
          have := sos_mulN hd ir (p := -(b + 1 - a)) (q := 0) (p' := x.s + x.p) (q' := x.q) (by rw [sos_q00]; exact sgi_0.mpr (by omega)) (by rw [f1]; decide)
          have e3 : -(b + 1 - a) * (x.s + x.p) + 0 * x.q * de x = -((b + 1 - a) * (x.s + x.p)) := by grind
          have e4 : -(b + 1 - a) * x.q + 0 * (x.s + x.p) = -((b + 1 - a) * x.q) := by grind
          rwa [e3, e4] at this
        rw [sos_ng, k] at m
        omega
    · exact z
  have a := one h h'
  have b := one h' h
  omega
theorem shp_a : SeqAt.shaped (.str "a") = true := by decide +kernel
theorem shp_b : SeqAt.shaped (.str "b") = true := by decide +kernel
end KK

set_option maxHeartbeats 2000000
namespace KK
open PySem PySem.Spec L2 DL
/-! ### shown -/
theorem ints_shownS : ∀ ns : List Int, (∀ n ∈ ns, Bd 1900 n) → ((PyData.shownAll (ns.map PyData.int)).map (·.length)).sum ≤ 1921 * ns.length ∧ (PyData.shownAll (ns.map PyData.int)).length = ns.length
  | [], _ => ⟨by simp [PyData.shownAll], rfl⟩
  | n :: ns, h => by
    obtain ⟨a, b⟩ := ints_shownS ns fun m hm => h m (List.mem_cons_of_mem _ hm)
    have c := int_len (h n List.mem_cons_self)
    constructor
    · simp only [List.map_cons, PyData.shownAll, PyData.shown, List.sum_cons, List.length_cons] at *
      have : (Str.ofString (toString n)).length ≤ 1921 := c
      omega
    · simp only [List.map_cons, PyData.shownAll, List.length_cons, b]
theorem ints_sh : ∀ ns : List Int, (∀ n ∈ ns, Bd 1900 n) → PyData.showableAll (ns.map PyData.int) = true
  | [], _ => rfl
  | n :: ns, h => by
    show (decide _ && PyData.showableAll (ns.map PyData.int)) = true
    rw [decide_eq_true (bd_show (h n List.mem_cons_self)), ints_sh ns fun m hm => h m (List.mem_cons_of_mem _ hm)]; rfl
theorem ints_nd : ∀ ns : List Int, PyData.hasDictAll (ns.map PyData.int) = false
  | [] => rfl
  | n :: ns => by
    show (PyData.hasDict (.int n) || PyData.hasDictAll (ns.map PyData.int)) = false
    rw [ints_nd ns]; rfl
theorem ints_dep : ∀ ns : List Int, PyData.depthAll (ns.map PyData.int) = 0
  | [] => rfl
  | n :: ns => by
    show max (PyData.depth (.int n)) (PyData.depthAll (ns.map PyData.int)) = 0
    rw [ints_dep ns]; rfl
theorem lst_shown {ns : List Int} (h : ∀ n ∈ ns, Bd 1900 n) (hl : ns.length ≤ 1000) : (PyData.list (ns.map PyData.int)).showable = true ∧ (PyData.list (ns.map PyData.int)).hasDict = false ∧ (PyData.list (ns.map PyData.int)).depth ≤ 60 ∧ (PyData.list (ns.map PyData.int)).shown.length ≤ sizeLine := by
  refine ⟨by simpa [PyData.showable] using ints_sh ns h, by simpa [PyData.hasDict] using ints_nd ns, ?_, ?_⟩
  · simp only [PyData.depth, ints_dep]; decide
  · simp only [PyData.shown]
    obtain ⟨a, b⟩ := ints_shownS ns h
    have := listText_len_le (PyData.shownAll (ns.map PyData.int))
    rw [b] at this
    rw [sizeLine_eq]
    omega
theorem flo_bd {n : Nat} {x : Nu} (gx : Gd n x) (hn : 34 ≤ n) {k : Int} (h : Flo x k) : Bd (n + 37) k := by
  obtain ⟨hd, ir, bd⟩ := gx.de
  obtain ⟨b1, b2, b3, b4⟩ := gx.b
  have sx := gx.s
  obtain ⟨l1, l2⟩ := fls_bd hd ir h
  have bq : Bd (n + 34) ((x.q.natAbs : Int) * de x) := (show Bd n (x.q.natAbs : Int) by unfold Bd at b2 ⊢; omega).mul bd
  have q0 : 0 ≤ (x.q.natAbs : Int) * de x := Int.mul_nonneg (by omega) (by omega)
  have bk : Bd (n + 35) (x.p - k * x.s) := by
    have : Bd (n + 34) x.s := b4.mono (by omega)
    unfold Bd at *
    rw [show n + 35 = n + 34 + 1 from rfl, Nat.pow_succ]
    generalize (2 : Nat) ^ (n + 34) = M at *
    omega
  have bks : Bd (n + 36) (k * x.s) := by
    have := b1.sub bk (k := n + 36) (by omega)
    rwa [show x.p - (x.p - k * x.s) = k * x.s by omega] at this
  have : k.natAbs ≤ (k * x.s).natAbs := by
    rw [Int.natAbs_mul]
    exact Nat.le_mul_of_pos_right _ (by omega)
  exact (show Bd (n + 36) k from Nat.lt_of_le_of_lt this bks).mono (by omega)
/-! ### what the law looks at -/
/-- the place of b's j-th act, its floor n -/
abbrev Pb (x : Nu) (j n : Int) : Prop := Flo (ntimes x (nint j)) n
theorem pb_fls {m : Nat} {x : Nu} (gx : Gd m x) {j n : Int} : Pb x j n ↔ FlS (x.p * j) (x.q * j) (de x) x.s n := by
  obtain ⟨hd, ir, _⟩ := gx.de
  have e : ntimes x (nint j) = low (x.p * j) (x.q * j) x.d x.s := by
    unfold ntimes nint
    show low (x.p * j + x.q * 0 * nmax x.d 0) (x.p * 0 + x.q * j) (nmax x.d 0) (x.s * 1) = _
    rw [nmax0 gx.d0.1]
    congr 1 <;> simp
  unfold Pb
  rw [e]
  exact flo_low hd ir gx.s fun z => gx.ed fun c => z (by rw [c]; simp)
section
variable {m : Nat} {x : Nu} (gx : Gd m x) (ho : sgn x = 1) {c L n : Int}
include gx ho
theorem one_x : sos (x.s + x.p) x.q (de x) = 1 := by
  obtain ⟨hd, ir, _⟩ := gx.de
  have := sos_int hd ir (show 0 ≤ sos x.p x.q (de x) by unfold sgn at ho; omega) gx.s
  rwa [Int.add_comm] at this
theorem cnt_0 (c0 : 0 ≤ c) (h : Cnt x c L) : 0 ≤ L := by
  obtain ⟨hd, ir, _⟩ := gx.de
  rcases Int.lt_or_le L 0 with z | z
  · exfalso
    have k := sos_intN hd ir h.2 (t := (c + 1) * x.s - 1) (by
      have := Int.mul_le_mul_of_nonneg_right (show 1 ≤ c + 1 by omega) (show 0 ≤ x.s from Int.le_of_lt gx.s)
      have := gx.s
      omega)
    have k2 := sos_int hd ir k (t := 1) (by decide)
    rw [show (L + 1) * (x.s + x.p) - (c + 1) * x.s + ((c + 1) * x.s - 1) + 1 = (L + 1) * (x.s + x.p) by omega] at k2
    have m := sos_mulN hd ir (p := -(L + 1)) (q := 0) (p' := x.s + x.p) (q' := x.q) (by rw [sos_q00]; exact sgi_0.mpr (by omega)) (by rw [one_x gx ho]; decide)
    have e3 : -(L + 1) * (x.s + x.p) + 0 * x.q * de x = -((L + 1) * (x.s + x.p)) := by grind
    have e4 : -(L + 1) * x.q + 0 * (x.s + x.p) = -((L + 1) * x.q) := by grind
    rw [e3, e4, sos_ng, k2] at m
    omega
  · exact z
theorem cnt_c (h : Cnt x c L) (L0 : 0 ≤ L) : L ≤ c := by
  obtain ⟨hd, ir, _⟩ := gx.de
  have k := sos_mulN hd ir (p := L) (q := 0) (p' := x.p) (q' := x.q) (by rw [sos_q00]; exact sgi_0.mpr L0) (by unfold sgn at ho; omega)
  have a := sos_addP hd ir k h.1
  have e1 : L * x.p + 0 * x.q * de x + ((c + 1) * x.s - L * (x.s + x.p)) = (c + 1 - L) * x.s := by grind
  have e2 : L * x.q + 0 * x.p + -(L * x.q) = 0 := by grind
  rw [e1, e2, sos_q00, sgi_p] at a
  have := gx.s
  rcases Int.lt_or_le c L with z | z
  · have := Int.mul_nonpos_of_nonpos_of_nonneg (show c + 1 - L ≤ 0 by omega) (show 0 ≤ x.s by omega)
    omega
  · exact z
theorem pb_le (h : Cnt x c L) (hn : Pb x L n) : L + n ≤ c := by
  obtain ⟨hd, ir, _⟩ := gx.de
  have f := (pb_fls gx).mp hn
  have a := sos_addP hd ir f.1 h.1
  have e1 : x.p * L - n * x.s + ((c + 1) * x.s - L * (x.s + x.p)) = (c + 1 - L - n) * x.s := by grind
  have e2 : x.q * L + -(L * x.q) = 0 := by grind
  rw [e1, e2, sos_q00, sgi_p] at a
  have := gx.s
  rcases Int.lt_or_le c (L + n) with z | z
  · have := Int.mul_nonpos_of_nonpos_of_nonneg (show c + 1 - L - n ≤ 0 by omega) (show 0 ≤ x.s by omega)
    omega
  · exact z
theorem pb_gt (h : Cnt x c L) (hn : Pb x (L + 1) n) : c < L + 1 + n := by
  obtain ⟨hd, ir, _⟩ := gx.de
  have f := (pb_fls gx).mp hn
  have f2 : sos (-(x.p * (L + 1) - (n + 1) * x.s)) (-(x.q * (L + 1))) (de x) = 1 := by rw [sos_ng, f.2]; rfl
  have a := sos_addP hd ir h.2 f2
  have e1 : (L + 1) * (x.s + x.p) - (c + 1) * x.s + -(x.p * (L + 1) - (n + 1) * x.s) = (L + 1 + n - c) * x.s := by grind
  have e2 : (L + 1) * x.q + -(x.q * (L + 1)) = 0 := by grind
  rw [e1, e2, sos_q00, sgi_p] at a
  have := gx.s
  rcases Int.lt_or_le c (L + 1 + n) with z | z
  · exact z
  · have := Int.mul_nonpos_of_nonpos_of_nonneg (show L + 1 + n - c ≤ 0 by omega) (show 0 ≤ x.s by omega)
    omega
/-- the last act is b's just where there is one more b -/
theorem last_b {L' : Int} (c0 : 0 < c) (h : Cnt x c L) (h' : Cnt x (c - 1) L') (hn : Pb x L n) : L ≤ L' ↔ ¬ (0 < L ∧ L + n = c) := by
  obtain ⟨hd, ir, _⟩ := gx.de
  have sx := gx.s
  have f := (pb_fls gx).mp hn
  constructor
  · rintro le ⟨L0, e⟩
    -- L (1 + x) ≤ L' (1 + x) < c
    have k := sos_mulN hd ir (p := L' - L) (q := 0) (p' := x.s + x.p) (q' := x.q) (by rw [sos_q00]; exact sgi_0.mpr (by omega)) (by rw [one_x gx ho]; decide)
    have a := sos_addP hd ir k h'.1
    have a2 := sos_addP hd ir f.1 a
    have e1 : x.p * L - n * x.s + ((L' - L) * (x.s + x.p) + 0 * x.q * de x + ((c - 1 + 1) * x.s - L' * (x.s + x.p))) = (c - (L + n)) * x.s := by grind
    have e2 : x.q * L + ((L' - L) * x.q + 0 * (x.s + x.p) + -(L' * x.q)) = 0 := by grind
    rw [e1, e2, sos_q00, sgi_p, e] at a2
    simp at a2
  · intro nb
    rcases Int.lt_or_le L' L with z | z
    · exfalso
      have L0 := cnt_0 gx ho (by omega) h'
      have le := pb_le gx ho h hn
      -- L (1 + x) ≥ (L' + 1) (1 + x) ≥ c
      have k := sos_mulN hd ir (p := L - (L' + 1)) (q := 0) (p' := x.s + x.p) (q' := x.q) (by rw [sos_q00]; exact sgi_0.mpr (by omega)) (by rw [one_x gx ho]; decide)
      have a := sos_add hd ir k h'.2
      have f2 : sos (-(x.p * L - (n + 1) * x.s)) (-(x.q * L)) (de x) = 1 := by rw [sos_ng, f.2]; rfl
      have a2 := sos_addP hd ir a f2
      have e1 : (L - (L' + 1)) * (x.s + x.p) + 0 * x.q * de x + ((L' + 1) * (x.s + x.p) - (c - 1 + 1) * x.s) + -(x.p * L - (n + 1) * x.s) = (L + n + 1 - c) * x.s := by grind
      have e2 : (L - (L' + 1)) * x.q + 0 * (x.s + x.p) + (L' + 1) * x.q + -(x.q * L) = 0 := by grind
      rw [e1, e2, sos_q00, sgi_p] at a2
      have : ¬ L + n + 1 - c ≤ 0 := fun y => by
        have := Int.mul_nonpos_of_nonpos_of_nonneg y (show 0 ≤ x.s by omega)
        omega
      exact nb ⟨by omega, by omega⟩
    · exact z
end
end KK

set_option maxHeartbeats 2000000
namespace KK
open PySem PySem.Spec L2 DL
/-! ### texts of a's and b's -/
theorem wS_a : wS [true] = ("a" : Str) := by decide +kernel
theorem wS_b : wS [false] = ("b" : Str) := by decide +kernel
theorem wS_nil : wS [] = ("" : Str) := by decide +kernel
theorem wS_app (l m : List Bool) : wS l ++ wS m = wS (l ++ m) := by
  show (⟨(wS l).cps ++ (wS m).cps⟩ : Str) = _
  unfold wS
  simp
theorem wS_len (l : List Bool) : (wS l).length = l.length := by
  show (wS l).cps.size = _
  unfold wS
  simp
theorem wS_line {l : List Bool} (h : l.length ≤ 100000) : (wS l).length ≤ sizeLine := by rw [wS_len, sizeLine_eq]; omega
theorem wS_ok (l : List Bool) : PyData.canLay0 (.str (wS l)) = true := by
  simp only [PyData.canLay0, PyData.strOk, wS]
  rw [Array.all_eq_true_iff_forall_mem]
  intro c hc
  simp only [List.mem_toArray, List.mem_map] at hc
  obtain ⟨b, _, rfl⟩ := hc
  cases b <;> decide
theorem wS_shown {l : List Bool} (h : l.length ≤ 100000) : (PyData.str (wS l)).showable = true ∧ (PyData.str (wS l)).hasDict = false ∧ (PyData.str (wS l)).depth ≤ 60 ∧ (PyData.str (wS l)).shown.length ≤ sizeLine := by
  refine ⟨rfl, rfl, by simp [PyData.depth], ?_⟩
  have := PyData.shown_le 8 (by decide) (.str (wS l)) (PyData.leavesShort_of_canLay0 8 _ (wS_ok l) rfl)
  have e : (PyData.str (wS l)).weight = l.length := by
    show (wS l).cps.size = _
    exact wS_len l
  rw [e] at this
  rw [sizeLine_eq]
  omega
theorem wS_cut (l : List Bool) (n : Nat) : cutS (wS l) none (some (n : Int)) = wS (l.take n) := by
  unfold cutS
  rw [HT.sIx_none, HT.sIx_nat, wS_len]
  unfold wS
  have e : l.take (min n l.length) = l.take n := by
    rcases Nat.le_total n l.length with h | h
    · rw [Nat.min_eq_left h]
    · rw [Nat.min_eq_right h, List.take_of_length_le (Nat.le_refl _), List.take_of_length_le h]
  simp only [List.drop_zero, Nat.sub_zero, ← List.map_take, e]
/-! tuples shown -/
theorem tup_shown {ns : List Int} (h : ∀ n ∈ ns, Bd 1900 n) (hl : ns.length ≤ 1000) : (PyData.tuple (ns.map PyData.int)).showable = true ∧ (PyData.tuple (ns.map PyData.int)).hasDict = false ∧ (PyData.tuple (ns.map PyData.int)).depth ≤ 60 ∧ (PyData.tuple (ns.map PyData.int)).shown.length ≤ sizeLine := by
  refine ⟨by simpa [PyData.showable] using ints_sh ns h, by simpa [PyData.hasDict] using ints_nd ns, ?_, ?_⟩
  · simp only [PyData.depth, ints_dep]; decide
  · simp only [PyData.shown]
    obtain ⟨a, b⟩ := ints_shownS ns h
    have := tupleText_len_le (PyData.shownAll (ns.map PyData.int))
    rw [b] at this
    rw [sizeLine_eq]
    omega
/-! walks of a list by places -/
theorem forD_at {g : TGD} {t : TSD} {D : DEnds} (Inv : Nat → DSt → Prop) : ∀ (items : List PyData) (i0 : Nat) (ρ : DSt), Inv i0 ρ → (∀ i x ρ (N : DSt → Prop), items[i]? = some x → (∀ ρ', Inv (i0 + i + 1) ρ' → N ρ') → Inv (i0 + i) ρ → g x ρ fun ρ1 => t { D with nx := N, ct := N, bk := D.nx } ρ1) →
    (∀ ρ, Inv (i0 + items.length) ρ → D.nx ρ) → forD g t D items ρ
  | [], i0, ρ, h, _, fin => fin ρ h
  | x :: xs, i0, ρ, h, step, fin => step 0 x ρ (forD g t D xs) rfl (fun ρ' h' => forD_at Inv xs (i0 + 1) ρ' h' (fun i y ρ N hy hN hi => step (i + 1) y ρ N (by simpa using hy) (fun ρ' h => hN ρ' (by rwa [show i0 + 1 + i + 1 = i0 + (i + 1) + 1 by omega])) (by rwa [show i0 + (i + 1) = i0 + 1 + i by omega])) fun ρ h => fin ρ (by rwa [show i0 + (x :: xs).length = i0 + 1 + xs.length by simp; omega])) h
/-! ### the order, step by step -/
section
variable {x : Nu} (hx : Rx x)
include hx
theorem cnt_has {c : Int} (hc : Bd 200 c) : ∃ L, Cnt x c L := by
  obtain ⟨_, n, _, h⟩ := cnt_ex hx hc
  exact ⟨_, h⟩
theorem cnt_zero : Cnt x 0 0 := by
  obtain ⟨hd, ir, _⟩ := hx.g.de
  have o := hx.o
  unfold sgn at o
  constructor
  · simp
    rw [sos_q00]
    exact sgi_p.mpr hx.g.s
  · have e1 : (0 + 1) * (x.s + x.p) - (0 + 1) * x.s = x.p := by grind
    have e2 : (0 + 1) * x.q = x.q := by grind
    rw [e1, e2, o]; decide
theorem cnt_step {c L L' : Int} (h : Cnt x c L) (h' : Cnt x (c + 1) L') : L' = L ∨ L' = L + 1 := by
  obtain ⟨hd, ir, _⟩ := hx.g.de
  have sx := hx.g.s
  have o := hx.o
  unfold sgn at o
  have f1 := one_x hx.g hx.o
  have up : L' ≤ L + 1 := by
    rcases Int.lt_or_le (L + 1) L' with z | z
    · exfalso
      -- (L' - (L + 1)) (1 + x) < 1, though at least 1 + x
      have a := sos_addP hd ir h.2 h'.1
      have k := sos_mulN hd ir (p := L' - (L + 1) - 1) (q := 0) (p' := x.s + x.p) (q' := x.q) (by rw [sos_q00]; exact sgi_0.mpr (by omega)) (by rw [f1]; decide)
      have b := sos_addP hd ir k a
      have b2 := sos_add hd ir (show 0 ≤ sos x.p x.q (de x) by rw [o]; decide) (show 0 ≤ _ by rw [b]; decide)
      have e1 : x.p + ((L' - (L + 1) - 1) * (x.s + x.p) + 0 * x.q * de x + ((L + 1) * (x.s + x.p) - (c + 1) * x.s + ((c + 1 + 1) * x.s - L' * (x.s + x.p)))) = 0 := by grind
      have e2 : x.q + ((L' - (L + 1) - 1) * x.q + 0 * (x.s + x.p) + ((L + 1) * x.q + -(L' * x.q))) = 0 := by grind
      have b3 := sos_addP hd ir (show 0 ≤ sos x.p x.q (de x) by rw [o]; decide) b
      rw [e1, e2, sos_00] at b3
      cases b3
    · exact z
  have dn : L ≤ L' := by
    rcases Int.lt_or_le L' L with z | z
    · exfalso
      have a := sos_addP hd ir h'.2 h.1
      have k := sos_mulN hd ir (p := L - (L' + 1)) (q := 0) (p' := x.s + x.p) (q' := x.q) (by rw [sos_q00]; exact sgi_0.mpr (by omega)) (by rw [f1]; decide)
      have b := sos_addP hd ir k a
      have b2 := sos_int hd ir (show 0 ≤ _ by rw [b]; decide) sx
      have e1 : (L - (L' + 1)) * (x.s + x.p) + 0 * x.q * de x + ((L' + 1) * (x.s + x.p) - (c + 1 + 1) * x.s + ((c + 1) * x.s - L * (x.s + x.p))) + x.s = 0 := by grind
      have e2 : (L - (L' + 1)) * x.q + 0 * (x.s + x.p) + ((L' + 1) * x.q + -(L * x.q)) = 0 := by grind
      rw [e1, e2, sos_00] at b2
      cases b2
    · exact z
  omega
theorem cnt_lim {c L L' n : Int} (h : Cnt x c L) (h' : Cnt x (c + 1) L') (hn : Pb x (L + 1) n) : L' ≤ L ↔ c - L + 1 ≤ n := by
  rcases cnt_step hx h h' with e | e
  · rw [e] at h' ⊢
    have := pb_gt hx.g hx.o h' hn
    constructor <;> intro <;> omega
  · rw [e] at h' ⊢
    have := pb_le hx.g hx.o h' hn
    constructor <;> intro <;> omega
theorem wrd_snoc {l : List Bool} {L L' : Int} (h : Wrd x l) (h1 : Cnt x l.length L) (h2 : Cnt x ((l.length : Int) + 1) L') : Wrd x (l ++ [decide (L' ≤ L)]) := by
  intro i hi
  rw [List.length_append, List.length_singleton] at hi
  rcases Nat.lt_or_ge i l.length with c | c
  · obtain ⟨a, b, ha, hb, e⟩ := h i c
    exact ⟨a, b, ha, hb, by rw [List.getElem?_append_left c]; exact e⟩
  · have : i = l.length := by omega
    subst this
    exact ⟨L, L', h1, h2, by simp⟩
theorem wrd_uniq {l m : List Bool} (h : Wrd x l) (h' : Wrd x m) (e : l.length = m.length) : l = m := by
  refine List.ext_getElem? fun i => ?_
  rcases Nat.lt_or_ge i l.length with c | c
  · obtain ⟨a, b, ha, hb, e1⟩ := h i c
    obtain ⟨a', b', ha', hb', e2⟩ := h' i (by omega)
    rw [e1, e2, cnt_uniq hx.g hx.o ha ha', cnt_uniq hx.g hx.o hb hb']
  · rw [List.getElem?_eq_none c, List.getElem?_eq_none (by omega)]
theorem bdn {c : Nat} (h : c ≤ 20000) : Bd 200 (c : Int) := (show Bd 15 (c : Int) by unfold Bd; omega).mono (by omega)
theorem wrd_ex (c : Nat) (hc : c ≤ 10000) : ∃ l, Wrd x l ∧ l.length = c := by
  induction c with
  | zero => exact ⟨[], (fun i hi => by simp at hi), rfl⟩
  | succ c ih =>
    obtain ⟨l, hl, e⟩ := ih (by omega)
    obtain ⟨L, h1⟩ := cnt_has hx (bdn hx (show c ≤ 20000 by omega))
    obtain ⟨L', h2⟩ := cnt_has hx (bdn hx (show c + 1 ≤ 20000 by omega))
    subst e
    exact ⟨_, wrd_snoc hx hl h1 (by simpa using h2), by simp⟩
end
theorem ev_catS {ρ : DSt} {a b : TED} {y z : Str} (ha : Ev a ρ (.str y)) (hb : Ev b ρ (.str z)) (h : y.length + z.length ≤ sizeLine) : Ev (dOp dAdd a b) ρ (.str (y ++ z)) := ev_op ha hb fun _ k => ⟨h, k⟩
theorem pb_has {x : Nu} {j : Int} (hx : Rx x) (hj : Bd 200 j) : ∃ n, Pb x j n := by
  have gt := Gd_times hx.g (nint_Gd hj (by omega)) (rts_int j x).2 (by omega)
  exact flo_ex gt
end KK

set_option maxHeartbeats 2000000
namespace KK
open PySem PySem.Spec L2 DL
/-! ### continued fractions: complete quotients by their forms -/
section
variable {d : Int} (hd : 0 < d) (ir : Irr d)
include hd ir
theorem sos_prod (p q : Int) : sos p q d * sos p (-q) d = sgi (p * p - q * q * d) := by
  rw [sos_mul hd ir, show p * -q + q * p = 0 by grind, sos_q00]
  congr 1
  grind
theorem sos_e1 {p q : Int} (h : 0 ≤ sos p q d) (hq : q ≠ 0) : sos p q d = 1 := by
  rcases sos_rg p q d with z | z | z
  · omega
  · exact absurd (sos_z hd ir z).2 hq
  · exact z
end
theorem sos_sc {d : Int} (hd : 0 < d) (ir : Irr d) {j u v : Int} (hj : j ≠ 0) : sos (j * u) (j * v) d = sgi j * sos u v d := by
  rcases Int.lt_or_gt_of_ne hj with z | z
  · have := sos_scale hd (show 0 < -j by omega) ir (p := u) (q := v)
    have h2 := sos_ng (-j * u) (-j * v) d
    rw [this] at h2
    rw [sgi_n.mpr z, show j * u = -(-j * u) by grind, show j * v = -(-j * v) by grind, h2]
    omega
  · rw [sos_scale hd z ir, sgi_p.mpr z, Int.one_mul]
section
variable {M : Int} {x : Nu} {a b c e d k n : Int} (h : Cf M x a b c e d k)
include h
theorem Cf.q0 : x.q ≠ 0 := fun z => h.e0 (by rw [h.xq, z]; simp)
theorem Cf.s0 : 0 < x.s := by
  have := h.a0
  have h2 := h.xs
  have k0 := h.k0
  rcases Int.lt_or_le 0 x.s with z | z
  · exact z
  · have := Int.mul_nonneg (show 0 ≤ k by omega) (show 0 ≤ -x.s by omega)
    have e2 : k * -x.s = -(k * x.s) := by grind
    omega
theorem Cf.c0 : c ≠ 0 := fun z => by
  have f := h.f
  rw [z] at f
  exact h.e0 (h.dr.2.2 b e (by rw [← f]; grind)).2
theorem Cf.le : b.natAbs ≤ M.natAbs ∧ e.natAbs ≤ M.natAbs ∧ a.natAbs ≤ M.natAbs := by
  have d0 := h.dr.1
  have a0 := h.a0
  have f := h.f
  have m1 := h.m1
  have m2 := h.m2
  have sq : ∀ i : Int, (i.natAbs : Int) ≤ i * i := fun i => by
    have : (i.natAbs : Int) * i.natAbs = i * i := Int.natAbs_mul_self' i
    rcases Nat.eq_zero_or_pos i.natAbs with z | z
    · rw [z]; have := sq_nn i; omega
    · have := Int.mul_le_mul_of_nonneg_left (show (1 : Int) ≤ i.natAbs by omega) (show (0 : Int) ≤ i.natAbs by omega)
      omega
  have hb := sq b
  have he := sq e
  have ee : e * e ≤ e * e * d := by
    have := Int.mul_le_mul_of_nonneg_left (show 1 ≤ d by omega) (sq_nn e)
    omega
  have hc := h.c0
  have na : (a.natAbs : Int) ≤ (a * c).natAbs := by
    rw [Int.natAbs_mul]
    have := Nat.le_mul_of_pos_right a.natAbs (show 0 < c.natAbs by omega)
    omega
  have e4 : 4 * a * c = 4 * (a * c) := by grind
  have := sq_nn b
  have := sq_nn e
  refine ⟨by omega, by omega, by omega⟩
theorem Cf.gd (hM : M.natAbs < 2 ^ 38) : Gd 40 x := by
  obtain ⟨l1, l2, l3⟩ := h.le
  have k0 := h.k0
  have le : ∀ {u v : Int}, u = k * v → v.natAbs ≤ u.natAbs := fun {u v} e => by
    rw [e, Int.natAbs_mul]
    exact Nat.le_mul_of_pos_left _ (by omega)
  have b1 := le h.xp
  have b2 := le h.xq
  have b3 := le h.xs
  have s0 := h.s0
  refine ⟨s0, .inr ⟨h.q0, h.xd ▸ h.dr⟩, fun _ z => absurd z h.q0, ?_, ?_, ?_, ?_⟩
  · unfold Bd; omega
  · unfold Bd; omega
  · rw [h.xd]; exact h.dr.2.1.mono (by omega)
  · unfold Bd; omega
theorem Cf.de : de x = d := by
  have := h.dr.1
  unfold KK.de
  rw [h.xd, if_neg (by omega)]
theorem Cf.sg : sgn x = 1 := by
  have := h.p
  rw [h.xp, h.xq, sos_scale h.dr.1 h.k0 h.dr.2.2] at this
  unfold sgn
  rw [h.de]
  exact this
theorem Cf.flo : Flo x n ↔ 0 ≤ sos (-b - n * (2 * a)) e d ∧ sos (-b - (n + 1) * (2 * a)) e d = -1 := by
  unfold Flo FlS
  rw [h.de]
  have e1 : ∀ m : Int, -b - m * (2 * a) = k * (x.p - m * x.s) := fun m => by rw [h.xp, h.xs]; grind
  rw [e1, e1, h.xq, sos_scale h.dr.1 h.k0 h.dr.2.2, sos_scale h.dr.1 h.k0 h.dr.2.2]
theorem Cf.n0 (hn : Flo x n) : 0 ≤ n := by
  obtain ⟨_, f2⟩ := h.flo.mp hn
  rcases Int.lt_or_le n 0 with z | z
  · have := Int.mul_nonneg (show 0 ≤ -(n + 1) by omega) (show 0 ≤ 2 * a by have := h.a0; omega)
    have := sos_intN h.dr.1 h.dr.2.2 (show 0 ≤ sos (-b) e d by rw [h.p]; decide) this
    rw [show -b + -(n + 1) * (2 * a) = -b - (n + 1) * (2 * a) by grind, f2] at this
    omega
  · exact z
theorem Cf.nle (hM : M.natAbs < 2 ^ 38) (hn : Flo x n) : n ≤ b.natAbs + M.natAbs := by
  have gx := h.gd hM
  obtain ⟨hd, ir, _⟩ := gx.de
  obtain ⟨l1, _⟩ := fls_bd hd ir hn
  have n0 := h.n0 hn
  have s0 := h.s0
  have k0 := h.k0
  obtain ⟨lb, _, _⟩ := h.le
  have le : ∀ {u v : Int}, u = k * v → v.natAbs ≤ u.natAbs := fun {u v} e => by
    rw [e, Int.natAbs_mul]
    exact Nat.le_mul_of_pos_left _ (by omega)
  have b1 := le h.xp
  have b2 := le h.xq
  rw [h.de] at l1
  have d0 := h.dr.1
  have q1 : (x.q.natAbs : Int) * d ≤ e * e * d := by
    refine Int.mul_le_mul_of_nonneg_right ?_ (by omega)
    have : (e.natAbs : Int) * e.natAbs = e * e := Int.natAbs_mul_self' e
    have e0 := h.e0
    have := Int.mul_le_mul_of_nonneg_left (show (1 : Int) ≤ e.natAbs by omega) (show (0 : Int) ≤ e.natAbs by omega)
    omega
  have m1 := h.m1
  have : n ≤ n * x.s := by
    have := Int.mul_le_mul_of_nonneg_left (show 1 ≤ x.s by omega) n0
    omega
  omega
/-- the next form -/
theorem Cf.next (hM : M.natAbs < 2 ^ 38) (hn : Flo x n) : ∃ a1 b1 c1 e1 k1 : Int, Cf M (ninv (nplus x ⟨-n, 0, 0, 1⟩)) a1 b1 c1 e1 d k1 ∧ sos (-b1 - 2 * a1) e1 d = 1 ∧
    ∀ U V : Int, sos (U * (ninv (nplus x ⟨-n, 0, 0, 1⟩)).s - V * (ninv (nplus x ⟨-n, 0, 0, 1⟩)).p) (-(V * (ninv (nplus x ⟨-n, 0, 0, 1⟩)).q)) d = sos (U * x.p - (n * U + V) * x.s) (U * x.q) d := by
  have hd := h.dr.1
  have ir := h.dr.2.2
  have n0 := h.n0 hn
  obtain ⟨f1, f2⟩ := h.flo.mp hn
  have a0 := h.a0
  have k0 := h.k0
  have s0 := h.s0
  have e0 := h.e0
  have f := h.f
  generalize hb : b + 2 * a * n = b' at *
  generalize ha : a * n * n + b * n + c = a' at *
  have g1 : sos (-b') e d = 1 := by
    have := sos_e1 hd ir f1 h.e0
    rwa [show -b - n * (2 * a) = -b' by rw [← hb]; grind] at this
  have g2 : sos (-b' - 2 * a) e d = -1 := by rwa [show -b - (n + 1) * (2 * a) = -b' - 2 * a by rw [← hb]; grind] at f2
  have f' : b' * b' - 4 * a' * a = e * e * d := by rw [← f, ← hb, ← ha]; grind
  have ap : a' ≠ 0 := fun z => e0 (ir b' e (by rw [← f', z]; grind)).2
  -- the number
  have gx := h.gd hM
  have e1 : nplus x ⟨-n, 0, 0, 1⟩ = low (-b') e d (2 * a) := by
    have r : low (x.p + -n * x.s) x.q x.d x.s = low (k * (x.p + -n * x.s)) (k * x.q) x.d (k * x.s) := (low_scale x.d (by omega) (by omega)).symm
    rw [nplus_int gx, r, ← h.xq, ← h.xs, h.xd]
    congr 1
    rw [← hb]
    have h1 := h.xp
    have h2 := h.xs
    have : k * (x.p + -n * x.s) = k * x.p - n * (k * x.s) := by grind
    rw [this, ← h1, ← h2]
    grind
  have e2 : ninv (low (-b') e d (2 * a)) = low (-b') (-e) d (2 * a') := by
    obtain ⟨j, j0, p1, p2, p3, p4⟩ := low_spec (p := -b') (q := e) d (show 2 * a ≠ 0 by omega)
    have pd := low_dd (p := -b') (q := e) (d := d) (show 2 * a ≠ 0 by omega)
    generalize low (-b') e d (2 * a) = y at *
    have yq : y.q ≠ 0 := fun z => e0 (by rw [p2, z]; simp)
    rw [if_neg yq] at pd
    unfold ninv
    rw [pd]
    have t1 : (2 * a) * (-b') = (j * j) * (y.p * y.s) := by rw [p1, p3]; grind
    have t2 : (2 * a) * (-e) = (j * j) * (-y.q * y.s) := by rw [p2, p3]; grind
    have t3 : (2 * a) * (2 * a') = (j * j) * (y.p * y.p - y.q * y.q * d) := by
      have u1 : b' * b' = (j * y.p) * (j * y.p) := by rw [← p1]; grind
      have u2 : e * e = (j * y.q) * (j * y.q) := by rw [← p2]
      have u3 : (2 * a) * (2 * a') = b' * b' - e * e * d := by rw [← f']; grind
      rw [u3, u1, u2]
      grind
    have jj : j * j ≠ 0 := Int.mul_ne_zero j0 j0
    have nz : y.p * y.p - y.q * y.q * d ≠ 0 := fun z => by
      rw [z] at t3
      have : (2 * a) * (2 * a') ≠ 0 := Int.mul_ne_zero (by omega) (by omega)
      simp at t3
      omega
    rw [← low_scale d jj nz, ← t1, ← t2, ← t3, low_scale d (by omega) (by omega)]
  rw [e1, e2]
  have sg2 : ∀ U V : Int, sos (U * (low (-b') (-e) d (2 * a')).s - V * (low (-b') (-e) d (2 * a')).p) (-(V * (low (-b') (-e) d (2 * a')).q)) d = sos (U * x.p - (n * U + V) * x.s) (U * x.q) d := by
    intro U V
    obtain ⟨j, j0, p1, p2, p3, p4⟩ := low_spec (p := -b') (q := -e) d (show 2 * a' ≠ 0 by omega)
    generalize low (-b') (-e) d (2 * a') = y at *
    have sj : sgi j = sgi (2 * a') := by
      rw [p3, sgi_mul, sgi_p.mpr p4, Int.mul_one]
    have sn : sgi j ≠ 0 := fun z => j0 (sgi_z.mp z)
    have m := sos_mul hd ir (p := j * (U * y.s - V * y.p)) (q := j * (-(V * y.q))) (p' := -b') (q' := e)
    have u1 : j * (U * y.s - V * y.p) = U * (2 * a') - V * (-b') := by rw [p1, p3]; grind
    have u2 : j * (-(V * y.q)) = V * e := by
      have : V * e = -(V * -e) := by grind
      rw [this, p2]; grind
    have sc : sos (U * (-b') - V * (2 * a)) (U * e) d = sos (U * x.p - (n * U + V) * x.s) (U * x.q) d := by
      have v1 : U * (-b') - V * (2 * a) = k * (U * x.p - (n * U + V) * x.s) := by
        have h1 := h.xp
        have h2 := h.xs
        have : k * (U * x.p - (n * U + V) * x.s) = U * (k * x.p) - (n * U + V) * (k * x.s) := by grind
        rw [this, ← h1, ← h2, ← hb]
        grind
      have v2 : U * e = k * (U * x.q) := by rw [h.xq]; grind
      rw [v1, v2, sos_scale hd k0 ir]
    rw [sos_sc hd ir j0, g1, u1, u2] at m
    have w1 : (U * (2 * a') - V * -b') * -b' + V * e * e * d = (2 * a') * (U * (-b') - V * (2 * a)) := by
      have : V * e * e * d = V * (e * e * d) := by grind
      rw [this, ← f']
      grind
    have w2 : (U * (2 * a') - V * -b') * e + V * e * -b' = (2 * a') * (U * e) := by grind
    rw [w1, w2, sos_sc hd ir (by omega), ← sj, sc, Int.mul_one] at m
    exact Int.eq_of_mul_eq_mul_left sn m
  have pr := sos_prod hd ir (-b') e
  rw [g1, Int.one_mul, show -b' * -b' - e * e * d = 4 * a * a' by rw [← f']; grind] at pr
  have key : sos (2 * a' + b') e d = -sos (-b') (-e) d := by
    have := sos_mul hd ir (p := -b') (q := -e) (p' := -b' - 2 * a) (q' := e)
    rw [g2, show -b' * (-b' - 2 * a) + -e * e * d = (2 * a) * (2 * a' + b') by have : -e * e * d = -(e * e * d) := by grind
                                                                               rw [this, ← f']; grind, show -b' * e + -e * (-b' - 2 * a) = (2 * a) * e by grind, sos_scale hd (by omega) ir] at this
    omega
  have lk : ∀ {P Q S : Int}, 0 < S → Q ≠ 0 → ∃ k1, 0 < k1 ∧ P = k1 * (low P Q d S).p ∧ Q = k1 * (low P Q d S).q ∧ S = k1 * (low P Q d S).s ∧ (low P Q d S).d = d := fun {P Q S} hS hQ => by
    obtain ⟨j, j0, p1, p2, p3, p4⟩ := low_spec (p := P) (q := Q) d (show S ≠ 0 by omega)
    have pd := low_dd (p := P) (q := Q) (d := d) (show S ≠ 0 by omega)
    refine ⟨j, ?_, p1, p2, p3, ?_⟩
    · rcases Int.lt_or_gt_of_ne j0 with z | z
      · have := Int.mul_pos (show 0 < -j by omega) p4
        have e : -j * (low P Q d S).s = -(j * (low P Q d S).s) := by grind
        omega
      · exact z
    · rw [if_neg fun z => hQ (by rw [p2, z]; simp)] at pd
      exact pd
  rcases Int.lt_or_gt_of_ne ap with neg | pos
  · -- the other root is below 0 now
    have sg : sos (-b') (-e) d = -1 := by
      rw [pr, sgi_n]
      have := Int.mul_pos a0 (show 0 < -a' by omega)
      have e : a * -a' = -(a * a') := by grind
      have e4 : 4 * a * a' = 4 * (a * a') := by grind
      omega
    have el : low (-b') (-e) d (2 * a') = low (- -b') e d (2 * -a') := by
      have := low_scale (k := -1) (p := -b') (q := -e) d (by decide) (show 2 * a' ≠ 0 by omega)
      rw [← this]
      congr 1 <;> grind
    rw [el]
    obtain ⟨k1, k10, x1, x2, x3, x4⟩ := lk (P := - -b') (Q := e) (S := 2 * -a') (by omega) e0
    refine ⟨-a', -b', -a, e, k1, ⟨h.dr, by omega, e0, by rw [← f']; grind, h.m1, ?_, ?_, k10, x1, x2, x3, x4⟩, ?_, el ▸ sg2⟩
    · have := h.m1
      have := Int.mul_pos a0 (show 0 < -a' by omega)
      have e : a * -a' = -(a * a') := by grind
      have e4 : 4 * a' * a = 4 * (a * a') := by grind
      have e5 : -b' * -b' = b' * b' := by grind
      omega
    · have := sos_ng (-b') (-e) d
      rw [sg] at this
      simpa using this
    · rw [show - -b' - 2 * -a' = 2 * a' + b' by omega, key, sg]
      rfl
  · have sg : sos (-b') (-e) d = 1 := by
      rw [pr, sgi_p]
      have := Int.mul_pos a0 pos
      have e4 : 4 * a * a' = 4 * (a * a') := by grind
      omega
    obtain ⟨k1, k10, x1, x2, x3, x4⟩ := lk (P := -b') (Q := -e) (S := 2 * a') (by omega) (by omega)
    refine ⟨a', b', a, -e, k1, ⟨h.dr, pos, by omega, by rw [show -e * -e = e * e by grind]; exact f', by have := h.m1; rwa [show -e * -e = e * e by grind], ?_, sg, k10, x1, x2, x3, x4⟩, ?_, sg2⟩
    · have t := sos_addP hd ir (show 0 ≤ sos (-b') e d by rw [g1]; decide) sg
      rw [show e + -e = 0 by omega, sos_q00, sgi_p] at t
      have := Int.mul_nonneg (show 0 ≤ 2 * a by omega) n0
      have m2 := h.m2
      have := Int.mul_le_mul (show -b' ≤ -b by omega) (show -b' ≤ -b by omega) (by omega) (by omega)
      have t1 : -b' * -b' = b' * b' := by grind
      have t2 : -b * -b = b * b := by grind
      omega
    · have := sos_ng (2 * a' + b') e d
      rw [show -b' - 2 * a' = -(2 * a' + b') by omega, this, key, sg]
      rfl
end
end KK

set_option maxHeartbeats 2000000
namespace KK
open PySem PySem.Spec L2 DL
/-! ### quotients of a ratio with a root -/
theorem MQ_lt : MQ.natAbs < 2 ^ 38 := by decide
section
variable {x : Nu}
theorem Cq.gd (h : Cq x) : Gd 40 x := by
  obtain ⟨a, b, c, e, d, k, f⟩ := h
  exact f.gd MQ_lt
theorem Cq.sg (h : Cq x) : sgn x = 1 := by
  obtain ⟨a, b, c, e, d, k, f⟩ := h
  exact f.sg
theorem Cq.q0 (h : Cq x) : x.q ≠ 0 := by
  obtain ⟨a, b, c, e, d, k, f⟩ := h
  exact f.q0
theorem Cq.n0 (h : Cq x) {n : Int} (hn : Flo x n) : 0 ≤ n := by
  obtain ⟨a, b, c, e, d, k, f⟩ := h
  exact f.n0 hn
theorem Cq.next (h : Cq x) {n : Int} (hn : Flo x n) : Cq (nxt x n) ∧ ∀ m, Flo (nxt x n) m → 1 ≤ m := by
  obtain ⟨a, b, c, e, d, k, f⟩ := h
  obtain ⟨a1, b1, c1, e1, k1, f1, g1, _⟩ := f.next MQ_lt hn
  refine ⟨⟨a1, b1, c1, e1, d, k1, f1⟩, fun m hm => ?_⟩
  obtain ⟨_, m2⟩ := f1.flo.mp hm
  rcases Int.lt_or_le m 1 with z | z
  · have := Int.mul_nonneg (show 0 ≤ -m by omega) (show 0 ≤ 2 * a1 by have := f1.a0; omega)
    have := sos_intN f1.dr.1 f1.dr.2.2 (show 0 ≤ sos (-b1 - 2 * a1) e1 d by rw [g1]; decide) this
    rw [show -b1 - 2 * a1 + -m * (2 * a1) = -b1 - (m + 1) * (2 * a1) by grind, m2] at this
    omega
  · exact z
/-- the sign of U x - V -/
def sgl (x : Nu) (U V : Int) : Int := sos (U * x.p - V * x.s) (U * x.q) (de x)
theorem Cq.sgl_next (h : Cq x) {n : Int} (hn : Flo x n) (U V : Int) : sgl (nxt x n) V U = -sgl x U (n * U + V) := by
  obtain ⟨a, b, c, e, d, k, f⟩ := h
  obtain ⟨a1, b1, c1, e1, k1, f1, g1, s1⟩ := f.next MQ_lt hn
  have := s1 U V
  unfold sgl
  rw [f.de, ← this]
  have e2 : de (nxt x n) = d := f1.de
  rw [e2]
  have := sos_ng (U * (nxt x n).s - V * (nxt x n).p) (-(V * (nxt x n).q)) d
  rw [show -(U * (nxt x n).s - V * (nxt x n).p) = V * (nxt x n).p - U * (nxt x n).s by omega, show - -(V * (nxt x n).q) = V * (nxt x n).q by omega] at this
  exact this
theorem Cq.fle (h : Cq x) {n : Int} (hn : Flo x n) : n < 2 ^ 16 := by
  obtain ⟨a, b, c, e, d, k, f⟩ := h
  have := f.nle MQ_lt hn
  have hM : MQ.natAbs = 52500 := by decide
  have m2 : b * b ≤ 52500 := f.m2
  have sq : (b.natAbs : Int) * b.natAbs = b * b := Int.natAbs_mul_self' b
  have : b.natAbs < 300 := by
    rcases Nat.lt_or_ge b.natAbs 300 with z | z
    · exact z
    · have := Int.mul_le_mul (show (300 : Int) ≤ b.natAbs by omega) (show (300 : Int) ≤ b.natAbs by omega) (by omega) (by omega)
      omega
  omega
theorem Cq.nz2 (h : Cq x) {n : Int} (hn : Flo x n) : ¬ isZ (nplus x ⟨-n, 0, 0, 1⟩) := fun z => by
  obtain ⟨a, b, c, e, d, k, f⟩ := h
  have gx := f.gd MQ_lt
  have e1 := nplus_int gx (-n)
  have s0 := f.s0
  obtain ⟨j, j0, _, p2, _, _⟩ := low_spec (p := x.p + -n * x.s) (q := x.q) x.d (show x.s ≠ 0 by omega)
  rw [← e1, z.2.1] at p2
  exact f.q0 (by rw [p2]; simp)
theorem Cq.ex (h : Cq x) : ∃ n, Flo x n := flo_ex h.gd
theorem Cq.uq (h : Cq x) {n m : Int} (hn : Flo x n) (hm : Flo x m) : n = m := fls_uniq h.gd.de.1 h.gd.de.2.1 h.gd.s hn hm
end
theorem Qs_ex : ∀ (k : Nat) {x : Nu}, Cq x → ∃ l, Qs x l ∧ l.length = k
  | 0, _, _ => ⟨[], trivial, rfl⟩
  | k + 1, x, h => by
    obtain ⟨n, hn⟩ := h.ex
    obtain ⟨l, hl, e⟩ := Qs_ex k (h.next hn).1
    exact ⟨n :: l, ⟨hn, hl⟩, by rw [List.length_cons, e]⟩
theorem Qs_pre : ∀ (l m : List Int) {x : Nu}, Cq x → Qs x l → Qs x m → l.length ≤ m.length → ∃ r, m = l ++ r
  | [], m, _, _, _, _, _ => ⟨m, rfl⟩
  | n :: l, [], _, _, _, _, e => by simp at e
  | n :: l, n' :: m, x, h, h1, h2, e => by
    have := h.uq h1.1 h2.1
    subst this
    obtain ⟨r, hr⟩ := Qs_pre l m (h.next h1.1).1 h1.2 h2.2 (by simpa using e)
    exact ⟨r, by rw [hr, List.cons_append]⟩
theorem Qs_snoc : ∀ (l : List Int) {x : Nu}, Cq x → ∀ {r : List Int}, Qs x (l ++ r) → Qs x l
  | [], _, _, _, _ => trivial
  | n :: l, x, h, r, hq => ⟨hq.1, Qs_snoc l (h.next hq.1).1 hq.2⟩
theorem Qb.le {lo : Int} (h0 : lo ≤ 1) : ∀ {l : List Int}, Qb 1 l → Qb lo l
  | [], _ => trivial
  | n :: l, h => ⟨by have := h.1; omega, h.2⟩
theorem Qs_b1 : ∀ (l : List Int) {x : Nu}, Cq x → (∀ m, Flo x m → 1 ≤ m) → Qs x l → Qb 1 l
  | [], _, _, _, _ => trivial
  | n :: l, x, h, h1, hq => ⟨h1 n hq.1, h.fle hq.1, Qs_b1 l (h.next hq.1).1 (h.next hq.1).2 hq.2⟩
theorem Qs_b : ∀ (l : List Int) {x : Nu}, Cq x → Qs x l → Qb 0 l
  | [], _, _, _ => trivial
  | n :: l, x, h, hq => ⟨h.n0 hq.1, h.fle hq.1, Qs_b1 l (h.next hq.1).1 (h.next hq.1).2 hq.2⟩
end KK

set_option maxHeartbeats 2000000
namespace KK
open PySem PySem.Spec L2 DL
theorem sq_nat {i : Int} {m : Nat} (h : i.natAbs ≤ m) : i * i ≤ (m : Int) * m := by
  have : (i.natAbs : Int) * i.natAbs = i * i := Int.natAbs_mul_self' i
  have := Int.mul_le_mul (show (i.natAbs : Int) ≤ m by omega) (show (i.natAbs : Int) ≤ m by omega) (by omega) (by omega)
  omega
/-- a drawn ratio with a root -/
theorem cq_rat {x : Nu} (h : Rat x) (hq : x.q ≠ 0) : Cq x := by
  have gx := h.g
  have s0 := gx.s
  have dr := gx.dr hq
  have d0 := dr.1
  have ho := h.o
  have ed : de x = x.d := by unfold de; rw [if_neg (by omega)]
  have b1 := sq_nat h.p
  have b2 := sq_nat h.q
  have b3 := sq_nat (show x.s.natAbs ≤ 5 by have := h.s; omega)
  have n1 := sq_nn x.p
  have n2 := sq_nn x.q
  have n3 := sq_nn x.s
  have m1 := Int.mul_le_mul b2 b3 n3 (by decide)
  have m2 := Int.mul_le_mul b1 b3 n3 (by decide)
  have m3 := Int.mul_le_mul m1 h.d (by omega) (by decide)
  refine ⟨x.s * x.s, -(2 * x.s * x.p), x.p * x.p - x.q * x.q * x.d, 2 * x.s * x.q, x.d, 2 * x.s, dr, Int.mul_pos s0 s0, Int.mul_ne_zero (by omega) hq, by grind, ?_, ?_, ?_, by omega, by omega, rfl, by grind, rfl⟩
  · have e : 2 * x.s * x.q * (2 * x.s * x.q) * x.d = 4 * (x.q * x.q * (x.s * x.s) * x.d) := by grind
    rw [e]
    unfold MQ
    omega
  · have e : -(2 * x.s * x.p) * -(2 * x.s * x.p) = 4 * (x.p * x.p * (x.s * x.s)) := by grind
    rw [e]
    unfold MQ
    omega
  · rw [show - -(2 * x.s * x.p) = 2 * x.s * x.p by omega, sos_scale d0 (by omega) dr.2.2]
    unfold sgn at ho
    rwa [ed] at ho
theorem nover_one {n : Nat} {y : Nu} (gy : Gd n y) (hz : ¬ isZ y) : nover ⟨1, 0, 0, 1⟩ y = ninv y := by
  have gi : gc (ninv y).p (ninv y).q (ninv y).s = 1 := low_gc (gy.norm hz)
  have di : (ninv y).d = if (ninv y).q = 0 then 0 else y.d := low_dd (gy.norm hz)
  have si : 0 < (ninv y).s := by
    obtain ⟨_, _, _, _, _, h⟩ := low_spec (p := y.p * y.s) (q := -y.q * y.s) y.d (gy.norm hz)
    exact h
  unfold nover ntimes
  generalize ninv y = z at *
  have dz : 0 ≤ z.d := by
    rw [di]
    have := gy.d0.1
    split <;> omega
  have e : nmax (⟨1, 0, 0, 1⟩ : Nu).d z.d = z.d := (nmax_comm _ _).trans (nmax0 dz)
  rw [e]
  show low (1 * z.p + 0 * z.q * z.d) (1 * z.q + 0 * z.p) z.d (1 * z.s) = z
  rw [show 1 * z.p + 0 * z.q * z.d = z.p by simp, show 1 * z.q + 0 * z.p = z.q by simp, Int.one_mul, low_one si gi]
  have : (if z.q = 0 then 0 else z.d) = z.d := by
    rw [di]
    split <;> simp
  rw [this]
/-! ### words -/
/-- A a's and L b's in front -/
def Pl (x : Nu) (A L : Int) : Prop := 0 ≤ sgl x (L + 1) A ∧ sgl x L (A + 1) = -1
theorem pl_cnt {x : Nu} {A L : Int} (h : Pl x A L) : Cnt x (A + L) L := by
  obtain ⟨h1, h2⟩ := h
  unfold sgl at h1 h2
  refine ⟨?_, ?_⟩
  · have := sos_ng (L * x.p - (A + 1) * x.s) (L * x.q) (de x)
    rw [h2] at this
    rw [show (A + L + 1) * x.s - L * (x.s + x.p) = -(L * x.p - (A + 1) * x.s) by grind, this]
    rfl
  · rwa [show (L + 1) * (x.s + x.p) - (A + L + 1) * x.s = (L + 1) * x.p - A * x.s by grind]
def Wp (x : Nu) : Int → Int → List Bool → Prop
  | A, L, [] => Pl x A L
  | A, L, b :: l => Pl x A L ∧ (if b then Wp x (A + 1) L l else Wp x A (L + 1) l)
theorem Wp.hd {x : Nu} : ∀ {l : List Bool} {A L : Int}, Wp x A L l → Pl x A L
  | [], _, _, h => h
  | _ :: _, _, _, h => h.1
theorem Wp.pre {x : Nu} : ∀ {l m : List Bool} {A L : Int}, Wp x A L (l ++ m) → Wp x A L l
  | [], _, _, _, h => Wp.hd h
  | true :: l, m, _, _, h => ⟨h.1, Wp.pre (l := l) h.2⟩
  | false :: l, m, _, _, h => ⟨h.1, Wp.pre (l := l) h.2⟩
theorem Wp.at {x : Nu} : ∀ {l : List Bool} {A L : Int}, Wp x A L l → ∀ i : Nat, i < l.length → ∃ M M' : Int, Cnt x (A + L + i) M ∧ Cnt x (A + L + i + 1) M' ∧ l[i]? = some (decide (M' ≤ M))
  | true :: l, A, L, h, 0, _ => ⟨L, L, by simpa using pl_cnt h.1, by
      have := pl_cnt (Wp.hd (l := l) h.2)
      rwa [show A + 1 + L = A + L + (0 : Nat) + 1 by omega] at this, by simp⟩
  | false :: l, A, L, h, 0, _ => ⟨L, L + 1, by simpa using pl_cnt h.1, by
      have := pl_cnt (Wp.hd (l := l) h.2)
      rwa [show A + (L + 1) = A + L + (0 : Nat) + 1 by omega] at this, by
        show some false = _
        rw [decide_eq_false (by omega)]⟩
  | true :: l, A, L, h, i + 1, hi => by
    obtain ⟨M, M', h1, h2, h3⟩ := Wp.at (l := l) h.2 i (by simpa using hi)
    refine ⟨M, M', ?_, ?_, h3⟩
    · rwa [show A + L + ((i + 1 : Nat) : Int) = A + 1 + L + i by omega]
    · rwa [show A + L + ((i + 1 : Nat) : Int) + 1 = A + 1 + L + i + 1 by omega]
  | false :: l, A, L, h, i + 1, hi => by
    obtain ⟨M, M', h1, h2, h3⟩ := Wp.at (l := l) h.2 i (by simpa using hi)
    refine ⟨M, M', ?_, ?_, h3⟩
    · rwa [show A + L + ((i + 1 : Nat) : Int) = A + (L + 1) + i by omega]
    · rwa [show A + L + ((i + 1 : Nat) : Int) + 1 = A + (L + 1) + i + 1 by omega]
theorem wp_wrd {x : Nu} {l : List Bool} (h : Wp x 0 0 l) : Wrd x l := fun i hi => by
  obtain ⟨M, M', h1, h2, h3⟩ := h.at i hi
  refine ⟨M, M', ?_, ?_, h3⟩
  · rwa [show (0 : Int) + 0 + i = i by omega] at h1
  · rwa [show (0 : Int) + 0 + i + 1 = i + 1 by omega] at h2
/-- a becomes n a's and a b, b an a -/
def phi (n : Nat) : List Bool → List Bool
  | [] => []
  | true :: l => List.replicate n true ++ false :: phi n l
  | false :: l => true :: phi n l
theorem phi_app (n : Nat) : ∀ l m : List Bool, phi n (l ++ m) = phi n l ++ phi n m
  | [], _ => rfl
  | true :: l, m => by
    show List.replicate n true ++ false :: phi n (l ++ m) = (List.replicate n true ++ false :: phi n l) ++ phi n m
    rw [phi_app n l m]; simp
  | false :: l, m => by
    show true :: phi n (l ++ m) = true :: phi n l ++ phi n m
    rw [phi_app n l m]; rfl
theorem sgl_mono {n : Nat} {x : Nu} (gx : Gd n x) {U V V' : Int} (h : 0 ≤ sgl x U V) (e : V' ≤ V) : 0 ≤ sgl x U V' := by
  unfold sgl at *
  have := sos_intN gx.de.1 gx.de.2.1 h (Int.mul_nonneg (show 0 ≤ V - V' by omega) (Int.le_of_lt gx.s))
  rwa [show U * x.p - V * x.s + (V - V') * x.s = U * x.p - V' * x.s by grind] at this
theorem sgl_neg {n : Nat} {x : Nu} (gx : Gd n x) (hq : x.q ≠ 0) {U V V' : Int} (h : sgl x U V = -1) (e : V ≤ V') : sgl x U V' = -1 := by
  rcases sos_rg (U * x.p - V' * x.s) (U * x.q) (de x) with z | z | z
  · exact z
  · have := sgl_mono gx (V := V') (V' := V) (U := U) (by unfold sgl; rw [z]; decide) e
    omega
  · have := sgl_mono gx (V := V') (V' := V) (U := U) (by unfold sgl; rw [z]; decide) e
    omega
theorem pl_phi {x : Nu} (h : Cq x) {n : Nat} (hn : Flo x n) {A L : Int} (hA : 0 ≤ A) (hL : 0 ≤ L) (hp : Pl (nxt x n) A L) (j : Nat) (hj : j ≤ n) : Pl x (n * A + L + j) A := by
  obtain ⟨p1, p2⟩ := hp
  have gx := h.gd
  rw [h.sgl_next hn] at p1 p2
  refine ⟨?_, ?_⟩
  · refine sgl_mono gx (V := n * (A + 1) + L) ?_ ?_
    · omega
    · have : (n : Int) * (A + 1) = n * A + n := by grind
      omega
  · refine sgl_neg gx h.q0 (V := n * A + (L + 1)) ?_ (by omega)
    rcases sos_rg (A * x.p - (n * A + (L + 1)) * x.s) (A * x.q) (de x) with z | z | z
    · exact z
    · exfalso
      obtain ⟨z1, z2⟩ := sos_z gx.de.1 gx.de.2.1 z
      have a0 : A = 0 := by
        rcases Int.mul_eq_zero.mp z2 with y | y
        · exact y
        · exact absurd y h.q0
      rw [a0] at z1
      have := Int.mul_pos (show 0 < L + 1 by omega) gx.s
      have e : 0 * x.p - ((n : Int) * 0 + (L + 1)) * x.s = -((L + 1) * x.s) := by grind
      omega
    · exfalso
      have : sgl x A (n * A + (L + 1)) = 1 := z
      omega
theorem wp_run {x : Nu} {B : Int} {r : List Bool} : ∀ (k : Nat) (A : Int), (∀ j : Nat, j ≤ k → Pl x (A + j) B) → Wp x (A + k) (B + 1) r → Wp x A B (List.replicate k true ++ false :: r)
  | 0, A, h, hr => ⟨by simpa using h 0 (by omega), by simpa using hr⟩
  | k + 1, A, h, hr => ⟨by simpa using h 0 (by omega), wp_run k (A + 1) (fun j hj => by
      have := h (j + 1) (by omega)
      rwa [show A + ((j + 1 : Nat) : Int) = A + 1 + j by omega] at this) (by rwa [show A + ((k + 1 : Nat) : Int) = A + 1 + k by omega] at hr)⟩
theorem wp_phi {x : Nu} (h : Cq x) {n : Nat} (hn : Flo x n) : ∀ {l : List Bool} {A L : Int}, 0 ≤ A → 0 ≤ L → Wp (nxt x n) A L l → Wp x (n * A + L) A (phi n l)
  | [], A, L, hA, hL, hp => by
    have := pl_phi h hn hA hL hp 0 (by omega)
    show Pl x (n * A + L) A
    simpa using this
  | true :: l, A, L, hA, hL, hp => by
    refine wp_run n _ (fun j hj => pl_phi h hn hA hL hp.1 j hj) ?_
    have := wp_phi h hn (l := l) (show 0 ≤ A + 1 by omega) hL hp.2
    rwa [show (n : Int) * (A + 1) + L = n * A + L + n by grind] at this
  | false :: l, A, L, hA, hL, hp => by
    have h0 := pl_phi h hn hA hL hp.1 0 (by omega)
    refine ⟨by simpa using h0, ?_⟩
    have := wp_phi h hn (l := l) hA (show 0 ≤ L + 1 by omega) hp.2
    rwa [show (n : Int) * A + (L + 1) = n * A + L + 1 by omega] at this
end KK

set_option maxHeartbeats 2000000
namespace KK
open PySem PySem.Spec L2 DL
/-! ### own lists seen -/
section
variable {ρ : DSt} {a b : TED} {i : Nat} {io : Bool} {ds : List PyData} {z : PyData} {D : DEnds} {n : TSD}
theorem vw_own (h : ρ[i]? = some (.own io ds)) {k : PyData → Prop} (q : k (.list ds)) : vw ρ (.s i) k := by
  show (match ρ[i]? with | some (.val d) => k d | some (.own _ ds) => k (.list ds) | _ => False)
  rw [h]
  exact q
theorem eo_len (h : ρ[i]? = some (.own io ds)) : Ev (dF1 fLen (dVar i)) ρ (.int (ds.length : Nat)) := fun Q k => by
  refine ⟨by rw [h]; trivial, vw_own h ?_⟩
  exact k _ (fun _ h => h) (fun _ h => h)
theorem eo_at {j : Int} (h : ρ[i]? = some (.own io ds)) (hb : Ev b ρ (.int j)) (e : atI ds j = some z) : Ev (dOp atD (dVar i) b) ρ z := fun Q k => by
  refine ⟨by rw [h]; trivial, ?_⟩
  refine hb _ fun r2 h2 _ => vw_own h (h2 _ ?_)
  show (match atI ds j with | some d => Q (.d d) ρ | none => False)
  rw [e]
  exact k _ (fun _ h => h) (fun _ h => h)
theorem s_app (h : ρ[i]? = some (.own io ds)) (ha : Ev a ρ z) (hl : ds.length ≤ 10000) (k : D.nx (ρ.set i (.own io (ds ++ [z])))) : sApp i a D ρ := by
  refine ⟨by unfold ownK; rw [h]; trivial, ha _ fun r _ h2 => ?_⟩
  refine h2 (fun d ρ2 => ownK ρ2 i fun io ds => ds.length < sizeLine ∧ D.nx (ρ2.set i (.own io (ds ++ [d])))) ?_
  unfold ownK
  rw [h]
  exact ⟨by rw [sizeLine_eq]; omega, k⟩
theorem s_appS (h : ρ[i]? = some (.own io ds)) (ha : Ev a ρ z) (hl : ds.length ≤ 10000) (k : n D (ρ.set i (.own io (ds ++ [z])))) : sSeq (sApp i a) n D ρ := s_app (D := { D with nx := n D }) h ha hl k
theorem s_own {dr : TND} {zs : List PyData} (h : EvA dr ρ zs) (hl : zs.length ≤ 1000) (hi : i < ρ.length) (k : n D (ρ.set i (.own false zs))) : sSeq (sOwn i (nLst dr)) n D ρ := h _ ⟨by rw [sizeLine_eq]; omega, hi, k⟩
theorem at_last (l : List PyData) (z : PyData) : atI (l ++ [z]) (-1) = some z := by
  have e : ixN (l ++ [z]).length (-1) = some l.length := by
    unfold ixN
    rw [if_neg (by omega), List.length_append, if_pos (by simp; omega)]
    congr 1
    simp
    omega
  unfold atI
  rw [e]
  simp
theorem at_last2 (l : List PyData) (y z : PyData) : atI (l ++ [y, z]) (-2) = some y := by
  have e : ixN (l ++ [y, z]).length (-2) = some l.length := by
    unfold ixN
    rw [if_neg (by omega), List.length_append, if_pos (by simp; omega)]
    congr 1
    simp
    omega
  unfold atI
  rw [e]
  simp
theorem ev_ng1 {k : Int} : Ev (dNeg (dC (.int k))) ρ (.int (-k)) := ev_neg ev_c
end
/-! ### the quotient behind some quotients -/
def qr : Nu → List Int → Nu
  | x, [] => x
  | x, n :: l => qr (nxt x n) l
theorem qr_snoc : ∀ (l : List Int) {x : Nu}, Cq x → Qs x l → Cq (qr x l) ∧ ∀ n, Flo (qr x l) n → Qs x (l ++ [n]) ∧ qr x (l ++ [n]) = nxt (qr x l) n
  | [], x, h, _ => ⟨h, fun n hn => ⟨⟨hn, trivial⟩, rfl⟩⟩
  | m :: l, x, h, hq => by
    obtain ⟨h1, h2⟩ := qr_snoc l (h.next hq.1).1 hq.2
    refine ⟨h1, fun n hn => ?_⟩
    obtain ⟨h3, h4⟩ := h2 n hn
    exact ⟨⟨hq.1, h3⟩, h4⟩
theorem ivs_snoc (l : List Int) (n : Int) : ivs (l ++ [n]) = ivs l ++ [.int n] := by unfold ivs; rw [List.map_append]; rfl
theorem ivs_len (l : List Int) : (ivs l).length = l.length := List.length_map _
theorem Cq.nz {x : Nu} (h : Cq x) : ¬ isZ x := sgn_ne h.sg
end KK

set_option maxHeartbeats 2000000
namespace KK
open PySem PySem.Spec L2 DL
/-! ### states and quotients -/
theorem isb_ok (n : Nat) : ∀ (k r : Nat), r * r ≤ n → n < (r + 2 ^ k) * (r + 2 ^ k) → isb n k r * isb n k r ≤ n ∧ n < (isb n k r + 1) * (isb n k r + 1)
  | 0, r, h1, h2 => ⟨h1, by simpa [isb] using h2⟩
  | k + 1, r, h1, h2 => by
    unfold isb
    by_cases c : (r + 2 ^ k) * (r + 2 ^ k) ≤ n
    · rw [if_pos c]
      refine isb_ok n k (r + 2 ^ k) c ?_
      have e : r + 2 ^ k + 2 ^ k = r + 2 ^ (k + 1) := by rw [Nat.pow_succ]; omega
      rw [e]; exact h2
    · rw [if_neg c]
      exact isb_ok n k r h1 (by omega)
theorem isb_isqr {a : Int} (h0 : 0 ≤ a) (h : a < 2 ^ 24) : isqr a (isb a.toNat 12 0 : Nat) := by
  obtain ⟨h1, h2⟩ := isb_ok a.toNat 12 0 (by omega) (by omega)
  refine ⟨by omega, ?_, ?_⟩
  · have : ((isb a.toNat 12 0 * isb a.toNat 12 0 : Nat) : Int) ≤ (a.toNat : Int) := by exact_mod_cast h1
    rw [Int.natCast_mul] at this
    omega
  · have : (a.toNat : Int) < (((isb a.toNat 12 0 + 1) * (isb a.toNat 12 0 + 1) : Nat) : Int) := by exact_mod_cast h2
    rw [Int.natCast_mul] at this
    have e : ((isb a.toNat 12 0 + 1 : Nat) : Int) = (isb a.toNat 12 0 : Nat) + 1 := by omega
    rw [e] at this
    omega
theorem flz_fl {x : Nu} (h0 : 0 ≤ x.q * x.q * x.d) (h : x.q * x.q * x.d < 2 ^ 24) : Fl x (flz x) := ⟨_, isb_isqr h0 h, rfl⟩
theorem Cq.small {y : Nu} (h : Cq y) : 0 ≤ y.q * y.q * y.d ∧ y.q * y.q * y.d < 2 ^ 24 := by
  obtain ⟨a, b, c, e, d, k, H⟩ := h
  have d0 := H.dr.1
  have hk := H.k0
  have e1 := H.xq
  have ed := H.xd
  have m := H.m1
  have n := sq_nn y.q
  rw [ed]
  have n1 := Int.mul_nonneg n (Int.le_of_lt d0)
  refine ⟨n1, ?_⟩
  have kk : 1 ≤ k * k := by have := Int.mul_pos hk hk; omega
  have : y.q * y.q * d ≤ k * k * (y.q * y.q * d) := by
    have := Int.mul_le_mul_of_nonneg_right kk n1
    omega
  have e2 : e * e * d = k * k * (y.q * y.q * d) := by rw [e1]; grind
  unfold MQ at m
  omega
theorem cnl_low {p q d s : Int} (hs : s ≠ 0) (hd : True) : Cnl (low p q d s) := by
  obtain ⟨_, _, _, _, _, h⟩ := low_spec (p := p) (q := q) d hs
  exact ⟨h, low_gc hs, fun z => by rw [low_dd hs, if_pos z]⟩
theorem cnl_eq {x : Nu} (h : Cnl x) : low x.p x.q x.d x.s = x := by
  obtain ⟨h1, h2, h3⟩ := h
  unfold low
  have e : sg x.s = 1 := by unfold sg; rw [if_neg (by omega)]
  rw [h2, e]
  have : (if x.q = 0 then 0 else x.d) = x.d := by split; exact (h3 (by assumption)).symm; rfl
  rw [this]
  simp
theorem shf_flz (y : Nu) (v : Int) (hs : 0 < y.s) : flz (shf y v) = flz y + v := by
  unfold flz shf
  dsimp only
  split
  · rw [show y.p + v * y.s + (isb (y.q * y.q * y.d).toNat 12 0 : Nat) = y.p + (isb (y.q * y.q * y.d).toNat 12 0 : Nat) + v * y.s by omega, Int.add_mul_ediv_right _ _ (by omega)]
  · rw [show y.p + v * y.s - (isb (y.q * y.q * y.d).toNat 12 0 : Nat) - 1 = y.p - (isb (y.q * y.q * y.d).toNat 12 0 : Nat) - 1 + v * y.s by omega, Int.add_mul_ediv_right _ _ (by omega)]
theorem shf_rs (y : Nu) (v : Int) (hs : 0 < y.s) : rs (shf y v) = rs y := by
  unfold rs
  rw [shf_flz y v hs]
  unfold nplus shf
  dsimp only
  congr 1
  grind
theorem shf_nx (y : Nu) (v : Int) (hs : 0 < y.s) : nx (shf y v) = nx y := by unfold nx; rw [shf_rs y v hs]
theorem shf0 (y : Nu) : shf y 0 = y := by unfold shf; simp
theorem Kq.of {x : Nu} (h : Cq x) (c : Cnl x) : Kq x := ⟨c, .inl ⟨x, 0, h, c, by decide, by decide, (shf0 x).symm⟩⟩
theorem Kq.gd {x : Nu} (h : Kq x) : Gd 70 x := by
  obtain ⟨_, ⟨y, v, hy, _, v0, v9, rfl⟩ | h⟩ := h
  · have g := hy.gd
    have q0 := hy.q0
    obtain ⟨b1, b2, b3, b4⟩ := g.b
    refine ⟨g.s, g.r, fun _ z => absurd z q0, ?_, b2.mono (by omega), b3.mono (by omega), b4.mono (by omega)⟩
    have bv : Bd 4 v := by unfold Bd; omega
    exact (b1.mono (m := 60) (by omega)).add ((bv.mul b4).mono (m := 60) (by omega)) (by omega)
  · exact h.g
theorem Kq.small {x : Nu} (h : Kq x) : 0 ≤ x.q * x.q * x.d ∧ x.q * x.q * x.d < 2 ^ 24 := by
  obtain ⟨_, ⟨y, v, hy, _, v0, v9, rfl⟩ | h⟩ := h
  · exact hy.small
  · rw [h.q]; simp
theorem Kq.fl {x : Nu} (h : Kq x) : Fl x (flz x) := flz_fl h.small.1 h.small.2
theorem Kq.flo {x : Nu} (h : Kq x) : Flo x (flz x) := flo_of_fl h.gd h.fl
theorem Cq.flz {y : Nu} (h : Cq y) : Flo y (flz y) := flo_of_fl h.gd (flz_fl h.small.1 h.small.2)
theorem Kq.bd {x : Nu} (h : Kq x) : Bd 107 (flz x) := flo_bd h.gd (by omega) h.flo
theorem Kq.rs {x : Nu} (h : Kq x) : Gd 200 (rs x) := by
  have := Gd_plus h.gd (nint_Gd (v := -KK.flz x) h.bd.neg (by omega)) (rts_int _ x).2 (by omega)
  exact this.mono (by omega)

/-! ### going on -/
theorem Kq.next {x y : Nu} (h : Kq x) (e : nx x = some y) : Kq y := by
  unfold nx at e
  by_cases z : isZ (KK.rs x)
  · rw [if_pos z] at e; cases e
  · rw [if_neg z] at e
    cases e
    have nn := h.rs.norm z
    have cy : Cnl (ninv (KK.rs x)) := cnl_low nn trivial
    obtain ⟨_, ⟨y, v, hy, _, v0, v9, rfl⟩ | hr⟩ := h
    · have e1 := shf_rs y v hy.gd.s
      rw [e1] at cy ⊢
      exact .of (hy.next hy.flz).1 cy
    · refine ⟨cy, .inr ?_⟩
      have gx := hr.g
      have s0 := gx.s
      have ef : KK.flz x = x.p / x.s := by
        unfold KK.flz
        rw [hr.q]
        simp [isb]
      have p0 := hr.p
      have f0 : 0 ≤ KK.flz x := by rw [ef]; exact Int.ediv_nonneg p0 (by omega)
      have em : x.p - KK.flz x * x.s = x.p % x.s := by
        have := Int.mul_ediv_add_emod x.p x.s
        rw [ef]
        have e := Int.mul_comm (x.p / x.s) x.s
        omega
      have m0 := Int.emod_nonneg x.p (show x.s ≠ 0 by omega)
      have m1 := Int.emod_lt_of_pos x.p s0
      have er : KK.rs x = low (x.p % x.s) 0 x.d x.s := by
        unfold KK.rs
        rw [nplus_int gx, hr.q, show x.p + -KK.flz x * x.s = x.p - KK.flz x * x.s by grind, em]
      obtain ⟨k, hk, e1, e2, e3, e4⟩ := low_spec (p := x.p % x.s) (q := 0) x.d (show x.s ≠ 0 by omega)
      rw [← er] at e1 e2 e3 e4
      have rq : (KK.rs x).q = 0 := by
        rcases Int.mul_eq_zero.mp e2.symm with z | z
        · exact absurd z hk
        · exact z
      have k0 : 0 < k := by
        rcases Int.lt_or_gt_of_ne hk with c | c
        · have := Int.mul_pos (show 0 < -k by omega) e4
          rw [show -k * (KK.rs x).s = -(k * (KK.rs x).s) by grind] at this
          omega
        · exact c
      have rp : 0 ≤ (KK.rs x).p := by
        rcases Int.lt_or_le (KK.rs x).p 0 with c | c
        · have := Int.mul_pos k0 (show 0 < -(KK.rs x).p by omega)
          rw [show k * -(KK.rs x).p = -(k * (KK.rs x).p) by grind] at this
          omega
        · exact c
      have le : ∀ {a b : Int}, 0 ≤ b → a = k * b → b ≤ a := fun {a b} hb h => by
        have := Int.mul_le_mul_of_nonneg_right (show 1 ≤ k by omega) hb
        omega
      have l1 := le rp e1
      have l2 := le (Int.le_of_lt e4) e3
      obtain ⟨b1, b2, b3, b4⟩ := gx.b
      have rd : (KK.rs x).d = 0 := by rw [er, low_dd (by omega), ← er, if_pos rq]
      generalize KK.rs x = r at *
      have rp1 : 0 < r.p := by
        rcases Int.lt_or_eq_of_le rp with c | c
        · exact c
        · exfalso
          have c1 : r.p * r.p - r.q * r.q * r.d = 0 := by rw [← c, rq]; simp
          exact nn c1
      have ei : ninv r = low (r.p * r.s) (r.p * 0) r.d (r.p * r.p) := by
        unfold ninv
        rw [rq]
        congr 1 <;> grind
      rw [ei, low_scale _ (by omega) (by omega)]
      have g : Gd 70 (low r.s 0 r.d r.p) := low_Gd' (by omega) (fun z => absurd rfl z) (b4.of (by omega) (by omega)) (bd0 _) (b4.of (by omega) (by omega)) (by omega)
      obtain ⟨k', hk', f1, f2, f3, f4⟩ := low_spec (p := r.s) (q := 0) r.d (show r.p ≠ 0 by omega)
      refine ⟨g, ?_, ?_⟩
      · rcases Int.mul_eq_zero.mp f2.symm with z | z
        · exact absurd z hk'
        · exact z
      · have k0' : 0 < k' := by
          rcases Int.lt_or_gt_of_ne hk' with c | c
          · have := Int.mul_pos (show 0 < -k' by omega) f4
            rw [show -k' * (low r.s 0 r.d r.p).s = -(k' * (low r.s 0 r.d r.p).s) by grind] at this
            omega
          · exact c
        rcases Int.lt_or_le (low r.s 0 r.d r.p).p 0 with c | c
        · have := Int.mul_pos k0' (show 0 < -(low r.s 0 r.d r.p).p by omega)
          rw [show k' * -(low r.s 0 r.d r.p).p = -(k' * (low r.s 0 r.d r.p).p) by grind] at this
          omega
        · exact c
theorem Kq.st {x : Nu} (h : Kq x) : ∀ (i : Nat) {y : Nu}, KK.st x i = some y → Kq y
  | 0, y, e => by cases e; exact h
  | i + 1, y, e => by
    unfold KK.st at e
    cases q : KK.st x i with
    | none => rw [q] at e; cases e
    | some z => rw [q] at e; exact (h.st i q).next e
theorem st_shift (x : Nu) : ∀ i : Nat, st x (i + 1) = (nx x).bind fun y => st y i
  | 0 => by
    show nx x = _
    cases nx x <;> rfl
  | i + 1 => by
    show (st x (i + 1)).bind nx = _
    rw [st_shift x i]
    cases nx x <;> rfl
theorem st_none {x : Nu} {i : Nat} (h : st x i = none) : ∀ j, i ≤ j → st x j = none := by
  intro j hj
  induction j with
  | zero =>
    have : i = 0 := by omega
    subst this
    exact h
  | succ j ih =>
    rcases Nat.lt_or_ge j i with c | c
    · have : i = j + 1 := by omega
      subst this; exact h
    · show (st x j).bind nx = none
      rw [ih c]; rfl
theorem ninv_ninv {n : Nat} {r : Nu} (g : Gd n r) (hz : ¬ isZ r) (c : Cnl r) : ninv (ninv r) = r := by
  have nn := g.norm hz
  have s0 := g.s
  obtain ⟨k, hk, e1, e2, e3, e4⟩ := low_spec (p := r.p * r.s) (q := -r.q * r.s) r.d nn
  have ed := low_dd (p := r.p * r.s) (q := -r.q * r.s) (d := r.d) nn
  change r.p * r.s = k * (ninv r).p at e1
  change -r.q * r.s = k * (ninv r).q at e2
  change r.p * r.p - r.q * r.q * r.d = k * (ninv r).s at e3
  change 0 < (ninv r).s at e4
  change (ninv r).d = if (ninv r).q = 0 then 0 else r.d at ed
  generalize ninv r = y at *
  have qd : y.q * y.q * y.d = y.q * y.q * r.d := by
    rw [ed]; split
    · rename_i z; rw [z]; simp
    · rfl
  have kn : (k * k) * (y.p * y.p - y.q * y.q * y.d) = (r.p * r.p - r.q * r.q * r.d) * (r.s * r.s) := by
    have a1 : (k * k) * (y.p * y.p - y.q * y.q * y.d) = (k * y.p) * (k * y.p) - (k * y.q) * (k * y.q) * r.d := by rw [qd]; grind
    rw [a1, ← e1, ← e2]
    grind
  have ny : y.p * y.p - y.q * y.q * y.d ≠ 0 := fun z => by
    rw [z, Int.mul_zero] at kn
    rcases Int.mul_eq_zero.mp kn.symm with q | q
    · exact nn q
    · rcases Int.mul_eq_zero.mp q with q | q <;> omega
  refine Eq.trans ?_ (cnl_eq c)
  show low (y.p * y.s) (-y.q * y.s) y.d (y.p * y.p - y.q * y.q * y.d) = low r.p r.q r.d r.s
  have kk : k * k ≠ 0 := Int.mul_ne_zero hk hk
  refine low_eq ny (by omega) ?_ ?_ ?_
  · refine Int.eq_of_mul_eq_mul_left kk ?_
    have a1 : k * k * (y.p * y.s * r.s) = (k * y.p) * (k * y.s) * r.s := by grind
    have a2 : k * k * (r.p * (y.p * y.p - y.q * y.q * y.d)) = r.p * ((k * k) * (y.p * y.p - y.q * y.q * y.d)) := by grind
    rw [a1, a2, kn, ← e1, ← e3]
    grind
  · refine Int.eq_of_mul_eq_mul_left kk ?_
    have a1 : k * k * (-y.q * y.s * r.s) = -(k * y.q) * (k * y.s) * r.s := by grind
    have a2 : k * k * (r.q * (y.p * y.p - y.q * y.q * y.d)) = r.q * ((k * k) * (y.p * y.p - y.q * y.q * y.d)) := by grind
    rw [a1, a2, kn, ← e2, ← e3]
    grind
  · intro h
    rw [ed, if_neg]
    intro z
    rw [z] at h
    simp at h
/-- x = n + 1 / y -/
theorem Kq.back {x y : Nu} (h : Kq x) (e : nx x = some y) : nplus (nint (KK.flz x)) (nover ⟨1, 0, 0, 1⟩ y) = x := by
  have ky := h.next e
  have gr := h.rs
  have gx := h.gd
  have s0 := gx.s
  unfold nx at e
  by_cases z : isZ (KK.rs x)
  · rw [if_pos z] at e; cases e
  · rw [if_neg z] at e
    cases e
    have er : KK.rs x = low (x.p + -KK.flz x * x.s) x.q x.d x.s := nplus_int gx _
    have cr : Cnl (KK.rs x) := by rw [er]; exact cnl_low (by omega) trivial
    have hz : ¬ isZ (ninv (KK.rs x)) := fun c => by
      have i1 := ninv_ninv gr z cr
      obtain ⟨c1, c2, c3, c4⟩ := c
      have i2 : ninv (ninv (KK.rs x)) = low 0 0 0 0 := by unfold ninv at *; rw [c1, c2, c3]; simp
      have : 0 < (KK.rs x).s := gr.s
      rw [← i1, i2] at this
      exact absurd this (by decide)
    rw [nover_one ky.gd hz, ninv_ninv gr z cr]
    obtain ⟨k, hk, e1, e2, e3, e4⟩ := low_spec (p := x.p + -KK.flz x * x.s) (q := x.q) x.d (show x.s ≠ 0 by omega)
    have ed := low_dd (p := x.p + -KK.flz x * x.s) (q := x.q) (d := x.d) (show x.s ≠ 0 by omega)
    rw [← er] at e1 e2 e3 e4 ed
    have d0 := gr.d0.1
    conv => rhs; rw [← cnl_eq h.1]
    unfold nplus nint
    dsimp only
    have nm : nmax 0 (KK.rs x).d = (KK.rs x).d := by unfold nmax; split <;> omega
    rw [nm]
    generalize KK.rs x = r at *
    refine low_eq (by omega) (by omega) ?_ ?_ ?_
    · rw [e3] at e1 ⊢
      grind
    · rw [e3, e2]
      grind
    · intro hq
      rw [ed, if_neg]
      intro c
      rw [c] at hq
      simp at hq
end KK

set_option maxHeartbeats 2000000
namespace KK
open PySem PySem.Spec L2 DL
theorem ints_shp {ns : List Int} : SeqAt.shaped (.list (ns.map PyData.int)) = true ∧ SeqAt.shaped (.tuple (ns.map PyData.int)) = true := by
  have a : PyData.canLayAll0 (ns.map PyData.int) = true := by
    induction ns with
    | nil => rfl
    | cons n ns ih => rw [List.map_cons]; unfold PyData.canLayAll0; rw [ih]; rfl
  have b : PyData.depthAll (ns.map PyData.int) = 0 := ints_dep ns
  constructor
  · show (PyData.canLay0 _ && decide _) = true
    unfold PyData.canLay0 PyData.depth
    rw [a, b]; rfl
  · show (PyData.canLay0 _ && decide _) = true
    unfold PyData.canLay0 PyData.depth
    rw [a, b]; rfl
theorem cutN (ds : List PyData) (n : Nat) : cutD ds none (some (n : Int)) = ds.take n := by
  unfold cutD
  rw [HT.sIx_none, HT.sIx_nat, List.drop_zero, Nat.sub_zero]
  rcases Nat.le_total n ds.length with h | h
  · rw [Nat.min_eq_left h]
  · rw [Nat.min_eq_right h, List.take_of_length_le (Nat.le_refl _), List.take_of_length_le h]
theorem cutM (ds : List PyData) (n : Nat) : cutD ds (some (n : Int)) none = ds.drop n := by
  unfold cutD
  rw [HT.sIx_none, HT.sIx_nat]
  rcases Nat.le_total n ds.length with h | h
  · rw [Nat.min_eq_left h, List.take_of_length_le (by rw [List.length_drop]; exact Nat.le_refl _)]
  · rw [Nat.min_eq_right h, List.drop_length, List.drop_eq_nil_of_le h, List.take_nil]
theorem nu_eqv3 (x y : Nu) : PyData.eqv x.D y.D = decide (x.p = y.p ∧ x.q = y.q ∧ x.d = y.d ∧ x.s = y.s) := by
  show PyData.eqvAll [.int x.p, .int x.q, .int x.d, .int x.s] [.int y.p, .int y.q, .int y.d, .int y.s] = _
  simp only [PyData.eqvAll, PyData.eqv, Bool.and_true, Bool.beq_eq_decide_eq]
  by_cases h1 : x.p = y.p <;> by_cases h2 : x.q = y.q <;> by_cases h3 : x.d = y.d <;> by_cases h4 : x.s = y.s <;> simp [h1, h2, h3, h4]
theorem ivs_shp (l : List Int) : SeqAt.shaped (.list (ivs l)) = true ∧ SeqAt.shaped (.tuple (ivs l)) = true := ints_shp
/-! ### lists of quotients -/
theorem ql_eq : ∀ (k : Nat) (x : Nu), ql k x = (List.range k).filterMap fun j => (st x j).map flz
  | 0, x => rfl
  | k + 1, x => by
    rw [List.range_succ_eq_map, List.filterMap_cons]
    show flz x :: _ = flz x :: _
    congr 1
    rw [List.filterMap_map]
    cases e : nx x with
    | none =>
      have : ∀ j, st x (j + 1) = none := fun j => by rw [st_shift, e]; rfl
      have ef : ((fun j => (st x j).map flz) ∘ Nat.succ) = fun _ => (none : Option Int) := funext fun j => by show (st x (j + 1)).map flz = none; rw [this j]; rfl
      rw [ef]
      simp
    | some y =>
      have : ∀ j, st x (j + 1) = st y j := fun j => by rw [st_shift, e]; rfl
      show ql k y = _
      rw [ql_eq k y]
      have ef : ((fun j => (st x j).map flz) ∘ Nat.succ) = fun j => (st y j).map flz := funext fun j => by show (st x (j + 1)).map flz = _; rw [this j]
      rw [ef]
theorem ql_seg (k : Nat) (x : Nu) : ql k x = qseg x 0 k := by rw [ql_eq]; unfold qseg; rw [List.range_eq_range', Nat.sub_zero]
theorem ql_succ (k : Nat) (x : Nu) : ql (k + 1) x = ql k x ++ (match st x k with | some y => [flz y] | none => []) := by
  rw [ql_eq, ql_eq, List.range_succ, List.filterMap_append]
  congr 1
  cases e : st x k <;> simp [e]
theorem ql_len {x : Nu} : ∀ {k : Nat}, (∀ j, j < k → st x j ≠ none) → (ql k x).length = k
  | 0, _ => rfl
  | k + 1, h => by
    rw [ql_succ, List.length_append, ql_len fun j hj => h j (by omega)]
    cases e : st x k with
    | none => exact absurd e (h k (by omega))
    | some y => rfl
theorem ql_end {x : Nu} {i : Nat} (h : st x i = none) : ∀ k, i ≤ k → ql k x = ql i x := by
  intro k hk
  induction k with
  | zero =>
    have : i = 0 := by omega
    rw [this]
  | succ k ih =>
    rcases Nat.lt_or_ge k i with c | c
    · have : i = k + 1 := by omega
      rw [this]
    · rw [ql_succ, st_none h k c, ih c]; simp
theorem ql_len_le (x : Nu) : ∀ k : Nat, (ql k x).length ≤ k
  | 0 => Nat.le_refl _
  | k + 1 => by
    rw [ql_succ, List.length_append]
    have := ql_len_le x k
    cases st x k <;> simp <;> omega
theorem qseg_app (x : Nu) {i j n : Nat} (h1 : i ≤ j) (h2 : j ≤ n) : qseg x i n = qseg x i j ++ qseg x j n := by
  unfold qseg
  rw [← List.filterMap_append]
  congr 1
  have := List.range'_append (s := i) (m := j - i) (n := n - j) (step := 1)
  rw [show i + 1 * (j - i) = j by omega] at this
  rw [this]
  congr 1
  omega
/-! ### one step's expressions -/
section
variable {ρ : DSt} {W : WD} {a b : TED} {y : Nu}
theorem ev_fl13 (h : Kq y) (ha : Ev a ρ y.D) : Ev (dCall p_floor W (dCons a dNil)) ρ (.int (flz y)) := ev_flo (h.gd.mono (by omega)) ha h.flo
theorem ev_rs13 (h : Kq y) (ha : Ev a ρ y.D) (hb : Ev b ρ (.int (flz y))) : Ev (dCall p_minus W (dCons a (dCons (dCall p_whole W (dCons b dNil)) dNil))) ρ (rs y).D := by
  have gi : Gd 200 (nint (flz y)) := nint_Gd (h.bd.mono (by omega)) (by omega)
  exact ev_call (zs := [y.D, (nint (flz y)).D]) (eva_cons ha (eva_cons (ev_whole hb) eva_nil)) fun QD ED hq => ⟨_, _, rfl, (rts_int (flz y) y).2, nb_mono h.gd.b (by omega), nb_mono gi.b (by omega), by have := h.gd.s; omega, by have := gi.s; omega, hq⟩
theorem ev_z13 {r : Nu} (ha : Ev a ρ r.D) : EvT (dTest (dOp dEq a (dC d_ZERO))) ρ (decide (isZ r)) := by
  refine evt_as (evt_eqD (z := d_ZERO) ha ev_c (nu_shaped _) rfl) ?_
  show PyData.eqv _ (⟨0, 0, 0, 1⟩ : Nu).D = _
  rw [nu_eqv3]
  rfl
theorem one13 : Gd 100 ⟨1, 0, 0, 1⟩ := nint_Gd ((show Bd 1 1 by unfold Bd; decide).mono (by omega)) (by omega)
theorem ev_over13 {n : Nat} {r : Nu} {o : TED} (gr : Gd n r) (hn : n ≤ 1000) (hz : ¬ isZ r) (ho : Ev o ρ (⟨1, 0, 0, 1⟩ : Nu).D) (ha : Ev a ρ r.D) : Ev (dCall p_over W (dCons o (dCons a dNil))) ρ (ninv r).D := by
  refine ev_as (ev_call (zs := [(⟨1, 0, 0, 1⟩ : Nu).D, r.D]) (eva_cons ho (eva_cons ha eva_nil)) fun QD ED hq => ⟨⟨1, 0, 0, 1⟩, _, rfl, fun h => absurd rfl h, nb_mono one13.b (by omega), nb_mono gr.b hn, by decide, by have := gr.s; omega, gr.norm hz, hq⟩) ?_
  rw [nover_one gr hz]
theorem ev_ov13 (h : Kq y) (hz : ¬ isZ (rs y)) (ha : Ev a ρ (rs y).D) : Ev (dCall p_over W (dCons (dC d_ONE) (dCons a dNil))) ρ (ninv (rs y)).D := ev_over13 h.rs (by omega) hz ev_c ha
theorem nx_some (h : ¬ isZ (rs y)) : nx y = some (ninv (rs y)) := by unfold nx; rw [if_neg h]
theorem nx_none (h : isZ (rs y)) : nx y = none := by unfold nx; rw [if_pos h]
end
/-- here: a state or None -/
def hv : Option Nu → PyData
  | some y => y.D
  | none => .none
theorem ev_isNot13 {ρ : DSt} {a : TED} {o : Option Nu} (ha : Ev a ρ (hv o)) : EvT (dTest (dOp dIsNot a (dC .none))) ρ o.isSome := by
  cases o with
  | some y => exact evt_test (ev_op (z := .bool true) ha ev_c fun k hk => hk)
  | none => exact evt_test (ev_op (z := .bool false) ha ev_c fun k hk => hk)
theorem pure_quotients (α : List SD) (QD : Ret → List SD → Prop) (ED : Exd → List SD → Prop) (W : WD) (hW : W = fun e ρ => outK α ρ fun α' => ED e α') (h : p_quotients α QD ED) : r_quotients W (DEnd α QD) (startD n_quotients.length α) := by
  obtain ⟨x, k, rfl, hx, hk, hq⟩ := h
  have st0 : startD n_quotients.length [.val x.D, iv k] = [.val x.D, iv k, .no, .no, .no] := rfl
  rw [st0]
  unfold r_quotients
  refine s_own eva_nil (by simp) (show 2 < 5 by decide) ?_
  refine s_set (ev_var 0 rfl) ?_
  show sSeq (sWhile _ _) _ _ [.val x.D, iv k, .own false [], .val x.D, .no]
  refine s_while (fun m ρ => ∃ (i : Nat) (j : SD), ρ = [.val x.D, iv k, .own false (ivs (ql i x)), .val (hv (st x i)), j] ∧ (∀ j, j < i → st x j ≠ none) ∧ i ≤ k ∧ m = k - i) ⟨_, 0, .no, rfl, fun j hj => absurd hj (Nat.not_lt_zero _), Nat.zero_le _, rfl⟩ ?_
  rintro m _ ⟨i, j, rfl, hi, hik, rfl⟩
  have ll := ql_len hi
  have el := eo_len (ρ := [.val x.D, iv k, .own false (ivs (ql i x)), .val (hv (st x i)), j]) (i := 2) rfl
  rw [ivs_len, ll] at el
  refine ⟨decide ((i : Int) < k) && (st x i).isSome, evt_and (evt_lt el (ev_var 1 rfl)) fun _ => ev_isNot13 (ev_var 3 rfl), fun hu => ?_, fun hu => ?_⟩
  · rw [Bool.and_eq_true] at hu
    have lt : i < k := by have := of_decide_eq_true hu.1; omega
    obtain ⟨y, hy⟩ := Option.isSome_iff_exists.mp hu.2
    have ky := hx.st i hy
    rw [hy]
    have e2 : ql (i + 1) x = ql i x ++ [flz y] := by rw [ql_succ, hy]
    refine s_appS rfl (ev_fl13 ky (ev_var 3 rfl)) (by rw [ivs_len, ll]; omega) ?_
    rw [← ivs_snoc, ← e2]
    show sSeq (sSet 4 _) _ _ [.val x.D, iv k, .own false (ivs (ql (i + 1) x)), .val y.D, j]
    refine s_set (z := (rs y).D) (ev_rs13 ky (ev_var 3 rfl) (eo_at (z := .int (flz y)) rfl ev_ng1 (by rw [e2, ivs_snoc]; exact at_last _ _))) ?_
    show sSet 3 _ _ [.val x.D, iv k, .own false (ivs (ql (i + 1) x)), .val y.D, .val (rs y).D]
    have es : st x (i + 1) = nx y := by show (st x i).bind nx = _; rw [hy]; rfl
    have fin : ∀ o, o = nx y → ∃ m', m' < k - i ∧ ∃ (i' : Nat) (j' : SD), [SD.val x.D, iv k, .own false (ivs (ql (i + 1) x)), .val (hv o), .val (rs y).D] = [.val x.D, iv k, .own false (ivs (ql i' x)), .val (hv (st x i')), j'] ∧ (∀ j, j < i' → st x j ≠ none) ∧ i' ≤ k ∧ m' = k - i' := fun o ho => by
      subst ho
      refine ⟨k - (i + 1), by omega, i + 1, .val (rs y).D, by rw [es], fun j hj => ?_, lt, rfl⟩
      rcases Nat.lt_or_ge j i with c | c
      · exact hi j c
      · have : j = i := by omega
        subst this
        rw [hy]
        exact fun z => nomatch z
    by_cases z : isZ (rs y)
    · exact s_set1 (z := .none) (ev_ifT (evt_as (ev_z13 (ev_var 4 rfl)) (decide_eq_true z)) ev_c) (fin none (nx_none z).symm)
    · exact s_set1 (z := (ninv (rs y)).D) (ev_ifF (evt_as (ev_z13 (ev_var 4 rfl)) (decide_eq_false z)) (ev_ov13 ky z (ev_var 4 rfl))) (fin (some (ninv (rs y))) (nx_some z).symm)
  · have e : ql i x = ql k x := by
      rw [Bool.and_eq_false_iff] at hu
      rcases hu with c | c
      · have ge := of_decide_eq_false c
        have : i = k := by omega
        rw [this]
      · have : st x i = none := by cases q : st x i with | none => rfl | some y => rw [q] at c; cases c
        exact (ql_end this k hik).symm
    rw [e]
    exact hq
/-! ### quotient_at -/
theorem ev_lenT {ρ : DSt} {a : TED} {ds : List PyData} (h : Ev a ρ (.tuple ds)) : Ev (dF1 fLen a) ρ (.int (ds.length : Nat)) := ev_f1 h fun k hk => hk
theorem atI_nat {α : Type} {l : List α} {i : Nat} {x : α} (h : l[i]? = some x) : atI l (i : Int) = some x := by
  have hn : i < l.length := (List.getElem?_eq_some_iff.mp h).1
  have h0 : ¬ ((i : Int) < 0) := by omega
  unfold atI ixN
  simp [hn]
  exact (List.getElem?_eq_some_iff.mp h).2
theorem ivs_get {l : List Int} {i : Nat} {q : Int} (h : l[i]? = some q) : (ivs l)[i]? = some (.int q) := by unfold ivs; rw [List.getElem?_map, h]; rfl
theorem ev_atT {ρ : DSt} {a b : TED} {ds : List PyData} {i : Nat} {z : PyData} (ha : Ev a ρ (.tuple ds)) (hb : Ev b ρ (.int i)) (e : ds[i]? = some z) : Ev (dOp atD a b) ρ z := ev_op ha hb fun k hk => by
  show (match atI ds (i : Int) with | some d => k d | none => False)
  rw [atI_nat e]
  exact hk
theorem pure_quotient_at (α : List SD) (QD : Ret → List SD → Prop) (ED : Exd → List SD → Prop) (W : WD) (hW : W = fun e ρ => outK α ρ fun α' => ED e α') (h : p_quotient_at α QD ED) : r_quotient_at W (DEnd α QD) (startD n_quotient_at.length α) := by
  obtain ⟨f, g, i, rfl, hq⟩ := h
  have st0 : startD n_quotient_at.length [.val (prt f g), iv i] = [.val (prt f g), iv i, .no, .no] := rfl
  rw [st0]
  unfold r_quotient_at
  refine s_asg (ev_var 0 rfl) (unpack2 ?_)
  show sSeq _ _ _ [.val (prt f g), iv i, .val (.tuple (ivs f)), .val (.tuple (ivs g))]
  have lf : Ev (dF1 fLen (dVar 2)) [.val (prt f g), iv i, .val (.tuple (ivs f)), .val (.tuple (ivs g))] (.int (f.length : Nat)) := by
    have := ev_lenT (ρ := [.val (prt f g), iv i, .val (.tuple (ivs f)), .val (.tuple (ivs g))]) (a := dVar 2) (ds := ivs f) (ev_var 2 rfl)
    rwa [ivs_len] at this
  have lg : Ev (dF1 fLen (dVar 3)) [.val (prt f g), iv i, .val (.tuple (ivs f)), .val (.tuple (ivs g))] (.int (g.length : Nat)) := by
    have := ev_lenT (ρ := [.val (prt f g), iv i, .val (.tuple (ivs f)), .val (.tuple (ivs g))]) (a := dVar 3) (ds := ivs g) (ev_var 3 rfl)
    rwa [ivs_len] at this
  have t1 := evt_lt (ρ := [.val (prt f g), iv i, .val (.tuple (ivs f)), .val (.tuple (ivs g))]) (ev_var 1 rfl) lf
  unfold qat at hq
  by_cases c : i < f.length
  · rw [List.getElem?_eq_getElem c] at hq
    refine s_seq (s_ifT (evt_as t1 (decide_eq_true (by omega))) ?_)
    exact s_ret (z := .int f[i]) (ev_atT (ev_var 2 rfl) (ev_var 1 rfl) (ivs_get (List.getElem?_eq_getElem c))) hq
  · rw [List.getElem?_eq_none (by omega)] at hq
    refine s_seq (s_ifF (evt_as t1 (decide_eq_false (by omega))) ?_)
    have t2 : EvT (dTest (dOp dNe (dVar 3) (dTup dNil))) [.val (prt f g), iv i, .val (.tuple (ivs f)), .val (.tuple (ivs g))] (!decide (g = [])) := by
      refine evt_as (evt_neD (y := .tuple (ivs g)) (z := .tuple []) (ev_var 3 rfl) (ev_tup eva_nil (by simp)) (ivs_shp g).2 rfl) ?_
      cases g <;> rfl
    by_cases hg : g = []
    · rw [if_pos hg] at hq
      exact s_ret (z := .none) (ev_ifF (evt_as t2 (by rw [decide_eq_true hg]; rfl)) ev_c) hq
    · rw [if_neg hg] at hq
      have gl : 0 < g.length := by cases g with | nil => exact absurd rfl hg | cons _ _ => simp
      have ml : (i - f.length) % g.length < g.length := Nat.mod_lt _ gl
      rw [List.getElem?_eq_getElem ml] at hq
      refine s_ret (z := .int g[(i - f.length) % g.length]) (ev_ifT (evt_as t2 (by rw [decide_eq_false hg]; rfl)) (ev_atT (ev_var 3 rfl) (ev_as (ev_mod (ev_sub (ev_var 1 rfl) lf) lg (by omega)) ?_) (ivs_get (List.getElem?_eq_getElem ml)))) hq
      congr 1
      rw [show (i : Int) - (f.length : Nat) = ((i - f.length : Nat) : Int) by omega]
      rw [Int.fmod_eq_emod_of_nonneg _ (by omega)]
      exact (Int.natCast_emod _ _).symm
end KK

set_option maxHeartbeats 2000000
namespace KK
open PySem PySem.Spec L2 DL
section
variable {ρ : DSt} {a b : TED} {i : Nat} {io : Bool} {ds : List PyData} {z y : PyData} {D : DEnds} {n : TSD}
/-- a slot's list, own or not -/
def Ls (ρ : DSt) (i : Nat) (ds : List PyData) : Prop := ρ[i]? = some (.val (.list ds)) ∨ ∃ io, ρ[i]? = some (.own io ds)
theorem Ls.vw {ρ : DSt} {i : Nat} {ds : List PyData} (h : Ls ρ i ds) {k : PyData → Prop} (q : k (.list ds)) : vw ρ (.s i) k := by
  show (match ρ[i]? with | some (.val d) => k d | some (.own _ ds) => k (.list ds) | _ => False)
  rcases h with h | ⟨io, h⟩ <;> (rw [h]; exact q)
theorem Ls.ok {ρ : DSt} {i : Nat} {ds : List PyData} (h : Ls ρ i ds) : (match ρ[i]? with | some (.val _) => True | some (.own _ _) => True | _ => False) := by
  rcases h with h | ⟨io, h⟩ <;> (rw [h]; trivial)
theorem ls_rev (h : Ls ρ i ds) : Ev (dNew (nRev (dVar i))) ρ (.list ds.reverse) := fun Q k => ⟨h.ok, h.vw (k := fun x => match x with | .list ds => Q (.d (.list ds.reverse)) ρ | _ => False) (k _ (fun _ h => h) (fun _ h => h))⟩
theorem ls_cut {e1 e2 : TOD} {lo hi : Option Int} (h : Ls ρ i ds) (h1 : ∀ Q : Option Int → DSt → Prop, Q lo ρ → e1 ρ Q) (h2 : ∀ Q : Option Int → DSt → Prop, Q hi ρ → e2 ρ Q) : Ev (dNew (nSl (dVar i) e1 e2)) ρ (.list (cutD ds lo hi)) := fun Q k =>
  ⟨h.ok, h1 _ (h2 _ (h.vw (k := fun x => match x with | .list ds => Q (.d (.list (cutD ds lo hi))) ρ | _ => False) (k _ (fun _ h => h) (fun _ h => h))))⟩
theorem o_none : ∀ Q : Option Int → DSt → Prop, Q none ρ → oNone ρ Q := fun Q h => h
theorem o_int {v : Int} (h : Ev a ρ (.int v)) : ∀ Q : Option Int → DSt → Prop, Q (some v) ρ → oSome a ρ Q := fun Q q => h _ fun r h1 _ => h1 (fun x => match x with | .int i => Q (some i) ρ | _ => False) q
end
/-! ### the dict -/
theorem ev_notD {ρ : DSt} {a : TED} {i : Nat} {es : List (List Int × Int)} {ks : List Int} (h : ρ[i]? = some (.res false (dctR es))) (ha : Ev a ρ (.tuple (ks.map PyData.int))) : Ev (dNotD i a) ρ (.bool (!(lk es ks).isSome)) := fun Q k =>
  ha _ fun r h1 _ => h1 (fun x => asInts x fun ks => dctK ρ i fun es => Q (.d (.bool (!(lk es ks).isSome))) ρ) ⟨ks, rfl, es, h, k _ (fun _ h => h) (fun _ h => h)⟩
theorem ev_getD {ρ : DSt} {a : TED} {i : Nat} {es : List (List Int × Int)} {ks : List Int} {n : Int} (h : ρ[i]? = some (.res false (dctR es))) (ha : Ev a ρ (.tuple (ks.map PyData.int))) (hl : lk es ks = some n) : Ev (dGetD i a) ρ (.int n) := fun Q k =>
  ⟨⟨es, h, trivial⟩, ha _ fun r h1 _ => h1 (fun x => asInts x fun ks => dctK ρ i fun es => ∃ n, lk es ks = some n ∧ Q (.d (.int n)) ρ) ⟨ks, rfl, es, h, n, hl, k _ (fun _ h => h) (fun _ h => h)⟩⟩
theorem s_putD {ρ : DSt} {a b : TED} {i : Nat} {es : List (List Int × Int)} {ks : List Int} {v : Int} {n : TSD} {D : DEnds} (h : ρ[i]? = some (.res false (dctR es))) (ha : Ev a ρ (.int v)) (hb : Ev b ρ (.tuple (ks.map PyData.int))) (hl : es.length < 1000000) (hk : lk es ks = none)
    (k : n D (ρ.set i (.res false (dctR (es ++ [(ks, v)]))))) : sSeq (sPutD i a b) n D ρ :=
  ha _ fun r h1 _ => h1 (fun x => asInt0 x fun v => dctK ρ i (fun _ => True) ∧ b ρ fun r2 ρ2 => vw ρ2 r2 fun y => asInts y fun ks => dctK ρ2 i fun es => es.length < 1000000 ∧ lk es ks = none ∧ n D (ρ2.set i (.res false (dctR (es ++ [(ks, v)])))))
    ⟨v, rfl, ⟨es, h, trivial⟩, hb _ fun r2 h2 _ => h2 (fun y => asInts y fun ks => dctK ρ i fun es => es.length < 1000000 ∧ lk es ks = none ∧ n D (ρ.set i (.res false (dctR (es ++ [(ks, v)]))))) ⟨ks, rfl, es, h, hl, hk, k⟩⟩
theorem s_parD {ρ : DSt} {i j : Nat} {n : TSD} {D : DEnds} (hi : i < ρ.length) (hj : j < ρ.length) (k : n D ((ρ.set i (.own false [])).set j (.res false (dctR [])))) : sSeq (sParD i j (nLst dNil)) n D ρ := ⟨Nat.zero_le _, hi, hj, k⟩
def kx (y : Nu) : List Int := [y.p, y.q, y.d, y.s]
theorem kx_D (y : Nu) : y.D = .tuple ((kx y).map PyData.int) := rfl
theorem kx_inj {x y : Nu} (h : kx x = kx y) : x = y := by
  cases x; cases y
  simp only [kx, List.cons.injEq, and_true] at h
  obtain ⟨h1, h2, h3, h4⟩ := h
  subst h1 h2 h3 h4
  rfl
def es13 (x : Nu) (i : Nat) : List (List Int × Int) := (List.range i).map fun (j : Nat) => (kx ((st x j).getD x), (j : Int))
theorem es13_s {x y : Nu} {i : Nat} (h : st x i = some y) : es13 x i ++ [(kx y, (i : Int))] = es13 x (i + 1) := by
  unfold es13
  rw [List.range_succ, List.map_append, List.map_singleton, h]
  rfl
theorem lk13 {x y : Nu} {i : Nat} (hs : ∀ j, j < i → st x j ≠ none) : (lk (es13 x i) (kx y) = none ∧ ∀ j, j < i → st x j ≠ some y) ∨ ∃ j, j < i ∧ lk (es13 x i) (kx y) = some (j : Int) ∧ st x j = some y := by
  unfold lk
  cases e : (es13 x i).find? fun e => decide (e.1 = kx y) with
  | none =>
    refine .inl ⟨rfl, fun j hj hy => ?_⟩
    rw [List.find?_eq_none] at e
    have := e (kx ((st x j).getD x), (j : Int)) (List.mem_map.mpr ⟨j, List.mem_range.mpr hj, rfl⟩)
    rw [hy] at this
    exact this (decide_eq_true rfl)
  | some z =>
    have h1 := List.find?_some e
    have h2 := List.mem_of_find?_eq_some e
    obtain ⟨j, hj, rfl⟩ := List.mem_map.mp h2
    rw [List.mem_range] at hj
    refine .inr ⟨j, hj, rfl, ?_⟩
    have h3 := of_decide_eq_true h1
    cases q : st x j with
    | none => exact absurd q (hs j hj)
    | some w =>
      rw [q] at h3
      rw [kx_inj (show kx w = kx y from h3)]
theorem st_one {x : Nu} {i : Nat} (h : st x i ≠ none) : ∃ y, st x i = some y := by
  cases e : st x i with
  | none => exact absurd e h
  | some y => exact ⟨y, rfl⟩
theorem pure_expansion (α : List SD) (QD : Ret → List SD → Prop) (ED : Exd → List SD → Prop) (W : WD) (hW : W = fun e ρ => outK α ρ fun α' => ED e α') (h : p_expansion α QD ED) : r_expansion W (DEnd α QD) (startD n_expansion.length α) := by
  obtain ⟨x, rfl, hx, hh, hq⟩ := h
  have st0 : startD n_expansion.length [.val x.D] = [.val x.D, .no, .no, .no, .no, .no] := rfl
  rw [st0]
  unfold r_expansion
  refine s_parD (by simp) (by simp) ?_
  refine s_set (ev_var 0 rfl) ?_
  show sSeq (sWhile _ _) _ _ [.val x.D, .own false [], .res false (dctR []), .val x.D, .no, .no]
  refine s_while (fun m ρ => ∃ (i : Nat) (y : Nu) (j : SD), ρ = [.val x.D, .own false (ivs (ql i x)), .res false (dctR (es13 x i)), .val y.D, j, .no] ∧ st x i = some y ∧ (∀ j, j ≤ i → st x j ≠ none) ∧ (∀ a b, a < b → b < i → st x a ≠ st x b) ∧ i ≤ 399 ∧ m = 400 - i)
    ⟨_, 0, x, .no, rfl, rfl, (fun j hj => by
      have : j = 0 := by omega
      subst this
      exact (fun z => nomatch z)), (fun a b _ hb => absurd hb (Nat.not_lt_zero _)), by omega, rfl⟩ ?_
  rintro m _ ⟨i, y, j, rfl, hy, hs, hd, hi, rfl⟩
  have ky := hx.st i hy
  have ll := ql_len (k := i) fun j hj => hs j (by omega)
  refine ⟨_, evt_test (ev_notD (ks := kx y) rfl (ev_var 3 rfl)), fun hu => ?_, fun hu => ?_⟩
  · rcases lk13 (x := x) (y := y) (i := i) fun j hj => hs j (by omega) with ⟨l1, l2⟩ | ⟨j', _, l1, _⟩
    · have hd' : ∀ a b, a < b → b < i + 1 → st x a ≠ st x b := fun a b h1 h2 => by
        rcases Nat.lt_or_ge b i with c | c
        · exact hd a b h1 c
        · have : b = i := by omega
          subst this
          rw [hy]
          exact l2 a h1
      have i9 : i < 399 := by
        obtain ⟨n, n1, n2⟩ := hh
        rcases Nat.lt_or_ge i n with c | c
        · omega
        · exfalso
          rcases n2 with n2 | ⟨i', n2, n3⟩
          · exact hs n c n2
          · exact hd' i' n n2 (by omega) n3
      have el := eo_len (ρ := [.val x.D, .own false (ivs (ql i x)), .res false (dctR (es13 x i)), .val y.D, j, .no]) (i := 1) rfl
      rw [ivs_len, ll] at el
      refine s_seq (s_ifF (evt_as (evt_eqD (y := .int i) (z := .int 400) el ev_c) ?_) ?_)
      · show ((i : Int) == 400) = false
        rw [beq_eq_false_iff_ne]
        omega
      refine s_putD (ks := kx y) (v := i) rfl el (ev_var 3 rfl) (by unfold es13; rw [List.length_map, List.length_range]; omega) l1 ?_
      rw [es13_s hy]
      show sSeq (sApp 1 _) _ _ [.val x.D, .own false (ivs (ql i x)), .res false (dctR (es13 x (i + 1))), .val y.D, j, .no]
      have e2 : ql (i + 1) x = ql i x ++ [flz y] := by rw [ql_succ, hy]
      refine s_appS rfl (ev_fl13 ky (ev_var 3 rfl)) (by rw [ivs_len, ll]; omega) ?_
      rw [← ivs_snoc, ← e2]
      show sSeq (sSet 4 _) _ _ [.val x.D, .own false (ivs (ql (i + 1) x)), .res false (dctR (es13 x (i + 1))), .val y.D, j, .no]
      refine s_set (z := (rs y).D) (ev_rs13 ky (ev_var 3 rfl) (eo_at (z := .int (flz y)) rfl ev_ng1 (by rw [e2, ivs_snoc]; exact at_last _ _))) ?_
      show sSeq (sIf _ _ _) _ _ [.val x.D, .own false (ivs (ql (i + 1) x)), .res false (dctR (es13 x (i + 1))), .val y.D, .val (rs y).D, .no]
      have es : st x (i + 1) = nx y := by show (st x i).bind nx = _; rw [hy]; rfl
      by_cases z : isZ (rs y)
      · refine s_seq (s_ifT (evt_as (ev_z13 (ev_var 4 rfl)) (decide_eq_true z)) ?_)
        refine s_ret (z := prt (ql (i + 1) x) []) (ev_tup (zs := [.tuple (ivs (ql (i + 1) x)), .tuple []]) (eva_cons (fun Q k => ⟨trivial, ?_⟩) (eva_cons (ev_tup eva_nil (by simp)) eva_nil)) (by simp)) ?_
        · exact vw_own (k := fun x => fTup x fun z => Q (.d z) _) rfl (k _ (fun _ h => h) (fun _ h => h))
        · refine hq _ _ (.inl ⟨i + 1, by omega, by omega, by rw [es, nx_none z], fun j hj => hs j (by omega), ql_seg _ _, rfl⟩)
      · refine s_chk (evt_as (ev_z13 (ev_var 4 rfl)) (decide_eq_false z)) ?_
        have hn : st x (i + 1) = some (ninv (rs y)) := by rw [es, nx_some z]
        show sSet 3 _ _ [.val x.D, .own false (ivs (ql (i + 1) x)), .res false (dctR (es13 x (i + 1))), .val y.D, .val (rs y).D, .no]
        refine s_set1 (z := (ninv (rs y)).D) (ev_ov13 ky z (ev_var 4 rfl)) ?_
        refine ⟨400 - (i + 1), by omega, i + 1, ninv (rs y), .val (rs y).D, rfl, hn, fun j hj => ?_, hd', by omega, rfl⟩
        rcases Nat.lt_or_ge j (i + 1) with c | c
        · exact hs j (by omega)
        · have : j = i + 1 := by omega
          subst this
          rw [hn]
          exact (fun z => nomatch z)
    · rw [l1] at hu
      cases hu
  · rcases lk13 (x := x) (y := y) (i := i) fun j hj => hs j (by omega) with ⟨l1, l2⟩ | ⟨j', j1, l1, l2⟩
    · rw [l1] at hu
      cases hu
    · refine s_set (ev_getD (ks := kx y) rfl (ev_var 3 rfl) l1) ?_
      show sRet _ _ [.val x.D, .own false (ivs (ql i x)), .res false (dctR (es13 x i)), .val y.D, j, iv j']
      have cl : ∀ n, (ivs (ql i x)).take n = ivs ((ql i x).take n) := fun n => by unfold ivs; rw [List.map_take]
      have cd : ∀ n, (ivs (ql i x)).drop n = ivs ((ql i x).drop n) := fun n => by unfold ivs; rw [List.map_drop]
      have ls : Ls [.val x.D, .own false (ivs (ql i x)), .res false (dctR (es13 x i)), .val y.D, j, iv j'] 1 (ivs (ql i x)) := .inr ⟨false, rfl⟩
      have lj : (qseg x 0 j').length = j' := by rw [← ql_seg]; exact ql_len fun j hj => hs j (by omega)
      have sp : ql i x = qseg x 0 j' ++ qseg x j' i := by rw [ql_seg]; exact qseg_app x (Nat.zero_le _) (by omega)
      have t1 : Ev (dF1 fTup (dNew (nSl (dVar 1) (oNone) (oSome (dVar 5))))) [.val x.D, .own false (ivs (ql i x)), .res false (dctR (es13 x i)), .val y.D, j, iv j'] (.tuple (ivs (qseg x 0 j'))) := by
        have := ls_cut ls o_none (o_int (a := dVar 5) (v := j') (ev_var 5 rfl))
        rw [cutN, cl, sp, List.take_left' lj] at this
        rw [sp]
        exact ev_f1 this fun k hk => hk
      have t2 : Ev (dF1 fTup (dNew (nSl (dVar 1) (oSome (dVar 5)) (oNone)))) [.val x.D, .own false (ivs (ql i x)), .res false (dctR (es13 x i)), .val y.D, j, iv j'] (.tuple (ivs (qseg x j' i))) := by
        have := ls_cut ls (o_int (a := dVar 5) (v := j') (ev_var 5 rfl)) o_none
        rw [cutM, cd, sp, List.drop_left' lj] at this
        rw [sp]
        exact ev_f1 this fun k hk => hk
      refine s_ret (z := prt (qseg x 0 j') (qseg x j' i)) (ev_tup (zs := [.tuple (ivs (qseg x 0 j')), .tuple (ivs (qseg x j' i))]) (eva_cons t1 (eva_cons t2 eva_nil)) (by simp)) ?_
      exact hq _ _ (.inr ⟨j', i, j1, by omega, by rw [l2, hy], hs, hd, rfl, rfl⟩)
end KK

set_option maxHeartbeats 2000000
namespace KK
open PySem PySem.Spec L2 DL
/-! ### back along the quotients -/
theorem Kq.inv {x y : Nu} (h : Kq x) (e : nx x = some y) : ¬ isZ y ∧ ninv y = KK.rs x ∧ ¬ isZ (KK.rs x) := by
  have gr := h.rs
  have gx := h.gd
  have s0 := gx.s
  unfold nx at e
  by_cases z : isZ (KK.rs x)
  · rw [if_pos z] at e; cases e
  · rw [if_neg z] at e
    cases e
    have er : KK.rs x = low (x.p + -KK.flz x * x.s) x.q x.d x.s := nplus_int gx _
    have cr : Cnl (KK.rs x) := by rw [er]; exact cnl_low (by omega) trivial
    refine ⟨fun c => ?_, ninv_ninv gr z cr, z⟩
    have i1 := ninv_ninv gr z cr
    obtain ⟨c1, c2, c3, c4⟩ := c
    have i2 : ninv (ninv (KK.rs x)) = low 0 0 0 0 := by unfold ninv at *; rw [c1, c2, c3]; simp
    have : 0 < (KK.rs x).s := gr.s
    rw [← i1, i2] at this
    exact absurd this (by decide)
theorem Kq.back' {x y : Nu} (h : Kq x) (e : nx x = some y) : nplus (nint (KK.flz x)) (KK.rs x) = x := by
  have := h.back e
  obtain ⟨h1, h2, _⟩ := h.inv e
  rwa [nover_one (h.next e).gd h1, h2] at this
theorem chn_snoc : ∀ (f : List Int) (q : Int) {y x : Nu}, Chn (f ++ [q]) y x → ∃ y', Chn f y' x ∧ flz y' = q ∧ nx y' = some y
  | [], q, y, x, h => by
    obtain ⟨h1, x1, h2, h3⟩ := h
    have h3 : x1 = y := h3
    subst h3
    exact ⟨x, rfl, h1, h2⟩
  | a :: f, q, y, x, h => by
    obtain ⟨h1, x1, h2, h3⟩ := h
    obtain ⟨y', e1, e2, e3⟩ := chn_snoc f q h3
    exact ⟨y', ⟨h1, x1, h2, e1⟩, e2, e3⟩
theorem chn_kq : ∀ (f : List Int) {y x : Nu}, Kq x → Chn f y x → Kq y
  | [], y, x, h, c => by
    have c : x = y := c
    rwa [← c]
  | a :: f, y, x, h, ⟨_, x1, h2, h3⟩ => chn_kq f (h.next h2) h3
theorem chn_ql : ∀ (m : Nat) {y x : Nu}, st x m = some y → Chn (ql m x) y x
  | 0, y, x, h => by cases h; rfl
  | m + 1, y, x, h => by
    rw [st_shift] at h
    cases e : nx x with
    | none => rw [e] at h; cases h
    | some x1 =>
      rw [e] at h
      have : ql (m + 1) x = flz x :: ql m x1 := by show flz x :: _ = _; rw [e]
      rw [this]
      exact ⟨rfl, x1, e, chn_ql m h⟩
theorem cont_loop {W : WD} {D : DEnds} {c0 c1 : SD} {x : Nu} (hx : Kq x) (k : ∀ j, D.nx [c0, c1, .val x.D, j]) : ∀ (r : List Int) (y : Nu) (j : SD), Chn r.reverse y x →
    forD (gName' 3) (sSet 2 (dCall p_plus W (dCons (dCall p_whole W (dCons (dVar 3) (dNil))) (dCons (dCall p_over W (dCons (dC d_ONE) (dCons (dVar 2) (dNil)))) (dNil))))) D (ivs r) [c0, c1, .val y.D, j]
  | [], y, j, h => by
    have h : x = y := h
    subst h
    exact k j
  | q :: r, y, j, h => by
    rw [List.reverse_cons] at h
    obtain ⟨y', e1, e2, e3⟩ := chn_snoc _ _ h
    have ky' := chn_kq _ hx e1
    obtain ⟨n1, n2, n3⟩ := ky'.inv e3
    have ky := ky'.next e3
    show sSet 2 _ _ [c0, c1, .val y.D, iv q]
    have gi : Gd 200 (nint q) := nint_Gd (by rw [← e2]; exact ky'.bd.mono (by omega)) (by omega)
    have gr := ky'.rs
    have ov : Ev (dCall p_over W (dCons (dC d_ONE) (dCons (dVar 2) (dNil)))) [c0, c1, .val y.D, iv q] (rs y').D := by
      have := ev_over13 (W := W) (ρ := [c0, c1, .val y.D, iv q]) (a := dVar 2) (o := dC d_ONE) ky.gd (by omega) n1 ev_c (ev_var 2 rfl)
      rwa [n2] at this
    refine s_set1 (z := y'.D) (ev_as (ev_call (zs := [(nint q).D, (rs y').D]) (eva_cons (ev_whole (ev_var 3 rfl)) (eva_cons ov eva_nil)) fun QD ED hq => ⟨_, _, rfl, (rts_int q _).1, nb_mono gi.b (by omega), nb_mono gr.b (by omega), by have := gi.s; omega, by have := gr.s; omega, hq⟩) ?_) ?_
    · rw [← e2, ky'.back' e3]
    · exact cont_loop hx k r y' (iv q) e1
theorem ev_listT {ρ : DSt} {a : TED} {ds : List PyData} (h : Ev a ρ (.tuple ds)) : Ev (dNew (nList a)) ρ (.list ds) := fun Q k => h _ fun r h1 _ => h1 (fun x => match x with | .list ds => Q (.d (.list ds)) ρ | .tuple ds => Q (.d (.list ds)) ρ | _ => False) (k _ (fun _ h => h) (fun _ h => h))
theorem ev_revL {ρ : DSt} {a : TED} {ds : List PyData} (h : Ev a ρ (.list ds)) : Ev (dNew (nRev a)) ρ (.list ds.reverse) := fun Q k => h _ fun r h1 _ => h1 (fun x => match x with | .list ds => Q (.d (.list ds.reverse)) ρ | _ => False) (k _ (fun _ h => h) (fun _ h => h))
theorem pure_continued (α : List SD) (QD : Ret → List SD → Prop) (ED : Exd → List SD → Prop) (W : WD) (hW : W = fun e ρ => outK α ρ fun α' => ED e α') (h : p_continued α QD ED) : r_continued W (DEnd α QD) (startD n_continued.length α) := by
  obtain ⟨f, y, x, rfl, hx, hc, hl, hq⟩ := h
  have st0 : startD n_continued.length [.val (.tuple (ivs f)), .val y.D] = [.val (.tuple (ivs f)), .val y.D, .no, .no] := rfl
  rw [st0]
  unfold r_continued
  refine s_set (ev_var 1 rfl) ?_
  show sSeq (sFor _ _ _) _ _ [.val (.tuple (ivs f)), .val y.D, .val y.D, .no]
  refine s_forL (ds := ivs f.reverse) ?_ ?_
  · have := ev_revL (ev_listT (ρ := [.val (.tuple (ivs f)), .val y.D, .val y.D, .no]) (a := dVar 0) (ds := ivs f) (ev_var 0 rfl))
    have e : (ivs f).reverse = ivs f.reverse := by unfold ivs; rw [List.map_reverse]
    rwa [e] at this
  · refine cont_loop hx (fun j => ?_) f.reverse y .no (by rw [List.reverse_reverse]; exact hc)
    show sRet (dVar 2) (DEnd [.val (.tuple (ivs f)), .val y.D] QD) [.val (.tuple (ivs f)), .val y.D, .val x.D, j]
    exact s_ret (z := x.D) (ev_var 2 rfl) hq
/-! ### convergents -/
theorem ql_bd : ∀ (k : Nat) {x : Nu}, Kq x → ∀ q ∈ ql k x, Bd 107 q
  | 0, x, _, q, h => nomatch h
  | k + 1, x, hx, q, h => by
    cases e : nx x with
    | none =>
      have : ql (k + 1) x = [flz x] := by show flz x :: _ = _; rw [e]
      rw [this] at h
      have : q = flz x := by simpa using h
      rw [this]; exact hx.bd
    | some y =>
      have : ql (k + 1) x = flz x :: ql k y := by show flz x :: _ = _; rw [e]
      rw [this] at h
      rcases List.mem_cons.mp h with h | h
      · rw [h]; exact hx.bd
      · exact ql_bd k (hx.next e) q h
theorem cz_bd : ∀ (r : List Int), (∀ q ∈ r, Bd 107 q) → Bd (109 * r.length + 1) (cz r).1.1 ∧ Bd (109 * r.length + 1) (cz r).1.2 ∧ Bd (109 * r.length + 1) (cz r).2.1 ∧ Bd (109 * r.length + 1) (cz r).2.2
  | [], _ => ⟨by unfold Bd; decide, by unfold Bd; decide, by unfold Bd; decide, by unfold Bd; decide⟩
  | q :: r, h => by
    obtain ⟨h1, h2, h3, h4⟩ := cz_bd r fun q hq => h q (List.mem_cons_of_mem _ hq)
    have bq := h q List.mem_cons_self
    have len : (q :: r).length = r.length + 1 := rfl
    have m1 : Bd (109 * r.length + 109) (q * (cz r).1.1) := (bq.mul h1).mono (by omega)
    have m2 : Bd (109 * r.length + 109) (q * (cz r).1.2) := (bq.mul h2).mono (by omega)
    exact ⟨m1.add (h3.mono (m := 109 * r.length + 109) (by omega)) (by omega), m2.add (h4.mono (m := 109 * r.length + 109) (by omega)) (by omega), h1.mono (by omega), h2.mono (by omega)⟩
theorem rz_s {l : List Int} {i : Nat} {q : Int} (h : l[i]? = some q) : (l.take (i + 1)).reverse = q :: (l.take i).reverse := by
  rw [List.take_add_one, h, List.reverse_append]
  rfl
theorem s_forC {ρ : DSt} {p : DSp} {W : WD} {dr : TND} {zs : List PyData} {g : TGD} {t n : TSD} {D : DEnds} (h : EvA dr ρ zs)
    (k : p (zs.map SD.val) (fun r _ => retD (fun r ρ1 => frz ρ1 r fun d ρ2 => match d with | .list ds => forD g t { D with nx := n D } ds ρ2 | _ => False) ρ r) (fun e _ => W e ρ)) : sSeq (sFor (itemsD (dCall p W dr)) g t) n D ρ := h _ k
theorem pure_convergents (α : List SD) (QD : Ret → List SD → Prop) (ED : Exd → List SD → Prop) (W : WD) (hW : W = fun e ρ => outK α ρ fun α' => ED e α') (h : p_convergents α QD ED) : r_convergents W (DEnd α QD) (startD n_convergents.length α) := by
  obtain ⟨x, k, rfl, hx, hk, hq⟩ := h
  have st0 : startD n_convergents.length [.val x.D, iv k] = [.val x.D, iv k, .no, .no, .no, .no, .no, .no] := rfl
  rw [st0]
  unfold r_convergents
  refine s_own eva_nil (by simp) (show 2 < 8 by decide) ?_
  refine s_asg (z := (⟨1, 0, 0, 1⟩ : Nu).D) (ev_tup (zs := [.int 1, .int 0, .int 0, .int 1]) (by (repeat' (first | exact KK.ev_c | exact KK.ev_var _ rfl | exact KK.eva_nil | with_reducible apply KK.eva_cons | with_reducible apply KK.ev_p | with_reducible apply KK.ev_q | with_reducible apply KK.ev_d | with_reducible apply KK.ev_s | with_reducible apply KK.ev_add | with_reducible apply KK.ev_sub | with_reducible apply KK.ev_mul | with_reducible apply KK.ev_fdiv | with_reducible apply KK.ev_mod | with_reducible apply KK.ev_neg | with_reducible apply KK.ev_max | with_reducible apply KK.ev_lt | with_reducible apply KK.ev_le | with_reducible apply KK.ev_gt | with_reducible apply KK.ev_ge | with_reducible apply KK.ev_eq | with_reducible apply KK.ev_nei | with_reducible apply KK.evt_lt | with_reducible apply KK.evt_le | with_reducible apply KK.evt_gt | with_reducible apply KK.evt_ge | with_reducible apply KK.evt_eq | with_reducible apply KK.evt_ne))) (show 4 ≤ 1000 by decide)) (unpack4 ?_)
  show sSeq (sFor _ _ _) _ _ [.val x.D, iv k, .own false [], iv 1, iv 0, iv 0, iv 1, .no]
  have ev : EvA (dCons (dVar 0) (dCons (dVar 1) dNil)) [.val x.D, iv k, .own false [], iv 1, iv 0, iv 0, iv 1, .no] [x.D, .int k] := by (repeat' (first | exact KK.ev_c | exact KK.ev_var _ rfl | exact KK.eva_nil | with_reducible apply KK.eva_cons | with_reducible apply KK.ev_p | with_reducible apply KK.ev_q | with_reducible apply KK.ev_d | with_reducible apply KK.ev_s | with_reducible apply KK.ev_add | with_reducible apply KK.ev_sub | with_reducible apply KK.ev_mul | with_reducible apply KK.ev_fdiv | with_reducible apply KK.ev_mod | with_reducible apply KK.ev_neg | with_reducible apply KK.ev_max | with_reducible apply KK.ev_lt | with_reducible apply KK.ev_le | with_reducible apply KK.ev_gt | with_reducible apply KK.ev_ge | with_reducible apply KK.ev_eq | with_reducible apply KK.ev_nei | with_reducible apply KK.evt_lt | with_reducible apply KK.evt_le | with_reducible apply KK.evt_gt | with_reducible apply KK.evt_ge | with_reducible apply KK.evt_eq | with_reducible apply KK.evt_ne))
  refine s_forC ev ⟨x, k, rfl, hx, by omega, ?_⟩
  have ll := ql_len_le x k
  have hb := ql_bd k hx
  generalize ql k x = l at *
  refine forD_at (fun i ρ => ∃ j : SD, i ≤ l.length ∧ ρ = [.val x.D, iv k, .own false ((List.range i).map fun i => czP l (i + 1)), iv (cz (l.take i).reverse).1.1, iv (cz (l.take i).reverse).1.2, iv (cz (l.take i).reverse).2.1, iv (cz (l.take i).reverse).2.2, j]) (ivs l) 0 _ ⟨.no, by omega, rfl⟩ ?_ ?_
  · rintro i z _ N hz hN ⟨j, hi, rfl⟩
    rw [Nat.zero_add] at hi hN ⊢
    obtain ⟨q, hq', rfl⟩ : ∃ q, l[i]? = some q ∧ z = .int q := by
      unfold ivs at hz
      rw [List.getElem?_map] at hz
      cases e : l[i]? with
      | none => rw [e] at hz; cases hz
      | some q => rw [e] at hz; exact ⟨q, rfl, by simpa using hz.symm⟩
    have lt : i < l.length := (List.getElem?_eq_some_iff.mp hq').1
    have bq : Bd 107 q := hb q (List.mem_of_getElem? hq')
    obtain ⟨b1, b2, _, _⟩ := cz_bd (l.take i).reverse fun q hq => hb q (List.mem_of_mem_take (List.mem_reverse.mp hq))
    have li : (l.take i).reverse.length ≤ 40 := by rw [List.length_reverse, List.length_take]; omega
    have c1 := bq.cm b1 (by omega)
    have c2 := bq.cm b2 (by omega)
    have e3 := rz_s hq'
    show sSeq (sAsg _ _) _ _ [.val x.D, iv k, .own false ((List.range i).map fun i => czP l (i + 1)), iv (cz (l.take i).reverse).1.1, iv (cz (l.take i).reverse).1.2, iv (cz (l.take i).reverse).2.1, iv (cz (l.take i).reverse).2.2, iv q]
    refine s_asg (z := (⟨(cz (l.take (i + 1)).reverse).1.1, (cz (l.take (i + 1)).reverse).1.2, (cz (l.take (i + 1)).reverse).2.1, (cz (l.take (i + 1)).reverse).2.2⟩ : Nu).D) (ev_as (ev_tup (eva_cons (ev_add (ev_mul (ev_var 7 rfl) (ev_var 3 rfl) c1) (ev_var 5 rfl)) (eva_cons (ev_add (ev_mul (ev_var 7 rfl) (ev_var 4 rfl) c2) (ev_var 6 rfl)) (eva_cons (ev_var 3 rfl) (eva_cons (ev_var 4 rfl) eva_nil)))) (show 4 ≤ 1000 by decide)) (by rw [e3]; rfl)) (unpack4 ?_)
    show sApp 2 _ _ [.val x.D, iv k, .own false ((List.range i).map fun i => czP l (i + 1)), iv (cz (l.take (i + 1)).reverse).1.1, iv (cz (l.take (i + 1)).reverse).1.2, iv (cz (l.take (i + 1)).reverse).2.1, iv (cz (l.take (i + 1)).reverse).2.2, iv q]
    refine s_app (z := czP l (i + 1)) rfl (ev_tup (zs := [.int (cz (l.take (i + 1)).reverse).1.1, .int (cz (l.take (i + 1)).reverse).1.2]) (by (repeat' (first | exact KK.ev_c | exact KK.ev_var _ rfl | exact KK.eva_nil | with_reducible apply KK.eva_cons | with_reducible apply KK.ev_p | with_reducible apply KK.ev_q | with_reducible apply KK.ev_d | with_reducible apply KK.ev_s | with_reducible apply KK.ev_add | with_reducible apply KK.ev_sub | with_reducible apply KK.ev_mul | with_reducible apply KK.ev_fdiv | with_reducible apply KK.ev_mod | with_reducible apply KK.ev_neg | with_reducible apply KK.ev_max | with_reducible apply KK.ev_lt | with_reducible apply KK.ev_le | with_reducible apply KK.ev_gt | with_reducible apply KK.ev_ge | with_reducible apply KK.ev_eq | with_reducible apply KK.ev_nei | with_reducible apply KK.evt_lt | with_reducible apply KK.evt_le | with_reducible apply KK.evt_gt | with_reducible apply KK.evt_ge | with_reducible apply KK.evt_eq | with_reducible apply KK.evt_ne))) (show 2 ≤ 1000 by decide)) (by rw [List.length_map, List.length_range]; omega) (hN _ ⟨iv q, lt, ?_⟩)
    rw [List.range_succ, List.map_append]
    rfl
  · rintro _ ⟨j, hi, rfl⟩
    rw [ivs_len, Nat.zero_add]
    exact hq
end KK

set_option maxHeartbeats 2000000
namespace KK
open PySem PySem.Spec L2 DL
/-! ### number_of -/
theorem mat_loop {D : DEnds} {c0 c1 c2 c8 : SD} : ∀ (g : List Int) (a b c e : Int) (n : Nat) (j : SD), Bd n a → Bd n b → Bd n c → Bd n e → (∀ q ∈ g, 0 ≤ q ∧ q < 21) → n + 6 * g.length ≤ 1000 →
    (∀ a' b' c' e' j', mat g (a, b, c, e) = (a', b', c', e') → Bd (n + 6 * g.length) a' → Bd (n + 6 * g.length) b' → Bd (n + 6 * g.length) c' → Bd (n + 6 * g.length) e' → D.nx [c0, c1, c2, iv a', iv b', iv c', iv e', j', c8]) →
    forD (gName' 7) (sAsg (dTup (dCons (dOp dAdd (dOp dMul (dVar 3) (dVar 7)) (dVar 4)) (dCons (dVar 3) (dCons (dOp dAdd (dOp dMul (dVar 5) (dVar 7)) (dVar 6)) (dCons (dVar 5) (dNil)))))) (gTup' (lenIs 4 (gCons' (gName' 3) (gCons' (gName' 4) (gCons' (gName' 5) (gCons' (gName' 6) (gNil'))))))))
      D (ivs g) [c0, c1, c2, iv a, iv b, iv c, iv e, j, c8]
  | [], a, b, c, e, n, j, h1, h2, h3, h4, _, _, k => k a b c e j rfl h1 h2 h3 h4
  | q :: g, a, b, c, e, n, j, h1, h2, h3, h4, hq, hn, k => by
    obtain ⟨q0, q1⟩ := hq q List.mem_cons_self
    have bq : Bd 5 q := by unfold Bd; omega
    have len : (q :: g).length = g.length + 1 := rfl
    rw [len] at hn k
    have x1 : Bd (n + 6) (a * q + b) := (h1.mul bq).add h2 (by omega)
    have x3 : Bd (n + 6) (c * q + e) := (h3.mul bq).add h4 (by omega)
    show sAsg _ _ _ [c0, c1, c2, iv a, iv b, iv c, iv e, iv q, c8]
    have go := mat_loop (D := D) (c0 := c0) (c1 := c1) (c2 := c2) (c8 := c8) g (a * q + b) a (c * q + e) c (n + 6) (iv q) x1 (h1.mono (by omega)) x3 (h3.mono (by omega)) (fun q hq' => hq q (List.mem_cons_of_mem _ hq')) (by omega) (fun a' b' c' e' j' hm g1 g2 g3 g4 => k a' b' c' e' j' hm (g1.mono (by omega)) (g2.mono (by omega)) (g3.mono (by omega)) (g4.mono (by omega)))
    have ev : Ev (dTup (dCons (dOp dAdd (dOp dMul (dVar 3) (dVar 7)) (dVar 4)) (dCons (dVar 3) (dCons (dOp dAdd (dOp dMul (dVar 5) (dVar 7)) (dVar 6)) (dCons (dVar 5) (dNil)))))) [c0, c1, c2, iv a, iv b, iv c, iv e, iv q, c8] (⟨a * q + b, a, c * q + e, c⟩ : Nu).D :=
      ev_tup (zs := [.int (a * q + b), .int a, .int (c * q + e), .int c]) (eva_cons (ev_add (ev_mul (ev_var 3 rfl) (ev_var 7 rfl) (h1.cm bq (by omega))) (ev_var 4 rfl)) (eva_cons (ev_var 3 rfl) (eva_cons (ev_add (ev_mul (ev_var 5 rfl) (ev_var 7 rfl) (h3.cm bq (by omega))) (ev_var 6 rfl)) (eva_cons (ev_var 5 rfl) eva_nil)))) (show 4 ≤ 1000 by decide)
    exact ev _ fun r _ h2 => h2 (fun d ρ2 => gTup' (lenIs 4 (gCons' (gName' 3) (gCons' (gName' 4) (gCons' (gName' 5) (gCons' (gName' 6) (gNil')))))) d ρ2 _) (unpack4 go)
theorem cutInit (l : List PyData) (z : PyData) : cutD (l ++ [z]) none (some (-1)) = l := by
  unfold cutD
  rw [HT.sIx_none]
  have : HT.sIx (l ++ [z]).length (l ++ [z]).length (some (-1)) = l.length := by
    simp only [HT.sIx]
    rw [if_pos (by decide), List.length_append]
    simp
    omega
  rw [this]
  simp
theorem ev_slT {ρ : DSt} {a : TED} {e1 e2 : TOD} {lo hi : Option Int} {ds : List PyData} (ha : Ev a ρ (.tuple ds)) (h1 : ∀ Q : Option Int → DSt → Prop, Q lo ρ → e1 ρ Q) (h2 : ∀ Q : Option Int → DSt → Prop, Q hi ρ → e2 ρ Q) : Ev (dSl a e1 e2) ρ (.tuple (cutD ds lo hi)) := fun Q k =>
  ha _ fun r g1 _ => h1 _ (h2 _ (g1 (fun x => match x with | .tuple ds => Q (.d (.tuple (cutD ds lo hi))) ρ | .str z => z.length ≤ sizeLine ∧ Q (.d (.str (cutS z lo hi))) ρ | _ => False) (k _ (fun _ h => h) (fun _ h => h))))
theorem ev_lastT {ρ : DSt} {a b : TED} {l : List PyData} {z : PyData} (ha : Ev a ρ (.tuple (l ++ [z]))) (hb : Ev b ρ (.int (-1))) : Ev (dOp atD a b) ρ z := ev_op ha hb fun k hk => by
  show (match atI (l ++ [z]) (-1) with | some d => k d | none => False)
  rw [at_last]
  exact hk
/-- the last state of a fraction is its quotient -/
theorem Kq.last {y : Nu} (h : Kq y) (e : nx y = none) : y = nint (KK.flz y) := by
  unfold nx at e
  by_cases z : isZ (KK.rs y)
  · have gx := h.gd
    have s0 := gx.s
    have er : KK.rs y = low (y.p + -KK.flz y * y.s) y.q y.d y.s := nplus_int gx _
    obtain ⟨k, hk, e1, e2, e3, e4⟩ := low_spec (p := y.p + -KK.flz y * y.s) (q := y.q) y.d (show y.s ≠ 0 by omega)
    rw [← er] at e1 e2 e3 e4
    obtain ⟨z1, z2, _, _⟩ := z
    rw [z1, Int.mul_zero] at e1
    rw [z2, Int.mul_zero] at e2
    obtain ⟨c1, c2, c3⟩ := h.1
    have d0 := c3 e2
    have hp : y.p = KK.flz y * y.s := by
      have : y.p + -KK.flz y * y.s = y.p - KK.flz y * y.s := by grind
      omega
    have sd : y.s.natAbs ∣ (y.p.natAbs.gcd y.q.natAbs).gcd y.s.natAbs := Nat.dvd_gcd (Nat.dvd_gcd (by rw [hp, Int.natAbs_mul]; exact Nat.dvd_mul_left _ _) (by rw [e2]; exact Nat.dvd_zero _)) (Nat.dvd_refl _)
    have g1 : (y.p.natAbs.gcd y.q.natAbs).gcd y.s.natAbs = 1 := by
      have := c2
      unfold gc at this
      omega
    rw [g1] at sd
    have s1 : y.s = 1 := by
      have := Nat.le_of_dvd (by decide) sd
      omega
    have hp' : y.p = KK.flz y := by rw [s1] at hp; omega
    exact kx_inj (by show [y.p, y.q, y.d, y.s] = [KK.flz y, 0, 0, 1]; rw [hp', e2, d0, s1])
  · rw [if_neg z] at e; cases e
theorem dr_two {d : Int} (h : Dr d) : ¬ d < 2 := fun c => by
  have d0 := h.1
  have : d = 1 := by omega
  subst this
  exact absurd (h.2.2 1 1 (by decide)).1 (by decide)
theorem bd_fdiv {n : Nat} {i j : Int} (h : Bd n i) (hj : 0 < j) : Bd n (i.fdiv j) := by rw [Int.fdiv_eq_ediv_of_nonneg _ (by omega)]; exact h.div j hj
theorem ivs_shpT (g : List Int) {ρ : DSt} {i : Nat} (h : ρ[i]? = some (.val (.tuple (ivs g)))) : EvT (dTest (dOp dEq (dVar i) (dTup dNil))) ρ (decide (g = [])) := by
  refine evt_as (evt_eqD (y := .tuple (ivs g)) (z := .tuple []) (ev_var i h) (ev_tup eva_nil (by simp)) (ivs_shp g).2 rfl) ?_
  cases g <;> rfl
theorem s_par3S {ρ : DSt} {D : DEnds} {n : TSD} {a b c : TED} {x y z : PyData} {i j l : Nat} (ha : Ev a ρ x) (hb : Ev b ρ y) (hc : Ev c ρ z) (k : n D (((ρ.set i (.val x)).set j (.val y)).set l (.val z))) : sSeq (sPar3 i j l (dCons a (dCons b (dCons c dNil)))) n D ρ :=
  eva_cons ha (eva_cons hb (eva_cons hc eva_nil)) (fun ds ρ1 => asThree ds fun x y z => n D (((ρ1.set i (.val x)).set j (.val y)).set l (.val z))) k
theorem pure_number_of {k_InvalidNumber : Addr} (α : List SD) (QD : Ret → List SD → Prop) (ED : Exd → List SD → Prop) (W : WD) (hW : W = fun e ρ => outK α ρ fun α' => ED e α') (h : p_number_of α QD ED) : r_number_of W k_InvalidNumber (DEnd α QD) (startD n_number_of.length α) := by
  obtain ⟨f, g, x, rfl, hx, hX, hg, hq⟩ := h
  have st0 : startD n_number_of.length [.val (prt f g)] = [.val (prt f g), .no, .no, .no, .no, .no, .no, .no, .no] := rfl
  rw [st0]
  unfold r_number_of
  refine s_asg (ev_var 0 rfl) (unpack2 ?_)
  show sSeq _ _ _ [.val (prt f g), .val (.tuple (ivs f)), .val (.tuple (ivs g)), .no, .no, .no, .no, .no, .no]
  by_cases hgn : g = []
  · refine s_seq (s_ifT (evt_as (ivs_shpT g rfl) (decide_eq_true hgn)) ?_)
    rcases hX with ⟨n, n0, n1, h1, h2, hf, _⟩ | ⟨i, n, lt, n1, h1, h2, h3, _, rfl⟩
    · obtain ⟨m, rfl⟩ : ∃ m, n = m + 1 := ⟨n - 1, by omega⟩
      obtain ⟨y, hy⟩ := st_one (h2 m (by omega))
      have ky := hx.st m hy
      have en : nx y = none := by
        have h1 : (st x m).bind nx = none := h1
        rw [hy] at h1
        exact h1
      have ef : ivs f = ivs (ql m x) ++ [.int (flz y)] := by rw [hf, ← ql_seg, ql_succ, hy, ivs_snoc]
      have v1 : Ev (dVar 1) [.val (prt f g), .val (.tuple (ivs f)), .val (.tuple (ivs g)), .no, .no, .no, .no, .no, .no] (.tuple (ivs (ql m x) ++ [.int (flz y)])) := ev_as (ev_var 1 rfl) (by rw [ef])
      have a1 := ev_slT v1 o_none (o_int (a := dNeg (dC (.int 1))) ev_ng1)
      rw [cutInit] at a1
      refine s_ret (z := x.D) (ev_call (zs := [.tuple (ivs (ql m x)), y.D]) (eva_cons a1 (eva_cons (ev_as (ev_whole (ev_lastT v1 ev_ng1)) (by rw [← ky.last en])) eva_nil)) fun QD ED hq' => ⟨ql m x, y, x, rfl, hx, chn_ql m hy, by have := ql_len_le x m; omega, hq'⟩) ?_
      exact hq
    · exfalso
      have : (qseg x i n).length = n - i := by
        have e := qseg_app x (Nat.zero_le i) (Nat.le_of_lt lt)
        have l1 := ql_len (k := n) fun j hj => h2 j (by omega)
        have l2 := ql_len (k := i) fun j hj => h2 j (by omega)
        rw [ql_seg] at l1 l2
        rw [e, List.length_append] at l1
        omega
      rw [hgn] at this
      simp at this
      omega
  · refine s_chk (evt_as (ivs_shpT g rfl) (decide_eq_false hgn)) ?_
    obtain ⟨gl, gb, y, hc, hn, hd, hsq, gy⟩ := hg hgn
    refine s_asg (z := (⟨1, 0, 0, 1⟩ : Nu).D) (ev_tup (zs := [.int 1, .int 0, .int 0, .int 1]) (by (repeat' (first | exact KK.ev_c | exact KK.ev_var _ rfl | exact KK.eva_nil | with_reducible apply KK.eva_cons | with_reducible apply KK.ev_p | with_reducible apply KK.ev_q | with_reducible apply KK.ev_d | with_reducible apply KK.ev_s | with_reducible apply KK.ev_add | with_reducible apply KK.ev_sub | with_reducible apply KK.ev_mul | with_reducible apply KK.ev_fdiv | with_reducible apply KK.ev_mod | with_reducible apply KK.ev_neg | with_reducible apply KK.ev_max | with_reducible apply KK.ev_lt | with_reducible apply KK.ev_le | with_reducible apply KK.ev_gt | with_reducible apply KK.ev_ge | with_reducible apply KK.ev_eq | with_reducible apply KK.ev_nei | with_reducible apply KK.evt_lt | with_reducible apply KK.evt_le | with_reducible apply KK.evt_gt | with_reducible apply KK.evt_ge | with_reducible apply KK.evt_eq | with_reducible apply KK.evt_ne))) (show 4 ≤ 1000 by decide)) (unpack4 ?_)
    show sSeq (sFor _ _ _) _ _ [.val (prt f g), .val (.tuple (ivs f)), .val (.tuple (ivs g)), iv 1, iv 0, iv 0, iv 1, .no, .no]
    refine s_forT (ds := ivs g) (ev_var 2 rfl) ?_
    have b1 : Bd 1 1 := by unfold Bd; decide
    refine mat_loop g 1 0 0 1 1 .no b1 (bd0 _) (bd0 _) b1 gb (by omega) fun a b c e j hm ha hb hc' he => ?_
    have B : ∀ {i : Int}, Bd (1 + 6 * g.length) i → Bd 30 i := fun h => h.mono (by omega)
    have ha := B ha
    have hb := B hb
    have hc' := B hc'
    have he := B he
    show sSeq _ _ _ [.val (prt f g), .val (.tuple (ivs f)), .val (.tuple (ivs g)), iv a, iv b, iv c, iv e, j, .no]
    unfold numG at hn
    rw [hm] at hn
    dsimp only at hn
    have hn := of_decide_eq_true hn
    have g1 : Ev (dCall p_common_divisor W (dCons (dCall p_common_divisor W (dCons (dVar 5) (dCons (dOp dSub (dVar 3) (dVar 6)) (dNil)))) (dCons (dVar 4) (dNil)))) [.val (prt f g), .val (.tuple (ivs f)), .val (.tuple (ivs g)), iv a, iv b, iv c, iv e, j, .no] (.int (Int.gcd (Int.gcd c (a - e)) b)) :=
      ev_call (zs := [.int (Int.gcd c (a - e)), .int b]) (eva_cons (ev_call (zs := [.int c, .int (a - e)]) (eva_cons (ev_var 5 rfl) (eva_cons (ev_sub (ev_var 3 rfl) (ev_var 6 rfl)) eva_nil)) fun QD ED hq => ⟨_, _, rfl, hq⟩) (eva_cons (ev_var 4 rfl) eva_nil)) fun QD ED hq => ⟨_, _, rfl, hq⟩
    have bg : Bd 32 (Int.gcd (Int.gcd c (a - e)) b : Int) := by
      by_cases z : b = 0
      · rw [z, Int.gcd_zero_right, Int.natAbs_natCast]
        by_cases z2 : c = 0
        · rw [z2, Int.gcd_zero_left]
          have := ha.sub he (k := 31) (by omega)
          unfold Bd at this ⊢
          rw [Int.natAbs_natCast]
          have e : (2 : Nat) ^ 31 < 2 ^ 32 := by decide
          omega
        · have := Int.gcd_le_natAbs_left (b := a - e) z2
          unfold Bd at hc' ⊢
          rw [Int.natAbs_natCast]
          have e : (2 : Nat) ^ 30 < 2 ^ 32 := by decide
          omega
      · have := Int.gcd_le_natAbs_right (a := (Int.gcd c (a - e) : Int)) z
        unfold Bd at hb ⊢
        rw [Int.natAbs_natCast]
        have e : (2 : Nat) ^ 30 < 2 ^ 32 := by decide
        omega
    have v0 : (0 : Int) ≤ (Int.gcd (Int.gcd c (a - e)) b : Int) := Int.natCast_nonneg _
    generalize hv : (Int.gcd (Int.gcd c (a - e)) b : Int) = v at *
    refine s_set g1 ?_
    show sSeq (sPar3 4 5 6 _) _ _ [.val (prt f g), .val (.tuple (ivs f)), .val (.tuple (ivs g)), iv a, iv b, iv c, iv e, j, iv v]
    obtain ⟨n1, n2, n3, n4, n5⟩ := hn
    have cd : ∀ i, CDivF i v := fun i => ⟨n1, bg.log (by omega)⟩
    have vp : 0 < v := by omega
    have bb := bd_fdiv hb vp
    have bc := bd_fdiv hc' vp
    have be := bd_fdiv (ha.sub he (k := 31) (by omega)) vp
    refine s_par3S (ev_fdiv (ev_var 4 rfl) (ev_var 8 rfl) (cd _)) (ev_fdiv (ev_var 5 rfl) (ev_var 8 rfl) (cd _)) (ev_fdiv (ev_sub (ev_var 3 rfl) (ev_var 6 rfl)) (ev_var 8 rfl) (cd _)) ?_
    show sRet _ _ [.val (prt f g), .val (.tuple (ivs f)), .val (.tuple (ivs g)), iv a, iv (b.fdiv v), iv (c.fdiv v), iv ((a - e).fdiv v), j, iv v]
    generalize b.fdiv v = b' at *
    generalize c.fdiv v = c' at *
    generalize (a - e).fdiv v = e' at *
    have b4 : Bd 3 4 := by unfold Bd; decide
    have b2 : Bd 2 2 := by unfold Bd; decide
    have bD1 := be.mul be
    have bD2 := (b4.mul bb).mul bc
    have bD : Bd 100 (e' * e' + 4 * b' * c') := bD1.add bD2 (by omega)
    have bS : Bd 40 (2 * c') := (b2.mul bc).mono (by omega)
    have ev4 : EvA (dCons (dVar 6) (dCons (dC (.int 1)) (dCons (dOp dAdd (dOp dMul (dVar 6) (dVar 6)) (dOp dMul (dOp dMul (dC (.int 4)) (dVar 4)) (dVar 5))) (dCons (dOp dMul (dC (.int 2)) (dVar 5)) (dNil))))) [.val (prt f g), .val (.tuple (ivs f)), .val (.tuple (ivs g)), iv a, iv b', iv c', iv e', j, iv v] [.int e', .int 1, .int (e' * e' + 4 * b' * c'), .int (2 * c')] :=
      eva_cons (ev_var 6 rfl) (eva_cons ev_c (eva_cons (ev_add (ev_mul (ev_var 6 rfl) (ev_var 6 rfl) (be.cm be (by omega))) (ev_mul (ev_mul ev_c (ev_var 4 rfl) (b4.cm bb (by omega))) (ev_var 5 rfl) ((b4.mul bb).cm bc (by omega)))) (eva_cons (ev_mul ev_c (ev_var 5 rfl) (b2.cm bc (by omega))) eva_nil)))
    have evn : Ev (dCall (p_number k_InvalidNumber) W (dCons (dVar 6) (dCons (dC (.int 1)) (dCons (dOp dAdd (dOp dMul (dVar 6) (dVar 6)) (dOp dMul (dOp dMul (dC (.int 4)) (dVar 4)) (dVar 5))) (dCons (dOp dMul (dC (.int 2)) (dVar 5)) (dNil)))))) [.val (prt f g), .val (.tuple (ivs f)), .val (.tuple (ivs g)), iv a, iv b', iv c', iv e', j, iv v] y.D := by
      refine ev_call ev4 fun QD ED hq => ⟨e', 1, _, _, rfl, b1.mono (by omega), bD.mono (by omega), bS.mono (by omega), fun c => ?_, fun c f' r' hs => ?_⟩
      · exfalso
        have d0 := hd.1
        have : 0 < e' * e' + 4 * b' * c' := by rw [← n4]; exact Int.mul_pos (Int.mul_pos n3 n3) d0
        omega
      · have d0 := hd.1
        have dp : 0 < e' * e' + 4 * b' * c' := by rw [← n4]; exact Int.mul_pos (Int.mul_pos n3 n3) d0
        rcases hs with ⟨z, _⟩ | ⟨_, f0, r0, e1, sq⟩
        · omega
        · obtain ⟨rfl, rfl⟩ := sqf_uniq n3 d0 f0 r0 (n4.trans e1.symm) hsq sq
          unfold numF
          rw [if_neg (dr_two hd), Int.one_mul, n5]
          exact hq
    exact s_ret (z := x.D) (ev_call (zs := [.tuple (ivs f), y.D]) (eva_cons (ev_var 1 rfl) (eva_cons evn eva_nil)) fun QD ED hq' => ⟨f, y, x, rfl, hx, hc, by
      rcases hX with ⟨n, n0, n1, h1, h2, rfl, _⟩ | ⟨i, n, lt, n1, h1, h2, h3, rfl, _⟩
      · have := ql_len_le x n; rw [← ql_seg]; omega
      · have := ql_len_le x i; rw [← ql_seg]; omega, hq'⟩) hq
end KK

set_option maxHeartbeats 2000000
namespace KK
open PySem PySem.Spec L2 DL
/-! ### all drawn ratios, reckoned -/
def fI {α : Type} (i : Int) (f : Int → α) : α := match i with
  | .ofNat 0 => f (.ofNat 0)
  | .ofNat (n + 1) => f (.ofNat (n + 1))
  | .negSucc 0 => f (.negSucc 0)
  | .negSucc (n + 1) => f (.negSucc (n + 1))
theorem fI_eq {α : Type} (i : Int) (f : Int → α) : fI i f = f i := by
  unfold fI
  split <;> rfl
def fN {α : Type} (x : Nu) (f : Nu → α) : α := fI x.p fun p => fI x.q fun q => fI x.d fun d => fI x.s fun s => f ⟨p, q, d, s⟩
theorem fN_eq {α : Type} (x : Nu) (f : Nu → α) : fN x f = f x := by unfold fN; simp only [fI_eq]
def eqN (x y : Nu) : Bool := x.p == y.p && (x.q == y.q && (x.d == y.d && x.s == y.s))
theorem eqN_ok {x y : Nu} : eqN x y = true ↔ x = y := by
  unfold eqN
  constructor
  · intro h
    simp only [Bool.and_eq_true, beq_iff_eq] at h
    exact kx_inj (by unfold kx; rw [h.1, h.2.1, h.2.2.1, h.2.2.2])
  · intro h
    subst h
    simp
/-- the quotients since h stood: seen turned round with its quotients -/
def since (h : Nu) : List (Nu × Int) → Option (List Int)
  | [] => none
  | (y, q) :: r => if eqN y h then some [q] else match since h r with
    | none => none
    | some l => some (l ++ [q])
def endOk (g : List Int) (h : Nu) : Bool := if g.length < 5 ∧ (g.all fun q => decide (q < 21)) = true then numG g h else true
def go13 : Nat → Nu → List (Nu × Int) → Bool
  | 0, _, _ => false
  | k + 1, h, seen => match since h seen with
    | some g => endOk g h
    | none => fI (flz h) fun f => fN (nplus h ⟨-f, 0, 0, 1⟩) fun r => if isZ r then false else fN (ninv r) fun y => go13 k y ((h, f) :: seen)
def chk13 (d p q s : Int) : Bool := if q = 0 then true else if gc p q s ≠ 1 then true else if sgn ⟨p, q, d, s⟩ ≠ 1 then true else go13 60 ⟨p, q, d, s⟩ []
def rng5 : List Int := [-5, -4, -3, -2, -1, 0, 1, 2, 3, 4, 5]
def enumD (d : Int) : Bool := rng5.all fun p => rng5.all fun q => ([1, 2, 3, 4, 5] : List Int).all fun s => chk13 d p q s
theorem enum13 : (([2, 3, 5, 6, 7, 13, 21] : List Int).all enumD) = true := by decide +kernel
end KK

set_option maxHeartbeats 2000000
namespace KK
open PySem PySem.Spec L2 DL
/-! what the reckoning says -/
def sn (x : Nu) : Nat → List (Nu × Int)
  | 0 => []
  | m + 1 => ((st x m).getD x, flz ((st x m).getD x)) :: sn x m
theorem qseg_one {x y : Nu} {n : Nat} (h : st x n = some y) : qseg x n (n + 1) = [flz y] := by
  unfold qseg
  rw [show n + 1 - n = 1 by omega]
  simp [h]
theorem qseg_snoc {x y : Nu} {i n : Nat} (h : st x n = some y) (hi : i ≤ n) : qseg x i (n + 1) = qseg x i n ++ [flz y] := by
  rw [qseg_app x hi (Nat.le_succ n), qseg_one h]
theorem since_ok {x h : Nu} : ∀ m, (∀ j, j < m → st x j ≠ none) → (since h (sn x m) = none ∧ ∀ j, j < m → st x j ≠ some h) ∨ ∃ j, j < m ∧ st x j = some h ∧ since h (sn x m) = some (qseg x j m)
  | 0, _ => .inl ⟨rfl, fun j hj => absurd hj (Nat.not_lt_zero _)⟩
  | m + 1, hs => by
    obtain ⟨y, hy⟩ := st_one (hs m (by omega))
    have e : sn x (m + 1) = (y, flz y) :: sn x m := by show ((st x m).getD x, flz ((st x m).getD x)) :: sn x m = _; rw [hy]; rfl
    rw [e]
    unfold since
    by_cases c : eqN y h = true
    · have c' := eqN_ok.mp c
      refine .inr ⟨m, by omega, by rw [hy, c'], ?_⟩
      rw [if_pos c, qseg_one hy]
    · rw [if_neg c]
      rcases since_ok (x := x) (h := h) m fun j hj => hs j (by omega) with ⟨h1, h2⟩ | ⟨j, h1, h2, h3⟩
      · refine .inl ⟨by rw [h1], fun j hj => ?_⟩
        rcases Nat.lt_or_ge j m with d | d
        · exact h2 j d
        · have : j = m := by omega
          subst this
          rw [hy]
          intro z
          exact c (eqN_ok.mpr (Option.some.inj z))
      · refine .inr ⟨j, by omega, h2, ?_⟩
        rw [h3, qseg_snoc hy (by omega)]
structure Fst (x : Nu) (i n : Nat) : Prop where
  lt : i < n
  e : st x i = st x n
  s : ∀ j, j ≤ n → st x j ≠ none
  d : ∀ a b, a < b → b < n → st x a ≠ st x b
theorem go_ok {x : Nu} : ∀ (k m : Nat) (h : Nu), st x m = some h → (∀ j, j ≤ m → st x j ≠ none) → (∀ a b, a < b → b < m → st x a ≠ st x b) → go13 k h (sn x m) = true → ∃ i n y, Fst x i n ∧ n < m + k ∧ st x n = some y ∧ endOk (qseg x i n) y = true
  | 0, m, h, _, _, _, hg => by cases hg
  | k + 1, m, h, hh, hs, hd, hg => by
    unfold go13 at hg
    rcases since_ok (x := x) (h := h) m fun j hj => hs j (by omega) with ⟨h1, h2⟩ | ⟨j, h1, h2, h3⟩
    · rw [h1] at hg
      simp only [fI_eq, fN_eq] at hg
      by_cases z : isZ (nplus h ⟨-flz h, 0, 0, 1⟩)
      · rw [if_pos z] at hg; cases hg
      · rw [if_neg z] at hg
        have hn : st x (m + 1) = some (ninv (nplus h ⟨-flz h, 0, 0, 1⟩)) := by
          show (st x m).bind nx = _
          rw [hh]
          show nx h = _
          unfold nx
          rw [if_neg (show ¬ isZ (rs h) from z)]
          rfl
        have e : sn x (m + 1) = (h, flz h) :: sn x m := by show ((st x m).getD x, flz ((st x m).getD x)) :: sn x m = _; rw [hh]; rfl
        rw [← e] at hg
        obtain ⟨i, n, y, f1, f2, f3⟩ := go_ok k (m + 1) _ hn (fun j hj => by
          rcases Nat.lt_or_ge j (m + 1) with c | c
          · exact hs j (by omega)
          · have : j = m + 1 := by omega
            subst this
            rw [hn]; exact (fun z => nomatch z)) (fun a b l1 l2 => by
          rcases Nat.lt_or_ge b m with c | c
          · exact hd a b l1 c
          · have : b = m := by omega
            subst this
            rw [hh]
            exact h2 a l1) hg
        exact ⟨i, n, y, f1, by omega, f3⟩
    · rw [h3] at hg
      exact ⟨j, m, h, ⟨h1, by rw [h2, hh], hs, hd⟩, by omega, hh, hg⟩
theorem mem5 {i : Int} (h : i.natAbs ≤ 5) : i ∈ rng5 := by
  unfold rng5
  simp only [List.mem_cons, List.not_mem_nil, or_false]
  omega
theorem rz_go {x : Nu} (h : Rz x) (hq : x.q ≠ 0) : ∃ i n y, Fst x i n ∧ n < 60 ∧ st x n = some y ∧ endOk (qseg x i n) y = true := by
  have hd : x.d ∈ ([2, 3, 5, 6, 7, 13, 21] : List Int) := by
    rcases h.d with z | z
    · have := h.r.g.d0.2 z
      exact absurd this hq
    · exact z
  have s0 := h.r.g.s
  have hs : x.s ∈ ([1, 2, 3, 4, 5] : List Int) := by
    have := h.r.s
    simp only [List.mem_cons, List.not_mem_nil, or_false]
    omega
  have a1 := List.all_eq_true.mp enum13 _ hd
  unfold enumD at a1
  have a2 := List.all_eq_true.mp (List.all_eq_true.mp (List.all_eq_true.mp a1 _ (mem5 h.r.p)) _ (mem5 h.r.q)) _ hs
  unfold chk13 at a2
  rw [if_neg hq, if_neg (by rw [h.c.2.1]; exact fun z => z rfl), if_neg (by intro z; exact z h.r.o)] at a2
  obtain ⟨i, n, y, h1, h2, h3⟩ := go_ok 60 0 x rfl (fun j hj => by
    have : j = 0 := by omega
    subst this
    exact (fun z => nomatch z)) (fun a b _ hb => absurd hb (Nat.not_lt_zero _)) a2
  exact ⟨i, n, y, h1, by omega, h3⟩
theorem Fst.uniq {x : Nu} {i n i' n' : Nat} (h : Fst x i n) (h' : Fst x i' n') : i = i' ∧ n = n' := by
  have en : n = n' := by
    rcases Nat.lt_trichotomy n n' with c | c | c
    · exact absurd h.e (h'.d i n h.lt c)
    · exact c
    · exact absurd h'.e (h.d i' n' h'.lt c)
  subst en
  refine ⟨?_, rfl⟩
  have e := h.e.trans h'.e.symm
  have l1 := h.lt
  have l2 := h'.lt
  rcases Nat.lt_trichotomy i i' with c | c | c
  · exact absurd e (h.d i i' c l2)
  · exact c
  · exact absurd e.symm (h.d i' i c l1)

/-! ### never the end; the root stays -/
theorem Cq.st {x : Nu} (h : Cq x) : ∀ i : Nat, ∃ y, KK.st x i = some y ∧ Cq y ∧ y.d = x.d
  | 0 => ⟨x, rfl, h, rfl⟩
  | i + 1 => by
    obtain ⟨y, e, hy, hd⟩ := h.st i
    have z := hy.nz2 hy.flz
    have hn := (hy.next hy.flz).1
    refine ⟨nxt y (KK.flz y), ?_, hn, ?_⟩
    · show (KK.st x i).bind nx = _
      rw [e]
      show nx y = _
      unfold nx
      rw [if_neg (show ¬ isZ (KK.rs y) from z)]
      rfl
    · have gx := hy.gd
      have s0 := gx.s
      have q1 := hn.q0
      have gr := Gd_plus gx (nint_Gd (v := -KK.flz y) ((flo_bd gx (by omega) hy.flz).neg) (by omega)) (rts_int _ y).2 (by omega)
      have nn := gr.norm z
      have e1 : (nxt y (KK.flz y)).d = if (nxt y (KK.flz y)).q = 0 then 0 else (KK.rs y).d := low_dd nn
      rw [if_neg q1] at e1
      have er : KK.rs y = low (y.p + -KK.flz y * y.s) y.q y.d y.s := nplus_int gx _
      have e2 : (KK.rs y).d = if (KK.rs y).q = 0 then 0 else y.d := by rw [er, low_dd (by omega)]
      rw [e1, e2, if_neg, hd]
      intro c
      rw [if_pos c] at e2
      rw [e2] at e1
      exact q1 (hn.gd.d0.2 e1)
theorem Kq.cq {x : Nu} (h : Rz x) (hq : x.q ≠ 0) : Cq x := cq_rat h.r hq
theorem fst_xpn {x : Nu} {i n : Nat} {f g : List Int} (F : Fst x i n) (hs : ∀ j, KK.st x j ≠ none) (h : Xpn x f g) : f = qseg x 0 i ∧ g = qseg x i n := by
  rcases h with ⟨m, _, _, h1, _⟩ | ⟨i', n', lt, _, e, s, d, hf, hg⟩
  · exact absurd h1 (hs m)
  · obtain ⟨rfl, rfl⟩ := F.uniq ⟨lt, e, s, d⟩
    exact ⟨hf, hg⟩
theorem sqf13 {d : Int} (h : d ∈ ([2, 3, 5, 6, 7, 13, 21] : List Int)) : sqfree d := by
  have d21 : 0 < d ∧ d ≤ 21 := by
    simp only [List.mem_cons, List.not_mem_nil, or_false] at h
    omega
  intro m hm c
  have l1 := Int.le_of_dvd d21.1 c
  have m4 : m ≤ 4 := by
    rcases Int.lt_or_le 4 m with c | c
    · have := Int.mul_le_mul (show 5 ≤ m by omega) (show 5 ≤ m by omega) (by decide) (by omega)
      omega
    · exact c
  have : m = 2 ∨ m = 3 ∨ m = 4 := by omega
  simp only [List.mem_cons, List.not_mem_nil, or_false] at h
  rcases this with rfl | rfl | rfl <;> rcases h with rfl | rfl | rfl | rfl | rfl | rfl | rfl <;> exact absurd c (by decide)
theorem rz_num {x : Nu} (h : Rz x) (hq : x.q ≠ 0) {f g : List Int} (hx : Xpn x f g) (gl : g.length < 5) (gb : ∀ q ∈ g, q < 21) : ∃ y, Chn f y x ∧ numG g y = true ∧ Dr y.d ∧ sqfree y.d ∧ Gd 40 y := by
  have cx := Kq.cq h hq
  obtain ⟨i, n, y, F, _, hy, ok⟩ := rz_go h hq
  obtain ⟨rfl, rfl⟩ := fst_xpn F (fun j => by obtain ⟨y, e, _⟩ := cx.st j; rw [e]; exact (fun z => nomatch z)) hx
  obtain ⟨y', e', cy, dy⟩ := cx.st n
  rw [hy] at e'
  cases e'
  have hd : x.d ∈ ([2, 3, 5, 6, 7, 13, 21] : List Int) := by
    rcases h.d with z | z
    · exact absurd (h.r.g.d0.2 z) hq
    · exact z
  unfold endOk at ok
  rw [if_pos ⟨gl, List.all_eq_true.mpr fun q hq => decide_eq_true (gb q hq)⟩] at ok
  refine ⟨y, ?_, ok, by rw [dy]; exact h.r.g.dr hq, by rw [dy]; exact sqf13 hd, cy.gd⟩
  rw [← ql_seg]
  exact chn_ql i (by rw [F.e, hy])
/-! ### fractions end -/
theorem rq_next {x y : Nu} (h : Kq x) (hr : Rq x) (e : nx x = some y) : Rq y ∧ y.s < y.p ∧ y.p ≤ x.s := by
  have ky := h.next e
  unfold nx at e
  by_cases z : isZ (KK.rs x)
  · rw [if_pos z] at e; cases e
  · rw [if_neg z] at e
    cases e
    have nn := h.rs.norm z
    have gx := hr.g
    have s0 := gx.s
    have ef : KK.flz x = x.p / x.s := by
      unfold KK.flz
      rw [hr.q]
      simp [isb]
    have p0 := hr.p
    have em : x.p - KK.flz x * x.s = x.p % x.s := by
      have := Int.mul_ediv_add_emod x.p x.s
      rw [ef]
      have e := Int.mul_comm (x.p / x.s) x.s
      omega
    have m0 := Int.emod_nonneg x.p (show x.s ≠ 0 by omega)
    have m1 := Int.emod_lt_of_pos x.p s0
    have er : KK.rs x = low (x.p % x.s) 0 x.d x.s := by
      unfold KK.rs
      rw [nplus_int gx, hr.q, show x.p + -KK.flz x * x.s = x.p - KK.flz x * x.s by grind, em]
    obtain ⟨k, hk, e1, e2, e3, e4⟩ := low_spec (p := x.p % x.s) (q := 0) x.d (show x.s ≠ 0 by omega)
    rw [← er] at e1 e2 e3 e4
    have rq : (KK.rs x).q = 0 := by
      rcases Int.mul_eq_zero.mp e2.symm with z | z
      · exact absurd z hk
      · exact z
    have kpos : ∀ {k s t : Int}, 0 < t → t = k * s → 0 < s → 0 < k := fun {k s t} ht h hs => by
      rcases Int.lt_or_le 0 k with c | c
      · exact c
      · have := Int.mul_le_mul_of_nonneg_right c (Int.le_of_lt hs)
        omega
    have k0 := kpos s0 e3 e4
    have rp : 0 ≤ (KK.rs x).p := by
      rcases Int.lt_or_le (KK.rs x).p 0 with c | c
      · have := Int.mul_pos k0 (show 0 < -(KK.rs x).p by omega)
        rw [show k * -(KK.rs x).p = -(k * (KK.rs x).p) by grind] at this
        omega
      · exact c
    have lt : (KK.rs x).p < (KK.rs x).s := by
      rcases Int.lt_or_le (KK.rs x).p (KK.rs x).s with c | c
      · exact c
      · have := Int.mul_le_mul_of_nonneg_left c (Int.le_of_lt k0)
        omega
    have le : ∀ {k a b : Int}, 0 < k → 0 ≤ b → a = k * b → b ≤ a := fun {k a b} hk hb h => by
      have := Int.mul_le_mul_of_nonneg_right (show 1 ≤ k by omega) hb
      omega
    have l2 := le k0 (Int.le_of_lt e4) e3
    generalize KK.rs x = r at *
    have rp1 : 0 < r.p := by
      rcases Int.lt_or_eq_of_le rp with c | c
      · exact c
      · exfalso
        have c1 : r.p * r.p - r.q * r.q * r.d = 0 := by rw [← c, rq]; simp
        exact nn c1
    have ei : ninv r = low r.s 0 r.d r.p := by
      have : ninv r = low (r.p * r.s) (r.p * 0) r.d (r.p * r.p) := by
        unfold ninv
        rw [rq]
        congr 1 <;> grind
      rw [this, low_scale _ (by omega) (by omega)]
    rw [ei] at ky ⊢
    obtain ⟨k', hk', f1, f2, f3, f4⟩ := low_spec (p := r.s) (q := 0) r.d (show r.p ≠ 0 by omega)
    have k0' := kpos rp1 f3 f4
    have yq : (low r.s 0 r.d r.p).q = 0 := by
      rcases Int.mul_eq_zero.mp f2.symm with z | z
      · exact absurd z hk'
      · exact z
    have yp : 0 < (low r.s 0 r.d r.p).p := by
      rcases Int.lt_or_le 0 (low r.s 0 r.d r.p).p with c | c
      · exact c
      · have := Int.mul_nonneg (Int.le_of_lt k0') (show 0 ≤ -(low r.s 0 r.d r.p).p by omega)
        rw [show k' * -(low r.s 0 r.d r.p).p = -(k' * (low r.s 0 r.d r.p).p) by grind] at this
        omega
    refine ⟨⟨ky.gd, yq, Int.le_of_lt yp⟩, ?_, ?_⟩
    · rcases Int.lt_or_le (low r.s 0 r.d r.p).s (low r.s 0 r.d r.p).p with c | c
      · exact c
      · have := Int.mul_le_mul_of_nonneg_left c (Int.le_of_lt k0')
        omega
    · have := le k0' (Int.le_of_lt yp) f1
      omega
theorem rq_half {x y z : Nu} (h : Kq x) (hr : Rq x) (e : nx x = some y) (e2 : nx y = some z) : 2 * z.s < x.s := by
  obtain ⟨ry, l1, l2⟩ := rq_next h hr e
  have ky := h.next e
  -- z.s is at most the rest of y
  have s0 := ry.g.s
  obtain ⟨rz, l3, l4⟩ := rq_next ky ry e2
  have key : z.s ≤ y.p % y.s := by
    unfold nx at e2
    by_cases c : isZ (rs y)
    · rw [if_pos c] at e2; cases e2
    · rw [if_neg c] at e2
      cases e2
      have nn := ky.rs.norm c
      have ef : flz y = y.p / y.s := by
        unfold flz
        rw [ry.q]
        simp [isb]
      have em : y.p - flz y * y.s = y.p % y.s := by
        have := Int.mul_ediv_add_emod y.p y.s
        rw [ef]
        have e := Int.mul_comm (y.p / y.s) y.s
        omega
      have m0 := Int.emod_nonneg y.p (show y.s ≠ 0 by omega)
      have er : rs y = low (y.p % y.s) 0 y.d y.s := by
        unfold rs
        rw [nplus_int ry.g, ry.q, show y.p + -flz y * y.s = y.p - flz y * y.s by grind, em]
      obtain ⟨k, hk, e1, e2, e3, e4⟩ := low_spec (p := y.p % y.s) (q := 0) y.d (show y.s ≠ 0 by omega)
      rw [← er] at e1 e2 e3 e4
      have rq : (rs y).q = 0 := by
        rcases Int.mul_eq_zero.mp e2.symm with z | z
        · exact absurd z hk
        · exact z
      have k0 : 0 < k := by
        rcases Int.lt_or_le 0 k with c | c
        · exact c
        · have := Int.mul_le_mul_of_nonneg_right c (Int.le_of_lt e4)
          omega
      generalize rs y = r at *
      have rp1 : 0 < r.p := by
        rcases Int.lt_or_le 0 r.p with c | c
        · exact c
        · exfalso
          have c0 : r.p = 0 := by
            rcases Int.lt_or_eq_of_le c with d | d
            · have := Int.mul_pos k0 (show 0 < -r.p by omega)
              rw [show k * -r.p = -(k * r.p) by grind] at this
              omega
            · exact d
          have c1 : r.p * r.p - r.q * r.q * r.d = 0 := by rw [c0, rq]; simp
          exact nn c1
      have ei : ninv r = low r.s 0 r.d r.p := by
        have : ninv r = low (r.p * r.s) (r.p * 0) r.d (r.p * r.p) := by
          unfold ninv
          rw [rq]
          congr 1 <;> grind
        rw [this, low_scale _ (by omega) (by omega)]
      rw [ei]
      obtain ⟨k', hk', f1, f2, f3, f4⟩ := low_spec (p := r.s) (q := 0) r.d (show r.p ≠ 0 by omega)
      have k0' : 0 < k' := by
        rcases Int.lt_or_le 0 k' with c | c
        · exact c
        · have := Int.mul_le_mul_of_nonneg_right c (Int.le_of_lt f4)
          omega
      have a1 := Int.mul_le_mul_of_nonneg_right (show 1 ≤ k' by omega) (Int.le_of_lt f4)
      have a2 := Int.mul_le_mul_of_nonneg_right (show 1 ≤ k by omega) (Int.le_of_lt rp1)
      omega
  have m1 := Int.emod_lt_of_pos y.p s0
  have dm := Int.mul_ediv_add_emod y.p y.s
  have d1 : 1 ≤ y.p / y.s := by
    have := Int.ediv_le_ediv s0 (show y.s ≤ y.p by omega)
    rw [Int.ediv_self (by omega)] at this
    exact this
  have := Int.mul_le_mul_of_nonneg_left d1 (Int.le_of_lt s0)
  omega
theorem rq_end : ∀ (k : Nat) {x : Nu}, Kq x → Rq x → x.s < 2 ^ k → st x (2 * k) = none
  | 0, x, _, hr, h => by
    have := hr.g.s
    omega
  | k + 1, x, hx, hr, h => by
    rw [show 2 * (k + 1) = 2 * k + 1 + 1 by omega, st_shift]
    cases e : nx x with
    | none => rfl
    | some y =>
      show st y (2 * k + 1) = none
      rw [st_shift]
      cases e2 : nx y with
      | none => rfl
      | some z =>
        have hy := (rq_next hx hr e).1
        have ky := hx.next e
        have l := rq_half hx hr e e2
        refine rq_end k (ky.next e2) (rq_next ky hy e2).1 ?_
        have : (2 : Int) ^ (k + 1) = 2 * 2 ^ k := by rw [Int.pow_succ]; omega
        omega
theorem rq_hlt {x : Nu} (h : Kq x) (hr : Rq x) : Hlt x := by
  refine ⟨140, by omega, .inl (rq_end 70 h hr ?_)⟩
  have := hr.g.b.2.2.2
  unfold Bd at this
  have s0 := hr.g.s
  have e : (2 : Nat) ^ 70 = 1180591620717411303424 := by decide
  have e2 : (2 : Int) ^ 70 = 1180591620717411303424 := by decide
  omega
end KK

set_option maxHeartbeats 2000000
namespace KK
open PySem PySem.Spec L2 DL
theorem de_low {n : Nat} {x : Nu} (gx : Gd n x) {P Q S : Int} (hS : S ≠ 0) (hQ : Q = 0 ↔ x.q = 0) : de (low P Q x.d S) = de x := by
  have di : (low P Q x.d S).d = if (low P Q x.d S).q = 0 then 0 else x.d := low_dd hS
  obtain ⟨k, hk, _, e2, _, _⟩ := low_spec (p := P) (q := Q) x.d hS
  unfold de
  by_cases z : x.q = 0
  · have d0 : x.d = 0 := by
      rcases gx.r with r | r
      · exact r.2
      · exact absurd z r.1
    have : (low P Q x.d S).d = 0 := by rw [di, d0]; split <;> rfl
    rw [this, d0]
  · have : (low P Q x.d S).q ≠ 0 := fun c => z (hQ.mp (by rw [e2, c]; simp))
    rw [di, if_neg this]
theorem sgl_low {n : Nat} {x : Nu} (gx : Gd n x) {P Q S : Int} (hS : 0 < S) (hQ : Q = 0 ↔ x.q = 0) (U V : Int) : sgl (low P Q x.d S) U V = sos (U * P - V * S) (U * Q) (de x) := by
  have dl := de_low gx (P := P) (S := S) (by omega) hQ
  obtain ⟨hd, ir, _⟩ := gx.de
  obtain ⟨k, hk, e1, e2, e3, e4⟩ := low_spec (p := P) (q := Q) x.d (show S ≠ 0 by omega)
  unfold sgl
  rw [dl]
  generalize low P Q x.d S = y at *
  have k0 : 0 < k := by
    rcases Int.lt_or_gt_of_ne hk with c | c
    · have := Int.mul_pos (show 0 < -k by omega) e4
      rw [show -k * y.s = -(k * y.s) by grind] at this
      omega
    · exact c
  have := sos_sc hd ir hk (u := U * y.p - V * y.s) (v := U * y.q)
  rw [sgi_p.mpr k0, Int.one_mul] at this
  rw [← this, e1, e2, e3]
  congr 1 <;> grind
theorem inv_q {n : Nat} {x : Nu} (gx : Gd n x) : -x.q * x.s = 0 ↔ x.q = 0 := by
  have := gx.s
  constructor
  · intro h
    rcases Int.mul_eq_zero.mp h with z | z <;> omega
  · intro h
    rw [h]; simp
theorem de_inv {n : Nat} {x : Nu} (gx : Gd n x) (hz : ¬ isZ x) : de (ninv x) = de x := de_low gx (gx.norm hz) (inv_q gx)
/-- the sign of U / x - V -/
theorem sgl_inv {n : Nat} {x : Nu} (gx : Gd n x) (ho : sgn x = 1) (U V : Int) : sgl (ninv x) U V = sos (U * x.s - V * x.p) (-(V * x.q)) (de x) := by
  have hz := sgn_ne ho
  have dl := de_inv gx hz
  obtain ⟨hd, ir, _⟩ := gx.de
  have nn := gx.norm hz
  obtain ⟨k, hk, e1, e2, e3, e4⟩ := low_spec (p := x.p * x.s) (q := -x.q * x.s) x.d nn
  have qd := gx.qd
  unfold sgl
  rw [dl]
  change x.p * x.s = k * (ninv x).p at e1
  change -x.q * x.s = k * (ninv x).q at e2
  change x.p * x.p - x.q * x.q * x.d = k * (ninv x).s at e3
  change 0 < (ninv x).s at e4
  generalize ninv x = y at *
  have A := sos_mul hd ir (p := x.p) (q := -x.q) (p' := U * x.s - V * x.p) (q' := -(V * x.q))
  rw [qd] at e3
  have a1 : x.p * (U * x.s - V * x.p) + -x.q * -(V * x.q) * de x = k * (U * y.p - V * y.s) := by grind
  have a2 : x.p * -(V * x.q) + -x.q * (U * x.s - V * x.p) = k * (U * y.q) := by grind
  rw [a1, a2, sos_sc hd ir hk] at A
  have B := sos_prod hd ir x.p x.q
  unfold sgn at ho
  rw [ho, Int.one_mul, e3] at B
  have C : sgi (k * y.s) = sgi k := by
    rcases Int.lt_or_gt_of_ne hk with c | c
    · have := Int.mul_pos (show 0 < -k by omega) e4
      rw [sgi_n.mpr c, sgi_n]
      rw [show -k * y.s = -(k * y.s) by grind] at this
      omega
    · rw [sgi_p.mpr c, sgi_p]
      exact Int.mul_pos c e4
  rw [B, C] at A
  rcases Int.lt_or_gt_of_ne hk with c | c
  · rw [sgi_n.mpr c] at A
    omega
  · rw [sgi_p.mpr c] at A
    omega

/-! ### a whole number more -/
theorem rz_p0 {x : Nu} (h : Rz x) (hq : x.q = 0) : 0 < x.p := by
  have := h.r.o
  unfold sgn at this
  rw [hq, sos_q00] at this
  exact sgi_p.mp this
theorem rz_rq {x : Nu} (h : Rz x) (hq : x.q = 0) : Rq x := ⟨h.r.g.mono (by omega), hq, Int.le_of_lt (rz_p0 h hq)⟩
theorem rz_kq {x : Nu} (h : Rz x) : Kq x := by
  by_cases hq : x.q = 0
  · exact ⟨h.c, .inr (rz_rq h hq)⟩
  · exact .of (Kq.cq h hq) h.c
theorem rz_hlt {x : Nu} (h : Rz x) : Hlt x := by
  by_cases hq : x.q = 0
  · exact rq_hlt (rz_kq h) (rz_rq h hq)
  · obtain ⟨i, n, y, F, l, _⟩ := rz_go h hq
    exact ⟨n, by omega, .inr ⟨i, F.lt, F.e⟩⟩
theorem cnl_shf {x : Nu} (h : Cnl x) (v : Int) : Cnl (shf x v) := by
  obtain ⟨h1, h2, h3⟩ := h
  refine ⟨h1, ?_, h3⟩
  show gc (x.p + v * x.s) x.q x.s = 1
  have g0 : 0 < gc (x.p + v * x.s) x.q x.s := gc_pos (by omega)
  have d1 : gc (x.p + v * x.s) x.q x.s ∣ x.p + v * x.s := gc_dp
  have d2 : gc (x.p + v * x.s) x.q x.s ∣ x.q := gc_dq
  have d3 : gc (x.p + v * x.s) x.q x.s ∣ x.s := gc_ds
  have d4 : gc (x.p + v * x.s) x.q x.s ∣ x.p := by
    have := Int.dvd_sub d1 (show gc (x.p + v * x.s) x.q x.s ∣ v * x.s from Int.dvd_mul_of_dvd_right d3)
    rwa [Int.add_sub_cancel] at this
  generalize gc (x.p + v * x.s) x.q x.s = g at *
  have k : g.natAbs ∣ (x.p.natAbs.gcd x.q.natAbs).gcd x.s.natAbs := Nat.dvd_gcd (Nat.dvd_gcd (Int.natAbs_dvd_natAbs.mpr d4) (Int.natAbs_dvd_natAbs.mpr d2)) (Int.natAbs_dvd_natAbs.mpr d3)
  have e : (x.p.natAbs.gcd x.q.natAbs).gcd x.s.natAbs = 1 := by unfold gc at h2; omega
  rw [e] at k
  have := Nat.le_of_dvd (by decide) k
  omega
theorem plus_shf {n : Nat} {x : Nu} (g : Gd n x) (c : Cnl x) (v : Int) : nplus x (nint v) = shf x v := by
  have : nplus x (nint v) = low (x.p + v * x.s) x.q x.d x.s := nplus_int g v
  rw [this]
  exact cnl_eq (cnl_shf c v)
theorem shf_kq {x : Nu} (h : Rz x) {v : Int} (v0 : 0 ≤ v) (v9 : v ≤ 9) : Kq (shf x v) := by
  refine ⟨cnl_shf h.c v, ?_⟩
  by_cases hq : x.q = 0
  · right
    have s0 := h.r.g.s
    have p0 := rz_p0 h hq
    obtain ⟨b1, b2, b3, b4⟩ := h.r.g.b
    have bv : Bd 4 v := by unfold Bd; omega
    have vs := Int.mul_nonneg v0 (Int.le_of_lt s0)
    refine ⟨⟨s0, h.r.g.r, fun z _ => ?_, (b1.mono (m := 60) (by omega)).add ((bv.mul b4).mono (m := 60) (by omega)) (by omega), b2.mono (by omega), b3.mono (by omega), b4.mono (by omega)⟩, hq, ?_⟩
    · have z : x.p + v * x.s = 0 := z
      omega
    · show 0 ≤ x.p + v * x.s
      omega
  · exact .inl ⟨x, v, Kq.cq h hq, h.c, v0, v9, rfl⟩
theorem shf_st {x : Nu} (hs : 0 < x.s) (v : Int) (i : Nat) : st (shf x v) (i + 1) = st x (i + 1) := by rw [st_shift, st_shift, shf_nx x v hs]
theorem shf_hlt {x : Nu} (h : Rz x) {v : Int} (v0 : 0 ≤ v) (v9 : v ≤ 9) : Hlt (shf x v) := by
  have s0 := h.r.g.s
  by_cases hq : x.q = 0
  · have k := shf_kq h v0 v9
    rcases k.2 with ⟨y, w, cy, _, _, _, e⟩ | hr
    · exfalso
      have : y.q = x.q := by
        have := congrArg Nu.q e
        exact this.symm
      exact cy.q0 (this.trans hq)
    · exact rq_hlt k hr
  · obtain ⟨i, n, y, F, l, _⟩ := rz_go h hq
    refine ⟨n + 1, by omega, .inr ⟨i + 1, by have := F.lt; omega, ?_⟩⟩
    rw [shf_st s0, shf_st s0]
    show (st x i).bind nx = (st x n).bind nx
    rw [F.e]
theorem shf_ql {x : Nu} (hs : 0 < x.s) (v : Int) (k : Nat) : ql (k + 1) (shf x v) = (flz x + v) :: (ql (k + 1) x).drop 1 := by
  show flz (shf x v) :: _ = _
  rw [shf_flz x v hs, shf_nx x v hs]
  rfl
/-! ### what quotient_at tells -/
def qv : Option Nu → PyData
  | some y => .int (flz y)
  | none => .none
theorem per {x : Nu} {i n : Nat} (e : st x i = st x n) : ∀ k, st x (i + k) = st x (n + k)
  | 0 => e
  | k + 1 => by
    show (st x (i + k)).bind nx = (st x (n + k)).bind nx
    rw [per e k]
theorem per_mod {x : Nu} {i n : Nat} (lt : i < n) (e : st x i = st x n) : ∀ j, i ≤ j → st x j = st x (i + (j - i) % (n - i)) := by
  intro j
  induction j using Nat.strongRecOn with
  | _ j ih =>
    intro hj
    rcases Nat.lt_or_ge (j - i) (n - i) with c | c
    · rw [Nat.mod_eq_of_lt c]
      congr 1
      omega
    · have e1 : j = n + (j - n) := by omega
      have h1 : st x j = st x (i + (j - n)) := by
        conv => lhs; rw [e1]
        exact (per e (j - n)).symm
      rw [h1, ih (i + (j - n)) (by omega) (by omega)]
      congr 2
      rw [show i + (j - n) - i = j - n by omega, show j - i = (j - n) + (n - i) by omega, Nat.add_mod_right]
theorem qseg_get {x : Nu} {i : Nat} : ∀ m, (∀ j, j < m → st x (i + j) ≠ none) → (qseg x i (i + m)).length = m ∧ ∀ k, k < m → (qseg x i (i + m))[k]? = (st x (i + k)).map flz
  | 0, _ => ⟨by unfold qseg; simp, fun k hk => absurd hk (Nat.not_lt_zero _)⟩
  | m + 1, h => by
    obtain ⟨l, g⟩ := qseg_get m fun j hj => h j (by omega)
    obtain ⟨y, hy⟩ := st_one (h m (by omega))
    have e : qseg x i (i + (m + 1)) = qseg x i (i + m) ++ [flz y] := qseg_snoc hy (Nat.le_add_right i m)
    rw [e]
    refine ⟨by rw [List.length_append, l]; rfl, fun k hk => ?_⟩
    rcases Nat.lt_or_ge k m with c | c
    · rw [List.getElem?_append_left (by omega), g k c]
    · have : k = m := by omega
      subst this
      rw [List.getElem?_append_right (by omega), l, Nat.sub_self, hy]
      rfl
theorem qat_ok {x : Nu} {f g : List Int} (h : Xpn x f g) (j : Nat) : qat f g j = qv (st x j) := by
  rcases h with ⟨n, n0, _, h1, h2, rfl, rfl⟩ | ⟨i, n, lt, _, e, hs, _, rfl, rfl⟩
  · obtain ⟨l, gt⟩ := qseg_get (x := x) (i := 0) n fun k hk => by rw [Nat.zero_add]; exact h2 k hk
    rw [Nat.zero_add] at l gt
    unfold qat
    rcases Nat.lt_or_ge j n with c | c
    · rw [gt j c, Nat.zero_add]
      obtain ⟨y, hy⟩ := st_one (h2 j c)
      rw [hy]
      rfl
    · rw [List.getElem?_eq_none (by omega), if_pos rfl, st_none h1 j c]
      rfl
  · obtain ⟨l, gt⟩ := qseg_get (x := x) (i := 0) i fun k hk => by rw [Nat.zero_add]; exact hs k (by omega)
    rw [Nat.zero_add] at l gt
    obtain ⟨l2, gt2⟩ := qseg_get (x := x) (i := i) (n - i) fun k hk => hs (i + k) (by omega)
    rw [show i + (n - i) = n by omega] at l2 gt2
    unfold qat
    rcases Nat.lt_or_ge j i with c | c
    · rw [gt j c, Nat.zero_add]
      obtain ⟨y, hy⟩ := st_one (hs j (by omega))
      rw [hy]
      rfl
    · have gn : qseg x i n ≠ [] := fun z => by rw [z] at l2; simp at l2; omega
      rw [List.getElem?_eq_none (by omega), if_neg gn]
      have ml : (j - i) % (n - i) < n - i := Nat.mod_lt _ (by omega)
      rw [l, l2, gt2 _ ml, ← per_mod lt e j c]
      obtain ⟨y, hy⟩ : ∃ y, st x j = some y := by
        rw [per_mod lt e j c]
        exact st_one (hs _ (by omega))
      rw [hy]
      rfl
/-! ### the inverse -/
theorem cq_inv {x : Nu} (h : Rz x) (hq : x.q ≠ 0) : Cq (ninv x) := by
  have gx := h.r.g
  have s0 := gx.s
  have dr := gx.dr hq
  have d0 := dr.1
  have ho := h.r.o
  have hz := sgn_ne ho
  have ed : de x = x.d := by unfold de; rw [if_neg (by omega)]
  have b1 := sq_nat h.r.p
  have b2 := sq_nat h.r.q
  have b3 := sq_nat (show x.s.natAbs ≤ 5 by have := h.r.s; omega)
  have n1 := sq_nn x.p
  have n2 := sq_nn x.q
  have n3 := sq_nn x.s
  have m1 := Int.mul_le_mul b2 b3 n3 (by decide)
  have m2 := Int.mul_le_mul b1 b3 n3 (by decide)
  have m3 := Int.mul_le_mul m1 h.r.d (by omega) (by decide)
  have nn := gx.norm hz
  unfold sgn at ho
  rw [ed] at ho
  have pr := sos_prod d0 dr.2.2 x.p x.q
  rw [ho, Int.one_mul] at pr
  obtain ⟨κ, hk, e1, e2, e3, e4⟩ := low_spec (p := x.p * x.s) (q := -x.q * x.s) x.d nn
  have edd := low_dd (p := x.p * x.s) (q := -x.q * x.s) (d := x.d) nn
  change x.p * x.s = κ * (ninv x).p at e1
  change -x.q * x.s = κ * (ninv x).q at e2
  change x.p * x.p - x.q * x.q * x.d = κ * (ninv x).s at e3
  change 0 < (ninv x).s at e4
  change (ninv x).d = if (ninv x).q = 0 then 0 else x.d at edd
  have yq : (ninv x).q ≠ 0 := fun z => by
    rw [z, Int.mul_zero] at e2
    rcases Int.mul_eq_zero.mp e2 with c | c <;> omega
  rw [if_neg yq] at edd
  generalize ninv x = y at *
  have M1 : 2 * x.s * x.q * (2 * x.s * x.q) * x.d ≤ MQ := by
    have e : 2 * x.s * x.q * (2 * x.s * x.q) * x.d = 4 * (x.q * x.q * (x.s * x.s) * x.d) := by grind
    rw [e]
    unfold MQ
    omega
  have M2 : 2 * x.s * x.p * (2 * x.s * x.p) ≤ MQ := by
    have e : 2 * x.s * x.p * (2 * x.s * x.p) = 4 * (x.p * x.p * (x.s * x.s)) := by grind
    rw [e]
    unfold MQ
    omega
  have sq0 : 2 * x.s * x.q ≠ 0 := Int.mul_ne_zero (by omega) hq
  rcases Int.lt_or_gt_of_ne nn with N | N
  · have kn : κ < 0 := by
      rcases Int.lt_or_le κ 0 with c | c
      · exact c
      · have := Int.mul_nonneg c (Int.le_of_lt e4)
        omega
    rw [sgi_n.mpr N] at pr
    refine ⟨-(x.p * x.p - x.q * x.q * x.d), 2 * x.s * x.p, -(x.s * x.s), 2 * x.s * x.q, x.d, -(2 * κ), dr, by omega, sq0, by grind, M1, M2, ?_, by omega, by grind, by grind, by grind, edd⟩
    rw [show -(2 * x.s * x.p) = 2 * x.s * -x.p by grind, sos_scale d0 (by omega) dr.2.2]
    have := sos_ng x.p (-x.q) x.d
    rw [Int.neg_neg] at this
    rw [this, pr]
    rfl
  · have kp : 0 < κ := by
      rcases Int.lt_or_le 0 κ with c | c
      · exact c
      · have := Int.mul_nonneg (show 0 ≤ -κ by omega) (Int.le_of_lt e4)
        rw [show -κ * y.s = -(κ * y.s) by grind] at this
        omega
    rw [sgi_p.mpr N] at pr
    refine ⟨x.p * x.p - x.q * x.q * x.d, -(2 * x.s * x.p), x.s * x.s, -(2 * x.s * x.q), x.d, 2 * κ, dr, N, by omega, by grind, by
      rw [show -(2 * x.s * x.q) * -(2 * x.s * x.q) * x.d = 2 * x.s * x.q * (2 * x.s * x.q) * x.d by grind]; exact M1, by
      rw [show -(2 * x.s * x.p) * -(2 * x.s * x.p) = 2 * x.s * x.p * (2 * x.s * x.p) by grind]; exact M2, ?_, by omega, by grind, by grind, by grind, edd⟩
    rw [show - -(2 * x.s * x.p) = 2 * x.s * x.p by omega, show -(2 * x.s * x.q) = 2 * x.s * -x.q by grind, sos_scale d0 (by omega) dr.2.2]
    exact pr
theorem inv_kq {x : Nu} (h : Rz x) : Kq (ninv x) := by
  have gx := h.r.g
  have hz := sgn_ne h.r.o
  have nn := gx.norm hz
  have c : Cnl (ninv x) := cnl_low nn trivial
  by_cases hq : x.q = 0
  · refine ⟨c, .inr ?_⟩
    have p0 := rz_p0 h hq
    have s0 := gx.s
    have ei : ninv x = low x.s 0 x.d x.p := by
      have : ninv x = low (x.p * x.s) (x.p * 0) x.d (x.p * x.p) := by
        unfold ninv
        rw [hq]
        congr 1 <;> grind
      rw [this, low_scale _ (by omega) (by omega)]
    have g : Gd 70 (ninv x) := by
      rw [ei]
      obtain ⟨b1, b2, b3, b4⟩ := gx.b
      exact low_Gd' (by omega) (fun z => absurd rfl z) (b4.mono (by omega)) (bd0 _) (b1.mono (by omega)) (by omega)
    obtain ⟨k', hk', f1, f2, f3, f4⟩ := low_spec (p := x.s) (q := 0) x.d (show x.p ≠ 0 by omega)
    rw [← ei] at f1 f2 f3 f4
    refine ⟨g, ?_, ?_⟩
    · rcases Int.mul_eq_zero.mp f2.symm with z | z
      · exact absurd z hk'
      · exact z
    · have k0 : 0 < k' := by
        rcases Int.lt_or_le 0 k' with c | c
        · exact c
        · have := Int.mul_le_mul_of_nonneg_right c (Int.le_of_lt f4)
          omega
      rcases Int.lt_or_le (ninv x).p 0 with c | c
      · have := Int.mul_pos k0 (show 0 < -(ninv x).p by omega)
        rw [show k' * -(ninv x).p = -(k' * (ninv x).p) by grind] at this
        omega
      · exact c
  · exact .of (cq_inv h hq) c
theorem flo_u {n : Nat} {y : Nu} (g : Gd n y) {a b : Int} (h1 : Flo y a) (h2 : Flo y b) : a = b := fls_uniq g.de.1 g.de.2.1 g.s h1 h2
theorem inv_flz {x : Nu} (h : Rz x) (h1 : 0 < flz x) (hne : ¬ (x.p = 1 ∧ x.q = 0 ∧ x.d = 0 ∧ x.s = 1)) : flz (ninv x) = 0 := by
  have gx := h.r.g
  have ho := h.r.o
  have s0 := gx.s
  have ki := inv_kq h
  have k := rz_kq h
  refine flo_u ki.gd ki.flo ?_
  have f := k.flo.1
  have a1 : 0 ≤ sgl x 1 (flz x) := by
    unfold sgl
    have e1 : 1 * x.p - flz x * x.s = x.p - flz x * x.s := by grind
    rw [e1, Int.one_mul]
    exact f
  have a2 : 0 ≤ sgl x 1 1 := sgl_mono gx a1 (by omega)
  have a3 : sgl x 1 1 ≠ 0 := fun z => by
    unfold sgl at z
    obtain ⟨z1, z2⟩ := sos_z gx.de.1 gx.de.2.1 z
    have hq : x.q = 0 := by omega
    have d0 := h.c.2.2 hq
    have hp : x.p = x.s := by omega
    have g1 := h.c.2.1
    rw [hq, hp] at g1
    have : gc x.s 0 x.s = x.s := by
      unfold gc
      simp
      omega
    rw [this] at g1
    exact hne ⟨by omega, hq, d0, g1⟩
  have a4 : sgl x 1 1 = 1 := by
    rcases sos_rg (1 * x.p - 1 * x.s) (1 * x.q) (de x) with c | c | c
    · unfold sgl at a2; omega
    · exact absurd c a3
    · exact c
  have b0 := sgl_inv gx ho 1 0
  have b1 := sgl_inv gx ho 1 1
  have c0 : sgl (ninv x) 1 0 = 1 := by
    rw [b0]
    have e1 : 1 * x.s - 0 * x.p = x.s := by grind
    have e2 : -(0 * x.q) = 0 := by grind
    rw [e1, e2, sos_q00]
    exact sgi_p.mpr s0
  have c1 : sgl (ninv x) 1 1 = -1 := by
    rw [b1]
    have e1 : 1 * x.s - 1 * x.p = -(1 * x.p - 1 * x.s) := by grind
    rw [e1, sos_ng]
    unfold sgl at a4
    rw [a4]
  refine ⟨?_, ?_⟩
  · unfold sgl at c0
    have e1 : (ninv x).p - 0 * (ninv x).s = 1 * (ninv x).p - 0 * (ninv x).s := by grind
    have e2 : (ninv x).q = 1 * (ninv x).q := by grind
    rw [e1, e2, c0]
    decide
  · unfold sgl at c1
    have e1 : (ninv x).p - (0 + 1) * (ninv x).s = 1 * (ninv x).p - 1 * (ninv x).s := by grind
    have e2 : (ninv x).q = 1 * (ninv x).q := by grind
    rw [e1, e2, c1]
theorem inv_nx {x : Nu} (h : Rz x) (hf : flz (ninv x) = 0) : nx (ninv x) = some x := by
  have gx := h.r.g
  have hz := sgn_ne h.r.o
  have ki := inv_kq h
  have ii := ninv_ninv gx hz h.c
  have er : rs (ninv x) = ninv x := by
    unfold rs
    rw [hf]
    have : nplus (ninv x) ⟨-0, 0, 0, 1⟩ = low ((ninv x).p + -0 * (ninv x).s) (ninv x).q (ninv x).d (ninv x).s := nplus_int ki.gd _
    rw [this]
    have e : (ninv x).p + -0 * (ninv x).s = (ninv x).p := by grind
    rw [e]
    exact cnl_eq ki.1
  unfold nx
  rw [er, if_neg, ii]
  rintro ⟨c1, c2, c3, c4⟩
  have i2 : ninv (ninv x) = low 0 0 0 0 := by
    generalize ninv x = y at *
    unfold ninv
    rw [c1, c2, c3]; simp
  have : 0 < x.s := gx.s
  rw [← ii, i2] at this
  exact absurd this (by decide)
theorem inv_ql {x : Nu} (h : Rz x) (hf : flz (ninv x) = 0) (k : Nat) : ql (k + 1) (ninv x) = 0 :: ql k x := by
  show flz (ninv x) :: _ = _
  rw [hf, inv_nx h hf]
end KK

set_option maxHeartbeats 2000000
namespace KK
open PySem PySem.Spec L2 DL
/-! ### the drawn ratios -/
structure Sz (x : Nu) : Prop where
  m : Sm x
  c : Cnl x
  d : x.d = 0 ∨ x.d ∈ ([2, 3, 5, 6, 7, 13, 21] : List Int)
theorem Sz.opp {x : Nu} (h : Sz x) : Sz (nopp x) := ⟨h.m.opp, ⟨h.c.1, by
  have := h.c.2.1
  unfold gc at this ⊢
  show ((((-x.p).natAbs.gcd (-x.q).natAbs).gcd x.s.natAbs : Nat) : Int) = 1
  rw [Int.natAbs_neg, Int.natAbs_neg]
  exact this, fun z => h.c.2.2 (by
  have z : -x.q = 0 := z
  omega)⟩, h.d⟩
theorem low_d13 {p q d t : Int} (ht : t ≠ 0) (hd : d ∈ ([2, 3, 5, 6, 7, 13, 21] : List Int)) : (low p q d t).d = 0 ∨ (low p q d t).d ∈ ([2, 3, 5, 6, 7, 13, 21] : List Int) := by
  rw [low_dd ht]
  split
  · exact .inl rfl
  · exact .inr hd
theorem drs13 {y : PyData} (h : y ∈ ([.int 2, .int 3, .int 5, .int 5, .int 6, .int 7, .int 13, .int 21] : List PyData)) : ∃ d : Int, y = .int d ∧ d ∈ ([2, 3, 5, 6, 7, 13, 21] : List Int) := by
  simp only [List.mem_cons, List.not_mem_nil, or_false] at h
  rcases h with rfl | rfl | rfl | rfl | rfl | rfl | rfl | rfl <;> exact ⟨_, rfl, by decide⟩
theorem drd13 {d : Int} (h : d ∈ ([2, 3, 5, 6, 7, 13, 21] : List Int)) : Dr d ∧ d ≤ 21 := by
  have hm : (PyData.int d) ∈ ([.int 2, .int 3, .int 5, .int 5, .int 6, .int 7, .int 13, .int 21] : List PyData) := by
    simp only [List.mem_cons, List.not_mem_nil, or_false] at h ⊢
    rcases h with rfl | rfl | rfl | rfl | rfl | rfl | rfl <;> simp
  obtain ⟨d', e, hd⟩ := drs hm
  cases e
  exact hd
theorem gold13 : Rz ⟨1, 1, 5, 2⟩ := ⟨gold, ⟨by decide, by decide, by decide⟩, .inr (by decide)⟩
theorem pure__law_drawn_ratio (α : List SD) (QD : Ret → List SD → Prop) (ED : Exd → List SD → Prop) (W : WD) (hW : W = fun e ρ => outK α ρ fun α' => ED e α') (h : p__law_drawn_ratio α QD ED) : r__law_drawn_ratio W (DEnd α QD) (startD n__law_drawn_ratio.length α) := by
  obtain ⟨s, m, rfl, hs, hm, hq⟩ := h
  have st : startD n__law_drawn_ratio.length [s.S] = [s.S, .no, .no] := rfl
  rw [st]
  unfold r__law_drawn_ratio
  refine s_setP (fun z ρ' => ∃ (d : Int) (s' : Spl), z = .int d ∧ d ∈ ([2, 3, 5, 6, 7, 13, 21] : List Int) ∧ Sok (m + 1) s' ∧ ρ' = [s'.S, .no, .no]) (fun Q hQ => ?_) ?_
  · refine dr_choiceJ 0 (xs := [.int 2, .int 3, .int 5, .int 5, .int 6, .int 7, .int 13, .int 21]) rfl (ev_new (by (repeat' (first | exact KK.ev_c | exact KK.ev_var _ rfl | exact KK.eva_nil | with_reducible apply KK.eva_cons | with_reducible apply KK.ev_p | with_reducible apply KK.ev_q | with_reducible apply KK.ev_d | with_reducible apply KK.ev_s | with_reducible apply KK.ev_add | with_reducible apply KK.ev_sub | with_reducible apply KK.ev_mul | with_reducible apply KK.ev_fdiv | with_reducible apply KK.ev_mod | with_reducible apply KK.ev_neg | with_reducible apply KK.ev_max | with_reducible apply KK.ev_lt | with_reducible apply KK.ev_le | with_reducible apply KK.ev_gt | with_reducible apply KK.ev_ge | with_reducible apply KK.ev_eq | with_reducible apply KK.ev_nei | with_reducible apply KK.evt_lt | with_reducible apply KK.evt_le | with_reducible apply KK.evt_gt | with_reducible apply KK.evt_ge | with_reducible apply KK.evt_eq | with_reducible apply KK.evt_ne))) (by decide)) hs (by omega) (by simp) (by decide) fun y s' hy hs' => ?_
    obtain ⟨d, rfl, hd⟩ := drs13 hy
    exact hQ _ _ ⟨d, s', rfl, hd, hs', rfl⟩
  rintro _ _ ⟨d, s1, rfl, hdl, hs1, rfl⟩
  obtain ⟨hd, h21⟩ := drd13 hdl
  show sSeq _ _ _ [s1.S, iv d, .no]
  refine s_setP (fun z ρ' => ∃ (x : Nu) (s' : Spl), z = x.D ∧ Sz x ∧ Sok (m + 6) s' ∧ ρ' = [s'.S, iv d, .no]) (fun Q hQ => ?_) ?_
  · refine ⟨trivial, ?_⟩
    refine x_cons (ev_var 1 rfl) ?_
    refine dr_choiceJ 0 (xs := [.int 1, .int 2, .int 3, .int 5]) rfl (ev_new (by (repeat' (first | exact KK.ev_c | exact KK.ev_var _ rfl | exact KK.eva_nil | with_reducible apply KK.eva_cons | with_reducible apply KK.ev_p | with_reducible apply KK.ev_q | with_reducible apply KK.ev_d | with_reducible apply KK.ev_s | with_reducible apply KK.ev_add | with_reducible apply KK.ev_sub | with_reducible apply KK.ev_mul | with_reducible apply KK.ev_fdiv | with_reducible apply KK.ev_mod | with_reducible apply KK.ev_neg | with_reducible apply KK.ev_max | with_reducible apply KK.ev_lt | with_reducible apply KK.ev_le | with_reducible apply KK.ev_gt | with_reducible apply KK.ev_ge | with_reducible apply KK.ev_eq | with_reducible apply KK.ev_nei | with_reducible apply KK.evt_lt | with_reducible apply KK.evt_le | with_reducible apply KK.evt_gt | with_reducible apply KK.evt_ge | with_reducible apply KK.evt_eq | with_reducible apply KK.evt_ne))) (by decide)) hs1 (by omega) (by simp) (by decide) fun y s' hy hs' => ?_
    obtain ⟨z, rfl, z0, z5⟩ := szs hy
    refine ⟨s', m + 2, d, z, rfl, hs', by omega, z0, by omega, hd.ne, fun p q t s2 hp hq t0 t1 hs2 => ?_⟩
    exact hQ _ _ ⟨low p q d t, s2, rfl, ⟨low_Sm hd h21 z5 hp hq t0 t1, cnl_low (by omega) trivial, low_d13 (by omega) hdl⟩, hs2.le (by omega), rfl⟩
  rintro _ _ ⟨x, s2, rfl, hx, hs2, rfl⟩
  show sSeq _ _ _ [s2.S, iv d, .val x.D]
  have ts : EvT (dTest (dOp dLt (dCall p__law_sign_of W (dCons (dVar 2) (dNil))) (dC (.int 0)))) [s2.S, iv d, .val x.D] (decide (sgn x < 0)) :=
    evt_lt (ev_call (zs := [x.D]) (eva_cons (ev_var 2 rfl) eva_nil) fun QD ED hq => ⟨x, rfl, hx.m.g.mono (by omega), hq⟩) ev_c
  have fin : ∀ y : Nu, Sz y → 0 ≤ sgn y → sRet (dIf (dTest (dOp dNe (dSl (dVar 2) (oNone) (oSome (dC (.int 2)))) (dTup (dCons (dC (.int 0)) (dCons (dC (.int 0)) (dNil)))))) (dVar 2) (dTup (dCons (dC (.int 1)) (dCons (dC (.int 1)) (dCons (dC (.int 5)) (dCons (dC (.int 2)) (dNil))))))) (DEnd [s.S] QD) [s2.S, iv d, .val y.D] := by
    intro y hy h0
    by_cases nz : y.p = 0 ∧ y.q = 0
    · exact s_ret (ev_ifF (evt_as (evt_pq0 (ev_var 2 rfl)) (by rw [decide_eq_true nz]; rfl)) (ev_tup (by (repeat' (first | exact KK.ev_c | exact KK.ev_var _ rfl | exact KK.eva_nil | with_reducible apply KK.eva_cons | with_reducible apply KK.ev_p | with_reducible apply KK.ev_q | with_reducible apply KK.ev_d | with_reducible apply KK.ev_s | with_reducible apply KK.ev_add | with_reducible apply KK.ev_sub | with_reducible apply KK.ev_mul | with_reducible apply KK.ev_fdiv | with_reducible apply KK.ev_mod | with_reducible apply KK.ev_neg | with_reducible apply KK.ev_max | with_reducible apply KK.ev_lt | with_reducible apply KK.ev_le | with_reducible apply KK.ev_gt | with_reducible apply KK.ev_ge | with_reducible apply KK.ev_eq | with_reducible apply KK.ev_nei | with_reducible apply KK.evt_lt | with_reducible apply KK.evt_le | with_reducible apply KK.evt_gt | with_reducible apply KK.evt_ge | with_reducible apply KK.evt_eq | with_reducible apply KK.evt_ne))) (by decide))) (hq ⟨1, 1, 5, 2⟩ s2 gold13 (hs2.le (by omega)))
    · have := sgn_nz hy.m.g nz
      have o : sgn y = 1 := by
        rcases sos_rg y.p y.q (de y) with c | c | c
        · unfold sgn at h0; omega
        · exact absurd c this
        · exact c
      exact s_ret (ev_ifT (evt_as (evt_pq0 (ev_var 2 rfl)) (by rw [decide_eq_false nz]; rfl)) (ev_var 2 rfl)) (hq y s2 ⟨⟨hy.m.g, hy.m.p, hy.m.q, hy.m.s, hy.m.d, o⟩, hy.c, hy.d⟩ (hs2.le (by omega)))
  by_cases c : sgn x < 0
  · refine s_seq (s_ifT (evt_as ts (decide_eq_true c)) ?_)
    refine s_set1 (z := (nopp x).D) (ev_call (zs := [x.D]) (eva_cons (ev_var 2 rfl) eva_nil) fun QD ED hq => ⟨x, rfl, hq⟩) ?_
    exact fin (nopp x) hx.opp (by rw [sgn_opp]; omega)
  · refine s_seq (s_ifF (evt_as ts (decide_eq_false c)) ?_)
    exact fin x hx (by omega)
end KK

set_option maxHeartbeats 2000000
namespace KK
open PySem PySem.Spec L2 DL
def tE13 (W : WD) (k_InvalidNumber : Addr) : TSD := sSeq (sSet 13 (dCall p_convergents W (dCons (dVar 3) (dCons (dC (.int 25)) (dNil))))) (sFor (range1D (dCons (dOp dSub (dF1 fLen (dVar 13)) (dC (.int 1))) (dNil))) (gName' 10) (sSeq (sAsg (dOp atD (dVar 13) (dVar 10)) (gTup' (lenIs 2 (gCons' (gName' 14) (gCons' (gName' 15) (gNil')))))) (sSeq (sAsg (dOp atD (dVar 13) (dOp dAdd (dVar 10) (dC (.int 1)))) (gTup' (lenIs 2 (gCons' (gName' 16) (gCons' (gName' 17) (gNil')))))) (sSeq (sSet 6 (dOp dSub (dOp dMul (dVar 16) (dVar 15)) (dOp dMul (dVar 17) (dVar 14)))) (sIf (dTest (dOp dNe (dVar 6) (dOp dSub (dC (.int 1)) (dOp dMul (dC (.int 2)) (dOp dMod (dVar 10) (dC (.int 2))))))) (sRet (dC (.bool false))) (sNext))))))
def tD13 (W : WD) (k_InvalidNumber : Addr) : TSD := sSeq (sSet 12 (dCall p_minus W (dCons (dVar 3) (dCons (dCall (p_number k_InvalidNumber) W (dCons (dCall p_quotient_at W (dCons (dVar 4) (dCons (dC (.int 0)) (dNil)))) (dCons (dC (.int 0)) (dCons (dC (.int 0)) (dCons (dC (.int 1)) (dNil)))))) (dNil))))) (sSeq (sIf (dAnd (dTest (dOp dNe (dSl (dVar 12) (oNone) (oSome (dC (.int 2)))) (dTup (dCons (dC (.int 0)) (dCons (dC (.int 0)) (dNil)))))) (dTest (dOp dNe (dCall p_quotients W (dCons (dCall p_over W (dCons (dTup (dCons (dC (.int 1)) (dCons (dC (.int 0)) (dCons (dC (.int 0)) (dCons (dC (.int 1)) (dNil)))))) (dCons (dVar 12) (dNil)))) (dCons (dC (.int 29)) (dNil)))) (dNew (nSl (dCall p_quotients W (dCons (dVar 3) (dCons (dC (.int 30)) (dNil)))) (oSome (dC (.int 1))) (oNone)))))) (sRet (dC (.bool false))) (sNext)) (tE13 W k_InvalidNumber))
def tC13 (W : WD) (k_InvalidNumber : Addr) : TSD := sSeq (sIf (dAnd (dTest (dOp dGt (dCall p_quotient_at W (dCons (dVar 4) (dCons (dC (.int 0)) (dNil)))) (dC (.int 0)))) (dTest (dOp dNe (dVar 3) (dTup (dCons (dC (.int 1)) (dCons (dC (.int 0)) (dCons (dC (.int 0)) (dCons (dC (.int 1)) (dNil))))))))) (sSeq (sSet 11 (dCall p_over W (dCons (dTup (dCons (dC (.int 1)) (dCons (dC (.int 0)) (dCons (dC (.int 0)) (dCons (dC (.int 1)) (dNil)))))) (dCons (dVar 3) (dNil))))) (sIf (dTest (dOp dNe (dCall p_quotients W (dCons (dVar 11) (dCons (dC (.int 31)) (dNil)))) (dOp dAdd (dNew (nLst (dCons (dC (.int 0)) (dNil)))) (dCall p_quotients W (dCons (dVar 3) (dCons (dC (.int 30)) (dNil))))))) (sRet (dC (.bool false))) (sNext))) (sNext)) (tD13 W k_InvalidNumber)
def tB13 (W : WD) (k_InvalidNumber : Addr) : TSD := sSeq (sSet 8 (dOp dAdd (dNew (nLst (dCons (dOp dAdd (dCall p_quotient_at W (dCons (dVar 4) (dCons (dC (.int 0)) (dNil)))) (dVar 6)) (dNil)))) (dNew (nSl (dCall p_quotients W (dCons (dVar 3) (dCons (dC (.int 30)) (dNil)))) (oSome (dC (.int 1))) (oNone))))) (sSeq (sOwn 9 (nLst (dNil))) (sSeq (sFor (range1D (dCons (dC (.int 30)) (dNil))) (gName' 10) (sIf (dTest (dOp dIsNot (dCall p_quotient_at W (dCons (dVar 7) (dCons (dVar 10) (dNil)))) (dC .none))) (sApp 9 (dCall p_quotient_at W (dCons (dVar 7) (dCons (dVar 10) (dNil))))) (sNext))) (sSeq (sIf (dTest (dOp dNe (dVar 9) (dVar 8))) (sRet (dC (.bool false))) (sNext)) (tC13 W k_InvalidNumber))))
def tA13 (W : WD) (k_InvalidNumber : Addr) : TSD := sSeq (sSet 6 (dOp dAdd (dC (.int 1)) (withLent 1 (dCallL p__law_upto W 1 (dCons (dC (.int 9)) (dNil)))))) (sSeq (sSet 7 (dCall p_expansion W (dCons (dCall p_plus W (dCons (dVar 3) (dCons (dCall (p_number k_InvalidNumber) W (dCons (dVar 6) (dCons (dC (.int 0)) (dCons (dC (.int 0)) (dCons (dC (.int 1)) (dNil)))))) (dNil)))) (dNil)))) (tB13 W k_InvalidNumber))
def t013 (W : WD) (k_InvalidNumber : Addr) : TSD := sSeq (sSet 5 (dCall (p_number k_InvalidNumber) W (dCons (dOp dAdd (dC (.int 1)) (withLent 1 (dCallL p__law_upto W 1 (dCons (dOp dPow (dC (.int 10)) (dC (.int 20))) (dNil))))) (dCons (dC (.int 0)) (dCons (dC (.int 0)) (dCons (dOp dAdd (dC (.int 1)) (withLent 1 (dCallL p__law_upto W 1 (dCons (dOp dPow (dC (.int 10)) (dC (.int 20))) (dNil))))) (dNil))))))) (sSeq (sIf (dTest (dOp dNe (dCall p_number_of W (dCons (dCall p_expansion W (dCons (dVar 5) (dNil))) (dNil))) (dVar 5))) (sRet (dC (.bool false))) (sNext)) (tA13 W k_InvalidNumber))
def turn13 (W : WD) (k_InvalidNumber : Addr) : TSD := sSeq (sSet 3 (withLent 1 (dCallL p__law_drawn_ratio W 1 (dNil)))) (sSeq (sSet 4 (dCall p_expansion W (dCons (dVar 3) (dNil)))) (sSeq (sIf (dAnd (dTest (dOp dLt (dF1 fLen (dOp atD (dVar 4) (dC (.int 1)))) (dC (.int 5)))) (dAnd (dTest (dOp dLt (dF1 fMax1 (dOp dAdd (dTup (dCons (dC (.int 1)) (dNil))) (dOp atD (dVar 4) (dC (.int 1))))) (dC (.int 21)))) (dTest (dOp dNe (dCall p_number_of W (dCons (dVar 4) (dNil))) (dVar 3))))) (sRet (dC (.bool false))) (sNext)) (t013 W k_InvalidNumber)))
theorem ev_p10 {ρ : DSt} (n : Nat) (h : n ≤ 1000 := by decide) : Ev (dOp dPow (dC (.int 10)) (dC (.int (n : Int)))) ρ (.int (10 ^ n)) := ev_as (ev_pow ev_c ev_c ⟨by omega, by omega, by decide⟩) (by simp)
theorem ints_eqv (ns : List Int) : PyData.eqvAll (ns.map PyData.int) (ns.map PyData.int) = true := by
  induction ns with
  | nil => rfl
  | cons n ns ih => rw [List.map_cons]; unfold PyData.eqvAll; rw [ih]; simp [PyData.eqv]
theorem ev_catT {a b : TED} {ds es : List PyData} (ha : Ev a ρ (.tuple ds)) (hb : Ev b ρ (.tuple es)) (h1 : ds.length ≤ 1000) (h2 : es.length ≤ 1000) : Ev (dOp dAdd a b) ρ (.tuple (ds ++ es)) := ev_op ha hb fun _ k => ⟨by rw [sizeLine_eq]; omega, k⟩

/-! ### expressions of the law -/
section
variable {ρ : DSt} {W : WD} {a b : TED} {k_InvalidNumber : Addr}
theorem ev_callN {p : DSp} {dr : TND} {zs ds : List PyData} (h : EvA dr ρ zs) (hp : ∀ (QD : Ret → List SD → Prop) (ED : Exd → List SD → Prop), QD (.n ds) (zs.map SD.val) → p (zs.map SD.val) QD ED) : Ev (dCall p W dr) ρ (.list ds) := fun Q k => h _ (hp _ _ (k (.d (.list ds)) (fun _ h => h) (fun _ h => h)))
theorem ev_qs13 {x : Nu} {k : Nat} (hx : Kq x) (hk : k ≤ 450) (ha : Ev a ρ x.D) (hb : Ev b ρ (.int k)) : Ev (dCall p_quotients W (dCons a (dCons b dNil))) ρ (.list (ivs (ql k x))) :=
  ev_callN (zs := [x.D, .int k]) (eva_cons ha (eva_cons hb eva_nil)) fun QD ED hq => ⟨x, k, rfl, hx, hk, hq⟩
theorem ev_qat13 {x : Nu} {f g : List Int} {j : Nat} (hx : Xpn x f g) (ha : Ev a ρ (prt f g)) (hb : Ev b ρ (.int j)) : Ev (dCall p_quotient_at W (dCons a (dCons b dNil))) ρ (qv (st x j)) :=
  ev_call (zs := [prt f g, .int j]) (eva_cons ha (eva_cons hb eva_nil)) fun QD ED hq => ⟨f, g, j, rfl, by rw [qat_ok hx]; exact hq⟩
theorem ev_qat0 {x : Nu} {f g : List Int} (hx : Xpn x f g) (ha : Ev a ρ (prt f g)) : Ev (dCall p_quotient_at W (dCons a (dCons (dC (.int 0)) dNil))) ρ (.int (flz x)) := ev_qat13 (j := 0) hx ha ev_c
theorem sqp0 {f r : Int} (h : sqp 0 f r) : f = 0 ∧ r = 0 := by
  rcases h with ⟨_, h1, h2⟩ | ⟨h, _⟩
  · exact ⟨h1, h2⟩
  · exact absurd h (by decide)
theorem ev_num0 {c e : TED} {p s : Int} (hs : 0 < s) (bs : Bd 8000 s) (ha : Ev a ρ (.int p)) (hc : Ev c ρ (.int s)) : Ev (dCall (p_number k_InvalidNumber) W (dCons a (dCons (dC (.int 0)) (dCons (dC (.int 0)) (dCons c dNil))))) ρ (low p 0 0 s).D :=
  ev_call (zs := [.int p, .int 0, .int 0, .int s]) (eva_cons ha (eva_cons ev_c (eva_cons ev_c (eva_cons hc eva_nil)))) fun QD ED hq => ⟨p, 0, 0, s, rfl, bd0 _, bd0 _, bs, fun c => absurd c (by omega), fun _ f r h => by
    obtain ⟨rfl, rfl⟩ := sqp0 h
    unfold numF
    rw [if_pos (by decide), Int.mul_zero, Int.add_zero]
    exact hq⟩
theorem low_int (v : Int) : low v 0 0 1 = nint v := by
  have : Cnl (nint v) := ⟨Int.one_pos, by unfold gc nint; simp, fun _ => rfl⟩
  exact cnl_eq this
theorem ev_numI {v : Int} (ha : Ev a ρ (.int v)) : Ev (dCall (p_number k_InvalidNumber) W (dCons a (dCons (dC (.int 0)) (dCons (dC (.int 0)) (dCons (dC (.int 1)) dNil))))) ρ (nint v).D := by
  have := ev_num0 (k_InvalidNumber := k_InvalidNumber) (W := W) (e := a) (c := dC (.int 1)) (show (0 : Int) < 1 by decide) ((show Bd 1 1 by unfold Bd; decide).mono (by omega)) ha ev_c
  rwa [low_int] at this
theorem ev_lenL {ds : List PyData} (h : Ev a ρ (.list ds)) : Ev (dF1 fLen a) ρ (.int (ds.length : Nat)) := ev_f1 h fun k hk => hk
theorem ev_atL {ds : List PyData} {i : Nat} {z : PyData} (ha : Ev a ρ (.list ds)) (hb : Ev b ρ (.int i)) (e : ds[i]? = some z) : Ev (dOp atD a b) ρ z := ev_op ha hb fun k hk => by
  show (match atI ds (i : Int) with | some d => k d | none => False)
  rw [atI_nat e]
  exact hk
theorem ev_cutL {e1 e2 : TOD} {lo hi : Option Int} {ds : List PyData} (ha : Ev a ρ (.list ds)) (h1 : ∀ Q : Option Int → DSt → Prop, Q lo ρ → e1 ρ Q) (h2 : ∀ Q : Option Int → DSt → Prop, Q hi ρ → e2 ρ Q) : Ev (dNew (nSl a e1 e2)) ρ (.list (cutD ds lo hi)) := fun Q k =>
  ha _ fun r g1 _ => h1 _ (h2 _ (g1 (fun x => match x with | .list ds => Q (.d (.list (cutD ds lo hi))) ρ | _ => False) (k _ (fun _ h => h) (fun _ h => h))))
theorem ev_tl13 {x : Nu} (hx : Kq x) (ha : Ev a ρ x.D) : Ev (dNew (nSl (dCall p_quotients W (dCons a (dCons (dC (.int 30)) (dNil)))) (oSome (dC (.int 1))) (oNone))) ρ (.list (ivs ((ql 30 x).drop 1))) := by
  have := ev_cutL (ev_qs13 (W := W) (k := 30) hx (by omega) ha ev_c) (o_int (a := dC (.int 1)) (v := ((1 : Nat) : Int)) ev_c) o_none
  rw [cutM] at this
  have e : (ivs (ql 30 x)).drop 1 = ivs ((ql 30 x).drop 1) := by unfold ivs; rw [List.map_drop]
  rwa [e] at this
theorem ivs_eqv (l : List Int) : PyData.eqv (.list (ivs l)) (.list (ivs l)) = true := ints_eqv l
theorem eo_op {i : Nat} {io : Bool} {ds : List PyData} {f : PyData → PyData → (PyData → Prop) → Prop} {y z : PyData} (h : ρ[i]? = some (.own io ds)) (hb : Ev b ρ y) (hf : ∀ k : PyData → Prop, k z → f (.list ds) y k) : Ev (dOp f (dVar i) b) ρ z := fun Q k => by
  refine ⟨by rw [h]; trivial, ?_⟩
  refine hb _ fun r2 h2 _ => vw_own h (k := fun x => vw ρ r2 fun y => f x y fun z => Q (.d z) ρ) (h2 _ (hf _ (k _ (fun _ h => h) (fun _ h => h))))
theorem ev_catL {ds es : List PyData} (ha : Ev a ρ (.list ds)) (hb : Ev b ρ (.list es)) (h1 : ds.length ≤ 1000) (h2 : es.length ≤ 1000) : Ev (dOp dAdd a b) ρ (.list (ds ++ es)) := ev_op ha hb fun _ k => ⟨by rw [sizeLine_eq]; omega, k⟩
theorem ev_one13 : Ev (dTup (dCons (dC (.int 1)) (dCons (dC (.int 0)) (dCons (dC (.int 0)) (dCons (dC (.int 1)) (dNil)))))) ρ (⟨1, 0, 0, 1⟩ : Nu).D := ev_tup (zs := [.int 1, .int 0, .int 0, .int 1]) (eva_cons ev_c (eva_cons ev_c (eva_cons ev_c (eva_cons ev_c eva_nil)))) (show 4 ≤ 1000 by decide)
theorem s_forR {n : Int} {g : TGD} {t : TSD} {D : DEnds} (ha : Ev a ρ (.int n)) (h1 : -(2 ^ 62) ≤ n) (h2 : n < 2 ^ 62) (k : forD g t D ((List.range n.toNat).map fun (k : Nat) => .int (k : Int)) ρ) : sFor (range1D (dCons a dNil)) g t D ρ :=
  eva_cons ha eva_nil (fun ds ρ1 => asInt1 ds fun j => -(2 ^ 62) ≤ j ∧ j < 2 ^ 62 ∧ forD g t D ((List.range j.toNat).map fun (k : Nat) => .int (k : Int)) ρ1) ⟨h1, h2, k⟩
end
/-! ### determinants -/
def det13 (r : List Int) : Int := (cz r).1.1 * (cz r).2.2 - (cz r).1.2 * (cz r).2.1
theorem det_cons (q : Int) (r : List Int) : det13 (q :: r) = -det13 r := by
  unfold det13
  show (q * (cz r).1.1 + (cz r).2.1) * (cz r).1.2 - (q * (cz r).1.2 + (cz r).2.2) * (cz r).1.1 = _
  grind
theorem det_ok : ∀ r : List Int, det13 r = 1 - 2 * ((r.length % 2 : Nat) : Int)
  | [] => rfl
  | q :: r => by
    rw [det_cons, det_ok r]
    have e : (q :: r).length = r.length + 1 := rfl
    rw [e]
    omega
theorem tE13_ok (W : WD) (k_InvalidNumber : Addr) (D : DEnds) {x : Nu} (hx : Kq x) (c0 c1 c2 c4 c5 c6 c7 c8 c9 c10 c11 c12 c13 c14 c15 c16 c17 : SD)
    (k : ∀ j6 j10 j13 j14 j15 j16 j17, D.nx [c0, c1, c2, .val x.D, c4, c5, j6, c7, c8, c9, j10, c11, c12, j13, j14, j15, j16, j17]) : tE13 W k_InvalidNumber D [c0, c1, c2, .val x.D, c4, c5, c6, c7, c8, c9, c10, c11, c12, c13, c14, c15, c16, c17] := by
  unfold tE13
  have ll := ql_len_le x 25
  have hb := ql_bd 25 hx
  refine s_set (z := .list ((List.range (ql 25 x).length).map fun i => czP (ql 25 x) (i + 1))) (ev_callN (zs := [x.D, .int (25 : Nat)]) (eva_cons (ev_var 3 rfl) (eva_cons ev_c eva_nil)) fun QD ED hq => ⟨x, 25, rfl, hx, by omega, hq⟩) ?_
  generalize ql 25 x = l at *
  show sFor _ _ _ D [c0, c1, c2, .val x.D, c4, c5, c6, c7, c8, c9, c10, c11, c12, .val (.list ((List.range l.length).map fun i => czP l (i + 1))), c14, c15, c16, c17]
  have pl : ((List.range l.length).map fun i => czP l (i + 1)).length = l.length := by rw [List.length_map, List.length_range]
  have len := ev_lenL (ρ := [c0, c1, c2, .val x.D, c4, c5, c6, c7, c8, c9, c10, c11, c12, .val (.list ((List.range l.length).map fun i => czP l (i + 1))), c14, c15, c16, c17]) (a := dVar 13) (ev_var 13 rfl)
  rw [pl] at len
  refine s_forR (n := (l.length : Nat) - 1) (ev_sub len ev_c) (by omega) (by omega) ?_
  refine forD_inv (fun _ ρ => ∃ j6 j10 j14 j15 j16 j17, ρ = [c0, c1, c2, .val x.D, c4, c5, j6, c7, c8, c9, j10, c11, c12, .val (.list ((List.range l.length).map fun i => czP l (i + 1))), j14, j15, j16, j17]) _ _ ⟨_, _, _, _, _, _, rfl⟩ ?_ ?_
  · rintro _ z _ N hz hN ⟨j6, j10, j14, j15, j16, j17, rfl⟩
    obtain ⟨i', hi', rfl⟩ := List.mem_map.mp hz
    rw [List.mem_range] at hi'
    have i1 : i' + 1 < l.length := by omega
    obtain ⟨q, hq⟩ : ∃ q, l[i' + 1]? = some q := ⟨_, List.getElem?_eq_getElem i1⟩
    show sSeq (sAsg _ _) _ _ [c0, c1, c2, .val x.D, c4, c5, j6, c7, c8, c9, iv i', c11, c12, .val (.list ((List.range l.length).map fun i => czP l (i + 1))), j14, j15, j16, j17]
    have gp : ∀ i, i < l.length → ((List.range l.length).map fun i => czP l (i + 1))[i]? = some (czP l (i + 1)) := fun i hi => by rw [List.getElem?_map, List.getElem?_range hi]; rfl
    refine s_asg (z := czP l (i' + 1)) (ev_atL (ev_var 13 rfl) (ev_var 10 rfl) (gp i' (by omega))) (unpack2 ?_)
    show sSeq (sAsg _ _) _ _ [c0, c1, c2, .val x.D, c4, c5, j6, c7, c8, c9, iv i', c11, c12, .val (.list ((List.range l.length).map fun i => czP l (i + 1))), iv (cz (l.take (i' + 1)).reverse).1.1, iv (cz (l.take (i' + 1)).reverse).1.2, j16, j17]
    refine s_asg (z := czP l (i' + 1 + 1)) (ev_atL (ev_var 13 rfl) (ev_as (ev_add (ev_var 10 rfl) ev_c) (by congr 1)) (gp (i' + 1) i1)) (unpack2 ?_)
    show sSeq (sSet 6 _) _ _ [c0, c1, c2, .val x.D, c4, c5, j6, c7, c8, c9, iv i', c11, c12, .val (.list ((List.range l.length).map fun i => czP l (i + 1))), iv (cz (l.take (i' + 1)).reverse).1.1, iv (cz (l.take (i' + 1)).reverse).1.2, iv (cz (l.take (i' + 1 + 1)).reverse).1.1, iv (cz (l.take (i' + 1 + 1)).reverse).1.2]
    have bn : ∀ i, Bd 2800 (cz (l.take i).reverse).1.1 ∧ Bd 2800 (cz (l.take i).reverse).1.2 := fun i => by
      obtain ⟨b1, b2, _, _⟩ := cz_bd (l.take i).reverse fun q hq => hb q (List.mem_of_mem_take (List.mem_reverse.mp hq))
      have li : (l.take i).reverse.length ≤ 25 := by rw [List.length_reverse, List.length_take]; omega
      exact ⟨b1.mono (by omega), b2.mono (by omega)⟩
    have e3 := rz_s hq
    have dv : (cz (l.take (i' + 1 + 1)).reverse).1.1 * (cz (l.take (i' + 1)).reverse).1.2 - (cz (l.take (i' + 1 + 1)).reverse).1.2 * (cz (l.take (i' + 1)).reverse).1.1 = 1 - 2 * ((i' % 2 : Nat) : Int) := by
      have := det_ok (l.take (i' + 1 + 1)).reverse
      unfold det13 at this
      have e4 : (cz (l.take (i' + 1 + 1)).reverse).2 = (cz (l.take (i' + 1)).reverse).1 := by rw [e3]; rfl
      rw [e4] at this
      rw [this, List.length_reverse, List.length_take]
      congr 3
      omega
    refine s_set (z := .int (1 - 2 * ((i' % 2 : Nat) : Int))) (ev_as (ev_sub (ev_mul (ev_var 16 rfl) (ev_var 15 rfl) ((bn _).1.cm (bn _).2 (by omega))) (ev_mul (ev_var 17 rfl) (ev_var 14 rfl) ((bn _).2.cm (bn _).1 (by omega)))) (by rw [dv])) ?_
    show sIf _ _ _ _ [c0, c1, c2, .val x.D, c4, c5, iv (1 - 2 * ((i' % 2 : Nat) : Int)), c7, c8, c9, iv i', c11, c12, .val (.list ((List.range l.length).map fun i => czP l (i + 1))), iv (cz (l.take (i' + 1)).reverse).1.1, iv (cz (l.take (i' + 1)).reverse).1.2, iv (cz (l.take (i' + 1 + 1)).reverse).1.1, iv (cz (l.take (i' + 1 + 1)).reverse).1.2]
    refine s_ifF (ev_neI (ev_var 6 rfl) (ev_sub ev_c (ev_mul ev_c (ev_mod (ev_var 10 rfl) ev_c (by decide)) ?_)) ?_) (hN _ ⟨_, _, _, _, _, _, rfl⟩)
    · have b2 : Bd 2 2 := by unfold Bd; decide
      have : Bd 2 ((i' : Int).fmod 2) := by
        rw [Int.fmod_eq_emod_of_nonneg _ (by decide)]
        unfold Bd
        omega
      exact b2.cm this (by omega)
    · rw [Int.fmod_eq_emod_of_nonneg _ (by decide)]
      congr 2
  · rintro _ ⟨j6, j10, j14, j15, j16, j17, rfl⟩
    exact k _ _ _ _ _ _ _
theorem pq_z {n : Nat} {r : Nu} (g : Gd n r) (h : ¬ isZ r) : ¬ (r.p = 0 ∧ r.q = 0) := fun ⟨a, b⟩ => h ⟨a, b, by
  rcases g.r with z | z
  · exact z.2
  · exact absurd b z.1, g.z a b⟩
theorem tD13_ok (W : WD) (k_InvalidNumber : Addr) (D : DEnds) {x : Nu} {f g : List Int} (hx : Kq x) (hX : Xpn x f g) (c0 c1 c2 c5 c6 c7 c8 c9 c10 c11 c12 c13 c14 c15 c16 c17 : SD)
    (k : ∀ j6 j10 j12 j13 j14 j15 j16 j17, D.nx [c0, c1, c2, .val x.D, .val (prt f g), c5, j6, c7, c8, c9, j10, c11, j12, j13, j14, j15, j16, j17]) : tD13 W k_InvalidNumber D [c0, c1, c2, .val x.D, .val (prt f g), c5, c6, c7, c8, c9, c10, c11, c12, c13, c14, c15, c16, c17] := by
  unfold tD13
  have gr := hx.rs
  refine s_set (z := (rs x).D) (ev_call (zs := [x.D, (nint (flz x)).D]) (eva_cons (ev_var 3 rfl) (eva_cons (ev_numI (ev_qat0 hX (ev_var 4 rfl))) eva_nil)) fun QD ED hq => ⟨_, _, rfl, (rts_int (flz x) x).2, nb_mono hx.gd.b (by omega), nb_mono (nint_Gd (n := 200) (hx.bd.mono (by omega)) (by omega) : Gd 200 (nint (flz x))).b (by omega), by have := hx.gd.s; omega, Int.one_ne_zero, hq⟩) ?_
  show sSeq (sIf _ _ _) _ _ [c0, c1, c2, .val x.D, .val (prt f g), c5, c6, c7, c8, c9, c10, c11, .val (rs x).D, c13, c14, c15, c16, c17]
  refine s_chk (evt_as (u := (!decide ((rs x).p = 0 ∧ (rs x).q = 0)) && false) (evt_and (evt_pq0 (ev_var 12 rfl)) fun hu => ?_) (Bool.and_false _)) ?_
  · have nz : ¬ isZ (rs x) := fun c => by
      rw [decide_eq_true ⟨c.1, c.2.1⟩] at hu
      cases hu
    have hn := nx_some nz
    have ky := hx.next hn
    have e1 := ev_qs13 (W := W) (ρ := [c0, c1, c2, .val x.D, .val (prt f g), c5, c6, c7, c8, c9, c10, c11, .val (rs x).D, c13, c14, c15, c16, c17]) (k := 29) (b := dC (.int 29)) ky (by omega) (ev_over13 (W := W) gr (by omega) nz ev_one13 (ev_var 12 rfl)) ev_c
    have e2 := ev_tl13 (W := W) (ρ := [c0, c1, c2, .val x.D, .val (prt f g), c5, c6, c7, c8, c9, c10, c11, .val (rs x).D, c13, c14, c15, c16, c17]) (a := dVar 3) hx (ev_var 3 rfl)
    have e3 : (ql 30 x).drop 1 = ql 29 (ninv (rs x)) := by
      have : ql 30 x = flz x :: ql 29 (ninv (rs x)) := by show flz x :: _ = _; rw [hn]
      rw [this]
      rfl
    rw [e3] at e2
    exact ev_ne e1 e2 (ivs_shp _).1 (ivs_shp _).1 (ivs_eqv _)
  · exact tE13_ok W k_InvalidNumber D hx _ _ _ _ _ _ _ _ _ _ _ _ _ _ _ _ _ fun j6 j10 j13 j14 j15 j16 j17 => k _ _ _ _ _ _ _ _
end KK

set_option maxHeartbeats 2000000
namespace KK
open PySem PySem.Spec L2 DL
theorem tC13_ok (W : WD) (k_InvalidNumber : Addr) (D : DEnds) {x : Nu} {f g : List Int} (hz : Rz x) (hX : Xpn x f g) (c0 c1 c2 c5 c6 c7 c8 c9 c10 c11 c12 c13 c14 c15 c16 c17 : SD)
    (k : ∀ j6 j10 j11 j12 j13 j14 j15 j16 j17, D.nx [c0, c1, c2, .val x.D, .val (prt f g), c5, j6, c7, c8, c9, j10, j11, j12, j13, j14, j15, j16, j17]) : tC13 W k_InvalidNumber D [c0, c1, c2, .val x.D, .val (prt f g), c5, c6, c7, c8, c9, c10, c11, c12, c13, c14, c15, c16, c17] := by
  have hx := rz_kq hz
  unfold tC13
  have go : ∀ j11, tD13 W k_InvalidNumber D [c0, c1, c2, .val x.D, .val (prt f g), c5, c6, c7, c8, c9, c10, j11, c12, c13, c14, c15, c16, c17] := fun j11 => tD13_ok W k_InvalidNumber D hx hX _ _ _ _ _ _ _ _ _ _ _ _ _ _ _ _ fun j6 j10 j12 j13 j14 j15 j16 j17 => k _ _ _ _ _ _ _ _ _
  have t1 : EvT (dTest (dOp dGt (dCall p_quotient_at W (dCons (dVar 4) (dCons (dC (.int 0)) (dNil)))) (dC (.int 0)))) [c0, c1, c2, .val x.D, .val (prt f g), c5, c6, c7, c8, c9, c10, c11, c12, c13, c14, c15, c16, c17] (decide (0 < flz x)) := evt_gt (ev_qat0 hX (ev_var 4 rfl)) ev_c
  have t2 : EvT (dTest (dOp dNe (dVar 3) (dTup (dCons (dC (.int 1)) (dCons (dC (.int 0)) (dCons (dC (.int 0)) (dCons (dC (.int 1)) (dNil)))))))) [c0, c1, c2, .val x.D, .val (prt f g), c5, c6, c7, c8, c9, c10, c11, c12, c13, c14, c15, c16, c17] (!decide (x.p = 1 ∧ x.q = 0 ∧ x.d = 0 ∧ x.s = 1)) := by
    refine evt_as (evt_neD (ev_var 3 rfl) ev_one13 (nu_shaped _) (nu_shaped _)) ?_
    rw [nu_eqv3]
  by_cases hc : 0 < flz x ∧ ¬ (x.p = 1 ∧ x.q = 0 ∧ x.d = 0 ∧ x.s = 1)
  · refine s_seq (s_ifT (evt_as (evt_and t1 fun _ => t2) (by rw [decide_eq_true hc.1, decide_eq_false hc.2]; rfl)) ?_)
    have hf := inv_flz hz hc.1 hc.2
    have nz := sgn_ne hz.r.o
    have ki := inv_kq hz
    refine s_set (z := (ninv x).D) (ev_over13 (hz.r.g) (by omega) nz ev_one13 (ev_var 3 rfl)) ?_
    show sIf _ _ _ _ [c0, c1, c2, .val x.D, .val (prt f g), c5, c6, c7, c8, c9, c10, .val (ninv x).D, c12, c13, c14, c15, c16, c17]
    have e1 := ev_qs13 (W := W) (ρ := [c0, c1, c2, .val x.D, .val (prt f g), c5, c6, c7, c8, c9, c10, .val (ninv x).D, c12, c13, c14, c15, c16, c17]) (k := 31) (a := dVar 11) (b := dC (.int 31)) ki (by omega) (ev_var 11 rfl) ev_c
    have e2 := ev_qs13 (W := W) (ρ := [c0, c1, c2, .val x.D, .val (prt f g), c5, c6, c7, c8, c9, c10, .val (ninv x).D, c12, c13, c14, c15, c16, c17]) (k := 30) (a := dVar 3) (b := dC (.int 30)) hx (by omega) (ev_var 3 rfl) ev_c
    have e3 := inv_ql hz hf 30
    have l30 := ql_len_le x 30
    rw [e3] at e1
    refine s_ifF (ev_ne e1 (ev_catL (ev_new (zs := [.int 0]) (eva_cons ev_c eva_nil) (by simp)) e2 (by simp) (by rw [ivs_len]; omega)) (ivs_shp _).1 (ivs_shp (0 :: ql 30 x)).1 (ivs_eqv (0 :: ql 30 x))) (go _)
  · refine s_seq (s_ifF (evt_as (evt_and t1 fun _ => t2) ?_) (go _))
    by_cases h1 : 0 < flz x
    · have h2 : x.p = 1 ∧ x.q = 0 ∧ x.d = 0 ∧ x.s = 1 := Classical.byContradiction fun c => hc ⟨h1, c⟩
      rw [decide_eq_true h2]
      exact Bool.and_false _
    · rw [decide_eq_false h1]
      rfl
theorem evt_isNotQ {ρ : DSt} {a : TED} {o : Option Nu} (ha : Ev a ρ (qv o)) : EvT (dTest (dOp dIsNot a (dC .none))) ρ o.isSome := by
  cases o with
  | some y => exact evt_test (ev_op (z := .bool true) ha ev_c fun k hk => hk)
  | none => exact evt_test (ev_op (z := .bool false) ha ev_c fun k hk => hk)
theorem tB13_ok (W : WD) (k_InvalidNumber : Addr) (D : DEnds) {x : Nu} {f g f' g' : List Int} {v : Int} (hz : Rz x) (hX : Xpn x f g) (hX' : Xpn (shf x v) f' g') (c0 c1 c2 c5 c8 c9 c10 c11 c12 c13 c14 c15 c16 c17 : SD)
    (k : ∀ j6 j8 j9 j10 j11 j12 j13 j14 j15 j16 j17, D.nx [c0, c1, c2, .val x.D, .val (prt f g), c5, j6, .val (prt f' g'), j8, j9, j10, j11, j12, j13, j14, j15, j16, j17]) : tB13 W k_InvalidNumber D [c0, c1, c2, .val x.D, .val (prt f g), c5, iv v, .val (prt f' g'), c8, c9, c10, c11, c12, c13, c14, c15, c16, c17] := by
  have hx := rz_kq hz
  unfold tB13
  have l30 := ql_len_le x 30
  have e1 := ev_tl13 (W := W) (ρ := [c0, c1, c2, .val x.D, .val (prt f g), c5, iv v, .val (prt f' g'), c8, c9, c10, c11, c12, c13, c14, c15, c16, c17]) (a := dVar 3) hx (ev_var 3 rfl)
  have sq := shf_ql (x := x) hz.r.g.s v 29
  refine s_set (z := .list (ivs (ql 30 (shf x v)))) (ev_as (ev_catL (ev_new (zs := [.int (flz x + v)]) (eva_cons (ev_add (ev_qat0 hX (ev_var 4 rfl)) (ev_var 6 rfl)) eva_nil) (by simp)) e1 (by simp) (by rw [ivs_len, List.length_drop]; omega)) (by rw [sq]; rfl)) ?_
  refine s_own eva_nil (by simp) (by simp) ?_
  show sSeq (sFor _ _ _) _ _ [c0, c1, c2, .val x.D, .val (prt f g), c5, iv v, .val (prt f' g'), .val (.list (ivs (ql 30 (shf x v)))), .own false [], c10, c11, c12, c13, c14, c15, c16, c17]
  generalize hy : shf x v = y at *
  refine s_seq (s_forR (n := 30) ev_c (by decide) (by decide) ?_)
  refine forD_at (fun i ρ => ∃ j10 : SD, i ≤ 30 ∧ ρ = [c0, c1, c2, .val x.D, .val (prt f g), c5, iv v, .val (prt f' g'), .val (.list (ivs (ql 30 y))), .own false (ivs (ql i y)), j10, c11, c12, c13, c14, c15, c16, c17]) _ 0 _ ⟨c10, by omega, rfl⟩ ?_ ?_
  · rintro i z _ N hzz hN ⟨j10, hi, rfl⟩
    rw [Nat.zero_add] at hi hN ⊢
    have i30 : i < 30 := by
      have := (List.getElem?_eq_some_iff.mp hzz).1
      simpa using this
    obtain rfl : z = .int (i : Int) := by
      rw [List.getElem?_map, List.getElem?_range (show i < (30 : Int).toNat from i30)] at hzz
      exact (Option.some.inj hzz).symm
    show sIf _ _ _ _ [c0, c1, c2, .val x.D, .val (prt f g), c5, iv v, .val (prt f' g'), .val (.list (ivs (ql 30 y))), .own false (ivs (ql i y)), iv i, c11, c12, c13, c14, c15, c16, c17]
    have eq := ev_qat13 (W := W) (ρ := [c0, c1, c2, .val x.D, .val (prt f g), c5, iv v, .val (prt f' g'), .val (.list (ivs (ql 30 y))), .own false (ivs (ql i y)), iv i, c11, c12, c13, c14, c15, c16, c17]) (a := dVar 7) (b := dVar 10) (j := i) hX' (ev_var 7 rfl) (ev_var 10 rfl)
    have es := ql_succ i y
    have li := ql_len_le y i
    cases hs : st y i with
    | none =>
      rw [hs] at eq es
      refine s_ifF (evt_isNotQ eq) (hN _ ⟨iv i, by omega, ?_⟩)
      rw [es, List.append_nil]
    | some w =>
      rw [hs] at eq es
      refine s_ifT (evt_isNotQ eq) ?_
      refine s_app (z := .int (flz w)) rfl eq (by rw [ivs_len]; omega) (hN _ ⟨iv i, by omega, ?_⟩)
      rw [es, ivs_snoc]
      rfl
  · rintro _ ⟨j10, hi, rfl⟩
    have e30 : 0 + ((List.range (30 : Int).toNat).map fun (k : Nat) => PyData.int (k : Int)).length = 30 := by simp
    rw [e30]
    have eo := eo_op (ρ := [c0, c1, c2, .val x.D, .val (prt f g), c5, iv v, .val (prt f' g'), .val (.list (ivs (ql 30 y))), .own false (ivs (ql 30 y)), j10, c11, c12, c13, c14, c15, c16, c17]) (i := 9) (io := false) (f := dNe) (b := dVar 8) (z := .bool false) rfl (ev_var 8 rfl) (fun k hk => ⟨(ivs_shp _).1, (ivs_shp _).1, by rw [ivs_eqv]; exact hk⟩)
    refine s_chk (evt_test eo) ?_
    exact tC13_ok W k_InvalidNumber D hz hX _ _ _ _ _ _ _ _ _ _ _ _ _ _ _ _ fun j6 j10 j11 j12 j13 j14 j15 j16 j17 => k _ _ _ _ _ _ _ _ _ _ _
theorem tA13_ok (W : WD) (k_InvalidNumber : Addr) (D : DEnds) {x : Nu} {f g : List Int} {s : Spl} {m : Nat} (hz : Rz x) (hX : Xpn x f g) (hs : Sok m s) (hm : m < 2 ^ 30) (c0 c2 c5 c6 c7 c8 c9 c10 c11 c12 c13 c14 c15 c16 c17 : SD)
    (k : ∀ (s' : Spl) (j3 j4 j5 j6 j7 j8 j9 j10 j11 j12 j13 j14 j15 j16 j17 : SD), Sok (m + 1) s' → D.nx [c0, .own false s'.L, c2, j3, j4, j5, j6, j7, j8, j9, j10, j11, j12, j13, j14, j15, j16, j17]) : tA13 W k_InvalidNumber D [c0, .own false s.L, c2, .val x.D, .val (prt f g), c5, c6, c7, c8, c9, c10, c11, c12, c13, c14, c15, c16, c17] := by
  unfold tA13
  refine s_setP (fun z ρ' => ∃ (v : Int) (s' : Spl), z = .int v ∧ (1 ≤ v ∧ v ≤ 9) ∧ Sok (m + 1) s' ∧ ρ' = [c0, .own false s'.L, c2, .val x.D, .val (prt f g), c5, c6, c7, c8, c9, c10, c11, c12, c13, c14, c15, c16, c17]) (fun Q hQ => ?_) ?_
  · show withLent 1 _ _ _
    refine dr_uptoJ 1 (b := 9) rfl ev_c hs (by omega) (by decide) ((show Bd 4 9 by unfold Bd; decide).mono (by omega)) fun n s' n0 n1 hs' => ?_
    exact hQ (.int (1 + n)) _ ⟨1 + n, s', rfl, ⟨by omega, by omega⟩, hs', rfl⟩
  rintro _ _ ⟨v, s1, rfl, ⟨v1, v9⟩, hs1, rfl⟩
  have hx := rz_kq hz
  have hk := shf_kq hz (show 0 ≤ v by omega) v9
  have hh := shf_hlt hz (show 0 ≤ v by omega) v9
  show sSeq (sSet 7 _) _ _ [c0, .own false s1.L, c2, .val x.D, .val (prt f g), c5, iv v, c7, c8, c9, c10, c11, c12, c13, c14, c15, c16, c17]
  have bv : Bd 200 v := (show Bd 4 v by unfold Bd; omega).mono (by omega)
  have ep : Ev (dCall p_plus W (dCons (dVar 3) (dCons (dCall (p_number k_InvalidNumber) W (dCons (dVar 6) (dCons (dC (.int 0)) (dCons (dC (.int 0)) (dCons (dC (.int 1)) (dNil)))))) (dNil)))) [c0, .own false s1.L, c2, .val x.D, .val (prt f g), c5, iv v, c7, c8, c9, c10, c11, c12, c13, c14, c15, c16, c17] (shf x v).D :=
    ev_as (ev_call (zs := [x.D, (nint v).D]) (eva_cons (ev_var 3 rfl) (eva_cons (ev_numI (ev_var 6 rfl)) eva_nil)) fun QD ED hq => ⟨_, _, rfl, (rts_int v x).2, nb_mono hx.gd.b (by omega), nb_mono (nint_Gd bv (by omega) : Gd 200 (nint v)).b (by omega), by have := hx.gd.s; omega, Int.one_ne_zero, hq⟩) (by rw [plus_shf hx.gd hx.1])
  refine s_setP (fun z ρ' => ∃ f' g', z = prt f' g' ∧ Xpn (shf x v) f' g' ∧ ρ' = [c0, .own false s1.L, c2, .val x.D, .val (prt f g), c5, iv v, c7, c8, c9, c10, c11, c12, c13, c14, c15, c16, c17]) (fun Q hQ => ?_) ?_
  · exact eva_cons ep eva_nil _ ⟨shf x v, rfl, hk, hh, fun f' g' h => hQ _ _ ⟨f', g', rfl, h, rfl⟩⟩
  rintro _ _ ⟨f', g', rfl, hX', rfl⟩
  exact tB13_ok W k_InvalidNumber D hz hX hX' _ _ _ _ _ _ _ _ _ _ _ _ _ _ fun j6 j8 j9 j10 j11 j12 j13 j14 j15 j16 j17 => k s1 _ _ _ _ _ _ _ _ _ _ _ _ _ _ _ hs1
/-- a drawn fraction -/
theorem frac_kq {a b : Int} (a0 : 0 < a) (b0 : 0 < b) (a1 : a ≤ 10 ^ 20) (b1 : b ≤ 10 ^ 20) : Kq (low a 0 0 b) ∧ Rq (low a 0 0 b) := by
  have B : ∀ {i : Int}, 0 < i → i ≤ 10 ^ 20 → Bd 70 i := fun {i} h h' => by
    unfold Bd
    have e : (2 : Nat) ^ 70 = 1180591620717411303424 := by decide
    have e2 : (10 : Int) ^ 20 = 100000000000000000000 := by decide
    omega
  have g : Gd 70 (low a 0 0 b) := low_Gd' (by omega) (fun z => absurd rfl z) (B a0 a1) (bd0 _) (B b0 b1) (by omega)
  obtain ⟨k, hk, e1, e2, e3, e4⟩ := low_spec (p := a) (q := 0) 0 (show b ≠ 0 by omega)
  have r : Rq (low a 0 0 b) := by
    refine ⟨g, ?_, ?_⟩
    · rcases Int.mul_eq_zero.mp e2.symm with z | z
      · exact absurd z hk
      · exact z
    · have k0 : 0 < k := by
        rcases Int.lt_or_le 0 k with c | c
        · exact c
        · have := Int.mul_le_mul_of_nonneg_right c (Int.le_of_lt e4)
          omega
      rcases Int.lt_or_le (low a 0 0 b).p 0 with c | c
      · have := Int.mul_pos k0 (show 0 < -(low a 0 0 b).p by omega)
        rw [show k * -(low a 0 0 b).p = -(k * (low a 0 0 b).p) by grind] at this
        omega
      · exact c
  exact ⟨⟨cnl_low (by omega) trivial, .inr r⟩, r⟩
/-- fractions have no period -/
theorem rq_xpn {x : Nu} {f g : List Int} (h : Kq x) (r : Rq x) (hX : Xpn x f g) : g = [] := by
  rcases hX with ⟨_, _, _, _, _, _, hg⟩ | ⟨i, n, lt, _, e, hs, _⟩
  · exact hg
  · exfalso
    have r2 := r.g.b.2.2.2
    have s0 := r.g.s
    have z := rq_end 70 h r (by
      unfold Bd at r2
      have e1 : (2 : Nat) ^ 70 = 1180591620717411303424 := by decide
      have e2 : (2 : Int) ^ 70 = 1180591620717411303424 := by decide
      omega)
    rcases Nat.lt_or_ge (2 * 70) i with c | c
    · exact hs _ (by omega) z
    · rw [per_mod lt e _ c] at z
      have := Nat.mod_lt (2 * 70 - i) (show 0 < n - i by omega)
      exact hs _ (by omega) z
theorem ev_callP {ρ : DSt} {W : WD} {a : TED} {p : DSp} {z : PyData} {P : PyData → Prop} (ha : ∀ Q : R → DSt → Prop, (∀ x, P x → Q (.d x) ρ) → a ρ Q) (hp : ∀ x, P x → Pr p [x] z) : Ev (dCall p W (dCons a dNil)) ρ z := fun Q k => by
  unfold dCall dCons dNil
  exact ha _ fun x hx => hp x hx _ _ (k _ (fun _ h => h) (fun _ h => h))
theorem t013_ok (W : WD) (k_InvalidNumber : Addr) (D : DEnds) {x : Nu} {f g : List Int} {s : Spl} {m : Nat} (hz : Rz x) (hX : Xpn x f g) (hs : Sok m s) (hm : m < 2 ^ 29) (c0 c2 c5 c6 c7 c8 c9 c10 c11 c12 c13 c14 c15 c16 c17 : SD)
    (k : ∀ (s' : Spl) (j3 j4 j5 j6 j7 j8 j9 j10 j11 j12 j13 j14 j15 j16 j17 : SD), Sok (m + 3) s' → D.nx [c0, .own false s'.L, c2, j3, j4, j5, j6, j7, j8, j9, j10, j11, j12, j13, j14, j15, j16, j17]) : t013 W k_InvalidNumber D [c0, .own false s.L, c2, .val x.D, .val (prt f g), c5, c6, c7, c8, c9, c10, c11, c12, c13, c14, c15, c16, c17] := by
  unfold t013
  refine s_setP (fun z ρ' => ∃ (y : Nu) (s' : Spl), z = y.D ∧ (Kq y ∧ Rq y) ∧ Sok (m + 2) s' ∧ ρ' = [c0, .own false s'.L, c2, .val x.D, .val (prt f g), c5, c6, c7, c8, c9, c10, c11, c12, c13, c14, c15, c16, c17]) (fun Q hQ => ?_) ?_
  · show withLent 1 _ _ _
    refine dr_uptoJ 1 (b := 10 ^ 20) rfl (ev_p10 20) hs (by omega) (by decide) ((bd10 20).mono (by omega)) fun n s1 n0 n1 hs1 => ?_
    show withLent 1 _ [c0, .own false s1.L, c2, .val x.D, .val (prt f g), c5, c6, c7, c8, c9, c10, c11, c12, c13, c14, c15, c16, c17] _
    refine dr_uptoJ 1 (b := 10 ^ 20) rfl (ev_p10 20) hs1 (by omega) (by decide) ((bd10 20).mono (by omega)) fun n' s2 n0' n1' hs2 => ?_
    have B : Bd 8000 (1 + n') := (show Bd 70 (1 + n') by
      unfold Bd
      have e : (2 : Nat) ^ 70 = 1180591620717411303424 := by decide
      have e2 : (10 : Int) ^ 20 = 100000000000000000000 := by decide
      omega).mono (by omega)
    refine ⟨1 + n, 0, 0, 1 + n', rfl, bd0 _, bd0 _, B, fun c => absurd c (by omega), fun _ f r h => ?_⟩
    obtain ⟨rfl, rfl⟩ := sqp0 h
    unfold numF
    rw [if_pos (by decide), Int.mul_zero, Int.add_zero]
    exact hQ _ _ ⟨_, s2, rfl, frac_kq (by omega) (by omega) (by omega) (by omega), hs2, rfl⟩
  rintro _ _ ⟨y, s1, rfl, ⟨ky, ry⟩, hs1, rfl⟩
  show sSeq (sIf _ _ _) _ _ [c0, .own false s1.L, c2, .val x.D, .val (prt f g), .val y.D, c6, c7, c8, c9, c10, c11, c12, c13, c14, c15, c16, c17]
  have en : Ev (dCall p_number_of W (dCons (dCall p_expansion W (dCons (dVar 5) (dNil))) (dNil))) [c0, .own false s1.L, c2, .val x.D, .val (prt f g), .val y.D, c6, c7, c8, c9, c10, c11, c12, c13, c14, c15, c16, c17] y.D :=
    ev_callP (P := fun z => ∃ f g, z = prt f g ∧ Xpn y f g) (fun Q hQ => eva_cons (ev_var 5 rfl) eva_nil _ ⟨y, rfl, ky, rq_hlt ky ry, fun f' g' hX' => hQ _ ⟨f', g', rfl, hX'⟩⟩) (by
      rintro _ ⟨f', g', rfl, hX'⟩ QD ED hq
      exact ⟨f', g', y, rfl, ky, hX', fun c => absurd (rq_xpn ky ry hX') c, hq⟩)
  refine s_chk (ev_ne en (ev_var 5 rfl) (nu_shaped _) (nu_shaped _) (by rw [nu_eqv3]; simp)) ?_
  exact tA13_ok W k_InvalidNumber D hz hX hs1 (by omega) _ _ _ _ _ _ _ _ _ _ _ _ _ _ _ fun s' j3 j4 j5 j6 j7 j8 j9 j10 j11 j12 j13 j14 j15 j16 j17 hs' => k s' _ _ _ _ _ _ _ _ _ _ _ _ _ _ _ hs'
theorem foldl_max : ∀ (l : List Int) (n b : Int), l.foldl max n < b → n < b ∧ ∀ q ∈ l, q < b
  | [], n, b, h => ⟨h, fun q hq => nomatch hq⟩
  | a :: l, n, b, h => by
    obtain ⟨h1, h2⟩ := foldl_max l (max n a) b h
    refine ⟨by omega, fun q hq => ?_⟩
    rcases List.mem_cons.mp hq with c | c
    · rw [c]; omega
    · exact h2 q c
theorem qseg_n0 {x : Nu} (h : Cq x) : ∀ (i n : Nat), ∀ q ∈ qseg x i n, 0 ≤ q := by
  intro i n q hq
  unfold qseg at hq
  obtain ⟨j, _, e⟩ := List.mem_filterMap.mp hq
  obtain ⟨y, hy, cy, _⟩ := h.st j
  rw [hy] at e
  have e : some (flz y) = some q := e
  cases e
  exact cy.n0 cy.flz
theorem turn13_ok (W : WD) (k_InvalidNumber : Addr) (D : DEnds) {s : Spl} {m : Nat} (hs : Sok m s) (hm : m < 2 ^ 28) (c0 c2 c3 c4 c5 c6 c7 c8 c9 c10 c11 c12 c13 c14 c15 c16 c17 : SD)
    (k : ∀ (s' : Spl) (j3 j4 j5 j6 j7 j8 j9 j10 j11 j12 j13 j14 j15 j16 j17 : SD), Sok (m + 20) s' → D.nx [c0, .own false s'.L, c2, j3, j4, j5, j6, j7, j8, j9, j10, j11, j12, j13, j14, j15, j16, j17]) : turn13 W k_InvalidNumber D [c0, .own false s.L, c2, c3, c4, c5, c6, c7, c8, c9, c10, c11, c12, c13, c14, c15, c16, c17] := by
  unfold turn13
  refine s_setP (fun z ρ' => ∃ (x : Nu) (s' : Spl), z = x.D ∧ Rz x ∧ Sok (m + 10) s' ∧ ρ' = [c0, .own false s'.L, c2, c3, c4, c5, c6, c7, c8, c9, c10, c11, c12, c13, c14, c15, c16, c17]) (fun Q hQ => ?_) ?_
  · refine x_lent (j := 1) (io := false) rfl eva_nil ⟨s, m, rfl, hs, by omega, fun x s' hx hs' => ?_⟩
    exact x_back (j := 1) (io := false) rfl (hQ _ _ ⟨x, s', rfl, hx, hs', rfl⟩)
  rintro _ _ ⟨x, s1, rfl, hz, hs1, rfl⟩
  have hx := rz_kq hz
  show sSeq (sSet 4 _) _ _ [c0, .own false s1.L, c2, .val x.D, c4, c5, c6, c7, c8, c9, c10, c11, c12, c13, c14, c15, c16, c17]
  refine s_setP (fun z ρ' => ∃ f g, z = prt f g ∧ Xpn x f g ∧ ρ' = [c0, .own false s1.L, c2, .val x.D, c4, c5, c6, c7, c8, c9, c10, c11, c12, c13, c14, c15, c16, c17]) (fun Q hQ => ?_) ?_
  · exact eva_cons (ev_var 3 rfl) eva_nil _ ⟨x, rfl, hx, rz_hlt hz, fun f g h => hQ _ _ ⟨f, g, rfl, h, rfl⟩⟩
  rintro _ _ ⟨f, g, rfl, hX, rfl⟩
  show sSeq (sIf _ _ _) _ _ [c0, .own false s1.L, c2, .val x.D, .val (prt f g), c5, c6, c7, c8, c9, c10, c11, c12, c13, c14, c15, c16, c17]
  have p1 : Ev (dOp atD (dVar 4) (dC (.int 1))) [c0, .own false s1.L, c2, .val x.D, .val (prt f g), c5, c6, c7, c8, c9, c10, c11, c12, c13, c14, c15, c16, c17] (.tuple (ivs g)) := ev_atT (i := 1) (ev_var 4 rfl) ev_c rfl
  have gl : g.length ≤ 400 := by
    rcases hX with ⟨_, _, _, _, _, _, rfl⟩ | ⟨i, n, lt, n4, e, hs', _, _, rfl⟩
    · simp
    · obtain ⟨l2, _⟩ := qseg_get (x := x) (i := i) (n - i) fun k hk => hs' (i + k) (by omega)
      rw [show i + (n - i) = n by omega] at l2
      omega
  have t1 := evt_lt (ev_lenT p1) (ev_c (ρ := [c0, .own false s1.L, c2, .val x.D, .val (prt f g), c5, c6, c7, c8, c9, c10, c11, c12, c13, c14, c15, c16, c17]) (z := .int 5))
  have m1 : Ev (dF1 fMax1 (dOp dAdd (dTup (dCons (dC (.int 1)) (dNil))) (dOp atD (dVar 4) (dC (.int 1))))) [c0, .own false s1.L, c2, .val x.D, .val (prt f g), c5, c6, c7, c8, c9, c10, c11, c12, c13, c14, c15, c16, c17] (.int (g.foldl max 1)) :=
    ev_f1 (ev_catT (ev_tup (zs := [.int 1]) (eva_cons ev_c eva_nil) (by simp)) p1 (by simp) (by rw [ivs_len]; omega)) fun k hk => ⟨1, g, .inr rfl, hk⟩
  have t2 := evt_lt m1 (ev_c (ρ := [c0, .own false s1.L, c2, .val x.D, .val (prt f g), c5, c6, c7, c8, c9, c10, c11, c12, c13, c14, c15, c16, c17]) (z := .int 21))
  refine s_chk (evt_as (u := decide (((ivs g).length : Int) < 5) && (decide (g.foldl max 1 < 21) && false)) (evt_and t1 fun h1 => evt_and t2 fun h2 => ?_) (by simp)) ?_
  · have g5 : g.length < 5 := by
      have := of_decide_eq_true h1
      rw [ivs_len] at this
      omega
    have g21 := (foldl_max g 1 21 (of_decide_eq_true h2)).2
    refine ev_ne (z := x.D) (ev_call (zs := [prt f g]) (eva_cons (ev_var 4 rfl) eva_nil) fun QD ED hq => ⟨f, g, x, rfl, hx, hX, fun gn => ?_, hq⟩) (ev_var 3 rfl) (nu_shaped _) (nu_shaped _) (by rw [nu_eqv3]; simp)
    have hq : x.q ≠ 0 := fun c => gn (rq_xpn hx (rz_rq hz c) hX)
    refine ⟨g5, fun q hq' => ⟨?_, g21 q hq'⟩, rz_num hz hq hX g5 g21⟩
    have cx := Kq.cq hz hq
    rcases hX with ⟨_, _, _, _, _, _, rfl⟩ | ⟨i, n, lt, n4, e, hs', _, _, rfl⟩
    · exact absurd rfl gn
    · exact qseg_n0 cx i n q hq'
  · exact t013_ok W k_InvalidNumber D hz hX hs1 (by omega) _ _ _ _ _ _ _ _ _ _ _ _ _ _ _ fun s' j3 j4 j5 j6 j7 j8 j9 j10 j11 j12 j13 j14 j15 j16 j17 hs' => k s' _ _ _ _ _ _ _ _ _ _ _ _ _ _ _ (hs'.le (by omega))
theorem r_law_eq13 (W : WD) (k_InvalidNumber : Addr) : r_law W k_InvalidNumber = sSeq (sOwn 1 (withLentN 0 (nCallL p__law_spool_of W 0 (dNil)))) (sSeq (sFor (range1D (dCons (dC (.int 8)) (dNil))) (gName' 2) (turn13 W k_InvalidNumber)) (sRet (dC (.bool true)))) := rfl
theorem pure_law {k_InvalidNumber : Addr} (α : List SD) (QD : Ret → List SD → Prop) (ED : Exd → List SD → Prop) (W : WD) (hW : W = fun e ρ => outK α ρ fun α' => ED e α') (h : p_law α QD ED) : r_law W k_InvalidNumber (DEnd α QD) (startD n_law.length α) := by
  obtain ⟨ns, hl, rfl, hq⟩ := h
  rw [r_law_eq13]
  have st0 : startD n_law.length [SD.res true (scriptR ns)] = [SD.res true (scriptR ns), .no, .no, .no, .no, .no, .no, .no, .no, .no, .no, .no, .no, .no, .no, .no, .no, .no] := rfl
  rw [st0]
  refine s_spool hl fun s hs => ?_
  refine s_seq (s_forR (n := 8) ev_c (by decide) (by decide) ?_)
  refine forD_inv (fun k ρ => ∃ (s : Spl) (m : Nat) (a2 a3 a4 a5 a6 a7 a8 a9 a10 a11 a12 a13 a14 a15 a16 a17 : SD), ρ = [.res true (scriptR ns), .own false s.L, a2, a3, a4, a5, a6, a7, a8, a9, a10, a11, a12, a13, a14, a15, a16, a17] ∧ Sok m s ∧ m + 20 * k ≤ 200) _ _
    ⟨s, 0, .no, .no, .no, .no, .no, .no, .no, .no, .no, .no, .no, .no, .no, .no, .no, .no, rfl, hs, by decide⟩ ?_ ?_
  · rintro j z _ N hz hN ⟨s, m, a2, a3, a4, a5, a6, a7, a8, a9, a10, a11, a12, a13, a14, a15, a16, a17, rfl, hs, hm⟩
    exact turn13_ok W k_InvalidNumber _ hs (by omega) _ _ _ _ _ _ _ _ _ _ _ _ _ _ _ _ _ fun s' j3 j4 j5 j6 j7 j8 j9 j10 j11 j12 j13 j14 j15 j16 j17 hs' => hN _ ⟨s', m + 20, _, _, _, _, _, _, _, _, _, _, _, _, _, _, _, _, rfl, hs', by omega⟩
  · rintro _ ⟨s, m, a2, a3, a4, a5, a6, a7, a8, a9, a10, a11, a12, a13, a14, a15, a16, a17, rfl, hs, hm⟩
    exact hq
theorem len_quotients : ∀ α QD ED, p_quotients α QD ED → α.length = [("ratio" : Str), "count"].length := by rintro α QD ED ⟨x, k, rfl, _⟩; rfl
theorem len_expansion : ∀ α QD ED, p_expansion α QD ED → α.length = [("ratio" : Str)].length := by rintro α QD ED ⟨x, rfl, _⟩; rfl
theorem len_quotient_at : ∀ α QD ED, p_quotient_at α QD ED → α.length = [("parts" : Str), "place"].length := by rintro α QD ED ⟨f, g, i, rfl, _⟩; rfl
theorem len_continued : ∀ α QD ED, p_continued α QD ED → α.length = [("first" : Str), "last"].length := by rintro α QD ED ⟨f, y, x, rfl, _⟩; rfl
theorem len_number_of : ∀ α QD ED, p_number_of α QD ED → α.length = [("parts" : Str)].length := by rintro α QD ED ⟨f, g, x, rfl, _⟩; rfl
theorem len_convergents : ∀ α QD ED, p_convergents α QD ED → α.length = [("ratio" : Str), "count"].length := by rintro α QD ED ⟨x, k, rfl, _⟩; rfl
theorem len_whole : ∀ α QD ED, p_whole α QD ED → α.length = [("value" : Str)].length := by rintro α QD ED ⟨a, rfl, _⟩; rfl
theorem len__law_negative : ∀ α QD ED, p__law_negative α QD ED → α.length = [("one" : Str)].length := by rintro α QD ED ⟨a, rfl, _⟩; rfl
theorem len__law_drawn : ∀ α QD ED, p__law_drawn α QD ED → α.length = [("spool" : Str), "d", "size"].length := by rintro α QD ED ⟨s, m, d, z, rfl, _⟩; rfl
theorem len__law_square_root : ∀ α QD ED, p__law_square_root α QD ED → α.length = [("value" : Str)].length := by rintro α QD ED ⟨a, rfl, _⟩; rfl
theorem len__law_scaled : ∀ α QD ED, p__law_scaled α QD ED → α.length = [("one" : Str), "places"].length := by rintro α QD ED ⟨a, b, rfl, _⟩; rfl
theorem len__law_sign_of : ∀ α QD ED, p__law_sign_of α QD ED → α.length = [("one" : Str)].length := by rintro α QD ED ⟨a, rfl, _⟩; rfl
theorem len__law_drawn_ratio : ∀ α QD ED, p__law_drawn_ratio α QD ED → α.length = [("spool" : Str)].length := by rintro α QD ED ⟨s, m, rfl, _⟩; rfl
end KK

set_option maxHeartbeats 0
namespace KK
open PySem PySem.Spec PyProof.Rows L2 DL
def top (i : Nat) : Stmt := PySem.Challenge.pw_twospeeds_k13_whole_expansions.main.body.getD i (.Pass ⟨0, 0, 0, 0⟩)
abbrev FnP (K : PySem.W.Frag) (x : Str) (st : Stmt) (f : Addr) (fd : FuncData) : Prop := L2.FunD K x x (defArgs st) (defBody st) (defScope st) [] [] f fd
section
variable {P : Program} {w : World} {K : PySem.W.Frag} {mg : Str → Option Value} {base : Heap} {f : Addr} {fd : FuncData}
theorem sc_common_divisor : FnScope n_common_divisor ["first", "second"] (defScope (top 9)) := ⟨rfl, rfl, rfl, by decide +kernel, rfl, by decide +kernel, by decide +kernel⟩
theorem ok_common_divisor (F : FnP K "common_divisor" (top 9) f fd) (z_abs : mg "abs" = none) : FnD P w K mg base 1 f fd ["first", "second"] p_common_divisor := by
  refine FunD.okD F sc_common_divisor len_common_divisor fun cdv A outer s H E C α QD ED hr hW hp => ?_
  exact body_of (dss_cons (ds_while (passes_of rfl) (dt_cmp od_ne (de_var 1) (de_int) rfl) (dss_one (ds_par (i := 0) (j := 1) (da_cons (de_var 1) (da_cons (de_op od_mod (de_var 0) (de_var 1)) (da_nil)))))) (dss_one (ds_ret (de_B1 cd_abs z_abs (de_var 0))))) (pure_common_divisor α QD ED C.W hW hp)
theorem sc_root_floor : FnScope n_root_floor ["number"] (defScope (top 10)) := ⟨rfl, rfl, rfl, by decide +kernel, rfl, by decide +kernel, by decide +kernel⟩
theorem ok_root_floor (F : FnP K "root_floor" (top 10) f fd) : FnD P w K mg base 1 f fd ["number"] p_root_floor := by
  refine FunD.okD F sc_root_floor len_root_floor fun cdv A outer s H E C α QD ED hr hW hp => ?_
  exact body_of (dss_cons (ds_if (dt_cmp od_lt (de_var 0) (de_int) rfl) (dss_one (ds_ret (de_var 0))) (dss_nil)) (dss_cons (ds_set 1 (de_int)) (dss_cons (ds_while (passes_of rfl) (dt_cmp od_le (de_op od_mul (de_var 1) (de_var 1)) (de_var 0) rfl) (dss_one (ds_aug 1 od_imul (de_int)))) (dss_cons (ds_set 2 (de_op od_fdiv (de_op od_addU (de_var 1) (de_op od_fdiv (de_var 0) (de_var 1))) (de_int))) (dss_cons (ds_while (passes_of rfl) (dt_cmp od_lt (de_var 2) (de_var 1) rfl) (dss_cons (ds_set 1 (de_var 2)) (dss_one (ds_set 2 (de_op od_fdiv (de_op od_addU (de_var 1) (de_op od_fdiv (de_var 0) (de_var 1))) (de_int)))))) (dss_one (ds_ret (de_var 1)))))))) (pure_root_floor α QD ED C.W hW hp)
theorem sc_without_squares : FnScope n_without_squares ["number"] (defScope (top 11)) := ⟨rfl, rfl, rfl, by decide +kernel, rfl, by decide +kernel, by decide +kernel⟩
theorem ok_without_squares (F : FnP K "without_squares" (top 11) f fd) : FnD P w K mg base 1 f fd ["number"] p_without_squares := by
  refine FunD.okD F sc_without_squares len_without_squares fun cdv A outer s H E C α QD ED hr hW hp => ?_
  exact body_of (dss_cons (ds_par3 (i := 1) (j := 2) (l := 3) (da_cons (de_int) (da_cons (de_var 0) (da_cons (de_int) (da_nil))))) (dss_cons (ds_while (passes_of rfl) (dt_cmp od_le (de_op od_mul (de_var 3) (de_var 3)) (de_var 2) rfl) (dss_cons (ds_while (passes_of rfl) (dt_cmp od_eq (de_op od_mod (de_var 2) (de_op od_mul (de_var 3) (de_var 3))) (de_int) rfl) (dss_cons (ds_aug 2 od_ifdiv (de_op od_mul (de_var 3) (de_var 3))) (dss_one (ds_aug 1 od_imul (de_var 3))))) (dss_one (ds_aug 3 od_iaddU (de_int))))) (dss_one (ds_ret (de_tup (da_cons (de_var 1) (da_cons (de_var 2) (da_nil)))))))) (pure_without_squares α QD ED C.W hW hp)
theorem sc_lowest : FnScope n_lowest ["p", "q", "d", "s"] (defScope (top 12)) := ⟨rfl, rfl, rfl, by decide +kernel, rfl, by decide +kernel, by decide +kernel⟩
theorem ok_lowest (F : FnP K "lowest" (top 12) f fd) (c_common_divisor : CalD P w K mg base 1 "common_divisor" ["first", "second"] p_common_divisor) : FnD P w K mg base 2 f fd ["p", "q", "d", "s"] p_lowest := by
  refine FunD.okD F sc_lowest len_lowest fun cdv A outer s H E C α QD ED hr hW hp => ?_
  exact body_of (dss_cons (ds_if (dt_cmp od_lt (de_var 3) (de_int) rfl) (dss_one (ds_par3 (i := 0) (j := 1) (l := 3) (da_cons (de_neg (de_var 0)) (da_cons (de_neg (de_var 1)) (da_cons (de_neg (de_var 3)) (da_nil)))))) (dss_nil)) (dss_cons (ds_set 4 (de_callC (c_common_divisor.mono (by decide)) hr (da_cons (de_callC (c_common_divisor.mono (by decide)) hr (da_cons (de_var 0) (da_cons (de_var 1) (da_nil)))) (da_cons (de_var 3) (da_nil))))) (dss_cons (ds_par3 (i := 0) (j := 1) (l := 3) (da_cons (de_op od_fdiv (de_var 0) (de_var 4)) (da_cons (de_op od_fdiv (de_var 1) (de_var 4)) (da_cons (de_op od_fdiv (de_var 3) (de_var 4)) (da_nil))))) (dss_one (ds_ret (de_tup (da_cons (de_var 0) (da_cons (de_var 1) (da_cons (de_if (dt_cmp od_ne (de_var 1) (de_int) rfl) (de_var 2) (de_int)) (da_cons (de_var 3) (da_nil))))))))))) (pure_lowest α QD ED C.W hW hp)
theorem sc_number : FnScope n_number ["p", "q", "d", "s"] (defScope (top 13)) := ⟨rfl, rfl, rfl, by decide +kernel, rfl, by decide +kernel, by decide +kernel⟩
theorem ok_number (F : FnP K "number" (top 13) f fd) {k_InvalidNumber : Addr} (x_InvalidNumber : ExcD K mg "InvalidNumber" k_InvalidNumber) (c_lowest : CalD P w K mg base 2 "lowest" ["p", "q", "d", "s"] p_lowest) (c_without_squares : CalD P w K mg base 1 "without_squares" ["number"] p_without_squares) : FnD P w K mg base 3 f fd ["p", "q", "d", "s"] (p_number k_InvalidNumber) := by
  refine FunD.okD F sc_number len_number fun cdv A outer s H E C α QD ED hr hW hp => ?_
  exact body_of (dss_cons (ds_if ((dw_or (dt_cmp od_eq (de_var 3) (de_int) rfl) (dw_or1 (dt_cmp od_lt (de_var 2) (de_int) rfl))).dt) (dss_one (ds_raiseC x_InvalidNumber)) (dss_nil)) (dss_cons (ds_asg (de_if (dt_cmp od_gt (de_var 2) (de_int) rfl) (de_callC (c_without_squares.mono (by decide)) hr (da_cons (de_var 2) (da_nil))) (de_tup (da_cons (de_int) (da_cons (de_int) (da_nil))))) (dg_tup (dgs_cons (dg_name 4) (dgs_cons (dg_name 5) (dgs_nil))))) (dss_cons (ds_if (dt_cmp od_lt (de_var 5) (de_int) rfl) (dss_one (ds_ret (de_callC (c_lowest.mono (by decide)) hr (da_cons (de_op od_addU (de_var 0) (de_op od_mul (de_var 1) (de_var 4))) (da_cons (de_int) (da_cons (de_int) (da_cons (de_var 3) (da_nil)))))))) (dss_nil)) (dss_one (ds_ret (de_callC (c_lowest.mono (by decide)) hr (da_cons (de_var 0) (da_cons (de_op od_mul (de_var 1) (de_var 4)) (da_cons (de_var 5) (da_cons (de_var 3) (da_nil))))))))))) (pure_number α QD ED C.W hW hp)
theorem sc_root_of : FnScope n_root_of ["first", "second"] (defScope (top 14)) := ⟨rfl, rfl, rfl, by decide +kernel, rfl, by decide +kernel, by decide +kernel⟩
theorem ok_root_of (F : FnP K "root_of" (top 14) f fd) (z_max : mg "max" = none) {k_OtherRoot : Addr} (x_OtherRoot : ExcD K mg "OtherRoot" k_OtherRoot) : FnD P w K mg base 1 f fd ["first", "second"] p_root_of := by
  refine FunD.okD F sc_root_of len_root_of fun cdv A outer s H E C α QD ED hr hW hp => ?_
  exact body_of (dss_cons (ds_if ((dw_and (dt_cmp od_ne (de_ix (de_var 0) (de_int)) (de_int) rfl) (dw_and (dt_cmp od_ne (de_ix (de_var 1) (de_int)) (de_int) rfl) (dw_and1 (dt_cmp od_ne (de_ix (de_var 0) (de_int)) (de_ix (de_var 1) (de_int)) rfl)))).dt) (dss_one (ds_raiseC x_OtherRoot)) (dss_nil)) (dss_one (ds_ret (de_max z_max (de_ix (de_var 0) (de_int)) (de_ix (de_var 1) (de_int)))))) (pure_root_of α QD ED C.W hW hp)
theorem sc_plus : FnScope n_plus ["first", "second"] (defScope (top 15)) := ⟨rfl, rfl, rfl, by decide +kernel, rfl, by decide +kernel, by decide +kernel⟩
theorem ok_plus (F : FnP K "plus" (top 15) f fd) (c_root_of : CalD P w K mg base 1 "root_of" ["first", "second"] p_root_of) (c_lowest : CalD P w K mg base 2 "lowest" ["p", "q", "d", "s"] p_lowest) : FnD P w K mg base 3 f fd ["first", "second"] p_plus := by
  refine FunD.okD F sc_plus len_plus fun cdv A outer s H E C α QD ED hr hW hp => ?_
  exact body_of (dss_cons (ds_set 2 (de_callC (c_root_of.mono (by decide)) hr (da_cons (de_var 0) (da_cons (de_var 1) (da_nil))))) (dss_cons (ds_set 3 (de_op od_addU (de_op od_mul (de_ix (de_var 0) (de_int)) (de_ix (de_var 1) (de_int))) (de_op od_mul (de_ix (de_var 1) (de_int)) (de_ix (de_var 0) (de_int))))) (dss_one (ds_ret (de_callC (c_lowest.mono (by decide)) hr (da_cons (de_var 3) (da_cons (de_op od_addU (de_op od_mul (de_ix (de_var 0) (de_int)) (de_ix (de_var 1) (de_int))) (de_op od_mul (de_ix (de_var 1) (de_int)) (de_ix (de_var 0) (de_int)))) (da_cons (de_var 2) (da_cons (de_op od_mul (de_ix (de_var 0) (de_int)) (de_ix (de_var 1) (de_int))) (da_nil)))))))))) (pure_plus α QD ED C.W hW hp)
theorem sc_opposite : FnScope n_opposite ["one"] (defScope (top 16)) := ⟨rfl, rfl, rfl, by decide +kernel, rfl, by decide +kernel, by decide +kernel⟩
theorem ok_opposite (F : FnP K "opposite" (top 16) f fd) : FnD P w K mg base 1 f fd ["one"] p_opposite := by
  refine FunD.okD F sc_opposite len_opposite fun cdv A outer s H E C α QD ED hr hW hp => ?_
  exact body_of (dss_one (ds_ret (de_tup (da_cons (de_neg (de_ix (de_var 0) (de_int))) (da_cons (de_neg (de_ix (de_var 0) (de_int))) (da_cons (de_ix (de_var 0) (de_int)) (da_cons (de_ix (de_var 0) (de_int)) (da_nil)))))))) (pure_opposite α QD ED C.W hW hp)
theorem sc_minus : FnScope n_minus ["first", "second"] (defScope (top 17)) := ⟨rfl, rfl, rfl, by decide +kernel, rfl, by decide +kernel, by decide +kernel⟩
theorem ok_minus (F : FnP K "minus" (top 17) f fd) (c_plus : CalD P w K mg base 3 "plus" ["first", "second"] p_plus) (c_opposite : CalD P w K mg base 1 "opposite" ["one"] p_opposite) : FnD P w K mg base 4 f fd ["first", "second"] p_minus := by
  refine FunD.okD F sc_minus len_minus fun cdv A outer s H E C α QD ED hr hW hp => ?_
  exact body_of (dss_one (ds_ret (de_callC (c_plus.mono (by decide)) hr (da_cons (de_var 0) (da_cons (de_callC (c_opposite.mono (by decide)) hr (da_cons (de_var 1) (da_nil))) (da_nil)))))) (pure_minus α QD ED C.W hW hp)
theorem sc_times : FnScope n_times ["first", "second"] (defScope (top 18)) := ⟨rfl, rfl, rfl, by decide +kernel, rfl, by decide +kernel, by decide +kernel⟩
theorem ok_times (F : FnP K "times" (top 18) f fd) (c_root_of : CalD P w K mg base 1 "root_of" ["first", "second"] p_root_of) (c_lowest : CalD P w K mg base 2 "lowest" ["p", "q", "d", "s"] p_lowest) : FnD P w K mg base 3 f fd ["first", "second"] p_times := by
  refine FunD.okD F sc_times len_times fun cdv A outer s H E C α QD ED hr hW hp => ?_
  exact body_of (dss_cons (ds_set 2 (de_callC (c_root_of.mono (by decide)) hr (da_cons (de_var 0) (da_cons (de_var 1) (da_nil))))) (dss_cons (ds_set 3 (de_op od_addU (de_op od_mul (de_ix (de_var 0) (de_int)) (de_ix (de_var 1) (de_int))) (de_op od_mul (de_op od_mul (de_ix (de_var 0) (de_int)) (de_ix (de_var 1) (de_int))) (de_var 2)))) (dss_one (ds_ret (de_callC (c_lowest.mono (by decide)) hr (da_cons (de_var 3) (da_cons (de_op od_addU (de_op od_mul (de_ix (de_var 0) (de_int)) (de_ix (de_var 1) (de_int))) (de_op od_mul (de_ix (de_var 0) (de_int)) (de_ix (de_var 1) (de_int)))) (da_cons (de_var 2) (da_cons (de_op od_mul (de_ix (de_var 0) (de_int)) (de_ix (de_var 1) (de_int))) (da_nil)))))))))) (pure_times α QD ED C.W hW hp)
theorem sc_over : FnScope n_over ["first", "second"] (defScope (top 19)) := ⟨rfl, rfl, rfl, by decide +kernel, rfl, by decide +kernel, by decide +kernel⟩
theorem ok_over (F : FnP K "over" (top 19) f fd) {u_ZERO : Addr} (g_ZERO : mg "ZERO" = some (.ref u_ZERO) ∧ (∀ H : Hp, SqT K H u_ZERO v_ZERO) ∧ ∀ G, Reps K G v_ZERO l_ZERO) {k_ZeroDivisor : Addr} (x_ZeroDivisor : ExcD K mg "ZeroDivisor" k_ZeroDivisor) (c_times : CalD P w K mg base 3 "times" ["first", "second"] p_times) (c_lowest : CalD P w K mg base 2 "lowest" ["p", "q", "d", "s"] p_lowest) : FnD P w K mg base 4 f fd ["first", "second"] p_over := by
  refine FunD.okD F sc_over len_over fun cdv A outer s H E C α QD ED hr hW hp => ?_
  exact body_of (dss_cons (ds_if (dt_cmp od_eq (de_var 1) (de_gtup g_ZERO.1 g_ZERO.2.1 g_ZERO.2.2) rfl) (dss_one (ds_raiseC x_ZeroDivisor)) (dss_nil)) (dss_cons (ds_asg (de_var 1) (dg_tup (dgs_cons (dg_name 2) (dgs_cons (dg_name 3) (dgs_cons (dg_name 4) (dgs_cons (dg_name 5) (dgs_nil))))))) (dss_one (ds_ret (de_callC (c_times.mono (by decide)) hr (da_cons (de_var 0) (da_cons (de_callC (c_lowest.mono (by decide)) hr (da_cons (de_op od_mul (de_var 2) (de_var 5)) (da_cons (de_op od_mul (de_neg (de_var 3)) (de_var 5)) (da_cons (de_var 4) (da_cons (de_op od_subU (de_op od_mul (de_var 2) (de_var 2)) (de_op od_mul (de_op od_mul (de_var 3) (de_var 3)) (de_var 4))) (da_nil)))))) (da_nil)))))))) (pure_over α QD ED C.W hW hp)
theorem sc_floor : FnScope n_floor ["one"] (defScope (top 20)) := ⟨rfl, rfl, rfl, by decide +kernel, rfl, by decide +kernel, by decide +kernel⟩
theorem ok_floor (F : FnP K "floor" (top 20) f fd) (c_root_floor : CalD P w K mg base 1 "root_floor" ["number"] p_root_floor) : FnD P w K mg base 2 f fd ["one"] p_floor := by
  refine FunD.okD F sc_floor len_floor fun cdv A outer s H E C α QD ED hr hW hp => ?_
  exact body_of (dss_cons (ds_asg (de_var 0) (dg_tup (dgs_cons (dg_name 1) (dgs_cons (dg_name 2) (dgs_cons (dg_name 3) (dgs_cons (dg_name 4) (dgs_nil))))))) (dss_cons (ds_set 5 (de_op od_mul (de_op od_mul (de_var 2) (de_var 2)) (de_var 3))) (dss_cons (ds_if (dt_cmp od_ge (de_var 2) (de_int) rfl) (dss_one (ds_ret (de_op od_fdiv (de_op od_addU (de_var 1) (de_callC (c_root_floor.mono (by decide)) hr (da_cons (de_var 5) (da_nil)))) (de_var 4)))) (dss_nil)) (dss_one (ds_ret (de_op od_fdiv (de_op od_subU (de_op od_subU (de_var 1) (de_callC (c_root_floor.mono (by decide)) hr (da_cons (de_var 5) (da_nil)))) (de_int)) (de_var 4))))))) (pure_floor α QD ED C.W hW hp)
theorem sc_whole : FnScope n_whole ["value"] (defScope (top 23)) := ⟨rfl, rfl, rfl, by decide +kernel, rfl, by decide +kernel, by decide +kernel⟩
theorem ok_whole (F : FnP K "whole" (top 23) f fd) : FnD P w K mg base 1 f fd ["value"] p_whole := by
  refine FunD.okD F sc_whole len_whole fun cdv A outer s H E C α QD ED hr hW hp => ?_
  exact body_of (dss_one (ds_ret (de_tup (da_cons (de_var 0) (da_cons (de_int) (da_cons (de_int) (da_cons (de_int) (da_nil)))))))) (pure_whole α QD ED C.W hW hp)
theorem sc_expansion : FnScope n_expansion ["ratio"] (defScope (top 24)) := ⟨rfl, rfl, rfl, by decide +kernel, rfl, by decide +kernel, by decide +kernel⟩
theorem ok_expansion (F : FnP K "expansion" (top 24) f fd) (z_len : mg "len" = none) (z_tuple : mg "tuple" = none) (g_MAX_QUOTIENTS : ∃ t, mg "MAX_QUOTIENTS" = some (.int 400 t)) {u_ZERO : Addr} (g_ZERO : mg "ZERO" = some (.ref u_ZERO) ∧ (∀ H : Hp, SqT K H u_ZERO v_ZERO) ∧ ∀ G, Reps K G v_ZERO l_ZERO) {u_ONE : Addr} (g_ONE : mg "ONE" = some (.ref u_ONE) ∧ (∀ H : Hp, SqT K H u_ONE v_ONE) ∧ ∀ G, Reps K G v_ONE l_ONE) (c_minus : CalD P w K mg base 4 "minus" ["first", "second"] p_minus) (c_over : CalD P w K mg base 4 "over" ["first", "second"] p_over) (c_floor : CalD P w K mg base 2 "floor" ["one"] p_floor) (c_whole : CalD P w K mg base 1 "whole" ["value"] p_whole) : FnD P w K mg base 5 f fd ["ratio"] p_expansion := by
  refine FunD.okD F sc_expansion len_expansion fun cdv A outer s H E C α QD ED hr hW hp => ?_
  exact body_of (dss_cons (ds_parD (i := 1) (j := 2) (dn_lst (da_nil))) (dss_cons (ds_set 3 (de_var 0)) (dss_cons (ds_while (passes_of rfl) (dt_notD 2 (de_var 3)) (dss_cons (ds_if (dt_cmp od_eq (de_B1 cd_len z_len (de_var 1)) (de_gint g_MAX_QUOTIENTS) rfl) (dss_one (ds_never)) (dss_nil)) (dss_cons (ds_putD 2 (de_B1 cd_len z_len (de_var 1)) (de_var 3)) (dss_cons (ds_app 1 (de_callC (c_floor.mono (by decide)) hr (da_cons (de_var 3) (da_nil)))) (dss_cons (ds_set 4 (de_callC (c_minus.mono (by decide)) hr (da_cons (de_var 3) (da_cons (de_callC (c_whole.mono (by decide)) hr (da_cons (de_ix (de_var 1) (de_neg (de_int))) (da_nil))) (da_nil))))) (dss_cons (ds_if (dt_cmp od_eq (de_var 4) (de_gtup g_ZERO.1 g_ZERO.2.1 g_ZERO.2.2) rfl) (dss_one (ds_ret (de_tup (da_cons (de_Ty1 cd_tuple z_tuple (de_var 1)) (da_cons (de_tup (da_nil)) (da_nil)))))) (dss_nil)) (dss_one (ds_set 3 (de_callC (c_over.mono (by decide)) hr (da_cons (de_gtup g_ONE.1 g_ONE.2.1 g_ONE.2.2) (da_cons (de_var 4) (da_nil)))))))))))) (dss_cons (ds_set 5 (de_getD 2 (de_var 3))) (dss_one (ds_ret (de_tup (da_cons (de_Ty1 cd_tuple z_tuple (de_new (dn_slice (de_var 1) (do_none) (do_some (de_var 5))))) (da_cons (de_Ty1 cd_tuple z_tuple (de_new (dn_slice (de_var 1) (do_some (de_var 5)) (do_none)))) (da_nil)))))))))) (pure_expansion α QD ED C.W hW hp)
theorem sc_quotient_at : FnScope n_quotient_at ["parts", "place"] (defScope (top 25)) := ⟨rfl, rfl, rfl, by decide +kernel, rfl, by decide +kernel, by decide +kernel⟩
theorem ok_quotient_at (F : FnP K "quotient_at" (top 25) f fd) (z_len : mg "len" = none) : FnD P w K mg base 1 f fd ["parts", "place"] p_quotient_at := by
  refine FunD.okD F sc_quotient_at len_quotient_at fun cdv A outer s H E C α QD ED hr hW hp => ?_
  exact body_of (dss_cons (ds_asg (de_var 0) (dg_tup (dgs_cons (dg_name 2) (dgs_cons (dg_name 3) (dgs_nil))))) (dss_cons (ds_if (dt_cmp od_lt (de_var 1) (de_B1 cd_len z_len (de_var 2)) rfl) (dss_one (ds_ret (de_ix (de_var 2) (de_var 1)))) (dss_nil)) (dss_one (ds_ret (de_if (dt_cmp od_ne (de_var 3) (de_tup (da_nil)) rfl) (de_ix (de_var 3) (de_op od_mod (de_op od_subU (de_var 1) (de_B1 cd_len z_len (de_var 2))) (de_B1 cd_len z_len (de_var 3)))) (de_non)))))) (pure_quotient_at α QD ED C.W hW hp)
theorem sc_quotients : FnScope n_quotients ["ratio", "count"] (defScope (top 26)) := ⟨rfl, rfl, rfl, by decide +kernel, rfl, by decide +kernel, by decide +kernel⟩
theorem ok_quotients (F : FnP K "quotients" (top 26) f fd) (z_len : mg "len" = none) {u_ZERO : Addr} (g_ZERO : mg "ZERO" = some (.ref u_ZERO) ∧ (∀ H : Hp, SqT K H u_ZERO v_ZERO) ∧ ∀ G, Reps K G v_ZERO l_ZERO) {u_ONE : Addr} (g_ONE : mg "ONE" = some (.ref u_ONE) ∧ (∀ H : Hp, SqT K H u_ONE v_ONE) ∧ ∀ G, Reps K G v_ONE l_ONE) (c_minus : CalD P w K mg base 4 "minus" ["first", "second"] p_minus) (c_floor : CalD P w K mg base 2 "floor" ["one"] p_floor) (c_whole : CalD P w K mg base 1 "whole" ["value"] p_whole) (c_over : CalD P w K mg base 4 "over" ["first", "second"] p_over) : FnD P w K mg base 5 f fd ["ratio", "count"] p_quotients := by
  refine FunD.okD F sc_quotients len_quotients fun cdv A outer s H E C α QD ED hr hW hp => ?_
  exact body_of (dss_cons (ds_own 2 (dn_lst (da_nil))) (dss_cons (ds_set 3 (de_var 0)) (dss_cons (ds_while (passes_of rfl) ((dw_and (dt_cmp od_lt (de_B1 cd_len z_len (de_var 2)) (de_var 1) rfl) (dw_and1 (dt_cmp od_isNot (de_var 3) (de_non) rfl))).dt) (dss_cons (ds_app 2 (de_callC (c_floor.mono (by decide)) hr (da_cons (de_var 3) (da_nil)))) (dss_cons (ds_set 4 (de_callC (c_minus.mono (by decide)) hr (da_cons (de_var 3) (da_cons (de_callC (c_whole.mono (by decide)) hr (da_cons (de_ix (de_var 2) (de_neg (de_int))) (da_nil))) (da_nil))))) (dss_one (ds_set 3 (de_if (dt_cmp od_eq (de_var 4) (de_gtup g_ZERO.1 g_ZERO.2.1 g_ZERO.2.2) rfl) (de_non) (de_callC (c_over.mono (by decide)) hr (da_cons (de_gtup g_ONE.1 g_ONE.2.1 g_ONE.2.2) (da_cons (de_var 4) (da_nil)))))))))) (dss_one (ds_retOwn 2))))) (pure_quotients α QD ED C.W hW hp)
theorem sc_continued : FnScope n_continued ["first", "last"] (defScope (top 27)) := ⟨rfl, rfl, rfl, by decide +kernel, rfl, by decide +kernel, by decide +kernel⟩
theorem ok_continued (F : FnP K "continued" (top 27) f fd) (z_list : mg "list" = none) {u_ONE : Addr} (g_ONE : mg "ONE" = some (.ref u_ONE) ∧ (∀ H : Hp, SqT K H u_ONE v_ONE) ∧ ∀ G, Reps K G v_ONE l_ONE) (c_plus : CalD P w K mg base 3 "plus" ["first", "second"] p_plus) (c_whole : CalD P w K mg base 1 "whole" ["value"] p_whole) (c_over : CalD P w K mg base 4 "over" ["first", "second"] p_over) : FnD P w K mg base 5 f fd ["first", "last"] p_continued := by
  refine FunD.okD F sc_continued len_continued fun cdv A outer s H E C α QD ED hr hW hp => ?_
  exact body_of (dss_cons (ds_set 2 (de_var 1)) (dss_cons (ds_for (passes_of rfl) (di_list (de_new (dn_rev (de_new (dn_listOf z_list (de_var 0)))))) (dg_name 3) (dss_one (ds_set 2 (de_callC (c_plus.mono (by decide)) hr (da_cons (de_callC (c_whole.mono (by decide)) hr (da_cons (de_var 3) (da_nil))) (da_cons (de_callC (c_over.mono (by decide)) hr (da_cons (de_gtup g_ONE.1 g_ONE.2.1 g_ONE.2.2) (da_cons (de_var 2) (da_nil)))) (da_nil))))))) (dss_one (ds_ret (de_var 2))))) (pure_continued α QD ED C.W hW hp)
theorem sc_number_of : FnScope n_number_of ["parts"] (defScope (top 28)) := ⟨rfl, rfl, rfl, by decide +kernel, rfl, by decide +kernel, by decide +kernel⟩
theorem ok_number_of (F : FnP K "number_of" (top 28) f fd) {k_InvalidNumber : Addr} (c_common_divisor : CalD P w K mg base 1 "common_divisor" ["first", "second"] p_common_divisor) (c_continued : CalD P w K mg base 5 "continued" ["first", "last"] p_continued) (c_number : CalD P w K mg base 3 "number" ["p", "q", "d", "s"] (p_number k_InvalidNumber)) (c_whole : CalD P w K mg base 1 "whole" ["value"] p_whole) : FnD P w K mg base 6 f fd ["parts"] p_number_of := by
  refine FunD.okD F sc_number_of len_number_of fun cdv A outer s H E C α QD ED hr hW hp => ?_
  exact body_of (dss_cons (ds_asg (de_var 0) (dg_tup (dgs_cons (dg_name 1) (dgs_cons (dg_name 2) (dgs_nil))))) (dss_cons (ds_if (dt_cmp od_eq (de_var 2) (de_tup (da_nil)) rfl) (dss_one (ds_ret (de_callC (c_continued.mono (by decide)) hr (da_cons (de_slice (de_var 1) (do_none) (do_some (de_neg (de_int)))) (da_cons (de_callC (c_whole.mono (by decide)) hr (da_cons (de_ix (de_var 1) (de_neg (de_int))) (da_nil))) (da_nil)))))) (dss_nil)) (dss_cons (ds_asg (de_tup (da_cons (de_int) (da_cons (de_int) (da_cons (de_int) (da_cons (de_int) (da_nil)))))) (dg_tup (dgs_cons (dg_name 3) (dgs_cons (dg_name 4) (dgs_cons (dg_name 5) (dgs_cons (dg_name 6) (dgs_nil))))))) (dss_cons (ds_for (passes_of rfl) (di_tup (de_var 2)) (dg_name 7) (dss_one (ds_asg (de_tup (da_cons (de_op od_addU (de_op od_mul (de_var 3) (de_var 7)) (de_var 4)) (da_cons (de_var 3) (da_cons (de_op od_addU (de_op od_mul (de_var 5) (de_var 7)) (de_var 6)) (da_cons (de_var 5) (da_nil)))))) (dg_tup (dgs_cons (dg_name 3) (dgs_cons (dg_name 4) (dgs_cons (dg_name 5) (dgs_cons (dg_name 6) (dgs_nil))))))))) (dss_cons (ds_set 8 (de_callC (c_common_divisor.mono (by decide)) hr (da_cons (de_callC (c_common_divisor.mono (by decide)) hr (da_cons (de_var 5) (da_cons (de_op od_subU (de_var 3) (de_var 6)) (da_nil)))) (da_cons (de_var 4) (da_nil))))) (dss_cons (ds_par3 (i := 4) (j := 5) (l := 6) (da_cons (de_op od_fdiv (de_var 4) (de_var 8)) (da_cons (de_op od_fdiv (de_var 5) (de_var 8)) (da_cons (de_op od_fdiv (de_op od_subU (de_var 3) (de_var 6)) (de_var 8)) (da_nil))))) (dss_one (ds_ret (de_callC (c_continued.mono (by decide)) hr (da_cons (de_var 1) (da_cons (de_callC (c_number.mono (by decide)) hr (da_cons (de_var 6) (da_cons (de_int) (da_cons (de_op od_addU (de_op od_mul (de_var 6) (de_var 6)) (de_op od_mul (de_op od_mul (de_int) (de_var 4)) (de_var 5))) (da_cons (de_op od_mul (de_int) (de_var 5)) (da_nil)))))) (da_nil)))))))))))) (pure_number_of α QD ED C.W hW hp)
theorem sc_convergents : FnScope n_convergents ["ratio", "count"] (defScope (top 29)) := ⟨rfl, rfl, rfl, by decide +kernel, rfl, by decide +kernel, by decide +kernel⟩
theorem ok_convergents (F : FnP K "convergents" (top 29) f fd) (c_quotients : CalD P w K mg base 5 "quotients" ["ratio", "count"] p_quotients) : FnD P w K mg base 6 f fd ["ratio", "count"] p_convergents := by
  refine FunD.okD F sc_convergents len_convergents fun cdv A outer s H E C α QD ED hr hW hp => ?_
  exact body_of (dss_cons (ds_own 2 (dn_lst (da_nil))) (dss_cons (ds_asg (de_tup (da_cons (de_int) (da_cons (de_int) (da_cons (de_int) (da_cons (de_int) (da_nil)))))) (dg_tup (dgs_cons (dg_name 3) (dgs_cons (dg_name 4) (dgs_cons (dg_name 5) (dgs_cons (dg_name 6) (dgs_nil))))))) (dss_cons (ds_for (passes_of rfl) (di_list (de_callC (c_quotients.mono (by decide)) hr (da_cons (de_var 0) (da_cons (de_var 1) (da_nil))))) (dg_name 7) (dss_cons (ds_asg (de_tup (da_cons (de_op od_addU (de_op od_mul (de_var 7) (de_var 3)) (de_var 5)) (da_cons (de_op od_addU (de_op od_mul (de_var 7) (de_var 4)) (de_var 6)) (da_cons (de_var 3) (da_cons (de_var 4) (da_nil)))))) (dg_tup (dgs_cons (dg_name 3) (dgs_cons (dg_name 4) (dgs_cons (dg_name 5) (dgs_cons (dg_name 6) (dgs_nil))))))) (dss_one (ds_app 2 (de_tup (da_cons (de_var 3) (da_cons (de_var 4) (da_nil)))))))) (dss_one (ds_retOwn 2))))) (pure_convergents α QD ED C.W hW hp)
theorem sc__law_stirred : FnScope n__law_stirred ["cell", "place"] (defScope (top 31)) := ⟨rfl, rfl, rfl, by decide +kernel, rfl, by decide +kernel, by decide +kernel⟩
theorem ok__law_stirred (F : FnP K "_law_stirred" (top 31) f fd) (z_range : mg "range" = none) : FnD P w K mg base 1 f fd ["cell", "place"] p__law_stirred := by
  refine FunD.okD F sc__law_stirred len__law_stirred fun cdv A outer s H E C α QD ED hr hW hp => ?_
  exact body_of (dss_cons (ds_set 2 (de_int)) (dss_cons (ds_set 3 (de_op od_mod (de_op od_addU (de_op od_addU (de_op od_mul (de_var 0) (de_int)) (de_op od_mul (de_var 1) (de_int))) (de_int)) (de_var 2))) (dss_cons (ds_for (passes_of rfl) (di_range1 (by rfl) z_range (da_cons (de_int) (da_nil))) (dg_name 4) (dss_one (ds_set 3 (de_op od_mod (de_op od_addU (de_op od_addU (de_op od_addU (de_op od_mul (de_var 3) (de_var 3)) (de_op od_mul (de_int) (de_var 3))) (de_op od_mul (de_int) (de_var 4))) (de_var 1)) (de_var 2))))) (dss_one (ds_ret (de_op od_addU (de_op od_mul (de_var 3) (de_var 2)) (de_op od_mod (de_op od_addU (de_op od_mul (de_var 3) (de_int)) (de_var 1)) (de_var 2)))))))) (pure__law_stirred α QD ED C.W hW hp)
theorem sc__law_spool_of : FnScope n__law_spool_of ["script"] (defScope (top 32)) := ⟨rfl, rfl, rfl, by decide +kernel, rfl, by decide +kernel, by decide +kernel⟩
theorem ok__law_spool_of (F : FnP K "_law_spool_of" (top 32) f fd) (z_enumerate : mg "enumerate" = none) (z_abs : mg "abs" = none) : FnD P w K mg base 1 f fd ["script"] p__law_spool_of := by
  refine FunD.okD F sc__law_spool_of len__law_spool_of fun cdv A outer s H E C α QD ED hr hW hp => ?_
  exact body_of (dss_cons (ds_setLc 1 [("cell", 3)] (di_list (de_new (dn_scr 0 (do_none) (do_some (de_int))))) (by kernel_rfl) (fun _ _ _ _ _ => ⟨_, dg_name 3⟩) (fun _ _ _ _ _ => ⟨_, dts_nil⟩) (fun _ _ _ _ _ => ⟨_, de_B1 cd_abs z_abs (de_var 3)⟩)) (dss_cons (ds_for (passes_of rfl) (di_enum z_enumerate (da_cons (de_new (dn_scr 0 (do_some (de_int)) (do_some (de_int)))) (da_nil))) (dg_tup (dgs_cons (dg_name 2) (dgs_cons (dg_name 3) (dgs_nil)))) (dss_one (ds_put 1 (de_op od_addU (de_ix (de_var 1) (de_op od_mod (de_var 2) (de_int))) (de_B1 cd_abs z_abs (de_var 3))) (de_op od_mod (de_var 2) (de_int))))) (dss_one (ds_retN (dn_lst (da_cons (de_var 1) (da_cons (de_int) (da_cons (de_int) (da_cons (de_int) (da_nil)))))))))) (pure__law_spool_of α QD ED C.W hW hp)
theorem sc__law_upto : FnScope n__law_upto ["spool", "bound"] (defScope (top 33)) := ⟨rfl, rfl, rfl, by decide +kernel, rfl, by decide +kernel, by decide +kernel⟩
theorem ok__law_upto (F : FnP K "_law_upto" (top 33) f fd) (z_len : mg "len" = none) (c__law_stirred : CalD P w K mg base 1 "_law_stirred" ["cell", "place"] p__law_stirred) : FnD P w K mg base 2 f fd ["spool", "bound"] p__law_upto := by
  refine FunD.okD F sc__law_upto len__law_upto fun cdv A outer s H E C α QD ED hr hW hp => ?_
  exact body_of (dss_cons (ds_if (dt_cmp od_lt (de_ix (de_var 0) (de_int)) (de_var 1) rfl) (dss_cons (ds_par (i := 2) (j := 3) (da_cons (de_ix (de_var 0) (de_int)) (da_cons (de_ix (de_var 0) (de_int)) (da_nil)))) (dss_cons (ds_set 4 (de_if (dt_cmp od_ne (de_var 2) (de_new (dn_lst (da_nil))) rfl) (de_ix (de_var 2) (de_op od_mod (de_var 3) (de_B1 cd_len z_len (de_var 2)))) (de_int))) (dss_cons (ds_if ((dw_or (dt_cmp od_ge (de_var 3) (de_B1 cd_len z_len (de_var 2)) rfl) (dw_or1 (dt_cmp od_lt (de_var 4) (de_op od_pow (de_int) (de_int)) rfl))).dt) (dss_one (ds_set 4 (de_callC (c__law_stirred.mono (by decide)) hr (da_cons (de_op od_mod (de_var 4) (de_int)) (da_cons (de_var 3) (da_nil)))))) (dss_nil)) (dss_cons (ds_put 0 (de_op od_addU (de_var 3) (de_int)) (de_int)) (dss_cons (ds_put 0 (de_var 4) (de_int)) (dss_one (ds_put 0 (de_var 4) (de_int)))))))) (dss_nil)) (dss_cons (ds_set 5 (de_op od_mod (de_ix (de_var 0) (de_int)) (de_var 1))) (dss_cons (ds_put 0 (de_op od_fdiv (de_ix (de_var 0) (de_int)) (de_var 1)) (de_int)) (dss_cons (ds_put 0 (de_op od_fdiv (de_ix (de_var 0) (de_int)) (de_var 1)) (de_int)) (dss_one (ds_ret (de_var 5))))))) (pure__law_upto α QD ED C.W hW hp)
theorem sc__law_choice : FnScope n__law_choice ["spool", "items"] (defScope (top 34)) := ⟨rfl, rfl, rfl, by decide +kernel, rfl, by decide +kernel, by decide +kernel⟩
theorem ok__law_choice (F : FnP K "_law_choice" (top 34) f fd) (z_len : mg "len" = none) (c__law_upto : CalD P w K mg base 2 "_law_upto" ["spool", "bound"] p__law_upto) : FnD P w K mg base 3 f fd ["spool", "items"] p__law_choice := by
  refine FunD.okD F sc__law_choice len__law_choice fun cdv A outer s H E C α QD ED hr hW hp => ?_
  exact body_of (dss_one (ds_ret (de_ix (de_var 1) (de_callLC 0 (c__law_upto.mono (by decide)) hr (da_cons (de_B1 cd_len z_len (de_var 1)) (da_nil)))))) (pure__law_choice α QD ED C.W hW hp)
theorem sc__law_common : FnScope n__law_common ["one", "other"] (defScope (top 35)) := ⟨rfl, rfl, rfl, by decide +kernel, rfl, by decide +kernel, by decide +kernel⟩
theorem ok__law_common (F : FnP K "_law_common" (top 35) f fd) (z_abs : mg "abs" = none) : FnD P w K mg base 1 f fd ["one", "other"] p__law_common := by
  refine FunD.okD F sc__law_common len__law_common fun cdv A outer s H E C α QD ED hr hW hp => ?_
  exact body_of (dss_cons (ds_while (passes_of rfl) (dt_cmp od_ne (de_var 1) (de_int) rfl) (dss_one (ds_par (i := 0) (j := 1) (da_cons (de_var 1) (da_cons (de_op od_mod (de_var 0) (de_var 1)) (da_nil)))))) (dss_one (ds_ret (de_B1 cd_abs z_abs (de_var 0))))) (pure__law_common α QD ED C.W hW hp)
theorem sc__law_square_root : FnScope n__law_square_root ["value"] (defScope (top 36)) := ⟨rfl, rfl, rfl, by decide +kernel, rfl, by decide +kernel, by decide +kernel⟩
theorem ok__law_square_root (F : FnP K "_law_square_root" (top 36) f fd) : FnD P w K mg base 1 f fd ["value"] p__law_square_root := by
  refine FunD.okD F sc__law_square_root len__law_square_root fun cdv A outer s H E C α QD ED hr hW hp => ?_
  exact body_of (dss_cons (ds_if (dt_cmp od_lt (de_var 0) (de_int) rfl) (dss_one (ds_ret (de_var 0))) (dss_nil)) (dss_cons (ds_set 1 (de_int)) (dss_cons (ds_for (passes_of rfl) (di_tup (de_tup (da_cons (de_int) (da_cons (de_int) (da_nil))))) (dg_name 2) (dss_one (ds_while (passes_of rfl) (dt_cmp od_le (de_op od_mul (de_op od_mul (de_op od_mul (de_var 1) (de_var 1)) (de_var 2)) (de_var 2)) (de_op od_mul (de_int) (de_var 0)) rfl) (dss_one (ds_set 1 (de_op od_mul (de_var 1) (de_var 2))))))) (dss_cons (ds_set 3 (de_op od_fdiv (de_op od_addU (de_var 1) (de_op od_fdiv (de_var 0) (de_var 1))) (de_int))) (dss_cons (ds_while (passes_of rfl) (dt_cmp od_lt (de_var 3) (de_var 1) rfl) (dss_cons (ds_set 1 (de_var 3)) (dss_one (ds_set 3 (de_op od_fdiv (de_op od_addU (de_var 1) (de_op od_fdiv (de_var 0) (de_var 1))) (de_int)))))) (dss_one (ds_ret (de_var 1)))))))) (pure__law_square_root α QD ED C.W hW hp)
theorem sc__law_lowest : FnScope n__law_lowest ["p", "q", "d", "s"] (defScope (top 37)) := ⟨rfl, rfl, rfl, by decide +kernel, rfl, by decide +kernel, by decide +kernel⟩
theorem ok__law_lowest (F : FnP K "_law_lowest" (top 37) f fd) (c__law_common : CalD P w K mg base 1 "_law_common" ["one", "other"] p__law_common) : FnD P w K mg base 2 f fd ["p", "q", "d", "s"] p__law_lowest := by
  refine FunD.okD F sc__law_lowest len__law_lowest fun cdv A outer s H E C α QD ED hr hW hp => ?_
  exact body_of (dss_cons (ds_if ((dw_or (dt_cmp od_eq (de_var 1) (de_int) rfl) (dw_or1 (dt_cmp od_eq (de_var 2) (de_int) rfl))).dt) (dss_one (ds_asg (de_tup (da_cons (de_int) (da_cons (de_int) (da_nil)))) (dg_tup (dgs_cons (dg_name 1) (dgs_cons (dg_name 2) (dgs_nil)))))) (dss_nil)) (dss_cons (ds_set 4 (de_callC (c__law_common.mono (by decide)) hr (da_cons (de_callC (c__law_common.mono (by decide)) hr (da_cons (de_var 0) (da_cons (de_var 1) (da_nil)))) (da_cons (de_var 3) (da_nil))))) (dss_cons (ds_set 4 (de_if (dt_cmp od_gt (de_var 3) (de_int) rfl) (de_var 4) (de_op od_subU (de_int) (de_var 4)))) (dss_one (ds_ret (de_tup (da_cons (de_op od_fdiv (de_var 0) (de_var 4)) (da_cons (de_op od_fdiv (de_var 1) (de_var 4)) (da_cons (de_var 2) (da_cons (de_op od_fdiv (de_var 3) (de_var 4)) (da_nil))))))))))) (pure__law_lowest α QD ED C.W hW hp)
theorem sc__law_negative : FnScope n__law_negative ["one"] (defScope (top 39)) := ⟨rfl, rfl, rfl, by decide +kernel, rfl, by decide +kernel, by decide +kernel⟩
theorem ok__law_negative (F : FnP K "_law_negative" (top 39) f fd) : FnD P w K mg base 1 f fd ["one"] p__law_negative := by
  refine FunD.okD F sc__law_negative len__law_negative fun cdv A outer s H E C α QD ED hr hW hp => ?_
  exact body_of (dss_one (ds_ret (de_tup (da_cons (de_op od_subU (de_int) (de_ix (de_var 0) (de_int))) (da_cons (de_op od_subU (de_int) (de_ix (de_var 0) (de_int))) (da_cons (de_ix (de_var 0) (de_int)) (da_cons (de_ix (de_var 0) (de_int)) (da_nil)))))))) (pure__law_negative α QD ED C.W hW hp)
theorem sc__law_scaled : FnScope n__law_scaled ["one", "places"] (defScope (top 42)) := ⟨rfl, rfl, rfl, by decide +kernel, rfl, by decide +kernel, by decide +kernel⟩
theorem ok__law_scaled (F : FnP K "_law_scaled" (top 42) f fd) (z_range : mg "range" = none) (c__law_square_root : CalD P w K mg base 1 "_law_square_root" ["value"] p__law_square_root) : FnD P w K mg base 2 f fd ["one", "places"] p__law_scaled := by
  refine FunD.okD F sc__law_scaled len__law_scaled fun cdv A outer s H E C α QD ED hr hW hp => ?_
  exact body_of (dss_cons (ds_asg (de_var 0) (dg_tup (dgs_cons (dg_name 2) (dgs_cons (dg_name 3) (dgs_cons (dg_name 4) (dgs_cons (dg_name 5) (dgs_nil))))))) (dss_cons (ds_set 6 (de_int)) (dss_cons (ds_for (passes_of rfl) (di_range1 (by rfl) z_range (da_cons (de_var 1) (da_nil))) (dg_name 7) (dss_one (ds_set 6 (de_op od_mul (de_var 6) (de_int))))) (dss_cons (ds_set 8 (de_callC (c__law_square_root.mono (by decide)) hr (da_cons (de_op od_mul (de_op od_mul (de_op od_mul (de_op od_mul (de_var 3) (de_var 3)) (de_var 4)) (de_var 6)) (de_var 6)) (da_nil)))) (dss_one (ds_ret (de_op od_fdiv (de_op od_addU (de_op od_mul (de_var 2) (de_var 6)) (de_if (dt_cmp od_gt (de_var 3) (de_int) rfl) (de_var 8) (de_op od_subU (de_int) (de_var 8)))) (de_var 5)))))))) (pure__law_scaled α QD ED C.W hW hp)
theorem sc__law_sign_of : FnScope n__law_sign_of ["one"] (defScope (top 43)) := ⟨rfl, rfl, rfl, by decide +kernel, rfl, by decide +kernel, by decide +kernel⟩
theorem ok__law_sign_of (F : FnP K "_law_sign_of" (top 43) f fd) (z_abs : mg "abs" = none) (c__law_scaled : CalD P w K mg base 2 "_law_scaled" ["one", "places"] p__law_scaled) : FnD P w K mg base 3 f fd ["one"] p__law_sign_of := by
  refine FunD.okD F sc__law_sign_of len__law_sign_of fun cdv A outer s H E C α QD ED hr hW hp => ?_
  exact body_of (dss_cons (ds_set 1 (de_int)) (dss_cons (ds_while (passes_of rfl) (dt_cmp od_ne (de_slice (de_var 0) (do_none) (do_some (de_int))) (de_tup (da_cons (de_int) (da_cons (de_int) (da_nil)))) rfl) (dss_cons (ds_set 2 (de_callC (c__law_scaled.mono (by decide)) hr (da_cons (de_var 0) (da_cons (de_var 1) (da_nil))))) (dss_cons (ds_if (dt_cmp od_gt (de_B1 cd_abs z_abs (de_var 2)) (de_int) rfl) (dss_one (ds_ret (de_if (dt_cmp od_gt (de_var 2) (de_int) rfl) (de_int) (de_op od_subU (de_int) (de_int))))) (dss_nil)) (dss_one (ds_set 1 (de_op od_mul (de_int) (de_var 1))))))) (dss_one (ds_ret (de_int))))) (pure__law_sign_of α QD ED C.W hW hp)
theorem sc__law_drawn : FnScope n__law_drawn ["spool", "d", "size"] (defScope (top 45)) := ⟨rfl, rfl, rfl, by decide +kernel, rfl, by decide +kernel, by decide +kernel⟩
theorem ok__law_drawn (F : FnP K "_law_drawn" (top 45) f fd) (c__law_lowest : CalD P w K mg base 2 "_law_lowest" ["p", "q", "d", "s"] p__law_lowest) (c__law_upto : CalD P w K mg base 2 "_law_upto" ["spool", "bound"] p__law_upto) (c__law_choice : CalD P w K mg base 3 "_law_choice" ["spool", "items"] p__law_choice) : FnD P w K mg base 4 f fd ["spool", "d", "size"] p__law_drawn := by
  refine FunD.okD F sc__law_drawn len__law_drawn fun cdv A outer s H E C α QD ED hr hW hp => ?_
  exact body_of (dss_cons (ds_par (i := 3) (j := 4) (da_cons (de_op od_subU (de_callLC 0 (c__law_upto.mono (by decide)) hr (da_cons (de_op od_addU (de_op od_mul (de_int) (de_var 2)) (de_int)) (da_nil))) (de_var 2)) (da_cons (de_op od_subU (de_callLC 0 (c__law_upto.mono (by decide)) hr (da_cons (de_op od_addU (de_op od_mul (de_int) (de_var 2)) (de_int)) (da_nil))) (de_var 2)) (da_nil)))) (dss_cons (ds_set 5 (de_op od_addU (de_int) (de_callLC 0 (c__law_upto.mono (by decide)) hr (da_cons (de_var 2) (da_nil))))) (dss_one (ds_ret (de_callC (c__law_lowest.mono (by decide)) hr (da_cons (de_var 3) (da_cons (de_callLC 0 (c__law_choice.mono (by decide)) hr (da_cons (de_new (dn_lst (da_cons (de_int) (da_cons (de_var 4) (da_cons (de_var 4) (da_nil)))))) (da_nil))) (da_cons (de_var 1) (da_cons (de_var 5) (da_nil)))))))))) (pure__law_drawn α QD ED C.W hW hp)
theorem sc__law_drawn_ratio : FnScope n__law_drawn_ratio ["spool"] (defScope (top 46)) := ⟨rfl, rfl, rfl, by decide +kernel, rfl, by decide +kernel, by decide +kernel⟩
theorem ok__law_drawn_ratio (F : FnP K "_law_drawn_ratio" (top 46) f fd) (c__law_choice : CalD P w K mg base 3 "_law_choice" ["spool", "items"] p__law_choice) (c__law_drawn : CalD P w K mg base 4 "_law_drawn" ["spool", "d", "size"] p__law_drawn) (c__law_sign_of : CalD P w K mg base 3 "_law_sign_of" ["one"] p__law_sign_of) (c__law_negative : CalD P w K mg base 1 "_law_negative" ["one"] p__law_negative) : FnD P w K mg base 5 f fd ["spool"] p__law_drawn_ratio := by
  refine FunD.okD F sc__law_drawn_ratio len__law_drawn_ratio fun cdv A outer s H E C α QD ED hr hW hp => ?_
  exact body_of (dss_cons (ds_set 1 (de_callLC 0 (c__law_choice.mono (by decide)) hr (da_cons (de_new (dn_lst (da_cons (de_int) (da_cons (de_int) (da_cons (de_int) (da_cons (de_int) (da_cons (de_int) (da_cons (de_int) (da_cons (de_int) (da_cons (de_int) (da_nil))))))))))) (da_nil)))) (dss_cons (ds_set 2 (de_callLC 0 (c__law_drawn.mono (by decide)) hr (da_cons (de_var 1) (da_cons (de_callLC 0 (c__law_choice.mono (by decide)) hr (da_cons (de_new (dn_lst (da_cons (de_int) (da_cons (de_int) (da_cons (de_int) (da_cons (de_int) (da_nil))))))) (da_nil))) (da_nil))))) (dss_cons (ds_if (dt_cmp od_lt (de_callC (c__law_sign_of.mono (by decide)) hr (da_cons (de_var 2) (da_nil))) (de_int) rfl) (dss_one (ds_set 2 (de_callC (c__law_negative.mono (by decide)) hr (da_cons (de_var 2) (da_nil))))) (dss_nil)) (dss_one (ds_ret (de_if (dt_cmp od_ne (de_slice (de_var 2) (do_none) (do_some (de_int))) (de_tup (da_cons (de_int) (da_cons (de_int) (da_nil)))) rfl) (de_var 2) (de_tup (da_cons (de_int) (da_cons (de_int) (da_cons (de_int) (da_cons (de_int) (da_nil)))))))))))) (pure__law_drawn_ratio α QD ED C.W hW hp)
theorem sc_law : FnScope n_law ["script"] (defScope (top 48)) := ⟨rfl, rfl, rfl, by decide +kernel, rfl, by decide +kernel, by decide +kernel⟩
theorem ok_law (F : FnP K "law" (top 48) f fd) (z_range : mg "range" = none) (z_len : mg "len" = none) (z_max : mg "max" = none) {k_InvalidNumber : Addr} (c__law_spool_of : CalD P w K mg base 1 "_law_spool_of" ["script"] p__law_spool_of) (c__law_drawn_ratio : CalD P w K mg base 5 "_law_drawn_ratio" ["spool"] p__law_drawn_ratio) (c_expansion : CalD P w K mg base 5 "expansion" ["ratio"] p_expansion) (c_number : CalD P w K mg base 3 "number" ["p", "q", "d", "s"] (p_number k_InvalidNumber)) (c_minus : CalD P w K mg base 4 "minus" ["first", "second"] p_minus) (c_convergents : CalD P w K mg base 6 "convergents" ["ratio", "count"] p_convergents) (c_number_of : CalD P w K mg base 6 "number_of" ["parts"] p_number_of) (c__law_upto : CalD P w K mg base 2 "_law_upto" ["spool", "bound"] p__law_upto) (c_plus : CalD P w K mg base 3 "plus" ["first", "second"] p_plus) (c_over : CalD P w K mg base 4 "over" ["first", "second"] p_over) (c_quotients : CalD P w K mg base 5 "quotients" ["ratio", "count"] p_quotients) (c_quotient_at : CalD P w K mg base 1 "quotient_at" ["parts", "place"] p_quotient_at) : FnD P w K mg base 7 f fd ["script"] p_law := by
  refine FunD.okD F sc_law len_law fun cdv A outer s H E C α QD ED hr hW hp => ?_
  exact body_of (dss_cons (ds_own 1 (dn_callLC 0 (c__law_spool_of.mono (by decide)) hr (da_nil))) (dss_cons (ds_for (passes_of rfl) (di_range1 (by rfl) z_range (da_cons (de_int) (da_nil))) (dg_name 2) (dss_cons (ds_set 3 (de_callLC 1 (c__law_drawn_ratio.mono (by decide)) hr (da_nil))) (dss_cons (ds_set 4 (de_callC (c_expansion.mono (by decide)) hr (da_cons (de_var 3) (da_nil)))) (dss_cons (ds_if ((dw_and (dt_cmp od_lt (de_B1 cd_len z_len (de_ix (de_var 4) (de_int))) (de_int) rfl) (dw_and (dt_cmp od_lt (de_B1 cd_max1 z_max (de_op od_addU (de_tup (da_cons (de_int) (da_nil))) (de_ix (de_var 4) (de_int)))) (de_int) rfl) (dw_and1 (dt_cmp od_ne (de_callC (c_number_of.mono (by decide)) hr (da_cons (de_var 4) (da_nil))) (de_var 3) rfl)))).dt) (dss_one (ds_ret (de_bl))) (dss_nil)) (dss_cons (ds_set 5 (de_callC (c_number.mono (by decide)) hr (da_cons (de_op od_addU (de_int) (de_callLC 1 (c__law_upto.mono (by decide)) hr (da_cons (de_op od_pow (de_int) (de_int)) (da_nil)))) (da_cons (de_int) (da_cons (de_int) (da_cons (de_op od_addU (de_int) (de_callLC 1 (c__law_upto.mono (by decide)) hr (da_cons (de_op od_pow (de_int) (de_int)) (da_nil)))) (da_nil))))))) (dss_cons (ds_if (dt_cmp od_ne (de_callC (c_number_of.mono (by decide)) hr (da_cons (de_callC (c_expansion.mono (by decide)) hr (da_cons (de_var 5) (da_nil))) (da_nil))) (de_var 5) rfl) (dss_one (ds_ret (de_bl))) (dss_nil)) (dss_cons (ds_set 6 (de_op od_addU (de_int) (de_callLC 1 (c__law_upto.mono (by decide)) hr (da_cons (de_int) (da_nil))))) (dss_cons (ds_set 7 (de_callC (c_expansion.mono (by decide)) hr (da_cons (de_callC (c_plus.mono (by decide)) hr (da_cons (de_var 3) (da_cons (de_callC (c_number.mono (by decide)) hr (da_cons (de_var 6) (da_cons (de_int) (da_cons (de_int) (da_cons (de_int) (da_nil)))))) (da_nil)))) (da_nil)))) (dss_cons (ds_set 8 (de_op od_addU (de_new (dn_lst (da_cons (de_op od_addU (de_callC (c_quotient_at.mono (by decide)) hr (da_cons (de_var 4) (da_cons (de_int) (da_nil)))) (de_var 6)) (da_nil)))) (de_new (dn_slice (de_callC (c_quotients.mono (by decide)) hr (da_cons (de_var 3) (da_cons (de_int) (da_nil)))) (do_some (de_int)) (do_none))))) (dss_cons (ds_own 9 (dn_lst (da_nil))) (dss_cons (ds_for (passes_of rfl) (di_range1 (by rfl) z_range (da_cons (de_int) (da_nil))) (dg_name 10) (dss_one (ds_if (dt_cmp od_isNot (de_callC (c_quotient_at.mono (by decide)) hr (da_cons (de_var 7) (da_cons (de_var 10) (da_nil)))) (de_non) rfl) (dss_one (ds_app 9 (de_callC (c_quotient_at.mono (by decide)) hr (da_cons (de_var 7) (da_cons (de_var 10) (da_nil)))))) (dss_nil)))) (dss_cons (ds_if (dt_cmp od_ne (de_var 9) (de_var 8) rfl) (dss_one (ds_ret (de_bl))) (dss_nil)) (dss_cons (ds_if ((dw_and (dt_cmp od_gt (de_callC (c_quotient_at.mono (by decide)) hr (da_cons (de_var 4) (da_cons (de_int) (da_nil)))) (de_int) rfl) (dw_and1 (dt_cmp od_ne (de_var 3) (de_tup (da_cons (de_int) (da_cons (de_int) (da_cons (de_int) (da_cons (de_int) (da_nil)))))) rfl))).dt) (dss_cons (ds_set 11 (de_callC (c_over.mono (by decide)) hr (da_cons (de_tup (da_cons (de_int) (da_cons (de_int) (da_cons (de_int) (da_cons (de_int) (da_nil)))))) (da_cons (de_var 3) (da_nil))))) (dss_one (ds_if (dt_cmp od_ne (de_callC (c_quotients.mono (by decide)) hr (da_cons (de_var 11) (da_cons (de_int) (da_nil)))) (de_op od_addU (de_new (dn_lst (da_cons (de_int) (da_nil)))) (de_callC (c_quotients.mono (by decide)) hr (da_cons (de_var 3) (da_cons (de_int) (da_nil))))) rfl) (dss_one (ds_ret (de_bl))) (dss_nil)))) (dss_nil)) (dss_cons (ds_set 12 (de_callC (c_minus.mono (by decide)) hr (da_cons (de_var 3) (da_cons (de_callC (c_number.mono (by decide)) hr (da_cons (de_callC (c_quotient_at.mono (by decide)) hr (da_cons (de_var 4) (da_cons (de_int) (da_nil)))) (da_cons (de_int) (da_cons (de_int) (da_cons (de_int) (da_nil)))))) (da_nil))))) (dss_cons (ds_if ((dw_and (dt_cmp od_ne (de_slice (de_var 12) (do_none) (do_some (de_int))) (de_tup (da_cons (de_int) (da_cons (de_int) (da_nil)))) rfl) (dw_and1 (dt_cmp od_ne (de_callC (c_quotients.mono (by decide)) hr (da_cons (de_callC (c_over.mono (by decide)) hr (da_cons (de_tup (da_cons (de_int) (da_cons (de_int) (da_cons (de_int) (da_cons (de_int) (da_nil)))))) (da_cons (de_var 12) (da_nil)))) (da_cons (de_int) (da_nil)))) (de_new (dn_slice (de_callC (c_quotients.mono (by decide)) hr (da_cons (de_var 3) (da_cons (de_int) (da_nil)))) (do_some (de_int)) (do_none))) rfl))).dt) (dss_one (ds_ret (de_bl))) (dss_nil)) (dss_cons (ds_set 13 (de_callC (c_convergents.mono (by decide)) hr (da_cons (de_var 3) (da_cons (de_int) (da_nil))))) (dss_one (ds_for (passes_of rfl) (di_range1 (by rfl) z_range (da_cons (de_op od_subU (de_B1 cd_len z_len (de_var 13)) (de_int)) (da_nil))) (dg_name 10) (dss_cons (ds_asg (de_ix (de_var 13) (de_var 10)) (dg_tup (dgs_cons (dg_name 14) (dgs_cons (dg_name 15) (dgs_nil))))) (dss_cons (ds_asg (de_ix (de_var 13) (de_op od_addU (de_var 10) (de_int))) (dg_tup (dgs_cons (dg_name 16) (dgs_cons (dg_name 17) (dgs_nil))))) (dss_cons (ds_set 6 (de_op od_subU (de_op od_mul (de_var 16) (de_var 15)) (de_op od_mul (de_var 17) (de_var 14)))) (dss_one (ds_if (dt_cmp od_ne (de_var 6) (de_op od_subU (de_int) (de_op od_mul (de_int) (de_op od_mod (de_var 10) (de_int)))) rfl) (dss_one (ds_ret (de_bl))) (dss_nil)))))))))))))))))))))))) (dss_one (ds_ret (de_bl))))) (pure_law α QD ED C.W hW hp)
end
abbrev RR : PySem.W.OpenRow := PySem.W.OpenLaw.row PySem.Challenge.rw_twospeeds_k13_whole_expansions
def dd_common_divisor : He.DefD := ⟨("common_divisor", none), "common_divisor", "common_divisor", defArgs (top 9), defBody (top 9), defScope (top 9), [], []⟩
def dd_root_floor : He.DefD := ⟨("root_floor", none), "root_floor", "root_floor", defArgs (top 10), defBody (top 10), defScope (top 10), [], []⟩
def dd_without_squares : He.DefD := ⟨("without_squares", none), "without_squares", "without_squares", defArgs (top 11), defBody (top 11), defScope (top 11), [], []⟩
def dd_lowest : He.DefD := ⟨("lowest", none), "lowest", "lowest", defArgs (top 12), defBody (top 12), defScope (top 12), [], []⟩
def dd_number : He.DefD := ⟨("number", none), "number", "number", defArgs (top 13), defBody (top 13), defScope (top 13), [], []⟩
def dd_root_of : He.DefD := ⟨("root_of", none), "root_of", "root_of", defArgs (top 14), defBody (top 14), defScope (top 14), [], []⟩
def dd_plus : He.DefD := ⟨("plus", none), "plus", "plus", defArgs (top 15), defBody (top 15), defScope (top 15), [], []⟩
def dd_opposite : He.DefD := ⟨("opposite", none), "opposite", "opposite", defArgs (top 16), defBody (top 16), defScope (top 16), [], []⟩
def dd_minus : He.DefD := ⟨("minus", none), "minus", "minus", defArgs (top 17), defBody (top 17), defScope (top 17), [], []⟩
def dd_times : He.DefD := ⟨("times", none), "times", "times", defArgs (top 18), defBody (top 18), defScope (top 18), [], []⟩
def dd_over : He.DefD := ⟨("over", none), "over", "over", defArgs (top 19), defBody (top 19), defScope (top 19), [], []⟩
def dd_floor : He.DefD := ⟨("floor", none), "floor", "floor", defArgs (top 20), defBody (top 20), defScope (top 20), [], []⟩
def dd_whole : He.DefD := ⟨("whole", none), "whole", "whole", defArgs (top 23), defBody (top 23), defScope (top 23), [], []⟩
def dd_expansion : He.DefD := ⟨("expansion", none), "expansion", "expansion", defArgs (top 24), defBody (top 24), defScope (top 24), [], []⟩
def dd_quotient_at : He.DefD := ⟨("quotient_at", none), "quotient_at", "quotient_at", defArgs (top 25), defBody (top 25), defScope (top 25), [], []⟩
def dd_quotients : He.DefD := ⟨("quotients", none), "quotients", "quotients", defArgs (top 26), defBody (top 26), defScope (top 26), [], []⟩
def dd_continued : He.DefD := ⟨("continued", none), "continued", "continued", defArgs (top 27), defBody (top 27), defScope (top 27), [], []⟩
def dd_number_of : He.DefD := ⟨("number_of", none), "number_of", "number_of", defArgs (top 28), defBody (top 28), defScope (top 28), [], []⟩
def dd_convergents : He.DefD := ⟨("convergents", none), "convergents", "convergents", defArgs (top 29), defBody (top 29), defScope (top 29), [], []⟩
def dd__law_stirred : He.DefD := ⟨("_law_stirred", none), "_law_stirred", "_law_stirred", defArgs (top 31), defBody (top 31), defScope (top 31), [], []⟩
def dd__law_spool_of : He.DefD := ⟨("_law_spool_of", none), "_law_spool_of", "_law_spool_of", defArgs (top 32), defBody (top 32), defScope (top 32), [], []⟩
def dd__law_upto : He.DefD := ⟨("_law_upto", none), "_law_upto", "_law_upto", defArgs (top 33), defBody (top 33), defScope (top 33), [], []⟩
def dd__law_choice : He.DefD := ⟨("_law_choice", none), "_law_choice", "_law_choice", defArgs (top 34), defBody (top 34), defScope (top 34), [], []⟩
def dd__law_common : He.DefD := ⟨("_law_common", none), "_law_common", "_law_common", defArgs (top 35), defBody (top 35), defScope (top 35), [], []⟩
def dd__law_square_root : He.DefD := ⟨("_law_square_root", none), "_law_square_root", "_law_square_root", defArgs (top 36), defBody (top 36), defScope (top 36), [], []⟩
def dd__law_lowest : He.DefD := ⟨("_law_lowest", none), "_law_lowest", "_law_lowest", defArgs (top 37), defBody (top 37), defScope (top 37), [], []⟩
def dd__law_negative : He.DefD := ⟨("_law_negative", none), "_law_negative", "_law_negative", defArgs (top 39), defBody (top 39), defScope (top 39), [], []⟩
def dd__law_scaled : He.DefD := ⟨("_law_scaled", none), "_law_scaled", "_law_scaled", defArgs (top 42), defBody (top 42), defScope (top 42), [], []⟩
def dd__law_sign_of : He.DefD := ⟨("_law_sign_of", none), "_law_sign_of", "_law_sign_of", defArgs (top 43), defBody (top 43), defScope (top 43), [], []⟩
def dd__law_drawn : He.DefD := ⟨("_law_drawn", none), "_law_drawn", "_law_drawn", defArgs (top 45), defBody (top 45), defScope (top 45), [], []⟩
def dd__law_drawn_ratio : He.DefD := ⟨("_law_drawn_ratio", none), "_law_drawn_ratio", "_law_drawn_ratio", defArgs (top 46), defBody (top 46), defScope (top 46), [], []⟩
def dd_law : He.DefD := ⟨("law", none), "law", "law", defArgs (top 48), defBody (top 48), defScope (top 48), [], []⟩
def fn : List He.DefD := [dd_common_divisor, dd_root_floor, dd_without_squares, dd_lowest, dd_number, dd_root_of, dd_plus, dd_opposite, dd_minus, dd_times, dd_over, dd_floor, dd_whole, dd_expansion, dd_quotient_at, dd_quotients, dd_continued, dd_number_of, dd_convergents, dd__law_stirred, dd__law_spool_of, dd__law_upto, dd__law_choice, dd__law_common, dd__law_square_root, dd__law_lowest, dd__law_negative, dd__law_scaled, dd__law_sign_of, dd__law_drawn, dd__law_drawn_ratio, dd_law]
def fa : List He.Fa := [.glo "common_divisor", .glo "root_floor", .glo "without_squares", .glo "lowest", .glo "number", .glo "root_of", .glo "plus", .glo "opposite", .glo "minus", .glo "times", .glo "over", .glo "floor", .glo "whole", .glo "expansion", .glo "quotient_at", .glo "quotients", .glo "continued", .glo "number_of", .glo "convergents", .glo "_law_stirred", .glo "_law_spool_of", .glo "_law_upto", .glo "_law_choice", .glo "_law_common", .glo "_law_square_root", .glo "_law_lowest", .glo "_law_negative", .glo "_law_scaled", .glo "_law_sign_of", .glo "_law_drawn", .glo "_law_drawn_ratio", .glo "law", .free "abs", .glo "InvalidNumber", .exc "InvalidNumber", .free "max", .glo "OtherRoot", .exc "OtherRoot", .glo "ZeroDivisor", .exc "ZeroDivisor", .glo "ZERO", .free "len", .free "tuple", .int "MAX_QUOTIENTS" 400, .glo "ONE", .free "list", .free "range", .free "enumerate"]
def ex (K : PySem.W.Frag) : Bool := He.tupB K "ZERO" [.int 0, .int 0, .int 0, .int 1] && (He.tupB K "ONE" [.int 1, .int 0, .int 0, .int 1])
abbrev hk : PySem.W.Hook := He.hookX 5 fa fn [] [] ex
def ob (s : PySem.W.SharedT) : He.AlX := He.obsX 5 fa fn [] [] ex (HandSHeadRun.getT s)
theorem ob_eq (s : PySem.W.SharedT) : ob s = hk.obs s.abs := He.obsX_eq (HandSHeadRun.getT_eq s)
def loose : List Str := (["TwoSpeedsError", "InvalidNumber", "ZeroDivisor", "OtherRoot", "TooMany", "ZERO", "ONE", "MAX_QUOTIENTS", "common_divisor", "root_floor", "without_squares", "lowest", "number", "root_of", "plus", "opposite", "minus", "times", "over", "floor", "whole", "expansion", "quotient_at", "quotients", "continued", "number_of", "convergents", "_law_stirred", "_law_spool_of", "_law_upto"] : List Str) ++ (["_law_choice", "_law_common", "_law_square_root", "_law_lowest", "_law_add", "_law_negative", "_law_multiply", "_law_inverse", "_law_scaled", "_law_sign_of", "_law_whole_part", "_law_drawn", "_law_drawn_ratio", "_law_rooted_ratio"] : List Str)
theorem run (w : World) : HandSHeadRun.RunEq RR (PySem.W.view RR.prog [48]) hk ob 4000 loose w := by
  intro os
  kernel_rfl
theorem facts {P : Program} {w : World} {K : PySem.W.Frag} {h : Heap} {mg : Str → Option Value} {f : Addr} (X : K.In h) (G : h.Ns mainGlobals mg) (hfa : mg ("law" : Str) = some (.ref f)) (c : He.SaysX fa fn [] [] ex w h K) :
    ∃ fd : FuncData, (∀ (s : Shared) (v : Value), BindsTo s fd ⟨[v], []⟩ [("script", v)]) ∧ ∀ base : Heap, K.In base → base.Ns mainGlobals mg → FnD P w K mg base 7 f fd ["script"] lawSp := by
  have z_abs := He.free_ok X G (c.t.d.fact 32 (f := .free "abs") rfl)
  have z_max := He.free_ok X G (c.t.d.fact 35 (f := .free "max") rfl)
  have z_len := He.free_ok X G (c.t.d.fact 41 (f := .free "len") rfl)
  have z_tuple := He.free_ok X G (c.t.d.fact 42 (f := .free "tuple") rfl)
  have z_list := He.free_ok X G (c.t.d.fact 45 (f := .free "list") rfl)
  have z_range := He.free_ok X G (c.t.d.fact 46 (f := .free "range") rfl)
  have z_enumerate := He.free_ok X G (c.t.d.fact 47 (f := .free "enumerate") rfl)
  have x_InvalidNumber : ExcD K mg "InvalidNumber" (He.ga K "InvalidNumber") := by
    obtain ⟨h1, h2, h3, h4⟩ := He.exc_ok (c.t.d.fact 34 (f := .exc "InvalidNumber") rfl)
    exact ⟨h1, He.glo_ok X G (c.t.d.fact 33 (f := .glo "InvalidNumber") rfl), h2, h3, h4⟩
  have x_OtherRoot : ExcD K mg "OtherRoot" (He.ga K "OtherRoot") := by
    obtain ⟨h1, h2, h3, h4⟩ := He.exc_ok (c.t.d.fact 37 (f := .exc "OtherRoot") rfl)
    exact ⟨h1, He.glo_ok X G (c.t.d.fact 36 (f := .glo "OtherRoot") rfl), h2, h3, h4⟩
  have x_ZeroDivisor : ExcD K mg "ZeroDivisor" (He.ga K "ZeroDivisor") := by
    obtain ⟨h1, h2, h3, h4⟩ := He.exc_ok (c.t.d.fact 39 (f := .exc "ZeroDivisor") rfl)
    exact ⟨h1, He.glo_ok X G (c.t.d.fact 38 (f := .glo "ZeroDivisor") rfl), h2, h3, h4⟩
  have g_ZERO : mg "ZERO" = some (.ref (He.ga K "ZERO")) ∧ (∀ H : Hp, SqT K H (He.ga K "ZERO") v_ZERO) ∧ ∀ G, Reps K G v_ZERO l_ZERO := ⟨He.glo_ok X G (c.t.d.fact 40 (f := .glo "ZERO") rfl), fun H => He.tupB_ok (x := "ZERO") (vs := [.int 0, .int 0, .int 0, .int 1]) (He.ba c.more).1 H, rep_ZERO K⟩
  have g_ONE : mg "ONE" = some (.ref (He.ga K "ONE")) ∧ (∀ H : Hp, SqT K H (He.ga K "ONE") v_ONE) ∧ ∀ G, Reps K G v_ONE l_ONE := ⟨He.glo_ok X G (c.t.d.fact 44 (f := .glo "ONE") rfl), fun H => He.tupB_ok (x := "ONE") (vs := [.int 1, .int 0, .int 0, .int 1]) (He.ba c.more).2 H, rep_ONE K⟩
  have g_MAX_QUOTIENTS := He.int_ok X G (c.t.d.fact 43 (f := .int "MAX_QUOTIENTS" 400) rfl)
  obtain ⟨fd_common_divisor, F_common_divisor⟩ := c.t.d.def_ 0 (d := dd_common_divisor) rfl
  obtain ⟨fd_root_floor, F_root_floor⟩ := c.t.d.def_ 1 (d := dd_root_floor) rfl
  obtain ⟨fd_without_squares, F_without_squares⟩ := c.t.d.def_ 2 (d := dd_without_squares) rfl
  obtain ⟨fd_lowest, F_lowest⟩ := c.t.d.def_ 3 (d := dd_lowest) rfl
  obtain ⟨fd_number, F_number⟩ := c.t.d.def_ 4 (d := dd_number) rfl
  obtain ⟨fd_root_of, F_root_of⟩ := c.t.d.def_ 5 (d := dd_root_of) rfl
  obtain ⟨fd_plus, F_plus⟩ := c.t.d.def_ 6 (d := dd_plus) rfl
  obtain ⟨fd_opposite, F_opposite⟩ := c.t.d.def_ 7 (d := dd_opposite) rfl
  obtain ⟨fd_minus, F_minus⟩ := c.t.d.def_ 8 (d := dd_minus) rfl
  obtain ⟨fd_times, F_times⟩ := c.t.d.def_ 9 (d := dd_times) rfl
  obtain ⟨fd_over, F_over⟩ := c.t.d.def_ 10 (d := dd_over) rfl
  obtain ⟨fd_floor, F_floor⟩ := c.t.d.def_ 11 (d := dd_floor) rfl
  obtain ⟨fd_whole, F_whole⟩ := c.t.d.def_ 12 (d := dd_whole) rfl
  obtain ⟨fd_expansion, F_expansion⟩ := c.t.d.def_ 13 (d := dd_expansion) rfl
  obtain ⟨fd_quotient_at, F_quotient_at⟩ := c.t.d.def_ 14 (d := dd_quotient_at) rfl
  obtain ⟨fd_quotients, F_quotients⟩ := c.t.d.def_ 15 (d := dd_quotients) rfl
  obtain ⟨fd_continued, F_continued⟩ := c.t.d.def_ 16 (d := dd_continued) rfl
  obtain ⟨fd_number_of, F_number_of⟩ := c.t.d.def_ 17 (d := dd_number_of) rfl
  obtain ⟨fd_convergents, F_convergents⟩ := c.t.d.def_ 18 (d := dd_convergents) rfl
  obtain ⟨fd__law_stirred, F__law_stirred⟩ := c.t.d.def_ 19 (d := dd__law_stirred) rfl
  obtain ⟨fd__law_spool_of, F__law_spool_of⟩ := c.t.d.def_ 20 (d := dd__law_spool_of) rfl
  obtain ⟨fd__law_upto, F__law_upto⟩ := c.t.d.def_ 21 (d := dd__law_upto) rfl
  obtain ⟨fd__law_choice, F__law_choice⟩ := c.t.d.def_ 22 (d := dd__law_choice) rfl
  obtain ⟨fd__law_common, F__law_common⟩ := c.t.d.def_ 23 (d := dd__law_common) rfl
  obtain ⟨fd__law_square_root, F__law_square_root⟩ := c.t.d.def_ 24 (d := dd__law_square_root) rfl
  obtain ⟨fd__law_lowest, F__law_lowest⟩ := c.t.d.def_ 25 (d := dd__law_lowest) rfl
  obtain ⟨fd__law_negative, F__law_negative⟩ := c.t.d.def_ 26 (d := dd__law_negative) rfl
  obtain ⟨fd__law_scaled, F__law_scaled⟩ := c.t.d.def_ 27 (d := dd__law_scaled) rfl
  obtain ⟨fd__law_sign_of, F__law_sign_of⟩ := c.t.d.def_ 28 (d := dd__law_sign_of) rfl
  obtain ⟨fd__law_drawn, F__law_drawn⟩ := c.t.d.def_ 29 (d := dd__law_drawn) rfl
  obtain ⟨fd__law_drawn_ratio, F__law_drawn_ratio⟩ := c.t.d.def_ 30 (d := dd__law_drawn_ratio) rfl
  obtain ⟨fd_law, F_law⟩ := c.t.d.def_ 31 (d := dd_law) rfl
  have c_common_divisor : ∀ base : Heap, CalD P w K mg base 1 "common_divisor" ["first", "second"] p_common_divisor := fun base => ⟨⟨_, fd_common_divisor, ok_common_divisor F_common_divisor z_abs, He.glo_ok X G (c.t.d.fact 0 (f := .glo "common_divisor") rfl), F_common_divisor.kp, F_common_divisor.bindsN fun _ _ _ _ _ _ us hl => match us, hl with | [_, _], _ => rfl⟩⟩
  have c_root_floor : ∀ base : Heap, CalD P w K mg base 1 "root_floor" ["number"] p_root_floor := fun base => ⟨⟨_, fd_root_floor, ok_root_floor F_root_floor, He.glo_ok X G (c.t.d.fact 1 (f := .glo "root_floor") rfl), F_root_floor.kp, F_root_floor.bindsN fun _ _ _ _ _ _ us hl => match us, hl with | [_], _ => rfl⟩⟩
  have c_without_squares : ∀ base : Heap, CalD P w K mg base 1 "without_squares" ["number"] p_without_squares := fun base => ⟨⟨_, fd_without_squares, ok_without_squares F_without_squares, He.glo_ok X G (c.t.d.fact 2 (f := .glo "without_squares") rfl), F_without_squares.kp, F_without_squares.bindsN fun _ _ _ _ _ _ us hl => match us, hl with | [_], _ => rfl⟩⟩
  have c_lowest : ∀ base : Heap, CalD P w K mg base 2 "lowest" ["p", "q", "d", "s"] p_lowest := fun base => ⟨⟨_, fd_lowest, ok_lowest F_lowest (c_common_divisor base), He.glo_ok X G (c.t.d.fact 3 (f := .glo "lowest") rfl), F_lowest.kp, F_lowest.bindsN fun _ _ _ _ _ _ us hl => match us, hl with | [_, _, _, _], _ => rfl⟩⟩
  have c_number : ∀ base : Heap, CalD P w K mg base 3 "number" ["p", "q", "d", "s"] (p_number (He.ga K "InvalidNumber")) := fun base => ⟨⟨_, fd_number, ok_number F_number x_InvalidNumber (c_lowest base) (c_without_squares base), He.glo_ok X G (c.t.d.fact 4 (f := .glo "number") rfl), F_number.kp, F_number.bindsN fun _ _ _ _ _ _ us hl => match us, hl with | [_, _, _, _], _ => rfl⟩⟩
  have c_root_of : ∀ base : Heap, CalD P w K mg base 1 "root_of" ["first", "second"] p_root_of := fun base => ⟨⟨_, fd_root_of, ok_root_of F_root_of z_max x_OtherRoot, He.glo_ok X G (c.t.d.fact 5 (f := .glo "root_of") rfl), F_root_of.kp, F_root_of.bindsN fun _ _ _ _ _ _ us hl => match us, hl with | [_, _], _ => rfl⟩⟩
  have c_plus : ∀ base : Heap, CalD P w K mg base 3 "plus" ["first", "second"] p_plus := fun base => ⟨⟨_, fd_plus, ok_plus F_plus (c_root_of base) (c_lowest base), He.glo_ok X G (c.t.d.fact 6 (f := .glo "plus") rfl), F_plus.kp, F_plus.bindsN fun _ _ _ _ _ _ us hl => match us, hl with | [_, _], _ => rfl⟩⟩
  have c_opposite : ∀ base : Heap, CalD P w K mg base 1 "opposite" ["one"] p_opposite := fun base => ⟨⟨_, fd_opposite, ok_opposite F_opposite, He.glo_ok X G (c.t.d.fact 7 (f := .glo "opposite") rfl), F_opposite.kp, F_opposite.bindsN fun _ _ _ _ _ _ us hl => match us, hl with | [_], _ => rfl⟩⟩
  have c_minus : ∀ base : Heap, CalD P w K mg base 4 "minus" ["first", "second"] p_minus := fun base => ⟨⟨_, fd_minus, ok_minus F_minus (c_plus base) (c_opposite base), He.glo_ok X G (c.t.d.fact 8 (f := .glo "minus") rfl), F_minus.kp, F_minus.bindsN fun _ _ _ _ _ _ us hl => match us, hl with | [_, _], _ => rfl⟩⟩
  have c_times : ∀ base : Heap, CalD P w K mg base 3 "times" ["first", "second"] p_times := fun base => ⟨⟨_, fd_times, ok_times F_times (c_root_of base) (c_lowest base), He.glo_ok X G (c.t.d.fact 9 (f := .glo "times") rfl), F_times.kp, F_times.bindsN fun _ _ _ _ _ _ us hl => match us, hl with | [_, _], _ => rfl⟩⟩
  have c_over : ∀ base : Heap, CalD P w K mg base 4 "over" ["first", "second"] p_over := fun base => ⟨⟨_, fd_over, ok_over F_over g_ZERO x_ZeroDivisor (c_times base) (c_lowest base), He.glo_ok X G (c.t.d.fact 10 (f := .glo "over") rfl), F_over.kp, F_over.bindsN fun _ _ _ _ _ _ us hl => match us, hl with | [_, _], _ => rfl⟩⟩
  have c_floor : ∀ base : Heap, CalD P w K mg base 2 "floor" ["one"] p_floor := fun base => ⟨⟨_, fd_floor, ok_floor F_floor (c_root_floor base), He.glo_ok X G (c.t.d.fact 11 (f := .glo "floor") rfl), F_floor.kp, F_floor.bindsN fun _ _ _ _ _ _ us hl => match us, hl with | [_], _ => rfl⟩⟩
  have c_whole : ∀ base : Heap, CalD P w K mg base 1 "whole" ["value"] p_whole := fun base => ⟨⟨_, fd_whole, ok_whole F_whole, He.glo_ok X G (c.t.d.fact 12 (f := .glo "whole") rfl), F_whole.kp, F_whole.bindsN fun _ _ _ _ _ _ us hl => match us, hl with | [_], _ => rfl⟩⟩
  have c_expansion : ∀ base : Heap, CalD P w K mg base 5 "expansion" ["ratio"] p_expansion := fun base => ⟨⟨_, fd_expansion, ok_expansion F_expansion z_len z_tuple g_MAX_QUOTIENTS g_ZERO g_ONE (c_minus base) (c_over base) (c_floor base) (c_whole base), He.glo_ok X G (c.t.d.fact 13 (f := .glo "expansion") rfl), F_expansion.kp, F_expansion.bindsN fun _ _ _ _ _ _ us hl => match us, hl with | [_], _ => rfl⟩⟩
  have c_quotient_at : ∀ base : Heap, CalD P w K mg base 1 "quotient_at" ["parts", "place"] p_quotient_at := fun base => ⟨⟨_, fd_quotient_at, ok_quotient_at F_quotient_at z_len, He.glo_ok X G (c.t.d.fact 14 (f := .glo "quotient_at") rfl), F_quotient_at.kp, F_quotient_at.bindsN fun _ _ _ _ _ _ us hl => match us, hl with | [_, _], _ => rfl⟩⟩
  have c_quotients : ∀ base : Heap, CalD P w K mg base 5 "quotients" ["ratio", "count"] p_quotients := fun base => ⟨⟨_, fd_quotients, ok_quotients F_quotients z_len g_ZERO g_ONE (c_minus base) (c_floor base) (c_whole base) (c_over base), He.glo_ok X G (c.t.d.fact 15 (f := .glo "quotients") rfl), F_quotients.kp, F_quotients.bindsN fun _ _ _ _ _ _ us hl => match us, hl with | [_, _], _ => rfl⟩⟩
  have c_continued : ∀ base : Heap, CalD P w K mg base 5 "continued" ["first", "last"] p_continued := fun base => ⟨⟨_, fd_continued, ok_continued F_continued z_list g_ONE (c_plus base) (c_whole base) (c_over base), He.glo_ok X G (c.t.d.fact 16 (f := .glo "continued") rfl), F_continued.kp, F_continued.bindsN fun _ _ _ _ _ _ us hl => match us, hl with | [_, _], _ => rfl⟩⟩
  have c_number_of : ∀ base : Heap, CalD P w K mg base 6 "number_of" ["parts"] p_number_of := fun base => ⟨⟨_, fd_number_of, ok_number_of F_number_of (c_common_divisor base) (c_continued base) (c_number base) (c_whole base), He.glo_ok X G (c.t.d.fact 17 (f := .glo "number_of") rfl), F_number_of.kp, F_number_of.bindsN fun _ _ _ _ _ _ us hl => match us, hl with | [_], _ => rfl⟩⟩
  have c_convergents : ∀ base : Heap, CalD P w K mg base 6 "convergents" ["ratio", "count"] p_convergents := fun base => ⟨⟨_, fd_convergents, ok_convergents F_convergents (c_quotients base), He.glo_ok X G (c.t.d.fact 18 (f := .glo "convergents") rfl), F_convergents.kp, F_convergents.bindsN fun _ _ _ _ _ _ us hl => match us, hl with | [_, _], _ => rfl⟩⟩
  have c__law_stirred : ∀ base : Heap, CalD P w K mg base 1 "_law_stirred" ["cell", "place"] p__law_stirred := fun base => ⟨⟨_, fd__law_stirred, ok__law_stirred F__law_stirred z_range, He.glo_ok X G (c.t.d.fact 19 (f := .glo "_law_stirred") rfl), F__law_stirred.kp, F__law_stirred.bindsN fun _ _ _ _ _ _ us hl => match us, hl with | [_, _], _ => rfl⟩⟩
  have c__law_spool_of : ∀ base : Heap, CalD P w K mg base 1 "_law_spool_of" ["script"] p__law_spool_of := fun base => ⟨⟨_, fd__law_spool_of, ok__law_spool_of F__law_spool_of z_enumerate z_abs, He.glo_ok X G (c.t.d.fact 20 (f := .glo "_law_spool_of") rfl), F__law_spool_of.kp, F__law_spool_of.bindsN fun _ _ _ _ _ _ us hl => match us, hl with | [_], _ => rfl⟩⟩
  have c__law_upto : ∀ base : Heap, CalD P w K mg base 2 "_law_upto" ["spool", "bound"] p__law_upto := fun base => ⟨⟨_, fd__law_upto, ok__law_upto F__law_upto z_len (c__law_stirred base), He.glo_ok X G (c.t.d.fact 21 (f := .glo "_law_upto") rfl), F__law_upto.kp, F__law_upto.bindsN fun _ _ _ _ _ _ us hl => match us, hl with | [_, _], _ => rfl⟩⟩
  have c__law_choice : ∀ base : Heap, CalD P w K mg base 3 "_law_choice" ["spool", "items"] p__law_choice := fun base => ⟨⟨_, fd__law_choice, ok__law_choice F__law_choice z_len (c__law_upto base), He.glo_ok X G (c.t.d.fact 22 (f := .glo "_law_choice") rfl), F__law_choice.kp, F__law_choice.bindsN fun _ _ _ _ _ _ us hl => match us, hl with | [_, _], _ => rfl⟩⟩
  have c__law_common : ∀ base : Heap, CalD P w K mg base 1 "_law_common" ["one", "other"] p__law_common := fun base => ⟨⟨_, fd__law_common, ok__law_common F__law_common z_abs, He.glo_ok X G (c.t.d.fact 23 (f := .glo "_law_common") rfl), F__law_common.kp, F__law_common.bindsN fun _ _ _ _ _ _ us hl => match us, hl with | [_, _], _ => rfl⟩⟩
  have c__law_square_root : ∀ base : Heap, CalD P w K mg base 1 "_law_square_root" ["value"] p__law_square_root := fun base => ⟨⟨_, fd__law_square_root, ok__law_square_root F__law_square_root, He.glo_ok X G (c.t.d.fact 24 (f := .glo "_law_square_root") rfl), F__law_square_root.kp, F__law_square_root.bindsN fun _ _ _ _ _ _ us hl => match us, hl with | [_], _ => rfl⟩⟩
  have c__law_lowest : ∀ base : Heap, CalD P w K mg base 2 "_law_lowest" ["p", "q", "d", "s"] p__law_lowest := fun base => ⟨⟨_, fd__law_lowest, ok__law_lowest F__law_lowest (c__law_common base), He.glo_ok X G (c.t.d.fact 25 (f := .glo "_law_lowest") rfl), F__law_lowest.kp, F__law_lowest.bindsN fun _ _ _ _ _ _ us hl => match us, hl with | [_, _, _, _], _ => rfl⟩⟩
  have c__law_negative : ∀ base : Heap, CalD P w K mg base 1 "_law_negative" ["one"] p__law_negative := fun base => ⟨⟨_, fd__law_negative, ok__law_negative F__law_negative, He.glo_ok X G (c.t.d.fact 26 (f := .glo "_law_negative") rfl), F__law_negative.kp, F__law_negative.bindsN fun _ _ _ _ _ _ us hl => match us, hl with | [_], _ => rfl⟩⟩
  have c__law_scaled : ∀ base : Heap, CalD P w K mg base 2 "_law_scaled" ["one", "places"] p__law_scaled := fun base => ⟨⟨_, fd__law_scaled, ok__law_scaled F__law_scaled z_range (c__law_square_root base), He.glo_ok X G (c.t.d.fact 27 (f := .glo "_law_scaled") rfl), F__law_scaled.kp, F__law_scaled.bindsN fun _ _ _ _ _ _ us hl => match us, hl with | [_, _], _ => rfl⟩⟩
  have c__law_sign_of : ∀ base : Heap, CalD P w K mg base 3 "_law_sign_of" ["one"] p__law_sign_of := fun base => ⟨⟨_, fd__law_sign_of, ok__law_sign_of F__law_sign_of z_abs (c__law_scaled base), He.glo_ok X G (c.t.d.fact 28 (f := .glo "_law_sign_of") rfl), F__law_sign_of.kp, F__law_sign_of.bindsN fun _ _ _ _ _ _ us hl => match us, hl with | [_], _ => rfl⟩⟩
  have c__law_drawn : ∀ base : Heap, CalD P w K mg base 4 "_law_drawn" ["spool", "d", "size"] p__law_drawn := fun base => ⟨⟨_, fd__law_drawn, ok__law_drawn F__law_drawn (c__law_lowest base) (c__law_upto base) (c__law_choice base), He.glo_ok X G (c.t.d.fact 29 (f := .glo "_law_drawn") rfl), F__law_drawn.kp, F__law_drawn.bindsN fun _ _ _ _ _ _ us hl => match us, hl with | [_, _, _], _ => rfl⟩⟩
  have c__law_drawn_ratio : ∀ base : Heap, CalD P w K mg base 5 "_law_drawn_ratio" ["spool"] p__law_drawn_ratio := fun base => ⟨⟨_, fd__law_drawn_ratio, ok__law_drawn_ratio F__law_drawn_ratio (c__law_choice base) (c__law_drawn base) (c__law_sign_of base) (c__law_negative base), He.glo_ok X G (c.t.d.fact 30 (f := .glo "_law_drawn_ratio") rfl), F__law_drawn_ratio.kp, F__law_drawn_ratio.bindsN fun _ _ _ _ _ _ us hl => match us, hl with | [_], _ => rfl⟩⟩
  have e := hfa.symm.trans (He.glo_ok X G (c.t.d.fact 31 (f := .glo "law") rfl))
  cases e
  have b := L2.FunD.bindsA (ps := ["script"]) F_law fun _ _ _ _ _ _ us hl => match us, hl with | [_], _ => rfl
  exact ⟨fd_law, fun s v => b s [v] rfl, fun base _ _ => ok_law F_law z_range z_len z_max (c__law_spool_of base) (c__law_drawn_ratio base) (c_expansion base) (c_number base) (c_minus base) (c_convergents base) (c_number_of base) (c__law_upto base) (c_plus base) (c_over base) (c_quotients base) (c_quotient_at base)⟩
end KK
open PySem PySem.W PySem.Calls PyProof.Rows
theorem PySem.Challenge.cw_twospeeds_k13_whole_expansions_holds : PySem.Challenge.rw_twospeeds_k13_whole_expansions.Holds := by
  w_on; o_law
  refine HandSHeadRun.head_any (r := OpenLaw.row PySem.Challenge.rw_twospeeds_k13_whole_expansions) (q := view (OpenLaw.row PySem.Challenge.rw_twospeeds_k13_whole_expansions).prog [48]) (H := KK.hk) (ob := KK.ob) (M := 4000) (loose := KK.loose) (d := HandSHeadRun.topDef (OpenLaw.row PySem.Challenge.rw_twospeeds_k13_whole_expansions).prog 48) (kwd := []) KK.ob_eq
    (by kernel_rfl) (fun s => by kernel_rfl) KK.run (by kernel_rfl) (by kernel_rfl) (by kernel_rfl) (by rfl) (by first | assumption | decide +kernel) (by decide +kernel) ⟨rfl, rfl, rfl, rfl, rfl, by decide +kernel⟩ ?hw ?hc
  case hw => w_witness2
  case hc =>
    refine DL.walkD (l := PySem.Challenge.rw_twospeeds_k13_whole_expansions) (k := 7) (x := "script") rfl (by kernel_rfl) ⟨rfl, by decide, by decide⟩ ?F
    intro w mg fa h Y G hmg0
    obtain ⟨K, KX, c⟩ := Y
    have hmg : mg ("law" : PySem.Str) = some (.ref fa) := by
      have e : (HandSHeadRun.topDef (OpenLaw.row PySem.Challenge.rw_twospeeds_k13_whole_expansions).prog 48).name = ("law" : PySem.Str) := by kernel_rfl
      rw [← e]
      exact hmg0
    obtain ⟨fd, hb, hF⟩ := KK.facts (P := (PySem.Challenge.rw_twospeeds_k13_whole_expansions).prog) (w := w) KX G hmg c
    exact ⟨K, fd, KX, hb, hF⟩
