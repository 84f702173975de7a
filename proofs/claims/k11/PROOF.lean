import PyProof.Rows.All
import HandS.ForMost
import HandS.ForExc
import HandS.Walk
import HandS.Wide
import HandS.Deep
import HandS.TupAny
import HandS.IsInst
import HandS.Style
import HandS.RaiseMore
import HandS.TupMul
import PyProof.ReprRoads
import HandS.EndBits
import HandS.HeadEnd
import HandS.Head0
import HandS.Head1
import HandS.Head2
import HandS.HeadHook1
import HandS.HeadHook2
import HandS.Defaults
import HandS.HeadHook3
import HandS.HeadHook4
import HandS.ExcIs
import KE.DataFind
import PyProof.Rows.Digits
import PyProof.Rows.StrOr
import HandS.Head4
import PySem.Challenge.RW_twospeeds_k11_ratios_of_expansions
set_option Elab.async false
set_option linter.all false
set_option maxRecDepth 100000
section
set_option maxHeartbeats 4000000
/-! DLA: slots that hold data (PyData), lists that a frame owns, the state of both. -/
namespace DL
open PySem PySem.Spec L2

def keyD : Key → PyData
  | .inl i => .int i
  | .inr x => .str x
mutual
/-- a value is a datum, all of it in what stays -/
inductive Rep (K : PySem.W.Frag) (G : Hp) : V → PyData → Prop
  | non : Rep K G .non .none
  | bl (b : Bool) : Rep K G (.bl b) (.bool b)
  | int (i : Int) : Rep K G (.int i) (.int i)
  | str (x : Str) : Rep K G (.str x) (.str x)
  | lst {a : Addr} {xs : List V} {ds : List PyData} : G a = some (.lst xs) → Reps K G xs ds → Rep K G (.ref a) (.list ds)
  | tup {a : Addr} {xs : List V} {ds : List PyData} : SqT K G a xs → Reps K G xs ds → Rep K G (.ref a) (.tuple ds)
  | dic {a : Addr} {kvs : List (Key × V)} {es : List (PyData × PyData)} : G a = some (.dK kvs) → RepKV K G kvs es → Rep K G (.ref a) (.dict es)
inductive Reps (K : PySem.W.Frag) (G : Hp) : List V → List PyData → Prop
  | nil : Reps K G [] []
  | cons {v : V} {vs : List V} {d : PyData} {ds : List PyData} : Rep K G v d → Reps K G vs ds → Reps K G (v :: vs) (d :: ds)
inductive RepKV (K : PySem.W.Frag) (G : Hp) : List (Key × V) → List (PyData × PyData) → Prop
  | nil : RepKV K G [] []
  | cons {k : Key} {v : V} {kvs : List (Key × V)} {d : PyData} {es : List (PyData × PyData)} : Rep K G v d → RepKV K G kvs es → RepKV K G ((k, v) :: kvs) ((keyD k, d) :: es)
end

theorem rd_mono {G G' : Hp} (s : Same G G') {a : Addr} {u : HO} (h : Rd G a u) : Rd G' a u := by
  rcases h with h | ⟨o, h⟩
  · exact Or.inl (s _ _ h)
  · exact Or.inr ⟨o, s _ _ h⟩
theorem sqt_mono {K : PySem.W.Frag} {G G' : Hp} (s : Same G G') {a : Addr} {xs : List V} (h : SqT K G a xs) : SqT K G' a xs := by
  rcases h with h | h
  · exact Or.inl (rd_mono s h)
  · exact Or.inr h
theorem sql_mono {K : PySem.W.Frag} {G G' : Hp} (s : Same G G') {a : Addr} {xs : List V} (h : SqL K G a xs) : SqL K G' a xs := by
  rcases h with h | h
  · exact Or.inl (rd_mono s h)
  · exact Or.inr h
section
variable {K : PySem.W.Frag} {G G' : Hp}
mutual
theorem rep_mono (s : Same G G') : ∀ (d : PyData) (v : V), Rep K G v d → Rep K G' v d
  | .none, _, h => by cases h; exact .non
  | .bool b, _, h => by cases h; exact .bl b
  | .int i, _, h => by cases h; exact .int i
  | .str x, _, h => by cases h; exact .str x
  | .list ds, _, h => by
    cases h with
    | lst hs ha => exact .lst (s _ _ hs) (reps_mono s ds _ ha)
  | .tuple ds, _, h => by
    cases h with
    | tup hs ha => exact .tup (sqt_mono s hs) (reps_mono s ds _ ha)
  | .dict es, _, h => by
    cases h with
    | dic hs ha => exact .dic (s _ _ hs) (repkv_mono s es _ ha)
theorem reps_mono (s : Same G G') : ∀ (ds : List PyData) (vs : List V), Reps K G vs ds → Reps K G' vs ds
  | [], _, h => by cases h; exact .nil
  | d :: ds, _, h => by
    cases h with
    | cons h1 h2 => exact .cons (rep_mono s d _ h1) (reps_mono s ds _ h2)
theorem repkv_mono (s : Same G G') : ∀ (es : List (PyData × PyData)) (kvs : List (Key × V)), RepKV K G kvs es → RepKV K G' kvs es
  | [], _, h => by cases h; exact .nil
  | (_, d) :: es, _, h => by
    cases h with
    | cons h1 h2 => exact .cons (rep_mono s d _ h1) (repkv_mono s es _ h2)
end
mutual
/-- data without dicts, for the kit's own rules of data -/
theorem Rep.dp : ∀ (d : PyData) (v : V), Rep K G v d → d.hasDict = false → Dp K G v d
  | .none, _, h, _ => by cases h; exact .non
  | .bool b, _, h, _ => by cases h; exact .bl b
  | .int i, _, h, _ => by cases h; exact .int i
  | .str x, _, h, _ => by cases h; exact .str x
  | .list ds, _, h, n => by
    cases h with
    | lst hs ha => exact .lst (SqL.of hs) (Reps.dp ds _ ha (by simpa [PyData.hasDict] using n))
  | .tuple ds, _, h, n => by
    cases h with
    | tup hs ha => exact .tup hs (Reps.dp ds _ ha (by simpa [PyData.hasDict] using n))
  | .dict _, _, _, n => by simp [PyData.hasDict] at n
theorem Reps.dp : ∀ (ds : List PyData) (vs : List V), Reps K G vs ds → PyData.hasDictAll ds = false → DpAll K G vs ds
  | [], _, h, _ => by cases h; exact .nil
  | d :: ds, _, h, n => by
    have n' : (d.hasDict || PyData.hasDictAll ds) = false := by simpa [PyData.hasDictAll] using n
    rw [Bool.or_eq_false_iff] at n'
    cases h with
    | cons h1 h2 => exact .cons (Rep.dp d _ h1 n'.1) (Reps.dp ds _ h2 n'.2)
end
theorem Reps.len : ∀ {vs : List V} {ds : List PyData}, Reps K G vs ds → vs.length = ds.length
  | _, _, .nil => rfl
  | _, _, .cons _ r => congrArg (· + 1) (Reps.len r)
theorem Reps.app : ∀ {vs ws : List V} {ds es : List PyData}, Reps K G vs ds → Reps K G ws es → Reps K G (vs ++ ws) (ds ++ es)
  | _, _, _, _, .nil, s => s
  | _, _, _, _, .cons r t, s => .cons r (Reps.app t s)
theorem Reps.get : ∀ {vs : List V} {ds : List PyData} {i : Nat} {d : PyData}, Reps K G vs ds → ds[i]? = some d → ∃ v, vs[i]? = some v ∧ Rep K G v d
  | _, _, _, _, .nil, e => by simp at e
  | _, _, 0, _, .cons r _, e => by simp at e; subst e; exact ⟨_, rfl, r⟩
  | _, _, i + 1, d, .cons _ t, e => by
    obtain ⟨v, h1, h2⟩ := Reps.get (i := i) (d := d) t (by simpa using e)
    exact ⟨v, by simpa using h1, h2⟩
theorem Reps.get' : ∀ {vs : List V} {ds : List PyData} {i : Nat} {v : V}, Reps K G vs ds → vs[i]? = some v → ∃ d, ds[i]? = some d ∧ Rep K G v d
  | _, _, _, _, .nil, e => by simp at e
  | _, _, 0, _, .cons r _, e => by simp at e; subst e; exact ⟨_, rfl, r⟩
  | _, _, i + 1, v, .cons _ t, e => by
    obtain ⟨d, h1, h2⟩ := Reps.get' (i := i) (v := v) t (by simpa using e)
    exact ⟨d, by simpa using h1, h2⟩
theorem Reps.setAt : ∀ {vs : List V} {ds : List PyData} (i : Nat) {v : V} {d : PyData}, Reps K G vs ds → Rep K G v d → Reps K G (vs.set i v) (ds.set i d)
  | _, _, _, _, _, .nil, _ => .nil
  | _, _, 0, _, _, .cons _ t, r => .cons r t
  | _, _, i + 1, _, _, .cons q t, r => .cons q (Reps.setAt i t r)
theorem Reps.takeN : ∀ {vs : List V} {ds : List PyData} (n : Nat), Reps K G vs ds → Reps K G (vs.take n) (ds.take n)
  | _, _, 0, _ => .nil
  | _, _, _ + 1, .nil => .nil
  | _, _, n + 1, .cons r t => .cons r (Reps.takeN n t)
theorem Reps.dropN : ∀ {vs : List V} {ds : List PyData} (n : Nat), Reps K G vs ds → Reps K G (vs.drop n) (ds.drop n)
  | _, _, 0, r => r
  | _, _, _ + 1, .nil => .nil
  | _, _, n + 1, .cons _ t => Reps.dropN n t
theorem Reps.rev : ∀ {vs : List V} {ds : List PyData}, Reps K G vs ds → Reps K G vs.reverse ds.reverse
  | _, _, .nil => .nil
  | _, _, .cons r t => by
    rw [List.reverse_cons, List.reverse_cons]
    exact Reps.app (Reps.rev t) (.cons r .nil)
theorem reps_ints : ∀ ns : List Int, Reps K G (ns.map V.int) (ns.map PyData.int)
  | [] => .nil
  | n :: ns => .cons (.int n) (reps_ints ns)
theorem reps_ints_inv : ∀ {ns : List Int} {vs : List V}, Reps K G vs (ns.map PyData.int) → vs = ns.map V.int
  | [], _, h => by cases h; rfl
  | n :: ns, _, h => by
    cases h with
    | cons h1 h2 => cases h1; rw [reps_ints_inv h2]; rfl
theorem reps_bools_inv : ∀ {ns : List Bool} {vs : List V}, Reps K G vs (ns.map PyData.bool) → vs = ns.map V.bl
  | [], _, h => by cases h; rfl
  | n :: ns, _, h => by
    cases h with
    | cons h1 h2 => cases h1; rw [reps_bools_inv h2]; rfl
theorem reps_strs_inv : ∀ {ns : List Str} {vs : List V}, Reps K G vs (ns.map PyData.str) → vs = ns.map V.str
  | [], _, h => by cases h; rfl
  | n :: ns, _, h => by
    cases h with
    | cons h1 h2 => cases h1; rw [reps_strs_inv h2]; rfl
end

/-- a thing of one's own kind that a frame owns: what is true of the heap at its addresses -/
structure Res where
  P : PySem.W.Frag → Hp → Hp → Addr → List Addr → Prop
  keep : ∀ {K : PySem.W.Frag} {G H G' H' : Hp} {a : Addr} {fp : List Addr}, Same G G' → (∀ b ∈ fp, ∀ o, H b = some o → H' b = some o) → P K G H a fp → P K G' H' a fp

/-- a slot: nothing; a datum; a list of the frame's own (io: it came in by this parameter and goes out by it); a thing of one's own kind -/
inductive SD where
  | no | val (d : PyData) | own (io : Bool) (ds : List PyData) | res (io : Bool) (r : Res)
abbrev DSt := List SD

/-- the world of a frame: the part of the heap that stays, the heap, each slot's own addresses -/
structure Wd where
  G : Hp
  H : Hp
  F : Nat → List Addr

/-- the values of the parameters as they came; what is new since the entry -/
structure Par where
  σ0 : St
  N : Addr → Prop
/-- a slot and what it holds; v0: the parameter as it came; N: what is new since the entry -/
def slotOk (K : PySem.W.Frag) (v0 : Option (Option V)) (N : Addr → Prop) (w : Wd) (fp : List Addr) (v : Option (Option V)) : SD → Prop
  | .no => fp = []
  | .val d => fp = [] ∧ ∃ u, v = some (some u) ∧ Rep K w.G u d
  | .own io ds => ∃ a vs, v = some (some (.ref a)) ∧ fp = [a] ∧ w.H a = some (.lst vs) ∧ Reps K w.G vs ds ∧ ((io = true → v0 = some (some (.ref a))) ∧ (io = false → N a))
  | .res io r => ∃ a, v = some (some (.ref a)) ∧ r.P K w.G w.H a fp ∧ ((io = true → v0 = some (some (.ref a))) ∧ (io = false → ∀ b ∈ fp, N b))

structure FI (K : PySem.W.Frag) (P : Par) (w : Wd) (σ : St) (ρ : DSt) : Prop where
  gh : Same w.G w.H
  len : σ.length = ρ.length
  ok : ∀ i s, ρ[i]? = some s → slotOk K P.σ0[i]? P.N w (w.F i) σ[i]? s
  out : ∀ i, ρ.length ≤ i → w.F i = []
  foot : ∀ i b, b ∈ w.F i → w.G b = none ∧ w.H b ≠ none
  sep : ∀ i j b, i ≠ j → b ∈ w.F i → b ∉ w.F j

/-- how a world goes on -/
structure Stp (w w' : Wd) : Prop where
  g : Same w.G w'.G
  gf : ∀ b, w.H b ≠ none → w.G b = none → (∀ i, b ∉ w.F i) → w'.G b = none
  h : ∀ b o, w.H b = some o → (∀ i, b ∉ w.F i) → w'.H b = some o
  t : ∀ b, w.H b ≠ none → w'.H b ≠ none
  f : ∀ i b, b ∈ w'.F i → b ∈ w.F i ∨ w.H b = none
theorem Stp.refl (w : Wd) : Stp w w := ⟨fun _ _ h => h, fun _ _ h _ => h, fun _ _ h _ => h, fun _ h => h, fun _ _ h => .inl h⟩
theorem Stp.trans {w w1 w2 : Wd} (a : Stp w w1) (b : Stp w1 w2) : Stp w w2 := by
  have nf : ∀ c, w.H c ≠ none → (∀ i, c ∉ w.F i) → ∀ i, c ∉ w1.F i := fun c h n i z => by
    rcases a.f i c z with q | q
    · exact n i q
    · exact h q
  refine ⟨fun c o h => b.g c o (a.g c o h), fun c h g n => b.gf c (a.t c h) (a.gf c h g n) (nf c h n), fun c o h n => b.h c o (a.h c o h n) (nf c (by rw [h]; exact fun z => nomatch z) n), fun c h => b.t c (a.t c h), fun i c z => ?_⟩
  rcases b.f i c z with q | q
  · exact a.f i c q
  · refine .inr ?_
    cases e : w.H c with
    | none => rfl
    | some o => exact absurd q (a.t c (by rw [e]; exact fun z => nomatch z))

/-- what an expression gives: a datum; the slot of a name -/
inductive R where
  | d (x : PyData) | s (i : Nat)
def RepR (K : PySem.W.Frag) (w : Wd) (σ : St) (v : V) : R → Prop
  | .d x => Rep K w.G v x
  | .s i => σ[i]? = some (some v)
theorem RepR.step {K : PySem.W.Frag} {w w' : Wd} {σ : St} {v : V} {r : R} (s : Stp w w') (h : RepR K w σ v r) : RepR K w' σ v r := by
  cases r with
  | d x => exact rep_mono s.g _ _ h
  | s i => exact h

/-- what is seen at a result: a datum -/
def vw (ρ : DSt) (r : R) (k : PyData → Prop) : Prop := match r with
  | .d x => k x
  | .s i => match ρ[i]? with
    | some (.val d) => k d
    | some (.own _ ds) => k (.list ds)
    | _ => False
/-- a value seen: a list by its items (the list itself may be the frame's own), else as it is -/
def Top (K : PySem.W.Frag) (w : Wd) (v : V) : PyData → Prop
  | .list ds => ∃ a vs, v = .ref a ∧ w.H a = some (.lst vs) ∧ Reps K w.G vs ds
  | d => Rep K w.G v d
theorem rep_top {K : PySem.W.Frag} {w : Wd} {v : V} {d : PyData} (gh : Same w.G w.H) (h : Rep K w.G v d) : Top K w v d := by
  cases d with
  | list ds =>
    cases h with
    | lst hs ha => exact ⟨_, _, rfl, gh _ _ hs, ha⟩
  | _ => exact h
theorem vw_top {K : PySem.W.Frag} {P : Par} {w : Wd} {σ : St} {ρ : DSt} {v : V} {r : R} {k : PyData → Prop} (I : FI K P w σ ρ) (h : RepR K w σ v r) (q : vw ρ r k) : ∃ d, Top K w v d ∧ k d := by
  cases r with
  | d x => exact ⟨x, rep_top I.gh h, q⟩
  | s i =>
    have h : σ[i]? = some (some v) := h
    have q : (match ρ[i]? with
      | some (.val d) => k d
      | some (.own _ ds) => k (.list ds)
      | _ => False) := q
    cases e : ρ[i]? with
    | none => rw [e] at q; exact q.elim
    | some s =>
      rw [e] at q
      have ok := I.ok i s e
      cases s with
      | no => exact q.elim
      | res _ _ => exact q.elim
      | val d =>
        obtain ⟨_, u, e2, hr⟩ := ok
        rw [h] at e2
        cases e2
        exact ⟨d, rep_top I.gh hr, q⟩
      | own io ds =>
        obtain ⟨a, vs, e2, _, hh, hr, _⟩ := ok
        rw [h] at e2
        cases e2
        exact ⟨.list ds, ⟨a, vs, rfl, hh, hr⟩, q⟩
/-- seen in the whole heap -/
theorem Top.rep {K : PySem.W.Frag} {w : Wd} {v : V} {d : PyData} (gh : Same w.G w.H) (h : Top K w v d) : Rep K w.H v d := by
  cases d with
  | list ds =>
    obtain ⟨a, vs, rfl, hs, hr⟩ := h
    exact .lst hs (reps_mono gh _ _ hr)
  | none => exact rep_mono gh _ _ h
  | bool b => exact rep_mono gh _ _ h
  | int i => exact rep_mono gh _ _ h
  | str x => exact rep_mono gh _ _ h
  | tuple ds => exact rep_mono gh _ _ h
  | dict _ => exact rep_mono gh _ _ h

/-- a slot's tie behind a change of the world that leaves its own addresses -/
theorem slotOk.go {K : PySem.W.Frag} {v0 v : Option (Option V)} {N : Addr → Prop} {w w' : Wd} {fp : List Addr} {s : SD} (h : slotOk K v0 N w fp v s) (g : Same w.G w'.G) (hh : ∀ b ∈ fp, ∀ o, w.H b = some o → w'.H b = some o) : slotOk K v0 N w' fp v s := by
  cases s with
  | no => exact h
  | val d =>
    obtain ⟨h1, u, h2, h3⟩ := h
    exact ⟨h1, u, h2, rep_mono g _ _ h3⟩
  | own io ds =>
    obtain ⟨a, vs, h1, h2, h3, h4, h5⟩ := h
    exact ⟨a, vs, h1, h2, hh a (by rw [h2]; exact List.mem_cons_self) _ h3, reps_mono g _ _ h4, h5⟩
  | res io r =>
    obtain ⟨a, h1, h2, h3⟩ := h
    exact ⟨a, h1, r.keep g hh h2, h3⟩

/-! ### new objects -/
section
variable {K : PySem.W.Frag} {P : Par} {w : Wd} {σ : St} {ρ : DSt} {p : Addr} {o : HO}
theorem FI.fresh (I : FI K P w σ ρ) (hp : w.H p = none) : w.G p = none ∧ ∀ i b, b ∈ w.F i → b ≠ p :=
  ⟨I.gh.free hp, fun i b hb z => (I.foot i b hb).2 (by rw [z]; exact hp)⟩
theorem same_new {H : Hp} (h : H p = none) : Same H (upd H p o) := fun b u e => by rw [upd_ne (ne_of_none e h)]; exact e
theorem there_new {H : Hp} (b : Addr) (h : H b ≠ none) : upd H p o b ≠ none := by
  by_cases e : b = p
  · subst e; rw [upd_same]; exact fun z => nomatch z
  · rw [upd_ne e]; exact h
/-- a new object that stays -/
theorem FI.new (I : FI K P w σ ρ) (hp : w.H p = none) : FI K P ⟨upd w.G p o, upd w.H p o, w.F⟩ σ ρ ∧ Stp w ⟨upd w.G p o, upd w.H p o, w.F⟩ := by
  obtain ⟨hg, np⟩ := I.fresh hp
  refine ⟨⟨fun b u h => ?_, I.len, fun i s e => (I.ok i s e).go (same_new hg) fun b _ u h => same_new hp b u h, I.out, fun i b hb => ⟨?_, there_new b (I.foot i b hb).2⟩, I.sep⟩,
    ⟨same_new hg, fun b h1 h2 _ => ?_, fun b u h _ => same_new hp b u h, there_new, fun i b hb => .inl hb⟩⟩
  · have h : upd w.G p o b = some u := h
    show upd w.H p o b = some u
    by_cases e : b = p
    · subst e
      rw [upd_same] at h ⊢
      exact h
    · rw [upd_ne e] at h ⊢
      exact I.gh b u h
  · show upd w.G p o b = none
    rw [upd_ne (np i b hb)]; exact (I.foot i b hb).1
  · show upd w.G p o b = none
    rw [upd_ne (fun z => h1 (by rw [z]; exact hp))]; exact h2
/-- slot i holds v from now on: a datum -/
theorem FI.set (I : FI K P w σ ρ) {i : Nat} {v : V} {d : PyData} (h : Rep K w.G v d) : FI K P ⟨w.G, w.H, fun j => if j = i then [] else w.F j⟩ (σ.set i (some v)) (ρ.set i (.val d)) ∧ Stp w ⟨w.G, w.H, fun j => if j = i then [] else w.F j⟩ := by
  have sub : ∀ j b, b ∈ (if j = i then ([] : List Addr) else w.F j) → b ∈ w.F j := fun j b hb => by
    by_cases e : j = i
    · rw [if_pos e] at hb; cases hb
    · rw [if_neg e] at hb; exact hb
  refine ⟨⟨I.gh, by rw [List.length_set, List.length_set]; exact I.len, fun j s e => ?_, fun j hj => ?_, fun j b hb => I.foot j b (sub j b hb), fun j l b hjl hb hb' => I.sep j l b hjl (sub j b hb) (sub l b hb')⟩,
    ⟨fun _ _ h => h, fun _ _ h _ => h, fun _ _ h _ => h, fun _ h => h, fun j b hb => .inl (sub j b hb)⟩⟩
  · by_cases hj : i = j
    · subst hj
      have hlt : i < ρ.length := by
        rcases Nat.lt_or_ge i ρ.length with q | q
        · exact q
        · rw [List.getElem?_eq_none (by rw [List.length_set]; exact q)] at e; cases e
      rw [List.getElem?_set_self hlt] at e
      cases e
      rw [List.getElem?_set_self (by rw [I.len]; exact hlt)]
      exact ⟨if_pos rfl, v, rfl, h⟩
    · rw [List.getElem?_set_ne hj] at e
      rw [List.getElem?_set_ne hj]
      have ok := I.ok j s e
      show slotOk K P.σ0[j]? P.N _ (if j = i then [] else w.F j) σ[j]? s
      rw [if_neg (Ne.symm hj)]
      exact ok.go (fun _ _ h => h) fun _ _ _ h => h
  · show (if j = i then [] else w.F j) = []
    by_cases e : j = i
    · rw [if_pos e]
    · rw [if_neg e]; exact I.out j (by rw [← List.length_set (as := ρ)]; exact hj)
/-- a slot's own list comes to what stays -/
theorem FI.freeze (I : FI K P w σ ρ) {i : Nat} {ds : List PyData} (h : ρ[i]? = some (.own false ds)) :
    ∃ a vs, σ[i]? = some (some (.ref a)) ∧ w.H a = some (.lst vs) ∧ FI K P ⟨upd w.G a (.lst vs), w.H, fun j => if j = i then [] else w.F j⟩ σ (ρ.set i (.val (.list ds))) ∧
      Stp w ⟨upd w.G a (.lst vs), w.H, fun j => if j = i then [] else w.F j⟩ ∧ Rep K (upd w.G a (.lst vs)) (.ref a) (.list ds) := by
  obtain ⟨a, vs, h1, h2, h3, h4, _⟩ := I.ok i _ h
  have sub : ∀ j b, b ∈ (if j = i then ([] : List Addr) else w.F j) → b ∈ w.F j ∧ j ≠ i := fun j b hb => by
    by_cases e : j = i
    · rw [if_pos e] at hb; cases hb
    · rw [if_neg e] at hb; exact ⟨hb, e⟩
  have ha : a ∈ w.F i := by rw [h2]; exact List.mem_cons_self
  have hg : w.G a = none := (I.foot i a ha).1
  have hrep : Rep K (upd w.G a (.lst vs)) (.ref a) (.list ds) := .lst upd_same (reps_mono (same_new hg) _ _ h4)
  have hlt : i < ρ.length := (List.getElem?_eq_some_iff.mp h).1
  refine ⟨a, vs, h1, h3, ⟨fun b u e => ?_, by rw [List.length_set]; exact I.len, fun j s e => ?_, fun j hj => ?_, fun j b hb => ⟨?_, (I.foot j b (sub j b hb).1).2⟩, fun j l b hjl hb hb' => I.sep j l b hjl (sub j b hb).1 (sub l b hb').1⟩,
    ⟨same_new hg, fun b e1 e2 e3 => ?_, fun _ _ h _ => h, fun _ h => h, fun j b hb => .inl (sub j b hb).1⟩, hrep⟩
  · have e : upd w.G a (.lst vs) b = some u := e
    show w.H b = some u
    by_cases q : b = a
    · subst q
      rw [upd_same] at e
      rw [h3]; exact e
    · rw [upd_ne q] at e
      exact I.gh b u e
  · by_cases hj : i = j
    · subst hj
      rw [List.getElem?_set_self hlt] at e
      cases e
      exact ⟨if_pos rfl, .ref a, h1, hrep⟩
    · rw [List.getElem?_set_ne hj] at e
      show slotOk K P.σ0[j]? P.N _ (if j = i then [] else w.F j) σ[j]? s
      rw [if_neg (Ne.symm hj)]
      exact (I.ok j s e).go (same_new hg) fun _ _ _ h => h
  · show (if j = i then [] else w.F j) = []
    by_cases e : j = i
    · rw [if_pos e]
    · rw [if_neg e]; exact I.out j (by rw [← List.length_set (as := ρ)]; exact hj)
  · obtain ⟨q1, q2⟩ := sub j b hb
    show upd w.G a (.lst vs) b = none
    rw [upd_ne (fun z => I.sep j i b q2 q1 (by rw [z]; exact ha))]
    exact (I.foot j b q1).1
  · show upd w.G a (.lst vs) b = none
    rw [upd_ne (fun z => e3 i (by rw [z]; exact ha))]
    exact e2
/-- slot i holds a new list of its own -/
theorem FI.setOwn (I : FI K P w σ ρ) {i : Nat} {a : Addr} {vs : List V} {ds : List PyData} (hf : ∀ j, a ∉ w.F j) (hg : w.G a = none) (hh : w.H a = some (.lst vs)) (hr : Reps K w.G vs ds) (hn : P.N a) (hi : i < ρ.length) :
    FI K P ⟨w.G, w.H, fun j => if j = i then [a] else w.F j⟩ (σ.set i (some (.ref a))) (ρ.set i (.own false ds)) := by
  have sub : ∀ j b, b ∈ (if j = i then [a] else w.F j) → (j = i ∧ b = a) ∨ (j ≠ i ∧ b ∈ w.F j) := fun j b hb => by
    by_cases e : j = i
    · rw [if_pos e] at hb; exact .inl ⟨e, by simpa using hb⟩
    · rw [if_neg e] at hb; exact .inr ⟨e, hb⟩
  refine ⟨I.gh, by rw [List.length_set, List.length_set]; exact I.len, fun j s e => ?_, fun j hj => ?_, fun j b hb => ?_, fun j l b hjl hb hb' => ?_⟩
  · by_cases hj : i = j
    · subst hj
      rw [List.getElem?_set_self hi] at e
      cases e
      rw [List.getElem?_set_self (by rw [I.len]; exact hi)]
      exact ⟨a, vs, rfl, if_pos rfl, hh, hr, (fun z => nomatch z), fun _ => hn⟩
    · rw [List.getElem?_set_ne hj] at e
      rw [List.getElem?_set_ne hj]
      show slotOk K P.σ0[j]? P.N _ (if j = i then [a] else w.F j) σ[j]? s
      rw [if_neg (Ne.symm hj)]
      exact (I.ok j s e).go (fun _ _ h => h) fun _ _ _ h => h
  · have hj : ρ.length ≤ j := by rw [← List.length_set (as := ρ)]; exact hj
    show (if j = i then [a] else w.F j) = []
    rw [if_neg (by omega)]
    exact I.out j hj
  · rcases sub j b hb with ⟨_, rfl⟩ | ⟨_, q⟩
    · exact ⟨hg, by rw [hh]; exact fun z => nomatch z⟩
    · exact I.foot j b q
  · rcases sub j b hb with ⟨e1, rfl⟩ | ⟨_, q⟩
    · rcases sub l b hb' with ⟨e2, _⟩ | ⟨_, q'⟩
      · exact hjl (e1.trans e2.symm)
      · exact hf l q'
    · rcases sub l b hb' with ⟨_, rfl⟩ | ⟨_, q'⟩
      · exact hf j q
      · exact I.sep j l b hjl q q'
/-- slot i's own list changes -/
theorem FI.mut (I : FI K P w σ ρ) {i : Nat} {io : Bool} {ds es : List PyData} {a : Addr} {ws : List V} (h : ρ[i]? = some (.own io ds)) (ha : σ[i]? = some (some (.ref a))) (hr : Reps K w.G ws es) :
    FI K P ⟨w.G, upd w.H a (.lst ws), w.F⟩ σ (ρ.set i (.own io es)) ∧ Stp w ⟨w.G, upd w.H a (.lst ws), w.F⟩ := by
  obtain ⟨a', vs, h1, h2, h3, h4, h5⟩ := I.ok i _ h
  rw [ha] at h1
  cases h1
  have hm : a ∈ w.F i := by rw [h2]; exact List.mem_cons_self
  have hlt : i < ρ.length := (List.getElem?_eq_some_iff.mp h).1
  have nw : ∀ b o, b ≠ a → w.H b = some o → upd w.H a (.lst ws) b = some o := fun b o n e => by rw [upd_ne n]; exact e
  refine ⟨⟨fun b u e => ?_, by rw [List.length_set]; exact I.len, fun j s e => ?_, fun j hj => I.out j (by rw [← List.length_set (as := ρ)]; exact hj), fun j b hb => ⟨(I.foot j b hb).1, ?_⟩, I.sep⟩,
    ⟨fun _ _ h => h, fun _ _ h _ => h, fun b o e n => nw b o (fun z => n i (by rw [z]; exact hm)) e, fun b e => there_new b e, fun j b hb => .inl hb⟩⟩
  · exact nw b u (fun z => by rw [z, (I.foot i a hm).1] at e; cases e) (I.gh b u e)
  · by_cases hj : i = j
    · subst hj
      rw [List.getElem?_set_self hlt] at e
      cases e
      exact ⟨a, ws, ha, h2, upd_same, hr, h5⟩
    · rw [List.getElem?_set_ne hj] at e
      exact (I.ok j s e).go (fun _ _ h => h) fun b hb o e => nw b o (fun z => I.sep j i b (Ne.symm hj) hb (by rw [z]; exact hm)) e
  · exact there_new b (I.foot j b hb).2
end

/-- a result made a datum that stays -/
def frz (ρ : DSt) (r : R) (k : PyData → DSt → Prop) : Prop := match r with
  | .d x => k x ρ
  | .s i => match ρ[i]? with
    | some (.val d) => k d ρ
    | some (.own false ds) => k (.list ds) (ρ.set i (.val (.list ds)))
    | _ => False
theorem frz_ok {K : PySem.W.Frag} {P : Par} {w : Wd} {σ : St} {ρ : DSt} {v : V} {r : R} {k : PyData → DSt → Prop} (I : FI K P w σ ρ) (h : RepR K w σ v r) (q : frz ρ r k) :
    ∃ d ρ' w', FI K P w' σ ρ' ∧ Stp w w' ∧ w'.H = w.H ∧ Rep K w'.G v d ∧ k d ρ' := by
  cases r with
  | d x => exact ⟨x, ρ, w, I, Stp.refl w, rfl, h, q⟩
  | s i =>
    have h : σ[i]? = some (some v) := h
    have q : (match ρ[i]? with
      | some (.val d) => k d ρ
      | some (.own false ds) => k (.list ds) (ρ.set i (.val (.list ds)))
      | _ => False) := q
    cases e : ρ[i]? with
    | none => rw [e] at q; exact q.elim
    | some s =>
      rw [e] at q
      cases s with
      | no => exact q.elim
      | res _ _ => exact q.elim
      | val d =>
        obtain ⟨_, u, e2, hr⟩ := I.ok i _ e
        rw [h] at e2
        cases e2
        exact ⟨d, ρ, w, I, Stp.refl w, rfl, hr, q⟩
      | own io ds =>
        cases io with
        | true => exact q.elim
        | false =>
          obtain ⟨a, vs, h1, _, h3, h4, h5⟩ := I.freeze e
          rw [h] at h1
          cases h1
          exact ⟨_, _, _, h3, h4, rfl, h5, q⟩
end DL

end
section
set_option maxHeartbeats 4000000
/-! DLB: what expressions come to, as readings over data. -/
namespace DL
open PySem PySem.Spec L2

/-- an exception: its class, its fields -/
structure Exd where
  C : Addr
  fs : List (Str × PyData)
def RepF (K : PySem.W.Frag) (G : Hp) : List (Str × V) → List (Str × PyData) → Prop := Paired fun p q => p.1 = q.1 ∧ Rep K G p.2 q.2
def RepE (K : PySem.W.Frag) (w : Wd) (cls : Value) (d : Option Addr) (e : Exd) : Prop :=
  cls = .ref e.C ∧ ((e.fs = [] ∧ d = none) ∨ ∃ dd fvs, e.fs ≠ [] ∧ d = some dd ∧ w.G dd = some (.xd fvs) ∧ RepF K w.G fvs e.fs)
abbrev WD := Exd → DSt → Prop

/-- what a derivation leans on: the parameters, the worlds that may come, what is wished of an exception -/
structure DC (X : Cx) where
  P : Par
  A : Wd → Prop
  cl : ∀ w w', A w → Stp w w' → A w'
  nw : ∀ w p, A w → w.H p = none → P.N p
  gd : X.A.guards = some []
  calm : X.calm = true
  nd : X.N.Nodup
  un : X.A.units + 100 < cLine
  W : WD
  WH : WX
  tk : Takes X WH
  hW : ∀ e ρ σ w cls d, A w → FI X.K P w σ ρ → RepE X.K w cls d e → W e ρ → WH cls d σ w.H

abbrev TED := DSt → (R → DSt → Prop) → Prop
abbrev TTD := DSt → (Bool → DSt → Prop) → Prop
abbrev TND := DSt → (List PyData → DSt → Prop) → Prop
inductive RepRs (K : PySem.W.Frag) (w : Wd) (σ : St) : List V → List R → Prop
  | nil : RepRs K w σ [] []
  | cons {v vs r rs} : RepR K w σ v r → RepRs K w σ vs rs → RepRs K w σ (v :: vs) (r :: rs)

section
variable {X : Cx}
structure DE (C : DC X) (e : Expr) (te : TE) (t : TED) : Prop where
  pe : PE X e te
  run : ∀ (w : Wd) (σ : St) (ρ : DSt) (Q : VK) (QD : R → DSt → Prop), C.A w → FI X.K C.P w σ ρ → t ρ QD →
    (∀ v r w' ρ', Stp w w' → FI X.K C.P w' σ ρ' → RepR X.K w' σ v r → QD r ρ' → Q v w'.H) → te σ w.H Q
structure DT (C : DC X) (e : Expr) (tt : TT) (t : TTD) : Prop where
  pt : PT X e tt
  run : ∀ (w : Wd) (σ : St) (ρ : DSt) (Q : Bool → Hp → Prop) (QD : Bool → DSt → Prop), C.A w → FI X.K C.P w σ ρ → t ρ QD →
    (∀ b w' ρ', Stp w w' → FI X.K C.P w' σ ρ' → QD b ρ' → Q b w'.H) → tt σ w.H Q
/-- and, or: whatever the whole is -/
structure DW (C : DC X) (e : Expr) (tt : TT) (t : TTD) : Prop where
  pw : PW X e tt
  run : ∀ (w : Wd) (σ : St) (ρ : DSt) (Q : Bool → Hp → Prop) (QD : Bool → DSt → Prop), C.A w → FI X.K C.P w σ ρ → t ρ QD →
    (∀ b w' ρ', Stp w w' → FI X.K C.P w' σ ρ' → QD b ρ' → Q b w'.H) → tt σ w.H Q
/-- a new list that nobody else holds -/
structure DN (C : DC X) (e : Expr) (te : TE) (t : TND) : Prop where
  pe : PE X e te
  run : ∀ (w : Wd) (σ : St) (ρ : DSt) (Q : VK) (QD : List PyData → DSt → Prop), C.A w → FI X.K C.P w σ ρ → t ρ QD →
    (∀ a vs ds w' ρ', Stp w w' → FI X.K C.P w' σ ρ' → w.H a = none → w'.G a = none → (∀ i, a ∉ w'.F i) → w'.H a = some (.lst vs) → Reps X.K w'.G vs ds → QD ds ρ' → Q (.ref a) w'.H) → te σ w.H Q
/-- arguments, items: data that stay -/
structure DA (C : DC X) (es : List Expr) (ta : TA) (t : TND) : Prop where
  pa : PA X es ta
  run : ∀ (w : Wd) (σ : St) (ρ : DSt) (Q : List V → Hp → Prop) (QD : List PyData → DSt → Prop), C.A w → FI X.K C.P w σ ρ → t ρ QD →
    (∀ vs ds w' ρ', Stp w w' → FI X.K C.P w' σ ρ' → Reps X.K w'.G vs ds → QD ds ρ' → Q vs w'.H) → ta σ w.H Q

variable {C : DC X} {a b c e : Expr} {ta tb tc te : TE} {da db dc de : TED} {pos : Pos}

/-! ### names, constants -/
def dVar (i : Nat) : TED := fun ρ Q => (match ρ[i]? with | some (.val _) => True | some (.own _ _) => True | _ => False) ∧ Q (.s i) ρ
theorem slot_there {K : PySem.W.Frag} {P : Par} {w : Wd} {σ : St} {ρ : DSt} {i : Nat} (I : FI K P w σ ρ) (h : match ρ[i]? with | some (.val _) => True | some (.own _ _) => True | _ => False) : ∃ v, σ[i]? = some (some v) := by
  cases e : ρ[i]? with
  | none => rw [e] at h; exact h.elim
  | some s =>
    rw [e] at h
    have ok := I.ok i s e
    cases s with
    | no => exact h.elim
    | res _ _ => exact h.elim
    | val d =>
      obtain ⟨_, u, e2, _⟩ := ok
      exact ⟨u, e2⟩
    | own io ds =>
      obtain ⟨a, vs, e2, _⟩ := ok
      exact ⟨_, e2⟩
theorem de_var (i : Nat) {x : Str} (hN : X.N[i]? = some x := by rfl) (hv : Vis X.env.scope x := by first | exact Or.inl rfl | exact Or.inr (Or.inl rfl) | exact Or.inr (Or.inr rfl)) (hd : (x == ("__debug__" : Str)) = false := by decide)
    (hcd : (x == ("__classdict__" : Str)) = false := by decide) : DE C (.Name x pos) (tVar i) (dVar i) := by
  refine ⟨pe_var hN hv hd hcd, fun w σ ρ Q QD hA I h k => ?_⟩
  obtain ⟨h1, h2⟩ := h
  obtain ⟨v, e⟩ := slot_there I h1
  exact ⟨v, e, k v (.s i) w ρ (Stp.refl w) I e h2⟩
def dC (d : PyData) : TED := fun ρ Q => Q (.d d) ρ
theorem de_c {v : V} {d : PyData} (h : PE X e (tC v)) (hr : ∀ G, Rep X.K G v d) : DE C e (tC v) (dC d) :=
  ⟨h, fun w σ ρ Q QD hA I q k => k v (.d d) w ρ (Stp.refl w) I (hr _) q⟩
theorem de_int {i j} : DE C (.Constant (.int i) j pos) (tC (.int i)) (dC (.int i)) := de_c pe_int fun _ => .int i
theorem de_bl {i j} : DE C (.Constant (.bool i) j pos) (tC (.bl i)) (dC (.bool i)) := de_c pe_bl fun _ => .bl i
theorem de_non {j} : DE C (.Constant .none j pos) (tC .non) (dC .none) := de_c pe_non fun _ => .non
theorem de_str {x j} : DE C (.Constant (.str x) j pos) (tC (.str x)) (dC (.str x)) := de_c pe_str fun _ => .str x
/-- a constant of the module -/
theorem de_glob {x : Str} {v : V} {u : Value} {d : PyData} (hg : Gl X x) (hm : X.mg x = some u) (r : RelV v u) (hr : ∀ G, Rep X.K G v d) (hd : (x == ("__debug__" : Str)) = false := by decide) : DE C (.Name x pos) (tC v) (dC d) :=
  de_c (pe_glob hg hm r hd) hr

/-! ### two operands -/
/-- an operation on two data -/
def dOp (f : PyData → PyData → (PyData → Prop) → Prop) (da db : TED) : TED := fun ρ Q => da ρ fun r1 ρ1 => db ρ1 fun r2 ρ2 => vw ρ2 r1 fun x => vw ρ2 r2 fun y => f x y fun z => Q (.d z) ρ2
/-- a rule by values serves an operation on data -/
def OpD (X : Cx) (C : DC X) (r : R2) (f : PyData → PyData → (PyData → Prop) → Prop) : Prop :=
  ∀ (w : Wd) (σ : St) (ρ : DSt) (u v : V) (x y : PyData) (Q : VK) (kd : PyData → Prop), C.A w → FI X.K C.P w σ ρ → Top X.K w u x → Top X.K w v y → f x y kd →
    (∀ z d w', Stp w w' → FI X.K C.P w' σ ρ → Rep X.K w'.G z d → kd d → Q z w'.H) → r u v w.H Q
theorem op_run {r : R2} {f : PyData → PyData → (PyData → Prop) → Prop} (hr : OpD X C r f) (ha : DE C a ta da) (hb : DE C b tb db) :
    ∀ (w : Wd) (σ : St) (ρ : DSt) (Q : VK) (QD : R → DSt → Prop), C.A w → FI X.K C.P w σ ρ → dOp f da db ρ QD →
    (∀ v r w' ρ', Stp w w' → FI X.K C.P w' σ ρ' → RepR X.K w' σ v r → QD r ρ' → Q v w'.H) → tOp r ta tb σ w.H Q := by
  intro w σ ρ Q QD hA I q k
  refine ha.run w σ ρ _ _ hA I q fun u r1 w1 ρ1 s1 I1 R1 q1 => ?_
  refine hb.run w1 σ ρ1 _ _ (C.cl _ _ hA s1) I1 q1 fun v r2 w2 ρ2 s2 I2 R2 q2 => ?_
  obtain ⟨x, tx, q3⟩ := vw_top I2 (R1.step s2) q2
  obtain ⟨y, ty, q4⟩ := vw_top I2 R2 q3
  exact hr w2 σ ρ2 u v x y Q _ (C.cl _ _ (C.cl _ _ hA s1) s2) I2 tx ty q4 fun z d w3 s3 I3 R3 q5 => k z (.d d) w3 ρ2 ((s1.trans s2).trans s3) I3 R3 q5
theorem de_op {op : Operator} {r : R2} {f : PyData → PyData → (PyData → Prop) → Prop} (ho : OpR X (binaryOp op) r ∧ OpD X C r f) (ha : DE C a ta da) (hb : DE C b tb db) : DE C (.BinOp a op b pos) (tOp r ta tb) (dOp f da db) :=
  ⟨pe_op ho.1 ha.pe hb.pe, op_run ho.2 ha hb⟩
theorem de_cmp {op : CmpOp} {r : R2} {f : PyData → PyData → (PyData → Prop) → Prop} (ho : OpR X (compareOp op) r ∧ OpD X C r f) (ha : DE C a ta da) (hb : DE C b tb db) (hm : behindInMarks op b = false) : DE C (.Compare a [op] [b] pos) (tOp r ta tb) (dOp f da db) :=
  ⟨pe_cmpR ho.1 ha.pe hb.pe hm, op_run ho.2 ha hb⟩
def dTest (t : TED) : TTD := fun ρ Q => t ρ fun r ρ1 => vw ρ1 r fun x => match x with | .bool k => Q k ρ1 | _ => False
theorem test_run (ha : DE C a ta da) : ∀ (w : Wd) (σ : St) (ρ : DSt) (Q : Bool → Hp → Prop) (QD : Bool → DSt → Prop), C.A w → FI X.K C.P w σ ρ → dTest da ρ QD →
    (∀ b w' ρ', Stp w w' → FI X.K C.P w' σ ρ' → QD b ρ' → Q b w'.H) → tTest ta σ w.H Q := by
  intro w σ ρ Q QD hA I q k
  refine ha.run w σ ρ _ _ hA I q fun u r1 w1 ρ1 s1 I1 R1 q1 => ?_
  obtain ⟨x, tx, q2⟩ := vw_top I1 R1 q1
  cases x with
  | bool z =>
    cases tx
    exact ⟨z, rfl, k z w1 ρ1 s1 I1 q2⟩
  | _ => exact q2.elim
theorem dt_cmp {op : CmpOp} {r : R2} {f : PyData → PyData → (PyData → Prop) → Prop} (ho : OpR X (compareOp op) r ∧ OpD X C r f) (ha : DE C a ta da) (hb : DE C b tb db) (hm : behindInMarks op b = false) : DT C (.Compare a [op] [b] pos) (tTest (tOp r ta tb)) (dTest (dOp f da db)) :=
  ⟨pt_cmpR ho.1 ha.pe hb.pe hm, test_run (de_cmp (pos := pos) ho ha hb hm)⟩

/-! ### ints -/
def int2 (f : Int → Int → (PyData → Prop) → Prop) (x y : PyData) (k : PyData → Prop) : Prop := match x, y with
  | .int i, .int j => f i j k
  | _, _ => False
theorem int2_inv {f : Int → Int → (PyData → Prop) → Prop} {x y : PyData} {k : PyData → Prop} (h : int2 f x y k) : ∃ i j, x = .int i ∧ y = .int j ∧ f i j k := by
  unfold int2 at h
  split at h
  · exact ⟨_, _, rfl, rfl, h⟩
  · exact h.elim
/-- an operation on ints, under Cd -/
def dI (Cd : Int → Int → Prop) (g : Int → Int → Int) : PyData → PyData → (PyData → Prop) → Prop := int2 fun i j k => Cd i j ∧ k (.int (g i j))
def dI0 (g : Int → Int → Int) : PyData → PyData → (PyData → Prop) → Prop := int2 fun i j k => k (.int (g i j))
def dB0 (g : Int → Int → Bool) : PyData → PyData → (PyData → Prop) → Prop := int2 fun i j k => k (.bool (g i j))
theorem opd_I {Cd : Int → Int → Prop} {g : Int → Int → Int} : OpD X C (rI Cd fun i j => .int (g i j)) (dI Cd g) := by
  intro w σ ρ u v x y Q kd hA I tx ty h k
  obtain ⟨i, j, rfl, rfl, hc, q⟩ := int2_inv h
  cases tx
  cases ty
  exact ⟨i, j, rfl, rfl, hc, k _ (.int (g i j)) w (Stp.refl w) I (.int _) q⟩
theorem opd_I0 {g : Int → Int → Int} : OpD X C (rI0 fun i j => .int (g i j)) (dI0 g) := by
  intro w σ ρ u v x y Q kd hA I tx ty h k
  obtain ⟨i, j, rfl, rfl, q⟩ := int2_inv h
  cases tx
  cases ty
  exact ⟨i, j, rfl, rfl, k _ (.int (g i j)) w (Stp.refl w) I (.int _) q⟩
theorem opd_B0 {g : Int → Int → Bool} : OpD X C (rI0 fun i j => .bl (g i j)) (dB0 g) := by
  intro w σ ρ u v x y Q kd hA I tx ty h k
  obtain ⟨i, j, rfl, rfl, q⟩ := int2_inv h
  cases tx
  cases ty
  exact ⟨i, j, rfl, rfl, k _ (.bool (g i j)) w (Stp.refl w) I (.bl _) q⟩
theorem od_add : OpR X (binaryOp .Add) (rI0 fun i j => .int (i + j)) ∧ OpD X C (rI0 fun i j => .int (i + j)) (dI0 fun i j => i + j) := ⟨op_add, opd_I0⟩
theorem od_sub : OpR X (binaryOp .Sub) (rI0 fun i j => .int (i - j)) ∧ OpD X C (rI0 fun i j => .int (i - j)) (dI0 fun i j => i - j) := ⟨op_sub, opd_I0⟩
theorem od_mul : OpR X (binaryOp .Mult) (rI CMulW fun i j => .int (i * j)) ∧ OpD X C (rI CMulW fun i j => .int (i * j)) (dI CMulW fun i j => i * j) := ⟨op_mulW, opd_I⟩
/-- // by a divisor of less than 9000 bits -/
def CDivF (_ j : Int) : Prop := j ≠ 0 ∧ j.natAbs.log2 < 9000
theorem op_fdivF : OpR X (binaryOp .FloorDiv) (rI CDivF fun i j => .int (i.fdiv j)) := opI fun _ _ _ _ _ _ _ hc q => PyProof.Rows.floordiv_int hc.1 q (.inl (PyProof.noPylong_of_log2 hc.2))
theorem od_fdiv : OpR X (binaryOp .FloorDiv) (rI CDivF fun i j => .int (i.fdiv j)) ∧ OpD X C (rI CDivF fun i j => .int (i.fdiv j)) (dI CDivF fun i j => i.fdiv j) := ⟨op_fdivF, opd_I⟩
theorem od_mod : OpR X (binaryOp .Mod) (rI (fun _ j => j ≠ 0) fun i j => .int (i.fmod j)) ∧ OpD X C (rI (fun _ j => j ≠ 0) fun i j => .int (i.fmod j)) (dI (fun _ j => j ≠ 0) fun i j => i.fmod j) := ⟨op_modN, opd_I⟩
theorem od_pow : OpR X (binaryOp .Pow) (rI CPow fun i j => .int (i ^ j.toNat)) ∧ OpD X C (rI CPow fun i j => .int (i ^ j.toNat)) (dI CPow fun i j => i ^ j.toNat) := ⟨op_pow, opd_I⟩
theorem od_lt : OpR X (compareOp .Lt) (rI0 fun i j => .bl (decide (i < j))) ∧ OpD X C (rI0 fun i j => .bl (decide (i < j))) (dB0 fun i j => decide (i < j)) := ⟨op_lt, opd_B0⟩
theorem od_le : OpR X (compareOp .LtE) (rI0 fun i j => .bl (decide (i ≤ j))) ∧ OpD X C (rI0 fun i j => .bl (decide (i ≤ j))) (dB0 fun i j => decide (i ≤ j)) := ⟨op_le, opd_B0⟩
theorem od_gt : OpR X (compareOp .Gt) (rI0 fun i j => .bl (decide (j < i))) ∧ OpD X C (rI0 fun i j => .bl (decide (j < i))) (dB0 fun i j => decide (j < i)) := ⟨op_gt, opd_B0⟩
theorem od_ge : OpR X (compareOp .GtE) (rI0 fun i j => .bl (decide (j ≤ i))) ∧ OpD X C (rI0 fun i j => .bl (decide (j ≤ i))) (dB0 fun i j => decide (j ≤ i)) := ⟨op_ge, opd_B0⟩
/-! ### == and != of any data -/
def dEq (x y : PyData) (k : PyData → Prop) : Prop := SeqAt.shaped x = true ∧ SeqAt.shaped y = true ∧ k (.bool (PyData.eqv x y))
def dNe (x y : PyData) (k : PyData → Prop) : Prop := SeqAt.shaped x = true ∧ SeqAt.shaped y = true ∧ k (.bool (!PyData.eqv x y))
theorem od_eq : OpR X (compareOp .Eq) (rEqD X.K) ∧ OpD X C (rEqD X.K) dEq := by
  refine ⟨op_eqD (by have := C.un; omega), fun w σ ρ u v x y Q kd hA I tx ty h k => ?_⟩
  obtain ⟨h1, h2, q⟩ := h
  exact ⟨x, y, (tx.rep I.gh).dp _ _ (PyData.hasDict_of_canLay _ (SeqAt.canLay_of_shaped h1)), (ty.rep I.gh).dp _ _ (PyData.hasDict_of_canLay _ (SeqAt.canLay_of_shaped h2)), h1, h2, k _ _ w (Stp.refl w) I (.bl _) q⟩
theorem od_ne : OpR X (compareOp .NotEq) (rNeD X.K) ∧ OpD X C (rNeD X.K) dNe := by
  refine ⟨op_neD (by have := C.un; omega), fun w σ ρ u v x y Q kd hA I tx ty h k => ?_⟩
  obtain ⟨h1, h2, q⟩ := h
  exact ⟨x, y, (tx.rep I.gh).dp _ _ (PyData.hasDict_of_canLay _ (SeqAt.canLay_of_shaped h1)), (ty.rep I.gh).dp _ _ (PyData.hasDict_of_canLay _ (SeqAt.canLay_of_shaped h2)), h1, h2, k _ _ w (Stp.refl w) I (.bl _) q⟩
/-! ### tests -/
variable {ua ub : TT} {xa xb : TTD} {rest : List Expr}
def dAnd (t u : TTD) : TTD := fun ρ Q => t ρ fun b ρ1 => match b with | true => u ρ1 Q | false => Q false ρ1
def dOr (t u : TTD) : TTD := fun ρ Q => t ρ fun b ρ1 => match b with | true => Q true ρ1 | false => u ρ1 Q
def dNot (t : TTD) : TTD := fun ρ Q => t ρ fun b ρ1 => Q (!b) ρ1
theorem dw_and1 (ha : DT C a ua xa) : DW C (.BoolOp .And [a] pos) ua xa := ⟨pw_and1 ha.pt, ha.run⟩
theorem dw_or1 (ha : DT C a ua xa) : DW C (.BoolOp .Or [a] pos) ua xa := ⟨pw_or1 ha.pt, ha.run⟩
theorem dw_and (ha : DT C a ua xa) (hb : DW C (.BoolOp .And (b :: rest) pos) ub xb) : DW C (.BoolOp .And (a :: b :: rest) pos) (tAnd ua ub) (dAnd xa xb) := by
  refine ⟨pw_and ha.pt hb.pw, fun w σ ρ Q QD hA I q k => ?_⟩
  refine ha.run w σ ρ _ _ hA I q fun z w1 ρ1 s1 I1 q1 => ?_
  cases z with
  | true =>
    show ub σ w1.H Q
    exact hb.run w1 σ ρ1 _ _ (C.cl _ _ hA s1) I1 q1 fun z2 w2 ρ2 s2 I2 q2 => k z2 w2 ρ2 (s1.trans s2) I2 q2
  | false => exact k false w1 ρ1 s1 I1 q1
theorem dw_or (ha : DT C a ua xa) (hb : DW C (.BoolOp .Or (b :: rest) pos) ub xb) : DW C (.BoolOp .Or (a :: b :: rest) pos) (tOr ua ub) (dOr xa xb) := by
  refine ⟨pw_or ha.pt hb.pw, fun w σ ρ Q QD hA I q k => ?_⟩
  refine ha.run w σ ρ _ _ hA I q fun z w1 ρ1 s1 I1 q1 => ?_
  cases z with
  | false =>
    show ub σ w1.H Q
    exact hb.run w1 σ ρ1 _ _ (C.cl _ _ hA s1) I1 q1 fun z2 w2 ρ2 s2 I2 q2 => k z2 w2 ρ2 (s1.trans s2) I2 q2
  | true => exact k true w1 ρ1 s1 I1 q1
theorem DW.dt (h : DW C a ua xa) : DT C a ua xa := ⟨h.pw.pt, h.run⟩
theorem dt_not (ha : DT C a ua xa) : DT C (.UnaryOp .Not a pos) (tNot ua) (dNot xa) :=
  ⟨pt_not ha.pt, fun w σ ρ Q QD hA I q k => ha.run w σ ρ _ _ hA I q fun z w1 ρ1 s1 I1 q1 => k (!z) w1 ρ1 s1 I1 q1⟩
/-- an expression that gives a bool, as a test -/
theorem dt_val (h : DE C a ta da) (he : ∀ whole, isTrue a X.env whole = (do let v ← whole; standAt a.pos; holding [v] (truthy v)) := by intro _; rfl) : DT C a (tB ta) (dTest da) :=
  ⟨pt_val h.pe he, test_run h⟩
/-- values: and, or, not, if -/
def dAndV (da db : TED) : TED := fun ρ Q => da ρ fun r ρ1 => vw ρ1 r fun x => match x with | .bool true => db ρ1 Q | .bool false => Q (.d (.bool false)) ρ1 | _ => False
def dOrV (da db : TED) : TED := fun ρ Q => da ρ fun r ρ1 => vw ρ1 r fun x => match x with | .bool false => db ρ1 Q | .bool true => Q (.d (.bool true)) ρ1 | _ => False
def dNotV (da : TED) : TED := fun ρ Q => da ρ fun r ρ1 => vw ρ1 r fun x => match x with | .bool k => Q (.d (.bool (!k))) ρ1 | _ => False
theorem de_one {op} (h : DE C a ta da) : DE C (.BoolOp op [a] pos) ta da := ⟨pe_one h.pe, h.run⟩
theorem de_and (ha : DE C a ta da) (hb : DE C (.BoolOp .And (b :: rest) pos) tb db) : DE C (.BoolOp .And (a :: b :: rest) pos) (tAndV ta tb) (dAndV da db) := by
  refine ⟨pe_and ha.pe hb.pe, fun w σ ρ Q QD hA I q k => ?_⟩
  refine ha.run w σ ρ _ _ hA I q fun u r1 w1 ρ1 s1 I1 R1 q1 => ?_
  obtain ⟨x, tx, q2⟩ := vw_top I1 R1 q1
  cases x with
  | bool z =>
    cases tx
    cases z with
    | true => exact ⟨true, rfl, hb.run w1 σ ρ1 _ _ (C.cl _ _ hA s1) I1 q2 fun v2 r2 w2 ρ2 s2 I2 R2 q3 => k v2 r2 w2 ρ2 (s1.trans s2) I2 R2 q3⟩
    | false => exact ⟨false, rfl, k _ (.d (.bool false)) w1 ρ1 s1 I1 (.bl _) q2⟩
  | _ => exact q2.elim
theorem de_or (ha : DE C a ta da) (hb : DE C (.BoolOp .Or (b :: rest) pos) tb db) : DE C (.BoolOp .Or (a :: b :: rest) pos) (tOrV ta tb) (dOrV da db) := by
  refine ⟨pe_or ha.pe hb.pe, fun w σ ρ Q QD hA I q k => ?_⟩
  refine ha.run w σ ρ _ _ hA I q fun u r1 w1 ρ1 s1 I1 R1 q1 => ?_
  obtain ⟨x, tx, q2⟩ := vw_top I1 R1 q1
  cases x with
  | bool z =>
    cases tx
    cases z with
    | false => exact ⟨false, rfl, hb.run w1 σ ρ1 _ _ (C.cl _ _ hA s1) I1 q2 fun v2 r2 w2 ρ2 s2 I2 R2 q3 => k v2 r2 w2 ρ2 (s1.trans s2) I2 R2 q3⟩
    | true => exact ⟨true, rfl, k _ (.d (.bool true)) w1 ρ1 s1 I1 (.bl _) q2⟩
  | _ => exact q2.elim
theorem de_not (ha : DE C a ta da) : DE C (.UnaryOp .Not a pos) (tNotV ta) (dNotV da) := by
  refine ⟨pe_not ha.pe, fun w σ ρ Q QD hA I q k => ?_⟩
  refine ha.run w σ ρ _ _ hA I q fun u r1 w1 ρ1 s1 I1 R1 q1 => ?_
  obtain ⟨x, tx, q2⟩ := vw_top I1 R1 q1
  cases x with
  | bool z =>
    cases tx
    exact ⟨z, rfl, k _ (.d (.bool (!z))) w1 ρ1 s1 I1 (.bl _) q2⟩
  | _ => exact q2.elim
def dIf (t : TTD) (da db : TED) : TED := fun ρ Q => t ρ fun b ρ1 => match b with | true => da ρ1 Q | false => db ρ1 Q
theorem de_if (hc : DT C c ua xa) (ha : DE C a ta da) (hb : DE C b tb db) : DE C (.IfExp c a b pos) (tIf ua ta tb) (dIf xa da db) := by
  refine ⟨pe_ifExp hc.pt ha.pe hb.pe, fun w σ ρ Q QD hA I q k => ?_⟩
  refine hc.run w σ ρ _ _ hA I q fun z w1 ρ1 s1 I1 q1 => ?_
  cases z with
  | true =>
    show ta σ w1.H Q
    exact ha.run w1 σ ρ1 _ _ (C.cl _ _ hA s1) I1 q1 fun v2 r2 w2 ρ2 s2 I2 R2 q3 => k v2 r2 w2 ρ2 (s1.trans s2) I2 R2 q3
  | false =>
    show tb σ w1.H Q
    exact hb.run w1 σ ρ1 _ _ (C.cl _ _ hA s1) I1 q1 fun v2 r2 w2 ρ2 s2 I2 R2 q3 => k v2 r2 w2 ρ2 (s1.trans s2) I2 R2 q3
/-- -x -/
def dNeg (da : TED) : TED := fun ρ Q => da ρ fun r ρ1 => vw ρ1 r fun x => match x with | .int i => Q (.d (.int (-i))) ρ1 | _ => False
theorem de_neg (ha : DE C a ta da) : DE C (.UnaryOp .USub a pos) (tUn (rU fun i => .int (-i)) ta) (dNeg da) := by
  refine ⟨pe_un un_neg ha.pe, fun w σ ρ Q QD hA I q k => ?_⟩
  refine ha.run w σ ρ _ _ hA I q fun u r1 w1 ρ1 s1 I1 R1 q1 => ?_
  obtain ⟨x, tx, q2⟩ := vw_top I1 R1 q1
  cases x with
  | int i =>
    cases tx
    exact ⟨i, rfl, k _ (.d (.int (-i))) w1 ρ1 s1 I1 (.int _) q2⟩
  | _ => exact q2.elim

/-! ### items, displays -/
def dNil : TND := fun ρ Q => Q [] ρ
def dCons (da : TED) (dr : TND) : TND := fun ρ Q => da ρ fun r ρ1 => frz ρ1 r fun d ρ2 => dr ρ2 fun ds ρ3 => Q (d :: ds) ρ3
variable {es : List Expr} {tr : TA} {dr : TND}
theorem da_nil : DA C [] tNil dNil := ⟨pa_nil, fun w σ ρ Q QD hA I q k => k [] [] w ρ (Stp.refl w) I .nil q⟩
theorem da_cons (ha : DE C e te de) (hr : DA C es tr dr) (hs : starEach (e :: es) X.env = (false, eval e X.env) :: starEach es X.env := by rfl) : DA C (e :: es) (tCons te tr) (dCons de dr) := by
  refine ⟨pa_cons ha.pe hr.pa hs, fun w σ ρ Q QD hA I q k => ?_⟩
  refine ha.run w σ ρ _ _ hA I q fun u r1 w1 ρ1 s1 I1 R1 q1 => ?_
  obtain ⟨d, ρ2, w2, I2, s2, hh, hrep, q2⟩ := frz_ok I1 R1 q1
  rw [← hh]
  have s12 := s1.trans s2
  exact hr.run w2 σ ρ2 _ _ (C.cl _ _ hA s12) I2 q2 fun vs ds w3 ρ3 s3 I3 R3 q3 => k (u :: vs) (d :: ds) w3 ρ3 (s12.trans s3) I3 (.cons (rep_mono s3.g _ _ hrep) R3) q3
def dTup (dr : TND) : TED := fun ρ Q => dr ρ fun ds ρ1 => ds.length ≤ sizeLine ∧ Q (.d (.tuple ds)) ρ1
theorem de_tup {k0} (h : DA C es tr dr) : DE C (.Tuple es k0 pos) (tTup tr) (dTup dr) := by
  refine ⟨pe_tup h.pa, fun w σ ρ Q QD hA I q k => ?_⟩
  refine h.run w σ ρ _ _ hA I q fun vs ds w1 ρ1 s1 I1 R1 q1 => ?_
  obtain ⟨hl, q1⟩ := q1
  refine ⟨by rw [R1.len]; exact hl, fun p hp => ?_⟩
  obtain ⟨I2, s2⟩ := I1.new (o := .tup vs) hp
  exact k (.ref p) (.d (.tuple ds)) _ ρ1 (s1.trans s2) I2 (.tup (SqT.of upd_same) (reps_mono s2.g _ _ R1)) q1
def nLst (dr : TND) : TND := fun ρ Q => dr ρ fun ds ρ1 => ds.length ≤ sizeLine ∧ Q ds ρ1
theorem FI.air {P : Par} {w : Wd} {σ : St} {ρ : DSt} {p : Addr} {o : HO} (I : FI X.K P w σ ρ) (hp : w.H p = none) : FI X.K P ⟨w.G, upd w.H p o, w.F⟩ σ ρ ∧ Stp w ⟨w.G, upd w.H p o, w.F⟩ := by
  obtain ⟨hg, np⟩ := I.fresh hp
  exact ⟨⟨fun b u h => same_new hp b u (I.gh b u h), I.len, fun i s e => (I.ok i s e).go (fun _ _ h => h) fun b _ u h => same_new hp b u h, I.out, fun i b hb => ⟨(I.foot i b hb).1, there_new b (I.foot i b hb).2⟩, I.sep⟩,
    ⟨fun _ _ h => h, fun _ _ h _ => h, fun b u h _ => same_new hp b u h, there_new, fun i b hb => .inl hb⟩⟩
theorem dn_lst (h : DA C es tr dr) : DN C (.List es pos) (tLst tr) (nLst dr) := by
  refine ⟨pe_lst h.pa, fun w σ ρ Q QD hA I q k => ?_⟩
  refine h.run w σ ρ _ _ hA I q fun vs ds w1 ρ1 s1 I1 R1 q1 => ?_
  obtain ⟨hl, q1⟩ := q1
  refine ⟨by rw [R1.len]; exact hl, fun p hp => ?_⟩
  obtain ⟨I2, s2⟩ := FI.air I1 (o := .lst vs) hp
  refine k p vs ds ⟨w1.G, upd w1.H p (.lst vs), w1.F⟩ ρ1 (s1.trans s2) I2 ?_ (I1.fresh hp).1 (fun i z => (I1.fresh hp).2 i p z rfl) upd_same R1 q1
  cases e0 : w.H p with
  | none => rfl
  | some o => exact absurd hp (s1.t p (by rw [e0]; exact fun z => nomatch z))
/-- a new list, left to stay -/
def dNew (t : TND) : TED := fun ρ Q => t ρ fun ds ρ1 => Q (.d (.list ds)) ρ1
theorem stay {P : Par} {w w1 : Wd} {σ : St} {ρ : DSt} {a : Addr} {vs : List V} {ds : List PyData} (s1 : Stp w w1) (I1 : FI X.K P w1 σ ρ) (n0 : w.H a = none) (hg : w1.G a = none) (hf : ∀ i, a ∉ w1.F i) (hh : w1.H a = some (.lst vs)) (hr : Reps X.K w1.G vs ds) :
    FI X.K P ⟨upd w1.G a (.lst vs), w1.H, w1.F⟩ σ ρ ∧ Stp w ⟨upd w1.G a (.lst vs), w1.H, w1.F⟩ ∧ Rep X.K (upd w1.G a (.lst vs)) (.ref a) (.list ds) := by
  refine ⟨⟨fun b u e => ?_, I1.len, fun i s e => (I1.ok i s e).go (same_new hg) fun _ _ _ h => h, I1.out, fun i b hb => ⟨?_, (I1.foot i b hb).2⟩, I1.sep⟩,
    ⟨fun b u h => same_new hg b u (s1.g b u h), fun b h1 h2 h3 => ?_, s1.h, s1.t, s1.f⟩, .lst upd_same (reps_mono (same_new hg) _ _ hr)⟩
  · have e : upd w1.G a (.lst vs) b = some u := e
    show w1.H b = some u
    by_cases q : b = a
    · subst q
      rw [upd_same] at e
      rw [hh]; exact e
    · rw [upd_ne q] at e
      exact I1.gh b u e
  · show upd w1.G a (.lst vs) b = none
    rw [upd_ne (fun z => hf i (by rw [← z]; exact hb))]
    exact (I1.foot i b hb).1
  · show upd w1.G a (.lst vs) b = none
    rw [upd_ne (fun z => h1 (by rw [z]; exact n0))]
    exact s1.gf b h1 h2 h3
theorem de_new {t : TND} (h : DN C e te t) : DE C e te (dNew t) := by
  refine ⟨h.pe, fun w σ ρ Q QD hA I q k => ?_⟩
  refine h.run w σ ρ _ _ hA I q fun a vs ds w1 ρ1 s1 I1 n0 hg hf hh hr q1 => ?_
  obtain ⟨I2, s2, r2⟩ := stay s1 I1 n0 hg hf hh hr
  exact k (.ref a) (.d (.list ds)) ⟨upd w1.G a (.lst vs), w1.H, w1.F⟩ ρ1 s2 I2 r2 q1

/-! ### subscripts -/
def atD (x y : PyData) (k : PyData → Prop) : Prop := match x, y with
  | .tuple ds, .int i => (match atI ds i with | some d => k d | none => False)
  | .list ds, .int i => (match atI ds i with | some d => k d | none => False)
  | _, _ => False
theorem atI_rep {G : Hp} {vs : List V} {ds : List PyData} {i : Int} {d : PyData} (r : Reps X.K G vs ds) (h : atI ds i = some d) : ∃ v, atI vs i = some v ∧ Rep X.K G v d := by
  unfold atI at h ⊢
  rw [r.len]
  cases e : ixN ds.length i with
  | none => rw [e] at h; cases h
  | some j =>
    rw [e] at h
    exact r.get (show ds[j]? = some d from h)
theorem atD_inv {x y : PyData} {k : PyData → Prop} (h : atD x y k) : ∃ ds i d, (x = .tuple ds ∨ x = .list ds) ∧ y = .int i ∧ atI ds i = some d ∧ k d := by
  unfold atD at h
  split at h
  · split at h
    · exact ⟨_, _, _, .inl rfl, rfl, by assumption, h⟩
    · exact h.elim
  · split at h
    · exact ⟨_, _, _, .inr rfl, rfl, by assumption, h⟩
    · exact h.elim
  · exact h.elim
theorem de_ix (ha : DE C a ta da) (hb : DE C b tb db) (hs : PlainIx b := by intro _ _; rfl) : DE C (.Subscript a b pos) (tOp (rIx X.K) ta tb) (dOp atD da db) := by
  refine ⟨pe_ix ix_seq ha.pe hb.pe hs, op_run (fun w σ ρ u v x y Q kd hA I tx ty h k => ?_) ha hb⟩
  obtain ⟨ds, i, d, hx, rfl, hi, q⟩ := atD_inv h
  cases ty
  rcases hx with rfl | rfl
  · cases tx with
    | tup hs hr =>
      obtain ⟨z, hz, rz⟩ := atI_rep hr hi
      exact .inr (.inl ⟨_, _, i, z, rfl, rfl, sqt_mono I.gh hs, hz, k z d w (Stp.refl w) I rz q⟩)
  · obtain ⟨p, vs, rfl, hs, hr⟩ := tx
    obtain ⟨z, hz, rz⟩ := atI_rep hr hi
    exact .inl ⟨p, vs, i, z, rfl, rfl, SqL.of hs, hz, k z d w (Stp.refl w) I rz q⟩
end
end DL

end
section
set_option maxHeartbeats 4000000
/-! DLC: statements, targets, loops, comprehensions as readings over data. -/
namespace DL
open PySem PySem.Spec L2

/-- what a def gives back: a datum that stays, a new list -/
inductive Ret where
  | d (x : PyData) | n (ds : List PyData)
def RepRet (K : PySem.W.Frag) (N : Addr → Prop) (w : Wd) (v : V) : Ret → Prop
  | .d x => Rep K w.G v x
  | .n ds => ∃ a vs, v = .ref a ∧ N a ∧ w.G a = none ∧ (∀ i, a ∉ w.F i) ∧ w.H a = some (.lst vs) ∧ Reps K w.G vs ds
structure DEnds where
  nx : DSt → Prop
  rt : Ret → DSt → Prop
  bk : DSt → Prop := fun _ => False
  ct : DSt → Prop := fun _ => False
abbrev TSD := DEnds → DSt → Prop

section
variable {X : Cx}
/-- ends over data and ends over values meet, from the world w on -/
structure EndsOk (C : DC X) (w : Wd) (D : Ends) (DD : DEnds) : Prop where
  nx : ∀ w' σ' ρ', Stp w w' → FI X.K C.P w' σ' ρ' → DD.nx ρ' → D.nx σ' w'.H
  rt : ∀ v r w' σ' ρ', Stp w w' → FI X.K C.P w' σ' ρ' → RepRet X.K C.P.N w' v r → DD.rt r ρ' → D.rt v w'.H
  bk : ∀ w' σ' ρ', Stp w w' → FI X.K C.P w' σ' ρ' → DD.bk ρ' → D.bk σ' w'.H
  ct : ∀ w' σ' ρ', Stp w w' → FI X.K C.P w' σ' ρ' → DD.ct ρ' → D.ct σ' w'.H
structure DS (C : DC X) (st : Stmt) (ts : TS) (t : TSD) : Prop where
  ps : PS X st ts
  run : ∀ (w : Wd) (σ : St) (ρ : DSt) (D : Ends) (DD : DEnds), C.A w → FI X.K C.P w σ ρ → t DD ρ → EndsOk C w D DD → ts D σ w.H
structure DSs (C : DC X) (sts : List Stmt) (ts : TS) (t : TSD) : Prop where
  pss : PSs X sts ts
  run : ∀ (w : Wd) (σ : St) (ρ : DSt) (D : Ends) (DD : DEnds), C.A w → FI X.K C.P w σ ρ → t DD ρ → EndsOk C w D DD → ts D σ w.H
theorem EndsOk.step {C : DC X} {w w1 : Wd} {D : Ends} {DD : DEnds} (s : Stp w w1) (e : EndsOk C w D DD) : EndsOk C w1 D DD :=
  ⟨fun w' σ' ρ' s' => e.nx w' σ' ρ' (s.trans s'), fun v r w' σ' ρ' s' => e.rt v r w' σ' ρ' (s.trans s'), fun w' σ' ρ' s' => e.bk w' σ' ρ' (s.trans s'), fun w' σ' ρ' s' => e.ct w' σ' ρ' (s.trans s')⟩
variable {C : DC X} {st : Stmt} {rest body : List Stmt} {ts tr : TS} {t u : TSD} {a b c e tg iter : Expr} {ta te : TE} {da de : TED} {pos : Pos}

/-! ### blocks -/
def sNext : TSD := fun D ρ => D.nx ρ
def sSeq (t u : TSD) : TSD := fun D ρ => t { D with nx := u D } ρ
theorem dss_nil : DSs C [] tNext sNext := ⟨pss_nil, fun w σ ρ D DD hA I q k => k.nx w σ ρ (Stp.refl w) I q⟩
theorem dss_cons (h1 : DS C st ts t) (h2 : DSs C rest tr u) : DSs C (st :: rest) (tSeq ts tr) (sSeq t u) := by
  refine ⟨pss_cons h1.ps h2.pss, fun w σ ρ D DD hA I q k => ?_⟩
  exact h1.run w σ ρ { D with nx := tr D } { DD with nx := u DD } hA I q ⟨fun w' σ' ρ' s' I' q' => h2.run w' σ' ρ' D DD (C.cl _ _ hA s') I' q' (k.step s'), k.rt, k.bk, k.ct⟩
theorem dss_one (h1 : DS C st ts t) : DSs C [st] ts t := ⟨pss_one h1.ps, h1.run⟩
theorem ds_pass : DS C (.Pass pos) tNext sNext := ⟨ps_pass, fun w σ ρ D DD hA I q k => k.nx w σ ρ (Stp.refl w) I q⟩
def sBreak : TSD := fun D ρ => D.bk ρ
def sCont : TSD := fun D ρ => D.ct ρ
theorem ds_break : DS C (.Break pos) tBreak sBreak := ⟨ps_break, fun w σ ρ D DD hA I q k => k.bk w σ ρ (Stp.refl w) I q⟩
theorem ds_continue : DS C (.Continue pos) tCont sCont := ⟨ps_continue, fun w σ ρ D DD hA I q k => k.ct w σ ρ (Stp.refl w) I q⟩
def sDrop (de : TED) : TSD := fun D ρ => de ρ fun _ ρ1 => D.nx ρ1
theorem ds_expr (h : DE C e te de) (hs : swapsWith e none pos.line X.env = pure false := by rfl) : DS C (.Expr e pos) (tDrop te) (sDrop de) :=
  ⟨ps_expr h.pe hs, fun w σ ρ D DD hA I q k => h.run w σ ρ _ _ hA I q fun v r w1 ρ1 s1 I1 R1 q1 => k.nx w1 σ ρ1 s1 I1 q1⟩

/-! ### return -/
def sRet (de : TED) : TSD := fun D ρ => de ρ fun r ρ1 => frz ρ1 r fun d ρ2 => D.rt (.d d) ρ2
theorem ds_ret (h : DE C e te de) : DS C (.Return (some e) pos) (tRet te) (sRet de) := by
  refine ⟨ps_ret h.pe, fun w σ ρ D DD hA I q k => ?_⟩
  refine h.run w σ ρ _ _ hA I q fun v r w1 ρ1 s1 I1 R1 q1 => ?_
  obtain ⟨d, ρ2, w2, I2, s2, hh, hrep, q2⟩ := frz_ok I1 R1 q1
  rw [← hh]
  exact k.rt v (.d d) w2 σ ρ2 (s1.trans s2) I2 hrep q2
def sRetN (t : TND) : TSD := fun D ρ => t ρ fun ds ρ1 => D.rt (.n ds) ρ1
/-- return of a list just made -/
theorem ds_retN {t : TND} (h : DN C e te t) : DS C (.Return (some e) pos) (tRet te) (sRetN t) :=
  ⟨ps_ret h.pe, fun w σ ρ D DD hA I q k => h.run w σ ρ _ _ hA I q fun a vs ds w1 ρ1 s1 I1 n0 hg hf hh hr q1 => k.rt (.ref a) (.n ds) w1 σ ρ1 s1 I1 ⟨a, vs, rfl, C.nw w a hA n0, hg, hf, hh, hr⟩ q1⟩
/-- return of a list that the def has filled itself, slot i -/
def sRetOwn (i : Nat) : TSD := fun D ρ => match ρ[i]? with
  | some (.own false ds) => D.rt (.n ds) (ρ.set i .no)
  | _ => False
theorem FI.drop {K : PySem.W.Frag} {P : Par} {w : Wd} {σ : St} {ρ : DSt} (I : FI K P w σ ρ) (i : Nat) : FI K P ⟨w.G, w.H, fun j => if j = i then [] else w.F j⟩ σ (ρ.set i .no) ∧ Stp w ⟨w.G, w.H, fun j => if j = i then [] else w.F j⟩ := by
  have sub : ∀ j b, b ∈ (if j = i then ([] : List Addr) else w.F j) → b ∈ w.F j := fun j b hb => by
    by_cases e : j = i
    · rw [if_pos e] at hb; cases hb
    · rw [if_neg e] at hb; exact hb
  refine ⟨⟨I.gh, by rw [List.length_set]; exact I.len, fun j s e => ?_, fun j hj => ?_, fun j b hb => I.foot j b (sub j b hb), fun j l b hjl hb hb' => I.sep j l b hjl (sub j b hb) (sub l b hb')⟩,
    ⟨fun _ _ h => h, fun _ _ h _ => h, fun _ _ h _ => h, fun _ h => h, fun j b hb => .inl (sub j b hb)⟩⟩
  · by_cases hj : i = j
    · subst hj
      have hlt : i < ρ.length := by
        rcases Nat.lt_or_ge i ρ.length with q | q
        · exact q
        · rw [List.getElem?_eq_none (by rw [List.length_set]; exact q)] at e; cases e
      rw [List.getElem?_set_self hlt] at e
      cases e
      exact if_pos rfl
    · rw [List.getElem?_set_ne hj] at e
      show slotOk K P.σ0[j]? P.N _ (if j = i then [] else w.F j) σ[j]? s
      rw [if_neg (Ne.symm hj)]
      exact (I.ok j s e).go (fun _ _ h => h) fun _ _ _ h => h
  · show (if j = i then [] else w.F j) = []
    by_cases e : j = i
    · rw [if_pos e]
    · rw [if_neg e]; exact I.out j (by rw [← List.length_set (as := ρ)]; exact hj)
theorem ds_retOwn (i : Nat) {x : Str} {p : Pos} (hN : X.N[i]? = some x := by rfl) (hv : Vis X.env.scope x := by first | exact Or.inl rfl | exact Or.inr (Or.inl rfl) | exact Or.inr (Or.inr rfl)) (hd : (x == ("__debug__" : Str)) = false := by decide)
    (hcd : (x == ("__classdict__" : Str)) = false := by decide) : DS C (.Return (some (.Name x p)) pos) (tRet (tVar i)) (sRetOwn i) := by
  refine ⟨ps_ret (pe_var hN hv hd hcd), fun w σ ρ D DD hA I q k => ?_⟩
  have q : (match ρ[i]? with
    | some (.own false ds) => DD.rt (.n ds) (ρ.set i .no)
    | _ => False) := q
  cases e : ρ[i]? with
  | none => rw [e] at q; exact q.elim
  | some s =>
    rw [e] at q
    cases s with
    | no => exact q.elim
    | val _ => exact q.elim
    | res _ _ => exact q.elim
    | own io ds =>
      cases io with
      | true => exact q.elim
      | false =>
        obtain ⟨a, vs, h1, h2, h3, h4, h5⟩ := I.ok i _ e
        obtain ⟨I2, s2⟩ := I.drop i
        have ha : a ∈ w.F i := by rw [h2]; exact List.mem_cons_self
        refine ⟨.ref a, h1, k.rt (.ref a) (.n ds) ⟨w.G, w.H, fun j => if j = i then [] else w.F j⟩ σ _ s2 I2 ⟨a, vs, rfl, h5.2 rfl, (I.foot i a ha).1, fun j hj => ?_, h3, h4⟩ q⟩
        have hj : a ∈ (if j = i then [] else w.F j) := hj
        by_cases z : j = i
        · rw [if_pos z] at hj; cases hj
        · rw [if_neg z] at hj
          exact I.sep j i a z hj ha
def sRetU : TSD := fun D ρ => D.rt (.d .none) ρ
theorem ds_retU : DS C (.Return none pos) tRetN sRetU := ⟨ps_retN, fun w σ ρ D DD hA I q k => k.rt .non (.d .none) w σ ρ (Stp.refl w) I .non q⟩

/-! ### targets -/
abbrev TGD := PyData → DSt → (DSt → Prop) → Prop
/-- a target that stores at the slots of T alone -/
structure DG (C : DC X) (tg : Expr) (g : TG) (T : List Nat) (d : TGD) : Prop where
  pg : PG X tg g
  run : ∀ (w : Wd) (σ : St) (ρ : DSt) (v : V) (x : PyData) (Q : St → Hp → Prop) (QD : DSt → Prop), C.A w → FI X.K C.P w σ ρ → Rep X.K w.G v x → d x ρ QD →
    (∀ w' σ' ρ', Stp w w' → FI X.K C.P w' σ' ρ' → (∀ vs : List Nat, (∀ i ∈ T, i ∈ vs) → wipe σ' vs = wipe σ vs) → QD ρ' → Q σ' w'.H) → g v σ w.H Q
def gName' (i : Nat) : TGD := fun x ρ k => k (ρ.set i (.val x))
theorem wipe_set {σ : St} {i : Nat} {o : Option V} : ∀ {vs : List Nat}, i ∈ vs → wipe (σ.set i o) vs = wipe σ vs
  | v :: vs, h => by
    show (wipe (σ.set i o) vs).set v none = (wipe σ vs).set v none
    by_cases hv : i ∈ vs
    · rw [wipe_set hv]
    · have e : v = i := by
        rcases List.mem_cons.mp h with q | q
        · exact q.symm
        · exact absurd q hv
      subst e
      have out : ∀ (τ : St) (ws : List Nat), v ∉ ws → wipe (τ.set v o) ws = (wipe τ ws).set v o := by
        intro τ ws
        induction ws with
        | nil => intro _; rfl
        | cons z zs ih =>
          intro hz
          show (wipe (τ.set v o) zs).set z none = ((wipe τ zs).set z none).set v o
          rw [ih fun q => hz (List.mem_cons_of_mem _ q), List.set_comm _ _ (fun q => hz (by rw [q]; exact List.mem_cons_self))]
      rw [out σ vs hv, List.set_set]
theorem dg_name (i : Nat) {x : Str} (hi : X.N[i]? = some x := by rfl) (hx : Loc X.env.scope x := by first | exact Or.inl rfl | exact Or.inr rfl) (hf : X.fn x = true ∨ X.env.scope.names.lookup x = some .local := by first | exact .inl rfl | exact .inr rfl) :
    DG C (.Name x pos) (gName i) [i] (gName' i) :=
  ⟨pg_name C.nd hi hx hf, fun w σ ρ v d Q QD hA I hr q k => k ⟨w.G, w.H, fun j => if j = i then [] else w.F j⟩ _ _ (I.set hr).2 (I.set hr).1 (fun vs h => wipe_set (h i List.mem_cons_self)) q⟩
abbrev TGsD := List PyData → DSt → (DSt → Prop) → Prop
structure DGs (C : DC X) (tgs : List Expr) (g : TGs) (T : List Nat) (d : TGsD) : Prop where
  pgs : PGs X tgs g
  run : ∀ (w : Wd) (σ : St) (ρ : DSt) (vs : List V) (xs : List PyData) (Q : St → Hp → Prop) (QD : DSt → Prop), C.A w → FI X.K C.P w σ ρ → Reps X.K w.G vs xs → d xs ρ QD →
    (∀ w' σ' ρ', Stp w w' → FI X.K C.P w' σ' ρ' → (∀ vs : List Nat, (∀ i ∈ T, i ∈ vs) → wipe σ' vs = wipe σ vs) → QD ρ' → Q σ' w'.H) → g vs σ w.H Q
def gNil' : TGsD := fun xs ρ k => match xs with | [] => k ρ | _ => False
def gCons' (g : TGD) (r : TGsD) : TGsD := fun xs ρ k => match xs with | x :: xs => g x ρ fun ρ1 => r xs ρ1 k | [] => False
theorem dgs_nil : DGs C [] gNil [] gNil' := by
  refine ⟨pgs_nil, fun w σ ρ vs xs Q QD hA I hr q k => ?_⟩
  cases hr with
  | nil => exact ⟨rfl, k w σ ρ (Stp.refl w) I (fun _ _ => rfl) q⟩
  | cons _ _ => exact q.elim
theorem dgs_cons {tgs : List Expr} {g : TG} {gs : TGs} {T Ts : List Nat} {d : TGD} {ds : TGsD} (h1 : DG C tg g T d) (h2 : DGs C tgs gs Ts ds) (hs : (assignEach (tg :: tgs) X.env).map (·.2) = assign tg X.env :: (assignEach tgs X.env).map (·.2) := by rfl) :
    DGs C (tg :: tgs) (gCons g gs) (T ++ Ts) (gCons' d ds) := by
  refine ⟨pgs_cons h1.pg h2.pgs hs, fun w σ ρ vs xs Q QD hA I hr q k => ?_⟩
  cases hr with
  | nil => exact q.elim
  | cons r rs =>
    refine ⟨_, _, rfl, h1.run w σ ρ _ _ _ _ hA I r q fun w1 σ1 ρ1 s1 I1 e1 q1 => ?_⟩
    refine h2.run w1 σ1 ρ1 _ _ _ _ (C.cl _ _ hA s1) I1 (reps_mono s1.g _ _ rs) q1 fun w2 σ2 ρ2 s2 I2 e2 q2 => k w2 σ2 ρ2 (s1.trans s2) I2 (fun vs h => ?_) q2
    rw [e2 vs fun i hi => h i (List.mem_append_right _ hi), e1 vs fun i hi => h i (List.mem_append_left _ hi)]
def gTup' (r : TGsD) : TGD := fun x ρ k => match x with | .tuple xs => r xs ρ k | _ => False
def lenIs (n : Nat) (r : TGsD) : TGsD := fun xs ρ k => xs.length = n ∧ r xs ρ k
theorem dg_tup {tgs : List Expr} {gs : TGs} {T : List Nat} {ds : TGsD} {k0 : Nat} {n : Nat} (h : DGs C tgs gs T ds) (hn : (assignEach tgs X.env).length = n := by rfl) (hst : (assignEach tgs X.env).findIdx? (·.1) = none := by rfl) :
    DG C (.Tuple tgs k0 pos) (gTup X.K n gs) T (gTup' (lenIs n ds)) := by
  refine ⟨pg_tup C.calm h.pgs hn hst, fun w σ ρ v x Q QD hA I hr q k => ?_⟩
  cases x with
  | tuple xs =>
    cases hr with
    | tup hs ha =>
      obtain ⟨hl, q⟩ := q
      exact ⟨_, _, rfl, sqt_mono I.gh hs, by rw [ha.len]; exact hl, h.run w σ ρ _ _ _ _ hA I ha q k⟩
  | _ => exact q.elim

/-! ### assignments -/
/-- name = value -/
def sSet (i : Nat) (de : TED) : TSD := fun D ρ => de ρ fun r ρ1 => frz ρ1 r fun d ρ2 => D.nx (ρ2.set i (.val d))
theorem ds_set (i : Nat) {x : Str} {px : Pos} (h : DE C e te de) (hi : X.N[i]? = some x := by rfl) (hx : Loc X.env.scope x := by first | exact Or.inl rfl | exact Or.inr rfl) (hs : swapsWith e (some (.Name x px)) pos.line X.env = pure false := by rfl)
    (hf : X.fn x = true ∨ X.env.scope.names.lookup x = some .local := by first | exact .inl rfl | exact .inr rfl) : DS C (.Assign [.Name x px] e pos) (tAsg te (gName i)) (sSet i de) := by
  refine ⟨ps_set C.nd hi hx h.pe hs hf, fun w σ ρ D DD hA I q k => ?_⟩
  refine h.run w σ ρ _ _ hA I q fun v r w1 ρ1 s1 I1 R1 q1 => ?_
  obtain ⟨d, ρ2, w2, I2, s2, hh, hrep, q2⟩ := frz_ok I1 R1 q1
  rw [← hh]
  have z := I2.set (i := i) hrep
  exact k.nx ⟨w2.G, w2.H, fun j => if j = i then [] else w2.F j⟩ _ _ ((s1.trans s2).trans z.2) z.1 q2
/-- name = a new list, the name's own from now on -/
def sOwn (i : Nat) (t : TND) : TSD := fun D ρ => t ρ fun ds ρ1 => i < ρ1.length ∧ D.nx (ρ1.set i (.own false ds))
theorem ds_own (i : Nat) {x : Str} {px : Pos} {t : TND} (h : DN C e te t) (hi : X.N[i]? = some x := by rfl) (hx : Loc X.env.scope x := by first | exact Or.inl rfl | exact Or.inr rfl) (hs : swapsWith e (some (.Name x px)) pos.line X.env = pure false := by rfl)
    (hf : X.fn x = true ∨ X.env.scope.names.lookup x = some .local := by first | exact .inl rfl | exact .inr rfl) : DS C (.Assign [.Name x px] e pos) (tAsg te (gName i)) (sOwn i t) := by
  refine ⟨ps_set C.nd hi hx h.pe hs hf, fun w σ ρ D DD hA I q k => ?_⟩
  refine h.run w σ ρ _ _ hA I q fun a vs ds w1 ρ1 s1 I1 n0 hg hf' hh hr q1 => ?_
  have z := I1.setOwn (i := i) hf' hg hh hr (C.nw w a hA n0) q1.1
  refine k.nx ⟨w1.G, w1.H, fun j => if j = i then [a] else w1.F j⟩ _ _ ⟨s1.g, s1.gf, s1.h, s1.t, fun j b hb => ?_⟩ z q1.2
  have hb : b ∈ (if j = i then [a] else w1.F j) := hb
  by_cases e : j = i
  · rw [if_pos e] at hb
    have : b = a := by simpa using hb
    rw [this]; exact .inr n0
  · rw [if_neg e] at hb
    exact s1.f j b hb
/-- target = value -/
def sAsg (de : TED) (g : TGD) : TSD := fun D ρ => de ρ fun r ρ1 => frz ρ1 r fun d ρ2 => g d ρ2 D.nx
theorem ds_asg {g : TG} {T : List Nat} {d : TGD} (h : DE C e te de) (hg : DG C tg g T d) (hs : swapsWithSole [tg] e pos.line X.env = pure false := by rfl) (hw : swappedStores [tg] e X.env = pure none := by rfl)
    (h1 : (assignEach [tg] X.env).map (·.2) = [assign tg X.env] := by rfl) : DS C (.Assign [tg] e pos) (tAsg te g) (sAsg de d) := by
  refine ⟨ps_asg h.pe hg.pg hs hw h1, fun w σ ρ D DD hA I q k => ?_⟩
  refine h.run w σ ρ _ _ hA I q fun v r w1 ρ1 s1 I1 R1 q1 => ?_
  obtain ⟨x, ρ2, w2, I2, s2, hh, hrep, q2⟩ := frz_ok I1 R1 q1
  rw [← hh]
  exact hg.run w2 σ ρ2 v x _ _ (C.cl _ _ hA (s1.trans s2)) I2 hrep q2 fun w3 σ3 ρ3 s3 I3 _ q3 => k.nx w3 σ3 ρ3 ((s1.trans s2).trans s3) I3 q3
/-- a, b = x, y -/
def sPar (i j : Nat) (t : TND) : TSD := fun D ρ => t ρ fun ds ρ1 => match ds with | [x, y] => D.nx ((ρ1.set i (.val x)).set j (.val y)) | _ => False
variable {ta' : TA} {dr : TND}
theorem ds_par {i j : Nat} {x y : Str} {px py pt : Pos} {kt k2 pt2} (ha : DA C [a, b] ta' dr) (hi : X.N[i]? = some x := by rfl) (hj : X.N[j]? = some y := by rfl) (hij : i ≠ j := by decide)
    (hx : X.env.scope.names.lookup x = some .local := by rfl) (hy : X.env.scope.names.lookup y = some .local := by rfl)
    (hw : swappedStores [.Tuple [.Name x px, .Name y py] kt pt] (.Tuple [a, b] k2 pt2) X.env = pure (some [x, y]) := by rfl)
    (hs : swapsWithSole [.Tuple [.Name x px, .Name y py] kt pt] (.Tuple [a, b] k2 pt2) pos.line X.env = pure false := by rfl) :
    DS C (.Assign [.Tuple [.Name x px, .Name y py] kt pt] (.Tuple [a, b] k2 pt2) pos) (tPar i j ta') (sPar i j dr) := by
  refine ⟨ps_par C.calm C.nd hi hj hij hx hy ha.pa hw hs, fun w σ ρ D DD hA I q k => ?_⟩
  refine ha.run w σ ρ _ _ hA I q fun vs ds w1 ρ1 s1 I1 R1 q1 => ?_
  cases R1 with
  | nil => exact q1.elim
  | cons r1 R1 =>
    cases R1 with
    | nil => exact q1.elim
    | cons r2 R1 =>
      cases R1 with
      | cons _ _ => exact q1.elim
      | nil =>
        have z1 := I1.set (i := i) r1
        have z2 := z1.1.set (i := j) r2
        exact ⟨_, _, rfl, k.nx ⟨w1.G, w1.H, fun j' => if j' = j then [] else if j' = i then [] else w1.F j'⟩ _ _ ((s1.trans z1.2).trans z2.2) z2.1 q1⟩

/-! ### if, while -/
variable {ua : TT} {xa : TTD} {tb : TS} {d1 d2 : TSD}
def sIf (x : TTD) (t u : TSD) : TSD := fun D ρ => x ρ fun b ρ1 => match b with | true => t D ρ1 | false => u D ρ1
theorem ds_if {els : List Stmt} {te' : TS} (hc : DT C c ua xa) (h1 : DSs C body tb d1) (h2 : DSs C els te' d2) : DS C (.If c body els pos) (tIfS ua tb te') (sIf xa d1 d2) := by
  refine ⟨ps_if hc.pt h1.pss h2.pss, fun w σ ρ D DD hA I q k => ?_⟩
  refine hc.run w σ ρ _ _ hA I q fun z w1 ρ1 s1 I1 q1 => ?_
  cases z with
  | true =>
    show tb D σ w1.H
    exact h1.run w1 σ ρ1 D DD (C.cl _ _ hA s1) I1 q1 (k.step s1)
  | false =>
    show te' D σ w1.H
    exact h2.run w1 σ ρ1 D DD (C.cl _ _ hA s1) I1 q1 (k.step s1)
def sWhile (x : TTD) (t : TSD) : TSD := fun D ρ => ∃ W : Nat → DSt → Prop, (∃ m, W m ρ) ∧ ∀ m ρ, W m ρ →
  x ρ fun b ρ1 => match b with
    | true => t { D with nx := fun ρ2 => ∃ m', m' < m ∧ W m' ρ2, ct := fun ρ2 => ∃ m', m' < m ∧ W m' ρ2, bk := D.nx } ρ1
    | false => D.nx ρ1
theorem DC.passes (C : DC X) (hp : PassesOwn (model X.prog X.w) X.A X.env X.xe) : PassesOwn (model X.prog X.w) X.A X.env X.xe := hp
theorem ds_while (hp : PassesOwn (model X.prog X.w) X.A X.env X.xe) (hc : DT C c ua xa) (h1 : DSs C body tb d1) : DS C (.While c body [] pos) (tWhile ua tb) (sWhile xa d1) := by
  refine ⟨ps_while hp hc.pt h1.pss, fun w σ ρ D DD hA I q k => ?_⟩
  obtain ⟨W, ⟨m0, h0⟩, turn⟩ := q
  refine ⟨fun m σ' H' => ∃ w' ρ', w'.H = H' ∧ Stp w w' ∧ FI X.K C.P w' σ' ρ' ∧ W m ρ', ⟨m0, w, ρ, rfl, Stp.refl w, I, h0⟩, ?_⟩
  rintro m σ1 H1 ⟨w1, ρ1, rfl, s1, I1, q1⟩
  refine hc.run w1 σ1 ρ1 _ _ (C.cl _ _ hA s1) I1 (turn m ρ1 q1) fun z w2 ρ2 s2 I2 q2 => ?_
  cases z with
  | false =>
    rw [if_neg Bool.false_ne_true]
    exact k.nx w2 σ1 ρ2 (s1.trans s2) I2 q2
  | true =>
    rw [if_pos rfl]
    refine ⟨fun σ' H' => ∃ m', m' < m ∧ ∃ w' ρ', w'.H = H' ∧ Stp w w' ∧ FI X.K C.P w' σ' ρ' ∧ W m' ρ', fun σ' H' h => h, ?_⟩
    refine h1.run w2 σ1 ρ2 _ _ (C.cl _ _ hA (s1.trans s2)) I2 q2 ⟨fun w' σ' ρ' s' I' h => ?_, fun v r w' σ' ρ' s' I' R' h => k.rt v r w' σ' ρ' ((s1.trans s2).trans s') I' R' h, fun w' σ' ρ' s' I' h => k.nx w' σ' ρ' ((s1.trans s2).trans s') I' h, fun w' σ' ρ' s' I' h => ?_⟩
    · obtain ⟨m', hm, hW⟩ := h
      exact ⟨m', hm, w', ρ', rfl, (s1.trans s2).trans s', I', hW⟩
    · obtain ⟨m', hm, hW⟩ := h
      exact ⟨m', hm, w', ρ', rfl, (s1.trans s2).trans s', I', hW⟩

/-! ### what is walked -/
/-- it walks these data; an item may be a new pair -/
structure WalkD (K : PySem.W.Frag) (G : Hp) (J : It) (items : List PyData) : Prop where
  go : ∀ i H, i < items.length → Same G H → J.go i H
  stop : ∀ H, Same G H → J.stop items.length H
  yld : ∀ i H x H', i < items.length → Same G H → J.yld i H x H' → ∃ d, items[i]? = some d ∧ ((H' = H ∧ Rep K G x d) ∨ ∃ T u1 u2 d1 d2, x = .ref T ∧ H T = none ∧ H' = upd H T (.tup [u1, u2]) ∧ d = .tuple [d1, d2] ∧ Rep K G u1 d1 ∧ Rep K G u2 d2)
structure DI (C : DC X) (tg iter : Expr) (wi : TI) (t : TND) : Prop where
  pi : PI X tg iter wi
  run : ∀ (w : Wd) (σ : St) (ρ : DSt) (Q : It → Hp → Prop) (QD : List PyData → DSt → Prop), C.A w → FI X.K C.P w σ ρ → t ρ QD →
    (∀ J items w' ρ', Stp w w' → FI X.K C.P w' σ ρ' → WalkD X.K w'.G J items → QD items ρ' → Q J w'.H) → wi σ w.H Q
def asInt1 (ds : List PyData) (k : Int → Prop) : Prop := match ds with | [.int j] => k j | _ => False
theorem asInt1_inv {ds : List PyData} {k : Int → Prop} (h : asInt1 ds k) : ∃ j, ds = [.int j] ∧ k j := by
  unfold asInt1 at h
  split at h
  · exact ⟨_, rfl, h⟩
  · exact h.elim
def asInt2 (ds : List PyData) (k : Int → Int → Prop) : Prop := match ds with | [.int i, .int j] => k i j | _ => False
theorem asInt2_inv {ds : List PyData} {k : Int → Int → Prop} (h : asInt2 ds k) : ∃ i j, ds = [.int i, .int j] ∧ k i j := by
  unfold asInt2 at h
  split at h
  · exact ⟨_, _, rfl, h⟩
  · exact h.elim
/-- a range -/
def range1D (dr : TND) : TND := fun ρ Q => dr ρ fun ds ρ1 => asInt1 ds fun j => -(2 ^ 62) ≤ j ∧ j < 2 ^ 62 ∧ Q ((List.range j.toNat).map fun (k : Nat) => .int (k : Int)) ρ1
theorem int_args {K : PySem.W.Frag} {G : Hp} {ns : List Int} {vs : List V} (h : Reps K G vs (ns.map PyData.int)) : vs = ns.map V.int := by
  induction ns generalizing vs with
  | nil => cases h; rfl
  | cons n ns ih =>
    cases h with
    | cons h1 h2 => cases h1; rw [ih h2]; rfl
theorem di_range1 {p : Pos} (hg : Gl X "range") (hm : X.mg "range" = none) (ha : DA C [a] ta' dr) (hs : starEach [a] X.env = [(false, eval a X.env)] := by rfl) : DI C tg (.Call (.Name "range" p) [a] [] pos) (iRng1 ta') (range1D dr) := by
  refine ⟨pi_range1 hg hm ha.pa hs, fun w σ ρ Q QD hA I q k => ?_⟩
  refine ha.run w σ ρ _ _ hA I q fun vs ds w1 ρ1 s1 I1 R1 q1 => ?_
  obtain ⟨j, rfl, h1, h2, q2⟩ := asInt1_inv q1
  have e := int_args (ns := [j]) R1
  subst e
  refine ⟨j, rfl, h1, h2, k _ _ w1 ρ1 s1 I1 ⟨fun i H hi _ => ?_, fun H _ => ?_, fun i H x H' hi _ y => ?_⟩ q2⟩
  · rw [List.length_map, List.length_range] at hi; exact hi
  · rw [List.length_map, List.length_range]; exact Nat.le_refl _
  · rw [List.length_map, List.length_range] at hi
    obtain ⟨rfl, rfl⟩ := y
    refine ⟨.int (i : Int), by rw [List.getElem?_map, List.getElem?_range hi]; rfl, .inl ⟨rfl, ?_⟩⟩
    have e0 : (0 : Int) + (i : Int) = (i : Int) := Int.zero_add _
    rw [e0]
    exact .int _
def range2D (dr : TND) : TND := fun ρ Q => dr ρ fun ds ρ1 => asInt2 ds fun i j => (-(2 ^ 62) ≤ i ∧ i < 2 ^ 62 ∧ -(2 ^ 62) ≤ j ∧ j < 2 ^ 62) ∧ Q ((List.range (j - i).toNat).map fun (k : Nat) => .int (i + (k : Int))) ρ1
theorem di_range2 {p : Pos} (hg : Gl X "range") (hm : X.mg "range" = none) (ha : DA C [a, b] ta' dr) (hs : starEach [a, b] X.env = [(false, eval a X.env), (false, eval b X.env)] := by rfl) (hs2 : starEach [b] X.env = [(false, eval b X.env)] := by rfl) :
    DI C tg (.Call (.Name "range" p) [a, b] [] pos) (iRng2 ta') (range2D dr) := by
  refine ⟨pi_range2 hg hm ha.pa hs hs2, fun w σ ρ Q QD hA I q k => ?_⟩
  refine ha.run w σ ρ _ _ hA I q fun vs ds w1 ρ1 s1 I1 R1 q1 => ?_
  obtain ⟨lo, j, rfl, h1, q2⟩ := asInt2_inv q1
  have e := int_args (ns := [lo, j]) R1
  subst e
  refine ⟨lo, j, rfl, h1, k _ _ w1 ρ1 s1 I1 ⟨fun i H hi _ => ?_, fun H _ => ?_, fun i H x H' hi _ y => ?_⟩ q2⟩
  · rw [List.length_map, List.length_range] at hi; exact hi
  · rw [List.length_map, List.length_range]; exact Nat.le_refl _
  · rw [List.length_map, List.length_range] at hi
    obtain ⟨rfl, rfl⟩ := y
    exact ⟨.int (lo + (i : Int)), by rw [List.getElem?_map, List.getElem?_range hi]; rfl, .inl ⟨rfl, .int _⟩⟩
/-- a list, a tuple -/
def itemsD (de : TED) : TND := fun ρ Q => de ρ fun r ρ1 => frz ρ1 r fun d ρ2 => match d with | .list ds => Q ds ρ2 | _ => False
def itemsT (de : TED) : TND := fun ρ Q => de ρ fun r ρ1 => frz ρ1 r fun d ρ2 => match d with | .tuple ds => Q ds ρ2 | _ => False
theorem walkd_list {K : PySem.W.Frag} {G : Hp} {l : Addr} {vs : List V} {ds : List PyData} (h : G l = some (.lst vs)) (hr : Reps K G vs ds) : WalkD K G (Itl K l) ds := by
  refine ⟨fun i H hi s => ?_, fun H s => ⟨vs, SqL.of (s _ _ h), by rw [hr.len]; exact Nat.le_refl _⟩, fun i H x H' hi s y => ?_⟩
  · have hi' : i < vs.length := by rw [hr.len]; exact hi
    exact ⟨vs, vs[i], SqL.of (s _ _ h), by simp [hi']⟩
  · have e := y.2 vs (SqL.of (s _ _ h))
    obtain ⟨d, h1, h2⟩ := hr.get' e
    exact ⟨d, h1, .inl ⟨y.1, h2⟩⟩
theorem walkd_tup {K : PySem.W.Frag} {G : Hp} {l : Addr} {vs : List V} {ds : List PyData} (h : SqT K G l vs) (hr : Reps K G vs ds) : WalkD K G (Itt K l) ds := by
  refine ⟨fun i H hi s => ?_, fun H s => ⟨vs, sqt_mono s h, by rw [hr.len]; exact Nat.le_refl _⟩, fun i H x H' hi s y => ?_⟩
  · have hi' : i < vs.length := by rw [hr.len]; exact hi
    exact ⟨vs, vs[i], sqt_mono s h, by simp [hi']⟩
  · have e := y.2 vs (sqt_mono s h)
    obtain ⟨d, h1, h2⟩ := hr.get' e
    exact ⟨d, h1, .inl ⟨y.1, h2⟩⟩
theorem di_list (h : DE C e te de) : DI C tg e (iList X.K te) (itemsD de) := by
  refine ⟨pi_list h.pe, fun w σ ρ Q QD hA I q k => ?_⟩
  refine h.run w σ ρ _ _ hA I q fun v r w1 ρ1 s1 I1 R1 q1 => ?_
  obtain ⟨d, ρ2, w2, I2, s2, hh, hrep, q2⟩ := frz_ok I1 R1 q1
  rw [← hh]
  cases d with
  | list ds =>
    cases hrep with
    | lst hs hr => exact ⟨_, rfl, ⟨_, SqL.of (I2.gh _ _ hs)⟩, k _ _ w2 ρ2 (s1.trans s2) I2 (walkd_list hs hr) q2⟩
  | _ => exact q2.elim
theorem di_tup (h : DE C e te de) : DI C tg e (iTup X.K te) (itemsT de) := by
  refine ⟨pi_tup h.pe, fun w σ ρ Q QD hA I q k => ?_⟩
  refine h.run w σ ρ _ _ hA I q fun v r w1 ρ1 s1 I1 R1 q1 => ?_
  obtain ⟨d, ρ2, w2, I2, s2, hh, hrep, q2⟩ := frz_ok I1 R1 q1
  rw [← hh]
  cases d with
  | tuple ds =>
    cases hrep with
    | tup hs hr => exact ⟨_, rfl, ⟨_, sqt_mono I2.gh hs⟩, k _ _ w2 ρ2 (s1.trans s2) I2 (walkd_tup hs hr) q2⟩
  | _ => exact q2.elim
/-- an item comes -/
theorem item_come {K : PySem.W.Frag} {P : Par} {G0 : Hp} {J : It} {items : List PyData} {w : Wd} {σ : St} {ρ : DSt} {i : Nat} {x : V} {H' : Hp} (W : WalkD K G0 J items) (I : FI K P w σ ρ) (g : Same G0 w.G) (hi : i < items.length) (y : J.yld i w.H x H') :
    ∃ d w', items[i]? = some d ∧ w'.H = H' ∧ Stp w w' ∧ FI K P w' σ ρ ∧ Rep K w'.G x d := by
  have gH : Same G0 w.H := fun b o h => I.gh b o (g b o h)
  obtain ⟨d, hd, h⟩ := W.yld i w.H x H' hi gH y
  rcases h with ⟨rfl, hr⟩ | ⟨T, u1, u2, d1, d2, rfl, hT, rfl, rfl, r1, r2⟩
  · exact ⟨d, w, hd, rfl, Stp.refl w, I, rep_mono g _ _ hr⟩
  · refine ⟨_, ⟨upd w.G T (.tup [u1, u2]), upd w.H T (.tup [u1, u2]), w.F⟩, hd, rfl, ?_, ?_, ?_⟩
    · have hg : w.G T = none := I.gh.free hT
      refine ⟨same_new hg, fun b h1 h2 _ => ?_, fun b u h _ => same_new hT b u h, there_new, fun i b hb => .inl hb⟩
      show upd w.G T _ b = none
      rw [upd_ne (fun z => h1 (by rw [z]; exact hT))]; exact h2
    · exact (FI.new I hT).1
    · have hg : w.G T = none := I.gh.free hT
      have sg : Same G0 (upd w.G T (.tup [u1, u2])) := fun b o h => same_new hg b o (g b o h)
      exact .tup (SqT.of upd_same) (.cons (rep_mono sg _ _ r1) (.cons (rep_mono sg _ _ r2) .nil))

/-! ### for -/
def forD (g : TGD) (t : TSD) (D : DEnds) : List PyData → DSt → Prop
  | [], ρ => D.nx ρ
  | x :: xs, ρ => g x ρ fun ρ1 => t { D with nx := forD g t D xs, ct := forD g t D xs, bk := D.nx } ρ1
def sFor (ti : TND) (g : TGD) (t : TSD) : TSD := fun D ρ => ti ρ fun items ρ1 => forD g t D items ρ1
theorem ds_for {wi : TI} {ti : TND} {g : TG} {T : List Nat} {d : TGD} (hp : PassesOwn (model X.prog X.w) X.A X.env X.xe) (hi : DI C tg iter wi ti) (hg : DG C tg g T d) (h1 : DSs C body tb d1) (hs : ∀ x, foldedSetIterable iter X.env x = pure x := by intro _; rfl) :
    DS C (.For tg iter body [] pos) (tFor wi g tb) (sFor ti d d1) := by
  refine ⟨ps_for hp C.calm hi.pi hg.pg h1.pss hs, fun w σ ρ D DD hA I q k => ?_⟩
  refine hi.run w σ ρ _ _ hA I q fun J items w1 ρ1 s1 I1 WK q1 => ?_
  refine ⟨fun i m σ' H' => m = items.length - i ∧ i ≤ items.length ∧ ∃ w' ρ', w'.H = H' ∧ Stp w1 w' ∧ FI X.K C.P w' σ' ρ' ∧ forD d d1 DD (items.drop i) ρ', ⟨items.length, by simp, Nat.zero_le _, w1, ρ1, rfl, Stp.refl w1, I1, by rw [List.drop_zero]; exact q1⟩, ?_⟩
  rintro i m σ2 H2 ⟨rfl, hi2, w2, ρ2, rfl, s2, I2, q2⟩
  have hA2 := C.cl _ _ (C.cl _ _ hA s1) s2
  have gH : Same w1.G w2.H := fun b o h => I2.gh b o (s2.g b o h)
  by_cases hlt : i < items.length
  · refine .inr ⟨WK.go i _ hlt gH, fun σ' H' => ∃ w' ρ', w'.H = H' ∧ Stp w1 w' ∧ FI X.K C.P w' σ' ρ' ∧ forD d d1 DD (items.drop (i + 1)) ρ', fun σ' H' h => ⟨items.length - (i + 1), by omega, rfl, hlt, h⟩, fun x H' y => ?_⟩
    obtain ⟨z, w3, hz, rfl, s3, I3, r3⟩ := item_come WK I2 s2.g hlt y
    have ed : items.drop i = z :: items.drop (i + 1) := by
      have e1 := List.getElem?_eq_some_iff.mp hz
      rw [List.drop_eq_getElem_cons hlt, e1.2]
    rw [ed] at q2
    refine hg.run w3 σ2 ρ2 x z _ _ (C.cl _ _ hA2 s3) I3 r3 q2 fun w4 σ4 ρ4 s4 I4 _ q4 => ?_
    have s34 := s3.trans s4
    refine h1.run w4 σ4 ρ4 _ _ (C.cl _ _ hA2 s34) I4 q4 ⟨fun w' σ' ρ' s' I' h => ⟨w', ρ', rfl, (s2.trans s34).trans s', I', h⟩, fun v r w' σ' ρ' s' I' R' h => k.rt v r w' σ' ρ' (s1.trans ((s2.trans s34).trans s')) I' R' h,
      fun w' σ' ρ' s' I' h => k.nx w' σ' ρ' (s1.trans ((s2.trans s34).trans s')) I' h, fun w' σ' ρ' s' I' h => ⟨w', ρ', rfl, (s2.trans s34).trans s', I', h⟩⟩
  · have e : i = items.length := by omega
    subst e
    rw [List.drop_length] at q2
    exact .inl ⟨WK.stop _ gH, k.nx w2 σ2 ρ2 (s1.trans s2) I2 q2⟩
end
end DL

end
section
set_option maxHeartbeats 4000000
/-! DLD: defs over data: what one promises, its call, its body. -/
namespace DL
open PySem PySem.Spec L2
open PyProof.Rows (envOfC)

/-- a def's promise over data: the arguments, what is wanted of the end, of an exception. The first argument may be lent -/
abbrev DSp := List SD → (Ret → List SD → Prop) → (Exd → List SD → Prop) → Prop
/-- no argument but the first is lent -/
def lentOne : List SD → Bool
  | .own io _ :: r => io && r.all fun s => match s with | .val _ => true | _ => false
  | .res io _ :: r => io && r.all fun s => match s with | .val _ => true | _ => false
  | l => l.all fun s => match s with | .val _ => true | _ => false
def parOf (vs : List V) (w : Wd) : Par := ⟨vs.map some, fun a => w.H a = none⟩
def spOf (K : PySem.W.Frag) (p : DSp) : Sp := fun vs H Q E => ∃ (w : Wd) (α : List SD) (QD : Ret → List SD → Prop) (ED : Exd → List SD → Prop), w.H = H ∧ FI K (parOf vs w) w (vs.map some) α ∧ lentOne α = true ∧ p α QD ED ∧
  (∀ v r w' α', Stp w w' → FI K (parOf vs w) w' (vs.map some) α' → RepRet K (parOf vs w).N w' v r → QD r α' → Q v w'.H) ∧
  (∀ e α' w' cls d, Stp w w' → FI K (parOf vs w) w' (vs.map some) α' → RepE K w' cls d e → ED e α' → E cls d w'.H)
/-- a def keeps its promise, where nothing is being shown (what repr of a container asks) -/
structure FnD (P : Program) (w : World) (K : PySem.W.Frag) (mg : Str → Option Value) (base : Heap) (k : Nat) (f : Addr) (fd : FuncData) (ps : List Str) (p : DSp) : Prop where
  len : ∀ α QD ED, p α QD ED → α.length = ps.length
  run : ∀ (A : Around) (outer : List Env) (s : Shared) (H : Hp) (args : Args) (us : List Value) (vs : List V) (Q : VK) (E : XK), A.guards = some [] → Room k A → Env0 P w K mg base A outer s H → BindsTo s fd args (ps.zip us) → Vals vs us → spOf K p vs H Q E →
    codeAny (model P w) A (.call (.ref f) args) (CR (L2.CX P w) outer P w H s Q E) s
theorem spOf.len {K : PySem.W.Frag} {p : DSp} {ps : List Str} (hl : ∀ α QD ED, p α QD ED → α.length = ps.length) {vs : List V} {H : Hp} {Q : VK} {E : XK} (h : spOf K p vs H Q E) : vs.length = ps.length := by
  obtain ⟨w, α, QD, ED, _, I, _, hp, _⟩ := h
  have e := I.len
  rw [List.length_map] at e
  rw [e, hl α QD ED hp]
theorem FnD.mono {P : Program} {w : World} {K : PySem.W.Frag} {mg : Str → Option Value} {base : Heap} {j k : Nat} {f : Addr} {fd : FuncData} {ps : List Str} {p : DSp} (F : FnD P w K mg base j f fd ps p) (h : j ≤ k) : FnD P w K mg base k f fd ps p :=
  ⟨F.len, fun A outer s H args us vs Q E hg hr => F.run A outer s H args us vs Q E hg (hr.mono h)⟩

/-! ### the call -/
section
variable {X : Cx} {k : Nat} {f : Addr} {fd : FuncData} {ps : List Str} {p : DSp} {x : Str} {px pos : Pos} {e : Expr} {es : List Expr} {ta : TA}
theorem run_fnD {E : L2.St → XK} {pins : List (Addr × Obj)} {σ : L2.St} {H : Hp} {s : Shared} {Q : VK} {us : List Value} {vs : List V} (F : FnD X.prog X.w X.K X.mg X.base k f fd ps p) (hgd : X.A.guards = some []) (hr : Room k X.A) (hb : Binds X.K fd ps []) (hx : PassesAt (L2.CX X.prog X.w) X σ (E σ))
    (I : Inv X pins σ H s) (r : Vals vs us) (h : spOf X.K p vs H Q (E σ)) : wpAny (model X.prog X.w) X.A (call (.ref f) us) (EP X pins σ Q) X.xe s := by
  have n1 : us.length = ps.length := r.length.symm.trans (spOf.len F.len h)
  have bb : BindsTo s fd ⟨us, []⟩ (ps.zip us) := by
    have z := hb s us I.kIn (by simpa using n1)
    simpa using z
  refine wpAny_call (codeAny_mono (F.run X.A X.stack s H ⟨us, []⟩ us vs Q (E σ) hgd hr I.env0 bb r h) ?_)
  intro res s' got
  match res, got with
  | .error ex, got => exact hx pins H s ex s' I got
  | .ok (.ret u), got => exact I.after got
  | .ok .next, got => exact got.elim
  | .ok .brk, got => exact got.elim
  | .ok .cont, got => exact got.elim
theorem pe_callD {E : L2.St → XK} (F : FnD X.prog X.w X.K X.mg X.base k f fd ps p) (hgd : X.A.guards = some []) (hr : Room k X.A) (hg : Gl X x) (hm : X.mg x = some (.ref f)) (hk : PySem.W.keepIn X.K (.ref f) = true) (hb : Binds X.K fd ps [])
    (hx : ∀ σ, PassesAt (L2.CX X.prog X.w) X σ (E σ)) (ha : PA X (e :: es) ta) (hdb : (x == ("__debug__" : Str)) = false := by decide)
    (he : starEach (e :: es) X.env = (false, eval e X.env) :: starEach es X.env := by rfl) (hpl : (backTo pos (starEach es X.env)).any (·.1) = false := by rfl) :
    PE X (.Call (.Name x px) (e :: es) [] pos) (tCallS (spOf X.K p) E ta) :=
  ⟨fun pins s σ H Q I h => wpAny_Call_Name_kw (ld_glob I hg hm (PySem.W.callWith_K (h₀ := X.base) I.ok.mod.kin hk
    (thn (ha.run pos pins s σ H _ I h) fun us s1 ⟨vs, H1, I1, r, q⟩ => ⟨I1.kIn, run_fnD F hgd hr hb (hx σ) I1 r q⟩) he hpl) hdb)⟩

def valsFI {K : PySem.W.Frag} {w : Wd} {vs : List V} {ds : List PyData} (gh : Same w.G w.H) (hr : Reps K w.G vs ds) (P : Par) : FI K P ⟨w.G, w.H, fun _ => []⟩ (vs.map some) (ds.map SD.val) := by
  refine ⟨gh, by rw [List.length_map, List.length_map, hr.len], fun i s e => ?_, fun _ _ => rfl, fun i b hb => (nomatch hb), fun i j b _ hb => (nomatch hb)⟩
  rw [List.getElem?_map] at e
  cases q : ds[i]? with
  | none => rw [q] at e; cases e
  | some d =>
    rw [q] at e
    cases e
    obtain ⟨v, h1, h2⟩ := hr.get q
    exact ⟨rfl, v, by rw [List.getElem?_map, h1]; rfl, h2⟩
theorem lentOne_vals (ds : List PyData) : lentOne (ds.map SD.val) = true := by
  have h : (ds.map SD.val).all (fun s => match s with | .val _ => true | _ => false) = true := by
    rw [List.all_eq_true]
    intro s hs
    obtain ⟨d, _, rfl⟩ := List.mem_map.mp hs
    rfl
  cases ds with
  | nil => rfl
  | cons d ds => exact h

variable {C : DC X} {dr : TND}
/-- what comes back from a call: a datum -/
def retD (Q : R → DSt → Prop) (ρ : DSt) : Ret → Prop
  | .d x => Q (.d x) ρ
  | .n ds => Q (.d (.list ds)) ρ
def retN (Q : List PyData → DSt → Prop) (ρ : DSt) : Ret → Prop
  | .n ds => Q ds ρ
  | .d _ => False
def dCall (p : DSp) (W : WD) (dr : TND) : TED := fun ρ Q => dr ρ fun ds ρ1 => p (ds.map SD.val) (fun r _ => retD Q ρ1 r) (fun e _ => W e ρ1)
def nCall (p : DSp) (W : WD) (dr : TND) : TND := fun ρ Q => dr ρ fun ds ρ1 => p (ds.map SD.val) (fun r _ => retN Q ρ1 r) (fun e _ => W e ρ1)
/-- the caller's world behind a call that was lent nothing -/
theorem call_back {P : Par} {w1 w' : Wd} {σ : L2.St} {ρ : DSt} {Pc : Par} {vs : List V} {α' : List SD} (I1 : FI X.K P w1 σ ρ) (s : Stp ⟨w1.G, w1.H, fun _ => []⟩ w') (I' : FI X.K Pc w' (vs.map some) α') :
    FI X.K P ⟨w'.G, w'.H, w1.F⟩ σ ρ ∧ Stp w1 ⟨w'.G, w'.H, w1.F⟩ := by
  have no : ∀ (b : Addr) (i : Nat), b ∉ (fun _ => ([] : List Addr)) i := fun b i z => nomatch z
  refine ⟨⟨I'.gh, I1.len, fun i st e => (I1.ok i st e).go s.g fun b _ o h => s.h b o h (no b), I1.out, fun i b hb => ?_, I1.sep⟩, ⟨s.g, fun b h1 h2 _ => s.gf b h1 h2 (no b), fun b o h _ => s.h b o h (no b), s.t, fun i b hb => .inl hb⟩⟩
  obtain ⟨h1, h2⟩ := I1.foot i b hb
  exact ⟨s.gf b h2 h1 (no b), s.t b h2⟩
/-- a new list that came back -/
theorem back_new {P : Par} {w0 w1 : Wd} {σ : L2.St} {ρ : DSt} {w' : Wd} {a : Addr} {vs : List V} {ds : List PyData} (s0 : Stp w0 w1) (I2 : FI X.K P ⟨w'.G, w'.H, w1.F⟩ σ ρ) (I1 : FI X.K P w1 σ ρ) (hn : w1.H a = none) : w0.H a = none ∧ ∀ i, a ∉ w1.F i := by
  refine ⟨?_, fun i z => (I1.foot i a z).2 hn⟩
  cases e0 : w0.H a with
  | none => rfl
  | some o => exact absurd hn (s0.t a (by rw [e0]; exact fun z => nomatch z))
theorem call_core (ha : DA C (e :: es) ta dr) (w : Wd) (σ : L2.St) (ρ : DSt) (Q : VK) (fin : Ret → DSt → Prop) (hA : C.A w) (I : FI X.K C.P w σ ρ)
    (q : dr ρ fun ds ρ1 => p (ds.map SD.val) (fun r _ => fin r ρ1) (fun e _ => C.W e ρ1))
    (k : ∀ (v : V) (r : Ret) (w1 w' : Wd) (ρ1 : DSt), Stp w w1 → FI X.K C.P w1 σ ρ1 → FI X.K C.P ⟨w'.G, w'.H, w1.F⟩ σ ρ1 → Stp w1 ⟨w'.G, w'.H, w1.F⟩ → (match r with
      | .d x => Rep X.K w'.G v x
      | .n ds => ∃ (a : Addr) (vs : List V), v = .ref a ∧ w1.H a = none ∧ w'.G a = none ∧ w'.H a = some (.lst vs) ∧ Reps X.K w'.G vs ds) → fin r ρ1 → Q v w'.H) :
    tCallS (spOf X.K p) (WE C.WH) ta σ w.H Q := by
  refine ha.run w σ ρ _ _ hA I q fun vs ds w1 ρ1 s1 I1 R1 q1 => ?_
  refine ⟨⟨w1.G, w1.H, fun _ => []⟩, ds.map SD.val, _, _, rfl, valsFI I1.gh R1 _, lentOne_vals ds, q1, fun v r w' α' s' I' hr' q' => ?_, fun ex α' w' cls d s' I' hr' q' => ?_⟩
  · obtain ⟨I2, s2⟩ := call_back I1 s' I'
    refine k v r w1 w' ρ1 s1 I1 I2 s2 ?_ q'
    cases r with
    | d x => exact hr'
    | n xs =>
      obtain ⟨a, ws, rfl, h1, h2, _, h4, h5⟩ := hr'
      exact ⟨a, ws, rfl, h1, h2, h4, h5⟩
  · obtain ⟨I2, s2⟩ := call_back I1 s' I'
    exact C.hW ex ρ1 σ ⟨w'.G, w'.H, w1.F⟩ cls d (C.cl _ _ hA (s1.trans s2)) I2 hr' q'
theorem de_call (F : FnD X.prog X.w X.K X.mg X.base k f fd ps p) (hr : Room k X.A) (hg : Gl X x) (hm : X.mg x = some (.ref f)) (hk : PySem.W.keepIn X.K (.ref f) = true) (hb : Binds X.K fd ps [])
    (ha : DA C (e :: es) ta dr) (hdb : (x == ("__debug__" : Str)) = false := by decide) (he : starEach (e :: es) X.env = (false, eval e X.env) :: starEach es X.env := by rfl) (hpl : (backTo pos (starEach es X.env)).any (·.1) = false := by rfl) :
    DE C (.Call (.Name x px) (e :: es) [] pos) (tCallS (spOf X.K p) (WE C.WH) ta) (dCall p C.W dr) := by
  refine ⟨pe_callD F C.gd hr hg hm hk hb (fun σ => passAt C.tk σ) ha.pa hdb he hpl, fun w σ ρ Q QD hA I q kk => ?_⟩
  refine call_core ha w σ ρ Q (fun r ρ1 => retD QD ρ1 r) hA I q fun v r w1 w' ρ1 s1 I1 I2 s2 hv q' => ?_
  cases r with
  | d x => exact kk v (.d x) ⟨w'.G, w'.H, w1.F⟩ ρ1 (s1.trans s2) I2 hv q'
  | n xs =>
    obtain ⟨a, ws, rfl, h1, h2, h4, h5⟩ := hv
    obtain ⟨n0, nf⟩ := back_new (vs := ws) (ds := xs) s1 I2 I1 h1
    obtain ⟨I3, s3, r3⟩ := stay (s1.trans s2) I2 n0 h2 nf h4 h5
    exact kk (.ref a) (.d (.list xs)) ⟨upd w'.G a (.lst ws), w'.H, w1.F⟩ ρ1 s3 I3 r3 q'
theorem dn_call (F : FnD X.prog X.w X.K X.mg X.base k f fd ps p) (hr : Room k X.A) (hg : Gl X x) (hm : X.mg x = some (.ref f)) (hk : PySem.W.keepIn X.K (.ref f) = true) (hb : Binds X.K fd ps [])
    (ha : DA C (e :: es) ta dr) (hdb : (x == ("__debug__" : Str)) = false := by decide) (he : starEach (e :: es) X.env = (false, eval e X.env) :: starEach es X.env := by rfl) (hpl : (backTo pos (starEach es X.env)).any (·.1) = false := by rfl) :
    DN C (.Call (.Name x px) (e :: es) [] pos) (tCallS (spOf X.K p) (WE C.WH) ta) (nCall p C.W dr) := by
  refine ⟨pe_callD F C.gd hr hg hm hk hb (fun σ => passAt C.tk σ) ha.pa hdb he hpl, fun w σ ρ Q QD hA I q kk => ?_⟩
  refine call_core ha w σ ρ Q (fun r ρ1 => retN QD ρ1 r) hA I q fun v r w1 w' ρ1 s1 I1 I2 s2 hv q' => ?_
  cases r with
  | d x => exact (show False from q').elim
  | n xs =>
    obtain ⟨a, ws, rfl, h1, h2, h4, h5⟩ := hv
    obtain ⟨n0, nf⟩ := back_new (vs := ws) (ds := xs) s1 I2 I1 h1
    exact kk a ws xs ⟨w'.G, w'.H, w1.F⟩ ρ1 (s1.trans s2) I2 n0 h2 nf h4 h5 q'

/-! ### a call that is lent slot i -/
def lendK (ρ : DSt) (i : Nat) (k : SD → Prop) : Prop := match ρ[i]? with
  | some (.own _ ds) => k (.own true ds)
  | some (.res _ r) => k (.res true r)
  | _ => False
def backK (ρ : DSt) (i : Nat) (α : List SD) (k : DSt → Prop) : Prop := match ρ[i]?, α with
  | some (.own io _), .own true ds :: _ => k (ρ.set i (.own io ds))
  | some (.res io _), .res true r :: _ => k (ρ.set i (.res io r))
  | _, _ => False
def dCallL (p : DSp) (W : WD) (i : Nat) (dr : TND) : TED := fun ρ Q => dr ρ fun ds ρ1 => lendK ρ1 i fun s0 => p (s0 :: ds.map SD.val) (fun r α => backK ρ1 i α fun ρ2 => retD Q ρ2 r) (fun e α => backK ρ1 i α fun ρ2 => W e ρ2)
def nCallL (p : DSp) (W : WD) (i : Nat) (dr : TND) : TND := fun ρ Q => dr ρ fun ds ρ1 => lendK ρ1 i fun s0 => p (s0 :: ds.map SD.val) (fun r α => backK ρ1 i α fun ρ2 => retN Q ρ2 r) (fun e α => backK ρ1 i α fun ρ2 => W e ρ2)
theorem lendK_inv {ρ : DSt} {i : Nat} {k : SD → Prop} (h : lendK ρ i k) : (∃ io ds, ρ[i]? = some (.own io ds) ∧ k (.own true ds)) ∨ ∃ io r, ρ[i]? = some (.res io r) ∧ k (.res true r) := by
  unfold lendK at h
  split at h
  · exact .inl ⟨_, _, by assumption, h⟩
  · exact .inr ⟨_, _, by assumption, h⟩
  · exact h.elim
theorem backK_inv {ρ : DSt} {i : Nat} {α : List SD} {k : DSt → Prop} (h : backK ρ i α k) : (∃ io ds ds' r, ρ[i]? = some (.own io ds) ∧ α = .own true ds' :: r ∧ k (ρ.set i (.own io ds'))) ∨ ∃ io q q' r, ρ[i]? = some (.res io q) ∧ α = .res true q' :: r ∧ k (ρ.set i (.res io q')) := by
  unfold backK at h
  split at h
  · exact .inl ⟨_, _, _, _, by assumption, rfl, h⟩
  · exact .inr ⟨_, _, _, _, by assumption, rfl, h⟩
  · exact h.elim
/-- the lent slot as the callee's first argument -/
theorem lent_in {P : Par} {w1 : Wd} {σ : L2.St} {ρ : DSt} {i : Nat} {s0 s0' : SD} {v0 : V} {vs : List V} {ds : List PyData} (I1 : FI X.K P w1 σ ρ) (R1 : Reps X.K w1.G vs ds) (h0 : σ[i]? = some (some v0)) (hs : ρ[i]? = some s0)
    (hc : (∃ io xs, s0 = .own io xs ∧ s0' = .own true xs) ∨ ∃ io r, s0 = .res io r ∧ s0' = .res true r) :
    FI X.K (parOf (v0 :: vs) ⟨w1.G, w1.H, fun j => if j = 0 then w1.F i else []⟩) ⟨w1.G, w1.H, fun j => if j = 0 then w1.F i else []⟩ ((v0 :: vs).map some) (s0' :: ds.map SD.val) := by
  have f0 : ∀ j b, b ∈ (if j = 0 then w1.F i else ([] : List Addr)) → j = 0 ∧ b ∈ w1.F i := fun j b hb => by
    by_cases e : j = 0
    · rw [if_pos e] at hb; exact ⟨e, hb⟩
    · rw [if_neg e] at hb; cases hb
  refine ⟨I1.gh, by rw [List.length_map, List.length_cons, List.length_cons, List.length_map, R1.len], fun j s e => ?_, fun j hj => ?_, fun j b hb => I1.foot i b (f0 j b hb).2, fun j l b hjl hb hb' => hjl ((f0 j b hb).1.trans (f0 l b hb').1.symm)⟩
  · cases j with
    | zero =>
      cases e
      have ok := I1.ok i s0 hs
      rw [h0] at ok
      rcases hc with ⟨io, xs, rfl, rfl⟩ | ⟨io, r, rfl, rfl⟩
      · obtain ⟨a, ws, h1, h2, h3, h4, _⟩ := ok
        cases h1
        exact ⟨a, ws, rfl, h2, h3, h4, fun _ => rfl, fun z => nomatch z⟩
      · obtain ⟨a, h1, h2, _⟩ := ok
        cases h1
        exact ⟨a, rfl, h2, fun _ => rfl, fun z => nomatch z⟩
    | succ j =>
      have e : (ds.map SD.val)[j]? = some s := by simpa using e
      rw [List.getElem?_map] at e
      cases q : ds[j]? with
      | none => rw [q] at e; cases e
      | some d =>
        rw [q] at e
        cases e
        obtain ⟨v, h1, h2⟩ := R1.get q
        exact ⟨rfl, v, by simp [h1], h2⟩
  · show (if j = 0 then w1.F i else []) = []
    rw [if_neg (by intro z; subst z; simp at hj)]
/-- the caller's world behind a call that was lent slot i -/
theorem lent_back {C : DC X} {w1 w' : Wd} {σ : L2.St} {ρ : DSt} {i : Nat} {s1 s1' s2 : SD} {v0 : V} {vs : List V} {α : List SD} (hA : C.A w1) (I1 : FI X.K C.P w1 σ ρ) (s : Stp ⟨w1.G, w1.H, fun j => if j = 0 then w1.F i else []⟩ w') {Pc : Par} (hP : Pc = parOf (v0 :: vs) ⟨w1.G, w1.H, fun j => if j = 0 then w1.F i else []⟩)
    (I' : FI X.K Pc w' ((v0 :: vs).map some) (s1' :: α)) (h0 : σ[i]? = some (some v0)) (hs : ρ[i]? = some s1)
    (hc : (∃ io xs ys, s1 = .own io xs ∧ s1' = .own true ys ∧ s2 = .own io ys) ∨ ∃ io r r', s1 = .res io r ∧ s1' = .res true r' ∧ s2 = .res io r') :
    FI X.K C.P ⟨w'.G, w'.H, fun j => if j = i then w'.F 0 else w1.F j⟩ σ (ρ.set i s2) ∧ Stp w1 ⟨w'.G, w'.H, fun j => if j = i then w'.F 0 else w1.F j⟩ := by
  have hlt : i < ρ.length := (List.getElem?_eq_some_iff.mp hs).1
  have fc : ∀ b, (∀ j, b ∉ w1.F j) → ∀ j, b ∉ (if j = 0 then w1.F i else ([] : List Addr)) := fun b n j z => by
    by_cases e : j = 0
    · rw [if_pos e] at z; exact n i z
    · rw [if_neg e] at z; cases z
  have fo : ∀ l b, l ≠ i → b ∈ w1.F l → ∀ j, b ∉ (if j = 0 then w1.F i else ([] : List Addr)) := fun l b n hb j z => by
    by_cases e : j = 0
    · rw [if_pos e] at z; exact I1.sep l i b n hb z
    · rw [if_neg e] at z; cases z
  have f0 : ∀ b, b ∈ w'.F 0 → b ∈ w1.F i ∨ w1.H b = none := fun b hb => by
    rcases s.f 0 b hb with q | q
    · have q : b ∈ (if (0 : Nat) = 0 then w1.F i else ([] : List Addr)) := q
      rw [if_pos rfl] at q; exact .inl q
    · exact .inr q
  have sub : ∀ j b, b ∈ (if j = i then w'.F 0 else w1.F j) → (j = i ∧ b ∈ w'.F 0) ∨ (j ≠ i ∧ b ∈ w1.F j) := fun j b hb => by
    by_cases e : j = i
    · rw [if_pos e] at hb; exact .inl ⟨e, hb⟩
    · rw [if_neg e] at hb; exact .inr ⟨e, hb⟩
  refine ⟨⟨I'.gh, by rw [List.length_set]; exact I1.len, fun j st e => ?_, fun j hj => ?_, fun j b hb => ?_, fun j l b hjl hb hb' => ?_⟩, ⟨s.g, fun b h1 h2 h3 => s.gf b h1 h2 (fc b h3), fun b o h1 h2 => s.h b o h1 (fc b h2), s.t, fun j b hb => ?_⟩⟩
  · by_cases hj : i = j
    · subst hj
      rw [List.getElem?_set_self hlt] at e
      cases e
      show slotOk X.K C.P.σ0[i]? C.P.N _ (if i = i then w'.F 0 else w1.F i) σ[i]? _
      rw [if_pos rfl]
      have ok := I1.ok i _ hs
      have ok' := I'.ok 0 s1' rfl
      rcases hc with ⟨io, xs, ys, rfl, rfl, rfl⟩ | ⟨io, r, r', rfl, rfl, rfl⟩
      · obtain ⟨a, ws, h1, h2, h3, h4, h5, h6⟩ := ok
        obtain ⟨a', ws', g1, g2, g3, g4, _⟩ := ok'
        rw [h0] at h1
        cases h1
        cases g1
        exact ⟨a, ws', h0, g2, g3, g4, h5, h6⟩
      · obtain ⟨a, h1, h2, h5, h6⟩ := ok
        obtain ⟨a', g1, g2, _⟩ := ok'
        rw [h0] at h1
        cases h1
        cases g1
        refine ⟨a, h0, g2, h5, fun z b hb => ?_⟩
        rcases f0 b hb with q | q
        · exact h6 z b q
        · exact C.nw w1 b hA q
    · rw [List.getElem?_set_ne hj] at e
      show slotOk X.K C.P.σ0[j]? C.P.N _ (if j = i then w'.F 0 else w1.F j) σ[j]? st
      rw [if_neg (Ne.symm hj)]
      exact (I1.ok j st e).go s.g fun b hb o h => s.h b o h (fo j b (Ne.symm hj) hb)
  · have hj : ρ.length ≤ j := by rw [← List.length_set (as := ρ)]; exact hj
    show (if j = i then w'.F 0 else w1.F j) = []
    rw [if_neg (by omega)]
    exact I1.out j hj
  · rcases sub j b hb with ⟨_, q⟩ | ⟨e, q⟩
    · exact I'.foot 0 b q
    · obtain ⟨h1, h2⟩ := I1.foot j b q
      exact ⟨s.gf b h2 h1 (fo j b e q), s.t b h2⟩
  · rcases sub j b hb with ⟨e1, q⟩ | ⟨e1, q⟩
    · rcases sub l b hb' with ⟨e2, _⟩ | ⟨e2, q'⟩
      · exact hjl (e1.trans e2.symm)
      · rcases f0 b q with z | z
        · exact I1.sep l i b e2 q' z
        · exact (I1.foot l b q').2 z
    · rcases sub l b hb' with ⟨e2, q'⟩ | ⟨e2, q'⟩
      · rcases f0 b q' with z | z
        · exact I1.sep j i b e1 q z
        · exact (I1.foot j b q).2 z
      · exact I1.sep j l b hjl q q'
  · rcases sub j b hb with ⟨e1, q⟩ | ⟨_, q⟩
    · rw [e1]; exact f0 b q
    · exact .inl q
theorem callL_core {i : Nat} (ha : DA C es ta dr) (w : Wd) (σ : L2.St) (ρ : DSt) (Q : VK) (fin : Ret → DSt → Prop) (hA : C.A w) (I : FI X.K C.P w σ ρ) (hv : ∃ v0, σ[i]? = some (some v0))
    (q : dr ρ fun ds ρ1 => lendK ρ1 i fun s0 => p (s0 :: ds.map SD.val) (fun r α => backK ρ1 i α fun ρ2 => fin r ρ2) (fun e α => backK ρ1 i α fun ρ2 => C.W e ρ2))
    (k : ∀ (v : V) (r : Ret) (w1 w2 : Wd) (ρ2 : DSt), Stp w w1 → FI X.K C.P w2 σ ρ2 → Stp w1 w2 → (match r with
      | .d x => Rep X.K w2.G v x
      | .n ds => ∃ (a : Addr) (vs : List V), v = .ref a ∧ w1.H a = none ∧ w2.G a = none ∧ (∀ j, a ∉ w2.F j) ∧ w2.H a = some (.lst vs) ∧ Reps X.K w2.G vs ds) → fin r ρ2 → Q v w2.H) :
    tCallS (spOf X.K p) (WE C.WH) (tCons (tVar i) ta) σ w.H Q := by
  obtain ⟨v0, h0⟩ := hv
  refine ⟨v0, h0, ha.run w σ ρ _ _ hA I q fun vs ds w1 ρ1 s1 I1 R1 q1 => ?_⟩
  have hA1 := C.cl _ _ hA s1
  obtain ⟨s0, s0', hs, hc, q2⟩ : ∃ s0 s0', ρ1[i]? = some s0 ∧ ((∃ io xs, s0 = .own io xs ∧ s0' = .own true xs) ∨ ∃ io r, s0 = .res io r ∧ s0' = .res true r) ∧
      p (s0' :: ds.map SD.val) (fun r α => backK ρ1 i α fun ρ2 => fin r ρ2) (fun e α => backK ρ1 i α fun ρ2 => C.W e ρ2) := by
    rcases lendK_inv q1 with ⟨io, xs, e, q2⟩ | ⟨io, r, e, q2⟩
    · exact ⟨_, _, e, .inl ⟨io, xs, rfl, rfl⟩, q2⟩
    · exact ⟨_, _, e, .inr ⟨io, r, rfl, rfl⟩, q2⟩
  have lo : lentOne (s0' :: ds.map SD.val) = true := by
    have h : (ds.map SD.val).all (fun s => match s with | .val _ => true | _ => false) = true := by
      rw [List.all_eq_true]
      intro s hs
      obtain ⟨d, _, rfl⟩ := List.mem_map.mp hs
      rfl
    rcases hc with ⟨io, xs, rfl, rfl⟩ | ⟨io, r, rfl, rfl⟩ <;> exact h
  -- behind the call: the slot as the callee left it
  have aft : ∀ (w' : Wd) (α' : List SD) (g : DSt → Prop), Stp ⟨w1.G, w1.H, fun j => if j = 0 then w1.F i else []⟩ w' → FI X.K (parOf (v0 :: vs) ⟨w1.G, w1.H, fun j => if j = 0 then w1.F i else []⟩) w' ((v0 :: vs).map some) α' → backK ρ1 i α' g →
      ∃ ρ2, FI X.K C.P ⟨w'.G, w'.H, fun j => if j = i then w'.F 0 else w1.F j⟩ σ ρ2 ∧ Stp w1 ⟨w'.G, w'.H, fun j => if j = i then w'.F 0 else w1.F j⟩ ∧ g ρ2 := by
    intro w' α' g s' I' hb
    rcases backK_inv hb with ⟨io, xs, ys, r, e, rfl, hg⟩ | ⟨io, z, z', r, e, rfl, hg⟩
    · obtain ⟨a1, a2⟩ := lent_back (s2 := .own io ys) hA1 I1 s' rfl I' h0 e (.inl ⟨io, xs, ys, rfl, rfl, rfl⟩)
      exact ⟨_, a1, a2, hg⟩
    · obtain ⟨a1, a2⟩ := lent_back (s2 := .res io z') hA1 I1 s' rfl I' h0 e (.inr ⟨io, z, z', rfl, rfl, rfl⟩)
      exact ⟨_, a1, a2, hg⟩
  refine ⟨⟨w1.G, w1.H, fun j => if j = 0 then w1.F i else []⟩, s0' :: ds.map SD.val, _, _, rfl, lent_in I1 R1 h0 hs hc, lo, q2, fun v r w' α' s' I' hr' q' => ?_, fun ex α' w' cls d s' I' hr' q' => ?_⟩
  · obtain ⟨ρ2, I2, s2, q3⟩ := aft w' α' _ s' I' q'
    refine k v r w1 ⟨w'.G, w'.H, fun j => if j = i then w'.F 0 else w1.F j⟩ ρ2 s1 I2 s2 ?_ q3
    cases r with
    | d x => exact hr'
    | n xs =>
      obtain ⟨a, ws, rfl, h1, h2, h3, h4, h5⟩ := hr'
      refine ⟨a, ws, rfl, h1, h2, fun j hj => ?_, h4, h5⟩
      have hj : a ∈ (if j = i then w'.F 0 else w1.F j) := hj
      by_cases e : j = i
      · rw [if_pos e] at hj; exact h3 0 hj
      · rw [if_neg e] at hj; exact (I1.foot j a hj).2 h1
  · obtain ⟨ρ2, I2, s2, q3⟩ := aft w' α' _ s' I' q'
    exact C.hW ex ρ2 σ ⟨w'.G, w'.H, fun j => if j = i then w'.F 0 else w1.F j⟩ cls d (C.cl _ _ hA1 s2) I2 hr' q3
theorem slot_lent {K : PySem.W.Frag} {P : Par} {w : Wd} {σ : L2.St} {ρ : DSt} {i : Nat} {s : SD} (I : FI K P w σ ρ) (e : ρ[i]? = some s) (h : s ≠ .no) : ∃ v, σ[i]? = some (some v) := by
  have ok := I.ok i s e
  cases s with
  | no => exact absurd rfl h
  | val d => exact ⟨_, ok.2.choose_spec.1⟩
  | own io ds => exact ⟨_, ok.choose_spec.choose_spec.1⟩
  | res io r => exact ⟨_, ok.choose_spec.1⟩
def isLent (ρ : DSt) (i : Nat) : Prop := match ρ[i]? with
  | some (.own _ _) => True
  | some (.res _ _) => True
  | _ => False
theorem isLent_v {K : PySem.W.Frag} {P : Par} {w : Wd} {σ : L2.St} {ρ : DSt} {i : Nat} (I : FI K P w σ ρ) (h : isLent ρ i) : ∃ v, σ[i]? = some (some v) := by
  unfold isLent at h
  cases e : ρ[i]? with
  | none => rw [e] at h; exact h.elim
  | some s =>
    rw [e] at h
    refine slot_lent I e ?_
    rintro rfl
    exact h
def withLent (i : Nat) (t : TED) : TED := fun ρ Q => isLent ρ i ∧ t ρ Q
def withLentN (i : Nat) (t : TND) : TND := fun ρ Q => isLent ρ i ∧ t ρ Q
variable {y : Str} {py : Pos}
theorem de_callL (i : Nat) (F : FnD X.prog X.w X.K X.mg X.base k f fd ps p) (hr : Room k X.A) (hg : Gl X x) (hm : X.mg x = some (.ref f)) (hk : PySem.W.keepIn X.K (.ref f) = true) (hb : Binds X.K fd ps [])
    (ha : DA C es ta dr) (hN : X.N[i]? = some y := by rfl) (hv : Vis X.env.scope y := by first | exact Or.inl rfl | exact Or.inr (Or.inl rfl) | exact Or.inr (Or.inr rfl)) (hd : (y == ("__debug__" : Str)) = false := by decide) (hcd : (y == ("__classdict__" : Str)) = false := by decide)
    (hdb : (x == ("__debug__" : Str)) = false := by decide) (he : starEach (.Name y py :: es) X.env = (false, eval (.Name y py) X.env) :: starEach es X.env := by rfl) (hpl : (backTo pos (starEach es X.env)).any (·.1) = false := by rfl) :
    DE C (.Call (.Name x px) (.Name y py :: es) [] pos) (tCallS (spOf X.K p) (WE C.WH) (tCons (tVar i) ta)) (withLent i (dCallL p C.W i dr)) := by
  refine ⟨pe_callD F C.gd hr hg hm hk hb (fun σ => passAt C.tk σ) (pa_cons (pe_var hN hv hd hcd) ha.pa he) hdb he hpl, fun w σ ρ Q QD hA I q kk => ?_⟩
  refine callL_core ha w σ ρ Q (fun r ρ1 => retD QD ρ1 r) hA I (isLent_v I q.1) q.2 fun v r w1 w2 ρ2 s1 I2 s2 hv' q' => ?_
  cases r with
  | d x => exact kk v (.d x) w2 ρ2 (s1.trans s2) I2 hv' q'
  | n xs =>
    obtain ⟨a, ws, rfl, h1, h2, h3, h4, h5⟩ := hv'
    have n0 : w.H a = none := by
      cases e0 : w.H a with
      | none => rfl
      | some o => exact absurd h1 (s1.t a (by rw [e0]; exact fun z => nomatch z))
    obtain ⟨I3, s3, r3⟩ := stay (s1.trans s2) I2 n0 h2 h3 h4 h5
    exact kk (.ref a) (.d (.list xs)) ⟨upd w2.G a (.lst ws), w2.H, w2.F⟩ ρ2 s3 I3 r3 q'
theorem dn_callL (i : Nat) (F : FnD X.prog X.w X.K X.mg X.base k f fd ps p) (hr : Room k X.A) (hg : Gl X x) (hm : X.mg x = some (.ref f)) (hk : PySem.W.keepIn X.K (.ref f) = true) (hb : Binds X.K fd ps [])
    (ha : DA C es ta dr) (hN : X.N[i]? = some y := by rfl) (hv : Vis X.env.scope y := by first | exact Or.inl rfl | exact Or.inr (Or.inl rfl) | exact Or.inr (Or.inr rfl)) (hd : (y == ("__debug__" : Str)) = false := by decide) (hcd : (y == ("__classdict__" : Str)) = false := by decide)
    (hdb : (x == ("__debug__" : Str)) = false := by decide) (he : starEach (.Name y py :: es) X.env = (false, eval (.Name y py) X.env) :: starEach es X.env := by rfl) (hpl : (backTo pos (starEach es X.env)).any (·.1) = false := by rfl) :
    DN C (.Call (.Name x px) (.Name y py :: es) [] pos) (tCallS (spOf X.K p) (WE C.WH) (tCons (tVar i) ta)) (withLentN i (nCallL p C.W i dr)) := by
  refine ⟨pe_callD F C.gd hr hg hm hk hb (fun σ => passAt C.tk σ) (pa_cons (pe_var hN hv hd hcd) ha.pa he) hdb he hpl, fun w σ ρ Q QD hA I q kk => ?_⟩
  refine callL_core ha w σ ρ Q (fun r ρ1 => retN QD ρ1 r) hA I (isLent_v I q.1) q.2 fun v r w1 w2 ρ2 s1 I2 s2 hv' q' => ?_
  cases r with
  | d x => exact (show False from q').elim
  | n xs =>
    obtain ⟨a, ws, rfl, h1, h2, h3, h4, h5⟩ := hv'
    have n0 : w.H a = none := by
      cases e0 : w.H a with
      | none => rfl
      | some o => exact absurd h1 (s1.t a (by rw [e0]; exact fun z => nomatch z))
    exact kk a ws xs w2 ρ2 (s1.trans s2) I2 n0 h2 h3 h4 h5 q'
end

/-! ### the body -/
/-- what goes out by the arguments -/
def outK (α : List SD) (ρ : DSt) (k : List SD → Prop) : Prop := match α with
  | .own _ _ :: r => (match ρ with | .own true ds :: _ => k (.own true ds :: r) | _ => False)
  | .res _ _ :: r => (match ρ with | .res true q :: _ => k (.res true q :: r) | _ => False)
  | l => k l
/-- the slots at the entry -/
def startD (n : Nat) (α : List SD) : DSt := α ++ List.replicate (n - α.length) .no
theorem fi_start {K : PySem.W.Frag} {w : Wd} {vs : List V} {α : List SD} {P : Par} (N : List Str) (I : FI K P w (vs.map some) α) (hP : P.σ0 = vs.map some) : FI K ⟨start N vs, P.N⟩ w (start N vs) (startD N.length α) := by
  have hl : vs.length = α.length := by have := I.len; rwa [List.length_map] at this
  have e1 : ∀ i, i < α.length → (start N vs)[i]? = (vs.map some)[i]? := fun i hi => by
    unfold L2.start
    rw [List.getElem?_append_left (by rw [List.length_map, hl]; exact hi)]
  refine ⟨I.gh, ?_, fun i s e => ?_, fun i hi => I.out i (Nat.le_trans ?_ hi), I.foot, I.sep⟩
  · unfold L2.start startD
    rw [List.length_append, List.length_append, List.length_map, List.length_replicate, List.length_replicate, hl]
  · by_cases hi : i < α.length
    · have e : α[i]? = some s := by
        unfold startD at e
        rw [List.getElem?_append_left hi] at e; exact e
      have ok := I.ok i s e
      show slotOk K (start N vs)[i]? P.N w (w.F i) (start N vs)[i]? s
      rw [hP] at ok
      rw [e1 i hi]
      exact ok
    · unfold startD at e
      rw [List.getElem?_append_right (by omega), List.getElem?_replicate] at e
      split at e
      · cases e
        exact I.out i (by omega)
      · cases e
  · unfold startD
    rw [List.length_append]
    omega
/-- the arguments' tie at the end -/
theorem fi_end {K : PySem.W.Frag} {w w' : Wd} {vs : List V} {α : List SD} {P : Par} {N : List Str} {σ' : L2.St} {ρ' : DSt} {k : List SD → Prop} (I : FI K P w (vs.map some) α) (hP : P.σ0 = vs.map some) (hlo : lentOne α = true) (s : Stp w w') (I' : FI K ⟨start N vs, P.N⟩ w' σ' ρ') (h : outK α ρ' k) :
    ∃ α' w'', w''.G = w'.G ∧ w''.H = w'.H ∧ (∀ i b, b ∈ w''.F i → b ∈ w'.F i) ∧ FI K P w'' (vs.map some) α' ∧ Stp w w'' ∧ k α' := by
  have hl : vs.length = α.length := by have := I.len; rwa [List.length_map] at this
  -- without a lent argument
  have plain : (∀ st ∈ α, ∃ d, st = .val d) → FI K P ⟨w'.G, w'.H, fun _ => []⟩ (vs.map some) α ∧ Stp w ⟨w'.G, w'.H, fun _ => []⟩ := fun hv => by
    refine ⟨⟨I'.gh, I.len, fun i st e => ?_, fun _ _ => rfl, fun i b hb => (nomatch hb), fun i j b _ hb => (nomatch hb)⟩, ⟨s.g, s.gf, s.h, s.t, fun i b hb => (nomatch hb)⟩⟩
    obtain ⟨d, rfl⟩ := hv st (List.mem_of_getElem? e)
    obtain ⟨_, u, h1, h2⟩ := I.ok i _ e
    exact ⟨rfl, u, h1, rep_mono s.g _ _ h2⟩
  -- with one
  have lent : ∀ (s0 s1 : SD) (r : List SD) (ρr : DSt), α = s0 :: r → ρ' = s1 :: ρr → (∀ st ∈ r, ∃ d, st = .val d) → ((∃ io xs ys, s0 = .own io xs ∧ s1 = .own true ys) ∨ ∃ io q q', s0 = .res io q ∧ s1 = .res true q') →
      FI K P ⟨w'.G, w'.H, fun i => if i = 0 then w'.F 0 else []⟩ (vs.map some) (s1 :: r) ∧ Stp w ⟨w'.G, w'.H, fun i => if i = 0 then w'.F 0 else []⟩ := by
    intro s0 s1 r ρr ea er hv hc
    subst ea er
    have f0 : ∀ j b, b ∈ (if j = 0 then w'.F 0 else ([] : List Addr)) → j = 0 ∧ b ∈ w'.F 0 := fun j b hb => by
      by_cases e : j = 0
      · rw [if_pos e] at hb; exact ⟨e, hb⟩
      · rw [if_neg e] at hb; cases hb
    refine ⟨⟨I'.gh, I.len, fun i st e => ?_, fun i hi => ?_, fun i b hb => I'.foot 0 b (f0 i b hb).2, fun i j b hij hb hb' => hij ((f0 i b hb).1.trans (f0 j b hb').1.symm)⟩, ⟨s.g, s.gf, s.h, s.t, fun i b hb => ?_⟩⟩
    · cases i with
      | zero =>
        cases e
        have ok' := I'.ok 0 s1 rfl
        show slotOk K P.σ0[0]? P.N _ (w'.F 0) (vs.map some)[0]? s1
        cases vs with
        | nil => cases hl
        | cons v0 vr =>
          have e0 : (start N (v0 :: vr))[0]? = some (some v0) := rfl
          have ep : P.σ0[0]? = some (some v0) := by rw [hP]; rfl
          rcases hc with ⟨io, xs, ys, rfl, rfl⟩ | ⟨io, q, q', rfl, rfl⟩
          · obtain ⟨a, ws, h1, h2, h3, h4, h5, _⟩ := ok'
            have h5 := h5 rfl
            rw [e0] at h5
            cases h5
            exact ⟨a, ws, rfl, h2, h3, h4, fun _ => ep, fun z => nomatch z⟩
          · obtain ⟨a, h1, h2, h5, _⟩ := ok'
            have h5 := h5 rfl
            rw [e0] at h5
            cases h5
            exact ⟨a, rfl, h2, fun _ => ep, fun z => nomatch z⟩
      | succ i =>
        have e' : r[i]? = some st := by simpa using e
        obtain ⟨d, rfl⟩ := hv st (List.mem_of_getElem? e')
        obtain ⟨_, u, h1, h2⟩ := I.ok (i + 1) (.val d) (by simpa using e')
        exact ⟨rfl, u, h1, rep_mono s.g _ _ h2⟩
    · show (if i = 0 then w'.F 0 else []) = []
      rw [if_neg (by intro z; subst z; simp at hi)]
    · obtain ⟨rfl, q⟩ := f0 i b hb
      exact s.f 0 b q
  have vals : ∀ r : List SD, (r.all fun s => match s with | .val _ => true | _ => false) = true → ∀ st ∈ r, ∃ d, st = .val d := fun r hr st hm => by
    have z := List.all_eq_true.mp hr st hm
    cases st with
    | val d => exact ⟨d, rfl⟩
    | _ => cases z
  cases α with
  | nil => exact ⟨[], ⟨w'.G, w'.H, fun _ => []⟩, rfl, rfl, (fun i b hb => nomatch (show b ∈ ([] : List Addr) from hb)), (plain fun st hm => (nomatch hm)).1, (plain fun st hm => (nomatch hm)).2, h⟩
  | cons s0 r =>
    cases s0 with
    | no => cases hlo
    | val d =>
      have hv := vals (.val d :: r) hlo
      exact ⟨_, ⟨w'.G, w'.H, fun _ => []⟩, rfl, rfl, (fun i b hb => nomatch (show b ∈ ([] : List Addr) from hb)), (plain hv).1, (plain hv).2, h⟩
    | own io xs =>
      have hv := vals r (Bool.and_eq_true_iff.mp hlo).2
      cases ρ' with
      | nil => exact (show False from h).elim
      | cons s1 ρr =>
        cases s1 with
        | no => exact (show False from h).elim
        | val _ => exact (show False from h).elim
        | res _ _ => exact (show False from h).elim
        | own io' ys =>
          cases io' with
          | false => exact (show False from h).elim
          | true =>
            obtain ⟨h1, h2⟩ := lent _ _ r ρr rfl rfl hv (.inl ⟨io, xs, ys, rfl, rfl⟩)
            refine ⟨_, ⟨w'.G, w'.H, fun i => if i = 0 then w'.F 0 else []⟩, rfl, rfl, fun i b hb => ?_, h1, h2, h⟩
            have hb : b ∈ (if i = 0 then w'.F 0 else ([] : List Addr)) := hb
            by_cases e : i = 0
            · rw [if_pos e] at hb; rw [e]; exact hb
            · rw [if_neg e] at hb; cases hb
    | res io q =>
      have hv := vals r (Bool.and_eq_true_iff.mp hlo).2
      cases ρ' with
      | nil => exact (show False from h).elim
      | cons s1 ρr =>
        cases s1 with
        | no => exact (show False from h).elim
        | val _ => exact (show False from h).elim
        | own _ _ => exact (show False from h).elim
        | res io' q' =>
          cases io' with
          | false => exact (show False from h).elim
          | true =>
            obtain ⟨h1, h2⟩ := lent _ _ r ρr rfl rfl hv (.inr ⟨io, q, q', rfl, rfl⟩)
            refine ⟨_, ⟨w'.G, w'.H, fun i => if i = 0 then w'.F 0 else []⟩, rfl, rfl, fun i b hb => ?_, h1, h2, h⟩
            have hb : b ∈ (if i = 0 then w'.F 0 else ([] : List Addr)) := hb
            by_cases e : i = 0
            · rw [if_pos e] at hb; rw [e]; exact hb
            · rw [if_neg e] at hb; cases hb

/-- THE RULE: a def by its body's derivation and that derivation's reading -/
theorem fnd_of {P : Program} {w : World} {K : PySem.W.Frag} {mg : Str → Option Value} {base : Heap} {k : Nat} {f : Addr} {name qual : Str} {params : Arguments} {body : List Stmt} {scope : Scope} {dV kV doc pm cdv ct oc : Value} {an od : Option Addr}
    {osl : Array (Option Value)} {N ps : List Str} {p : DSp} (lk : K.lookup f = some ⟨oc, od, .func (PySem.W.fnOf name qual params body scope dV kV doc pm an cdv ct), osl⟩) (hcd : PySem.W.codeIn K cdv qual = true) (S : FnScope N ps scope)
    (len : ∀ α QD ED, p α QD ED → α.length = ps.length)
    (hbody : ∀ (A : Around) (outer : List Env) (s : Shared) (H : Hp) (E : XK) (C : DC (cxOf (L2.CX P w) P w K mg base N qual scope f cdv A outer s H E)) (α : List SD) (QD : Ret → List SD → Prop) (ED : Exd → List SD → Prop),
      Room k (A.deeper (envOfC qual scope s.heap.objs.size f cdv)) → C.W = (fun e ρ => outK α ρ fun α' => ED e α') → p α QD ED →
      ∃ ts t, DSs C body ts t ∧ t { nx := fun ρ => outK α ρ fun α' => QD (.d .none) α', rt := fun r ρ => outK α ρ fun α' => QD r α' } (startD N.length α)) :
    FnD P w K mg base (k + 1) f (PySem.W.fnOf name qual params body scope dV kV doc pm an cdv ct) ps p := by
  refine ⟨len, fun A outer s H args us vs Q E hgd hr e0 hb r hsp => ?_⟩
  have hl := spOf.len len hsp
  obtain ⟨wd, α, QD, ED, eH, I0, hlo, hp, hret, hexc⟩ := hsp
  have kin0 : K.In s.heap := PySem.W.Frag.In.keeps e0.mod.kin fun c u q => (e0.bs c u q).1
  have lim0 : s.heap.NoLimit := Heap.NoLimit.keeps e0.mod.nolimit fun c u q => (e0.bs c u q).1
  have kinds : ∀ y ∈ ps.zip us, scope.names.lookup y.1 = some .local ∨ (scope.names.lookup y.1 = some .cell ∧ ((cellsFrom (s.heap.objs.size + 1) scope.names []).lookup y.1).isSome = true) := fun ⟨n, v⟩ hy =>
    (S.par n (List.of_mem_zip hy).1).imp id fun c => ⟨c, PySem.W.cellsFrom_some _ _ _ (.inl c)⟩
  let C : DC (cxOf (L2.CX P w) P w K mg base N qual scope f cdv A outer s H E) :=
    { P := ⟨start N vs, (parOf vs wd).N⟩, A := fun w' => Stp wd w', cl := fun _ _ a b => a.trans b,
      nw := fun w' q a e => by
        show wd.H q = none
        cases z : wd.H q with
        | none => rfl
        | some o => exact absurd e (a.t q (by rw [z]; exact fun z => nomatch z)),
      gd := hgd, calm := rfl, nd := S.nd, un := (by have := (hr.deeper (envOfC qual scope s.heap.objs.size f cdv)).un; show (A.deeper (envOfC qual scope s.heap.objs.size f cdv)).units + 100 < _; omega),
      W := fun e ρ => outK α ρ fun α' => ED e α', WH := fun cls d _ H => E cls d H, tk := takes_of rfl rfl rfl rfl,
      hW := fun e ρ σ w' cls d a I re h => by
        obtain ⟨α', w'', g1, g2, _, I2, s2, h2⟩ := fi_end (P := parOf vs wd) (N := N) I0 rfl hlo a I h
        have z := hexc e α' w'' cls d s2 I2 ⟨re.1, by rw [g1]; exact re.2⟩ h2
        rw [g2] at z
        exact z }
  obtain ⟨ts, t, hd, ht⟩ := hbody A outer s H E C α QD ED (hr.deeper _) rfl hp
  refine codeAny_call_function hr.depth (kin0 _ _ lk) rfl S.co S.gen rfl (PySem.W.codeRec_of kin0 hcd) (hb _ _ _ _ ?_)
  refine wpAny_newFunctionEnv_cells S.kind kinds fun env henv s1 x => ?_
  subst henv
  refine ⟨lim0.keeps x.toInCall.keep, codeAny_func ?_⟩
  have J0 : Inv (cxOf (L2.CX P w) P w K mg base N qual scope f cdv A outer s H E) [] (start N vs) H s1 := inv_start S hr.hd e0 hl r x
  -- the ends
  have ends : EndsOk C wd { nx := fun _ H' => Q .non H', rt := Q } { nx := fun ρ => outK α ρ fun α' => QD (.d .none) α', rt := fun r ρ => outK α ρ fun α' => QD r α' } := by
    have one : ∀ v r w' σ' ρ', Stp wd w' → FI K C.P w' σ' ρ' → RepRet K C.P.N w' v r → outK α ρ' (fun α' => QD r α') → Q v w'.H := by
      intro v r w' σ' ρ' s' I' hr' h
      obtain ⟨α', w'', g1, g2, g3, I2, s2, h2⟩ := fi_end (P := parOf vs wd) (N := N) I0 rfl hlo s' I' h
      have rr : RepRet K (parOf vs wd).N w'' v r := by
        cases r with
        | d y =>
          show Rep K w''.G v y
          rw [g1]; exact hr'
        | n ds =>
          obtain ⟨a, ws, h1, h3, h4, h5, h6, h7⟩ := hr'
          exact ⟨a, ws, h1, h3, by rw [g1]; exact h4, fun i z => h5 i (g3 i a z), by rw [g2]; exact h6, by rw [g1]; exact h7⟩
      have z := hret v r w'' α' s2 I2 rr h2
      rw [g2] at z
      exact z
    exact ⟨fun w' σ' ρ' s' I' h => one .non (.d .none) w' σ' ρ' s' I' .non h, one, fun _ _ _ _ _ h => h.elim, fun _ _ _ _ _ h => h.elim⟩
  have go := hd.run wd (start N vs) (startD N.length α) _ _ (Stp.refl wd) (fi_start N I0 rfl) ht ends
  rw [eH] at go
  refine wpAny_mono (hd.pss.run [] s1 (start N vs) H _ J0 go) ?_ fun _ _ z => z
  intro fl s' got
  have fin : ∀ {σ' : L2.St} {H' : Hp} {v : V} {u : Value}, Inv (cxOf (L2.CX P w) P w K mg base N qual scope f cdv A outer s H E) [] σ' H' s' → RelV v u → Q v H' → CE outer P w H s Q u s' :=
    fun J rv q => ⟨_, _, J.os, J.bare, J.base, J.hok, rv, q⟩
  match fl, got with
  | .ret u, ⟨v, σ', H', J, rv, q⟩ => exact fin J rv q
  | .next, ⟨σ', H', J, q⟩ => exact fin (v := V.non) (u := Value.none) J rfl q
  | .brk, ⟨_, _, _, q⟩ => exact q.elim
  | .cont, ⟨_, _, _, q⟩ => exact q.elim
end DL

end
section
set_option maxHeartbeats 4000000
/-! DLE: more of expressions and statements over data. -/
namespace DL
open PySem PySem.Spec L2
section
variable {X : Cx} {C : DC X} {a b c e : Expr} {ta tb tc te : TE} {da db dc de : TED} {pos : Pos} {es : List Expr} {tr : TA} {dr : TND}

theorem opr_or {f : Value → Value → Sem Value} {r r' : R2} (h : OpR X f r) (h' : OpR X f r') : OpR X f (fun x y H Q => r x y H Q ∨ r' x y H Q) := by
  intro pins s σ H x y v u Q I rx ry q
  rcases q with q | q
  · exact h pins s σ H x y v u Q I rx ry q
  · exact h' pins s σ H x y v u Q I rx ry q

/-! ### + of ints, texts, tuples, lists -/
def rAddU (K : PySem.W.Frag) : R2 := fun x y H Q => rI0 (fun i j => .int (i + j)) x y H Q ∨ (∃ i j, x = .str i ∧ y = .str j ∧ i.length + j.length ≤ sizeLine ∧ Q (.str (i ++ j)) H) ∨ rCatA K x y H Q ∨ rCat x y H Q
def dAdd (x y : PyData) (k : PyData → Prop) : Prop := match x, y with
  | .int i, .int j => k (.int (i + j))
  | .str a, .str b => a.length + b.length ≤ sizeLine ∧ k (.str (a ++ b))
  | .tuple xs, .tuple ys => xs.length + ys.length ≤ sizeLine ∧ k (.tuple (xs ++ ys))
  | .list xs, .list ys => xs.length + ys.length ≤ sizeLine ∧ k (.list (xs ++ ys))
  | _, _ => False
theorem Reps.nil_l {G : Hp} {vs : List V} {ds : List PyData} (r : Reps X.K G vs ds) : vs = [] ↔ ds = [] := by
  cases r with
  | nil => simp
  | cons _ _ => simp
theorem od_addU : OpR X (binaryOp .Add) (rAddU X.K) ∧ OpD X C (rAddU X.K) dAdd := by
  refine ⟨opr_or op_add (opr_or op_add_str (opr_or op_catA op_cat)), fun w σ ρ u v x y Q kd hA I tx ty h k => ?_⟩
  unfold dAdd at h
  split at h
  · cases tx
    cases ty
    exact .inl ⟨_, _, rfl, rfl, k _ (.int _) w (Stp.refl w) I (.int _) h⟩
  · cases tx
    cases ty
    exact .inr (.inl ⟨_, _, rfl, rfl, h.1, k _ (.str _) w (Stp.refl w) I (.str _) h.2⟩)
  · rename_i xs ys
    obtain ⟨hl, h⟩ := h
    cases tx with
    | tup hx rx =>
      rename_i ax vx
      cases ty with
      | tup hy ry =>
        rename_i ay vy
        refine .inr (.inr (.inl ⟨_, _, _, _, rfl, rfl, sqt_mono I.gh hx, sqt_mono I.gh hy, by rw [rx.len, ry.len]; exact hl, fun e => ?_, fun e1 e2 => ?_, fun e1 e2 p hp => ?_⟩))
        · have z := rx.nil_l.mp e
          subst z
          exact k (.ref ay) (.tuple ys) w (Stp.refl w) I (.tup hy ry) h
        · have z := ry.nil_l.mp e2
          subst z
          rw [List.append_nil] at h
          exact k (.ref ax) (.tuple xs) w (Stp.refl w) I (.tup hx rx) h
        · obtain ⟨I2, s2⟩ := I.new (o := .tup (vx ++ vy)) hp
          exact k (.ref p) (.tuple (xs ++ ys)) ⟨upd w.G p _, upd w.H p _, w.F⟩ s2 I2 (.tup (SqT.of upd_same) (reps_mono s2.g _ _ (rx.app ry))) h
  · rename_i xs ys
    obtain ⟨hl, h⟩ := h
    obtain ⟨ax, vx, rfl, hx, rx⟩ := tx
    obtain ⟨ay, vy, rfl, hy, ry⟩ := ty
    refine .inr (.inr (.inr ⟨_, _, _, _, rfl, rfl, hx, hy, by rw [rx.len, ry.len]; exact hl, fun p hp => ?_⟩))
    obtain ⟨I2, s2⟩ := I.new (o := .lst (vx ++ vy)) hp
    exact k (.ref p) (.list (xs ++ ys)) ⟨upd w.G p _, upd w.H p _, w.F⟩ s2 I2 (.lst upd_same (reps_mono s2.g _ _ (rx.app ry))) h
  · exact h.elim
def asLL (x y : PyData) (k : List PyData → List PyData → Prop) : Prop := match x, y with
  | .list xs, .list ys => k xs ys
  | _, _ => False
theorem asLL_inv {x y : PyData} {k : List PyData → List PyData → Prop} (h : asLL x y k) : ∃ xs ys, x = .list xs ∧ y = .list ys ∧ k xs ys := by
  unfold asLL at h
  split at h
  · exact ⟨_, _, rfl, rfl, h⟩
  · exact h.elim
/-- list + list as a new list of one's own -/
def nCat (da db : TED) : TND := fun ρ Q => da ρ fun r1 ρ1 => db ρ1 fun r2 ρ2 => vw ρ2 r1 fun x => vw ρ2 r2 fun y => asLL x y fun xs ys => xs.length + ys.length ≤ sizeLine ∧ Q (xs ++ ys) ρ2
theorem air_new {w w1 : Wd} {p : Addr} (s : Stp w w1) (hp : w1.H p = none) : w.H p = none := by
  cases e0 : w.H p with
  | none => rfl
  | some o => exact absurd hp (s.t p (by rw [e0]; exact fun z => nomatch z))
theorem dn_cat (ha : DE C a ta da) (hb : DE C b tb db) : DN C (.BinOp a .Add b pos) (tOp rCat ta tb) (nCat da db) := by
  refine ⟨pe_op op_cat ha.pe hb.pe, fun w σ ρ Q QD hA I q k => ?_⟩
  refine ha.run w σ ρ _ _ hA I q fun u r1 w1 ρ1 s1 I1 R1 q1 => ?_
  refine hb.run w1 σ ρ1 _ _ (C.cl _ _ hA s1) I1 q1 fun v r2 w2 ρ2 s2 I2 R2 q2 => ?_
  obtain ⟨x, tx, q3⟩ := vw_top I2 (R1.step s2) q2
  obtain ⟨y, ty, q4⟩ := vw_top I2 R2 q3
  obtain ⟨xs, ys, rfl, rfl, hl, h⟩ := asLL_inv q4
  obtain ⟨ax, vx, rfl, hx, rx⟩ := tx
  obtain ⟨ay, vy, rfl, hy, ry⟩ := ty
  refine ⟨_, _, _, _, rfl, rfl, hx, hy, by rw [rx.len, ry.len]; exact hl, fun p hp => ?_⟩
  obtain ⟨I3, s3⟩ := FI.air I2 (o := .lst (vx ++ vy)) hp
  exact k p (vx ++ vy) (xs ++ ys) ⟨w2.G, upd w2.H p _, w2.F⟩ ρ2 ((s1.trans s2).trans s3) I3 (air_new (s1.trans s2) hp) (I2.fresh hp).1 (fun i z => (I2.fresh hp).2 i p z rfl) upd_same (rx.app ry) h

/-! ### built-ins of one value -/
/-- a rule by values for a function of one datum -/
def CallD1 (X : Cx) (C : DC X) (r : List V → Hp → VK → Prop) (f : PyData → (PyData → Prop) → Prop) : Prop :=
  ∀ (w : Wd) (σ : L2.St) (ρ : DSt) (u : V) (x : PyData) (Q : VK) (kd : PyData → Prop), C.A w → FI X.K C.P w σ ρ → Top X.K w u x → f x kd →
    (∀ z d w', Stp w w' → FI X.K C.P w' σ ρ → Rep X.K w'.G z d → kd d → Q z w'.H) → r [u] w.H Q
def dF1 (f : PyData → (PyData → Prop) → Prop) (da : TED) : TED := fun ρ Q => da ρ fun r ρ1 => vw ρ1 r fun x => f x fun z => Q (.d z) ρ1
theorem f1_run {r : List V → Hp → VK → Prop} {f : PyData → (PyData → Prop) → Prop} (h1 : CallD1 X C r f) (ha : DE C a ta da) :
    ∀ (w : Wd) (σ : L2.St) (ρ : DSt) (Q : VK) (QD : R → DSt → Prop), C.A w → FI X.K C.P w σ ρ → dF1 f da ρ QD →
    (∀ v r w' ρ', Stp w w' → FI X.K C.P w' σ ρ' → RepR X.K w' σ v r → QD r ρ' → Q v w'.H) → tCB r (tCons ta tNil) σ w.H Q := by
  intro w σ ρ Q QD hA I q k
  refine ha.run w σ ρ _ _ hA I q fun u r1 w1 ρ1 s1 I1 R1 q1 => ?_
  obtain ⟨x, tx, q2⟩ := vw_top I1 R1 q1
  exact h1 w1 σ ρ1 u x Q _ (C.cl _ _ hA s1) I1 tx q2 fun z d w2 s2 I2 R2 q3 => k z (.d d) w2 ρ1 (s1.trans s2) I2 R2 q3
variable {x : Str} {p : Pos} {id : String} {r : List V → Hp → VK → Prop} {f : PyData → (PyData → Prop) → Prop}
theorem de_B1 (hc : CallR X (.builtin id) r ∧ CallD1 X C r f) (hm : X.mg x = none) (ha : DE C a ta da) (hv : bootBuiltins x = some (.builtin id) := by decide +kernel) (hg : Gl X x := by rfl) (hn : x ≠ "__name__" := by decide) (hdb : (x == ("__debug__" : Str)) = false := by decide)
    (he : starEach [a] X.env = (false, eval a X.env) :: starEach [] X.env := by rfl) (hpl : (backTo pos (starEach [] X.env)).any (·.1) = false := by rfl) : DE C (.Call (.Name x p) [a] [] pos) (tCB r (tCons ta tNil)) (dF1 f da) :=
  ⟨pe_callB hc.1 hg hm hv (pa_cons ha.pe pa_nil he) hn hdb he hpl, f1_run hc.2 ha⟩
theorem de_Ty1 {T : String} (hc : CallR X (.type T) r ∧ CallD1 X C r f) (hm : X.mg x = none) (ha : DE C a ta da) (hv : bootBuiltins x = some (.type T) := by decide +kernel) (hg : Gl X x := by rfl) (hn : x ≠ "__name__" := by decide) (hdb : (x == ("__debug__" : Str)) = false := by decide)
    (he : starEach [a] X.env = (false, eval a X.env) :: starEach [] X.env := by rfl) (hpl : (backTo pos (starEach [] X.env)).any (·.1) = false := by rfl) : DE C (.Call (.Name x p) [a] [] pos) (tCB r (tCons ta tNil)) (dF1 f da) :=
  ⟨pe_callTy hc.1 hg hm hv (pa_cons ha.pe pa_nil he) hn hdb he hpl, f1_run hc.2 ha⟩
/-- len -/
def fLen (x : PyData) (k : PyData → Prop) : Prop := match x with
  | .list xs => k (.int (xs.length : Nat))
  | .tuple xs => k (.int (xs.length : Nat))
  | .str s => s.length ≤ sizeLine ∧ k (.int (s.length : Nat))
  | _ => False
theorem cd_len : CallR X (.builtin "len") (fun xs H Q => ∃ x n, xs = [x] ∧ LenV X.K x H n ∧ Q (.int n) H) ∧ CallD1 X C (fun xs H Q => ∃ x n, xs = [x] ∧ LenV X.K x H n ∧ Q (.int n) H) fLen := by
  refine ⟨call_len, fun w σ ρ u x Q kd hA I tx h k => ?_⟩
  cases x with
  | list xs =>
    obtain ⟨a, vs, rfl, hs, hr⟩ := tx
    refine ⟨_, vs.length, rfl, .inl ⟨vs, SqL.of hs, rfl⟩, ?_⟩
    rw [hr.len]
    exact k _ (.int _) w (Stp.refl w) I (.int _) h
  | tuple xs =>
    cases tx with
    | tup hs hr =>
      rename_i a vs
      refine ⟨_, vs.length, rfl, .inr ⟨vs, sqt_mono I.gh hs, rfl⟩, ?_⟩
      rw [hr.len]
      exact k _ (.int _) w (Stp.refl w) I (.int _) h
  | str s =>
    cases tx
    exact ⟨_, s.length, rfl, ⟨h.1, rfl⟩, k _ (.int _) w (Stp.refl w) I (.int _) h.2⟩
  | _ => exact h.elim
/-- abs -/
def fAbs (x : PyData) (k : PyData → Prop) : Prop := match x with
  | .int i => k (.int (if i < 0 then -i else i))
  | _ => False
theorem cd_abs : CallR X (.builtin "abs") (fun xs H Q => ∃ i, xs = [.int i] ∧ Q (.int (if i < 0 then -i else i)) H) ∧ CallD1 X C (fun xs H Q => ∃ i, xs = [.int i] ∧ Q (.int (if i < 0 then -i else i)) H) fAbs := by
  refine ⟨call_abs, fun w σ ρ u x Q kd hA I tx h k => ?_⟩
  cases x with
  | int i =>
    cases tx
    exact ⟨i, rfl, k _ (.int _) w (Stp.refl w) I (.int _) h⟩
  | _ => exact h.elim
/-- tuple(a list) -/
def fTup (x : PyData) (k : PyData → Prop) : Prop := match x with
  | .list xs => k (.tuple xs)
  | .tuple xs => k (.tuple xs)
  | _ => False
abbrev rTupOf (K : PySem.W.Frag) : List V → Hp → VK → Prop := fun xs H Q => ∃ p ys, xs = [.ref p] ∧ ((SqL K H p ys ∧ ∀ l, H l = none → Q (.ref l) (upd H l (.tup ys))) ∨ (SqT K H p ys ∧ Q (.ref p) H))
theorem cd_tuple : CallR X (.type "tuple") (rTupOf X.K) ∧ CallD1 X C (rTupOf X.K) fTup := by
  refine ⟨call_tuple_of, fun w σ ρ u x Q kd hA I tx h k => ?_⟩
  cases x with
  | list xs =>
    obtain ⟨a, vs, rfl, hs, hr⟩ := tx
    refine ⟨a, vs, rfl, .inl ⟨SqL.of hs, fun p hp => ?_⟩⟩
    obtain ⟨I2, s2⟩ := I.new (o := .tup vs) hp
    exact k (.ref p) (.tuple xs) ⟨upd w.G p _, upd w.H p _, w.F⟩ s2 I2 (.tup (SqT.of upd_same) (reps_mono s2.g _ _ hr)) h
  | tuple xs =>
    cases tx with
    | tup hs hr =>
      rename_i a vs
      exact ⟨a, vs, rfl, .inr ⟨sqt_mono I.gh hs, k (.ref a) (.tuple xs) w (Stp.refl w) I (.tup hs hr) h⟩⟩
  | _ => exact h.elim
/-- all, any of bools -/
def fAll (x : PyData) (k : PyData → Prop) : Prop := ∃ bs : List Bool, x = .list (bs.map .bool) ∧ k (.bool (bs.all fun b => b))
def fAny (x : PyData) (k : PyData → Prop) : Prop := ∃ bs : List Bool, x = .list (bs.map .bool) ∧ k (.bool (bs.any fun b => b))
theorem cd_all : CallR X (.builtin "all") (rAll X.K) ∧ CallD1 X C (rAll X.K) fAll := by
  refine ⟨cr_all C.calm, fun w σ ρ u x Q kd hA I tx h k => ?_⟩
  obtain ⟨bs, rfl, h⟩ := h
  obtain ⟨a, vs, rfl, hs, hr⟩ := tx
  have e := reps_bools_inv hr
  subst e
  exact ⟨a, bs, rfl, SqL.of hs, k _ (.bool _) w (Stp.refl w) I (.bl _) h⟩
theorem cd_any : CallR X (.builtin "any") (rAny X.K) ∧ CallD1 X C (rAny X.K) fAny := by
  refine ⟨cr_any C.calm, fun w σ ρ u x Q kd hA I tx h k => ?_⟩
  obtain ⟨bs, rfl, h⟩ := h
  obtain ⟨a, vs, rfl, hs, hr⟩ := tx
  have e := reps_bools_inv hr
  subst e
  exact ⟨a, bs, rfl, SqL.of hs, k _ (.bool _) w (Stp.refl w) I (.bl _) h⟩
/-- repr: the text of a datum -/
def fRepr (x : PyData) (k : PyData → Prop) : Prop := x.showable = true ∧ x.hasDict = false ∧ x.depth ≤ 60 ∧ x.shown.length ≤ sizeLine ∧ k (.str x.shown)
def rRepr (K : PySem.W.Frag) : List V → Hp → VK → Prop := fun xs H Q => ∃ v d, xs = [v] ∧ Dp K H v d ∧ d.showable = true ∧ d.hasDict = false ∧ d.depth ≤ 60 ∧ d.shown.length ≤ sizeLine ∧ Q (.str d.shown) H
theorem call_repr (gd : X.A.guards = some []) (un : X.A.units + 100 < cLine) : CallR X (.builtin "repr") (rRepr X.K) := by
  intro pins s σ H xs us Q I rx h
  obtain ⟨v, d, rfl, hd, hs, hn, hdep, hsz, q⟩ := h
  obtain ⟨u, rfl, ru⟩ := vals1 rx
  obtain ⟨as, rd⟩ := Dp.reads I d v u hd ru
  have fin : ∀ t, EP X pins σ Q (.str d.shown t) s := fun t => ⟨.str d.shown, H, I, ⟨t, rfl⟩, q⟩
  have fin2 : ∀ h' t tk, (∀ b o, s.heap.get? b = some o → h'.get? b = some o) → EP X pins σ Q (.str d.shown t) { s with heap := h', toks := tk } := fun h' t tk hk => ⟨.str d.shown, H, I.kept (t' := tk) hk, ⟨t, rfl⟩, q⟩
  cases rd with
  | none => exact PySem.P.repr_of_none (by simpa only [PyData.shown] using fin2 s.heap _ _ fun _ _ z => z)
  | bool b => exact PySem.P.repr_of_bool (by simpa only [PyData.shown] using fin2 s.heap _ _ fun _ _ z => z)
  | int i t => exact PySem.P.repr_of_int (by simpa [PyData.showable] using hs) (by simpa only [PyData.shown] using fin2 s.heap _ _ fun _ _ z => z)
  | str z t => exact PySem.P.repr_of_str (by simpa only [PyData.shown] using fin2 s.heap _ _ fun _ _ z => z) (by simpa only [PyData.shown] using hsz)
  | list h1 h2 h3 h4 => exact repr_of_reads' (Reads.list h1 h2 h3 h4) hs (fun z => by rw [hn] at z; cases z) gd (by omega) (fun _ _ z => z) fin2 hsz
  | tuple h1 h2 h3 h4 => exact repr_of_reads' (Reads.tuple h1 h2 h3 h4) hs (fun z => by rw [hn] at z; cases z) gd (by omega) (fun _ _ z => z) fin2 hsz
  | dict _ _ _ _ _ => simp [PyData.hasDict] at hn
theorem cd_repr : CallR X (.builtin "repr") (rRepr X.K) ∧ CallD1 X C (rRepr X.K) fRepr := by
  refine ⟨call_repr C.gd C.un, fun w σ ρ u x Q kd hA I tx h k => ?_⟩
  obtain ⟨h1, h2, h3, h4, h5⟩ := h
  exact ⟨u, x, rfl, (tx.rep I.gh).dp _ _ h2, h1, h2, h3, h4, k _ (.str _) w (Stp.refl w) I (.str _) h5⟩
end
end DL

end
section
set_option maxHeartbeats 4000000
/-! DLF: a law's end over such a def. -/
namespace DL
open PySem PySem.Spec L2
open PyProof.Rows (IntsAre AllBare)

/-- the script: read, never written -/
def scriptR (ns : List Int) : Res where
  P := fun K G _ a fp => fp = [] ∧ SqL K G a (ns.map V.int)
  keep := fun s _ h => ⟨h.1, sql_mono s h.2⟩
/-- what a law promises: True -/
def lawSp : DSp := fun α QD _ => ∃ ns : List Int, ns.length ≤ 63 ∧ α = [.res true (scriptR ns)] ∧ QD (.d (.bool true)) α
theorem lawSp_sp {K : PySem.W.Frag} {H : Hp} {a : Addr} {ns : List Int} (hl : ns.length ≤ 63) (hs : SqL K H a (ns.map V.int)) : spOf K lawSp [.ref a] H (fun v _ => v = .bl true) fun _ _ _ => False := by
  refine ⟨⟨H, H, fun _ => []⟩, [.res true (scriptR ns)], fun r _ => r = .d (.bool true), fun _ _ => False, rfl, ⟨fun _ _ h => h, rfl, fun i s e => ?_, fun _ _ => rfl, fun i b hb => (nomatch hb), fun i j b _ hb => (nomatch hb)⟩, rfl, ⟨ns, hl, rfl, rfl⟩, fun v r w' α' _ _ hr h => ?_, fun _ _ _ _ _ _ _ _ h => h⟩
  · cases i with
    | zero => cases e; exact ⟨a, rfl, ⟨rfl, hs⟩, fun _ => rfl, fun z => nomatch z⟩
    | succ i => simp at e
  · subst h
    cases hr
    rfl
theorem law_callD {P : Program} {w : World} {K : PySem.W.Frag} {mg mb : Str → Option Value} {k : Nat} {fa a : Addr} {fd : FuncData} {x : Str} {s1 : Shared} {vs : List Value} {ns : List Int}
    (KX : K.In s1.heap) (hns : s1.heap.Ns mainGlobals mg) (hb : s1.heap.Ns builtinsNs mb) (hbb : ∀ x : Str, x ≠ "__name__" → mb x = bootBuiltins x) (hlim : s1.heap.NoLimit) (hg : s1.gens = #[])
    (ha : s1.heap.get? a = some { cls := .type "list", data := .seq vs.toArray }) (hi : IntsAre vs ns) (hl : ns.length ≤ 63) (hr : Room k callerA)
    (F : ∀ base : Heap, K.In base → base.Ns mainGlobals mg → FnD P w K mg base k fa fd [x] lawSp) (hbind : ∀ (s : Shared) (u : Value), BindsTo s fd ⟨[u], []⟩ [(x, u)]) :
    codeAny (model P w) callerA (.call (.ref fa) ⟨[.ref a], []⟩) (fun r s' => r = .ok (.ret (.bool true)) ∧ OldK s1.heap s'.heap ∧ s'.os = s1.os ∧ AllBare s'.gens) s1 := by
  have hline : ns.length ≤ sizeLine := Nat.le_trans hl (by decide)
  have main : ∀ H : Hp, Only H → SqL K H a (ns.map V.int) → HOk P w H s1.heap → (∀ b, H b ≠ none → b = a) → (H a ≠ none → K.lookup a = none) →
      codeAny (model P w) callerA (.call (.ref fa) ⟨[.ref a], []⟩) (fun r s' => r = .ok (.ret (.bool true)) ∧ OldK s1.heap s'.heap ∧ s'.os = s1.os ∧ AllBare s'.gens) s1 := by
    intro H only seq hok one away
    -- the heap without what is tracked: a dict is never the script
    have dicts : ∀ (b : Addr) (o : Obj) (es : Array DictEntry) (n : Nat), s1.heap.get? b = some o → o.data = .dict es n → H b = none := by
      intro b o es n e d
      cases q : H b with
      | none => rfl
      | some u =>
        obtain rfl : b = a := one b (by rw [q]; exact fun z => nomatch z)
        rw [ha] at e
        cases e
        exact nomatch (show Data.seq vs.toArray _ = Data.dict es n from d)
    have ns2 : ∀ (b : Addr) (m : Str → Option Value), s1.heap.Ns b m → (hidT s1.heap H).Ns b m := by
      rintro b m ⟨o, es, n, e, d, rest⟩
      exact ⟨o, es, n, hidT_get e (dicts b o es n e d), d, rest⟩
    have kin : K.In (hidT s1.heap H) := by
      intro b o e
      refine hidT_get (KX b o e) ?_
      cases q : H b with
      | none => rfl
      | some u =>
        obtain rfl : b = a := one b (by rw [q]; exact fun z => nomatch z)
        rw [away (by rw [q]; exact fun z => nomatch z)] at e
        cases e
    have mod : Mod K mg (hidT s1.heap H) := by
      obtain ⟨mc, l1, l2⟩ := hlim
      exact ⟨kin, ns2 _ _ hns, ⟨mb, ns2 _ _ hb, hbb⟩, ⟨mc, ns2 _ _ l1, l2⟩⟩
    have env : Env0 P w K mg (hidT s1.heap H) callerA [] s1 H :=
      ⟨rfl, mod, fun b o e => of_hidT e, Nat.le_of_eq (hidT_size _ _), trivial, (fun b z => nomatch (show b ∈ ([] : List Addr) from z)), hok, .of_eq hg⟩
    refine codeAny_mono ((F _ kin (ns2 _ _ hns)).run callerA [] s1 H ⟨[.ref a], []⟩ [.ref a] [.ref a] _ _ rfl hr env (hbind s1 (.ref a)) (.cons rfl .nil) (lawSp_sp hl seq)) ?_
    intro r s' got
    match r, got with
    | .error ex, ⟨_, _, _, _, _, _, _, _, _, _, _, _, z⟩ => exact z.elim
    | .ok .next, got => exact got.elim
    | .ok .brk, got => exact got.elim
    | .ok .cont, got => exact got.elim
    | .ok (.ret u), ⟨v, H', os, bare, un, hok', rv, q⟩ =>
      obtain rfl : v = .bl true := q
      obtain rfl : u = Value.bool true := rv
      refine ⟨rfl, OldK.of_keep fun b o e => ?_, os, bare⟩
      rcases only b with z | ⟨ob, xs, z⟩
      · exact un.keep b o e z (fun y => nomatch (show b ∈ ([] : List Addr) from y)) (fun y => nomatch (show b ∈ ([] : List Addr) from y))
      · have e1 := (hok b _ z).1
        rw [e] at e1
        cases e1
        exact (hok' b _ (un.frzs b _ _ z)).1
  have rv := vals_ints hi
  cases hk : K.lookup a with
  | some o =>
    have e := KX a o hk
    rw [ha] at e
    cases e
    exact main (fun _ => none) (fun _ => .inl rfl) (.inr ⟨_, vs.toArray, _, hk, rfl, rfl, rfl, by rw [List.size_toArray, hi.length]; exact hline, by simpa using rv⟩)
      (fun b u z => nomatch (show (none : Option HO) = some u from z)) (fun b z => absurd rfl z) (fun z => absurd rfl z)
  | none =>
    have at_ : ∀ b, (if b = a then some (HO.frz { cls := .type "list", data := .seq vs.toArray } (.lst (ns.map V.int))) else none) ≠ none → b = a := fun b z => by
      by_cases hb : b = a
      · exact hb
      · exact absurd (if_neg hb) z
    refine main (fun b => if b = a then some (.frz { cls := .type "list", data := .seq vs.toArray } (.lst (ns.map V.int))) else none) (fun b => ?_) (.inl (.inr ⟨_, if_pos rfl⟩)) (fun b u z => ?_) at_ (fun _ => hk)
    · by_cases hb : b = a
      · exact .inr ⟨_, _, if_pos hb⟩
      · exact .inl (if_neg hb)
    · obtain rfl : b = a := at_ b (by rw [show (if b = a then some (HO.frz { cls := .type "list", data := .seq vs.toArray } (.lst (ns.map V.int))) else none) = some u from z]; exact fun z => nomatch z)
      have z' := (if_pos rfl).symm.trans z
      cases z'
      exact ⟨ha, by rw [List.length_map]; exact hline, vs, _, rv, ha⟩
/-- the law's call behind a head by facts -/
theorem walkD {l : PySem.W.OpenLaw} {k : Nat} {q : Program} {loose : List Str} {XP : (Str → Option Value) → Heap → Prop} {YP : World → Heap → Prop} {d : DefRec} {x : Str}
    (hn : l.most = some 63) (hdf : d.params.defaults = []) (hr : Room k callerA)
    (F : ∀ (w : World) (mg : Str → Option Value) (fa : Addr) (h : Heap), YP w h → h.Ns mainGlobals mg → mg d.name = some (.ref fa) →
      ∃ (K : PySem.W.Frag) (fd : FuncData), K.In h ∧ (∀ (s : Shared) (u : Value), BindsTo s fd ⟨[u], []⟩ [(x, u)]) ∧ ∀ base : Heap, K.In base → base.Ns mainGlobals mg → FnD l.prog w K mg base k fa fd [x] lawSp) :
    PySem.W.WalkO q loose XP YP l.row.toRowW d [] (fun f vs => PySem.call f vs) := by
  refine Att.attach_call hn hdf ?_
  intro w s0 s1 mg mb fa o pm cd doc a vs ns G Y ho hd hcd hmg hobj hints hlen hg
  obtain ⟨K, fd, KX, hb, hF⟩ := F w mg fa _ Y G.T.g hmg
  exact law_callD KX G.T.g G.T.b G.T.builtins G.T.nolimit hg hobj hints hlen hr hF hb
end DL

end
section
set_option maxHeartbeats 4000000
/-! DLG: slices, membership, lists that change, comprehensions, pairs walked. -/
namespace DL
open PySem PySem.Spec L2
section
variable {X : Cx} {C : DC X} {a b c e : Expr} {ta tb tc te : TE} {da db dc de : TED} {pos : Pos} {es : List Expr} {tr : TA} {dr : TND}

/-! ### two built-ins of two ints -/
def fMax : PyData → PyData → (PyData → Prop) → Prop := int2 fun i j k => k (.int (if j > i then j else i))
def fMin : PyData → PyData → (PyData → Prop) → Prop := int2 fun i j k => k (.int (if j < i then j else i))
theorem two_run {r : List V → Hp → VK → Prop} {f : PyData → PyData → (PyData → Prop) → Prop} (hr : ∀ (w : Wd) (σ : L2.St) (ρ : DSt) (u v : V) (x y : PyData) (Q : VK) (kd : PyData → Prop), FI X.K C.P w σ ρ → Top X.K w u x → Top X.K w v y → f x y kd → (∀ z d, Rep X.K w.G z d → kd d → Q z w.H) → r [u, v] w.H Q)
    (ha : DE C a ta da) (hb : DE C b tb db) : ∀ (w : Wd) (σ : L2.St) (ρ : DSt) (Q : VK) (QD : R → DSt → Prop), C.A w → FI X.K C.P w σ ρ → dOp f da db ρ QD →
    (∀ v r w' ρ', Stp w w' → FI X.K C.P w' σ ρ' → RepR X.K w' σ v r → QD r ρ' → Q v w'.H) → tCB r (tCons ta (tCons tb tNil)) σ w.H Q := by
  intro w σ ρ Q QD hA I q k
  refine ha.run w σ ρ _ _ hA I q fun u r1 w1 ρ1 s1 I1 R1 q1 => ?_
  refine hb.run w1 σ ρ1 _ _ (C.cl _ _ hA s1) I1 q1 fun v r2 w2 ρ2 s2 I2 R2 q2 => ?_
  obtain ⟨x, tx, q3⟩ := vw_top I2 (R1.step s2) q2
  obtain ⟨y, ty, q4⟩ := vw_top I2 R2 q3
  exact hr w2 σ ρ2 u v x y Q _ I2 tx ty q4 fun z d R3 q5 => k z (.d d) w2 ρ2 (s1.trans s2) I2 R3 q5
theorem de_max {p : Pos} (hm : X.mg "max" = none) (ha : DE C a ta da) (hb : DE C b tb db) (hg : Gl X "max" := by rfl) (he : starEach [a, b] X.env = (false, eval a X.env) :: starEach [b] X.env := by rfl) (he2 : starEach [b] X.env = (false, eval b X.env) :: starEach [] X.env := by rfl)
    (hpl : (backTo pos (starEach [b] X.env)).any (·.1) = false := by rfl) : DE C (.Call (.Name "max" p) [a, b] [] pos) (tCB (fun xs H Q => ∃ i j, xs = [.int i, .int j] ∧ Q (.int (if j > i then j else i)) H) (tCons ta (tCons tb tNil))) (dOp fMax da db) := by
  refine ⟨pe_callB (call_max2 C.calm) hg hm (by decide +kernel) (pa_cons ha.pe (pa_cons hb.pe pa_nil he2) he) (by decide) (by decide) he hpl, two_run (fun w σ ρ u v x y Q kd I tx ty h k => ?_) ha hb⟩
  obtain ⟨i, j, rfl, rfl, q⟩ := int2_inv h
  cases tx
  cases ty
  exact ⟨i, j, rfl, k _ _ (.int _) q⟩
theorem de_min {p : Pos} (hm : X.mg "min" = none) (ha : DE C a ta da) (hb : DE C b tb db) (hg : Gl X "min" := by rfl) (he : starEach [a, b] X.env = (false, eval a X.env) :: starEach [b] X.env := by rfl) (he2 : starEach [b] X.env = (false, eval b X.env) :: starEach [] X.env := by rfl)
    (hpl : (backTo pos (starEach [b] X.env)).any (·.1) = false := by rfl) : DE C (.Call (.Name "min" p) [a, b] [] pos) (tCB (fun xs H Q => ∃ i j, xs = [.int i, .int j] ∧ Q (.int (if j < i then j else i)) H) (tCons ta (tCons tb tNil))) (dOp fMin da db) := by
  refine ⟨pe_callB (call_min2 C.calm) hg hm (by decide +kernel) (pa_cons ha.pe (pa_cons hb.pe pa_nil he2) he) (by decide) (by decide) he hpl, two_run (fun w σ ρ u v x y Q kd I tx ty h k => ?_) ha hb⟩
  obtain ⟨i, j, rfl, rfl, q⟩ := int2_inv h
  cases tx
  cases ty
  exact ⟨i, j, rfl, k _ _ (.int _) q⟩

/-! ### is None, is True -/
def isNoneD : PyData → Bool
  | .none => true | _ => false
def dIs (x y : PyData) (k : PyData → Prop) : Prop := match y with
  | .none => k (.bool (isNoneD x))
  | .bool b => (match x with | .bool a => k (.bool (decide (a = b))) | _ => False)
  | _ => False
def dIsNot (x y : PyData) (k : PyData → Prop) : Prop := match y with
  | .none => k (.bool (!isNoneD x))
  | .bool b => (match x with | .bool a => k (.bool (!decide (a = b))) | _ => False)
  | _ => False
def rIsU : R2 := fun x y H Q => (y = .non ∧ Q (.bl (decide (x = .non))) H) ∨ rIsB x y H Q
def rIsNotU : R2 := fun x y H Q => (y = .non ∧ Q (.bl (!decide (x = .non))) H) ∨ rNotB x y H Q
theorem top_non {w : Wd} {u : V} {x : PyData} (t : Top X.K w u x) : decide (u = .non) = (isNoneD x) := by
  cases x with
  | none => cases t; rfl
  | bool b => cases t; rfl
  | int b => cases t; rfl
  | str b => cases t; rfl
  | list ds => obtain ⟨_, _, rfl, _⟩ := t; rfl
  | tuple ds => cases t; rfl
  | dict ds => cases t; rfl
theorem od_is : OpR X (compareOp .Is) rIsU ∧ OpD X C rIsU dIs := by
  refine ⟨opr_or op_isN op_isBl, fun w σ ρ u v x y Q kd hA I tx ty h k => ?_⟩
  unfold dIs at h
  split at h
  · cases ty
    refine .inl ⟨rfl, ?_⟩
    rw [top_non tx]
    exact k _ _ w (Stp.refl w) I (.bl _) h
  · split at h
    · cases tx
      cases ty
      exact .inr ⟨_, _, rfl, rfl, k _ _ w (Stp.refl w) I (.bl _) h⟩
    · exact h.elim
  · exact h.elim
theorem od_isNot : OpR X (compareOp .IsNot) rIsNotU ∧ OpD X C rIsNotU dIsNot := by
  refine ⟨opr_or op_notN op_notBl, fun w σ ρ u v x y Q kd hA I tx ty h k => ?_⟩
  unfold dIsNot at h
  split at h
  · cases ty
    refine .inl ⟨rfl, ?_⟩
    rw [top_non tx]
    exact k _ _ w (Stp.refl w) I (.bl _) h
  · split at h
    · cases tx
      cases ty
      exact .inr ⟨_, _, rfl, rfl, k _ _ w (Stp.refl w) I (.bl _) h⟩
    · exact h.elim
  · exact h.elim

/-! ### in, not in -/
/-- flat data: in a list or tuple of such; any data in a list -/
def flatD : PyData → Bool
  | .none => true | .bool _ => true | .int _ => true | .str _ => true | _ => false
def inD (x : PyData) (ys : List PyData) : Bool := ys.any fun z => PyData.eqv z x
def dIn (neg : Bool) (x y : PyData) (k : PyData → Prop) : Prop := match y with
  | .list ys => SeqAt.shaped x = true ∧ SeqAt.shaped (.list ys) = true ∧ k (.bool (if neg then !inD x ys else inD x ys))
  | .tuple ys => flatD x = true ∧ ys.all flatD = true ∧ k (.bool (if neg then !inD x ys else inD x ys))
  | _ => False
def rInU (K : PySem.W.Frag) : R2 := fun x y H Q => rInD K x y H Q ∨ rIn K false x y H Q
def rNotInU (K : PySem.W.Frag) : R2 := fun x y H Q => rNotInD K x y H Q ∨ rIn K true x y H Q
theorem flat_v {G : Hp} {u : V} {x : PyData} (h : Rep X.K G u x) (f : flatD x = true) : flatV u = true := by
  cases h <;> first | rfl | cases f
theorem eqv_flat {G : Hp} {u v : V} {x y : PyData} (h : Rep X.K G u x) (g : Rep X.K G v y) (f : flatD x = true) (f' : flatD y = true) : eqV v u = PyData.eqv y x := by
  cases h <;> cases g <;> first | rfl | cases f | cases f' | simp [eqV, PyData.eqv]
theorem inv_flat {G : Hp} {u : V} {x : PyData} (h : Rep X.K G u x) (f : flatD x = true) : ∀ {vs : List V} {ys : List PyData}, Reps X.K G vs ys → ys.all flatD = true → vs.all flatV = true ∧ inV u vs = inD x ys
  | _, _, .nil, _ => ⟨rfl, rfl⟩
  | _, _, .cons r t, hf => by
    rw [List.all_cons, Bool.and_eq_true] at hf
    obtain ⟨h1, h2⟩ := inv_flat h f t hf.2
    refine ⟨by rw [List.all_cons, flat_v r hf.1, h1] <;> rfl, ?_⟩
    show ((eqV _ u) || (inV u _)) = ((PyData.eqv _ x) || (inD x _))
    rw [h2, eqv_flat h r f hf.1]
theorem rep_flat {w : Wd} {u : V} {x : PyData} (t : Top X.K w u x) (f : flatD x = true) : Rep X.K w.G u x := by
  cases x with
  | list _ => cases f
  | _ => exact t
theorem od_in : OpR X (compareOp .In) (rInU X.K) ∧ OpD X C (rInU X.K) (dIn false) := by
  refine ⟨opr_or (op_inD (by have := C.un; omega)) op_in_seq, fun w σ ρ u v x y Q kd hA I tx ty h k => ?_⟩
  unfold dIn at h
  split at h
  · obtain ⟨h1, h2, h3⟩ := h
    refine .inl ⟨x, _, (tx.rep I.gh).dp _ _ (PyData.hasDict_of_canLay _ (SeqAt.canLay_of_shaped h1)), (ty.rep I.gh).dp _ _ (PyData.hasDict_of_canLay _ (SeqAt.canLay_of_shaped h2)), h1, h2, k _ _ w (Stp.refl w) I (.bl _) h3⟩
  · obtain ⟨h1, h2, h3⟩ := h
    cases ty with
    | tup hs hr =>
      obtain ⟨g1, g2⟩ := inv_flat (rep_flat tx h1) h1 hr h2
      refine .inr ⟨_, _, rfl, .inr (sqt_mono I.gh hs), flat_v (rep_flat tx h1) h1, g1, ?_⟩
      rw [g2]
      exact k _ _ w (Stp.refl w) I (.bl _) h3
  · exact h.elim
theorem od_notIn : OpR X (compareOp .NotIn) (rNotInU X.K) ∧ OpD X C (rNotInU X.K) (dIn true) := by
  refine ⟨opr_or (op_notInD (by have := C.un; omega)) op_notIn_seq, fun w σ ρ u v x y Q kd hA I tx ty h k => ?_⟩
  unfold dIn at h
  split at h
  · obtain ⟨h1, h2, h3⟩ := h
    refine .inl ⟨x, _, (tx.rep I.gh).dp _ _ (PyData.hasDict_of_canLay _ (SeqAt.canLay_of_shaped h1)), (ty.rep I.gh).dp _ _ (PyData.hasDict_of_canLay _ (SeqAt.canLay_of_shaped h2)), h1, h2, k _ _ w (Stp.refl w) I (.bl _) h3⟩
  · obtain ⟨h1, h2, h3⟩ := h
    cases ty with
    | tup hs hr =>
      obtain ⟨g1, g2⟩ := inv_flat (rep_flat tx h1) h1 hr h2
      refine .inr ⟨_, _, rfl, .inr (sqt_mono I.gh hs), flat_v (rep_flat tx h1) h1, g1, ?_⟩
      rw [g2]
      exact k _ _ w (Stp.refl w) I (.bl _) h3
  · exact h.elim

/-! ### a < b <= c -/
def dChain (f g : PyData → PyData → (PyData → Prop) → Prop) (da db dc : TED) : TED := fun ρ Q => da ρ fun r1 ρ1 => db ρ1 fun r2 ρ2 => vw ρ2 r1 fun x => vw ρ2 r2 fun y => f x y fun z => match z with
  | .bool true => dc ρ2 fun r3 ρ3 => vw ρ3 r2 fun y' => vw ρ3 r3 fun z => g y' z fun d => Q (.d d) ρ3
  | .bool false => Q (.d (.bool false)) ρ2
  | _ => False
theorem chain_run {r r' : R2} {f g : PyData → PyData → (PyData → Prop) → Prop} (hr : OpD X C r f) (hr' : OpD X C r' g) (ha : DE C a ta da) (hb : DE C b tb db) (hc : DE C c tc dc) :
    ∀ (w : Wd) (σ : L2.St) (ρ : DSt) (Q : VK) (QD : R → DSt → Prop), C.A w → FI X.K C.P w σ ρ → dChain f g da db dc ρ QD →
    (∀ v r w' ρ', Stp w w' → FI X.K C.P w' σ ρ' → RepR X.K w' σ v r → QD r ρ' → Q v w'.H) → tChain r r' ta tb tc σ w.H Q := by
  intro w σ ρ Q QD hA I q k
  refine ha.run w σ ρ _ _ hA I q fun u r1 w1 ρ1 s1 I1 R1 q1 => ?_
  refine hb.run w1 σ ρ1 _ _ (C.cl _ _ hA s1) I1 q1 fun v r2 w2 ρ2 s2 I2 R2 q2 => ?_
  obtain ⟨x, tx, q3⟩ := vw_top I2 (R1.step s2) q2
  obtain ⟨y, ty, q4⟩ := vw_top I2 R2 q3
  refine hr w2 σ ρ2 u v x y _ _ (C.cl _ _ (C.cl _ _ hA s1) s2) I2 tx ty q4 fun z d w3 s3 I3 R3 q5 => ?_
  have s23 := (s1.trans s2).trans s3
  cases d with
  | bool bb =>
    cases R3
    refine ⟨bb, rfl, ?_⟩
    cases bb with
    | false => rw [if_neg Bool.false_ne_true]; exact k _ (.d (.bool false)) w3 ρ2 s23 I3 (.bl _) q5
    | true =>
      rw [if_pos rfl]
      refine hc.run w3 σ ρ2 _ _ (C.cl _ _ hA s23) I3 q5 fun v3 r3 w4 ρ4 s4 I4 R4 q6 => ?_
      obtain ⟨y2, ty2, q7⟩ := vw_top I4 ((R2.step s3).step s4) q6
      obtain ⟨z2, tz2, q8⟩ := vw_top I4 R4 q7
      exact hr' w4 σ ρ4 v v3 y2 z2 Q _ (C.cl _ _ hA (s23.trans s4)) I4 ty2 tz2 q8 fun z5 d5 w5 s5 I5 R5 q9 => k z5 (.d d5) w5 ρ4 ((s23.trans s4).trans s5) I5 R5 q9
  | _ => exact q5.elim
theorem de_chain {op op' : CmpOp} {r r' : R2} {f g : PyData → PyData → (PyData → Prop) → Prop} (ho : OpR X (compareOp op) r ∧ OpD X C r f) (ho' : OpR X (compareOp op') r' ∧ OpD X C r' g) (ha : DE C a ta da) (hb : DE C b tb db) (hc : DE C c tc dc)
    (hm : lastMarks [op, op'] [b, c] = false := by with_unfolding_all rfl) : DE C (.Compare a [op, op'] [b, c] pos) (tChain r r' ta tb tc) (dChain f g da db dc) :=
  ⟨pe_chain ho.1 ho'.1 ha.pe hb.pe hc.pe hm, chain_run ho.2 ho'.2 ha hb hc⟩
theorem dt_chain {op op' : CmpOp} {r r' : R2} {f g : PyData → PyData → (PyData → Prop) → Prop} (ho : OpR X (compareOp op) r ∧ OpD X C r f) (ho' : OpR X (compareOp op') r' ∧ OpD X C r' g) (ha : DE C a ta da) (hb : DE C b tb db) (hc : DE C c tc dc)
    (hm : lastMarks [op, op'] [b, c] = false := by with_unfolding_all rfl) : DT C (.Compare a [op, op'] [b, c] pos) (tTest (tChain r r' ta tb tc)) (dTest (dChain f g da db dc)) :=
  ⟨pt_chain ho.1 ho'.1 ha.pe hb.pe hc.pe hm, test_run (de_chain (pos := pos) ho ho' ha hb hc hm)⟩

/-! ### slices -/
abbrev TOD := DSt → (Option Int → DSt → Prop) → Prop
structure DO (C : DC X) (e : Option Expr) (to : TO) (t : TOD) : Prop where
  po : PO X e to
  run : ∀ (w : Wd) (σ : L2.St) (ρ : DSt) (Q : Option Int → Hp → Prop) (QD : Option Int → DSt → Prop), C.A w → FI X.K C.P w σ ρ → t ρ QD →
    (∀ o w' ρ', Stp w w' → FI X.K C.P w' σ ρ' → QD o ρ' → Q o w'.H) → to σ w.H Q
def oNone : TOD := fun ρ Q => Q none ρ
def oSome (de : TED) : TOD := fun ρ Q => de ρ fun r ρ1 => vw ρ1 r fun x => match x with | .int i => Q (some i) ρ1 | _ => False
theorem do_none : DO C none tNoPart oNone := ⟨po_none, fun w σ ρ Q QD hA I q k => k none w ρ (Stp.refl w) I q⟩
theorem do_some (h : DE C e te de) : DO C (some e) (tPart te) (oSome de) := by
  refine ⟨po_some h.pe, fun w σ ρ Q QD hA I q k => ?_⟩
  refine h.run w σ ρ _ _ hA I q fun u r1 w1 ρ1 s1 I1 R1 q1 => ?_
  obtain ⟨x, tx, q2⟩ := vw_top I1 R1 q1
  cases x with
  | int i =>
    cases tx
    exact ⟨i, rfl, k (some i) w1 ρ1 s1 I1 q2⟩
  | _ => exact q2.elim
def cutD {α : Type} (xs : List α) (lo hi : Option Int) : List α := (xs.drop (HT.sIx xs.length 0 lo)).take (HT.sIx xs.length xs.length hi - HT.sIx xs.length 0 lo)
theorem cut_reps {G : Hp} {vs : List V} {ds : List PyData} (r : Reps X.K G vs ds) (lo hi : Option Int) : Reps X.K G (cutV vs lo hi) (cutD ds lo hi) := by
  unfold cutV cutD
  rw [r.len]
  exact (r.dropN _).takeN _
def rSlU (K : PySem.W.Frag) : V → Option Int → Option Int → Hp → VK → Prop := fun x lo hi H Q => rSlA K x lo hi H Q ∨ rSlS x lo hi H Q
/-- a tuple's, a text's slice -/
def dSl (da : TED) (tl th : TOD) : TED := fun ρ Q => da ρ fun r ρ1 => tl ρ1 fun lo ρ2 => th ρ2 fun hi ρ3 => vw ρ3 r fun x => match x with
  | .tuple ds => Q (.d (.tuple (cutD ds lo hi))) ρ3
  | .str z => z.length ≤ sizeLine ∧ Q (.d (.str (cutS z lo hi))) ρ3
  | _ => False
theorem cut_whole {ds : List PyData} {lo hi : Option Int} (h : HT.sIx ds.length 0 lo = 0 ∧ HT.sIx ds.length ds.length hi = ds.length) : cutD ds lo hi = ds := by
  unfold cutD
  rw [h.1, h.2, List.drop_zero, Nat.sub_zero, List.take_length]
variable {lo hi : Option Expr} {tl th : TO} {dl dh : TOD} {p2 : Pos}
theorem de_slice (ha : DE C a ta da) (hl : DO C lo tl dl) (hh : DO C hi th dh) : DE C (.Subscript a (.Slice lo hi none p2) pos) (tSl (rSlU X.K) ta tl th) (dSl da dl dh) := by
  refine ⟨pe_slice (sl_tupA.or sl_str) ha.pe hl.po hh.po, fun w σ ρ Q QD hA I q k => ?_⟩
  refine ha.run w σ ρ _ _ hA I q fun u r1 w1 ρ1 s1 I1 R1 q1 => ?_
  refine hl.run w1 σ ρ1 _ _ (C.cl _ _ hA s1) I1 q1 fun l w2 ρ2 s2 I2 q2 => ?_
  refine hh.run w2 σ ρ2 _ _ (C.cl _ _ hA (s1.trans s2)) I2 q2 fun h w3 ρ3 s3 I3 q3 => ?_
  have s23 := (s1.trans s2).trans s3
  obtain ⟨x, tx, q4⟩ := vw_top I3 ((R1.step s2).step s3) q3
  cases x with
  | tuple ds =>
    cases tx with
    | tup hs hr =>
      rename_i aa vs
      refine .inl ⟨aa, vs, rfl, sqt_mono I3.gh hs, fun e => ?_, fun _ p hp => ?_⟩
      · rw [hr.len] at e
        have q4 : QD (.d (.tuple (cutD ds l h))) ρ3 := q4
        rw [cut_whole e] at q4
        exact k (.ref aa) (.d (.tuple ds)) w3 ρ3 s23 I3 (.tup hs hr) q4
      · obtain ⟨I4, s4⟩ := I3.new (o := .tup (cutV vs l h)) hp
        exact k (.ref p) (.d (.tuple (cutD ds l h))) ⟨upd w3.G p _, upd w3.H p _, w3.F⟩ ρ3 (s23.trans s4) I4 (.tup (SqT.of upd_same) (reps_mono s4.g _ _ (cut_reps hr l h))) q4
  | str z =>
    cases tx
    exact .inr ⟨z, rfl, q4.1, k _ (.d (.str _)) w3 ρ3 s23 I3 (.str _) q4.2⟩
  | _ => exact q4.elim
/-- a list's slice -/
def nSl (da : TED) (tl th : TOD) : TND := fun ρ Q => da ρ fun r ρ1 => tl ρ1 fun lo ρ2 => th ρ2 fun hi ρ3 => vw ρ3 r fun x => match x with
  | .list ds => Q (cutD ds lo hi) ρ3
  | _ => False
theorem dn_slice (ha : DE C a ta da) (hl : DO C lo tl dl) (hh : DO C hi th dh) : DN C (.Subscript a (.Slice lo hi none p2) pos) (tSl (rSlL X.K) ta tl th) (nSl da dl dh) := by
  refine ⟨pe_slice sl_list ha.pe hl.po hh.po, fun w σ ρ Q QD hA I q k => ?_⟩
  refine ha.run w σ ρ _ _ hA I q fun u r1 w1 ρ1 s1 I1 R1 q1 => ?_
  refine hl.run w1 σ ρ1 _ _ (C.cl _ _ hA s1) I1 q1 fun l w2 ρ2 s2 I2 q2 => ?_
  refine hh.run w2 σ ρ2 _ _ (C.cl _ _ hA (s1.trans s2)) I2 q2 fun h w3 ρ3 s3 I3 q3 => ?_
  have s23 := (s1.trans s2).trans s3
  obtain ⟨x, tx, q4⟩ := vw_top I3 ((R1.step s2).step s3) q3
  cases x with
  | list ds =>
    obtain ⟨aa, vs, rfl, hs, hr⟩ := tx
    refine ⟨aa, vs, rfl, SqL.of hs, fun p hp => ?_⟩
    obtain ⟨I4, s4⟩ := FI.air I3 (o := .lst (cutV vs l h)) hp
    exact k p (cutV vs l h) (cutD ds l h) ⟨w3.G, upd w3.H p _, w3.F⟩ ρ3 (s23.trans s4) I4 (air_new s23 hp) (I3.fresh hp).1 (fun i z => (I3.fresh hp).2 i p z rfl) upd_same (cut_reps hr l h) q4
  | _ => exact q4.elim
/-- xs[::-1] -/
def nRev (da : TED) : TND := fun ρ Q => da ρ fun r ρ1 => vw ρ1 r fun x => match x with | .list ds => Q ds.reverse ρ1 | _ => False
theorem dn_rev {k0 : Nat} {q1 q2 q3 : Pos} (ha : DE C a ta da) : DN C (.Subscript a (.Slice none none (some (.UnaryOp .USub (.Constant (.int 1) k0 q1) q2)) q3) pos) (tRevL X.K ta) (nRev da) := by
  refine ⟨pe_revL ha.pe, fun w σ ρ Q QD hA I q k => ?_⟩
  refine ha.run w σ ρ _ _ hA I q fun u r1 w1 ρ1 s1 I1 R1 q1 => ?_
  obtain ⟨x, tx, q4⟩ := vw_top I1 R1 q1
  cases x with
  | list ds =>
    obtain ⟨aa, vs, rfl, hs, hr⟩ := tx
    refine ⟨aa, vs, rfl, SqL.of hs, fun p hp => ?_⟩
    obtain ⟨I4, s4⟩ := FI.air I1 (o := .lst vs.reverse) hp
    exact k p vs.reverse ds.reverse ⟨w1.G, upd w1.H p _, w1.F⟩ ρ1 (s1.trans s4) I4 (air_new s1 hp) (I1.fresh hp).1 (fun i z => (I1.fresh hp).2 i p z rfl) upd_same hr.rev q4
  | _ => exact q4.elim
/-- list(x) -/
def nList (da : TED) : TND := fun ρ Q => da ρ fun r ρ1 => vw ρ1 r fun x => match x with | .list ds => Q ds ρ1 | .tuple ds => Q ds ρ1 | _ => False
abbrev rListOf (K : PySem.W.Frag) : List V → Hp → VK → Prop := fun xs H Q => ∃ p ys, xs = [.ref p] ∧ (SqL K H p ys ∨ SqT K H p ys) ∧ ∀ l, H l = none → Q (.ref l) (upd H l (.lst ys))
theorem dn_listOf {p : Pos} (hm : X.mg "list" = none) (ha : DE C a ta da) (hg : Gl X "list" := by rfl) (he : starEach [a] X.env = (false, eval a X.env) :: starEach [] X.env := by rfl) (hpl : (backTo pos (starEach [] X.env)).any (·.1) = false := by rfl) :
    DN C (.Call (.Name "list" p) [a] [] pos) (tCB (rListOf X.K) (tCons ta tNil)) (nList da) := by
  refine ⟨pe_callTy call_list_of hg hm (by decide +kernel) (pa_cons ha.pe pa_nil he) (by decide) (by decide) he hpl, fun w σ ρ Q QD hA I q k => ?_⟩
  refine ha.run w σ ρ _ _ hA I q fun u r1 w1 ρ1 s1 I1 R1 q1 => ?_
  obtain ⟨x, tx, q4⟩ := vw_top I1 R1 q1
  have fin : ∀ (aa : Addr) (vs : List V) (ds : List PyData), u = .ref aa → (SqL X.K w1.H aa vs ∨ SqT X.K w1.H aa vs) → Reps X.K w1.G vs ds → QD ds ρ1 → rListOf X.K [u] w1.H Q := by
    rintro aa vs ds rfl hs hr q5
    refine ⟨aa, vs, rfl, hs, fun p hp => ?_⟩
    obtain ⟨I4, s4⟩ := FI.air I1 (o := .lst vs) hp
    exact k p vs ds ⟨w1.G, upd w1.H p _, w1.F⟩ ρ1 (s1.trans s4) I4 (air_new s1 hp) (I1.fresh hp).1 (fun i z => (I1.fresh hp).2 i p z rfl) upd_same hr q5
  cases x with
  | list ds =>
    obtain ⟨aa, vs, e, hs, hr⟩ := tx
    exact fin aa vs ds e (.inl (SqL.of hs)) hr q4
  | tuple ds =>
    cases tx with
    | tup hs hr => exact fin _ _ ds rfl (.inr (sqt_mono I1.gh hs)) hr q4
  | _ => exact q4.elim

/-! ### a frame's own lists change -/
theorem own_at {P : Par} {w : Wd} {σ : L2.St} {ρ : DSt} {i : Nat} {io : Bool} {ds : List PyData} (I : FI X.K P w σ ρ) (h : ρ[i]? = some (.own io ds)) : ∃ l vs, σ[i]? = some (some (.ref l)) ∧ w.H l = some (.lst vs) ∧ Reps X.K w.G vs ds := by
  obtain ⟨l, vs, h1, _, h3, h4, _⟩ := I.ok i _ h
  exact ⟨l, vs, h1, h3, h4⟩
def ownK (ρ : DSt) (i : Nat) (k : Bool → List PyData → Prop) : Prop := match ρ[i]? with
  | some (.own io ds) => k io ds
  | _ => False
theorem ownK_inv {ρ : DSt} {i : Nat} {k : Bool → List PyData → Prop} (h : ownK ρ i k) : ∃ io ds, ρ[i]? = some (.own io ds) ∧ k io ds := by
  unfold ownK at h
  split at h
  · exact ⟨_, _, by assumption, h⟩
  · exact h.elim
/-- xs.append(e), xs in slot i -/
def sApp (i : Nat) (de : TED) : TSD := fun D ρ => ownK ρ i (fun _ _ => True) ∧ de ρ fun r ρ1 => frz ρ1 r fun d ρ2 => ownK ρ2 i fun io ds => ds.length < sizeLine ∧ D.nx (ρ2.set i (.own io (ds ++ [d])))
variable {y : Str} {py apos cpos spos : Pos}
theorem ds_app (i : Nat) (h : DE C e te de) (hN : X.N[i]? = some y := by rfl) (hv : Vis X.env.scope y := by first | exact Or.inl rfl | exact Or.inr (Or.inl rfl) | exact Or.inr (Or.inr rfl)) (hd : (y == ("__debug__" : Str)) = false := by decide) (hcd : (y == ("__classdict__" : Str)) = false := by decide)
    (he : starEach [e] X.env = (false, eval e X.env) :: starEach [] X.env := by rfl)
    (hbase : attributeBase (.Name y py) "append" X.env (eval (.Name y py) X.env) = eval (.Name y py) X.env := by rfl)
    (hfew : ((backTo cpos (starEach [e] X.env)).all (fun x => !x.1) && (backToKw cpos (keywordEach [] X.env)).all (fun x => x.1.isSome)
      && decide ([e].length + ([] : List Keyword).length + (if ([] : List Keyword).isEmpty then 0 else 1) < 30)) = true := by rfl)
    (hline : (apos.endLine == cpos.line) = true := by rfl) (hplain : (backTo cpos (starEach [] X.env)).any (·.1) = false := by rfl)
    (hs : swapsWith (.Call (.Attribute (.Name y py) "append" apos) [e] [] cpos) none spos.line X.env = pure false := by rfl) :
    DS C (.Expr (.Call (.Attribute (.Name y py) "append" apos) [e] [] cpos) spos) (tDrop (tBM X.K "list" rAppend (tVar i) (tCons te tNil))) (sApp i de) := by
  refine ⟨ps_expr (pe_bm PySem.F.plainAttrs_list PySem.F.slot_list_append PySem.F.type_list_append mt_append (pe_var hN hv hd hcd) (pa_cons h.pe pa_nil he) hbase hfew hline he hplain) hs, fun w σ ρ D DD hA I q k => ?_⟩
  obtain ⟨q0, q⟩ := q
  obtain ⟨io0, ds0, e0, _⟩ := ownK_inv q0
  obtain ⟨l, vs0, h1, h2, _⟩ := own_at I e0
  refine ⟨.ref l, h1, .inl ⟨rfl, vs0, SqL.of h2⟩, ?_⟩
  refine h.run w σ ρ _ _ hA I q fun u r1 w1 ρ1 s1 I1 R1 q1 => ?_
  obtain ⟨d, ρ2, w2, I2, s2, hh, hrep, q2⟩ := frz_ok I1 R1 q1
  obtain ⟨io, ds, e2, hlen, q3⟩ := ownK_inv q2
  obtain ⟨l', vs, g1, g2, g3⟩ := own_at I2 e2
  rw [h1] at g1
  cases g1
  rw [hh] at g2
  refine ⟨l, vs, u, rfl, rfl, g2, by rw [g3.len]; exact hlen, ?_⟩
  obtain ⟨I3, s3⟩ := I2.mut e2 h1 (g3.app (.cons hrep .nil))
  rw [← hh]
  exact k.nx ⟨w2.G, upd w2.H l _, w2.F⟩ σ _ ((s1.trans s2).trans s3) I3 q3
/-- xs[e] = v, xs in slot i -/
def sPut (i : Nat) (dv di : TED) : TSD := fun D ρ => dv ρ fun r ρ1 => frz ρ1 r fun d ρ2 => ownK ρ2 i (fun _ _ => True) ∧ di ρ2 fun r2 ρ3 => vw ρ3 r2 fun x => ownK ρ3 i fun io ds => match x with
  | .int z => (match ixN ds.length z with | some j => D.nx (ρ3.set i (.own io (ds.set j d))) | none => False)
  | _ => False
theorem ds_put (i : Nat) {iv : Expr} {ti : TE} {di : TED} {tpos : Pos} (h : DE C e te de) (hix : DE C iv ti di) (hN : X.N[i]? = some y := by rfl) (hv : Vis X.env.scope y := by first | exact Or.inl rfl | exact Or.inr (Or.inl rfl) | exact Or.inr (Or.inr rfl)) (hd : (y == ("__debug__" : Str)) = false := by decide) (hcd : (y == ("__classdict__" : Str)) = false := by decide)
    (hsub : ∀ v, assign (.Subscript (.Name y py) iv tpos) X.env v = (do
      let ov ← holding [v] (eval (.Name y py) X.env)
      let iv ← holding [v, ov] (eval iv X.env)
      standAt tpos
      holding [v, ov, iv] (setItem ov iv v)
      release [v, ov, iv] []) := by intro _; rfl)
    (hs : swapsWithSole [.Subscript (.Name y py) iv tpos] e spos.line X.env = pure false := by rfl) (hw : swappedStores [.Subscript (.Name y py) iv tpos] e X.env = pure none := by rfl)
    (h1 : (assignEach [.Subscript (.Name y py) iv tpos] X.env).map (·.2) = [assign (.Subscript (.Name y py) iv tpos) X.env] := by rfl) :
    DS C (.Assign [.Subscript (.Name y py) iv tpos] e spos) (tAsg te (gSub (tVar i) ti rSetL)) (sPut i de di) := by
  refine ⟨ps_asg h.pe (pg_sub (pe_var hN hv hd hcd) hix.pe set_list hsub) hs hw h1, fun w σ ρ D DD hA I q k => ?_⟩
  refine h.run w σ ρ _ _ hA I q fun u r1 w1 ρ1 s1 I1 R1 q1 => ?_
  obtain ⟨d, ρ2, w2, I2, s2, hh, hrep, q2⟩ := frz_ok I1 R1 q1
  obtain ⟨q0, q2⟩ := q2
  obtain ⟨io0, ds0, e0, _⟩ := ownK_inv q0
  obtain ⟨l, vs0, g1, g2, _⟩ := own_at I2 e0
  refine ⟨.ref l, g1, ?_⟩
  rw [← hh]
  refine hix.run w2 σ ρ2 _ _ (C.cl _ _ hA (s1.trans s2)) I2 q2 fun v2 r2 w3 ρ3 s3 I3 R3 q3 => ?_
  obtain ⟨x, tx, q4⟩ := vw_top I3 R3 q3
  obtain ⟨io, ds, e3, q5⟩ := ownK_inv q4
  obtain ⟨l', vs, f1, f2, f3⟩ := own_at I3 e3
  rw [g1] at f1
  cases f1
  cases x with
  | int z =>
    cases tx
    have q5 : (match ixN ds.length z with | some j => DD.nx (ρ3.set i (.own io (ds.set j d))) | none => False) := q5
    cases ej : ixN ds.length z with
    | none => rw [ej] at q5; exact q5.elim
    | some j =>
      rw [ej] at q5
      refine ⟨l, vs, z, j, rfl, rfl, f2, by rw [f3.len]; exact ej, ?_⟩
      obtain ⟨I4, s4⟩ := I3.mut e3 g1 (f3.setAt j (rep_mono s3.g _ _ hrep))
      exact k.nx ⟨w3.G, upd w3.H l _, w3.F⟩ σ _ (((s1.trans s2).trans s3).trans s4) I4 q5
  | _ => exact q5.elim
/-- xs.pop(), xs in slot i -/
def dPop (i : Nat) : TED := fun ρ Q => ownK ρ i fun io ds => match ds[ds.length - 1]? with
  | some d => Q (.d d) (ρ.set i (.own io ds.dropLast))
  | none => False
theorem Reps.drop1 {G : Hp} : ∀ {vs : List V} {ds : List PyData}, Reps X.K G vs ds → Reps X.K G vs.dropLast ds.dropLast
  | _, _, .nil => .nil
  | _, _, .cons _ .nil => .nil
  | _, _, .cons r (.cons q t) => .cons r (Reps.drop1 (.cons q t))
theorem de_pop (i : Nat) (hN : X.N[i]? = some y := by rfl) (hv : Vis X.env.scope y := by first | exact Or.inl rfl | exact Or.inr (Or.inl rfl) | exact Or.inr (Or.inr rfl)) (hd : (y == ("__debug__" : Str)) = false := by decide) (hcd : (y == ("__classdict__" : Str)) = false := by decide)
    (hbase : attributeBase (.Name y py) "pop" X.env (eval (.Name y py) X.env) = eval (.Name y py) X.env := by rfl) (hline : (apos.endLine == cpos.line) = true := by rfl) :
    DE C (.Call (.Attribute (.Name y py) "pop" apos) [] [] cpos) (tBM0 X.K "list" rPop (tVar i)) (dPop i) := by
  refine ⟨pe_bm0 PySem.F.plainAttrs_list PySem.F.slot_list_pop PySem.F.type_list_pop mt_pop (pe_var hN hv hd hcd) hbase hline, fun w σ ρ Q QD hA I q k => ?_⟩
  obtain ⟨io, ds, e, q1⟩ := ownK_inv q
  obtain ⟨l, vs, h1, h2, h3⟩ := own_at I e
  have q1 : (match ds[ds.length - 1]? with | some d => QD (.d d) (ρ.set i (.own io ds.dropLast)) | none => False) := q1
  cases el : ds[ds.length - 1]? with
  | none => rw [el] at q1; exact q1.elim
  | some d =>
    rw [el] at q1
    obtain ⟨v, hv1, hv2⟩ := h3.get el
    refine ⟨.ref l, h1, .inl ⟨rfl, vs, SqL.of h2⟩, l, vs, v, rfl, rfl, h2, by rw [h3.len]; exact hv1, ?_⟩
    obtain ⟨I3, s3⟩ := I.mut e h1 h3.drop1
    exact k v (.d d) ⟨w.G, upd w.H l _, w.F⟩ _ s3 I3 hv2 q1
end
end DL

end
section
set_option maxHeartbeats 4000000
/-! DLH: names with an operator, bools as ints, three names at once, lists unpacked, raise, pairs walked, comprehensions. -/
namespace DL
open PySem PySem.Spec L2
section
variable {X : Cx} {C : DC X} {a b c e tg iter : Expr} {ta tb tc te : TE} {da db dc de : TED} {pos : Pos} {es : List Expr} {tr : TA} {dr : TND}

/-! ### bools as ints -/
def bi (b : Bool) : Int := if b = true then 1 else 0
def rSubU : R2 := fun x y H Q => rI0 (fun i j => .int (i - j)) x y H Q ∨ ∃ p q, x = .bl p ∧ y = .bl q ∧ Q (.int (bi p - bi q)) H
theorem op_subB : OpR X (binaryOp .Sub) (fun x y H Q => ∃ p q, x = .bl p ∧ y = .bl q ∧ Q (.int (bi p - bi q)) H) := by
  intro pins s σ H x y v u Q I rx ry h
  obtain ⟨p, k, rfl, rfl, q⟩ := h
  cases rx
  cases ry
  exact PyProof.Rows.sub_bool ⟨.int (bi p - bi k), H, I.tok _, ⟨_, rfl⟩, q⟩
def dSub (x y : PyData) (k : PyData → Prop) : Prop := match x, y with
  | .int i, .int j => k (.int (i - j))
  | .bool p, .bool q => k (.int (bi p - bi q))
  | _, _ => False
theorem od_subU : OpR X (binaryOp .Sub) rSubU ∧ OpD X C rSubU dSub := by
  refine ⟨opr_or op_sub op_subB, fun w σ ρ u v x y Q kd hA I tx ty h k => ?_⟩
  unfold dSub at h
  split at h
  · cases tx
    cases ty
    exact .inl ⟨_, _, rfl, rfl, k _ _ w (Stp.refl w) I (.int _) h⟩
  · cases tx
    cases ty
    exact .inr ⟨_, _, rfl, rfl, k _ _ w (Stp.refl w) I (.int _) h⟩
  · exact h.elim

/-! ### name op= value -/
theorem od_iadd : OpR X (inplaceOp .Add) (rI0 fun i j => .int (i + j)) ∧ OpD X C (rI0 fun i j => .int (i + j)) (dI0 fun i j => i + j) := ⟨iop_add, opd_I0⟩
theorem od_isub : OpR X (inplaceOp .Sub) (rI0 fun i j => .int (i - j)) ∧ OpD X C (rI0 fun i j => .int (i - j)) (dI0 fun i j => i - j) := ⟨iop_sub, opd_I0⟩
theorem iop_mulW : OpR X (inplaceOp .Mult) (rI CMulW fun i j => .int (i * j)) := opI fun _ _ _ _ _ _ _ hc q => PyProof.Rows.imul_int q hc.ok
theorem od_imul : OpR X (inplaceOp .Mult) (rI CMulW fun i j => .int (i * j)) ∧ OpD X C (rI CMulW fun i j => .int (i * j)) (dI CMulW fun i j => i * j) := ⟨iop_mulW, opd_I⟩
theorem iop_fdivF : OpR X (inplaceOp .FloorDiv) (rI CDivF fun i j => .int (i.fdiv j)) := opI fun _ _ _ _ _ _ _ hc q => PyProof.Rows.ifloordiv_int hc.1 q (.inl (PyProof.noPylong_of_log2 hc.2))
theorem od_ifdiv : OpR X (inplaceOp .FloorDiv) (rI CDivF fun i j => .int (i.fdiv j)) ∧ OpD X C (rI CDivF fun i j => .int (i.fdiv j)) (dI CDivF fun i j => i.fdiv j) := ⟨iop_fdivF, opd_I⟩
def rIAddS : R2 := fun x y H Q => ∃ i j, x = .str i ∧ y = .str j ∧ i.length + j.length ≤ sizeLine ∧ Q (.str (i ++ j)) H
def rIAddU : R2 := fun x y H Q => rI0 (fun i j => .int (i + j)) x y H Q ∨ rIAddS x y H Q
def dIAdd (x y : PyData) (k : PyData → Prop) : Prop := match x, y with
  | .int i, .int j => k (.int (i + j))
  | .str i, .str j => i.length + j.length ≤ sizeLine ∧ k (.str (i ++ j))
  | _, _ => False
theorem od_iaddU : OpR X (inplaceOp .Add) rIAddU ∧ OpD X C rIAddU dIAdd := by
  refine ⟨opr_or iop_add iop_add_str, fun w σ ρ u v x y Q kd hA I tx ty h k => ?_⟩
  unfold dIAdd at h
  split at h
  · cases tx
    cases ty
    exact .inl ⟨_, _, rfl, rfl, k _ _ w (Stp.refl w) I (.int _) h⟩
  · cases tx
    cases ty
    exact .inr ⟨_, _, rfl, rfl, h.1, k _ _ w (Stp.refl w) I (.str _) h.2⟩
  · exact h.elim
def sAug (i : Nat) (de : TED) (f : PyData → PyData → (PyData → Prop) → Prop) : TSD := fun D ρ => match ρ[i]? with
  | some (.val x) => de ρ fun r ρ1 => vw ρ1 r fun y => f x y fun z => D.nx (ρ1.set i (.val z))
  | _ => False
theorem ds_aug (i : Nat) {x : Str} {op : Operator} {r : R2} {f : PyData → PyData → (PyData → Prop) → Prop} {pos' : Pos} (ho : OpR X (inplaceOp op) r ∧ OpD X C r f) (h : DE C e te de) (hi : X.N[i]? = some x := by rfl) (hx : Loc X.env.scope x := by first | exact Or.inl rfl | exact Or.inr rfl)
    (hf : X.fn x = true ∨ X.env.scope.names.lookup x = some .local := by first | exact .inl rfl | exact .inr rfl) : DS C (.AugAssign (.Name x pos') op e pos) (tAug i te r) (sAug i de f) := by
  refine ⟨ps_aug C.nd hi hx h.pe (fun pins s σ H x y v u Q I rx ry h => ho.1 pins s σ H x y v u Q I rx ry h) hf, fun w σ ρ D DD hA I q k => ?_⟩
  have q : (match ρ[i]? with
    | some (.val x) => de ρ fun r ρ1 => vw ρ1 r fun y => f x y fun z => DD.nx (ρ1.set i (.val z))
    | _ => False) := q
  cases e0 : ρ[i]? with
  | none => rw [e0] at q; exact q.elim
  | some s =>
    rw [e0] at q
    cases s with
    | no => exact q.elim
    | own _ _ => exact q.elim
    | res _ _ => exact q.elim
    | val xd =>
      obtain ⟨_, u, e1, hr⟩ := I.ok i _ e0
      refine ⟨u, e1, h.run w σ ρ _ _ hA I q fun v r1 w1 ρ1 s1 I1 R1 q1 => ?_⟩
      obtain ⟨y, ty, q2⟩ := vw_top I1 R1 q1
      refine ho.2 w1 σ ρ1 u v xd y _ _ (C.cl _ _ hA s1) I1 (rep_top I1.gh (rep_mono s1.g _ _ hr)) ty q2 fun z d w2 s2 I2 R2 q3 => ?_
      have z2 := I2.set (i := i) R2
      exact k.nx ⟨w2.G, w2.H, fun j => if j = i then [] else w2.F j⟩ _ _ ((s1.trans s2).trans z2.2) z2.1 q3

/-! ### a, b, c = x, y, z -/
def asThree (ds : List PyData) (k : PyData → PyData → PyData → Prop) : Prop := match ds with | [x, y, z] => k x y z | _ => False
def sPar3 (i j l : Nat) (t : TND) : TSD := fun D ρ => t ρ fun ds ρ1 => asThree ds fun x y z => D.nx (((ρ1.set i (.val x)).set j (.val y)).set l (.val z))
theorem asThree_inv {ds : List PyData} {k : PyData → PyData → PyData → Prop} (h : asThree ds k) : ∃ x y z, ds = [x, y, z] ∧ k x y z := by
  unfold asThree at h
  split at h
  · exact ⟨_, _, _, rfl, h⟩
  · exact h.elim
theorem ds_par3 {i j l : Nat} {x y z : Str} {px py pz pt : Pos} {kt k2 pt2} (ha : DA C [a, b, c] tr dr) (hi : X.N[i]? = some x := by rfl) (hj : X.N[j]? = some y := by rfl) (hl : X.N[l]? = some z := by rfl) (hij : i ≠ j := by decide) (hil : i ≠ l := by decide) (hjl : j ≠ l := by decide)
    (hx : X.env.scope.names.lookup x = some .local := by rfl) (hy : X.env.scope.names.lookup y = some .local := by rfl) (hz : X.env.scope.names.lookup z = some .local := by rfl)
    (hw : swappedStores [.Tuple [.Name x px, .Name y py, .Name z pz] kt pt] (.Tuple [a, b, c] k2 pt2) X.env = pure (some [x, y, z]) := by rfl)
    (hs : swapsWithSole [.Tuple [.Name x px, .Name y py, .Name z pz] kt pt] (.Tuple [a, b, c] k2 pt2) pos.line X.env = pure false := by rfl) :
    DS C (.Assign [.Tuple [.Name x px, .Name y py, .Name z pz] kt pt] (.Tuple [a, b, c] k2 pt2) pos) (tPar3 i j l tr) (sPar3 i j l dr) := by
  refine ⟨ps_par3 C.calm C.nd hi hj hl hij hil hjl hx hy hz ha.pa hw hs, fun w σ ρ D DD hA I q k => ?_⟩
  refine ha.run w σ ρ _ _ hA I q fun vs ds w1 ρ1 s1 I1 R1 q1 => ?_
  obtain ⟨x1, x2, x3, rfl, q2⟩ := asThree_inv q1
  cases R1 with
  | cons r1 R1 =>
    cases R1 with
    | cons r2 R1 =>
      cases R1 with
      | cons r3 R1 =>
        cases R1
        have z1 := I1.set (i := i) r1
        have z2 := z1.1.set (i := j) r2
        have z3 := z2.1.set (i := l) r3
        exact ⟨_, _, _, rfl, k.nx ⟨w1.G, w1.H, fun j' => if j' = l then [] else if j' = j then [] else if j' = i then [] else w1.F j'⟩ _ _ (((s1.trans z1.2).trans z2.2).trans z3.2) z3.1 q2⟩

/-! ### a list unpacked -/
def gLst' (r : TGsD) : TGD := fun x ρ k => match x with | .list xs => r xs ρ k | _ => False
theorem dg_lst {tgs : List Expr} {gs : TGs} {T : List Nat} {ds : TGsD} {k0 : Nat} {n : Nat} (h : DGs C tgs gs T ds) (hn : (assignEach tgs X.env).length = n := by rfl) (hst : (assignEach tgs X.env).findIdx? (·.1) = none := by rfl) :
    DG C (.Tuple tgs k0 pos) (gLst X.K n gs) T (gLst' (lenIs n ds)) := by
  refine ⟨pg_lst C.calm h.pgs hn hst, fun w σ ρ v x Q QD hA I hr q k => ?_⟩
  cases x with
  | list xs =>
    cases hr with
    | lst hs ha =>
      obtain ⟨hl, q⟩ := q
      exact ⟨_, _, rfl, SqL.of (I.gh _ _ hs), by rw [ha.len]; exact hl, h.run w σ ρ _ _ _ _ hA I ha q k⟩
  | _ => exact q.elim

/-! ### raise -/
def sRaise (W : WD) (cls : Addr) : TSD := fun _ ρ => W ⟨cls, []⟩ ρ
theorem ds_raise {cls : Addr} (h : PMk X e (fun _ H Q => Q (.ref cls) none H)) : DS C (.Raise (some e) none pos) (fun _ σ H => C.WH (.ref cls) none σ H) (sRaise C.W cls) :=
  ⟨ps_raise C.calm C.tk h, fun w σ ρ D DD hA I q k => C.hW ⟨cls, []⟩ ρ σ w (.ref cls) none hA I ⟨rfl, .inl ⟨rfl, rfl⟩⟩ q⟩

/-! ### pairs walked -/
def enumD (ds : List PyData) : List PyData := ds.zipIdx.map fun p => .tuple [.int (p.2 : Int), p.1]
def asL1 (ds : List PyData) (k : List PyData → Prop) : Prop := match ds with | [.list xs] => k xs | _ => False
theorem asL1_inv {ds : List PyData} {k : List PyData → Prop} (h : asL1 ds k) : ∃ xs, ds = [.list xs] ∧ k xs := by
  unfold asL1 at h
  split at h
  · exact ⟨_, rfl, h⟩
  · exact h.elim
def enumI (dr : TND) : TND := fun ρ Q => dr ρ fun ds ρ1 => asL1 ds fun xs => Q (enumD xs) ρ1
theorem di_enum {p tpos : Pos} {elts : List Expr} {kk : Nat} (hm : X.mg "enumerate" = none) (ha : DA C [e] tr dr) (hg : Gl X "enumerate" := by rfl) (hs : starEach [e] X.env = [(false, eval e X.env)] := by rfl) :
    DI C (.Tuple elts kk tpos) (.Call (.Name "enumerate" p) [e] [] pos) (iEnum X.K tr) (enumI dr) := by
  refine ⟨pi_enum hg hm ha.pa hs, fun w σ ρ Q QD hA I q k => ?_⟩
  refine ha.run w σ ρ _ _ hA I q fun vs ds w1 ρ1 s1 I1 R1 q1 => ?_
  obtain ⟨xs, rfl, q2⟩ := asL1_inv q1
  cases R1 with
  | cons r R1 =>
    cases R1
    cases r with
    | lst hg hr =>
      rename_i l us
      have len : (enumD xs).length = us.length := by unfold enumD; rw [List.length_map, List.length_zipIdx, hr.len]
      refine ⟨l, us, rfl, SqL.of (I1.gh _ _ hg), k (Ite X.K l) (enumD xs) w1 ρ1 s1 I1 ⟨fun i H hi s => ?_, fun H s => ⟨us, SqL.of (s _ _ hg), by rw [len]; exact Nat.le_refl _⟩, fun i H x H' hi s y => ?_⟩ q2⟩
      · have hi' : i < us.length := by rw [← len]; exact hi
        exact ⟨us, us[i], SqL.of (s _ _ hg), by simp [hi']⟩
      · obtain ⟨T, u, rfl, hT, rfl, hx⟩ := y
        obtain ⟨d, hd, rd⟩ := hr.get' (hx us (SqL.of (s _ _ hg)))
        refine ⟨.tuple [.int (i : Int), d], ?_, .inr ⟨T, _, u, .int (i : Int), d, rfl, hT, rfl, rfl, .int _, rd⟩⟩
        unfold enumD
        rw [List.getElem?_map, List.getElem?_zipIdx, hd]
        simp
def asL2 (ds : List PyData) (k : List PyData → List PyData → Prop) : Prop := match ds with | [.list xs, .list ys] => k xs ys | _ => False
theorem asL2_inv {ds : List PyData} {k : List PyData → List PyData → Prop} (h : asL2 ds k) : ∃ xs ys, ds = [.list xs, .list ys] ∧ k xs ys := by
  unfold asL2 at h
  split at h
  · exact ⟨_, _, rfl, h⟩
  · exact h.elim
def zipD (xs ys : List PyData) : List PyData := (xs.zip ys).map fun p => .tuple [p.1, p.2]
def zipI (dr : TND) : TND := fun ρ Q => dr ρ fun ds ρ1 => asL2 ds fun xs ys => Q (zipD xs ys) ρ1
theorem di_zip {p tpos : Pos} {elts : List Expr} {kk : Nat} {e2 : Expr} (hm : X.mg "zip" = none) (ha : DA C [e, e2] tr dr) (hg : Gl X "zip" := by rfl) (hs : starEach [e, e2] X.env = (false, eval e X.env) :: starEach [e2] X.env := by rfl) (hpl : (backTo pos (starEach [e2] X.env)).any (·.1) = false := by rfl) :
    DI C (.Tuple elts kk tpos) (.Call (.Name "zip" p) [e, e2] [] pos) (iZip X.K tr) (zipI dr) := by
  refine ⟨pi_zip hg hm ha.pa hs hpl, fun w σ ρ Q QD hA I q k => ?_⟩
  refine ha.run w σ ρ _ _ hA I q fun vs ds w1 ρ1 s1 I1 R1 q1 => ?_
  obtain ⟨xs, ys, rfl, q2⟩ := asL2_inv q1
  cases R1 with
  | cons r R1 =>
    cases R1 with
    | cons r' R1 =>
      cases R1
      cases r with
      | lst hg1 hr1 =>
        cases r' with
        | lst hg2 hr2 =>
          rename_i l us m ws
          have len : (zipD xs ys).length = min us.length ws.length := by unfold zipD; rw [List.length_map, List.length_zip, hr1.len, hr2.len]
          refine ⟨l, m, us, ws, rfl, SqL.of (I1.gh _ _ hg1), SqL.of (I1.gh _ _ hg2), k (Itz X.K l m) (zipD xs ys) w1 ρ1 s1 I1 ⟨fun i H hi s => ?_, fun H s => ⟨us, ws, SqL.of (s _ _ hg1), SqL.of (s _ _ hg2), by rw [len]; omega⟩, fun i H x H' hi s y => ?_⟩ q2⟩
          · rw [len] at hi
            have h1 : i < us.length := by omega
            have h2 : i < ws.length := by omega
            exact ⟨us, ws, us[i], ws[i], SqL.of (s _ _ hg1), SqL.of (s _ _ hg2), by simp [h1], by simp [h2]⟩
          · obtain ⟨T, u, v, rfl, hT, rfl, hx, hy⟩ := y
            obtain ⟨d, hd, rd⟩ := hr1.get' (hx us (SqL.of (s _ _ hg1)))
            obtain ⟨d', hd', rd'⟩ := hr2.get' (hy ws (SqL.of (s _ _ hg2)))
            refine ⟨.tuple [d, d'], ?_, .inr ⟨T, u, v, d, d', rfl, hT, rfl, rfl, rd, rd'⟩⟩
            unfold zipD
            rw [List.getElem?_map, (List.getElem?_zip_eq_some (z := (d, d'))).mpr ⟨hd, hd'⟩]
            rfl

/-! ### comprehensions -/
def wipeD (ρ : DSt) : List Nat → DSt
  | [] => ρ
  | v :: vs => (wipeD ρ vs).set v .no
theorem FI.wipe {K : PySem.W.Frag} {P : Par} {σ : St} : ∀ {vs : List Nat} {w : Wd} {ρ : DSt}, FI K P w σ ρ → ∃ w', w'.G = w.G ∧ w'.H = w.H ∧ FI K P w' σ (wipeD ρ vs) ∧ Stp w w' ∧ ∀ i b, b ∈ w'.F i → b ∈ w.F i
  | [], w, ρ, I => ⟨w, rfl, rfl, I, Stp.refl w, fun _ _ h => h⟩
  | v :: vs, w, ρ, I => by
    obtain ⟨w1, g, h, I1, s1, f1⟩ := FI.wipe (vs := vs) I
    obtain ⟨I2, s2⟩ := I1.drop v
    refine ⟨⟨w1.G, w1.H, fun j => if j = v then [] else w1.F j⟩, g, h, I2, s1.trans s2, fun i b hb => f1 i b ?_⟩
    have hb : b ∈ (if i = v then ([] : List Addr) else w1.F i) := hb
    by_cases e : i = v
    · rw [if_pos e] at hb; cases hb
    · rw [if_neg e] at hb; exact hb
theorem wipeD_len (ρ : DSt) : ∀ vs : List Nat, (wipeD ρ vs).length = ρ.length
  | [] => rfl
  | v :: vs => by unfold wipeD; rw [List.length_set, wipeD_len ρ vs]
theorem wipeD_in {ρ : DSt} {i : Nat} {s : SD} : ∀ {vs : List Nat}, (wipeD ρ vs)[i]? = some s → i ∈ vs → s = .no
  | v :: vs, h, hm => by
    unfold wipeD at h
    by_cases e : v = i
    · subst e
      have hlt : v < (wipeD ρ vs).length := by
        rcases Nat.lt_or_ge v (wipeD ρ vs).length with q | q
        · exact q
        · rw [List.getElem?_eq_none (by rw [List.length_set]; exact q)] at h; cases h
      rw [List.getElem?_set_self hlt] at h
      cases h; rfl
    · rw [List.getElem?_set_ne e] at h
      exact wipeD_in h (by rcases List.mem_cons.mp hm with q | q; exact absurd q.symm e; exact q)
theorem wipe_in {σ : St} {i : Nat} : ∀ {vs : List Nat}, i ∈ vs → (L2.wipe σ vs)[i]? = if i < σ.length then some none else none
  | v :: vs, h => by
    show ((L2.wipe σ vs).set v none)[i]? = _
    by_cases e : v = i
    · subst e
      rw [List.getElem?_set, if_pos rfl, wipe_length]
    · rw [List.getElem?_set_ne e]
      exact wipe_in (by rcases List.mem_cons.mp h with q | q; exact absurd q.symm e; exact q)
theorem wipe_idem (σ : St) (vs : List Nat) : L2.wipe (L2.wipe σ vs) vs = L2.wipe σ vs := by
  refine List.ext_getElem? fun i => ?_
  by_cases h : i ∈ vs
  · rw [wipe_in h, wipe_in h, wipe_length]
  · rw [wipe_out h, wipe_out h]
/-- the block's slots: what was wiped may hold anything -/
theorem FI.other {K : PySem.W.Frag} {P : Par} {w : Wd} {σ σ' : St} {ρ : DSt} {vs : List Nat} (I : FI K P w σ ρ) (hn : ∀ i ∈ vs, ∀ s, ρ[i]? = some s → s = .no) (hl : σ'.length = σ.length) (he : ∀ i, i ∉ vs → σ'[i]? = σ[i]?) : FI K P w σ' ρ := by
  refine ⟨I.gh, by rw [hl]; exact I.len, fun i s e => ?_, I.out, I.foot, I.sep⟩
  by_cases hi : i ∈ vs
  · have := hn i hi s e
    subst this
    exact I.ok i _ e
  · rw [he i hi]
    exact I.ok i s e
/-- the context of a comprehension's block: no exception comes out of it -/
def DC.blk {X : Cx} (C : DC X) (s : Shared) (H : Hp) (scope : Scope) (cenv : Env) (fp : List Addr) : DC (X.blk s H scope cenv fp) :=
  { P := C.P, A := C.A, cl := C.cl, nw := C.nw, gd := C.gd, calm := C.calm, nd := C.nd, un := C.un, W := fun _ _ => False, WH := fun _ _ _ _ => False,
    tk := fun u s' ⟨_, _, _, _, _, _, _, _, _, _, _, _, _, _, _, _, w⟩ => w, hW := fun _ _ _ _ _ _ _ _ _ h => h }
def lcD (vs : List Nat) (g : TGD) (t : TTD) (te : TED) : List PyData → List PyData → DSt → (List PyData → DSt → Prop) → Prop
  | [], acc, ρ, Q => Q acc ρ
  | x :: xs, acc, ρ, Q => g x ρ fun ρ1 => t ρ1 fun b ρ2 => match b with
    | true => te ρ2 fun r ρ3 => frz ρ3 r fun d ρ4 => acc.length < sizeLine ∧ lcD vs g t te xs (acc ++ [d]) (wipeD ρ4 vs) Q
    | false => lcD vs g t te xs acc (wipeD ρ2 vs) Q
def nLc (vs : List Nat) (ti : TND) (g : TGD) (t : TTD) (te : TED) : TND := fun ρ Q => ti ρ fun items ρ1 => lcD vs g t te items [] (wipeD ρ1 vs) Q
def dYes : TTD := fun ρ Q => Q true ρ
/-- the tests of a clause -/
structure DTs (C : DC X) (ifs : List Expr) (tt : TT) (t : TTD) : Prop where
  pts : PTs X ifs tt
  run : ∀ (w : Wd) (σ : St) (ρ : DSt) (Q : Bool → Hp → Prop) (QD : Bool → DSt → Prop), C.A w → FI X.K C.P w σ ρ → t ρ QD →
    (∀ b w' ρ', Stp w w' → FI X.K C.P w' σ ρ' → QD b ρ' → Q b w'.H) → tt σ w.H Q
theorem dts_nil : DTs C [] tYes dYes := ⟨pts_nil, fun w σ ρ Q QD hA I q k => k true w ρ (Stp.refl w) I q⟩
theorem dts_one {ua : TT} {xa : TTD} (h : DT C c ua xa) : DTs C [c] ua xa := ⟨pts_one h.pt, h.run⟩
abbrev BlkEnv (X : Cx) (scope : Scope) (cl : List (Str × Addr)) (Ca : Addr) : Env := compEnvC scope cl Ca X.env
section
variable {elt : Expr} {ifs : List Expr} {scope : Scope} {own : List (Str × Nat)} {wi : TI} {ti : TND} {g : TG} {T : List Nat} {d : TGD} {tt : TT} {t : TTD}
theorem lc_run (hi : DI C tg iter wi ti)
    (hg : ∀ (s : Shared) (H : Hp) (Ca : Addr) (cl : List (Str × Addr)) (fp : List Addr), DG (C.blk s H scope (compEnvC scope cl Ca X.env) fp) tg g T d)
    (ht : ∀ (s : Shared) (H : Hp) (Ca : Addr) (cl : List (Str × Addr)) (fp : List Addr), DTs (C.blk s H scope (compEnvC scope cl Ca X.env) fp) ifs tt t)
    (he : ∀ (s : Shared) (H : Hp) (Ca : Addr) (cl : List (Str × Addr)) (fp : List Addr), DE (C.blk s H scope (compEnvC scope cl Ca X.env) fp) elt te de) (hT : ∀ i ∈ T, i ∈ own.map (·.2)) :
    ∀ (w : Wd) (σ : St) (ρ : DSt) (Q : VK) (QD : List PyData → DSt → Prop), C.A w → FI X.K C.P w σ ρ → nLc (own.map (·.2)) ti d t de ρ QD →
    (∀ a vs ds w' ρ', Stp w w' → FI X.K C.P w' σ ρ' → w.H a = none → w'.G a = none → (∀ i, a ∉ w'.F i) → w'.H a = some (.lst vs) → Reps X.K w'.G vs ds → QD ds ρ' → Q (.ref a) w'.H) → tLc wi g tt te (own.map (·.2)) σ w.H Q := by
  intro w σ ρ Q QD hA I q k
  have gg := hg X.s_0 X.H_0 0 [] []
  have tt' := ht X.s_0 X.H_0 0 [] []
  have ee := he X.s_0 X.H_0 0 [] []
  refine hi.run w σ ρ _ _ hA I q fun J items w1 ρ1 s1 I1 WK q1 D hD => ?_
  obtain ⟨v1, g1, h1, J1, s2, f1⟩ := FI.wipe (vs := own.map (·.2)) I1
  have hD1 : v1.H D = none := by rw [h1]; exact hD
  obtain ⟨J2, s3⟩ := FI.air J1 (o := .lst []) hD1
  have s03 := s2.trans s3
  refine ⟨fun i m H' => m = items.length - i ∧ i ≤ items.length ∧ ∃ w' ρ' us ds, w'.H = H' ∧ Stp v1 w' ∧ FI X.K C.P w' σ ρ' ∧ w'.H D = some (.lst us) ∧ Reps X.K w'.G us ds ∧ w'.G D = none ∧ (∀ i, D ∉ w'.F i) ∧
    (∀ j ∈ own.map (·.2), ∀ s, ρ'[j]? = some s → s = .no) ∧ lcD (own.map (·.2)) d t de (items.drop i) ds ρ' QD,
    ⟨items.length, by simp, Nat.zero_le _, ⟨v1.G, upd v1.H D (.lst []), v1.F⟩, wipeD ρ1 (own.map (·.2)), [], [], by rw [h1], s3, J2, upd_same, .nil, (J1.fresh hD1).1, fun i z => (J1.fresh hD1).2 i D z rfl, fun j hj s e => wipeD_in e hj, by rw [List.drop_zero]; exact q1⟩, ?_⟩
  rintro i m H' ⟨rfl, hi2, w2, ρ2, us, ds, rfl, s4, I2, hD2, R2, hG2, hF2, hno, q2⟩
  have hA2 := C.cl _ _ (C.cl _ _ (C.cl _ _ hA s1) s2) s4
  have g12 : Same w1.G w2.G := fun b o h => s4.g b o (by rw [g1]; exact h)
  have gH : Same w1.G w2.H := fun b o h => I2.gh b o (g12 b o h)
  by_cases hlt : i < items.length
  · refine .inr ⟨WK.go i _ hlt gH, fun H' => ∃ w' ρ' us ds, w'.H = H' ∧ Stp v1 w' ∧ FI X.K C.P w' σ ρ' ∧ w'.H D = some (.lst us) ∧ Reps X.K w'.G us ds ∧ w'.G D = none ∧ (∀ i, D ∉ w'.F i) ∧
      (∀ j ∈ own.map (·.2), ∀ s, ρ'[j]? = some s → s = .no) ∧ lcD (own.map (·.2)) d t de (items.drop (i + 1)) ds ρ' QD, fun H' h => ⟨items.length - (i + 1), by omega, rfl, hlt, h⟩, fun x H' y => ?_⟩
    obtain ⟨z, w3, hz, rfl, s5, I3, r3⟩ := item_come WK I2 g12 hlt y
    have ed : items.drop i = z :: items.drop (i + 1) := by
      have e1 := List.getElem?_eq_some_iff.mp hz
      rw [List.drop_eq_getElem_cons hlt, e1.2]
    rw [ed] at q2
    have I3' : FI X.K C.P w3 (L2.wipe σ (own.map (·.2))) ρ2 := I3.other hno (wipe_length σ _) fun i hi => wipe_out hi
    refine gg.run w3 _ ρ2 x z _ _ (C.cl _ _ hA2 s5) I3' r3 q2 fun w4 σ4 ρ4 s6 I4 e4 q4 => ?_
    have e4 : L2.wipe σ4 (own.map (·.2)) = L2.wipe σ (own.map (·.2)) := (e4 _ hT).trans (wipe_idem σ _)
    refine ⟨e4, tt'.run w4 σ4 ρ4 _ _ (C.cl _ _ (C.cl _ _ hA2 s5) s6) I4 q4 fun b w5 ρ5 s7 I5 q5 => ?_⟩
    have s57 := (s5.trans s6).trans s7
    -- what stays of D
    have fin : ∀ (w6 : Wd) (ρ6 : DSt), Stp w2 w6 → FI X.K C.P w6 σ4 ρ6 → w6.H D = some (.lst us) ∧ w6.G D = none ∧ (∀ i, D ∉ w6.F i) ∧ ∃ w7, w7.G = w6.G ∧ w7.H = w6.H ∧ FI X.K C.P w7 σ (wipeD ρ6 (own.map (·.2))) ∧ Stp w2 w7 ∧ (∀ i, D ∉ w7.F i) := by
      intro w6 ρ6 s I6
      have hF6 : ∀ i, D ∉ w6.F i := fun i z => by
        rcases s.f i D z with q | q
        · exact hF2 i q
        · rw [hD2] at q; cases q
      obtain ⟨w7, g7, h7, I7, s8, f7⟩ := FI.wipe (vs := own.map (·.2)) I6
      have hl : σ.length = σ4.length := by rw [← wipe_length σ (own.map (·.2)), ← e4, wipe_length]
      refine ⟨s.h D _ hD2 hF2, s.gf D (by rw [hD2]; exact fun z => nomatch z) hG2 hF2, hF6, w7, g7, h7, I7.other (fun j hj s e => wipeD_in e hj) hl fun j hj => ?_, s.trans s8, fun i z => hF6 i (f7 i D z)⟩
      rw [← wipe_out (σ := σ) hj, ← e4, wipe_out hj]
    cases b with
    | false =>
      rw [if_neg Bool.false_ne_true]
      obtain ⟨a1, a2, a3, w7, g7, h7, I7, s7', f7⟩ := fin w5 ρ5 s57 I5
      exact ⟨w7, _, us, ds, h7, s4.trans s7', I7, by rw [h7]; exact a1, by rw [g7]; exact reps_mono s57.g _ _ R2, by rw [g7]; exact a2, f7, fun j hj s e => wipeD_in e hj, q5⟩
    | true =>
      rw [if_pos rfl]
      refine ee.run w5 σ4 ρ5 _ _ (C.cl _ _ hA2 s57) I5 q5 fun v r w6 ρ6 s8 I6 R6 q6 => ?_
      obtain ⟨dd, ρ7, w7, I7, s9, hh, hrep, q7⟩ := frz_ok I6 R6 q6
      obtain ⟨hsz, q7⟩ := q7
      have s79 := (s57.trans s8).trans s9
      obtain ⟨a1, a2, a3, w8, g8, h8, I8, s8', f8⟩ := fin w7 ρ7 s79 I7
      have RR : Reps X.K w8.G us ds := by rw [g8]; exact reps_mono s79.g _ _ R2
      have hG8 : w8.G D = none := by rw [g8]; exact a2
      refine ⟨us, by rw [← hh]; exact a1, by rw [RR.len]; exact hsz, ⟨w8.G, upd w8.H D (.lst (us ++ [v])), w8.F⟩, _, us ++ [v], ds ++ [dd], by rw [h8, hh], ?_, ?_, upd_same, RR.app (.cons (by rw [g8]; exact hrep) .nil), hG8, f8, fun j hj s e => wipeD_in e hj, q7⟩
      · have S := s4.trans s8'
        exact ⟨S.g, S.gf, fun b o h n => by
          show upd w8.H D _ b = some o
          rw [upd_ne (ne_of_none h hD1)]
          exact S.h b o h n, fun b h => there_new b (S.t b h), S.f⟩
      · refine ⟨fun b o h => ?_, I8.len, fun i s e => (I8.ok i s e).go (fun _ _ h => h) fun b hb o h => ?_, I8.out, fun i b hb => ⟨(I8.foot i b hb).1, there_new b (I8.foot i b hb).2⟩, I8.sep⟩
        · show upd w8.H D _ b = some o
          rw [upd_ne (ne_of_none h hG8)]
          exact I8.gh b o h
        · show upd w8.H D _ b = some o
          rw [upd_ne (fun z => f8 i (by rw [← z]; exact hb))]
          exact h
  · have e : i = items.length := by omega
    subst e
    rw [List.drop_length] at q2
    have hw : w.H D = none := by
      cases e0 : w.H D with
      | none => rfl
      | some o => exact absurd hD (s1.t D (by rw [e0]; exact fun z => nomatch z))
    exact .inl ⟨WK.stop _ gH, k D us ds w2 ρ2 ((s1.trans s2).trans s4) I2 hw hG2 hF2 hD2 R2 q2⟩
/-! the same, each block's own spec left open -/
def teS (C : DC X) (de : TED) : TE := fun σ H Q => ∃ (w : Wd) (ρ : DSt) (QD : R → DSt → Prop), w.H = H ∧ C.A w ∧ FI X.K C.P w σ ρ ∧ de ρ QD ∧ (∀ v r w' ρ', Stp w w' → FI X.K C.P w' σ ρ' → RepR X.K w' σ v r → QD r ρ' → Q v w'.H)
def ttS (C : DC X) (t : TTD) : TT := fun σ H Q => ∃ (w : Wd) (ρ : DSt) (QD : Bool → DSt → Prop), w.H = H ∧ C.A w ∧ FI X.K C.P w σ ρ ∧ t ρ QD ∧ (∀ b w' ρ', Stp w w' → FI X.K C.P w' σ ρ' → QD b ρ' → Q b w'.H)
def tgS (C : DC X) (T : List Nat) (d : TGD) : TG := fun v σ H Q => ∃ (w : Wd) (ρ : DSt) (x : PyData) (QD : DSt → Prop), w.H = H ∧ C.A w ∧ FI X.K C.P w σ ρ ∧ Rep X.K w.G v x ∧ d x ρ QD ∧
  (∀ w' σ' ρ', Stp w w' → FI X.K C.P w' σ' ρ' → (∀ vs : List Nat, (∀ i ∈ T, i ∈ vs) → L2.wipe σ' vs = L2.wipe σ vs) → QD ρ' → Q σ' w'.H)
variable {s0 : Shared} {H0 : Hp} {cenv : Env} {fp : List Addr}
theorem blkE (h : ∃ te, DE (C.blk s0 H0 scope cenv fp) elt te de) : DE (C.blk s0 H0 scope cenv fp) elt (teS C de) de := by
  obtain ⟨te, h⟩ := h
  refine ⟨⟨fun pins s σ H Q I hh => ?_⟩, fun w σ ρ Q QD hA I q k => ⟨w, ρ, QD, rfl, hA, I, q, k⟩⟩
  obtain ⟨w, ρ, QD, rfl, hA, J, q, k⟩ := hh
  exact h.pe.run pins s σ w.H Q I (h.run w σ ρ Q QD hA J q k)
theorem blkT (h : ∃ tt, DTs (C.blk s0 H0 scope cenv fp) ifs tt t) : DTs (C.blk s0 H0 scope cenv fp) ifs (ttS C t) t := by
  obtain ⟨tt, h⟩ := h
  refine ⟨⟨fun pins s σ H Q I hh => ?_⟩, fun w σ ρ Q QD hA I q k => ⟨w, ρ, QD, rfl, hA, I, q, k⟩⟩
  obtain ⟨w, ρ, QD, rfl, hA, J, q, k⟩ := hh
  exact h.pts.run pins s σ w.H Q I (h.run w σ ρ Q QD hA J q k)
theorem blkG (h : ∃ g, DG (C.blk s0 H0 scope cenv fp) tg g T d) : DG (C.blk s0 H0 scope cenv fp) tg (tgS C T d) T d := by
  obtain ⟨g, h⟩ := h
  refine ⟨⟨fun pins s σ H v u Q I r hh => ?_⟩, fun w σ ρ v x Q QD hA I hr q k => ⟨w, ρ, x, QD, rfl, hA, I, hr, q, k⟩⟩
  obtain ⟨w, ρ, x, QD, rfl, hA, J, hr, q, k⟩ := hh
  exact h.pg.run pins s σ w.H v u Q I r (h.run w σ ρ v x Q QD hA J hr q k)
theorem dn_lc (own : List (Str × Nat)) (hi : DI C tg iter wi ti) (ok : blkC X.N X.env.scope scope own = true)
    (hg : ∀ (s : Shared) (H : Hp) (Ca : Addr) (cl : List (Str × Addr)) (fp : List Addr), ∃ g, DG (C.blk s H scope (compEnvC scope cl Ca X.env) fp) tg g T d)
    (ht : ∀ (s : Shared) (H : Hp) (Ca : Addr) (cl : List (Str × Addr)) (fp : List Addr), ∃ tt, DTs (C.blk s H scope (compEnvC scope cl Ca X.env) fp) ifs tt t)
    (he : ∀ (s : Shared) (H : Hp) (Ca : Addr) (cl : List (Str × Addr)) (fp : List Addr), ∃ te, DE (C.blk s H scope (compEnvC scope cl Ca X.env) fp) elt te de) (hT : ∀ i ∈ T, i ∈ own.map (·.2) := by decide) (hs : ∀ x, foldedSetIterable iter X.env x = pure x := by intro _; rfl) :
    DN C (.ListComp elt [⟨tg, iter, ifs, 0⟩] scope pos) (tLc wi (tgS C T d) (ttS C t) (teS C de) (own.map (·.2))) (nLc (own.map (·.2)) ti d t de) :=
  ⟨pe_lc C.calm C.nd hi.pi (blkOk_by ok) (fun s H Ca cl fp => (blkG (hg s H Ca cl fp)).pg) (fun s H Ca cl fp => (blkT (ht s H Ca cl fp)).pts) (fun s H Ca cl fp => (blkE (he s H Ca cl fp)).pe) hs, lc_run hi (fun s H Ca cl fp => blkG (hg s H Ca cl fp)) (fun s H Ca cl fp => blkT (ht s H Ca cl fp)) (fun s H Ca cl fp => blkE (he s H Ca cl fp)) hT⟩
/-- name = [..], all on one line -/
theorem ds_setLc (i : Nat) (own : List (Str × Nat)) {y : Str} {py spos : Pos} (hi : DI C tg iter wi ti) (ok : blkC X.N X.env.scope scope own = true)
    (hg : ∀ (s : Shared) (H : Hp) (Ca : Addr) (cl : List (Str × Addr)) (fp : List Addr), ∃ g, DG (C.blk s H scope (compEnvC scope cl Ca X.env) fp) tg g T d)
    (ht : ∀ (s : Shared) (H : Hp) (Ca : Addr) (cl : List (Str × Addr)) (fp : List Addr), ∃ tt, DTs (C.blk s H scope (compEnvC scope cl Ca X.env) fp) ifs tt t)
    (he : ∀ (s : Shared) (H : Hp) (Ca : Addr) (cl : List (Str × Addr)) (fp : List Addr), ∃ te, DE (C.blk s H scope (compEnvC scope cl Ca X.env) fp) elt te de) (hT : ∀ i ∈ T, i ∈ own.map (·.2) := by decide)
    (hy : X.N[i]? = some y := by rfl) (hyl : X.env.scope.names.lookup y = some .local := by rfl) (hsw : swapsWith (.ListComp elt [⟨tg, iter, ifs, 0⟩] scope pos) (some (.Name y py)) spos.line X.env = pure true := by rfl) (hs : ∀ x, foldedSetIterable iter X.env x = pure x := by intro _; rfl) :
    DS C (.Assign [.Name y py] (.ListComp elt [⟨tg, iter, ifs, 0⟩] scope pos) spos) (tAsg (tLc wi (tgS C T d) (ttS C t) (teS C de) (own.map (·.2))) (gName i)) (sOwn i (nLc (own.map (·.2)) ti d t de)) := by
  refine ⟨ps_setLc C.calm C.nd hy hyl hsw hi.pi (blkOk_by ok) (fun s H Ca cl fp => (blkG (hg s H Ca cl fp)).pg) (fun s H Ca cl fp => (blkT (ht s H Ca cl fp)).pts) (fun s H Ca cl fp => (blkE (he s H Ca cl fp)).pe) hs, fun w σ ρ D DD hA I q k => ?_⟩
  refine lc_run hi (fun s H Ca cl fp => blkG (hg s H Ca cl fp)) (fun s H Ca cl fp => blkT (ht s H Ca cl fp)) (fun s H Ca cl fp => blkE (he s H Ca cl fp)) hT w σ ρ _ _ hA I q fun a vs ds w1 ρ1 s1 I1 n0 hg hf' hh hr q1 => ?_
  have z := I1.setOwn (i := i) hf' hg hh hr (C.nw w a hA n0) q1.1
  refine k.nx ⟨w1.G, w1.H, fun j => if j = i then [a] else w1.F j⟩ _ _ ⟨s1.g, s1.gf, s1.h, s1.t, fun j b hb => ?_⟩ z q1.2
  have hb : b ∈ (if j = i then [a] else w1.F j) := hb
  by_cases e : j = i
  · rw [if_pos e] at hb
    have : b = a := by simpa using hb
    rw [this]; exact .inr n0
  · rw [if_neg e] at hb
    exact s1.f j b hb
end
end
end DL

end
section
set_option maxHeartbeats 4000000
/-! DLI: calls by the callee's record, the script's slices, a module's constants, a def behind a head. -/
namespace DL
open PySem PySem.Spec L2
open PyProof.Rows (envOfC)
/-- a def that may be called by the name x -/
structure CalD (P : Program) (w : World) (K : PySem.W.Frag) (mg : Str → Option Value) (base : Heap) (k : Nat) (x : Str) (ps : List Str) (p : DSp) : Prop where
  ex : ∃ f fd, FnD P w K mg base k f fd ps p ∧ mg x = some (.ref f) ∧ PySem.W.keepIn K (.ref f) = true ∧ Binds K fd ps []
theorem CalD.mono {P : Program} {w : World} {K : PySem.W.Frag} {mg : Str → Option Value} {base : Heap} {j k : Nat} {x : Str} {ps : List Str} {p : DSp} (F : CalD P w K mg base j x ps p) (h : j ≤ k) : CalD P w K mg base k x ps p := by
  obtain ⟨f, fd, a, b⟩ := F.ex
  exact ⟨f, fd, a.mono h, b⟩
section
variable {X : Cx} {k : Nat} {ps : List Str} {p : DSp} {x : Str} {px pos : Pos} {e : Expr} {es : List Expr} {ta : TA} {C : DC X} {dr : TND}
theorem de_callC (F : CalD X.prog X.w X.K X.mg X.base k x ps p) (hr : Room k X.A) (ha : DA C (e :: es) ta dr) (hg : Gl X x := by rfl) (hdb : (x == ("__debug__" : Str)) = false := by decide)
    (he : starEach (e :: es) X.env = (false, eval e X.env) :: starEach es X.env := by rfl) (hpl : (backTo pos (starEach es X.env)).any (·.1) = false := by rfl) :
    DE C (.Call (.Name x px) (e :: es) [] pos) (tCallS (spOf X.K p) (WE C.WH) ta) (dCall p C.W dr) := by
  obtain ⟨f, fd, F, hm, hk, hb⟩ := F.ex
  exact de_call F hr hg hm hk hb ha hdb he hpl
theorem dn_callC (F : CalD X.prog X.w X.K X.mg X.base k x ps p) (hr : Room k X.A) (ha : DA C (e :: es) ta dr) (hg : Gl X x := by rfl) (hdb : (x == ("__debug__" : Str)) = false := by decide)
    (he : starEach (e :: es) X.env = (false, eval e X.env) :: starEach es X.env := by rfl) (hpl : (backTo pos (starEach es X.env)).any (·.1) = false := by rfl) :
    DN C (.Call (.Name x px) (e :: es) [] pos) (tCallS (spOf X.K p) (WE C.WH) ta) (nCall p C.W dr) := by
  obtain ⟨f, fd, F, hm, hk, hb⟩ := F.ex
  exact dn_call F hr hg hm hk hb ha hdb he hpl
variable {y : Str} {py : Pos}
theorem de_callLC (i : Nat) (F : CalD X.prog X.w X.K X.mg X.base k x ps p) (hr : Room k X.A) (ha : DA C es ta dr) (hg : Gl X x := by rfl)
    (hN : X.N[i]? = some y := by rfl) (hv : Vis X.env.scope y := by first | exact Or.inl rfl | exact Or.inr (Or.inl rfl) | exact Or.inr (Or.inr rfl)) (hd : (y == ("__debug__" : Str)) = false := by decide) (hcd : (y == ("__classdict__" : Str)) = false := by decide)
    (hdb : (x == ("__debug__" : Str)) = false := by decide) (he : starEach (.Name y py :: es) X.env = (false, eval (.Name y py) X.env) :: starEach es X.env := by rfl) (hpl : (backTo pos (starEach es X.env)).any (·.1) = false := by rfl) :
    DE C (.Call (.Name x px) (.Name y py :: es) [] pos) (tCallS (spOf X.K p) (WE C.WH) (tCons (tVar i) ta)) (withLent i (dCallL p C.W i dr)) := by
  obtain ⟨f, fd, F, hm, hk, hb⟩ := F.ex
  exact de_callL i F hr hg hm hk hb ha hN hv hd hcd hdb he hpl
theorem dn_callLC (i : Nat) (F : CalD X.prog X.w X.K X.mg X.base k x ps p) (hr : Room k X.A) (ha : DA C es ta dr) (hg : Gl X x := by rfl)
    (hN : X.N[i]? = some y := by rfl) (hv : Vis X.env.scope y := by first | exact Or.inl rfl | exact Or.inr (Or.inl rfl) | exact Or.inr (Or.inr rfl)) (hd : (y == ("__debug__" : Str)) = false := by decide) (hcd : (y == ("__classdict__" : Str)) = false := by decide)
    (hdb : (x == ("__debug__" : Str)) = false := by decide) (he : starEach (.Name y py :: es) X.env = (false, eval (.Name y py) X.env) :: starEach es X.env := by rfl) (hpl : (backTo pos (starEach es X.env)).any (·.1) = false := by rfl) :
    DN C (.Call (.Name x px) (.Name y py :: es) [] pos) (tCallS (spOf X.K p) (WE C.WH) (tCons (tVar i) ta)) (withLentN i (nCallL p C.W i dr)) := by
  obtain ⟨f, fd, F, hm, hk, hb⟩ := F.ex
  exact dn_callL i F hr hg hm hk hb ha hN hv hd hcd hdb he hpl

/-! ### the script's slices -/
def scrK (ρ : DSt) (i : Nat) (k : List Int → Prop) : Prop := ∃ ns, ρ[i]? = some (.res true (scriptR ns)) ∧ k ns
def nScr (i : Nat) (tl th : TOD) : TND := fun ρ Q => scrK ρ i (fun _ => True) ∧ tl ρ fun lo ρ2 => th ρ2 fun hi ρ3 => scrK ρ3 i fun ns => Q (cutD (ns.map PyData.int) lo hi) ρ3
variable {lo hi : Option Expr} {tl th : TO} {dl dh : TOD} {p2 : Pos}
theorem scr_at {K : PySem.W.Frag} {P : Par} {w : Wd} {σ : L2.St} {ρ : DSt} {i : Nat} {k : List Int → Prop} (I : FI K P w σ ρ) (h : scrK ρ i k) : ∃ a ns, σ[i]? = some (some (.ref a)) ∧ SqL K w.G a (ns.map V.int) ∧ k ns := by
  obtain ⟨ns, e, q⟩ := h
  obtain ⟨a, h1, h2, _⟩ := I.ok i _ e
  exact ⟨a, ns, h1, h2.2, q⟩
theorem reps_int {K : PySem.W.Frag} {G : Hp} : ∀ ns : List Int, Reps K G (ns.map V.int) (ns.map PyData.int)
  | [] => .nil
  | n :: ns => .cons (.int n) (reps_int ns)
theorem dn_scr (i : Nat) (hl : DO C lo tl dl) (hh : DO C hi th dh) (hN : X.N[i]? = some y := by rfl) (hv : Vis X.env.scope y := by first | exact Or.inl rfl | exact Or.inr (Or.inl rfl) | exact Or.inr (Or.inr rfl)) (hd : (y == ("__debug__" : Str)) = false := by decide) (hcd : (y == ("__classdict__" : Str)) = false := by decide) :
    DN C (.Subscript (.Name y py) (.Slice lo hi none p2) pos) (tSl (rSlL X.K) (tVar i) tl th) (nScr i dl dh) := by
  refine ⟨pe_slice sl_list (pe_var hN hv hd hcd) hl.po hh.po, fun w σ ρ Q QD hA I q k => ?_⟩
  obtain ⟨q0, q⟩ := q
  obtain ⟨a, ns0, h1, _, _⟩ := scr_at I q0
  refine ⟨.ref a, h1, ?_⟩
  refine hl.run w σ ρ _ _ hA I q fun l w2 ρ2 s2 I2 q2 => ?_
  refine hh.run w2 σ ρ2 _ _ (C.cl _ _ hA s2) I2 q2 fun h w3 ρ3 s3 I3 q3 => ?_
  have s23 := s2.trans s3
  obtain ⟨a', ns, h2, hs, q4⟩ := scr_at I3 q3
  rw [h1] at h2
  cases h2
  refine ⟨a, ns.map V.int, rfl, sql_mono I3.gh hs, fun p hp => ?_⟩
  obtain ⟨I4, s4⟩ := FI.air I3 (o := .lst (cutV (ns.map V.int) l h)) hp
  exact k p (cutV (ns.map V.int) l h) (cutD (ns.map PyData.int) l h) ⟨w3.G, upd w3.H p _, w3.F⟩ ρ3 (s23.trans s4) I4 (air_new s23 hp) (I3.fresh hp).1 (fun i z => (I3.fresh hp).2 i p z rfl) upd_same (cut_reps (reps_int ns) l h) q4

/-! ### a module's constants -/
theorem de_gtup {x : Str} {u : Addr} {vs : List V} {ds : List PyData} (hm : X.mg x = some (.ref u)) (ht : ∀ H : Hp, SqT X.K H u vs) (hr : ∀ G, Reps X.K G vs ds) (hg : Gl X x := by rfl) (hd : (x == ("__debug__" : Str)) = false := by decide) : DE C (.Name x pos) (tC (.ref u)) (dC (.tuple ds)) :=
  de_glob hg hm rfl (fun G => .tup (ht G) (hr G)) hd
theorem de_gint {x : Str} {i : Int} (hm : ∃ t, X.mg x = some (.int i t)) (hg : Gl X x := by rfl) (hd : (x == ("__debug__" : Str)) = false := by decide) : DE C (.Name x pos) (tC (.int i)) (dC (.int i)) := by
  obtain ⟨t, hm⟩ := hm
  exact de_glob hg hm ⟨t, rfl⟩ (fun _ => .int i) hd
theorem de_gstr {x z : Str} (hm : ∃ t, X.mg x = some (.str z t)) (hg : Gl X x := by rfl) (hd : (x == ("__debug__" : Str)) = false := by decide) : DE C (.Name x pos) (tC (.str z)) (dC (.str z)) := by
  obtain ⟨t, hm⟩ := hm
  exact de_glob hg hm ⟨t, rfl⟩ (fun _ => .str z) hd
end
/-! ### own exceptions of a text -/
/-- an own exception class of the ValueError kind, by the name x -/
structure ExcD (K : PySem.W.Frag) (mg : Str → Option Value) (x : Str) (cls : Addr) : Prop where
  q : PySem.W.excIn K cls He.veBase "ValueError.__new__" = true
  g : mg x = some (.ref cls)
  k : PySem.W.keepIn K (.ref cls) = true
  s : PySem.W.subIn K (.ref cls) (.type "BaseException") = some true
  t : PySem.W.typeIn K (.ref cls) = some (.type "type")
section
variable {X : Cx} {C : DC X} {pos p p2 pos2 : Pos} {x m : Str} {cls : Addr} {j : Nat}
theorem ds_raiseC (h : ExcD X.K X.mg x cls) (hg : Gl X x := by rfl) (hdb : (x == ("__debug__" : Str)) = false := by decide) : DS C (.Raise (some (.Call (.Name x p) [.Constant (.str m) j p2] [] pos2)) none pos) (fun _ σ H => C.WH (.ref cls) none σ H) (sRaise C.W cls) :=
  ds_raise (pmk_own PySem.F.excBase_ValueError h.q h.g h.k (raises_own h.s h.t) hg hdb)
end
theorem body_of {X : Cx} {C : DC X} {body : List Stmt} {ts : TS} {t : TSD} {D : DEnds} {ρ : DSt} (h : DSs C body ts t) (h2 : t D ρ) : ∃ ts t, DSs C body ts t ∧ t D ρ := ⟨ts, t, h, h2⟩
/-! ### the names that gen.py prints -/
abbrev W0 : WD := fun _ _ => False
abbrev dLt : PyData → PyData → (PyData → Prop) → Prop := dB0 fun i j => decide (i < j)
abbrev dLe : PyData → PyData → (PyData → Prop) → Prop := dB0 fun i j => decide (i ≤ j)
abbrev dGt : PyData → PyData → (PyData → Prop) → Prop := dB0 fun i j => decide (j < i)
abbrev dGe : PyData → PyData → (PyData → Prop) → Prop := dB0 fun i j => decide (j ≤ i)
abbrev dMul : PyData → PyData → (PyData → Prop) → Prop := dI CMulW fun i j => i * j
abbrev dFdiv : PyData → PyData → (PyData → Prop) → Prop := dI CDivF fun i j => i.fdiv j
abbrev dMod : PyData → PyData → (PyData → Prop) → Prop := dI (fun _ j => j ≠ 0) fun i j => i.fmod j
abbrev dPow : PyData → PyData → (PyData → Prop) → Prop := dI CPow fun i j => i ^ j.toNat
abbrev dISub : PyData → PyData → (PyData → Prop) → Prop := dI0 fun i j => i - j
/-! ### a def behind a head by facts -/
theorem FunD.okD {P : Program} {w : World} {K : PySem.W.Frag} {mg : Str → Option Value} {base : Heap} {k : Nat} {f : Addr} {fd : FuncData} {name qual : Str} {params : Arguments} {body : List Stmt} {scope : Scope} {dvs : List V} {kws : List (Str × V)} {N ps : List Str} {p : DSp}
    (F : L2.FunD K name qual params body scope dvs kws f fd) (S : FnScope N ps scope) (len : ∀ α QD ED, p α QD ED → α.length = ps.length)
    (hbody : ∀ (cdv : Value) (A : Around) (outer : List Env) (s : Shared) (H : Hp) (E : XK) (C : DC (cxOf (L2.CX P w) P w K mg base N qual scope f cdv A outer s H E)) (α : List SD) (QD : Ret → List SD → Prop) (ED : Exd → List SD → Prop),
      Room k (A.deeper (envOfC qual scope s.heap.objs.size f cdv)) → C.W = (fun e ρ => outK α ρ fun α' => ED e α') → p α QD ED →
      ∃ ts t, DSs C body ts t ∧ t { nx := fun ρ => outK α ρ fun α' => QD (.d .none) α', rt := fun r ρ => outK α ρ fun α' => QD r α' } (startD N.length α)) :
    FnD P w K mg base (k + 1) f fd ps p := by
  obtain ⟨oc, od, dV, kV, doc, pm, an, cdv, ct, osl, rfl, lk, hcd, _, _⟩ := F.ex
  exact fnd_of lk hcd S len fun A outer s H E C α QD ED hr hW hp => hbody cdv A outer s H E C α QD ED hr hW hp
end DL

end
section
set_option maxHeartbeats 4000000
/-! DLJ: an exception caught and kept, isinstance of it, list.count, list.index. -/
namespace DL
open PySem PySem.Spec L2
/-- an exception object of class cls, own dict d, at a: as it stands behind its suite -/
def ExK (cls : Value) (d : Option Addr) (a : Addr) : HO := .ext fun h => ∃ (oe : Obj) (vs : Array Value), h.get? a = some oe ∧ Zc cls d oe ∧ oe.data = .fields vs
theorem exK_ok {P : Program} {w : World} {H : Hp} {h : Heap} {a : Addr} {cls : Value} {d : Option Addr} {oe : Obj} {vs : Array Value} (e : h.get? a = some oe) (z : Zc cls d oe) (dd : oe.data = .fields vs) : ObjOk P w H h a (ExK cls d a) :=
  ⟨⟨oe, vs, e, z, dd⟩, ⟨oe, e⟩, fun _ _ ⟨o, v, q, r⟩ k => ⟨o, v, k o q, r⟩⟩
section
variable {X : Cx} {pins : List (Addr × Obj)} {σ : L2.St} {H : Hp} {s : Shared}
/-- an object that is there, untracked till now, is tracked -/
theorem trk {a : Addr} {o : HO} (I : Inv X pins σ H s) (hn : H a = none) (h0 : X.s_0.heap.get? a = none) (hL : a ≠ X.env.locals) (hc : ∀ x c, X.env.cells.lookup x = some c → c ≠ a) (hp : ∀ p ∈ X.pn ++ pins, p.1 ≠ a) (new : ObjOk X.prog X.w (upd H a o) s.heap a o) :
    Inv X pins σ (upd H a o) s := by
  refine ⟨I.ok, I.os, I.bare, ⟨I.base.keep, I.base.slot, fun b u q n hx => ?_, I.base.there, fun b xs q => ?_, fun b u xs q => ?_, fun b ps q => ?_⟩, I.loc, I.cell, ?_, fun x c e => ?_, fun p hq => ?_, fun b u e => ?_, I.len⟩
  · rw [upd_ne (fun z => by rw [z, h0] at q; cases q)]; exact I.base.free b u q n hx
  · have z := I.base.tups b xs q
    rw [upd_ne (ne_of_none z hn)]; exact z
  · have z := I.base.frzs b u xs q
    rw [upd_ne (ne_of_none z hn)]; exact z
  · obtain ⟨m, z⟩ := I.base.tbls b ps q
    exact ⟨m, by rw [upd_ne (ne_of_none z hn)]; exact z⟩
  · rw [upd_ne (Ne.symm hL)]; exact I.free
  · rw [upd_ne (hc x c e)]; exact I.freeC x c e
  · obtain ⟨e, n, ne, nf, d⟩ := I.pin p hq
    exact ⟨e, by rw [upd_ne (hp p hq)]; exact n, ne, nf, d⟩
  · by_cases hb : b = a
    · subst hb
      rw [upd_same] at e
      cases e
      exact new
    · rw [upd_ne hb] at e
      exact (I.hok b u e).stay (fun c v _ q => q) (fun c q => by rw [upd_ne (ne_of_none q hn)]; exact q) fun c xs q => by rw [upd_ne (ne_of_none q hn)]; exact q
end
/-- what 'except x as n' wishes of an exception that its suite keeps -/
def wAsK (K : PySem.W.Frag) (c : Value) (i : Nat) (ts : Addr → Value → Option Addr → TS) (Wout : WX) (D : Ends) : WX := fun cls d σ H =>
  ∃ b, PySem.W.exmOne K cls c = some b ∧ (b = true → ∀ a, H a = none → ts a cls d { nx := fun σ' H' => D.nx (σ'.set i none) (upd H' a (ExK cls d a)), rt := fun _ _ => False, bk := fun _ _ => False, ct := fun _ _ => False } (σ.set i (some (.ref a))) H) ∧
    (b = false → Wout cls d σ H)
section
variable {X : Cx} {x n : Str} {c : Value} {i : Nat} {body suite : List Stmt} {b₀ : Stmt} {np pos pos' : Pos} {tb : WX → TS} {ts : Addr → Value → Option Addr → TS} {Wout : WX}
theorem ps_try_keep (hs : X.stack = X.env :: X.outer) (hf : X.env.frame = some X.env.locals) (hN : X.N.Nodup) (hi : X.N[i]? = some n) (hln : X.env.kindOf n = some .local) (hc : Names X x c) (tk : Takes X Wout) (hex : X.ex = [])
    (hb : ∀ (W : WX) (pn : List (Addr × Obj)) (xe : Value → Shared → Prop), Takes (X.tr pn xe) W → PassesOwn (model X.prog X.w) X.A X.env xe → PSs (X.tr pn xe) body (tb W))
    (hsu : ∀ (a : Addr) (oe : Obj) (cls : Value) (d : Option Addr) (pn : List (Addr × Obj)), Zc cls d oe → (∃ vs, oe.data = .fields vs) → PSs (X.suite a ((a, oe) :: pn)) (b₀ :: suite) (ts a cls d)) :
    PS X (.Try body [.ExceptHandler (some (.Name x np)) (some n) (b₀ :: suite) pos'] [] [] pos) (fun D σ H => tb (wAsK X.K c i ts Wout D) D σ H) := by
  refine ⟨fun pins s σ H D I h => ?_⟩
  have ok := I.ok
  have hfr : X.A.frames = some (X.env :: X.outer) := by rw [ok.frames, hs]
  have hloc : Loc X.env.scope n := .inl hln
  refine wpAny_Try_except ?_
  refine wpAny_mono ((hb (wAsK X.K c i ts Wout D) (X.pn ++ pins) (fun e s₁ => wpAny (model X.prog X.w) X.A (noteFrame e X.env) (fun _ s₂ => wpAny (model X.prog X.w) X.A (setFlight e none) (fun _ s₃ =>
    wpAny (model X.prog X.w) X.A (handleBy e X.env [.ExceptHandler (some (.Name x np)) (some n) (b₀ :: suite) pos']) (SP X pins D) X.xe s₃) X.xe s₂) X.xe s₁) (fun u s' xx => ?_) PassesOwn.looking).run [] s σ H D (I.toTry _) h) (fun f s1 hsp => ?_) (fun e s1 he => he)
  · obtain ⟨a, B, sI, pins', σ', H', cls, d, rfl, J', nb, up, sky, na, os, ag, b, hb1, hyes, hno⟩ := xx
    have J : Inv X pins σ' H' sI := J'.ofTry ok
    have sky' : Sky B (X.env :: X.outer) a (Zc cls d) X.env.locals s'.heap := by rw [← hs]; exact sky
    show wpAny (model X.prog X.w) X.A (noteFrame (.ref a) X.env) _ _ _
    refine Sky.land Zc.steady hfr hf sky' fun h3 fl3 up3 => ?_
    have J3 : Inv X pins σ' H' { s' with heap := h3 } := J.landed nb fl3.1 (up.trans up3) os ag
    obtain ⟨oe3, vs3, he3, hz3, hd3⟩ := fl3.there
    have notFr : ∀ {h : Heap} {o : Obj} {vs : Array Value}, h.FunFrames B (X.env :: X.outer) → h.get? a = some o → o.data = .fields vs → a ∉ frs (X.env :: X.outer) := fun {h o vs} ff e dd hm => by
      obtain ⟨_, o', e', hnf⟩ := ff.mem hm
      rw [e] at e'; cases e'
      exact hnf _ dd
    have nfr := notFr fl3.2.2.1 he3 hd3
    have nL : a ≠ X.env.locals := fun z => nfr (List.mem_filterMap.mpr ⟨X.env, List.mem_cons_self, by rw [hf, z]⟩)
    have nF : a ∉ X.fs := fun hm => by
      obtain ⟨e, he, q⟩ := List.mem_filterMap.mp hm
      exact nfr (List.mem_filterMap.mpr ⟨e, List.mem_cons_of_mem _ he, q⟩)
    -- a was not there when the body ended, nor at the entry
    have nB : B.get? a = none := fl3.2.1
    have nI : sI.heap.get? a = none := by
      cases q : sI.heap.get? a with
      | none => rfl
      | some o =>
        have z := nb a o q (by rw [hs]; exact nfr)
        rw [nB] at z
        cases z
    have n0 : X.s_0.heap.get? a = none := by
      cases q : X.s_0.heap.get? a with
      | none => rfl
      | some o =>
        obtain ⟨o', z⟩ := J.base.there a o q (by rw [hex]; exact fun z => nomatch z)
        rw [nI] at z
        cases z
    have nC : ∀ y c', X.env.cells.lookup y = some c' → c' ≠ a := fun y c' e z => by
      obtain ⟨v, o, q, _⟩ := J.cell y c' e
      rw [z, nI] at q
      cases q
    have nP : ∀ p ∈ X.pn ++ pins, p.1 ≠ a := fun p hp z => by
      obtain ⟨q, _⟩ := J.pin p hp
      rw [z, nI] at q
      cases q
    have S3 := J3.suite he3 hd3 na nL nF
    refine wpAny_handleBy_cons (codeAny_handlers_test ?_) (by intro q; cases q)
    have LT : PySem.W.Looks (model X.prog X.w) h3 (typeOf (.ref a)) cls := fun A Q E s k q => wpAny_typeOf_ref (k _ _ he3) (by rw [hz3.1]; exact q)
    have LM := PySem.W.exm_one (M := model X.prog X.w) (J3.kIn) LT hb1
    have test : ∀ {Q : Value → Shared → Prop} {E : Value → Shared → Prop}, Q c { s' with heap := h3 } → wpAny (model X.prog X.w) (X.A.mark (some (.ref a))) (eval (.Name x np) X.env) Q E { s' with heap := h3 } := fun {Q E} q => by
      obtain ⟨hg, hdbg, hm | ⟨hm, hv, hnn⟩⟩ := hc
      · exact ld_glob (X := X.suite a ((a, oe3) :: (X.pn ++ pins))) S3 hg hm q hdbg
      · exact ld_blt (X := X.suite a ((a, oe3) :: (X.pn ++ pins))) S3 hg hm hv q hnn hdbg
    refine test (LM.here ?_)
    cases b with
    | true =>
      refine codeAny_handlers_suite_as ?_
      refine HandSPX.lands_againZ fl3 fun h4 fl4 up4 => ?_
      have J4 : Inv X pins σ' H' { s' with heap := h4 } := J.landed nb fl4.1 ((up.trans up3).trans up4) os ag
      obtain ⟨oe4, vs4, he4, hz4, hd4⟩ := fl4.there
      have S4 := J4.suite he4 hd4 na nL nF
      refine store_ok (X := X.suite a ((a, oe4) :: (X.pn ++ pins))) (v := .ref a) S4 hN hi hloc rfl (fun s5 S5 => ?_) (.inr hln)
      refine wpAny_mono ((hsu a oe4 cls d (X.pn ++ pins) hz4 ⟨_, hd4⟩).run [] s5 _ H' _ S5 (hyes rfl a na)) (fun f s6 hsp => ?_) (fun _ _ z => False.elim z)
      cases f with
      | next =>
        obtain ⟨σ6, H6, S6, q6⟩ := hsp
        obtain ⟨hget, hnone, _⟩ := S6.pin (a, oe4) (List.mem_append_left _ List.mem_cons_self)
        have J6 := trk (o := ExK cls d a) (S6.unsuite ok) hnone n0 nL nC nP (exK_ok hget hz4 hd4)
        exact gone_ok J6 hN hi hln fun s7 J7 => ⟨_, _, J7, q6⟩
      | brk =>
        obtain ⟨σ6, H6, S6, q6⟩ := hsp
        exact q6.elim
      | cont =>
        obtain ⟨σ6, H6, S6, q6⟩ := hsp
        exact q6.elim
      | ret u =>
        obtain ⟨v6, σ6, H6, S6, r6, q6⟩ := hsp
        exact q6.elim
    | false =>
      show wpAny _ X.A (handleBy (.ref a) X.env []) _ _ _
      refine wpAny_handleBy_nil ?_
      obtain ⟨k1, k2, k3, oe, vs, T, oT, ts', he, hz, hd, h1, hr⟩ := id fl3
      unfold PySem.passOn
      refine wpAny_bind (wpAny_field he hd h1 ?_)
      rw [if_neg (show ¬ ((Value.ref T == Value.none) = true) from by simp)]
      have fin : wpAny (model X.prog X.w) X.A (setFlight (.ref a) X.env.frame) (fun _ s4 => wpAny (model X.prog X.w) X.A (throw (.ref a) : Sem Flow) (SP X pins D) X.xe s4) X.xe { s' with heap := h3 } := by
        rw [hf]
        refine HandSPX.setFlight_upZ fl3 fun h4 hh4 up4 => wpAny_throw (tk _ _ ?_)
        exact ⟨a, B, sI, pins, σ', H', cls, d, rfl, J, nb, (up.trans up3).trans up4, .inr (.inr (by rw [hs]; exact hh4)), na, os, ag, hno rfl⟩
      first
        | exact wpAny_bind (wpAny_pure (wpAny_bind fin))
        | exact wpAny_bind fin
  · cases f with
    | next =>
      obtain ⟨σ', H', J', q⟩ := hsp
      exact wpAny_execs_nil ⟨σ', H', J'.ofTry ok, q⟩
    | brk =>
      obtain ⟨σ', H', J', q⟩ := hsp
      exact ⟨σ', H', J'.ofTry ok, q⟩
    | cont =>
      obtain ⟨σ', H', J', q⟩ := hsp
      exact ⟨σ', H', J'.ofTry ok, q⟩
    | ret u =>
      obtain ⟨v, σ', H', J', r, q⟩ := hsp
      exact ⟨v, σ', H', J'.ofTry ok, r, q⟩
end

/-! ### kept, over data -/
/-- a kept exception without fields -/
def excR (e : Exd) : Res where
  P := fun _ _ H a fp => fp = [a] ∧ e.fs = [] ∧ H a = some (ExK (.ref e.C) none a)
  keep := fun {K G H G' H' a fp} _ k h => by
    obtain ⟨h1, h2, h3⟩ := h
    exact ⟨h1, h2, k a (by rw [h1]; exact List.mem_cons_self) _ h3⟩
theorem FI.setRes {K : PySem.W.Frag} {P : Par} {w : Wd} {σ : L2.St} {ρ : DSt} (I : FI K P w σ ρ) {i : Nat} {a : Addr} {r : Res} {fp : List Addr} (hf : ∀ b ∈ fp, ∀ j, b ∉ w.F j) (hb : ∀ b ∈ fp, w.G b = none ∧ w.H b ≠ none) (hP : r.P K w.G w.H a fp) (hn : ∀ b ∈ fp, P.N b) (hi : i < ρ.length) :
    FI K P ⟨w.G, w.H, fun j => if j = i then fp else w.F j⟩ (σ.set i (some (.ref a))) (ρ.set i (.res false r)) := by
  have sub : ∀ j b, b ∈ (if j = i then fp else w.F j) → (j = i ∧ b ∈ fp) ∨ (j ≠ i ∧ b ∈ w.F j) := fun j b hb => by
    by_cases e : j = i
    · rw [if_pos e] at hb; exact .inl ⟨e, hb⟩
    · rw [if_neg e] at hb; exact .inr ⟨e, hb⟩
  refine ⟨I.gh, by rw [List.length_set, List.length_set]; exact I.len, fun j s e => ?_, fun j hj => ?_, fun j b hb' => ?_, fun j l b hjl hb1 hb2 => ?_⟩
  · by_cases hj : i = j
    · subst hj
      rw [List.getElem?_set_self hi] at e
      cases e
      rw [List.getElem?_set_self (by rw [I.len]; exact hi)]
      refine ⟨a, rfl, ?_, (fun z => nomatch z), fun _ b h => ?_⟩
      · show r.P K w.G w.H a (if i = i then fp else w.F i)
        rw [if_pos rfl]; exact hP
      · have h : b ∈ (if i = i then fp else w.F i) := h
        rw [if_pos rfl] at h
        exact hn b h
    · rw [List.getElem?_set_ne hj] at e
      rw [List.getElem?_set_ne hj]
      show slotOk K P.σ0[j]? P.N _ (if j = i then fp else w.F j) σ[j]? s
      rw [if_neg (Ne.symm hj)]
      exact (I.ok j s e).go (fun _ _ h => h) fun _ _ _ h => h
  · have hj : ρ.length ≤ j := by rw [← List.length_set (as := ρ)]; exact hj
    show (if j = i then fp else w.F j) = []
    rw [if_neg (by omega)]
    exact I.out j hj
  · rcases sub j b hb' with ⟨_, q⟩ | ⟨_, q⟩
    · exact hb b q
    · exact I.foot j b q
  · rcases sub j b hb1 with ⟨e1, q⟩ | ⟨_, q⟩
    · rcases sub l b hb2 with ⟨e2, _⟩ | ⟨_, q'⟩
      · exact hjl (e1.trans e2.symm)
      · exact hf b q l q'
    · rcases sub l b hb2 with ⟨_, q'⟩ | ⟨_, q'⟩
      · exact hf b q' j q
      · exact I.sep j l b hjl q q'
section
variable {X : Cx} {C : DC X} {body : List Stmt} {t : WD → TSD}
/-- there are data that make it well -/
def tbS (C : DC X) (t : WD → TSD) : WX → TS := fun W D σ H => ∃ (w : Wd) (ρ : DSt) (DD : DEnds) (Wd' : WD), w.H = H ∧ C.A w ∧ FI X.K C.P w σ ρ ∧ t Wd' DD ρ ∧ EndsOk C w D DD ∧
  (∀ e ρ' σ' w' cls d, C.A w' → Stp w w' → FI X.K C.P w' σ' ρ' → RepE X.K w' cls d e → Wd' e ρ' → W cls d σ' w'.H)
/-- try: .. except C as e: caught = e; cat: the classes that it catches -/
def sTry (cat : Addr → Prop) (iC iE : Nat) (t : WD → TSD) : TSD := fun D ρ => t (fun e ρ' => cat e.C ∧ e.fs = [] ∧ iC < ρ'.length ∧ iE < ρ'.length ∧ D.nx ((ρ'.set iE .no).set iC (.res false (excR e)))) D ρ
variable {x n y : Str} {kc : Addr} {np pos pos' py pn' pa : Pos} {cat : Addr → Prop}
theorem ds_try (iC iE : Nat) (hbody : ∀ (pn : List (Addr × Obj)) (xe : Value → Shared → Prop) (C' : DC (X.tr pn xe)), PassesOwn (model X.prog X.w) X.A X.env xe → ∃ ts, DSs C' body ts (t C'.W))
    (hcat : ∀ a, cat a → PySem.W.exmOne X.K (.ref a) (.ref kc) = some true) (hm : X.mg x = some (.ref kc)) (hce : iC ≠ iE := by decide)
    (hs : X.stack = X.env :: X.outer := by rfl) (hf : X.env.frame = some X.env.locals := by rfl) (hex : X.ex = [] := by rfl) (hg : Gl X x := by rfl) (hdb : (x == ("__debug__" : Str)) = false := by decide)
    (hiE : X.N[iE]? = some n := by rfl) (hln : X.env.kindOf n = some .local := by rfl) (hiC : X.N[iC]? = some y := by rfl) (hlc : X.env.scope.names.lookup y = some .local := by rfl) (hvE : X.env.scope.names.lookup n = some .local := by rfl)
    (hd : (n == ("__debug__" : Str)) = false := by decide) (hcd : (n == ("__classdict__" : Str)) = false := by decide)
    (hsw : swapsWith (.Name n pn') (some (.Name y py)) pa.line X.env = pure false := by rfl) :
    DS C (.Try body [.ExceptHandler (some (.Name x np)) (some n) [.Assign [.Name y py] (.Name n pn') pa] pos'] [] [] pos)
      (fun D σ H => tbS C t (wAsK X.K (.ref kc) iE (fun _ _ _ => tAsg (tVar iE) (gName iC)) C.WH D) D σ H) (sTry cat iC iE t) := by
  refine ⟨ps_try_keep hs hf C.nd hiE hln ⟨hg, hdb, .inl hm⟩ C.tk hex (fun W pn xe tk hp => ⟨fun pins s σ H D I h => ?_⟩) (fun a oe cls d pn _ _ => ?_), fun w σ ρ D DD hA I q k => ?_⟩
  · obtain ⟨w, ρ, DD, Wd', rfl, hA, J, ht, ends, hW⟩ := h
    let C' : DC (X.tr pn xe) := { P := C.P, A := fun w' => C.A w' ∧ Stp w w', cl := fun w1 w2 h s => ⟨C.cl w1 w2 h.1 s, h.2.trans s⟩, nw := fun w' p h e => C.nw w' p h.1 e, gd := C.gd, calm := C.calm, nd := C.nd, un := C.un, W := Wd', WH := W, tk := tk, hW := fun e ρ' σ' w' cls d h I' re z => hW e ρ' σ' w' cls d h.1 h.2 I' re z }
    obtain ⟨ts, hd⟩ := hbody pn xe C' hp
    exact hd.pss.run pins s σ w.H D I (hd.run w σ ρ D DD ⟨hA, Stp.refl w⟩ J ht ⟨ends.nx, ends.rt, ends.bk, ends.ct⟩)
  · exact pss_one (ps_set (X := X.suite a ((a, oe) :: pn)) (i := iC) C.nd hiC (.inl hlc) (pe_var (X := X.suite a ((a, oe) :: pn)) hiE (.inl hvE) hd hcd) hsw (.inr hlc))
  · refine ⟨w, ρ, DD, _, rfl, hA, I, q, k, fun e ρ' σ' w' cls d hA' s' I' re h => ?_⟩
    obtain ⟨hc, hfs, l1, l2, hnx⟩ := h
    obtain ⟨rfl, hre⟩ := re
    have hd0 : d = none := by
      rcases hre with ⟨_, z⟩ | ⟨dd, fvs, z, _⟩
      · exact z
      · exact absurd hfs z
    subst hd0
    refine ⟨true, hcat _ hc, fun _ a na => ?_, fun z => nomatch z⟩
    have l1' : iC < σ'.length := by rw [I'.len]; exact l1
    have l2' : iE < σ'.length := by rw [I'.len]; exact l2
    refine ⟨.ref a, List.getElem?_set_self l2', ?_⟩
    obtain ⟨I1, s1⟩ := FI.air I' (o := ExK (.ref e.C) none a) na
    obtain ⟨I2, s2⟩ := I1.drop iE
    have fresh := I'.fresh na
    have I3 := FI.setRes I2 (i := iC) (a := a) (r := excR e) (fp := [a]) (fun b hb j hj => by
        obtain rfl : b = a := by simpa using hb
        have hj : b ∈ (if j = iE then ([] : List Addr) else w'.F j) := hj
        by_cases z : j = iE
        · rw [if_pos z] at hj; cases hj
        · rw [if_neg z] at hj; exact fresh.2 j b hj rfl)
      (fun b hb => by
        obtain rfl : b = a := by simpa using hb
        exact ⟨fresh.1, by show upd w'.H b _ b ≠ none; rw [upd_same]; exact fun z => nomatch z⟩)
      ⟨rfl, hfs, upd_same⟩ (fun b hb => by
        obtain rfl : b = a := by simpa using hb
        exact C.nw w' b hA' na) (by rw [List.length_set]; exact l1)
    have I4 := FI.other (σ' := (((σ'.set iE (some (.ref a))).set iC (some (.ref a))).set iE none)) (vs := [iE]) I3 (fun j hj st e => by
        obtain rfl : j = iE := by simpa using hj
        rw [List.getElem?_set_ne hce, List.getElem?_set_self l2] at e
        cases e; rfl) (by simp) (fun j hj => by
        have hj : j ≠ iE := by simpa using hj
        rw [List.getElem?_set_ne (Ne.symm hj)]
        by_cases z : iC = j
        · subst z
          rw [List.getElem?_set_self (by rw [List.length_set]; exact l1'), List.getElem?_set_self l1']
        · rw [List.getElem?_set_ne z, List.getElem?_set_ne z, List.getElem?_set_ne (Ne.symm hj)])
    have st : Stp w ⟨w'.G, upd w'.H a (ExK (.ref e.C) none a), fun j => if j = iC then [a] else if j = iE then [] else w'.F j⟩ := by
      have s3 := (s'.trans s1).trans s2
      refine ⟨s3.g, s3.gf, s3.h, s3.t, fun j b hb => ?_⟩
      have hb : b ∈ (if j = iC then [a] else if j = iE then [] else w'.F j) := hb
      by_cases z : j = iC
      · rw [if_pos z] at hb
        obtain rfl : b = a := by simpa using hb
        cases q0 : w.H b with
        | none => exact .inr rfl
        | some o => exact absurd na (s'.t b (by rw [q0]; exact fun z => nomatch z))
      · rw [if_neg z] at hb
        exact s3.f j b hb
    exact k.nx _ _ _ st I4 hnx
end

/-! ### is None, of anything held -/
section
variable {X : Cx} {C : DC X} {y : Str} {py pos p2 p3 : Pos} {k0 : Nat}
def dIsNone (i : Nat) : TED := fun ρ Q => match ρ[i]? with
  | some (.val x) => Q (.d (.bool (isNoneD x))) ρ
  | some (.own _ _) => Q (.d (.bool false)) ρ
  | some (.res _ _) => Q (.d (.bool false)) ρ
  | _ => False
theorem isnone_run (i : Nat) : ∀ (w : Wd) (σ : L2.St) (ρ : DSt) (Q : VK) (QD : R → DSt → Prop), C.A w → FI X.K C.P w σ ρ → dIsNone i ρ QD →
    (∀ v r w' ρ', Stp w w' → FI X.K C.P w' σ ρ' → RepR X.K w' σ v r → QD r ρ' → Q v w'.H) → tOp (fun x y H Q => y = .non ∧ Q (.bl (decide (x = .non))) H) (tVar i) (tC .non) σ w.H Q := by
  intro w σ ρ Q QD hA I q k
  unfold dIsNone at q
  split at q
  · rename_i x e
    obtain ⟨_, u, e1, hr⟩ := I.ok i _ e
    refine ⟨u, e1, rfl, ?_⟩
    rw [top_non (rep_top I.gh hr)]
    exact k _ (.d (.bool _)) w ρ (Stp.refl w) I (.bl _) q
  · rename_i io ds e
    obtain ⟨a, vs, e1, _⟩ := I.ok i _ e
    exact ⟨_, e1, rfl, k _ (.d (.bool false)) w ρ (Stp.refl w) I (.bl _) q⟩
  · rename_i io r e
    obtain ⟨a, e1, _⟩ := I.ok i _ e
    exact ⟨_, e1, rfl, k _ (.d (.bool false)) w ρ (Stp.refl w) I (.bl _) q⟩
  · exact q.elim
theorem de_isNone (i : Nat) (hN : X.N[i]? = some y := by rfl) (hv : Vis X.env.scope y := by first | exact Or.inl rfl | exact Or.inr (Or.inl rfl) | exact Or.inr (Or.inr rfl)) (hd : (y == ("__debug__" : Str)) = false := by decide) (hcd : (y == ("__classdict__" : Str)) = false := by decide) :
    DE C (.Compare (.Name y py) [.Is] [.Constant .none k0 p2] pos) (tOp (fun x y H Q => y = .non ∧ Q (.bl (decide (x = .non))) H) (tVar i) (tC .non)) (dIsNone i) :=
  ⟨pe_cmpR op_isN (pe_var hN hv hd hcd) pe_non rfl, isnone_run i⟩
theorem dt_isNone (i : Nat) (hN : X.N[i]? = some y := by rfl) (hv : Vis X.env.scope y := by first | exact Or.inl rfl | exact Or.inr (Or.inl rfl) | exact Or.inr (Or.inr rfl)) (hd : (y == ("__debug__" : Str)) = false := by decide) (hcd : (y == ("__classdict__" : Str)) = false := by decide) :
    DT C (.Compare (.Name y py) [.Is] [.Constant .none k0 p2] pos) (tTest (tOp (fun x y H Q => y = .non ∧ Q (.bl (decide (x = .non))) H) (tVar i) (tC .non))) (dTest (dIsNone i)) :=
  ⟨pt_cmpR op_isN (pe_var hN hv hd hcd) pe_non rfl, test_run (de_isNone (y := y) (py := py) (p2 := p2) (k0 := k0) (pos := pos) i hN hv hd hcd)⟩
end
/-! ### isinstance of a kept exception -/
def rIsX (K : PySem.W.Frag) : List V → Hp → VK → Prop := fun xs H Q => ∃ (a D : Addr) (c : V) (cv : Value) (b : Bool), xs = [.ref a, c] ∧ H a = some (ExK (.ref D) none a) ∧ L2.ExcC K D ∧ (∀ u, RelV c u → u = cv) ∧ PySem.W.kitOne K (.ref D) cv = some b ∧ Q (.bl b) H
theorem call_isX {X : Cx} : CallR X (.builtin "isinstance") (rIsX X.K) := by
  intro pins s σ H xs us Q I r h
  obtain ⟨a, D, c, cv, b, rfl, ha, C, hcv, e, q⟩ := h
  cases r with
  | cons rx rr =>
    cases rr with
    | cons rt rr =>
      cases rr
      cases rx
      have ec := hcv _ rt
      subst ec
      obtain ⟨⟨oe, vs, hget, hz, hv⟩, _⟩ := I.hok a _ ha
      have J : PySem.W.InstAt s.heap a oe D none := by
        obtain ⟨oc, od, oda, osl⟩ := oe
        obtain ⟨h1, h2⟩ := hz
        dsimp only at h1 h2 hv
        subst h1 h2 hv
        exact ⟨hget, rfl, rfl, trivial⟩
      exact PySem.W.kia_one (PySem.W.handS_kitx_exc C.hg C.hk C.hs C.hd C.ha C.hn C.ht C.hm) I.kIn J e (fun z => nomatch z) fun tk => ⟨.bl b, H, I.kept (t' := tk) fun _ _ z => z, rfl, q⟩
section
variable {X : Cx} {C : DC X} {y : Str} {py pos p : Pos} {e2 : Expr} {cV : V} {cv : Value}
def dIsX (i : Nat) (R0 : Addr → Bool → Prop) : TED := fun ρ Q => ∃ io e b, ρ[i]? = some (.res io (excR e)) ∧ R0 e.C b ∧ Q (.d (.bool b)) ρ
theorem de_isX (i : Nat) {R0 : Addr → Bool → Prop} (hR : ∀ D b, R0 D b → L2.ExcC X.K D ∧ PySem.W.kitOne X.K (.ref D) cv = some b) (hm : X.mg "isinstance" = none) (h2 : PE X e2 (tC cV)) (hrel : ∀ u, RelV cV u → u = cv)
    (hg : Gl X "isinstance" := by rfl) (hN : X.N[i]? = some y := by rfl) (hv : Vis X.env.scope y := by first | exact Or.inl rfl | exact Or.inr (Or.inl rfl) | exact Or.inr (Or.inr rfl)) (hd : (y == ("__debug__" : Str)) = false := by decide) (hcd : (y == ("__classdict__" : Str)) = false := by decide)
    (he : starEach [.Name y py, e2] X.env = (false, eval (.Name y py) X.env) :: starEach [e2] X.env := by rfl) (he2 : starEach [e2] X.env = (false, eval e2 X.env) :: starEach [] X.env := by rfl) (hpl : (backTo pos (starEach [e2] X.env)).any (·.1) = false := by rfl) :
    DE C (.Call (.Name "isinstance" p) [.Name y py, e2] [] pos) (tCB (rIsX X.K) (tCons (tVar i) (tCons (tC cV) tNil))) (dIsX i R0) := by
  refine ⟨pe_callB call_isX hg hm (by decide +kernel) (pa_cons (pe_var hN hv hd hcd) (pa_cons h2 pa_nil he2) he) (by decide) (by decide) he hpl, fun w σ ρ Q QD hA I q k => ?_⟩
  obtain ⟨io, e, b, e0, hr, q⟩ := q
  obtain ⟨a, e1, ⟨_, hfs, hH⟩, _⟩ := I.ok i _ e0
  obtain ⟨hC, hk⟩ := hR _ _ hr
  exact ⟨_, e1, a, e.C, cV, cv, b, rfl, hH, hC, hrel, hk, k _ (.d (.bool b)) w ρ (Stp.refl w) I (.bl _) q⟩
end
/-! ### list.count, list.index -/
def rCountD (K : PySem.W.Frag) : V → List V → Hp → VK → Prop := fun x xs H Q => ∃ (a : Addr) (y : V) (d : PyData) (ds : List PyData), x = V.ref a ∧ xs = [y] ∧ Dp K H (V.ref a) (.list ds) ∧ Dp K H y d ∧ PyData.plainAll ds = true ∧ d.plain = true ∧ PyData.depthAll ds ≤ 60 ∧
  Q (.int ((ds.countP fun z => PyData.eqv z d : Nat) : Int)) H
theorem mt_countD {X : Cx} (hu : X.A.units + 65 < cLine) : MtR X "list.count" (rCountD X.K) := by
  intro pins s σ H x xs v us Q I rx rxs h
  obtain ⟨a, y, d, ds, rfl, rfl, hl, hy, pl, pd, dp, q⟩ := h
  cases rx
  cases rxs with
  | cons ry rt =>
    cases rt
    obtain ⟨bs, r1⟩ := Dp.reads I d y _ hy ry
    cases hl with
    | lst hs ha =>
      obtain ⟨its, rv, hl, hlen⟩ := I.list hs
      obtain ⟨as, h4⟩ := Dp.readsAll I ds _ its ha rv
      exact SeqAt.count_list_data hl.isList (show ReadsAll s.heap its.toArray.toList ds as from h4) r1 pl pd (by have := Nat.min_le_left (PyData.depthAll ds) d.depth; omega) ⟨.int _, H, I.tok _, ⟨_, rfl⟩, q⟩
def fCount (x y : PyData) (k : PyData → Prop) : Prop := match x with
  | .list ds => PyData.plainAll ds = true ∧ y.plain = true ∧ PyData.depthAll ds ≤ 60 ∧ PyData.hasDictAll ds = false ∧ y.hasDict = false ∧ k (.int ((ds.countP fun z => PyData.eqv z y : Nat) : Int))
  | _ => False
def fIndex (x y : PyData) (k : PyData → Prop) : Prop := match x with
  | .list ds => SeqAt.shaped (.list ds) = true ∧ SeqAt.shaped y = true ∧ ∃ j z, ds[j]? = some z ∧ PyData.eqv z y = true ∧ (∀ (m : Nat) (z' : PyData), m < j → ds[m]? = some z' → PyData.eqv z' y = false) ∧ k (.int (j : Nat))
  | _ => False
section
variable {X : Cx} {C : DC X} {o e : Expr} {to te : TE} {d1 d2 : TED} {apos cpos : Pos}
def isL : PyData → Prop
  | .list _ => True
  | _ => False
def dM1 (f : PyData → PyData → (PyData → Prop) → Prop) (d1 d2 : TED) : TED := fun ρ Q => d1 ρ fun r1 ρ1 => vw ρ1 r1 fun x => isL x ∧ d2 ρ1 fun r2 ρ2 => vw ρ2 r1 fun x => vw ρ2 r2 fun y => f x y fun z => Q (.d z) ρ2
theorem list_m1 {r : V → List V → Hp → VK → Prop} {f : PyData → PyData → (PyData → Prop) → Prop} (ho : DE C o to d1) (he : DE C e te d2)
    (hr : ∀ (w : Wd) (u v : V) (x y : PyData) (Q : VK) (kd : PyData → Prop), Same w.G w.H → Top X.K w u x → Top X.K w v y → f x y kd → (∀ z d, Rep X.K w.G z d → kd d → Q z w.H) → r u [v] w.H Q) :
    ∀ (w : Wd) (σ : L2.St) (ρ : DSt) (Q : VK) (QD : R → DSt → Prop), C.A w → FI X.K C.P w σ ρ → dM1 f d1 d2 ρ QD →
    (∀ v r w' ρ', Stp w w' → FI X.K C.P w' σ ρ' → RepR X.K w' σ v r → QD r ρ' → Q v w'.H) → tBM X.K "list" r to (tCons te tNil) σ w.H Q := by
  intro w σ ρ Q QD hA I q k
  refine ho.run w σ ρ _ _ hA I q fun u r1 w1 ρ1 s1 I1 R1 q1 => ?_
  obtain ⟨x, tx, hL, q1⟩ := vw_top I1 R1 q1
  cases x with
  | list ds =>
    obtain ⟨a, vs, rfl, hh, hr'⟩ := tx
    refine ⟨.inl ⟨rfl, vs, SqL.of hh⟩, ?_⟩
    refine he.run w1 σ ρ1 _ _ (C.cl _ _ hA s1) I1 q1 fun v r2 w2 ρ2 s2 I2 R2 q2 => ?_
    obtain ⟨x, tx, q3⟩ := vw_top I2 (R1.step s2) q2
    obtain ⟨y, ty, q4⟩ := vw_top I2 R2 q3
    exact hr w2 _ v x y Q _ I2.gh tx ty q4 fun z d R3 q5 => k z (.d d) w2 ρ2 (s1.trans s2) I2 R3 q5
  | _ => exact hL.elim
theorem de_count (ho : DE C o to d1) (he : DE C e te d2) (hbase : attributeBase o "count" X.env (eval o X.env) = eval o X.env := by rfl)
    (hfew : ((backTo cpos (starEach [e] X.env)).all (fun x => !x.1) && (backToKw cpos (keywordEach [] X.env)).all (fun x => x.1.isSome)
      && decide ([e].length + ([] : List Keyword).length + (if ([] : List Keyword).isEmpty then 0 else 1) < 30)) = true := by rfl)
    (hline : (apos.endLine == cpos.line) = true := by rfl) (hse : starEach [e] X.env = (false, eval e X.env) :: starEach [] X.env := by rfl) (hplain : (backTo cpos (starEach [] X.env)).any (·.1) = false := by rfl) :
    DE C (.Call (.Attribute o "count" apos) [e] [] cpos) (tBM X.K "list" (rCountD X.K) to (tCons te tNil)) (dM1 fCount d1 d2) := by
  refine ⟨pe_bm PySem.F.plainAttrs_list PySem.F.slot_list_count PySem.F.type_list_count (mt_countD (by have := C.un; omega)) ho.pe (pa_cons he.pe pa_nil hse) hbase hfew hline hse hplain, list_m1 ho he fun w u v x y Q kd gh tx ty h k => ?_⟩
  unfold fCount at h
  split at h
  · rename_i ds
    obtain ⟨h1, h2, h3, h4, h5, h6⟩ := h
    obtain ⟨a, vs, rfl, hh, hr'⟩ := tx
    exact ⟨a, v, y, ds, rfl, rfl, (Rep.lst hh (reps_mono gh _ _ hr')).dp (.list ds) _ (by simpa [PyData.hasDict] using h4), (ty.rep gh).dp _ _ h5, h1, h2, h3, k _ _ (.int _) h6⟩
  · exact h.elim
theorem de_index (ho : DE C o to d1) (he : DE C e te d2) (hbase : attributeBase o "index" X.env (eval o X.env) = eval o X.env := by rfl)
    (hfew : ((backTo cpos (starEach [e] X.env)).all (fun x => !x.1) && (backToKw cpos (keywordEach [] X.env)).all (fun x => x.1.isSome)
      && decide ([e].length + ([] : List Keyword).length + (if ([] : List Keyword).isEmpty then 0 else 1) < 30)) = true := by rfl)
    (hline : (apos.endLine == cpos.line) = true := by rfl) (hse : starEach [e] X.env = (false, eval e X.env) :: starEach [] X.env := by rfl) (hplain : (backTo cpos (starEach [] X.env)).any (·.1) = false := by rfl) :
    DE C (.Call (.Attribute o "index" apos) [e] [] cpos) (tBM X.K "list" (rIndexD X.K) to (tCons te tNil)) (dM1 fIndex d1 d2) := by
  refine ⟨pe_bm PySem.F.plainAttrs_list PySem.F.slot_list_index PySem.F.type_list_index (mt_indexD (by have := C.un; omega)) ho.pe (pa_cons he.pe pa_nil hse) hbase hfew hline hse hplain, list_m1 ho he fun w u v x y Q kd gh tx ty h k => ?_⟩
  unfold fIndex at h
  split at h
  · rename_i ds
    obtain ⟨h1, h2, j, z, h3, h4, h5, h6⟩ := h
    obtain ⟨a, vs, rfl, hh, hr'⟩ := tx
    exact ⟨a, v, y, ds, j, z, rfl, rfl, (Rep.lst hh (reps_mono gh _ _ hr')).dp (.list ds) _ (PyData.hasDict_of_canLay _ (SeqAt.canLay_of_shaped h1)), (ty.rep gh).dp _ _ (PyData.hasDict_of_canLay _ (SeqAt.canLay_of_shaped h2)), h1, h2, h3, h4, h5, k _ _ (.int _) h6⟩
  · exact h.elim
end
/-! ### isinstance of data -/
def isIntD : PyData → Bool
  | .int _ => true | .bool _ => true | _ => false
def isBoolD : PyData → Bool
  | .bool _ => true | _ => false
def isTupD : PyData → Bool
  | .tuple _ => true | _ => false
end DL

end
section
set_option maxHeartbeats 4000000
/-! DLK: isinstance of data. -/
namespace DL
open PySem PySem.Spec L2
def tyN : PyData → String
  | .none => "NoneType" | .bool _ => "bool" | .int _ => "int" | .str _ => "str" | .list _ => "list" | .tuple _ => "tuple" | .dict _ => "dict"
theorem rep_ty {K : PySem.W.Frag} {G H : Hp} (gh : Same G H) {v : V} : ∀ {d : PyData}, Rep K G v d → TyX K H v (.type (tyN d)) := by
  intro d h
  cases h with
  | non => exact .base .non
  | bl b => exact .base (.bl b)
  | int i => exact .base (.int i)
  | str x => exact .base (.str x)
  | lst hs _ => exact .base (.lst (gh _ _ hs))
  | tup hs _ =>
    rcases hs with (h | ⟨o, h⟩) | ⟨o, its, n, h1, h2, _⟩
    · exact .base (.tup (gh _ _ h))
    · exact .fTuple (gh _ _ h)
    · exact .kTuple h1 h2
  | dic hs _ => exact .base (.dK (gh _ _ hs))
section
variable {X : Cx} {C : DC X} {e : Expr} {te : TE} {de : TED} {p q pos : Pos} {T : String} {isT : PyData → Bool}
def dIsD (isT : PyData → Bool) (de : TED) : TED := fun ρ Q => de ρ fun r ρ1 => vw ρ1 r fun x => Q (.d (.bool (isT x))) ρ1
theorem de_isD (hT : ∀ d, PySem.W.kitOne X.K (.type (tyN d)) (.type T) = some (isT d)) (hm : X.mg "isinstance" = none) {x : Str} (hx : X.mg x = none) (hb : bootBuiltins x = some (.type T)) (he : DE C e te de) (hgx : Gl X x := by rfl) (hg : Gl X "isinstance" := by rfl)
    (hn : x ≠ "__name__" := by decide) (hdx : (x == ("__debug__" : Str)) = false := by decide)
    (hs : starEach [e, .Name x q] X.env = (false, eval e X.env) :: starEach [.Name x q] X.env := by rfl) (hs2 : starEach [.Name x q] X.env = (false, eval (.Name x q) X.env) :: starEach [] X.env := by rfl) (hpl : (backTo pos (starEach [.Name x q] X.env)).any (·.1) = false := by rfl) :
    DE C (.Call (.Name "isinstance" p) [e, .Name x q] [] pos) (tCB (rIsi X.K) (tCons te (tCons (tC (.ty T)) tNil))) (dIsD isT de) := by
  refine ⟨pe_callB call_isi hg hm (by decide +kernel) (pa_cons he.pe (pa_cons (pe_bltn hgx hx hb rfl hn hdx) pa_nil hs2) hs) (by decide) (by decide) hs hpl, fun w σ ρ Q QD hA I q k => ?_⟩
  refine he.run w σ ρ _ _ hA I q fun v r1 w1 ρ1 s1 I1 R1 q1 => ?_
  obtain ⟨d, td, q2⟩ := vw_top I1 R1 q1
  exact ⟨v, .ty T, .type (tyN d), .type T, isT d, rfl, .ty T, rep_ty (fun _ _ h => h) (td.rep I1.gh), hT d, k _ (.d (.bool _)) w1 ρ1 s1 I1 (.bl _) q2⟩
theorem kit_int {K : PySem.W.Frag} (d : PyData) : PySem.W.kitOne K (.type (tyN d)) (.type "int") = some (isIntD d) := by cases d <;> rfl
theorem kit_bool {K : PySem.W.Frag} (d : PyData) : PySem.W.kitOne K (.type (tyN d)) (.type "bool") = some (isBoolD d) := by cases d <;> rfl
theorem kit_tuple {K : PySem.W.Frag} (d : PyData) : PySem.W.kitOne K (.type (tyN d)) (.type "tuple") = some (isTupD d) := by cases d <;> rfl
end

/-! ### facts of exception classes, by names -/
def excB (K : PySem.W.Frag) (x : Str) : Bool := decide (PySem.W.findIn K (.ref (He.ga K x)) "__getattribute__" = some (some (.builtin "BaseException.__getattribute__"))) && (decide (PySem.W.findIn K (.ref (He.ga K x)) "__getattr__" = some none) &&
  (decide (PySem.W.subIn K (.ref (He.ga K x)) (.type "BaseException") = some true) && (PySem.W.hasDictIn K (He.ga K x) && (decide (PySem.W.findIn K (.ref (He.ga K x)) "__class__" = some (some (.builtin "object.__class__"))) &&
  (decide (PySem.W.specialIn K (.builtin "object.__class__") "__get__" = some (some (.builtin "getset_descriptor.__get__"))) && (decide (PySem.W.takesIn K (.builtin "object.__class__") = some true) && decide (PySem.W.mroIn K (He.ga K x) (.type "object") = some true)))))))
theorem excB_ok {K : PySem.W.Frag} {x : Str} (h : excB K x = true) : L2.ExcC K (He.ga K x) := by
  unfold excB at h
  simp only [Bool.and_eq_true, decide_eq_true_eq] at h
  obtain ⟨h1, h2, h3, h4, h5, h6, h7, h8⟩ := h
  exact ⟨h1, h2, h3, h4, h5, h6, h7, h8⟩
def kitB (K : PySem.W.Frag) (x y : Str) (b : Bool) : Bool := decide (PySem.W.kitOne K (.ref (He.ga K x)) (.ref (He.ga K y)) = some b)
theorem kitB_ok {K : PySem.W.Frag} {x y : Str} {b : Bool} (h : kitB K x y b = true) : PySem.W.kitOne K (.ref (He.ga K x)) (.ref (He.ga K y)) = some b := of_decide_eq_true h
def kitT (K : PySem.W.Frag) (x : Str) (T : String) (b : Bool) : Bool := decide (PySem.W.kitOne K (.ref (He.ga K x)) (.type T) = some b)
theorem kitT_ok {K : PySem.W.Frag} {x : Str} {T : String} {b : Bool} (h : kitT K x T b = true) : PySem.W.kitOne K (.ref (He.ga K x)) (.type T) = some b := of_decide_eq_true h
def exmB (K : PySem.W.Frag) (x y : Str) : Bool := decide (PySem.W.exmOne K (.ref (He.ga K x)) (.ref (He.ga K y)) = some true)
theorem exmB_ok {K : PySem.W.Frag} {x y : Str} (h : exmB K x y = true) : PySem.W.exmOne K (.ref (He.ga K x)) (.ref (He.ga K y)) = some true := of_decide_eq_true h

/-! ### texts compared, whatever their letters -/
def dEqS (x y : PyData) (k : PyData → Prop) : Prop := match x, y with
  | .str a, .str b => k (.bool (decide (a = b)))
  | _, _ => False
theorem od_eqS {X : Cx} {C : DC X} : OpR X (compareOp .Eq) rEq ∧ OpD X C rEq dEqS := by
  refine ⟨op_eq, fun w σ ρ u v x y Q kd hA I tx ty h k => ?_⟩
  unfold dEqS at h
  split at h
  · cases tx
    cases ty
    rename_i a b
    refine ⟨rfl, ?_⟩
    have e : decide (V.str a = V.str b) = decide (a = b) := by
      by_cases q : a = b
      · subst q; simp
      · have : ¬ (V.str a = V.str b) := fun z => q (V.str.inj z)
        simp [q, this]
    rw [e]
    exact k _ _ w (Stp.refl w) I (.bl _) h
  · exact h.elim
end DL

end
section
set_option maxHeartbeats 4000000
/-! DLL: repr of ints up to 4,300 digits: the interpreter's own table sets no limit. -/
namespace DL
open PySem PySem.Spec L2 PyProof.Rows
/-- the interpreter's own table, in what stays, names no limit of digits -/
def noDigB (K : PySem.W.Frag) : Bool := match K.lookup cStatics with
  | some ⟨_, _, .dict es _, _⟩ => es.all (fun e => match e.key with | .str _ _ => true | _ => false) && (nsFind es "sys.int_max_str_digits").isNone
  | _ => false
theorem noDigB_ok {K : PySem.W.Frag} (h : noDigB K = true) {hp : Heap} (X : K.In hp) : hp.NoDigits := by
  unfold noDigB at h
  split at h
  · rename_i oc od es ep sl q
    obtain ⟨h1, h2⟩ := He.ba h
    refine ⟨fun n => nsFind es n, ⟨_, es, ep, X _ _ q, rfl, fun e he => ?_, fun _ => rfl⟩, Option.isNone_iff_eq_none.mp h2⟩
    have hx := Array.all_eq_true_iff_forall_mem.mp h1 e he
    cases hk : e.key <;> rw [hk] at hx <;> first | exact ⟨_, _, rfl⟩ | cases hx
  · cases h
mutual
/-- data whose text may be long -/
def wide : PyData → Bool
  | .int i => decide (i.natAbs.log2 < 12900)
  | .list xs => wides xs
  | .tuple xs => wides xs
  | .dict _ => false
  | _ => true
def wides : List PyData → Bool
  | [] => true
  | d :: ds => wide d && wides ds
end
mutual
theorem wide_nd : ∀ d : PyData, wide d = true → d.hasDict = false
  | .none, _ => rfl
  | .bool _, _ => rfl
  | .int _, _ => rfl
  | .str _, _ => rfl
  | .list xs, h => by simpa [PyData.hasDict] using wides_nd xs (by simpa [wide] using h)
  | .tuple xs, h => by simpa [PyData.hasDict] using wides_nd xs (by simpa [wide] using h)
  | .dict _, h => by simp [wide] at h
theorem wides_nd : ∀ ds : List PyData, wides ds = true → PyData.hasDictAll ds = false
  | [], _ => rfl
  | d :: ds, h => by
    have h2 : wide d = true ∧ wides ds = true := by simpa [wides] using h
    simp [PyData.hasDictAll, wide_nd d h2.1, wides_nd ds h2.2]
end
section
variable {prog : Program} {w : World} {A : Around} {E : Value → Shared → Prop} {s : Shared} {a : Int} {t : Tok} {g : Heap}
theorem call_int_reprW {Q : Value → Shared → Prop} (hn : s.heap.NoDigits) (hi : a.natAbs.log2 < 12900) (h : Q (.str (toString a) s.toks) { s with toks := s.toks + 1 }) :
    wpAny (model prog w) A (call (.builtin "int.__repr__") [.int a t]) Q E s := by
  have hlt : a.natAbs < 10 ^ 4300 := Nat.lt_of_lt_of_le (lt_of_log2 hi) pow_lo
  refine wpAny_call_entry F.slot_int_repr (typeIs_int s a t) F.entry_int_repr ?_ (F.args_int_repr_1 _)
  unfold Builtin.«int.__repr__»
  show wpAny _ _ (do let r ← Builtin.overDigitLimit? a; _) _ _ s
  refine wpAny_bind (overDigitLimit_any hn (fun _ => ?_) (fun hge => absurd hlt (Nat.not_lt.mpr hge)))
  clear hi
  exact wpAny_bind (wpAny_mkStr (wpAny_pure ⟨_, rfl, h⟩) (int_text_fits10 hlt))
theorem objUnits {d : Nat} {A : Around} (h : A.units + d < cLine) : A.units < cLine := by omega
theorem reprK_intW {d : Nat} (hn : g.NoDigits) (hi : a.natAbs.log2 < 12900) : ReprK prog w [] g d (.int a t) (toString a) := fun base hb A _ E s Q _ _ hu hk hQ => by
  rw [pyReprUnder_leaf (v := .int a t) (show base ≤ sizeLine by omega) (fun _ e => nomatch e)]
  unfold pyRepr
  refine wpAny_bind (wpAny_pyReprObj_slot (objUnits hu) (typeIs_int s a t) F.slot_int_repr.toG (call_int_reprW (hn.keeps hk) hi ⟨_, _, rfl, ?_⟩))
  exact wpAny_pure (hQ s.heap _ fun _ _ e => e)
mutual
theorem reprK_wide (hn : g.NoDigits) : ∀ (d : PyData) (v : Value) (as : List Addr), Reads g v d as → wide d = true → d.shown.length ≤ sizeLine → ∃ bs, ReadAtMost g d.depth bs ∧ ReprK prog w bs g d.depth v d.shown
  | .none, _, _, r, _, hz => ReprK.of_reads r rfl (fun z => by cases z) hz
  | .bool _, _, _, r, _, hz => ReprK.of_reads r rfl (fun z => by cases z) hz
  | .str _, _, _, r, _, hz => ReprK.of_reads r rfl (fun z => by cases z) hz
  | .int i, _, _, r, hw, _ => by
    cases r with
    | int _ t =>
      refine ⟨[], (fun _ h => nomatch h), ?_⟩
      simp only [PyData.shown]
      exact reprK_intW hn (by simpa [wide] using hw)
  | .dict _, _, _, _, hw, _ => by simp [wide] at hw
  | .list xs, _, _, r0, hw, hz => by
    have hz2 : (listText (PyData.shownAll xs)).length ≤ sizeLine := by simpa only [PyData.shown] using hz
    cases r0 with
    | list h1 h2 h3 h4 =>
      rename_i a o vs n as
      obtain ⟨bs, hb, hk⟩ := reprAllK_wide hn xs _ _ h4 (by simpa [wide] using hw) fun t ht => Nat.le_trans (listText_mem_le ht) hz2
      have r : Reads g (.ref a) (.list xs) _ := .list h1 h2 h3 h4
      have hna : a ∉ bs := not_mem_of_deeper r (by simp only [PyData.depth]; omega) hb
      refine ⟨a :: bs, ReadAtMost.cons r (by simp only [PyData.depth]; omega) hb, ?_⟩
      simp only [PyData.depth, PyData.shown]
      obtain ⟨l⟩ := vs
      cases l with
      | nil =>
        have h4' : ReadsAll g [] xs _ := h4
        cases h4'
        simp only [PyData.shownAll, listText_nil]
        exact ReprK.listEmpty h1 h2 h3
      | cons x l => exact ReprK.list h1 h2 h3 hna (by simpa using hk.length_eq) (fun i y e => hk.item i y (by simpa using e))
  | .tuple xs, _, _, r0, hw, hz => by
    have hz2 : (tupleText (PyData.shownAll xs)).length ≤ sizeLine := by simpa only [PyData.shown] using hz
    cases r0 with
    | tuple h1 h2 h3 h4 =>
      rename_i a o vs n
      obtain ⟨bs, hb, hk⟩ := reprAllK_wide hn xs _ _ h4 (by simpa [wide] using hw) fun t ht => Nat.le_trans (tupleText_mem_le ht) hz2
      have r : Reads g (.ref a) (.tuple xs) _ := .tuple h1 h2 h3 h4
      have hna : a ∉ bs := not_mem_of_deeper r (by simp only [PyData.depth]; omega) hb
      refine ⟨a :: bs, ReadAtMost.cons r (by simp only [PyData.depth]; omega) hb, ?_⟩
      simp only [PyData.depth, PyData.shown]
      exact ReprK.tuple h1 h2 h3 hna hk
theorem reprAllK_wide (hn : g.NoDigits) : ∀ (ds : List PyData) (vs : List Value) (as : List Addr), ReadsAll g vs ds as → wides ds = true → (∀ t ∈ PyData.shownAll ds, t.length ≤ sizeLine) →
    ∃ bs, ReadAtMost g (PyData.depthAll ds) bs ∧ ReprAllK prog w bs g (PyData.depthAll ds) vs (PyData.shownAll ds)
  | [], _, _, r, _, _ => by
    cases r
    exact ⟨[], (fun _ h => nomatch h), by simp only [PyData.shownAll]; exact .nil⟩
  | d :: ds, _, _, r0, hw, hz => by
    have hw2 : wide d = true ∧ wides ds = true := by simpa [wides] using hw
    cases r0 with
    | cons r rs =>
      obtain ⟨b1, hb1, k1⟩ := reprK_wide hn d _ _ r hw2.1 (hz _ (by simp only [PyData.shownAll]; exact List.mem_cons_self ..))
      obtain ⟨b2, hb2, k2⟩ := reprAllK_wide hn ds _ _ rs hw2.2 (fun t ht => hz t (by simp only [PyData.shownAll]; exact List.mem_cons_of_mem _ ht))
      refine ⟨b1 ++ b2, ?_, ?_⟩
      · simp only [PyData.depthAll]
        exact (hb1.mono (Nat.le_max_left _ _)).append (hb2.mono (Nat.le_max_right _ _))
      · simp only [PyData.depthAll, PyData.shownAll]
        exact .cons ((k1.more fun b hb => List.mem_append_left _ hb).level_le (Nat.le_max_left _ _)) (k2.more_le (fun b hb => List.mem_append_right _ hb) (Nat.le_max_right _ _))
end
variable {Q : Value → Shared → Prop} {b : Addr} {d : PyData} {as : List Addr}
theorem reprD_wide (hn : s.heap.NoDigits) (r : Reads s.heap (.ref b) d as) (hw : wide d = true) (gd : A.guards = some []) (un : A.units + (d.depth + 1) < cLine)
    (hQ : ∀ h' u tk, (∀ b o, s.heap.get? b = some o → h'.get? b = some o) → Q (.str d.shown u) { s with heap := h', toks := tk })
    (hsz : d.shown.length ≤ sizeLine) : wpAny (model prog w) A (call (.builtin "repr") [.ref b]) Q E s := by
  have r' := r
  cases r with
  | list h1 h2 h3 h4 =>
    rename_i o vs n xs bs0
    have hz2 : (listText (PyData.shownAll xs)).length ≤ sizeLine := by simpa only [PyData.shown] using hsz
    obtain ⟨bs, hb, hk⟩ := reprAllK_wide (prog := prog) (w := w) hn xs _ _ h4 (by simpa [wide] using hw) fun t ht => Nat.le_trans (listText_mem_le ht) hz2
    have hna : b ∉ bs := not_mem_of_deeper r' (by simp only [PyData.depth]; omega) hb
    simp only [PyData.depth] at un
    simp only [PyData.shown] at hQ
    refine call_repr_slot (by omega) ⟨o, h1, h2⟩ F.slot_list_repr.toG ?_
    obtain ⟨l⟩ := vs
    cases l with
    | nil =>
      have h4' : ReadsAll s.heap [] xs _ := h4
      cases h4'
      simp only [PyData.shownAll, listText_nil] at hQ
      exact call_list_repr_empty ⟨o, h1, h2⟩ h1 h3 ⟨_, _, rfl, hQ s.heap _ _ fun _ _ e => e⟩
    | cons x l =>
      exact call_list_reprK h1 h2 h3 hna (by simpa using hk.length_eq) (fun i y e => hk.item i y (by simpa using e)) gd (fun b _ => Clear.nil b) (by show A.units + 1 + _ < cLine; omega) (fun _ _ e => e) (fun h' u tk hk => ⟨_, _, rfl, hQ h' u tk hk⟩) hz2
  | tuple h1 h2 h3 h4 =>
    rename_i o vs n xs
    have hz2 : (tupleText (PyData.shownAll xs)).length ≤ sizeLine := by simpa only [PyData.shown] using hsz
    obtain ⟨bs, hb, hk⟩ := reprAllK_wide (prog := prog) (w := w) hn xs _ _ h4 (by simpa [wide] using hw) fun t ht => Nat.le_trans (tupleText_mem_le ht) hz2
    have hna : b ∉ bs := not_mem_of_deeper r' (by simp only [PyData.depth]; omega) hb
    simp only [PyData.depth] at un
    simp only [PyData.shown] at hQ
    refine call_repr_slot (by omega) ⟨o, h1, h2⟩ F.slot_tuple_repr ?_
    exact call_tuple_reprK h1 h2 h3 hna hk gd (fun b _ => Clear.nil b) (by show A.units + 1 + _ < cLine; omega) (fun _ _ e => e) (fun h' u tk hk => ⟨_, _, rfl, hQ h' u tk hk⟩) hz2
  | dict _ _ _ _ _ => simp [wide] at hw
theorem reprI_wide (hn : s.heap.NoDigits) (hi : a.natAbs.log2 < 12900) (un : A.units + 1 < cLine) (h : Q (.str (toString a) s.toks) { s with toks := s.toks + 1 }) : wpAny (model prog w) A (call (.builtin "repr") [.int a t]) Q E s :=
  call_repr_slot un (typeIs_int s a t) F.slot_int_repr.toG (call_int_reprW hn hi ⟨_, _, rfl, h⟩)
end
section
variable {X : Cx} {C : DC X}
/-- repr: the text of a datum, of ints up to 4,300 digits too -/
def fReprW (x : PyData) (k : PyData → Prop) : Prop := wide x = true ∧ x.depth ≤ 60 ∧ x.shown.length ≤ sizeLine ∧ k (.str x.shown)
def rReprW (K : PySem.W.Frag) : List V → Hp → VK → Prop := fun xs H Q => ∃ v d, xs = [v] ∧ Dp K H v d ∧ wide d = true ∧ d.depth ≤ 60 ∧ d.shown.length ≤ sizeLine ∧ Q (.str d.shown) H
theorem call_reprW (nd : noDigB X.K = true) (gd : X.A.guards = some []) (un : X.A.units + 100 < cLine) : CallR X (.builtin "repr") (rReprW X.K) := by
  intro pins s σ H xs us Q I rx h
  obtain ⟨v, d, rfl, hd, hs, hdep, hsz, q⟩ := h
  obtain ⟨u, rfl, ru⟩ := vals1 rx
  obtain ⟨as, rd⟩ := Dp.reads I d v u hd ru
  have nn : s.heap.NoDigits := noDigB_ok nd I.kIn
  have fin2 : ∀ h' t tk, (∀ b o, s.heap.get? b = some o → h'.get? b = some o) → EP X pins σ Q (.str d.shown t) { s with heap := h', toks := tk } := fun h' t tk hk => ⟨.str d.shown, H, I.kept (t' := tk) hk, ⟨t, rfl⟩, q⟩
  cases rd with
  | none => exact PySem.P.repr_of_none (by simpa only [PyData.shown] using fin2 s.heap _ _ fun _ _ z => z)
  | bool b => exact PySem.P.repr_of_bool (by simpa only [PyData.shown] using fin2 s.heap _ _ fun _ _ z => z)
  | int i t => exact reprI_wide nn (by simpa [wide] using hs) (by omega) (by simpa only [PyData.shown] using fin2 s.heap _ _ fun _ _ z => z)
  | str z t => exact PySem.P.repr_of_str (by simpa only [PyData.shown] using fin2 s.heap _ _ fun _ _ z => z) (by simpa only [PyData.shown] using hsz)
  | list h1 h2 h3 h4 => exact reprD_wide nn (Reads.list h1 h2 h3 h4) hs gd (by omega) fin2 hsz
  | tuple h1 h2 h3 h4 => exact reprD_wide nn (Reads.tuple h1 h2 h3 h4) hs gd (by omega) fin2 hsz
  | dict _ _ _ _ _ => simp [wide] at hs
theorem cd_reprW (nd : noDigB X.K = true) : CallR X (.builtin "repr") (rReprW X.K) ∧ CallD1 X C (rReprW X.K) fReprW := by
  refine ⟨call_reprW nd C.gd C.un, fun w σ ρ u x Q kd hA I tx h k => ?_⟩
  obtain ⟨h1, h3, h4, h5⟩ := h
  exact ⟨u, x, rfl, (tx.rep I.gh).dp _ _ (wide_nd x h1), h1, h3, h4, k _ (.str _) w (Stp.refl w) I (.str _) h5⟩
end
end DL
/-! a head whose look takes the interpreter's own table too -/
namespace DL
open PySem PySem.Spec PyProof.Rows L2 He
def obsY (n : Nat) (fa : List Fa) (fn : List DefD) (ex : PySem.W.Frag → Bool) (g : Addr → Option Obj) : AlX := (obsT fa fn [] (frT g (asD g n ++ [cStatics])), ex (frT g (asD g n ++ [cStatics])))
def hookY (n : Nat) (fa : List Fa) (fn : List DefD) (ex : PySem.W.Frag → Bool) : PySem.W.Hook where
  α := AlX
  obs := fun s => obsY n fa fn ex s.heap.get?
  val := fun w => valX fn [] w
  says := fun w h => ∃ K : PySem.W.Frag, K.In h ∧ SaysX fa fn [] [] ex w h K
  of := fun _ _ e => ⟨_, frT_in, ⟨congrArg (fun z : AlX => z.1) e, congrArg (fun z : AlX => z.2) e, (fun _ hp => nomatch hp), (fun _ hp => nomatch hp), (fun _ hp => nomatch hp)⟩⟩
  keeps := fun _ _ _ ⟨K, hK, c⟩ k => ⟨K, PySem.W.Frag.In.keeps hK k, ⟨c.t, c.more, c.hd, c.out, fun p hp => k _ _ (c.empty p hp)⟩⟩
theorem obsY_eq {n : Nat} {fa : List Fa} {fn : List DefD} {ex : PySem.W.Frag → Bool} {g : Addr → Option Obj} {s : Shared} (h : ∀ a, g a = s.heap.get? a) : obsY n fa fn ex g = (hookY n fa fn ex).obs s := by
  have e : g = s.heap.get? := funext h
  rw [e] <;> rfl
end DL

end
section
set_option maxHeartbeats 4000000
/-! DLV: a list taken many times. -/
namespace DL
open PySem PySem.Spec L2 PyProof.Rows
section
variable {X : Cx} {C : DC X}
theorem reps_repL {G : Hp} {vs : List V} {ds : List PyData} (h : Reps X.K G vs ds) : ∀ n : Nat, Reps X.K G (List.replicate n vs).flatten (List.replicate n ds).flatten
  | 0 => .nil
  | n + 1 => by
    rw [List.replicate_succ, List.replicate_succ, List.flatten_cons, List.flatten_cons]
    exact h.app (reps_repL h n)
def dMulL (x y : PyData) (k : PyData → Prop) : Prop := match x, y with
  | .list ds, .int n => 0 ≤ n ∧ n ≤ 10000 ∧ ds.length ≤ 100 ∧ k (.list (List.replicate n.toNat ds).flatten)
  | _, _ => False
theorem od_repL : OpR X (binaryOp .Mult) rRep ∧ OpD X C rRep dMulL := by
  refine ⟨op_rep, fun w σ ρ u v x y Q kd hA I tx ty h k => ?_⟩
  unfold dMulL at h
  split at h
  · obtain ⟨h2, h3, h4, h5⟩ := h
    cases ty
    obtain ⟨aa, vs, rfl, hs, hr⟩ := tx
    refine ⟨aa, _, vs, rfl, rfl, hs, by omega, by omega, ?_, fun p hp => ?_⟩
    · rw [hr.len, sizeLine_eq]
      rename_i nn
      have := Nat.mul_le_mul h4 (show nn.toNat ≤ 10000 by omega)
      omega
    · obtain ⟨I4, s4⟩ := I.new (o := .lst (List.replicate _ vs).flatten) hp
      exact k (.ref p) _ ⟨upd w.G p _, upd w.H p _, w.F⟩ s4 I4 (.lst upd_same (reps_mono s4.g _ _ (reps_repL hr _))) h5
  · exact h.elim
end
end DL

end
namespace KK
/-! ### the numbers of a field, in plain -/
structure Nu where
  p : Int
  q : Int
  d : Int
  s : Int
def sg (s : Int) : Int := if s < 0 then -1 else 1
def gc (p q s : Int) : Int := (((p.natAbs.gcd q.natAbs).gcd s.natAbs : Nat) : Int)
def low (p q d s : Int) : Nu := ⟨sg s * p / gc p q s, sg s * q / gc p q s, if q = 0 then 0 else d, sg s * s / gc p q s⟩
theorem sg_sq (s : Int) : sg s * sg s = 1 := by unfold sg; split <;> rfl
theorem gc_pos {p q s : Int} (h : s ≠ 0) : 0 < gc p q s := by
  unfold gc
  have : 0 < (p.natAbs.gcd q.natAbs).gcd s.natAbs := Nat.gcd_pos_of_pos_right _ (by omega)
  omega
theorem gc_dp {p q s : Int} : gc p q s ∣ p := Int.ofNat_dvd_left.mpr (Nat.dvd_trans (Nat.gcd_dvd_left _ _) (Nat.gcd_dvd_left _ _))
theorem gc_dq {p q s : Int} : gc p q s ∣ q := Int.ofNat_dvd_left.mpr (Nat.dvd_trans (Nat.gcd_dvd_left _ _) (Nat.gcd_dvd_right _ _))
theorem gc_ds {p q s : Int} : gc p q s ∣ s := Int.ofNat_dvd_left.mpr (Nat.gcd_dvd_right _ _)
theorem back {g σ x : Int} (h : g ∣ x) (e : σ * σ = 1) : x = σ * g * (σ * x / g) := by
  obtain ⟨y, rfl⟩ := h
  by_cases hg : g = 0
  · subst hg; simp
  · have : σ * (g * y) / g = σ * y := by rw [Int.mul_left_comm, Int.mul_ediv_cancel_left _ hg]
    rw [this]
    grind
theorem low_spec {p q s : Int} (d : Int) (h : s ≠ 0) : ∃ k, k ≠ 0 ∧ p = k * (low p q d s).p ∧ q = k * (low p q d s).q ∧ s = k * (low p q d s).s ∧ 0 < (low p q d s).s := by
  have g0 := gc_pos (p := p) (q := q) h
  have e := sg_sq s
  have hs := back (gc_ds (p := p) (q := q) (s := s)) e
  have hk : sg s * gc p q s ≠ 0 := fun z => h (by rw [hs, z]; simp)
  refine ⟨sg s * gc p q s, hk, back gc_dp e, back gc_dq e, hs, ?_⟩
  show 0 < sg s * s / gc p q s
  have pos : 0 < sg s * s := by unfold sg; split <;> omega
  exact Int.ediv_pos_of_pos_of_dvd pos (by omega) (Int.dvd_mul_of_dvd_right gc_ds)
theorem gc_scale (k p q s : Int) : gc (k * p) (k * q) (k * s) = (k.natAbs : Int) * gc p q s := by
  unfold gc
  rw [Int.natAbs_mul, Int.natAbs_mul, Int.natAbs_mul, Nat.gcd_mul_left, Nat.gcd_mul_left, Int.natCast_mul]
theorem sg_scale {k s : Int} (hk : k ≠ 0) (hs : s ≠ 0) (x : Int) : sg (k * s) * (k * x) = (k.natAbs : Int) * (sg s * x) := by
  have key : sg (k * s) * k = (k.natAbs : Int) * sg s := by
    unfold sg
    rcases Int.lt_or_gt_of_ne hk with h1 | h1 <;> rcases Int.lt_or_gt_of_ne hs with h2 | h2
    · have := Int.mul_pos_of_neg_of_neg h1 h2
      rw [if_neg (by omega), if_pos h2]; omega
    · have := Int.mul_neg_of_neg_of_pos h1 h2
      rw [if_pos (by omega), if_neg (by omega)]; omega
    · have := Int.mul_neg_of_pos_of_neg h1 h2
      rw [if_pos (by omega), if_pos h2]; omega
    · have := Int.mul_pos h1 h2
      rw [if_neg (by omega), if_neg (by omega)]; omega
  rw [← Int.mul_assoc, key, Int.mul_assoc]
theorem low_scale {k p q s : Int} (d : Int) (hk : k ≠ 0) (hs : s ≠ 0) : low (k * p) (k * q) d (k * s) = low p q d s := by
  unfold low
  have kp : (0 : Int) < (k.natAbs : Int) := by omega
  rw [gc_scale, sg_scale hk hs, sg_scale hk hs, sg_scale hk hs, Int.mul_ediv_mul_of_pos _ _ kp, Int.mul_ediv_mul_of_pos _ _ kp, Int.mul_ediv_mul_of_pos _ _ kp]
  have : (k * q = 0) ↔ (q = 0) := by rw [Int.mul_eq_zero]; simp [hk]
  simp only [this]
theorem low_d {p q d d' s : Int} (h : q ≠ 0 → d = d') : low p q d s = low p q d' s := by
  unfold low
  by_cases hq : q = 0
  · simp [hq]
  · simp [hq, h hq]
theorem low_eq {p q d s p' q' d' s' : Int} (hs : s ≠ 0) (hs' : s' ≠ 0) (e1 : p * s' = p' * s) (e2 : q * s' = q' * s) (e3 : q ≠ 0 → d = d') : low p q d s = low p' q' d' s' := by
  rw [← low_scale d hs' hs, ← low_scale d' hs hs', Int.mul_comm s' p, Int.mul_comm s' q, e1, e2, Int.mul_comm s p', Int.mul_comm s q', Int.mul_comm s' s]
  refine low_d fun h => e3 fun z => h ?_
  rw [← e2, z, Int.zero_mul]
theorem low_dd {p q d s : Int} (hs : s ≠ 0) : (low p q d s).d = if (low p q d s).q = 0 then 0 else d := by
  obtain ⟨k, hk, _, h2, _⟩ := low_spec (p := p) (q := q) d hs
  have : (q = 0) ↔ ((low p q d s).q = 0) := by
    constructor
    · intro h; rw [h] at h2; rcases Int.mul_eq_zero.mp h2.symm with z | z; exact absurd z hk; rw [h]; exact z
    · intro h; rw [h2, h, Int.mul_zero]
  show (if q = 0 then 0 else d) = _
  simp only [this]
/-! signs -/
def sgi (x : Int) : Int := if 0 < x then 1 else if x < 0 then -1 else 0
def sos (p q d : Int) : Int := if sgi p = (if 0 < d then sgi q else 0) ∨ (if 0 < d then sgi q else 0) = 0 then sgi p else if sgi p = 0 then (if 0 < d then sgi q else 0) else if 0 < p * p - q * q * d then sgi p else (if 0 < d then sgi q else 0)
theorem sgi_pos {x : Int} (h : 0 < x) : sgi x = 1 := by unfold sgi; rw [if_pos h]
theorem sgi_neg {x : Int} (h : x < 0) : sgi x = -1 := by unfold sgi; rw [if_neg (by omega), if_pos h]
theorem sgi_mul (x y : Int) : sgi (x * y) = sgi x * sgi y := by
  rcases Int.lt_trichotomy x 0 with h1 | h1 | h1 <;> rcases Int.lt_trichotomy y 0 with h2 | h2 | h2
  · rw [sgi_neg h1, sgi_neg h2, sgi_pos (Int.mul_pos_of_neg_of_neg h1 h2)]; rfl
  · subst h2; simp [sgi]
  · rw [sgi_neg h1, sgi_pos h2, sgi_neg (Int.mul_neg_of_neg_of_pos h1 h2)]; rfl
  · subst h1; simp [sgi]
  · subst h1; simp [sgi]
  · subst h1; simp [sgi]
  · rw [sgi_pos h1, sgi_neg h2, sgi_neg (Int.mul_neg_of_pos_of_neg h1 h2)]; rfl
  · subst h2; simp [sgi]
  · rw [sgi_pos h1, sgi_pos h2, sgi_pos (Int.mul_pos h1 h2)]; rfl
theorem sgi_z {x : Int} : sgi x = 0 ↔ x = 0 := by unfold sgi; split <;> (try split) <;> omega
theorem sos_P {p q d : Int} (hd : 0 < d) (h : 0 < p * p - q * q * d) : sos p q d = sgi p := by
  unfold sos
  simp only [if_pos hd, if_pos h]
  have hp : sgi p ≠ 0 := fun z => by
    rw [sgi_z] at z; subst z
    have h1 : 0 ≤ q * q := by rcases Int.le_total 0 q with a | a; exact Int.mul_nonneg a a; exact Int.mul_nonneg_of_nonpos_of_nonpos a a
    have := Int.mul_nonneg h1 (Int.le_of_lt hd)
    omega
  split
  · rfl
  · simp [hp]
theorem sos_N {p q d : Int} (hd : 0 < d) (h : p * p - q * q * d < 0) : sos p q d = sgi q := by
  unfold sos
  simp only [if_pos hd, if_neg (show ¬ 0 < p * p - q * q * d by omega)]
  have hq : sgi q ≠ 0 := fun z => by
    rw [sgi_z] at z; subst z
    have h1 : 0 ≤ p * p := by rcases Int.le_total 0 p with a | a; exact Int.mul_nonneg a a; exact Int.mul_nonneg_of_nonpos_of_nonpos a a
    omega
  split
  · rename_i h; rcases h with h | h; exact h; exact absurd h hq
  · split <;> rfl
theorem sos_00 {d : Int} : sos 0 0 d = 0 := by unfold sos sgi; simp
theorem sq_nn (q : Int) : 0 ≤ q * q := by rcases Int.le_total 0 q with a | a; exact Int.mul_nonneg a a; exact Int.mul_nonneg_of_nonpos_of_nonpos a a
/-- |x| > |y|: x + y has x's sign -/
theorem dom {x y : Int} (h : y * y < x * x) : sgi (x + y) = sgi x := by
  have hx : x ≠ 0 := fun z => by subst z; have := sq_nn y; omega
  rcases Int.lt_or_gt_of_ne hx with a | a
  · have : x + y < 0 := by
      rcases Int.lt_or_le (x + y) 0 with b | b
      · exact b
      · have h1 : y - x > 0 := by omega
        have := Int.mul_nonneg b (Int.le_of_lt h1)
        have e : (x + y) * (y - x) = y * y - x * x := by grind
        omega
    rw [sgi_neg this, sgi_neg a]
  · have : 0 < x + y := by
      rcases Int.lt_or_le 0 (x + y) with b | b
      · exact b
      · have h1 : x - y > 0 := by omega
        have := Int.mul_nonneg (show 0 ≤ -(x + y) by omega) (Int.le_of_lt h1)
        have e : -(x + y) * (x - y) = y * y - x * x := by grind
        omega
    rw [sgi_pos this, sgi_pos a]
/-- d is no square: no p / q squared -/
def Irr (d : Int) : Prop := ∀ p q : Int, p * p = q * q * d → p = 0 ∧ q = 0
theorem sos_scale {k p q d : Int} (hd : 0 < d) (hk : 0 < k) (ir : Irr d) : sos (k * p) (k * q) d = sos p q d := by
  have kk := Int.mul_pos hk hk
  have e : (k * p) * (k * p) - (k * q) * (k * q) * d = (k * k) * (p * p - q * q * d) := by grind
  rcases Int.lt_trichotomy (p * p - q * q * d) 0 with h | h | h
  · have h2 := Int.mul_neg_of_pos_of_neg kk h
    rw [sos_N hd h, sos_N hd (by omega), sgi_mul, sgi_pos hk, Int.one_mul]
  · obtain ⟨rfl, rfl⟩ := ir p q (by omega)
    simp
  · have h2 := Int.mul_pos kk h
    rw [sos_P hd h, sos_P hd (by omega), sgi_mul, sgi_pos hk, Int.one_mul]
theorem sos_mul {p q p' q' d : Int} (hd : 0 < d) (ir : Irr d) : sos p q d * sos p' q' d = sos (p * p' + q * q' * d) (p * q' + q * p') d := by
  have e : (p * p' + q * q' * d) * (p * p' + q * q' * d) - (p * q' + q * p') * (p * q' + q * p') * d = (p * p - q * q * d) * (p' * p' - q' * q' * d) := by grind
  rcases Int.lt_trichotomy (p * p - q * q * d) 0 with h | h | h
  · rcases Int.lt_trichotomy (p' * p' - q' * q' * d) 0 with h' | h' | h'
    · have h2 := Int.mul_pos_of_neg_of_neg h h'
      rw [sos_N hd h, sos_N hd h', sos_P hd (by omega), ← sgi_mul]
      have hdq : sgi (q * q' * d) = sgi (q * q') := by rw [sgi_mul, sgi_pos hd, Int.mul_one]
      rw [← hdq, Int.add_comm]
      refine (dom ?_).symm
      have a1 := Int.mul_lt_mul_of_pos_left (show p' * p' < q' * q' * d by omega) (show 0 < q * q * d by have := sq_nn p; omega)
      have a2 := Int.mul_le_mul_of_nonneg_right (show p * p ≤ q * q * d by omega) (sq_nn p')
      have e1 : p * p' * (p * p') = p * p * (p' * p') := by grind
      have e2 : q * q' * d * (q * q' * d) = q * q * d * (q' * q' * d) := by grind
      omega
    · obtain ⟨rfl, rfl⟩ := ir p' q' (by omega)
      simp [sos_00]
    · have h2 := Int.mul_neg_of_neg_of_pos h h'
      rw [sos_N hd h, sos_P hd h', sos_N hd (by omega), ← sgi_mul, Int.add_comm]
      refine (dom ?_).symm
      have a1 := Int.mul_lt_mul_of_pos_left (show q' * q' * d < p' * p' by omega) (show 0 < q * q * d by have := sq_nn p; omega)
      have a2 := Int.mul_le_mul_of_nonneg_right (show p * p ≤ q * q * d by omega) (Int.mul_nonneg (sq_nn q') (Int.le_of_lt hd))
      have e1 : p * q' * (p * q') * d = p * p * (q' * q' * d) := by grind
      have e2 : q * p' * (q * p') * d = q * q * d * (p' * p') := by grind
      have : p * q' * (p * q') * d < q * p' * (q * p') * d := by omega
      exact Int.lt_of_mul_lt_mul_right this (Int.le_of_lt hd)
  · obtain ⟨rfl, rfl⟩ := ir p q (by omega)
    simp [sos_00]
  · rcases Int.lt_trichotomy (p' * p' - q' * q' * d) 0 with h' | h' | h'
    · have h2 := Int.mul_neg_of_pos_of_neg h h'
      rw [sos_P hd h, sos_N hd h', sos_N hd (by omega), ← sgi_mul]
      refine (dom ?_).symm
      have a1 := Int.mul_lt_mul_of_pos_left (show p' * p' < q' * q' * d by omega) (show 0 < p * p by have := Int.mul_nonneg (sq_nn q) (Int.le_of_lt hd); omega)
      have a2 := Int.mul_le_mul_of_nonneg_right (show q * q * d ≤ p * p by omega) (sq_nn p')
      have e1 : p * q' * (p * q') * d = p * p * (q' * q' * d) := by grind
      have e2 : q * p' * (q * p') * d = q * q * d * (p' * p') := by grind
      have : q * p' * (q * p') * d < p * q' * (p * q') * d := by omega
      exact Int.lt_of_mul_lt_mul_right this (Int.le_of_lt hd)
    · obtain ⟨rfl, rfl⟩ := ir p' q' (by omega)
      simp [sos_00]
    · have h2 := Int.mul_pos h h'
      rw [sos_P hd h, sos_P hd h', sos_P hd (by omega), ← sgi_mul]
      refine (dom ?_).symm
      have a1 := Int.mul_lt_mul_of_pos_left (show q' * q' * d < p' * p' by omega) (show 0 < p * p by have := Int.mul_nonneg (sq_nn q) (Int.le_of_lt hd); omega)
      have a2 := Int.mul_le_mul_of_nonneg_right (show q * q * d ≤ p * p by omega) (Int.mul_nonneg (sq_nn q') (Int.le_of_lt hd))
      have e1 : p * p' * (p * p') = p * p * (p' * p') := by grind
      have e2 : q * q' * d * (q * q' * d) = q * q * d * (q' * q' * d) := by grind
      omega
/-! no square -/
theorem irr_of {d π e : Int} (hd : d = π * e) (hπ : 1 < π) (h1 : ∀ n : Int, π ∣ n * n → π ∣ n) (h2 : ∀ n : Int, π ∣ n * n * e → π ∣ n) : Irr d := by
  have main : ∀ (m : Nat) (p q : Int), q.natAbs ≤ m → p * p = q * q * d → q = 0 := by
    intro m
    induction m with
    | zero => intro p q h _; omega
    | succ m ih =>
      intro p q h e0
      subst hd
      obtain ⟨p', rfl⟩ := h1 p ⟨q * q * e, by rw [e0]; grind⟩
      have e1 : π * (π * (p' * p')) = π * (q * q * e) := by grind
      have e2 := Int.eq_of_mul_eq_mul_left (by omega) e1
      obtain ⟨q', rfl⟩ := h2 q ⟨p' * p', e2.symm⟩
      have e3 : π * (π * (q' * q' * e)) = π * (p' * p') := by rw [e2]; grind
      have e4 := Int.eq_of_mul_eq_mul_left (by omega) e3
      by_cases z : q' = 0
      · rw [z, Int.mul_zero]
      · have hlt : q'.natAbs < (π * q').natAbs := by
          rw [Int.natAbs_mul]
          have : 1 < π.natAbs := by omega
          have := Nat.mul_lt_mul_of_pos_right this (show 0 < q'.natAbs by omega)
          omega
        have := ih p' q' (by omega) (by rw [← e4]; grind)
        exact absurd this z
  intro p q e0
  have hq := main q.natAbs p q (Nat.le_refl _) e0
  subst hq
  have : p * p = 0 := by rw [e0]; simp
  rcases Int.mul_eq_zero.mp this with z | z <;> exact ⟨z, rfl⟩
theorem mod_mul (π n k : Int) : (n * n * k) % π = ((n % π) * (n % π) * k) % π := by rw [Int.mul_emod (n * n), Int.mul_emod n n, ← Int.mul_emod, Int.mul_emod (n % π * (n % π))]
theorem m2 (n : Int) : n % 2 = 0 ∨ n % 2 = 1 := by omega
theorem irr2 : Irr 2 := by
  have key : ∀ n : Int, (2 : Int) ∣ n * n → (2 : Int) ∣ n := fun n h => by
    rw [Int.dvd_iff_emod_eq_zero] at h ⊢
    rcases m2 n with z | z
    · exact z
    · rw [Int.mul_emod, z] at h
      exact absurd h (by decide)
  exact irr_of (π := 2) (e := 1) rfl (by decide) key fun n h => key n (by rwa [Int.mul_one] at h)
theorem m3 (n : Int) : n % 3 = 0 ∨ n % 3 = 1 ∨ n % 3 = 2 := by omega
theorem irr3 : Irr 3 := irr_of (π := 3) (e := 1) rfl (by decide) (fun n h => by rw [Int.dvd_iff_emod_eq_zero] at *; rcases m3 n with z | z | z; exact z; all_goals (rw [Int.mul_emod, z] at h; cases h)) (fun n h => by rw [Int.mul_one] at h; rw [Int.dvd_iff_emod_eq_zero] at *; rcases m3 n with z | z | z; exact z; all_goals (rw [Int.mul_emod, z] at h; cases h))
theorem irr6 : Irr 6 := irr_of (π := 3) (e := 2) rfl (by decide) (fun n h => by rw [Int.dvd_iff_emod_eq_zero] at *; rcases m3 n with z | z | z; exact z; all_goals (rw [Int.mul_emod, z] at h; cases h)) (fun n h => by rw [Int.dvd_iff_emod_eq_zero] at *; rw [mod_mul] at h; rcases m3 n with z | z | z; exact z; all_goals (rw [z] at h; cases h))
theorem m5 (n : Int) : n % 5 = 0 ∨ n % 5 = 1 ∨ n % 5 = 2 ∨ n % 5 = 3 ∨ n % 5 = 4 := by omega
theorem irr5 : Irr 5 := irr_of (π := 5) (e := 1) rfl (by decide) (fun n h => by rw [Int.dvd_iff_emod_eq_zero] at *; rcases m5 n with z | z | z | z | z; exact z; all_goals (rw [Int.mul_emod, z] at h; cases h)) (fun n h => by rw [Int.mul_one] at h; rw [Int.dvd_iff_emod_eq_zero] at *; rcases m5 n with z | z | z | z | z; exact z; all_goals (rw [Int.mul_emod, z] at h; cases h))
end KK

set_option maxHeartbeats 1000000
namespace KK
/-! ### the order of p + q root d: sums, products -/
theorem sos_rg (p q d : Int) : sos p q d = -1 ∨ sos p q d = 0 ∨ sos p q d = 1 := by
  unfold sos sgi
  split <;> (try split) <;> (try split) <;> (try split) <;> (try split) <;> (try split) <;> omega
theorem sos_q00 (p d : Int) : sos p 0 d = sgi p := by
  unfold sos
  have : (if 0 < d then sgi 0 else 0) = 0 := by split <;> rfl
  rw [this]; simp
theorem sgi_ng (x : Int) : sgi (-x) = -sgi x := by unfold sgi; split <;> split <;> (try split) <;> omega
theorem sgi_p {x : Int} : sgi x = 1 ↔ 0 < x := by unfold sgi; split <;> (try split) <;> omega
theorem sgi_n {x : Int} : sgi x = -1 ↔ x < 0 := by unfold sgi; split <;> (try split) <;> omega
theorem sgi_0 {x : Int} : 0 ≤ sgi x ↔ 0 ≤ x := by unfold sgi; split <;> (try split) <;> omega
theorem sos_ng (p q d : Int) : sos (-p) (-q) d = -sos p q d := by
  have e : -p * -p - -q * -q * d = p * p - q * q * d := by grind
  unfold sos
  rw [sgi_ng, sgi_ng, e]
  generalize sgi p = a
  generalize p * p - q * q * d = N
  by_cases hd : 0 < d
  · simp only [if_pos hd]
    generalize sgi q = b
    split <;> split <;> (try split) <;> (try split) <;> (try split) <;> (try split) <;> omega
  · simp only [if_neg hd]; simp
section
variable {d : Int} (hd : 0 < d) (ir : Irr d)
include hd ir
theorem sos_z {p q : Int} (h : sos p q d = 0) : p = 0 ∧ q = 0 := by
  rcases Int.lt_trichotomy (p * p - q * q * d) 0 with c | c | c
  · rw [sos_N hd c, sgi_z] at h
    subst h
    have := sq_nn p
    simp at c
    omega
  · exact ir p q (by omega)
  · rw [sos_P hd c, sgi_z] at h
    subst h
    have := Int.mul_nonneg (sq_nn q) (Int.le_of_lt hd)
    simp at c
    omega
/-- an integer more -/
theorem sos_int {p q t : Int} (h : 0 ≤ sos p q d) (ht : 0 < t) : sos (p + t) q d = 1 := by
  rcases Int.lt_trichotomy (p * p - q * q * d) 0 with c | c | c
  · rw [sos_N hd c, sgi_0] at h
    have q0 : 0 < q := by
      rcases Int.lt_or_le 0 q with z | z
      · exact z
      · have : q = 0 := by omega
        subst this
        have := sq_nn p
        simp at c
        omega
    rcases Int.lt_trichotomy ((p + t) * (p + t) - q * q * d) 0 with c2 | c2 | c2
    · rw [sos_N hd c2]; exact sgi_p.mpr q0
    · obtain ⟨_, z⟩ := ir (p + t) q (by omega); omega
    · rw [sos_P hd c2]
      refine sgi_p.mpr ?_
      rcases Int.lt_or_le 0 (p + t) with z | z
      · exact z
      · have := Int.mul_le_mul (show -(p + t) ≤ -p by omega) (show -(p + t) ≤ -p by omega) (by omega) (by omega)
        have e1 : -(p + t) * -(p + t) = (p + t) * (p + t) := by grind
        have e2 : -p * -p = p * p := by grind
        omega
  · obtain ⟨z1, z2⟩ := ir p q (by omega)
    subst z1 z2
    rw [sos_q00]
    exact sgi_p.mpr (by omega)
  · rw [sos_P hd c, sgi_0] at h
    have := Int.mul_le_mul (show p ≤ p + t by omega) (show p ≤ p + t by omega) h (by omega)
    rw [sos_P hd (by omega)]
    exact sgi_p.mpr (by
      rcases Int.lt_or_le 0 p with z | z
      · omega
      · omega)
theorem sos_sq {p q : Int} (h : p ≠ 0 ∨ q ≠ 0) : p * p - q * q * d ≠ 0 := fun z => by
  obtain ⟨a, b⟩ := ir p q (by omega)
  rcases h with h | h
  · exact h a
  · exact h b
theorem sos_addP {p q p' q' : Int} (h : 0 ≤ sos p q d) (h' : sos p' q' d = 1) : sos (p + p') (q + q') d = 1 := by
  have nz : p' ≠ 0 ∨ q' ≠ 0 := by
    rcases Classical.em (p' = 0) with a | a
    · rcases Classical.em (q' = 0) with b | b
      · subst a b; rw [sos_00] at h'; cases h'
      · exact .inr b
    · exact .inl a
  have n0 := sos_sq hd ir nz
  -- B * conj B = N
  have cj : sos p' q' d * sos p' (-q') d = sgi (p' * p' - q' * q' * d) := by
    rw [sos_mul hd ir]
    have e1 : p' * p' + q' * -q' * d = p' * p' - q' * q' * d := by grind
    have e2 : p' * -q' + q' * p' = 0 := by grind
    rw [e1, e2, sos_q00]
  rw [h', Int.one_mul] at cj
  have ac : sos p q d * sos p' (-q') d = sos (p * p' + q * -q' * d) (p * -q' + q * p') d := sos_mul hd ir
  have tot : sos (p + p') (q + q') d * sos p' (-q') d = sos (p * p' + q * -q' * d + (p' * p' - q' * q' * d)) (p * -q' + q * p') d := by
    rw [sos_mul hd ir]
    congr 1 <;> grind
  rcases Int.lt_or_gt_of_ne n0 with c | c
  · rw [sgi_n.mpr c] at cj
    rw [cj] at ac tot
    have k : 0 ≤ sos (-(p * p' + q * -q' * d)) (-(p * -q' + q * p')) d := by rw [sos_ng, ← ac]; omega
    have k2 := sos_int hd ir k (t := -(p' * p' - q' * q' * d)) (by omega)
    have e : -(p * p' + q * -q' * d) + -(p' * p' - q' * q' * d) = -(p * p' + q * -q' * d + (p' * p' - q' * q' * d)) := by grind
    rw [e, sos_ng] at k2
    omega
  · rw [sgi_p.mpr c] at cj
    rw [cj] at ac tot
    have k : 0 ≤ sos (p * p' + q * -q' * d) (p * -q' + q * p') d := by rw [← ac]; omega
    have k2 := sos_int hd ir k c
    omega
theorem sos_add {p q p' q' : Int} (h : 0 ≤ sos p q d) (h' : 0 ≤ sos p' q' d) : 0 ≤ sos (p + p') (q + q') d := by
  rcases sos_rg p' q' d with c | c | c
  · omega
  · obtain ⟨rfl, rfl⟩ := sos_z hd ir c
    simpa using h
  · rw [sos_addP hd ir h c]; decide
theorem sos_mulN {p q p' q' : Int} (h : 0 ≤ sos p q d) (h' : 0 ≤ sos p' q' d) : 0 ≤ sos (p * p' + q * q' * d) (p * q' + q * p') d := by
  rw [← sos_mul hd ir]; exact Int.mul_nonneg h h'
theorem sos_intN {p q t : Int} (h : 0 ≤ sos p q d) (ht : 0 ≤ t) : 0 ≤ sos (p + t) q d := by
  rcases Int.lt_or_le 0 t with c | c
  · rw [sos_int hd ir h c]; decide
  · have : t = 0 := by omega
    subst this; simpa using h
/-- of the square root: g is near q root d -/
theorem sos_le {r q : Int} (hr : 0 ≤ r) (hq : 0 ≤ q) (h : r * r ≤ q * q * d) : 0 ≤ sos (-r) q d := by
  rcases Int.lt_trichotomy ((-r) * (-r) - q * q * d) 0 with c | c | c
  · rw [sos_N hd c]; exact sgi_0.mpr hq
  · obtain ⟨z1, z2⟩ := ir (-r) q (by omega)
    rw [z1, z2, sos_00]; decide
  · have e : (-r) * (-r) = r * r := by grind
    omega
theorem sos_ge {r q : Int} (hr : 0 ≤ r) (h : q * q * d ≤ r * r) : 0 ≤ sos r (-q) d := by
  rcases Int.lt_trichotomy (r * r - -q * -q * d) 0 with c | c | c
  · have e : -q * -q * d = q * q * d := by grind
    omega
  · obtain ⟨z1, z2⟩ := ir r (-q) (by omega)
    rw [z1, z2, sos_00]; decide
  · rw [sos_P hd c]; exact sgi_0.mpr hr
end
end KK

set_option maxHeartbeats 1000000
namespace KK
open PySem PySem.Spec PyProof.Rows L2 DL
/-! ### plain: small tools -/
theorem shp_int (i : Int) : SeqAt.shaped (.int i) = true := rfl
theorem eqv_int (i j : Int) : PyData.eqv (.int i) (.int j) = decide (i = j) := rfl
def DEnd (α : List SD) (QD : Ret → List SD → Prop) : DEnds := { nx := fun ρ => outK α ρ fun α' => QD (.d .none) α', rt := fun r ρ => outK α ρ fun α' => QD r α' }
def Bd (n : Nat) (i : Int) : Prop := i.natAbs < 2 ^ n
theorem Bd.mono {n m : Nat} {i : Int} (h : Bd n i) (e : n ≤ m) : Bd m i := Nat.lt_of_lt_of_le h (Nat.pow_le_pow_right (by decide) e)
theorem Bd.mul {n m : Nat} {i j : Int} (h : Bd n i) (k : Bd m j) : Bd (n + m) (i * j) := by
  unfold Bd at *
  rw [Int.natAbs_mul, Nat.pow_add]
  rcases Nat.eq_zero_or_pos i.natAbs with z | z
  · rw [z, Nat.zero_mul]; exact Nat.mul_pos (Nat.pow_pos (by decide)) (Nat.pow_pos (by decide))
  · exact Nat.mul_lt_mul_of_le_of_lt (Nat.le_of_lt h) k (Nat.pow_pos (by decide)) |> fun x => x
theorem Bd.add {n m k : Nat} {i j : Int} (h : Bd n i) (l : Bd m j) (e : max n m + 1 ≤ k) : Bd k (i + j) := by
  refine Bd.mono (n := max n m + 1) ?_ e
  have h1 : Bd (max n m) i := h.mono (Nat.le_max_left _ _)
  have h2 : Bd (max n m) j := l.mono (Nat.le_max_right _ _)
  unfold Bd at *
  rw [Nat.pow_succ]
  have := Int.natAbs_add_le i j
  omega
theorem Bd.neg {n : Nat} {i : Int} (h : Bd n i) : Bd n (-i) := by unfold Bd; rw [Int.natAbs_neg]; exact h
theorem Bd.sub {n m k : Nat} {i j : Int} (h : Bd n i) (l : Bd m j) (e : max n m + 1 ≤ k) : Bd k (i - j) := by rw [Int.sub_eq_add_neg]; exact h.add l.neg e
theorem Bd.div {n : Nat} {i : Int} (h : Bd n i) (j : Int) (hj : 0 < j) : Bd n (i / j) := by
  unfold Bd at *
  refine Nat.lt_of_le_of_lt ?_ h
  exact Int.natAbs_ediv_le_natAbs _ _
theorem Bd.cm {n m : Nat} {i j : Int} (h : Bd n i) (k : Bd m j) (e : n + m ≤ 999990) : CMulW i j := wide_mul (a := n + 1) (b := m + 1) (h.mono (by omega)) (k.mono (by omega)) (by omega) (by omega) (by omega)
theorem Bd.log {n : Nat} {i : Int} (h : Bd n i) (e : n ≤ 8999) : i.natAbs.log2 < 9000 := by
  unfold Bd at h
  by_cases z : i.natAbs = 0
  · rw [z]; decide
  · exact Nat.lt_of_lt_of_le ((Nat.log2_lt z).mpr h) (by omega)
theorem fd_pos {a b : Int} (h : 0 < b) : a.fdiv b = a / b := Int.fdiv_eq_ediv_of_nonneg _ (Int.le_of_lt h)
theorem fm_pos {a b : Int} (h : 0 < b) : a.fmod b = a % b := Int.fmod_eq_emod_of_nonneg _ (Int.le_of_lt h)
theorem sgi_bi (p : Int) : DL.bi (decide (0 < p)) - DL.bi (decide (p < 0)) = sgi p := by
  unfold DL.bi sgi
  by_cases h : 0 < p
  · have : ¬ p < 0 := by omega
    simp [sSeq, sIf, sNext, sSet, sAug, sRet, sPar, sPar3, asThree, sRaise, sAsg, sOwn, sApp, sPut, sRetN, sRetOwn, sRetU, sDrop, sBreak, sCont, dVar, dC, dOp, dTest, dCons, dNil, dTup, nLst, dNew, dNeg, dIf, dF1, dAnd, dOr, dNot, dAndV, dOrV, dNotV, dCall, nCall, dCallL, nCallL, withLent, withLentN, vw, frz, dI, dI0, dB0, int2, dEq, dNe, dAdd, dSub, dIAdd, atD, gName', gTup', gNil', gCons', gLst', lenIs, retD, retN, lendK, backK, isLent, ownK, fAbs, fLen, fMax, fMin, startD, outK, shp_int, eqv_int, h, this]
  · by_cases h' : p < 0
    · simp [sSeq, sIf, sNext, sSet, sAug, sRet, sPar, sPar3, asThree, sRaise, sAsg, sOwn, sApp, sPut, sRetN, sRetOwn, sRetU, sDrop, sBreak, sCont, dVar, dC, dOp, dTest, dCons, dNil, dTup, nLst, dNew, dNeg, dIf, dF1, dAnd, dOr, dNot, dAndV, dOrV, dNotV, dCall, nCall, dCallL, nCallL, withLent, withLentN, vw, frz, dI, dI0, dB0, int2, dEq, dNe, dAdd, dSub, dIAdd, atD, gName', gTup', gNil', gCons', gLst', lenIs, retD, retN, lendK, backK, isLent, ownK, fAbs, fLen, fMax, fMin, startD, outK, shp_int, eqv_int, h, h']
    · simp [sSeq, sIf, sNext, sSet, sAug, sRet, sPar, sPar3, asThree, sRaise, sAsg, sOwn, sApp, sPut, sRetN, sRetOwn, sRetU, sDrop, sBreak, sCont, dVar, dC, dOp, dTest, dCons, dNil, dTup, nLst, dNew, dNeg, dIf, dF1, dAnd, dOr, dNot, dAndV, dOrV, dNotV, dCall, nCall, dCallL, nCallL, withLent, withLentN, vw, frz, dI, dI0, dB0, int2, dEq, dNe, dAdd, dSub, dIAdd, atD, gName', gTup', gNil', gCons', gLst', lenIs, retD, retN, lendK, backK, isLent, ownK, fAbs, fLen, fMax, fMin, startD, outK, shp_int, eqv_int, h, h']
end KK

set_option maxHeartbeats 1000000
namespace KK
open PySem PySem.Spec PyProof.Rows L2 DL
/-! ### what the defs do -/
abbrev iv (i : Int) : SD := .val (.int i)
def Nu.D (x : Nu) : PyData := .tuple [.int x.p, .int x.q, .int x.d, .int x.s]
def Nb (n : Nat) (x : Nu) : Prop := Bd n x.p ∧ Bd n x.q ∧ Bd n x.d ∧ Bd n x.s
def nmax (a b : Int) : Int := if b > a then b else a
/-- the roots agree -/
def rts (x y : Nu) : Prop := x.d ≠ 0 → y.d ≠ 0 → x.d = y.d
def nplus (x y : Nu) : Nu := low (x.p * y.s + y.p * x.s) (x.q * y.s + y.q * x.s) (nmax x.d y.d) (x.s * y.s)
def nopp (x : Nu) : Nu := ⟨-x.p, -x.q, x.d, x.s⟩
def nminus (x y : Nu) : Nu := nplus x (nopp y)
def ntimes (x y : Nu) : Nu := low (x.p * y.p + x.q * y.q * nmax x.d y.d) (x.p * y.q + x.q * y.p) (nmax x.d y.d) (x.s * y.s)
def ninv (y : Nu) : Nu := low (y.p * y.s) (-y.q * y.s) y.d (y.p * y.p - y.q * y.q * y.d)
def nover (x y : Nu) : Nu := ntimes x (ninv y)
def isqr (a n : Int) : Prop := 0 ≤ n ∧ n * n ≤ a ∧ a < (n + 1) * (n + 1)
def Fl (x : Nu) (n : Int) : Prop := ∃ r, isqr (x.q * x.q * x.d) r ∧ n = if 0 ≤ x.q then (x.p + r) / x.s else (x.p - r - 1) / x.s
def sqfree (r : Int) : Prop := ∀ m : Int, 1 < m → ¬ (m * m ∣ r)
def p_common_divisor : DSp := fun α QD _ => ∃ a b : Int, α = [iv a, iv b] ∧ QD (.d (.int (Int.gcd a b))) α
def p_without_squares : DSp := fun α QD _ => ∃ a : Int, α = [iv a] ∧ 0 < a ∧ Bd 4000 a ∧ ∀ f r, 0 < f → 0 < r → f * f * r = a → sqfree r → QD (.d (.tuple [.int f, .int r])) α
def p_root_of : DSp := fun α QD _ => ∃ x y : Nu, α = [.val x.D, .val y.D] ∧ rts x y ∧ QD (.d (.int (nmax x.d y.d))) α
/-! the draws -/
structure Spl where
  ns : List Int
  pl : Int
  ce : Int
  si : Int
def Spl.L (s : Spl) : List PyData := [.list (s.ns.map PyData.int), .int s.pl, .int s.ce, .int s.si]
abbrev Spl.S (s : Spl) : SD := .own true s.L
def Sok (n : Nat) (s : Spl) : Prop := 0 ≤ s.pl ∧ s.pl ≤ n ∧ s.ns.length ≤ 64
def p__law_stirred : DSp := fun α QD _ => ∃ c p : Int, α = [iv c, iv p] ∧ 0 ≤ p ∧ p < 2 ^ 60 ∧ 0 ≤ c ∧ c < 2 ^ 60 ∧ ∀ n, QD (.d (.int n)) α
def p__law_spool_of : DSp := fun α QD _ => ∃ ns : List Int, α = [.res true (scriptR ns)] ∧ ns.length ≤ 63 ∧ ∀ s, Sok 0 s → QD (.n s.L) α
def p__law_upto : DSp := fun α QD _ => ∃ (s : Spl) (m : Nat) (b : Int), α = [s.S, iv b] ∧ Sok m s ∧ m < 2 ^ 59 ∧ 0 < b ∧ Bd 8000 b ∧ ∀ n s', 0 ≤ n → n < b → Sok (m + 1) s' → QD (.d (.int n)) [s'.S, iv b]
def p__law_choice : DSp := fun α QD _ => ∃ (s : Spl) (m : Nat) (xs : List PyData), α = [s.S, .val (.list xs)] ∧ Sok m s ∧ m < 2 ^ 59 ∧ xs ≠ [] ∧ xs.length < 2 ^ 60 ∧ ∀ x s', x ∈ xs → Sok (m + 1) s' → QD (.d x) [s'.S, .val (.list xs)]
def p_law : DSp := lawSp
end KK

set_option maxHeartbeats 1000000
namespace KK
open DL
/-! ### decimal bounds of p + q root d -/
def Near (g q d : Int) : Prop := 0 ≤ sos (g + 1) (-q) d ∧ 0 ≤ sos (1 - g) q d
/-- n is the greatest integer at most (p + q root d) / s -/
def FlS (p q d s n : Int) : Prop := 0 ≤ sos (p - n * s) q d ∧ sos (p - (n + 1) * s) q d = -1
section
variable {d : Int} (hd : 0 < d) (ir : Irr d)
include hd ir
theorem near_of {r q : Int} (h : isqr (q * q * d) r) : Near (if 0 < q then r else -r) q d := by
  obtain ⟨r0, h1, h2⟩ := h
  by_cases c : 0 < q
  · rw [if_pos c]
    refine ⟨sos_ge hd ir (by omega) (by omega), ?_⟩
    have := sos_int hd ir (sos_le hd ir r0 (by omega) h1) (show (0 : Int) < 1 by decide)
    rw [show (1 : Int) - r = -r + 1 by omega, this]; decide
  · rw [if_neg c]
    have e : -q * -q * d = q * q * d := by grind
    constructor
    · have := sos_int hd ir (sos_le hd ir r0 (show 0 ≤ -q by omega) (by rw [e]; exact h1)) (show (0 : Int) < 1 by decide)
      rw [this]; decide
    · have := sos_ge hd ir (r := r + 1) (q := -q) (by omega) (by rw [e]; omega)
      rw [Int.neg_neg] at this
      rw [show (1 : Int) - -r = r + 1 by omega]
      exact this
theorem big_pos {p q s T g v : Int} (hs : 0 < s) (hT : 0 < T) (hg : Near g (q * T) d) (h1 : s * v ≤ p * T + g) (hv : 3 < v) : sos p q d = 1 := by
  have := Int.mul_le_mul (show 1 ≤ s by omega) (show 4 ≤ v by omega) (by omega) (by omega)
  have k := sos_int hd ir hg.2 (t := p * T + g - 1) (by omega)
  rw [show 1 - g + (p * T + g - 1) = T * p by rw [Int.mul_comm T]; omega, Int.mul_comm q T, sos_scale hd hT ir] at k
  exact k
theorem big_neg {p q s T g v : Int} (hs : 0 < s) (hT : 0 < T) (hg : Near g (q * T) d) (h2 : p * T + g < s * v + s) (hv : v < -3) : sos p q d = -1 := by
  have := Int.mul_le_mul (show 1 ≤ s by omega) (show 4 ≤ -v by omega) (by omega) (by omega)
  have e : s * -v = -(s * v) := by grind
  have e3 : s * 4 ≤ s * -v := Int.mul_le_mul_of_nonneg_left (by omega) (by omega)
  have k := sos_int hd ir hg.1 (t := -(p * T + g) - 1) (by omega)
  rw [show g + 1 + (-(p * T + g) - 1) = -(T * p) by rw [Int.mul_comm T]; omega, Int.mul_comm q T, sos_ng, sos_scale hd hT ir] at k
  omega
theorem abs_d (q : Int) : 0 ≤ sos (q.natAbs * d) q d ∧ 0 ≤ sos (q.natAbs * d) (-q) d := by
  have n0 : (0 : Int) ≤ q.natAbs * d := Int.mul_nonneg (by omega) (by omega)
  have e1 : (q.natAbs : Int) * q.natAbs = q * q := Int.natAbs_mul_self' q
  have e : q * q * d ≤ q.natAbs * d * (q.natAbs * d) := by
    have : (q.natAbs : Int) * d * (q.natAbs * d) = q * q * d * d := by grind
    rw [this]
    have h := Int.mul_le_mul_of_nonneg_left (show 1 ≤ d by omega) (Int.mul_nonneg (sq_nn q) (show 0 ≤ d by omega))
    omega
  refine ⟨?_, sos_ge hd ir n0 e⟩
  have := sos_ge hd ir (q := -q) n0 (by have : -q * -q * d = q * q * d := by grind
                                        omega)
  rw [Int.neg_neg] at this
  exact this
theorem small_T {p q s T g v : Int} (hs : 0 < s) (hT : 0 < T) (nz : p ≠ 0 ∨ q ≠ 0) (hg : Near g (q * T) d) (h1 : s * v ≤ p * T + g) (h2 : p * T + g < s * v + s) (hv : -3 ≤ v ∧ v ≤ 3) :
    T ≤ (4 * s + 1) * (p.natAbs + q.natAbs * d) := by
  have n0 := sos_sq hd ir nz
  have b1 : s * v ≤ s * 3 := Int.mul_le_mul_of_nonneg_left hv.2 (by omega)
  have b2 : s * -3 ≤ s * v := Int.mul_le_mul_of_nonneg_left hv.1 (by omega)
  have x1 : 0 ≤ sos (4 * s + 1 - p * T) (-(q * T)) d := by
    have := sos_intN hd ir hg.1 (t := 4 * s - (p * T + g)) (by omega)
    rwa [show g + 1 + (4 * s - (p * T + g)) = 4 * s + 1 - p * T by omega] at this
  have x2 : 0 ≤ sos (4 * s + 1 + p * T) (q * T) d := by
    have := sos_intN hd ir hg.2 (t := 4 * s + (p * T + g)) (by omega)
    rwa [show 1 - g + (4 * s + (p * T + g)) = 4 * s + 1 + p * T by omega] at this
  obtain ⟨a1, a2⟩ := abs_d hd ir q
  generalize hK : (p.natAbs + q.natAbs * d : Int) = K
  generalize 4 * s + 1 = C at x1 x2 ⊢
  have y1 : 0 ≤ sos (K - p) q d := by
    have := sos_intN hd ir a1 (t := p.natAbs - p) (by omega)
    rwa [show (q.natAbs * d + (p.natAbs - p) : Int) = K - p by omega] at this
  have y2 : 0 ≤ sos (K + p) (-q) d := by
    have := sos_intN hd ir a2 (t := p.natAbs + p) (by omega)
    rwa [show (q.natAbs * d + (p.natAbs + p) : Int) = K + p by omega] at this
  have z1 := sos_add hd ir (sos_mulN hd ir x1 y2) (sos_mulN hd ir x2 y1)
  have z2 := sos_add hd ir (sos_mulN hd ir x1 y1) (sos_mulN hd ir x2 y2)
  have e1 : (C - p * T) * -q + -(q * T) * (K + p) + ((C + p * T) * q + q * T * (K - p)) = 0 := by grind
  have e2 : (C - p * T) * q + -(q * T) * (K - p) + ((C + p * T) * -q + q * T * (K + p)) = 0 := by grind
  rw [e1, sos_q00, sgi_0] at z1
  rw [e2, sos_q00, sgi_0] at z2
  have f1 : (C - p * T) * (K + p) + -(q * T) * -q * d + ((C + p * T) * (K - p) + q * T * q * d) = 2 * (C * K) - 2 * ((p * p - q * q * d) * T) := by grind
  have f2 : (C - p * T) * (K - p) + -(q * T) * q * d + ((C + p * T) * (K + p) + q * T * -q * d) = 2 * (C * K) + 2 * ((p * p - q * q * d) * T) := by grind
  rw [f1] at z1
  rw [f2] at z2
  rcases Int.lt_or_gt_of_ne n0 with c | c
  · have := Int.mul_le_mul_of_nonneg_right (show 1 ≤ -(p * p - q * q * d) by omega) (show 0 ≤ T by omega)
    have e : -(p * p - q * q * d) * T = -((p * p - q * q * d) * T) := by grind
    omega
  · have := Int.mul_le_mul_of_nonneg_right (show 1 ≤ p * p - q * q * d by omega) (show 0 ≤ T by omega)
    omega
/-! the floor -/
theorem fls_le {p q s n k : Int} (hs : 0 < s) (h : FlS p q d s n) : 0 ≤ sos (p - k * s) q d ↔ k ≤ n := by
  constructor
  · intro c
    rcases Int.lt_or_le n k with z | z
    · exfalso
      have h2 := h.2
      have e0 : sos (-(p - (n + 1) * s)) (-q) d = 1 := by rw [sos_ng, h2]; rfl
      have := sos_intN hd ir (show 0 ≤ sos (-(p - (n + 1) * s)) (-q) d by rw [e0]; decide) (t := (k - (n + 1)) * s) (Int.mul_nonneg (by omega) (by omega))
      have e : -(p - (n + 1) * s) + (k - (n + 1)) * s = -(p - k * s) := by grind
      rw [e, sos_ng] at this
      have z0 : sos (p - k * s) q d = 0 := by omega
      obtain ⟨z1, z2⟩ := sos_z hd ir z0
      subst z2
      rw [sos_q00, sgi_n] at h2
      have := Int.mul_le_mul_of_nonneg_right (show n + 1 ≤ k by omega) (show 0 ≤ s by omega)
      omega
    · exact z
  · intro c
    have := sos_intN hd ir h.1 (t := (n - k) * s) (Int.mul_nonneg (by omega) (by omega))
    have e : p - n * s + (n - k) * s = p - k * s := by grind
    rwa [e] at this
theorem fls_uniq {p q s n k : Int} (hs : 0 < s) (h : FlS p q d s n) (h' : FlS p q d s k) : n = k := by
  have a := (fls_le hd ir hs h' (k := n)).mp h.1
  have b := (fls_le hd ir hs h (k := k)).mp h'.1
  omega
theorem fls_of {p q s r : Int} (hs : 0 < s) (h : isqr (q * q * d) r) : FlS p q d s (if 0 ≤ q then (p + r) / s else (p - r - 1) / s) := by
  obtain ⟨r0, h1, h2⟩ := h
  have up : ∀ a : Int, a / s * s ≤ a ∧ a + 1 ≤ (a / s + 1) * s := fun a => by
    have e := Int.mul_ediv_add_emod a s
    have m0 := Int.emod_nonneg a (show s ≠ 0 by omega)
    have m1 := Int.emod_lt_of_pos a hs
    have e2 : (a / s + 1) * s = s * (a / s) + s := by grind
    have e3 : a / s * s = s * (a / s) := by grind
    omega
  have strict : ∀ {a b : Int}, b ≠ 0 → 0 ≤ sos a b d → sos a b d = 1 := fun {a b} hb hz => by
    rcases sos_rg a b d with c | c | c
    · omega
    · exact absurd (sos_z hd ir c).2 hb
    · exact c
  have neg1 : ∀ {a b : Int}, sos (-a) (-b) d = 1 → sos a b d = -1 := fun {a b} h => by rw [sos_ng] at h; omega
  by_cases c : 0 ≤ q
  · rw [if_pos c]
    obtain ⟨u1, u2⟩ := up (p + r)
    constructor
    · have := sos_intN hd ir (sos_le hd ir r0 c h1) (t := p + r - (p + r) / s * s) (by omega)
      rwa [show -r + (p + r - (p + r) / s * s) = p - (p + r) / s * s by omega] at this
    · refine neg1 ?_
      have k := sos_ge hd ir (r := r + 1) (q := q) (by omega) (by omega)
      rcases Classical.em (q = 0) with z | z
      · subst z
        rw [Int.neg_zero, sos_q00]
        exact sgi_p.mpr (by omega)
      · have := sos_intN hd ir k (t := (((p + r) / s) + 1) * s - p - (r + 1)) (by omega)
        rw [show r + 1 + ((((p + r) / s) + 1) * s - p - (r + 1)) = -(p - ((p + r) / s + 1) * s) by omega] at this
        exact strict (by omega) this
  · rw [if_neg c]
    obtain ⟨u1, u2⟩ := up (p - r - 1)
    have e : -q * -q * d = q * q * d := by grind
    constructor
    · have k := sos_ge hd ir (r := r + 1) (q := -q) (by omega) (by rw [e]; omega)
      rw [Int.neg_neg] at k
      have := sos_intN hd ir k (t := p - (p - r - 1) / s * s - (r + 1)) (by omega)
      rwa [show r + 1 + (p - (p - r - 1) / s * s - (r + 1)) = p - (p - r - 1) / s * s by omega] at this
    · refine neg1 ?_
      have k := sos_le hd ir (q := -q) r0 (by omega) (by rw [e]; exact h1)
      have := sos_intN hd ir k (t := ((p - r - 1) / s + 1) * s - p + r) (by omega)
      rw [show -r + (((p - r - 1) / s + 1) * s - p + r) = -(p - ((p - r - 1) / s + 1) * s) by omega] at this
      exact strict (by omega) this
/-- the first guess of the floor is near it -/
theorem fls_near {p q s n g v : Int} (hs : 0 < s) (h : FlS p q d s n) (hg : Near g q d) (h1 : s * v ≤ p + g) (h2 : p + g < s * v + s) : n - 2 ≤ v ∧ v ≤ n + 2 := by
  constructor
  · rcases Int.lt_or_le v (n - 2) with c | c
    · exfalso
      have k := h.1
      have e := sos_intN hd ir hg.1 (t := (v + 2) * s - p - (g + 1)) (by
        have : (v + 2) * s = s * v + 2 * s := by grind
        omega)
      rw [show g + 1 + ((v + 2) * s - p - (g + 1)) = -(p - (v + 2) * s) by omega, sos_ng] at e
      have k2 := (fls_le hd ir hs h (k := v + 3)).mpr (by omega)
      have e3 := sos_int hd ir k2 (t := s) hs
      have e4 : p - (v + 3) * s + s = p - (v + 2) * s := by grind
      rw [e4] at e3
      omega
    · exact c
  · have e := sos_intN hd ir hg.2 (t := p - (v - 2) * s - (1 - g)) (by
      have : (v - 2) * s = s * v - 2 * s := by grind
      omega)
    rw [show 1 - g + (p - (v - 2) * s - (1 - g)) = p - (v - 2) * s by omega] at e
    have := (fls_le hd ir hs h).mp e
    omega
end
end KK

set_option maxHeartbeats 1000000
namespace KK
open PySem PySem.Spec L2 DL
/-! ### what the defs do: numbers, errors -/
/-- a canonical number -/
def Cn (x : Nu) : Prop := 0 < x.s ∧ gc x.p x.q x.s = 1 ∧ ((x.q = 0 ∧ x.d = 0) ∨ (x.q ≠ 0 ∧ 1 < x.d ∧ sqfree x.d)) ∧ Nb 3000 x
def sqp (d f r : Int) : Prop := (d = 0 ∧ f = 0 ∧ r = 0) ∨ (0 < d ∧ 0 < f ∧ 0 < r ∧ f * f * r = d ∧ sqfree r)
def numF (p q f r s : Int) : Nu := if r < 2 then low (p + q * f) 0 0 s else low p (q * f) r s
def p_number (k : Addr) : DSp := fun α QD ED => ∃ p q d s : Int, α = [iv p, iv q, iv d, iv s] ∧ Bd 4000 q ∧ Bd 4000 d ∧ Bd 8000 s ∧
  ((s = 0 ∨ d < 0) → ED ⟨k, []⟩ α) ∧ (¬ (s = 0 ∨ d < 0) → ∀ f r, sqp d f r → QD (.d (numF p q f r s).D) α)
def p__law_common : DSp := fun α QD _ => ∃ a b : Int, α = [iv a, iv b] ∧ QD (.d (.int (Int.gcd a b))) α
end KK

set_option maxHeartbeats 1000000
namespace KK
open PySem PySem.Spec L2 DL
/-! ### the law's own numbers: promises -/
/-- a root: no square -/
def Dr (d : Int) : Prop := 0 < d ∧ Bd 40 d ∧ Irr d
/-- a number of the law: in lowest terms where it is zero, of a root or none -/
structure Gd (n : Nat) (x : Nu) : Prop where
  s : 0 < x.s
  r : (x.q = 0 ∧ x.d = 0) ∨ (x.q ≠ 0 ∧ Dr x.d)
  z : x.p = 0 → x.q = 0 → x.s = 1
  b : Nb n x
def isZ (x : Nu) : Prop := x.p = 0 ∧ x.q = 0 ∧ x.d = 0 ∧ x.s = 1
instance (x : Nu) : Decidable (isZ x) := by unfold isZ; infer_instance
instance (x y : Nu) : Decidable (rts x y) := by unfold rts; infer_instance
/-- the root, 2 where there is none -/
def de (x : Nu) : Int := if x.d = 0 then 2 else x.d
def sgn (x : Nu) : Int := sos x.p x.q (de x)
def Flo (x : Nu) (n : Int) : Prop := FlS x.p x.q (de x) x.s n
/-- a drawn ratio: small, above 0 -/
structure Rat (x : Nu) : Prop where
  g : Gd 40 x
  p : x.p.natAbs ≤ 5
  q : x.q.natAbs ≤ 5
  s : x.s ≤ 5
  d : x.d ≤ 21
  o : sgn x = 1
def p__law_square_root : DSp := fun α QD _ => ∃ a : Int, α = [iv a] ∧ 0 ≤ a ∧ Bd 17000 a ∧ ∀ n, isqr a n → QD (.d (.int n)) α
end KK

set_option maxHeartbeats 1000000
namespace KK
open PySem PySem.Spec L2 DL
/-! ### the order of the acts: promises -/
def nint (v : Int) : Nu := ⟨v, 0, 0, 1⟩
/-- a ratio: of moderate size, a small root or none, above 0 -/
structure Rx (x : Nu) : Prop where
  g : Gd 150 x
  d : de x < 64
  o : sgn x = 1
/-- L of the first c acts are b's: L (1 + x) < c + 1 ≤ (L + 1) (1 + x) -/
def Cnt (x : Nu) (c L : Int) : Prop := sos ((c + 1) * x.s - L * (x.s + x.p)) (-(L * x.q)) (de x) = 1 ∧ 0 ≤ sos ((L + 1) * (x.s + x.p) - (c + 1) * x.s) ((L + 1) * x.q) (de x)
def p_whole : DSp := fun α QD _ => ∃ v : Int, α = [iv v] ∧ QD (.d (nint v).D) α
end KK

set_option maxHeartbeats 1000000
namespace KK
open PySem PySem.Spec L2 DL
/-! ### ratios of expansions -/
/-- no quotient is greater, no number nearer to 1 -/
def KQ : Int := 10 ^ 13
/-- the sign of U x - V -/
def sgv (x : Nu) (U V : Int) : Int := sos (U * x.p - V * x.s) (U * x.q) (de x)
/-- in lowest terms -/
def Cnl (x : Nu) : Prop := 0 < x.s ∧ gc x.p x.q x.s = 1 ∧ (x.q = 0 → x.d = 0)
def shf (y : Nu) (v : Int) : Nu := ⟨y.p + v * y.s, y.q, y.d, y.s⟩
/-- the root of a form of moderate size -/
structure Fm (m : Nat) (x : Nu) : Prop where
  ex : ∃ d A B C f : Int, Dr d ∧ A ≠ 0 ∧ x = low (-B) f d (2 * A) ∧ B * B - 4 * A * C = f * f * d ∧ f.natAbs < 2 ^ 20 ∧ A.natAbs ≤ m ∧ B.natAbs ≤ m ∧ C.natAbs ≤ m
/-- behind a quotient -/
structure Kd (x : Nu) : Prop where
  f : ∃ m, m < 2 ^ 4960 ∧ Fm m x
  lo : 0 ≤ sgv x KQ (KQ + 1)
  hi : sgv x 1 KQ ≤ 0
/-- the quotients L, y behind them -/
def Cz : List Int → Nu → Nu → Prop
  | [], y, x => x = y
  | q :: L, y, x => ∃ x1, Kd x1 ∧ 0 ≤ q ∧ q ≤ 10 ^ 12 ∧ x = shf (ninv x1) q ∧ Cz L y x1
/-- 0 or not near it -/
def Gp (x : Nu) : Prop := (x.p = 0 ∧ x.q = 0) ∨ 0 ≤ sgv x (KQ + 1) 1 ∨ 0 ≤ sgv x (-(KQ + 1)) 1
def gci (x : Nu) : Int := gc (x.p * x.s) (-x.q * x.s) (x.p * x.p - x.q * x.q * x.d)
/-- the matrix of the period -/
def mat : List Int → Int × Int × Int × Int → Int × Int × Int × Int
  | [], m => m
  | q :: r, (a, b, c, e) => mat r (a * q + b, a, c * q + e, c)
/-- the period's own ratio -/
def numY (g : List Int) (y : Nu) : Prop := match mat g (1, 0, 0, 1) with
  | (a, b, c, e) => let v : Int := Int.gcd (Int.gcd c (a - e)) b
    let b' := b.fdiv v
    let c' := c.fdiv v
    let e' := (a - e).fdiv v
    v ≠ 0 ∧ c' ≠ 0 ∧ ∃ F : Int, 0 < F ∧ F * F * y.d = e' * e' + 4 * b' * c' ∧ low e' F y.d (2 * c') = y
def ivs (l : List Int) : List PyData := l.map PyData.int
abbrev prt (f g : List Int) : PyData := .tuple [.tuple (ivs f), .tuple (ivs g)]
def p_lowest : DSp := fun α QD _ => ∃ p q d s : Int, α = [iv p, iv q, iv d, iv s] ∧ s ≠ 0 ∧ Bd 8000 (gc p q s) ∧ QD (.d (low p q d s).D) α
def p_plus : DSp := fun α QD _ => ∃ x y : Nu, α = [.val x.D, .val y.D] ∧ rts x y ∧ Nb 6000 x ∧ Nb 6000 y ∧ x.s ≠ 0 ∧ y.s ≠ 0 ∧ Bd 8000 (x.s * y.s) ∧ QD (.d (nplus x y).D) α
def p_times : DSp := fun α QD _ => ∃ x y : Nu, α = [.val x.D, .val y.D] ∧ rts x y ∧ Nb 6000 x ∧ Nb 6000 y ∧ x.s ≠ 0 ∧ y.s ≠ 0 ∧ Bd 8000 (x.s * y.s) ∧ QD (.d (ntimes x y).D) α
def p_over : DSp := fun α QD _ => ∃ y : Nu, α = [.val (⟨1, 0, 0, 1⟩ : Nu).D, .val y.D] ∧ Gd 5000 y ∧ ¬ isZ y ∧ Bd 8000 (gci y) ∧ Nb 5000 (ninv y) ∧ QD (.d (ninv y).D) α
def p_continued : DSp := fun α QD _ => ∃ (f : List Int) (y x : Nu), α = [.val (.tuple (ivs f)), .val y.D] ∧ Cz f y x ∧ f.length ≤ 1000 ∧ QD (.d x.D) α
def p_number_of : DSp := fun α QD _ => ∃ (f g : List Int) (x : Nu), α = [.val (prt f g)] ∧ f.length ≤ 1000 ∧
  ((g = [] ∧ ∃ L v, f = L ++ [v] ∧ Cz L (nint v) x) ∨ (g ≠ [] ∧ g.length < 5 ∧ (∀ q ∈ g, 0 ≤ q ∧ q < 21) ∧ ∃ y, numY g y ∧ Dr y.d ∧ sqfree y.d ∧ Cz f y x)) ∧ QD (.d x.D) α
def p__law_alike : DSp := fun α QD _ => ∃ x : PyData, α = [.val x, .val x] ∧ wide x = true ∧ x.depth ≤ 60 ∧ x.shown.length ≤ sizeLine ∧ QD (.d (.bool true)) α
def p__law_lowest : DSp := fun α QD _ => ∃ p q d s : Int, α = [iv p, iv q, iv d, iv s] ∧ s ≠ 0 ∧ (d = 0 → q = 0) ∧ Bd 8000 (gc p q s) ∧ QD (.d (low p q d s).D) α
def p__law_add : DSp := fun α QD _ => ∃ (x : Nu) (v : Int), α = [.val x.D, .val (nint v).D] ∧ Gd 5060 x ∧ Cnl x ∧ Bd 62 v ∧ QD (.d (shf x v).D) α
def p__law_inverse : DSp := fun α QD _ => ∃ x : Nu, α = [.val x.D] ∧ Gd 5000 x ∧ ¬ isZ x ∧ Bd 8000 (gci x) ∧ QD (.d (ninv x).D) α
def p__law_scaled : DSp := fun α QD _ => ∃ (x : Nu) (t : Nat), α = [.val x.D, iv t] ∧ Gd 5100 x ∧ t ≤ 40 ∧
  ∀ g v : Int, Near g (x.q * 10 ^ t) (de x) → x.s * v ≤ x.p * 10 ^ t + g → x.p * 10 ^ t + g < x.s * v + x.s → QD (.d (.int v)) α
def p__law_sign_of : DSp := fun α QD _ => ∃ x : Nu, α = [.val x.D] ∧ Gd 5100 x ∧ Gp x ∧ QD (.d (.int (sgn x))) α
def p__law_whole_part : DSp := fun α QD _ => ∃ (x : Nu) (n : Int), α = [.val x.D] ∧ Gd 5020 x ∧ Cnl x ∧ Bd 50 n ∧ Flo x n ∧ Gp (shf x (-n)) ∧ Gp (shf x (-(n + 1))) ∧ QD (.d (.int n)) α
def p__law_behind : DSp := fun α QD _ => ∃ (L : List Int) (x : Nu) (r : PyData), α = [.val x.D, .val (.list (ivs L))] ∧ L.length ≤ 100 ∧
  ((∃ y, Cz L y x ∧ r = y.D) ∨ (∃ L' v, L = L' ++ [v] ∧ Cz L' (nint v) x ∧ 1 ≤ v ∧ v ≤ 10 ∧ r = .str "end")) ∧ QD (.d r) α
def p__law_is_shortest : DSp := fun α QD _ => ∃ f g : List Int, α = [.val (.list (ivs f)), .val (.list (ivs g))] ∧ f.length ≤ 100 ∧ g.length ≤ 10 ∧ ∀ b, QD (.d (.bool b)) α
end KK

set_option maxHeartbeats 1000000
namespace KK
open PySem PySem.Spec L2 DL
def v_ZERO : List V := [.int 0, .int 0, .int 0, .int 1]
def l_ZERO : List PyData := [.int 0, .int 0, .int 0, .int 1]
abbrev d_ZERO : PyData := .tuple l_ZERO
theorem rep_ZERO (K : PySem.W.Frag) : ∀ G, Reps K G v_ZERO l_ZERO := fun G => .cons (.int _) (.cons (.int _) (.cons (.int _) (.cons (.int _) (.nil))))
def v_ONE : List V := [.int 1, .int 0, .int 0, .int 1]
def l_ONE : List PyData := [.int 1, .int 0, .int 0, .int 1]
abbrev d_ONE : PyData := .tuple l_ONE
theorem rep_ONE (K : PySem.W.Frag) : ∀ G, Reps K G v_ONE l_ONE := fun G => .cons (.int _) (.cons (.int _) (.cons (.int _) (.cons (.int _) (.nil))))
/-! ### readings of the text (printed by gen.py) -/
def n_common_divisor : List Str := ["first", "second"]
def r_common_divisor (W : WD) : TSD := sSeq (sWhile (dTest (dOp dNe (dVar 1) (dC (.int 0)))) (sPar 0 1 (dCons (dVar 1) (dCons (dOp dMod (dVar 0) (dVar 1)) (dNil))))) (sRet (dF1 fAbs (dVar 0)))
def n_without_squares : List Str := ["number", "factor", "rest", "prime"]
def r_without_squares (W : WD) : TSD := sSeq (sPar3 1 2 3 (dCons (dC (.int 1)) (dCons (dVar 0) (dCons (dC (.int 2)) (dNil))))) (sSeq (sWhile (dTest (dOp dLe (dOp dMul (dVar 3) (dVar 3)) (dVar 2))) (sSeq (sWhile (dTest (dOp dEq (dOp dMod (dVar 2) (dOp dMul (dVar 3) (dVar 3))) (dC (.int 0)))) (sSeq (sAug 2 (dOp dMul (dVar 3) (dVar 3)) dFdiv) (sAug 1 (dVar 3) dMul))) (sAug 3 (dC (.int 1)) dIAdd))) (sRet (dTup (dCons (dVar 1) (dCons (dVar 2) (dNil))))))
def n_lowest : List Str := ["p", "q", "d", "s", "divisor"]
def r_lowest (W : WD) : TSD := sSeq (sIf (dTest (dOp dLt (dVar 3) (dC (.int 0)))) (sPar3 0 1 3 (dCons (dNeg (dVar 0)) (dCons (dNeg (dVar 1)) (dCons (dNeg (dVar 3)) (dNil))))) (sNext)) (sSeq (sSet 4 (dCall p_common_divisor W (dCons (dCall p_common_divisor W (dCons (dVar 0) (dCons (dVar 1) (dNil)))) (dCons (dVar 3) (dNil))))) (sSeq (sPar3 0 1 3 (dCons (dOp dFdiv (dVar 0) (dVar 4)) (dCons (dOp dFdiv (dVar 1) (dVar 4)) (dCons (dOp dFdiv (dVar 3) (dVar 4)) (dNil))))) (sRet (dTup (dCons (dVar 0) (dCons (dVar 1) (dCons (dIf (dTest (dOp dNe (dVar 1) (dC (.int 0)))) (dVar 2) (dC (.int 0))) (dCons (dVar 3) (dNil)))))))))
def n_number : List Str := ["p", "q", "d", "s", "factor", "rest"]
def r_number (W : WD) (k_InvalidNumber : Addr) : TSD := sSeq (sIf (dOr (dTest (dOp dEq (dVar 3) (dC (.int 0)))) (dTest (dOp dLt (dVar 2) (dC (.int 0))))) (sRaise W k_InvalidNumber) (sNext)) (sSeq (sAsg (dIf (dTest (dOp dGt (dVar 2) (dC (.int 0)))) (dCall p_without_squares W (dCons (dVar 2) (dNil))) (dTup (dCons (dC (.int 0)) (dCons (dC (.int 0)) (dNil))))) (gTup' (lenIs 2 (gCons' (gName' 4) (gCons' (gName' 5) (gNil')))))) (sSeq (sIf (dTest (dOp dLt (dVar 5) (dC (.int 2)))) (sRet (dCall p_lowest W (dCons (dOp dAdd (dVar 0) (dOp dMul (dVar 1) (dVar 4))) (dCons (dC (.int 0)) (dCons (dC (.int 0)) (dCons (dVar 3) (dNil))))))) (sNext)) (sRet (dCall p_lowest W (dCons (dVar 0) (dCons (dOp dMul (dVar 1) (dVar 4)) (dCons (dVar 5) (dCons (dVar 3) (dNil)))))))))
def n_root_of : List Str := ["first", "second"]
def r_root_of (W : WD) (k_OtherRoot : Addr) : TSD := sSeq (sIf (dAnd (dTest (dOp dNe (dOp atD (dVar 0) (dC (.int 2))) (dC (.int 0)))) (dAnd (dTest (dOp dNe (dOp atD (dVar 1) (dC (.int 2))) (dC (.int 0)))) (dTest (dOp dNe (dOp atD (dVar 0) (dC (.int 2))) (dOp atD (dVar 1) (dC (.int 2))))))) (sRaise W k_OtherRoot) (sNext)) (sRet (dOp fMax (dOp atD (dVar 0) (dC (.int 2))) (dOp atD (dVar 1) (dC (.int 2)))))
def n_plus : List Str := ["first", "second", "d", "p"]
def r_plus (W : WD) : TSD := sSeq (sSet 2 (dCall p_root_of W (dCons (dVar 0) (dCons (dVar 1) (dNil))))) (sSeq (sSet 3 (dOp dAdd (dOp dMul (dOp atD (dVar 0) (dC (.int 0))) (dOp atD (dVar 1) (dC (.int 3)))) (dOp dMul (dOp atD (dVar 1) (dC (.int 0))) (dOp atD (dVar 0) (dC (.int 3)))))) (sRet (dCall p_lowest W (dCons (dVar 3) (dCons (dOp dAdd (dOp dMul (dOp atD (dVar 0) (dC (.int 1))) (dOp atD (dVar 1) (dC (.int 3)))) (dOp dMul (dOp atD (dVar 1) (dC (.int 1))) (dOp atD (dVar 0) (dC (.int 3))))) (dCons (dVar 2) (dCons (dOp dMul (dOp atD (dVar 0) (dC (.int 3))) (dOp atD (dVar 1) (dC (.int 3)))) (dNil))))))))
def n_times : List Str := ["first", "second", "d", "p"]
def r_times (W : WD) : TSD := sSeq (sSet 2 (dCall p_root_of W (dCons (dVar 0) (dCons (dVar 1) (dNil))))) (sSeq (sSet 3 (dOp dAdd (dOp dMul (dOp atD (dVar 0) (dC (.int 0))) (dOp atD (dVar 1) (dC (.int 0)))) (dOp dMul (dOp dMul (dOp atD (dVar 0) (dC (.int 1))) (dOp atD (dVar 1) (dC (.int 1)))) (dVar 2)))) (sRet (dCall p_lowest W (dCons (dVar 3) (dCons (dOp dAdd (dOp dMul (dOp atD (dVar 0) (dC (.int 0))) (dOp atD (dVar 1) (dC (.int 1)))) (dOp dMul (dOp atD (dVar 0) (dC (.int 1))) (dOp atD (dVar 1) (dC (.int 0))))) (dCons (dVar 2) (dCons (dOp dMul (dOp atD (dVar 0) (dC (.int 3))) (dOp atD (dVar 1) (dC (.int 3)))) (dNil))))))))
def n_over : List Str := ["first", "second", "p", "q", "d", "s"]
def r_over (W : WD) (k_ZeroDivisor : Addr) : TSD := sSeq (sIf (dTest (dOp dEq (dVar 1) (dC d_ZERO))) (sRaise W k_ZeroDivisor) (sNext)) (sSeq (sAsg (dVar 1) (gTup' (lenIs 4 (gCons' (gName' 2) (gCons' (gName' 3) (gCons' (gName' 4) (gCons' (gName' 5) (gNil')))))))) (sRet (dCall p_times W (dCons (dVar 0) (dCons (dCall p_lowest W (dCons (dOp dMul (dVar 2) (dVar 5)) (dCons (dOp dMul (dNeg (dVar 3)) (dVar 5)) (dCons (dVar 4) (dCons (dOp dSub (dOp dMul (dVar 2) (dVar 2)) (dOp dMul (dOp dMul (dVar 3) (dVar 3)) (dVar 4))) (dNil)))))) (dNil))))))
def n_whole : List Str := ["value"]
def r_whole (W : WD) : TSD := sRet (dTup (dCons (dVar 0) (dCons (dC (.int 0)) (dCons (dC (.int 0)) (dCons (dC (.int 1)) (dNil))))))
def n_continued : List Str := ["first", "last", "found", "quotient"]
def r_continued (W : WD) : TSD := sSeq (sSet 2 (dVar 1)) (sSeq (sFor (itemsD (dNew (nRev (dNew (nList (dVar 0)))))) (gName' 3) (sSet 2 (dCall p_plus W (dCons (dCall p_whole W (dCons (dVar 3) (dNil))) (dCons (dCall p_over W (dCons (dC d_ONE) (dCons (dVar 2) (dNil)))) (dNil)))))) (sRet (dVar 2)))
def n_number_of : List Str := ["parts", "first", "period", "a", "b", "c", "e", "quotient", "divisor"]
def r_number_of (W : WD) (k_InvalidNumber : Addr) : TSD := sSeq (sAsg (dVar 0) (gTup' (lenIs 2 (gCons' (gName' 1) (gCons' (gName' 2) (gNil')))))) (sSeq (sIf (dTest (dOp dEq (dVar 2) (dTup (dNil)))) (sRet (dCall p_continued W (dCons (dSl (dVar 1) (oNone) (oSome (dNeg (dC (.int 1))))) (dCons (dCall p_whole W (dCons (dOp atD (dVar 1) (dNeg (dC (.int 1)))) (dNil))) (dNil))))) (sNext)) (sSeq (sAsg (dTup (dCons (dC (.int 1)) (dCons (dC (.int 0)) (dCons (dC (.int 0)) (dCons (dC (.int 1)) (dNil)))))) (gTup' (lenIs 4 (gCons' (gName' 3) (gCons' (gName' 4) (gCons' (gName' 5) (gCons' (gName' 6) (gNil')))))))) (sSeq (sFor (itemsT (dVar 2)) (gName' 7) (sAsg (dTup (dCons (dOp dAdd (dOp dMul (dVar 3) (dVar 7)) (dVar 4)) (dCons (dVar 3) (dCons (dOp dAdd (dOp dMul (dVar 5) (dVar 7)) (dVar 6)) (dCons (dVar 5) (dNil)))))) (gTup' (lenIs 4 (gCons' (gName' 3) (gCons' (gName' 4) (gCons' (gName' 5) (gCons' (gName' 6) (gNil'))))))))) (sSeq (sSet 8 (dCall p_common_divisor W (dCons (dCall p_common_divisor W (dCons (dVar 5) (dCons (dOp dSub (dVar 3) (dVar 6)) (dNil)))) (dCons (dVar 4) (dNil))))) (sSeq (sPar3 4 5 6 (dCons (dOp dFdiv (dVar 4) (dVar 8)) (dCons (dOp dFdiv (dVar 5) (dVar 8)) (dCons (dOp dFdiv (dOp dSub (dVar 3) (dVar 6)) (dVar 8)) (dNil))))) (sRet (dCall p_continued W (dCons (dVar 1) (dCons (dCall (p_number k_InvalidNumber) W (dCons (dVar 6) (dCons (dC (.int 1)) (dCons (dOp dAdd (dOp dMul (dVar 6) (dVar 6)) (dOp dMul (dOp dMul (dC (.int 4)) (dVar 4)) (dVar 5))) (dCons (dOp dMul (dC (.int 2)) (dVar 5)) (dNil)))))) (dNil))))))))))
def n__law_stirred : List Str := ["cell", "place", "modulus", "value", "turn"]
def r__law_stirred (W : WD) : TSD := sSeq (sSet 2 (dC (.int 1180591620717411303449))) (sSeq (sSet 3 (dOp dMod (dOp dAdd (dOp dAdd (dOp dMul (dVar 0) (dC (.int 2685821657736338717))) (dOp dMul (dVar 1) (dC (.int 2891336453)))) (dC (.int 19))) (dVar 2))) (sSeq (sFor (range1D (dCons (dC (.int 4)) (dNil))) (gName' 4) (sSet 3 (dOp dMod (dOp dAdd (dOp dAdd (dOp dAdd (dOp dMul (dVar 3) (dVar 3)) (dOp dMul (dC (.int 3)) (dVar 3))) (dOp dMul (dC (.int 32452843)) (dVar 4))) (dVar 1)) (dVar 2)))) (sRet (dOp dAdd (dOp dMul (dVar 3) (dVar 2)) (dOp dMod (dOp dAdd (dOp dMul (dVar 3) (dC (.int 1103515245))) (dVar 1)) (dVar 2))))))
def n__law_spool_of : List Str := ["script", "numbers", "place", "cell"]
def r__law_spool_of (W : WD) : TSD := sSeq (sOwn 1 (nLc [3] (itemsD (dNew (nScr 0 (oNone) (oSome (dC (.int 16)))))) (gName' 3) (dYes) (dF1 fAbs (dVar 3)))) (sSeq (sFor (enumI (dCons (dNew (nScr 0 (oSome (dC (.int 16))) (oSome (dC (.int 64))))) (dNil))) (gTup' (lenIs 2 (gCons' (gName' 2) (gCons' (gName' 3) (gNil'))))) (sPut 1 (dOp dAdd (dOp atD (dVar 1) (dOp dMod (dVar 2) (dC (.int 16)))) (dF1 fAbs (dVar 3))) (dOp dMod (dVar 2) (dC (.int 16))))) (sRetN (nLst (dCons (dVar 1) (dCons (dC (.int 0)) (dCons (dC (.int 0)) (dCons (dC (.int 0)) (dNil))))))))
def n__law_upto : List Str := ["spool", "bound", "numbers", "place", "cell", "found"]
def r__law_upto (W : WD) : TSD := sSeq (sIf (dTest (dOp dLt (dOp atD (dVar 0) (dC (.int 3))) (dVar 1))) (sSeq (sPar 2 3 (dCons (dOp atD (dVar 0) (dC (.int 0))) (dCons (dOp atD (dVar 0) (dC (.int 1))) (dNil)))) (sSeq (sSet 4 (dIf (dTest (dOp dNe (dVar 2) (dNew (nLst (dNil))))) (dOp atD (dVar 2) (dOp dMod (dVar 3) (dF1 fLen (dVar 2)))) (dC (.int 0)))) (sSeq (sIf (dOr (dTest (dOp dGe (dVar 3) (dF1 fLen (dVar 2)))) (dTest (dOp dLt (dVar 4) (dOp dPow (dC (.int 10)) (dC (.int 15)))))) (sSet 4 (dCall p__law_stirred W (dCons (dOp dMod (dVar 4) (dC (.int 998244353))) (dCons (dVar 3) (dNil))))) (sNext)) (sSeq (sPut 0 (dOp dAdd (dVar 3) (dC (.int 1))) (dC (.int 1))) (sSeq (sPut 0 (dVar 4) (dC (.int 2))) (sPut 0 (dVar 4) (dC (.int 3)))))))) (sNext)) (sSeq (sSet 5 (dOp dMod (dOp atD (dVar 0) (dC (.int 2))) (dVar 1))) (sSeq (sPut 0 (dOp dFdiv (dOp atD (dVar 0) (dC (.int 2))) (dVar 1)) (dC (.int 2))) (sSeq (sPut 0 (dOp dFdiv (dOp atD (dVar 0) (dC (.int 3))) (dVar 1)) (dC (.int 3))) (sRet (dVar 5)))))
def n__law_choice : List Str := ["spool", "items"]
def r__law_choice (W : WD) : TSD := sRet (dOp atD (dVar 1) (withLent 0 (dCallL p__law_upto W 0 (dCons (dF1 fLen (dVar 1)) (dNil)))))
def n__law_alike : List Str := ["one", "other"]
def r__law_alike (W : WD) : TSD := sRet (dOp dEqS (dF1 fReprW (dVar 0)) (dF1 fReprW (dVar 1)))
def n__law_common : List Str := ["one", "other"]
def r__law_common (W : WD) : TSD := sSeq (sWhile (dTest (dOp dNe (dVar 1) (dC (.int 0)))) (sPar 0 1 (dCons (dVar 1) (dCons (dOp dMod (dVar 0) (dVar 1)) (dNil))))) (sRet (dF1 fAbs (dVar 0)))
def n__law_square_root : List Str := ["value", "guess", "factor", "better"]
def r__law_square_root (W : WD) : TSD := sSeq (sIf (dTest (dOp dLt (dVar 0) (dC (.int 2)))) (sRet (dVar 0)) (sNext)) (sSeq (sSet 1 (dC (.int 2))) (sSeq (sFor (itemsT (dTup (dCons (dC (.int 65536)) (dCons (dC (.int 2)) (dNil))))) (gName' 2) (sWhile (dTest (dOp dLe (dOp dMul (dOp dMul (dOp dMul (dVar 1) (dVar 1)) (dVar 2)) (dVar 2)) (dOp dMul (dC (.int 4)) (dVar 0)))) (sSet 1 (dOp dMul (dVar 1) (dVar 2))))) (sSeq (sSet 3 (dOp dFdiv (dOp dAdd (dVar 1) (dOp dFdiv (dVar 0) (dVar 1))) (dC (.int 2)))) (sSeq (sWhile (dTest (dOp dLt (dVar 3) (dVar 1))) (sSeq (sSet 1 (dVar 3)) (sSet 3 (dOp dFdiv (dOp dAdd (dVar 1) (dOp dFdiv (dVar 0) (dVar 1))) (dC (.int 2)))))) (sRet (dVar 1))))))
def n__law_lowest : List Str := ["p", "q", "d", "s", "divisor"]
def r__law_lowest (W : WD) : TSD := sSeq (sIf (dOr (dTest (dOp dEq (dVar 1) (dC (.int 0)))) (dTest (dOp dEq (dVar 2) (dC (.int 0))))) (sAsg (dTup (dCons (dC (.int 0)) (dCons (dC (.int 0)) (dNil)))) (gTup' (lenIs 2 (gCons' (gName' 1) (gCons' (gName' 2) (gNil')))))) (sNext)) (sSeq (sSet 4 (dCall p__law_common W (dCons (dCall p__law_common W (dCons (dVar 0) (dCons (dVar 1) (dNil)))) (dCons (dVar 3) (dNil))))) (sSeq (sSet 4 (dIf (dTest (dOp dGt (dVar 3) (dC (.int 0)))) (dVar 4) (dOp dSub (dC (.int 0)) (dVar 4)))) (sRet (dTup (dCons (dOp dFdiv (dVar 0) (dVar 4)) (dCons (dOp dFdiv (dVar 1) (dVar 4)) (dCons (dVar 2) (dCons (dOp dFdiv (dVar 3) (dVar 4)) (dNil)))))))))
def n__law_add : List Str := ["one", "other", "p", "q"]
def r__law_add (W : WD) : TSD := sSeq (sSet 2 (dOp dAdd (dOp dMul (dOp atD (dVar 0) (dC (.int 0))) (dOp atD (dVar 1) (dC (.int 3)))) (dOp dMul (dOp atD (dVar 1) (dC (.int 0))) (dOp atD (dVar 0) (dC (.int 3)))))) (sSeq (sSet 3 (dOp dAdd (dOp dMul (dOp atD (dVar 0) (dC (.int 1))) (dOp atD (dVar 1) (dC (.int 3)))) (dOp dMul (dOp atD (dVar 1) (dC (.int 1))) (dOp atD (dVar 0) (dC (.int 3)))))) (sRet (dCall p__law_lowest W (dCons (dVar 2) (dCons (dVar 3) (dCons (dOp fMax (dOp atD (dVar 0) (dC (.int 2))) (dOp atD (dVar 1) (dC (.int 2)))) (dCons (dOp dMul (dOp atD (dVar 0) (dC (.int 3))) (dOp atD (dVar 1) (dC (.int 3)))) (dNil))))))))
def n__law_inverse : List Str := ["one", "p", "q", "d", "s"]
def r__law_inverse (W : WD) : TSD := sSeq (sAsg (dVar 0) (gTup' (lenIs 4 (gCons' (gName' 1) (gCons' (gName' 2) (gCons' (gName' 3) (gCons' (gName' 4) (gNil')))))))) (sRet (dCall p__law_lowest W (dCons (dOp dMul (dVar 1) (dVar 4)) (dCons (dOp dSub (dC (.int 0)) (dOp dMul (dVar 2) (dVar 4))) (dCons (dVar 3) (dCons (dOp dSub (dOp dMul (dVar 1) (dVar 1)) (dOp dMul (dOp dMul (dVar 2) (dVar 2)) (dVar 3))) (dNil)))))))
def n__law_scaled : List Str := ["one", "places", "p", "q", "d", "s", "ten", "turn", "part"]
def r__law_scaled (W : WD) : TSD := sSeq (sAsg (dVar 0) (gTup' (lenIs 4 (gCons' (gName' 2) (gCons' (gName' 3) (gCons' (gName' 4) (gCons' (gName' 5) (gNil')))))))) (sSeq (sSet 6 (dC (.int 1))) (sSeq (sFor (range1D (dCons (dVar 1) (dNil))) (gName' 7) (sSet 6 (dOp dMul (dVar 6) (dC (.int 10))))) (sSeq (sSet 8 (dCall p__law_square_root W (dCons (dOp dMul (dOp dMul (dOp dMul (dOp dMul (dVar 3) (dVar 3)) (dVar 4)) (dVar 6)) (dVar 6)) (dNil)))) (sRet (dOp dFdiv (dOp dAdd (dOp dMul (dVar 2) (dVar 6)) (dIf (dTest (dOp dGt (dVar 3) (dC (.int 0)))) (dVar 8) (dOp dSub (dC (.int 0)) (dVar 8)))) (dVar 5))))))
def n__law_sign_of : List Str := ["one", "places", "value"]
def r__law_sign_of (W : WD) : TSD := sSeq (sSet 1 (dC (.int 2))) (sSeq (sWhile (dTest (dOp dNe (dSl (dVar 0) (oNone) (oSome (dC (.int 2)))) (dTup (dCons (dC (.int 0)) (dCons (dC (.int 0)) (dNil)))))) (sSeq (sSet 2 (dCall p__law_scaled W (dCons (dVar 0) (dCons (dVar 1) (dNil))))) (sSeq (sIf (dTest (dOp dGt (dF1 fAbs (dVar 2)) (dC (.int 3)))) (sRet (dIf (dTest (dOp dGt (dVar 2) (dC (.int 0)))) (dC (.int 1)) (dOp dSub (dC (.int 0)) (dC (.int 1))))) (sNext)) (sSet 1 (dOp dMul (dC (.int 2)) (dVar 1)))))) (sRet (dC (.int 0))))
def n__law_whole_part : List Str := ["one", "found"]
def r__law_whole_part (W : WD) : TSD := sSeq (sSet 1 (dCall p__law_scaled W (dCons (dVar 0) (dCons (dC (.int 0)) (dNil))))) (sSeq (sWhile (dTest (dOp dLt (dCall p__law_sign_of W (dCons (dCall p__law_add W (dCons (dVar 0) (dCons (dTup (dCons (dOp dSub (dC (.int 0)) (dVar 1)) (dCons (dC (.int 0)) (dCons (dC (.int 0)) (dCons (dC (.int 1)) (dNil)))))) (dNil)))) (dNil))) (dC (.int 0)))) (sSet 1 (dOp dSub (dVar 1) (dC (.int 1))))) (sSeq (sWhile (dTest (dOp dGe (dCall p__law_sign_of W (dCons (dCall p__law_add W (dCons (dVar 0) (dCons (dTup (dCons (dOp dSub (dOp dSub (dC (.int 0)) (dVar 1)) (dC (.int 1))) (dCons (dC (.int 0)) (dCons (dC (.int 0)) (dCons (dC (.int 1)) (dNil)))))) (dNil)))) (dNil))) (dC (.int 0)))) (sSet 1 (dOp dAdd (dVar 1) (dC (.int 1))))) (sRet (dVar 1))))
def n__law_behind : List Str := ["ratio", "parts", "place", "quotient", "rest"]
def r__law_behind (W : WD) : TSD := sSeq (sFor (enumI (dCons (dVar 1) (dNil))) (gTup' (lenIs 2 (gCons' (gName' 2) (gCons' (gName' 3) (gNil'))))) (sSeq (sIf (dOr (dTest (dOp dIs (dVar 0) (dC .none))) (dTest (dOp dNe (dCall p__law_whole_part W (dCons (dVar 0) (dNil))) (dVar 3)))) (sRet (dC .none)) (sNext)) (sSeq (sSet 4 (dCall p__law_add W (dCons (dVar 0) (dCons (dTup (dCons (dOp dSub (dC (.int 0)) (dVar 3)) (dCons (dC (.int 0)) (dCons (dC (.int 0)) (dCons (dC (.int 1)) (dNil)))))) (dNil))))) (sSeq (sSet 0 (dIf (dTest (dOp dNe (dVar 4) (dTup (dCons (dC (.int 0)) (dCons (dC (.int 0)) (dCons (dC (.int 0)) (dCons (dC (.int 1)) (dNil)))))))) (dCall p__law_inverse W (dCons (dVar 4) (dNil))) (dC .none))) (sIf (dAnd (dTest (dOp dIs (dVar 0) (dC .none))) (dTest (dOp dLt (dVar 2) (dOp dSub (dF1 fLen (dVar 1)) (dC (.int 1)))))) (sRet (dC .none)) (sNext)))))) (sRet (dIf (dTest (dOp dIsNot (dVar 0) (dC .none))) (dVar 0) (dC (.str "end"))))
def n__law_is_shortest : List Str := ["first", "again", "size"]
def r__law_is_shortest (W : WD) : TSD := sSeq (sFor (range2D (dCons (dC (.int 1)) (dCons (dF1 fLen (dVar 1)) (dNil)))) (gName' 2) (sIf (dAnd (dTest (dOp dEq (dOp dMod (dF1 fLen (dVar 1)) (dVar 2)) (dC (.int 0)))) (dTest (dOp dEq (dVar 1) (dOp dMulL (dNew (nSl (dVar 1) (oNone) (oSome (dVar 2)))) (dOp dFdiv (dF1 fLen (dVar 1)) (dVar 2)))))) (sRet (dC (.bool false))) (sNext))) (sRet (dOrV (dOp dEq (dVar 0) (dNew (nLst (dNil)))) (dOrV (dOp dEq (dVar 1) (dNew (nLst (dNil)))) (dOp dNe (dOp atD (dVar 0) (dNeg (dC (.int 1)))) (dOp atD (dVar 1) (dNeg (dC (.int 1))))))))
def n_law : List Str := ["script", "spool", "turn", "many", "first", "again", "ratio", "rest", "index"]
def r_law (W : WD) : TSD := sSeq (sOwn 1 (withLentN 0 (nCallL p__law_spool_of W 0 (dNil)))) (sSeq (sFor (range1D (dCons (dC (.int 10)) (dNil))) (gName' 2) (sSeq (sSet 3 (withLent 1 (dCallL p__law_upto W 1 (dCons (withLent 1 (dCallL p__law_choice W 1 (dCons (dNew (nLst (dCons (dC (.int 7)) (dCons (dC (.int 7)) (dCons (dC (.int 60)) (dNil)))))) (dNil)))) (dNil))))) (sSeq (sOwn 4 (nLc [8] (range1D (dCons (dVar 3) (dNil))) (gName' 8) (dYes) (dOp dAdd (dC (.int 1)) (withLent 1 (dCallL p__law_upto W0 1 (dCons (withLent 1 (dCallL p__law_choice W0 1 (dCons (dNew (nLst (dCons (dC (.int 2)) (dCons (dC (.int 5)) (dCons (dC (.int 20)) (dCons (dOp dPow (dC (.int 10)) (dC (.int 12))) (dNil))))))) (dNil)))) (dNil))))))) (sSeq (sOwn 5 (nLc [8] (range1D (dCons (withLent 1 (dCallL p__law_upto W 1 (dCons (dC (.int 5)) (dNil)))) (dNil))) (gName' 8) (dYes) (dOp dAdd (dC (.int 1)) (withLent 1 (dCallL p__law_upto W0 1 (dCons (withLent 1 (dCallL p__law_choice W0 1 (dCons (dNew (nLst (dCons (dC (.int 1)) (dCons (dC (.int 3)) (dCons (dC (.int 20)) (dNil)))))) (dNil)))) (dNil))))))) (sSeq (sIf (dAnd (dTest (dOp dNe (dVar 4) (dNew (nLst (dNil))))) (dTest (dOp dEq (withLent 1 (dCallL p__law_upto W 1 (dCons (dC (.int 3)) (dNil)))) (dC (.int 0))))) (sPut 4 (dC (.int 0)) (dC (.int 0))) (sNext)) (sSeq (sIf (dNot (dTest (dCall p__law_is_shortest W (dCons (dVar 4) (dCons (dVar 5) (dNil)))))) (sSeq (sPar 4 5 (dCons (dNew (nSl (dVar 4) (oNone) (oSome (dC (.int 1))))) (dCons (dNew (nLst (dCons (dOp dAdd (dC (.int 3)) (withLent 1 (dCallL p__law_upto W 1 (dCons (dC (.int 5)) (dNil))))) (dCons (dC (.int 2)) (dCons (dC (.int 1)) (dNil)))))) (dNil)))) (sSet 4 (dIf (dTest (dOp dNe (dVar 4) (dNew (nLst (dCons (dC (.int 1)) (dNil)))))) (dVar 4) (dNew (nLst (dNil)))))) (sNext)) (sSeq (sIf (dTest (dOp dEq (dVar 5) (dNew (nLst (dNil))))) (sSet 4 (dIf (dTest (dOp dNe (dVar 4) (dNew (nLst (dNil))))) (dOp dAdd (dVar 4) (dNew (nLst (dCons (dOp dAdd (dC (.int 2)) (withLent 1 (dCallL p__law_upto W 1 (dCons (dC (.int 9)) (dNil))))) (dNil))))) (dNew (nLst (dCons (dOp dAdd (dC (.int 1)) (withLent 1 (dCallL p__law_upto W 1 (dCons (dC (.int 9)) (dNil))))) (dNil)))))) (sNext)) (sSeq (sSet 6 (dCall p_number_of W (dCons (dTup (dCons (dF1 fTup (dVar 4)) (dCons (dF1 fTup (dVar 5)) (dNil)))) (dNil)))) (sSeq (sIf (dOr (dNot (dTest (dIsD isTupD (dVar 6)))) (dOr (dTest (dOp dNe (dF1 fLen (dVar 6)) (dC (.int 4)))) (dTest (dOp dNe (dCall p__law_sign_of W (dCons (dVar 6) (dNil))) (dC (.int 1)))))) (sRet (dC (.bool false))) (sNext)) (sSeq (sSet 7 (dIf (dTest (dOp dNe (dVar 4) (dNew (nLst (dNil))))) (dCall p__law_behind W (dCons (dVar 6) (dCons (dVar 4) (dNil)))) (dVar 6))) (sSeq (sIf (dTest (dOp dEq (dVar 5) (dNew (nLst (dNil))))) (sIf (dOr (dTest (dOp dNe (dVar 7) (dC (.str "end")))) (dTest (dOp dNe (dSl (dVar 6) (oSome (dC (.int 1))) (oSome (dC (.int 3)))) (dTup (dCons (dC (.int 0)) (dCons (dC (.int 0)) (dNil))))))) (sRet (dC (.bool false))) (sNext)) (sIf (dOr (dTest (dOp dIs (dVar 7) (dC .none))) (dOr (dTest (dOp dEq (dVar 7) (dC (.str "end")))) (dOr (dTest (dOp dNe (dCall p__law_behind W (dCons (dVar 7) (dCons (dVar 5) (dNil)))) (dVar 7))) (dTest (dOp dEq (dOp atD (dVar 6) (dC (.int 1))) (dC (.int 0))))))) (sRet (dC (.bool false))) (sNext))) (sIf (dNot (dTest (dCall p__law_alike W (dCons (dVar 6) (dCons (dCall p__law_lowest W (dCons (dOp atD (dVar 6) (dC (.int 0))) (dCons (dOp atD (dVar 6) (dC (.int 1))) (dCons (dOp atD (dVar 6) (dC (.int 2))) (dCons (dOp atD (dVar 6) (dC (.int 3))) (dNil)))))) (dNil)))))) (sRet (dC (.bool false))) (sNext))))))))))))) (sRet (dC (.bool true))))
end KK
set_option maxHeartbeats 1000000
namespace KK
open PySem PySem.Spec PyProof.Rows L2 DL
theorem pure_common_divisor (α : List SD) (QD : Ret → List SD → Prop) (ED : Exd → List SD → Prop) (W : WD) (hW : W = fun e ρ => outK α ρ fun α' => ED e α') (h : p_common_divisor α QD ED) : r_common_divisor W (DEnd α QD) (startD n_common_divisor.length α) := by
  obtain ⟨a, b, rfl, hq⟩ := h
  unfold r_common_divisor DEnd
  refine ⟨fun m ρ => ∃ x y : Int, ρ = [iv x, iv y] ∧ m = y.natAbs ∧ Int.gcd x y = Int.gcd a b, ⟨_, a, b, rfl, rfl, rfl⟩, ?_⟩
  rintro _ _ ⟨x, y, rfl, rfl, hg⟩
  by_cases hy : y = 0
  · subst hy
    simp [sSeq, sIf, sNext, sSet, sAug, sRet, sPar, sPar3, asThree, sRaise, sAsg, sOwn, sApp, sPut, sRetN, sRetOwn, sRetU, sDrop, sBreak, sCont, dVar, dC, dOp, dTest, dCons, dNil, dTup, nLst, dNew, dNeg, dIf, dF1, dAnd, dOr, dNot, dAndV, dOrV, dNotV, dCall, nCall, dCallL, nCallL, withLent, withLentN, vw, frz, dI, dI0, dB0, int2, dEq, dNe, dAdd, dSub, dIAdd, atD, gName', gTup', gNil', gCons', gLst', lenIs, retD, retN, lendK, backK, isLent, ownK, fAbs, fLen, fMax, fMin, startD, outK, shp_int, eqv_int]
    rw [← hg] at hq
    have e : ((Int.gcd x 0 : Nat) : Int) = if x < 0 then -x else x := by
      rw [Int.gcd_zero_right]; split <;> omega
    rwa [e] at hq
  · simp [sSeq, sIf, sNext, sSet, sAug, sRet, sPar, sPar3, asThree, sRaise, sAsg, sOwn, sApp, sPut, sRetN, sRetOwn, sRetU, sDrop, sBreak, sCont, dVar, dC, dOp, dTest, dCons, dNil, dTup, nLst, dNew, dNeg, dIf, dF1, dAnd, dOr, dNot, dAndV, dOrV, dNotV, dCall, nCall, dCallL, nCallL, withLent, withLentN, vw, frz, dI, dI0, dB0, int2, dEq, dNe, dAdd, dSub, dIAdd, atD, gName', gTup', gNil', gCons', gLst', lenIs, retD, retN, lendK, backK, isLent, ownK, fAbs, fLen, fMax, fMin, startD, outK, shp_int, eqv_int, hy]
    refine ⟨(x.fmod y).natAbs, ?_, y, x.fmod y, ⟨rfl, rfl⟩, rfl, ?_⟩
    · rcases Int.lt_or_gt_of_ne hy with h | h
      · have h1 := Int.fmod_nonneg_of_pos (-x) (show 0 < -y by omega)
        have h2 := Int.fmod_lt_of_pos (-x) (show 0 < -y by omega)
        rw [Int.neg_fmod_neg] at h1 h2
        omega
      · have h1 := Int.fmod_nonneg_of_pos x h
        have h2 := Int.fmod_lt_of_pos x h
        omega
    · rw [← hg]
      have e : x.fmod y = x - y * (x.fdiv y) := by have := Int.mul_fdiv_add_fmod x y; omega
      rw [e, Int.gcd_comm x y, Int.sub_eq_add_neg, ← Int.mul_neg, Int.gcd_add_mul_left_right]
theorem newton {a f : Int} (hf : 0 < f) (ha : 0 ≤ a) (r : Int) (h : r * r ≤ a) (hr : 0 ≤ r) : r ≤ (f + a / f) / 2 := by
  rcases Int.lt_or_le ((f + a / f) / 2) r with z | z
  · have h1 : f + a / f ≤ 2 * r - 1 := by omega
    have h2 : a < f * (a / f + 1) := by
      have := Int.lt_mul_ediv_self_add (x := a) hf
      grind
    have h3 : f * (a / f + 1) ≤ f * (2 * r - f) := Int.mul_le_mul_of_nonneg_left (by omega) (by omega)
    have h4 := sq_nn (r - f)
    grind
  · exact z
theorem Bd.two {i : Int} (h0 : 0 ≤ i) (h : i < 4) : Bd 2 i := by unfold Bd; omega
theorem Bd.of {n : Nat} {i j : Int} (h : Bd n j) (h0 : 0 ≤ i) (h1 : i ≤ j) : Bd n i := by unfold Bd at *; omega
theorem pure_without_squares (α : List SD) (QD : Ret → List SD → Prop) (ED : Exd → List SD → Prop) (W : WD) (hW : W = fun e ρ => outK α ρ fun α' => ED e α') (h : p_without_squares α QD ED) : r_without_squares W (DEnd α QD) (startD n_without_squares.length α) := by
  obtain ⟨a, rfl, ha, hB, hq⟩ := h
  unfold r_without_squares DEnd
  have B2 : Bd 4003 (4 * a) := by
    have := (show Bd 3 4 by unfold Bd; decide).mul hB
    exact this.mono (by omega)
  have Ba : ∀ {i : Int}, 0 ≤ i → i ≤ 4 * a → Bd 4003 i := fun h0 h1 => B2.of h0 h1
  simp [sSeq, sIf, sNext, sSet, sAug, sRet, sPar, sPar3, asThree, sRaise, sAsg, sOwn, sApp, sPut, sRetN, sRetOwn, sRetU, sDrop, sBreak, sCont, dVar, dC, dOp, dTest, dCons, dNil, dTup, nLst, dNew, dNeg, dIf, dF1, dAnd, dOr, dNot, dAndV, dOrV, dNotV, dCall, nCall, dCallL, nCallL, withLent, withLentN, vw, frz, dI, dI0, dB0, int2, dEq, dNe, dAdd, dSub, dIAdd, atD, gName', gTup', gNil', gCons', gLst', lenIs, retD, retN, lendK, backK, isLent, ownK, fAbs, fLen, fMax, fMin, startD, outK, shp_int, eqv_int, n_without_squares]
  refine ⟨fun m ρ => ∃ f r p : Int, ρ = [iv a, iv f, iv r, iv p] ∧ 0 < f ∧ 0 < r ∧ 1 < p ∧ p ≤ a + 1 + 1 ∧ f * f * r = a ∧ (∀ k : Int, 1 < k → k < p → ¬ (k * k ∣ r)) ∧ m = (a + 2 - p).natAbs, ⟨_, 1, a, 2, rfl, by omega, ha, by omega, by omega, by omega, fun k h1 h2 => by omega, rfl⟩, ?_⟩
  rintro _ _ ⟨f, r, p, rfl, f0, r0, p1, pa, e, hs, rfl⟩
  have ff : 1 ≤ f * f := by have := Int.mul_pos f0 f0; omega
  have ra : r ≤ a := by
    have := Int.mul_le_mul_of_nonneg_right ff (show 0 ≤ r by omega)
    omega
  have fa : f ≤ a := by
    have h1 := Int.mul_le_mul_of_nonneg_left (show 1 ≤ f by omega) (show 0 ≤ f by omega)
    have h2 := Int.mul_le_mul_of_nonneg_left (show 1 ≤ r by omega) (show 0 ≤ f * f by omega)
    omega
  have Bp : Bd 4003 p := Ba (by omega) (by omega)
  simp [sSeq, sIf, sNext, sSet, sAug, sRet, sPar, sPar3, asThree, sRaise, sAsg, sOwn, sApp, sPut, sRetN, sRetOwn, sRetU, sDrop, sBreak, sCont, dVar, dC, dOp, dTest, dCons, dNil, dTup, nLst, dNew, dNeg, dIf, dF1, dAnd, dOr, dNot, dAndV, dOrV, dNotV, dCall, nCall, dCallL, nCallL, withLent, withLentN, vw, frz, dI, dI0, dB0, int2, dEq, dNe, dAdd, dSub, dIAdd, atD, gName', gTup', gNil', gCons', gLst', lenIs, retD, retN, lendK, backK, isLent, ownK, fAbs, fLen, fMax, fMin, startD, outK, shp_int, eqv_int]
  refine ⟨Bp.cm Bp (by omega), ?_⟩
  by_cases hpp : p * p ≤ r
  · simp [sSeq, sIf, sNext, sSet, sAug, sRet, sPar, sPar3, asThree, sRaise, sAsg, sOwn, sApp, sPut, sRetN, sRetOwn, sRetU, sDrop, sBreak, sCont, dVar, dC, dOp, dTest, dCons, dNil, dTup, nLst, dNew, dNeg, dIf, dF1, dAnd, dOr, dNot, dAndV, dOrV, dNotV, dCall, nCall, dCallL, nCallL, withLent, withLentN, vw, frz, dI, dI0, dB0, int2, dEq, dNe, dAdd, dSub, dIAdd, atD, gName', gTup', gNil', gCons', gLst', lenIs, retD, retN, lendK, backK, isLent, ownK, fAbs, fLen, fMax, fMin, startD, outK, shp_int, eqv_int, hpp]
    have hpa : p ≤ a := by
      have := Int.mul_le_mul_of_nonneg_left (show 1 ≤ p by omega) (show 0 ≤ p by omega)
      omega
    have p0 : 0 < p * p := Int.mul_pos (by omega) (by omega)
    refine ⟨fun m ρ => ∃ f r : Int, ρ = [iv a, iv f, iv r, iv p] ∧ 0 < f ∧ 0 < r ∧ f * f * r = a ∧ (∀ k : Int, 1 < k → k < p → ¬ (k * k ∣ r)) ∧ m = r.natAbs, ⟨_, f, r, rfl, f0, r0, e, hs, rfl⟩, ?_⟩
    rintro _ _ ⟨f', r', rfl, f0, r0, e, hs, rfl⟩
    have fm : (r'.fmod (p * p) = 0) ↔ (p * p ∣ r') := by rw [fm_pos p0, ← Int.dvd_iff_emod_eq_zero]
    have ff : 1 ≤ f' * f' := by have := Int.mul_pos f0 f0; omega
    have ra : r' ≤ a := by
      have := Int.mul_le_mul_of_nonneg_right ff (show 0 ≤ r' by omega)
      omega
    have fa : f' ≤ a := by
      have h1 := Int.mul_le_mul_of_nonneg_left (show 1 ≤ f' by omega) (show 0 ≤ f' by omega)
      have h2 := Int.mul_le_mul_of_nonneg_left (show 1 ≤ r' by omega) (show 0 ≤ f' * f' by omega)
      omega
    simp [sSeq, sIf, sNext, sSet, sAug, sRet, sPar, sPar3, asThree, sRaise, sAsg, sOwn, sApp, sPut, sRetN, sRetOwn, sRetU, sDrop, sBreak, sCont, dVar, dC, dOp, dTest, dCons, dNil, dTup, nLst, dNew, dNeg, dIf, dF1, dAnd, dOr, dNot, dAndV, dOrV, dNotV, dCall, nCall, dCallL, nCallL, withLent, withLentN, vw, frz, dI, dI0, dB0, int2, dEq, dNe, dAdd, dSub, dIAdd, atD, gName', gTup', gNil', gCons', gLst', lenIs, retD, retN, lendK, backK, isLent, ownK, fAbs, fLen, fMax, fMin, startD, outK, shp_int, eqv_int]
    refine ⟨Bp.cm Bp (by omega), by omega, ?_⟩
    by_cases hd : p * p ∣ r'
    · have hd' := fm.mpr hd
      simp [sSeq, sIf, sNext, sSet, sAug, sRet, sPar, sPar3, asThree, sRaise, sAsg, sOwn, sApp, sPut, sRetN, sRetOwn, sRetU, sDrop, sBreak, sCont, dVar, dC, dOp, dTest, dCons, dNil, dTup, nLst, dNew, dNeg, dIf, dF1, dAnd, dOr, dNot, dAndV, dOrV, dNotV, dCall, nCall, dCallL, nCallL, withLent, withLentN, vw, frz, dI, dI0, dB0, int2, dEq, dNe, dAdd, dSub, dIAdd, atD, gName', gTup', gNil', gCons', gLst', lenIs, retD, retN, lendK, backK, isLent, ownK, fAbs, fLen, fMax, fMin, startD, outK, shp_int, eqv_int, hd']
      obtain ⟨t, rfl⟩ := hd
      have t0 : 0 < t := by
        rcases Int.lt_or_le 0 t with z | z
        · exact z
        · have := Int.mul_nonpos_of_nonneg_of_nonpos (show 0 ≤ p * p by omega) z
          omega
      have et : (p * p * t).fdiv (p * p) = t := by rw [fd_pos p0, Int.mul_ediv_cancel_left _ (by omega)]
      have B9 : Bd 8006 (p * p) := (Bp.mul Bp).mono (by omega)
      refine ⟨Bp.cm Bp (by omega), ⟨by omega, B9.log (by omega)⟩, (Ba (by omega) (by omega)).cm Bp (by omega), ?_⟩
      rw [et]
      have lt : t < p * p * t := by
        have h4 : 4 ≤ p * p := by
          have := Int.mul_le_mul (show 2 ≤ p by omega) (show 2 ≤ p by omega) (by omega) (by omega)
          omega
        have := Int.mul_le_mul_of_nonneg_right h4 (show 0 ≤ t by omega)
        omega
      refine ⟨_, ?_, f' * p, t, ⟨rfl, rfl⟩, Int.mul_pos f0 (by omega), t0, by rw [← e]; grind, fun k h1 h2 hk => hs k h1 h2 (Int.dvd_trans hk (Int.dvd_mul_left _ _)), rfl⟩
      omega
    · have hd' : ¬ (r'.fmod (p * p) = 0) := fun z => hd (fm.mp z)
      simp [sSeq, sIf, sNext, sSet, sAug, sRet, sPar, sPar3, asThree, sRaise, sAsg, sOwn, sApp, sPut, sRetN, sRetOwn, sRetU, sDrop, sBreak, sCont, dVar, dC, dOp, dTest, dCons, dNil, dTup, nLst, dNew, dNeg, dIf, dF1, dAnd, dOr, dNot, dAndV, dOrV, dNotV, dCall, nCall, dCallL, nCallL, withLent, withLentN, vw, frz, dI, dI0, dB0, int2, dEq, dNe, dAdd, dSub, dIAdd, atD, gName', gTup', gNil', gCons', gLst', lenIs, retD, retN, lendK, backK, isLent, ownK, fAbs, fLen, fMax, fMin, startD, outK, shp_int, eqv_int, hd']
      refine ⟨_, ?_, f', r', p + 1, ⟨rfl, rfl, rfl⟩, f0, r0, by omega, by omega, e, fun k h1 h2 => ?_, rfl⟩
      · omega
      · by_cases hk : k = p
        · rw [hk]; exact hd
        · exact hs k h1 (by omega)
  · simp [sSeq, sIf, sNext, sSet, sAug, sRet, sPar, sPar3, asThree, sRaise, sAsg, sOwn, sApp, sPut, sRetN, sRetOwn, sRetU, sDrop, sBreak, sCont, dVar, dC, dOp, dTest, dCons, dNil, dTup, nLst, dNew, dNeg, dIf, dF1, dAnd, dOr, dNot, dAndV, dOrV, dNotV, dCall, nCall, dCallL, nCallL, withLent, withLentN, vw, frz, dI, dI0, dB0, int2, dEq, dNe, dAdd, dSub, dIAdd, atD, gName', gTup', gNil', gCons', gLst', lenIs, retD, retN, lendK, backK, isLent, ownK, fAbs, fLen, fMax, fMin, startD, outK, shp_int, eqv_int, hpp]
    refine ⟨by decide, hq f r f0 r0 e fun k hk hd => ?_⟩
    have h3 : k * k ≤ r := Int.le_of_dvd r0 hd
    rcases Int.lt_or_le k p with z | z
    · exact hs k hk z hd
    · have := Int.mul_le_mul z z (by omega) (by omega)
      omega
end KK

set_option maxHeartbeats 1000000
namespace KK
open PySem PySem.Spec PyProof.Rows L2 DL
theorem gc_bd {p q s : Int} {n : Nat} (hs : s ≠ 0) (h : Bd n s) : Bd n (gc p q s) := by
  have h1 : (gc p q s).natAbs ≤ s.natAbs := Nat.le_of_dvd (by omega) (Int.natAbs_dvd_natAbs.mpr gc_ds)
  unfold Bd at *
  omega
theorem gc_int (p q s : Int) : ((Int.gcd ((Int.gcd p q : Nat) : Int) s : Nat) : Int) = gc p q s := by
  unfold gc Int.gcd
  rw [Int.natAbs_natCast]
theorem low_q {p q d s : Int} (hs : s ≠ 0) : (low p q d s).q = 0 ↔ q = 0 := by
  obtain ⟨k, hk, _, h2, _⟩ := low_spec (p := p) (q := q) d hs
  constructor
  · intro h; rw [h2, h, Int.mul_zero]
  · intro h; rw [h] at h2 ⊢; rcases Int.mul_eq_zero.mp h2.symm with z | z; exact absurd z hk; exact z
end KK

set_option maxHeartbeats 1000000
namespace KK
open PySem PySem.Spec PyProof.Rows L2 DL
theorem pure_root_of {k_OtherRoot : Addr} (α : List SD) (QD : Ret → List SD → Prop) (ED : Exd → List SD → Prop) (W : WD) (hW : W = fun e ρ => outK α ρ fun α' => ED e α') (h : p_root_of α QD ED) : r_root_of W k_OtherRoot (DEnd α QD) (startD n_root_of.length α) := by
  obtain ⟨x, y, rfl, hr, hq⟩ := h
  unfold r_root_of DEnd
  unfold nmax at hq
  unfold rts at hr
  simp [sSeq, sIf, sNext, sSet, sAug, sRet, sPar, sPar3, asThree, sRaise, sAsg, sOwn, sApp, sPut, sRetN, sRetOwn, sRetU, sDrop, sBreak, sCont, dVar, dC, dOp, dTest, dCons, dNil, dTup, nLst, dNew, dNeg, dIf, dF1, dAnd, dOr, dNot, dAndV, dOrV, dNotV, dCall, nCall, dCallL, nCallL, withLent, withLentN, vw, frz, dI, dI0, dB0, int2, dEq, dNe, dAdd, dSub, dIAdd, atD, gName', gTup', gNil', gCons', gLst', lenIs, retD, retN, lendK, backK, isLent, ownK, fAbs, fLen, fMax, fMin, startD, outK, shp_int, eqv_int, atI, ixN, Nu.D, n_root_of] at hq ⊢
  by_cases h1 : x.d = 0
  · simp [sSeq, sIf, sNext, sSet, sAug, sRet, sPar, sPar3, asThree, sRaise, sAsg, sOwn, sApp, sPut, sRetN, sRetOwn, sRetU, sDrop, sBreak, sCont, dVar, dC, dOp, dTest, dCons, dNil, dTup, nLst, dNew, dNeg, dIf, dF1, dAnd, dOr, dNot, dAndV, dOrV, dNotV, dCall, nCall, dCallL, nCallL, withLent, withLentN, vw, frz, dI, dI0, dB0, int2, dEq, dNe, dAdd, dSub, dIAdd, atD, gName', gTup', gNil', gCons', gLst', lenIs, retD, retN, lendK, backK, isLent, ownK, fAbs, fLen, fMax, fMin, startD, outK, shp_int, eqv_int, atI, ixN, h1] at hq ⊢
    exact hq
  · by_cases h2 : y.d = 0
    · simp [sSeq, sIf, sNext, sSet, sAug, sRet, sPar, sPar3, asThree, sRaise, sAsg, sOwn, sApp, sPut, sRetN, sRetOwn, sRetU, sDrop, sBreak, sCont, dVar, dC, dOp, dTest, dCons, dNil, dTup, nLst, dNew, dNeg, dIf, dF1, dAnd, dOr, dNot, dAndV, dOrV, dNotV, dCall, nCall, dCallL, nCallL, withLent, withLentN, vw, frz, dI, dI0, dB0, int2, dEq, dNe, dAdd, dSub, dIAdd, atD, gName', gTup', gNil', gCons', gLst', lenIs, retD, retN, lendK, backK, isLent, ownK, fAbs, fLen, fMax, fMin, startD, outK, shp_int, eqv_int, atI, ixN, h1, h2] at hq ⊢
      exact hq
    · have h3 := hr h1 h2
      rw [h3] at hq ⊢
      simp [sSeq, sIf, sNext, sSet, sAug, sRet, sPar, sPar3, asThree, sRaise, sAsg, sOwn, sApp, sPut, sRetN, sRetOwn, sRetU, sDrop, sBreak, sCont, dVar, dC, dOp, dTest, dCons, dNil, dTup, nLst, dNew, dNeg, dIf, dF1, dAnd, dOr, dNot, dAndV, dOrV, dNotV, dCall, nCall, dCallL, nCallL, withLent, withLentN, vw, frz, dI, dI0, dB0, int2, dEq, dNe, dAdd, dSub, dIAdd, atD, gName', gTup', gNil', gCons', gLst', lenIs, retD, retN, lendK, backK, isLent, ownK, fAbs, fLen, fMax, fMin, startD, outK, shp_int, eqv_int, atI, ixN, h2] at hq ⊢
      exact hq
theorem low_n0 {p q d s : Int} (hs : s ≠ 0) : (low p q d s).s ≠ 0 := by
  obtain ⟨k, hk, _, _, h3, h4⟩ := low_spec (p := p) (q := q) d hs
  omega
theorem low_bd {p q d s : Int} {n : Nat} (hs : s ≠ 0) (h1 : Bd n p) (h2 : Bd n q) (h3 : Bd n d) (h4 : Bd n s) : Nb n (low p q d s) := by
  obtain ⟨k, hk, e1, e2, e3, _⟩ := low_spec (p := p) (q := q) d hs
  have one : ∀ {a b : Int}, Bd n a → a = k * b → Bd n b := fun {a b} h e => by
    unfold Bd at *
    rw [e, Int.natAbs_mul] at h
    have := Nat.le_mul_of_pos_left b.natAbs (show 0 < k.natAbs by omega)
    omega
  refine ⟨one h1 e1, one h2 e2, ?_, one h4 e3⟩
  rw [low_dd hs]
  split
  · unfold Bd; exact Nat.pow_pos (by decide)
  · exact h3
theorem sos_q0 (p d : Int) : sos p 0 d = sgi p := by
  unfold sos
  have : (if 0 < d then sgi 0 else 0) = 0 := by split <;> rfl
  simp [sSeq, sIf, sNext, sSet, sAug, sRet, sPar, sPar3, asThree, sRaise, sAsg, sOwn, sApp, sPut, sRetN, sRetOwn, sRetU, sDrop, sBreak, sCont, dVar, dC, dOp, dTest, dCons, dNil, dTup, nLst, dNew, dNeg, dIf, dF1, dAnd, dOr, dNot, dAndV, dOrV, dNotV, dCall, nCall, dCallL, nCallL, withLent, withLentN, vw, frz, dI, dI0, dB0, int2, dEq, dNe, dAdd, dSub, dIAdd, atD, gName', gTup', gNil', gCons', gLst', lenIs, retD, retN, lendK, backK, isLent, ownK, fAbs, fLen, fMax, fMin, startD, outK, shp_int, eqv_int, atI, ixN, this]
end KK

set_option maxHeartbeats 1000000
namespace KK
open PySem PySem.Spec L2 DL
theorem forD_inv {g : TGD} {t : TSD} {D : DEnds} (Inv : Nat → DSt → Prop) : ∀ (items : List PyData) (ρ : DSt), Inv items.length ρ → (∀ k x ρ (N : DSt → Prop), x ∈ items → (∀ ρ', Inv k ρ' → N ρ') → Inv (k + 1) ρ → g x ρ fun ρ1 => t { D with nx := N, ct := N, bk := D.nx } ρ1) →
    (∀ ρ, Inv 0 ρ → D.nx ρ) → forD g t D items ρ
  | [], ρ, h, _, fin => fin ρ h
  | x :: xs, ρ, h, step, fin => step xs.length x ρ (forD g t D xs) List.mem_cons_self (fun ρ' h' => forD_inv Inv xs ρ' h' (fun k y ρ N hy => step k y ρ N (List.mem_cons_of_mem _ hy)) fin) h
theorem range1_mem {n : Int} {x : PyData} (h : x ∈ (List.range n.toNat).map fun (k : Nat) => PyData.int (k : Int)) : ∃ k : Int, x = .int k ∧ 0 ≤ k ∧ k < n := by
  obtain ⟨k, hk, rfl⟩ := List.mem_map.mp h
  rw [List.mem_range] at hk
  exact ⟨k, rfl, by omega, by omega⟩
theorem cm_of {i j : Int} (a b : Nat) (h1 : i.natAbs < 2 ^ a) (h2 : j.natAbs < 2 ^ b) (e : a + b ≤ 999990) : CMulW i j := Bd.cm (n := a) (m := b) h1 h2 e
theorem pure__law_stirred (α : List SD) (QD : Ret → List SD → Prop) (ED : Exd → List SD → Prop) (W : WD) (hW : W = fun e ρ => outK α ρ fun α' => ED e α') (h : p__law_stirred α QD ED) : r__law_stirred W (DEnd α QD) (startD n__law_stirred.length α) := by
  obtain ⟨c, p, rfl, p0, p1, c0, c1, hq⟩ := h
  unfold r__law_stirred DEnd
  simp [sSeq, sIf, sNext, sSet, sAug, sRet, sPar, sPar3, asThree, sRaise, sAsg, sOwn, sApp, sPut, sRetN, sRetOwn, sRetU, sDrop, sBreak, sCont, dVar, dC, dOp, dTest, dCons, dNil, dTup, nLst, dNew, dNeg, dIf, dF1, dAnd, dOr, dNot, dAndV, dOrV, dNotV, dCall, nCall, dCallL, nCallL, withLent, withLentN, vw, frz, dI, dI0, dB0, int2, dEq, dNe, dAdd, dSub, dIAdd, atD, gName', gTup', gNil', gCons', gLst', lenIs, retD, retN, lendK, backK, isLent, ownK, fAbs, fLen, fMax, fMin, startD, outK, shp_int, eqv_int, n__law_stirred]
  refine ⟨cm_of 60 62 (by omega) (by decide) (by omega), cm_of 60 62 (by omega) (by decide) (by omega), ?_⟩
  refine ⟨by decide, by decide, ?_⟩
  refine forD_inv (fun _ ρ => ∃ v t, ρ = [iv c, iv p, iv 1180591620717411303449, iv v, t] ∧ 0 ≤ v ∧ v < 1180591620717411303449) _ _ ⟨_, _, rfl, ?_, ?_⟩ ?_ ?_
  · exact Int.fmod_nonneg_of_pos _ (by decide)
  · exact Int.fmod_lt_of_pos _ (by decide)
  · rintro _ x _ N hx hN ⟨v, t, rfl, v0, v1⟩
    obtain ⟨k, rfl, k0, k1⟩ := range1_mem hx
    simp [sSeq, sIf, sNext, sSet, sAug, sRet, sPar, sPar3, asThree, sRaise, sAsg, sOwn, sApp, sPut, sRetN, sRetOwn, sRetU, sDrop, sBreak, sCont, dVar, dC, dOp, dTest, dCons, dNil, dTup, nLst, dNew, dNeg, dIf, dF1, dAnd, dOr, dNot, dAndV, dOrV, dNotV, dCall, nCall, dCallL, nCallL, withLent, withLentN, vw, frz, dI, dI0, dB0, int2, dEq, dNe, dAdd, dSub, dIAdd, atD, gName', gTup', gNil', gCons', gLst', lenIs, retD, retN, lendK, backK, isLent, ownK, fAbs, fLen, fMax, fMin, startD, outK, shp_int, eqv_int]
    refine ⟨cm_of 80 80 (by omega) (by omega) (by omega), cm_of 80 80 (by decide) (by omega) (by omega), cm_of 80 80 (by decide) (by omega) (by omega), ?_⟩
    exact hN _ ⟨_, _, rfl, Int.fmod_nonneg_of_pos _ (by decide), Int.fmod_lt_of_pos _ (by decide)⟩
  · rintro _ ⟨v, t, rfl, v0, v1⟩
    simp [sSeq, sIf, sNext, sSet, sAug, sRet, sPar, sPar3, asThree, sRaise, sAsg, sOwn, sApp, sPut, sRetN, sRetOwn, sRetU, sDrop, sBreak, sCont, dVar, dC, dOp, dTest, dCons, dNil, dTup, nLst, dNew, dNeg, dIf, dF1, dAnd, dOr, dNot, dAndV, dOrV, dNotV, dCall, nCall, dCallL, nCallL, withLent, withLentN, vw, frz, dI, dI0, dB0, int2, dEq, dNe, dAdd, dSub, dIAdd, atD, gName', gTup', gNil', gCons', gLst', lenIs, retD, retN, lendK, backK, isLent, ownK, fAbs, fLen, fMax, fMin, startD, outK, shp_int, eqv_int]
    exact ⟨cm_of 80 80 (by omega) (by decide) (by omega), cm_of 80 80 (by omega) (by decide) (by omega), hq _⟩
theorem lc_abs (s0 s1 s2 : SD) (Q : List PyData → DSt → Prop) : ∀ (ns : List Int) (acc : List PyData), acc.length + ns.length ≤ 1000 → Q (acc ++ ns.map fun n => .int (if n < 0 then -n else n)) [s0, s1, s2, .no] → lcD [3] (gName' 3) dYes (dF1 fAbs (dVar 3)) (ns.map PyData.int) acc [s0, s1, s2, .no] Q
  | [], acc, _, h => by simpa [sSeq, sIf, sNext, sSet, sAug, sRet, sPar, sPar3, asThree, sRaise, sAsg, sOwn, sApp, sPut, sRetN, sRetOwn, sRetU, sDrop, sBreak, sCont, dVar, dC, dOp, dTest, dCons, dNil, dTup, nLst, dNew, dNeg, dIf, dF1, dAnd, dOr, dNot, dAndV, dOrV, dNotV, dCall, nCall, dCallL, nCallL, withLent, withLentN, vw, frz, dI, dI0, dB0, int2, dEq, dNe, dAdd, dSub, dIAdd, atD, gName', gTup', gNil', gCons', gLst', lenIs, retD, retN, lendK, backK, isLent, ownK, fAbs, fLen, fMax, fMin, startD, outK, shp_int, eqv_int, lcD] using h
  | n :: ns, acc, hl, h => by
    simp only [List.length_cons] at hl
    have ih := lc_abs s0 s1 s2 Q ns (acc ++ [.int (if n < 0 then -n else n)]) (by simp [sSeq, sIf, sNext, sSet, sAug, sRet, sPar, sPar3, asThree, sRaise, sAsg, sOwn, sApp, sPut, sRetN, sRetOwn, sRetU, sDrop, sBreak, sCont, dVar, dC, dOp, dTest, dCons, dNil, dTup, nLst, dNew, dNeg, dIf, dF1, dAnd, dOr, dNot, dAndV, dOrV, dNotV, dCall, nCall, dCallL, nCallL, withLent, withLentN, vw, frz, dI, dI0, dB0, int2, dEq, dNe, dAdd, dSub, dIAdd, atD, gName', gTup', gNil', gCons', gLst', lenIs, retD, retN, lendK, backK, isLent, ownK, fAbs, fLen, fMax, fMin, startD, outK, shp_int, eqv_int]; omega) (by simpa [sSeq, sIf, sNext, sSet, sAug, sRet, sPar, sPar3, asThree, sRaise, sAsg, sOwn, sApp, sPut, sRetN, sRetOwn, sRetU, sDrop, sBreak, sCont, dVar, dC, dOp, dTest, dCons, dNil, dTup, nLst, dNew, dNeg, dIf, dF1, dAnd, dOr, dNot, dAndV, dOrV, dNotV, dCall, nCall, dCallL, nCallL, withLent, withLentN, vw, frz, dI, dI0, dB0, int2, dEq, dNe, dAdd, dSub, dIAdd, atD, gName', gTup', gNil', gCons', gLst', lenIs, retD, retN, lendK, backK, isLent, ownK, fAbs, fLen, fMax, fMin, startD, outK, shp_int, eqv_int] using h)
    have hz : acc.length < sizeLine := Nat.lt_of_lt_of_le (show acc.length < 1001 by omega) (by rw [sizeLine_eq]; decide)
    simp [sSeq, sIf, sNext, sSet, sAug, sRet, sPar, sPar3, asThree, sRaise, sAsg, sOwn, sApp, sPut, sRetN, sRetOwn, sRetU, sDrop, sBreak, sCont, dVar, dC, dOp, dTest, dCons, dNil, dTup, nLst, dNew, dNeg, dIf, dF1, dAnd, dOr, dNot, dAndV, dOrV, dNotV, dCall, nCall, dCallL, nCallL, withLent, withLentN, vw, frz, dI, dI0, dB0, int2, dEq, dNe, dAdd, dSub, dIAdd, atD, gName', gTup', gNil', gCons', gLst', lenIs, retD, retN, lendK, backK, isLent, ownK, fAbs, fLen, fMax, fMin, startD, outK, shp_int, eqv_int, lcD, dYes, wipeD, hz]
    exact ih
theorem cutD_map {α β : Type} (f : α → β) (xs : List α) (lo hi : Option Int) : cutD (xs.map f) lo hi = (cutD xs lo hi).map f := by
  unfold cutD
  simp [sSeq, sIf, sNext, sSet, sAug, sRet, sPar, sPar3, asThree, sRaise, sAsg, sOwn, sApp, sPut, sRetN, sRetOwn, sRetU, sDrop, sBreak, sCont, dVar, dC, dOp, dTest, dCons, dNil, dTup, nLst, dNew, dNeg, dIf, dF1, dAnd, dOr, dNot, dAndV, dOrV, dNotV, dCall, nCall, dCallL, nCallL, withLent, withLentN, vw, frz, dI, dI0, dB0, int2, dEq, dNe, dAdd, dSub, dIAdd, atD, gName', gTup', gNil', gCons', gLst', lenIs, retD, retN, lendK, backK, isLent, ownK, fAbs, fLen, fMax, fMin, startD, outK, shp_int, eqv_int, List.map_take, List.map_drop]
theorem cut_len {α : Type} (xs : List α) (lo hi : Option Int) : (cutD xs lo hi).length = min (HT.sIx xs.length xs.length hi - HT.sIx xs.length 0 lo) (xs.length - HT.sIx xs.length 0 lo) := by
  unfold cutD
  simp [sSeq, sIf, sNext, sSet, sAug, sRet, sPar, sPar3, asThree, sRaise, sAsg, sOwn, sApp, sPut, sRetN, sRetOwn, sRetU, sDrop, sBreak, sCont, dVar, dC, dOp, dTest, dCons, dNil, dTup, nLst, dNew, dNeg, dIf, dF1, dAnd, dOr, dNot, dAndV, dOrV, dNotV, dCall, nCall, dCallL, nCallL, withLent, withLentN, vw, frz, dI, dI0, dB0, int2, dEq, dNe, dAdd, dSub, dIAdd, atD, gName', gTup', gNil', gCons', gLst', lenIs, retD, retN, lendK, backK, isLent, ownK, fAbs, fLen, fMax, fMin, startD, outK, shp_int, eqv_int]
theorem wipe3 (a b c d : SD) : wipeD [a, b, c, d] [3] = [a, b, c, .no] := rfl
theorem scrK_at {ρ : DSt} {i : Nat} {ns : List Int} {k : List Int → Prop} (h : ρ[i]? = some (.res true (scriptR ns))) (q : k ns) : scrK ρ i k := ⟨ns, h, q⟩
theorem enum_mem {x : PyData} {cs : List Int} (h : x ∈ enumD (cs.map PyData.int)) : ∃ (i : Nat) (c : Int), x = .tuple [.int i, .int c] ∧ i < cs.length := by
  unfold enumD at h
  obtain ⟨⟨d, i⟩, hm, rfl⟩ := List.mem_map.mp h
  obtain ⟨h1, h2, h3⟩ := List.mem_zipIdx hm
  simp [sSeq, sIf, sNext, sSet, sAug, sRet, sPar, sPar3, asThree, sRaise, sAsg, sOwn, sApp, sPut, sRetN, sRetOwn, sRetU, sDrop, sBreak, sCont, dVar, dC, dOp, dTest, dCons, dNil, dTup, nLst, dNew, dNeg, dIf, dF1, dAnd, dOr, dNot, dAndV, dOrV, dNotV, dCall, nCall, dCallL, nCallL, withLent, withLentN, vw, frz, dI, dI0, dB0, int2, dEq, dNe, dAdd, dSub, dIAdd, atD, gName', gTup', gNil', gCons', gLst', lenIs, retD, retN, lendK, backK, isLent, ownK, fAbs, fLen, fMax, fMin, startD, outK, shp_int, eqv_int, wipe3] at h2 h3
  exact ⟨i, cs[i], by simp [sSeq, sIf, sNext, sSet, sAug, sRet, sPar, sPar3, asThree, sRaise, sAsg, sOwn, sApp, sPut, sRetN, sRetOwn, sRetU, sDrop, sBreak, sCont, dVar, dC, dOp, dTest, dCons, dNil, dTup, nLst, dNew, dNeg, dIf, dF1, dAnd, dOr, dNot, dAndV, dOrV, dNotV, dCall, nCall, dCallL, nCallL, withLent, withLentN, vw, frz, dI, dI0, dB0, int2, dEq, dNe, dAdd, dSub, dIAdd, atD, gName', gTup', gNil', gCons', gLst', lenIs, retD, retN, lendK, backK, isLent, ownK, fAbs, fLen, fMax, fMin, startD, outK, shp_int, eqv_int, wipe3, h3], by omega⟩
theorem ixN_ok {n : Nat} {z : Int} (h0 : 0 ≤ z) (h1 : z < n) : ixN n z = some z.toNat := by unfold ixN; rw [if_pos h0, if_pos h1]
theorem atI_int {ms : List Int} {z : Int} (h0 : 0 ≤ z) (h1 : z < ms.length) : ∃ y, atI (ms.map PyData.int) z = some (.int y) := by
  unfold atI
  rw [List.length_map, ixN_ok h0 h1]
  have : z.toNat < ms.length := by omega
  exact ⟨ms[z.toNat], by simp [sSeq, sIf, sNext, sSet, sAug, sRet, sPar, sPar3, asThree, sRaise, sAsg, sOwn, sApp, sPut, sRetN, sRetOwn, sRetU, sDrop, sBreak, sCont, dVar, dC, dOp, dTest, dCons, dNil, dTup, nLst, dNew, dNeg, dIf, dF1, dAnd, dOr, dNot, dAndV, dOrV, dNotV, dCall, nCall, dCallL, nCallL, withLent, withLentN, vw, frz, dI, dI0, dB0, int2, dEq, dNe, dAdd, dSub, dIAdd, atD, gName', gTup', gNil', gCons', gLst', lenIs, retD, retN, lendK, backK, isLent, ownK, fAbs, fLen, fMax, fMin, startD, outK, shp_int, eqv_int, wipe3, this]⟩
theorem pure__law_spool_of (α : List SD) (QD : Ret → List SD → Prop) (ED : Exd → List SD → Prop) (W : WD) (hW : W = fun e ρ => outK α ρ fun α' => ED e α') (h : p__law_spool_of α QD ED) : r__law_spool_of W (DEnd α QD) (startD n__law_spool_of.length α) := by
  obtain ⟨ns, rfl, hl, hq⟩ := h
  unfold r__law_spool_of DEnd
  simp [sSeq, sIf, sNext, sSet, sAug, sRet, sPar, sPar3, asThree, sRaise, sAsg, sOwn, sApp, sPut, sRetN, sRetOwn, sRetU, sDrop, sBreak, sCont, dVar, dC, dOp, dTest, dCons, dNil, dTup, nLst, dNew, dNeg, dIf, dF1, dAnd, dOr, dNot, dAndV, dOrV, dNotV, dCall, nCall, dCallL, nCallL, withLent, withLentN, vw, frz, dI, dI0, dB0, int2, dEq, dNe, dAdd, dSub, dIAdd, atD, gName', gTup', gNil', gCons', gLst', lenIs, retD, retN, lendK, backK, isLent, ownK, fAbs, fLen, fMax, fMin, startD, outK, shp_int, eqv_int, wipe3, n__law_spool_of]
  refine scrK_at rfl trivial |> fun s0 => ⟨s0, ?_⟩
  refine scrK_at rfl ?_
  have e16 : cutD (ns.map PyData.int) none (some 16) = (ns.take 16).map PyData.int := by
    rw [cutD_map]
    congr 1
    unfold DL.cutD
    rw [HT.sIx_none, show (some (16 : Int)) = some ((16 : Nat) : Int) from rfl, HT.sIx_nat]
    simp [sSeq, sIf, sNext, sSet, sAug, sRet, sPar, sPar3, asThree, sRaise, sAsg, sOwn, sApp, sPut, sRetN, sRetOwn, sRetU, sDrop, sBreak, sCont, dVar, dC, dOp, dTest, dCons, dNil, dTup, nLst, dNew, dNeg, dIf, dF1, dAnd, dOr, dNot, dAndV, dOrV, dNotV, dCall, nCall, dCallL, nCallL, withLent, withLentN, vw, frz, dI, dI0, dB0, int2, dEq, dNe, dAdd, dSub, dIAdd, atD, gName', gTup', gNil', gCons', gLst', lenIs, retD, retN, lendK, backK, isLent, ownK, fAbs, fLen, fMax, fMin, startD, outK, shp_int, eqv_int, wipe3]
    try rw [List.take_eq_take_iff]
    try omega
  rw [e16]
  refine lc_abs _ _ _ _ _ _ (by simp [sSeq, sIf, sNext, sSet, sAug, sRet, sPar, sPar3, asThree, sRaise, sAsg, sOwn, sApp, sPut, sRetN, sRetOwn, sRetU, sDrop, sBreak, sCont, dVar, dC, dOp, dTest, dCons, dNil, dTup, nLst, dNew, dNeg, dIf, dF1, dAnd, dOr, dNot, dAndV, dOrV, dNotV, dCall, nCall, dCallL, nCallL, withLent, withLentN, vw, frz, dI, dI0, dB0, int2, dEq, dNe, dAdd, dSub, dIAdd, atD, gName', gTup', gNil', gCons', gLst', lenIs, retD, retN, lendK, backK, isLent, ownK, fAbs, fLen, fMax, fMin, startD, outK, shp_int, eqv_int, wipe3]; omega) ?_
  simp [sSeq, sIf, sNext, sSet, sAug, sRet, sPar, sPar3, asThree, sRaise, sAsg, sOwn, sApp, sPut, sRetN, sRetOwn, sRetU, sDrop, sBreak, sCont, dVar, dC, dOp, dTest, dCons, dNil, dTup, nLst, dNew, dNeg, dIf, dF1, dAnd, dOr, dNot, dAndV, dOrV, dNotV, dCall, nCall, dCallL, nCallL, withLent, withLentN, vw, frz, dI, dI0, dB0, int2, dEq, dNe, dAdd, dSub, dIAdd, atD, gName', gTup', gNil', gCons', gLst', lenIs, retD, retN, lendK, backK, isLent, ownK, fAbs, fLen, fMax, fMin, startD, outK, shp_int, eqv_int, wipe3]
  refine scrK_at rfl trivial |> fun s0 => ⟨s0, ?_⟩
  refine scrK_at rfl ?_
  simp [sSeq, sIf, sNext, sSet, sAug, sRet, sPar, sPar3, asThree, sRaise, sAsg, sOwn, sApp, sPut, sRetN, sRetOwn, sRetU, sDrop, sBreak, sCont, dVar, dC, dOp, dTest, dCons, dNil, dTup, nLst, dNew, dNeg, dIf, dF1, dAnd, dOr, dNot, dAndV, dOrV, dNotV, dCall, nCall, dCallL, nCallL, withLent, withLentN, vw, frz, dI, dI0, dB0, int2, dEq, dNe, dAdd, dSub, dIAdd, atD, gName', gTup', gNil', gCons', gLst', lenIs, retD, retN, lendK, backK, isLent, ownK, fAbs, fLen, fMax, fMin, startD, outK, shp_int, eqv_int, wipe3]
  rw [cutD_map]
  refine forD_inv (fun _ ρ => ∃ (ms : List Int) (a b : SD), ρ = [.res true (scriptR ns), .own false (ms.map PyData.int), a, b] ∧ ms.length = min 16 ns.length) _ _ ⟨(ns.take 16).map fun n => if n < 0 then -n else n, .no, .no, by simp [sSeq, sIf, sNext, sSet, sAug, sRet, sPar, sPar3, asThree, sRaise, sAsg, sOwn, sApp, sPut, sRetN, sRetOwn, sRetU, sDrop, sBreak, sCont, dVar, dC, dOp, dTest, dCons, dNil, dTup, nLst, dNew, dNeg, dIf, dF1, dAnd, dOr, dNot, dAndV, dOrV, dNotV, dCall, nCall, dCallL, nCallL, withLent, withLentN, vw, frz, dI, dI0, dB0, int2, dEq, dNe, dAdd, dSub, dIAdd, atD, gName', gTup', gNil', gCons', gLst', lenIs, retD, retN, lendK, backK, isLent, ownK, fAbs, fLen, fMax, fMin, startD, outK, shp_int, eqv_int, wipe3, Function.comp_def], by simp [sSeq, sIf, sNext, sSet, sAug, sRet, sPar, sPar3, asThree, sRaise, sAsg, sOwn, sApp, sPut, sRetN, sRetOwn, sRetU, sDrop, sBreak, sCont, dVar, dC, dOp, dTest, dCons, dNil, dTup, nLst, dNew, dNeg, dIf, dF1, dAnd, dOr, dNot, dAndV, dOrV, dNotV, dCall, nCall, dCallL, nCallL, withLent, withLentN, vw, frz, dI, dI0, dB0, int2, dEq, dNe, dAdd, dSub, dIAdd, atD, gName', gTup', gNil', gCons', gLst', lenIs, retD, retN, lendK, backK, isLent, ownK, fAbs, fLen, fMax, fMin, startD, outK, shp_int, eqv_int, wipe3]⟩ ?_ ?_
  · rintro _ x _ N hx hN ⟨ms, a, b, rfl, hm⟩
    obtain ⟨i, c, rfl, hi⟩ := enum_mem hx
    rw [cut_len] at hi
    have hn : 16 < ns.length := by
      have h1 : HT.sIx ns.length 0 (some 16) = min 16 ns.length := HT.sIx_nat _ _ 16
      rw [h1] at hi
      omega
    have hm16 : ms.length = 16 := by omega
    have z0 := Int.fmod_nonneg_of_pos (i : Int) (show (0 : Int) < 16 by decide)
    have z1 := Int.fmod_lt_of_pos (i : Int) (show (0 : Int) < 16 by decide)
    generalize hz : (i : Int).fmod 16 = z at z0 z1
    obtain ⟨y, hy⟩ := atI_int (ms := ms) z0 (by omega)
    have ix := ixN_ok (n := ms.length) z0 (by omega)
    simp [sSeq, sIf, sNext, sSet, sAug, sRet, sPar, sPar3, asThree, sRaise, sAsg, sOwn, sApp, sPut, sRetN, sRetOwn, sRetU, sDrop, sBreak, sCont, dVar, dC, dOp, dTest, dCons, dNil, dTup, nLst, dNew, dNeg, dIf, dF1, dAnd, dOr, dNot, dAndV, dOrV, dNotV, dCall, nCall, dCallL, nCallL, withLent, withLentN, vw, frz, dI, dI0, dB0, int2, dEq, dNe, dAdd, dSub, dIAdd, atD, gName', gTup', gNil', gCons', gLst', lenIs, retD, retN, lendK, backK, isLent, ownK, fAbs, fLen, fMax, fMin, startD, outK, shp_int, eqv_int, wipe3, hz, hy, ix]
    exact hN _ ⟨ms.set z.toNat (y + if c < 0 then -c else c), iv i, iv c, by simp [sSeq, sIf, sNext, sSet, sAug, sRet, sPar, sPar3, asThree, sRaise, sAsg, sOwn, sApp, sPut, sRetN, sRetOwn, sRetU, sDrop, sBreak, sCont, dVar, dC, dOp, dTest, dCons, dNil, dTup, nLst, dNew, dNeg, dIf, dF1, dAnd, dOr, dNot, dAndV, dOrV, dNotV, dCall, nCall, dCallL, nCallL, withLent, withLentN, vw, frz, dI, dI0, dB0, int2, dEq, dNe, dAdd, dSub, dIAdd, atD, gName', gTup', gNil', gCons', gLst', lenIs, retD, retN, lendK, backK, isLent, ownK, fAbs, fLen, fMax, fMin, startD, outK, shp_int, eqv_int, wipe3, List.map_set], by simpa [sSeq, sIf, sNext, sSet, sAug, sRet, sPar, sPar3, asThree, sRaise, sAsg, sOwn, sApp, sPut, sRetN, sRetOwn, sRetU, sDrop, sBreak, sCont, dVar, dC, dOp, dTest, dCons, dNil, dTup, nLst, dNew, dNeg, dIf, dF1, dAnd, dOr, dNot, dAndV, dOrV, dNotV, dCall, nCall, dCallL, nCallL, withLent, withLentN, vw, frz, dI, dI0, dB0, int2, dEq, dNe, dAdd, dSub, dIAdd, atD, gName', gTup', gNil', gCons', gLst', lenIs, retD, retN, lendK, backK, isLent, ownK, fAbs, fLen, fMax, fMin, startD, outK, shp_int, eqv_int, wipe3] using hm⟩
  · rintro _ ⟨ms, a, b, rfl, hm⟩
    simp [sSeq, sIf, sNext, sSet, sAug, sRet, sPar, sPar3, asThree, sRaise, sAsg, sOwn, sApp, sPut, sRetN, sRetOwn, sRetU, sDrop, sBreak, sCont, dVar, dC, dOp, dTest, dCons, dNil, dTup, nLst, dNew, dNeg, dIf, dF1, dAnd, dOr, dNot, dAndV, dOrV, dNotV, dCall, nCall, dCallL, nCallL, withLent, withLentN, vw, frz, dI, dI0, dB0, int2, dEq, dNe, dAdd, dSub, dIAdd, atD, gName', gTup', gNil', gCons', gLst', lenIs, retD, retN, lendK, backK, isLent, ownK, fAbs, fLen, fMax, fMin, startD, outK, shp_int, eqv_int, wipe3]
    exact ⟨by decide, hq ⟨ms, 0, 0, 0⟩ ⟨Int.le_refl _, Int.le_refl _, by show ms.length ≤ 64; omega⟩⟩
theorem lay_ints : ∀ ns : List Int, PyData.canLayAll0 (ns.map PyData.int) = true
  | [] => rfl
  | n :: ns => by
    show (PyData.canLay0 (.int n) && PyData.canLayAll0 (ns.map PyData.int)) = true
    rw [lay_ints ns]; rfl
theorem dep_ints : ∀ ns : List Int, PyData.depthAll (ns.map PyData.int) = 0
  | [] => rfl
  | n :: ns => by
    show max (PyData.depth (.int n)) (PyData.depthAll (ns.map PyData.int)) = 0
    rw [dep_ints ns]; rfl
theorem shp_ints (ns : List Int) : SeqAt.shaped (.list (ns.map PyData.int)) = true := by
  show (PyData.canLayAll0 (ns.map PyData.int) && decide (PyData.depthAll (ns.map PyData.int) + 1 ≤ 64)) = true
  rw [lay_ints, dep_ints]; rfl
theorem shp_nil : SeqAt.shaped (.list []) = true := rfl
theorem eqv_nil (ns : List PyData) : PyData.eqv (.list ns) (.list []) = ns.isEmpty := by cases ns <;> rfl
theorem upto_fill (W : WD) (D : DEnds) (ns : List Int) (pl ce si b : Int) (h0 : 0 ≤ pl) (h1 : pl < 2 ^ 60) (hD : ∀ c : Int, D.nx [Spl.S ⟨ns, pl + 1, c, c⟩, iv b, .val (.list (ns.map PyData.int)), iv pl, iv c, .no]) (ce' : Int) :
    sSeq (sIf (dOr (dTest (dOp dGe (dVar 3) (dF1 fLen (dVar 2)))) (dTest (dOp dLt (dVar 4) (dOp dPow (dC (.int 10)) (dC (.int 15)))))) (sSet 4 (dCall p__law_stirred W (dCons (dOp dMod (dVar 4) (dC (.int 998244353))) (dCons (dVar 3) (dNil))))) (sNext)) (sSeq (sPut 0 (dOp dAdd (dVar 3) (dC (.int 1))) (dC (.int 1))) (sSeq (sPut 0 (dVar 4) (dC (.int 2))) (sPut 0 (dVar 4) (dC (.int 3))))) D
      [Spl.S ⟨ns, pl, ce, si⟩, iv b, .val (.list (ns.map PyData.int)), iv pl, iv ce', .no] := by
  have pw : CPow 10 15 := ⟨by decide, by decide, by decide⟩
  have z0 := Int.fmod_nonneg_of_pos ce' (show (0 : Int) < 998244353 by decide)
  have z1 := Int.fmod_lt_of_pos ce' (show (0 : Int) < 998244353 by decide)
  by_cases c1 : (ns.length : Int) ≤ pl
  · simp [sSeq, sIf, sNext, sSet, sAug, sRet, sPar, sPar3, asThree, sRaise, sAsg, sOwn, sApp, sPut, sRetN, sRetOwn, sRetU, sDrop, sBreak, sCont, dVar, dC, dOp, dTest, dCons, dNil, dTup, nLst, dNew, dNeg, dIf, dF1, dAnd, dOr, dNot, dAndV, dOrV, dNotV, dCall, nCall, dCallL, nCallL, withLent, withLentN, vw, frz, dI, dI0, dB0, int2, dEq, dNe, dAdd, dSub, dIAdd, atD, gName', gTup', gNil', gCons', gLst', lenIs, retD, retN, lendK, backK, isLent, ownK, fAbs, fLen, fMax, fMin, startD, outK, shp_int, eqv_int, wipe3, c1, Spl.L]
    refine ⟨_, _, rfl, h0, h1, z0, by omega, fun n => ?_⟩
    simp [sSeq, sIf, sNext, sSet, sAug, sRet, sPar, sPar3, asThree, sRaise, sAsg, sOwn, sApp, sPut, sRetN, sRetOwn, sRetU, sDrop, sBreak, sCont, dVar, dC, dOp, dTest, dCons, dNil, dTup, nLst, dNew, dNeg, dIf, dF1, dAnd, dOr, dNot, dAndV, dOrV, dNotV, dCall, nCall, dCallL, nCallL, withLent, withLentN, vw, frz, dI, dI0, dB0, int2, dEq, dNe, dAdd, dSub, dIAdd, atD, gName', gTup', gNil', gCons', gLst', lenIs, retD, retN, lendK, backK, isLent, ownK, fAbs, fLen, fMax, fMin, startD, outK, shp_int, eqv_int, wipe3, ixN]
    exact hD n
  · by_cases c2 : ce' < 10 ^ 15
    · simp [sSeq, sIf, sNext, sSet, sAug, sRet, sPar, sPar3, asThree, sRaise, sAsg, sOwn, sApp, sPut, sRetN, sRetOwn, sRetU, sDrop, sBreak, sCont, dVar, dC, dOp, dTest, dCons, dNil, dTup, nLst, dNew, dNeg, dIf, dF1, dAnd, dOr, dNot, dAndV, dOrV, dNotV, dCall, nCall, dCallL, nCallL, withLent, withLentN, vw, frz, dI, dI0, dB0, int2, dEq, dNe, dAdd, dSub, dIAdd, atD, gName', gTup', gNil', gCons', gLst', lenIs, retD, retN, lendK, backK, isLent, ownK, fAbs, fLen, fMax, fMin, startD, outK, shp_int, eqv_int, wipe3] at c2
      simp [sSeq, sIf, sNext, sSet, sAug, sRet, sPar, sPar3, asThree, sRaise, sAsg, sOwn, sApp, sPut, sRetN, sRetOwn, sRetU, sDrop, sBreak, sCont, dVar, dC, dOp, dTest, dCons, dNil, dTup, nLst, dNew, dNeg, dIf, dF1, dAnd, dOr, dNot, dAndV, dOrV, dNotV, dCall, nCall, dCallL, nCallL, withLent, withLentN, vw, frz, dI, dI0, dB0, int2, dEq, dNe, dAdd, dSub, dIAdd, atD, gName', gTup', gNil', gCons', gLst', lenIs, retD, retN, lendK, backK, isLent, ownK, fAbs, fLen, fMax, fMin, startD, outK, shp_int, eqv_int, wipe3, c1, c2, Spl.L, pw]
      refine ⟨_, _, rfl, h0, h1, z0, by omega, fun n => ?_⟩
      simp [sSeq, sIf, sNext, sSet, sAug, sRet, sPar, sPar3, asThree, sRaise, sAsg, sOwn, sApp, sPut, sRetN, sRetOwn, sRetU, sDrop, sBreak, sCont, dVar, dC, dOp, dTest, dCons, dNil, dTup, nLst, dNew, dNeg, dIf, dF1, dAnd, dOr, dNot, dAndV, dOrV, dNotV, dCall, nCall, dCallL, nCallL, withLent, withLentN, vw, frz, dI, dI0, dB0, int2, dEq, dNe, dAdd, dSub, dIAdd, atD, gName', gTup', gNil', gCons', gLst', lenIs, retD, retN, lendK, backK, isLent, ownK, fAbs, fLen, fMax, fMin, startD, outK, shp_int, eqv_int, wipe3, ixN]
      exact hD n
    · simp [sSeq, sIf, sNext, sSet, sAug, sRet, sPar, sPar3, asThree, sRaise, sAsg, sOwn, sApp, sPut, sRetN, sRetOwn, sRetU, sDrop, sBreak, sCont, dVar, dC, dOp, dTest, dCons, dNil, dTup, nLst, dNew, dNeg, dIf, dF1, dAnd, dOr, dNot, dAndV, dOrV, dNotV, dCall, nCall, dCallL, nCallL, withLent, withLentN, vw, frz, dI, dI0, dB0, int2, dEq, dNe, dAdd, dSub, dIAdd, atD, gName', gTup', gNil', gCons', gLst', lenIs, retD, retN, lendK, backK, isLent, ownK, fAbs, fLen, fMax, fMin, startD, outK, shp_int, eqv_int, wipe3] at c2
      have c3 : ¬ ce' < 1000000000000000 := by omega
      simp [sSeq, sIf, sNext, sSet, sAug, sRet, sPar, sPar3, asThree, sRaise, sAsg, sOwn, sApp, sPut, sRetN, sRetOwn, sRetU, sDrop, sBreak, sCont, dVar, dC, dOp, dTest, dCons, dNil, dTup, nLst, dNew, dNeg, dIf, dF1, dAnd, dOr, dNot, dAndV, dOrV, dNotV, dCall, nCall, dCallL, nCallL, withLent, withLentN, vw, frz, dI, dI0, dB0, int2, dEq, dNe, dAdd, dSub, dIAdd, atD, gName', gTup', gNil', gCons', gLst', lenIs, retD, retN, lendK, backK, isLent, ownK, fAbs, fLen, fMax, fMin, startD, outK, shp_int, eqv_int, wipe3, c1, c3, Spl.L, pw, ixN]
      exact hD ce'
theorem pure__law_upto (α : List SD) (QD : Ret → List SD → Prop) (ED : Exd → List SD → Prop) (W : WD) (hW : W = fun e ρ => outK α ρ fun α' => ED e α') (h : p__law_upto α QD ED) : r__law_upto W (DEnd α QD) (startD n__law_upto.length α) := by
  obtain ⟨⟨ns, pl, ce, si⟩, m, b, rfl, ⟨h0, h1, h2⟩, hm, b0, bB, hq⟩ := h
  have h0 : 0 ≤ pl := h0
  have h1 : pl ≤ m := h1
  have h2 : ns.length ≤ 64 := h2
  have cd : ∀ z, CDivF z b := fun _ => ⟨by omega, bB.log (by omega)⟩
  have nz : ¬ b = 0 := by omega
  have fin : ∀ (pl' ce' si' : Int) (a2 a3 a4 : SD), 0 ≤ pl' → pl' ≤ ((m + 1 : Nat) : Int) → sSeq (sSet 5 (dOp dMod (dOp atD (dVar 0) (dC (.int 2))) (dVar 1))) (sSeq (sPut 0 (dOp dFdiv (dOp atD (dVar 0) (dC (.int 2))) (dVar 1)) (dC (.int 2))) (sSeq (sPut 0 (dOp dFdiv (dOp atD (dVar 0) (dC (.int 3))) (dVar 1)) (dC (.int 3))) (sRet (dVar 5))))
      (DEnd [Spl.S ⟨ns, pl, ce, si⟩, iv b] QD) [Spl.S ⟨ns, pl', ce', si'⟩, iv b, a2, a3, a4, .no] := by
    intro pl' ce' si' a2 a3 a4 k0 k1
    simp [sSeq, sIf, sNext, sSet, sAug, sRet, sPar, sPar3, asThree, sRaise, sAsg, sOwn, sApp, sPut, sRetN, sRetOwn, sRetU, sDrop, sBreak, sCont, dVar, dC, dOp, dTest, dCons, dNil, dTup, nLst, dNew, dNeg, dIf, dF1, dAnd, dOr, dNot, dAndV, dOrV, dNotV, dCall, nCall, dCallL, nCallL, withLent, withLentN, vw, frz, dI, dI0, dB0, int2, dEq, dNe, dAdd, dSub, dIAdd, atD, gName', gTup', gNil', gCons', gLst', lenIs, retD, retN, lendK, backK, isLent, ownK, fAbs, fLen, fMax, fMin, startD, outK, shp_int, eqv_int, wipe3, DEnd, Spl.L, atI, ixN, nz, cd]
    exact hq (ce'.fmod b) ⟨ns, pl', ce'.fdiv b, si'.fdiv b⟩ (Int.fmod_nonneg_of_pos _ b0) (Int.fmod_lt_of_pos _ b0) ⟨k0, k1, h2⟩
  have e0 : (startD n__law_upto.length [Spl.S ⟨ns, pl, ce, si⟩, iv b]) = [Spl.S ⟨ns, pl, ce, si⟩, iv b, .no, .no, .no, .no] := rfl
  rw [e0]
  unfold r__law_upto
  by_cases hsi : si < b
  · have step : ∀ c : Int, _ := fun c => upto_fill W { DEnd [Spl.S ⟨ns, pl, ce, si⟩, iv b] QD with nx := fun ρ => sSeq (sSet 5 (dOp dMod (dOp atD (dVar 0) (dC (.int 2))) (dVar 1))) (sSeq (sPut 0 (dOp dFdiv (dOp atD (dVar 0) (dC (.int 2))) (dVar 1)) (dC (.int 2))) (sSeq (sPut 0 (dOp dFdiv (dOp atD (dVar 0) (dC (.int 3))) (dVar 1)) (dC (.int 3))) (sRet (dVar 5)))) (DEnd [Spl.S ⟨ns, pl, ce, si⟩, iv b] QD) ρ } ns pl ce si b h0 (by omega) (fun c => fin _ _ _ _ _ _ (by omega) (by omega)) c
    have key : ∀ (R G : TSD), (∀ c : Int, R { DEnd [Spl.S ⟨ns, pl, ce, si⟩, iv b] QD with nx := fun ρ => G (DEnd [Spl.S ⟨ns, pl, ce, si⟩, iv b] QD) ρ } [Spl.S ⟨ns, pl, ce, si⟩, iv b, .val (.list (ns.map PyData.int)), iv pl, iv c, .no]) →
        sSeq (sIf (dTest (dOp dLt (dOp atD (dVar 0) (dC (.int 3))) (dVar 1))) (sSeq (sPar 2 3 (dCons (dOp atD (dVar 0) (dC (.int 0))) (dCons (dOp atD (dVar 0) (dC (.int 1))) (dNil)))) (sSeq (sSet 4 (dIf (dTest (dOp dNe (dVar 2) (dNew (nLst (dNil))))) (dOp atD (dVar 2) (dOp dMod (dVar 3) (dF1 fLen (dVar 2)))) (dC (.int 0)))) R)) (sNext)) G (DEnd [Spl.S ⟨ns, pl, ce, si⟩, iv b] QD) [Spl.S ⟨ns, pl, ce, si⟩, iv b, .no, .no, .no, .no] := by
      intro R G hR
      by_cases hns : ns = []
      · subst hns
        have := hR 0
        simp [sSeq, sIf, sNext, sSet, sAug, sRet, sPar, sPar3, asThree, sRaise, sAsg, sOwn, sApp, sPut, sRetN, sRetOwn, sRetU, sDrop, sBreak, sCont, dVar, dC, dOp, dTest, dCons, dNil, dTup, nLst, dNew, dNeg, dIf, dF1, dAnd, dOr, dNot, dAndV, dOrV, dNotV, dCall, nCall, dCallL, nCallL, withLent, withLentN, vw, frz, dI, dI0, dB0, int2, dEq, dNe, dAdd, dSub, dIAdd, atD, gName', gTup', gNil', gCons', gLst', lenIs, retD, retN, lendK, backK, isLent, ownK, fAbs, fLen, fMax, fMin, startD, outK, shp_int, eqv_int, wipe3, Spl.L, atI, ixN, hsi, shp_nil, eqv_nil]
        exact this
      · have l0 : (0 : Int) < ns.length := by
          have := List.length_pos_iff.mpr hns
          omega
        obtain ⟨y, hy⟩ := atI_int (ms := ns) (Int.fmod_nonneg_of_pos pl l0) (Int.fmod_lt_of_pos pl l0)
        have := hR y
        simp [sSeq, sIf, sNext, sSet, sAug, sRet, sPar, sPar3, asThree, sRaise, sAsg, sOwn, sApp, sPut, sRetN, sRetOwn, sRetU, sDrop, sBreak, sCont, dVar, dC, dOp, dTest, dCons, dNil, dTup, nLst, dNew, dNeg, dIf, dF1, dAnd, dOr, dNot, dAndV, dOrV, dNotV, dCall, nCall, dCallL, nCallL, withLent, withLentN, vw, frz, dI, dI0, dB0, int2, dEq, dNe, dAdd, dSub, dIAdd, atD, gName', gTup', gNil', gCons', gLst', lenIs, retD, retN, lendK, backK, isLent, ownK, fAbs, fLen, fMax, fMin, startD, outK, shp_int, eqv_int, wipe3, Spl.L, hsi, shp_nil, shp_ints ns, hy]
        have a3 : atI [PyData.list (ns.map PyData.int), .int pl, .int ce, .int si] 3 = some (.int si) := rfl
        have a0 : atI [PyData.list (ns.map PyData.int), .int pl, .int ce, .int si] 0 = some (.list (ns.map PyData.int)) := rfl
        have a1 : atI [PyData.list (ns.map PyData.int), .int pl, .int ce, .int si] 1 = some (.int pl) := rfl
        have hns' : ns.isEmpty = false := by simp [sSeq, sIf, sNext, sSet, sAug, sRet, sPar, sPar3, asThree, sRaise, sAsg, sOwn, sApp, sPut, sRetN, sRetOwn, sRetU, sDrop, sBreak, sCont, dVar, dC, dOp, dTest, dCons, dNil, dTup, nLst, dNew, dNeg, dIf, dF1, dAnd, dOr, dNot, dAndV, dOrV, dNotV, dCall, nCall, dCallL, nCallL, withLent, withLentN, vw, frz, dI, dI0, dB0, int2, dEq, dNe, dAdd, dSub, dIAdd, atD, gName', gTup', gNil', gCons', gLst', lenIs, retD, retN, lendK, backK, isLent, ownK, fAbs, fLen, fMax, fMin, startD, outK, shp_int, eqv_int, wipe3, hns]
        simp [sSeq, sIf, sNext, sSet, sAug, sRet, sPar, sPar3, asThree, sRaise, sAsg, sOwn, sApp, sPut, sRetN, sRetOwn, sRetU, sDrop, sBreak, sCont, dVar, dC, dOp, dTest, dCons, dNil, dTup, nLst, dNew, dNeg, dIf, dF1, dAnd, dOr, dNot, dAndV, dOrV, dNotV, dCall, nCall, dCallL, nCallL, withLent, withLentN, vw, frz, dI, dI0, dB0, int2, dEq, dNe, dAdd, dSub, dIAdd, atD, gName', gTup', gNil', gCons', gLst', lenIs, retD, retN, lendK, backK, isLent, ownK, fAbs, fLen, fMax, fMin, startD, outK, shp_int, eqv_int, wipe3, a3, a0, a1, hsi, shp_nil, eqv_nil, hns', shp_ints ns, hy]
        exact ⟨hns, this⟩
    exact key _ _ step
  · have := fin pl ce si .no .no .no h0 (by omega)
    simp [sSeq, sIf, sNext, sSet, sAug, sRet, sPar, sPar3, asThree, sRaise, sAsg, sOwn, sApp, sPut, sRetN, sRetOwn, sRetU, sDrop, sBreak, sCont, dVar, dC, dOp, dTest, dCons, dNil, dTup, nLst, dNew, dNeg, dIf, dF1, dAnd, dOr, dNot, dAndV, dOrV, dNotV, dCall, nCall, dCallL, nCallL, withLent, withLentN, vw, frz, dI, dI0, dB0, int2, dEq, dNe, dAdd, dSub, dIAdd, atD, gName', gTup', gNil', gCons', gLst', lenIs, retD, retN, lendK, backK, isLent, ownK, fAbs, fLen, fMax, fMin, startD, outK, shp_int, eqv_int, wipe3, Spl.L, hsi, DEnd, atI, ixN] at this ⊢
    exact this
theorem atI_mem {α : Type} {xs : List α} {z : Int} (h0 : 0 ≤ z) (h1 : z < xs.length) : ∃ y, y ∈ xs ∧ atI xs z = some y := by
  unfold atI
  rw [ixN_ok h0 h1]
  have : z.toNat < xs.length := by omega
  exact ⟨xs[z.toNat], List.getElem_mem _, by simp [sSeq, sIf, sNext, sSet, sAug, sRet, sPar, sPar3, asThree, sRaise, sAsg, sOwn, sApp, sPut, sRetN, sRetOwn, sRetU, sDrop, sBreak, sCont, dVar, dC, dOp, dTest, dCons, dNil, dTup, nLst, dNew, dNeg, dIf, dF1, dAnd, dOr, dNot, dAndV, dOrV, dNotV, dCall, nCall, dCallL, nCallL, withLent, withLentN, vw, frz, dI, dI0, dB0, int2, dEq, dNe, dAdd, dSub, dIAdd, atD, gName', gTup', gNil', gCons', gLst', lenIs, retD, retN, lendK, backK, isLent, ownK, fAbs, fLen, fMax, fMin, startD, outK, shp_int, eqv_int, wipe3, this]⟩
theorem pure__law_choice (α : List SD) (QD : Ret → List SD → Prop) (ED : Exd → List SD → Prop) (W : WD) (hW : W = fun e ρ => outK α ρ fun α' => ED e α') (h : p__law_choice α QD ED) : r__law_choice W (DEnd α QD) (startD n__law_choice.length α) := by
  obtain ⟨s, m, xs, rfl, hs, hm, hx, hl, hq⟩ := h
  have l0 : 0 < xs.length := List.length_pos_iff.mpr hx
  unfold r__law_choice DEnd
  simp [sSeq, sIf, sNext, sSet, sAug, sRet, sPar, sPar3, asThree, sRaise, sAsg, sOwn, sApp, sPut, sRetN, sRetOwn, sRetU, sDrop, sBreak, sCont, dVar, dC, dOp, dTest, dCons, dNil, dTup, nLst, dNew, dNeg, dIf, dF1, dAnd, dOr, dNot, dAndV, dOrV, dNotV, dCall, nCall, dCallL, nCallL, withLent, withLentN, vw, frz, dI, dI0, dB0, int2, dEq, dNe, dAdd, dSub, dIAdd, atD, gName', gTup', gNil', gCons', gLst', lenIs, retD, retN, lendK, backK, isLent, ownK, fAbs, fLen, fMax, fMin, startD, outK, shp_int, eqv_int, wipe3, n__law_choice, Spl.S]
  refine ⟨s, m, xs.length, rfl, hs, hm, by omega, by unfold Bd; exact Nat.lt_of_lt_of_le (show (xs.length : Int).natAbs < 2 ^ 60 by omega) (Nat.pow_le_pow_right (by decide) (by omega)), fun n s' n0 n1 hs' => ?_⟩
  obtain ⟨y, hy, e⟩ := atI_mem (xs := xs) n0 n1
  simp [sSeq, sIf, sNext, sSet, sAug, sRet, sPar, sPar3, asThree, sRaise, sAsg, sOwn, sApp, sPut, sRetN, sRetOwn, sRetU, sDrop, sBreak, sCont, dVar, dC, dOp, dTest, dCons, dNil, dTup, nLst, dNew, dNeg, dIf, dF1, dAnd, dOr, dNot, dAndV, dOrV, dNotV, dCall, nCall, dCallL, nCallL, withLent, withLentN, vw, frz, dI, dI0, dB0, int2, dEq, dNe, dAdd, dSub, dIAdd, atD, gName', gTup', gNil', gCons', gLst', lenIs, retD, retN, lendK, backK, isLent, ownK, fAbs, fLen, fMax, fMin, startD, outK, shp_int, eqv_int, wipe3, Spl.S, e]
  exact hq y s' hy hs'
end KK

set_option maxHeartbeats 1000000
namespace KK
open PySem PySem.Spec L2 DL
/-! ### expressions without effect, evaluated -/
def Ev (t : TED) (ρ : DSt) (z : PyData) : Prop := ∀ Q : R → DSt → Prop, (∀ r, (∀ k : PyData → Prop, k z → vw ρ r k) → (∀ k : PyData → DSt → Prop, k z ρ → frz ρ r k) → Q r ρ) → t ρ Q
def EvA (t : TND) (ρ : DSt) (zs : List PyData) : Prop := ∀ Q : List PyData → DSt → Prop, Q zs ρ → t ρ Q
def EvT (t : TTD) (ρ : DSt) (b : Bool) : Prop := ∀ Q : Bool → DSt → Prop, Q b ρ → t ρ Q
/-- a def that gives z of these data -/
def Pr (p : DSp) (ds : List PyData) (z : PyData) : Prop := ∀ (QD : Ret → List SD → Prop) (ED : Exd → List SD → Prop), QD (.d z) (ds.map SD.val) → p (ds.map SD.val) QD ED
section
variable {ρ : DSt} {a b c : TED} {x y z : PyData} {ta tb : TTD} {u v : Bool}
theorem ev_var (i : Nat) (h : ρ[i]? = some (.val z)) : Ev (dVar i) ρ z := by
  intro Q k
  refine ⟨by rw [h] <;> trivial, k _ (fun k hk => ?_) (fun k hk => ?_)⟩
  · show (match ρ[i]? with | some (.val d) => k d | some (.own _ ds) => k (.list ds) | _ => False)
    rw [h]; exact hk
  · show (match ρ[i]? with | some (.val d) => k d ρ | some (.own false ds) => k (.list ds) (ρ.set i (.val (.list ds))) | _ => False)
    rw [h]; exact hk
theorem ev_c : Ev (dC z) ρ z := fun Q k => k _ (fun _ h => h) (fun _ h => h)
theorem ev_op {f : PyData → PyData → (PyData → Prop) → Prop} (ha : Ev a ρ x) (hb : Ev b ρ y) (hf : ∀ k : PyData → Prop, k z → f x y k) : Ev (dOp f a b) ρ z := by
  intro Q k
  refine ha _ fun r1 h1 _ => hb _ fun r2 h2 _ => h1 _ (h2 _ (hf _ (k _ (fun _ h => h) (fun _ h => h))))
theorem eva_nil : EvA dNil ρ [] := fun Q h => h
theorem eva_cons {dr : TND} {zs : List PyData} (ha : Ev a ρ x) (hr : EvA dr ρ zs) : EvA (dCons a dr) ρ (x :: zs) := fun Q h => ha _ fun r _ h2 => h2 _ (hr _ h)
theorem ev_tup {dr : TND} {zs : List PyData} (h : EvA dr ρ zs) (hl : zs.length ≤ 1000) : Ev (dTup dr) ρ (.tuple zs) := fun Q k => h _ ⟨Nat.le_trans hl (by rw [sizeLine_eq]; decide), k _ (fun _ h => h) (fun _ h => h)⟩
theorem ev_call {p : DSp} {W : WD} {dr : TND} {zs : List PyData} (h : EvA dr ρ zs) (hp : Pr p zs z) : Ev (dCall p W dr) ρ z := fun Q k => h _ (hp _ _ (k _ (fun _ h => h) (fun _ h => h)))
theorem evt_test {t : TED} (h : Ev t ρ (.bool u)) : EvT (dTest t) ρ u := fun Q hq => h _ fun r h1 _ => h1 _ hq
theorem evt_or (h : EvT ta ρ u) (h2 : u = false → EvT tb ρ v) : EvT (dOr ta tb) ρ (u || v) := fun Q hq => h _ (by cases u with | true => exact hq | false => exact h2 rfl _ hq)
theorem evt_and (h : EvT ta ρ u) (h2 : u = true → EvT tb ρ v) : EvT (dAnd ta tb) ρ (u && v) := fun Q hq => h _ (by cases u with | false => exact hq | true => exact h2 rfl _ hq)
theorem evt_not (h : EvT ta ρ u) : EvT (dNot ta) ρ (!u) := fun Q hq => h _ hq
theorem s_if {x : TTD} {t e : TSD} {D : DEnds} (h : EvT x ρ u) (k : if u = true then t D ρ else e D ρ) : sIf x t e D ρ := h _ (by cases u with | true => exact k | false => exact k)
theorem s_chk {x : TTD} {t n : TSD} {D : DEnds} (h : EvT x ρ false) (k : n D ρ) : sSeq (sIf x t sNext) n D ρ := h _ k
theorem s_set {i : Nat} {n : TSD} {D : DEnds} (h : Ev a ρ z) (k : n D (ρ.set i (.val z))) : sSeq (sSet i a) n D ρ := h _ fun r _ h2 => h2 _ k
theorem ev_ne {z w : PyData} (ha : Ev a ρ z) (hb : Ev b ρ w) (h1 : SeqAt.shaped z = true) (h2 : SeqAt.shaped w = true) (e : PyData.eqv z w = true) : EvT (dTest (dOp dNe a b)) ρ false :=
  evt_test (ev_op (z := .bool false) ha hb fun k hk => ⟨h1, h2, by rw [e]; exact hk⟩)
theorem ev_neI {i j : Int} (ha : Ev a ρ (.int i)) (hb : Ev b ρ (.int j)) (e : i = j) : EvT (dTest (dOp dNe a b)) ρ false := ev_ne ha hb rfl rfl (by subst e; simp [PyData.eqv])
theorem ev_neI' {i j : Int} (ha : Ev a ρ (.int i)) (hb : Ev b ρ (.int j)) : EvT (dTest (dOp dNe a b)) ρ (!decide (i = j)) :=
  evt_test (ev_op (z := .bool (!decide (i = j))) ha hb fun k hk => ⟨rfl, rfl, hk⟩)
end
/-! ### field values -/
structure Fv (d : Int) (n : Nat) (x : Nu) (p q s : Int) : Prop where
  e : x = low p q d s
  s0 : s ≠ 0
  b : Nb n x
def Ex (t : TED) (ρ : DSt) (d : Int) (n : Nat) (p q s : Int) : Prop := ∃ x, Fv d n x p q s ∧ Ev t ρ x.D
def Dd (d : Int) : Prop := 0 < d ∧ d < 64 ∧ Irr d
theorem nu_shaped (x : Nu) : SeqAt.shaped x.D = true := rfl
theorem nu_eqv (x : Nu) : PyData.eqv x.D x.D = true := by
  show PyData.eqvAll [.int x.p, .int x.q, .int x.d, .int x.s] [.int x.p, .int x.q, .int x.d, .int x.s] = true
  simp [PyData.eqvAll, PyData.eqv]
section
variable {d : Int} {n m : Nat} {x y : Nu} {p q s p' q' s' : Int}
theorem Fv.kk (h : Fv d n x p q s) : ∃ k, k ≠ 0 ∧ p = k * x.p ∧ q = k * x.q ∧ s = k * x.s ∧ 0 < x.s ∧ x.d = if x.q = 0 then 0 else d := by
  obtain ⟨rfl, s0, _⟩ := h
  obtain ⟨k, h1, h2, h3, h4, h5⟩ := low_spec (p := p) (q := q) d s0
  exact ⟨k, h1, h2, h3, h4, h5, low_dd s0⟩
theorem Fv.rts (hx : Fv d n x p q s) (hy : Fv d m y p' q' s') : rts x y := by
  obtain ⟨_, _, _, _, _, _, h1⟩ := hx.kk
  obtain ⟨_, _, _, _, _, _, h2⟩ := hy.kk
  intro a b
  rw [h1] at a ⊢
  rw [h2] at b ⊢
  split at a
  · exact absurd rfl a
  · split at b
    · exact absurd rfl b
    · rename_i z1 z2; rw [if_neg z1, if_neg z2]
theorem bd0 (n : Nat) : Bd n 0 := by unfold Bd; exact Nat.pow_pos (by decide)
theorem bdd (hd : Dd d) (hn : 6 ≤ n) : Bd n d := (show Bd 6 d by unfold Bd; have := hd.1; have := hd.2.1; omega).mono hn
theorem Fv.nmx (hx : Fv d n x p q s) (hy : Fv d m y p' q' s') (hd : Dd d) : (x.q ≠ 0 ∨ y.q ≠ 0 → nmax x.d y.d = d) ∧ (x.q = 0 → y.q = 0 → nmax x.d y.d = 0) := by
  obtain ⟨_, _, _, _, _, _, h1⟩ := hx.kk
  obtain ⟨_, _, _, _, _, _, h2⟩ := hy.kk
  have := hd.1
  rw [h1, h2]
  refine ⟨fun h => ?_, fun a b => by rw [if_pos a, if_pos b]; rfl⟩
  unfold nmax
  by_cases a : x.q = 0 <;> by_cases b : y.q = 0 <;> simp [a, b] at h ⊢
  · omega
  · intro z; omega
theorem nplus_V (hx : Fv d n x p q s) (hy : Fv d m y p' q' s') (hd : Dd d) : Fv d (n + m + 7) (nplus x y) (p * s' + p' * s) (q * s' + q' * s) (s * s') := by
  obtain ⟨k, k0, e1, e2, e3, e4, _⟩ := hx.kk
  obtain ⟨l, l0, f1, f2, f3, f4, _⟩ := hy.kk
  obtain ⟨n1, n2⟩ := hx.nmx hy hd
  have ne : x.s * y.s ≠ 0 := Int.mul_ne_zero (by omega) (by omega)
  have eq : nplus x y = low (p * s' + p' * s) (q * s' + q' * s) d (s * s') := by
    unfold nplus
    refine low_eq ne (Int.mul_ne_zero hx.s0 hy.s0) ?_ ?_ fun h => n1 ?_
    · rw [e1, e3, f1, f3]; grind
    · rw [e2, e3, f2, f3]; grind
    · rcases Classical.em (x.q = 0) with a | a
      · rcases Classical.em (y.q = 0) with b | b
        · exact absurd (by rw [a, b]; simp) h
        · exact .inr b
      · exact .inl a
  refine ⟨eq, Int.mul_ne_zero hx.s0 hy.s0, ?_⟩
  obtain ⟨b1, b2, b3, b4⟩ := hx.b
  obtain ⟨c1, c2, c3, c4⟩ := hy.b
  unfold nplus
  have bm : Bd (n + m + 7) (nmax x.d y.d) := by unfold nmax; split; exact c3.mono (by omega); exact b3.mono (by omega)
  exact low_bd ne ((b1.mul c4).add (c1.mul b4) (by omega)) ((b2.mul c4).add (c2.mul b4) (by omega)) bm ((b4.mul c4).mono (by omega))
theorem nopp_V (hx : Fv d n x p q s) : Fv d n (nopp x) (-p) (-q) s := by
  obtain ⟨b1, b2, b3, b4⟩ := hx.b
  refine ⟨?_, hx.s0, b1.neg, b2.neg, b3, b4⟩
  have e := hx.e
  subst e
  unfold nopp low
  have hg : gc (-p) (-q) s = gc p q s := by unfold gc; rw [Int.natAbs_neg, Int.natAbs_neg]
  have dv : ∀ a : Int, gc p q s ∣ a → -(sg s * a / gc p q s) = sg s * -a / gc p q s := fun a h => by
    rw [Int.mul_neg, Int.neg_ediv_of_dvd (Int.dvd_trans h (Int.dvd_mul_left _ _))]
  simp only [hg, dv p gc_dp, dv q gc_dq, Int.neg_eq_zero]
theorem ntimes_V (hx : Fv d n x p q s) (hy : Fv d m y p' q' s') (hd : Dd d) : Fv d (n + m + 7) (ntimes x y) (p * p' + q * q' * d) (p * q' + q * p') (s * s') := by
  obtain ⟨k, k0, e1, e2, e3, e4, dx⟩ := hx.kk
  obtain ⟨l, l0, f1, f2, f3, f4, dy⟩ := hy.kk
  obtain ⟨n1, n2⟩ := hx.nmx hy hd
  have ne : x.s * y.s ≠ 0 := Int.mul_ne_zero (by omega) (by omega)
  have em : x.q * y.q * nmax x.d y.d = x.q * y.q * d := by
    rcases Classical.em (x.q = 0) with a | a
    · rw [a]; simp
    · rw [n1 (.inl a)]
  have eq : ntimes x y = low (p * p' + q * q' * d) (p * q' + q * p') d (s * s') := by
    unfold ntimes
    rw [em]
    refine low_eq ne (Int.mul_ne_zero hx.s0 hy.s0) ?_ ?_ fun h => n1 ?_
    · rw [e1, e2, e3, f1, f2, f3]; grind
    · rw [e1, e2, e3, f1, f2, f3]; grind
    · rcases Classical.em (x.q = 0) with a | a
      · rcases Classical.em (y.q = 0) with b | b
        · exact absurd (by rw [a, b]; simp) h
        · exact .inr b
      · exact .inl a
  refine ⟨eq, Int.mul_ne_zero hx.s0 hy.s0, ?_⟩
  obtain ⟨b1, b2, b3, b4⟩ := hx.b
  obtain ⟨c1, c2, c3, c4⟩ := hy.b
  unfold ntimes
  rw [em]
  have bm : Bd (n + m + 7) (nmax x.d y.d) := by unfold nmax; split; exact c3.mono (by omega); exact b3.mono (by omega)
  exact low_bd ne ((b1.mul c1).add ((b2.mul c2).mul (bdd hd (Nat.le_refl 6))) (by omega)) ((b1.mul c2).add (b2.mul c1) (by omega)) bm ((b4.mul c4).mono (by omega))
theorem norm_ne (hd : Dd d) (h : x.p ≠ 0 ∨ x.q ≠ 0) : x.p * x.p - x.q * x.q * d ≠ 0 := fun z => by
  obtain ⟨a, b⟩ := hd.2.2 x.p x.q (by omega)
  rcases h with h | h
  · exact h a
  · exact h b
theorem ninv_V (hy : Fv d m y p' q' s') (hd : Dd d) (h : y.p ≠ 0 ∨ y.q ≠ 0) : y.p * y.p - y.q * y.q * y.d ≠ 0 ∧ Fv d (2 * m + 7) (ninv y) (y.p * y.s) (-y.q * y.s) (y.p * y.p - y.q * y.q * d) := by
  obtain ⟨l, l0, f1, f2, f3, f4, dy⟩ := hy.kk
  have em : y.q * y.q * y.d = y.q * y.q * d := by
    rw [dy]
    split
    · rename_i z; rw [z]; simp
    · rfl
  have nz := norm_ne hd h
  obtain ⟨c1, c2, c3, c4⟩ := hy.b
  have bn : Bd (2 * m + 7) (y.p * y.p - y.q * y.q * d) := (c1.mul c1).sub ((c2.mul c2).mul (bdd hd (Nat.le_refl 6))) (by omega)
  refine ⟨by rw [em]; exact nz, ?_, nz, ?_⟩
  · unfold ninv
    rw [em]
    refine low_d fun h => ?_
    rw [dy, if_neg]
    intro z
    rw [z] at h
    simp at h
  · unfold ninv
    rw [em]
    exact low_bd nz ((c1.mul c4).mono (by omega)) ((c2.neg.mul c4).mono (by omega)) (c3.mono (by omega)) bn
/-! the promises of the field's defs -/
variable {ρ : DSt} {a b : TED} {W : WD}
theorem nb_mono {n m : Nat} {x : Nu} (h : Nb n x) (e : n ≤ m) : Nb m x := ⟨h.1.mono e, h.2.1.mono e, h.2.2.1.mono e, h.2.2.2.mono e⟩
theorem ex_ne (ha : Ex a ρ d n p q s) (hb : Ex b ρ d m p' q' s') (e1 : p * s' = p' * s) (e2 : q * s' = q' * s) : EvT (dTest (dOp dNe a b)) ρ false := by
  obtain ⟨x, fx, ex⟩ := ha
  obtain ⟨y, fy, ey⟩ := hb
  have : x = y := by rw [fx.e, fy.e]; exact low_eq fx.s0 fy.s0 e1 e2 fun _ => rfl
  subst this
  exact ev_ne ex ey (nu_shaped x) (nu_shaped x) (nu_eqv x)
theorem sos_xd (h : x.d = if x.q = 0 then 0 else d) : sos x.p x.q x.d = sos x.p x.q d := by
  rw [h]
  split
  · rename_i z; rw [z, sos_q0, sos_q0]
  · rfl
end
end KK

set_option maxHeartbeats 1000000
namespace KK
open PySem PySem.Spec L2 DL
/-! ### floors -/
theorem isqr_ex : ∀ n : Nat, ∃ r : Int, isqr n r
  | 0 => ⟨0, by unfold isqr; decide⟩
  | n + 1 => by
    obtain ⟨r, h0, h1, h2⟩ := isqr_ex n
    by_cases h : (r + 1) * (r + 1) ≤ ((n + 1 : Nat) : Int)
    · refine ⟨r + 1, by omega, h, ?_⟩
      have : (r + 1 + 1) * (r + 1 + 1) = (r + 1) * (r + 1) + 2 * r + 3 := by grind
      omega
    · exact ⟨r, h0, by omega, by omega⟩
theorem isqr_uniq {a r t : Int} (h : isqr a r) (k : isqr a t) : r = t := by
  obtain ⟨h0, h1, h2⟩ := h
  obtain ⟨k0, k1, k2⟩ := k
  rcases Int.lt_trichotomy r t with z | z | z
  · have := Int.mul_le_mul (show r + 1 ≤ t by omega) (show r + 1 ≤ t by omega) (by omega) (by omega)
    omega
  · exact z
  · have := Int.mul_le_mul (show t + 1 ≤ r by omega) (show t + 1 ≤ r by omega) (by omega) (by omega)
    omega
section
variable {d : Int} {n m : Nat} {x y : Nu} {p q s p' q' s' : Int} {ρ : DSt} {a b : TED} {W : WD}
theorem fl_ex (hd : 0 ≤ x.d) : ∃ k, Fl x k := by
  obtain ⟨r, h⟩ := isqr_ex (x.q * x.q * x.d).toNat
  have : (((x.q * x.q * x.d).toNat : Nat) : Int) = x.q * x.q * x.d := Int.toNat_of_nonneg (Int.mul_nonneg (sq_nn _) hd)
  rw [this] at h
  exact ⟨_, r, h, rfl⟩
theorem fl_uniq {k l : Int} (h : Fl x k) (g : Fl x l) : k = l := by
  obtain ⟨r, h1, rfl⟩ := h
  obtain ⟨t, g1, rfl⟩ := g
  rw [isqr_uniq h1 g1]
/-- a value that is its own lowest form -/
theorem Fv.self (h : Fv d n x p q s) : Fv d n x x.p x.q x.s := by
  obtain ⟨k, k0, e1, e2, e3, e4, dx⟩ := h.kk
  refine ⟨?_, by omega, h.b⟩
  have := low_scale (p := x.p) (q := x.q) (s := x.s) d k0 (by omega)
  rw [← e1, ← e2, ← e3, ← h.e] at this
  exact this
theorem low_gc (hs : s ≠ 0) : gc (low p q d s).p (low p q d s).q (low p q d s).s = 1 := by
  obtain ⟨k, k0, e1, e2, e3, e4⟩ := low_spec (p := p) (q := q) d hs
  have g0 := gc_pos (p := p) (q := q) hs
  have e := gc_scale k (low p q d s).p (low p q d s).q (low p q d s).s
  rw [← e1, ← e2, ← e3] at e
  have hb := back (gc_ds (p := p) (q := q) (s := s)) (sg_sq s)
  have e5 : s = sg s * gc p q s * (low p q d s).s := hb
  have e6 : k = sg s * gc p q s := by
    have : k * (low p q d s).s = sg s * gc p q s * (low p q d s).s := by rw [← e3, ← e5]
    exact Int.eq_of_mul_eq_mul_right (by omega) this
  have e7 : (k.natAbs : Int) = gc p q s := by
    rw [e6]
    unfold sg
    split <;> omega
  rw [e7] at e
  have : gc p q s * 1 = gc p q s * gc (low p q d s).p (low p q d s).q (low p q d s).s := by rw [Int.mul_one]; exact e
  exact (Int.eq_of_mul_eq_mul_left (by omega) this).symm
theorem gc_shift (v : Int) (hs : x.s ≠ 0) (h : gc x.p x.q x.s = 1) : gc (x.p + v * x.s) x.q x.s = 1 := by
  have g0 := gc_pos (p := x.p + v * x.s) (q := x.q) hs
  have d1 : gc (x.p + v * x.s) x.q x.s ∣ x.p := by
    have := Int.dvd_sub (gc_dp (p := x.p + v * x.s) (q := x.q) (s := x.s)) (Int.dvd_trans (gc_ds (p := x.p + v * x.s) (q := x.q) (s := x.s)) (Int.dvd_mul_left v x.s))
    rwa [Int.add_sub_cancel] at this
  have d2 : gc (x.p + v * x.s) x.q x.s ∣ gc x.p x.q x.s := by
    have n1 := Int.natAbs_dvd_natAbs.mpr d1
    have n2 := Int.natAbs_dvd_natAbs.mpr (gc_dq (p := x.p + v * x.s) (q := x.q) (s := x.s))
    have n3 := Int.natAbs_dvd_natAbs.mpr (gc_ds (p := x.p + v * x.s) (q := x.q) (s := x.s))
    have := Nat.dvd_gcd (Nat.dvd_gcd n1 n2) n3
    exact Int.natAbs_dvd_natAbs.mp (by unfold gc at this ⊢; simpa using this)
  rw [h] at d2
  have := Int.le_of_dvd (by decide) d2
  omega
theorem low_one {p q d s : Int} (hs : 0 < s) (h : gc p q s = 1) : low p q d s = ⟨p, q, if q = 0 then 0 else d, s⟩ := by
  unfold low
  have : sg s = 1 := by unfold sg; rw [if_neg (by omega)]
  rw [h, this]
  simp
/-- x and a whole number more -/
theorem fl_shift (h : Fv d n x p q s) {k : Int} (v : Int) (hk : Fl x k) : Fl (low (x.p + v * x.s) x.q d x.s) (k + v) := by
  obtain ⟨l, l0, e1, e2, e3, e4, dx⟩ := h.kk
  have g1 : gc x.p x.q x.s = 1 := by rw [h.e]; exact low_gc h.s0
  rw [low_one e4 (gc_shift v (by omega) g1), ← dx]
  obtain ⟨r, h1, rfl⟩ := hk
  refine ⟨r, h1, ?_⟩
  show (if 0 ≤ x.q then (x.p + r) / x.s else (x.p - r - 1) / x.s) + v = if 0 ≤ x.q then (x.p + v * x.s + r) / x.s else (x.p + v * x.s - r - 1) / x.s
  split
  · rw [show x.p + v * x.s + r = x.p + r + v * x.s by grind, Int.add_mul_ediv_right _ _ (by omega)]
  · rw [show x.p + v * x.s - r - 1 = x.p - r - 1 + v * x.s by grind, Int.add_mul_ediv_right _ _ (by omega)]
theorem sq_lt {a b : Int} (h0 : 0 ≤ a) (h : a < b) : a * a < b * b := by
  have := Int.mul_le_mul (show a + 1 ≤ b by omega) (show a + 1 ≤ b by omega) (by omega) (by omega)
  have e : (a + 1) * (a + 1) = a * a + 2 * a + 1 := by grind
  omega
theorem sq_le {a b : Int} (h0 : 0 ≤ a) (h : a ≤ b) : a * a ≤ b * b := Int.mul_le_mul h h h0 (by omega)
/-- the floor is not above, the next is above -/
theorem fl_sos (h : Fv d n x p q s) (hd : Dd d) {k : Int} (hk : Fl x k) : sos (k * x.s - x.p) (0 - x.q) d ≤ 0 ∧ sos ((k + 1) * x.s - x.p) (0 - x.q) d = 1 := by
  obtain ⟨l, l0, e1, e2, e3, e4, dx⟩ := h.kk
  obtain ⟨r, ⟨r0, r1, r2⟩, ek⟩ := hk
  have hd0 := hd.1
  have qd : x.q * x.q * x.d = x.q * x.q * d := by
    rw [dx]; split
    · rename_i z; rw [z]; simp
    · rfl
  rw [qd] at r1 r2
  have nq : (0 - x.q) * (0 - x.q) * d = x.q * x.q * d := by grind
  by_cases hq : 0 ≤ x.q
  · rw [if_pos hq] at ek
    have l1 : k * x.s ≤ x.p + r := by
      rw [ek, Int.mul_comm]; exact Int.mul_ediv_self_le (by omega)
    have l2 : x.p + r < (k + 1) * x.s := by
      rw [ek, Int.mul_comm]
      have := Int.lt_mul_ediv_self_add (x := x.p + r) e4
      grind
    by_cases z : x.q = 0
    · have r00 : r = 0 := by
        rw [z] at r1
        rcases Int.lt_or_le 0 r with c | c
        · have := Int.mul_pos c c; simp at r1; omega
        · omega
      rw [z]
      simp only [Int.sub_zero, sos_q0]
      refine ⟨?_, sgi_pos (by omega)⟩
      unfold sgi
      split
      · omega
      · split <;> omega
    · have qp : 0 < x.q * x.q * d := Int.mul_pos (Int.mul_pos (by omega) (by omega)) hd0
      constructor
      · rcases Int.lt_trichotomy ((k * x.s - x.p) * (k * x.s - x.p) - (0 - x.q) * (0 - x.q) * d) 0 with c | c | c
        · rw [sos_N hd0 c, sgi_neg (by omega)]; decide
        · obtain ⟨_, a2⟩ := hd.2.2 _ _ (show (k * x.s - x.p) * (k * x.s - x.p) = (0 - x.q) * (0 - x.q) * d by omega)
          omega
        · rw [sos_P hd0 c]
          rcases Int.lt_or_le 0 (k * x.s - x.p) with t | t
          · have := sq_le (show 0 ≤ k * x.s - x.p by omega) (show k * x.s - x.p ≤ r by omega)
            omega
          · unfold sgi
            rw [if_neg (by omega)]
            split <;> omega
      · have := sq_le (show 0 ≤ r + 1 by omega) (show r + 1 ≤ (k + 1) * x.s - x.p by omega)
        rw [sos_P hd0 (by omega), sgi_pos (by omega)]
  · rw [if_neg hq] at ek
    have l1 : k * x.s ≤ x.p - r - 1 := by
      rw [ek, Int.mul_comm]; exact Int.mul_ediv_self_le (by omega)
    have l2 : x.p - r - 1 < (k + 1) * x.s := by
      rw [ek, Int.mul_comm]
      have := Int.lt_mul_ediv_self_add (x := x.p - r - 1) e4
      grind
    have neq : r * r ≠ x.q * x.q * d := fun z => by
      obtain ⟨_, a2⟩ := hd.2.2 _ _ z
      omega
    constructor
    · have := sq_le (show 0 ≤ r + 1 by omega) (show r + 1 ≤ -(k * x.s - x.p) by omega)
      have e : -(k * x.s - x.p) * -(k * x.s - x.p) = (k * x.s - x.p) * (k * x.s - x.p) := by grind
      rw [sos_P hd0 (by omega), sgi_neg (by omega)]; decide
    · rcases Int.lt_trichotomy (((k + 1) * x.s - x.p) * ((k + 1) * x.s - x.p) - (0 - x.q) * (0 - x.q) * d) 0 with c | c | c
      · rw [sos_N hd0 c, sgi_pos (by omega)]
      · obtain ⟨_, a2⟩ := hd.2.2 _ _ (show ((k + 1) * x.s - x.p) * ((k + 1) * x.s - x.p) = (0 - x.q) * (0 - x.q) * d by omega)
        omega
      · rw [sos_P hd0 c]
        rcases Int.lt_or_le ((k + 1) * x.s - x.p) 0 with t | t
        · have := sq_le (show 0 ≤ -((k + 1) * x.s - x.p) by omega) (show -((k + 1) * x.s - x.p) ≤ r by omega)
          have e : -((k + 1) * x.s - x.p) * -((k + 1) * x.s - x.p) = ((k + 1) * x.s - x.p) * ((k + 1) * x.s - x.p) := by grind
          omega
        · rcases Int.lt_or_le 0 ((k + 1) * x.s - x.p) with u | u
          · exact sgi_pos u
          · have : (k + 1) * x.s - x.p = 0 := by omega
            rw [this] at c
            have := sq_nn (0 - x.q)
            have := Int.mul_nonneg this (Int.le_of_lt hd0)
            omega
theorem fl_bd (h : Fv d n x p q s) (hd : Dd d) {k : Int} (hk : Fl x k) : Bd (n + 6) k := by
  obtain ⟨l, l0, e1, e2, e3, e4, dx⟩ := h.kk
  obtain ⟨r, ⟨r0, r1, r2⟩, ek⟩ := hk
  obtain ⟨b1, b2, b3, b4⟩ := h.b
  have hd0 := hd.1
  have hd1 := hd.2.1
  have rb : Bd (n + 4) r := by
    have dle : x.d ≤ 64 := by rw [dx]; split <;> omega
    have e8 : x.q * x.q * x.d ≤ 8 * (x.q.natAbs : Int) * (8 * (x.q.natAbs : Int)) := by
      have h1 := Int.mul_le_mul_of_nonneg_left dle (sq_nn x.q)
      have h2 : (x.q.natAbs : Int) * (x.q.natAbs : Int) = x.q * x.q := Int.natAbs_mul_self
      have h3 : 8 * (x.q.natAbs : Int) * (8 * (x.q.natAbs : Int)) = (x.q.natAbs : Int) * (x.q.natAbs : Int) * 64 := by grind
      rw [h3, h2]; exact h1
    have le : r ≤ 8 * (x.q.natAbs : Int) := by
      rcases Int.lt_or_le (8 * (x.q.natAbs : Int)) r with c | c
      · have := sq_lt (by omega) c
        omega
      · exact c
    have b8 : Bd (n + 4) (8 * (x.q.natAbs : Int)) := by
      have : Bd n (x.q.natAbs : Int) := by unfold Bd at *; omega
      exact ((show Bd 4 8 by unfold Bd; decide).mul this).mono (by omega)
    exact b8.of r0 le
  rw [ek]
  split
  · exact Bd.div (b1.add rb (by omega)) _ e4
  · refine Bd.div ?_ _ e4
    exact (b1.sub rb (k := n + 5) (by omega)).sub (show Bd 1 1 by unfold Bd; decide) (by omega)
end
/-! ### the six roots -/
end KK

set_option maxHeartbeats 1000000
namespace KK
open PySem PySem.Spec L2 DL
section
variable {ρ : DSt} {a b c e : TED} {W : WD} {D : DEnds} {nn : TSD}
theorem ev_new {dr : TND} {zs : List PyData} (h : EvA dr ρ zs) (hl : zs.length ≤ 1000) : Ev (dNew (nLst dr)) ρ (.list zs) := fun Q k => h _ ⟨Nat.le_trans hl (by rw [sizeLine_eq]; decide), k _ (fun _ h => h) (fun _ h => h)⟩
theorem Pr.run {p : DSp} {ds : List PyData} {z : PyData} (h : Pr p ds z) {Q : R → DSt → Prop} (k : Q (.d z) ρ) : p (ds.map SD.val) (fun r _ => retD Q ρ r) (fun e _ => W e ρ) := h _ _ k
/-- the roots of a turn -/
structure Rt (z f r : Int) : Prop where
  d : Dd r
  r2 : 2 ≤ r
  f0 : 0 < f
  f3 : f ≤ 3
  e : f * f * r = z
  u : ∀ f' r', 0 < f' → 0 < r' → f' * f' * r' = z → sqfree r' → f' = f ∧ r' = r
theorem Rt.z {z f r : Int} (h : Rt z f r) : 0 < z ∧ z < 600 := by
  have h1 := h.d.1
  have h2 := h.d.2.1
  have h3 := h.f3
  have h4 := h.f0
  have hf : f = 1 ∨ f = 2 ∨ f = 3 := by omega
  have := h.e
  rcases hf with rfl | rfl | rfl <;> omega
/-! draws -/
theorem dr_upto {io : Bool} {s : Spl} {m : Nat} {b : Int} {Q : R → DSt → Prop} (h : ρ[1]? = some (.own io s.L)) (ha : Ev a ρ (.int b)) (hs : Sok m s) (hm : m < 2 ^ 50) (h0 : 0 < b) (hb : Bd 1000 b) (k : ∀ n s', 0 ≤ n → n < b → Sok (m + 1) s' → Q (.d (.int n)) (ρ.set 1 (.own io s'.L))) :
    withLent 1 (dCallL p__law_upto W 1 (dCons a dNil)) ρ Q := by
  refine ⟨by unfold isLent; rw [h]; trivial, eva_cons ha eva_nil _ ?_⟩
  show lendK ρ 1 _
  unfold lendK
  rw [h]
  refine ⟨s, m, b, rfl, hs, by omega, h0, hb.mono (by omega), fun n s' n0 n1 hs' => ?_⟩
  unfold backK
  rw [h]
  exact k n s' n0 n1 hs'
theorem dr_choice {io : Bool} {s : Spl} {m : Nat} {xs : List PyData} {Q : R → DSt → Prop} (h : ρ[1]? = some (.own io s.L)) (ha : Ev a ρ (.list xs)) (hs : Sok m s) (hm : m < 2 ^ 50) (h0 : xs ≠ []) (hb : xs.length < 1000) (k : ∀ x s', x ∈ xs → Sok (m + 1) s' → Q (.d x) (ρ.set 1 (.own io s'.L))) :
    withLent 1 (dCallL p__law_choice W 1 (dCons a dNil)) ρ Q := by
  refine ⟨by unfold isLent; rw [h]; trivial, eva_cons ha eva_nil _ ?_⟩
  show lendK ρ 1 _
  unfold lendK
  rw [h]
  refine ⟨s, m, xs, rfl, hs, by omega, h0, by omega, fun x s' hx hs' => ?_⟩
  unfold backK
  rw [h]
  exact k x s' hx hs'
theorem s_spool {ns : List Int} {rest : DSt} (hl : ns.length ≤ 63) (k : ∀ s, Sok 0 s → nn D (.res true (scriptR ns) :: .own false s.L :: rest)) : sSeq (sOwn 1 (withLentN 0 (nCallL p__law_spool_of W 0 dNil))) nn D (.res true (scriptR ns) :: .no :: rest) := by
  refine ⟨trivial, ns, rfl, hl, fun s hs => ⟨?_, k s hs⟩⟩
  show 1 < _
  simp
end
end KK

set_option maxHeartbeats 2000000
namespace KK
open PySem PySem.Spec L2 DL
theorem rg {P : Prop} (a b : P) : P := a
def Good (r : Int) (y : PyData) : Prop := ∃ x p q s, y = Nu.D x ∧ Fv r 60 x p q s ∧ 0 < s
theorem small_mul {i j : Int} (h1 : i.natAbs < 2 ^ 100) (h2 : j.natAbs < 2 ^ 100) : CMulW i j := Bd.cm (n := 100) (m := 100) h1 h2 (by omega)
end KK

set_option maxHeartbeats 4000000
namespace KK
open PySem PySem.Spec L2 DL
theorem evt_and0 {ρ : DSt} {ta tb : TTD} {u : Bool} (h : EvT ta ρ u) (h2 : u = true → EvT tb ρ false) : EvT (dAnd ta tb) ρ false := fun Q hq => h _ (by cases u with | false => exact hq | true => exact h2 rfl _ hq)
theorem evt_or0 {ρ : DSt} {ta tb : TTD} (h : EvT ta ρ false) (h2 : EvT tb ρ false) : EvT (dOr ta tb) ρ false := fun Q hq => h _ (h2 _ hq)
theorem sos_range (p q d : Int) : sos p q d = -1 ∨ sos p q d = 0 ∨ sos p q d = 1 := by
  have sg3 : ∀ x, sgi x = -1 ∨ sgi x = 0 ∨ sgi x = 1 := fun x => by unfold sgi; split; exact .inr (.inr rfl); split; exact .inl rfl; exact .inr (.inl rfl)
  have b3 : (if 0 < d then sgi q else 0) = -1 ∨ (if 0 < d then sgi q else 0) = 0 ∨ (if 0 < d then sgi q else 0) = 1 := by split; exact sg3 q; exact .inr (.inl rfl)
  have a3 := sg3 p
  unfold sos
  generalize (if 0 < d then sgi q else 0) = b at b3 ⊢
  generalize sgi p = a at a3 ⊢
  split
  · exact a3
  · split
    · exact b3
    · split
      · exact a3
      · exact b3
theorem ev_gtI {ρ : DSt} {a b : TED} {i j : Int} (ha : Ev a ρ (.int i)) (hb : Ev b ρ (.int j)) (h : ¬ j < i) : EvT (dTest (dOp dGt a b)) ρ false :=
  evt_test (ev_op (z := .bool false) ha hb fun k hk => by show k (.bool (decide (j < i))); rw [decide_eq_false h]; exact hk)
theorem ev_ltI {ρ : DSt} {a b : TED} {i j : Int} (ha : Ev a ρ (.int i)) (hb : Ev b ρ (.int j)) (h : ¬ i < j) : EvT (dTest (dOp dLt a b)) ρ false :=
  evt_test (ev_op (z := .bool false) ha hb fun k hk => by show k (.bool (decide (i < j))); rw [decide_eq_false h]; exact hk)
end KK

set_option maxHeartbeats 1000000
namespace KK
open PySem PySem.Spec L2 DL
theorem pure__law_common (α : List SD) (QD : Ret → List SD → Prop) (ED : Exd → List SD → Prop) (W : WD) (hW : W = fun e ρ => outK α ρ fun α' => ED e α') (h : p__law_common α QD ED) : r__law_common W (DEnd α QD) (startD n__law_common.length α) := pure_common_divisor α QD ED W hW h
theorem fdn {g a : Int} (hg : 0 < g) (h : g ∣ a) : a.fdiv (-g) = -a / g := by
  obtain ⟨y, rfl⟩ := h
  have e1 : g * y = -g * -y := by grind
  rw [e1, Int.mul_fdiv_cancel_left _ (by omega)]
  rw [show -(-g * -y) = g * -y by grind, Int.mul_ediv_cancel_left _ (by omega)]
end KK

set_option maxHeartbeats 2000000
namespace KK
open PySem PySem.Spec L2 DL
theorem small_line {n : Nat} (h : n ≤ 1000) : n ≤ sizeLine := Nat.le_trans h (by rw [sizeLine_eq]; decide)
theorem ev_isX {i : Nat} {ρ : DSt} {e : Exd} {R0 : Addr → Bool → Prop} {b : Bool} (io : Bool) (h : ρ[i]? = some (.res io (excR e))) (hr : R0 e.C b) : Ev (dIsX i R0) ρ (.bool b) := fun Q k => ⟨io, e, b, h, hr, k _ (fun _ h => h) (fun _ h => h)⟩
theorem ev_m1 {ρ : DSt} {f : PyData → PyData → (PyData → Prop) → Prop} {a b : TED} {ds : List PyData} {y z : PyData} (ha : Ev a ρ (.list ds)) (hb : Ev b ρ y) (hf : ∀ k : PyData → Prop, k z → f (.list ds) y k) : Ev (dM1 f a b) ρ z := fun Q k =>
  ha _ fun r1 h1 _ => h1 _ ⟨trivial, hb _ fun r2 h2 _ => h1 _ (h2 _ (hf _ (k _ (fun _ h => h) (fun _ h => h))))⟩
theorem ev_set_seq {ρ : DSt} {i : Nat} {a : TED} {n : TSD} {D : DEnds} {z : PyData} (h : Ev a ρ z) (k : n D (ρ.set i (.val z))) : sSeq (sSet i a) n D ρ := s_set h k
theorem s_ret {ρ : DSt} {a : TED} {D : DEnds} {z : PyData} (h : Ev a ρ z) (k : D.rt (.d z) ρ) : sRet a D ρ := h _ fun r _ h2 => h2 (fun d ρ2 => D.rt (.d d) ρ2) k
end KK

set_option maxHeartbeats 2000000
namespace KK
open PySem PySem.Spec L2 DL
theorem ev_isD {ρ : DSt} {a : TED} {z : PyData} (isT : PyData → Bool) (h : Ev a ρ z) : Ev (dIsD isT a) ρ (.bool (isT z)) := fun Q k => h _ fun r h1 _ => h1 _ (k _ (fun _ h => h) (fun _ h => h))
theorem ev_f1 {ρ : DSt} {f : PyData → (PyData → Prop) → Prop} {a : TED} {x z : PyData} (h : Ev a ρ x) (hf : ∀ k : PyData → Prop, k z → f x k) : Ev (dF1 f a) ρ z := fun Q k => h _ fun r h1 _ => h1 _ (hf _ (k _ (fun _ h => h) (fun _ h => h)))
theorem ev_andV {ρ : DSt} {a b : TED} {z : PyData} (h : Ev a ρ (.bool true)) (h2 : Ev b ρ z) : Ev (dAndV a b) ρ z := fun Q k => h _ fun r h1 _ => h1 _ (h2 _ k)
theorem s_asg {ρ : DSt} {a : TED} {g : TGD} {n : TSD} {D : DEnds} {z : PyData} (h : Ev a ρ z) (k : g z ρ (n D)) : sSeq (sAsg a g) n D ρ := h _ fun r _ h2 => h2 (fun d ρ2 => g d ρ2 (n D)) k
theorem num_canon {x : Nu} (h : Cn x) {f r : Int} (hs : sqp x.d f r) : numF x.p x.q f r x.s = x := by
  obtain ⟨s0, g1, hqd, _⟩ := h
  rcases hqd with ⟨hq, hd⟩ | ⟨hq, hd, sq⟩
  · rcases hs with ⟨_, rfl, rfl⟩ | ⟨h, _⟩
    · unfold numF
      rw [if_pos (by decide), hq]
      rw [hq] at g1
      have : x.p + 0 * 0 = x.p := by omega
      rw [this, low_one s0 g1]
      obtain ⟨p, q, d, s⟩ := x
      simp at hq hd ⊢
      exact ⟨hq.symm, hd.symm⟩
    · omega
  · rcases hs with ⟨h, _⟩ | ⟨_, f0, r0, e, sr⟩
    · omega
    · have f1 : f = 1 := by
        rcases Int.lt_or_le 1 f with z | z
        · exact absurd ⟨r, e.symm⟩ (sq f z)
        · omega
      subst f1
      have er : r = x.d := by omega
      subst er
      unfold numF
      rw [if_neg (by omega), Int.mul_one, low_one s0 g1, if_neg hq]
theorem dr_uptoJ {ρ : DSt} {a : TED} {W : WD} (j : Nat) {io : Bool} {s : Spl} {m : Nat} {b : Int} {Q : R → DSt → Prop} (h : ρ[j]? = some (.own io s.L)) (ha : Ev a ρ (.int b)) (hs : Sok m s) (hm : m < 2 ^ 50) (h0 : 0 < b) (hb : Bd 1000 b) (k : ∀ n s', 0 ≤ n → n < b → Sok (m + 1) s' → Q (.d (.int n)) (ρ.set j (.own io s'.L))) :
    withLent j (dCallL p__law_upto W j (dCons a dNil)) ρ Q := by
  refine ⟨by unfold isLent; rw [h]; trivial, eva_cons ha eva_nil _ ?_⟩
  show lendK ρ j _
  unfold lendK
  rw [h]
  refine ⟨s, m, b, rfl, hs, by omega, h0, hb.mono (by omega), fun n s' n0 n1 hs' => ?_⟩
  unfold backK
  rw [h]
  exact k n s' n0 n1 hs'
end KK

set_option maxHeartbeats 4000000
namespace KK
open PySem PySem.Spec L2 DL
theorem lcD_inv {vs : List Nat} {g : TGD} {te : TED} {Q : List PyData → DSt → Prop} (Inv : Nat → DSt → Prop) (P : PyData → Prop) : ∀ (items acc : List PyData) (ρ : DSt), Inv items.length ρ → acc.length + items.length ≤ 900 → (∀ z ∈ acc, P z) →
    (∀ k x ρ (Q' : R → DSt → Prop), x ∈ items → Inv (k + 1) ρ → (∀ z ρ', P z → Inv k (wipeD ρ' vs) → Q' (.d z) ρ') → g x ρ fun ρ1 => te ρ1 Q') →
    (∀ ds ρ', ds.length = acc.length + items.length → (∀ z ∈ ds, P z) → Inv 0 ρ' → Q ds ρ') → lcD vs g dYes te items acc ρ Q
  | [], acc, ρ, h, _, ha, _, fin => fin acc ρ (by simp) ha h
  | x :: xs, acc, ρ, h, hl, ha, step, fin => by
    simp only [List.length_cons] at hl
    refine step xs.length x ρ _ List.mem_cons_self h fun z ρ' hz hi => ?_
    refine ⟨Nat.lt_of_lt_of_le (show acc.length < 1000 by omega) (by rw [sizeLine_eq]; decide), ?_⟩
    refine lcD_inv Inv P xs (acc ++ [z]) _ hi (by simp; omega) (fun y hy => ?_) (fun k y ρ Q' hy => step k y ρ Q' (List.mem_cons_of_mem _ hy)) fun ds ρ' hd => fin ds ρ' (by simp at hd ⊢; omega)
    rcases List.mem_append.mp hy with h | h
    · exact ha y h
    · rw [List.mem_singleton.mp h]; exact hz
/-! squarefree parts are the same -/
theorem sqf_one {a b r : Nat} (hc : Nat.Coprime a b) (h : a * a ∣ b * b * r) : a * a ∣ r := by
  have c1 : Nat.Coprime (a * a) b := Nat.Coprime.mul_left hc hc
  have c2 : Nat.Coprime (a * a) (b * b) := Nat.Coprime.mul_right c1 c1
  exact Nat.Coprime.dvd_of_dvd_mul_left c2 h
theorem sqf_uniq {f r f' r' : Int} (f0 : 0 < f) (r0 : 0 < r) (f0' : 0 < f') (r0' : 0 < r') (e : f * f * r = f' * f' * r') (s : sqfree r) (s' : sqfree r') : f = f' ∧ r = r' := by
  obtain ⟨F, rfl⟩ := Int.eq_ofNat_of_zero_le (Int.le_of_lt f0)
  obtain ⟨F', rfl⟩ := Int.eq_ofNat_of_zero_le (Int.le_of_lt f0')
  obtain ⟨S, rfl⟩ := Int.eq_ofNat_of_zero_le (Int.le_of_lt r0)
  obtain ⟨S', rfl⟩ := Int.eq_ofNat_of_zero_le (Int.le_of_lt r0')
  have e : F * F * S = F' * F' * S' := by exact_mod_cast e
  have one : ∀ {a b r r' : Nat}, Nat.Coprime a b → a * a * r = b * b * r' → 0 < a → sqfree (r' : Int) → a = 1 := fun {a b r r'} hc h ha hs => by
    have hd : a * a ∣ r' := sqf_one hc ⟨r, h.symm⟩
    rcases Nat.lt_or_ge 1 a with z | z
    · exact absurd (show ((a : Int) * (a : Int)) ∣ (r' : Int) by exact_mod_cast Int.natCast_dvd_natCast.mpr hd) (hs (a : Int) (by omega))
    · omega
  have g0 : 0 < Nat.gcd F F' := Nat.gcd_pos_of_pos_left _ (by omega)
  obtain ⟨a, ha⟩ := Nat.gcd_dvd_left F F'
  obtain ⟨b, hb⟩ := Nat.gcd_dvd_right F F'
  have hc : Nat.Coprime a b := by
    have h1 : a = F / Nat.gcd F F' := (Nat.div_eq_of_eq_mul_right g0 ha).symm
    have h2 : b = F' / Nat.gcd F F' := (Nat.div_eq_of_eq_mul_right g0 hb).symm
    rw [h1, h2]
    exact Nat.coprime_div_gcd_div_gcd g0
  generalize hg : Nat.gcd F F' = g at ha hb g0
  have h3 : a * a * S = b * b * S' := by
    rw [ha, hb] at e
    have e2 : g * g * (a * a * S) = g * g * (b * b * S') := by grind
    exact Nat.eq_of_mul_eq_mul_left (Nat.mul_pos g0 g0) e2
  have a0 : 0 < a := Nat.pos_of_ne_zero fun z => by rw [z] at ha; simp at ha; omega
  have b0 : 0 < b := Nat.pos_of_ne_zero fun z => by rw [z] at hb; simp at hb; omega
  have a1 := one hc h3 a0 s'
  have b1 := one hc.symm h3.symm b0 s
  subst a1 b1
  refine ⟨by rw [ha, hb], ?_⟩
  simp at h3
  rw [h3]
theorem sqp_uniq {d f r f' r' : Int} (h : sqp d f r) (h' : sqp d f' r') : f' = f ∧ r' = r := by
  rcases h with ⟨h1, h2, h3⟩ | ⟨h1, h2, h3, h4, h5⟩ <;> rcases h' with ⟨k1, k2, k3⟩ | ⟨k1, k2, k3, k4, k5⟩
  · omega
  · omega
  · omega
  · exact sqf_uniq k2 k3 h2 h3 (by rw [k4, h4]) k5 h5
/-! shown -/
theorem int_len {i : Int} (h : Bd 1900 i) : (Str.ofString (toString i)).length ≤ 1921 := by
  rw [PySem.ofString_length]
  refine PySem.int_text_length_le (k := 1920) (by decide) ?_
  unfold Bd at h
  by_cases z : i.natAbs = 0
  · rw [z]; decide
  · exact Nat.lt_of_lt_of_le ((Nat.log2_lt z).mpr h) (by decide)
theorem bd_show {i : Int} (h : Bd 1900 i) : i.natAbs.log2 < 1920 := by
  unfold Bd at h
  by_cases z : i.natAbs = 0
  · rw [z]; decide
  · exact Nat.lt_of_lt_of_le ((Nat.log2_lt z).mpr h) (by decide)
theorem nu_shown {x : Nu} (h : Nb 1900 x) : x.D.showable = true ∧ x.D.hasDict = false ∧ x.D.depth ≤ 60 ∧ x.D.shown.length ≤ sizeLine := by
  obtain ⟨h1, h2, h3, h4⟩ := h
  refine ⟨?_, rfl, (by show (1 : Nat) ≤ 60; decide), ?_⟩
  · show (decide _ && (decide _ && (decide _ && (decide _ && true)))) = true
    rw [decide_eq_true (bd_show h1), decide_eq_true (bd_show h2), decide_eq_true (bd_show h3), decide_eq_true (bd_show h4)]; rfl
  · have e := PySem.join_length_add [toString x.p, toString x.q, toString x.d, toString x.s] (by simp)
    have l1 := int_len h1
    have l2 := int_len h2
    have l3 := int_len h3
    have l4 := int_len h4
    simp only [PySem.piled_cons, PySem.piled_nil] at e
    show (("(" : Str) ++ Str.join ", " [toString x.p, toString x.q, toString x.d, toString x.s] ++ (")" : Str)).length ≤ sizeLine
    rw [Str.length_append, Str.length_append]
    have o1 : ("(" : Str).length = 1 := rfl
    have o2 : (")" : Str).length = 1 := rfl
    rw [o1, o2, sizeLine_eq]
    omega
end KK

set_option maxHeartbeats 4000000
namespace KK
open PySem PySem.Spec L2 DL
theorem s_ifseq {ρ : DSt} {x : TTD} {t e n : TSD} {D : DEnds} (h : EvT x ρ true) (k : t { D with nx := n D } ρ) : sSeq (sIf x t e) n D ρ := h _ k
theorem s_set1 {ρ : DSt} {i : Nat} {a : TED} {D : DEnds} {z : PyData} (h : Ev a ρ z) (k : D.nx (ρ.set i (.val z))) : sSet i a D ρ := h _ fun r _ h2 => h2 (fun d ρ2 => D.nx (ρ2.set i (.val d))) k
theorem sqp_f {d f r : Int} (h : sqp d f r) (hd : Bd 60 d) : Bd 60 f := by
  rcases h with ⟨_, rfl, _⟩ | ⟨h0, f0, r0, e, _⟩
  · exact bd0 _
  · refine hd.of (by omega) ?_
    have h1 := Int.mul_le_mul_of_nonneg_left (show 1 ≤ f by omega) (show 0 ≤ f by omega)
    have h2 := Int.mul_le_mul_of_nonneg_left (show 1 ≤ r by omega) (show 0 ≤ f * f by have := Int.mul_pos f0 f0; omega)
    omega
theorem sqp_r {d f r : Int} (h : sqp d f r) (hd : Bd 60 d) : Bd 60 r := by
  rcases h with ⟨_, _, rfl⟩ | ⟨h0, f0, r0, e, _⟩
  · exact bd0 _
  · refine hd.of (by omega) ?_
    have h2 := Int.mul_le_mul_of_nonneg_right (show 1 ≤ f * f by have := Int.mul_pos f0 f0; omega) (show 0 ≤ r by omega)
    omega
theorem numF_Cn {p q d f r s : Int} (hs : s ≠ 0) (h : sqp d f r) (bp : Bd 1000 p) (bq : Bd 1000 q) (bd : Bd 60 d) (bs : Bd 1000 s) : Cn (numF p q f r s) ∧ Nb 1900 (numF p q f r s) := by
  have bf := sqp_f h bd
  have br := sqp_r h bd
  have bqf : Bd 1060 (q * f) := bq.mul bf
  have b1 : Bd 1900 (p + q * f) := bp.add bqf (by omega)
  have key : ∀ (P Q D : Int), Bd 1900 P → Bd 1900 Q → Bd 1900 D → (Q = 0 ∨ (1 < D ∧ sqfree D)) → Cn (low P Q D s) ∧ Nb 1900 (low P Q D s) := by
    intro P Q D b1 b2 b3 hh
    have nb := low_bd hs b1 b2 b3 (bs.mono (show 1000 ≤ 1900 by omega))
    obtain ⟨k, k0, e1, e2, e3, e4⟩ := low_spec (p := P) (q := Q) D hs
    have dd := low_dd (p := P) (q := Q) (d := D) hs
    have qq := low_q (p := P) (q := Q) (d := D) hs
    refine ⟨⟨e4, low_gc hs, ?_, nb_mono nb (by omega)⟩, nb⟩
    by_cases hq : (low P Q D s).q = 0
    · exact .inl ⟨hq, by rw [dd, if_pos hq]⟩
    · rcases hh with h | h
      · exact absurd (qq.mpr h) hq
      · exact .inr ⟨hq, by rw [dd, if_neg hq]; exact h.1, by rw [dd, if_neg hq]; exact h.2⟩
  unfold numF
  by_cases hr : r < 2
  · rw [if_pos hr]
    exact key _ _ _ b1 (bd0 _) (bd0 _) (.inl rfl)
  · rw [if_neg hr]
    refine key _ _ _ (bp.mono (by omega)) (bqf.mono (by omega)) (br.mono (by omega)) (.inr ⟨by omega, ?_⟩)
    rcases h with ⟨_, _, h⟩ | ⟨_, _, _, _, h⟩
    · omega
    · exact h
end KK

namespace KK
open PySem PySem.Spec L2 DL
theorem len_common_divisor : ∀ α QD ED, p_common_divisor α QD ED → α.length = [("first" : Str), "second"].length := by rintro α QD ED ⟨a, b, rfl, _⟩; rfl
theorem len_without_squares : ∀ α QD ED, p_without_squares α QD ED → α.length = [("number" : Str)].length := by rintro α QD ED ⟨a, rfl, _⟩; rfl
theorem len_root_of : ∀ α QD ED, p_root_of α QD ED → α.length = [("first" : Str), "second"].length := by rintro α QD ED ⟨a, b, rfl, _⟩; rfl
theorem len__law_stirred : ∀ α QD ED, p__law_stirred α QD ED → α.length = [("cell" : Str), "place"].length := by rintro α QD ED ⟨a, b, rfl, _⟩; rfl
theorem len__law_spool_of : ∀ α QD ED, p__law_spool_of α QD ED → α.length = [("script" : Str)].length := by rintro α QD ED ⟨a, rfl, _⟩; rfl
theorem len__law_upto : ∀ α QD ED, p__law_upto α QD ED → α.length = [("spool" : Str), "bound"].length := by rintro α QD ED ⟨a, m, b, rfl, _⟩; rfl
theorem len__law_choice : ∀ α QD ED, p__law_choice α QD ED → α.length = [("spool" : Str), "items"].length := by rintro α QD ED ⟨a, m, b, rfl, _⟩; rfl
theorem len_law : ∀ α QD ED, p_law α QD ED → α.length = [("script" : Str)].length := by rintro α QD ED ⟨ns, _, rfl, _⟩; rfl
end KK

namespace KK
open PySem PySem.Spec L2 DL
theorem len_number {k : Addr} : ∀ α QD ED, p_number k α QD ED → α.length = [("p" : Str), "q", "d", "s"].length := by rintro α QD ED ⟨a, b, c, d, rfl, _⟩; rfl
theorem len__law_common : ∀ α QD ED, p__law_common α QD ED → α.length = [("one" : Str), "other"].length := by rintro α QD ED ⟨a, b, rfl, _⟩; rfl
end KK

set_option maxHeartbeats 1000000
namespace KK
open PySem PySem.Spec L2 DL
/-! ### expressions without effect: one rule a construct -/
section
variable {ρ : DSt} {a b c : TED} {i j : Int} {x : Nu} {y z : PyData} {t : TTD} {u v : Bool}
theorem ev_add (ha : Ev a ρ (.int i)) (hb : Ev b ρ (.int j)) : Ev (dOp dAdd a b) ρ (.int (i + j)) := ev_op ha hb fun _ h => h
theorem ev_sub (ha : Ev a ρ (.int i)) (hb : Ev b ρ (.int j)) : Ev (dOp dSub a b) ρ (.int (i - j)) := ev_op ha hb fun _ h => h
theorem ev_mul (ha : Ev a ρ (.int i)) (hb : Ev b ρ (.int j)) (h : CMulW i j) : Ev (dOp dMul a b) ρ (.int (i * j)) := ev_op ha hb fun _ k => ⟨h, k⟩
theorem ev_fdiv (ha : Ev a ρ (.int i)) (hb : Ev b ρ (.int j)) (h : CDivF i j) : Ev (dOp dFdiv a b) ρ (.int (i.fdiv j)) := ev_op ha hb fun _ k => ⟨h, k⟩
theorem ev_mod (ha : Ev a ρ (.int i)) (hb : Ev b ρ (.int j)) (h : j ≠ 0) : Ev (dOp dMod a b) ρ (.int (i.fmod j)) := ev_op ha hb fun _ k => ⟨h, k⟩
theorem ev_pow (ha : Ev a ρ (.int i)) (hb : Ev b ρ (.int j)) (h : CPow i j) : Ev (dOp dPow a b) ρ (.int (i ^ j.toNat)) := ev_op ha hb fun _ k => ⟨h, k⟩
theorem ev_neg (ha : Ev a ρ (.int i)) : Ev (dNeg a) ρ (.int (-i)) := fun Q k => ha _ fun r h1 _ => h1 _ (k _ (fun _ h => h) (fun _ h => h))
theorem ev_max (ha : Ev a ρ (.int i)) (hb : Ev b ρ (.int j)) : Ev (dOp fMax a b) ρ (.int (nmax i j)) := ev_op ha hb fun _ h => h
theorem ev_abs (ha : Ev a ρ (.int i)) : Ev (dF1 fAbs a) ρ (.int (if i < 0 then -i else i)) := fun Q k => ha _ fun r h1 _ => h1 _ (k _ (fun _ h => h) (fun _ h => h))
theorem ev_lt (ha : Ev a ρ (.int i)) (hb : Ev b ρ (.int j)) : Ev (dOp dLt a b) ρ (.bool (decide (i < j))) := ev_op ha hb fun _ h => h
theorem ev_le (ha : Ev a ρ (.int i)) (hb : Ev b ρ (.int j)) : Ev (dOp dLe a b) ρ (.bool (decide (i ≤ j))) := ev_op ha hb fun _ h => h
theorem ev_gt (ha : Ev a ρ (.int i)) (hb : Ev b ρ (.int j)) : Ev (dOp dGt a b) ρ (.bool (decide (j < i))) := ev_op ha hb fun _ h => h
theorem ev_ge (ha : Ev a ρ (.int i)) (hb : Ev b ρ (.int j)) : Ev (dOp dGe a b) ρ (.bool (decide (j ≤ i))) := ev_op ha hb fun _ h => h
theorem ev_eq (ha : Ev a ρ (.int i)) (hb : Ev b ρ (.int j)) : Ev (dOp dEq a b) ρ (.bool (decide (i = j))) := ev_op ha hb fun _ h => ⟨rfl, rfl, h⟩
theorem ev_nei (ha : Ev a ρ (.int i)) (hb : Ev b ρ (.int j)) : Ev (dOp dNe a b) ρ (.bool (!decide (i = j))) := ev_op ha hb fun _ h => ⟨rfl, rfl, h⟩
theorem ev_eqD (ha : Ev a ρ y) (hb : Ev b ρ z) (h1 : SeqAt.shaped y = true := by rfl) (h2 : SeqAt.shaped z = true := by rfl) : Ev (dOp dEq a b) ρ (.bool (PyData.eqv y z)) := ev_op ha hb fun _ h => ⟨h1, h2, h⟩
theorem ev_neD (ha : Ev a ρ y) (hb : Ev b ρ z) (h1 : SeqAt.shaped y = true := by rfl) (h2 : SeqAt.shaped z = true := by rfl) : Ev (dOp dNe a b) ρ (.bool (!PyData.eqv y z)) := ev_op ha hb fun _ h => ⟨h1, h2, h⟩
theorem ev_eqS {y z : Str} (ha : Ev a ρ (.str y)) (hb : Ev b ρ (.str z)) : Ev (dOp dEqS a b) ρ (.bool (decide (y = z))) := ev_op ha hb fun _ h => h
theorem ev_p (ha : Ev a ρ x.D) : Ev (dOp atD a (dC (.int 0))) ρ (.int x.p) := ev_op ha ev_c fun _ h => h
theorem ev_q (ha : Ev a ρ x.D) : Ev (dOp atD a (dC (.int 1))) ρ (.int x.q) := ev_op ha ev_c fun _ h => h
theorem ev_d (ha : Ev a ρ x.D) : Ev (dOp atD a (dC (.int 2))) ρ (.int x.d) := ev_op ha ev_c fun _ h => h
theorem ev_s (ha : Ev a ρ x.D) : Ev (dOp atD a (dC (.int 3))) ρ (.int x.s) := ev_op ha ev_c fun _ h => h
theorem ev_nu {p q d s : Int} (ha : Ev a ρ (.tuple [.int p, .int q, .int d, .int s])) : Ev a ρ (Nu.D ⟨p, q, d, s⟩) := ha
theorem ev_ifT (hc : EvT t ρ true) (ha : Ev a ρ z) : Ev (dIf t a b) ρ z := fun Q k => hc _ (ha Q k)
theorem ev_ifF (hc : EvT t ρ false) (hb : Ev b ρ z) : Ev (dIf t a b) ρ z := fun Q k => hc _ (hb Q k)
theorem ev_ifU (hc : EvT t ρ u) (ha : u = true → Ev a ρ y) (hb : u = false → Ev b ρ z) : Ev (dIf t a b) ρ (if u = true then y else z) := by
  cases u with
  | true => exact ev_ifT hc (ha rfl)
  | false => exact ev_ifF hc (hb rfl)
theorem ev_orV (ha : Ev a ρ (.bool u)) (hb : u = false → Ev b ρ (.bool v)) : Ev (dOrV a b) ρ (.bool (u || v)) := by
  intro Q k
  refine ha _ fun r h1 h2 => h1 _ ?_
  cases u with
  | true => exact k _ (fun _ h => h) (fun _ h => h)
  | false => exact hb rfl Q k
theorem evt_lt (ha : Ev a ρ (.int i)) (hb : Ev b ρ (.int j)) : EvT (dTest (dOp dLt a b)) ρ (decide (i < j)) := evt_test (ev_lt ha hb)
theorem evt_le (ha : Ev a ρ (.int i)) (hb : Ev b ρ (.int j)) : EvT (dTest (dOp dLe a b)) ρ (decide (i ≤ j)) := evt_test (ev_le ha hb)
theorem evt_gt (ha : Ev a ρ (.int i)) (hb : Ev b ρ (.int j)) : EvT (dTest (dOp dGt a b)) ρ (decide (j < i)) := evt_test (ev_gt ha hb)
theorem evt_ge (ha : Ev a ρ (.int i)) (hb : Ev b ρ (.int j)) : EvT (dTest (dOp dGe a b)) ρ (decide (j ≤ i)) := evt_test (ev_ge ha hb)
theorem evt_eq (ha : Ev a ρ (.int i)) (hb : Ev b ρ (.int j)) : EvT (dTest (dOp dEq a b)) ρ (decide (i = j)) := evt_test (ev_eq ha hb)
theorem evt_ne (ha : Ev a ρ (.int i)) (hb : Ev b ρ (.int j)) : EvT (dTest (dOp dNe a b)) ρ (!decide (i = j)) := evt_test (ev_nei ha hb)
theorem evt_eqD (ha : Ev a ρ y) (hb : Ev b ρ z) (h1 : SeqAt.shaped y = true := by rfl) (h2 : SeqAt.shaped z = true := by rfl) : EvT (dTest (dOp dEq a b)) ρ (PyData.eqv y z) := evt_test (ev_eqD ha hb h1 h2)
theorem evt_neD (ha : Ev a ρ y) (hb : Ev b ρ z) (h1 : SeqAt.shaped y = true := by rfl) (h2 : SeqAt.shaped z = true := by rfl) : EvT (dTest (dOp dNe a b)) ρ (!PyData.eqv y z) := evt_test (ev_neD ha hb h1 h2)
theorem evt_as {w : Bool} (h : EvT t ρ u) (e : u = w) : EvT t ρ w := e ▸ h
theorem ev_as {z' : PyData} (h : Ev a ρ z) (e : z = z') : Ev a ρ z' := e ▸ h
end
/-! statements -/
section
variable {ρ : DSt} {a : TED} {t : TTD} {s1 s2 n : TSD} {D : DEnds} {z : PyData} {u : Bool} {dr : TND} {zs : List PyData} {p : DSp} {W : WD} {Q : R → DSt → Prop}
theorem s_ifT (h : EvT t ρ true) (k : s1 D ρ) : sIf t s1 s2 D ρ := h _ k
theorem s_ifF (h : EvT t ρ false) (k : s2 D ρ) : sIf t s1 s2 D ρ := h _ k
theorem s_seq (k : s1 { D with nx := n D } ρ) : sSeq s1 n D ρ := k
theorem s_next (k : D.nx ρ) : sNext D ρ := k
theorem s_raise {C : Addr} (k : W ⟨C, []⟩ ρ) : sRaise W C D ρ := k
/-- a call of data -/
theorem c_call (h : EvA dr ρ zs) (k : p (zs.map SD.val) (fun r _ => retD Q ρ r) (fun e _ => W e ρ)) : dCall p W dr ρ Q := h _ k
theorem s_retc (h : EvA dr ρ zs) (k : p (zs.map SD.val) (fun r _ => match r with | .d z => D.rt (.d z) ρ | .n ds => D.rt (.d (.list ds)) ρ) (fun e _ => W e ρ)) : sRet (dCall p W dr) D ρ := h _ k
theorem s_setc {i : Nat} (h : EvA dr ρ zs) (k : p (zs.map SD.val) (fun r _ => match r with | .d z => n D (ρ.set i (.val z)) | .n ds => n D (ρ.set i (.val (.list ds)))) (fun e _ => W e ρ)) : sSeq (sSet i (dCall p W dr)) n D ρ := h _ k
theorem unpack4 {x : Nu} {i0 i1 i2 i3 : Nat} {N : DSt → Prop} (k : N ((((ρ.set i0 (iv x.p)).set i1 (iv x.q)).set i2 (iv x.d)).set i3 (iv x.s))) : gTup' (lenIs 4 (gCons' (gName' i0) (gCons' (gName' i1) (gCons' (gName' i2) (gCons' (gName' i3) gNil'))))) x.D ρ N := ⟨rfl, k⟩
end
/-! two at once -/
theorem s_par {ρ : DSt} {D : DEnds} {a b : TED} {x y : PyData} {i j : Nat} (ha : Ev a ρ x) (hb : Ev b ρ y) (k : D.nx ((ρ.set i (.val x)).set j (.val y))) : sPar i j (dCons a (dCons b dNil)) D ρ := eva_cons ha (eva_cons hb eva_nil) _ k
theorem s_parS {ρ : DSt} {D : DEnds} {n : TSD} {a b : TED} {x y : PyData} {i j : Nat} (ha : Ev a ρ x) (hb : Ev b ρ y) (k : n D ((ρ.set i (.val x)).set j (.val y))) : sSeq (sPar i j (dCons a (dCons b dNil))) n D ρ := s_par (D := { D with nx := n D }) ha hb k
theorem unpack3 {ρ : DSt} {a b c : PyData} {i0 i1 i2 : Nat} {N : DSt → Prop} (k : N (((ρ.set i0 (.val a)).set i1 (.val b)).set i2 (.val c))) : gTup' (lenIs 3 (gCons' (gName' i0) (gCons' (gName' i1) (gCons' (gName' i2) gNil')))) (.tuple [a, b, c]) ρ N := ⟨rfl, k⟩
theorem unpack2 {ρ : DSt} {a b : PyData} {i0 i1 : Nat} {N : DSt → Prop} (k : N ((ρ.set i0 (.val a)).set i1 (.val b))) : gTup' (lenIs 2 (gCons' (gName' i0) (gCons' (gName' i1) gNil'))) (.tuple [a, b]) ρ N := ⟨rfl, k⟩
/-! calls of a def that is lent a list -/
section
variable {ρ : DSt} {a b : TED} {D : DEnds} {dr : TND} {zs L : List PyData} {p : DSp} {W : WD} {Q : R → DSt → Prop} {QN : List PyData → DSt → Prop} {j : Nat} {io : Bool}
theorem x_lent (h : ρ[j]? = some (.own io L)) (ha : EvA dr ρ zs) (k : p (.own true L :: zs.map SD.val) (fun r α => backK ρ j α fun ρ2 => retD Q ρ2 r) (fun e α => backK ρ j α fun ρ2 => W e ρ2)) : withLent j (dCallL p W j dr) ρ Q := by
  refine ⟨by unfold isLent; rw [h]; trivial, ha _ ?_⟩
  show lendK ρ j _
  unfold lendK
  rw [h]
  exact k
theorem x_back (h : ρ[j]? = some (.own io L)) {L' : List PyData} {α : List SD} {F : DSt → Prop} (k : F (ρ.set j (.own io L'))) : backK ρ j (.own true L' :: α) F := by
  unfold backK
  rw [h]
  exact k
theorem dr_choiceJ (j : Nat) {io : Bool} {s : Spl} {m : Nat} {xs : List PyData} (h : ρ[j]? = some (.own io s.L)) (ha : Ev a ρ (.list xs)) (hs : Sok m s) (hm : m < 2 ^ 50) (h0 : xs ≠ []) (hb : xs.length < 1000) (k : ∀ x s', x ∈ xs → Sok (m + 1) s' → Q (.d x) (ρ.set j (.own io s'.L))) :
    withLent j (dCallL p__law_choice W j (dCons a dNil)) ρ Q :=
  x_lent h (eva_cons ha eva_nil) ⟨s, m, xs, rfl, hs, by omega, h0, by omega, fun x s' hx hs' => x_back h (k x s' hx hs')⟩
/-- the second operand, the first one a datum -/
theorem x_opd {f : PyData → PyData → (PyData → Prop) → Prop} {x y : PyData} (hb : Ev b ρ y) (k : f x y fun z => Q (.d z) ρ) : b ρ (fun r2 ρ2 => vw ρ2 (.d x) fun x => vw ρ2 r2 fun y => f x y fun z => Q (.d z) ρ2) := hb _ fun r2 h2 _ => h2 (fun y => f x y fun z => Q (.d z) ρ) k
/-- the next item -/
theorem x_cons {z : PyData} (ha : Ev a ρ z) (k : dr ρ fun ds ρ2 => QN (z :: ds) ρ2) : dCons a dr ρ QN := ha _ fun r _ h2 => h2 (fun d ρ2 => dr ρ2 fun ds ρ3 => QN (d :: ds) ρ3) k
theorem x_nil (k : QN [] ρ) : dNil ρ QN := k
end
end KK


set_option maxHeartbeats 2000000
namespace KK
open PySem PySem.Spec L2 DL
/-! no square: no fraction's square -/
theorem irr_nonsq {a d : Int} (h0 : 0 ≤ a) (h1 : a * a < d) (h2 : d < (a + 1) * (a + 1)) : Irr d := by
  have main : ∀ (m : Nat) (p q : Int), q.natAbs ≤ m → 0 ≤ p → 0 ≤ q → p * p = q * q * d → q = 0 := by
    intro m
    induction m with
    | zero => intro p q h _ _ _; omega
    | succ m ih =>
      intro p q h hp hq e
      rcases Classical.em (q = 0) with z | z
      · exact z
      have q0 : 0 < q := by omega
      have qq : 0 < q * q := Int.mul_pos q0 q0
      have l1 : a * q < p := by
        rcases Int.lt_or_le (a * q) p with c | c
        · exact c
        · have := Int.mul_le_mul c c hp (by have := Int.mul_nonneg h0 hq; omega)
          have e2 : a * q * (a * q) = q * q * (a * a) := by grind
          have := Int.mul_lt_mul_of_pos_left h1 qq
          omega
      have l2 : p < (a + 1) * q := by
        rcases Int.lt_or_le p ((a + 1) * q) with c | c
        · exact c
        · have := Int.mul_le_mul c c (by have := Int.mul_nonneg (show 0 ≤ a + 1 by omega) hq; omega) hp
          have e2 : (a + 1) * q * ((a + 1) * q) = q * q * ((a + 1) * (a + 1)) := by grind
          have := Int.mul_lt_mul_of_pos_left h2 qq
          omega
      have e3 : (a + 1) * q = a * q + q := by grind
      have key : (d * q - a * p) * (d * q - a * p) = (p - a * q) * (p - a * q) * d := by
        have : (d * q - a * p) * (d * q - a * p) - (p - a * q) * (p - a * q) * d = (d - a * a) * (q * q * d - p * p) := by grind
        rw [e] at this
        simp [sSeq, sIf, sNext, sSet, sAug, sRet, sPar, sPar3, asThree, sRaise, sAsg, sOwn, sApp, sPut, sRetN, sRetOwn, sRetU, sDrop, sBreak, sCont, dVar, dC, dOp, dTest, dCons, dNil, dTup, nLst, dNew, dNeg, dIf, dF1, dAnd, dOr, dNot, dAndV, dOrV, dNotV, dCall, nCall, dCallL, nCallL, withLent, withLentN, vw, frz, dI, dI0, dB0, int2, dEq, dNe, dAdd, dSub, dIAdd, atD, gName', gTup', gNil', gCons', gLst', lenIs, retD, retN, lendK, backK, isLent, ownK, fAbs, fLen, fMax, fMin, startD, outK, shp_int, eqv_int, dIsD, dIsX, dIsNone, dM1, isL, fCount, fIndex, dEqS, dIs, fRepr, atI, ixN] at this
        omega
      have hd : 0 ≤ d * q - a * p := by
        rcases Int.lt_or_le (d * q - a * p) 0 with c | c
        · have c1 : d * q < a * p := by omega
          have := Int.mul_lt_mul_of_pos_right c1 q0
          have e4 : d * q * q = p * p := by rw [e]; grind
          have e5 : a * p * q = a * q * p := by grind
          have := Int.mul_le_mul_of_nonneg_right (Int.le_of_lt l1) hp
          omega
        · exact c
      have := ih (d * q - a * p) (p - a * q) (by omega) hd (by omega) key
      omega
  intro p q e
  have hq : (q.natAbs : Int) = 0 := main q.natAbs p.natAbs q.natAbs (by omega) (by omega) (by omega) (by rw [Int.natAbs_mul_self', Int.natAbs_mul_self']; exact e)
  have hq0 : q = 0 := by omega
  subst hq0
  have : p * p = 0 := by rw [e]; simp [sSeq, sIf, sNext, sSet, sAug, sRet, sPar, sPar3, asThree, sRaise, sAsg, sOwn, sApp, sPut, sRetN, sRetOwn, sRetU, sDrop, sBreak, sCont, dVar, dC, dOp, dTest, dCons, dNil, dTup, nLst, dNew, dNeg, dIf, dF1, dAnd, dOr, dNot, dAndV, dOrV, dNotV, dCall, nCall, dCallL, nCallL, withLent, withLentN, vw, frz, dI, dI0, dB0, int2, dEq, dNe, dAdd, dSub, dIAdd, atD, gName', gTup', gNil', gCons', gLst', lenIs, retD, retN, lendK, backK, isLent, ownK, fAbs, fLen, fMax, fMin, startD, outK, shp_int, eqv_int, dIsD, dIsX, dIsNone, dM1, isL, fCount, fIndex, dEqS, dIs, fRepr, atI, ixN]
  rcases Int.mul_eq_zero.mp this with z | z <;> exact ⟨z, rfl⟩
theorem dr_of {a d : Int} (h0 : 0 ≤ a) (h1 : a * a < d) (h2 : d < (a + 1) * (a + 1)) (hb : Bd 40 d) : Dr d := ⟨by have := sq_nn a; omega, hb, irr_nonsq h0 h1 h2⟩
theorem Dr.ne {d : Int} (h : Dr d) : d ≠ 0 := by have := h.1; omega
theorem low_Gd {n : Nat} {p q d s : Int} (hs : s ≠ 0) (hd : Dr d) (h1 : Bd n p) (h2 : Bd n q) (h3 : Bd n s) (hn : 40 ≤ n) : Gd n (low p q d s) := by
  obtain ⟨k, hk, e1, e2, e3, e4⟩ := low_spec (p := p) (q := q) d hs
  refine ⟨e4, ?_, fun z1 z2 => ?_, low_bd hs h1 h2 (hd.2.1.mono hn) h3⟩
  · rcases Classical.em ((low p q d s).q = 0) with z | z
    · exact .inl ⟨z, by rw [low_dd hs, if_pos z]⟩
    · exact .inr ⟨z, by rw [low_dd hs, if_neg z]; exact hd⟩
  · have g1 := low_gc (p := p) (q := q) (d := d) hs
    rw [z1, z2] at g1
    unfold gc at g1
    simp [sSeq, sIf, sNext, sSet, sAug, sRet, sPar, sPar3, asThree, sRaise, sAsg, sOwn, sApp, sPut, sRetN, sRetOwn, sRetU, sDrop, sBreak, sCont, dVar, dC, dOp, dTest, dCons, dNil, dTup, nLst, dNew, dNeg, dIf, dF1, dAnd, dOr, dNot, dAndV, dOrV, dNotV, dCall, nCall, dCallL, nCallL, withLent, withLentN, vw, frz, dI, dI0, dB0, int2, dEq, dNe, dAdd, dSub, dIAdd, atD, gName', gTup', gNil', gCons', gLst', lenIs, retD, retN, lendK, backK, isLent, ownK, fAbs, fLen, fMax, fMin, startD, outK, shp_int, eqv_int, dIsD, dIsX, dIsNone, dM1, isL, fCount, fIndex, dEqS, dIs, fRepr, atI, ixN] at g1
    omega
theorem Gd.opp {n : Nat} {x : Nu} (h : Gd n x) : Gd n (nopp x) := by
  obtain ⟨h1, h2, h3, b1, b2, b3, b4⟩ := h
  refine ⟨h1, ?_, fun z1 z2 => h3 (by have z1 : -x.p = 0 := z1; omega) (by have z2 : -x.q = 0 := z2; omega), b1.neg, b2.neg, b3, b4⟩
  rcases h2 with ⟨a, b⟩ | ⟨a, b⟩
  · exact .inl ⟨by show -x.q = 0; omega, b⟩
  · exact .inr ⟨by show -x.q ≠ 0; omega, b⟩
theorem Gd.d0 {n : Nat} {x : Nu} (h : Gd n x) : 0 ≤ x.d ∧ (x.d = 0 → x.q = 0) := by
  rcases h.r with ⟨a, b⟩ | ⟨a, b⟩
  · exact ⟨by omega, fun _ => a⟩
  · have := b.1; exact ⟨by omega, fun z => by omega⟩
theorem Gd.norm {n : Nat} {x : Nu} (h : Gd n x) (z : ¬ isZ x) : x.p * x.p - x.q * x.q * x.d ≠ 0 := by
  rcases h.r with ⟨a, b⟩ | ⟨a, b⟩
  · rw [a, b]
    simp [sSeq, sIf, sNext, sSet, sAug, sRet, sPar, sPar3, asThree, sRaise, sAsg, sOwn, sApp, sPut, sRetN, sRetOwn, sRetU, sDrop, sBreak, sCont, dVar, dC, dOp, dTest, dCons, dNil, dTup, nLst, dNew, dNeg, dIf, dF1, dAnd, dOr, dNot, dAndV, dOrV, dNotV, dCall, nCall, dCallL, nCallL, withLent, withLentN, vw, frz, dI, dI0, dB0, int2, dEq, dNe, dAdd, dSub, dIAdd, atD, gName', gTup', gNil', gCons', gLst', lenIs, retD, retN, lendK, backK, isLent, ownK, fAbs, fLen, fMax, fMin, startD, outK, shp_int, eqv_int, dIsD, dIsX, dIsNone, dM1, isL, fCount, fIndex, dEqS, dIs, fRepr, atI, ixN]
    intro hp
    exact z ⟨hp, a, b, h.z hp a⟩
  · intro e
    have := (b.2.2 x.p x.q (by omega)).2
    exact a this
theorem nmax_pos {a b : Int} (h : 0 ≤ a) (h' : 0 ≤ b) (e : nmax a b = 0) : a = 0 ∧ b = 0 := by unfold nmax at e; split at e <;> omega
theorem nmax_bd {n : Nat} {a b : Int} (h : Bd n a) (h' : Bd n b) : Bd n (nmax a b) := by unfold nmax; split; exact h'; exact h
theorem eqv_zero (y : Nu) : PyData.eqv y.D (.tuple l_ZERO) = decide (isZ y) := by
  show PyData.eqvAll [.int y.p, .int y.q, .int y.d, .int y.s] [.int 0, .int 0, .int 0, .int 1] = _
  simp [sSeq, sIf, sNext, sSet, sAug, sRet, sPar, sPar3, asThree, sRaise, sAsg, sOwn, sApp, sPut, sRetN, sRetOwn, sRetU, sDrop, sBreak, sCont, dVar, dC, dOp, dTest, dCons, dNil, dTup, nLst, dNew, dNeg, dIf, dF1, dAnd, dOr, dNot, dAndV, dOrV, dNotV, dCall, nCall, dCallL, nCallL, withLent, withLentN, vw, frz, dI, dI0, dB0, int2, dEq, dNe, dAdd, dSub, dIAdd, atD, gName', gTup', gNil', gCons', gLst', lenIs, retD, retN, lendK, backK, isLent, ownK, fAbs, fLen, fMax, fMin, startD, outK, shp_int, eqv_int, dIsD, dIsX, dIsNone, dM1, isL, fCount, fIndex, dEqS, dIs, fRepr, atI, ixN, PyData.eqvAll, PyData.eqv, isZ, Bool.decide_and, Bool.beq_eq_decide_eq]
  by_cases a : y.p = 0 <;> by_cases b : y.q = 0 <;> by_cases c : y.d = 0 <;> by_cases d : y.s = 1 <;> simp [sSeq, sIf, sNext, sSet, sAug, sRet, sPar, sPar3, asThree, sRaise, sAsg, sOwn, sApp, sPut, sRetN, sRetOwn, sRetU, sDrop, sBreak, sCont, dVar, dC, dOp, dTest, dCons, dNil, dTup, nLst, dNew, dNeg, dIf, dF1, dAnd, dOr, dNot, dAndV, dOrV, dNotV, dCall, nCall, dCallL, nCallL, withLent, withLentN, vw, frz, dI, dI0, dB0, int2, dEq, dNe, dAdd, dSub, dIAdd, atD, gName', gTup', gNil', gCons', gLst', lenIs, retD, retN, lendK, backK, isLent, ownK, fAbs, fLen, fMax, fMin, startD, outK, shp_int, eqv_int, dIsD, dIsX, dIsNone, dM1, isL, fCount, fIndex, dEqS, dIs, fRepr, atI, ixN, a, b, c, d]
theorem low_or {p q d s : Int} (h : d = 0 → q = 0) : (if q = 0 ∨ d = 0 then low p 0 0 s else low p q d s) = low p q d s := by
  split
  · rename_i c
    have z : q = 0 := by rcases c with c | c; exact c; exact h c
    subst z
    exact low_d fun c => absurd rfl c
  · rfl
theorem rts_inv {x y : Nu} (hn : y.p * y.p - y.q * y.q * y.d ≠ 0) (hs : y.s ≠ 0) (hq : y.d ≠ 0 → y.q ≠ 0) : rts x (ninv y) ↔ rts x y := by
  unfold ninv rts
  rw [low_dd hn]
  have e : (low (y.p * y.s) (-y.q * y.s) y.d (y.p * y.p - y.q * y.q * y.d)).q = 0 ↔ y.q = 0 := by
    rw [low_q hn]
    constructor
    · intro z
      rcases Int.mul_eq_zero.mp z with a | a
      · omega
      · exact absurd a hs
    · intro z; rw [z]; simp [sSeq, sIf, sNext, sSet, sAug, sRet, sPar, sPar3, asThree, sRaise, sAsg, sOwn, sApp, sPut, sRetN, sRetOwn, sRetU, sDrop, sBreak, sCont, dVar, dC, dOp, dTest, dCons, dNil, dTup, nLst, dNew, dNeg, dIf, dF1, dAnd, dOr, dNot, dAndV, dOrV, dNotV, dCall, nCall, dCallL, nCallL, withLent, withLentN, vw, frz, dI, dI0, dB0, int2, dEq, dNe, dAdd, dSub, dIAdd, atD, gName', gTup', gNil', gCons', gLst', lenIs, retD, retN, lendK, backK, isLent, ownK, fAbs, fLen, fMax, fMin, startD, outK, shp_int, eqv_int, dIsD, dIsX, dIsNone, dM1, isL, fCount, fIndex, dEqS, dIs, fRepr, atI, ixN]
  by_cases z : y.q = 0
  · rw [if_pos (e.mpr z)]
    have : y.d = 0 := Classical.byContradiction fun c => hq c z
    simp [sSeq, sIf, sNext, sSet, sAug, sRet, sPar, sPar3, asThree, sRaise, sAsg, sOwn, sApp, sPut, sRetN, sRetOwn, sRetU, sDrop, sBreak, sCont, dVar, dC, dOp, dTest, dCons, dNil, dTup, nLst, dNew, dNeg, dIf, dF1, dAnd, dOr, dNot, dAndV, dOrV, dNotV, dCall, nCall, dCallL, nCallL, withLent, withLentN, vw, frz, dI, dI0, dB0, int2, dEq, dNe, dAdd, dSub, dIAdd, atD, gName', gTup', gNil', gCons', gLst', lenIs, retD, retN, lendK, backK, isLent, ownK, fAbs, fLen, fMax, fMin, startD, outK, shp_int, eqv_int, dIsD, dIsX, dIsNone, dM1, isL, fCount, fIndex, dEqS, dIs, fRepr, atI, ixN, this]
  · rw [if_neg (fun c => z (e.mp c))]
theorem ninv_Nb {y : Nu} {n : Nat} (h : Nb n y) (hd : Bd 40 y.d) (hn : y.p * y.p - y.q * y.q * y.d ≠ 0) : Nb (2 * n + 41) (ninv y) := by
  obtain ⟨c1, c2, c3, c4⟩ := h
  have B2 : Bd (2 * n) (y.p * y.p) := (c1.mul c1).mono (by omega)
  have B3 : Bd (2 * n + 40) (y.q * y.q * y.d) := ((c2.mul c2).mul hd).mono (by omega)
  have B4 : Bd (2 * n + 41) (y.p * y.p - y.q * y.q * y.d) := B2.sub B3 (by omega)
  exact low_bd hn ((c1.mul c4).mono (by omega)) ((c2.neg.mul c4).mono (by omega)) (hd.mono (by omega)) B4
theorem Gd.bd {n : Nat} {x : Nu} (h : Gd n x) : Bd 40 x.d := by
  rcases h.r with ⟨_, b⟩ | ⟨_, b⟩
  · rw [b]; exact bd0 _
  · exact b.2.1
theorem bz {z : Int} (h0 : 0 ≤ z) (h : z ≤ 10 ^ 32) : Bd 1000 z := (show Bd 110 z by unfold Bd; omega).mono (by omega)
theorem Gd.mono {n m : Nat} {x : Nu} (h : Gd n x) (e : n ≤ m) : Gd m x := ⟨h.s, h.r, h.z, nb_mono h.b e⟩
end KK

set_option maxHeartbeats 2000000
namespace KK
open PySem PySem.Spec L2 DL
/-! ### statements -/
section
variable {ρ : DSt} {t : TTD} {b n : TSD} {D : DEnds}
theorem s_while (Inv : Nat → DSt → Prop) (h0 : ∃ m, Inv m ρ)
    (step : ∀ m ρ', Inv m ρ' → ∃ u, EvT t ρ' u ∧ (u = true → b { nx := fun ρ2 => ∃ m', m' < m ∧ Inv m' ρ2, rt := D.rt, bk := n D, ct := fun ρ2 => ∃ m', m' < m ∧ Inv m' ρ2 } ρ') ∧ (u = false → n D ρ')) : sSeq (sWhile t b) n D ρ := by
  refine ⟨Inv, h0, fun m ρ' hi => ?_⟩
  obtain ⟨u, hu, h1, h2⟩ := step m ρ' hi
  refine hu _ ?_
  cases u with
  | true => exact h1 rfl
  | false => exact h2 rfl
theorem s_while1 (Inv : Nat → DSt → Prop) (h0 : ∃ m, Inv m ρ)
    (step : ∀ m ρ', Inv m ρ' → ∃ u, EvT t ρ' u ∧ (u = true → b { nx := fun ρ2 => ∃ m', m' < m ∧ Inv m' ρ2, rt := D.rt, bk := D.nx, ct := fun ρ2 => ∃ m', m' < m ∧ Inv m' ρ2 } ρ') ∧ (u = false → D.nx ρ')) : sWhile t b D ρ := by
  refine ⟨Inv, h0, fun m ρ' hi => ?_⟩
  obtain ⟨u, hu, h1, h2⟩ := step m ρ' hi
  refine hu _ ?_
  cases u with
  | true => exact h1 rfl
  | false => exact h2 rfl
theorem forD_nil {g : TGD} {t : TSD} (k : D.nx ρ) : forD g t D [] ρ := k
theorem s_forT {a : TED} {g : TGD} {t n : TSD} {ds : List PyData} (h : Ev a ρ (.tuple ds)) (k : forD g t { D with nx := n D } ds ρ) : sSeq (sFor (itemsT a) g t) n D ρ :=
  h _ fun r _ h2 => h2 (fun d ρ2 => match d with | .tuple ds => forD g t { D with nx := n D } ds ρ2 | _ => False) k
theorem s_forL {a : TED} {g : TGD} {t n : TSD} {ds : List PyData} (h : Ev a ρ (.list ds)) (k : forD g t { D with nx := n D } ds ρ) : sSeq (sFor (itemsD a) g t) n D ρ :=
  h _ fun r _ h2 => h2 (fun d ρ2 => match d with | .list ds => forD g t { D with nx := n D } ds ρ2 | _ => False) k
end
/-! ### the law's square root -/
theorem pure__law_square_root (α : List SD) (QD : Ret → List SD → Prop) (ED : Exd → List SD → Prop) (W : WD) (hW : W = fun e ρ => outK α ρ fun α' => ED e α') (h : p__law_square_root α QD ED) : r__law_square_root W (DEnd α QD) (startD n__law_square_root.length α) := by
  obtain ⟨a, rfl, ha, hB, hq⟩ := h
  have st : startD n__law_square_root.length [iv a] = [iv a, .no, .no, .no] := rfl
  rw [st]
  unfold r__law_square_root
  have c2 : CDivF a 2 := ⟨by decide, by decide⟩
  have h4 : Bd 17002 (4 * a) := by
    unfold Bd at hB ⊢
    rw [Int.natAbs_mul, show (17002 : Nat) = 2 + 17000 from rfl, Nat.pow_add]
    generalize (2 : Nat) ^ 17000 = M at hB ⊢
    have e1 : (2 : Nat) ^ 2 = 4 := rfl
    have e2 : (4 : Int).natAbs = 4 := rfl
    rw [e1, e2]; omega
  have gB : ∀ g : Int, 0 ≤ g → g * g ≤ 4 * a → Bd 8501 g := fun g g0 hg => by
    unfold Bd at h4 ⊢
    have e : g.natAbs * g.natAbs = (g * g).natAbs := (Int.natAbs_mul g g).symm
    have gg0 := sq_nn g
    have le : (g * g).natAbs ≤ (4 * a).natAbs := by omega
    rw [← e] at le
    rcases Nat.lt_or_ge g.natAbs (2 ^ 8501) with c | c
    · exact c
    · have := Nat.mul_le_mul c c
      rw [← Nat.pow_add, show 8501 + 8501 = 17002 from rfl] at this
      exact absurd h4 (Nat.not_lt.mpr (Nat.le_trans this le))
  by_cases h2 : a < 2
  · refine s_seq (s_ifT (evt_as (by (repeat' (first | exact KK.ev_c | exact KK.ev_var _ rfl | exact KK.eva_nil | with_reducible apply KK.eva_cons | with_reducible apply KK.ev_p | with_reducible apply KK.ev_q | with_reducible apply KK.ev_d | with_reducible apply KK.ev_s | with_reducible apply KK.ev_add | with_reducible apply KK.ev_sub | with_reducible apply KK.ev_mul | with_reducible apply KK.ev_fdiv | with_reducible apply KK.ev_mod | with_reducible apply KK.ev_neg | with_reducible apply KK.ev_max | with_reducible apply KK.ev_lt | with_reducible apply KK.ev_le | with_reducible apply KK.ev_gt | with_reducible apply KK.ev_ge | with_reducible apply KK.ev_eq | with_reducible apply KK.ev_nei | with_reducible apply KK.evt_lt | with_reducible apply KK.evt_le | with_reducible apply KK.evt_gt | with_reducible apply KK.evt_ge | with_reducible apply KK.evt_eq | with_reducible apply KK.evt_ne))) (decide_eq_true h2)) (s_ret (ev_var 0 rfl) ?_))
    refine hq a ⟨ha, ?_, ?_⟩ <;> (have : a = 0 ∨ a = 1 := by omega) <;> rcases this with rfl | rfl <;> decide
  · refine s_chk (evt_as (by (repeat' (first | exact KK.ev_c | exact KK.ev_var _ rfl | exact KK.eva_nil | with_reducible apply KK.eva_cons | with_reducible apply KK.ev_p | with_reducible apply KK.ev_q | with_reducible apply KK.ev_d | with_reducible apply KK.ev_s | with_reducible apply KK.ev_add | with_reducible apply KK.ev_sub | with_reducible apply KK.ev_mul | with_reducible apply KK.ev_fdiv | with_reducible apply KK.ev_mod | with_reducible apply KK.ev_neg | with_reducible apply KK.ev_max | with_reducible apply KK.ev_lt | with_reducible apply KK.ev_le | with_reducible apply KK.ev_gt | with_reducible apply KK.ev_ge | with_reducible apply KK.ev_eq | with_reducible apply KK.ev_nei | with_reducible apply KK.evt_lt | with_reducible apply KK.evt_le | with_reducible apply KK.evt_gt | with_reducible apply KK.evt_ge | with_reducible apply KK.evt_eq | with_reducible apply KK.evt_ne))) (decide_eq_false h2)) ?_
    refine s_set ev_c ?_
    refine s_forT (ds := [.int 65536, .int 2]) (ev_tup (by (repeat' (first | exact KK.ev_c | exact KK.ev_var _ rfl | exact KK.eva_nil | with_reducible apply KK.eva_cons | with_reducible apply KK.ev_p | with_reducible apply KK.ev_q | with_reducible apply KK.ev_d | with_reducible apply KK.ev_s | with_reducible apply KK.ev_add | with_reducible apply KK.ev_sub | with_reducible apply KK.ev_mul | with_reducible apply KK.ev_fdiv | with_reducible apply KK.ev_mod | with_reducible apply KK.ev_neg | with_reducible apply KK.ev_max | with_reducible apply KK.ev_lt | with_reducible apply KK.ev_le | with_reducible apply KK.ev_gt | with_reducible apply KK.ev_ge | with_reducible apply KK.ev_eq | with_reducible apply KK.ev_nei | with_reducible apply KK.evt_lt | with_reducible apply KK.evt_le | with_reducible apply KK.evt_gt | with_reducible apply KK.evt_ge | with_reducible apply KK.evt_eq | with_reducible apply KK.evt_ne))) (by decide)) ?_
    -- one factor
    have one : ∀ (f : Int) (hf : 2 ≤ f) (hf2 : f ≤ 65536) (g : Int) (j2 : SD) (D : DEnds), 2 ≤ g → g * g ≤ 4 * a → (∀ g', 2 ≤ g' → g' * g' ≤ 4 * a → 4 * a < g' * g' * f * f → D.nx [iv a, iv g', iv f, .no]) →
        sWhile (dTest (dOp dLe (dOp dMul (dOp dMul (dOp dMul (dVar 1) (dVar 1)) (dVar 2)) (dVar 2)) (dOp dMul (dC (.int 4)) (dVar 0)))) (sSet 1 (dOp dMul (dVar 1) (dVar 2))) D [iv a, iv g, iv f, .no] := by
      intro f hf hf2 g j2 D g2 gg k
      refine s_while1 (fun m ρ => ∃ g : Int, ρ = [iv a, iv g, iv f, .no] ∧ 2 ≤ g ∧ g * g ≤ 4 * a ∧ m = (4 * a - g).natAbs) ⟨_, g, rfl, g2, gg, rfl⟩ ?_
      rintro m _ ⟨g, rfl, g2, gg, rfl⟩
      have b1 := gB g (by omega) gg
      have bf : Bd 17 f := by unfold Bd; omega
      have e : g * f * (g * f) = g * g * f * f := by grind
      refine ⟨decide (g * g * f * f ≤ 4 * a), ?_, fun hu => ?_, fun hu => ?_⟩
      · (repeat' (first | exact KK.ev_c | exact KK.ev_var _ rfl | exact KK.eva_nil | with_reducible apply KK.eva_cons | with_reducible apply KK.ev_p | with_reducible apply KK.ev_q | with_reducible apply KK.ev_d | with_reducible apply KK.ev_s | with_reducible apply KK.ev_add | with_reducible apply KK.ev_sub | with_reducible apply KK.ev_mul | with_reducible apply KK.ev_fdiv | with_reducible apply KK.ev_mod | with_reducible apply KK.ev_neg | with_reducible apply KK.ev_max | with_reducible apply KK.ev_lt | with_reducible apply KK.ev_le | with_reducible apply KK.ev_gt | with_reducible apply KK.ev_ge | with_reducible apply KK.ev_eq | with_reducible apply KK.ev_nei | with_reducible apply KK.evt_lt | with_reducible apply KK.evt_le | with_reducible apply KK.evt_gt | with_reducible apply KK.evt_ge | with_reducible apply KK.evt_eq | with_reducible apply KK.evt_ne))
        · exact b1.cm b1 (by omega)
        · exact (b1.mul b1).cm bf (by omega)
        · exact ((b1.mul b1).mul bf).cm bf (by omega)
        · exact (show Bd 3 4 by unfold Bd; decide).cm hB (by omega)
      · have hu := of_decide_eq_true hu
        refine s_set1 (by (repeat' (first | exact KK.ev_c | exact KK.ev_var _ rfl | exact KK.eva_nil | with_reducible apply KK.eva_cons | with_reducible apply KK.ev_p | with_reducible apply KK.ev_q | with_reducible apply KK.ev_d | with_reducible apply KK.ev_s | with_reducible apply KK.ev_add | with_reducible apply KK.ev_sub | with_reducible apply KK.ev_mul | with_reducible apply KK.ev_fdiv | with_reducible apply KK.ev_mod | with_reducible apply KK.ev_neg | with_reducible apply KK.ev_max | with_reducible apply KK.ev_lt | with_reducible apply KK.ev_le | with_reducible apply KK.ev_gt | with_reducible apply KK.ev_ge | with_reducible apply KK.ev_eq | with_reducible apply KK.ev_nei | with_reducible apply KK.evt_lt | with_reducible apply KK.evt_le | with_reducible apply KK.evt_gt | with_reducible apply KK.evt_ge | with_reducible apply KK.evt_eq | with_reducible apply KK.evt_ne)); exact b1.cm bf (by omega)) ?_
        have l1 : g * 2 ≤ g * f := Int.mul_le_mul_of_nonneg_left hf (by omega)
        have l2 : g * f ≤ 4 * a := by
          have := Int.mul_le_mul_of_nonneg_left (show 1 ≤ g * f by omega) (show 0 ≤ g * f by omega)
          omega
        exact ⟨(4 * a - g * f).natAbs, by omega, g * f, rfl, by omega, by omega, rfl⟩
      · have hu := of_decide_eq_false hu
        exact k g g2 gg (by omega)
    show sWhile _ _ _ [iv a, iv 2, iv 65536, .no]
    refine one 65536 (by decide) (by decide) 2 .no _ (by decide) (by omega) fun g1 g2 gg _ => ?_
    show sWhile _ _ _ [iv a, iv g1, iv 2, .no]
    refine one 2 (by decide) (by decide) g1 .no _ g2 gg fun g g2 gg hgt => ?_
    have gl : a < g * g := by grind
    dsimp only [forD]
    have cd : ∀ g x : Int, 0 < g → g * g ≤ 4 * a → CDivF x g := fun g x h1 h2 => ⟨by omega, (gB g (by omega) h2).log (by omega)⟩
    have c2 : ∀ x : Int, CDivF x 2 := fun x => ⟨by decide, by decide⟩
    have da : ∀ g : Int, 0 < g → 0 ≤ a / g := fun g hg => Int.ediv_nonneg ha (by omega)
    refine s_set (z := .int ((g + a / g) / 2)) (ev_as (by (repeat' (first | exact KK.ev_c | exact KK.ev_var _ rfl | exact KK.eva_nil | with_reducible apply KK.eva_cons | with_reducible apply KK.ev_p | with_reducible apply KK.ev_q | with_reducible apply KK.ev_d | with_reducible apply KK.ev_s | with_reducible apply KK.ev_add | with_reducible apply KK.ev_sub | with_reducible apply KK.ev_mul | with_reducible apply KK.ev_fdiv | with_reducible apply KK.ev_mod | with_reducible apply KK.ev_neg | with_reducible apply KK.ev_max | with_reducible apply KK.ev_lt | with_reducible apply KK.ev_le | with_reducible apply KK.ev_gt | with_reducible apply KK.ev_ge | with_reducible apply KK.ev_eq | with_reducible apply KK.ev_nei | with_reducible apply KK.evt_lt | with_reducible apply KK.evt_le | with_reducible apply KK.evt_gt | with_reducible apply KK.evt_ge | with_reducible apply KK.evt_eq | with_reducible apply KK.evt_ne)); exact cd _ _ (by omega) gg; exact c2 _) (by rw [fd_pos (show 0 < g by omega), fd_pos (show (0 : Int) < 2 by decide)])) ?_
    refine s_while (fun m ρ => ∃ f : Int, ρ = [iv a, iv f, iv 2, iv ((f + a / f) / 2)] ∧ 0 < f ∧ f * f ≤ 4 * a ∧ (∀ r, 0 ≤ r → r * r ≤ a → r ≤ f) ∧ m = f.natAbs) ⟨_, g, rfl, by omega, gg, fun r h0 hr => ?_, rfl⟩ ?_
    · rcases Int.lt_or_le g r with z | z
      · have := Int.mul_le_mul (show g ≤ r by omega) (show g ≤ r by omega) (by omega) (by omega)
        omega
      · exact z
    rintro m _ ⟨f, rfl, f0, ff, hf, rfl⟩
    have nw : ∀ r, 0 ≤ r → r * r ≤ a → r ≤ (f + a / f) / 2 := fun r h0 hr => newton f0 ha r hr h0
    refine ⟨decide ((f + a / f) / 2 < f), by (repeat' (first | exact KK.ev_c | exact KK.ev_var _ rfl | exact KK.eva_nil | with_reducible apply KK.eva_cons | with_reducible apply KK.ev_p | with_reducible apply KK.ev_q | with_reducible apply KK.ev_d | with_reducible apply KK.ev_s | with_reducible apply KK.ev_add | with_reducible apply KK.ev_sub | with_reducible apply KK.ev_mul | with_reducible apply KK.ev_fdiv | with_reducible apply KK.ev_mod | with_reducible apply KK.ev_neg | with_reducible apply KK.ev_max | with_reducible apply KK.ev_lt | with_reducible apply KK.ev_le | with_reducible apply KK.ev_gt | with_reducible apply KK.ev_ge | with_reducible apply KK.ev_eq | with_reducible apply KK.ev_nei | with_reducible apply KK.evt_lt | with_reducible apply KK.evt_le | with_reducible apply KK.evt_gt | with_reducible apply KK.evt_ge | with_reducible apply KK.evt_eq | with_reducible apply KK.evt_ne)), fun hu => ?_, fun hu => ?_⟩
    · have hlt := of_decide_eq_true hu
      have p1 : 1 ≤ (f + a / f) / 2 := nw 1 (by omega) (by omega)
      refine s_set (ev_var 3 rfl) ?_
      generalize hz : (f + a / f) / 2 = z at *
      have zz : z * z ≤ 4 * a := by
        have := Int.mul_le_mul (show z ≤ f by omega) (show z ≤ f by omega) (by omega) (by omega)
        omega
      refine s_set1 (z := .int ((z + a / z) / 2)) (ev_as (by (repeat' (first | exact KK.ev_c | exact KK.ev_var _ rfl | exact KK.eva_nil | with_reducible apply KK.eva_cons | with_reducible apply KK.ev_p | with_reducible apply KK.ev_q | with_reducible apply KK.ev_d | with_reducible apply KK.ev_s | with_reducible apply KK.ev_add | with_reducible apply KK.ev_sub | with_reducible apply KK.ev_mul | with_reducible apply KK.ev_fdiv | with_reducible apply KK.ev_mod | with_reducible apply KK.ev_neg | with_reducible apply KK.ev_max | with_reducible apply KK.ev_lt | with_reducible apply KK.ev_le | with_reducible apply KK.ev_gt | with_reducible apply KK.ev_ge | with_reducible apply KK.ev_eq | with_reducible apply KK.ev_nei | with_reducible apply KK.evt_lt | with_reducible apply KK.evt_le | with_reducible apply KK.evt_gt | with_reducible apply KK.evt_ge | with_reducible apply KK.evt_eq | with_reducible apply KK.evt_ne)); exact cd _ _ (by omega) zz; exact c2 _) (by rw [fd_pos (show 0 < z by omega), fd_pos (show (0 : Int) < 2 by decide)])) ?_
      exact ⟨_, by omega, z, rfl, by omega, zz, nw, rfl⟩
    · have hlt := of_decide_eq_false hu
      refine s_ret (ev_var 1 rfl) ?_
      have h1 : f ≤ a / f := by omega
      have h2 : f * f ≤ a := by
        have h3 := Int.mul_le_mul_of_nonneg_left h1 (show 0 ≤ f by omega)
        have h4 := Int.mul_ediv_self_le (x := a) (k := f) (by omega)
        omega
      refine hq f ⟨by omega, h2, ?_⟩
      rcases Int.lt_or_le a ((f + 1) * (f + 1)) with z | z
      · exact z
      · have := hf (f + 1) (by omega) z
        omega
end KK

set_option maxHeartbeats 2000000
namespace KK
open PySem PySem.Spec L2 DL
theorem bd10 (t : Nat) : Bd (4 * t + 1) (10 ^ t) := by
  unfold Bd
  have e : ((10 : Int) ^ t).natAbs = 10 ^ t := by rw [Int.natAbs_pow]; rfl
  rw [e, Nat.pow_succ, Nat.pow_mul]
  have := Nat.pow_le_pow_left (show 10 ≤ 2 ^ 4 by decide) t
  have := Nat.pow_pos (n := t) (show 0 < 2 ^ 4 by decide)
  omega
theorem bd10b (t : Nat) : Bd (10 * (t / 3) + 10) (10 ^ t) := by
  unfold Bd
  have e : ((10 : Int) ^ t).natAbs = 10 ^ t := by rw [Int.natAbs_pow]; rfl
  have e2 : 10 ^ t = (10 ^ 3) ^ (t / 3) * 10 ^ (t % 3) := by rw [← Nat.pow_mul, ← Nat.pow_add]; congr 1; omega
  rw [e, e2, Nat.pow_add, Nat.pow_mul]
  have h1 := Nat.pow_le_pow_left (show 10 ^ 3 ≤ 2 ^ 10 by decide) (t / 3)
  have h2 : 10 ^ (t % 3) < 2 ^ 10 := Nat.lt_of_le_of_lt (Nat.pow_le_pow_right (by decide) (show t % 3 ≤ 2 by omega)) (by decide)
  exact Nat.mul_lt_mul_of_le_of_lt h1 h2 (Nat.pow_pos (by decide))
theorem ten_pos (t : Nat) : (0 : Int) < 10 ^ t := Int.pow_pos (by decide)
theorem ten_big (t : Nat) : (2 : Int) ^ (3 * t) ≤ 10 ^ t := by
  rw [Int.pow_mul]
  exact_mod_cast Nat.pow_le_pow_left (show 2 ^ 3 ≤ 10 by decide) t
theorem Gd.de {n : Nat} {x : Nu} (h : Gd n x) : 0 < de x ∧ Irr (de x) ∧ Bd 40 (de x) := by
  unfold KK.de
  rcases h.r with ⟨_, b⟩ | ⟨_, b⟩
  · rw [if_pos b]; exact ⟨by decide, irr2, by unfold Bd; decide⟩
  · rw [if_neg b.ne]; exact ⟨b.1, b.2.2, b.2.1⟩
theorem Gd.qd {n : Nat} {x : Nu} (h : Gd n x) : x.q * x.q * x.d = x.q * x.q * KK.de x := by
  unfold KK.de
  rcases h.r with ⟨a, b⟩ | ⟨_, b⟩
  · rw [a]; simp
  · rw [if_neg b.ne]
section
variable {P Q D S d n : Int} (hd : 0 < d) (ir : Irr d)
include hd ir
theorem sgn_lowN (hS : S ≠ 0) (h : Q ≠ 0 → D = d) : sgn (low P Q D S) = sos (S * P) (S * Q) d := by
  obtain ⟨k, hk, e1, e2, e3, e4⟩ := low_spec (p := P) (q := Q) D hS
  have ed := low_dd (p := P) (q := Q) (d := D) hS
  generalize low P Q D S = w at *
  have kk : 0 < k * k * w.s := Int.mul_pos (by rcases Int.lt_or_gt_of_ne hk with a | a; exact Int.mul_pos_of_neg_of_neg a a; exact Int.mul_pos a a) e4
  have f1 : S * P = k * k * w.s * w.p := by rw [e1, e3]; grind
  have f2 : S * Q = k * k * w.s * w.q := by rw [e2, e3]; grind
  rw [f1, f2, sos_scale hd kk ir]
  unfold sgn de
  by_cases z : w.q = 0
  · rw [z, sos_q00, sos_q00]
  · have q0 : Q ≠ 0 := by rw [e2]; exact Int.mul_ne_zero hk z
    rw [ed, if_neg z, h q0, if_neg (by omega)]
theorem sgn_low (hS : 0 < S) (h : Q ≠ 0 → D = d) : sgn (low P Q D S) = sos P Q d := by
  rw [sgn_lowN hd ir (by omega) h, sos_scale hd hS ir]
/-- the floor of a number in lowest terms, by any of its forms -/
theorem flo_lowN (hS : S ≠ 0) (h : Q ≠ 0 → D = d) : Flo (low P Q D S) n ↔ 0 ≤ sos (S * (P - n * S)) (S * Q) d ∧ sos (S * (P - (n + 1) * S)) (S * Q) d = -1 := by
  obtain ⟨k, hk, e1, e2, e3, e4⟩ := low_spec (p := P) (q := Q) D hS
  have ed := low_dd (p := P) (q := Q) (d := D) hS
  generalize low P Q D S = w at *
  have kk : 0 < k * k * w.s := Int.mul_pos (by rcases Int.lt_or_gt_of_ne hk with a | a; exact Int.mul_pos_of_neg_of_neg a a; exact Int.mul_pos a a) e4
  have f0 : ∀ m : Int, S * (P - m * S) = k * k * w.s * (w.p - m * w.s) := fun m => by rw [e1, e3]; grind
  have f2 : S * Q = k * k * w.s * w.q := by rw [e2, e3]; grind
  rw [f0, f0, f2, sos_scale hd kk ir, sos_scale hd kk ir]
  unfold Flo FlS de
  by_cases z : w.q = 0
  · simp only [z, sos_q00]
  · have q0 : Q ≠ 0 := by rw [e2]; exact Int.mul_ne_zero hk z
    rw [ed, if_neg z, h q0, if_neg (by omega)]
theorem flo_low (hS : 0 < S) (h : Q ≠ 0 → D = d) : Flo (low P Q D S) n ↔ FlS P Q d S n := by
  rw [flo_lowN hd ir (by omega) h, sos_scale hd hS ir, sos_scale hd hS ir]
  rfl
end
theorem low_Gd' {n : Nat} {p q d s : Int} (hs : s ≠ 0) (hd : q ≠ 0 → Dr d) (h1 : Bd n p) (h2 : Bd n q) (h3 : Bd n s) (hn : 40 ≤ n) : Gd n (low p q d s) := by
  by_cases z : q = 0
  · have e : low p q d s = low p q 2 s := low_d fun c => absurd z c
    rw [e]
    exact low_Gd hs ⟨by decide, by unfold Bd; decide, irr2⟩ h1 h2 h3 hn
  · exact low_Gd hs (hd z) h1 h2 h3 hn
theorem fls_bd {p q d s n : Int} (hd : 0 < d) (ir : Irr d) (h : FlS p q d s n) : -(q.natAbs * d) ≤ p - n * s ∧ p - n * s ≤ s + q.natAbs * d := by
  obtain ⟨a1, a2⟩ := abs_d hd ir q
  constructor
  · have := sos_add hd ir h.1 a2
    rw [show q + -q = 0 by omega, sos_q00, sgi_0] at this
    omega
  · have e : 0 ≤ sos (-(p - (n + 1) * s)) (-q) d := by rw [sos_ng, h.2]; decide
    have := sos_add hd ir e a1
    rw [show -q + q = 0 by omega, sos_q00, sgi_0] at this
    have e2 : (n + 1) * s = n * s + s := by grind
    omega
theorem flo_ex {n : Nat} {x : Nu} (h : Gd n x) : ∃ k, Flo x k := by
  obtain ⟨r, hr⟩ := isqr_ex (x.q * x.q * de x).toNat
  have nn : 0 ≤ x.q * x.q * de x := Int.mul_nonneg (sq_nn _) (Int.le_of_lt h.de.1)
  rw [Int.toNat_of_nonneg nn] at hr
  exact ⟨_, fls_of h.de.1 h.de.2.1 h.s hr⟩
theorem flo_of_fl {n : Nat} {x : Nu} (h : Gd n x) {k : Int} (f : Fl x k) : Flo x k := by
  obtain ⟨r, hr, rfl⟩ := f
  rw [h.qd] at hr
  exact fls_of h.de.1 h.de.2.1 h.s hr
section
variable {ρ : DSt} {a : TED} {x : Nu}
theorem ev_pq (ha : Ev a ρ x.D) : Ev (dSl a oNone (oSome (dC (.int 2)))) ρ (.tuple [.int x.p, .int x.q]) := fun Q k =>
  ha _ fun r h1 _ => h1 (fun z => match z with | .tuple ds => Q (.d (.tuple (cutD ds none (some 2)))) ρ | .str z => z.length ≤ sizeLine ∧ Q (.d (.str (cutS z none (some 2)))) ρ | _ => False) (k _ (fun _ h => h) (fun _ h => h))
theorem evt_pq0 (ha : Ev a ρ x.D) : EvT (dTest (dOp dNe (dSl a (oNone) (oSome (dC (.int 2)))) (dTup (dCons (dC (.int 0)) (dCons (dC (.int 0)) (dNil)))))) ρ (!decide (x.p = 0 ∧ x.q = 0)) := by
  refine evt_as (evt_neD (ev_pq ha) (ev_tup (zs := [.int 0, .int 0]) (by (repeat' (first | exact KK.ev_c | exact KK.ev_var _ rfl | exact KK.eva_nil | with_reducible apply KK.eva_cons | with_reducible apply KK.ev_p | with_reducible apply KK.ev_q | with_reducible apply KK.ev_d | with_reducible apply KK.ev_s | with_reducible apply KK.ev_add | with_reducible apply KK.ev_sub | with_reducible apply KK.ev_mul | with_reducible apply KK.ev_fdiv | with_reducible apply KK.ev_mod | with_reducible apply KK.ev_neg | with_reducible apply KK.ev_max | with_reducible apply KK.ev_lt | with_reducible apply KK.ev_le | with_reducible apply KK.ev_gt | with_reducible apply KK.ev_ge | with_reducible apply KK.ev_eq | with_reducible apply KK.ev_nei | with_reducible apply KK.evt_lt | with_reducible apply KK.evt_le | with_reducible apply KK.evt_gt | with_reducible apply KK.evt_ge | with_reducible apply KK.evt_eq | with_reducible apply KK.evt_ne))) (by decide))) ?_
  show (!PyData.eqvAll [.int x.p, .int x.q] [.int 0, .int 0]) = _
  simp only [PyData.eqvAll, PyData.eqv, Bool.and_true, Bool.beq_eq_decide_eq]
  by_cases h1 : x.p = 0 <;> by_cases h2 : x.q = 0 <;> simp [h1, h2]
end
theorem two_bd {n : Nat} {i : Int} (h0 : 0 ≤ i) (h : Bd n i) : i < 2 ^ n := by
  unfold Bd at h
  have : ((2 : Int) ^ n) = ((2 ^ n : Nat) : Int) := by simp
  rw [this]; omega
end KK

set_option maxHeartbeats 2000000
namespace KK
open PySem PySem.Spec L2 DL
theorem nint_Gd {n : Nat} {v : Int} (h : Bd n v) (hn : 1 ≤ n) : Gd n ⟨v, 0, 0, 1⟩ := ⟨(show (0 : Int) < 1 by decide), .inl ⟨rfl, rfl⟩, fun _ _ => rfl, h, bd0 _, bd0 _, (show Bd 1 1 by unfold Bd; decide).mono hn⟩
theorem nmax0 {d : Int} (h : 0 ≤ d) : nmax d 0 = d := by unfold nmax; split <;> omega
theorem nplus_int {n : Nat} {x : Nu} (h : Gd n x) (v : Int) : nplus x ⟨v, 0, 0, 1⟩ = low (x.p + v * x.s) x.q x.d x.s := by
  unfold nplus
  show low (x.p * 1 + v * x.s) (x.q * 1 + 0 * x.s) (nmax x.d 0) (x.s * 1) = _
  rw [nmax0 h.d0.1]
  congr 1 <;> grind
theorem Gd.ed {n : Nat} {x : Nu} (h : Gd n x) : x.q ≠ 0 → x.d = KK.de x := fun z => by
  unfold KK.de
  rcases h.r with ⟨a, _⟩ | ⟨_, b⟩
  · exact absurd a z
  · rw [if_neg b.ne]
theorem Gd.dr {n : Nat} {x : Nu} (h : Gd n x) : x.q ≠ 0 → Dr x.d := fun z => by
  rcases h.r with ⟨a, _⟩ | ⟨_, b⟩
  · exact absurd a z
  · exact b
end KK

set_option maxHeartbeats 2000000
namespace KK
open PySem PySem.Spec L2 DL
theorem nmax_comm (a b : Int) : nmax a b = nmax b a := by unfold nmax; split <;> split <;> omega
theorem rts_int (v : Int) (x : Nu) : rts ⟨v, 0, 0, 1⟩ x ∧ rts x ⟨v, 0, 0, 1⟩ := ⟨fun h => absurd rfl h, fun _ h => absurd rfl h⟩
theorem sgn_ne {x : Nu} (h : sgn x = 1) : ¬ isZ x := fun z => by
  unfold sgn at h
  rw [z.1, z.2.1, sos_00] at h
  cases h
theorem ev_whole {ρ : DSt} {a : TED} {W : WD} {v : Int} (ha : Ev a ρ (.int v)) : Ev (dCall p_whole W (dCons a dNil)) ρ (nint v).D :=
  ev_call (eva_cons ha eva_nil) fun QD ED hq => ⟨v, rfl, hq⟩
theorem pure_whole (α : List SD) (QD : Ret → List SD → Prop) (ED : Exd → List SD → Prop) (W : WD) (hW : W = fun e ρ => outK α ρ fun α' => ED e α') (h : p_whole α QD ED) : r_whole W (DEnd α QD) (startD n_whole.length α) := by
  obtain ⟨v, rfl, hq⟩ := h
  have st : startD n_whole.length [iv v] = [iv v] := rfl
  rw [st]
  unfold r_whole
  exact s_ret (ev_tup (zs := [.int v, .int 0, .int 0, .int 1]) (by (repeat' (first | exact KK.ev_c | exact KK.ev_var _ rfl | exact KK.eva_nil | with_reducible apply KK.eva_cons | with_reducible apply KK.ev_p | with_reducible apply KK.ev_q | with_reducible apply KK.ev_d | with_reducible apply KK.ev_s | with_reducible apply KK.ev_add | with_reducible apply KK.ev_sub | with_reducible apply KK.ev_mul | with_reducible apply KK.ev_fdiv | with_reducible apply KK.ev_mod | with_reducible apply KK.ev_neg | with_reducible apply KK.ev_max | with_reducible apply KK.ev_lt | with_reducible apply KK.ev_le | with_reducible apply KK.ev_gt | with_reducible apply KK.ev_ge | with_reducible apply KK.ev_eq | with_reducible apply KK.ev_nei | with_reducible apply KK.evt_lt | with_reducible apply KK.evt_le | with_reducible apply KK.evt_gt | with_reducible apply KK.evt_ge | with_reducible apply KK.evt_eq | with_reducible apply KK.evt_ne))) (by simp)) hq
section
variable {d:Int} (hd:0<d) (ir:Irr d)
include hd ir
theorem sos_prod (p q : Int) : sos p q d * sos p (-q) d = sgi (p * p - q * q * d) := by
  rw [sos_mul hd ir, show p * -q + q * p = 0 by grind, sos_q00]
  congr 1
  grind
theorem sos_e1 {p q : Int} (h : 0 ≤ sos p q d) (hq : q ≠ 0) : sos p q d = 1 := by
  rcases sos_rg p q d with z | z | z
  · omega
  · exact absurd (sos_z hd ir z).2 hq
  · exact z
end
theorem sos_sc {d : Int} (hd : 0 < d) (ir : Irr d) {j u v : Int} (hj : j ≠ 0) : sos (j * u) (j * v) d = sgi j * sos u v d := by
  rcases Int.lt_or_gt_of_ne hj with z | z
  · have := sos_scale hd (show 0 < -j by omega) ir (p := u) (q := v)
    have h2 := sos_ng (-j * u) (-j * v) d
    rw [this] at h2
    rw [sgi_n.mpr z, show j * u = -(-j * u) by grind, show j * v = -(-j * v) by grind, h2]
    omega
  · rw [sos_scale hd z ir, sgi_p.mpr z, Int.one_mul]
theorem sq_nat {i : Int} {m : Nat} (h : i.natAbs ≤ m) : i * i ≤ (m : Int) * m := by
  have : (i.natAbs : Int) * i.natAbs = i * i := Int.natAbs_mul_self' i
  have := Int.mul_le_mul (show (i.natAbs : Int) ≤ m by omega) (show (i.natAbs : Int) ≤ m by omega) (by omega) (by omega)
  omega
theorem nover_one {n : Nat} {y : Nu} (gy : Gd n y) (hz : ¬ isZ y) : nover ⟨1, 0, 0, 1⟩ y = ninv y := by
  have gi : gc (ninv y).p (ninv y).q (ninv y).s = 1 := low_gc (gy.norm hz)
  have di : (ninv y).d = if (ninv y).q = 0 then 0 else y.d := low_dd (gy.norm hz)
  have si : 0 < (ninv y).s := by
    obtain ⟨_, _, _, _, _, h⟩ := low_spec (p := y.p * y.s) (q := -y.q * y.s) y.d (gy.norm hz)
    exact h
  unfold nover ntimes
  generalize ninv y = z at *
  have dz : 0 ≤ z.d := by
    rw [di]
    have := gy.d0.1
    split <;> omega
  have e : nmax (⟨1, 0, 0, 1⟩ : Nu).d z.d = z.d := (nmax_comm _ _).trans (nmax0 dz)
  rw [e]
  show low (1 * z.p + 0 * z.q * z.d) (1 * z.q + 0 * z.p) z.d (1 * z.s) = z
  rw [show 1 * z.p + 0 * z.q * z.d = z.p by simp, show 1 * z.q + 0 * z.p = z.q by simp, Int.one_mul, low_one si gi]
  have : (if z.q = 0 then 0 else z.d) = z.d := by
    rw [di]
    split <;> simp
  rw [this]
def sgl (x:Nu) (U V:Int):Int := sos (U*x.p-V*x.s) (U*x.q) (de x)
theorem de_low {n : Nat} {x : Nu} (gx : Gd n x) {P Q S : Int} (hS : S ≠ 0) (hQ : Q = 0 ↔ x.q = 0) : de (low P Q x.d S) = de x := by
  have di : (low P Q x.d S).d = if (low P Q x.d S).q = 0 then 0 else x.d := low_dd hS
  obtain ⟨k, hk, _, e2, _, _⟩ := low_spec (p := P) (q := Q) x.d hS
  unfold de
  by_cases z : x.q = 0
  · have d0 : x.d = 0 := by
      rcases gx.r with r | r
      · exact r.2
      · exact absurd z r.1
    have : (low P Q x.d S).d = 0 := by rw [di, d0]; split <;> rfl
    rw [this, d0]
  · have : (low P Q x.d S).q ≠ 0 := fun c => z (hQ.mp (by rw [e2, c]; simp))
    rw [di, if_neg this]
theorem inv_q {n : Nat} {x : Nu} (gx : Gd n x) : -x.q * x.s = 0 ↔ x.q = 0 := by
  have := gx.s
  constructor
  · intro h
    rcases Int.mul_eq_zero.mp h with z | z <;> omega
  · intro h
    rw [h]; simp
theorem de_inv {n : Nat} {x : Nu} (gx : Gd n x) (hz : ¬ isZ x) : de (ninv x) = de x := de_low gx (gx.norm hz) (inv_q gx)
/-- the sign of U / x - V -/
theorem sgl_inv {n : Nat} {x : Nu} (gx : Gd n x) (ho : sgn x = 1) (U V : Int) : sgl (ninv x) U V = sos (U * x.s - V * x.p) (-(V * x.q)) (de x) := by
  have hz := sgn_ne ho
  have dl := de_inv gx hz
  obtain ⟨hd, ir, _⟩ := gx.de
  have nn := gx.norm hz
  obtain ⟨k, hk, e1, e2, e3, e4⟩ := low_spec (p := x.p * x.s) (q := -x.q * x.s) x.d nn
  have qd := gx.qd
  unfold sgl
  rw [dl]
  change x.p * x.s = k * (ninv x).p at e1
  change -x.q * x.s = k * (ninv x).q at e2
  change x.p * x.p - x.q * x.q * x.d = k * (ninv x).s at e3
  change 0 < (ninv x).s at e4
  generalize ninv x = y at *
  have A := sos_mul hd ir (p := x.p) (q := -x.q) (p' := U * x.s - V * x.p) (q' := -(V * x.q))
  rw [qd] at e3
  have a1 : x.p * (U * x.s - V * x.p) + -x.q * -(V * x.q) * de x = k * (U * y.p - V * y.s) := by grind
  have a2 : x.p * -(V * x.q) + -x.q * (U * x.s - V * x.p) = k * (U * y.q) := by grind
  rw [a1, a2, sos_sc hd ir hk] at A
  have B := sos_prod hd ir x.p x.q
  unfold sgn at ho
  rw [ho, Int.one_mul, e3] at B
  have C : sgi (k * y.s) = sgi k := by
    rcases Int.lt_or_gt_of_ne hk with c | c
    · have := Int.mul_pos (show 0 < -k by omega) e4
      rw [sgi_n.mpr c, sgi_n]
      rw [show -k * y.s = -(k * y.s) by grind] at this
      omega
    · rw [sgi_p.mpr c, sgi_p]
      exact Int.mul_pos c e4
  rw [B, C] at A
  rcases Int.lt_or_gt_of_ne hk with c | c
  · rw [sgi_n.mpr c] at A
    omega
  · rw [sgi_p.mpr c] at A
    omega
theorem cnl_low {p q d s : Int} (hs : s ≠ 0) (hd : True) : Cnl (low p q d s) := by
  obtain ⟨_, _, _, _, _, h⟩ := low_spec (p := p) (q := q) d hs
  exact ⟨h, low_gc hs, fun z => by rw [low_dd hs, if_pos z]⟩
theorem cnl_eq {x : Nu} (h : Cnl x) : low x.p x.q x.d x.s = x := by
  obtain ⟨h1, h2, h3⟩ := h
  unfold low
  have e : sg x.s = 1 := by unfold sg; rw [if_neg (by omega)]
  rw [h2, e]
  have : (if x.q = 0 then 0 else x.d) = x.d := by split; exact (h3 (by assumption)).symm; rfl
  rw [this]
  simp
theorem ninv_ninv {n : Nat} {r : Nu} (g : Gd n r) (hz : ¬ isZ r) (c : Cnl r) : ninv (ninv r) = r := by
  have nn := g.norm hz
  have s0 := g.s
  obtain ⟨k, hk, e1, e2, e3, e4⟩ := low_spec (p := r.p * r.s) (q := -r.q * r.s) r.d nn
  have ed := low_dd (p := r.p * r.s) (q := -r.q * r.s) (d := r.d) nn
  change r.p * r.s = k * (ninv r).p at e1
  change -r.q * r.s = k * (ninv r).q at e2
  change r.p * r.p - r.q * r.q * r.d = k * (ninv r).s at e3
  change 0 < (ninv r).s at e4
  change (ninv r).d = if (ninv r).q = 0 then 0 else r.d at ed
  generalize ninv r = y at *
  have qd : y.q * y.q * y.d = y.q * y.q * r.d := by
    rw [ed]; split
    · rename_i z; rw [z]; simp
    · rfl
  have kn : (k * k) * (y.p * y.p - y.q * y.q * y.d) = (r.p * r.p - r.q * r.q * r.d) * (r.s * r.s) := by
    have a1 : (k * k) * (y.p * y.p - y.q * y.q * y.d) = (k * y.p) * (k * y.p) - (k * y.q) * (k * y.q) * r.d := by rw [qd]; grind
    rw [a1, ← e1, ← e2]
    grind
  have ny : y.p * y.p - y.q * y.q * y.d ≠ 0 := fun z => by
    rw [z, Int.mul_zero] at kn
    rcases Int.mul_eq_zero.mp kn.symm with q | q
    · exact nn q
    · rcases Int.mul_eq_zero.mp q with q | q <;> omega
  refine Eq.trans ?_ (cnl_eq c)
  show low (y.p * y.s) (-y.q * y.s) y.d (y.p * y.p - y.q * y.q * y.d) = low r.p r.q r.d r.s
  have kk : k * k ≠ 0 := Int.mul_ne_zero hk hk
  refine low_eq ny (by omega) ?_ ?_ ?_
  · refine Int.eq_of_mul_eq_mul_left kk ?_
    have a1 : k * k * (y.p * y.s * r.s) = (k * y.p) * (k * y.s) * r.s := by grind
    have a2 : k * k * (r.p * (y.p * y.p - y.q * y.q * y.d)) = r.p * ((k * k) * (y.p * y.p - y.q * y.q * y.d)) := by grind
    rw [a1, a2, kn, ← e1, ← e3]
    grind
  · refine Int.eq_of_mul_eq_mul_left kk ?_
    have a1 : k * k * (-y.q * y.s * r.s) = -(k * y.q) * (k * y.s) * r.s := by grind
    have a2 : k * k * (r.q * (y.p * y.p - y.q * y.q * y.d)) = r.q * ((k * k) * (y.p * y.p - y.q * y.q * y.d)) := by grind
    rw [a1, a2, kn, ← e2, ← e3]
    grind
  · intro h
    rw [ed, if_neg]
    intro z
    rw [z] at h
    simp at h
theorem ints_dep : ∀ ns : List Int, PyData.depthAll (ns.map PyData.int) = 0
  | [] => rfl
  | n :: ns => by
    show max (PyData.depth (.int n)) (PyData.depthAll (ns.map PyData.int)) = 0
    rw [ints_dep ns]; rfl
theorem ints_shp {ns : List Int} : SeqAt.shaped (.list (ns.map PyData.int)) = true ∧ SeqAt.shaped (.tuple (ns.map PyData.int)) = true := by
  have a : PyData.canLayAll0 (ns.map PyData.int) = true := by
    induction ns with
    | nil => rfl
    | cons n ns ih => rw [List.map_cons]; unfold PyData.canLayAll0; rw [ih]; rfl
  have b : PyData.depthAll (ns.map PyData.int) = 0 := ints_dep ns
  constructor
  · show (PyData.canLay0 _ && decide _) = true
    unfold PyData.canLay0 PyData.depth
    rw [a, b]; rfl
  · show (PyData.canLay0 _ && decide _) = true
    unfold PyData.canLay0 PyData.depth
    rw [a, b]; rfl
theorem ivs_shp (l : List Int) : SeqAt.shaped (.list (ivs l)) = true ∧ SeqAt.shaped (.tuple (ivs l)) = true := ints_shp
theorem cutN (ds : List PyData) (n : Nat) : cutD ds none (some (n : Int)) = ds.take n := by
  unfold cutD
  rw [HT.sIx_none, HT.sIx_nat, List.drop_zero, Nat.sub_zero]
  rcases Nat.le_total n ds.length with h | h
  · rw [Nat.min_eq_left h]
  · rw [Nat.min_eq_right h, List.take_of_length_le (Nat.le_refl _), List.take_of_length_le h]
theorem nu_eqv3 (x y : Nu) : PyData.eqv x.D y.D = decide (x.p = y.p ∧ x.q = y.q ∧ x.d = y.d ∧ x.s = y.s) := by
  show PyData.eqvAll [.int x.p, .int x.q, .int x.d, .int x.s] [.int y.p, .int y.q, .int y.d, .int y.s] = _
  simp only [PyData.eqvAll, PyData.eqv, Bool.and_true, Bool.beq_eq_decide_eq]
  by_cases h1 : x.p = y.p <;> by_cases h2 : x.q = y.q <;> by_cases h3 : x.d = y.d <;> by_cases h4 : x.s = y.s <;> simp [h1, h2, h3, h4]
theorem ev_listT {ρ : DSt} {a : TED} {ds : List PyData} (h : Ev a ρ (.tuple ds)) : Ev (dNew (nList a)) ρ (.list ds) := fun Q k => h _ fun r h1 _ => h1 (fun x => match x with | .list ds => Q (.d (.list ds)) ρ | .tuple ds => Q (.d (.list ds)) ρ | _ => False) (k _ (fun _ h => h) (fun _ h => h))
theorem ev_revL {ρ : DSt} {a : TED} {ds : List PyData} (h : Ev a ρ (.list ds)) : Ev (dNew (nRev a)) ρ (.list ds.reverse) := fun Q k => h _ fun r h1 _ => h1 (fun x => match x with | .list ds => Q (.d (.list ds.reverse)) ρ | _ => False) (k _ (fun _ h => h) (fun _ h => h))
theorem s_for2 {ρ : DSt} {a b : TED} {i j : Int} {g : TGD} {t n : TSD} {D : DEnds} (ha : Ev a ρ (.int i)) (hb : Ev b ρ (.int j)) (h : -(2 ^ 62) ≤ i ∧ i < 2 ^ 62 ∧ -(2 ^ 62) ≤ j ∧ j < 2 ^ 62) (q : forD g t { D with nx := n D } ((List.range (j - i).toNat).map fun (k : Nat) => .int (i + (k : Int))) ρ) : sSeq (sFor (range2D (dCons a (dCons b dNil))) g t) n D ρ :=
  eva_cons ha (eva_cons hb eva_nil) (fun ds ρ1 => asInt2 ds fun i j => (-(2 ^ 62) ≤ i ∧ i < 2 ^ 62 ∧ -(2 ^ 62) ≤ j ∧ j < 2 ^ 62) ∧ forD g t { D with nx := n D } ((List.range (j - i).toNat).map fun (k : Nat) => .int (i + (k : Int))) ρ1) ⟨h, q⟩
theorem ev_len9L {ρ : DSt} {a : TED} {ds : List PyData} (ha : Ev a ρ (.list ds)) : Ev (dF1 fLen a) ρ (.int (ds.length : Nat)) := fun Q k => ha _ fun r h1 _ => h1 (fun x => fLen x fun z => Q (.d z) ρ) (k _ (fun _ h => h) (fun _ h => h))
section
variable {ρ:DSt} {a:TED}
theorem ev_cutL {e1 e2 : TOD} {lo hi : Option Int} {ds : List PyData} (ha : Ev a ρ (.list ds)) (h1 : ∀ Q : Option Int → DSt → Prop, Q lo ρ → e1 ρ Q) (h2 : ∀ Q : Option Int → DSt → Prop, Q hi ρ → e2 ρ Q) : Ev (dNew (nSl a e1 e2)) ρ (.list (cutD ds lo hi)) := fun Q k =>
  ha _ fun r g1 _ => h1 _ (h2 _ (g1 (fun x => match x with | .list ds => Q (.d (.list (cutD ds lo hi))) ρ | _ => False) (k _ (fun _ h => h) (fun _ h => h))))
end
theorem at_last (l : List PyData) (z : PyData) : atI (l ++ [z]) (-1) = some z := by
  have e : ixN (l ++ [z]).length (-1) = some l.length := by
    unfold ixN
    rw [if_neg (by omega), List.length_append, if_pos (by simp; omega)]
    congr 1
    simp
    omega
  unfold atI
  rw [e]
  simp
section
variable {ρ:DSt}
theorem ev_ng1 {k : Int} : Ev (dNeg (dC (.int k))) ρ (.int (-k)) := ev_neg ev_c
end
theorem ivs_snoc (l : List Int) (n : Int) : ivs (l ++ [n]) = ivs l ++ [.int n] := by unfold ivs; rw [List.map_append]; rfl
theorem ivs_len (l : List Int) : (ivs l).length = l.length := List.length_map _
theorem mat_loop {D : DEnds} {c0 c1 c2 c8 : SD} : ∀ (g : List Int) (a b c e : Int) (n : Nat) (j : SD), Bd n a → Bd n b → Bd n c → Bd n e → (∀ q ∈ g, 0 ≤ q ∧ q < 21) → n + 6 * g.length ≤ 1000 →
    (∀ a' b' c' e' j', mat g (a, b, c, e) = (a', b', c', e') → Bd (n + 6 * g.length) a' → Bd (n + 6 * g.length) b' → Bd (n + 6 * g.length) c' → Bd (n + 6 * g.length) e' → D.nx [c0, c1, c2, iv a', iv b', iv c', iv e', j', c8]) →
    forD (gName' 7) (sAsg (dTup (dCons (dOp dAdd (dOp dMul (dVar 3) (dVar 7)) (dVar 4)) (dCons (dVar 3) (dCons (dOp dAdd (dOp dMul (dVar 5) (dVar 7)) (dVar 6)) (dCons (dVar 5) (dNil)))))) (gTup' (lenIs 4 (gCons' (gName' 3) (gCons' (gName' 4) (gCons' (gName' 5) (gCons' (gName' 6) (gNil'))))))))
      D (ivs g) [c0, c1, c2, iv a, iv b, iv c, iv e, j, c8]
  | [], a, b, c, e, n, j, h1, h2, h3, h4, _, _, k => k a b c e j rfl h1 h2 h3 h4
  | q :: g, a, b, c, e, n, j, h1, h2, h3, h4, hq, hn, k => by
    obtain ⟨q0, q1⟩ := hq q List.mem_cons_self
    have bq : Bd 5 q := by unfold Bd; omega
    have len : (q :: g).length = g.length + 1 := rfl
    rw [len] at hn k
    have x1 : Bd (n + 6) (a * q + b) := (h1.mul bq).add h2 (by omega)
    have x3 : Bd (n + 6) (c * q + e) := (h3.mul bq).add h4 (by omega)
    show sAsg _ _ _ [c0, c1, c2, iv a, iv b, iv c, iv e, iv q, c8]
    have go := mat_loop (D := D) (c0 := c0) (c1 := c1) (c2 := c2) (c8 := c8) g (a * q + b) a (c * q + e) c (n + 6) (iv q) x1 (h1.mono (by omega)) x3 (h3.mono (by omega)) (fun q hq' => hq q (List.mem_cons_of_mem _ hq')) (by omega) (fun a' b' c' e' j' hm g1 g2 g3 g4 => k a' b' c' e' j' hm (g1.mono (by omega)) (g2.mono (by omega)) (g3.mono (by omega)) (g4.mono (by omega)))
    have ev : Ev (dTup (dCons (dOp dAdd (dOp dMul (dVar 3) (dVar 7)) (dVar 4)) (dCons (dVar 3) (dCons (dOp dAdd (dOp dMul (dVar 5) (dVar 7)) (dVar 6)) (dCons (dVar 5) (dNil)))))) [c0, c1, c2, iv a, iv b, iv c, iv e, iv q, c8] (⟨a * q + b, a, c * q + e, c⟩ : Nu).D :=
      ev_tup (zs := [.int (a * q + b), .int a, .int (c * q + e), .int c]) (eva_cons (ev_add (ev_mul (ev_var 3 rfl) (ev_var 7 rfl) (h1.cm bq (by omega))) (ev_var 4 rfl)) (eva_cons (ev_var 3 rfl) (eva_cons (ev_add (ev_mul (ev_var 5 rfl) (ev_var 7 rfl) (h3.cm bq (by omega))) (ev_var 6 rfl)) (eva_cons (ev_var 5 rfl) eva_nil)))) (show 4 ≤ 1000 by decide)
    exact ev _ fun r _ h2 => h2 (fun d ρ2 => gTup' (lenIs 4 (gCons' (gName' 3) (gCons' (gName' 4) (gCons' (gName' 5) (gCons' (gName' 6) (gNil')))))) d ρ2 _) (unpack4 go)
theorem cutInit (l : List PyData) (z : PyData) : cutD (l ++ [z]) none (some (-1)) = l := by
  unfold cutD
  rw [HT.sIx_none]
  have : HT.sIx (l ++ [z]).length (l ++ [z]).length (some (-1)) = l.length := by
    simp only [HT.sIx]
    rw [if_pos (by decide), List.length_append]
    simp
    omega
  rw [this]
  simp
theorem ev_slT {ρ : DSt} {a : TED} {e1 e2 : TOD} {lo hi : Option Int} {ds : List PyData} (ha : Ev a ρ (.tuple ds)) (h1 : ∀ Q : Option Int → DSt → Prop, Q lo ρ → e1 ρ Q) (h2 : ∀ Q : Option Int → DSt → Prop, Q hi ρ → e2 ρ Q) : Ev (dSl a e1 e2) ρ (.tuple (cutD ds lo hi)) := fun Q k =>
  ha _ fun r g1 _ => h1 _ (h2 _ (g1 (fun x => match x with | .tuple ds => Q (.d (.tuple (cutD ds lo hi))) ρ | .str z => z.length ≤ sizeLine ∧ Q (.d (.str (cutS z lo hi))) ρ | _ => False) (k _ (fun _ h => h) (fun _ h => h))))
theorem ev_lastT {ρ : DSt} {a b : TED} {l : List PyData} {z : PyData} (ha : Ev a ρ (.tuple (l ++ [z]))) (hb : Ev b ρ (.int (-1))) : Ev (dOp atD a b) ρ z := ev_op ha hb fun k hk => by
  show (match atI (l ++ [z]) (-1) with | some d => k d | none => False)
  rw [at_last]
  exact hk
theorem dr_two {d : Int} (h : Dr d) : ¬ d < 2 := fun c => by
  have d0 := h.1
  have : d = 1 := by omega
  subst this
  exact absurd (h.2.2 1 1 (by decide)).1 (by decide)
theorem bd_fdiv {n : Nat} {i j : Int} (h : Bd n i) (hj : 0 < j) : Bd n (i.fdiv j) := by rw [Int.fdiv_eq_ediv_of_nonneg _ (by omega)]; exact h.div j hj
theorem ivs_shpT (g : List Int) {ρ : DSt} {i : Nat} (h : ρ[i]? = some (.val (.tuple (ivs g)))) : EvT (dTest (dOp dEq (dVar i) (dTup dNil))) ρ (decide (g = [])) := by
  refine evt_as (evt_eqD (y := .tuple (ivs g)) (z := .tuple []) (ev_var i h) (ev_tup eva_nil (by simp)) (ivs_shp g).2 rfl) ?_
  cases g <;> rfl
theorem s_par3S {ρ : DSt} {D : DEnds} {n : TSD} {a b c : TED} {x y z : PyData} {i j l : Nat} (ha : Ev a ρ x) (hb : Ev b ρ y) (hc : Ev c ρ z) (k : n D (((ρ.set i (.val x)).set j (.val y)).set l (.val z))) : sSeq (sPar3 i j l (dCons a (dCons b (dCons c dNil)))) n D ρ :=
  eva_cons ha (eva_cons hb (eva_cons hc eva_nil)) (fun ds ρ1 => asThree ds fun x y z => n D (((ρ1.set i (.val x)).set j (.val y)).set l (.val z))) k
section
variable {ρ:DSt} {a:TED}
theorem o_none : ∀ Q : Option Int → DSt → Prop, Q none ρ → oNone ρ Q := fun Q h => h
theorem o_int {v : Int} (h : Ev a ρ (.int v)) : ∀ Q : Option Int → DSt → Prop, Q (some v) ρ → oSome a ρ Q := fun Q q => h _ fun r h1 _ => h1 (fun x => match x with | .int i => Q (some i) ρ | _ => False) q
end
end KK

set_option maxHeartbeats 2000000
namespace KK
open PySem PySem.Spec L2 DL
/-! ### forms, one step back -/
theorem KQ1 : 1 < KQ := by unfold KQ; decide
theorem gc_shf1 (p q s n : Int) : gc p q s ∣ gc (p + n * s) q s := by
  have h1 := gc_dp (p := p) (q := q) (s := s)
  have h2 := gc_dq (p := p) (q := q) (s := s)
  have h3 := gc_ds (p := p) (q := q) (s := s)
  have h4 : gc p q s ∣ p + n * s := Int.dvd_add h1 (Int.dvd_trans h3 (Int.dvd_mul_left _ _))
  have eg : gc p q s = ((p.natAbs.gcd q.natAbs).gcd s.natAbs : Nat) := rfl
  rw [eg] at *
  show ((_ : Nat) : Int) ∣ (((p + n * s).natAbs.gcd q.natAbs).gcd s.natAbs : Nat)
  rw [Int.natCast_dvd_natCast]
  exact Nat.dvd_gcd (Nat.dvd_gcd (Int.ofNat_dvd_left.mp h4) (Int.ofNat_dvd_left.mp h2)) (Int.ofNat_dvd_left.mp h3)
theorem gc_nn (p q s : Int) : 0 ≤ gc p q s := Int.natCast_nonneg _
theorem gc_shf (p q s n : Int) : gc (p + n * s) q s = gc p q s := by
  refine Int.dvd_antisymm (gc_nn _ _ _) (gc_nn _ _ _) ?_ (gc_shf1 p q s n)
  have := gc_shf1 (p + n * s) q s (-n)
  rwa [show p + n * s + -n * s = p by grind] at this
theorem Cnl.shf {x : Nu} (h : Cnl x) (n : Int) : Cnl (KK.shf x n) := ⟨h.1, by
  show gc (x.p + n * x.s) x.q x.s = 1
  rw [gc_shf]; exact h.2.1, h.2.2⟩
theorem shf_shf (x : Nu) (a b : Int) : shf (shf x a) b = shf x (a + b) := by
  unfold shf
  dsimp only
  congr 1
  grind
theorem shf0 (y : Nu) : shf y 0 = y := by unfold shf; simp
theorem sgv_shf (x : Nu) (n U V : Int) : sgv (shf x n) U V = sgv x U (V - U * n) := by
  unfold sgv
  show sos (U * (x.p + n * x.s) - V * x.s) (U * x.q) (de x) = _
  congr 1
  grind
theorem low_shf {P Q D S : Int} (hS : S ≠ 0) (n : Int) : shf (low P Q D S) n = low (P + n * S) Q D S := by
  obtain ⟨k, hk, e1, e2, e3, e4⟩ := low_spec (p := P) (q := Q) D hS
  have c : Cnl (low P Q D S) := cnl_low hS trivial
  have ed := low_dd (p := P) (q := Q) (d := D) hS
  obtain ⟨w, hw⟩ : ∃ w, w = low P Q D S := ⟨_, rfl⟩
  rw [← hw] at e1 e2 e3 e4 c ed ⊢
  have r : low (P + n * S) Q D S = low (k * (w.p + n * w.s)) (k * w.q) D (k * w.s) := by
    rw [← e2, ← e3]
    congr 1
    rw [e3, e1]; grind
  rw [r, low_scale D hk (by omega), low_one e4 (by rw [gc_shf]; exact c.2.1), ← ed]
  rfl
theorem Fm.cnl {m : Nat} {x : Nu} (h : Fm m x) : Cnl x := by
  obtain ⟨d, A, B, C, f, hd, hA, rfl, _⟩ := h.ex
  exact cnl_low (by omega) trivial
theorem bd_le {n m : Nat} {i : Int} (h : i.natAbs ≤ m) (hm : m < 2 ^ n) : Bd n i := Nat.lt_of_le_of_lt h hm
theorem Fm.gd {m : Nat} {x : Nu} (h : Fm m x) (hm : m < 2 ^ 4960) : Gd 4970 x ∧ Bd 20 x.q := by
  obtain ⟨d, A, B, C, f, hd, hA, rfl, hD, hf, mA, mB, mC⟩ := h.ex
  refine ⟨low_Gd (by omega) hd ((bd_le (n := 4960) (by omega) hm).mono (by omega)) ((show Bd 20 f from hf).mono (by omega)) (((show Bd 2 2 by unfold Bd; decide).mul (bd_le mA hm)).mono (by omega)) (by omega), ?_⟩
  obtain ⟨k, hk, e1, e2, e3, e4⟩ := low_spec (p := -B) (q := f) d (show 2 * A ≠ 0 by omega)
  generalize low (-B) f d (2 * A) = w at *
  unfold Bd
  have : f.natAbs = k.natAbs * w.q.natAbs := by rw [e2, Int.natAbs_mul]
  have := Nat.le_mul_of_pos_left w.q.natAbs (show 0 < k.natAbs by omega)
  omega
/-- the inverse by its form -/
theorem Fm.inv0 {m : Nat} {x : Nu} (h : Fm m x) (hm : m < 2 ^ 4960) (ho : sgn x = 1) : ∃ d A B C f : Int, Dr d ∧ A ≠ 0 ∧ C ≠ 0 ∧ x = low (-B) f d (2 * A) ∧ ninv x = low (-B) (-f) d (2 * C) ∧ B * B - 4 * A * C = f * f * d ∧ f.natAbs < 2 ^ 20 ∧ A.natAbs ≤ m ∧ B.natAbs ≤ m ∧ C.natAbs ≤ m := by
  have gx := (h.gd hm).1
  have hz := sgn_ne ho
  have nn := gx.norm hz
  obtain ⟨d, A, B, C, f, hd, hA, e, hD, hf, mA, mB, mC⟩ := h.ex
  obtain ⟨k, hk, e1, e2, e3, e4⟩ := low_spec (p := -B) (q := f) d (show 2 * A ≠ 0 by omega)
  have ed := low_dd (p := -B) (q := f) (d := d) (show 2 * A ≠ 0 by omega)
  rw [← e] at e1 e2 e3 e4 ed
  have hC : C ≠ 0 := fun z => by
    rw [z] at hD
    obtain ⟨z1, z2⟩ := hd.2.2 B f (by rw [← hD]; simp)
    rw [z1] at e1
    rw [z2] at e2
    have p0 : x.p = 0 := by
      rcases Int.mul_eq_zero.mp e1.symm with q | q
      · exact absurd q hk
      · exact q
    have q0 : x.q = 0 := by
      rcases Int.mul_eq_zero.mp e2.symm with q | q
      · exact absurd q hk
      · exact q
    unfold sgn at ho
    rw [p0, q0, sos_00] at ho
    exact absurd ho (by decide)
  refine ⟨d, A, B, C, f, hd, hA, hC, e, ?_, hD, hf, mA, mB, mC⟩
  have qd : x.q * x.q * x.d = x.q * x.q * d := by
    rw [ed]; split
    · rename_i z; rw [z]; simp
    · rfl
  have kk : k * k ≠ 0 := Int.mul_ne_zero hk hk
  have kn : (k * k) * (x.p * x.p - x.q * x.q * x.d) = 4 * A * C := by
    have a1 : (k * k) * (x.p * x.p - x.q * x.q * x.d) = (k * x.p) * (k * x.p) - (k * x.q) * (k * x.q) * d := by rw [qd]; grind
    rw [a1, ← e1, ← e2]
    grind
  unfold ninv
  refine low_eq nn (by omega) ?_ ?_ ?_
  · refine Int.eq_of_mul_eq_mul_left kk ?_
    have a1 : k * k * (x.p * x.s * (2 * C)) = (k * x.p) * (k * x.s) * (2 * C) := by grind
    have a2 : k * k * (-B * (x.p * x.p - x.q * x.q * x.d)) = -B * ((k * k) * (x.p * x.p - x.q * x.q * x.d)) := by grind
    rw [a1, a2, kn, ← e1, ← e3]
    grind
  · refine Int.eq_of_mul_eq_mul_left kk ?_
    have a1 : k * k * (-x.q * x.s * (2 * C)) = -(k * x.q) * (k * x.s) * (2 * C) := by grind
    have a2 : k * k * (-f * (x.p * x.p - x.q * x.q * x.d)) = -f * ((k * k) * (x.p * x.p - x.q * x.q * x.d)) := by grind
    rw [a1, a2, kn, ← e2, ← e3]
    grind
  · intro hq
    rw [ed, if_neg]
    intro c
    rw [c] at hq
    simp at hq
theorem abs3 {a b : Int} {m n : Nat} (h1 : a.natAbs ≤ m) (h2 : b.natAbs ≤ n) : (a + b).natAbs ≤ m + n ∧ (a - b).natAbs ≤ m + n := by omega
theorem absm {a b : Int} {m n : Nat} (h1 : a.natAbs ≤ m) (h2 : b.natAbs ≤ n) : (a * b).natAbs ≤ m * n := by
  rw [Int.natAbs_mul]; exact Nat.mul_le_mul h1 h2
theorem arR (m : Nat) : m ≤ m * 1208925819614629174706176 ∧ m + 2 * 1000000000000 * m ≤ m * 1208925819614629174706176 ∧ m * 1000000000000 * 1000000000000 + m * 1000000000000 + m ≤ m * 1208925819614629174706176 := by omega
theorem Fm.up {m : Nat} {x : Nu} (h : Fm m x) (hm : m < 2 ^ 4960) (ho : sgn x = 1) {n : Int} (n0 : 0 ≤ n) (n1 : n ≤ 10 ^ 12) : Fm (m * 1208925819614629174706176) (shf (ninv x) n) := by
  obtain ⟨d, A, B, C, f, hd, hA, hC, _, e, hD, hf, mA, mB, mC⟩ := h.inv0 hm ho
  rw [e, low_shf (by omega)]
  have hn : n.natAbs ≤ 1000000000000 := by omega
  have x1 := absm (absm (show (2 : Int).natAbs ≤ 2 by decide) hn) mC
  have x2 := absm (absm mC hn) hn
  have x3 := absm mB hn
  have y1 := (abs3 mB x1).2
  have y2 := (abs3 (abs3 x2 x3).2 mA).1
  obtain ⟨z0, z1, z2⟩ := arR m
  refine ⟨d, C, B - 2 * n * C, C * n * n - B * n + A, -f, hd, hC, by congr 1; grind, by grind, by rw [Int.natAbs_neg]; exact hf, Nat.le_trans mC z0, Nat.le_trans y1 z1, Nat.le_trans y2 z2⟩
theorem Fm.mono {m m' : Nat} {x : Nu} (h : Fm m x) (e : m ≤ m') : Fm m' x := by
  obtain ⟨d, A, B, C, f, hd, hA, e1, hD, hf, mA, mB, mC⟩ := h.ex
  exact ⟨d, A, B, C, f, hd, hA, e1, hD, hf, by omega, by omega, by omega⟩
theorem Fm.inv {m : Nat} {x : Nu} (h : Fm m x) (hm : m < 2 ^ 4960) (ho : sgn x = 1) : Fm m (ninv x) := by
  obtain ⟨d, A, B, C, f, hd, hA, hC, _, e, hD, hf, mA, mB, mC⟩ := h.inv0 hm ho
  exact ⟨d, C, B, A, -f, hd, hC, e, by grind, by omega, mC, mB, mA⟩
end KK

set_option maxHeartbeats 2000000
namespace KK
open PySem PySem.Spec L2 DL
/-! ### behind a quotient: bounds, floors, the chain -/
theorem cnl_z {x : Nu} (c : Cnl x) (h1 : x.p = 0) (h2 : x.q = 0) : x.s = 1 := by
  obtain ⟨c1, c2, _⟩ := c
  rw [h1, h2] at c2
  unfold gc at c2
  simp at c2
  omega
theorem gd_shf {n k : Nat} {x : Nu} {v : Int} (g : Gd n x) (c : Cnl x) (hv : Bd k v) : Gd (n + k + 1) (shf x v) := by
  obtain ⟨b1, b2, b3, b4⟩ := g.b
  exact ⟨g.s, g.r, cnl_z (c.shf v), (b1.mono (m := n + k) (by omega)).add ((hv.mul b4).mono (m := n + k) (by omega)) (by omega), b2.mono (by omega), b3.mono (by omega), b4.mono (by omega)⟩
section
variable {x : Nu}
theorem Kd.gd (h : Kd x) : Gd 4970 x := by
  obtain ⟨m, hm, f⟩ := h.f
  exact (f.gd hm).1
theorem Kd.cnl (h : Kd x) : Cnl x := by
  obtain ⟨m, hm, f⟩ := h.f
  exact f.cnl
theorem Kd.sg (h : Kd x) : sgn x = 1 := by
  obtain ⟨hd, ir, _⟩ := h.gd.de
  have s0 := h.gd.s
  have a := h.lo
  unfold sgv at a
  have k := KQ1
  have b := sos_int hd ir a (t := (KQ + 1) * x.s) (Int.mul_pos (by omega) s0)
  rw [show KQ * x.p - (KQ + 1) * x.s + (KQ + 1) * x.s = KQ * x.p by grind, sos_scale hd (by omega) ir] at b
  exact b
theorem Kd.nz (h : Kd x) : ¬ isZ x := sgn_ne h.sg
theorem Kd.dei (h : Kd x) : de (ninv x) = de x := de_inv h.gd h.nz
theorem Kd.sgv_inv (h : Kd x) (U V : Int) : sgv (ninv x) U V = sos (U * x.s - V * x.p) (-(V * x.q)) (de x) := sgl_inv h.gd h.sg U V
theorem Kd.sgu (h : Kd x) (n U V : Int) : sgv (shf (ninv x) n) U V = sos (U * x.s - (V - U * n) * x.p) (-((V - U * n) * x.q)) (de x) := by rw [sgv_shf, h.sgv_inv]
theorem Kd.hi' (h : Kd x) : 0 ≤ sos (KQ * x.s - x.p) (-x.q) (de x) := by
  have a := h.hi
  unfold sgv at a
  have e := sos_ng (1 * x.p - KQ * x.s) (1 * x.q) (de x)
  rw [show -(1 * x.p - KQ * x.s) = KQ * x.s - x.p by omega, show -(1 * x.q) = -x.q by omega] at e
  omega
theorem Kd.pos (h : Kd x) {c : Int} (hc : 0 ≤ c) : 0 ≤ sos (c * x.p) (c * x.q) (de x) := by
  obtain ⟨hd, ir, _⟩ := h.gd.de
  rcases Int.lt_or_eq_of_le hc with z | z
  · rw [sos_scale hd z ir]
    have := h.sg
    unfold sgn at this
    omega
  · rw [← z]; simp [sos_00]
theorem Kd.lo_up (h : Kd x) {n : Int} (hn : 1 ≤ n) : 0 ≤ sgv (shf (ninv x) n) KQ (KQ + 1) := by
  obtain ⟨hd, ir, _⟩ := h.gd.de
  have k := KQ1
  rw [h.sgu]
  have := sos_add hd ir h.hi' (h.pos (c := KQ * (n - 1)) (Int.mul_nonneg (by omega) (by omega)))
  rw [show KQ * x.s - x.p + KQ * (n - 1) * x.p = KQ * x.s - (KQ + 1 - KQ * n) * x.p by grind, show -x.q + KQ * (n - 1) * x.q = -((KQ + 1 - KQ * n) * x.q) by grind] at this
  exact this
theorem Kd.hi_up (h : Kd x) {n : Int} (hn : n ≤ 10 ^ 12) : sgv (shf (ninv x) n) 1 KQ ≤ 0 := by
  obtain ⟨hd, ir, _⟩ := h.gd.de
  have s0 := h.gd.s
  have k := KQ1
  have c0 : 1 ≤ KQ - n := by unfold KQ; omega
  have a := h.lo
  unfold sgv at a
  rw [h.sgu]
  generalize hc : KQ - n = c at *
  have a1 : 0 ≤ sos (c * (KQ * x.p - (KQ + 1) * x.s)) (c * (KQ * x.q)) (de x) := by rw [sos_scale hd (by omega) ir]; exact a
  have t0 : 0 ≤ (c * (KQ + 1) - KQ) * x.s := Int.mul_nonneg (by
    have := Int.mul_le_mul_of_nonneg_right c0 (show 0 ≤ KQ + 1 by omega)
    omega) (by omega)
  have a2 := sos_intN hd ir a1 t0
  rw [show c * (KQ * x.p - (KQ + 1) * x.s) + (c * (KQ + 1) - KQ) * x.s = KQ * (c * x.p - x.s) by grind, show c * (KQ * x.q) = KQ * (c * x.q) by grind, sos_scale hd (by omega) ir] at a2
  have e := sos_ng (c * x.p - x.s) (c * x.q) (de x)
  rw [show -(c * x.p - x.s) = 1 * x.s - (KQ - 1 * n) * x.p by rw [← hc]; grind, show -(c * x.q) = -((KQ - 1 * n) * x.q) by rw [← hc]; grind] at e
  omega
theorem Kd.above (h : Kd x) : sos (x.s - x.p) (-x.q) (de x) = -1 := by
  obtain ⟨hd, ir, _⟩ := h.gd.de
  have s0 := h.gd.s
  have k := KQ1
  have a := h.lo
  unfold sgv at a
  have b := sos_int hd ir a (t := x.s) s0
  rw [show KQ * x.p - (KQ + 1) * x.s + x.s = KQ * (x.p - x.s) by grind, sos_scale hd (by omega) ir] at b
  have e := sos_ng (x.p - x.s) x.q (de x)
  rw [show -(x.p - x.s) = x.s - x.p by omega, b] at e
  exact e
theorem Kd.flo (h : Kd x) (n : Int) : Flo (shf (ninv x) n) n := by
  have a := h.sgv_inv 1 0
  have b := h.sgv_inv 1 1
  unfold sgv at a b
  unfold Flo FlS
  have e1 : (shf (ninv x) n).p - n * (shf (ninv x) n).s = 1 * (ninv x).p - 0 * (ninv x).s := by unfold shf; grind
  have e2 : (shf (ninv x) n).p - (n + 1) * (shf (ninv x) n).s = 1 * (ninv x).p - 1 * (ninv x).s := by unfold shf; grind
  have e3 : (shf (ninv x) n).q = 1 * (ninv x).q := by unfold shf; grind
  have e4 : de (shf (ninv x) n) = de (ninv x) := rfl
  rw [e1, e2, e3, e4, a, b]
  constructor
  · rw [show -(0 * x.q) = 0 by omega, sos_q00, sgi_0]
    have := h.gd.s
    omega
  · rw [show 1 * x.s - 1 * x.p = x.s - x.p by omega, show -(1 * x.q) = -x.q by omega]
    exact h.above
theorem Kd.gp (h : Kd x) {n : Int} (hn : 0 ≤ n) : Gp (shf (ninv x) n) := by
  obtain ⟨hd, ir, _⟩ := h.gd.de
  have k := KQ1
  have s0 := h.gd.s
  refine .inr (.inl ?_)
  rw [h.sgu]
  have a := sos_add hd ir h.hi' (h.pos (c := (KQ + 1) * n) (Int.mul_nonneg (by omega) hn))
  have b := sos_intN hd ir a (t := x.s) (by omega)
  rw [show KQ * x.s - x.p + (KQ + 1) * n * x.p + x.s = (KQ + 1) * x.s - (1 - (KQ + 1) * n) * x.p by grind, show -x.q + (KQ + 1) * n * x.q = -((1 - (KQ + 1) * n) * x.q) by grind] at b
  exact b
theorem Kd.gp1 (h : Kd x) : Gp (shf (ninv x) (-1)) := by
  refine .inr (.inr ?_)
  rw [h.sgu]
  have a := h.lo
  unfold sgv at a
  rwa [show -(KQ + 1) * x.s - (1 - -(KQ + 1) * -1) * x.p = KQ * x.p - (KQ + 1) * x.s by grind, show -((1 - -(KQ + 1) * -1) * x.q) = KQ * x.q by grind]
theorem Kd.sgs (h : Kd x) {n : Int} (hn : 0 ≤ n) : sgn (shf (ninv x) n) = 1 := by
  obtain ⟨hd, ir, _⟩ := h.gd.de
  have a := h.sgu n 1 0
  have b := sos_int hd ir (h.pos hn) h.gd.s
  rw [show n * x.p + x.s = 1 * x.s - (0 - 1 * n) * x.p by grind, show n * x.q = -((0 - 1 * n) * x.q) by grind, ← a] at b
  unfold sgv at b
  unfold sgn
  rwa [show 1 * (shf (ninv x) n).p - 0 * (shf (ninv x) n).s = (shf (ninv x) n).p by omega, Int.one_mul] at b
theorem Kd.fmi (h : Kd x) : ∃ m, m < 2 ^ 4960 ∧ Fm m (ninv x) := by
  obtain ⟨m, hm, f⟩ := h.f
  exact ⟨m, hm, f.inv hm h.sg⟩
theorem Kd.gdi (h : Kd x) : Gd 4970 (ninv x) ∧ Cnl (ninv x) ∧ ¬ isZ (ninv x) ∧ sgn (ninv x) = 1 := by
  obtain ⟨m, hm, f⟩ := h.fmi
  have s := h.sgs (n := 0) (by decide)
  rw [shf0] at s
  exact ⟨(f.gd hm).1, f.cnl, sgn_ne s, s⟩
theorem Kd.back (h : Kd x) : ninv (ninv x) = x := ninv_ninv h.gd h.nz h.cnl
theorem Kd.gds (h : Kd x) {n : Int} (hn : Bd 42 n) : Gd 5013 (shf (ninv x) n) := gd_shf h.gdi.1 h.gdi.2.1 hn
theorem sq_le11 {a b m : Nat} (h1 : a * a ≤ 2 * m) (h2 : b * b ≤ 2 * m) : a * b ≤ 2 * m := by
  rcases Nat.lt_or_ge (2 * m) (a * b) with c | c
  · have x1 := Nat.mul_le_mul h1 h2
    have x2 := Nat.mul_lt_mul'' c c
    have : a * b * (a * b) = a * a * (b * b) := by grind
    omega
  · exact c
theorem gci_bd {m : Nat} (h : Fm m x) (hm : m < 2 ^ 4960) (ho : sgn x = 1) : Bd 8000 (gci x) := by
  obtain ⟨gx, bq⟩ := h.gd hm
  have s0 := gx.s
  have c := h.cnl
  by_cases hq : x.q = 0
  · have p0 : x.p ≠ 0 := fun z => by
      unfold sgn at ho
      rw [z, hq, sos_00] at ho
      exact absurd ho (by decide)
    obtain ⟨d, A, B, C, f, hd, hA, e, hD, hf, mA, mB, mC⟩ := h.ex
    obtain ⟨k, hk, e1, e2, e3, e4⟩ := low_spec (p := -B) (q := f) d (show 2 * A ≠ 0 by omega)
    rw [← e] at e1 e2 e3 e4
    rw [hq, Int.mul_zero] at e2
    rw [e2] at hD
    have cp : Nat.Coprime x.s.natAbs x.p.natAbs := by
      have := c.2.1
      rw [hq] at this
      unfold gc at this
      rw [show (0 : Int).natAbs = 0 from rfl, Nat.gcd_zero_right] at this
      rw [Nat.coprime_iff_gcd_eq_one, Nat.gcd_comm]
      omega
    have key : k * (x.p * x.p) = 2 * x.s * C := by
      refine Int.eq_of_mul_eq_mul_left hk ?_
      have : k * (k * (x.p * x.p)) = (k * x.p) * (k * x.p) := by grind
      rw [this, ← e1]
      have : k * (2 * x.s * C) = 2 * (k * x.s) * C := by grind
      rw [this, ← e3]
      grind
    have kn : k.natAbs * (x.p.natAbs * x.p.natAbs) = 2 * x.s.natAbs * C.natAbs := by
      have := congrArg Int.natAbs key
      rwa [Int.natAbs_mul, Int.natAbs_mul, Int.natAbs_mul, Int.natAbs_mul] at this
    have dv : x.s.natAbs ∣ k.natAbs := by
      refine cp.dvd_of_dvd_mul_right (cp.dvd_of_dvd_mul_right ?_)
      rw [Nat.mul_assoc, kn]
      exact ⟨2 * C.natAbs, by grind⟩
    obtain ⟨j, hj⟩ := dv
    have sn : 0 < x.s.natAbs := by omega
    have jn : 0 < j := by
      rcases Nat.eq_zero_or_pos j with z | z
      · rw [z] at hj; simp at hj; exact absurd hj hk
      · exact z
    have h1 : x.p.natAbs * x.p.natAbs ≤ 2 * m := by
      rw [hj] at kn
      have : j * (x.p.natAbs * x.p.natAbs) = 2 * C.natAbs := Nat.eq_of_mul_eq_mul_left sn (by grind)
      have := Nat.le_mul_of_pos_left (x.p.natAbs * x.p.natAbs) jn
      omega
    have h2 : x.s.natAbs * x.s.natAbs ≤ 2 * m := by
      have e3' := congrArg Int.natAbs e3
      rw [Int.natAbs_mul, Int.natAbs_mul, hj] at e3'
      have : x.s.natAbs * j * x.s.natAbs = j * (x.s.natAbs * x.s.natAbs) := by grind
      have := Nat.le_mul_of_pos_left (x.s.natAbs * x.s.natAbs) jn
      have e2 : (2 : Int).natAbs = 2 := rfl
      rw [e2] at e3'
      omega
    have h3 := sq_le11 h1 h2
    have g1 : (gci x).natAbs ≤ (x.p * x.s).natAbs := Nat.le_of_dvd (by rw [Int.natAbs_mul]; exact Nat.mul_pos (by omega) sn) (Int.natAbs_dvd_natAbs.mpr gc_dp)
    rw [Int.natAbs_mul] at g1
    have b2 : Bd 4962 (2 * (m : Int)) := (show Bd 2 2 by unfold Bd; decide).mul (show Bd 4960 (m : Int) from hm)
    have : Bd 4962 (gci x) := by
      unfold Bd at b2 ⊢
      exact Nat.lt_of_le_of_lt (Nat.le_trans g1 h3) (by rw [Int.natAbs_mul] at b2; exact b2)
    exact this.mono (by omega)
  · have g1 : (gci x).natAbs ≤ (-x.q * x.s).natAbs := Nat.le_of_dvd (by rw [Int.natAbs_mul]; exact Nat.mul_pos (by omega) (by omega)) (Int.natAbs_dvd_natAbs.mpr gc_dq)
    have b := bq.neg.mul gx.b.2.2.2
    exact (show Bd (20 + 4970) (gci x) from Nat.lt_of_le_of_lt g1 b).mono (by omega)
theorem Kd.gci (h : Kd x) : Bd 8000 (gci x) ∧ Bd 8000 (KK.gci (ninv x)) := by
  obtain ⟨m, hm, f⟩ := h.f
  obtain ⟨m', hm', f'⟩ := h.fmi
  exact ⟨gci_bd f hm h.sg, gci_bd f' hm' h.gdi.2.2.2⟩
end
/-! ### the chain -/
abbrev RQ : Nat := 1208925819614629174706176
theorem cz_up {y : Nu} {m : Nat} (hF : Fm m y) (lo : 0 ≤ sgv y KQ (KQ + 1)) (hi : sgv y 1 KQ ≤ 0) : ∀ L : List Int, (∀ q ∈ L, 1 ≤ q ∧ q ≤ 10 ^ 12) → m * RQ ^ L.length < 2 ^ 4960 → ∃ x, Cz L y x ∧ Fm (m * RQ ^ L.length) x ∧ 0 ≤ sgv x KQ (KQ + 1) ∧ sgv x 1 KQ ≤ 0
  | [], _, _ => ⟨y, rfl, by simpa using hF, lo, hi⟩
  | q :: L, hL, hm => by
    have e : m * RQ ^ (q :: L).length = m * RQ ^ L.length * RQ := by rw [List.length_cons, Nat.pow_succ]; grind
    rw [e] at hm
    have hm' : m * RQ ^ L.length < 2 ^ 4960 := Nat.lt_of_le_of_lt (Nat.le_mul_of_pos_right _ (by decide)) hm
    obtain ⟨x, hx, fx, l1, l2⟩ := cz_up hF lo hi L (fun q hq => hL q (List.mem_cons_of_mem _ hq)) hm'
    have kx : Kd x := ⟨⟨_, hm', fx⟩, l1, l2⟩
    obtain ⟨q1, q2⟩ := hL q List.mem_cons_self
    refine ⟨shf (ninv x) q, ⟨x, kx, by omega, q2, rfl, hx⟩, ?_, kx.lo_up q1, kx.hi_up q2⟩
    rw [e]
    exact fx.up hm' kx.sg (by omega) q2
theorem cz_q {y : Nu} : ∀ (L : List Int) {x : Nu}, Cz L y x → (x.q = 0 ↔ y.q = 0)
  | [], x, h => by
    have h : x = y := h
    rw [h]
  | q :: L, x, ⟨x1, k, _, _, e, h⟩ => by
    rw [← cz_q L h, e]
    show (ninv x1).q = 0 ↔ _
    unfold ninv
    rw [low_q (k.gd.norm k.nz), inv_q k.gd]
/-- a ratio -/
def Rt1 (x : Nu) : Prop := Gd 5013 x ∧ Cnl x ∧ sgn x = 1 ∧ Gp x
theorem Kd.rt {x : Nu} (h : Kd x) : Rt1 x := by
  obtain ⟨hd, ir, _⟩ := h.gd.de
  have s0 := h.gd.s
  have k := KQ1
  refine ⟨h.gd.mono (by omega), h.cnl, h.sg, .inr (.inl ?_)⟩
  have a := h.lo
  unfold sgv at a ⊢
  have b := sos_intN hd ir (sos_add hd ir a (h.pos (c := 1) (by decide))) (t := KQ * x.s) (Int.mul_nonneg (by omega) (by omega))
  rwa [show KQ * x.p - (KQ + 1) * x.s + 1 * x.p + KQ * x.s = (KQ + 1) * x.p - 1 * x.s by grind, show KQ * x.q + 1 * x.q = (KQ + 1) * x.q by grind] at b
theorem cz_rt {y : Nu} (hy : Rt1 y) : ∀ (L : List Int) {x : Nu}, Cz L y x → Rt1 x
  | [], x, h => by
    have h : x = y := h
    rwa [h]
  | q :: L, x, ⟨x1, k, q0, q1, e, h⟩ => by
    rw [e]
    exact ⟨k.gds (by unfold Bd; omega), k.gdi.2.1.shf q, k.sgs q0, k.gp q0⟩
theorem nint_cnl (v : Int) : Cnl (nint v) := ⟨(show (0 : Int) < 1 by decide), by
  show gc v 0 1 = 1
  unfold gc; simp, fun _ => rfl⟩
theorem nint_rt {v : Int} (h1 : 1 ≤ v) (h2 : v ≤ 10) : Rt1 (nint v) := by
  refine ⟨nint_Gd (by exact (show Bd 4 v by unfold Bd; omega).mono (by omega)) (by omega), nint_cnl v, ?_, .inr (.inl ?_)⟩
  · show sos v 0 _ = 1
    rw [sos_q00, sgi_p]; omega
  · show 0 ≤ sos ((KQ + 1) * v - 1 * 1) ((KQ + 1) * 0) _
    rw [Int.mul_zero, sos_q00, sgi_0]
    have := Int.mul_le_mul_of_nonneg_left h1 (show 0 ≤ KQ + 1 by have := KQ1; omega)
    have := KQ1
    omega
theorem nint_fm {v : Int} (h1 : 2 ≤ v) (h2 : v ≤ 10) : Fm 100 (nint v) ∧ 0 ≤ sgv (nint v) KQ (KQ + 1) ∧ sgv (nint v) 1 KQ ≤ 0 := by
  refine ⟨⟨2, 1, -(2 * v), v * v, 0, ⟨by decide, by unfold Bd; decide, irr2⟩, by decide, ?_, by grind, by decide, by omega, by omega, ?_⟩, ?_, ?_⟩
  · have := low_scale (k := 2) (p := v) (q := 0) (s := 1) 2 (by decide) (by decide)
    rw [show - -(2 * v) = 2 * v by omega]
    rw [show (2 : Int) * 0 = 0 from rfl] at this
    rw [this]
    exact ((low_d fun c => absurd rfl c).trans (cnl_eq (nint_cnl v))).symm
  · rw [Int.natAbs_mul]
    have := Nat.mul_le_mul (show v.natAbs ≤ 10 by omega) (show v.natAbs ≤ 10 by omega)
    omega
  · show 0 ≤ sos (KQ * v - (KQ + 1) * 1) (KQ * 0) _
    rw [Int.mul_zero, sos_q00, sgi_0]
    have := Int.mul_le_mul_of_nonneg_left h1 (show 0 ≤ KQ by have := KQ1; omega)
    have := KQ1
    omega
  · show sos (1 * v - KQ * 1) (1 * 0) _ ≤ 0
    rw [Int.mul_zero, sos_q00, show sgi (1 * v - KQ * 1) = -1 by rw [sgi_n]; unfold KQ; omega]
    decide
end KK

set_option maxHeartbeats 2000000
namespace KK
open PySem PySem.Spec L2 DL
/-! ### the period's own ratio -/
def mm : List Int → Int × Int × Int × Int
  | [] => (1, 0, 0, 1)
  | q :: g => (q * (mm g).1 + (mm g).2.2.1, q * (mm g).2.1 + (mm g).2.2.2, (mm g).1, (mm g).2.1)
theorem mat_mm : ∀ (g : List Int) (A B C E : Int), mat g (A, B, C, E) = (A * (mm g).1 + B * (mm g).2.2.1, A * (mm g).2.1 + B * (mm g).2.2.2, C * (mm g).1 + E * (mm g).2.2.1, C * (mm g).2.1 + E * (mm g).2.2.2)
  | [], A, B, C, E => by simp [mat, mm]
  | q :: g, A, B, C, E => by
    show mat g (A * q + B, A, C * q + E, C) = _
    rw [mat_mm g]
    simp only [mm]
    refine Prod.ext ?_ (Prod.ext ?_ (Prod.ext ?_ ?_)) <;> (dsimp only; grind)
structure Mi (n : Nat) (a b c e : Int) : Prop where
  ha : 1 ≤ a
  hb : 0 ≤ b
  hc : 0 ≤ c
  he : 0 ≤ e
  hs : 1 ≤ c + e
  hd : a * e - b * c = 1 ∨ a * e - b * c = -1
  ha' : a ≤ 21 ^ n
  hb' : b ≤ 21 ^ n
  hc' : c ≤ 21 ^ n
  he' : e ≤ 21 ^ n
theorem mm_ok : ∀ g : List Int, (∀ q ∈ g, 1 ≤ q ∧ q ≤ 20) → Mi g.length (mm g).1 (mm g).2.1 (mm g).2.2.1 (mm g).2.2.2 ∧ (g ≠ [] → 1 ≤ (mm g).2.1 ∧ 1 ≤ (mm g).2.2.1 ∧ (mm g).2.2.1 + (mm g).2.2.2 + 1 ≤ (mm g).1 + (mm g).2.1)
  | [], _ => ⟨⟨by decide, by decide, by decide, by decide, by decide, .inl (by decide), by decide, by decide, by decide, by decide⟩, fun h => absurd rfl h⟩
  | q :: g, h => by
    obtain ⟨i, _⟩ := mm_ok g fun q hq => h q (List.mem_cons_of_mem _ hq)
    obtain ⟨q1, q2⟩ := h q List.mem_cons_self
    simp only [mm, List.length_cons]
    generalize (mm g).1 = a at *
    generalize (mm g).2.1 = b at *
    generalize (mm g).2.2.1 = c at *
    generalize (mm g).2.2.2 = e at *
    obtain ⟨ha, hb, hc, he, hs, hd, ha', hb', hc', he'⟩ := i
    have x1 := Int.mul_le_mul_of_nonneg_right q1 (show 0 ≤ a by omega)
    have x2 := Int.mul_le_mul_of_nonneg_right q2 (show 0 ≤ a by omega)
    have x3 := Int.mul_le_mul_of_nonneg_right q1 hb
    have x4 := Int.mul_le_mul_of_nonneg_right q2 hb
    have be : 1 ≤ b + e := by
      rcases Int.lt_or_le (b + e) 1 with z | z
      · have b0 : b = 0 := by omega
        have e0 : e = 0 := by omega
        rw [b0, e0] at hd
        simp at hd
      · exact z
    have pw : (21 : Int) ^ (g.length + 1) = 21 * 21 ^ g.length := by rw [Int.pow_succ]; omega
    generalize (21 : Int) ^ g.length = M at *
    have bq : 1 ≤ q * b + e := by omega
    refine ⟨⟨by omega, by omega, by omega, hb, by omega, ?_, by rw [pw]; omega, by rw [pw]; omega, by rw [pw]; omega, by rw [pw]; omega⟩, fun _ => ⟨bq, ha, ?_⟩⟩
    · have : (q * a + c) * b - (q * b + e) * a = -(a * e - b * c) := by grind
      rw [this]; omega
    · omega
theorem sq_ex : ∀ (n : Nat) (D : Int), 0 < D → D.natAbs ≤ n → ∃ f r : Int, 0 < f ∧ 0 < r ∧ f * f * r = D ∧ sqfree r
  | 0, D, h, h2 => by omega
  | n + 1, D, h, h2 => by
    rcases Classical.em (sqfree D) with s | s
    · exact ⟨1, D, by decide, h, by simp, s⟩
    · have : ∃ m : Int, 1 < m ∧ m * m ∣ D := by
        rcases Classical.em (∃ m : Int, 1 < m ∧ m * m ∣ D) with z | z
        · exact z
        · exact absurd (fun m hm hd => z ⟨m, hm, hd⟩) s
      obtain ⟨m, hm, D', e⟩ := this
      have mm4 : 4 ≤ m * m := by
        have := Int.mul_le_mul (show 2 ≤ m by omega) (show 2 ≤ m by omega) (by decide) (by omega)
        omega
      have d0 : 0 < D' := by
        rcases Int.lt_or_le 0 D' with z | z
        · exact z
        · have := Int.mul_nonpos_of_nonneg_of_nonpos (show 0 ≤ m * m by omega) z
          omega
      have lt : 4 * D' ≤ D := by
        rw [e]
        exact Int.mul_le_mul_of_nonneg_right mm4 (by omega)
      obtain ⟨f, r, f0, r0, e2, s2⟩ := sq_ex n D' d0 (by omega)
      exact ⟨m * f, r, Int.mul_pos (by omega) f0, r0, by rw [e, ← e2]; grind, s2⟩
theorem nonsq {a b c e : Int} {n : Nat} (h : Mi n a b c e) (hb : 1 ≤ b) (hc : 1 ≤ c) : Irr ((a - e) * (a - e) + 4 * b * c) := by
  obtain ⟨ha, _, _, he, hs, hd, _⟩ := h
  have D : (a - e) * (a - e) + 4 * b * c = (a + e) * (a + e) - 4 * (a * e - b * c) := by grind
  have bc : 1 ≤ b * c := by have := Int.mul_pos (show 0 < b by omega) (show 0 < c by omega); omega
  rw [D]
  have p1 : (a + e + 1) * (a + e + 1) = (a + e) * (a + e) + 2 * (a + e) + 1 := by grind
  have p2 : (a + e - 1) * (a + e - 1) = (a + e) * (a + e) - 2 * (a + e) + 1 := by grind
  rcases hd with z | z
  · have ae : 2 ≤ a * e := by omega
    have e1 : 1 ≤ e := by
      rcases Int.lt_or_le e 1 with q | q
      · have : e = 0 := by omega
        rw [this] at ae; simp at ae
      · exact q
    have t3 : 3 ≤ a + e := by
      rcases Int.lt_or_le (a + e) 3 with q | q
      · have a1 : a = 1 := by omega
        have e1 : e = 1 := by omega
        rw [a1, e1] at ae; simp at ae
      · exact q
    rw [z]
    refine irr_nonsq (a := a + e - 1) (by omega) (by omega) ?_
    rw [show a + e - 1 + 1 = a + e by omega]
    omega
  · rw [z]
    by_cases t1 : a + e = 1
    · rw [t1]
      exact irr5
    · refine irr_nonsq (a := a + e) (by omega) (by omega) (by omega)
theorem sgv_low {P Q d S : Int} (hS : 0 < S) (hQ : Q ≠ 0) (hd : Dr d) (U V : Int) : sgv (low P Q d S) U V = sos (U * P - V * S) (U * Q) d := by
  obtain ⟨k, hk, e1, e2, e3, e4⟩ := low_spec (p := P) (q := Q) d (show S ≠ 0 by omega)
  have ed := low_dd (p := P) (q := Q) (d := d) (show S ≠ 0 by omega)
  have hq : ¬ (low P Q d S).q = 0 := fun z => hQ ((low_q (by omega)).mp z)
  rw [if_neg hq] at ed
  unfold sgv
  have ed' : de (low P Q d S) = d := by unfold de; rw [ed, if_neg hd.ne]
  rw [ed']
  generalize low P Q d S = w at *
  have k0 : 0 < k := by
    rcases Int.lt_or_gt_of_ne hk with c | c
    · have := Int.mul_pos (show 0 < -k by omega) e4
      rw [show -k * w.s = -(k * w.s) by grind] at this
      omega
    · exact c
  rw [show U * P - V * S = k * (U * w.p - V * w.s) by rw [e1, e3]; grind, show U * Q = k * (U * w.q) by rw [e2]; grind, sos_scale hd.1 k0 hd.2.2]
theorem sos_ge0 {p q d : Int} (hd : Dr d) (hq : 0 ≤ q) (h : p * p ≤ q * q * d ∨ 0 ≤ p) : 0 ≤ sos p q d := by
  by_cases c : 0 ≤ p
  · have n0 := Int.mul_nonneg (sq_nn q) (Int.le_of_lt hd.1)
    have := sos_intN hd.1 hd.2.2 (sos_le hd.1 hd.2.2 (r := 0) (by decide) hq (by simpa using n0)) c
    simpa using this
  · have h : p * p ≤ q * q * d := by
      rcases h with h | h
      · exact h
      · exact absurd h c
    have := sos_le hd.1 hd.2.2 (r := -p) (by omega) hq (by rw [show -p * -p = p * p by grind]; exact h)
    rwa [Int.neg_neg] at this
/-! ### x is alpha over beta -/
def Rl (d : Int) (x : Nu) (P Q U V : Int) : Prop := x.s * P = x.p * U + x.q * V * d ∧ x.s * Q = x.p * V + x.q * U
theorem rl_up {x : Nu} (k : Kd x) {d P Q U V : Int} (hd : x.d = d) (h : Rl d x P Q U V) (n : Int) : Rl d (shf (ninv x) n) (n * P + U) (n * Q + V) P Q := by
  obtain ⟨h1, h2⟩ := h
  obtain ⟨j, hj, e1, e2, e3, e4⟩ := low_spec (p := x.p * x.s) (q := -x.q * x.s) x.d (k.gd.norm k.nz)
  change x.p * x.s = j * (ninv x).p at e1
  change -x.q * x.s = j * (ninv x).q at e2
  change x.p * x.p - x.q * x.q * x.d = j * (ninv x).s at e3
  rw [hd] at e3
  have z1 : (ninv x).s * U = (ninv x).p * P + (ninv x).q * Q * d := by
    refine Int.eq_of_mul_eq_mul_left hj ?_
    have a1 : j * ((ninv x).s * U) = (j * (ninv x).s) * U := by grind
    have a2 : j * ((ninv x).p * P + (ninv x).q * Q * d) = (j * (ninv x).p) * P + (j * (ninv x).q) * Q * d := by grind
    rw [a1, a2, ← e1, ← e2, ← e3]
    have b1 : x.p * x.s * P + -x.q * x.s * Q * d = x.p * (x.s * P) - x.q * (x.s * Q) * d := by grind
    rw [b1, h1, h2]
    grind
  have z2 : (ninv x).s * V = (ninv x).p * Q + (ninv x).q * P := by
    refine Int.eq_of_mul_eq_mul_left hj ?_
    have a1 : j * ((ninv x).s * V) = (j * (ninv x).s) * V := by grind
    have a2 : j * ((ninv x).p * Q + (ninv x).q * P) = (j * (ninv x).p) * Q + (j * (ninv x).q) * P := by grind
    rw [a1, a2, ← e1, ← e2, ← e3]
    have b1 : x.p * x.s * Q + -x.q * x.s * P = x.p * (x.s * Q) - x.q * (x.s * P) := by grind
    rw [b1, h1, h2]
    grind
  unfold Rl shf
  dsimp only
  constructor
  · have : (ninv x).s * (n * P + U) = n * (ninv x).s * P + (ninv x).s * U := by grind
    rw [this, z1]; grind
  · have : (ninv x).s * (n * Q + V) = n * (ninv x).s * Q + (ninv x).s * V := by grind
    rw [this, z2]; grind
theorem cz_d {y : Nu} (hy : y.q ≠ 0) : ∀ (L : List Int) {x : Nu}, Cz L y x → x.d = y.d
  | [], x, h => by
    have h : x = y := h
    rw [h]
  | q :: L, x, ⟨x1, k, _, _, e, h⟩ => by
    rw [← cz_d hy L h, e]
    show (ninv x1).d = x1.d
    have ed : (ninv x1).d = if (ninv x1).q = 0 then 0 else x1.d := low_dd (k.gd.norm k.nz)
    have q1 : x1.q ≠ 0 := fun z => hy ((cz_q L h).mp z)
    rw [ed, if_neg]
    intro z
    unfold ninv at z
    rw [low_q (k.gd.norm k.nz), inv_q k.gd] at z
    exact q1 z
theorem rl_cz {y : Nu} (hy : y.q ≠ 0) {P Q U V : Int} (hr : Rl y.d y P Q U V) : ∀ (L : List Int) {x : Nu}, Cz L y x →
    Rl y.d x ((mm L).1 * P + (mm L).2.1 * U) ((mm L).1 * Q + (mm L).2.1 * V) ((mm L).2.2.1 * P + (mm L).2.2.2 * U) ((mm L).2.2.1 * Q + (mm L).2.2.2 * V)
  | [], x, h => by
    have h : x = y := h
    rw [h]
    simpa [mm] using hr
  | q :: L, x, ⟨x1, k, _, _, e, h⟩ => by
    have := rl_up k (cz_d hy L h) (rl_cz hy hr L h) q
    rw [e]
    simp only [mm]
    have e1 : ∀ a b c e P U : Int, (q * a + c) * P + (q * b + e) * U = q * (a * P + b * U) + (c * P + e * U) := fun a b c e P U => by grind
    rw [e1, e1]
    exact this
theorem rl_eq {d : Int} (hd : Dr d) {x y : Nu} {P Q U V : Int} (hx : Rl d x P Q U V) (hy : Rl d y P Q U V) (hV : V ≠ 0) (cx : Cnl x) (cy : Cnl y) (e : x.d = y.d) : x = y := by
  obtain ⟨h1, h2⟩ := hx
  obtain ⟨h3, h4⟩ := hy
  have nn : U * U - V * V * d ≠ 0 := fun z => hV (hd.2.2 U V (by omega)).2
  have k1 : (y.s * x.p - x.s * y.p) * U + (y.s * x.q - x.s * y.q) * V * d = 0 := by
    have : (y.s * x.p - x.s * y.p) * U + (y.s * x.q - x.s * y.q) * V * d = y.s * (x.p * U + x.q * V * d) - x.s * (y.p * U + y.q * V * d) := by grind
    rw [this, ← h1, ← h3]; grind
  have k2 : (y.s * x.p - x.s * y.p) * V + (y.s * x.q - x.s * y.q) * U = 0 := by
    have : (y.s * x.p - x.s * y.p) * V + (y.s * x.q - x.s * y.q) * U = y.s * (x.p * V + x.q * U) - x.s * (y.p * V + y.q * U) := by grind
    rw [this, ← h2, ← h4]; grind
  have u0 : y.s * x.p - x.s * y.p = 0 := by
    have : (y.s * x.p - x.s * y.p) * (U * U - V * V * d) = 0 := by
      have : (y.s * x.p - x.s * y.p) * (U * U - V * V * d) = ((y.s * x.p - x.s * y.p) * U + (y.s * x.q - x.s * y.q) * V * d) * U - ((y.s * x.p - x.s * y.p) * V + (y.s * x.q - x.s * y.q) * U) * V * d := by grind
      rw [this, k1, k2]; simp
    rcases Int.mul_eq_zero.mp this with z | z
    · exact z
    · exact absurd z nn
  have w0 : y.s * x.q - x.s * y.q = 0 := by
    have : (y.s * x.q - x.s * y.q) * (U * U - V * V * d) = 0 := by
      have : (y.s * x.q - x.s * y.q) * (U * U - V * V * d) = ((y.s * x.p - x.s * y.p) * V + (y.s * x.q - x.s * y.q) * U) * U - ((y.s * x.p - x.s * y.p) * U + (y.s * x.q - x.s * y.q) * V * d) * V := by grind
      rw [this, k1, k2]; simp
    rcases Int.mul_eq_zero.mp this with z | z
    · exact z
    · exact absurd z nn
  rw [← cnl_eq cx, ← cnl_eq cy]
  have := cx.1
  have := cy.1
  refine low_eq (by omega) (by omega) ?_ ?_ fun _ => e
  · have a1 := Int.mul_comm y.s x.p
    have a2 := Int.mul_comm x.s y.p
    omega
  · have a1 := Int.mul_comm y.s x.q
    have a2 := Int.mul_comm x.s y.q
    omega
end KK

set_option maxHeartbeats 2000000
namespace KK
open PySem PySem.Spec L2 DL
theorem fdiv_ex {v k : Int} (hv : 0 < v) : (v * k).fdiv v = k := Int.mul_fdiv_cancel_left k (by omega)
theorem period_ok {g : List Int} (hg : g ≠ []) (hl : g.length ≤ 4) (hq : ∀ q ∈ g, 1 ≤ q ∧ q ≤ 20) :
    ∃ y, numY g y ∧ Dr y.d ∧ sqfree y.d ∧ y.q ≠ 0 ∧ Fm 1048576 y ∧ 0 ≤ sgv y KQ (KQ + 1) ∧ sgv y 1 KQ ≤ 0 ∧ Cz g y y := by
  obtain ⟨i, h2⟩ := mm_ok g hq
  obtain ⟨hb1, hc1, hs1⟩ := h2 hg
  have hm : mat g (1, 0, 0, 1) = ((mm g).1, (mm g).2.1, (mm g).2.2.1, (mm g).2.2.2) := by
    rw [mat_mm]
    refine Prod.ext ?_ (Prod.ext ?_ (Prod.ext ?_ ?_)) <;> (dsimp only; omega)
  have hns := nonsq i hb1 hc1
  have RL := @rl_cz
  have M : (21 : Int) ^ g.length ≤ 194481 := by
    have : ((21 ^ g.length : Nat) : Int) ≤ ((21 ^ 4 : Nat) : Int) := by exact_mod_cast Nat.pow_le_pow_right (by decide) hl
    simpa using this
  obtain ⟨ia, ib, ic, ie, is, id', ia', ib', ic', ie'⟩ := i
  obtain ⟨a, ha⟩ : ∃ a, a = (mm g).1 := ⟨_, rfl⟩
  obtain ⟨b, hb⟩ : ∃ b, b = (mm g).2.1 := ⟨_, rfl⟩
  obtain ⟨c, hc⟩ : ∃ c, c = (mm g).2.2.1 := ⟨_, rfl⟩
  obtain ⟨e, he⟩ : ∃ e, e = (mm g).2.2.2 := ⟨_, rfl⟩
  have hcz : ∀ {y : Nu}, y.q ≠ 0 → ∀ {P Q U V : Int}, Rl y.d y P Q U V → ∀ {x : Nu}, Cz g y x → Rl y.d x (a * P + b * U) (a * Q + b * V) (c * P + e * U) (c * Q + e * V) := by
    intro y hy P Q U V hr x hx
    rw [ha, hb, hc, he]
    exact rl_cz hy hr g hx
  rw [← ha, ← hb, ← hc, ← he] at hm
  rw [← ha] at ia ia' hns hs1
  rw [← hb] at ib ib' hb1 hns hs1
  rw [← hc] at ic ic' hc1 hns hs1
  rw [← he] at ie ie' hns hs1
  have a1 : a ≤ 194481 := Int.le_trans ia' M
  have b1 : b ≤ 194481 := Int.le_trans ib' M
  have c1 : c ≤ 194481 := Int.le_trans ic' M
  have e1 : e ≤ 194481 := Int.le_trans ie' M
  clear ha hb hc he ia' ib' ic' ie' M is id' RL
  -- the greatest common divisor
  obtain ⟨v, hv⟩ : ∃ v : Int, v = Int.gcd (Int.gcd c (a - e)) b := ⟨_, rfl⟩
  have v0 : 0 < v := by
    rw [hv]
    have : (Int.gcd (Int.gcd c (a - e)) b : Nat) ≠ 0 := fun z => by
      rw [Int.gcd_eq_zero_iff] at z
      omega
    omega
  have dv : v ∣ ((Int.gcd c (a - e) : Nat) : Int) := by rw [hv]; exact Int.gcd_dvd_left _ _
  obtain ⟨b', hb'⟩ : v ∣ b := by rw [hv]; exact Int.gcd_dvd_right _ _
  obtain ⟨c', hc'⟩ : v ∣ c := Int.dvd_trans dv (Int.gcd_dvd_left _ _)
  obtain ⟨e', he'⟩ : v ∣ a - e := Int.dvd_trans dv (Int.gcd_dvd_right _ _)
  have c0' : 1 ≤ c' := by
    rcases Int.lt_or_le c' 1 with z | z
    · have := Int.mul_nonpos_of_nonneg_of_nonpos (show 0 ≤ v by omega) (show c' ≤ 0 by omega)
      omega
    · exact z
  have b0' : 1 ≤ b' := by
    rcases Int.lt_or_le b' 1 with z | z
    · have := Int.mul_nonpos_of_nonneg_of_nonpos (show 0 ≤ v by omega) (show b' ≤ 0 by omega)
      omega
    · exact z
  have le : ∀ {t t' : Int}, t = v * t' → t'.natAbs ≤ t.natAbs := fun {t t'} h => by
    rw [h, Int.natAbs_mul]
    exact Nat.le_mul_of_pos_left _ (by omega)
  have lb := le hb'
  have lc := le hc'
  have le' := le he'
  have vv : 1 ≤ v * v := by have := Int.mul_pos v0 v0; omega
  have bc' : 1 ≤ b' * c' := by have := Int.mul_pos (show 0 < b' by omega) (show 0 < c' by omega); omega
  have D0 : 0 < e' * e' + 4 * b' * c' := by
    have := sq_nn e'
    have : 4 * b' * c' = 4 * (b' * c') := by grind
    omega
  have eD : (a - e) * (a - e) + 4 * b * c = v * v * (e' * e' + 4 * b' * c') := by rw [he', hb', hc']; grind
  have D1 : e' * e' + 4 * b' * c' ≤ 194481 * 194481 + 4 * (194481 * 194481) := by
    have x1 := sq_nat (i := e') (m := 194481) (by omega)
    have x2 := Int.mul_le_mul (show b' ≤ 194481 by omega) (show c' ≤ 194481 by omega) (by omega) (by omega)
    have : 4 * b' * c' = 4 * (b' * c') := by grind
    omega
  obtain ⟨F, r, F0, r0, eF, sq⟩ := sq_ex _ _ D0 (Nat.le_refl _)
  have irr : Irr r := fun P Q h => by
    rw [eD, ← eF] at hns
    obtain ⟨z1, z2⟩ := hns (P * (F * v)) Q (by
      have : P * (F * v) * (P * (F * v)) = P * P * (F * v * (F * v)) := by grind
      rw [this, h]; grind)
    rcases Int.mul_eq_zero.mp z1 with z | z
    · exact ⟨z, z2⟩
    · exact absurd z (Int.mul_ne_zero (by omega) (by omega))
  have FF : 1 ≤ F * F := by have := Int.mul_pos F0 F0; omega
  have r1 : r ≤ e' * e' + 4 * b' * c' := by
    rw [← eF]
    have := Int.mul_le_mul_of_nonneg_right FF (show 0 ≤ r by omega)
    omega
  have F1 : F * F ≤ e' * e' + 4 * b' * c' := by
    rw [← eF]
    have := Int.mul_le_mul_of_nonneg_left (show 1 ≤ r by omega) (show 0 ≤ F * F by omega)
    omega
  have F2 : F < 1048576 := by
    rcases Int.lt_or_le F 1048576 with z | z
    · exact z
    · have := Int.mul_le_mul z z (by decide) (by omega)
      omega
  have dr : Dr r := ⟨r0, by unfold Bd; omega, irr⟩
  have S0 : 2 * c' ≠ 0 := by omega
  obtain ⟨y, hy⟩ : ∃ y, y = low e' F r (2 * c') := ⟨_, rfl⟩
  have yq : y.q ≠ 0 := fun z => by
    rw [hy, low_q S0] at z
    omega
  have yd : y.d = r := by
    have := low_dd (p := e') (q := F) (d := r) S0
    rw [← hy, if_neg yq] at this
    exact this
  have fm : Fm 1048576 y := ⟨r, c', -e', -b', F, dr, by omega, by rw [hy, Int.neg_neg], by rw [eF]; grind, by omega, by omega, by omega, by omega⟩
  have lo : 0 ≤ sgv y KQ (KQ + 1) := by
    rw [hy, sgv_low (by omega) (by omega) dr]
    refine sos_ge0 dr (Int.mul_nonneg (by have := KQ1; omega) (by omega)) (.inl ?_)
    have x1 : KQ * F * (KQ * F) * r = KQ * KQ * (F * F * r) := by grind
    rw [x1, eF]
    have x2 : KQ * KQ * (e' * e' + 4 * b' * c') - (KQ * e' - (KQ + 1) * (2 * c')) * (KQ * e' - (KQ + 1) * (2 * c')) = 4 * c' * (KQ * KQ * b' + KQ * (KQ + 1) * e' - (KQ + 1) * (KQ + 1) * c') := by grind
    have x3 : 0 ≤ KQ * KQ * b' + KQ * (KQ + 1) * e' - (KQ + 1) * (KQ + 1) * c' := by
      have y1 : v * (KQ * KQ * b' + KQ * (KQ + 1) * e' - (KQ + 1) * (KQ + 1) * c') = KQ * KQ * b + KQ * (KQ + 1) * (a - e) - (KQ + 1) * (KQ + 1) * c := by rw [hb', hc', he']; grind
      have y2 : 0 ≤ KQ * KQ * b + KQ * (KQ + 1) * (a - e) - (KQ + 1) * (KQ + 1) * c := by unfold KQ; omega
      rcases Int.lt_or_le (KQ * KQ * b' + KQ * (KQ + 1) * e' - (KQ + 1) * (KQ + 1) * c') 0 with z | z
      · have := Int.mul_neg_of_pos_of_neg v0 z
        omega
      · exact z
    have x4 := Int.mul_nonneg (show 0 ≤ 4 * c' by omega) x3
    omega
  have hi : sgv y 1 KQ ≤ 0 := by
    rw [hy, sgv_low (by omega) (by omega) dr]
    have x0 : 0 ≤ sos (2 * KQ * c' - e') (-F) r := by
      refine sos_ge dr.1 dr.2.2 (by unfold KQ; omega) ?_
      rw [eF]
      have x2 : (2 * KQ * c' - e') * (2 * KQ * c' - e') - (e' * e' + 4 * b' * c') = 4 * c' * (KQ * KQ * c' - KQ * e' - b') := by grind
      have x3 : 0 ≤ KQ * KQ * c' - KQ * e' - b' := by unfold KQ; omega
      have x4 := Int.mul_nonneg (show 0 ≤ 4 * c' by omega) x3
      omega
    have x5 := sos_ng (2 * KQ * c' - e') (-F) r
    rw [show -(2 * KQ * c' - e') = 1 * e' - KQ * (2 * c') by grind, show - -F = 1 * F by omega] at x5
    omega
  refine ⟨y, ?_, yd ▸ dr, yd ▸ sq, yq, fm, lo, hi, ?_⟩
  · unfold numY
    rw [hm]
    dsimp only
    rw [← hv]
    have x1 : b.fdiv v = b' := by rw [hb']; exact fdiv_ex v0
    have x2 : c.fdiv v = c' := by rw [hc']; exact fdiv_ex v0
    have x3 : (a - e).fdiv v = e' := by rw [he']; exact fdiv_ex v0
    rw [x1, x2, x3, yd]
    exact ⟨by omega, by omega, F, F0, eF, hy.symm⟩
  · obtain ⟨x, hx, _⟩ := cz_up fm lo hi g (fun q h => by have := hq q h; omega) (Nat.lt_of_le_of_lt (Nat.mul_le_mul_left _ (Nat.pow_le_pow_right (by decide) hl)) (show 1048576 * RQ ^ 4 < 2 ^ 4960 by decide +kernel))
    obtain ⟨k, hk, k1, k2, k3, k4⟩ := low_spec (p := e') (q := F) r S0
    rw [← hy] at k1 k2 k3 k4
    have ry : Rl y.d y e' F (2 * c') 0 := ⟨by rw [k3]; rw [k1]; grind, by rw [k3, k2]; grind⟩
    have rx := hcz yq ry hx
    have ryy : Rl y.d y (a * e' + b * (2 * c')) (a * F + b * 0) (c * e' + e * (2 * c')) (c * F + e * 0) := by
      constructor
      · refine Int.eq_of_mul_eq_mul_left hk ?_
        have z1 : k * (y.s * (a * e' + b * (2 * c'))) = (k * y.s) * (a * e' + b * (2 * c')) := by grind
        have z2 : k * (y.p * (c * e' + e * (2 * c')) + y.q * (c * F + e * 0) * y.d) = (k * y.p) * (c * e' + e * (2 * c')) + (k * y.q) * (c * F) * y.d := by grind
        rw [z1, z2, ← k1, ← k2, ← k3, yd]
        have z3 : F * (c * F) * r = c * (F * F * r) := by grind
        rw [z3, eF]
        have z4 : a = v * e' + e := by omega
        rw [z4, hb', hc']
        grind
      · refine Int.eq_of_mul_eq_mul_left hk ?_
        have z1 : k * (y.s * (a * F + b * 0)) = (k * y.s) * (a * F) := by grind
        have z2 : k * (y.p * (c * F + e * 0) + y.q * (c * e' + e * (2 * c'))) = (k * y.p) * (c * F) + (k * y.q) * (c * e' + e * (2 * c')) := by grind
        rw [z1, z2, ← k1, ← k2, ← k3]
        have z4 : a = v * e' + e := by omega
        rw [z4, hc']
        grind
    have cx : Cnl x := by
      rcases g with _ | ⟨q, L⟩
      · exact absurd rfl hg
      · obtain ⟨x1, kx, _, _, e2, _⟩ := hx
        rw [e2]
        exact kx.gdi.2.1.shf q
    have exy : x = y := rl_eq (d := y.d) (yd ▸ dr) rx ryy (by
      rw [Int.mul_zero, Int.add_zero]
      exact Int.mul_ne_zero (by omega) (by omega)) cx fm.cnl (cz_d yq g hx)
    rw [exy] at hx
    exact hx
end KK

set_option maxHeartbeats 1000000
namespace KK
open PySem PySem.Spec PyProof.Rows L2 DL
theorem pure_lowest (α : List SD) (QD : Ret → List SD → Prop) (ED : Exd → List SD → Prop) (W : WD) (hW : W = fun e ρ => outK α ρ fun α' => ED e α') (h : p_lowest α QD ED) : r_lowest W (DEnd α QD) (startD n_lowest.length α) := by
  obtain ⟨p, q, d, s, rfl, hs, hB, hq⟩ := h
  unfold r_lowest DEnd
  have g0 := gc_pos (p := p) (q := q) hs
  have gB : CDivF 0 (gc p q s) := ⟨by omega, hB.log (by omega)⟩
  have cd : ∀ x, CDivF x (gc p q s) := fun _ => gB
  have lq := low_q (p := p) (q := q) (d := d) hs
  by_cases h0 : s < 0
  · have e : gc (-p) (-q) (-s) = gc p q s := by unfold gc; rw [Int.natAbs_neg, Int.natAbs_neg, Int.natAbs_neg]
    have sg' : sg s = -1 := by unfold sg; rw [if_pos h0]
    have e3 : low p q d s = ⟨-p / gc p q s, -q / gc p q s, if q = 0 then 0 else d, -s / gc p q s⟩ := by unfold low; rw [sg']; simp [sSeq, sIf, sNext, sSet, sAug, sRet, sPar, sPar3, asThree, sRaise, sAsg, sOwn, sApp, sPut, sRetN, sRetOwn, sRetU, sDrop, sBreak, sCont, dVar, dC, dOp, dTest, dCons, dNil, dTup, nLst, dNew, dNeg, dIf, dF1, dAnd, dOr, dNot, dAndV, dOrV, dNotV, dCall, nCall, dCallL, nCallL, withLent, withLentN, vw, frz, dI, dI0, dB0, int2, dEq, dNe, dAdd, dSub, dIAdd, atD, gName', gTup', gNil', gCons', gLst', lenIs, retD, retN, lendK, backK, isLent, ownK, fAbs, fLen, fMax, fMin, startD, outK, shp_int, eqv_int, dIsD, dIsX, dIsNone, dM1, isL, fCount, fIndex, dEqS, dIs, fRepr, atI, ixN, fReprW]
    rw [e3] at hq lq
    simp [sSeq, sIf, sNext, sSet, sAug, sRet, sPar, sPar3, asThree, sRaise, sAsg, sOwn, sApp, sPut, sRetN, sRetOwn, sRetU, sDrop, sBreak, sCont, dVar, dC, dOp, dTest, dCons, dNil, dTup, nLst, dNew, dNeg, dIf, dF1, dAnd, dOr, dNot, dAndV, dOrV, dNotV, dCall, nCall, dCallL, nCallL, withLent, withLentN, vw, frz, dI, dI0, dB0, int2, dEq, dNe, dAdd, dSub, dIAdd, atD, gName', gTup', gNil', gCons', gLst', lenIs, retD, retN, lendK, backK, isLent, ownK, fAbs, fLen, fMax, fMin, startD, outK, shp_int, eqv_int, dIsD, dIsX, dIsNone, dM1, isL, fCount, fIndex, dEqS, dIs, fRepr, atI, ixN, fReprW, h0, n_lowest]
    refine ⟨-p, -q, rfl, _, -s, rfl, ?_⟩
    rw [gc_int, e]
    simp [sSeq, sIf, sNext, sSet, sAug, sRet, sPar, sPar3, asThree, sRaise, sAsg, sOwn, sApp, sPut, sRetN, sRetOwn, sRetU, sDrop, sBreak, sCont, dVar, dC, dOp, dTest, dCons, dNil, dTup, nLst, dNew, dNeg, dIf, dF1, dAnd, dOr, dNot, dAndV, dOrV, dNotV, dCall, nCall, dCallL, nCallL, withLent, withLentN, vw, frz, dI, dI0, dB0, int2, dEq, dNe, dAdd, dSub, dIAdd, atD, gName', gTup', gNil', gCons', gLst', lenIs, retD, retN, lendK, backK, isLent, ownK, fAbs, fLen, fMax, fMin, startD, outK, shp_int, eqv_int, dIsD, dIsX, dIsNone, dM1, isL, fCount, fIndex, dEqS, dIs, fRepr, atI, ixN, fReprW, cd]
    rw [fd_pos g0, fd_pos g0, fd_pos g0]
    have lq : -q / gc p q s = 0 ↔ q = 0 := lq
    by_cases hz : q = 0
    · have := lq.mpr hz
      subst hz
      simp [sSeq, sIf, sNext, sSet, sAug, sRet, sPar, sPar3, asThree, sRaise, sAsg, sOwn, sApp, sPut, sRetN, sRetOwn, sRetU, sDrop, sBreak, sCont, dVar, dC, dOp, dTest, dCons, dNil, dTup, nLst, dNew, dNeg, dIf, dF1, dAnd, dOr, dNot, dAndV, dOrV, dNotV, dCall, nCall, dCallL, nCallL, withLent, withLentN, vw, frz, dI, dI0, dB0, int2, dEq, dNe, dAdd, dSub, dIAdd, atD, gName', gTup', gNil', gCons', gLst', lenIs, retD, retN, lendK, backK, isLent, ownK, fAbs, fLen, fMax, fMin, startD, outK, shp_int, eqv_int, dIsD, dIsX, dIsNone, dM1, isL, fCount, fIndex, dEqS, dIs, fRepr, atI, ixN, fReprW] at hq ⊢
      exact ⟨by decide, hq⟩
    · have : ¬ (-q / gc p q s = 0) := fun z => hz (lq.mp z)
      simp [sSeq, sIf, sNext, sSet, sAug, sRet, sPar, sPar3, asThree, sRaise, sAsg, sOwn, sApp, sPut, sRetN, sRetOwn, sRetU, sDrop, sBreak, sCont, dVar, dC, dOp, dTest, dCons, dNil, dTup, nLst, dNew, dNeg, dIf, dF1, dAnd, dOr, dNot, dAndV, dOrV, dNotV, dCall, nCall, dCallL, nCallL, withLent, withLentN, vw, frz, dI, dI0, dB0, int2, dEq, dNe, dAdd, dSub, dIAdd, atD, gName', gTup', gNil', gCons', gLst', lenIs, retD, retN, lendK, backK, isLent, ownK, fAbs, fLen, fMax, fMin, startD, outK, shp_int, eqv_int, dIsD, dIsX, dIsNone, dM1, isL, fCount, fIndex, dEqS, dIs, fRepr, atI, ixN, fReprW, hz] at hq
      simp [sSeq, sIf, sNext, sSet, sAug, sRet, sPar, sPar3, asThree, sRaise, sAsg, sOwn, sApp, sPut, sRetN, sRetOwn, sRetU, sDrop, sBreak, sCont, dVar, dC, dOp, dTest, dCons, dNil, dTup, nLst, dNew, dNeg, dIf, dF1, dAnd, dOr, dNot, dAndV, dOrV, dNotV, dCall, nCall, dCallL, nCallL, withLent, withLentN, vw, frz, dI, dI0, dB0, int2, dEq, dNe, dAdd, dSub, dIAdd, atD, gName', gTup', gNil', gCons', gLst', lenIs, retD, retN, lendK, backK, isLent, ownK, fAbs, fLen, fMax, fMin, startD, outK, shp_int, eqv_int, dIsD, dIsX, dIsNone, dM1, isL, fCount, fIndex, dEqS, dIs, fRepr, atI, ixN, fReprW, this]
      exact ⟨by decide, hq⟩
  · have sg' : sg s = 1 := by unfold sg; rw [if_neg h0]
    have e3 : low p q d s = ⟨p / gc p q s, q / gc p q s, if q = 0 then 0 else d, s / gc p q s⟩ := by unfold low; rw [sg']; simp [sSeq, sIf, sNext, sSet, sAug, sRet, sPar, sPar3, asThree, sRaise, sAsg, sOwn, sApp, sPut, sRetN, sRetOwn, sRetU, sDrop, sBreak, sCont, dVar, dC, dOp, dTest, dCons, dNil, dTup, nLst, dNew, dNeg, dIf, dF1, dAnd, dOr, dNot, dAndV, dOrV, dNotV, dCall, nCall, dCallL, nCallL, withLent, withLentN, vw, frz, dI, dI0, dB0, int2, dEq, dNe, dAdd, dSub, dIAdd, atD, gName', gTup', gNil', gCons', gLst', lenIs, retD, retN, lendK, backK, isLent, ownK, fAbs, fLen, fMax, fMin, startD, outK, shp_int, eqv_int, dIsD, dIsX, dIsNone, dM1, isL, fCount, fIndex, dEqS, dIs, fRepr, atI, ixN, fReprW]
    rw [e3] at hq lq
    simp [sSeq, sIf, sNext, sSet, sAug, sRet, sPar, sPar3, asThree, sRaise, sAsg, sOwn, sApp, sPut, sRetN, sRetOwn, sRetU, sDrop, sBreak, sCont, dVar, dC, dOp, dTest, dCons, dNil, dTup, nLst, dNew, dNeg, dIf, dF1, dAnd, dOr, dNot, dAndV, dOrV, dNotV, dCall, nCall, dCallL, nCallL, withLent, withLentN, vw, frz, dI, dI0, dB0, int2, dEq, dNe, dAdd, dSub, dIAdd, atD, gName', gTup', gNil', gCons', gLst', lenIs, retD, retN, lendK, backK, isLent, ownK, fAbs, fLen, fMax, fMin, startD, outK, shp_int, eqv_int, dIsD, dIsX, dIsNone, dM1, isL, fCount, fIndex, dEqS, dIs, fRepr, atI, ixN, fReprW, h0, n_lowest]
    refine ⟨p, q, rfl, _, s, rfl, ?_⟩
    rw [gc_int]
    simp [sSeq, sIf, sNext, sSet, sAug, sRet, sPar, sPar3, asThree, sRaise, sAsg, sOwn, sApp, sPut, sRetN, sRetOwn, sRetU, sDrop, sBreak, sCont, dVar, dC, dOp, dTest, dCons, dNil, dTup, nLst, dNew, dNeg, dIf, dF1, dAnd, dOr, dNot, dAndV, dOrV, dNotV, dCall, nCall, dCallL, nCallL, withLent, withLentN, vw, frz, dI, dI0, dB0, int2, dEq, dNe, dAdd, dSub, dIAdd, atD, gName', gTup', gNil', gCons', gLst', lenIs, retD, retN, lendK, backK, isLent, ownK, fAbs, fLen, fMax, fMin, startD, outK, shp_int, eqv_int, dIsD, dIsX, dIsNone, dM1, isL, fCount, fIndex, dEqS, dIs, fRepr, atI, ixN, fReprW, cd]
    rw [fd_pos g0, fd_pos g0, fd_pos g0]
    have lq : q / gc p q s = 0 ↔ q = 0 := lq
    by_cases hz : q = 0
    · subst hz
      simp [sSeq, sIf, sNext, sSet, sAug, sRet, sPar, sPar3, asThree, sRaise, sAsg, sOwn, sApp, sPut, sRetN, sRetOwn, sRetU, sDrop, sBreak, sCont, dVar, dC, dOp, dTest, dCons, dNil, dTup, nLst, dNew, dNeg, dIf, dF1, dAnd, dOr, dNot, dAndV, dOrV, dNotV, dCall, nCall, dCallL, nCallL, withLent, withLentN, vw, frz, dI, dI0, dB0, int2, dEq, dNe, dAdd, dSub, dIAdd, atD, gName', gTup', gNil', gCons', gLst', lenIs, retD, retN, lendK, backK, isLent, ownK, fAbs, fLen, fMax, fMin, startD, outK, shp_int, eqv_int, dIsD, dIsX, dIsNone, dM1, isL, fCount, fIndex, dEqS, dIs, fRepr, atI, ixN, fReprW] at hq ⊢
      exact ⟨by decide, hq⟩
    · have : ¬ (q / gc p q s = 0) := fun z => hz (lq.mp z)
      simp [sSeq, sIf, sNext, sSet, sAug, sRet, sPar, sPar3, asThree, sRaise, sAsg, sOwn, sApp, sPut, sRetN, sRetOwn, sRetU, sDrop, sBreak, sCont, dVar, dC, dOp, dTest, dCons, dNil, dTup, nLst, dNew, dNeg, dIf, dF1, dAnd, dOr, dNot, dAndV, dOrV, dNotV, dCall, nCall, dCallL, nCallL, withLent, withLentN, vw, frz, dI, dI0, dB0, int2, dEq, dNe, dAdd, dSub, dIAdd, atD, gName', gTup', gNil', gCons', gLst', lenIs, retD, retN, lendK, backK, isLent, ownK, fAbs, fLen, fMax, fMin, startD, outK, shp_int, eqv_int, dIsD, dIsX, dIsNone, dM1, isL, fCount, fIndex, dEqS, dIs, fRepr, atI, ixN, fReprW, hz] at hq
      simp [sSeq, sIf, sNext, sSet, sAug, sRet, sPar, sPar3, asThree, sRaise, sAsg, sOwn, sApp, sPut, sRetN, sRetOwn, sRetU, sDrop, sBreak, sCont, dVar, dC, dOp, dTest, dCons, dNil, dTup, nLst, dNew, dNeg, dIf, dF1, dAnd, dOr, dNot, dAndV, dOrV, dNotV, dCall, nCall, dCallL, nCallL, withLent, withLentN, vw, frz, dI, dI0, dB0, int2, dEq, dNe, dAdd, dSub, dIAdd, atD, gName', gTup', gNil', gCons', gLst', lenIs, retD, retN, lendK, backK, isLent, ownK, fAbs, fLen, fMax, fMin, startD, outK, shp_int, eqv_int, dIsD, dIsX, dIsNone, dM1, isL, fCount, fIndex, dEqS, dIs, fRepr, atI, ixN, fReprW, this]
      exact ⟨by decide, hq⟩
theorem pure_number {k_InvalidNumber : Addr} (α : List SD) (QD : Ret → List SD → Prop) (ED : Exd → List SD → Prop) (W : WD) (hW : W = fun e ρ => outK α ρ fun α' => ED e α') (h : p_number k_InvalidNumber α QD ED) : r_number W k_InvalidNumber (DEnd α QD) (startD n_number.length α) := by
  obtain ⟨p, q, d, s, rfl, hBq, hBd, hBs, hE, hq⟩ := h
  unfold r_number DEnd
  by_cases hc : s = 0 ∨ d < 0
  · have hE := hE hc
    have go : W ⟨k_InvalidNumber, []⟩ [iv p, iv q, iv d, iv s, .no, .no] := by rw [hW]; exact hE
    by_cases h0 : s = 0
    · simp [sSeq, sIf, sNext, sSet, sAug, sRet, sPar, sPar3, asThree, sRaise, sAsg, sOwn, sApp, sPut, sRetN, sRetOwn, sRetU, sDrop, sBreak, sCont, dVar, dC, dOp, dTest, dCons, dNil, dTup, nLst, dNew, dNeg, dIf, dF1, dAnd, dOr, dNot, dAndV, dOrV, dNotV, dCall, nCall, dCallL, nCallL, withLent, withLentN, vw, frz, dI, dI0, dB0, int2, dEq, dNe, dAdd, dSub, dIAdd, atD, gName', gTup', gNil', gCons', gLst', lenIs, retD, retN, lendK, backK, isLent, ownK, fAbs, fLen, fMax, fMin, startD, outK, shp_int, eqv_int, dIsD, dIsX, dIsNone, dM1, isL, fCount, fIndex, dEqS, dIs, fRepr, atI, ixN, fReprW, h0, n_number] at go ⊢
      exact go
    · have h1 : d < 0 := by rcases hc with h | h; exact absurd h h0; exact h
      simp [sSeq, sIf, sNext, sSet, sAug, sRet, sPar, sPar3, asThree, sRaise, sAsg, sOwn, sApp, sPut, sRetN, sRetOwn, sRetU, sDrop, sBreak, sCont, dVar, dC, dOp, dTest, dCons, dNil, dTup, nLst, dNew, dNeg, dIf, dF1, dAnd, dOr, dNot, dAndV, dOrV, dNotV, dCall, nCall, dCallL, nCallL, withLent, withLentN, vw, frz, dI, dI0, dB0, int2, dEq, dNe, dAdd, dSub, dIAdd, atD, gName', gTup', gNil', gCons', gLst', lenIs, retD, retN, lendK, backK, isLent, ownK, fAbs, fLen, fMax, fMin, startD, outK, shp_int, eqv_int, dIsD, dIsX, dIsNone, dM1, isL, fCount, fIndex, dEqS, dIs, fRepr, atI, ixN, fReprW, h0, h1, n_number]
      exact go
  · have hq := hq hc
    have hs : s ≠ 0 := fun z => hc (.inl z)
    have hd : 0 ≤ d := by
      rcases Int.lt_or_le d 0 with z | z
      · exact absurd (.inr z) hc
      · exact z
    simp [sSeq, sIf, sNext, sSet, sAug, sRet, sPar, sPar3, asThree, sRaise, sAsg, sOwn, sApp, sPut, sRetN, sRetOwn, sRetU, sDrop, sBreak, sCont, dVar, dC, dOp, dTest, dCons, dNil, dTup, nLst, dNew, dNeg, dIf, dF1, dAnd, dOr, dNot, dAndV, dOrV, dNotV, dCall, nCall, dCallL, nCallL, withLent, withLentN, vw, frz, dI, dI0, dB0, int2, dEq, dNe, dAdd, dSub, dIAdd, atD, gName', gTup', gNil', gCons', gLst', lenIs, retD, retN, lendK, backK, isLent, ownK, fAbs, fLen, fMax, fMin, startD, outK, shp_int, eqv_int, dIsD, dIsX, dIsNone, dM1, isL, fCount, fIndex, dEqS, dIs, fRepr, atI, ixN, fReprW, hs, show ¬ d < 0 by omega, n_number]
    by_cases h0 : 0 < d
    · simp [sSeq, sIf, sNext, sSet, sAug, sRet, sPar, sPar3, asThree, sRaise, sAsg, sOwn, sApp, sPut, sRetN, sRetOwn, sRetU, sDrop, sBreak, sCont, dVar, dC, dOp, dTest, dCons, dNil, dTup, nLst, dNew, dNeg, dIf, dF1, dAnd, dOr, dNot, dAndV, dOrV, dNotV, dCall, nCall, dCallL, nCallL, withLent, withLentN, vw, frz, dI, dI0, dB0, int2, dEq, dNe, dAdd, dSub, dIAdd, atD, gName', gTup', gNil', gCons', gLst', lenIs, retD, retN, lendK, backK, isLent, ownK, fAbs, fLen, fMax, fMin, startD, outK, shp_int, eqv_int, dIsD, dIsX, dIsNone, dM1, isL, fCount, fIndex, dEqS, dIs, fRepr, atI, ixN, fReprW, h0]
      refine ⟨d, ⟨rfl, h0, hBd, ?_⟩⟩
      intro f r f0 r0 e sq
      have key := hq f r (.inr ⟨h0, f0, r0, e, sq⟩)
      have fB : Bd 4000 f := by
        refine hBd.of (by omega) ?_
        have h1 := Int.mul_le_mul_of_nonneg_left (show 1 ≤ f by omega) (show 0 ≤ f by omega)
        have h2 := Int.mul_le_mul_of_nonneg_left (show 1 ≤ r by omega) (show 0 ≤ f * f by have := Int.mul_pos f0 f0; omega)
        omega
      unfold numF at key
      simp [sSeq, sIf, sNext, sSet, sAug, sRet, sPar, sPar3, asThree, sRaise, sAsg, sOwn, sApp, sPut, sRetN, sRetOwn, sRetU, sDrop, sBreak, sCont, dVar, dC, dOp, dTest, dCons, dNil, dTup, nLst, dNew, dNeg, dIf, dF1, dAnd, dOr, dNot, dAndV, dOrV, dNotV, dCall, nCall, dCallL, nCallL, withLent, withLentN, vw, frz, dI, dI0, dB0, int2, dEq, dNe, dAdd, dSub, dIAdd, atD, gName', gTup', gNil', gCons', gLst', lenIs, retD, retN, lendK, backK, isLent, ownK, fAbs, fLen, fMax, fMin, startD, outK, shp_int, eqv_int, dIsD, dIsX, dIsNone, dM1, isL, fCount, fIndex, dEqS, dIs, fRepr, atI, ixN, fReprW]
      by_cases hr : r < 2
      · simp [sSeq, sIf, sNext, sSet, sAug, sRet, sPar, sPar3, asThree, sRaise, sAsg, sOwn, sApp, sPut, sRetN, sRetOwn, sRetU, sDrop, sBreak, sCont, dVar, dC, dOp, dTest, dCons, dNil, dTup, nLst, dNew, dNeg, dIf, dF1, dAnd, dOr, dNot, dAndV, dOrV, dNotV, dCall, nCall, dCallL, nCallL, withLent, withLentN, vw, frz, dI, dI0, dB0, int2, dEq, dNe, dAdd, dSub, dIAdd, atD, gName', gTup', gNil', gCons', gLst', lenIs, retD, retN, lendK, backK, isLent, ownK, fAbs, fLen, fMax, fMin, startD, outK, shp_int, eqv_int, dIsD, dIsX, dIsNone, dM1, isL, fCount, fIndex, dEqS, dIs, fRepr, atI, ixN, fReprW, hr] at key ⊢
        exact ⟨hBq.cm fB (by omega), p + q * f, 0, 0, s, rfl, hs, gc_bd hs hBs, key⟩
      · simp [sSeq, sIf, sNext, sSet, sAug, sRet, sPar, sPar3, asThree, sRaise, sAsg, sOwn, sApp, sPut, sRetN, sRetOwn, sRetU, sDrop, sBreak, sCont, dVar, dC, dOp, dTest, dCons, dNil, dTup, nLst, dNew, dNeg, dIf, dF1, dAnd, dOr, dNot, dAndV, dOrV, dNotV, dCall, nCall, dCallL, nCallL, withLent, withLentN, vw, frz, dI, dI0, dB0, int2, dEq, dNe, dAdd, dSub, dIAdd, atD, gName', gTup', gNil', gCons', gLst', lenIs, retD, retN, lendK, backK, isLent, ownK, fAbs, fLen, fMax, fMin, startD, outK, shp_int, eqv_int, dIsD, dIsX, dIsNone, dM1, isL, fCount, fIndex, dEqS, dIs, fRepr, atI, ixN, fReprW, hr] at key ⊢
        exact ⟨hBq.cm fB (by omega), p, q * f, r, s, rfl, hs, gc_bd hs hBs, key⟩
    · have : d = 0 := by omega
      subst this
      simp [sSeq, sIf, sNext, sSet, sAug, sRet, sPar, sPar3, asThree, sRaise, sAsg, sOwn, sApp, sPut, sRetN, sRetOwn, sRetU, sDrop, sBreak, sCont, dVar, dC, dOp, dTest, dCons, dNil, dTup, nLst, dNew, dNeg, dIf, dF1, dAnd, dOr, dNot, dAndV, dOrV, dNotV, dCall, nCall, dCallL, nCallL, withLent, withLentN, vw, frz, dI, dI0, dB0, int2, dEq, dNe, dAdd, dSub, dIAdd, atD, gName', gTup', gNil', gCons', gLst', lenIs, retD, retN, lendK, backK, isLent, ownK, fAbs, fLen, fMax, fMin, startD, outK, shp_int, eqv_int, dIsD, dIsX, dIsNone, dM1, isL, fCount, fIndex, dEqS, dIs, fRepr, atI, ixN, fReprW]
      have key := hq 0 0 (.inl ⟨rfl, rfl, rfl⟩)
      unfold numF at key
      simp [sSeq, sIf, sNext, sSet, sAug, sRet, sPar, sPar3, asThree, sRaise, sAsg, sOwn, sApp, sPut, sRetN, sRetOwn, sRetU, sDrop, sBreak, sCont, dVar, dC, dOp, dTest, dCons, dNil, dTup, nLst, dNew, dNeg, dIf, dF1, dAnd, dOr, dNot, dAndV, dOrV, dNotV, dCall, nCall, dCallL, nCallL, withLent, withLentN, vw, frz, dI, dI0, dB0, int2, dEq, dNe, dAdd, dSub, dIAdd, atD, gName', gTup', gNil', gCons', gLst', lenIs, retD, retN, lendK, backK, isLent, ownK, fAbs, fLen, fMax, fMin, startD, outK, shp_int, eqv_int, dIsD, dIsX, dIsNone, dM1, isL, fCount, fIndex, dEqS, dIs, fRepr, atI, ixN, fReprW] at key
      exact ⟨by decide, hBq.cm (show Bd 1 0 by unfold Bd; decide) (by omega), p, 0, 0, s, rfl, hs, gc_bd hs hBs, key⟩
theorem pure_plus (α : List SD) (QD : Ret → List SD → Prop) (ED : Exd → List SD → Prop) (W : WD) (hW : W = fun e ρ => outK α ρ fun α' => ED e α') (h : p_plus α QD ED) : r_plus W (DEnd α QD) (startD n_plus.length α) := by
  obtain ⟨x, y, rfl, hr, ⟨b1, b2, b3, b4⟩, ⟨c1, c2, c3, c4⟩, hx, hy, hg, hq⟩ := h
  unfold r_plus DEnd
  simp [sSeq, sIf, sNext, sSet, sAug, sRet, sPar, sPar3, asThree, sRaise, sAsg, sOwn, sApp, sPut, sRetN, sRetOwn, sRetU, sDrop, sBreak, sCont, dVar, dC, dOp, dTest, dCons, dNil, dTup, nLst, dNew, dNeg, dIf, dF1, dAnd, dOr, dNot, dAndV, dOrV, dNotV, dCall, nCall, dCallL, nCallL, withLent, withLentN, vw, frz, dI, dI0, dB0, int2, dEq, dNe, dAdd, dSub, dIAdd, atD, gName', gTup', gNil', gCons', gLst', lenIs, retD, retN, lendK, backK, isLent, ownK, fAbs, fLen, fMax, fMin, startD, outK, shp_int, eqv_int, dIsD, dIsX, dIsNone, dM1, isL, fCount, fIndex, dEqS, dIs, fRepr, atI, ixN, fReprW, n_plus]
  refine ⟨x, y, rfl, hr, ?_⟩
  simp [sSeq, sIf, sNext, sSet, sAug, sRet, sPar, sPar3, asThree, sRaise, sAsg, sOwn, sApp, sPut, sRetN, sRetOwn, sRetU, sDrop, sBreak, sCont, dVar, dC, dOp, dTest, dCons, dNil, dTup, nLst, dNew, dNeg, dIf, dF1, dAnd, dOr, dNot, dAndV, dOrV, dNotV, dCall, nCall, dCallL, nCallL, withLent, withLentN, vw, frz, dI, dI0, dB0, int2, dEq, dNe, dAdd, dSub, dIAdd, atD, gName', gTup', gNil', gCons', gLst', lenIs, retD, retN, lendK, backK, isLent, ownK, fAbs, fLen, fMax, fMin, startD, outK, shp_int, eqv_int, dIsD, dIsX, dIsNone, dM1, isL, fCount, fIndex, dEqS, dIs, fRepr, atI, ixN, fReprW, Nu.D]
  exact ⟨b1.cm c4 (by omega), c1.cm b4 (by omega), b2.cm c4 (by omega), c2.cm b4 (by omega), b4.cm c4 (by omega), _, _, _, _, rfl, Int.mul_ne_zero hx hy, gc_bd (Int.mul_ne_zero hx hy) hg, hq⟩
theorem pure_times (α : List SD) (QD : Ret → List SD → Prop) (ED : Exd → List SD → Prop) (W : WD) (hW : W = fun e ρ => outK α ρ fun α' => ED e α') (h : p_times α QD ED) : r_times W (DEnd α QD) (startD n_times.length α) := by
  obtain ⟨x, y, rfl, hr, ⟨b1, b2, b3, b4⟩, ⟨c1, c2, c3, c4⟩, hx, hy, hg, hq⟩ := h
  unfold r_times DEnd
  simp [sSeq, sIf, sNext, sSet, sAug, sRet, sPar, sPar3, asThree, sRaise, sAsg, sOwn, sApp, sPut, sRetN, sRetOwn, sRetU, sDrop, sBreak, sCont, dVar, dC, dOp, dTest, dCons, dNil, dTup, nLst, dNew, dNeg, dIf, dF1, dAnd, dOr, dNot, dAndV, dOrV, dNotV, dCall, nCall, dCallL, nCallL, withLent, withLentN, vw, frz, dI, dI0, dB0, int2, dEq, dNe, dAdd, dSub, dIAdd, atD, gName', gTup', gNil', gCons', gLst', lenIs, retD, retN, lendK, backK, isLent, ownK, fAbs, fLen, fMax, fMin, startD, outK, shp_int, eqv_int, dIsD, dIsX, dIsNone, dM1, isL, fCount, fIndex, dEqS, dIs, fRepr, atI, ixN, fReprW, n_times]
  refine ⟨x, y, rfl, hr, ?_⟩
  have bm : Bd 6000 (nmax x.d y.d) := by unfold nmax; split; exact c3; exact b3
  simp [sSeq, sIf, sNext, sSet, sAug, sRet, sPar, sPar3, asThree, sRaise, sAsg, sOwn, sApp, sPut, sRetN, sRetOwn, sRetU, sDrop, sBreak, sCont, dVar, dC, dOp, dTest, dCons, dNil, dTup, nLst, dNew, dNeg, dIf, dF1, dAnd, dOr, dNot, dAndV, dOrV, dNotV, dCall, nCall, dCallL, nCallL, withLent, withLentN, vw, frz, dI, dI0, dB0, int2, dEq, dNe, dAdd, dSub, dIAdd, atD, gName', gTup', gNil', gCons', gLst', lenIs, retD, retN, lendK, backK, isLent, ownK, fAbs, fLen, fMax, fMin, startD, outK, shp_int, eqv_int, dIsD, dIsX, dIsNone, dM1, isL, fCount, fIndex, dEqS, dIs, fRepr, atI, ixN, fReprW, Nu.D]
  exact ⟨b1.cm c1 (by omega), b2.cm c2 (by omega), (b2.mul c2).cm bm (by omega), b1.cm c2 (by omega), b2.cm c1 (by omega), b4.cm c4 (by omega), _, _, _, _, rfl, Int.mul_ne_zero hx hy, gc_bd (Int.mul_ne_zero hx hy) hg, hq⟩
theorem pure__law_lowest (α : List SD) (QD : Ret → List SD → Prop) (ED : Exd → List SD → Prop) (W : WD) (hW : W = fun e ρ => outK α ρ fun α' => ED e α') (h : p__law_lowest α QD ED) : r__law_lowest W (DEnd α QD) (startD n__law_lowest.length α) := by
  obtain ⟨p, q, d, s, rfl, hs, hz, hB, hq⟩ := h
  rw [← low_or hz] at hq
  unfold r__law_lowest DEnd
  have key : ∀ q' d' : Int, q' = q → (q' = 0 ↔ d' = 0) → (if q = 0 ∨ d = 0 then low p 0 0 s else low p q d s) = low p q' d' s →
      sSeq (sSet 4 (dCall p__law_common W (dCons (dCall p__law_common W (dCons (dVar 0) (dCons (dVar 1) (dNil)))) (dCons (dVar 3) (dNil))))) (sSeq (sSet 4 (dIf (dTest (dOp dGt (dVar 3) (dC (.int 0)))) (dVar 4) (dOp dSub (dC (.int 0)) (dVar 4)))) (sRet (dTup (dCons (dOp dFdiv (dVar 0) (dVar 4)) (dCons (dOp dFdiv (dVar 1) (dVar 4)) (dCons (dVar 2) (dCons (dOp dFdiv (dVar 3) (dVar 4)) (dNil))))))))
        { nx := fun ρ => outK [iv p, iv q, iv d, iv s] ρ fun α' => QD (.d .none) α', rt := fun r ρ => outK [iv p, iv q, iv d, iv s] ρ fun α' => QD r α' } [iv p, iv q', iv d', iv s, .no] := by
    intro q' d' hqq hqd e
    rw [e] at hq
    have g0 := gc_pos (p := p) (q := q') hs
    have gB := (show Bd 8000 (gc p q' s) by rw [hqq]; exact hB).log (by omega)
    have hdd : (if q' = 0 then 0 else d') = d' := by split; exact (hqd.mp (by assumption)).symm; rfl
    simp [sSeq, sIf, sNext, sSet, sAug, sRet, sPar, sPar3, asThree, sRaise, sAsg, sOwn, sApp, sPut, sRetN, sRetOwn, sRetU, sDrop, sBreak, sCont, dVar, dC, dOp, dTest, dCons, dNil, dTup, nLst, dNew, dNeg, dIf, dF1, dAnd, dOr, dNot, dAndV, dOrV, dNotV, dCall, nCall, dCallL, nCallL, withLent, withLentN, vw, frz, dI, dI0, dB0, int2, dEq, dNe, dAdd, dSub, dIAdd, atD, gName', gTup', gNil', gCons', gLst', lenIs, retD, retN, lendK, backK, isLent, ownK, fAbs, fLen, fMax, fMin, startD, outK, shp_int, eqv_int, dIsD, dIsX, dIsNone, dM1, isL, fCount, fIndex, dEqS, dIs, fRepr, atI, ixN, fReprW]
    refine ⟨p, q', rfl, _, s, rfl, ?_⟩
    rw [gc_int]
    by_cases h0 : 0 < s
    · have sg' : sg s = 1 := by unfold sg; rw [if_neg (by omega)]
      have e3 : low p q' d' s = ⟨p / gc p q' s, q' / gc p q' s, d', s / gc p q' s⟩ := by unfold low; rw [sg', hdd]; simp [sSeq, sIf, sNext, sSet, sAug, sRet, sPar, sPar3, asThree, sRaise, sAsg, sOwn, sApp, sPut, sRetN, sRetOwn, sRetU, sDrop, sBreak, sCont, dVar, dC, dOp, dTest, dCons, dNil, dTup, nLst, dNew, dNeg, dIf, dF1, dAnd, dOr, dNot, dAndV, dOrV, dNotV, dCall, nCall, dCallL, nCallL, withLent, withLentN, vw, frz, dI, dI0, dB0, int2, dEq, dNe, dAdd, dSub, dIAdd, atD, gName', gTup', gNil', gCons', gLst', lenIs, retD, retN, lendK, backK, isLent, ownK, fAbs, fLen, fMax, fMin, startD, outK, shp_int, eqv_int, dIsD, dIsX, dIsNone, dM1, isL, fCount, fIndex, dEqS, dIs, fRepr, atI, ixN, fReprW]
      rw [e3] at hq
      have cd : ∀ x, CDivF x (gc p q' s) := fun _ => ⟨by omega, gB⟩
      simp [sSeq, sIf, sNext, sSet, sAug, sRet, sPar, sPar3, asThree, sRaise, sAsg, sOwn, sApp, sPut, sRetN, sRetOwn, sRetU, sDrop, sBreak, sCont, dVar, dC, dOp, dTest, dCons, dNil, dTup, nLst, dNew, dNeg, dIf, dF1, dAnd, dOr, dNot, dAndV, dOrV, dNotV, dCall, nCall, dCallL, nCallL, withLent, withLentN, vw, frz, dI, dI0, dB0, int2, dEq, dNe, dAdd, dSub, dIAdd, atD, gName', gTup', gNil', gCons', gLst', lenIs, retD, retN, lendK, backK, isLent, ownK, fAbs, fLen, fMax, fMin, startD, outK, shp_int, eqv_int, dIsD, dIsX, dIsNone, dM1, isL, fCount, fIndex, dEqS, dIs, fRepr, atI, ixN, fReprW, h0, cd]
      rw [fd_pos g0, fd_pos g0, fd_pos g0]
      exact ⟨by decide, hq⟩
    · have sg' : sg s = -1 := by unfold sg; rw [if_pos (by omega)]
      have e3 : low p q' d' s = ⟨-p / gc p q' s, -q' / gc p q' s, d', -s / gc p q' s⟩ := by unfold low; rw [sg', hdd]; simp [sSeq, sIf, sNext, sSet, sAug, sRet, sPar, sPar3, asThree, sRaise, sAsg, sOwn, sApp, sPut, sRetN, sRetOwn, sRetU, sDrop, sBreak, sCont, dVar, dC, dOp, dTest, dCons, dNil, dTup, nLst, dNew, dNeg, dIf, dF1, dAnd, dOr, dNot, dAndV, dOrV, dNotV, dCall, nCall, dCallL, nCallL, withLent, withLentN, vw, frz, dI, dI0, dB0, int2, dEq, dNe, dAdd, dSub, dIAdd, atD, gName', gTup', gNil', gCons', gLst', lenIs, retD, retN, lendK, backK, isLent, ownK, fAbs, fLen, fMax, fMin, startD, outK, shp_int, eqv_int, dIsD, dIsX, dIsNone, dM1, isL, fCount, fIndex, dEqS, dIs, fRepr, atI, ixN, fReprW]
      rw [e3] at hq
      have cd : ∀ x, CDivF x (-gc p q' s) := fun _ => ⟨by omega, by rw [Int.natAbs_neg]; exact gB⟩
      simp [sSeq, sIf, sNext, sSet, sAug, sRet, sPar, sPar3, asThree, sRaise, sAsg, sOwn, sApp, sPut, sRetN, sRetOwn, sRetU, sDrop, sBreak, sCont, dVar, dC, dOp, dTest, dCons, dNil, dTup, nLst, dNew, dNeg, dIf, dF1, dAnd, dOr, dNot, dAndV, dOrV, dNotV, dCall, nCall, dCallL, nCallL, withLent, withLentN, vw, frz, dI, dI0, dB0, int2, dEq, dNe, dAdd, dSub, dIAdd, atD, gName', gTup', gNil', gCons', gLst', lenIs, retD, retN, lendK, backK, isLent, ownK, fAbs, fLen, fMax, fMin, startD, outK, shp_int, eqv_int, dIsD, dIsX, dIsNone, dM1, isL, fCount, fIndex, dEqS, dIs, fRepr, atI, ixN, fReprW, h0, cd]
      rw [fdn g0 gc_dp, fdn g0 gc_dq, fdn g0 gc_ds]
      exact ⟨by decide, hq⟩
  by_cases h1 : q = 0
  · have := key 0 0 h1.symm Iff.rfl (by rw [if_pos (.inl h1)])
    simp [sSeq, sIf, sNext, sSet, sAug, sRet, sPar, sPar3, asThree, sRaise, sAsg, sOwn, sApp, sPut, sRetN, sRetOwn, sRetU, sDrop, sBreak, sCont, dVar, dC, dOp, dTest, dCons, dNil, dTup, nLst, dNew, dNeg, dIf, dF1, dAnd, dOr, dNot, dAndV, dOrV, dNotV, dCall, nCall, dCallL, nCallL, withLent, withLentN, vw, frz, dI, dI0, dB0, int2, dEq, dNe, dAdd, dSub, dIAdd, atD, gName', gTup', gNil', gCons', gLst', lenIs, retD, retN, lendK, backK, isLent, ownK, fAbs, fLen, fMax, fMin, startD, outK, shp_int, eqv_int, dIsD, dIsX, dIsNone, dM1, isL, fCount, fIndex, dEqS, dIs, fRepr, atI, ixN, fReprW, h1, n__law_lowest] at this ⊢
    exact ⟨by decide, this⟩
  · by_cases h2 : d = 0
    · have := key 0 0 (hz h2).symm Iff.rfl (by rw [if_pos (.inr h2)])
      simp [sSeq, sIf, sNext, sSet, sAug, sRet, sPar, sPar3, asThree, sRaise, sAsg, sOwn, sApp, sPut, sRetN, sRetOwn, sRetU, sDrop, sBreak, sCont, dVar, dC, dOp, dTest, dCons, dNil, dTup, nLst, dNew, dNeg, dIf, dF1, dAnd, dOr, dNot, dAndV, dOrV, dNotV, dCall, nCall, dCallL, nCallL, withLent, withLentN, vw, frz, dI, dI0, dB0, int2, dEq, dNe, dAdd, dSub, dIAdd, atD, gName', gTup', gNil', gCons', gLst', lenIs, retD, retN, lendK, backK, isLent, ownK, fAbs, fLen, fMax, fMin, startD, outK, shp_int, eqv_int, dIsD, dIsX, dIsNone, dM1, isL, fCount, fIndex, dEqS, dIs, fRepr, atI, ixN, fReprW, h1, h2, n__law_lowest] at this ⊢
      exact ⟨by decide, this⟩
    · have := key q d rfl (by simp [sSeq, sIf, sNext, sSet, sAug, sRet, sPar, sPar3, asThree, sRaise, sAsg, sOwn, sApp, sPut, sRetN, sRetOwn, sRetU, sDrop, sBreak, sCont, dVar, dC, dOp, dTest, dCons, dNil, dTup, nLst, dNew, dNeg, dIf, dF1, dAnd, dOr, dNot, dAndV, dOrV, dNotV, dCall, nCall, dCallL, nCallL, withLent, withLentN, vw, frz, dI, dI0, dB0, int2, dEq, dNe, dAdd, dSub, dIAdd, atD, gName', gTup', gNil', gCons', gLst', lenIs, retD, retN, lendK, backK, isLent, ownK, fAbs, fLen, fMax, fMin, startD, outK, shp_int, eqv_int, dIsD, dIsX, dIsNone, dM1, isL, fCount, fIndex, dEqS, dIs, fRepr, atI, ixN, fReprW, h1, h2]) (by rw [if_neg (by simp [sSeq, sIf, sNext, sSet, sAug, sRet, sPar, sPar3, asThree, sRaise, sAsg, sOwn, sApp, sPut, sRetN, sRetOwn, sRetU, sDrop, sBreak, sCont, dVar, dC, dOp, dTest, dCons, dNil, dTup, nLst, dNew, dNeg, dIf, dF1, dAnd, dOr, dNot, dAndV, dOrV, dNotV, dCall, nCall, dCallL, nCallL, withLent, withLentN, vw, frz, dI, dI0, dB0, int2, dEq, dNe, dAdd, dSub, dIAdd, atD, gName', gTup', gNil', gCons', gLst', lenIs, retD, retN, lendK, backK, isLent, ownK, fAbs, fLen, fMax, fMin, startD, outK, shp_int, eqv_int, dIsD, dIsX, dIsNone, dM1, isL, fCount, fIndex, dEqS, dIs, fRepr, atI, ixN, fReprW, h1, h2])])
      simp [sSeq, sIf, sNext, sSet, sAug, sRet, sPar, sPar3, asThree, sRaise, sAsg, sOwn, sApp, sPut, sRetN, sRetOwn, sRetU, sDrop, sBreak, sCont, dVar, dC, dOp, dTest, dCons, dNil, dTup, nLst, dNew, dNeg, dIf, dF1, dAnd, dOr, dNot, dAndV, dOrV, dNotV, dCall, nCall, dCallL, nCallL, withLent, withLentN, vw, frz, dI, dI0, dB0, int2, dEq, dNe, dAdd, dSub, dIAdd, atD, gName', gTup', gNil', gCons', gLst', lenIs, retD, retN, lendK, backK, isLent, ownK, fAbs, fLen, fMax, fMin, startD, outK, shp_int, eqv_int, dIsD, dIsX, dIsNone, dM1, isL, fCount, fIndex, dEqS, dIs, fRepr, atI, ixN, fReprW, h1, h2, n__law_lowest] at this ⊢
      exact this
theorem pure__law_alike (α : List SD) (QD : Ret → List SD → Prop) (ED : Exd → List SD → Prop) (W : WD) (hW : W = fun e ρ => outK α ρ fun α' => ED e α') (h : p__law_alike α QD ED) : r__law_alike W (DEnd α QD) (startD n__law_alike.length α) := by
  obtain ⟨x, rfl, h1, h3, h4, hq⟩ := h
  unfold r__law_alike DEnd
  simp [sSeq, sIf, sNext, sSet, sAug, sRet, sPar, sPar3, asThree, sRaise, sAsg, sOwn, sApp, sPut, sRetN, sRetOwn, sRetU, sDrop, sBreak, sCont, dVar, dC, dOp, dTest, dCons, dNil, dTup, nLst, dNew, dNeg, dIf, dF1, dAnd, dOr, dNot, dAndV, dOrV, dNotV, dCall, nCall, dCallL, nCallL, withLent, withLentN, vw, frz, dI, dI0, dB0, int2, dEq, dNe, dAdd, dSub, dIAdd, atD, gName', gTup', gNil', gCons', gLst', lenIs, retD, retN, lendK, backK, isLent, ownK, fAbs, fLen, fMax, fMin, startD, outK, shp_int, eqv_int, dIsD, dIsX, dIsNone, dM1, isL, fCount, fIndex, dEqS, dIs, fRepr, atI, ixN, fReprW, n__law_alike, h1, h3, h4]
  exact hq
end KK

set_option maxHeartbeats 1000000
namespace KK
open PySem PySem.Spec L2 DL
/-! ### numbers of thousands of bits -/
theorem ev_z11 {ρ : DSt} {a : TED} {r : Nu} (ha : Ev a ρ r.D) : EvT (dTest (dOp dEq a (dC d_ZERO))) ρ (decide (isZ r)) := by
  refine evt_as (evt_eqD (z := d_ZERO) ha ev_c (by rfl) rfl) ?_
  show PyData.eqv _ (⟨0, 0, 0, 1⟩ : Nu).D = _
  rw [nu_eqv3]
  rfl
theorem pure_over {k_ZeroDivisor : Addr} (α : List SD) (QD : Ret → List SD → Prop) (ED : Exd → List SD → Prop) (W : WD) (hW : W = fun e ρ => outK α ρ fun α' => ED e α') (h : p_over α QD ED) : r_over W k_ZeroDivisor (DEnd α QD) (startD n_over.length α) := by
  obtain ⟨y, rfl, gy, nz, hg, hn, hq⟩ := h
  have nn := gy.norm nz
  obtain ⟨c1, c2, c3, c4⟩ := gy.b
  have st : startD n_over.length [.val (⟨1, 0, 0, 1⟩ : Nu).D, .val y.D] = [.val (⟨1, 0, 0, 1⟩ : Nu).D, .val y.D, .no, .no, .no, .no] := rfl
  rw [st]
  unfold r_over
  refine s_chk (evt_as (ev_z11 (ev_var 1 rfl)) (decide_eq_false nz)) ?_
  refine s_asg (z := y.D) (ev_var 1 rfl) (unpack4 ?_)
  show sRet _ _ [.val (⟨1, 0, 0, 1⟩ : Nu).D, .val y.D, iv y.p, iv y.q, iv y.d, iv y.s]
  refine s_retc (zs := [(⟨1, 0, 0, 1⟩ : Nu).D, (ninv y).D]) (eva_cons (ev_var 0 rfl) (eva_cons (ev_call (zs := [.int (y.p * y.s), .int (-y.q * y.s), .int y.d, .int (y.p * y.p - y.q * y.q * y.d)]) (by (repeat' (first | exact KK.ev_c | exact KK.ev_var _ rfl | exact KK.eva_nil | with_reducible apply KK.eva_cons | with_reducible apply KK.ev_p | with_reducible apply KK.ev_q | with_reducible apply KK.ev_d | with_reducible apply KK.ev_s | with_reducible apply KK.ev_add | with_reducible apply KK.ev_sub | with_reducible apply KK.ev_mul | with_reducible apply KK.ev_fdiv | with_reducible apply KK.ev_mod | with_reducible apply KK.ev_neg | with_reducible apply KK.ev_max | with_reducible apply KK.ev_lt | with_reducible apply KK.ev_le | with_reducible apply KK.ev_gt | with_reducible apply KK.ev_ge | with_reducible apply KK.ev_eq | with_reducible apply KK.ev_nei | with_reducible apply KK.evt_lt | with_reducible apply KK.evt_le | with_reducible apply KK.evt_gt | with_reducible apply KK.evt_ge | with_reducible apply KK.evt_eq | with_reducible apply KK.evt_ne)); exact c1.cm c4 (by omega); exact c2.neg.cm c4 (by omega); exact c1.cm c1 (by omega); exact c2.cm c2 (by omega); exact (c2.mul c2).cm c3 (by omega)) fun QD ED hq => ⟨_, _, _, _, rfl, nn, hg, hq⟩) eva_nil)) ?_
  have b1 : Nb 6000 ⟨1, 0, 0, 1⟩ := nb_mono (nint_Gd (v := 1) (n := 1) (by unfold Bd; decide) (by omega)).b (by omega)
  refine ⟨⟨1, 0, 0, 1⟩, ninv y, rfl, fun h => absurd rfl h, b1, nb_mono hn (by omega), by decide, low_n0 nn, by rw [show (1 : Int) * (ninv y).s = (ninv y).s by omega]; exact hn.2.2.2.mono (by omega), ?_⟩
  show QD (.d (nover ⟨1, 0, 0, 1⟩ y).D) _
  rw [nover_one gy nz]
  exact hq
theorem low_shf1 {x : Nu} (c : Cnl x) (v : Int) : low (x.p + v * x.s) x.q x.d x.s = shf x v := cnl_eq (c.shf v)
theorem nplus_shf {x : Nu} (c : Cnl x) (d0 : 0 ≤ x.d) (v : Int) : nplus (nint v) x = shf x v := by
  rw [← low_shf1 c v]
  show low (v * x.s + x.p * 1) (0 * x.s + x.q * 1) (nmax 0 x.d) (1 * x.s) = _
  rw [nmax_comm, nmax0 d0]
  congr 1 <;> grind
theorem pure__law_add (α : List SD) (QD : Ret → List SD → Prop) (ED : Exd → List SD → Prop) (W : WD) (hW : W = fun e ρ => outK α ρ fun α' => ED e α') (h : p__law_add α QD ED) : r__law_add W (DEnd α QD) (startD n__law_add.length α) := by
  obtain ⟨x, v, rfl, gx, c, bv, hq⟩ := h
  obtain ⟨b1, b2, b3, b4⟩ := gx.b
  have sx := gx.s
  have b1' : Bd 1 1 := by unfold Bd; decide
  have st : startD n__law_add.length [SD.val x.D, SD.val (nint v).D] = [.val x.D, .val (nint v).D, .no, .no] := rfl
  rw [st]
  unfold r__law_add
  have e1 : x.p * 1 + v * x.s = x.p + v * x.s := by omega
  have e2 : x.q * 1 + 0 * x.s = x.q := by omega
  have e3 : nmax x.d 0 = x.d := nmax0 gx.d0.1
  have e4 : x.s * 1 = x.s := by omega
  refine s_set (z := .int (x.p + v * x.s)) (ev_as (ev_add (ev_mul (ev_p (ev_var 0 rfl)) (ev_s (ev_var 1 rfl)) (b1.cm b1' (by omega))) (ev_mul (ev_p (ev_var 1 rfl)) (ev_s (ev_var 0 rfl)) (bv.cm b4 (by omega)))) (congrArg PyData.int e1)) ?_
  refine s_set (z := .int x.q) (ev_as (ev_add (ev_mul (ev_q (ev_var 0 rfl)) (ev_s (ev_var 1 rfl)) (b2.cm b1' (by omega))) (ev_mul (ev_q (ev_var 1 rfl)) (ev_s (ev_var 0 rfl)) ((show Bd 1 (0 : Int) by unfold Bd; decide).cm b4 (by omega)))) (congrArg PyData.int e2)) ?_
  show sRet _ _ [.val x.D, .val (nint v).D, iv (x.p + v * x.s), iv x.q]
  refine s_retc (zs := [.int (x.p + v * x.s), .int x.q, .int x.d, .int x.s]) (eva_cons (ev_var 2 rfl) (eva_cons (ev_var 3 rfl) (eva_cons (ev_as (ev_max (ev_d (ev_var 0 rfl)) (ev_d (ev_var 1 rfl))) (congrArg PyData.int e3)) (eva_cons (ev_as (ev_mul (ev_s (ev_var 0 rfl)) (ev_s (ev_var 1 rfl)) (b4.cm b1' (by omega))) (congrArg PyData.int e4)) eva_nil))))
    ⟨_, _, _, _, rfl, by omega, gx.d0.2, by rw [gc_shf, c.2.1]; unfold Bd; exact Nat.one_lt_two_pow (by omega), ?_⟩
  rw [low_shf1 c]
  exact hq
theorem pure__law_inverse (α : List SD) (QD : Ret → List SD → Prop) (ED : Exd → List SD → Prop) (W : WD) (hW : W = fun e ρ => outK α ρ fun α' => ED e α') (h : p__law_inverse α QD ED) : r__law_inverse W (DEnd α QD) (startD n__law_inverse.length α) := by
  obtain ⟨y, rfl, gy, nz, hg, hq⟩ := h
  have hn := gy.norm nz
  obtain ⟨c1, c2, c3, c4⟩ := gy.b
  have z : y.d = 0 → 0 - y.q * y.s = 0 := fun c => by rw [gy.d0.2 c]; simp
  have e0 : -y.q * y.s = 0 - y.q * y.s := by grind
  unfold gci at hg
  unfold ninv at hq
  rw [e0] at hg hq
  have st : startD n__law_inverse.length [SD.val y.D] = [.val y.D, .no, .no, .no, .no] := rfl
  rw [st]
  unfold r__law_inverse
  refine s_asg (z := y.D) (ev_var 0 rfl) (unpack4 ?_)
  refine s_retc (by (repeat' (first | exact KK.ev_c | exact KK.ev_var _ rfl | exact KK.eva_nil | with_reducible apply KK.eva_cons | with_reducible apply KK.ev_p | with_reducible apply KK.ev_q | with_reducible apply KK.ev_d | with_reducible apply KK.ev_s | with_reducible apply KK.ev_add | with_reducible apply KK.ev_sub | with_reducible apply KK.ev_mul | with_reducible apply KK.ev_fdiv | with_reducible apply KK.ev_mod | with_reducible apply KK.ev_neg | with_reducible apply KK.ev_max | with_reducible apply KK.ev_lt | with_reducible apply KK.ev_le | with_reducible apply KK.ev_gt | with_reducible apply KK.ev_ge | with_reducible apply KK.ev_eq | with_reducible apply KK.ev_nei | with_reducible apply KK.evt_lt | with_reducible apply KK.evt_le | with_reducible apply KK.evt_gt | with_reducible apply KK.evt_ge | with_reducible apply KK.evt_eq | with_reducible apply KK.evt_ne)); exact c1.cm c4 (by omega); exact c2.cm c4 (by omega); exact c1.cm c1 (by omega); exact c2.cm c2 (by omega); exact (c2.mul c2).cm c3 (by omega)) ⟨_, _, _, _, rfl, hn, z, hg, hq⟩
theorem pure__law_scaled (α : List SD) (QD : Ret → List SD → Prop) (ED : Exd → List SD → Prop) (W : WD) (hW : W = fun e ρ => outK α ρ fun α' => ED e α') (h : p__law_scaled α QD ED) : r__law_scaled W (DEnd α QD) (startD n__law_scaled.length α) := by
  obtain ⟨x, t, rfl, gx, ht, hq⟩ := h
  have st : startD n__law_scaled.length [.val x.D, iv t] = [.val x.D, iv t, .no, .no, .no, .no, .no, .no, .no] := rfl
  rw [st]
  unfold r__law_scaled
  obtain ⟨b1, b2, b3, b4⟩ := gx.b
  have sx := gx.s
  refine s_asg (z := x.D) (ev_var 0 rfl) (unpack4 ?_)
  show sSeq _ _ _ [.val x.D, iv t, iv x.p, iv x.q, iv x.d, iv x.s, .no, .no, .no]
  refine s_set ev_c ?_
  refine ⟨trivial, by omega, by omega, ?_⟩
  refine forD_inv (fun k ρ => ∃ j, k ≤ t ∧ ρ = [.val x.D, iv t, iv x.p, iv x.q, iv x.d, iv x.s, iv (10 ^ (t - k)), j, .no]) _ _ ⟨_, by simp, by simp; rfl⟩ ?_ ?_
  · rintro k z _ N hz hN ⟨j, hk, rfl⟩
    have bt : Bd 200 (10 ^ (t - (k + 1))) := (bd10b _).mono (by omega)
    refine s_set1 (by (repeat' (first | exact KK.ev_c | exact KK.ev_var _ rfl | exact KK.eva_nil | with_reducible apply KK.eva_cons | with_reducible apply KK.ev_p | with_reducible apply KK.ev_q | with_reducible apply KK.ev_d | with_reducible apply KK.ev_s | with_reducible apply KK.ev_add | with_reducible apply KK.ev_sub | with_reducible apply KK.ev_mul | with_reducible apply KK.ev_fdiv | with_reducible apply KK.ev_mod | with_reducible apply KK.ev_neg | with_reducible apply KK.ev_max | with_reducible apply KK.ev_lt | with_reducible apply KK.ev_le | with_reducible apply KK.ev_gt | with_reducible apply KK.ev_ge | with_reducible apply KK.ev_eq | with_reducible apply KK.ev_nei | with_reducible apply KK.evt_lt | with_reducible apply KK.evt_le | with_reducible apply KK.evt_gt | with_reducible apply KK.evt_ge | with_reducible apply KK.evt_eq | with_reducible apply KK.evt_ne)); exact bt.cm (show Bd 4 10 by unfold Bd; decide) (by omega)) (hN _ ⟨.val z, by omega, ?_⟩)
    have : t - k = t - (k + 1) + 1 := by omega
    rw [this, Int.pow_succ]
    rfl
  · rintro _ ⟨j, hk, rfl⟩
    show sSeq _ _ _ [.val x.D, iv t, iv x.p, iv x.q, iv x.d, iv x.s, iv (10 ^ t), j, .no]
    have bt : Bd 200 (10 ^ t) := (bd10b _).mono (by omega)
    have tp := ten_pos t
    generalize (10 : Int) ^ t = T at *
    have bq := gx.bd
    have bqq := (b2.mul b2).mul bq
    have a : EvA (dCons (dOp dMul (dOp dMul (dOp dMul (dOp dMul (dVar 3) (dVar 3)) (dVar 4)) (dVar 6)) (dVar 6)) (dNil)) [SD.val x.D, iv t, iv x.p, iv x.q, iv x.d, iv x.s, iv T, j, SD.no] [.int (x.q * x.q * x.d * T * T)] := by
      (repeat' (first | exact KK.ev_c | exact KK.ev_var _ rfl | exact KK.eva_nil | with_reducible apply KK.eva_cons | with_reducible apply KK.ev_p | with_reducible apply KK.ev_q | with_reducible apply KK.ev_d | with_reducible apply KK.ev_s | with_reducible apply KK.ev_add | with_reducible apply KK.ev_sub | with_reducible apply KK.ev_mul | with_reducible apply KK.ev_fdiv | with_reducible apply KK.ev_mod | with_reducible apply KK.ev_neg | with_reducible apply KK.ev_max | with_reducible apply KK.ev_lt | with_reducible apply KK.ev_le | with_reducible apply KK.ev_gt | with_reducible apply KK.ev_ge | with_reducible apply KK.ev_eq | with_reducible apply KK.ev_nei | with_reducible apply KK.evt_lt | with_reducible apply KK.evt_le | with_reducible apply KK.evt_gt | with_reducible apply KK.evt_ge | with_reducible apply KK.evt_eq | with_reducible apply KK.evt_ne))
      · exact b2.cm b2 (by omega)
      · exact (b2.mul b2).cm b3 (by omega)
      · exact bqq.cm bt (by omega)
      · exact (bqq.mul bt).cm bt (by omega)
    have a0 : 0 ≤ x.q * x.q * x.d * T * T := Int.mul_nonneg (Int.mul_nonneg (Int.mul_nonneg (sq_nn _) gx.d0.1) (by omega)) (by omega)
    have ab : Bd 17000 (x.q * x.q * x.d * T * T) := ((bqq.mul bt).mul bt).mono (by omega)
    refine s_setc a ⟨_, rfl, a0, ab, fun r hr => ?_⟩
    show sRet _ _ [.val x.D, iv t, iv x.p, iv x.q, iv x.d, iv x.s, iv T, j, iv r]
    have e : x.q * x.q * x.d * T * T = x.q * T * (x.q * T) * de x := by
      rw [gx.qd]; grind
    rw [e] at hr
    have nr := near_of gx.de.1 gx.de.2.1 hr
    have cq : (0 < x.q * T) ↔ 0 < x.q := by
      constructor
      · intro h
        rcases Int.lt_or_le 0 x.q with c | c
        · exact c
        · have := Int.mul_nonpos_of_nonpos_of_nonneg c (show 0 ≤ T by omega); omega
      · intro h; exact Int.mul_pos h tp
    have cd : ∀ a, CDivF a x.s := fun a => ⟨by omega, b4.log (by omega)⟩
    have em : ∀ a : Int, x.s * (a / x.s) ≤ a ∧ a < x.s * (a / x.s) + x.s := fun a => by
      have e := Int.mul_ediv_add_emod a x.s
      have m0 := Int.emod_nonneg a (show x.s ≠ 0 by omega)
      have m1 := Int.emod_lt_of_pos a sx
      omega
    by_cases c : 0 < x.q
    · rw [if_pos (cq.mpr c)] at nr
      refine s_ret (z := .int ((x.p * T + r).fdiv x.s)) (ev_fdiv (ev_add (ev_mul (ev_var 2 rfl) (ev_var 6 rfl) (b1.cm bt (by omega))) (ev_ifT (evt_as (by (repeat' (first | exact KK.ev_c | exact KK.ev_var _ rfl | exact KK.eva_nil | with_reducible apply KK.eva_cons | with_reducible apply KK.ev_p | with_reducible apply KK.ev_q | with_reducible apply KK.ev_d | with_reducible apply KK.ev_s | with_reducible apply KK.ev_add | with_reducible apply KK.ev_sub | with_reducible apply KK.ev_mul | with_reducible apply KK.ev_fdiv | with_reducible apply KK.ev_mod | with_reducible apply KK.ev_neg | with_reducible apply KK.ev_max | with_reducible apply KK.ev_lt | with_reducible apply KK.ev_le | with_reducible apply KK.ev_gt | with_reducible apply KK.ev_ge | with_reducible apply KK.ev_eq | with_reducible apply KK.ev_nei | with_reducible apply KK.evt_lt | with_reducible apply KK.evt_le | with_reducible apply KK.evt_gt | with_reducible apply KK.evt_ge | with_reducible apply KK.evt_eq | with_reducible apply KK.evt_ne))) (decide_eq_true c)) (ev_var 8 rfl))) (ev_var 5 rfl) (cd _)) ?_
      rw [fd_pos sx]
      obtain ⟨m1, m2⟩ := em (x.p * T + r)
      exact hq r _ nr m1 m2
    · rw [if_neg (fun h => c (cq.mp h))] at nr
      refine s_ret (z := .int ((x.p * T + (0 - r)).fdiv x.s)) (ev_fdiv (ev_add (ev_mul (ev_var 2 rfl) (ev_var 6 rfl) (b1.cm bt (by omega))) (ev_ifF (evt_as (by (repeat' (first | exact KK.ev_c | exact KK.ev_var _ rfl | exact KK.eva_nil | with_reducible apply KK.eva_cons | with_reducible apply KK.ev_p | with_reducible apply KK.ev_q | with_reducible apply KK.ev_d | with_reducible apply KK.ev_s | with_reducible apply KK.ev_add | with_reducible apply KK.ev_sub | with_reducible apply KK.ev_mul | with_reducible apply KK.ev_fdiv | with_reducible apply KK.ev_mod | with_reducible apply KK.ev_neg | with_reducible apply KK.ev_max | with_reducible apply KK.ev_lt | with_reducible apply KK.ev_le | with_reducible apply KK.ev_gt | with_reducible apply KK.ev_ge | with_reducible apply KK.ev_eq | with_reducible apply KK.ev_nei | with_reducible apply KK.evt_lt | with_reducible apply KK.evt_le | with_reducible apply KK.evt_gt | with_reducible apply KK.evt_ge | with_reducible apply KK.evt_eq | with_reducible apply KK.evt_ne))) (decide_eq_false c)) (ev_sub ev_c (ev_var 8 rfl)))) (ev_var 5 rfl) (cd _)) ?_
      rw [fd_pos sx, show 0 - r = -r by omega]
      obtain ⟨m1, m2⟩ := em (x.p * T + -r)
      exact hq (-r) _ nr m1 m2
theorem gp_big {x : Nu} {m : Nat} (gx : Gd m x) (nz : x.p ≠ 0 ∨ x.q ≠ 0) (hgp : Gp x) {g v : Int} (hn : Near g (x.q * 10 ^ 16) (de x)) (h1 : x.s * v ≤ x.p * 10 ^ 16 + g) (h2 : x.p * 10 ^ 16 + g < x.s * v + x.s) : v < -3 ∨ 3 < v := by
  obtain ⟨hd, ir, _⟩ := gx.de
  have s0 := gx.s
  have kq : KQ = 10000000000000 := by unfold KQ; decide
  have t16 : (10 : Int) ^ 16 = 10000000000000000 := by decide
  rw [t16] at hn h1 h2
  rcases hgp with z | z | z
  · rcases nz with c | c
    · exact absurd z.1 c
    · exact absurd z.2 c
  · right
    unfold sgv at z
    rw [kq] at z
    have a1 : 0 ≤ sos (10000000000000000 * ((10000000000000 + 1) * x.p - 1 * x.s)) (10000000000000000 * ((10000000000000 + 1) * x.q)) (de x) := by rw [sos_scale hd (by decide) ir]; exact z
    have a2 : 0 ≤ sos ((10000000000000 + 1) * (g + 1)) ((10000000000000 + 1) * (-(x.q * 10000000000000000))) (de x) := by rw [sos_scale hd (by decide) ir]; exact hn.1
    have a3 := sos_add hd ir a1 a2
    rw [show 10000000000000000 * ((10000000000000 + 1) * x.q) + (10000000000000 + 1) * (-(x.q * 10000000000000000)) = 0 by omega, sos_q00, sgi_0] at a3
    rcases Int.lt_or_le 3 v with c | c
    · exact c
    · have := Int.mul_le_mul_of_nonneg_left c (show 0 ≤ x.s by omega)
      omega
  · left
    unfold sgv at z
    rw [kq] at z
    have a1 : 0 ≤ sos (10000000000000000 * (-(10000000000000 + 1) * x.p - 1 * x.s)) (10000000000000000 * (-(10000000000000 + 1) * x.q)) (de x) := by rw [sos_scale hd (by decide) ir]; exact z
    have a2 : 0 ≤ sos ((10000000000000 + 1) * (1 - g)) ((10000000000000 + 1) * (x.q * 10000000000000000)) (de x) := by rw [sos_scale hd (by decide) ir]; exact hn.2
    have a3 := sos_add hd ir a1 a2
    rw [show 10000000000000000 * (-(10000000000000 + 1) * x.q) + (10000000000000 + 1) * (x.q * 10000000000000000) = 0 by omega, sos_q00, sgi_0] at a3
    rcases Int.lt_or_le v (-3) with c | c
    · exact c
    · have := Int.mul_le_mul_of_nonneg_left c (show 0 ≤ x.s by omega)
      omega
theorem pure__law_sign_of (α : List SD) (QD : Ret → List SD → Prop) (ED : Exd → List SD → Prop) (W : WD) (hW : W = fun e ρ => outK α ρ fun α' => ED e α') (h : p__law_sign_of α QD ED) : r__law_sign_of W (DEnd α QD) (startD n__law_sign_of.length α) := by
  obtain ⟨x, rfl, gx, hgp, hq⟩ := h
  have st : startD n__law_sign_of.length [.val x.D] = [.val x.D, .no, .no] := rfl
  rw [st]
  unfold r__law_sign_of
  obtain ⟨b1, b2, b3, b4⟩ := gx.b
  obtain ⟨hd, ir, bd⟩ := gx.de
  have sx := gx.s
  refine s_set ev_c ?_
  refine s_while (fun m ρ => ∃ (t : Nat) (j : SD), ρ = [.val x.D, iv t, j] ∧ (t = 2 ∨ t = 4 ∨ t = 8 ∨ t = 16) ∧ m = 17 - t) ⟨_, 2, .no, rfl, by omega, rfl⟩ ?_
  rintro m _ ⟨t, j, rfl, t2, rfl⟩
  refine ⟨!decide (x.p = 0 ∧ x.q = 0), evt_pq0 (ev_var 0 rfl), fun hu => ?_, fun hu => ?_⟩
  · have nz : x.p ≠ 0 ∨ x.q ≠ 0 := by
      have := of_decide_eq_false (show decide (x.p = 0 ∧ x.q = 0) = false by cases h : decide (x.p = 0 ∧ x.q = 0) with | true => rw [h] at hu; cases hu | false => rfl)
      rcases Classical.em (x.p = 0) with a | a
      · exact .inr fun b => this ⟨a, b⟩
      · exact .inl a
    refine s_setc (zs := [x.D, .int t]) (by (repeat' (first | exact KK.ev_c | exact KK.ev_var _ rfl | exact KK.eva_nil | with_reducible apply KK.eva_cons | with_reducible apply KK.ev_p | with_reducible apply KK.ev_q | with_reducible apply KK.ev_d | with_reducible apply KK.ev_s | with_reducible apply KK.ev_add | with_reducible apply KK.ev_sub | with_reducible apply KK.ev_mul | with_reducible apply KK.ev_fdiv | with_reducible apply KK.ev_mod | with_reducible apply KK.ev_neg | with_reducible apply KK.ev_max | with_reducible apply KK.ev_lt | with_reducible apply KK.ev_le | with_reducible apply KK.ev_gt | with_reducible apply KK.ev_ge | with_reducible apply KK.ev_eq | with_reducible apply KK.ev_nei | with_reducible apply KK.evt_lt | with_reducible apply KK.evt_le | with_reducible apply KK.evt_gt | with_reducible apply KK.evt_ge | with_reducible apply KK.evt_eq | with_reducible apply KK.evt_ne))) ⟨x, t, rfl, gx, by omega, fun g v hn h1 h2 => ?_⟩
    show sSeq _ _ _ [.val x.D, iv t, iv v]
    have tp := ten_pos t
    by_cases c : v < -3 ∨ 3 < v
    · have hab : 3 < (if v < 0 then -v else v) := by split <;> omega
      refine s_seq (s_ifT (evt_as (evt_gt (ev_abs (ev_var 2 rfl)) ev_c) (decide_eq_true hab)) ?_)
      rcases c with c | c
      · refine s_ret (z := .int (0 - 1)) (ev_ifF (evt_as (by (repeat' (first | exact KK.ev_c | exact KK.ev_var _ rfl | exact KK.eva_nil | with_reducible apply KK.eva_cons | with_reducible apply KK.ev_p | with_reducible apply KK.ev_q | with_reducible apply KK.ev_d | with_reducible apply KK.ev_s | with_reducible apply KK.ev_add | with_reducible apply KK.ev_sub | with_reducible apply KK.ev_mul | with_reducible apply KK.ev_fdiv | with_reducible apply KK.ev_mod | with_reducible apply KK.ev_neg | with_reducible apply KK.ev_max | with_reducible apply KK.ev_lt | with_reducible apply KK.ev_le | with_reducible apply KK.ev_gt | with_reducible apply KK.ev_ge | with_reducible apply KK.ev_eq | with_reducible apply KK.ev_nei | with_reducible apply KK.evt_lt | with_reducible apply KK.evt_le | with_reducible apply KK.evt_gt | with_reducible apply KK.evt_ge | with_reducible apply KK.evt_eq | with_reducible apply KK.evt_ne))) (decide_eq_false (by omega))) (ev_sub ev_c ev_c)) ?_
        have := big_neg hd ir sx tp hn h2 c
        have e : sgn x = 0 - 1 := by unfold sgn; rw [this]; rfl
        rw [e] at hq
        exact hq
      · refine s_ret (z := .int 1) (ev_ifT (evt_as (by (repeat' (first | exact KK.ev_c | exact KK.ev_var _ rfl | exact KK.eva_nil | with_reducible apply KK.eva_cons | with_reducible apply KK.ev_p | with_reducible apply KK.ev_q | with_reducible apply KK.ev_d | with_reducible apply KK.ev_s | with_reducible apply KK.ev_add | with_reducible apply KK.ev_sub | with_reducible apply KK.ev_mul | with_reducible apply KK.ev_fdiv | with_reducible apply KK.ev_mod | with_reducible apply KK.ev_neg | with_reducible apply KK.ev_max | with_reducible apply KK.ev_lt | with_reducible apply KK.ev_le | with_reducible apply KK.ev_gt | with_reducible apply KK.ev_ge | with_reducible apply KK.ev_eq | with_reducible apply KK.ev_nei | with_reducible apply KK.evt_lt | with_reducible apply KK.evt_le | with_reducible apply KK.evt_gt | with_reducible apply KK.evt_ge | with_reducible apply KK.evt_eq | with_reducible apply KK.evt_ne))) (decide_eq_true (by omega))) ev_c) ?_
        have := big_pos hd ir sx tp hn h1 c
        have e : sgn x = 1 := this
        rw [e] at hq
        exact hq
    · have hab : ¬ 3 < (if v < 0 then -v else v) := by split <;> omega
      refine s_chk (evt_as (evt_gt (ev_abs (ev_var 2 rfl)) ev_c) (decide_eq_false hab)) ?_
      have t16 : t ≠ 16 := fun z => by
        subst z
        exact c (gp_big gx nz hgp hn h1 h2)
      refine s_set1 (z := .int (2 * (t : Int))) (by (repeat' (first | exact KK.ev_c | exact KK.ev_var _ rfl | exact KK.eva_nil | with_reducible apply KK.eva_cons | with_reducible apply KK.ev_p | with_reducible apply KK.ev_q | with_reducible apply KK.ev_d | with_reducible apply KK.ev_s | with_reducible apply KK.ev_add | with_reducible apply KK.ev_sub | with_reducible apply KK.ev_mul | with_reducible apply KK.ev_fdiv | with_reducible apply KK.ev_mod | with_reducible apply KK.ev_neg | with_reducible apply KK.ev_max | with_reducible apply KK.ev_lt | with_reducible apply KK.ev_le | with_reducible apply KK.ev_gt | with_reducible apply KK.ev_ge | with_reducible apply KK.ev_eq | with_reducible apply KK.ev_nei | with_reducible apply KK.evt_lt | with_reducible apply KK.evt_le | with_reducible apply KK.evt_gt | with_reducible apply KK.evt_ge | with_reducible apply KK.evt_eq | with_reducible apply KK.evt_ne)); exact Bd.cm (n := 2) (m := 20) (by unfold Bd; decide) (by unfold Bd; omega) (by omega)) ?_
      exact ⟨17 - 2 * t, by omega, 2 * t, iv v, by simp, by omega, rfl⟩
  · have hz : x.p = 0 ∧ x.q = 0 := of_decide_eq_true (show decide (x.p = 0 ∧ x.q = 0) = true by cases h : decide (x.p = 0 ∧ x.q = 0) with | true => rfl | false => rw [h] at hu; cases hu)
    refine s_ret ev_c ?_
    have e : sgn x = 0 := by unfold sgn; rw [hz.1, hz.2, sos_00]
    rw [e] at hq
    exact hq
theorem gp_far {x : Nu} {m : Nat} (gx : Gd m x) {n f : Int} (h : Flo x n) (h1 : f ≠ n) (h2 : f ≠ n + 1) : Gp (shf x (-f)) := by
  obtain ⟨hd, ir, _⟩ := gx.de
  have s0 := gx.s
  have k := KQ1
  unfold Flo FlS at h
  rcases Int.lt_or_le f n with c | c
  · refine .inr (.inl ?_)
    rw [sgv_shf]
    unfold sgv
    have a : 0 ≤ sos ((KQ + 1) * (x.p - n * x.s)) ((KQ + 1) * x.q) (de x) := by rw [sos_scale hd (by omega) ir]; exact h.1
    have t0 : 0 ≤ ((KQ + 1) * (n - f) - 1) * x.s := Int.mul_nonneg (by
      have := Int.mul_le_mul_of_nonneg_left (show 1 ≤ n - f by omega) (show 0 ≤ KQ + 1 by omega)
      omega) (by omega)
    have b := sos_intN hd ir a t0
    rwa [show (KQ + 1) * (x.p - n * x.s) + ((KQ + 1) * (n - f) - 1) * x.s = (KQ + 1) * x.p - (1 - (KQ + 1) * -f) * x.s by grind] at b
  · refine .inr (.inr ?_)
    rw [sgv_shf]
    unfold sgv
    have a : 0 ≤ sos ((KQ + 1) * -(x.p - (n + 1) * x.s)) ((KQ + 1) * -x.q) (de x) := by rw [sos_scale hd (by omega) ir, sos_ng, h.2]; decide
    have t0 : 0 ≤ ((KQ + 1) * (f - n - 1) - 1) * x.s := Int.mul_nonneg (by
      have := Int.mul_le_mul_of_nonneg_left (show 1 ≤ f - n - 1 by omega) (show 0 ≤ KQ + 1 by omega)
      omega) (by omega)
    have b := sos_intN hd ir a t0
    rwa [show (KQ + 1) * -(x.p - (n + 1) * x.s) + ((KQ + 1) * (f - n - 1) - 1) * x.s = -(KQ + 1) * x.p - (1 - -(KQ + 1) * -f) * x.s by grind, show (KQ + 1) * -x.q = -(KQ + 1) * x.q by grind] at b
theorem pure__law_whole_part (α : List SD) (QD : Ret → List SD → Prop) (ED : Exd → List SD → Prop) (W : WD) (hW : W = fun e ρ => outK α ρ fun α' => ED e α') (h : p__law_whole_part α QD ED) : r__law_whole_part W (DEnd α QD) (startD n__law_whole_part.length α) := by
  obtain ⟨x, n, rfl, gx, cx, bn, hn, gp0, gp1, hq⟩ := h
  have st : startD n__law_whole_part.length [.val x.D] = [.val x.D, .no] := rfl
  rw [st]
  unfold r__law_whole_part
  obtain ⟨hd, ir, bd⟩ := gx.de
  have sx := gx.s
  have gx1 : Gd 5100 x := gx.mono (by omega)
  have add : ∀ (a : TED) (f : Int) (ρ : DSt), ρ[0]? = some (.val x.D) → Ev a ρ (.int (-f)) → n - 3 ≤ f → f ≤ n + 3 →
      Ev (dCall p__law_sign_of W (dCons (dCall p__law_add W (dCons (dVar 0) (dCons (dTup (dCons a (dCons (dC (.int 0)) (dCons (dC (.int 0)) (dCons (dC (.int 1)) (dNil)))))) (dNil)))) (dNil))) ρ (.int (sos (x.p - f * x.s) x.q (de x))) := by
    intro a f ρ h0 ha f1 f2
    have bf : Bd 52 (-f) := by unfold Bd at bn ⊢; omega
    have e1 : sgn (shf x (-f)) = sos (x.p - f * x.s) x.q (de x) := by
      show sos (x.p + -f * x.s) x.q (de x) = _
      congr 1; grind
    have gpf : Gp (shf x (-f)) := by
      rcases Classical.em (f = n) with z | z
      · rw [z]; exact gp0
      · rcases Classical.em (f = n + 1) with z' | z'
        · rw [z']; exact gp1
        · exact gp_far gx hn z z'
    rw [← e1]
    refine ev_call (zs := [(shf x (-f)).D]) (eva_cons (ev_call (zs := [x.D, (nint (-f)).D]) (eva_cons (ev_var 0 h0) (eva_cons (ev_tup (eva_cons ha (eva_cons ev_c (eva_cons ev_c (eva_cons ev_c eva_nil)))) (by simp)) eva_nil)) fun QD ED hq => ⟨x, -f, rfl, gx.mono (by omega), cx, bf.mono (by omega), hq⟩) eva_nil) fun QD ED hq => ⟨_, rfl, (gd_shf gx cx bf).mono (by omega), gpf, hq⟩
  refine s_setc (zs := [x.D, .int ((0 : Nat) : Int)]) (by (repeat' (first | exact KK.ev_c | exact KK.ev_var _ rfl | exact KK.eva_nil | with_reducible apply KK.eva_cons | with_reducible apply KK.ev_p | with_reducible apply KK.ev_q | with_reducible apply KK.ev_d | with_reducible apply KK.ev_s | with_reducible apply KK.ev_add | with_reducible apply KK.ev_sub | with_reducible apply KK.ev_mul | with_reducible apply KK.ev_fdiv | with_reducible apply KK.ev_mod | with_reducible apply KK.ev_neg | with_reducible apply KK.ev_max | with_reducible apply KK.ev_lt | with_reducible apply KK.ev_le | with_reducible apply KK.ev_gt | with_reducible apply KK.ev_ge | with_reducible apply KK.ev_eq | with_reducible apply KK.ev_nei | with_reducible apply KK.evt_lt | with_reducible apply KK.evt_le | with_reducible apply KK.evt_gt | with_reducible apply KK.evt_ge | with_reducible apply KK.evt_eq | with_reducible apply KK.evt_ne))) ⟨x, 0, rfl, gx1, by omega, fun g v hg h1 h2 => ?_⟩
  rw [Int.pow_zero, Int.mul_one] at hg h1 h2
  obtain ⟨v1, v2⟩ := fls_near hd ir sx hn hg h1 h2
  show sSeq _ _ _ [.val x.D, iv v]
  refine s_while (fun m ρ => ∃ f : Int, ρ = [.val x.D, iv f] ∧ n - 2 ≤ f ∧ f ≤ n + 2 ∧ m = (f - n + 5).natAbs) ⟨_, v, rfl, v1, v2, rfl⟩ ?_
  rintro m _ ⟨f, rfl, f1, f2, rfl⟩
  refine ⟨decide (sos (x.p - f * x.s) x.q (de x) < 0), evt_lt (add _ f _ rfl (ev_as (by (repeat' (first | exact KK.ev_c | exact KK.ev_var _ rfl | exact KK.eva_nil | with_reducible apply KK.eva_cons | with_reducible apply KK.ev_p | with_reducible apply KK.ev_q | with_reducible apply KK.ev_d | with_reducible apply KK.ev_s | with_reducible apply KK.ev_add | with_reducible apply KK.ev_sub | with_reducible apply KK.ev_mul | with_reducible apply KK.ev_fdiv | with_reducible apply KK.ev_mod | with_reducible apply KK.ev_neg | with_reducible apply KK.ev_max | with_reducible apply KK.ev_lt | with_reducible apply KK.ev_le | with_reducible apply KK.ev_gt | with_reducible apply KK.ev_ge | with_reducible apply KK.ev_eq | with_reducible apply KK.ev_nei | with_reducible apply KK.evt_lt | with_reducible apply KK.evt_le | with_reducible apply KK.evt_gt | with_reducible apply KK.evt_ge | with_reducible apply KK.evt_eq | with_reducible apply KK.evt_ne))) (by congr 1; omega)) (by omega) (by omega)) ev_c, fun hu => ?_, fun hu => ?_⟩
  · have c := of_decide_eq_true hu
    have lt : n < f := by
      rcases Int.lt_or_le n f with z | z
      · exact z
      · have := (fls_le hd ir sx hn).mpr z; omega
    exact s_set1 (by (repeat' (first | exact KK.ev_c | exact KK.ev_var _ rfl | exact KK.eva_nil | with_reducible apply KK.eva_cons | with_reducible apply KK.ev_p | with_reducible apply KK.ev_q | with_reducible apply KK.ev_d | with_reducible apply KK.ev_s | with_reducible apply KK.ev_add | with_reducible apply KK.ev_sub | with_reducible apply KK.ev_mul | with_reducible apply KK.ev_fdiv | with_reducible apply KK.ev_mod | with_reducible apply KK.ev_neg | with_reducible apply KK.ev_max | with_reducible apply KK.ev_lt | with_reducible apply KK.ev_le | with_reducible apply KK.ev_gt | with_reducible apply KK.ev_ge | with_reducible apply KK.ev_eq | with_reducible apply KK.ev_nei | with_reducible apply KK.evt_lt | with_reducible apply KK.evt_le | with_reducible apply KK.evt_gt | with_reducible apply KK.evt_ge | with_reducible apply KK.evt_eq | with_reducible apply KK.evt_ne))) ⟨_, by omega, f - 1, rfl, by omega, by omega, rfl⟩
  · have c := of_decide_eq_false hu
    have fn : f ≤ n := (fls_le hd ir sx hn).mp (by omega)
    clear hu c
    refine s_while (fun m ρ => ∃ f : Int, ρ = [.val x.D, iv f] ∧ n - 2 ≤ f ∧ f ≤ n ∧ m = (n - f).natAbs) ⟨_, f, rfl, f1, fn, rfl⟩ ?_
    rintro m _ ⟨f, rfl, f1, fn, rfl⟩
    refine ⟨decide (0 ≤ sos (x.p - (f + 1) * x.s) x.q (de x)), evt_ge (add _ (f + 1) _ rfl (ev_as (by (repeat' (first | exact KK.ev_c | exact KK.ev_var _ rfl | exact KK.eva_nil | with_reducible apply KK.eva_cons | with_reducible apply KK.ev_p | with_reducible apply KK.ev_q | with_reducible apply KK.ev_d | with_reducible apply KK.ev_s | with_reducible apply KK.ev_add | with_reducible apply KK.ev_sub | with_reducible apply KK.ev_mul | with_reducible apply KK.ev_fdiv | with_reducible apply KK.ev_mod | with_reducible apply KK.ev_neg | with_reducible apply KK.ev_max | with_reducible apply KK.ev_lt | with_reducible apply KK.ev_le | with_reducible apply KK.ev_gt | with_reducible apply KK.ev_ge | with_reducible apply KK.ev_eq | with_reducible apply KK.ev_nei | with_reducible apply KK.evt_lt | with_reducible apply KK.evt_le | with_reducible apply KK.evt_gt | with_reducible apply KK.evt_ge | with_reducible apply KK.evt_eq | with_reducible apply KK.evt_ne))) (by congr 1; omega)) (by omega) (by omega)) ev_c, fun hu => ?_, fun hu => ?_⟩
    · have c := of_decide_eq_true hu
      have le := (fls_le hd ir sx hn).mp c
      exact s_set1 (by (repeat' (first | exact KK.ev_c | exact KK.ev_var _ rfl | exact KK.eva_nil | with_reducible apply KK.eva_cons | with_reducible apply KK.ev_p | with_reducible apply KK.ev_q | with_reducible apply KK.ev_d | with_reducible apply KK.ev_s | with_reducible apply KK.ev_add | with_reducible apply KK.ev_sub | with_reducible apply KK.ev_mul | with_reducible apply KK.ev_fdiv | with_reducible apply KK.ev_mod | with_reducible apply KK.ev_neg | with_reducible apply KK.ev_max | with_reducible apply KK.ev_lt | with_reducible apply KK.ev_le | with_reducible apply KK.ev_gt | with_reducible apply KK.ev_ge | with_reducible apply KK.ev_eq | with_reducible apply KK.ev_nei | with_reducible apply KK.evt_lt | with_reducible apply KK.evt_le | with_reducible apply KK.evt_gt | with_reducible apply KK.evt_ge | with_reducible apply KK.evt_eq | with_reducible apply KK.evt_ne))) ⟨_, by omega, f + 1, rfl, by omega, by omega, rfl⟩
    · have c := of_decide_eq_false hu
      have e : f = n := by
        rcases Int.lt_or_le f n with z | z
        · exact absurd ((fls_le hd ir sx hn (k := f + 1)).mpr (by omega)) c
        · omega
      subst e
      exact s_ret (ev_var 1 rfl) hq
end KK

set_option maxHeartbeats 2000000
namespace KK
open PySem PySem.Spec L2 DL
/-! ### number_of -/
theorem cz_snoc : ∀ (f : List Int) (q : Int) {y x : Nu}, Cz (f ++ [q]) y x → Kd y ∧ 0 ≤ q ∧ q ≤ 10 ^ 12 ∧ Cz f (shf (ninv y) q) x
  | [], q, y, x, h => by
    obtain ⟨x1, k, q0, q1, e, h⟩ := h
    have h : x1 = y := h
    subst h
    exact ⟨k, q0, q1, e⟩
  | a :: f, q, y, x, h => by
    obtain ⟨x1, k, q0, q1, e, h⟩ := h
    obtain ⟨k2, a0, a1, h2⟩ := cz_snoc f q h
    exact ⟨k2, a0, a1, x1, k, q0, q1, e, h2⟩
theorem cont_loop {W : WD} {D : DEnds} {c0 c1 : SD} {x : Nu} (k : ∀ j, D.nx [c0, c1, .val x.D, j]) : ∀ (r : List Int) (y : Nu) (j : SD), Cz r.reverse y x →
    forD (gName' 3) (sSet 2 (dCall p_plus W (dCons (dCall p_whole W (dCons (dVar 3) (dNil))) (dCons (dCall p_over W (dCons (dC d_ONE) (dCons (dVar 2) (dNil)))) (dNil))))) D (ivs r) [c0, c1, .val y.D, j]
  | [], y, j, h => by
    have h : x = y := h
    subst h
    exact k j
  | q :: r, y, j, h => by
    rw [List.reverse_cons] at h
    obtain ⟨ky, q0, q1, h2⟩ := cz_snoc _ _ h
    show sSet 2 _ _ [c0, c1, .val y.D, iv q]
    obtain ⟨gi, ci, zi, si⟩ := ky.gdi
    have bq : Bd 42 q := by unfold Bd; omega
    have b1 : Nb 6000 (nint q) := nb_mono (nint_Gd (v := q) (n := 42) bq (by omega)).b (by omega)
    have ov : Ev (dCall p_over W (dCons (dC d_ONE) (dCons (dVar 2) (dNil)))) [c0, c1, .val y.D, iv q] (ninv y).D :=
      ev_call (zs := [(⟨1, 0, 0, 1⟩ : Nu).D, y.D]) (eva_cons ev_c (eva_cons (ev_var 2 rfl) eva_nil)) fun QD ED hq => ⟨y, rfl, ky.gd.mono (by omega), ky.nz, ky.gci.1, nb_mono gi.b (by omega), hq⟩
    refine s_set1 (z := (shf (ninv y) q).D) (ev_as (ev_call (zs := [(nint q).D, (ninv y).D]) (eva_cons (ev_whole (ev_var 3 rfl)) (eva_cons ov eva_nil)) fun QD ED hq => ⟨nint q, ninv y, rfl, (rts_int q _).1, b1, nb_mono gi.b (by omega), (show (1 : Int) ≠ 0 by decide), by have := ci.1; omega, ?_, hq⟩) ?_) ?_
    · show Bd 8000 (1 * (ninv y).s)
      rw [Int.one_mul]; exact gi.b.2.2.2.mono (by omega)
    · rw [nplus_shf ci gi.d0.1]
    · exact cont_loop k r _ (iv q) h2
theorem pure_continued (α : List SD) (QD : Ret → List SD → Prop) (ED : Exd → List SD → Prop) (W : WD) (hW : W = fun e ρ => outK α ρ fun α' => ED e α') (h : p_continued α QD ED) : r_continued W (DEnd α QD) (startD n_continued.length α) := by
  obtain ⟨f, y, x, rfl, hc, hl, hq⟩ := h
  have st0 : startD n_continued.length [.val (.tuple (ivs f)), .val y.D] = [.val (.tuple (ivs f)), .val y.D, .no, .no] := rfl
  rw [st0]
  unfold r_continued
  refine s_set (ev_var 1 rfl) ?_
  show sSeq (sFor _ _ _) _ _ [.val (.tuple (ivs f)), .val y.D, .val y.D, .no]
  refine s_forL (ds := ivs f.reverse) ?_ ?_
  · have := ev_revL (ev_listT (ρ := [.val (.tuple (ivs f)), .val y.D, .val y.D, .no]) (a := dVar 0) (ds := ivs f) (ev_var 0 rfl))
    have e : (ivs f).reverse = ivs f.reverse := by unfold ivs; rw [List.map_reverse]
    rwa [e] at this
  · refine cont_loop (fun j => ?_) f.reverse y .no (by rw [List.reverse_reverse]; exact hc)
    show sRet (dVar 2) (DEnd [.val (.tuple (ivs f)), .val y.D] QD) [.val (.tuple (ivs f)), .val y.D, .val x.D, j]
    exact s_ret (z := x.D) (ev_var 2 rfl) hq
theorem pure_number_of {k_InvalidNumber : Addr} (α : List SD) (QD : Ret → List SD → Prop) (ED : Exd → List SD → Prop) (W : WD) (hW : W = fun e ρ => outK α ρ fun α' => ED e α') (h : p_number_of α QD ED) : r_number_of W k_InvalidNumber (DEnd α QD) (startD n_number_of.length α) := by
  obtain ⟨f, g, x, rfl, hl, hc, hq⟩ := h
  have st0 : startD n_number_of.length [.val (prt f g)] = [.val (prt f g), .no, .no, .no, .no, .no, .no, .no, .no] := rfl
  rw [st0]
  unfold r_number_of
  refine s_asg (ev_var 0 rfl) (unpack2 ?_)
  show sSeq _ _ _ [.val (prt f g), .val (.tuple (ivs f)), .val (.tuple (ivs g)), .no, .no, .no, .no, .no, .no]
  rcases hc with ⟨hgn, L, v, rfl, hc⟩ | ⟨hgn, gl, gb, y, hn, hd, hsq, hc⟩
  · refine s_seq (s_ifT (evt_as (ivs_shpT g rfl) (decide_eq_true hgn)) ?_)
    have v1 : Ev (dVar 1) [.val (prt (L ++ [v]) g), .val (.tuple (ivs (L ++ [v]))), .val (.tuple (ivs g)), .no, .no, .no, .no, .no, .no] (.tuple (ivs L ++ [.int v])) := ev_as (ev_var 1 rfl) (by rw [ivs_snoc])
    have a1 := ev_slT v1 o_none (o_int (a := dNeg (dC (.int 1))) ev_ng1)
    rw [cutInit] at a1
    refine s_ret (z := x.D) (ev_call (zs := [.tuple (ivs L), (nint v).D]) (eva_cons a1 (eva_cons (ev_whole (ev_lastT v1 ev_ng1)) eva_nil)) fun QD ED hq' => ⟨L, nint v, x, rfl, hc, by rw [List.length_append] at hl; omega, hq'⟩) ?_
    exact hq
  · refine s_chk (evt_as (ivs_shpT g rfl) (decide_eq_false hgn)) ?_
    refine s_asg (z := (⟨1, 0, 0, 1⟩ : Nu).D) (ev_tup (zs := [.int 1, .int 0, .int 0, .int 1]) (by (repeat' (first | exact KK.ev_c | exact KK.ev_var _ rfl | exact KK.eva_nil | with_reducible apply KK.eva_cons | with_reducible apply KK.ev_p | with_reducible apply KK.ev_q | with_reducible apply KK.ev_d | with_reducible apply KK.ev_s | with_reducible apply KK.ev_add | with_reducible apply KK.ev_sub | with_reducible apply KK.ev_mul | with_reducible apply KK.ev_fdiv | with_reducible apply KK.ev_mod | with_reducible apply KK.ev_neg | with_reducible apply KK.ev_max | with_reducible apply KK.ev_lt | with_reducible apply KK.ev_le | with_reducible apply KK.ev_gt | with_reducible apply KK.ev_ge | with_reducible apply KK.ev_eq | with_reducible apply KK.ev_nei | with_reducible apply KK.evt_lt | with_reducible apply KK.evt_le | with_reducible apply KK.evt_gt | with_reducible apply KK.evt_ge | with_reducible apply KK.evt_eq | with_reducible apply KK.evt_ne))) (show 4 ≤ 1000 by decide)) (unpack4 ?_)
    show sSeq (sFor _ _ _) _ _ [.val (prt f g), .val (.tuple (ivs f)), .val (.tuple (ivs g)), iv 1, iv 0, iv 0, iv 1, .no, .no]
    refine s_forT (ds := ivs g) (ev_var 2 rfl) ?_
    have b1 : Bd 1 1 := by unfold Bd; decide
    refine mat_loop g 1 0 0 1 1 .no b1 (bd0 _) (bd0 _) b1 gb (by omega) fun a b c e j hm ha hb hc' he => ?_
    have B : ∀ {i : Int}, Bd (1 + 6 * g.length) i → Bd 30 i := fun h => h.mono (by omega)
    have ha := B ha
    have hb := B hb
    have hc' := B hc'
    have he := B he
    show sSeq _ _ _ [.val (prt f g), .val (.tuple (ivs f)), .val (.tuple (ivs g)), iv a, iv b, iv c, iv e, j, .no]
    unfold numY at hn
    rw [hm] at hn
    dsimp only at hn
    have g1 : Ev (dCall p_common_divisor W (dCons (dCall p_common_divisor W (dCons (dVar 5) (dCons (dOp dSub (dVar 3) (dVar 6)) (dNil)))) (dCons (dVar 4) (dNil)))) [.val (prt f g), .val (.tuple (ivs f)), .val (.tuple (ivs g)), iv a, iv b, iv c, iv e, j, .no] (.int (Int.gcd (Int.gcd c (a - e)) b)) :=
      ev_call (zs := [.int (Int.gcd c (a - e)), .int b]) (eva_cons (ev_call (zs := [.int c, .int (a - e)]) (eva_cons (ev_var 5 rfl) (eva_cons (ev_sub (ev_var 3 rfl) (ev_var 6 rfl)) eva_nil)) fun QD ED hq => ⟨_, _, rfl, hq⟩) (eva_cons (ev_var 4 rfl) eva_nil)) fun QD ED hq => ⟨_, _, rfl, hq⟩
    have bg : Bd 32 (Int.gcd (Int.gcd c (a - e)) b : Int) := by
      by_cases z : b = 0
      · rw [z, Int.gcd_zero_right, Int.natAbs_natCast]
        by_cases z2 : c = 0
        · rw [z2, Int.gcd_zero_left]
          have := ha.sub he (k := 31) (by omega)
          unfold Bd at this ⊢
          rw [Int.natAbs_natCast]
          have e : (2 : Nat) ^ 31 < 2 ^ 32 := by decide
          omega
        · have := Int.gcd_le_natAbs_left (b := a - e) z2
          unfold Bd at hc' ⊢
          rw [Int.natAbs_natCast]
          have e : (2 : Nat) ^ 30 < 2 ^ 32 := by decide
          omega
      · have := Int.gcd_le_natAbs_right (a := (Int.gcd c (a - e) : Int)) z
        unfold Bd at hb ⊢
        rw [Int.natAbs_natCast]
        have e : (2 : Nat) ^ 30 < 2 ^ 32 := by decide
        omega
    have v0 : (0 : Int) ≤ (Int.gcd (Int.gcd c (a - e)) b : Int) := Int.natCast_nonneg _
    generalize hv : (Int.gcd (Int.gcd c (a - e)) b : Int) = v at *
    refine s_set g1 ?_
    show sSeq (sPar3 4 5 6 _) _ _ [.val (prt f g), .val (.tuple (ivs f)), .val (.tuple (ivs g)), iv a, iv b, iv c, iv e, j, iv v]
    obtain ⟨n1, n2, F, n3, n4, n5⟩ := hn
    have cd : ∀ i, CDivF i v := fun i => ⟨n1, bg.log (by omega)⟩
    have vp : 0 < v := by omega
    have bb := bd_fdiv hb vp
    have bc := bd_fdiv hc' vp
    have be := bd_fdiv (ha.sub he (k := 31) (by omega)) vp
    refine s_par3S (ev_fdiv (ev_var 4 rfl) (ev_var 8 rfl) (cd _)) (ev_fdiv (ev_var 5 rfl) (ev_var 8 rfl) (cd _)) (ev_fdiv (ev_sub (ev_var 3 rfl) (ev_var 6 rfl)) (ev_var 8 rfl) (cd _)) ?_
    show sRet _ _ [.val (prt f g), .val (.tuple (ivs f)), .val (.tuple (ivs g)), iv a, iv (b.fdiv v), iv (c.fdiv v), iv ((a - e).fdiv v), j, iv v]
    generalize b.fdiv v = b' at *
    generalize c.fdiv v = c' at *
    generalize (a - e).fdiv v = e' at *
    have b4 : Bd 3 4 := by unfold Bd; decide
    have b2 : Bd 2 2 := by unfold Bd; decide
    have bD1 := be.mul be
    have bD2 := (b4.mul bb).mul bc
    have bD : Bd 100 (e' * e' + 4 * b' * c') := bD1.add bD2 (by omega)
    have bS : Bd 40 (2 * c') := (b2.mul bc).mono (by omega)
    have ev4 : EvA (dCons (dVar 6) (dCons (dC (.int 1)) (dCons (dOp dAdd (dOp dMul (dVar 6) (dVar 6)) (dOp dMul (dOp dMul (dC (.int 4)) (dVar 4)) (dVar 5))) (dCons (dOp dMul (dC (.int 2)) (dVar 5)) (dNil))))) [.val (prt f g), .val (.tuple (ivs f)), .val (.tuple (ivs g)), iv a, iv b', iv c', iv e', j, iv v] [.int e', .int 1, .int (e' * e' + 4 * b' * c'), .int (2 * c')] :=
      eva_cons (ev_var 6 rfl) (eva_cons ev_c (eva_cons (ev_add (ev_mul (ev_var 6 rfl) (ev_var 6 rfl) (be.cm be (by omega))) (ev_mul (ev_mul ev_c (ev_var 4 rfl) (b4.cm bb (by omega))) (ev_var 5 rfl) ((b4.mul bb).cm bc (by omega)))) (eva_cons (ev_mul ev_c (ev_var 5 rfl) (b2.cm bc (by omega))) eva_nil)))
    have evn : Ev (dCall (p_number k_InvalidNumber) W (dCons (dVar 6) (dCons (dC (.int 1)) (dCons (dOp dAdd (dOp dMul (dVar 6) (dVar 6)) (dOp dMul (dOp dMul (dC (.int 4)) (dVar 4)) (dVar 5))) (dCons (dOp dMul (dC (.int 2)) (dVar 5)) (dNil)))))) [.val (prt f g), .val (.tuple (ivs f)), .val (.tuple (ivs g)), iv a, iv b', iv c', iv e', j, iv v] y.D := by
      refine ev_call ev4 fun QD ED hq => ⟨e', 1, _, _, rfl, b1.mono (by omega), bD.mono (by omega), bS.mono (by omega), fun c => ?_, fun c f' r' hs => ?_⟩
      · exfalso
        have d0 := hd.1
        have : 0 < e' * e' + 4 * b' * c' := by rw [← n4]; exact Int.mul_pos (Int.mul_pos n3 n3) d0
        omega
      · have d0 := hd.1
        have dp : 0 < e' * e' + 4 * b' * c' := by rw [← n4]; exact Int.mul_pos (Int.mul_pos n3 n3) d0
        rcases hs with ⟨z, _⟩ | ⟨_, f0, r0, e1, sq⟩
        · omega
        · obtain ⟨rfl, rfl⟩ := sqf_uniq n3 d0 f0 r0 (n4.trans e1.symm) hsq sq
          unfold numF
          rw [if_neg (dr_two hd), Int.one_mul, n5]
          exact hq
    exact s_ret (z := x.D) (ev_call (zs := [.tuple (ivs f), y.D]) (eva_cons (ev_var 1 rfl) (eva_cons evn eva_nil)) fun QD ED hq' => ⟨f, y, x, rfl, hc, hl, hq'⟩) hq
end KK

set_option maxHeartbeats 2000000
namespace KK
open PySem PySem.Spec L2 DL
/-! ### behind the quotients -/
def enN : Nat → List Int → List PyData
  | _, [] => []
  | i, q :: L => .tuple [.int (i : Int), .int q] :: enN (i + 1) L
theorem enumD_enN : ∀ (L : List Int) (i : Nat), ((ivs L).zipIdx i).map (fun p => PyData.tuple [.int (p.2 : Int), p.1]) = enN i L
  | [], i => rfl
  | q :: L, i => by
    show (((PyData.int q) :: ivs L).zipIdx i).map _ = _
    rw [List.zipIdx_cons, List.map_cons, enumD_enN L (i + 1)]
    rfl
theorem f_enum {ρ : DSt} {a : TED} {g : TGD} {t n : TSD} {D : DEnds} {L : List Int} (h : Ev a ρ (.list (ivs L))) (k : forD g t { D with nx := n D } (enN 0 L) ρ) : sSeq (sFor (enumI (dCons a dNil)) g t) n D ρ :=
  eva_cons h eva_nil (fun ds ρ1 => asL1 ds fun xs => forD g t { D with nx := n D } (enumD xs) ρ1) (by
    show forD g t { D with nx := n D } (enumD (ivs L)) ρ
    have : enumD (ivs L) = enN 0 L := enumD_enN L 0
    rw [this]; exact k)
def body11 (W : WD) : TSD := sSeq (sIf (dOr (dTest (dOp dIs (dVar 0) (dC .none))) (dTest (dOp dNe (dCall p__law_whole_part W (dCons (dVar 0) (dNil))) (dVar 3)))) (sRet (dC .none)) (sNext)) (sSeq (sSet 4 (dCall p__law_add W (dCons (dVar 0) (dCons (dTup (dCons (dOp dSub (dC (.int 0)) (dVar 3)) (dCons (dC (.int 0)) (dCons (dC (.int 0)) (dCons (dC (.int 1)) (dNil)))))) (dNil))))) (sSeq (sSet 0 (dIf (dTest (dOp dNe (dVar 4) (dTup (dCons (dC (.int 0)) (dCons (dC (.int 0)) (dCons (dC (.int 0)) (dCons (dC (.int 1)) (dNil)))))))) (dCall p__law_inverse W (dCons (dVar 4) (dNil))) (dC .none))) (sIf (dAnd (dTest (dOp dIs (dVar 0) (dC .none))) (dTest (dOp dLt (dVar 2) (dOp dSub (dF1 fLen (dVar 1)) (dC (.int 1)))))) (sRet (dC .none)) (sNext))))
theorem r__law_behind_eq (W : WD) : r__law_behind W = sSeq (sFor (enumI (dCons (dVar 1) (dNil))) (gTup' (lenIs 2 (gCons' (gName' 2) (gCons' (gName' 3) (gNil'))))) (body11 W)) (sRet (dIf (dTest (dOp dIsNot (dVar 0) (dC .none))) (dVar 0) (dC (.str "end")))) := rfl
theorem evt_isN {ρ : DSt} {i : Nat} {z : PyData} (h : ρ[i]? = some (.val z)) : EvT (dTest (dOp dIs (dVar i) (dC .none))) ρ (isNoneD z) := evt_test (ev_op (ev_var i h) ev_c fun k hk => hk)
theorem evt_isNN {ρ : DSt} {i : Nat} {z : PyData} (h : ρ[i]? = some (.val z)) : EvT (dTest (dOp dIsNot (dVar i) (dC .none))) ρ (!isNoneD z) := evt_test (ev_op (ev_var i h) ev_c fun k hk => hk)
theorem evt_and1 {ρ : DSt} {ta tb : TTD} (h : EvT ta ρ false) : EvT (dAnd ta tb) ρ false := evt_and (v := false) h fun z => by cases z
section
variable {W : WD} {D : DEnds} {c1 : PyData} {x : Nu} {q : Int} {i : Nat} {j : SD}
/-- the whole part, what is left of it -/
theorem wp11 {ρ : DSt} {n : Int} (gx : Gd 5020 x) (cx : Cnl x) (bn : Bd 50 n) (hf : Flo x n) (h0 : Gp (shf x (-n))) (h1 : Gp (shf x (-(n + 1)))) (hρ : ρ[0]? = some (.val x.D)) : Ev (dCall p__law_whole_part W (dCons (dVar 0) (dNil))) ρ (.int n) :=
  ev_call (zs := [x.D]) (eva_cons (ev_var 0 hρ) eva_nil) fun QD ED hq => ⟨x, n, rfl, gx, cx, bn, hf, h0, h1, hq⟩
theorem ad11 {ρ : DSt} (gx : Gd 5020 x) (cx : Cnl x) (bq : Bd 50 q) (h0 : ρ[0]? = some (.val x.D)) (h3 : ρ[3]? = some (iv q)) :
    Ev (dCall p__law_add W (dCons (dVar 0) (dCons (dTup (dCons (dOp dSub (dC (.int 0)) (dVar 3)) (dCons (dC (.int 0)) (dCons (dC (.int 0)) (dCons (dC (.int 1)) (dNil)))))) (dNil)))) ρ (shf x (-q)).D :=
  ev_call (zs := [x.D, (nint (-q)).D]) (eva_cons (ev_var 0 h0) (eva_cons (ev_as (ev_tup (zs := [.int (0 - q), .int 0, .int 0, .int 1]) (eva_cons (ev_sub ev_c (ev_var 3 h3)) (eva_cons ev_c (eva_cons ev_c (eva_cons ev_c eva_nil)))) (by simp)) (by rw [show (0 : Int) - q = -q by omega]; rfl)) eva_nil)) fun QD ED hq => ⟨x, -q, rfl, gx.mono (by omega), cx, bq.neg.mono (by omega), hq⟩
theorem evt_nz {ρ : DSt} {r : Nu} (h4 : ρ[4]? = some (.val r.D)) : EvT (dTest (dOp dNe (dVar 4) (dTup (dCons (dC (.int 0)) (dCons (dC (.int 0)) (dCons (dC (.int 0)) (dCons (dC (.int 1)) (dNil)))))))) ρ (!decide (isZ r)) := by
  refine evt_as (evt_neD (z := (⟨0, 0, 0, 1⟩ : Nu).D) (ev_var 4 h4) (ev_tup (zs := [.int 0, .int 0, .int 0, .int 1]) (eva_cons ev_c (eva_cons ev_c (eva_cons ev_c (eva_cons ev_c eva_nil)))) (by simp)) (by rfl) (by rfl)) ?_
  rw [nu_eqv3]
  rfl
/-- one quotient, something left -/
theorem step11 {x1 : Nu} (k : Kd x1) (q0 : 0 ≤ q) (q1 : q ≤ 10 ^ 12) (hx : x = shf (ninv x1) q) (N : D.nx [.val x1.D, .val c1, iv i, iv q, .val (ninv x1).D]) : body11 W D [.val x.D, .val c1, iv i, iv q, j] := by
  subst hx
  have bq : Bd 42 q := by unfold Bd; omega
  have gx : Gd 5020 (shf (ninv x1) q) := (k.gds bq).mono (by omega)
  have cx := k.gdi.2.1.shf q
  have z0 : shf (shf (ninv x1) q) (-q) = ninv x1 := by rw [shf_shf, show q + -q = 0 by omega, shf0]
  have z1 : shf (shf (ninv x1) q) (-(q + 1)) = shf (ninv x1) (-1) := by rw [shf_shf]; congr 1; omega
  have g0 : Gp (ninv x1) := by have := k.gp (n := 0) (by decide); rwa [shf0] at this
  refine s_chk (evt_or0 (evt_isN (z := (shf (ninv x1) q).D) rfl) (evt_as (evt_ne (wp11 gx cx (bq.mono (by omega)) (k.flo q) (by rw [z0]; exact g0) (by rw [z1]; exact k.gp1) rfl) (ev_var 3 rfl)) (by simp))) ?_
  refine s_set (z := (ninv x1).D) (ev_as (ad11 gx cx (bq.mono (by omega)) rfl rfl) (by rw [z0])) ?_
  refine s_set (z := x1.D) (ev_ifT (evt_as (evt_nz rfl) (by rw [decide_eq_false k.gdi.2.2.1]; rfl)) (ev_as (ev_call (zs := [(ninv x1).D]) (eva_cons (ev_var 4 rfl) eva_nil) fun QD ED hq => ⟨ninv x1, rfl, k.gdi.1.mono (by omega), k.gdi.2.2.1, k.gci.2, hq⟩) (by rw [k.back]))) ?_
  exact s_ifF (evt_and1 (evt_isN (z := x1.D) rfl)) N
/-- the last quotient -/
theorem last11 {v : Int} {n : Nat} {cs : List PyData} (v0 : 1 ≤ v) (v1 : v ≤ 10) (hn : cs.length = i + 1) (N : ∀ j, D.nx [.val .none, .val (.list cs), iv i, iv v, j]) : body11 W D [.val (nint v).D, .val (.list cs), iv i, iv v, j] := by
  obtain ⟨gx, cx, sx, px⟩ := nint_rt v0 v1
  have bq : Bd 42 v := by unfold Bd; omega
  have z0 : shf (nint v) (-v) = ⟨0, 0, 0, 1⟩ := by unfold shf nint; simp; omega
  have z1 : shf (nint v) (-(v + 1)) = ⟨-1, 0, 0, 1⟩ := by unfold shf nint; simp; omega
  have hf : Flo (nint v) v := by
    unfold Flo FlS
    show 0 ≤ sos (v - v * 1) 0 _ ∧ sos (v - (v + 1) * 1) 0 _ = -1
    rw [sos_q00, sos_q00, show v - v * 1 = 0 by omega, show v - (v + 1) * 1 = -1 by omega]
    decide
  have p1 : Gp ⟨-1, 0, 0, 1⟩ := by
    refine .inr (.inr ?_)
    show 0 ≤ sos (-(KQ + 1) * -1 - 1 * 1) (-(KQ + 1) * 0) _
    rw [Int.mul_zero, sos_q00, sgi_0]
    have := KQ1
    omega
  refine s_chk (evt_or0 (evt_isN (z := (nint v).D) rfl) (evt_as (evt_ne (wp11 (gx.mono (by omega)) cx (bq.mono (by omega)) hf (by rw [z0]; exact .inl ⟨rfl, rfl⟩) (by rw [z1]; exact p1) rfl) (ev_var 3 rfl)) (by simp))) ?_
  refine s_set (z := (⟨0, 0, 0, 1⟩ : Nu).D) (ev_as (ad11 (gx.mono (by omega)) cx (bq.mono (by omega)) rfl rfl) (by rw [z0])) ?_
  refine s_set (z := .none) (ev_ifF (evt_as (evt_nz (r := ⟨0, 0, 0, 1⟩) rfl) (by decide)) ev_c) ?_
  refine s_ifF (evt_as (evt_and (u := true) (evt_isN (z := .none) rfl) fun _ => evt_lt (ev_var 2 rfl) (ev_sub (ev_len9L (ev_var 1 rfl)) ev_c)) ?_) (N _)
  simp [hn]
end
end KK

set_option maxHeartbeats 2000000
namespace KK
open PySem PySem.Spec L2 DL
theorem beh_loop {W : WD} {D : DEnds} {cs : List PyData} {y : Nu} (k : ∀ j2 j3 j4, D.nx [.val y.D, .val (.list cs), j2, j3, j4]) : ∀ (L : List Int) (i : Nat) (x : Nu) (j2 j3 j4 : SD), Cz L y x →
    forD (gTup' (lenIs 2 (gCons' (gName' 2) (gCons' (gName' 3) (gNil'))))) (body11 W) D (enN i L) [.val x.D, .val (.list cs), j2, j3, j4]
  | [], i, x, j2, j3, j4, h => by
    have h : x = y := h
    subst h
    exact k _ _ _
  | q :: L, i, x, j2, j3, j4, ⟨x1, kx, q0, q1, e, h⟩ =>
    unpack2 (step11 (i := i) (j := j4) kx q0 q1 e (beh_loop k L (i + 1) x1 _ _ _ h))
theorem beh_last {W : WD} {D : DEnds} {cs : List PyData} {v : Int} (v0 : 1 ≤ v) (v1 : v ≤ 10) (k : ∀ j2 j3 j4, D.nx [.val .none, .val (.list cs), j2, j3, j4]) : ∀ (L : List Int) (i : Nat) (x : Nu) (j2 j3 j4 : SD), Cz L (nint v) x → cs.length = i + L.length + 1 →
    forD (gTup' (lenIs 2 (gCons' (gName' 2) (gCons' (gName' 3) (gNil'))))) (body11 W) D (enN i (L ++ [v])) [.val x.D, .val (.list cs), j2, j3, j4]
  | [], i, x, j2, j3, j4, h, hl => by
    have h : x = nint v := h
    subst h
    exact unpack2 (last11 (n := 0) (i := i) (j := j4) v0 v1 (by simpa using hl) fun j => k _ _ _)
  | q :: L, i, x, j2, j3, j4, ⟨x1, kx, q0, q1, e, h⟩, hl =>
    unpack2 (step11 (i := i) (j := j4) kx q0 q1 e (beh_last v0 v1 k L (i + 1) x1 _ _ _ h (by rw [hl, List.length_cons]; omega)))
theorem pure__law_behind (α : List SD) (QD : Ret → List SD → Prop) (ED : Exd → List SD → Prop) (W : WD) (hW : W = fun e ρ => outK α ρ fun α' => ED e α') (h : p__law_behind α QD ED) : r__law_behind W (DEnd α QD) (startD n__law_behind.length α) := by
  obtain ⟨L, x, r, rfl, hl, hc, hq⟩ := h
  have st0 : startD n__law_behind.length [.val x.D, .val (.list (ivs L))] = [.val x.D, .val (.list (ivs L)), .no, .no, .no] := rfl
  rw [st0, r__law_behind_eq]
  refine f_enum (L := L) (ev_var 1 rfl) ?_
  rcases hc with ⟨y, hc, rfl⟩ | ⟨L', v, rfl, hc, v0, v1, rfl⟩
  · refine beh_loop (fun j2 j3 j4 => ?_) L 0 x .no .no .no hc
    dsimp only
    exact s_ret (z := y.D) (ev_ifT (evt_isNN (z := y.D) rfl) (ev_var 0 rfl)) hq
  · refine beh_last v0 v1 (fun j2 j3 j4 => ?_) L' 0 x .no .no .no hc (by rw [ivs_len, List.length_append]; simp)
    dsimp only
    exact s_ret (z := .str "end") (ev_ifF (evt_isNN (z := .none) rfl) ev_c) hq
theorem ivs_rep (n : Nat) (l : List Int) : (List.replicate n (ivs l)).flatten = ivs (List.replicate n l).flatten := by
  unfold ivs
  rw [List.map_flatten, List.map_replicate]
theorem ivs_takeN (l : List Int) (n : Nat) : (ivs l).take n = ivs (l.take n) := by unfold ivs; rw [List.map_take]
theorem ev_newL {ρ : DSt} : Ev (dNew (nLst (dNil))) ρ (.list []) := fun Q k => ⟨Nat.zero_le _, k _ (fun _ h => h) (fun _ h => h)⟩
theorem pure__law_is_shortest (α : List SD) (QD : Ret → List SD → Prop) (ED : Exd → List SD → Prop) (W : WD) (hW : W = fun e ρ => outK α ρ fun α' => ED e α') (h : p__law_is_shortest α QD ED) : r__law_is_shortest W (DEnd α QD) (startD n__law_is_shortest.length α) := by
  obtain ⟨f, g, rfl, hf, hg, hq⟩ := h
  have st0 : startD n__law_is_shortest.length [.val (.list (ivs f)), .val (.list (ivs g))] = [.val (.list (ivs f)), .val (.list (ivs g)), .no] := rfl
  rw [st0]
  unfold r__law_is_shortest
  have sf := (ivs_shp f).1
  have sg := (ivs_shp g).1
  refine s_for2 ev_c (ev_len9L (ev_var 1 rfl)) ⟨by decide, by decide, by omega, by rw [ivs_len]; omega⟩ ?_
  refine forD_inv (fun k ρ => ∃ j, ρ = [.val (.list (ivs f)), .val (.list (ivs g)), j]) _ _ ⟨_, rfl⟩ ?_ ?_
  · rintro k z _ N hz hN ⟨j, rfl⟩
    obtain ⟨i, hi, rfl⟩ := List.mem_map.mp hz
    rw [List.mem_range, ivs_len] at hi
    show sIf _ _ _ _ [.val (.list (ivs f)), .val (.list (ivs g)), iv (1 + (i : Int))]
    have e1 : (1 + (i : Int)) = ((i + 1 : Nat) : Int) := by omega
    rw [e1]
    have c1 : EvT (dTest (dOp dEq (dOp dMod (dF1 fLen (dVar 1)) (dVar 2)) (dC (.int 0)))) [.val (.list (ivs f)), .val (.list (ivs g)), iv ((i + 1 : Nat) : Int)] _ := evt_eq (ev_mod (ev_len9L (ev_var 1 rfl)) (ev_var 2 rfl) (by omega)) ev_c
    have cb : Ev (dNew (nSl (dVar 1) (oNone) (oSome (dVar 2)))) [.val (.list (ivs f)), .val (.list (ivs g)), iv ((i + 1 : Nat) : Int)] (.list (ivs (g.take (i + 1)))) := by
      have := ev_cutL (ρ := [.val (.list (ivs f)), .val (.list (ivs g)), iv ((i + 1 : Nat) : Int)]) (a := dVar 1) (ds := ivs g) (ev_var 1 rfl) o_none (o_int (a := dVar 2) (ev_var 2 rfl))
      rwa [cutN, ivs_takeN] at this
    have cf : Ev (dOp dFdiv (dF1 fLen (dVar 1)) (dVar 2)) [.val (.list (ivs f)), .val (.list (ivs g)), iv ((i + 1 : Nat) : Int)] (.int ((g.length / (i + 1) : Nat) : Int)) := by
      refine ev_as (ev_fdiv (ev_len9L (ev_var 1 rfl)) (ev_var 2 rfl) ⟨by omega, ?_⟩) ?_
      · have : Bd 8 ((i + 1 : Nat) : Int) := by unfold Bd; omega
        exact this.log (by omega)
      · rw [ivs_len, fd_pos (by omega)]
        rfl
    have dl : g.length / (i + 1) ≤ 10 := Nat.le_trans (Nat.div_le_self _ _) hg
    have c2 : EvT (dTest (dOp dEq (dVar 1) (dOp dMulL (dNew (nSl (dVar 1) (oNone) (oSome (dVar 2)))) (dOp dFdiv (dF1 fLen (dVar 1)) (dVar 2))))) [.val (.list (ivs f)), .val (.list (ivs g)), iv ((i + 1 : Nat) : Int)] (PyData.eqv (.list (ivs g)) (.list (ivs (List.replicate (g.length / (i + 1)) (g.take (i + 1))).flatten))) := by
      refine evt_eqD (ev_var 1 rfl) (ev_op cb cf fun k hk => ?_) sg (ivs_shp _).1
      refine ⟨Int.natCast_nonneg _, Int.le_trans (Int.ofNat_le.mpr dl) (by decide), by rw [ivs_len, List.length_take]; omega, ?_⟩
      rw [Int.toNat_natCast, ivs_rep]
      exact hk
    have key := evt_and c1 fun _ => c2
    refine s_if key ?_
    split
    · exact s_ret ev_c (hq false)
    · exact hN _ ⟨_, rfl⟩
  · rintro _ ⟨j, rfl⟩
    dsimp only
    have lastL : ∀ {l : List Int} {i : Nat}, l ≠ [] → ([.val (.list (ivs f)), .val (.list (ivs g)), j] : DSt)[i]? = some (.val (.list (ivs l))) → ∃ v : Int, Ev (dOp atD (dVar i) (dNeg (dC (.int 1)))) [.val (.list (ivs f)), .val (.list (ivs g)), j] (.int v) := by
      intro l i hl hi
      obtain ⟨L, v, rfl⟩ : ∃ L v, l = L ++ [v] := ⟨_, _, (List.dropLast_concat_getLast hl).symm⟩
      refine ⟨v, ev_op (ev_var i hi) ev_ng1 fun k hk => ?_⟩
      rw [ivs_snoc]
      show (match atI (ivs L ++ [.int v]) (-1) with | some d => k d | none => False)
      rw [at_last]
      exact hk
    have e0 : ∀ {l : List Int} {i : Nat}, ([.val (.list (ivs f)), .val (.list (ivs g)), j] : DSt)[i]? = some (.val (.list (ivs l))) → Ev (dOp dEq (dVar i) (dNew (nLst (dNil)))) [.val (.list (ivs f)), .val (.list (ivs g)), j] (.bool (decide (l = []))) := by
      intro l i hi
      refine ev_as (ev_eqD (ev_var i hi) ev_newL (ivs_shp _).1 rfl) ?_
      cases l <;> rfl
    obtain ⟨b, hb⟩ : ∃ b, Ev (dOrV (dOp dEq (dVar 0) (dNew (nLst (dNil)))) (dOrV (dOp dEq (dVar 1) (dNew (nLst (dNil)))) (dOp dNe (dOp atD (dVar 0) (dNeg (dC (.int 1)))) (dOp atD (dVar 1) (dNeg (dC (.int 1))))))) [.val (.list (ivs f)), .val (.list (ivs g)), j] (.bool b) := by
      by_cases h1 : f = []
      · exact ⟨_, ev_orV (v := false) (ev_as (e0 rfl) (by rw [decide_eq_true h1])) fun z => by cases z⟩
      · by_cases h2 : g = []
        · exact ⟨_, ev_orV (ev_as (e0 rfl) (by rw [decide_eq_false h1])) fun _ => ev_orV (v := false) (ev_as (e0 rfl) (by rw [decide_eq_true h2])) fun z => by cases z⟩
        · obtain ⟨u, hu⟩ := lastL (i := 0) h1 rfl
          obtain ⟨w, hw⟩ := lastL (i := 1) h2 rfl
          exact ⟨_, ev_orV (ev_as (e0 rfl) (by rw [decide_eq_false h1])) fun _ => ev_orV (ev_as (e0 rfl) (by rw [decide_eq_false h2])) fun _ => ev_nei hu hw⟩
    exact s_ret hb (hq b)
end KK

set_option maxHeartbeats 2000000
namespace KK
open PySem PySem.Spec L2 DL
theorem int_lenW {i : Int} (h : Bd 12000 i) : (Str.ofString (toString i)).length ≤ 12901 := by
  rw [PySem.ofString_length]
  refine PySem.int_text_length_le (k := 12900) (by decide) ?_
  unfold Bd at h
  by_cases z : i.natAbs = 0
  · rw [z]; decide
  · exact Nat.lt_of_lt_of_le ((Nat.log2_lt z).mpr h) (by decide)
theorem bd_showW {i : Int} (h : Bd 12000 i) : i.natAbs.log2 < 12900 := by
  unfold Bd at h
  by_cases z : i.natAbs = 0
  · rw [z]; decide
  · exact Nat.lt_of_lt_of_le ((Nat.log2_lt z).mpr h) (by decide)
theorem nu_wide {x : Nu} (h : Nb 12000 x) : wide x.D = true ∧ x.D.depth ≤ 60 ∧ x.D.shown.length ≤ sizeLine := by
  obtain ⟨h1, h2, h3, h4⟩ := h
  refine ⟨?_, (by show (1 : Nat) ≤ 60; decide), ?_⟩
  · show (decide _ && (decide _ && (decide _ && (decide _ && true)))) = true
    rw [decide_eq_true (bd_showW h1), decide_eq_true (bd_showW h2), decide_eq_true (bd_showW h3), decide_eq_true (bd_showW h4)]; rfl
  · have e := PySem.join_length_add [toString x.p, toString x.q, toString x.d, toString x.s] (by simp)
    have l1 := int_lenW h1
    have l2 := int_lenW h2
    have l3 := int_lenW h3
    have l4 := int_lenW h4
    simp only [PySem.piled_cons, PySem.piled_nil] at e
    show (("(" : Str) ++ Str.join ", " [toString x.p, toString x.q, toString x.d, toString x.s] ++ (")" : Str)).length ≤ sizeLine
    rw [Str.length_append, Str.length_append]
    have o1 : ("(" : Str).length = 1 := rfl
    have o2 : (")" : Str).length = 1 := rfl
    rw [o1, o2, sizeLine_eq]
    omega
theorem s_setP {ρ : DSt} {a : TED} {n : TSD} {D : DEnds} {i : Nat} (P : PyData → DSt → Prop) (h : ∀ Q : R → DSt → Prop, (∀ z ρ', P z ρ' → Q (.d z) ρ') → a ρ Q) (k : ∀ z ρ', P z ρ' → n D (ρ'.set i (.val z))) : sSeq (sSet i a) n D ρ := h _ fun z ρ' hp => k z ρ' hp
theorem Sok.le {m n : Nat} {s : Spl} (h : Sok m s) (e : m ≤ n) : Sok n s := ⟨h.1, by have := h.2.1; omega, h.2.2⟩
section
variable {ρ:DSt} {i:Nat} {io:Bool} {ds:List PyData}
theorem vw_own (h : ρ[i]? = some (.own io ds)) {k : PyData → Prop} (q : k (.list ds)) : vw ρ (.s i) k := by
  show (match ρ[i]? with | some (.val d) => k d | some (.own _ ds) => k (.list ds) | _ => False)
  rw [h]
  exact q
end
section
variable {ρ:DSt} {a b:TED}
theorem eo_op {i : Nat} {io : Bool} {ds : List PyData} {f : PyData → PyData → (PyData → Prop) → Prop} {y z : PyData} (h : ρ[i]? = some (.own io ds)) (hb : Ev b ρ y) (hf : ∀ k : PyData → Prop, k z → f (.list ds) y k) : Ev (dOp f (dVar i) b) ρ z := fun Q k => by
  refine ⟨by rw [h]; trivial, ?_⟩
  refine hb _ fun r2 h2 _ => vw_own h (k := fun x => vw ρ r2 fun y => f x y fun z => Q (.d z) ρ) (h2 _ (hf _ (k _ (fun _ h => h) (fun _ h => h))))
theorem ev_catL {ds es : List PyData} (ha : Ev a ρ (.list ds)) (hb : Ev b ρ (.list es)) (h1 : ds.length ≤ 1000) (h2 : es.length ≤ 1000) : Ev (dOp dAdd a b) ρ (.list (ds ++ es)) := ev_op ha hb fun _ k => ⟨by rw [sizeLine_eq]; omega, k⟩
theorem s_forR {n : Int} {g : TGD} {t : TSD} {D : DEnds} (ha : Ev a ρ (.int n)) (h1 : -(2 ^ 62) ≤ n) (h2 : n < 2 ^ 62) (k : forD g t D ((List.range n.toNat).map fun (k : Nat) => .int (k : Int)) ρ) : sFor (range1D (dCons a dNil)) g t D ρ :=
  eva_cons ha eva_nil (fun ds ρ1 => asInt1 ds fun j => -(2 ^ 62) ≤ j ∧ j < 2 ^ 62 ∧ forD g t D ((List.range j.toNat).map fun (k : Nat) => .int (k : Int)) ρ1) ⟨h1, h2, k⟩
end
theorem forD_at {g : TGD} {t : TSD} {D : DEnds} (Inv : Nat → DSt → Prop) : ∀ (items : List PyData) (i0 : Nat) (ρ : DSt), Inv i0 ρ → (∀ i x ρ (N : DSt → Prop), items[i]? = some x → (∀ ρ', Inv (i0 + i + 1) ρ' → N ρ') → Inv (i0 + i) ρ → g x ρ fun ρ1 => t { D with nx := N, ct := N, bk := D.nx } ρ1) →
    (∀ ρ, Inv (i0 + items.length) ρ → D.nx ρ) → forD g t D items ρ
  | [], i0, ρ, h, _, fin => fin ρ h
  | x :: xs, i0, ρ, h, step, fin => step 0 x ρ (forD g t D xs) rfl (fun ρ' h' => forD_at Inv xs (i0 + 1) ρ' h' (fun i y ρ N hy hN hi => step (i + 1) y ρ N (by simpa using hy) (fun ρ' h => hN ρ' (by rwa [show i0 + 1 + i + 1 = i0 + (i + 1) + 1 by omega])) (by rwa [show i0 + (i + 1) = i0 + 1 + i by omega])) fun ρ h => fin ρ (by rwa [show i0 + (x :: xs).length = i0 + 1 + xs.length by simp; omega])) h
theorem ev_p10 {ρ : DSt} (n : Nat) (h : n ≤ 1000 := by decide) : Ev (dOp dPow (dC (.int 10)) (dC (.int (n : Int)))) ρ (.int (10 ^ n)) := ev_as (ev_pow ev_c ev_c ⟨by omega, by omega, by decide⟩) (by simp)
end KK

set_option maxHeartbeats 2000000
namespace KK
open PySem PySem.Spec L2 DL
/-! ### the law: one ratio -/
/-- what the quotients f and the period g stand for -/
def Inp (f g : List Int) : Prop := f.length ≤ 100 ∧ g.length ≤ 10 ∧
  ((g = [] ∧ ∃ L v x, f = L ++ [v] ∧ 1 ≤ v ∧ v ≤ 10 ∧ Cz L (nint v) x) ∨
   (g ≠ [] ∧ g.length < 5 ∧ (∀ q ∈ g, 0 ≤ q ∧ q < 21) ∧ ∃ y x, numY g y ∧ Dr y.d ∧ sqfree y.d ∧ y.q ≠ 0 ∧ Kd y ∧ Cz g y y ∧ Cz f y x))
def tE11 (W : WD) : TSD := sIf (dNot (dTest (dCall p__law_alike W (dCons (dVar 6) (dCons (dCall p__law_lowest W (dCons (dOp atD (dVar 6) (dC (.int 0))) (dCons (dOp atD (dVar 6) (dC (.int 1))) (dCons (dOp atD (dVar 6) (dC (.int 2))) (dCons (dOp atD (dVar 6) (dC (.int 3))) (dNil)))))) (dNil)))))) (sRet (dC (.bool false))) (sNext)
def tD11 (W : WD) : TSD := sSeq (sIf (dTest (dOp dEq (dVar 5) (dNew (nLst (dNil))))) (sIf (dOr (dTest (dOp dNe (dVar 7) (dC (.str "end")))) (dTest (dOp dNe (dSl (dVar 6) (oSome (dC (.int 1))) (oSome (dC (.int 3)))) (dTup (dCons (dC (.int 0)) (dCons (dC (.int 0)) (dNil))))))) (sRet (dC (.bool false))) (sNext)) (sIf (dOr (dTest (dOp dIs (dVar 7) (dC .none))) (dOr (dTest (dOp dEq (dVar 7) (dC (.str "end")))) (dOr (dTest (dOp dNe (dCall p__law_behind W (dCons (dVar 7) (dCons (dVar 5) (dNil)))) (dVar 7))) (dTest (dOp dEq (dOp atD (dVar 6) (dC (.int 1))) (dC (.int 0))))))) (sRet (dC (.bool false))) (sNext))) (tE11 W)
def tC11 (W : WD) : TSD := sSeq (sSet 6 (dCall p_number_of W (dCons (dTup (dCons (dF1 fTup (dVar 4)) (dCons (dF1 fTup (dVar 5)) (dNil)))) (dNil)))) (sSeq (sIf (dOr (dNot (dTest (dIsD isTupD (dVar 6)))) (dOr (dTest (dOp dNe (dF1 fLen (dVar 6)) (dC (.int 4)))) (dTest (dOp dNe (dCall p__law_sign_of W (dCons (dVar 6) (dNil))) (dC (.int 1)))))) (sRet (dC (.bool false))) (sNext)) (sSeq (sSet 7 (dIf (dTest (dOp dNe (dVar 4) (dNew (nLst (dNil))))) (dCall p__law_behind W (dCons (dVar 6) (dCons (dVar 4) (dNil)))) (dVar 6))) (tD11 W)))
section
variable {W : WD} {D : DEnds} {c0 c1 c2 c3 c8 : SD} {f g : List Int} {x : Nu}
theorem tE11_ok (hx : Rt1 x) (c4 c5 c7 : SD) (k : D.nx [c0, c1, c2, c3, c4, c5, .val x.D, c7, c8]) : tE11 W D [c0, c1, c2, c3, c4, c5, .val x.D, c7, c8] := by
  obtain ⟨gx, cx, _, _⟩ := hx
  have lw : Ev (dCall p__law_lowest W (dCons (dOp atD (dVar 6) (dC (.int 0))) (dCons (dOp atD (dVar 6) (dC (.int 1))) (dCons (dOp atD (dVar 6) (dC (.int 2))) (dCons (dOp atD (dVar 6) (dC (.int 3))) (dNil)))))) [c0, c1, c2, c3, c4, c5, .val x.D, c7, c8] x.D :=
    ev_as (ev_call (zs := [.int x.p, .int x.q, .int x.d, .int x.s]) (eva_cons (ev_p (ev_var 6 rfl)) (eva_cons (ev_q (ev_var 6 rfl)) (eva_cons (ev_d (ev_var 6 rfl)) (eva_cons (ev_s (ev_var 6 rfl)) eva_nil)))) fun QD ED hq => ⟨_, _, _, _, rfl, by have := cx.1; omega, gx.d0.2, by rw [cx.2.1]; unfold Bd; exact Nat.one_lt_two_pow (by omega), hq⟩) (by rw [cnl_eq cx])
  obtain ⟨w1, w2, w3⟩ := nu_wide (nb_mono gx.b (show 5013 ≤ 12000 by omega))
  unfold tE11
  exact s_ifF (show EvT _ _ (!true) from evt_not (evt_test (ev_call (zs := [x.D, x.D]) (eva_cons (ev_var 6 rfl) (eva_cons lw eva_nil)) fun QD ED hq => ⟨x.D, rfl, w1, w2, w3, hq⟩))) k
theorem end_shp : SeqAt.shaped (.str "end") = true := by decide +kernel
theorem ev_emp {ρ : DSt} {i : Nat} (h : ρ[i]? = some (.val (.list (ivs f)))) : EvT (dTest (dOp dEq (dVar i) (dNew (nLst (dNil))))) ρ (decide (f = [])) := by
  refine evt_as (evt_eqD (ev_var i h) ev_newL (ivs_shp _).1 rfl) ?_
  cases f <;> rfl
theorem ev_nemp {ρ : DSt} {i : Nat} (h : ρ[i]? = some (.val (.list (ivs f)))) : EvT (dTest (dOp dNe (dVar i) (dNew (nLst (dNil))))) ρ (!decide (f = [])) := by
  refine evt_as (evt_neD (ev_var i h) ev_newL (ivs_shp _).1 rfl) ?_
  cases f <;> rfl
theorem ev_tupL {ρ : DSt} {i : Nat} (h : ρ[i]? = some (.val (.list (ivs f)))) : Ev (dF1 fTup (dVar i)) ρ (.tuple (ivs f)) := ev_f1 (ev_var i h) fun k hk => hk
theorem tD11_fin (hx : Rt1 x) (hq : x.q = 0) (hg : g = []) (c4 : SD) (k : ∀ j7, D.nx [c0, c1, c2, c3, c4, .val (.list (ivs g)), .val x.D, j7, c8]) : tD11 W D [c0, c1, c2, c3, c4, .val (.list (ivs g)), .val x.D, .val (.str "end"), c8] := by
  unfold tD11
  refine s_seq (s_ifT (evt_as (ev_emp (f := g) rfl) (decide_eq_true hg)) ?_)
  refine s_ifF (evt_or0 (evt_as (evt_neD (ev_var 7 rfl) ev_c end_shp end_shp) (by decide +kernel)) ?_) (tE11_ok hx _ _ _ (k _))
  have hd : x.d = 0 := hx.2.1.2.2 hq
  have e1 : Ev (dSl (dVar 6) (oSome (dC (.int 1))) (oSome (dC (.int 3)))) [c0, c1, c2, c3, c4, .val (.list (ivs g)), .val x.D, .val (.str "end"), c8] (.tuple [.int x.q, .int x.d]) := ev_slT (ds := [.int x.p, .int x.q, .int x.d, .int x.s]) (ev_var 6 rfl) (o_int (a := dC (.int 1)) ev_c) (o_int (a := dC (.int 3)) ev_c)
  rw [hq, hd] at e1
  exact evt_as (evt_neD e1 (ev_tup (zs := [.int 0, .int 0]) (eva_cons ev_c (eva_cons ev_c eva_nil)) (by simp))) (by decide)
theorem tD11_per {y : Nu} (hx : Rt1 x) (hq : x.q ≠ 0) (hg : g ≠ []) (hl : g.length ≤ 10) (hc : Cz g y y) (c4 : SD) (k : ∀ j7, D.nx [c0, c1, c2, c3, c4, .val (.list (ivs g)), .val x.D, j7, c8]) : tD11 W D [c0, c1, c2, c3, c4, .val (.list (ivs g)), .val x.D, .val y.D, c8] := by
  unfold tD11
  refine s_seq (s_ifF (evt_as (ev_emp (f := g) rfl) (decide_eq_false hg)) ?_)
  refine s_ifF (evt_or0 (evt_isN (z := y.D) rfl) (evt_or0 (evt_as (evt_eqD (y := y.D) (ev_var 7 rfl) ev_c (by rfl) end_shp) (by rfl)) (evt_or0 ?_ ?_))) (tE11_ok hx _ _ _ (k _))
  · refine ev_ne (z := y.D) (w := y.D) (ev_call (zs := [y.D, .list (ivs g)]) (eva_cons (ev_var 7 rfl) (eva_cons (ev_var 5 rfl) eva_nil)) fun QD ED hq => ⟨g, y, _, rfl, by omega, .inl ⟨y, hc, rfl⟩, hq⟩) (ev_var 7 rfl) (by rfl) (by rfl) (by rw [nu_eqv3]; simp)
  · exact evt_as (evt_eq (ev_q (ev_var 6 rfl)) ev_c) (decide_eq_false hq)
theorem tC11_ok (h : Inp f g) (c6 c7 : SD) (k : ∀ j4 j5 j6 j7, D.nx [c0, c1, c2, c3, j4, j5, j6, j7, c8]) : tC11 W D [c0, c1, c2, c3, .val (.list (ivs f)), .val (.list (ivs g)), c6, c7, c8] := by
  obtain ⟨l1, l2, h⟩ := h
  unfold tC11
  have nm : ∀ {x : Nu}, (∀ QD ED, QD (.d x.D) [.val (prt f g)] → p_number_of [.val (prt f g)] QD ED) → Ev (dCall p_number_of W (dCons (dTup (dCons (dF1 fTup (dVar 4)) (dCons (dF1 fTup (dVar 5)) (dNil)))) (dNil))) [c0, c1, c2, c3, .val (.list (ivs f)), .val (.list (ivs g)), c6, c7, c8] x.D := by
    intro x hp
    exact ev_call (zs := [prt f g]) (eva_cons (ev_tup (zs := [.tuple (ivs f), .tuple (ivs g)]) (eva_cons (ev_tupL rfl) (eva_cons (ev_tupL rfl) eva_nil)) (by simp)) eva_nil) fun QD ED hq => hp QD ED hq
  have chk : ∀ {x : Nu} {t : TSD}, Rt1 x → t D [c0, c1, c2, c3, .val (.list (ivs f)), .val (.list (ivs g)), .val x.D, c7, c8] →
      sSeq (sIf (dOr (dNot (dTest (dIsD isTupD (dVar 6)))) (dOr (dTest (dOp dNe (dF1 fLen (dVar 6)) (dC (.int 4)))) (dTest (dOp dNe (dCall p__law_sign_of W (dCons (dVar 6) (dNil))) (dC (.int 1)))))) (sRet (dC (.bool false))) (sNext)) t D [c0, c1, c2, c3, .val (.list (ivs f)), .val (.list (ivs g)), .val x.D, c7, c8] := by
    intro x t hx ht
    obtain ⟨gx, cx, sx, px⟩ := hx
    refine s_chk (evt_or0 (show EvT _ _ (!true) from evt_not (evt_test (ev_isD isTupD (ev_var (z := x.D) 6 rfl)))) (evt_or0 (ev_neI (ev_f1 (z := .int 4) (x := x.D) (ev_var 6 rfl) fun k hk => hk) ev_c rfl) ?_)) ht
    exact ev_neI (ev_call (zs := [x.D]) (eva_cons (ev_var 6 rfl) eva_nil) fun QD ED hq => ⟨x, rfl, gx.mono (by omega), px, hq⟩) ev_c sx
  rcases h with ⟨hg, L, v, x, rfl, v1, v2, hc⟩ | ⟨hg, g5, gb, y, x, hn, hd, hsq, hyq, ky, hyy, hc⟩
  · have hx := cz_rt (nint_rt v1 v2) L hc
    have hq : x.q = 0 := (cz_q L hc).mpr rfl
    refine s_set (z := x.D) (nm fun QD ED hq => ⟨L ++ [v], g, x, rfl, by omega, .inl ⟨hg, L, v, rfl, hc⟩, hq⟩) ?_
    refine chk hx ?_
    refine s_set (z := .str "end") (ev_ifT (evt_as (ev_nemp rfl) (by simp)) (ev_call (zs := [x.D, .list (ivs (L ++ [v]))]) (eva_cons (ev_var 6 rfl) (eva_cons (ev_var 4 rfl) eva_nil)) fun QD ED hq => ⟨L ++ [v], x, _, rfl, l1, .inr ⟨L, v, rfl, hc, v1, v2, rfl⟩, hq⟩)) ?_
    exact tD11_fin hx hq hg _ fun j7 => k _ _ _ _
  · have hx := cz_rt ky.rt f hc
    have hq : x.q ≠ 0 := fun z => hyq ((cz_q f hc).mp z)
    refine s_set (z := x.D) (nm fun QD ED hq => ⟨f, g, x, rfl, by omega, .inr ⟨hg, g5, gb, y, hn, hd, hsq, hc⟩, hq⟩) ?_
    refine chk hx ?_
    refine s_set (z := y.D) ?_ (tD11_per hx hq hg l2 hyy _ fun j7 => k _ _ _ _)
    by_cases hf : f = []
    · subst hf
      have hc : x = y := hc
      subst hc
      exact ev_ifF (evt_as (ev_nemp (f := []) rfl) (by simp)) (ev_var 6 rfl)
    · exact ev_ifT (evt_as (ev_nemp rfl) (by simp [hf])) (ev_call (zs := [x.D, .list (ivs f)]) (eva_cons (ev_var 6 rfl) (eva_cons (ev_var 4 rfl) eva_nil)) fun QD ED hq => ⟨f, x, _, rfl, l1, .inl ⟨y, hc, rfl⟩, hq⟩)
end
end KK

set_option maxHeartbeats 2000000
namespace KK
open PySem PySem.Spec L2 DL
/-! ### quotients drawn -/
def Fq : List Int → Prop
  | [] => True
  | h :: T => 0 ≤ h ∧ h ≤ 10 ^ 12 ∧ ∀ q ∈ T, 1 ≤ q ∧ q ≤ 10 ^ 12
def Gq (g : List Int) : Prop := g.length ≤ 4 ∧ ∀ q ∈ g, 1 ≤ q ∧ q ≤ 20
theorem rq_lt {m n : Nat} (hm : m ≤ 1048576) (hn : n ≤ 60) : m * RQ ^ n < 2 ^ 4960 := Nat.lt_of_le_of_lt (Nat.mul_le_mul hm (Nat.pow_le_pow_right (by decide) hn)) (show 1048576 * RQ ^ 60 < 2 ^ 4960 by decide +kernel)
theorem cz_ex {y : Nu} {m : Nat} (hm : m ≤ 1048576) (fm : Fm m y) (lo : 0 ≤ sgv y KQ (KQ + 1)) (hi : sgv y 1 KQ ≤ 0) : ∀ f : List Int, Fq f → f.length ≤ 60 → ∃ x, Cz f y x
  | [], _, _ => ⟨y, rfl⟩
  | h :: T, ⟨h0, h1, hT⟩, hl => by
    have hl : T.length ≤ 60 := by rw [List.length_cons] at hl; omega
    obtain ⟨x, hx, fx, l1, l2⟩ := cz_up fm lo hi T hT (rq_lt hm hl)
    exact ⟨_, x, ⟨⟨_, rq_lt hm hl, fx⟩, l1, l2⟩, h0, h1, rfl, hx⟩
theorem inp_fin {L : List Int} {v : Int} (hL : Fq L) (hl : L.length ≤ 60) (v1 : 1 ≤ v) (v2 : v ≤ 10) (h : L = [] ∨ 2 ≤ v) : Inp (L ++ [v]) [] := by
  refine ⟨by rw [List.length_append]; simp; omega, by decide, .inl ⟨rfl, L, v, ?_⟩⟩
  have : ∃ x, Cz L (nint v) x := by
    rcases h with rfl | h
    · exact ⟨_, rfl⟩
    · obtain ⟨fm, lo, hi⟩ := nint_fm h v2
      exact cz_ex (by decide) fm lo hi L hL hl
  obtain ⟨x, hx⟩ := this
  exact ⟨x, rfl, v1, v2, hx⟩
theorem inp_per {f g : List Int} (hf : Fq f) (hl : f.length ≤ 60) (hg : g ≠ []) (h : Gq g) : Inp f g := by
  obtain ⟨y, hn, hd, hs, hq, fm, lo, hi, hy⟩ := period_ok hg h.1 h.2
  obtain ⟨x, hx⟩ := cz_ex (Nat.le_refl _) fm lo hi f hf hl
  exact ⟨by omega, by have := h.1; omega, .inr ⟨hg, by have := h.1; omega, fun q hq => by have := h.2 q hq; omega, y, x, hn, hd, hs, hq, ⟨⟨_, Nat.lt_of_le_of_lt (Nat.le_refl _) (show 1048576 < 2 ^ 4960 by decide +kernel), fm⟩, lo, hi⟩, hy, hx⟩⟩
def tB11 (W : WD) : TSD := sSeq (sIf (dTest (dOp dEq (dVar 5) (dNew (nLst (dNil))))) (sSet 4 (dIf (dTest (dOp dNe (dVar 4) (dNew (nLst (dNil))))) (dOp dAdd (dVar 4) (dNew (nLst (dCons (dOp dAdd (dC (.int 2)) (withLent 1 (dCallL p__law_upto W 1 (dCons (dC (.int 9)) (dNil))))) (dNil))))) (dNew (nLst (dCons (dOp dAdd (dC (.int 1)) (withLent 1 (dCallL p__law_upto W 1 (dCons (dC (.int 9)) (dNil))))) (dNil)))))) (sNext)) (tC11 W)
def tA11b (W : WD) : TSD := (sSeq (sPar 4 5 (dCons (dNew (nSl (dVar 4) (oNone) (oSome (dC (.int 1))))) (dCons (dNew (nLst (dCons (dOp dAdd (dC (.int 3)) (withLent 1 (dCallL p__law_upto W 1 (dCons (dC (.int 5)) (dNil))))) (dCons (dC (.int 2)) (dCons (dC (.int 1)) (dNil)))))) (dNil)))) (sSet 4 (dIf (dTest (dOp dNe (dVar 4) (dNew (nLst (dCons (dC (.int 1)) (dNil)))))) (dVar 4) (dNew (nLst (dNil))))))
def tA11 (W : WD) : TSD := sSeq (sIf (dNot (dTest (dCall p__law_is_shortest W (dCons (dVar 4) (dCons (dVar 5) (dNil)))))) (tA11b W) (sNext)) (tB11 W)
def t911 (W : WD) : TSD := sSeq (sIf (dAnd (dTest (dOp dNe (dVar 4) (dNew (nLst (dNil))))) (dTest (dOp dEq (withLent 1 (dCallL p__law_upto W 1 (dCons (dC (.int 3)) (dNil)))) (dC (.int 0))))) (sPut 4 (dC (.int 0)) (dC (.int 0))) (sNext)) (tA11 W)
section
variable {W : WD} {D : DEnds} {c0 c2 c3 c6 c7 c8 : SD} {f g : List Int} {s : Spl} {m : Nat}
theorem bd1 {n : Nat} {i : Int} (h : i.natAbs < 2 ^ 10) (hn : 10 ≤ n) : Bd n i := (show Bd 10 i from h).mono hn
theorem s_setP1 {ρ : DSt} {a : TED} {D : DEnds} {i : Nat} (P : PyData → DSt → Prop) (h : ∀ Q : R → DSt → Prop, (∀ z ρ', P z ρ' → Q (.d z) ρ') → a ρ Q) (k : ∀ z ρ', P z ρ' → D.nx (ρ'.set i (.val z))) : sSet i a D ρ := h _ fun z ρ' hp => k z ρ' hp
theorem s_parD {ρ : DSt} {a : TED} {dr : TND} {x : PyData} {i j : Nat} {n : TSD} {D : DEnds} (ha : Ev a ρ x) (P : PyData → DSt → Prop) (h : ∀ Q : List PyData → DSt → Prop, (∀ z ρ', P z ρ' → Q [z] ρ') → dr ρ Q) (k : ∀ z ρ', P z ρ' → n D ((ρ'.set i (.val x)).set j (.val z))) : sSeq (sPar i j (dCons a dr)) n D ρ := x_cons (QN := fun ds ρ1 => match ds with | [x, y] => n D ((ρ1.set i (.val x)).set j (.val y)) | _ => False) ha (h _ fun z ρ' hp => k z ρ' hp)
theorem tB11_ok (hf : Fq f) (hl : f.length ≤ 60) (hg : Gq g) (hs : Sok m s) (hm : m < 2 ^ 40) (k : ∀ (s' : Spl) (j4 j5 j6 j7 : SD), Sok (m + 1) s' → D.nx [c0, .own false s'.L, c2, c3, j4, j5, j6, j7, c8]) :
    tB11 W D [c0, .own false s.L, c2, c3, .val (.list (ivs f)), .val (.list (ivs g)), c6, c7, c8] := by
  unfold tB11
  by_cases hgn : g = []
  · refine s_seq (s_ifT (evt_as (ev_emp (f := g) rfl) (decide_eq_true hgn)) ?_)
    refine s_setP1 (fun z ρ' => ∃ (v : Int) (s' : Spl), z = .list (ivs (f ++ [v])) ∧ (1 ≤ v ∧ v ≤ 10) ∧ (f = [] ∨ 2 ≤ v) ∧ Sok (m + 1) s' ∧ ρ' = [c0, .own false s'.L, c2, c3, .val (.list (ivs f)), .val (.list (ivs g)), c6, c7, c8]) (fun Q hQ => ?_) ?_
    · refine ev_nemp (f := f) (i := 4) rfl _ ?_
      by_cases hfn : f = []
      · rw [decide_eq_true hfn]
        show withLent 1 _ _ _
        refine dr_uptoJ 1 (b := 9) rfl ev_c hs (by omega) (by decide) (bd1 (by decide) (by omega)) fun n s' n0 n1 hs' => ?_
        exact ⟨by rw [sizeLine_eq]; simp, hQ (.list (ivs [1 + n])) _ ⟨1 + n, s', by rw [hfn]; rfl, ⟨by omega, by omega⟩, .inl hfn, hs', rfl⟩⟩
      · rw [decide_eq_false hfn]
        refine ⟨trivial, ?_⟩
        show withLent 1 _ _ _
        refine dr_uptoJ 1 (b := 9) rfl ev_c hs (by omega) (by decide) (bd1 (by decide) (by omega)) fun n s' n0 n1 hs' => ?_
        refine ⟨by rw [sizeLine_eq]; simp, ?_⟩
        refine ⟨by rw [ivs_len, sizeLine_eq]; simp; omega, hQ (.list (ivs f ++ [.int (2 + n)])) _ ⟨2 + n, s', by rw [ivs_snoc], ⟨by omega, by omega⟩, .inr (by omega), hs', rfl⟩⟩
    · rintro _ _ ⟨v, s', rfl, ⟨v1, v2⟩, hv, hs', rfl⟩
      show tC11 W D [c0, .own false s'.L, c2, c3, .val (.list (ivs (f ++ [v]))), .val (.list (ivs g)), c6, c7, c8]
      rw [hgn]
      exact tC11_ok (inp_fin hf hl v1 v2 hv) _ _ fun j4 j5 j6 j7 => k s' _ _ _ _ hs'
  · refine s_seq (s_ifF (evt_as (ev_emp (f := g) rfl) (decide_eq_false hgn)) ?_)
    exact tC11_ok (inp_per hf hl hgn hg) _ _ fun j4 j5 j6 j7 => k s _ _ _ _ (hs.le (by omega))
theorem fq_take (hf : Fq f) : Fq (f.take 1) := by
  cases f with
  | nil => trivial
  | cons h T => exact ⟨hf.1, hf.2.1, fun q hq => by simp at hq⟩
theorem tA11_ok (hf : Fq f) (hl : f.length ≤ 60) (hg : Gq g) (hs : Sok m s) (hm : m < 2 ^ 39) (k : ∀ (s' : Spl) (j4 j5 j6 j7 : SD), Sok (m + 2) s' → D.nx [c0, .own false s'.L, c2, c3, j4, j5, j6, j7, c8]) :
    tA11 W D [c0, .own false s.L, c2, c3, .own false (ivs f), .own false (ivs g), c6, c7, c8] := by
  unfold tA11
  refine ⟨trivial, trivial, f, g, rfl, by omega, by have := hg.1; omega, fun b => ?_⟩
  cases b with
  | true => exact tB11_ok hf hl hg hs (by omega) fun s' j4 j5 j6 j7 hs' => k s' _ _ _ _ (hs'.le (by omega))
  | false =>
    show tA11b W { D with nx := tB11 W D } [c0, .own false s.L, c2, c3, .val (.list (ivs f)), .val (.list (ivs g)), c6, c7, c8]
    have c1 : Ev (dNew (nSl (dVar 4) (oNone) (oSome (dC (.int 1))))) [c0, .own false s.L, c2, c3, .val (.list (ivs f)), .val (.list (ivs g)), c6, c7, c8] (.list (ivs (f.take 1))) := by
      have := ev_cutL (ρ := [c0, .own false s.L, c2, c3, .val (.list (ivs f)), .val (.list (ivs g)), c6, c7, c8]) (a := dVar 4) (ds := ivs f) (ev_var 4 rfl) o_none (o_int (a := dC (.int 1)) ev_c)
      rwa [show (1 : Int) = ((1 : Nat) : Int) from rfl, cutN, ivs_takeN] at this
    refine s_parD c1 (fun z ρ' => ∃ (n : Int) (s' : Spl), z = .list (ivs [3 + n, 2, 1]) ∧ (0 ≤ n ∧ n < 5) ∧ Sok (m + 1) s' ∧ ρ' = [c0, .own false s'.L, c2, c3, .val (.list (ivs f)), .val (.list (ivs g)), c6, c7, c8]) (fun Q hQ => ?_) ?_
    · show withLent 1 _ _ _
      refine dr_uptoJ 1 (b := 5) rfl ev_c hs (by omega) (by decide) (bd1 (by decide) (by omega)) fun n s' n0 n1 hs' => ?_
      exact ⟨by rw [sizeLine_eq]; simp, hQ (.list (ivs [3 + n, 2, 1])) _ ⟨n, s', rfl, ⟨n0, n1⟩, hs', rfl⟩⟩
    rintro _ _ ⟨n, s', rfl, ⟨n0, n1⟩, hs', rfl⟩
    show sSet 4 _ _ [c0, .own false s'.L, c2, c3, .val (.list (ivs (f.take 1))), .val (.list (ivs [3 + n, 2, 1])), c6, c7, c8]
    have hg' : Gq [3 + n, 2, 1] := ⟨by simp, fun q hq => by
      simp only [List.mem_cons, List.not_mem_nil, or_false] at hq
      omega⟩
    have fin : ∀ f' : List Int, Fq f' → f'.length ≤ 60 → tB11 W D [c0, .own false s'.L, c2, c3, .val (.list (ivs f')), .val (.list (ivs [3 + n, 2, 1])), c6, c7, c8] := fun f' hf' hl' => tB11_ok hf' hl' hg' hs' (show m + 1 < 2 ^ 40 by omega) fun s2 j4 j5 j6 j7 hs2 => k s2 _ _ _ _ hs2
    have t1 : EvT (dTest (dOp dNe (dVar 4) (dNew (nLst (dCons (dC (.int 1)) (dNil)))))) [c0, .own false s'.L, c2, c3, .val (.list (ivs (f.take 1))), .val (.list (ivs [3 + n, 2, 1])), c6, c7, c8] (!PyData.eqv (.list (ivs (f.take 1))) (.list [.int 1])) := evt_neD (ev_var 4 rfl) (ev_new (zs := [.int 1]) (eva_cons ev_c eva_nil) (by simp)) (ivs_shp _).1 rfl
    refine t1 _ ?_
    cases (!PyData.eqv (.list (ivs (f.take 1))) (.list [.int 1])) with
    | true => exact ⟨trivial, fin _ (fq_take hf) (by rw [List.length_take]; omega)⟩
    | false => exact ev_newL _ fun r _ h2 => h2 _ (fin [] trivial (by simp))
end
end KK

set_option maxHeartbeats 2000000
namespace KK
open PySem PySem.Spec L2 DL
/-! ### the law -/
def t811 (W : WD) : TSD := sSeq (sOwn 5 (nLc [8] (range1D (dCons (withLent 1 (dCallL p__law_upto W 1 (dCons (dC (.int 5)) (dNil)))) (dNil))) (gName' 8) (dYes) (dOp dAdd (dC (.int 1)) (withLent 1 (dCallL p__law_upto W0 1 (dCons (withLent 1 (dCallL p__law_choice W0 1 (dCons (dNew (nLst (dCons (dC (.int 1)) (dCons (dC (.int 3)) (dCons (dC (.int 20)) (dNil)))))) (dNil)))) (dNil))))))) (t911 W)
def t711 (W : WD) : TSD := sSeq (sOwn 4 (nLc [8] (range1D (dCons (dVar 3) (dNil))) (gName' 8) (dYes) (dOp dAdd (dC (.int 1)) (withLent 1 (dCallL p__law_upto W0 1 (dCons (withLent 1 (dCallL p__law_choice W0 1 (dCons (dNew (nLst (dCons (dC (.int 2)) (dCons (dC (.int 5)) (dCons (dC (.int 20)) (dCons (dOp dPow (dC (.int 10)) (dC (.int 12))) (dNil))))))) (dNil)))) (dNil))))))) (t811 W)
def turn11 (W : WD) : TSD := sSeq (sSet 3 (withLent 1 (dCallL p__law_upto W 1 (dCons (withLent 1 (dCallL p__law_choice W 1 (dCons (dNew (nLst (dCons (dC (.int 7)) (dCons (dC (.int 7)) (dCons (dC (.int 60)) (dNil)))))) (dNil)))) (dNil))))) (t711 W)
theorem r_law_eq11 (W : WD) : r_law W = sSeq (sOwn 1 (withLentN 0 (nCallL p__law_spool_of W 0 (dNil)))) (sSeq (sFor (range1D (dCons (dC (.int 10)) (dNil))) (gName' 2) (turn11 W)) (sRet (dC (.bool true)))) := rfl
theorem dr_nest {ρ : DSt} {X : TND} {zs : List PyData} {V : WD} {s : Spl} {m : Nat} {Q : R → DSt → Prop} (h : ρ[1]? = some (.own false s.L)) (hi : 1 < ρ.length) (hX : Ev (dNew (nLst X)) ρ (.list zs)) (hz : ∀ z ∈ zs, ∃ b : Int, z = .int b ∧ 0 < b ∧ Bd 1000 b) (hn : zs ≠ []) (hl : zs.length < 1000) (hs : Sok m s) (hm : m < 2 ^ 49)
    (k : ∀ n b s', PyData.int b ∈ zs → 0 ≤ n → n < b → Sok (m + 2) s' → Q (.d (.int n)) (ρ.set 1 (.own false s'.L))) :
    withLent 1 (dCallL p__law_upto V 1 (dCons (withLent 1 (dCallL p__law_choice V 1 (dCons (dNew (nLst X)) (dNil)))) (dNil))) ρ Q := by
  refine ⟨by unfold isLent; rw [h]; trivial, ?_⟩
  show withLent 1 _ ρ _
  refine dr_choiceJ 1 h hX hs (by omega) hn hl fun z s1 hz1 hs1 => ?_
  obtain ⟨b, rfl, b0, bb⟩ := hz z hz1
  show lendK (ρ.set 1 (.own false s1.L)) 1 (fun s0 => p__law_upto (s0 :: [.val (.int b)]) (fun r α => backK (ρ.set 1 (.own false s1.L)) 1 α fun ρ2 => retD Q ρ2 r) (fun e α => backK (ρ.set 1 (.own false s1.L)) 1 α fun ρ2 => V e ρ2))
  have h1 : (ρ.set 1 (.own false s1.L))[1]? = some (.own false s1.L) := List.getElem?_set_self hi
  unfold lendK
  rw [h1]
  refine ⟨s1, m + 1, b, rfl, hs1, by omega, b0, bb.mono (by omega), fun n s' n0 n1 hs' => ?_⟩
  unfold backK
  rw [h1]
  have := k n b s' hz1 n0 n1 hs'
  show Q (.d (.int n)) ((ρ.set 1 (.own false s1.L)).set 1 (.own false s'.L))
  rw [List.set_set]
  exact this
theorem ivs_of {B : Int} : ∀ {ds : List PyData}, (∀ z ∈ ds, ∃ v : Int, z = .int v ∧ 1 ≤ v ∧ v ≤ B) → ∃ L : List Int, ds = ivs L ∧ ∀ q ∈ L, 1 ≤ q ∧ q ≤ B
  | [], _ => ⟨[], rfl, fun q h => nomatch h⟩
  | d :: ds, h => by
    obtain ⟨v, rfl, v1, v2⟩ := h d List.mem_cons_self
    obtain ⟨L, rfl, hL⟩ := ivs_of fun z hz => h z (List.mem_cons_of_mem _ hz)
    refine ⟨v :: L, rfl, fun q hq => ?_⟩
    rcases List.mem_cons.mp hq with z | z
    · rw [z]; exact ⟨v1, v2⟩
    · exact hL q z
section
variable {W : WD} {D : DEnds} {c0 c2 c3 c4 c5 c6 c7 c8 : SD} {f g : List Int} {s : Spl} {m : Nat}
/-- many quotients drawn -/
theorem lc11 {V : WD} {X : TND} {zs : List PyData} {B : Int} {items : List PyData} {Q : List PyData → DSt → Prop} (hX : ∀ ρ, Ev (dNew (nLst X)) ρ (.list zs)) (hz : ∀ z ∈ zs, ∃ b : Int, z = .int b ∧ 0 < b ∧ b ≤ B) (hB : Bd 1000 B) (hn : zs ≠ []) (hl : zs.length < 1000) (hs : Sok m s) (hm : m < 2 ^ 39) (hi : items.length ≤ 800)
    (k : ∀ (L : List Int) (s' : Spl), L.length = items.length → (∀ q ∈ L, 1 ≤ q ∧ q ≤ B) → Sok (m + 1600) s' → Q (ivs L) [c0, .own false s'.L, c2, c3, c4, c5, c6, c7, .no]) :
    lcD [8] (gName' 8) dYes (dOp dAdd (dC (.int 1)) (withLent 1 (dCallL p__law_upto V 1 (dCons (withLent 1 (dCallL p__law_choice V 1 (dCons (dNew (nLst X)) (dNil)))) (dNil))))) items [] [c0, .own false s.L, c2, c3, c4, c5, c6, c7, .no] Q := by
  refine lcD_inv (fun k ρ => ∃ (s' : Spl) (m' : Nat), Sok m' s' ∧ m' + 2 * k ≤ m + 1600 ∧ ρ = [c0, .own false s'.L, c2, c3, c4, c5, c6, c7, .no]) (fun z => ∃ v : Int, z = .int v ∧ 1 ≤ v ∧ v ≤ B) items [] _ ⟨s, m, hs, by omega, rfl⟩ (by simp; omega) (fun z h => nomatch h) ?_ ?_
  · rintro k z _ Q' hzi ⟨s', m', hs', hm', rfl⟩ hQ
    show withLent 1 _ [c0, .own false s'.L, c2, c3, c4, c5, c6, c7, .val z] _
    refine dr_nest rfl (by simp) (hX _) (fun z hz' => ?_) hn hl hs' (by omega) fun n b s2 hb n0 n1 hs2 => ?_
    · obtain ⟨b, rfl, b0, b1⟩ := hz z hz'
      exact ⟨b, rfl, b0, hB.of (by omega) b1⟩
    · obtain ⟨b', e, b0, b1⟩ := hz _ hb
      cases e
      exact hQ (.int (1 + n)) _ ⟨1 + n, rfl, by omega, by omega⟩ ⟨s2, m' + 2, hs2, by omega, rfl⟩
  · rintro ds _ hd hP ⟨s', m', hs', hm', rfl⟩
    obtain ⟨L, rfl, hL⟩ := ivs_of hP
    exact k L s' (by rw [ivs_len] at hd; simpa using hd) hL (hs'.le (by omega))
theorem s_ownLc {ρ : DSt} {a : TED} {n : Int} {i : Nat} {vs : List Nat} {g : TGD} {t : TTD} {te : TED} {N : TSD} {D : DEnds} (ha : Ev a ρ (.int n)) (h1 : -(2 ^ 62) ≤ n) (h2 : n < 2 ^ 62) (k : lcD vs g t te ((List.range n.toNat).map fun (k : Nat) => .int (k : Int)) [] (wipeD ρ vs) (fun ds ρ1 => i < ρ1.length ∧ N D (ρ1.set i (.own false ds)))) : sSeq (sOwn i (nLc vs (range1D (dCons a dNil)) g t te)) N D ρ :=
  eva_cons ha eva_nil (fun ds ρ1 => asInt1 ds fun j => -(2 ^ 62) ≤ j ∧ j < 2 ^ 62 ∧ lcD vs g t te ((List.range j.toNat).map fun (k : Nat) => .int (k : Int)) [] (wipeD ρ1 vs) (fun ds ρ1 => i < ρ1.length ∧ N D (ρ1.set i (.own false ds)))) ⟨h1, h2, k⟩
theorem fq_ge : ∀ {f : List Int}, (∀ q ∈ f, 1 ≤ q ∧ q ≤ 10 ^ 12) → Fq f
  | [], _ => trivial
  | h :: T, H => ⟨by have := H h List.mem_cons_self; omega, (H h List.mem_cons_self).2, fun q hq => H q (List.mem_cons_of_mem _ hq)⟩
theorem t911_ok (hf : ∀ q ∈ f, 1 ≤ q ∧ q ≤ 10 ^ 12) (hl : f.length ≤ 60) (hg : Gq g) (hs : Sok m s) (hm : m < 2 ^ 38) (k : ∀ (s' : Spl) (j4 j5 j6 j7 : SD), Sok (m + 3) s' → D.nx [c0, .own false s'.L, c2, c3, j4, j5, j6, j7, c8]) :
    t911 W D [c0, .own false s.L, c2, c3, .own false (ivs f), .own false (ivs g), c6, c7, c8] := by
  unfold t911
  have t1 : EvT (dTest (dOp dNe (dVar 4) (dNew (nLst (dNil))))) [c0, .own false s.L, c2, c3, .own false (ivs f), .own false (ivs g), c6, c7, c8] (!decide (f = [])) := by
    refine evt_test (eo_op (i := 4) (io := false) (ds := ivs f) rfl ev_newL fun k hk => ⟨(ivs_shp _).1, rfl, ?_⟩)
    have : PyData.eqv (.list (ivs f)) (.list []) = decide (f = []) := by cases f <;> rfl
    rw [this]; exact hk
  refine t1 _ ?_
  cases f with
  | nil => exact tA11_ok trivial (by simp) hg hs (by omega) fun s' j4 j5 j6 j7 hs' => k s' _ _ _ _ (hs'.le (by omega))
  | cons h T =>
    show withLent 1 _ [c0, .own false s.L, c2, c3, .own false (ivs (h :: T)), .own false (ivs g), c6, c7, c8] _
    refine dr_uptoJ 1 (b := 3) rfl ev_c hs (by omega) (by decide) (bd1 (by decide) (by omega)) fun n s' n0 n1 hs' => ?_
    refine ⟨rfl, rfl, ?_⟩
    generalize PyData.eqv (.int n) (.int 0) = b
    have Fh := fq_ge hf
    cases b with
    | true =>
      refine ⟨trivial, ?_⟩
      have e : ixN (ivs (h :: T)).length 0 = some 0 := by unfold ixN; simp [ivs]
      show (match ixN (ivs (h :: T)).length 0 with | some j => tA11 W D (([c0, .own false s'.L, c2, c3, .own false (ivs (h :: T)), .own false (ivs g), c6, c7, c8] : DSt).set 4 (.own false ((ivs (h :: T)).set j (.int 0)))) | none => False)
      rw [e]
      exact tA11_ok (f := 0 :: T) ⟨by decide, by decide, Fh.2.2⟩ hl hg hs' (by omega) fun s' j4 j5 j6 j7 hs' => k s' _ _ _ _ (hs'.le (by omega))
    | false => exact tA11_ok Fh hl hg hs' (by omega) fun s' j4 j5 j6 j7 hs' => k s' _ _ _ _ (hs'.le (by omega))
theorem t811_ok (hf : ∀ q ∈ f, 1 ≤ q ∧ q ≤ 10 ^ 12) (hl : f.length ≤ 60) (hs : Sok m s) (hm : m < 2 ^ 36) (k : ∀ (s' : Spl) (j4 j5 j6 j7 j8 : SD), Sok (m + 1700) s' → D.nx [c0, .own false s'.L, c2, c3, j4, j5, j6, j7, j8]) :
    t811 W D [c0, .own false s.L, c2, c3, .own false (ivs f), c5, c6, c7, c8] := by
  unfold t811
  show withLent 1 _ [c0, .own false s.L, c2, c3, .own false (ivs f), c5, c6, c7, c8] _
  refine dr_uptoJ 1 (b := 5) rfl ev_c hs (by omega) (by decide) (bd1 (by decide) (by omega)) fun n s1 n0 n1 hs1 => ?_
  refine ⟨by omega, by omega, ?_⟩
  have nl : ((List.range n.toNat).map fun (k : Nat) => PyData.int (k : Int)).length = n.toNat := by simp
  refine lc11 (m := m + 1) (s := s1) (B := 20) (zs := [.int 1, .int 3, .int 20]) (fun ρ => ev_new (eva_cons ev_c (eva_cons ev_c (eva_cons ev_c eva_nil))) (by simp)) (fun z hz => ?_) (bd1 (by decide) (by omega)) (by simp) (by simp) hs1 (by omega) (by rw [nl]; omega) fun L s' hL hq hs' => ?_
  · simp only [List.mem_cons, List.not_mem_nil, or_false] at hz
    rcases hz with rfl | rfl | rfl <;> exact ⟨_, rfl, by decide, by decide⟩
  · rw [nl] at hL
    refine ⟨by simp, ?_⟩
    exact t911_ok hf hl ⟨by omega, hq⟩ hs' (by omega) fun s2 j4 j5 j6 j7 hs2 => k s2 _ _ _ _ _ (hs2.le (by omega))
theorem t711_ok {v : Int} (v0 : 0 ≤ v) (v1 : v < 60) (hs : Sok m s) (hm : m < 2 ^ 35) (k : ∀ (s' : Spl) (j4 j5 j6 j7 j8 : SD), Sok (m + 3400) s' → D.nx [c0, .own false s'.L, c2, iv v, j4, j5, j6, j7, j8]) :
    t711 W D [c0, .own false s.L, c2, iv v, c4, c5, c6, c7, c8] := by
  unfold t711
  refine s_ownLc (ev_var 3 rfl) (by omega) (by omega) ?_
  have nl : ((List.range v.toNat).map fun (k : Nat) => PyData.int (k : Int)).length = v.toNat := by simp
  have p12 : ∀ ρ, Ev (dOp dPow (dC (.int 10)) (dC (.int 12))) ρ (.int (10 ^ 12)) := fun ρ => ev_p10 12
  refine lc11 (m := m) (s := s) (B := 10 ^ 12) (zs := [.int 2, .int 5, .int 20, .int (10 ^ 12)]) (fun ρ => ev_new (eva_cons ev_c (eva_cons ev_c (eva_cons ev_c (eva_cons (p12 ρ) eva_nil)))) (by simp)) (fun z hz => ?_) ((bd10 12).mono (by omega)) (by simp) (by simp) hs (by omega) (by rw [nl]; omega) fun L s' hL hq hs' => ?_
  · simp only [List.mem_cons, List.not_mem_nil, or_false] at hz
    rcases hz with rfl | rfl | rfl | rfl <;> exact ⟨_, rfl, by decide, by decide⟩
  · rw [nl] at hL
    refine ⟨by simp, ?_⟩
    exact t811_ok hq (by omega) hs' (by omega) fun s2 j4 j5 j6 j7 j8 hs2 => k s2 _ _ _ _ _ (hs2.le (by omega))
theorem turn11_ok (hs : Sok m s) (hm : m < 2 ^ 30) (k : ∀ (s' : Spl) (j3 j4 j5 j6 j7 j8 : SD), Sok (m + 3500) s' → D.nx [c0, .own false s'.L, c2, j3, j4, j5, j6, j7, j8]) :
    turn11 W D [c0, .own false s.L, c2, c3, c4, c5, c6, c7, c8] := by
  unfold turn11
  refine s_setP (fun z ρ' => ∃ (v : Int) (s' : Spl), z = .int v ∧ (0 ≤ v ∧ v < 60) ∧ Sok (m + 2) s' ∧ ρ' = [c0, .own false s'.L, c2, c3, c4, c5, c6, c7, c8]) (fun Q hQ => ?_) ?_
  · refine dr_nest (zs := [.int 7, .int 7, .int 60]) rfl (by simp) (ev_new (eva_cons ev_c (eva_cons ev_c (eva_cons ev_c eva_nil))) (by simp)) (fun z hz => ?_) (by simp) (by simp) hs (by omega) fun n b s' hb n0 n1 hs' => ?_
    · simp only [List.mem_cons, List.not_mem_nil, or_false] at hz
      rcases hz with rfl | rfl | rfl <;> exact ⟨_, rfl, by decide, bd1 (by decide) (by omega)⟩
    · have : b ≤ 60 := by
        simp only [List.mem_cons, List.not_mem_nil, or_false, PyData.int.injEq] at hb
        omega
      exact hQ (.int n) _ ⟨n, s', rfl, ⟨n0, by omega⟩, hs', rfl⟩
  rintro _ _ ⟨v, s', rfl, ⟨v0, v1⟩, hs', rfl⟩
  exact t711_ok v0 v1 hs' (by omega) fun s2 j4 j5 j6 j7 j8 hs2 => k s2 _ _ _ _ _ _ (hs2.le (by omega))
end
theorem pure_law (α : List SD) (QD : Ret → List SD → Prop) (ED : Exd → List SD → Prop) (W : WD) (hW : W = fun e ρ => outK α ρ fun α' => ED e α') (h : p_law α QD ED) : r_law W (DEnd α QD) (startD n_law.length α) := by
  obtain ⟨ns, hl, rfl, hq⟩ := h
  rw [r_law_eq11]
  have st0 : startD n_law.length [SD.res true (scriptR ns)] = [SD.res true (scriptR ns), .no, .no, .no, .no, .no, .no, .no, .no] := rfl
  rw [st0]
  refine s_spool hl fun s hs => ?_
  refine s_seq (s_forR (n := 10) ev_c (by decide) (by decide) ?_)
  refine forD_inv (fun k ρ => ∃ (s : Spl) (m : Nat) (a2 a3 a4 a5 a6 a7 a8 : SD), ρ = [.res true (scriptR ns), .own false s.L, a2, a3, a4, a5, a6, a7, a8] ∧ Sok m s ∧ m + 3500 * k ≤ 35000) _ _
    ⟨s, 0, .no, .no, .no, .no, .no, .no, .no, rfl, hs, by decide⟩ ?_ ?_
  · rintro j z _ N hz hN ⟨s, m, a2, a3, a4, a5, a6, a7, a8, rfl, hs, hm⟩
    exact turn11_ok hs (by omega) fun s' j3 j4 j5 j6 j7 j8 hs' => hN _ ⟨s', m + 3500, _, _, _, _, _, _, _, rfl, hs', by omega⟩
  · rintro _ ⟨s, m, a2, a3, a4, a5, a6, a7, a8, rfl, hs, hm⟩
    exact hq
theorem len_lowest : ∀ α QD ED, p_lowest α QD ED → α.length = [("p" : Str), "q", "d", "s"].length := by rintro α QD ED ⟨p, q, d, s, rfl, _⟩; rfl
theorem len_plus : ∀ α QD ED, p_plus α QD ED → α.length = [("first" : Str), "second"].length := by rintro α QD ED ⟨x, y, rfl, _⟩; rfl
theorem len_times : ∀ α QD ED, p_times α QD ED → α.length = [("first" : Str), "second"].length := by rintro α QD ED ⟨x, y, rfl, _⟩; rfl
theorem len_over : ∀ α QD ED, p_over α QD ED → α.length = [("first" : Str), "second"].length := by rintro α QD ED ⟨y, rfl, _⟩; rfl
theorem len_whole : ∀ α QD ED, p_whole α QD ED → α.length = [("value" : Str)].length := by rintro α QD ED ⟨a, rfl, _⟩; rfl
theorem len_continued : ∀ α QD ED, p_continued α QD ED → α.length = [("first" : Str), "last"].length := by rintro α QD ED ⟨f, y, x, rfl, _⟩; rfl
theorem len_number_of : ∀ α QD ED, p_number_of α QD ED → α.length = [("parts" : Str)].length := by rintro α QD ED ⟨f, g, x, rfl, _⟩; rfl
theorem len__law_alike : ∀ α QD ED, p__law_alike α QD ED → α.length = [("one" : Str), "other"].length := by rintro α QD ED ⟨x, rfl, _⟩; rfl
theorem len__law_lowest : ∀ α QD ED, p__law_lowest α QD ED → α.length = [("p" : Str), "q", "d", "s"].length := by rintro α QD ED ⟨p, q, d, s, rfl, _⟩; rfl
theorem len__law_add : ∀ α QD ED, p__law_add α QD ED → α.length = [("one" : Str), "other"].length := by rintro α QD ED ⟨x, v, rfl, _⟩; rfl
theorem len__law_square_root : ∀ α QD ED, p__law_square_root α QD ED → α.length = [("value" : Str)].length := by rintro α QD ED ⟨a, rfl, _⟩; rfl
theorem len__law_inverse : ∀ α QD ED, p__law_inverse α QD ED → α.length = [("one" : Str)].length := by rintro α QD ED ⟨x, rfl, _⟩; rfl
theorem len__law_scaled : ∀ α QD ED, p__law_scaled α QD ED → α.length = [("one" : Str), "places"].length := by rintro α QD ED ⟨x, t, rfl, _⟩; rfl
theorem len__law_sign_of : ∀ α QD ED, p__law_sign_of α QD ED → α.length = [("one" : Str)].length := by rintro α QD ED ⟨x, rfl, _⟩; rfl
theorem len__law_whole_part : ∀ α QD ED, p__law_whole_part α QD ED → α.length = [("one" : Str)].length := by rintro α QD ED ⟨x, n, rfl, _⟩; rfl
theorem len__law_behind : ∀ α QD ED, p__law_behind α QD ED → α.length = [("ratio" : Str), "parts"].length := by rintro α QD ED ⟨L, x, r, rfl, _⟩; rfl
theorem len__law_is_shortest : ∀ α QD ED, p__law_is_shortest α QD ED → α.length = [("first" : Str), "again"].length := by rintro α QD ED ⟨f, g, rfl, _⟩; rfl
end KK

set_option maxHeartbeats 0
namespace KK
open PySem PySem.Spec PyProof.Rows L2 DL
def top (i : Nat) : Stmt := PySem.Challenge.pw_twospeeds_k11_ratios_of_expansions.main.body.getD i (.Pass ⟨0, 0, 0, 0⟩)
abbrev FnP (K : PySem.W.Frag) (x : Str) (st : Stmt) (f : Addr) (fd : FuncData) : Prop := L2.FunD K x x (defArgs st) (defBody st) (defScope st) [] [] f fd
section
variable {P : Program} {w : World} {K : PySem.W.Frag} {mg : Str → Option Value} {base : Heap} {f : Addr} {fd : FuncData}
theorem sc_common_divisor : FnScope n_common_divisor ["first", "second"] (defScope (top 8)) := ⟨rfl, rfl, rfl, by decide +kernel, rfl, by decide +kernel, by decide +kernel⟩
theorem ok_common_divisor (F : FnP K "common_divisor" (top 8) f fd) (z_abs : mg "abs" = none) : FnD P w K mg base 1 f fd ["first", "second"] p_common_divisor := by
  refine FunD.okD F sc_common_divisor len_common_divisor fun cdv A outer s H E C α QD ED hr hW hp => ?_
  exact body_of (dss_cons (ds_while (passes_of rfl) (dt_cmp od_ne (de_var 1) (de_int) rfl) (dss_one (ds_par (i := 0) (j := 1) (da_cons (de_var 1) (da_cons (de_op od_mod (de_var 0) (de_var 1)) (da_nil)))))) (dss_one (ds_ret (de_B1 cd_abs z_abs (de_var 0))))) (pure_common_divisor α QD ED C.W hW hp)
theorem sc_without_squares : FnScope n_without_squares ["number"] (defScope (top 9)) := ⟨rfl, rfl, rfl, by decide +kernel, rfl, by decide +kernel, by decide +kernel⟩
theorem ok_without_squares (F : FnP K "without_squares" (top 9) f fd) : FnD P w K mg base 1 f fd ["number"] p_without_squares := by
  refine FunD.okD F sc_without_squares len_without_squares fun cdv A outer s H E C α QD ED hr hW hp => ?_
  exact body_of (dss_cons (ds_par3 (i := 1) (j := 2) (l := 3) (da_cons (de_int) (da_cons (de_var 0) (da_cons (de_int) (da_nil))))) (dss_cons (ds_while (passes_of rfl) (dt_cmp od_le (de_op od_mul (de_var 3) (de_var 3)) (de_var 2) rfl) (dss_cons (ds_while (passes_of rfl) (dt_cmp od_eq (de_op od_mod (de_var 2) (de_op od_mul (de_var 3) (de_var 3))) (de_int) rfl) (dss_cons (ds_aug 2 od_ifdiv (de_op od_mul (de_var 3) (de_var 3))) (dss_one (ds_aug 1 od_imul (de_var 3))))) (dss_one (ds_aug 3 od_iaddU (de_int))))) (dss_one (ds_ret (de_tup (da_cons (de_var 1) (da_cons (de_var 2) (da_nil)))))))) (pure_without_squares α QD ED C.W hW hp)
theorem sc_lowest : FnScope n_lowest ["p", "q", "d", "s"] (defScope (top 10)) := ⟨rfl, rfl, rfl, by decide +kernel, rfl, by decide +kernel, by decide +kernel⟩
theorem ok_lowest (F : FnP K "lowest" (top 10) f fd) (c_common_divisor : CalD P w K mg base 1 "common_divisor" ["first", "second"] p_common_divisor) : FnD P w K mg base 2 f fd ["p", "q", "d", "s"] p_lowest := by
  refine FunD.okD F sc_lowest len_lowest fun cdv A outer s H E C α QD ED hr hW hp => ?_
  exact body_of (dss_cons (ds_if (dt_cmp od_lt (de_var 3) (de_int) rfl) (dss_one (ds_par3 (i := 0) (j := 1) (l := 3) (da_cons (de_neg (de_var 0)) (da_cons (de_neg (de_var 1)) (da_cons (de_neg (de_var 3)) (da_nil)))))) (dss_nil)) (dss_cons (ds_set 4 (de_callC (c_common_divisor.mono (by decide)) hr (da_cons (de_callC (c_common_divisor.mono (by decide)) hr (da_cons (de_var 0) (da_cons (de_var 1) (da_nil)))) (da_cons (de_var 3) (da_nil))))) (dss_cons (ds_par3 (i := 0) (j := 1) (l := 3) (da_cons (de_op od_fdiv (de_var 0) (de_var 4)) (da_cons (de_op od_fdiv (de_var 1) (de_var 4)) (da_cons (de_op od_fdiv (de_var 3) (de_var 4)) (da_nil))))) (dss_one (ds_ret (de_tup (da_cons (de_var 0) (da_cons (de_var 1) (da_cons (de_if (dt_cmp od_ne (de_var 1) (de_int) rfl) (de_var 2) (de_int)) (da_cons (de_var 3) (da_nil))))))))))) (pure_lowest α QD ED C.W hW hp)
theorem sc_number : FnScope n_number ["p", "q", "d", "s"] (defScope (top 11)) := ⟨rfl, rfl, rfl, by decide +kernel, rfl, by decide +kernel, by decide +kernel⟩
theorem ok_number (F : FnP K "number" (top 11) f fd) {k_InvalidNumber : Addr} (x_InvalidNumber : ExcD K mg "InvalidNumber" k_InvalidNumber) (c_lowest : CalD P w K mg base 2 "lowest" ["p", "q", "d", "s"] p_lowest) (c_without_squares : CalD P w K mg base 1 "without_squares" ["number"] p_without_squares) : FnD P w K mg base 3 f fd ["p", "q", "d", "s"] (p_number k_InvalidNumber) := by
  refine FunD.okD F sc_number len_number fun cdv A outer s H E C α QD ED hr hW hp => ?_
  exact body_of (dss_cons (ds_if ((dw_or (dt_cmp od_eq (de_var 3) (de_int) rfl) (dw_or1 (dt_cmp od_lt (de_var 2) (de_int) rfl))).dt) (dss_one (ds_raiseC x_InvalidNumber)) (dss_nil)) (dss_cons (ds_asg (de_if (dt_cmp od_gt (de_var 2) (de_int) rfl) (de_callC (c_without_squares.mono (by decide)) hr (da_cons (de_var 2) (da_nil))) (de_tup (da_cons (de_int) (da_cons (de_int) (da_nil))))) (dg_tup (dgs_cons (dg_name 4) (dgs_cons (dg_name 5) (dgs_nil))))) (dss_cons (ds_if (dt_cmp od_lt (de_var 5) (de_int) rfl) (dss_one (ds_ret (de_callC (c_lowest.mono (by decide)) hr (da_cons (de_op od_addU (de_var 0) (de_op od_mul (de_var 1) (de_var 4))) (da_cons (de_int) (da_cons (de_int) (da_cons (de_var 3) (da_nil)))))))) (dss_nil)) (dss_one (ds_ret (de_callC (c_lowest.mono (by decide)) hr (da_cons (de_var 0) (da_cons (de_op od_mul (de_var 1) (de_var 4)) (da_cons (de_var 5) (da_cons (de_var 3) (da_nil))))))))))) (pure_number α QD ED C.W hW hp)
theorem sc_root_of : FnScope n_root_of ["first", "second"] (defScope (top 12)) := ⟨rfl, rfl, rfl, by decide +kernel, rfl, by decide +kernel, by decide +kernel⟩
theorem ok_root_of (F : FnP K "root_of" (top 12) f fd) (z_max : mg "max" = none) {k_OtherRoot : Addr} (x_OtherRoot : ExcD K mg "OtherRoot" k_OtherRoot) : FnD P w K mg base 1 f fd ["first", "second"] p_root_of := by
  refine FunD.okD F sc_root_of len_root_of fun cdv A outer s H E C α QD ED hr hW hp => ?_
  exact body_of (dss_cons (ds_if ((dw_and (dt_cmp od_ne (de_ix (de_var 0) (de_int)) (de_int) rfl) (dw_and (dt_cmp od_ne (de_ix (de_var 1) (de_int)) (de_int) rfl) (dw_and1 (dt_cmp od_ne (de_ix (de_var 0) (de_int)) (de_ix (de_var 1) (de_int)) rfl)))).dt) (dss_one (ds_raiseC x_OtherRoot)) (dss_nil)) (dss_one (ds_ret (de_max z_max (de_ix (de_var 0) (de_int)) (de_ix (de_var 1) (de_int)))))) (pure_root_of α QD ED C.W hW hp)
theorem sc_plus : FnScope n_plus ["first", "second"] (defScope (top 13)) := ⟨rfl, rfl, rfl, by decide +kernel, rfl, by decide +kernel, by decide +kernel⟩
theorem ok_plus (F : FnP K "plus" (top 13) f fd) (c_root_of : CalD P w K mg base 1 "root_of" ["first", "second"] p_root_of) (c_lowest : CalD P w K mg base 2 "lowest" ["p", "q", "d", "s"] p_lowest) : FnD P w K mg base 3 f fd ["first", "second"] p_plus := by
  refine FunD.okD F sc_plus len_plus fun cdv A outer s H E C α QD ED hr hW hp => ?_
  exact body_of (dss_cons (ds_set 2 (de_callC (c_root_of.mono (by decide)) hr (da_cons (de_var 0) (da_cons (de_var 1) (da_nil))))) (dss_cons (ds_set 3 (de_op od_addU (de_op od_mul (de_ix (de_var 0) (de_int)) (de_ix (de_var 1) (de_int))) (de_op od_mul (de_ix (de_var 1) (de_int)) (de_ix (de_var 0) (de_int))))) (dss_one (ds_ret (de_callC (c_lowest.mono (by decide)) hr (da_cons (de_var 3) (da_cons (de_op od_addU (de_op od_mul (de_ix (de_var 0) (de_int)) (de_ix (de_var 1) (de_int))) (de_op od_mul (de_ix (de_var 1) (de_int)) (de_ix (de_var 0) (de_int)))) (da_cons (de_var 2) (da_cons (de_op od_mul (de_ix (de_var 0) (de_int)) (de_ix (de_var 1) (de_int))) (da_nil)))))))))) (pure_plus α QD ED C.W hW hp)
theorem sc_times : FnScope n_times ["first", "second"] (defScope (top 14)) := ⟨rfl, rfl, rfl, by decide +kernel, rfl, by decide +kernel, by decide +kernel⟩
theorem ok_times (F : FnP K "times" (top 14) f fd) (c_root_of : CalD P w K mg base 1 "root_of" ["first", "second"] p_root_of) (c_lowest : CalD P w K mg base 2 "lowest" ["p", "q", "d", "s"] p_lowest) : FnD P w K mg base 3 f fd ["first", "second"] p_times := by
  refine FunD.okD F sc_times len_times fun cdv A outer s H E C α QD ED hr hW hp => ?_
  exact body_of (dss_cons (ds_set 2 (de_callC (c_root_of.mono (by decide)) hr (da_cons (de_var 0) (da_cons (de_var 1) (da_nil))))) (dss_cons (ds_set 3 (de_op od_addU (de_op od_mul (de_ix (de_var 0) (de_int)) (de_ix (de_var 1) (de_int))) (de_op od_mul (de_op od_mul (de_ix (de_var 0) (de_int)) (de_ix (de_var 1) (de_int))) (de_var 2)))) (dss_one (ds_ret (de_callC (c_lowest.mono (by decide)) hr (da_cons (de_var 3) (da_cons (de_op od_addU (de_op od_mul (de_ix (de_var 0) (de_int)) (de_ix (de_var 1) (de_int))) (de_op od_mul (de_ix (de_var 0) (de_int)) (de_ix (de_var 1) (de_int)))) (da_cons (de_var 2) (da_cons (de_op od_mul (de_ix (de_var 0) (de_int)) (de_ix (de_var 1) (de_int))) (da_nil)))))))))) (pure_times α QD ED C.W hW hp)
theorem sc_over : FnScope n_over ["first", "second"] (defScope (top 15)) := ⟨rfl, rfl, rfl, by decide +kernel, rfl, by decide +kernel, by decide +kernel⟩
theorem ok_over (F : FnP K "over" (top 15) f fd) {u_ZERO : Addr} (g_ZERO : mg "ZERO" = some (.ref u_ZERO) ∧ (∀ H : Hp, SqT K H u_ZERO v_ZERO) ∧ ∀ G, Reps K G v_ZERO l_ZERO) {k_ZeroDivisor : Addr} (x_ZeroDivisor : ExcD K mg "ZeroDivisor" k_ZeroDivisor) (c_times : CalD P w K mg base 3 "times" ["first", "second"] p_times) (c_lowest : CalD P w K mg base 2 "lowest" ["p", "q", "d", "s"] p_lowest) : FnD P w K mg base 4 f fd ["first", "second"] p_over := by
  refine FunD.okD F sc_over len_over fun cdv A outer s H E C α QD ED hr hW hp => ?_
  exact body_of (dss_cons (ds_if (dt_cmp od_eq (de_var 1) (de_gtup g_ZERO.1 g_ZERO.2.1 g_ZERO.2.2) rfl) (dss_one (ds_raiseC x_ZeroDivisor)) (dss_nil)) (dss_cons (ds_asg (de_var 1) (dg_tup (dgs_cons (dg_name 2) (dgs_cons (dg_name 3) (dgs_cons (dg_name 4) (dgs_cons (dg_name 5) (dgs_nil))))))) (dss_one (ds_ret (de_callC (c_times.mono (by decide)) hr (da_cons (de_var 0) (da_cons (de_callC (c_lowest.mono (by decide)) hr (da_cons (de_op od_mul (de_var 2) (de_var 5)) (da_cons (de_op od_mul (de_neg (de_var 3)) (de_var 5)) (da_cons (de_var 4) (da_cons (de_op od_subU (de_op od_mul (de_var 2) (de_var 2)) (de_op od_mul (de_op od_mul (de_var 3) (de_var 3)) (de_var 4))) (da_nil)))))) (da_nil)))))))) (pure_over α QD ED C.W hW hp)
theorem sc_whole : FnScope n_whole ["value"] (defScope (top 17)) := ⟨rfl, rfl, rfl, by decide +kernel, rfl, by decide +kernel, by decide +kernel⟩
theorem ok_whole (F : FnP K "whole" (top 17) f fd) : FnD P w K mg base 1 f fd ["value"] p_whole := by
  refine FunD.okD F sc_whole len_whole fun cdv A outer s H E C α QD ED hr hW hp => ?_
  exact body_of (dss_one (ds_ret (de_tup (da_cons (de_var 0) (da_cons (de_int) (da_cons (de_int) (da_cons (de_int) (da_nil)))))))) (pure_whole α QD ED C.W hW hp)
theorem sc_continued : FnScope n_continued ["first", "last"] (defScope (top 18)) := ⟨rfl, rfl, rfl, by decide +kernel, rfl, by decide +kernel, by decide +kernel⟩
theorem ok_continued (F : FnP K "continued" (top 18) f fd) (z_list : mg "list" = none) {u_ONE : Addr} (g_ONE : mg "ONE" = some (.ref u_ONE) ∧ (∀ H : Hp, SqT K H u_ONE v_ONE) ∧ ∀ G, Reps K G v_ONE l_ONE) (c_plus : CalD P w K mg base 3 "plus" ["first", "second"] p_plus) (c_whole : CalD P w K mg base 1 "whole" ["value"] p_whole) (c_over : CalD P w K mg base 4 "over" ["first", "second"] p_over) : FnD P w K mg base 5 f fd ["first", "last"] p_continued := by
  refine FunD.okD F sc_continued len_continued fun cdv A outer s H E C α QD ED hr hW hp => ?_
  exact body_of (dss_cons (ds_set 2 (de_var 1)) (dss_cons (ds_for (passes_of rfl) (di_list (de_new (dn_rev (de_new (dn_listOf z_list (de_var 0)))))) (dg_name 3) (dss_one (ds_set 2 (de_callC (c_plus.mono (by decide)) hr (da_cons (de_callC (c_whole.mono (by decide)) hr (da_cons (de_var 3) (da_nil))) (da_cons (de_callC (c_over.mono (by decide)) hr (da_cons (de_gtup g_ONE.1 g_ONE.2.1 g_ONE.2.2) (da_cons (de_var 2) (da_nil)))) (da_nil))))))) (dss_one (ds_ret (de_var 2))))) (pure_continued α QD ED C.W hW hp)
theorem sc_number_of : FnScope n_number_of ["parts"] (defScope (top 19)) := ⟨rfl, rfl, rfl, by decide +kernel, rfl, by decide +kernel, by decide +kernel⟩
theorem ok_number_of (F : FnP K "number_of" (top 19) f fd) {k_InvalidNumber : Addr} (c_common_divisor : CalD P w K mg base 1 "common_divisor" ["first", "second"] p_common_divisor) (c_continued : CalD P w K mg base 5 "continued" ["first", "last"] p_continued) (c_number : CalD P w K mg base 3 "number" ["p", "q", "d", "s"] (p_number k_InvalidNumber)) (c_whole : CalD P w K mg base 1 "whole" ["value"] p_whole) : FnD P w K mg base 6 f fd ["parts"] p_number_of := by
  refine FunD.okD F sc_number_of len_number_of fun cdv A outer s H E C α QD ED hr hW hp => ?_
  exact body_of (dss_cons (ds_asg (de_var 0) (dg_tup (dgs_cons (dg_name 1) (dgs_cons (dg_name 2) (dgs_nil))))) (dss_cons (ds_if (dt_cmp od_eq (de_var 2) (de_tup (da_nil)) rfl) (dss_one (ds_ret (de_callC (c_continued.mono (by decide)) hr (da_cons (de_slice (de_var 1) (do_none) (do_some (de_neg (de_int)))) (da_cons (de_callC (c_whole.mono (by decide)) hr (da_cons (de_ix (de_var 1) (de_neg (de_int))) (da_nil))) (da_nil)))))) (dss_nil)) (dss_cons (ds_asg (de_tup (da_cons (de_int) (da_cons (de_int) (da_cons (de_int) (da_cons (de_int) (da_nil)))))) (dg_tup (dgs_cons (dg_name 3) (dgs_cons (dg_name 4) (dgs_cons (dg_name 5) (dgs_cons (dg_name 6) (dgs_nil))))))) (dss_cons (ds_for (passes_of rfl) (di_tup (de_var 2)) (dg_name 7) (dss_one (ds_asg (de_tup (da_cons (de_op od_addU (de_op od_mul (de_var 3) (de_var 7)) (de_var 4)) (da_cons (de_var 3) (da_cons (de_op od_addU (de_op od_mul (de_var 5) (de_var 7)) (de_var 6)) (da_cons (de_var 5) (da_nil)))))) (dg_tup (dgs_cons (dg_name 3) (dgs_cons (dg_name 4) (dgs_cons (dg_name 5) (dgs_cons (dg_name 6) (dgs_nil))))))))) (dss_cons (ds_set 8 (de_callC (c_common_divisor.mono (by decide)) hr (da_cons (de_callC (c_common_divisor.mono (by decide)) hr (da_cons (de_var 5) (da_cons (de_op od_subU (de_var 3) (de_var 6)) (da_nil)))) (da_cons (de_var 4) (da_nil))))) (dss_cons (ds_par3 (i := 4) (j := 5) (l := 6) (da_cons (de_op od_fdiv (de_var 4) (de_var 8)) (da_cons (de_op od_fdiv (de_var 5) (de_var 8)) (da_cons (de_op od_fdiv (de_op od_subU (de_var 3) (de_var 6)) (de_var 8)) (da_nil))))) (dss_one (ds_ret (de_callC (c_continued.mono (by decide)) hr (da_cons (de_var 1) (da_cons (de_callC (c_number.mono (by decide)) hr (da_cons (de_var 6) (da_cons (de_int) (da_cons (de_op od_addU (de_op od_mul (de_var 6) (de_var 6)) (de_op od_mul (de_op od_mul (de_int) (de_var 4)) (de_var 5))) (da_cons (de_op od_mul (de_int) (de_var 5)) (da_nil)))))) (da_nil)))))))))))) (pure_number_of α QD ED C.W hW hp)
theorem sc__law_stirred : FnScope n__law_stirred ["cell", "place"] (defScope (top 21)) := ⟨rfl, rfl, rfl, by decide +kernel, rfl, by decide +kernel, by decide +kernel⟩
theorem ok__law_stirred (F : FnP K "_law_stirred" (top 21) f fd) (z_range : mg "range" = none) : FnD P w K mg base 1 f fd ["cell", "place"] p__law_stirred := by
  refine FunD.okD F sc__law_stirred len__law_stirred fun cdv A outer s H E C α QD ED hr hW hp => ?_
  exact body_of (dss_cons (ds_set 2 (de_int)) (dss_cons (ds_set 3 (de_op od_mod (de_op od_addU (de_op od_addU (de_op od_mul (de_var 0) (de_int)) (de_op od_mul (de_var 1) (de_int))) (de_int)) (de_var 2))) (dss_cons (ds_for (passes_of rfl) (di_range1 (by rfl) z_range (da_cons (de_int) (da_nil))) (dg_name 4) (dss_one (ds_set 3 (de_op od_mod (de_op od_addU (de_op od_addU (de_op od_addU (de_op od_mul (de_var 3) (de_var 3)) (de_op od_mul (de_int) (de_var 3))) (de_op od_mul (de_int) (de_var 4))) (de_var 1)) (de_var 2))))) (dss_one (ds_ret (de_op od_addU (de_op od_mul (de_var 3) (de_var 2)) (de_op od_mod (de_op od_addU (de_op od_mul (de_var 3) (de_int)) (de_var 1)) (de_var 2)))))))) (pure__law_stirred α QD ED C.W hW hp)
theorem sc__law_spool_of : FnScope n__law_spool_of ["script"] (defScope (top 22)) := ⟨rfl, rfl, rfl, by decide +kernel, rfl, by decide +kernel, by decide +kernel⟩
theorem ok__law_spool_of (F : FnP K "_law_spool_of" (top 22) f fd) (z_enumerate : mg "enumerate" = none) (z_abs : mg "abs" = none) : FnD P w K mg base 1 f fd ["script"] p__law_spool_of := by
  refine FunD.okD F sc__law_spool_of len__law_spool_of fun cdv A outer s H E C α QD ED hr hW hp => ?_
  exact body_of (dss_cons (ds_setLc 1 [("cell", 3)] (di_list (de_new (dn_scr 0 (do_none) (do_some (de_int))))) (by kernel_rfl) (fun _ _ _ _ _ => ⟨_, dg_name 3⟩) (fun _ _ _ _ _ => ⟨_, dts_nil⟩) (fun _ _ _ _ _ => ⟨_, de_B1 cd_abs z_abs (de_var 3)⟩)) (dss_cons (ds_for (passes_of rfl) (di_enum z_enumerate (da_cons (de_new (dn_scr 0 (do_some (de_int)) (do_some (de_int)))) (da_nil))) (dg_tup (dgs_cons (dg_name 2) (dgs_cons (dg_name 3) (dgs_nil)))) (dss_one (ds_put 1 (de_op od_addU (de_ix (de_var 1) (de_op od_mod (de_var 2) (de_int))) (de_B1 cd_abs z_abs (de_var 3))) (de_op od_mod (de_var 2) (de_int))))) (dss_one (ds_retN (dn_lst (da_cons (de_var 1) (da_cons (de_int) (da_cons (de_int) (da_cons (de_int) (da_nil)))))))))) (pure__law_spool_of α QD ED C.W hW hp)
theorem sc__law_upto : FnScope n__law_upto ["spool", "bound"] (defScope (top 23)) := ⟨rfl, rfl, rfl, by decide +kernel, rfl, by decide +kernel, by decide +kernel⟩
theorem ok__law_upto (F : FnP K "_law_upto" (top 23) f fd) (z_len : mg "len" = none) (c__law_stirred : CalD P w K mg base 1 "_law_stirred" ["cell", "place"] p__law_stirred) : FnD P w K mg base 2 f fd ["spool", "bound"] p__law_upto := by
  refine FunD.okD F sc__law_upto len__law_upto fun cdv A outer s H E C α QD ED hr hW hp => ?_
  exact body_of (dss_cons (ds_if (dt_cmp od_lt (de_ix (de_var 0) (de_int)) (de_var 1) rfl) (dss_cons (ds_par (i := 2) (j := 3) (da_cons (de_ix (de_var 0) (de_int)) (da_cons (de_ix (de_var 0) (de_int)) (da_nil)))) (dss_cons (ds_set 4 (de_if (dt_cmp od_ne (de_var 2) (de_new (dn_lst (da_nil))) rfl) (de_ix (de_var 2) (de_op od_mod (de_var 3) (de_B1 cd_len z_len (de_var 2)))) (de_int))) (dss_cons (ds_if ((dw_or (dt_cmp od_ge (de_var 3) (de_B1 cd_len z_len (de_var 2)) rfl) (dw_or1 (dt_cmp od_lt (de_var 4) (de_op od_pow (de_int) (de_int)) rfl))).dt) (dss_one (ds_set 4 (de_callC (c__law_stirred.mono (by decide)) hr (da_cons (de_op od_mod (de_var 4) (de_int)) (da_cons (de_var 3) (da_nil)))))) (dss_nil)) (dss_cons (ds_put 0 (de_op od_addU (de_var 3) (de_int)) (de_int)) (dss_cons (ds_put 0 (de_var 4) (de_int)) (dss_one (ds_put 0 (de_var 4) (de_int)))))))) (dss_nil)) (dss_cons (ds_set 5 (de_op od_mod (de_ix (de_var 0) (de_int)) (de_var 1))) (dss_cons (ds_put 0 (de_op od_fdiv (de_ix (de_var 0) (de_int)) (de_var 1)) (de_int)) (dss_cons (ds_put 0 (de_op od_fdiv (de_ix (de_var 0) (de_int)) (de_var 1)) (de_int)) (dss_one (ds_ret (de_var 5))))))) (pure__law_upto α QD ED C.W hW hp)
theorem sc__law_choice : FnScope n__law_choice ["spool", "items"] (defScope (top 24)) := ⟨rfl, rfl, rfl, by decide +kernel, rfl, by decide +kernel, by decide +kernel⟩
theorem ok__law_choice (F : FnP K "_law_choice" (top 24) f fd) (z_len : mg "len" = none) (c__law_upto : CalD P w K mg base 2 "_law_upto" ["spool", "bound"] p__law_upto) : FnD P w K mg base 3 f fd ["spool", "items"] p__law_choice := by
  refine FunD.okD F sc__law_choice len__law_choice fun cdv A outer s H E C α QD ED hr hW hp => ?_
  exact body_of (dss_one (ds_ret (de_ix (de_var 1) (de_callLC 0 (c__law_upto.mono (by decide)) hr (da_cons (de_B1 cd_len z_len (de_var 1)) (da_nil)))))) (pure__law_choice α QD ED C.W hW hp)
theorem sc__law_alike : FnScope n__law_alike ["one", "other"] (defScope (top 25)) := ⟨rfl, rfl, rfl, by decide +kernel, rfl, by decide +kernel, by decide +kernel⟩
theorem ok__law_alike (F : FnP K "_law_alike" (top 25) f fd) (z_repr : mg "repr" = none) (nd : noDigB K = true) : FnD P w K mg base 1 f fd ["one", "other"] p__law_alike := by
  refine FunD.okD F sc__law_alike len__law_alike fun cdv A outer s H E C α QD ED hr hW hp => ?_
  exact body_of (dss_one (ds_ret (de_cmp od_eqS (de_B1 (cd_reprW nd) z_repr (de_var 0)) (de_B1 (cd_reprW nd) z_repr (de_var 1)) rfl))) (pure__law_alike α QD ED C.W hW hp)
theorem sc__law_common : FnScope n__law_common ["one", "other"] (defScope (top 26)) := ⟨rfl, rfl, rfl, by decide +kernel, rfl, by decide +kernel, by decide +kernel⟩
theorem ok__law_common (F : FnP K "_law_common" (top 26) f fd) (z_abs : mg "abs" = none) : FnD P w K mg base 1 f fd ["one", "other"] p__law_common := by
  refine FunD.okD F sc__law_common len__law_common fun cdv A outer s H E C α QD ED hr hW hp => ?_
  exact body_of (dss_cons (ds_while (passes_of rfl) (dt_cmp od_ne (de_var 1) (de_int) rfl) (dss_one (ds_par (i := 0) (j := 1) (da_cons (de_var 1) (da_cons (de_op od_mod (de_var 0) (de_var 1)) (da_nil)))))) (dss_one (ds_ret (de_B1 cd_abs z_abs (de_var 0))))) (pure__law_common α QD ED C.W hW hp)
theorem sc__law_square_root : FnScope n__law_square_root ["value"] (defScope (top 27)) := ⟨rfl, rfl, rfl, by decide +kernel, rfl, by decide +kernel, by decide +kernel⟩
theorem ok__law_square_root (F : FnP K "_law_square_root" (top 27) f fd) : FnD P w K mg base 1 f fd ["value"] p__law_square_root := by
  refine FunD.okD F sc__law_square_root len__law_square_root fun cdv A outer s H E C α QD ED hr hW hp => ?_
  exact body_of (dss_cons (ds_if (dt_cmp od_lt (de_var 0) (de_int) rfl) (dss_one (ds_ret (de_var 0))) (dss_nil)) (dss_cons (ds_set 1 (de_int)) (dss_cons (ds_for (passes_of rfl) (di_tup (de_tup (da_cons (de_int) (da_cons (de_int) (da_nil))))) (dg_name 2) (dss_one (ds_while (passes_of rfl) (dt_cmp od_le (de_op od_mul (de_op od_mul (de_op od_mul (de_var 1) (de_var 1)) (de_var 2)) (de_var 2)) (de_op od_mul (de_int) (de_var 0)) rfl) (dss_one (ds_set 1 (de_op od_mul (de_var 1) (de_var 2))))))) (dss_cons (ds_set 3 (de_op od_fdiv (de_op od_addU (de_var 1) (de_op od_fdiv (de_var 0) (de_var 1))) (de_int))) (dss_cons (ds_while (passes_of rfl) (dt_cmp od_lt (de_var 3) (de_var 1) rfl) (dss_cons (ds_set 1 (de_var 3)) (dss_one (ds_set 3 (de_op od_fdiv (de_op od_addU (de_var 1) (de_op od_fdiv (de_var 0) (de_var 1))) (de_int)))))) (dss_one (ds_ret (de_var 1)))))))) (pure__law_square_root α QD ED C.W hW hp)
theorem sc__law_lowest : FnScope n__law_lowest ["p", "q", "d", "s"] (defScope (top 28)) := ⟨rfl, rfl, rfl, by decide +kernel, rfl, by decide +kernel, by decide +kernel⟩
theorem ok__law_lowest (F : FnP K "_law_lowest" (top 28) f fd) (c__law_common : CalD P w K mg base 1 "_law_common" ["one", "other"] p__law_common) : FnD P w K mg base 2 f fd ["p", "q", "d", "s"] p__law_lowest := by
  refine FunD.okD F sc__law_lowest len__law_lowest fun cdv A outer s H E C α QD ED hr hW hp => ?_
  exact body_of (dss_cons (ds_if ((dw_or (dt_cmp od_eq (de_var 1) (de_int) rfl) (dw_or1 (dt_cmp od_eq (de_var 2) (de_int) rfl))).dt) (dss_one (ds_asg (de_tup (da_cons (de_int) (da_cons (de_int) (da_nil)))) (dg_tup (dgs_cons (dg_name 1) (dgs_cons (dg_name 2) (dgs_nil)))))) (dss_nil)) (dss_cons (ds_set 4 (de_callC (c__law_common.mono (by decide)) hr (da_cons (de_callC (c__law_common.mono (by decide)) hr (da_cons (de_var 0) (da_cons (de_var 1) (da_nil)))) (da_cons (de_var 3) (da_nil))))) (dss_cons (ds_set 4 (de_if (dt_cmp od_gt (de_var 3) (de_int) rfl) (de_var 4) (de_op od_subU (de_int) (de_var 4)))) (dss_one (ds_ret (de_tup (da_cons (de_op od_fdiv (de_var 0) (de_var 4)) (da_cons (de_op od_fdiv (de_var 1) (de_var 4)) (da_cons (de_var 2) (da_cons (de_op od_fdiv (de_var 3) (de_var 4)) (da_nil))))))))))) (pure__law_lowest α QD ED C.W hW hp)
theorem sc__law_add : FnScope n__law_add ["one", "other"] (defScope (top 29)) := ⟨rfl, rfl, rfl, by decide +kernel, rfl, by decide +kernel, by decide +kernel⟩
theorem ok__law_add (F : FnP K "_law_add" (top 29) f fd) (z_max : mg "max" = none) (c__law_lowest : CalD P w K mg base 2 "_law_lowest" ["p", "q", "d", "s"] p__law_lowest) : FnD P w K mg base 3 f fd ["one", "other"] p__law_add := by
  refine FunD.okD F sc__law_add len__law_add fun cdv A outer s H E C α QD ED hr hW hp => ?_
  exact body_of (dss_cons (ds_set 2 (de_op od_addU (de_op od_mul (de_ix (de_var 0) (de_int)) (de_ix (de_var 1) (de_int))) (de_op od_mul (de_ix (de_var 1) (de_int)) (de_ix (de_var 0) (de_int))))) (dss_cons (ds_set 3 (de_op od_addU (de_op od_mul (de_ix (de_var 0) (de_int)) (de_ix (de_var 1) (de_int))) (de_op od_mul (de_ix (de_var 1) (de_int)) (de_ix (de_var 0) (de_int))))) (dss_one (ds_ret (de_callC (c__law_lowest.mono (by decide)) hr (da_cons (de_var 2) (da_cons (de_var 3) (da_cons (de_max z_max (de_ix (de_var 0) (de_int)) (de_ix (de_var 1) (de_int))) (da_cons (de_op od_mul (de_ix (de_var 0) (de_int)) (de_ix (de_var 1) (de_int))) (da_nil)))))))))) (pure__law_add α QD ED C.W hW hp)
theorem sc__law_inverse : FnScope n__law_inverse ["one"] (defScope (top 32)) := ⟨rfl, rfl, rfl, by decide +kernel, rfl, by decide +kernel, by decide +kernel⟩
theorem ok__law_inverse (F : FnP K "_law_inverse" (top 32) f fd) (c__law_lowest : CalD P w K mg base 2 "_law_lowest" ["p", "q", "d", "s"] p__law_lowest) : FnD P w K mg base 3 f fd ["one"] p__law_inverse := by
  refine FunD.okD F sc__law_inverse len__law_inverse fun cdv A outer s H E C α QD ED hr hW hp => ?_
  exact body_of (dss_cons (ds_asg (de_var 0) (dg_tup (dgs_cons (dg_name 1) (dgs_cons (dg_name 2) (dgs_cons (dg_name 3) (dgs_cons (dg_name 4) (dgs_nil))))))) (dss_one (ds_ret (de_callC (c__law_lowest.mono (by decide)) hr (da_cons (de_op od_mul (de_var 1) (de_var 4)) (da_cons (de_op od_subU (de_int) (de_op od_mul (de_var 2) (de_var 4))) (da_cons (de_var 3) (da_cons (de_op od_subU (de_op od_mul (de_var 1) (de_var 1)) (de_op od_mul (de_op od_mul (de_var 2) (de_var 2)) (de_var 3))) (da_nil))))))))) (pure__law_inverse α QD ED C.W hW hp)
theorem sc__law_scaled : FnScope n__law_scaled ["one", "places"] (defScope (top 33)) := ⟨rfl, rfl, rfl, by decide +kernel, rfl, by decide +kernel, by decide +kernel⟩
theorem ok__law_scaled (F : FnP K "_law_scaled" (top 33) f fd) (z_range : mg "range" = none) (c__law_square_root : CalD P w K mg base 1 "_law_square_root" ["value"] p__law_square_root) : FnD P w K mg base 2 f fd ["one", "places"] p__law_scaled := by
  refine FunD.okD F sc__law_scaled len__law_scaled fun cdv A outer s H E C α QD ED hr hW hp => ?_
  exact body_of (dss_cons (ds_asg (de_var 0) (dg_tup (dgs_cons (dg_name 2) (dgs_cons (dg_name 3) (dgs_cons (dg_name 4) (dgs_cons (dg_name 5) (dgs_nil))))))) (dss_cons (ds_set 6 (de_int)) (dss_cons (ds_for (passes_of rfl) (di_range1 (by rfl) z_range (da_cons (de_var 1) (da_nil))) (dg_name 7) (dss_one (ds_set 6 (de_op od_mul (de_var 6) (de_int))))) (dss_cons (ds_set 8 (de_callC (c__law_square_root.mono (by decide)) hr (da_cons (de_op od_mul (de_op od_mul (de_op od_mul (de_op od_mul (de_var 3) (de_var 3)) (de_var 4)) (de_var 6)) (de_var 6)) (da_nil)))) (dss_one (ds_ret (de_op od_fdiv (de_op od_addU (de_op od_mul (de_var 2) (de_var 6)) (de_if (dt_cmp od_gt (de_var 3) (de_int) rfl) (de_var 8) (de_op od_subU (de_int) (de_var 8)))) (de_var 5)))))))) (pure__law_scaled α QD ED C.W hW hp)
theorem sc__law_sign_of : FnScope n__law_sign_of ["one"] (defScope (top 34)) := ⟨rfl, rfl, rfl, by decide +kernel, rfl, by decide +kernel, by decide +kernel⟩
theorem ok__law_sign_of (F : FnP K "_law_sign_of" (top 34) f fd) (z_abs : mg "abs" = none) (c__law_scaled : CalD P w K mg base 2 "_law_scaled" ["one", "places"] p__law_scaled) : FnD P w K mg base 3 f fd ["one"] p__law_sign_of := by
  refine FunD.okD F sc__law_sign_of len__law_sign_of fun cdv A outer s H E C α QD ED hr hW hp => ?_
  exact body_of (dss_cons (ds_set 1 (de_int)) (dss_cons (ds_while (passes_of rfl) (dt_cmp od_ne (de_slice (de_var 0) (do_none) (do_some (de_int))) (de_tup (da_cons (de_int) (da_cons (de_int) (da_nil)))) rfl) (dss_cons (ds_set 2 (de_callC (c__law_scaled.mono (by decide)) hr (da_cons (de_var 0) (da_cons (de_var 1) (da_nil))))) (dss_cons (ds_if (dt_cmp od_gt (de_B1 cd_abs z_abs (de_var 2)) (de_int) rfl) (dss_one (ds_ret (de_if (dt_cmp od_gt (de_var 2) (de_int) rfl) (de_int) (de_op od_subU (de_int) (de_int))))) (dss_nil)) (dss_one (ds_set 1 (de_op od_mul (de_int) (de_var 1))))))) (dss_one (ds_ret (de_int))))) (pure__law_sign_of α QD ED C.W hW hp)
theorem sc__law_whole_part : FnScope n__law_whole_part ["one"] (defScope (top 35)) := ⟨rfl, rfl, rfl, by decide +kernel, rfl, by decide +kernel, by decide +kernel⟩
theorem ok__law_whole_part (F : FnP K "_law_whole_part" (top 35) f fd) (c__law_scaled : CalD P w K mg base 2 "_law_scaled" ["one", "places"] p__law_scaled) (c__law_sign_of : CalD P w K mg base 3 "_law_sign_of" ["one"] p__law_sign_of) (c__law_add : CalD P w K mg base 3 "_law_add" ["one", "other"] p__law_add) : FnD P w K mg base 4 f fd ["one"] p__law_whole_part := by
  refine FunD.okD F sc__law_whole_part len__law_whole_part fun cdv A outer s H E C α QD ED hr hW hp => ?_
  exact body_of (dss_cons (ds_set 1 (de_callC (c__law_scaled.mono (by decide)) hr (da_cons (de_var 0) (da_cons (de_int) (da_nil))))) (dss_cons (ds_while (passes_of rfl) (dt_cmp od_lt (de_callC (c__law_sign_of.mono (by decide)) hr (da_cons (de_callC (c__law_add.mono (by decide)) hr (da_cons (de_var 0) (da_cons (de_tup (da_cons (de_op od_subU (de_int) (de_var 1)) (da_cons (de_int) (da_cons (de_int) (da_cons (de_int) (da_nil)))))) (da_nil)))) (da_nil))) (de_int) rfl) (dss_one (ds_set 1 (de_op od_subU (de_var 1) (de_int))))) (dss_cons (ds_while (passes_of rfl) (dt_cmp od_ge (de_callC (c__law_sign_of.mono (by decide)) hr (da_cons (de_callC (c__law_add.mono (by decide)) hr (da_cons (de_var 0) (da_cons (de_tup (da_cons (de_op od_subU (de_op od_subU (de_int) (de_var 1)) (de_int)) (da_cons (de_int) (da_cons (de_int) (da_cons (de_int) (da_nil)))))) (da_nil)))) (da_nil))) (de_int) rfl) (dss_one (ds_set 1 (de_op od_addU (de_var 1) (de_int))))) (dss_one (ds_ret (de_var 1)))))) (pure__law_whole_part α QD ED C.W hW hp)
theorem sc__law_behind : FnScope n__law_behind ["ratio", "parts"] (defScope (top 36)) := ⟨rfl, rfl, rfl, by decide +kernel, rfl, by decide +kernel, by decide +kernel⟩
theorem ok__law_behind (F : FnP K "_law_behind" (top 36) f fd) (z_enumerate : mg "enumerate" = none) (z_len : mg "len" = none) (c__law_add : CalD P w K mg base 3 "_law_add" ["one", "other"] p__law_add) (c__law_inverse : CalD P w K mg base 3 "_law_inverse" ["one"] p__law_inverse) (c__law_whole_part : CalD P w K mg base 4 "_law_whole_part" ["one"] p__law_whole_part) : FnD P w K mg base 5 f fd ["ratio", "parts"] p__law_behind := by
  refine FunD.okD F sc__law_behind len__law_behind fun cdv A outer s H E C α QD ED hr hW hp => ?_
  exact body_of (dss_cons (ds_for (passes_of rfl) (di_enum z_enumerate (da_cons (de_var 1) (da_nil))) (dg_tup (dgs_cons (dg_name 2) (dgs_cons (dg_name 3) (dgs_nil)))) (dss_cons (ds_if ((dw_or (dt_cmp od_is (de_var 0) (de_non) rfl) (dw_or1 (dt_cmp od_ne (de_callC (c__law_whole_part.mono (by decide)) hr (da_cons (de_var 0) (da_nil))) (de_var 3) rfl))).dt) (dss_one (ds_ret (de_non))) (dss_nil)) (dss_cons (ds_set 4 (de_callC (c__law_add.mono (by decide)) hr (da_cons (de_var 0) (da_cons (de_tup (da_cons (de_op od_subU (de_int) (de_var 3)) (da_cons (de_int) (da_cons (de_int) (da_cons (de_int) (da_nil)))))) (da_nil))))) (dss_cons (ds_set 0 (de_if (dt_cmp od_ne (de_var 4) (de_tup (da_cons (de_int) (da_cons (de_int) (da_cons (de_int) (da_cons (de_int) (da_nil)))))) rfl) (de_callC (c__law_inverse.mono (by decide)) hr (da_cons (de_var 4) (da_nil))) (de_non))) (dss_one (ds_if ((dw_and (dt_cmp od_is (de_var 0) (de_non) rfl) (dw_and1 (dt_cmp od_lt (de_var 2) (de_op od_subU (de_B1 cd_len z_len (de_var 1)) (de_int)) rfl))).dt) (dss_one (ds_ret (de_non))) (dss_nil))))))) (dss_one (ds_ret (de_if (dt_cmp od_isNot (de_var 0) (de_non) rfl) (de_var 0) (de_str))))) (pure__law_behind α QD ED C.W hW hp)
theorem sc__law_is_shortest : FnScope n__law_is_shortest ["first", "again"] (defScope (top 37)) := ⟨rfl, rfl, rfl, by decide +kernel, rfl, by decide +kernel, by decide +kernel⟩
theorem ok__law_is_shortest (F : FnP K "_law_is_shortest" (top 37) f fd) (z_range : mg "range" = none) (z_len : mg "len" = none) : FnD P w K mg base 1 f fd ["first", "again"] p__law_is_shortest := by
  refine FunD.okD F sc__law_is_shortest len__law_is_shortest fun cdv A outer s H E C α QD ED hr hW hp => ?_
  exact body_of (dss_cons (ds_for (passes_of rfl) (di_range2 (by rfl) z_range (da_cons (de_int) (da_cons (de_B1 cd_len z_len (de_var 1)) (da_nil)))) (dg_name 2) (dss_one (ds_if ((dw_and (dt_cmp od_eq (de_op od_mod (de_B1 cd_len z_len (de_var 1)) (de_var 2)) (de_int) rfl) (dw_and1 (dt_cmp od_eq (de_var 1) (de_op od_repL (de_new (dn_slice (de_var 1) (do_none) (do_some (de_var 2)))) (de_op od_fdiv (de_B1 cd_len z_len (de_var 1)) (de_var 2))) rfl))).dt) (dss_one (ds_ret (de_bl))) (dss_nil)))) (dss_one (ds_ret (de_or (de_cmp od_eq (de_var 0) (de_new (dn_lst (da_nil))) rfl) (de_or (de_cmp od_eq (de_var 1) (de_new (dn_lst (da_nil))) rfl) (de_one (de_cmp od_ne (de_ix (de_var 0) (de_neg (de_int))) (de_ix (de_var 1) (de_neg (de_int))) rfl))))))) (pure__law_is_shortest α QD ED C.W hW hp)
theorem sc_law : FnScope n_law ["script"] (defScope (top 38)) := ⟨rfl, rfl, rfl, by decide +kernel, rfl, by decide +kernel, by decide +kernel⟩
theorem ok_law (F : FnP K "law" (top 38) f fd) (z_range : mg "range" = none) (z_tuple : mg "tuple" = none) (z_isinstance : mg "isinstance" = none) (z_len : mg "len" = none) (c__law_spool_of : CalD P w K mg base 1 "_law_spool_of" ["script"] p__law_spool_of) (c__law_upto : CalD P w K mg base 2 "_law_upto" ["spool", "bound"] p__law_upto) (c_number_of : CalD P w K mg base 6 "number_of" ["parts"] p_number_of) (c__law_choice : CalD P w K mg base 3 "_law_choice" ["spool", "items"] p__law_choice) (c__law_is_shortest : CalD P w K mg base 1 "_law_is_shortest" ["first", "again"] p__law_is_shortest) (c__law_behind : CalD P w K mg base 5 "_law_behind" ["ratio", "parts"] p__law_behind) (c__law_alike : CalD P w K mg base 1 "_law_alike" ["one", "other"] p__law_alike) (c__law_sign_of : CalD P w K mg base 3 "_law_sign_of" ["one"] p__law_sign_of) (c__law_lowest : CalD P w K mg base 2 "_law_lowest" ["p", "q", "d", "s"] p__law_lowest) : FnD P w K mg base 7 f fd ["script"] p_law := by
  refine FunD.okD F sc_law len_law fun cdv A outer s H E C α QD ED hr hW hp => ?_
  exact body_of (dss_cons (ds_own 1 (dn_callLC 0 (c__law_spool_of.mono (by decide)) hr (da_nil))) (dss_cons (ds_for (passes_of rfl) (di_range1 (by rfl) z_range (da_cons (de_int) (da_nil))) (dg_name 2) (dss_cons (ds_set 3 (de_callLC 1 (c__law_upto.mono (by decide)) hr (da_cons (de_callLC 1 (c__law_choice.mono (by decide)) hr (da_cons (de_new (dn_lst (da_cons (de_int) (da_cons (de_int) (da_cons (de_int) (da_nil)))))) (da_nil))) (da_nil)))) (dss_cons (ds_setLc 4 [("index", 8)] (di_range1 (by rfl) z_range (da_cons (de_var 3) (da_nil))) (by kernel_rfl) (fun _ _ _ _ _ => ⟨_, dg_name 8⟩) (fun _ _ _ _ _ => ⟨_, dts_nil⟩) (fun _ _ _ _ _ => ⟨_, de_op od_addU (de_int) (de_callLC 1 (c__law_upto.mono (by decide)) hr (da_cons (de_callLC 1 (c__law_choice.mono (by decide)) hr (da_cons (de_new (dn_lst (da_cons (de_int) (da_cons (de_int) (da_cons (de_int) (da_cons (de_op od_pow (de_int) (de_int)) (da_nil))))))) (da_nil))) (da_nil)))⟩)) (dss_cons (ds_setLc 5 [("index", 8)] (di_range1 (by rfl) z_range (da_cons (de_callLC 1 (c__law_upto.mono (by decide)) hr (da_cons (de_int) (da_nil))) (da_nil))) (by kernel_rfl) (fun _ _ _ _ _ => ⟨_, dg_name 8⟩) (fun _ _ _ _ _ => ⟨_, dts_nil⟩) (fun _ _ _ _ _ => ⟨_, de_op od_addU (de_int) (de_callLC 1 (c__law_upto.mono (by decide)) hr (da_cons (de_callLC 1 (c__law_choice.mono (by decide)) hr (da_cons (de_new (dn_lst (da_cons (de_int) (da_cons (de_int) (da_cons (de_int) (da_nil)))))) (da_nil))) (da_nil)))⟩)) (dss_cons (ds_if ((dw_and (dt_cmp od_ne (de_var 4) (de_new (dn_lst (da_nil))) rfl) (dw_and1 (dt_cmp od_eq (de_callLC 1 (c__law_upto.mono (by decide)) hr (da_cons (de_int) (da_nil))) (de_int) rfl))).dt) (dss_one (ds_put 4 (de_int) (de_int))) (dss_nil)) (dss_cons (ds_if (dt_not (dt_val (de_callC (c__law_is_shortest.mono (by decide)) hr (da_cons (de_var 4) (da_cons (de_var 5) (da_nil)))))) (dss_cons (ds_par (i := 4) (j := 5) (da_cons (de_new (dn_slice (de_var 4) (do_none) (do_some (de_int)))) (da_cons (de_new (dn_lst (da_cons (de_op od_addU (de_int) (de_callLC 1 (c__law_upto.mono (by decide)) hr (da_cons (de_int) (da_nil)))) (da_cons (de_int) (da_cons (de_int) (da_nil)))))) (da_nil)))) (dss_one (ds_set 4 (de_if (dt_cmp od_ne (de_var 4) (de_new (dn_lst (da_cons (de_int) (da_nil)))) rfl) (de_var 4) (de_new (dn_lst (da_nil))))))) (dss_nil)) (dss_cons (ds_if (dt_cmp od_eq (de_var 5) (de_new (dn_lst (da_nil))) rfl) (dss_one (ds_set 4 (de_if (dt_cmp od_ne (de_var 4) (de_new (dn_lst (da_nil))) rfl) (de_op od_addU (de_var 4) (de_new (dn_lst (da_cons (de_op od_addU (de_int) (de_callLC 1 (c__law_upto.mono (by decide)) hr (da_cons (de_int) (da_nil)))) (da_nil))))) (de_new (dn_lst (da_cons (de_op od_addU (de_int) (de_callLC 1 (c__law_upto.mono (by decide)) hr (da_cons (de_int) (da_nil)))) (da_nil))))))) (dss_nil)) (dss_cons (ds_set 6 (de_callC (c_number_of.mono (by decide)) hr (da_cons (de_tup (da_cons (de_Ty1 cd_tuple z_tuple (de_var 4)) (da_cons (de_Ty1 cd_tuple z_tuple (de_var 5)) (da_nil)))) (da_nil)))) (dss_cons (ds_if ((dw_or (dt_not (dt_val (de_isD (T := "tuple") kit_tuple z_isinstance z_tuple (by decide +kernel) (de_var 6)))) (dw_or (dt_cmp od_ne (de_B1 cd_len z_len (de_var 6)) (de_int) rfl) (dw_or1 (dt_cmp od_ne (de_callC (c__law_sign_of.mono (by decide)) hr (da_cons (de_var 6) (da_nil))) (de_int) rfl)))).dt) (dss_one (ds_ret (de_bl))) (dss_nil)) (dss_cons (ds_set 7 (de_if (dt_cmp od_ne (de_var 4) (de_new (dn_lst (da_nil))) rfl) (de_callC (c__law_behind.mono (by decide)) hr (da_cons (de_var 6) (da_cons (de_var 4) (da_nil)))) (de_var 6))) (dss_cons (ds_if (dt_cmp od_eq (de_var 5) (de_new (dn_lst (da_nil))) rfl) (dss_one (ds_if ((dw_or (dt_cmp od_ne (de_var 7) (de_str) rfl) (dw_or1 (dt_cmp od_ne (de_slice (de_var 6) (do_some (de_int)) (do_some (de_int))) (de_tup (da_cons (de_int) (da_cons (de_int) (da_nil)))) rfl))).dt) (dss_one (ds_ret (de_bl))) (dss_nil))) (dss_one (ds_if ((dw_or (dt_cmp od_is (de_var 7) (de_non) rfl) (dw_or (dt_cmp od_eq (de_var 7) (de_str) rfl) (dw_or (dt_cmp od_ne (de_callC (c__law_behind.mono (by decide)) hr (da_cons (de_var 7) (da_cons (de_var 5) (da_nil)))) (de_var 7) rfl) (dw_or1 (dt_cmp od_eq (de_ix (de_var 6) (de_int)) (de_int) rfl))))).dt) (dss_one (ds_ret (de_bl))) (dss_nil)))) (dss_one (ds_if (dt_not (dt_val (de_callC (c__law_alike.mono (by decide)) hr (da_cons (de_var 6) (da_cons (de_callC (c__law_lowest.mono (by decide)) hr (da_cons (de_ix (de_var 6) (de_int)) (da_cons (de_ix (de_var 6) (de_int)) (da_cons (de_ix (de_var 6) (de_int)) (da_cons (de_ix (de_var 6) (de_int)) (da_nil)))))) (da_nil)))))) (dss_one (ds_ret (de_bl))) (dss_nil)))))))))))))) (dss_one (ds_ret (de_bl))))) (pure_law α QD ED C.W hW hp)
end
abbrev RR : PySem.W.OpenRow := PySem.W.OpenLaw.row PySem.Challenge.rw_twospeeds_k11_ratios_of_expansions
def dd_common_divisor : He.DefD := ⟨("common_divisor", none), "common_divisor", "common_divisor", defArgs (top 8), defBody (top 8), defScope (top 8), [], []⟩
def dd_without_squares : He.DefD := ⟨("without_squares", none), "without_squares", "without_squares", defArgs (top 9), defBody (top 9), defScope (top 9), [], []⟩
def dd_lowest : He.DefD := ⟨("lowest", none), "lowest", "lowest", defArgs (top 10), defBody (top 10), defScope (top 10), [], []⟩
def dd_number : He.DefD := ⟨("number", none), "number", "number", defArgs (top 11), defBody (top 11), defScope (top 11), [], []⟩
def dd_root_of : He.DefD := ⟨("root_of", none), "root_of", "root_of", defArgs (top 12), defBody (top 12), defScope (top 12), [], []⟩
def dd_plus : He.DefD := ⟨("plus", none), "plus", "plus", defArgs (top 13), defBody (top 13), defScope (top 13), [], []⟩
def dd_times : He.DefD := ⟨("times", none), "times", "times", defArgs (top 14), defBody (top 14), defScope (top 14), [], []⟩
def dd_over : He.DefD := ⟨("over", none), "over", "over", defArgs (top 15), defBody (top 15), defScope (top 15), [], []⟩
def dd_whole : He.DefD := ⟨("whole", none), "whole", "whole", defArgs (top 17), defBody (top 17), defScope (top 17), [], []⟩
def dd_continued : He.DefD := ⟨("continued", none), "continued", "continued", defArgs (top 18), defBody (top 18), defScope (top 18), [], []⟩
def dd_number_of : He.DefD := ⟨("number_of", none), "number_of", "number_of", defArgs (top 19), defBody (top 19), defScope (top 19), [], []⟩
def dd__law_stirred : He.DefD := ⟨("_law_stirred", none), "_law_stirred", "_law_stirred", defArgs (top 21), defBody (top 21), defScope (top 21), [], []⟩
def dd__law_spool_of : He.DefD := ⟨("_law_spool_of", none), "_law_spool_of", "_law_spool_of", defArgs (top 22), defBody (top 22), defScope (top 22), [], []⟩
def dd__law_upto : He.DefD := ⟨("_law_upto", none), "_law_upto", "_law_upto", defArgs (top 23), defBody (top 23), defScope (top 23), [], []⟩
def dd__law_choice : He.DefD := ⟨("_law_choice", none), "_law_choice", "_law_choice", defArgs (top 24), defBody (top 24), defScope (top 24), [], []⟩
def dd__law_alike : He.DefD := ⟨("_law_alike", none), "_law_alike", "_law_alike", defArgs (top 25), defBody (top 25), defScope (top 25), [], []⟩
def dd__law_common : He.DefD := ⟨("_law_common", none), "_law_common", "_law_common", defArgs (top 26), defBody (top 26), defScope (top 26), [], []⟩
def dd__law_square_root : He.DefD := ⟨("_law_square_root", none), "_law_square_root", "_law_square_root", defArgs (top 27), defBody (top 27), defScope (top 27), [], []⟩
def dd__law_lowest : He.DefD := ⟨("_law_lowest", none), "_law_lowest", "_law_lowest", defArgs (top 28), defBody (top 28), defScope (top 28), [], []⟩
def dd__law_add : He.DefD := ⟨("_law_add", none), "_law_add", "_law_add", defArgs (top 29), defBody (top 29), defScope (top 29), [], []⟩
def dd__law_inverse : He.DefD := ⟨("_law_inverse", none), "_law_inverse", "_law_inverse", defArgs (top 32), defBody (top 32), defScope (top 32), [], []⟩
def dd__law_scaled : He.DefD := ⟨("_law_scaled", none), "_law_scaled", "_law_scaled", defArgs (top 33), defBody (top 33), defScope (top 33), [], []⟩
def dd__law_sign_of : He.DefD := ⟨("_law_sign_of", none), "_law_sign_of", "_law_sign_of", defArgs (top 34), defBody (top 34), defScope (top 34), [], []⟩
def dd__law_whole_part : He.DefD := ⟨("_law_whole_part", none), "_law_whole_part", "_law_whole_part", defArgs (top 35), defBody (top 35), defScope (top 35), [], []⟩
def dd__law_behind : He.DefD := ⟨("_law_behind", none), "_law_behind", "_law_behind", defArgs (top 36), defBody (top 36), defScope (top 36), [], []⟩
def dd__law_is_shortest : He.DefD := ⟨("_law_is_shortest", none), "_law_is_shortest", "_law_is_shortest", defArgs (top 37), defBody (top 37), defScope (top 37), [], []⟩
def dd_law : He.DefD := ⟨("law", none), "law", "law", defArgs (top 38), defBody (top 38), defScope (top 38), [], []⟩
def fn : List He.DefD := [dd_common_divisor, dd_without_squares, dd_lowest, dd_number, dd_root_of, dd_plus, dd_times, dd_over, dd_whole, dd_continued, dd_number_of, dd__law_stirred, dd__law_spool_of, dd__law_upto, dd__law_choice, dd__law_alike, dd__law_common, dd__law_square_root, dd__law_lowest, dd__law_add, dd__law_inverse, dd__law_scaled, dd__law_sign_of, dd__law_whole_part, dd__law_behind, dd__law_is_shortest, dd_law]
def fa : List He.Fa := [.glo "common_divisor", .glo "without_squares", .glo "lowest", .glo "number", .glo "root_of", .glo "plus", .glo "times", .glo "over", .glo "whole", .glo "continued", .glo "number_of", .glo "_law_stirred", .glo "_law_spool_of", .glo "_law_upto", .glo "_law_choice", .glo "_law_alike", .glo "_law_common", .glo "_law_square_root", .glo "_law_lowest", .glo "_law_add", .glo "_law_inverse", .glo "_law_scaled", .glo "_law_sign_of", .glo "_law_whole_part", .glo "_law_behind", .glo "_law_is_shortest", .glo "law", .free "abs", .glo "InvalidNumber", .exc "InvalidNumber", .free "max", .glo "OtherRoot", .exc "OtherRoot", .glo "ZeroDivisor", .exc "ZeroDivisor", .glo "ZERO", .free "list", .glo "ONE", .free "range", .free "enumerate", .free "len", .free "repr", .free "tuple", .free "isinstance"]
def ex (K : PySem.W.Frag) : Bool := He.tupB K "ZERO" [.int 0, .int 0, .int 0, .int 1] && (He.tupB K "ONE" [.int 1, .int 0, .int 0, .int 1] && (noDigB K))
abbrev hk : PySem.W.Hook := DL.hookY 5 fa fn ex
def ob (s : PySem.W.SharedT) : He.AlX := DL.obsY 5 fa fn ex (HandSHeadRun.getT s)
theorem ob_eq (s : PySem.W.SharedT) : ob s = hk.obs s.abs := DL.obsY_eq (HandSHeadRun.getT_eq s)
def loose : List Str := (["TwoSpeedsError", "InvalidNumber", "ZeroDivisor", "OtherRoot", "ZERO", "ONE", "common_divisor", "without_squares", "lowest", "number", "root_of", "plus", "times", "over", "whole", "continued", "number_of", "_law_stirred", "_law_spool_of", "_law_upto", "_law_choice", "_law_alike", "_law_common", "_law_square_root", "_law_lowest", "_law_add", "_law_negative", "_law_multiply", "_law_inverse", "_law_scaled"] : List Str) ++ (["_law_sign_of", "_law_whole_part", "_law_behind", "_law_is_shortest"] : List Str)
theorem run (w : World) : HandSHeadRun.RunEq RR (PySem.W.view RR.prog [38]) hk ob 4000 loose w := by
  intro os
  kernel_rfl
theorem facts {P : Program} {w : World} {K : PySem.W.Frag} {h : Heap} {mg : Str → Option Value} {f : Addr} (X : K.In h) (G : h.Ns mainGlobals mg) (hfa : mg ("law" : Str) = some (.ref f)) (c : He.SaysX fa fn [] [] ex w h K) :
    ∃ fd : FuncData, (∀ (s : Shared) (v : Value), BindsTo s fd ⟨[v], []⟩ [("script", v)]) ∧ ∀ base : Heap, K.In base → base.Ns mainGlobals mg → FnD P w K mg base 7 f fd ["script"] lawSp := by
  have z_abs := He.free_ok X G (c.t.d.fact 27 (f := .free "abs") rfl)
  have z_max := He.free_ok X G (c.t.d.fact 30 (f := .free "max") rfl)
  have z_list := He.free_ok X G (c.t.d.fact 36 (f := .free "list") rfl)
  have z_range := He.free_ok X G (c.t.d.fact 38 (f := .free "range") rfl)
  have z_enumerate := He.free_ok X G (c.t.d.fact 39 (f := .free "enumerate") rfl)
  have z_len := He.free_ok X G (c.t.d.fact 40 (f := .free "len") rfl)
  have z_repr := He.free_ok X G (c.t.d.fact 41 (f := .free "repr") rfl)
  have z_tuple := He.free_ok X G (c.t.d.fact 42 (f := .free "tuple") rfl)
  have z_isinstance := He.free_ok X G (c.t.d.fact 43 (f := .free "isinstance") rfl)
  have x_InvalidNumber : ExcD K mg "InvalidNumber" (He.ga K "InvalidNumber") := by
    obtain ⟨h1, h2, h3, h4⟩ := He.exc_ok (c.t.d.fact 29 (f := .exc "InvalidNumber") rfl)
    exact ⟨h1, He.glo_ok X G (c.t.d.fact 28 (f := .glo "InvalidNumber") rfl), h2, h3, h4⟩
  have x_OtherRoot : ExcD K mg "OtherRoot" (He.ga K "OtherRoot") := by
    obtain ⟨h1, h2, h3, h4⟩ := He.exc_ok (c.t.d.fact 32 (f := .exc "OtherRoot") rfl)
    exact ⟨h1, He.glo_ok X G (c.t.d.fact 31 (f := .glo "OtherRoot") rfl), h2, h3, h4⟩
  have x_ZeroDivisor : ExcD K mg "ZeroDivisor" (He.ga K "ZeroDivisor") := by
    obtain ⟨h1, h2, h3, h4⟩ := He.exc_ok (c.t.d.fact 34 (f := .exc "ZeroDivisor") rfl)
    exact ⟨h1, He.glo_ok X G (c.t.d.fact 33 (f := .glo "ZeroDivisor") rfl), h2, h3, h4⟩
  have nd := id (He.ba (He.ba c.more).2).2
  have g_ZERO : mg "ZERO" = some (.ref (He.ga K "ZERO")) ∧ (∀ H : Hp, SqT K H (He.ga K "ZERO") v_ZERO) ∧ ∀ G, Reps K G v_ZERO l_ZERO := ⟨He.glo_ok X G (c.t.d.fact 35 (f := .glo "ZERO") rfl), fun H => He.tupB_ok (x := "ZERO") (vs := [.int 0, .int 0, .int 0, .int 1]) (He.ba c.more).1 H, rep_ZERO K⟩
  have g_ONE : mg "ONE" = some (.ref (He.ga K "ONE")) ∧ (∀ H : Hp, SqT K H (He.ga K "ONE") v_ONE) ∧ ∀ G, Reps K G v_ONE l_ONE := ⟨He.glo_ok X G (c.t.d.fact 37 (f := .glo "ONE") rfl), fun H => He.tupB_ok (x := "ONE") (vs := [.int 1, .int 0, .int 0, .int 1]) (He.ba (He.ba c.more).2).1 H, rep_ONE K⟩
  obtain ⟨fd_common_divisor, F_common_divisor⟩ := c.t.d.def_ 0 (d := dd_common_divisor) rfl
  obtain ⟨fd_without_squares, F_without_squares⟩ := c.t.d.def_ 1 (d := dd_without_squares) rfl
  obtain ⟨fd_lowest, F_lowest⟩ := c.t.d.def_ 2 (d := dd_lowest) rfl
  obtain ⟨fd_number, F_number⟩ := c.t.d.def_ 3 (d := dd_number) rfl
  obtain ⟨fd_root_of, F_root_of⟩ := c.t.d.def_ 4 (d := dd_root_of) rfl
  obtain ⟨fd_plus, F_plus⟩ := c.t.d.def_ 5 (d := dd_plus) rfl
  obtain ⟨fd_times, F_times⟩ := c.t.d.def_ 6 (d := dd_times) rfl
  obtain ⟨fd_over, F_over⟩ := c.t.d.def_ 7 (d := dd_over) rfl
  obtain ⟨fd_whole, F_whole⟩ := c.t.d.def_ 8 (d := dd_whole) rfl
  obtain ⟨fd_continued, F_continued⟩ := c.t.d.def_ 9 (d := dd_continued) rfl
  obtain ⟨fd_number_of, F_number_of⟩ := c.t.d.def_ 10 (d := dd_number_of) rfl
  obtain ⟨fd__law_stirred, F__law_stirred⟩ := c.t.d.def_ 11 (d := dd__law_stirred) rfl
  obtain ⟨fd__law_spool_of, F__law_spool_of⟩ := c.t.d.def_ 12 (d := dd__law_spool_of) rfl
  obtain ⟨fd__law_upto, F__law_upto⟩ := c.t.d.def_ 13 (d := dd__law_upto) rfl
  obtain ⟨fd__law_choice, F__law_choice⟩ := c.t.d.def_ 14 (d := dd__law_choice) rfl
  obtain ⟨fd__law_alike, F__law_alike⟩ := c.t.d.def_ 15 (d := dd__law_alike) rfl
  obtain ⟨fd__law_common, F__law_common⟩ := c.t.d.def_ 16 (d := dd__law_common) rfl
  obtain ⟨fd__law_square_root, F__law_square_root⟩ := c.t.d.def_ 17 (d := dd__law_square_root) rfl
  obtain ⟨fd__law_lowest, F__law_lowest⟩ := c.t.d.def_ 18 (d := dd__law_lowest) rfl
  obtain ⟨fd__law_add, F__law_add⟩ := c.t.d.def_ 19 (d := dd__law_add) rfl
  obtain ⟨fd__law_inverse, F__law_inverse⟩ := c.t.d.def_ 20 (d := dd__law_inverse) rfl
  obtain ⟨fd__law_scaled, F__law_scaled⟩ := c.t.d.def_ 21 (d := dd__law_scaled) rfl
  obtain ⟨fd__law_sign_of, F__law_sign_of⟩ := c.t.d.def_ 22 (d := dd__law_sign_of) rfl
  obtain ⟨fd__law_whole_part, F__law_whole_part⟩ := c.t.d.def_ 23 (d := dd__law_whole_part) rfl
  obtain ⟨fd__law_behind, F__law_behind⟩ := c.t.d.def_ 24 (d := dd__law_behind) rfl
  obtain ⟨fd__law_is_shortest, F__law_is_shortest⟩ := c.t.d.def_ 25 (d := dd__law_is_shortest) rfl
  obtain ⟨fd_law, F_law⟩ := c.t.d.def_ 26 (d := dd_law) rfl
  have c_common_divisor : ∀ base : Heap, CalD P w K mg base 1 "common_divisor" ["first", "second"] p_common_divisor := fun base => ⟨⟨_, fd_common_divisor, ok_common_divisor F_common_divisor z_abs, He.glo_ok X G (c.t.d.fact 0 (f := .glo "common_divisor") rfl), F_common_divisor.kp, F_common_divisor.bindsN fun _ _ _ _ _ _ us hl => match us, hl with | [_, _], _ => rfl⟩⟩
  have c_without_squares : ∀ base : Heap, CalD P w K mg base 1 "without_squares" ["number"] p_without_squares := fun base => ⟨⟨_, fd_without_squares, ok_without_squares F_without_squares, He.glo_ok X G (c.t.d.fact 1 (f := .glo "without_squares") rfl), F_without_squares.kp, F_without_squares.bindsN fun _ _ _ _ _ _ us hl => match us, hl with | [_], _ => rfl⟩⟩
  have c_lowest : ∀ base : Heap, CalD P w K mg base 2 "lowest" ["p", "q", "d", "s"] p_lowest := fun base => ⟨⟨_, fd_lowest, ok_lowest F_lowest (c_common_divisor base), He.glo_ok X G (c.t.d.fact 2 (f := .glo "lowest") rfl), F_lowest.kp, F_lowest.bindsN fun _ _ _ _ _ _ us hl => match us, hl with | [_, _, _, _], _ => rfl⟩⟩
  have c_number : ∀ base : Heap, CalD P w K mg base 3 "number" ["p", "q", "d", "s"] (p_number (He.ga K "InvalidNumber")) := fun base => ⟨⟨_, fd_number, ok_number F_number x_InvalidNumber (c_lowest base) (c_without_squares base), He.glo_ok X G (c.t.d.fact 3 (f := .glo "number") rfl), F_number.kp, F_number.bindsN fun _ _ _ _ _ _ us hl => match us, hl with | [_, _, _, _], _ => rfl⟩⟩
  have c_root_of : ∀ base : Heap, CalD P w K mg base 1 "root_of" ["first", "second"] p_root_of := fun base => ⟨⟨_, fd_root_of, ok_root_of F_root_of z_max x_OtherRoot, He.glo_ok X G (c.t.d.fact 4 (f := .glo "root_of") rfl), F_root_of.kp, F_root_of.bindsN fun _ _ _ _ _ _ us hl => match us, hl with | [_, _], _ => rfl⟩⟩
  have c_plus : ∀ base : Heap, CalD P w K mg base 3 "plus" ["first", "second"] p_plus := fun base => ⟨⟨_, fd_plus, ok_plus F_plus (c_root_of base) (c_lowest base), He.glo_ok X G (c.t.d.fact 5 (f := .glo "plus") rfl), F_plus.kp, F_plus.bindsN fun _ _ _ _ _ _ us hl => match us, hl with | [_, _], _ => rfl⟩⟩
  have c_times : ∀ base : Heap, CalD P w K mg base 3 "times" ["first", "second"] p_times := fun base => ⟨⟨_, fd_times, ok_times F_times (c_root_of base) (c_lowest base), He.glo_ok X G (c.t.d.fact 6 (f := .glo "times") rfl), F_times.kp, F_times.bindsN fun _ _ _ _ _ _ us hl => match us, hl with | [_, _], _ => rfl⟩⟩
  have c_over : ∀ base : Heap, CalD P w K mg base 4 "over" ["first", "second"] p_over := fun base => ⟨⟨_, fd_over, ok_over F_over g_ZERO x_ZeroDivisor (c_times base) (c_lowest base), He.glo_ok X G (c.t.d.fact 7 (f := .glo "over") rfl), F_over.kp, F_over.bindsN fun _ _ _ _ _ _ us hl => match us, hl with | [_, _], _ => rfl⟩⟩
  have c_whole : ∀ base : Heap, CalD P w K mg base 1 "whole" ["value"] p_whole := fun base => ⟨⟨_, fd_whole, ok_whole F_whole, He.glo_ok X G (c.t.d.fact 8 (f := .glo "whole") rfl), F_whole.kp, F_whole.bindsN fun _ _ _ _ _ _ us hl => match us, hl with | [_], _ => rfl⟩⟩
  have c_continued : ∀ base : Heap, CalD P w K mg base 5 "continued" ["first", "last"] p_continued := fun base => ⟨⟨_, fd_continued, ok_continued F_continued z_list g_ONE (c_plus base) (c_whole base) (c_over base), He.glo_ok X G (c.t.d.fact 9 (f := .glo "continued") rfl), F_continued.kp, F_continued.bindsN fun _ _ _ _ _ _ us hl => match us, hl with | [_, _], _ => rfl⟩⟩
  have c_number_of : ∀ base : Heap, CalD P w K mg base 6 "number_of" ["parts"] p_number_of := fun base => ⟨⟨_, fd_number_of, ok_number_of F_number_of (c_common_divisor base) (c_continued base) (c_number base) (c_whole base), He.glo_ok X G (c.t.d.fact 10 (f := .glo "number_of") rfl), F_number_of.kp, F_number_of.bindsN fun _ _ _ _ _ _ us hl => match us, hl with | [_], _ => rfl⟩⟩
  have c__law_stirred : ∀ base : Heap, CalD P w K mg base 1 "_law_stirred" ["cell", "place"] p__law_stirred := fun base => ⟨⟨_, fd__law_stirred, ok__law_stirred F__law_stirred z_range, He.glo_ok X G (c.t.d.fact 11 (f := .glo "_law_stirred") rfl), F__law_stirred.kp, F__law_stirred.bindsN fun _ _ _ _ _ _ us hl => match us, hl with | [_, _], _ => rfl⟩⟩
  have c__law_spool_of : ∀ base : Heap, CalD P w K mg base 1 "_law_spool_of" ["script"] p__law_spool_of := fun base => ⟨⟨_, fd__law_spool_of, ok__law_spool_of F__law_spool_of z_enumerate z_abs, He.glo_ok X G (c.t.d.fact 12 (f := .glo "_law_spool_of") rfl), F__law_spool_of.kp, F__law_spool_of.bindsN fun _ _ _ _ _ _ us hl => match us, hl with | [_], _ => rfl⟩⟩
  have c__law_upto : ∀ base : Heap, CalD P w K mg base 2 "_law_upto" ["spool", "bound"] p__law_upto := fun base => ⟨⟨_, fd__law_upto, ok__law_upto F__law_upto z_len (c__law_stirred base), He.glo_ok X G (c.t.d.fact 13 (f := .glo "_law_upto") rfl), F__law_upto.kp, F__law_upto.bindsN fun _ _ _ _ _ _ us hl => match us, hl with | [_, _], _ => rfl⟩⟩
  have c__law_choice : ∀ base : Heap, CalD P w K mg base 3 "_law_choice" ["spool", "items"] p__law_choice := fun base => ⟨⟨_, fd__law_choice, ok__law_choice F__law_choice z_len (c__law_upto base), He.glo_ok X G (c.t.d.fact 14 (f := .glo "_law_choice") rfl), F__law_choice.kp, F__law_choice.bindsN fun _ _ _ _ _ _ us hl => match us, hl with | [_, _], _ => rfl⟩⟩
  have c__law_alike : ∀ base : Heap, CalD P w K mg base 1 "_law_alike" ["one", "other"] p__law_alike := fun base => ⟨⟨_, fd__law_alike, ok__law_alike F__law_alike z_repr nd, He.glo_ok X G (c.t.d.fact 15 (f := .glo "_law_alike") rfl), F__law_alike.kp, F__law_alike.bindsN fun _ _ _ _ _ _ us hl => match us, hl with | [_, _], _ => rfl⟩⟩
  have c__law_common : ∀ base : Heap, CalD P w K mg base 1 "_law_common" ["one", "other"] p__law_common := fun base => ⟨⟨_, fd__law_common, ok__law_common F__law_common z_abs, He.glo_ok X G (c.t.d.fact 16 (f := .glo "_law_common") rfl), F__law_common.kp, F__law_common.bindsN fun _ _ _ _ _ _ us hl => match us, hl with | [_, _], _ => rfl⟩⟩
  have c__law_square_root : ∀ base : Heap, CalD P w K mg base 1 "_law_square_root" ["value"] p__law_square_root := fun base => ⟨⟨_, fd__law_square_root, ok__law_square_root F__law_square_root, He.glo_ok X G (c.t.d.fact 17 (f := .glo "_law_square_root") rfl), F__law_square_root.kp, F__law_square_root.bindsN fun _ _ _ _ _ _ us hl => match us, hl with | [_], _ => rfl⟩⟩
  have c__law_lowest : ∀ base : Heap, CalD P w K mg base 2 "_law_lowest" ["p", "q", "d", "s"] p__law_lowest := fun base => ⟨⟨_, fd__law_lowest, ok__law_lowest F__law_lowest (c__law_common base), He.glo_ok X G (c.t.d.fact 18 (f := .glo "_law_lowest") rfl), F__law_lowest.kp, F__law_lowest.bindsN fun _ _ _ _ _ _ us hl => match us, hl with | [_, _, _, _], _ => rfl⟩⟩
  have c__law_add : ∀ base : Heap, CalD P w K mg base 3 "_law_add" ["one", "other"] p__law_add := fun base => ⟨⟨_, fd__law_add, ok__law_add F__law_add z_max (c__law_lowest base), He.glo_ok X G (c.t.d.fact 19 (f := .glo "_law_add") rfl), F__law_add.kp, F__law_add.bindsN fun _ _ _ _ _ _ us hl => match us, hl with | [_, _], _ => rfl⟩⟩
  have c__law_inverse : ∀ base : Heap, CalD P w K mg base 3 "_law_inverse" ["one"] p__law_inverse := fun base => ⟨⟨_, fd__law_inverse, ok__law_inverse F__law_inverse (c__law_lowest base), He.glo_ok X G (c.t.d.fact 20 (f := .glo "_law_inverse") rfl), F__law_inverse.kp, F__law_inverse.bindsN fun _ _ _ _ _ _ us hl => match us, hl with | [_], _ => rfl⟩⟩
  have c__law_scaled : ∀ base : Heap, CalD P w K mg base 2 "_law_scaled" ["one", "places"] p__law_scaled := fun base => ⟨⟨_, fd__law_scaled, ok__law_scaled F__law_scaled z_range (c__law_square_root base), He.glo_ok X G (c.t.d.fact 21 (f := .glo "_law_scaled") rfl), F__law_scaled.kp, F__law_scaled.bindsN fun _ _ _ _ _ _ us hl => match us, hl with | [_, _], _ => rfl⟩⟩
  have c__law_sign_of : ∀ base : Heap, CalD P w K mg base 3 "_law_sign_of" ["one"] p__law_sign_of := fun base => ⟨⟨_, fd__law_sign_of, ok__law_sign_of F__law_sign_of z_abs (c__law_scaled base), He.glo_ok X G (c.t.d.fact 22 (f := .glo "_law_sign_of") rfl), F__law_sign_of.kp, F__law_sign_of.bindsN fun _ _ _ _ _ _ us hl => match us, hl with | [_], _ => rfl⟩⟩
  have c__law_whole_part : ∀ base : Heap, CalD P w K mg base 4 "_law_whole_part" ["one"] p__law_whole_part := fun base => ⟨⟨_, fd__law_whole_part, ok__law_whole_part F__law_whole_part (c__law_scaled base) (c__law_sign_of base) (c__law_add base), He.glo_ok X G (c.t.d.fact 23 (f := .glo "_law_whole_part") rfl), F__law_whole_part.kp, F__law_whole_part.bindsN fun _ _ _ _ _ _ us hl => match us, hl with | [_], _ => rfl⟩⟩
  have c__law_behind : ∀ base : Heap, CalD P w K mg base 5 "_law_behind" ["ratio", "parts"] p__law_behind := fun base => ⟨⟨_, fd__law_behind, ok__law_behind F__law_behind z_enumerate z_len (c__law_add base) (c__law_inverse base) (c__law_whole_part base), He.glo_ok X G (c.t.d.fact 24 (f := .glo "_law_behind") rfl), F__law_behind.kp, F__law_behind.bindsN fun _ _ _ _ _ _ us hl => match us, hl with | [_, _], _ => rfl⟩⟩
  have c__law_is_shortest : ∀ base : Heap, CalD P w K mg base 1 "_law_is_shortest" ["first", "again"] p__law_is_shortest := fun base => ⟨⟨_, fd__law_is_shortest, ok__law_is_shortest F__law_is_shortest z_range z_len, He.glo_ok X G (c.t.d.fact 25 (f := .glo "_law_is_shortest") rfl), F__law_is_shortest.kp, F__law_is_shortest.bindsN fun _ _ _ _ _ _ us hl => match us, hl with | [_, _], _ => rfl⟩⟩
  have e := hfa.symm.trans (He.glo_ok X G (c.t.d.fact 26 (f := .glo "law") rfl))
  cases e
  have b := L2.FunD.bindsA (ps := ["script"]) F_law fun _ _ _ _ _ _ us hl => match us, hl with | [_], _ => rfl
  exact ⟨fd_law, fun s v => b s [v] rfl, fun base _ _ => ok_law F_law z_range z_tuple z_isinstance z_len (c__law_spool_of base) (c__law_upto base) (c_number_of base) (c__law_choice base) (c__law_is_shortest base) (c__law_behind base) (c__law_alike base) (c__law_sign_of base) (c__law_lowest base)⟩
end KK
open PySem PySem.W PySem.Calls PyProof.Rows
theorem PySem.Challenge.cw_twospeeds_k11_ratios_of_expansions_holds : PySem.Challenge.rw_twospeeds_k11_ratios_of_expansions.Holds := by
  w_on; o_law
  refine HandSHeadRun.head_any (r := OpenLaw.row PySem.Challenge.rw_twospeeds_k11_ratios_of_expansions) (q := view (OpenLaw.row PySem.Challenge.rw_twospeeds_k11_ratios_of_expansions).prog [38]) (H := KK.hk) (ob := KK.ob) (M := 4000) (loose := KK.loose) (d := HandSHeadRun.topDef (OpenLaw.row PySem.Challenge.rw_twospeeds_k11_ratios_of_expansions).prog 38) (kwd := []) KK.ob_eq
    (by kernel_rfl) (fun s => by kernel_rfl) KK.run (by kernel_rfl) (by kernel_rfl) (by kernel_rfl) (by rfl) (by first | assumption | decide +kernel) (by decide +kernel) ⟨rfl, rfl, rfl, rfl, rfl, by decide +kernel⟩ ?hw ?hc
  case hw => w_witness2
  case hc =>
    refine DL.walkD (l := PySem.Challenge.rw_twospeeds_k11_ratios_of_expansions) (k := 7) (x := "script") rfl (by kernel_rfl) ⟨rfl, by decide, by decide⟩ ?F
    intro w mg fa h Y G hmg0
    obtain ⟨K, KX, c⟩ := Y
    have hmg : mg ("law" : PySem.Str) = some (.ref fa) := by
      have e : (HandSHeadRun.topDef (OpenLaw.row PySem.Challenge.rw_twospeeds_k11_ratios_of_expansions).prog 38).name = ("law" : PySem.Str) := by kernel_rfl
      rw [← e]
      exact hmg0
    obtain ⟨fd, hb, hF⟩ := KK.facts (P := (PySem.Challenge.rw_twospeeds_k11_ratios_of_expansions).prog) (w := w) KX G hmg c
    exact ⟨K, fd, KX, hb, hF⟩
