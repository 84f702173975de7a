import PyProof.Rows.All
import HandS.ForMost
import HandS.ForExc
import HandS.Walk
import HandS.Wide
import HandS.Deep
import HandS.TupAny
import HandS.IsInst
import HandS.Style
import HandS.RaiseMore
import HandS.TupMul
import PyProof.ReprRoads
import HandS.EndBits
import HandS.HeadEnd
import HandS.Head0
import HandS.Head1
import HandS.Head2
import HandS.HeadHook1
import HandS.HeadHook2
import HandS.Defaults
import HandS.HeadHook3
import HandS.HeadHook4
import HandS.ExcIs
import KE.DataFind
import PyProof.Rows.Digits
import PyProof.Rows.StrOr
import HandS.ExcInit
import HandS.ExcValue
import HandS.FStr
import HandS.Head4
import PySem.Challenge.RW_twospeeds_k06_errors
set_option Elab.async false
set_option linter.all false
set_option maxRecDepth 100000
section
set_option maxHeartbeats 4000000
/-! DLA: slots that hold data (PyData), lists that a frame owns, the state of both. -/
namespace DL
open PySem PySem.Spec L2

def keyD : Key → PyData
  | .inl i => .int i
  | .inr x => .str x
mutual
/-- a value is a datum, all of it in what stays -/
inductive Rep (K : PySem.W.Frag) (G : Hp) : V → PyData → Prop
  | non : Rep K G .non .none
  | bl (b : Bool) : Rep K G (.bl b) (.bool b)
  | int (i : Int) : Rep K G (.int i) (.int i)
  | str (x : Str) : Rep K G (.str x) (.str x)
  | lst {a : Addr} {xs : List V} {ds : List PyData} : G a = some (.lst xs) → Reps K G xs ds → Rep K G (.ref a) (.list ds)
  | tup {a : Addr} {xs : List V} {ds : List PyData} : SqT K G a xs → Reps K G xs ds → Rep K G (.ref a) (.tuple ds)
  | dic {a : Addr} {kvs : List (Key × V)} {es : List (PyData × PyData)} : G a = some (.dK kvs) → RepKV K G kvs es → Rep K G (.ref a) (.dict es)
inductive Reps (K : PySem.W.Frag) (G : Hp) : List V → List PyData → Prop
  | nil : Reps K G [] []
  | cons {v : V} {vs : List V} {d : PyData} {ds : List PyData} : Rep K G v d → Reps K G vs ds → Reps K G (v :: vs) (d :: ds)
inductive RepKV (K : PySem.W.Frag) (G : Hp) : List (Key × V) → List (PyData × PyData) → Prop
  | nil : RepKV K G [] []
  | cons {k : Key} {v : V} {kvs : List (Key × V)} {d : PyData} {es : List (PyData × PyData)} : Rep K G v d → RepKV K G kvs es → RepKV K G ((k, v) :: kvs) ((keyD k, d) :: es)
end

theorem rd_mono {G G' : Hp} (s : Same G G') {a : Addr} {u : HO} (h : Rd G a u) : Rd G' a u := by
  rcases h with h | ⟨o, h⟩
  · exact Or.inl (s _ _ h)
  · exact Or.inr ⟨o, s _ _ h⟩
theorem sqt_mono {K : PySem.W.Frag} {G G' : Hp} (s : Same G G') {a : Addr} {xs : List V} (h : SqT K G a xs) : SqT K G' a xs := by
  rcases h with h | h
  · exact Or.inl (rd_mono s h)
  · exact Or.inr h
theorem sql_mono {K : PySem.W.Frag} {G G' : Hp} (s : Same G G') {a : Addr} {xs : List V} (h : SqL K G a xs) : SqL K G' a xs := by
  rcases h with h | h
  · exact Or.inl (rd_mono s h)
  · exact Or.inr h
section
variable {K : PySem.W.Frag} {G G' : Hp}
mutual
theorem rep_mono (s : Same G G') : ∀ (d : PyData) (v : V), Rep K G v d → Rep K G' v d
  | .none, _, h => by cases h; exact .non
  | .bool b, _, h => by cases h; exact .bl b
  | .int i, _, h => by cases h; exact .int i
  | .str x, _, h => by cases h; exact .str x
  | .list ds, _, h => by
    cases h with
    | lst hs ha => exact .lst (s _ _ hs) (reps_mono s ds _ ha)
  | .tuple ds, _, h => by
    cases h with
    | tup hs ha => exact .tup (sqt_mono s hs) (reps_mono s ds _ ha)
  | .dict es, _, h => by
    cases h with
    | dic hs ha => exact .dic (s _ _ hs) (repkv_mono s es _ ha)
theorem reps_mono (s : Same G G') : ∀ (ds : List PyData) (vs : List V), Reps K G vs ds → Reps K G' vs ds
  | [], _, h => by cases h; exact .nil
  | d :: ds, _, h => by
    cases h with
    | cons h1 h2 => exact .cons (rep_mono s d _ h1) (reps_mono s ds _ h2)
theorem repkv_mono (s : Same G G') : ∀ (es : List (PyData × PyData)) (kvs : List (Key × V)), RepKV K G kvs es → RepKV K G' kvs es
  | [], _, h => by cases h; exact .nil
  | (_, d) :: es, _, h => by
    cases h with
    | cons h1 h2 => exact .cons (rep_mono s d _ h1) (repkv_mono s es _ h2)
end
mutual
/-- data without dicts, for the kit's own rules of data -/
theorem Rep.dp : ∀ (d : PyData) (v : V), Rep K G v d → d.hasDict = false → Dp K G v d
  | .none, _, h, _ => by cases h; exact .non
  | .bool b, _, h, _ => by cases h; exact .bl b
  | .int i, _, h, _ => by cases h; exact .int i
  | .str x, _, h, _ => by cases h; exact .str x
  | .list ds, _, h, n => by
    cases h with
    | lst hs ha => exact .lst (SqL.of hs) (Reps.dp ds _ ha (by simpa [PyData.hasDict] using n))
  | .tuple ds, _, h, n => by
    cases h with
    | tup hs ha => exact .tup hs (Reps.dp ds _ ha (by simpa [PyData.hasDict] using n))
  | .dict _, _, _, n => by simp [PyData.hasDict] at n
theorem Reps.dp : ∀ (ds : List PyData) (vs : List V), Reps K G vs ds → PyData.hasDictAll ds = false → DpAll K G vs ds
  | [], _, h, _ => by cases h; exact .nil
  | d :: ds, _, h, n => by
    have n' : (d.hasDict || PyData.hasDictAll ds) = false := by simpa [PyData.hasDictAll] using n
    rw [Bool.or_eq_false_iff] at n'
    cases h with
    | cons h1 h2 => exact .cons (Rep.dp d _ h1 n'.1) (Reps.dp ds _ h2 n'.2)
end
theorem Reps.len : ∀ {vs : List V} {ds : List PyData}, Reps K G vs ds → vs.length = ds.length
  | _, _, .nil => rfl
  | _, _, .cons _ r => congrArg (· + 1) (Reps.len r)
theorem Reps.app : ∀ {vs ws : List V} {ds es : List PyData}, Reps K G vs ds → Reps K G ws es → Reps K G (vs ++ ws) (ds ++ es)
  | _, _, _, _, .nil, s => s
  | _, _, _, _, .cons r t, s => .cons r (Reps.app t s)
theorem Reps.get : ∀ {vs : List V} {ds : List PyData} {i : Nat} {d : PyData}, Reps K G vs ds → ds[i]? = some d → ∃ v, vs[i]? = some v ∧ Rep K G v d
  | _, _, _, _, .nil, e => by simp at e
  | _, _, 0, _, .cons r _, e => by simp at e; subst e; exact ⟨_, rfl, r⟩
  | _, _, i + 1, d, .cons _ t, e => by
    obtain ⟨v, h1, h2⟩ := Reps.get (i := i) (d := d) t (by simpa using e)
    exact ⟨v, by simpa using h1, h2⟩
theorem Reps.get' : ∀ {vs : List V} {ds : List PyData} {i : Nat} {v : V}, Reps K G vs ds → vs[i]? = some v → ∃ d, ds[i]? = some d ∧ Rep K G v d
  | _, _, _, _, .nil, e => by simp at e
  | _, _, 0, _, .cons r _, e => by simp at e; subst e; exact ⟨_, rfl, r⟩
  | _, _, i + 1, v, .cons _ t, e => by
    obtain ⟨d, h1, h2⟩ := Reps.get' (i := i) (v := v) t (by simpa using e)
    exact ⟨d, by simpa using h1, h2⟩
theorem Reps.setAt : ∀ {vs : List V} {ds : List PyData} (i : Nat) {v : V} {d : PyData}, Reps K G vs ds → Rep K G v d → Reps K G (vs.set i v) (ds.set i d)
  | _, _, _, _, _, .nil, _ => .nil
  | _, _, 0, _, _, .cons _ t, r => .cons r t
  | _, _, i + 1, _, _, .cons q t, r => .cons q (Reps.setAt i t r)
theorem Reps.takeN : ∀ {vs : List V} {ds : List PyData} (n : Nat), Reps K G vs ds → Reps K G (vs.take n) (ds.take n)
  | _, _, 0, _ => .nil
  | _, _, _ + 1, .nil => .nil
  | _, _, n + 1, .cons r t => .cons r (Reps.takeN n t)
theorem Reps.dropN : ∀ {vs : List V} {ds : List PyData} (n : Nat), Reps K G vs ds → Reps K G (vs.drop n) (ds.drop n)
  | _, _, 0, r => r
  | _, _, _ + 1, .nil => .nil
  | _, _, n + 1, .cons _ t => Reps.dropN n t
theorem Reps.rev : ∀ {vs : List V} {ds : List PyData}, Reps K G vs ds → Reps K G vs.reverse ds.reverse
  | _, _, .nil => .nil
  | _, _, .cons r t => by
    rw [List.reverse_cons, List.reverse_cons]
    exact Reps.app (Reps.rev t) (.cons r .nil)
theorem reps_ints : ∀ ns : List Int, Reps K G (ns.map V.int) (ns.map PyData.int)
  | [] => .nil
  | n :: ns => .cons (.int n) (reps_ints ns)
theorem reps_ints_inv : ∀ {ns : List Int} {vs : List V}, Reps K G vs (ns.map PyData.int) → vs = ns.map V.int
  | [], _, h => by cases h; rfl
  | n :: ns, _, h => by
    cases h with
    | cons h1 h2 => cases h1; rw [reps_ints_inv h2]; rfl
theorem reps_bools_inv : ∀ {ns : List Bool} {vs : List V}, Reps K G vs (ns.map PyData.bool) → vs = ns.map V.bl
  | [], _, h => by cases h; rfl
  | n :: ns, _, h => by
    cases h with
    | cons h1 h2 => cases h1; rw [reps_bools_inv h2]; rfl
theorem reps_strs_inv : ∀ {ns : List Str} {vs : List V}, Reps K G vs (ns.map PyData.str) → vs = ns.map V.str
  | [], _, h => by cases h; rfl
  | n :: ns, _, h => by
    cases h with
    | cons h1 h2 => cases h1; rw [reps_strs_inv h2]; rfl
end

/-- a thing of one's own kind that a frame owns: what is true of the heap at its addresses -/
structure Res where
  P : PySem.W.Frag → Hp → Hp → Addr → List Addr → Prop
  keep : ∀ {K : PySem.W.Frag} {G H G' H' : Hp} {a : Addr} {fp : List Addr}, Same G G' → (∀ b ∈ fp, ∀ o, H b = some o → H' b = some o) → P K G H a fp → P K G' H' a fp

/-- a slot: nothing; a datum; a list of the frame's own (io: it came in by this parameter and goes out by it); a thing of one's own kind -/
inductive SD where
  | no | val (d : PyData) | own (io : Bool) (ds : List PyData) | res (io : Bool) (r : Res)
abbrev DSt := List SD

/-- the world of a frame: the part of the heap that stays, the heap, each slot's own addresses -/
structure Wd where
  G : Hp
  H : Hp
  F : Nat → List Addr

/-- the values of the parameters as they came; what is new since the entry -/
structure Par where
  σ0 : St
  N : Addr → Prop
/-- a slot and what it holds; v0: the parameter as it came; N: what is new since the entry -/
def slotOk (K : PySem.W.Frag) (v0 : Option (Option V)) (N : Addr → Prop) (w : Wd) (fp : List Addr) (v : Option (Option V)) : SD → Prop
  | .no => fp = []
  | .val d => fp = [] ∧ ∃ u, v = some (some u) ∧ Rep K w.G u d
  | .own io ds => ∃ a vs, v = some (some (.ref a)) ∧ fp = [a] ∧ w.H a = some (.lst vs) ∧ Reps K w.G vs ds ∧ ((io = true → v0 = some (some (.ref a))) ∧ (io = false → N a))
  | .res io r => ∃ a, v = some (some (.ref a)) ∧ r.P K w.G w.H a fp ∧ ((io = true → v0 = some (some (.ref a))) ∧ (io = false → ∀ b ∈ fp, N b))

structure FI (K : PySem.W.Frag) (P : Par) (w : Wd) (σ : St) (ρ : DSt) : Prop where
  gh : Same w.G w.H
  len : σ.length = ρ.length
  ok : ∀ i s, ρ[i]? = some s → slotOk K P.σ0[i]? P.N w (w.F i) σ[i]? s
  out : ∀ i, ρ.length ≤ i → w.F i = []
  foot : ∀ i b, b ∈ w.F i → w.G b = none ∧ w.H b ≠ none
  sep : ∀ i j b, i ≠ j → b ∈ w.F i → b ∉ w.F j

/-- how a world goes on -/
structure Stp (w w' : Wd) : Prop where
  g : Same w.G w'.G
  gf : ∀ b, w.H b ≠ none → w.G b = none → (∀ i, b ∉ w.F i) → w'.G b = none
  h : ∀ b o, w.H b = some o → (∀ i, b ∉ w.F i) → w'.H b = some o
  t : ∀ b, w.H b ≠ none → w'.H b ≠ none
  f : ∀ i b, b ∈ w'.F i → b ∈ w.F i ∨ w.H b = none
theorem Stp.refl (w : Wd) : Stp w w := ⟨fun _ _ h => h, fun _ _ h _ => h, fun _ _ h _ => h, fun _ h => h, fun _ _ h => .inl h⟩
theorem Stp.trans {w w1 w2 : Wd} (a : Stp w w1) (b : Stp w1 w2) : Stp w w2 := by
  have nf : ∀ c, w.H c ≠ none → (∀ i, c ∉ w.F i) → ∀ i, c ∉ w1.F i := fun c h n i z => by
    rcases a.f i c z with q | q
    · exact n i q
    · exact h q
  refine ⟨fun c o h => b.g c o (a.g c o h), fun c h g n => b.gf c (a.t c h) (a.gf c h g n) (nf c h n), fun c o h n => b.h c o (a.h c o h n) (nf c (by rw [h]; exact fun z => nomatch z) n), fun c h => b.t c (a.t c h), fun i c z => ?_⟩
  rcases b.f i c z with q | q
  · exact a.f i c q
  · refine .inr ?_
    cases e : w.H c with
    | none => rfl
    | some o => exact absurd q (a.t c (by rw [e]; exact fun z => nomatch z))

/-- what an expression gives: a datum; the slot of a name -/
inductive R where
  | d (x : PyData) | s (i : Nat)
def RepR (K : PySem.W.Frag) (w : Wd) (σ : St) (v : V) : R → Prop
  | .d x => Rep K w.G v x
  | .s i => σ[i]? = some (some v)
theorem RepR.step {K : PySem.W.Frag} {w w' : Wd} {σ : St} {v : V} {r : R} (s : Stp w w') (h : RepR K w σ v r) : RepR K w' σ v r := by
  cases r with
  | d x => exact rep_mono s.g _ _ h
  | s i => exact h

/-- what is seen at a result: a datum -/
def vw (ρ : DSt) (r : R) (k : PyData → Prop) : Prop := match r with
  | .d x => k x
  | .s i => match ρ[i]? with
    | some (.val d) => k d
    | some (.own _ ds) => k (.list ds)
    | _ => False
/-- a value seen: a list by its items (the list itself may be the frame's own), else as it is -/
def Top (K : PySem.W.Frag) (w : Wd) (v : V) : PyData → Prop
  | .list ds => ∃ a vs, v = .ref a ∧ w.H a = some (.lst vs) ∧ Reps K w.G vs ds
  | d => Rep K w.G v d
theorem rep_top {K : PySem.W.Frag} {w : Wd} {v : V} {d : PyData} (gh : Same w.G w.H) (h : Rep K w.G v d) : Top K w v d := by
  cases d with
  | list ds =>
    cases h with
    | lst hs ha => exact ⟨_, _, rfl, gh _ _ hs, ha⟩
  | _ => exact h
theorem vw_top {K : PySem.W.Frag} {P : Par} {w : Wd} {σ : St} {ρ : DSt} {v : V} {r : R} {k : PyData → Prop} (I : FI K P w σ ρ) (h : RepR K w σ v r) (q : vw ρ r k) : ∃ d, Top K w v d ∧ k d := by
  cases r with
  | d x => exact ⟨x, rep_top I.gh h, q⟩
  | s i =>
    have h : σ[i]? = some (some v) := h
    have q : (match ρ[i]? with
      | some (.val d) => k d
      | some (.own _ ds) => k (.list ds)
      | _ => False) := q
    cases e : ρ[i]? with
    | none => rw [e] at q; exact q.elim
    | some s =>
      rw [e] at q
      have ok := I.ok i s e
      cases s with
      | no => exact q.elim
      | res _ _ => exact q.elim
      | val d =>
        obtain ⟨_, u, e2, hr⟩ := ok
        rw [h] at e2
        cases e2
        exact ⟨d, rep_top I.gh hr, q⟩
      | own io ds =>
        obtain ⟨a, vs, e2, _, hh, hr, _⟩ := ok
        rw [h] at e2
        cases e2
        exact ⟨.list ds, ⟨a, vs, rfl, hh, hr⟩, q⟩
/-- seen in the whole heap -/
theorem Top.rep {K : PySem.W.Frag} {w : Wd} {v : V} {d : PyData} (gh : Same w.G w.H) (h : Top K w v d) : Rep K w.H v d := by
  cases d with
  | list ds =>
    obtain ⟨a, vs, rfl, hs, hr⟩ := h
    exact .lst hs (reps_mono gh _ _ hr)
  | none => exact rep_mono gh _ _ h
  | bool b => exact rep_mono gh _ _ h
  | int i => exact rep_mono gh _ _ h
  | str x => exact rep_mono gh _ _ h
  | tuple ds => exact rep_mono gh _ _ h
  | dict _ => exact rep_mono gh _ _ h

/-- a slot's tie behind a change of the world that leaves its own addresses -/
theorem slotOk.go {K : PySem.W.Frag} {v0 v : Option (Option V)} {N : Addr → Prop} {w w' : Wd} {fp : List Addr} {s : SD} (h : slotOk K v0 N w fp v s) (g : Same w.G w'.G) (hh : ∀ b ∈ fp, ∀ o, w.H b = some o → w'.H b = some o) : slotOk K v0 N w' fp v s := by
  cases s with
  | no => exact h
  | val d =>
    obtain ⟨h1, u, h2, h3⟩ := h
    exact ⟨h1, u, h2, rep_mono g _ _ h3⟩
  | own io ds =>
    obtain ⟨a, vs, h1, h2, h3, h4, h5⟩ := h
    exact ⟨a, vs, h1, h2, hh a (by rw [h2]; exact List.mem_cons_self) _ h3, reps_mono g _ _ h4, h5⟩
  | res io r =>
    obtain ⟨a, h1, h2, h3⟩ := h
    exact ⟨a, h1, r.keep g hh h2, h3⟩

/-! ### new objects -/
section
variable {K : PySem.W.Frag} {P : Par} {w : Wd} {σ : St} {ρ : DSt} {p : Addr} {o : HO}
theorem FI.fresh (I : FI K P w σ ρ) (hp : w.H p = none) : w.G p = none ∧ ∀ i b, b ∈ w.F i → b ≠ p :=
  ⟨I.gh.free hp, fun i b hb z => (I.foot i b hb).2 (by rw [z]; exact hp)⟩
theorem same_new {H : Hp} (h : H p = none) : Same H (upd H p o) := fun b u e => by rw [upd_ne (ne_of_none e h)]; exact e
theorem there_new {H : Hp} (b : Addr) (h : H b ≠ none) : upd H p o b ≠ none := by
  by_cases e : b = p
  · subst e; rw [upd_same]; exact fun z => nomatch z
  · rw [upd_ne e]; exact h
/-- a new object that stays -/
theorem FI.new (I : FI K P w σ ρ) (hp : w.H p = none) : FI K P ⟨upd w.G p o, upd w.H p o, w.F⟩ σ ρ ∧ Stp w ⟨upd w.G p o, upd w.H p o, w.F⟩ := by
  obtain ⟨hg, np⟩ := I.fresh hp
  refine ⟨⟨fun b u h => ?_, I.len, fun i s e => (I.ok i s e).go (same_new hg) fun b _ u h => same_new hp b u h, I.out, fun i b hb => ⟨?_, there_new b (I.foot i b hb).2⟩, I.sep⟩,
    ⟨same_new hg, fun b h1 h2 _ => ?_, fun b u h _ => same_new hp b u h, there_new, fun i b hb => .inl hb⟩⟩
  · have h : upd w.G p o b = some u := h
    show upd w.H p o b = some u
    by_cases e : b = p
    · subst e
      rw [upd_same] at h ⊢
      exact h
    · rw [upd_ne e] at h ⊢
      exact I.gh b u h
  · show upd w.G p o b = none
    rw [upd_ne (np i b hb)]; exact (I.foot i b hb).1
  · show upd w.G p o b = none
    rw [upd_ne (fun z => h1 (by rw [z]; exact hp))]; exact h2
/-- slot i holds v from now on: a datum -/
theorem FI.set (I : FI K P w σ ρ) {i : Nat} {v : V} {d : PyData} (h : Rep K w.G v d) : FI K P ⟨w.G, w.H, fun j => if j = i then [] else w.F j⟩ (σ.set i (some v)) (ρ.set i (.val d)) ∧ Stp w ⟨w.G, w.H, fun j => if j = i then [] else w.F j⟩ := by
  have sub : ∀ j b, b ∈ (if j = i then ([] : List Addr) else w.F j) → b ∈ w.F j := fun j b hb => by
    by_cases e : j = i
    · rw [if_pos e] at hb; cases hb
    · rw [if_neg e] at hb; exact hb
  refine ⟨⟨I.gh, by rw [List.length_set, List.length_set]; exact I.len, fun j s e => ?_, fun j hj => ?_, fun j b hb => I.foot j b (sub j b hb), fun j l b hjl hb hb' => I.sep j l b hjl (sub j b hb) (sub l b hb')⟩,
    ⟨fun _ _ h => h, fun _ _ h _ => h, fun _ _ h _ => h, fun _ h => h, fun j b hb => .inl (sub j b hb)⟩⟩
  · by_cases hj : i = j
    · subst hj
      have hlt : i < ρ.length := by
        rcases Nat.lt_or_ge i ρ.length with q | q
        · exact q
        · rw [List.getElem?_eq_none (by rw [List.length_set]; exact q)] at e; cases e
      rw [List.getElem?_set_self hlt] at e
      cases e
      rw [List.getElem?_set_self (by rw [I.len]; exact hlt)]
      exact ⟨if_pos rfl, v, rfl, h⟩
    · rw [List.getElem?_set_ne hj] at e
      rw [List.getElem?_set_ne hj]
      have ok := I.ok j s e
      show slotOk K P.σ0[j]? P.N _ (if j = i then [] else w.F j) σ[j]? s
      rw [if_neg (Ne.symm hj)]
      exact ok.go (fun _ _ h => h) fun _ _ _ h => h
  · show (if j = i then [] else w.F j) = []
    by_cases e : j = i
    · rw [if_pos e]
    · rw [if_neg e]; exact I.out j (by rw [← List.length_set (as := ρ)]; exact hj)
/-- a slot's own list comes to what stays -/
theorem FI.freeze (I : FI K P w σ ρ) {i : Nat} {ds : List PyData} (h : ρ[i]? = some (.own false ds)) :
    ∃ a vs, σ[i]? = some (some (.ref a)) ∧ w.H a = some (.lst vs) ∧ FI K P ⟨upd w.G a (.lst vs), w.H, fun j => if j = i then [] else w.F j⟩ σ (ρ.set i (.val (.list ds))) ∧
      Stp w ⟨upd w.G a (.lst vs), w.H, fun j => if j = i then [] else w.F j⟩ ∧ Rep K (upd w.G a (.lst vs)) (.ref a) (.list ds) := by
  obtain ⟨a, vs, h1, h2, h3, h4, _⟩ := I.ok i _ h
  have sub : ∀ j b, b ∈ (if j = i then ([] : List Addr) else w.F j) → b ∈ w.F j ∧ j ≠ i := fun j b hb => by
    by_cases e : j = i
    · rw [if_pos e] at hb; cases hb
    · rw [if_neg e] at hb; exact ⟨hb, e⟩
  have ha : a ∈ w.F i := by rw [h2]; exact List.mem_cons_self
  have hg : w.G a = none := (I.foot i a ha).1
  have hrep : Rep K (upd w.G a (.lst vs)) (.ref a) (.list ds) := .lst upd_same (reps_mono (same_new hg) _ _ h4)
  have hlt : i < ρ.length := (List.getElem?_eq_some_iff.mp h).1
  refine ⟨a, vs, h1, h3, ⟨fun b u e => ?_, by rw [List.length_set]; exact I.len, fun j s e => ?_, fun j hj => ?_, fun j b hb => ⟨?_, (I.foot j b (sub j b hb).1).2⟩, fun j l b hjl hb hb' => I.sep j l b hjl (sub j b hb).1 (sub l b hb').1⟩,
    ⟨same_new hg, fun b e1 e2 e3 => ?_, fun _ _ h _ => h, fun _ h => h, fun j b hb => .inl (sub j b hb).1⟩, hrep⟩
  · have e : upd w.G a (.lst vs) b = some u := e
    show w.H b = some u
    by_cases q : b = a
    · subst q
      rw [upd_same] at e
      rw [h3]; exact e
    · rw [upd_ne q] at e
      exact I.gh b u e
  · by_cases hj : i = j
    · subst hj
      rw [List.getElem?_set_self hlt] at e
      cases e
      exact ⟨if_pos rfl, .ref a, h1, hrep⟩
    · rw [List.getElem?_set_ne hj] at e
      show slotOk K P.σ0[j]? P.N _ (if j = i then [] else w.F j) σ[j]? s
      rw [if_neg (Ne.symm hj)]
      exact (I.ok j s e).go (same_new hg) fun _ _ _ h => h
  · show (if j = i then [] else w.F j) = []
    by_cases e : j = i
    · rw [if_pos e]
    · rw [if_neg e]; exact I.out j (by rw [← List.length_set (as := ρ)]; exact hj)
  · obtain ⟨q1, q2⟩ := sub j b hb
    show upd w.G a (.lst vs) b = none
    rw [upd_ne (fun z => I.sep j i b q2 q1 (by rw [z]; exact ha))]
    exact (I.foot j b q1).1
  · show upd w.G a (.lst vs) b = none
    rw [upd_ne (fun z => e3 i (by rw [z]; exact ha))]
    exact e2
/-- slot i holds a new list of its own -/
theorem FI.setOwn (I : FI K P w σ ρ) {i : Nat} {a : Addr} {vs : List V} {ds : List PyData} (hf : ∀ j, a ∉ w.F j) (hg : w.G a = none) (hh : w.H a = some (.lst vs)) (hr : Reps K w.G vs ds) (hn : P.N a) (hi : i < ρ.length) :
    FI K P ⟨w.G, w.H, fun j => if j = i then [a] else w.F j⟩ (σ.set i (some (.ref a))) (ρ.set i (.own false ds)) := by
  have sub : ∀ j b, b ∈ (if j = i then [a] else w.F j) → (j = i ∧ b = a) ∨ (j ≠ i ∧ b ∈ w.F j) := fun j b hb => by
    by_cases e : j = i
    · rw [if_pos e] at hb; exact .inl ⟨e, by simpa using hb⟩
    · rw [if_neg e] at hb; exact .inr ⟨e, hb⟩
  refine ⟨I.gh, by rw [List.length_set, List.length_set]; exact I.len, fun j s e => ?_, fun j hj => ?_, fun j b hb => ?_, fun j l b hjl hb hb' => ?_⟩
  · by_cases hj : i = j
    · subst hj
      rw [List.getElem?_set_self hi] at e
      cases e
      rw [List.getElem?_set_self (by rw [I.len]; exact hi)]
      exact ⟨a, vs, rfl, if_pos rfl, hh, hr, (fun z => nomatch z), fun _ => hn⟩
    · rw [List.getElem?_set_ne hj] at e
      rw [List.getElem?_set_ne hj]
      show slotOk K P.σ0[j]? P.N _ (if j = i then [a] else w.F j) σ[j]? s
      rw [if_neg (Ne.symm hj)]
      exact (I.ok j s e).go (fun _ _ h => h) fun _ _ _ h => h
  · have hj : ρ.length ≤ j := by rw [← List.length_set (as := ρ)]; exact hj
    show (if j = i then [a] else w.F j) = []
    rw [if_neg (by omega)]
    exact I.out j hj
  · rcases sub j b hb with ⟨_, rfl⟩ | ⟨_, q⟩
    · exact ⟨hg, by rw [hh]; exact fun z => nomatch z⟩
    · exact I.foot j b q
  · rcases sub j b hb with ⟨e1, rfl⟩ | ⟨_, q⟩
    · rcases sub l b hb' with ⟨e2, _⟩ | ⟨_, q'⟩
      · exact hjl (e1.trans e2.symm)
      · exact hf l q'
    · rcases sub l b hb' with ⟨_, rfl⟩ | ⟨_, q'⟩
      · exact hf j q
      · exact I.sep j l b hjl q q'
/-- slot i's own list changes -/
theorem FI.mut (I : FI K P w σ ρ) {i : Nat} {io : Bool} {ds es : List PyData} {a : Addr} {ws : List V} (h : ρ[i]? = some (.own io ds)) (ha : σ[i]? = some (some (.ref a))) (hr : Reps K w.G ws es) :
    FI K P ⟨w.G, upd w.H a (.lst ws), w.F⟩ σ (ρ.set i (.own io es)) ∧ Stp w ⟨w.G, upd w.H a (.lst ws), w.F⟩ := by
  obtain ⟨a', vs, h1, h2, h3, h4, h5⟩ := I.ok i _ h
  rw [ha] at h1
  cases h1
  have hm : a ∈ w.F i := by rw [h2]; exact List.mem_cons_self
  have hlt : i < ρ.length := (List.getElem?_eq_some_iff.mp h).1
  have nw : ∀ b o, b ≠ a → w.H b = some o → upd w.H a (.lst ws) b = some o := fun b o n e => by rw [upd_ne n]; exact e
  refine ⟨⟨fun b u e => ?_, by rw [List.length_set]; exact I.len, fun j s e => ?_, fun j hj => I.out j (by rw [← List.length_set (as := ρ)]; exact hj), fun j b hb => ⟨(I.foot j b hb).1, ?_⟩, I.sep⟩,
    ⟨fun _ _ h => h, fun _ _ h _ => h, fun b o e n => nw b o (fun z => n i (by rw [z]; exact hm)) e, fun b e => there_new b e, fun j b hb => .inl hb⟩⟩
  · exact nw b u (fun z => by rw [z, (I.foot i a hm).1] at e; cases e) (I.gh b u e)
  · by_cases hj : i = j
    · subst hj
      rw [List.getElem?_set_self hlt] at e
      cases e
      exact ⟨a, ws, ha, h2, upd_same, hr, h5⟩
    · rw [List.getElem?_set_ne hj] at e
      exact (I.ok j s e).go (fun _ _ h => h) fun b hb o e => nw b o (fun z => I.sep j i b (Ne.symm hj) hb (by rw [z]; exact hm)) e
  · exact there_new b (I.foot j b hb).2
end

/-- a result made a datum that stays -/
def frz (ρ : DSt) (r : R) (k : PyData → DSt → Prop) : Prop := match r with
  | .d x => k x ρ
  | .s i => match ρ[i]? with
    | some (.val d) => k d ρ
    | some (.own false ds) => k (.list ds) (ρ.set i (.val (.list ds)))
    | _ => False
theorem frz_ok {K : PySem.W.Frag} {P : Par} {w : Wd} {σ : St} {ρ : DSt} {v : V} {r : R} {k : PyData → DSt → Prop} (I : FI K P w σ ρ) (h : RepR K w σ v r) (q : frz ρ r k) :
    ∃ d ρ' w', FI K P w' σ ρ' ∧ Stp w w' ∧ w'.H = w.H ∧ Rep K w'.G v d ∧ k d ρ' := by
  cases r with
  | d x => exact ⟨x, ρ, w, I, Stp.refl w, rfl, h, q⟩
  | s i =>
    have h : σ[i]? = some (some v) := h
    have q : (match ρ[i]? with
      | some (.val d) => k d ρ
      | some (.own false ds) => k (.list ds) (ρ.set i (.val (.list ds)))
      | _ => False) := q
    cases e : ρ[i]? with
    | none => rw [e] at q; exact q.elim
    | some s =>
      rw [e] at q
      cases s with
      | no => exact q.elim
      | res _ _ => exact q.elim
      | val d =>
        obtain ⟨_, u, e2, hr⟩ := I.ok i _ e
        rw [h] at e2
        cases e2
        exact ⟨d, ρ, w, I, Stp.refl w, rfl, hr, q⟩
      | own io ds =>
        cases io with
        | true => exact q.elim
        | false =>
          obtain ⟨a, vs, h1, _, h3, h4, h5⟩ := I.freeze e
          rw [h] at h1
          cases h1
          exact ⟨_, _, _, h3, h4, rfl, h5, q⟩
end DL

end
section
set_option maxHeartbeats 4000000
/-! DLB: what expressions come to, as readings over data. -/
namespace DL
open PySem PySem.Spec L2

/-- an exception: its class, its fields -/
structure Exd where
  C : Addr
  fs : List (Str × PyData)
def RepF (K : PySem.W.Frag) (G : Hp) : List (Str × V) → List (Str × PyData) → Prop := Paired fun p q => p.1 = q.1 ∧ Rep K G p.2 q.2
def RepE (K : PySem.W.Frag) (w : Wd) (cls : Value) (d : Option Addr) (e : Exd) : Prop :=
  cls = .ref e.C ∧ ((e.fs = [] ∧ d = none) ∨ ∃ dd fvs, e.fs ≠ [] ∧ d = some dd ∧ w.G dd = some (.xd fvs) ∧ RepF K w.G fvs e.fs)
abbrev WD := Exd → DSt → Prop

/-- what a derivation leans on: the parameters, the worlds that may come, what is wished of an exception -/
structure DC (X : Cx) where
  P : Par
  A : Wd → Prop
  cl : ∀ w w', A w → Stp w w' → A w'
  nw : ∀ w p, A w → w.H p = none → P.N p
  gd : X.A.guards = some []
  calm : X.calm = true
  nd : X.N.Nodup
  un : X.A.units + 100 < cLine
  W : WD
  WH : WX
  tk : Takes X WH
  hW : ∀ e ρ σ w cls d, A w → FI X.K P w σ ρ → RepE X.K w cls d e → W e ρ → WH cls d σ w.H

abbrev TED := DSt → (R → DSt → Prop) → Prop
abbrev TTD := DSt → (Bool → DSt → Prop) → Prop
abbrev TND := DSt → (List PyData → DSt → Prop) → Prop
inductive RepRs (K : PySem.W.Frag) (w : Wd) (σ : St) : List V → List R → Prop
  | nil : RepRs K w σ [] []
  | cons {v vs r rs} : RepR K w σ v r → RepRs K w σ vs rs → RepRs K w σ (v :: vs) (r :: rs)

section
variable {X : Cx}
structure DE (C : DC X) (e : Expr) (te : TE) (t : TED) : Prop where
  pe : PE X e te
  run : ∀ (w : Wd) (σ : St) (ρ : DSt) (Q : VK) (QD : R → DSt → Prop), C.A w → FI X.K C.P w σ ρ → t ρ QD →
    (∀ v r w' ρ', Stp w w' → FI X.K C.P w' σ ρ' → RepR X.K w' σ v r → QD r ρ' → Q v w'.H) → te σ w.H Q
structure DT (C : DC X) (e : Expr) (tt : TT) (t : TTD) : Prop where
  pt : PT X e tt
  run : ∀ (w : Wd) (σ : St) (ρ : DSt) (Q : Bool → Hp → Prop) (QD : Bool → DSt → Prop), C.A w → FI X.K C.P w σ ρ → t ρ QD →
    (∀ b w' ρ', Stp w w' → FI X.K C.P w' σ ρ' → QD b ρ' → Q b w'.H) → tt σ w.H Q
/-- and, or: whatever the whole is -/
structure DW (C : DC X) (e : Expr) (tt : TT) (t : TTD) : Prop where
  pw : PW X e tt
  run : ∀ (w : Wd) (σ : St) (ρ : DSt) (Q : Bool → Hp → Prop) (QD : Bool → DSt → Prop), C.A w → FI X.K C.P w σ ρ → t ρ QD →
    (∀ b w' ρ', Stp w w' → FI X.K C.P w' σ ρ' → QD b ρ' → Q b w'.H) → tt σ w.H Q
/-- a new list that nobody else holds -/
structure DN (C : DC X) (e : Expr) (te : TE) (t : TND) : Prop where
  pe : PE X e te
  run : ∀ (w : Wd) (σ : St) (ρ : DSt) (Q : VK) (QD : List PyData → DSt → Prop), C.A w → FI X.K C.P w σ ρ → t ρ QD →
    (∀ a vs ds w' ρ', Stp w w' → FI X.K C.P w' σ ρ' → w.H a = none → w'.G a = none → (∀ i, a ∉ w'.F i) → w'.H a = some (.lst vs) → Reps X.K w'.G vs ds → QD ds ρ' → Q (.ref a) w'.H) → te σ w.H Q
/-- arguments, items: data that stay -/
structure DA (C : DC X) (es : List Expr) (ta : TA) (t : TND) : Prop where
  pa : PA X es ta
  run : ∀ (w : Wd) (σ : St) (ρ : DSt) (Q : List V → Hp → Prop) (QD : List PyData → DSt → Prop), C.A w → FI X.K C.P w σ ρ → t ρ QD →
    (∀ vs ds w' ρ', Stp w w' → FI X.K C.P w' σ ρ' → Reps X.K w'.G vs ds → QD ds ρ' → Q vs w'.H) → ta σ w.H Q

variable {C : DC X} {a b c e : Expr} {ta tb tc te : TE} {da db dc de : TED} {pos : Pos}

/-! ### names, constants -/
def dVar (i : Nat) : TED := fun ρ Q => (match ρ[i]? with | some (.val _) => True | some (.own _ _) => True | _ => False) ∧ Q (.s i) ρ
theorem slot_there {K : PySem.W.Frag} {P : Par} {w : Wd} {σ : St} {ρ : DSt} {i : Nat} (I : FI K P w σ ρ) (h : match ρ[i]? with | some (.val _) => True | some (.own _ _) => True | _ => False) : ∃ v, σ[i]? = some (some v) := by
  cases e : ρ[i]? with
  | none => rw [e] at h; exact h.elim
  | some s =>
    rw [e] at h
    have ok := I.ok i s e
    cases s with
    | no => exact h.elim
    | res _ _ => exact h.elim
    | val d =>
      obtain ⟨_, u, e2, _⟩ := ok
      exact ⟨u, e2⟩
    | own io ds =>
      obtain ⟨a, vs, e2, _⟩ := ok
      exact ⟨_, e2⟩
theorem de_var (i : Nat) {x : Str} (hN : X.N[i]? = some x := by rfl) (hv : Vis X.env.scope x := by first | exact Or.inl rfl | exact Or.inr (Or.inl rfl) | exact Or.inr (Or.inr rfl)) (hd : (x == ("__debug__" : Str)) = false := by decide)
    (hcd : (x == ("__classdict__" : Str)) = false := by decide) : DE C (.Name x pos) (tVar i) (dVar i) := by
  refine ⟨pe_var hN hv hd hcd, fun w σ ρ Q QD hA I h k => ?_⟩
  obtain ⟨h1, h2⟩ := h
  obtain ⟨v, e⟩ := slot_there I h1
  exact ⟨v, e, k v (.s i) w ρ (Stp.refl w) I e h2⟩
def dC (d : PyData) : TED := fun ρ Q => Q (.d d) ρ
theorem de_c {v : V} {d : PyData} (h : PE X e (tC v)) (hr : ∀ G, Rep X.K G v d) : DE C e (tC v) (dC d) :=
  ⟨h, fun w σ ρ Q QD hA I q k => k v (.d d) w ρ (Stp.refl w) I (hr _) q⟩
theorem de_int {i j} : DE C (.Constant (.int i) j pos) (tC (.int i)) (dC (.int i)) := de_c pe_int fun _ => .int i
theorem de_bl {i j} : DE C (.Constant (.bool i) j pos) (tC (.bl i)) (dC (.bool i)) := de_c pe_bl fun _ => .bl i
theorem de_non {j} : DE C (.Constant .none j pos) (tC .non) (dC .none) := de_c pe_non fun _ => .non
theorem de_str {x j} : DE C (.Constant (.str x) j pos) (tC (.str x)) (dC (.str x)) := de_c pe_str fun _ => .str x
/-- a constant of the module -/
theorem de_glob {x : Str} {v : V} {u : Value} {d : PyData} (hg : Gl X x) (hm : X.mg x = some u) (r : RelV v u) (hr : ∀ G, Rep X.K G v d) (hd : (x == ("__debug__" : Str)) = false := by decide) : DE C (.Name x pos) (tC v) (dC d) :=
  de_c (pe_glob hg hm r hd) hr

/-! ### two operands -/
/-- an operation on two data -/
def dOp (f : PyData → PyData → (PyData → Prop) → Prop) (da db : TED) : TED := fun ρ Q => da ρ fun r1 ρ1 => db ρ1 fun r2 ρ2 => vw ρ2 r1 fun x => vw ρ2 r2 fun y => f x y fun z => Q (.d z) ρ2
/-- a rule by values serves an operation on data -/
def OpD (X : Cx) (C : DC X) (r : R2) (f : PyData → PyData → (PyData → Prop) → Prop) : Prop :=
  ∀ (w : Wd) (σ : St) (ρ : DSt) (u v : V) (x y : PyData) (Q : VK) (kd : PyData → Prop), C.A w → FI X.K C.P w σ ρ → Top X.K w u x → Top X.K w v y → f x y kd →
    (∀ z d w', Stp w w' → FI X.K C.P w' σ ρ → Rep X.K w'.G z d → kd d → Q z w'.H) → r u v w.H Q
theorem op_run {r : R2} {f : PyData → PyData → (PyData → Prop) → Prop} (hr : OpD X C r f) (ha : DE C a ta da) (hb : DE C b tb db) :
    ∀ (w : Wd) (σ : St) (ρ : DSt) (Q : VK) (QD : R → DSt → Prop), C.A w → FI X.K C.P w σ ρ → dOp f da db ρ QD →
    (∀ v r w' ρ', Stp w w' → FI X.K C.P w' σ ρ' → RepR X.K w' σ v r → QD r ρ' → Q v w'.H) → tOp r ta tb σ w.H Q := by
  intro w σ ρ Q QD hA I q k
  refine ha.run w σ ρ _ _ hA I q fun u r1 w1 ρ1 s1 I1 R1 q1 => ?_
  refine hb.run w1 σ ρ1 _ _ (C.cl _ _ hA s1) I1 q1 fun v r2 w2 ρ2 s2 I2 R2 q2 => ?_
  obtain ⟨x, tx, q3⟩ := vw_top I2 (R1.step s2) q2
  obtain ⟨y, ty, q4⟩ := vw_top I2 R2 q3
  exact hr w2 σ ρ2 u v x y Q _ (C.cl _ _ (C.cl _ _ hA s1) s2) I2 tx ty q4 fun z d w3 s3 I3 R3 q5 => k z (.d d) w3 ρ2 ((s1.trans s2).trans s3) I3 R3 q5
theorem de_op {op : Operator} {r : R2} {f : PyData → PyData → (PyData → Prop) → Prop} (ho : OpR X (binaryOp op) r ∧ OpD X C r f) (ha : DE C a ta da) (hb : DE C b tb db) : DE C (.BinOp a op b pos) (tOp r ta tb) (dOp f da db) :=
  ⟨pe_op ho.1 ha.pe hb.pe, op_run ho.2 ha hb⟩
theorem de_cmp {op : CmpOp} {r : R2} {f : PyData → PyData → (PyData → Prop) → Prop} (ho : OpR X (compareOp op) r ∧ OpD X C r f) (ha : DE C a ta da) (hb : DE C b tb db) (hm : behindInMarks op b = false) : DE C (.Compare a [op] [b] pos) (tOp r ta tb) (dOp f da db) :=
  ⟨pe_cmpR ho.1 ha.pe hb.pe hm, op_run ho.2 ha hb⟩
def dTest (t : TED) : TTD := fun ρ Q => t ρ fun r ρ1 => vw ρ1 r fun x => match x with | .bool k => Q k ρ1 | _ => False
theorem test_run (ha : DE C a ta da) : ∀ (w : Wd) (σ : St) (ρ : DSt) (Q : Bool → Hp → Prop) (QD : Bool → DSt → Prop), C.A w → FI X.K C.P w σ ρ → dTest da ρ QD →
    (∀ b w' ρ', Stp w w' → FI X.K C.P w' σ ρ' → QD b ρ' → Q b w'.H) → tTest ta σ w.H Q := by
  intro w σ ρ Q QD hA I q k
  refine ha.run w σ ρ _ _ hA I q fun u r1 w1 ρ1 s1 I1 R1 q1 => ?_
  obtain ⟨x, tx, q2⟩ := vw_top I1 R1 q1
  cases x with
  | bool z =>
    cases tx
    exact ⟨z, rfl, k z w1 ρ1 s1 I1 q2⟩
  | _ => exact q2.elim
theorem dt_cmp {op : CmpOp} {r : R2} {f : PyData → PyData → (PyData → Prop) → Prop} (ho : OpR X (compareOp op) r ∧ OpD X C r f) (ha : DE C a ta da) (hb : DE C b tb db) (hm : behindInMarks op b = false) : DT C (.Compare a [op] [b] pos) (tTest (tOp r ta tb)) (dTest (dOp f da db)) :=
  ⟨pt_cmpR ho.1 ha.pe hb.pe hm, test_run (de_cmp (pos := pos) ho ha hb hm)⟩

/-! ### ints -/
def int2 (f : Int → Int → (PyData → Prop) → Prop) (x y : PyData) (k : PyData → Prop) : Prop := match x, y with
  | .int i, .int j => f i j k
  | _, _ => False
theorem int2_inv {f : Int → Int → (PyData → Prop) → Prop} {x y : PyData} {k : PyData → Prop} (h : int2 f x y k) : ∃ i j, x = .int i ∧ y = .int j ∧ f i j k := by
  unfold int2 at h
  split at h
  · exact ⟨_, _, rfl, rfl, h⟩
  · exact h.elim
/-- an operation on ints, under Cd -/
def dI (Cd : Int → Int → Prop) (g : Int → Int → Int) : PyData → PyData → (PyData → Prop) → Prop := int2 fun i j k => Cd i j ∧ k (.int (g i j))
def dI0 (g : Int → Int → Int) : PyData → PyData → (PyData → Prop) → Prop := int2 fun i j k => k (.int (g i j))
def dB0 (g : Int → Int → Bool) : PyData → PyData → (PyData → Prop) → Prop := int2 fun i j k => k (.bool (g i j))
theorem opd_I {Cd : Int → Int → Prop} {g : Int → Int → Int} : OpD X C (rI Cd fun i j => .int (g i j)) (dI Cd g) := by
  intro w σ ρ u v x y Q kd hA I tx ty h k
  obtain ⟨i, j, rfl, rfl, hc, q⟩ := int2_inv h
  cases tx
  cases ty
  exact ⟨i, j, rfl, rfl, hc, k _ (.int (g i j)) w (Stp.refl w) I (.int _) q⟩
theorem opd_I0 {g : Int → Int → Int} : OpD X C (rI0 fun i j => .int (g i j)) (dI0 g) := by
  intro w σ ρ u v x y Q kd hA I tx ty h k
  obtain ⟨i, j, rfl, rfl, q⟩ := int2_inv h
  cases tx
  cases ty
  exact ⟨i, j, rfl, rfl, k _ (.int (g i j)) w (Stp.refl w) I (.int _) q⟩
theorem opd_B0 {g : Int → Int → Bool} : OpD X C (rI0 fun i j => .bl (g i j)) (dB0 g) := by
  intro w σ ρ u v x y Q kd hA I tx ty h k
  obtain ⟨i, j, rfl, rfl, q⟩ := int2_inv h
  cases tx
  cases ty
  exact ⟨i, j, rfl, rfl, k _ (.bool (g i j)) w (Stp.refl w) I (.bl _) q⟩
theorem od_add : OpR X (binaryOp .Add) (rI0 fun i j => .int (i + j)) ∧ OpD X C (rI0 fun i j => .int (i + j)) (dI0 fun i j => i + j) := ⟨op_add, opd_I0⟩
theorem od_sub : OpR X (binaryOp .Sub) (rI0 fun i j => .int (i - j)) ∧ OpD X C (rI0 fun i j => .int (i - j)) (dI0 fun i j => i - j) := ⟨op_sub, opd_I0⟩
theorem od_mul : OpR X (binaryOp .Mult) (rI CMulW fun i j => .int (i * j)) ∧ OpD X C (rI CMulW fun i j => .int (i * j)) (dI CMulW fun i j => i * j) := ⟨op_mulW, opd_I⟩
/-- // by a divisor of less than 9000 bits -/
def CDivF (_ j : Int) : Prop := j ≠ 0 ∧ j.natAbs.log2 < 9000
theorem op_fdivF : OpR X (binaryOp .FloorDiv) (rI CDivF fun i j => .int (i.fdiv j)) := opI fun _ _ _ _ _ _ _ hc q => PyProof.Rows.floordiv_int hc.1 q (.inl (PyProof.noPylong_of_log2 hc.2))
theorem od_fdiv : OpR X (binaryOp .FloorDiv) (rI CDivF fun i j => .int (i.fdiv j)) ∧ OpD X C (rI CDivF fun i j => .int (i.fdiv j)) (dI CDivF fun i j => i.fdiv j) := ⟨op_fdivF, opd_I⟩
theorem od_mod : OpR X (binaryOp .Mod) (rI (fun _ j => j ≠ 0) fun i j => .int (i.fmod j)) ∧ OpD X C (rI (fun _ j => j ≠ 0) fun i j => .int (i.fmod j)) (dI (fun _ j => j ≠ 0) fun i j => i.fmod j) := ⟨op_modN, opd_I⟩
theorem od_pow : OpR X (binaryOp .Pow) (rI CPow fun i j => .int (i ^ j.toNat)) ∧ OpD X C (rI CPow fun i j => .int (i ^ j.toNat)) (dI CPow fun i j => i ^ j.toNat) := ⟨op_pow, opd_I⟩
theorem od_lt : OpR X (compareOp .Lt) (rI0 fun i j => .bl (decide (i < j))) ∧ OpD X C (rI0 fun i j => .bl (decide (i < j))) (dB0 fun i j => decide (i < j)) := ⟨op_lt, opd_B0⟩
theorem od_le : OpR X (compareOp .LtE) (rI0 fun i j => .bl (decide (i ≤ j))) ∧ OpD X C (rI0 fun i j => .bl (decide (i ≤ j))) (dB0 fun i j => decide (i ≤ j)) := ⟨op_le, opd_B0⟩
theorem od_gt : OpR X (compareOp .Gt) (rI0 fun i j => .bl (decide (j < i))) ∧ OpD X C (rI0 fun i j => .bl (decide (j < i))) (dB0 fun i j => decide (j < i)) := ⟨op_gt, opd_B0⟩
theorem od_ge : OpR X (compareOp .GtE) (rI0 fun i j => .bl (decide (j ≤ i))) ∧ OpD X C (rI0 fun i j => .bl (decide (j ≤ i))) (dB0 fun i j => decide (j ≤ i)) := ⟨op_ge, opd_B0⟩
/-! ### == and != of any data -/
def dEq (x y : PyData) (k : PyData → Prop) : Prop := SeqAt.shaped x = true ∧ SeqAt.shaped y = true ∧ k (.bool (PyData.eqv x y))
def dNe (x y : PyData) (k : PyData → Prop) : Prop := SeqAt.shaped x = true ∧ SeqAt.shaped y = true ∧ k (.bool (!PyData.eqv x y))
theorem od_eq : OpR X (compareOp .Eq) (rEqD X.K) ∧ OpD X C (rEqD X.K) dEq := by
  refine ⟨op_eqD (by have := C.un; omega), fun w σ ρ u v x y Q kd hA I tx ty h k => ?_⟩
  obtain ⟨h1, h2, q⟩ := h
  exact ⟨x, y, (tx.rep I.gh).dp _ _ (PyData.hasDict_of_canLay _ (SeqAt.canLay_of_shaped h1)), (ty.rep I.gh).dp _ _ (PyData.hasDict_of_canLay _ (SeqAt.canLay_of_shaped h2)), h1, h2, k _ _ w (Stp.refl w) I (.bl _) q⟩
theorem od_ne : OpR X (compareOp .NotEq) (rNeD X.K) ∧ OpD X C (rNeD X.K) dNe := by
  refine ⟨op_neD (by have := C.un; omega), fun w σ ρ u v x y Q kd hA I tx ty h k => ?_⟩
  obtain ⟨h1, h2, q⟩ := h
  exact ⟨x, y, (tx.rep I.gh).dp _ _ (PyData.hasDict_of_canLay _ (SeqAt.canLay_of_shaped h1)), (ty.rep I.gh).dp _ _ (PyData.hasDict_of_canLay _ (SeqAt.canLay_of_shaped h2)), h1, h2, k _ _ w (Stp.refl w) I (.bl _) q⟩
/-! ### tests -/
variable {ua ub : TT} {xa xb : TTD} {rest : List Expr}
def dAnd (t u : TTD) : TTD := fun ρ Q => t ρ fun b ρ1 => match b with | true => u ρ1 Q | false => Q false ρ1
def dOr (t u : TTD) : TTD := fun ρ Q => t ρ fun b ρ1 => match b with | true => Q true ρ1 | false => u ρ1 Q
def dNot (t : TTD) : TTD := fun ρ Q => t ρ fun b ρ1 => Q (!b) ρ1
theorem dw_and1 (ha : DT C a ua xa) : DW C (.BoolOp .And [a] pos) ua xa := ⟨pw_and1 ha.pt, ha.run⟩
theorem dw_or1 (ha : DT C a ua xa) : DW C (.BoolOp .Or [a] pos) ua xa := ⟨pw_or1 ha.pt, ha.run⟩
theorem dw_and (ha : DT C a ua xa) (hb : DW C (.BoolOp .And (b :: rest) pos) ub xb) : DW C (.BoolOp .And (a :: b :: rest) pos) (tAnd ua ub) (dAnd xa xb) := by
  refine ⟨pw_and ha.pt hb.pw, fun w σ ρ Q QD hA I q k => ?_⟩
  refine ha.run w σ ρ _ _ hA I q fun z w1 ρ1 s1 I1 q1 => ?_
  cases z with
  | true =>
    show ub σ w1.H Q
    exact hb.run w1 σ ρ1 _ _ (C.cl _ _ hA s1) I1 q1 fun z2 w2 ρ2 s2 I2 q2 => k z2 w2 ρ2 (s1.trans s2) I2 q2
  | false => exact k false w1 ρ1 s1 I1 q1
theorem dw_or (ha : DT C a ua xa) (hb : DW C (.BoolOp .Or (b :: rest) pos) ub xb) : DW C (.BoolOp .Or (a :: b :: rest) pos) (tOr ua ub) (dOr xa xb) := by
  refine ⟨pw_or ha.pt hb.pw, fun w σ ρ Q QD hA I q k => ?_⟩
  refine ha.run w σ ρ _ _ hA I q fun z w1 ρ1 s1 I1 q1 => ?_
  cases z with
  | false =>
    show ub σ w1.H Q
    exact hb.run w1 σ ρ1 _ _ (C.cl _ _ hA s1) I1 q1 fun z2 w2 ρ2 s2 I2 q2 => k z2 w2 ρ2 (s1.trans s2) I2 q2
  | true => exact k true w1 ρ1 s1 I1 q1
theorem DW.dt (h : DW C a ua xa) : DT C a ua xa := ⟨h.pw.pt, h.run⟩
theorem dt_not (ha : DT C a ua xa) : DT C (.UnaryOp .Not a pos) (tNot ua) (dNot xa) :=
  ⟨pt_not ha.pt, fun w σ ρ Q QD hA I q k => ha.run w σ ρ _ _ hA I q fun z w1 ρ1 s1 I1 q1 => k (!z) w1 ρ1 s1 I1 q1⟩
/-- an expression that gives a bool, as a test -/
theorem dt_val (h : DE C a ta da) (he : ∀ whole, isTrue a X.env whole = (do let v ← whole; standAt a.pos; holding [v] (truthy v)) := by intro _; rfl) : DT C a (tB ta) (dTest da) :=
  ⟨pt_val h.pe he, test_run h⟩
/-- values: and, or, not, if -/
def dAndV (da db : TED) : TED := fun ρ Q => da ρ fun r ρ1 => vw ρ1 r fun x => match x with | .bool true => db ρ1 Q | .bool false => Q (.d (.bool false)) ρ1 | _ => False
def dOrV (da db : TED) : TED := fun ρ Q => da ρ fun r ρ1 => vw ρ1 r fun x => match x with | .bool false => db ρ1 Q | .bool true => Q (.d (.bool true)) ρ1 | _ => False
def dNotV (da : TED) : TED := fun ρ Q => da ρ fun r ρ1 => vw ρ1 r fun x => match x with | .bool k => Q (.d (.bool (!k))) ρ1 | _ => False
theorem de_one {op} (h : DE C a ta da) : DE C (.BoolOp op [a] pos) ta da := ⟨pe_one h.pe, h.run⟩
theorem de_and (ha : DE C a ta da) (hb : DE C (.BoolOp .And (b :: rest) pos) tb db) : DE C (.BoolOp .And (a :: b :: rest) pos) (tAndV ta tb) (dAndV da db) := by
  refine ⟨pe_and ha.pe hb.pe, fun w σ ρ Q QD hA I q k => ?_⟩
  refine ha.run w σ ρ _ _ hA I q fun u r1 w1 ρ1 s1 I1 R1 q1 => ?_
  obtain ⟨x, tx, q2⟩ := vw_top I1 R1 q1
  cases x with
  | bool z =>
    cases tx
    cases z with
    | true => exact ⟨true, rfl, hb.run w1 σ ρ1 _ _ (C.cl _ _ hA s1) I1 q2 fun v2 r2 w2 ρ2 s2 I2 R2 q3 => k v2 r2 w2 ρ2 (s1.trans s2) I2 R2 q3⟩
    | false => exact ⟨false, rfl, k _ (.d (.bool false)) w1 ρ1 s1 I1 (.bl _) q2⟩
  | _ => exact q2.elim
theorem de_or (ha : DE C a ta da) (hb : DE C (.BoolOp .Or (b :: rest) pos) tb db) : DE C (.BoolOp .Or (a :: b :: rest) pos) (tOrV ta tb) (dOrV da db) := by
  refine ⟨pe_or ha.pe hb.pe, fun w σ ρ Q QD hA I q k => ?_⟩
  refine ha.run w σ ρ _ _ hA I q fun u r1 w1 ρ1 s1 I1 R1 q1 => ?_
  obtain ⟨x, tx, q2⟩ := vw_top I1 R1 q1
  cases x with
  | bool z =>
    cases tx
    cases z with
    | false => exact ⟨false, rfl, hb.run w1 σ ρ1 _ _ (C.cl _ _ hA s1) I1 q2 fun v2 r2 w2 ρ2 s2 I2 R2 q3 => k v2 r2 w2 ρ2 (s1.trans s2) I2 R2 q3⟩
    | true => exact ⟨true, rfl, k _ (.d (.bool true)) w1 ρ1 s1 I1 (.bl _) q2⟩
  | _ => exact q2.elim
theorem de_not (ha : DE C a ta da) : DE C (.UnaryOp .Not a pos) (tNotV ta) (dNotV da) := by
  refine ⟨pe_not ha.pe, fun w σ ρ Q QD hA I q k => ?_⟩
  refine ha.run w σ ρ _ _ hA I q fun u r1 w1 ρ1 s1 I1 R1 q1 => ?_
  obtain ⟨x, tx, q2⟩ := vw_top I1 R1 q1
  cases x with
  | bool z =>
    cases tx
    exact ⟨z, rfl, k _ (.d (.bool (!z))) w1 ρ1 s1 I1 (.bl _) q2⟩
  | _ => exact q2.elim
def dIf (t : TTD) (da db : TED) : TED := fun ρ Q => t ρ fun b ρ1 => match b with | true => da ρ1 Q | false => db ρ1 Q
theorem de_if (hc : DT C c ua xa) (ha : DE C a ta da) (hb : DE C b tb db) : DE C (.IfExp c a b pos) (tIf ua ta tb) (dIf xa da db) := by
  refine ⟨pe_ifExp hc.pt ha.pe hb.pe, fun w σ ρ Q QD hA I q k => ?_⟩
  refine hc.run w σ ρ _ _ hA I q fun z w1 ρ1 s1 I1 q1 => ?_
  cases z with
  | true =>
    show ta σ w1.H Q
    exact ha.run w1 σ ρ1 _ _ (C.cl _ _ hA s1) I1 q1 fun v2 r2 w2 ρ2 s2 I2 R2 q3 => k v2 r2 w2 ρ2 (s1.trans s2) I2 R2 q3
  | false =>
    show tb σ w1.H Q
    exact hb.run w1 σ ρ1 _ _ (C.cl _ _ hA s1) I1 q1 fun v2 r2 w2 ρ2 s2 I2 R2 q3 => k v2 r2 w2 ρ2 (s1.trans s2) I2 R2 q3
/-- -x -/
def dNeg (da : TED) : TED := fun ρ Q => da ρ fun r ρ1 => vw ρ1 r fun x => match x with | .int i => Q (.d (.int (-i))) ρ1 | _ => False
theorem de_neg (ha : DE C a ta da) : DE C (.UnaryOp .USub a pos) (tUn (rU fun i => .int (-i)) ta) (dNeg da) := by
  refine ⟨pe_un un_neg ha.pe, fun w σ ρ Q QD hA I q k => ?_⟩
  refine ha.run w σ ρ _ _ hA I q fun u r1 w1 ρ1 s1 I1 R1 q1 => ?_
  obtain ⟨x, tx, q2⟩ := vw_top I1 R1 q1
  cases x with
  | int i =>
    cases tx
    exact ⟨i, rfl, k _ (.d (.int (-i))) w1 ρ1 s1 I1 (.int _) q2⟩
  | _ => exact q2.elim

/-! ### items, displays -/
def dNil : TND := fun ρ Q => Q [] ρ
def dCons (da : TED) (dr : TND) : TND := fun ρ Q => da ρ fun r ρ1 => frz ρ1 r fun d ρ2 => dr ρ2 fun ds ρ3 => Q (d :: ds) ρ3
variable {es : List Expr} {tr : TA} {dr : TND}
theorem da_nil : DA C [] tNil dNil := ⟨pa_nil, fun w σ ρ Q QD hA I q k => k [] [] w ρ (Stp.refl w) I .nil q⟩
theorem da_cons (ha : DE C e te de) (hr : DA C es tr dr) (hs : starEach (e :: es) X.env = (false, eval e X.env) :: starEach es X.env := by rfl) : DA C (e :: es) (tCons te tr) (dCons de dr) := by
  refine ⟨pa_cons ha.pe hr.pa hs, fun w σ ρ Q QD hA I q k => ?_⟩
  refine ha.run w σ ρ _ _ hA I q fun u r1 w1 ρ1 s1 I1 R1 q1 => ?_
  obtain ⟨d, ρ2, w2, I2, s2, hh, hrep, q2⟩ := frz_ok I1 R1 q1
  rw [← hh]
  have s12 := s1.trans s2
  exact hr.run w2 σ ρ2 _ _ (C.cl _ _ hA s12) I2 q2 fun vs ds w3 ρ3 s3 I3 R3 q3 => k (u :: vs) (d :: ds) w3 ρ3 (s12.trans s3) I3 (.cons (rep_mono s3.g _ _ hrep) R3) q3
def dTup (dr : TND) : TED := fun ρ Q => dr ρ fun ds ρ1 => ds.length ≤ sizeLine ∧ Q (.d (.tuple ds)) ρ1
theorem de_tup {k0} (h : DA C es tr dr) : DE C (.Tuple es k0 pos) (tTup tr) (dTup dr) := by
  refine ⟨pe_tup h.pa, fun w σ ρ Q QD hA I q k => ?_⟩
  refine h.run w σ ρ _ _ hA I q fun vs ds w1 ρ1 s1 I1 R1 q1 => ?_
  obtain ⟨hl, q1⟩ := q1
  refine ⟨by rw [R1.len]; exact hl, fun p hp => ?_⟩
  obtain ⟨I2, s2⟩ := I1.new (o := .tup vs) hp
  exact k (.ref p) (.d (.tuple ds)) _ ρ1 (s1.trans s2) I2 (.tup (SqT.of upd_same) (reps_mono s2.g _ _ R1)) q1
def nLst (dr : TND) : TND := fun ρ Q => dr ρ fun ds ρ1 => ds.length ≤ sizeLine ∧ Q ds ρ1
theorem FI.air {P : Par} {w : Wd} {σ : St} {ρ : DSt} {p : Addr} {o : HO} (I : FI X.K P w σ ρ) (hp : w.H p = none) : FI X.K P ⟨w.G, upd w.H p o, w.F⟩ σ ρ ∧ Stp w ⟨w.G, upd w.H p o, w.F⟩ := by
  obtain ⟨hg, np⟩ := I.fresh hp
  exact ⟨⟨fun b u h => same_new hp b u (I.gh b u h), I.len, fun i s e => (I.ok i s e).go (fun _ _ h => h) fun b _ u h => same_new hp b u h, I.out, fun i b hb => ⟨(I.foot i b hb).1, there_new b (I.foot i b hb).2⟩, I.sep⟩,
    ⟨fun _ _ h => h, fun _ _ h _ => h, fun b u h _ => same_new hp b u h, there_new, fun i b hb => .inl hb⟩⟩
theorem dn_lst (h : DA C es tr dr) : DN C (.List es pos) (tLst tr) (nLst dr) := by
  refine ⟨pe_lst h.pa, fun w σ ρ Q QD hA I q k => ?_⟩
  refine h.run w σ ρ _ _ hA I q fun vs ds w1 ρ1 s1 I1 R1 q1 => ?_
  obtain ⟨hl, q1⟩ := q1
  refine ⟨by rw [R1.len]; exact hl, fun p hp => ?_⟩
  obtain ⟨I2, s2⟩ := FI.air I1 (o := .lst vs) hp
  refine k p vs ds ⟨w1.G, upd w1.H p (.lst vs), w1.F⟩ ρ1 (s1.trans s2) I2 ?_ (I1.fresh hp).1 (fun i z => (I1.fresh hp).2 i p z rfl) upd_same R1 q1
  cases e0 : w.H p with
  | none => rfl
  | some o => exact absurd hp (s1.t p (by rw [e0]; exact fun z => nomatch z))
/-- a new list, left to stay -/
def dNew (t : TND) : TED := fun ρ Q => t ρ fun ds ρ1 => Q (.d (.list ds)) ρ1
theorem stay {P : Par} {w w1 : Wd} {σ : St} {ρ : DSt} {a : Addr} {vs : List V} {ds : List PyData} (s1 : Stp w w1) (I1 : FI X.K P w1 σ ρ) (n0 : w.H a = none) (hg : w1.G a = none) (hf : ∀ i, a ∉ w1.F i) (hh : w1.H a = some (.lst vs)) (hr : Reps X.K w1.G vs ds) :
    FI X.K P ⟨upd w1.G a (.lst vs), w1.H, w1.F⟩ σ ρ ∧ Stp w ⟨upd w1.G a (.lst vs), w1.H, w1.F⟩ ∧ Rep X.K (upd w1.G a (.lst vs)) (.ref a) (.list ds) := by
  refine ⟨⟨fun b u e => ?_, I1.len, fun i s e => (I1.ok i s e).go (same_new hg) fun _ _ _ h => h, I1.out, fun i b hb => ⟨?_, (I1.foot i b hb).2⟩, I1.sep⟩,
    ⟨fun b u h => same_new hg b u (s1.g b u h), fun b h1 h2 h3 => ?_, s1.h, s1.t, s1.f⟩, .lst upd_same (reps_mono (same_new hg) _ _ hr)⟩
  · have e : upd w1.G a (.lst vs) b = some u := e
    show w1.H b = some u
    by_cases q : b = a
    · subst q
      rw [upd_same] at e
      rw [hh]; exact e
    · rw [upd_ne q] at e
      exact I1.gh b u e
  · show upd w1.G a (.lst vs) b = none
    rw [upd_ne (fun z => hf i (by rw [← z]; exact hb))]
    exact (I1.foot i b hb).1
  · show upd w1.G a (.lst vs) b = none
    rw [upd_ne (fun z => h1 (by rw [z]; exact n0))]
    exact s1.gf b h1 h2 h3
theorem de_new {t : TND} (h : DN C e te t) : DE C e te (dNew t) := by
  refine ⟨h.pe, fun w σ ρ Q QD hA I q k => ?_⟩
  refine h.run w σ ρ _ _ hA I q fun a vs ds w1 ρ1 s1 I1 n0 hg hf hh hr q1 => ?_
  obtain ⟨I2, s2, r2⟩ := stay s1 I1 n0 hg hf hh hr
  exact k (.ref a) (.d (.list ds)) ⟨upd w1.G a (.lst vs), w1.H, w1.F⟩ ρ1 s2 I2 r2 q1

/-! ### subscripts -/
def atD (x y : PyData) (k : PyData → Prop) : Prop := match x, y with
  | .tuple ds, .int i => (match atI ds i with | some d => k d | none => False)
  | .list ds, .int i => (match atI ds i with | some d => k d | none => False)
  | _, _ => False
theorem atI_rep {G : Hp} {vs : List V} {ds : List PyData} {i : Int} {d : PyData} (r : Reps X.K G vs ds) (h : atI ds i = some d) : ∃ v, atI vs i = some v ∧ Rep X.K G v d := by
  unfold atI at h ⊢
  rw [r.len]
  cases e : ixN ds.length i with
  | none => rw [e] at h; cases h
  | some j =>
    rw [e] at h
    exact r.get (show ds[j]? = some d from h)
theorem atD_inv {x y : PyData} {k : PyData → Prop} (h : atD x y k) : ∃ ds i d, (x = .tuple ds ∨ x = .list ds) ∧ y = .int i ∧ atI ds i = some d ∧ k d := by
  unfold atD at h
  split at h
  · split at h
    · exact ⟨_, _, _, .inl rfl, rfl, by assumption, h⟩
    · exact h.elim
  · split at h
    · exact ⟨_, _, _, .inr rfl, rfl, by assumption, h⟩
    · exact h.elim
  · exact h.elim
theorem de_ix (ha : DE C a ta da) (hb : DE C b tb db) (hs : PlainIx b := by intro _ _; rfl) : DE C (.Subscript a b pos) (tOp (rIx X.K) ta tb) (dOp atD da db) := by
  refine ⟨pe_ix ix_seq ha.pe hb.pe hs, op_run (fun w σ ρ u v x y Q kd hA I tx ty h k => ?_) ha hb⟩
  obtain ⟨ds, i, d, hx, rfl, hi, q⟩ := atD_inv h
  cases ty
  rcases hx with rfl | rfl
  · cases tx with
    | tup hs hr =>
      obtain ⟨z, hz, rz⟩ := atI_rep hr hi
      exact .inr (.inl ⟨_, _, i, z, rfl, rfl, sqt_mono I.gh hs, hz, k z d w (Stp.refl w) I rz q⟩)
  · obtain ⟨p, vs, rfl, hs, hr⟩ := tx
    obtain ⟨z, hz, rz⟩ := atI_rep hr hi
    exact .inl ⟨p, vs, i, z, rfl, rfl, SqL.of hs, hz, k z d w (Stp.refl w) I rz q⟩
end
end DL

end
section
set_option maxHeartbeats 4000000
/-! DLC: statements, targets, loops, comprehensions as readings over data. -/
namespace DL
open PySem PySem.Spec L2

/-- what a def gives back: a datum that stays, a new list -/
inductive Ret where
  | d (x : PyData) | n (ds : List PyData)
def RepRet (K : PySem.W.Frag) (N : Addr → Prop) (w : Wd) (v : V) : Ret → Prop
  | .d x => Rep K w.G v x
  | .n ds => ∃ a vs, v = .ref a ∧ N a ∧ w.G a = none ∧ (∀ i, a ∉ w.F i) ∧ w.H a = some (.lst vs) ∧ Reps K w.G vs ds
structure DEnds where
  nx : DSt → Prop
  rt : Ret → DSt → Prop
  bk : DSt → Prop := fun _ => False
  ct : DSt → Prop := fun _ => False
abbrev TSD := DEnds → DSt → Prop

section
variable {X : Cx}
/-- ends over data and ends over values meet, from the world w on -/
structure EndsOk (C : DC X) (w : Wd) (D : Ends) (DD : DEnds) : Prop where
  nx : ∀ w' σ' ρ', Stp w w' → FI X.K C.P w' σ' ρ' → DD.nx ρ' → D.nx σ' w'.H
  rt : ∀ v r w' σ' ρ', Stp w w' → FI X.K C.P w' σ' ρ' → RepRet X.K C.P.N w' v r → DD.rt r ρ' → D.rt v w'.H
  bk : ∀ w' σ' ρ', Stp w w' → FI X.K C.P w' σ' ρ' → DD.bk ρ' → D.bk σ' w'.H
  ct : ∀ w' σ' ρ', Stp w w' → FI X.K C.P w' σ' ρ' → DD.ct ρ' → D.ct σ' w'.H
structure DS (C : DC X) (st : Stmt) (ts : TS) (t : TSD) : Prop where
  ps : PS X st ts
  run : ∀ (w : Wd) (σ : St) (ρ : DSt) (D : Ends) (DD : DEnds), C.A w → FI X.K C.P w σ ρ → t DD ρ → EndsOk C w D DD → ts D σ w.H
structure DSs (C : DC X) (sts : List Stmt) (ts : TS) (t : TSD) : Prop where
  pss : PSs X sts ts
  run : ∀ (w : Wd) (σ : St) (ρ : DSt) (D : Ends) (DD : DEnds), C.A w → FI X.K C.P w σ ρ → t DD ρ → EndsOk C w D DD → ts D σ w.H
theorem EndsOk.step {C : DC X} {w w1 : Wd} {D : Ends} {DD : DEnds} (s : Stp w w1) (e : EndsOk C w D DD) : EndsOk C w1 D DD :=
  ⟨fun w' σ' ρ' s' => e.nx w' σ' ρ' (s.trans s'), fun v r w' σ' ρ' s' => e.rt v r w' σ' ρ' (s.trans s'), fun w' σ' ρ' s' => e.bk w' σ' ρ' (s.trans s'), fun w' σ' ρ' s' => e.ct w' σ' ρ' (s.trans s')⟩
variable {C : DC X} {st : Stmt} {rest body : List Stmt} {ts tr : TS} {t u : TSD} {a b c e tg iter : Expr} {ta te : TE} {da de : TED} {pos : Pos}

/-! ### blocks -/
def sNext : TSD := fun D ρ => D.nx ρ
def sSeq (t u : TSD) : TSD := fun D ρ => t { D with nx := u D } ρ
theorem dss_nil : DSs C [] tNext sNext := ⟨pss_nil, fun w σ ρ D DD hA I q k => k.nx w σ ρ (Stp.refl w) I q⟩
theorem dss_cons (h1 : DS C st ts t) (h2 : DSs C rest tr u) : DSs C (st :: rest) (tSeq ts tr) (sSeq t u) := by
  refine ⟨pss_cons h1.ps h2.pss, fun w σ ρ D DD hA I q k => ?_⟩
  exact h1.run w σ ρ { D with nx := tr D } { DD with nx := u DD } hA I q ⟨fun w' σ' ρ' s' I' q' => h2.run w' σ' ρ' D DD (C.cl _ _ hA s') I' q' (k.step s'), k.rt, k.bk, k.ct⟩
theorem dss_one (h1 : DS C st ts t) : DSs C [st] ts t := ⟨pss_one h1.ps, h1.run⟩
theorem ds_pass : DS C (.Pass pos) tNext sNext := ⟨ps_pass, fun w σ ρ D DD hA I q k => k.nx w σ ρ (Stp.refl w) I q⟩
def sBreak : TSD := fun D ρ => D.bk ρ
def sCont : TSD := fun D ρ => D.ct ρ
theorem ds_break : DS C (.Break pos) tBreak sBreak := ⟨ps_break, fun w σ ρ D DD hA I q k => k.bk w σ ρ (Stp.refl w) I q⟩
theorem ds_continue : DS C (.Continue pos) tCont sCont := ⟨ps_continue, fun w σ ρ D DD hA I q k => k.ct w σ ρ (Stp.refl w) I q⟩
def sDrop (de : TED) : TSD := fun D ρ => de ρ fun _ ρ1 => D.nx ρ1
theorem ds_expr (h : DE C e te de) (hs : swapsWith e none pos.line X.env = pure false := by rfl) : DS C (.Expr e pos) (tDrop te) (sDrop de) :=
  ⟨ps_expr h.pe hs, fun w σ ρ D DD hA I q k => h.run w σ ρ _ _ hA I q fun v r w1 ρ1 s1 I1 R1 q1 => k.nx w1 σ ρ1 s1 I1 q1⟩

/-! ### return -/
def sRet (de : TED) : TSD := fun D ρ => de ρ fun r ρ1 => frz ρ1 r fun d ρ2 => D.rt (.d d) ρ2
theorem ds_ret (h : DE C e te de) : DS C (.Return (some e) pos) (tRet te) (sRet de) := by
  refine ⟨ps_ret h.pe, fun w σ ρ D DD hA I q k => ?_⟩
  refine h.run w σ ρ _ _ hA I q fun v r w1 ρ1 s1 I1 R1 q1 => ?_
  obtain ⟨d, ρ2, w2, I2, s2, hh, hrep, q2⟩ := frz_ok I1 R1 q1
  rw [← hh]
  exact k.rt v (.d d) w2 σ ρ2 (s1.trans s2) I2 hrep q2
def sRetN (t : TND) : TSD := fun D ρ => t ρ fun ds ρ1 => D.rt (.n ds) ρ1
/-- return of a list just made -/
theorem ds_retN {t : TND} (h : DN C e te t) : DS C (.Return (some e) pos) (tRet te) (sRetN t) :=
  ⟨ps_ret h.pe, fun w σ ρ D DD hA I q k => h.run w σ ρ _ _ hA I q fun a vs ds w1 ρ1 s1 I1 n0 hg hf hh hr q1 => k.rt (.ref a) (.n ds) w1 σ ρ1 s1 I1 ⟨a, vs, rfl, C.nw w a hA n0, hg, hf, hh, hr⟩ q1⟩
/-- return of a list that the def has filled itself, slot i -/
def sRetOwn (i : Nat) : TSD := fun D ρ => match ρ[i]? with
  | some (.own false ds) => D.rt (.n ds) (ρ.set i .no)
  | _ => False
theorem FI.drop {K : PySem.W.Frag} {P : Par} {w : Wd} {σ : St} {ρ : DSt} (I : FI K P w σ ρ) (i : Nat) : FI K P ⟨w.G, w.H, fun j => if j = i then [] else w.F j⟩ σ (ρ.set i .no) ∧ Stp w ⟨w.G, w.H, fun j => if j = i then [] else w.F j⟩ := by
  have sub : ∀ j b, b ∈ (if j = i then ([] : List Addr) else w.F j) → b ∈ w.F j := fun j b hb => by
    by_cases e : j = i
    · rw [if_pos e] at hb; cases hb
    · rw [if_neg e] at hb; exact hb
  refine ⟨⟨I.gh, by rw [List.length_set]; exact I.len, fun j s e => ?_, fun j hj => ?_, fun j b hb => I.foot j b (sub j b hb), fun j l b hjl hb hb' => I.sep j l b hjl (sub j b hb) (sub l b hb')⟩,
    ⟨fun _ _ h => h, fun _ _ h _ => h, fun _ _ h _ => h, fun _ h => h, fun j b hb => .inl (sub j b hb)⟩⟩
  · by_cases hj : i = j
    · subst hj
      have hlt : i < ρ.length := by
        rcases Nat.lt_or_ge i ρ.length with q | q
        · exact q
        · rw [List.getElem?_eq_none (by rw [List.length_set]; exact q)] at e; cases e
      rw [List.getElem?_set_self hlt] at e
      cases e
      exact if_pos rfl
    · rw [List.getElem?_set_ne hj] at e
      show slotOk K P.σ0[j]? P.N _ (if j = i then [] else w.F j) σ[j]? s
      rw [if_neg (Ne.symm hj)]
      exact (I.ok j s e).go (fun _ _ h => h) fun _ _ _ h => h
  · show (if j = i then [] else w.F j) = []
    by_cases e : j = i
    · rw [if_pos e]
    · rw [if_neg e]; exact I.out j (by rw [← List.length_set (as := ρ)]; exact hj)
theorem ds_retOwn (i : Nat) {x : Str} {p : Pos} (hN : X.N[i]? = some x := by rfl) (hv : Vis X.env.scope x := by first | exact Or.inl rfl | exact Or.inr (Or.inl rfl) | exact Or.inr (Or.inr rfl)) (hd : (x == ("__debug__" : Str)) = false := by decide)
    (hcd : (x == ("__classdict__" : Str)) = false := by decide) : DS C (.Return (some (.Name x p)) pos) (tRet (tVar i)) (sRetOwn i) := by
  refine ⟨ps_ret (pe_var hN hv hd hcd), fun w σ ρ D DD hA I q k => ?_⟩
  have q : (match ρ[i]? with
    | some (.own false ds) => DD.rt (.n ds) (ρ.set i .no)
    | _ => False) := q
  cases e : ρ[i]? with
  | none => rw [e] at q; exact q.elim
  | some s =>
    rw [e] at q
    cases s with
    | no => exact q.elim
    | val _ => exact q.elim
    | res _ _ => exact q.elim
    | own io ds =>
      cases io with
      | true => exact q.elim
      | false =>
        obtain ⟨a, vs, h1, h2, h3, h4, h5⟩ := I.ok i _ e
        obtain ⟨I2, s2⟩ := I.drop i
        have ha : a ∈ w.F i := by rw [h2]; exact List.mem_cons_self
        refine ⟨.ref a, h1, k.rt (.ref a) (.n ds) ⟨w.G, w.H, fun j => if j = i then [] else w.F j⟩ σ _ s2 I2 ⟨a, vs, rfl, h5.2 rfl, (I.foot i a ha).1, fun j hj => ?_, h3, h4⟩ q⟩
        have hj : a ∈ (if j = i then [] else w.F j) := hj
        by_cases z : j = i
        · rw [if_pos z] at hj; cases hj
        · rw [if_neg z] at hj
          exact I.sep j i a z hj ha
def sRetU : TSD := fun D ρ => D.rt (.d .none) ρ
theorem ds_retU : DS C (.Return none pos) tRetN sRetU := ⟨ps_retN, fun w σ ρ D DD hA I q k => k.rt .non (.d .none) w σ ρ (Stp.refl w) I .non q⟩

/-! ### targets -/
abbrev TGD := PyData → DSt → (DSt → Prop) → Prop
/-- a target that stores at the slots of T alone -/
structure DG (C : DC X) (tg : Expr) (g : TG) (T : List Nat) (d : TGD) : Prop where
  pg : PG X tg g
  run : ∀ (w : Wd) (σ : St) (ρ : DSt) (v : V) (x : PyData) (Q : St → Hp → Prop) (QD : DSt → Prop), C.A w → FI X.K C.P w σ ρ → Rep X.K w.G v x → d x ρ QD →
    (∀ w' σ' ρ', Stp w w' → FI X.K C.P w' σ' ρ' → (∀ vs : List Nat, (∀ i ∈ T, i ∈ vs) → wipe σ' vs = wipe σ vs) → QD ρ' → Q σ' w'.H) → g v σ w.H Q
def gName' (i : Nat) : TGD := fun x ρ k => k (ρ.set i (.val x))
theorem wipe_set {σ : St} {i : Nat} {o : Option V} : ∀ {vs : List Nat}, i ∈ vs → wipe (σ.set i o) vs = wipe σ vs
  | v :: vs, h => by
    show (wipe (σ.set i o) vs).set v none = (wipe σ vs).set v none
    by_cases hv : i ∈ vs
    · rw [wipe_set hv]
    · have e : v = i := by
        rcases List.mem_cons.mp h with q | q
        · exact q.symm
        · exact absurd q hv
      subst e
      have out : ∀ (τ : St) (ws : List Nat), v ∉ ws → wipe (τ.set v o) ws = (wipe τ ws).set v o := by
        intro τ ws
        induction ws with
        | nil => intro _; rfl
        | cons z zs ih =>
          intro hz
          show (wipe (τ.set v o) zs).set z none = ((wipe τ zs).set z none).set v o
          rw [ih fun q => hz (List.mem_cons_of_mem _ q), List.set_comm _ _ (fun q => hz (by rw [q]; exact List.mem_cons_self))]
      rw [out σ vs hv, List.set_set]
theorem dg_name (i : Nat) {x : Str} (hi : X.N[i]? = some x := by rfl) (hx : Loc X.env.scope x := by first | exact Or.inl rfl | exact Or.inr rfl) (hf : X.fn x = true ∨ X.env.scope.names.lookup x = some .local := by first | exact .inl rfl | exact .inr rfl) :
    DG C (.Name x pos) (gName i) [i] (gName' i) :=
  ⟨pg_name C.nd hi hx hf, fun w σ ρ v d Q QD hA I hr q k => k ⟨w.G, w.H, fun j => if j = i then [] else w.F j⟩ _ _ (I.set hr).2 (I.set hr).1 (fun vs h => wipe_set (h i List.mem_cons_self)) q⟩
abbrev TGsD := List PyData → DSt → (DSt → Prop) → Prop
structure DGs (C : DC X) (tgs : List Expr) (g : TGs) (T : List Nat) (d : TGsD) : Prop where
  pgs : PGs X tgs g
  run : ∀ (w : Wd) (σ : St) (ρ : DSt) (vs : List V) (xs : List PyData) (Q : St → Hp → Prop) (QD : DSt → Prop), C.A w → FI X.K C.P w σ ρ → Reps X.K w.G vs xs → d xs ρ QD →
    (∀ w' σ' ρ', Stp w w' → FI X.K C.P w' σ' ρ' → (∀ vs : List Nat, (∀ i ∈ T, i ∈ vs) → wipe σ' vs = wipe σ vs) → QD ρ' → Q σ' w'.H) → g vs σ w.H Q
def gNil' : TGsD := fun xs ρ k => match xs with | [] => k ρ | _ => False
def gCons' (g : TGD) (r : TGsD) : TGsD := fun xs ρ k => match xs with | x :: xs => g x ρ fun ρ1 => r xs ρ1 k | [] => False
theorem dgs_nil : DGs C [] gNil [] gNil' := by
  refine ⟨pgs_nil, fun w σ ρ vs xs Q QD hA I hr q k => ?_⟩
  cases hr with
  | nil => exact ⟨rfl, k w σ ρ (Stp.refl w) I (fun _ _ => rfl) q⟩
  | cons _ _ => exact q.elim
theorem dgs_cons {tgs : List Expr} {g : TG} {gs : TGs} {T Ts : List Nat} {d : TGD} {ds : TGsD} (h1 : DG C tg g T d) (h2 : DGs C tgs gs Ts ds) (hs : (assignEach (tg :: tgs) X.env).map (·.2) = assign tg X.env :: (assignEach tgs X.env).map (·.2) := by rfl) :
    DGs C (tg :: tgs) (gCons g gs) (T ++ Ts) (gCons' d ds) := by
  refine ⟨pgs_cons h1.pg h2.pgs hs, fun w σ ρ vs xs Q QD hA I hr q k => ?_⟩
  cases hr with
  | nil => exact q.elim
  | cons r rs =>
    refine ⟨_, _, rfl, h1.run w σ ρ _ _ _ _ hA I r q fun w1 σ1 ρ1 s1 I1 e1 q1 => ?_⟩
    refine h2.run w1 σ1 ρ1 _ _ _ _ (C.cl _ _ hA s1) I1 (reps_mono s1.g _ _ rs) q1 fun w2 σ2 ρ2 s2 I2 e2 q2 => k w2 σ2 ρ2 (s1.trans s2) I2 (fun vs h => ?_) q2
    rw [e2 vs fun i hi => h i (List.mem_append_right _ hi), e1 vs fun i hi => h i (List.mem_append_left _ hi)]
def gTup' (r : TGsD) : TGD := fun x ρ k => match x with | .tuple xs => r xs ρ k | _ => False
def lenIs (n : Nat) (r : TGsD) : TGsD := fun xs ρ k => xs.length = n ∧ r xs ρ k
theorem dg_tup {tgs : List Expr} {gs : TGs} {T : List Nat} {ds : TGsD} {k0 : Nat} {n : Nat} (h : DGs C tgs gs T ds) (hn : (assignEach tgs X.env).length = n := by rfl) (hst : (assignEach tgs X.env).findIdx? (·.1) = none := by rfl) :
    DG C (.Tuple tgs k0 pos) (gTup X.K n gs) T (gTup' (lenIs n ds)) := by
  refine ⟨pg_tup C.calm h.pgs hn hst, fun w σ ρ v x Q QD hA I hr q k => ?_⟩
  cases x with
  | tuple xs =>
    cases hr with
    | tup hs ha =>
      obtain ⟨hl, q⟩ := q
      exact ⟨_, _, rfl, sqt_mono I.gh hs, by rw [ha.len]; exact hl, h.run w σ ρ _ _ _ _ hA I ha q k⟩
  | _ => exact q.elim

/-! ### assignments -/
/-- name = value -/
def sSet (i : Nat) (de : TED) : TSD := fun D ρ => de ρ fun r ρ1 => frz ρ1 r fun d ρ2 => D.nx (ρ2.set i (.val d))
theorem ds_set (i : Nat) {x : Str} {px : Pos} (h : DE C e te de) (hi : X.N[i]? = some x := by rfl) (hx : Loc X.env.scope x := by first | exact Or.inl rfl | exact Or.inr rfl) (hs : swapsWith e (some (.Name x px)) pos.line X.env = pure false := by rfl)
    (hf : X.fn x = true ∨ X.env.scope.names.lookup x = some .local := by first | exact .inl rfl | exact .inr rfl) : DS C (.Assign [.Name x px] e pos) (tAsg te (gName i)) (sSet i de) := by
  refine ⟨ps_set C.nd hi hx h.pe hs hf, fun w σ ρ D DD hA I q k => ?_⟩
  refine h.run w σ ρ _ _ hA I q fun v r w1 ρ1 s1 I1 R1 q1 => ?_
  obtain ⟨d, ρ2, w2, I2, s2, hh, hrep, q2⟩ := frz_ok I1 R1 q1
  rw [← hh]
  have z := I2.set (i := i) hrep
  exact k.nx ⟨w2.G, w2.H, fun j => if j = i then [] else w2.F j⟩ _ _ ((s1.trans s2).trans z.2) z.1 q2
/-- name = a new list, the name's own from now on -/
def sOwn (i : Nat) (t : TND) : TSD := fun D ρ => t ρ fun ds ρ1 => i < ρ1.length ∧ D.nx (ρ1.set i (.own false ds))
theorem ds_own (i : Nat) {x : Str} {px : Pos} {t : TND} (h : DN C e te t) (hi : X.N[i]? = some x := by rfl) (hx : Loc X.env.scope x := by first | exact Or.inl rfl | exact Or.inr rfl) (hs : swapsWith e (some (.Name x px)) pos.line X.env = pure false := by rfl)
    (hf : X.fn x = true ∨ X.env.scope.names.lookup x = some .local := by first | exact .inl rfl | exact .inr rfl) : DS C (.Assign [.Name x px] e pos) (tAsg te (gName i)) (sOwn i t) := by
  refine ⟨ps_set C.nd hi hx h.pe hs hf, fun w σ ρ D DD hA I q k => ?_⟩
  refine h.run w σ ρ _ _ hA I q fun a vs ds w1 ρ1 s1 I1 n0 hg hf' hh hr q1 => ?_
  have z := I1.setOwn (i := i) hf' hg hh hr (C.nw w a hA n0) q1.1
  refine k.nx ⟨w1.G, w1.H, fun j => if j = i then [a] else w1.F j⟩ _ _ ⟨s1.g, s1.gf, s1.h, s1.t, fun j b hb => ?_⟩ z q1.2
  have hb : b ∈ (if j = i then [a] else w1.F j) := hb
  by_cases e : j = i
  · rw [if_pos e] at hb
    have : b = a := by simpa using hb
    rw [this]; exact .inr n0
  · rw [if_neg e] at hb
    exact s1.f j b hb
/-- target = value -/
def sAsg (de : TED) (g : TGD) : TSD := fun D ρ => de ρ fun r ρ1 => frz ρ1 r fun d ρ2 => g d ρ2 D.nx
theorem ds_asg {g : TG} {T : List Nat} {d : TGD} (h : DE C e te de) (hg : DG C tg g T d) (hs : swapsWithSole [tg] e pos.line X.env = pure false := by rfl) (hw : swappedStores [tg] e X.env = pure none := by rfl)
    (h1 : (assignEach [tg] X.env).map (·.2) = [assign tg X.env] := by rfl) : DS C (.Assign [tg] e pos) (tAsg te g) (sAsg de d) := by
  refine ⟨ps_asg h.pe hg.pg hs hw h1, fun w σ ρ D DD hA I q k => ?_⟩
  refine h.run w σ ρ _ _ hA I q fun v r w1 ρ1 s1 I1 R1 q1 => ?_
  obtain ⟨x, ρ2, w2, I2, s2, hh, hrep, q2⟩ := frz_ok I1 R1 q1
  rw [← hh]
  exact hg.run w2 σ ρ2 v x _ _ (C.cl _ _ hA (s1.trans s2)) I2 hrep q2 fun w3 σ3 ρ3 s3 I3 _ q3 => k.nx w3 σ3 ρ3 ((s1.trans s2).trans s3) I3 q3
/-- a, b = x, y -/
def sPar (i j : Nat) (t : TND) : TSD := fun D ρ => t ρ fun ds ρ1 => match ds with | [x, y] => D.nx ((ρ1.set i (.val x)).set j (.val y)) | _ => False
variable {ta' : TA} {dr : TND}
theorem ds_par {i j : Nat} {x y : Str} {px py pt : Pos} {kt k2 pt2} (ha : DA C [a, b] ta' dr) (hi : X.N[i]? = some x := by rfl) (hj : X.N[j]? = some y := by rfl) (hij : i ≠ j := by decide)
    (hx : X.env.scope.names.lookup x = some .local := by rfl) (hy : X.env.scope.names.lookup y = some .local := by rfl)
    (hw : swappedStores [.Tuple [.Name x px, .Name y py] kt pt] (.Tuple [a, b] k2 pt2) X.env = pure (some [x, y]) := by rfl)
    (hs : swapsWithSole [.Tuple [.Name x px, .Name y py] kt pt] (.Tuple [a, b] k2 pt2) pos.line X.env = pure false := by rfl) :
    DS C (.Assign [.Tuple [.Name x px, .Name y py] kt pt] (.Tuple [a, b] k2 pt2) pos) (tPar i j ta') (sPar i j dr) := by
  refine ⟨ps_par C.calm C.nd hi hj hij hx hy ha.pa hw hs, fun w σ ρ D DD hA I q k => ?_⟩
  refine ha.run w σ ρ _ _ hA I q fun vs ds w1 ρ1 s1 I1 R1 q1 => ?_
  cases R1 with
  | nil => exact q1.elim
  | cons r1 R1 =>
    cases R1 with
    | nil => exact q1.elim
    | cons r2 R1 =>
      cases R1 with
      | cons _ _ => exact q1.elim
      | nil =>
        have z1 := I1.set (i := i) r1
        have z2 := z1.1.set (i := j) r2
        exact ⟨_, _, rfl, k.nx ⟨w1.G, w1.H, fun j' => if j' = j then [] else if j' = i then [] else w1.F j'⟩ _ _ ((s1.trans z1.2).trans z2.2) z2.1 q1⟩

/-! ### if, while -/
variable {ua : TT} {xa : TTD} {tb : TS} {d1 d2 : TSD}
def sIf (x : TTD) (t u : TSD) : TSD := fun D ρ => x ρ fun b ρ1 => match b with | true => t D ρ1 | false => u D ρ1
theorem ds_if {els : List Stmt} {te' : TS} (hc : DT C c ua xa) (h1 : DSs C body tb d1) (h2 : DSs C els te' d2) : DS C (.If c body els pos) (tIfS ua tb te') (sIf xa d1 d2) := by
  refine ⟨ps_if hc.pt h1.pss h2.pss, fun w σ ρ D DD hA I q k => ?_⟩
  refine hc.run w σ ρ _ _ hA I q fun z w1 ρ1 s1 I1 q1 => ?_
  cases z with
  | true =>
    show tb D σ w1.H
    exact h1.run w1 σ ρ1 D DD (C.cl _ _ hA s1) I1 q1 (k.step s1)
  | false =>
    show te' D σ w1.H
    exact h2.run w1 σ ρ1 D DD (C.cl _ _ hA s1) I1 q1 (k.step s1)
def sWhile (x : TTD) (t : TSD) : TSD := fun D ρ => ∃ W : Nat → DSt → Prop, (∃ m, W m ρ) ∧ ∀ m ρ, W m ρ →
  x ρ fun b ρ1 => match b with
    | true => t { D with nx := fun ρ2 => ∃ m', m' < m ∧ W m' ρ2, ct := fun ρ2 => ∃ m', m' < m ∧ W m' ρ2, bk := D.nx } ρ1
    | false => D.nx ρ1
theorem DC.passes (C : DC X) (hp : PassesOwn (model X.prog X.w) X.A X.env X.xe) : PassesOwn (model X.prog X.w) X.A X.env X.xe := hp
theorem ds_while (hp : PassesOwn (model X.prog X.w) X.A X.env X.xe) (hc : DT C c ua xa) (h1 : DSs C body tb d1) : DS C (.While c body [] pos) (tWhile ua tb) (sWhile xa d1) := by
  refine ⟨ps_while hp hc.pt h1.pss, fun w σ ρ D DD hA I q k => ?_⟩
  obtain ⟨W, ⟨m0, h0⟩, turn⟩ := q
  refine ⟨fun m σ' H' => ∃ w' ρ', w'.H = H' ∧ Stp w w' ∧ FI X.K C.P w' σ' ρ' ∧ W m ρ', ⟨m0, w, ρ, rfl, Stp.refl w, I, h0⟩, ?_⟩
  rintro m σ1 H1 ⟨w1, ρ1, rfl, s1, I1, q1⟩
  refine hc.run w1 σ1 ρ1 _ _ (C.cl _ _ hA s1) I1 (turn m ρ1 q1) fun z w2 ρ2 s2 I2 q2 => ?_
  cases z with
  | false =>
    rw [if_neg Bool.false_ne_true]
    exact k.nx w2 σ1 ρ2 (s1.trans s2) I2 q2
  | true =>
    rw [if_pos rfl]
    refine ⟨fun σ' H' => ∃ m', m' < m ∧ ∃ w' ρ', w'.H = H' ∧ Stp w w' ∧ FI X.K C.P w' σ' ρ' ∧ W m' ρ', fun σ' H' h => h, ?_⟩
    refine h1.run w2 σ1 ρ2 _ _ (C.cl _ _ hA (s1.trans s2)) I2 q2 ⟨fun w' σ' ρ' s' I' h => ?_, fun v r w' σ' ρ' s' I' R' h => k.rt v r w' σ' ρ' ((s1.trans s2).trans s') I' R' h, fun w' σ' ρ' s' I' h => k.nx w' σ' ρ' ((s1.trans s2).trans s') I' h, fun w' σ' ρ' s' I' h => ?_⟩
    · obtain ⟨m', hm, hW⟩ := h
      exact ⟨m', hm, w', ρ', rfl, (s1.trans s2).trans s', I', hW⟩
    · obtain ⟨m', hm, hW⟩ := h
      exact ⟨m', hm, w', ρ', rfl, (s1.trans s2).trans s', I', hW⟩

/-! ### what is walked -/
/-- it walks these data; an item may be a new pair -/
structure WalkD (K : PySem.W.Frag) (G : Hp) (J : It) (items : List PyData) : Prop where
  go : ∀ i H, i < items.length → Same G H → J.go i H
  stop : ∀ H, Same G H → J.stop items.length H
  yld : ∀ i H x H', i < items.length → Same G H → J.yld i H x H' → ∃ d, items[i]? = some d ∧ ((H' = H ∧ Rep K G x d) ∨ ∃ T u1 u2 d1 d2, x = .ref T ∧ H T = none ∧ H' = upd H T (.tup [u1, u2]) ∧ d = .tuple [d1, d2] ∧ Rep K G u1 d1 ∧ Rep K G u2 d2)
structure DI (C : DC X) (tg iter : Expr) (wi : TI) (t : TND) : Prop where
  pi : PI X tg iter wi
  run : ∀ (w : Wd) (σ : St) (ρ : DSt) (Q : It → Hp → Prop) (QD : List PyData → DSt → Prop), C.A w → FI X.K C.P w σ ρ → t ρ QD →
    (∀ J items w' ρ', Stp w w' → FI X.K C.P w' σ ρ' → WalkD X.K w'.G J items → QD items ρ' → Q J w'.H) → wi σ w.H Q
def asInt1 (ds : List PyData) (k : Int → Prop) : Prop := match ds with | [.int j] => k j | _ => False
theorem asInt1_inv {ds : List PyData} {k : Int → Prop} (h : asInt1 ds k) : ∃ j, ds = [.int j] ∧ k j := by
  unfold asInt1 at h
  split at h
  · exact ⟨_, rfl, h⟩
  · exact h.elim
def asInt2 (ds : List PyData) (k : Int → Int → Prop) : Prop := match ds with | [.int i, .int j] => k i j | _ => False
theorem asInt2_inv {ds : List PyData} {k : Int → Int → Prop} (h : asInt2 ds k) : ∃ i j, ds = [.int i, .int j] ∧ k i j := by
  unfold asInt2 at h
  split at h
  · exact ⟨_, _, rfl, h⟩
  · exact h.elim
/-- a range -/
def range1D (dr : TND) : TND := fun ρ Q => dr ρ fun ds ρ1 => asInt1 ds fun j => -(2 ^ 62) ≤ j ∧ j < 2 ^ 62 ∧ Q ((List.range j.toNat).map fun (k : Nat) => .int (k : Int)) ρ1
theorem int_args {K : PySem.W.Frag} {G : Hp} {ns : List Int} {vs : List V} (h : Reps K G vs (ns.map PyData.int)) : vs = ns.map V.int := by
  induction ns generalizing vs with
  | nil => cases h; rfl
  | cons n ns ih =>
    cases h with
    | cons h1 h2 => cases h1; rw [ih h2]; rfl
theorem di_range1 {p : Pos} (hg : Gl X "range") (hm : X.mg "range" = none) (ha : DA C [a] ta' dr) (hs : starEach [a] X.env = [(false, eval a X.env)] := by rfl) : DI C tg (.Call (.Name "range" p) [a] [] pos) (iRng1 ta') (range1D dr) := by
  refine ⟨pi_range1 hg hm ha.pa hs, fun w σ ρ Q QD hA I q k => ?_⟩
  refine ha.run w σ ρ _ _ hA I q fun vs ds w1 ρ1 s1 I1 R1 q1 => ?_
  obtain ⟨j, rfl, h1, h2, q2⟩ := asInt1_inv q1
  have e := int_args (ns := [j]) R1
  subst e
  refine ⟨j, rfl, h1, h2, k _ _ w1 ρ1 s1 I1 ⟨fun i H hi _ => ?_, fun H _ => ?_, fun i H x H' hi _ y => ?_⟩ q2⟩
  · rw [List.length_map, List.length_range] at hi; exact hi
  · rw [List.length_map, List.length_range]; exact Nat.le_refl _
  · rw [List.length_map, List.length_range] at hi
    obtain ⟨rfl, rfl⟩ := y
    refine ⟨.int (i : Int), by rw [List.getElem?_map, List.getElem?_range hi]; rfl, .inl ⟨rfl, ?_⟩⟩
    have e0 : (0 : Int) + (i : Int) = (i : Int) := Int.zero_add _
    rw [e0]
    exact .int _
def range2D (dr : TND) : TND := fun ρ Q => dr ρ fun ds ρ1 => asInt2 ds fun i j => (-(2 ^ 62) ≤ i ∧ i < 2 ^ 62 ∧ -(2 ^ 62) ≤ j ∧ j < 2 ^ 62) ∧ Q ((List.range (j - i).toNat).map fun (k : Nat) => .int (i + (k : Int))) ρ1
theorem di_range2 {p : Pos} (hg : Gl X "range") (hm : X.mg "range" = none) (ha : DA C [a, b] ta' dr) (hs : starEach [a, b] X.env = [(false, eval a X.env), (false, eval b X.env)] := by rfl) (hs2 : starEach [b] X.env = [(false, eval b X.env)] := by rfl) :
    DI C tg (.Call (.Name "range" p) [a, b] [] pos) (iRng2 ta') (range2D dr) := by
  refine ⟨pi_range2 hg hm ha.pa hs hs2, fun w σ ρ Q QD hA I q k => ?_⟩
  refine ha.run w σ ρ _ _ hA I q fun vs ds w1 ρ1 s1 I1 R1 q1 => ?_
  obtain ⟨lo, j, rfl, h1, q2⟩ := asInt2_inv q1
  have e := int_args (ns := [lo, j]) R1
  subst e
  refine ⟨lo, j, rfl, h1, k _ _ w1 ρ1 s1 I1 ⟨fun i H hi _ => ?_, fun H _ => ?_, fun i H x H' hi _ y => ?_⟩ q2⟩
  · rw [List.length_map, List.length_range] at hi; exact hi
  · rw [List.length_map, List.length_range]; exact Nat.le_refl _
  · rw [List.length_map, List.length_range] at hi
    obtain ⟨rfl, rfl⟩ := y
    exact ⟨.int (lo + (i : Int)), by rw [List.getElem?_map, List.getElem?_range hi]; rfl, .inl ⟨rfl, .int _⟩⟩
/-- a list, a tuple -/
def itemsD (de : TED) : TND := fun ρ Q => de ρ fun r ρ1 => frz ρ1 r fun d ρ2 => match d with | .list ds => Q ds ρ2 | _ => False
def itemsT (de : TED) : TND := fun ρ Q => de ρ fun r ρ1 => frz ρ1 r fun d ρ2 => match d with | .tuple ds => Q ds ρ2 | _ => False
theorem walkd_list {K : PySem.W.Frag} {G : Hp} {l : Addr} {vs : List V} {ds : List PyData} (h : G l = some (.lst vs)) (hr : Reps K G vs ds) : WalkD K G (Itl K l) ds := by
  refine ⟨fun i H hi s => ?_, fun H s => ⟨vs, SqL.of (s _ _ h), by rw [hr.len]; exact Nat.le_refl _⟩, fun i H x H' hi s y => ?_⟩
  · have hi' : i < vs.length := by rw [hr.len]; exact hi
    exact ⟨vs, vs[i], SqL.of (s _ _ h), by simp [hi']⟩
  · have e := y.2 vs (SqL.of (s _ _ h))
    obtain ⟨d, h1, h2⟩ := hr.get' e
    exact ⟨d, h1, .inl ⟨y.1, h2⟩⟩
theorem walkd_tup {K : PySem.W.Frag} {G : Hp} {l : Addr} {vs : List V} {ds : List PyData} (h : SqT K G l vs) (hr : Reps K G vs ds) : WalkD K G (Itt K l) ds := by
  refine ⟨fun i H hi s => ?_, fun H s => ⟨vs, sqt_mono s h, by rw [hr.len]; exact Nat.le_refl _⟩, fun i H x H' hi s y => ?_⟩
  · have hi' : i < vs.length := by rw [hr.len]; exact hi
    exact ⟨vs, vs[i], sqt_mono s h, by simp [hi']⟩
  · have e := y.2 vs (sqt_mono s h)
    obtain ⟨d, h1, h2⟩ := hr.get' e
    exact ⟨d, h1, .inl ⟨y.1, h2⟩⟩
theorem di_list (h : DE C e te de) : DI C tg e (iList X.K te) (itemsD de) := by
  refine ⟨pi_list h.pe, fun w σ ρ Q QD hA I q k => ?_⟩
  refine h.run w σ ρ _ _ hA I q fun v r w1 ρ1 s1 I1 R1 q1 => ?_
  obtain ⟨d, ρ2, w2, I2, s2, hh, hrep, q2⟩ := frz_ok I1 R1 q1
  rw [← hh]
  cases d with
  | list ds =>
    cases hrep with
    | lst hs hr => exact ⟨_, rfl, ⟨_, SqL.of (I2.gh _ _ hs)⟩, k _ _ w2 ρ2 (s1.trans s2) I2 (walkd_list hs hr) q2⟩
  | _ => exact q2.elim
theorem di_tup (h : DE C e te de) : DI C tg e (iTup X.K te) (itemsT de) := by
  refine ⟨pi_tup h.pe, fun w σ ρ Q QD hA I q k => ?_⟩
  refine h.run w σ ρ _ _ hA I q fun v r w1 ρ1 s1 I1 R1 q1 => ?_
  obtain ⟨d, ρ2, w2, I2, s2, hh, hrep, q2⟩ := frz_ok I1 R1 q1
  rw [← hh]
  cases d with
  | tuple ds =>
    cases hrep with
    | tup hs hr => exact ⟨_, rfl, ⟨_, sqt_mono I2.gh hs⟩, k _ _ w2 ρ2 (s1.trans s2) I2 (walkd_tup hs hr) q2⟩
  | _ => exact q2.elim
/-- an item comes -/
theorem item_come {K : PySem.W.Frag} {P : Par} {G0 : Hp} {J : It} {items : List PyData} {w : Wd} {σ : St} {ρ : DSt} {i : Nat} {x : V} {H' : Hp} (W : WalkD K G0 J items) (I : FI K P w σ ρ) (g : Same G0 w.G) (hi : i < items.length) (y : J.yld i w.H x H') :
    ∃ d w', items[i]? = some d ∧ w'.H = H' ∧ Stp w w' ∧ FI K P w' σ ρ ∧ Rep K w'.G x d := by
  have gH : Same G0 w.H := fun b o h => I.gh b o (g b o h)
  obtain ⟨d, hd, h⟩ := W.yld i w.H x H' hi gH y
  rcases h with ⟨rfl, hr⟩ | ⟨T, u1, u2, d1, d2, rfl, hT, rfl, rfl, r1, r2⟩
  · exact ⟨d, w, hd, rfl, Stp.refl w, I, rep_mono g _ _ hr⟩
  · refine ⟨_, ⟨upd w.G T (.tup [u1, u2]), upd w.H T (.tup [u1, u2]), w.F⟩, hd, rfl, ?_, ?_, ?_⟩
    · have hg : w.G T = none := I.gh.free hT
      refine ⟨same_new hg, fun b h1 h2 _ => ?_, fun b u h _ => same_new hT b u h, there_new, fun i b hb => .inl hb⟩
      show upd w.G T _ b = none
      rw [upd_ne (fun z => h1 (by rw [z]; exact hT))]; exact h2
    · exact (FI.new I hT).1
    · have hg : w.G T = none := I.gh.free hT
      have sg : Same G0 (upd w.G T (.tup [u1, u2])) := fun b o h => same_new hg b o (g b o h)
      exact .tup (SqT.of upd_same) (.cons (rep_mono sg _ _ r1) (.cons (rep_mono sg _ _ r2) .nil))

/-! ### for -/
def forD (g : TGD) (t : TSD) (D : DEnds) : List PyData → DSt → Prop
  | [], ρ => D.nx ρ
  | x :: xs, ρ => g x ρ fun ρ1 => t { D with nx := forD g t D xs, ct := forD g t D xs, bk := D.nx } ρ1
def sFor (ti : TND) (g : TGD) (t : TSD) : TSD := fun D ρ => ti ρ fun items ρ1 => forD g t D items ρ1
theorem ds_for {wi : TI} {ti : TND} {g : TG} {T : List Nat} {d : TGD} (hp : PassesOwn (model X.prog X.w) X.A X.env X.xe) (hi : DI C tg iter wi ti) (hg : DG C tg g T d) (h1 : DSs C body tb d1) (hs : ∀ x, foldedSetIterable iter X.env x = pure x := by intro _; rfl) :
    DS C (.For tg iter body [] pos) (tFor wi g tb) (sFor ti d d1) := by
  refine ⟨ps_for hp C.calm hi.pi hg.pg h1.pss hs, fun w σ ρ D DD hA I q k => ?_⟩
  refine hi.run w σ ρ _ _ hA I q fun J items w1 ρ1 s1 I1 WK q1 => ?_
  refine ⟨fun i m σ' H' => m = items.length - i ∧ i ≤ items.length ∧ ∃ w' ρ', w'.H = H' ∧ Stp w1 w' ∧ FI X.K C.P w' σ' ρ' ∧ forD d d1 DD (items.drop i) ρ', ⟨items.length, by simp, Nat.zero_le _, w1, ρ1, rfl, Stp.refl w1, I1, by rw [List.drop_zero]; exact q1⟩, ?_⟩
  rintro i m σ2 H2 ⟨rfl, hi2, w2, ρ2, rfl, s2, I2, q2⟩
  have hA2 := C.cl _ _ (C.cl _ _ hA s1) s2
  have gH : Same w1.G w2.H := fun b o h => I2.gh b o (s2.g b o h)
  by_cases hlt : i < items.length
  · refine .inr ⟨WK.go i _ hlt gH, fun σ' H' => ∃ w' ρ', w'.H = H' ∧ Stp w1 w' ∧ FI X.K C.P w' σ' ρ' ∧ forD d d1 DD (items.drop (i + 1)) ρ', fun σ' H' h => ⟨items.length - (i + 1), by omega, rfl, hlt, h⟩, fun x H' y => ?_⟩
    obtain ⟨z, w3, hz, rfl, s3, I3, r3⟩ := item_come WK I2 s2.g hlt y
    have ed : items.drop i = z :: items.drop (i + 1) := by
      have e1 := List.getElem?_eq_some_iff.mp hz
      rw [List.drop_eq_getElem_cons hlt, e1.2]
    rw [ed] at q2
    refine hg.run w3 σ2 ρ2 x z _ _ (C.cl _ _ hA2 s3) I3 r3 q2 fun w4 σ4 ρ4 s4 I4 _ q4 => ?_
    have s34 := s3.trans s4
    refine h1.run w4 σ4 ρ4 _ _ (C.cl _ _ hA2 s34) I4 q4 ⟨fun w' σ' ρ' s' I' h => ⟨w', ρ', rfl, (s2.trans s34).trans s', I', h⟩, fun v r w' σ' ρ' s' I' R' h => k.rt v r w' σ' ρ' (s1.trans ((s2.trans s34).trans s')) I' R' h,
      fun w' σ' ρ' s' I' h => k.nx w' σ' ρ' (s1.trans ((s2.trans s34).trans s')) I' h, fun w' σ' ρ' s' I' h => ⟨w', ρ', rfl, (s2.trans s34).trans s', I', h⟩⟩
  · have e : i = items.length := by omega
    subst e
    rw [List.drop_length] at q2
    exact .inl ⟨WK.stop _ gH, k.nx w2 σ2 ρ2 (s1.trans s2) I2 q2⟩
end
end DL

end
section
set_option maxHeartbeats 4000000
/-! DLD: defs over data: what one promises, its call, its body. -/
namespace DL
open PySem PySem.Spec L2
open PyProof.Rows (envOfC)

/-- a def's promise over data: the arguments, what is wanted of the end, of an exception. The first argument may be lent -/
abbrev DSp := List SD → (Ret → List SD → Prop) → (Exd → List SD → Prop) → Prop
/-- no argument but the first is lent -/
def lentOne : List SD → Bool
  | .own io _ :: r => io && r.all fun s => match s with | .val _ => true | _ => false
  | .res io _ :: r => io && r.all fun s => match s with | .val _ => true | _ => false
  | l => l.all fun s => match s with | .val _ => true | _ => false
def parOf (vs : List V) (w : Wd) : Par := ⟨vs.map some, fun a => w.H a = none⟩
def spOf (K : PySem.W.Frag) (p : DSp) : Sp := fun vs H Q E => ∃ (w : Wd) (α : List SD) (QD : Ret → List SD → Prop) (ED : Exd → List SD → Prop), w.H = H ∧ FI K (parOf vs w) w (vs.map some) α ∧ lentOne α = true ∧ p α QD ED ∧
  (∀ v r w' α', Stp w w' → FI K (parOf vs w) w' (vs.map some) α' → RepRet K (parOf vs w).N w' v r → QD r α' → Q v w'.H) ∧
  (∀ e α' w' cls d, Stp w w' → FI K (parOf vs w) w' (vs.map some) α' → RepE K w' cls d e → ED e α' → E cls d w'.H)
/-- a def keeps its promise, where nothing is being shown (what repr of a container asks) -/
structure FnD (P : Program) (w : World) (K : PySem.W.Frag) (mg : Str → Option Value) (base : Heap) (k : Nat) (f : Addr) (fd : FuncData) (ps : List Str) (p : DSp) : Prop where
  len : ∀ α QD ED, p α QD ED → α.length = ps.length
  run : ∀ (A : Around) (outer : List Env) (s : Shared) (H : Hp) (args : Args) (us : List Value) (vs : List V) (Q : VK) (E : XK), A.guards = some [] → Room k A → Env0 P w K mg base A outer s H → BindsTo s fd args (ps.zip us) → Vals vs us → spOf K p vs H Q E →
    codeAny (model P w) A (.call (.ref f) args) (CR (L2.CX P w) outer P w H s Q E) s
theorem spOf.len {K : PySem.W.Frag} {p : DSp} {ps : List Str} (hl : ∀ α QD ED, p α QD ED → α.length = ps.length) {vs : List V} {H : Hp} {Q : VK} {E : XK} (h : spOf K p vs H Q E) : vs.length = ps.length := by
  obtain ⟨w, α, QD, ED, _, I, _, hp, _⟩ := h
  have e := I.len
  rw [List.length_map] at e
  rw [e, hl α QD ED hp]
theorem FnD.mono {P : Program} {w : World} {K : PySem.W.Frag} {mg : Str → Option Value} {base : Heap} {j k : Nat} {f : Addr} {fd : FuncData} {ps : List Str} {p : DSp} (F : FnD P w K mg base j f fd ps p) (h : j ≤ k) : FnD P w K mg base k f fd ps p :=
  ⟨F.len, fun A outer s H args us vs Q E hg hr => F.run A outer s H args us vs Q E hg (hr.mono h)⟩

/-! ### the call -/
section
variable {X : Cx} {k : Nat} {f : Addr} {fd : FuncData} {ps : List Str} {p : DSp} {x : Str} {px pos : Pos} {e : Expr} {es : List Expr} {ta : TA}
theorem run_fnD {E : L2.St → XK} {pins : List (Addr × Obj)} {σ : L2.St} {H : Hp} {s : Shared} {Q : VK} {us : List Value} {vs : List V} (F : FnD X.prog X.w X.K X.mg X.base k f fd ps p) (hgd : X.A.guards = some []) (hr : Room k X.A) (hb : Binds X.K fd ps []) (hx : PassesAt (L2.CX X.prog X.w) X σ (E σ))
    (I : Inv X pins σ H s) (r : Vals vs us) (h : spOf X.K p vs H Q (E σ)) : wpAny (model X.prog X.w) X.A (call (.ref f) us) (EP X pins σ Q) X.xe s := by
  have n1 : us.length = ps.length := r.length.symm.trans (spOf.len F.len h)
  have bb : BindsTo s fd ⟨us, []⟩ (ps.zip us) := by
    have z := hb s us I.kIn (by simpa using n1)
    simpa using z
  refine wpAny_call (codeAny_mono (F.run X.A X.stack s H ⟨us, []⟩ us vs Q (E σ) hgd hr I.env0 bb r h) ?_)
  intro res s' got
  match res, got with
  | .error ex, got => exact hx pins H s ex s' I got
  | .ok (.ret u), got => exact I.after got
  | .ok .next, got => exact got.elim
  | .ok .brk, got => exact got.elim
  | .ok .cont, got => exact got.elim
theorem pe_callD {E : L2.St → XK} (F : FnD X.prog X.w X.K X.mg X.base k f fd ps p) (hgd : X.A.guards = some []) (hr : Room k X.A) (hg : Gl X x) (hm : X.mg x = some (.ref f)) (hk : PySem.W.keepIn X.K (.ref f) = true) (hb : Binds X.K fd ps [])
    (hx : ∀ σ, PassesAt (L2.CX X.prog X.w) X σ (E σ)) (ha : PA X (e :: es) ta) (hdb : (x == ("__debug__" : Str)) = false := by decide)
    (he : starEach (e :: es) X.env = (false, eval e X.env) :: starEach es X.env := by rfl) (hpl : (backTo pos (starEach es X.env)).any (·.1) = false := by rfl) :
    PE X (.Call (.Name x px) (e :: es) [] pos) (tCallS (spOf X.K p) E ta) :=
  ⟨fun pins s σ H Q I h => wpAny_Call_Name_kw (ld_glob I hg hm (PySem.W.callWith_K (h₀ := X.base) I.ok.mod.kin hk
    (thn (ha.run pos pins s σ H _ I h) fun us s1 ⟨vs, H1, I1, r, q⟩ => ⟨I1.kIn, run_fnD F hgd hr hb (hx σ) I1 r q⟩) he hpl) hdb)⟩

def valsFI {K : PySem.W.Frag} {w : Wd} {vs : List V} {ds : List PyData} (gh : Same w.G w.H) (hr : Reps K w.G vs ds) (P : Par) : FI K P ⟨w.G, w.H, fun _ => []⟩ (vs.map some) (ds.map SD.val) := by
  refine ⟨gh, by rw [List.length_map, List.length_map, hr.len], fun i s e => ?_, fun _ _ => rfl, fun i b hb => (nomatch hb), fun i j b _ hb => (nomatch hb)⟩
  rw [List.getElem?_map] at e
  cases q : ds[i]? with
  | none => rw [q] at e; cases e
  | some d =>
    rw [q] at e
    cases e
    obtain ⟨v, h1, h2⟩ := hr.get q
    exact ⟨rfl, v, by rw [List.getElem?_map, h1]; rfl, h2⟩
theorem lentOne_vals (ds : List PyData) : lentOne (ds.map SD.val) = true := by
  have h : (ds.map SD.val).all (fun s => match s with | .val _ => true | _ => false) = true := by
    rw [List.all_eq_true]
    intro s hs
    obtain ⟨d, _, rfl⟩ := List.mem_map.mp hs
    rfl
  cases ds with
  | nil => rfl
  | cons d ds => exact h

variable {C : DC X} {dr : TND}
/-- what comes back from a call: a datum -/
def retD (Q : R → DSt → Prop) (ρ : DSt) : Ret → Prop
  | .d x => Q (.d x) ρ
  | .n ds => Q (.d (.list ds)) ρ
def retN (Q : List PyData → DSt → Prop) (ρ : DSt) : Ret → Prop
  | .n ds => Q ds ρ
  | .d _ => False
def dCall (p : DSp) (W : WD) (dr : TND) : TED := fun ρ Q => dr ρ fun ds ρ1 => p (ds.map SD.val) (fun r _ => retD Q ρ1 r) (fun e _ => W e ρ1)
def nCall (p : DSp) (W : WD) (dr : TND) : TND := fun ρ Q => dr ρ fun ds ρ1 => p (ds.map SD.val) (fun r _ => retN Q ρ1 r) (fun e _ => W e ρ1)
/-- the caller's world behind a call that was lent nothing -/
theorem call_back {P : Par} {w1 w' : Wd} {σ : L2.St} {ρ : DSt} {Pc : Par} {vs : List V} {α' : List SD} (I1 : FI X.K P w1 σ ρ) (s : Stp ⟨w1.G, w1.H, fun _ => []⟩ w') (I' : FI X.K Pc w' (vs.map some) α') :
    FI X.K P ⟨w'.G, w'.H, w1.F⟩ σ ρ ∧ Stp w1 ⟨w'.G, w'.H, w1.F⟩ := by
  have no : ∀ (b : Addr) (i : Nat), b ∉ (fun _ => ([] : List Addr)) i := fun b i z => nomatch z
  refine ⟨⟨I'.gh, I1.len, fun i st e => (I1.ok i st e).go s.g fun b _ o h => s.h b o h (no b), I1.out, fun i b hb => ?_, I1.sep⟩, ⟨s.g, fun b h1 h2 _ => s.gf b h1 h2 (no b), fun b o h _ => s.h b o h (no b), s.t, fun i b hb => .inl hb⟩⟩
  obtain ⟨h1, h2⟩ := I1.foot i b hb
  exact ⟨s.gf b h2 h1 (no b), s.t b h2⟩
/-- a new list that came back -/
theorem back_new {P : Par} {w0 w1 : Wd} {σ : L2.St} {ρ : DSt} {w' : Wd} {a : Addr} {vs : List V} {ds : List PyData} (s0 : Stp w0 w1) (I2 : FI X.K P ⟨w'.G, w'.H, w1.F⟩ σ ρ) (I1 : FI X.K P w1 σ ρ) (hn : w1.H a = none) : w0.H a = none ∧ ∀ i, a ∉ w1.F i := by
  refine ⟨?_, fun i z => (I1.foot i a z).2 hn⟩
  cases e0 : w0.H a with
  | none => rfl
  | some o => exact absurd hn (s0.t a (by rw [e0]; exact fun z => nomatch z))
theorem call_core (ha : DA C (e :: es) ta dr) (w : Wd) (σ : L2.St) (ρ : DSt) (Q : VK) (fin : Ret → DSt → Prop) (hA : C.A w) (I : FI X.K C.P w σ ρ)
    (q : dr ρ fun ds ρ1 => p (ds.map SD.val) (fun r _ => fin r ρ1) (fun e _ => C.W e ρ1))
    (k : ∀ (v : V) (r : Ret) (w1 w' : Wd) (ρ1 : DSt), Stp w w1 → FI X.K C.P w1 σ ρ1 → FI X.K C.P ⟨w'.G, w'.H, w1.F⟩ σ ρ1 → Stp w1 ⟨w'.G, w'.H, w1.F⟩ → (match r with
      | .d x => Rep X.K w'.G v x
      | .n ds => ∃ (a : Addr) (vs : List V), v = .ref a ∧ w1.H a = none ∧ w'.G a = none ∧ w'.H a = some (.lst vs) ∧ Reps X.K w'.G vs ds) → fin r ρ1 → Q v w'.H) :
    tCallS (spOf X.K p) (WE C.WH) ta σ w.H Q := by
  refine ha.run w σ ρ _ _ hA I q fun vs ds w1 ρ1 s1 I1 R1 q1 => ?_
  refine ⟨⟨w1.G, w1.H, fun _ => []⟩, ds.map SD.val, _, _, rfl, valsFI I1.gh R1 _, lentOne_vals ds, q1, fun v r w' α' s' I' hr' q' => ?_, fun ex α' w' cls d s' I' hr' q' => ?_⟩
  · obtain ⟨I2, s2⟩ := call_back I1 s' I'
    refine k v r w1 w' ρ1 s1 I1 I2 s2 ?_ q'
    cases r with
    | d x => exact hr'
    | n xs =>
      obtain ⟨a, ws, rfl, h1, h2, _, h4, h5⟩ := hr'
      exact ⟨a, ws, rfl, h1, h2, h4, h5⟩
  · obtain ⟨I2, s2⟩ := call_back I1 s' I'
    exact C.hW ex ρ1 σ ⟨w'.G, w'.H, w1.F⟩ cls d (C.cl _ _ hA (s1.trans s2)) I2 hr' q'
theorem de_call (F : FnD X.prog X.w X.K X.mg X.base k f fd ps p) (hr : Room k X.A) (hg : Gl X x) (hm : X.mg x = some (.ref f)) (hk : PySem.W.keepIn X.K (.ref f) = true) (hb : Binds X.K fd ps [])
    (ha : DA C (e :: es) ta dr) (hdb : (x == ("__debug__" : Str)) = false := by decide) (he : starEach (e :: es) X.env = (false, eval e X.env) :: starEach es X.env := by rfl) (hpl : (backTo pos (starEach es X.env)).any (·.1) = false := by rfl) :
    DE C (.Call (.Name x px) (e :: es) [] pos) (tCallS (spOf X.K p) (WE C.WH) ta) (dCall p C.W dr) := by
  refine ⟨pe_callD F C.gd hr hg hm hk hb (fun σ => passAt C.tk σ) ha.pa hdb he hpl, fun w σ ρ Q QD hA I q kk => ?_⟩
  refine call_core ha w σ ρ Q (fun r ρ1 => retD QD ρ1 r) hA I q fun v r w1 w' ρ1 s1 I1 I2 s2 hv q' => ?_
  cases r with
  | d x => exact kk v (.d x) ⟨w'.G, w'.H, w1.F⟩ ρ1 (s1.trans s2) I2 hv q'
  | n xs =>
    obtain ⟨a, ws, rfl, h1, h2, h4, h5⟩ := hv
    obtain ⟨n0, nf⟩ := back_new (vs := ws) (ds := xs) s1 I2 I1 h1
    obtain ⟨I3, s3, r3⟩ := stay (s1.trans s2) I2 n0 h2 nf h4 h5
    exact kk (.ref a) (.d (.list xs)) ⟨upd w'.G a (.lst ws), w'.H, w1.F⟩ ρ1 s3 I3 r3 q'
theorem dn_call (F : FnD X.prog X.w X.K X.mg X.base k f fd ps p) (hr : Room k X.A) (hg : Gl X x) (hm : X.mg x = some (.ref f)) (hk : PySem.W.keepIn X.K (.ref f) = true) (hb : Binds X.K fd ps [])
    (ha : DA C (e :: es) ta dr) (hdb : (x == ("__debug__" : Str)) = false := by decide) (he : starEach (e :: es) X.env = (false, eval e X.env) :: starEach es X.env := by rfl) (hpl : (backTo pos (starEach es X.env)).any (·.1) = false := by rfl) :
    DN C (.Call (.Name x px) (e :: es) [] pos) (tCallS (spOf X.K p) (WE C.WH) ta) (nCall p C.W dr) := by
  refine ⟨pe_callD F C.gd hr hg hm hk hb (fun σ => passAt C.tk σ) ha.pa hdb he hpl, fun w σ ρ Q QD hA I q kk => ?_⟩
  refine call_core ha w σ ρ Q (fun r ρ1 => retN QD ρ1 r) hA I q fun v r w1 w' ρ1 s1 I1 I2 s2 hv q' => ?_
  cases r with
  | d x => exact (show False from q').elim
  | n xs =>
    obtain ⟨a, ws, rfl, h1, h2, h4, h5⟩ := hv
    obtain ⟨n0, nf⟩ := back_new (vs := ws) (ds := xs) s1 I2 I1 h1
    exact kk a ws xs ⟨w'.G, w'.H, w1.F⟩ ρ1 (s1.trans s2) I2 n0 h2 nf h4 h5 q'

/-! ### a call that is lent slot i -/
def lendK (ρ : DSt) (i : Nat) (k : SD → Prop) : Prop := match ρ[i]? with
  | some (.own _ ds) => k (.own true ds)
  | some (.res _ r) => k (.res true r)
  | _ => False
def backK (ρ : DSt) (i : Nat) (α : List SD) (k : DSt → Prop) : Prop := match ρ[i]?, α with
  | some (.own io _), .own true ds :: _ => k (ρ.set i (.own io ds))
  | some (.res io _), .res true r :: _ => k (ρ.set i (.res io r))
  | _, _ => False
def dCallL (p : DSp) (W : WD) (i : Nat) (dr : TND) : TED := fun ρ Q => dr ρ fun ds ρ1 => lendK ρ1 i fun s0 => p (s0 :: ds.map SD.val) (fun r α => backK ρ1 i α fun ρ2 => retD Q ρ2 r) (fun e α => backK ρ1 i α fun ρ2 => W e ρ2)
def nCallL (p : DSp) (W : WD) (i : Nat) (dr : TND) : TND := fun ρ Q => dr ρ fun ds ρ1 => lendK ρ1 i fun s0 => p (s0 :: ds.map SD.val) (fun r α => backK ρ1 i α fun ρ2 => retN Q ρ2 r) (fun e α => backK ρ1 i α fun ρ2 => W e ρ2)
theorem lendK_inv {ρ : DSt} {i : Nat} {k : SD → Prop} (h : lendK ρ i k) : (∃ io ds, ρ[i]? = some (.own io ds) ∧ k (.own true ds)) ∨ ∃ io r, ρ[i]? = some (.res io r) ∧ k (.res true r) := by
  unfold lendK at h
  split at h
  · exact .inl ⟨_, _, by assumption, h⟩
  · exact .inr ⟨_, _, by assumption, h⟩
  · exact h.elim
theorem backK_inv {ρ : DSt} {i : Nat} {α : List SD} {k : DSt → Prop} (h : backK ρ i α k) : (∃ io ds ds' r, ρ[i]? = some (.own io ds) ∧ α = .own true ds' :: r ∧ k (ρ.set i (.own io ds'))) ∨ ∃ io q q' r, ρ[i]? = some (.res io q) ∧ α = .res true q' :: r ∧ k (ρ.set i (.res io q')) := by
  unfold backK at h
  split at h
  · exact .inl ⟨_, _, _, _, by assumption, rfl, h⟩
  · exact .inr ⟨_, _, _, _, by assumption, rfl, h⟩
  · exact h.elim
/-- the lent slot as the callee's first argument -/
theorem lent_in {P : Par} {w1 : Wd} {σ : L2.St} {ρ : DSt} {i : Nat} {s0 s0' : SD} {v0 : V} {vs : List V} {ds : List PyData} (I1 : FI X.K P w1 σ ρ) (R1 : Reps X.K w1.G vs ds) (h0 : σ[i]? = some (some v0)) (hs : ρ[i]? = some s0)
    (hc : (∃ io xs, s0 = .own io xs ∧ s0' = .own true xs) ∨ ∃ io r, s0 = .res io r ∧ s0' = .res true r) :
    FI X.K (parOf (v0 :: vs) ⟨w1.G, w1.H, fun j => if j = 0 then w1.F i else []⟩) ⟨w1.G, w1.H, fun j => if j = 0 then w1.F i else []⟩ ((v0 :: vs).map some) (s0' :: ds.map SD.val) := by
  have f0 : ∀ j b, b ∈ (if j = 0 then w1.F i else ([] : List Addr)) → j = 0 ∧ b ∈ w1.F i := fun j b hb => by
    by_cases e : j = 0
    · rw [if_pos e] at hb; exact ⟨e, hb⟩
    · rw [if_neg e] at hb; cases hb
  refine ⟨I1.gh, by rw [List.length_map, List.length_cons, List.length_cons, List.length_map, R1.len], fun j s e => ?_, fun j hj => ?_, fun j b hb => I1.foot i b (f0 j b hb).2, fun j l b hjl hb hb' => hjl ((f0 j b hb).1.trans (f0 l b hb').1.symm)⟩
  · cases j with
    | zero =>
      cases e
      have ok := I1.ok i s0 hs
      rw [h0] at ok
      rcases hc with ⟨io, xs, rfl, rfl⟩ | ⟨io, r, rfl, rfl⟩
      · obtain ⟨a, ws, h1, h2, h3, h4, _⟩ := ok
        cases h1
        exact ⟨a, ws, rfl, h2, h3, h4, fun _ => rfl, fun z => nomatch z⟩
      · obtain ⟨a, h1, h2, _⟩ := ok
        cases h1
        exact ⟨a, rfl, h2, fun _ => rfl, fun z => nomatch z⟩
    | succ j =>
      have e : (ds.map SD.val)[j]? = some s := by simpa using e
      rw [List.getElem?_map] at e
      cases q : ds[j]? with
      | none => rw [q] at e; cases e
      | some d =>
        rw [q] at e
        cases e
        obtain ⟨v, h1, h2⟩ := R1.get q
        exact ⟨rfl, v, by simp [h1], h2⟩
  · show (if j = 0 then w1.F i else []) = []
    rw [if_neg (by intro z; subst z; simp at hj)]
/-- the caller's world behind a call that was lent slot i -/
theorem lent_back {C : DC X} {w1 w' : Wd} {σ : L2.St} {ρ : DSt} {i : Nat} {s1 s1' s2 : SD} {v0 : V} {vs : List V} {α : List SD} (hA : C.A w1) (I1 : FI X.K C.P w1 σ ρ) (s : Stp ⟨w1.G, w1.H, fun j => if j = 0 then w1.F i else []⟩ w') {Pc : Par} (hP : Pc = parOf (v0 :: vs) ⟨w1.G, w1.H, fun j => if j = 0 then w1.F i else []⟩)
    (I' : FI X.K Pc w' ((v0 :: vs).map some) (s1' :: α)) (h0 : σ[i]? = some (some v0)) (hs : ρ[i]? = some s1)
    (hc : (∃ io xs ys, s1 = .own io xs ∧ s1' = .own true ys ∧ s2 = .own io ys) ∨ ∃ io r r', s1 = .res io r ∧ s1' = .res true r' ∧ s2 = .res io r') :
    FI X.K C.P ⟨w'.G, w'.H, fun j => if j = i then w'.F 0 else w1.F j⟩ σ (ρ.set i s2) ∧ Stp w1 ⟨w'.G, w'.H, fun j => if j = i then w'.F 0 else w1.F j⟩ := by
  have hlt : i < ρ.length := (List.getElem?_eq_some_iff.mp hs).1
  have fc : ∀ b, (∀ j, b ∉ w1.F j) → ∀ j, b ∉ (if j = 0 then w1.F i else ([] : List Addr)) := fun b n j z => by
    by_cases e : j = 0
    · rw [if_pos e] at z; exact n i z
    · rw [if_neg e] at z; cases z
  have fo : ∀ l b, l ≠ i → b ∈ w1.F l → ∀ j, b ∉ (if j = 0 then w1.F i else ([] : List Addr)) := fun l b n hb j z => by
    by_cases e : j = 0
    · rw [if_pos e] at z; exact I1.sep l i b n hb z
    · rw [if_neg e] at z; cases z
  have f0 : ∀ b, b ∈ w'.F 0 → b ∈ w1.F i ∨ w1.H b = none := fun b hb => by
    rcases s.f 0 b hb with q | q
    · have q : b ∈ (if (0 : Nat) = 0 then w1.F i else ([] : List Addr)) := q
      rw [if_pos rfl] at q; exact .inl q
    · exact .inr q
  have sub : ∀ j b, b ∈ (if j = i then w'.F 0 else w1.F j) → (j = i ∧ b ∈ w'.F 0) ∨ (j ≠ i ∧ b ∈ w1.F j) := fun j b hb => by
    by_cases e : j = i
    · rw [if_pos e] at hb; exact .inl ⟨e, hb⟩
    · rw [if_neg e] at hb; exact .inr ⟨e, hb⟩
  refine ⟨⟨I'.gh, by rw [List.length_set]; exact I1.len, fun j st e => ?_, fun j hj => ?_, fun j b hb => ?_, fun j l b hjl hb hb' => ?_⟩, ⟨s.g, fun b h1 h2 h3 => s.gf b h1 h2 (fc b h3), fun b o h1 h2 => s.h b o h1 (fc b h2), s.t, fun j b hb => ?_⟩⟩
  · by_cases hj : i = j
    · subst hj
      rw [List.getElem?_set_self hlt] at e
      cases e
      show slotOk X.K C.P.σ0[i]? C.P.N _ (if i = i then w'.F 0 else w1.F i) σ[i]? _
      rw [if_pos rfl]
      have ok := I1.ok i _ hs
      have ok' := I'.ok 0 s1' rfl
      rcases hc with ⟨io, xs, ys, rfl, rfl, rfl⟩ | ⟨io, r, r', rfl, rfl, rfl⟩
      · obtain ⟨a, ws, h1, h2, h3, h4, h5, h6⟩ := ok
        obtain ⟨a', ws', g1, g2, g3, g4, _⟩ := ok'
        rw [h0] at h1
        cases h1
        cases g1
        exact ⟨a, ws', h0, g2, g3, g4, h5, h6⟩
      · obtain ⟨a, h1, h2, h5, h6⟩ := ok
        obtain ⟨a', g1, g2, _⟩ := ok'
        rw [h0] at h1
        cases h1
        cases g1
        refine ⟨a, h0, g2, h5, fun z b hb => ?_⟩
        rcases f0 b hb with q | q
        · exact h6 z b q
        · exact C.nw w1 b hA q
    · rw [List.getElem?_set_ne hj] at e
      show slotOk X.K C.P.σ0[j]? C.P.N _ (if j = i then w'.F 0 else w1.F j) σ[j]? st
      rw [if_neg (Ne.symm hj)]
      exact (I1.ok j st e).go s.g fun b hb o h => s.h b o h (fo j b (Ne.symm hj) hb)
  · have hj : ρ.length ≤ j := by rw [← List.length_set (as := ρ)]; exact hj
    show (if j = i then w'.F 0 else w1.F j) = []
    rw [if_neg (by omega)]
    exact I1.out j hj
  · rcases sub j b hb with ⟨_, q⟩ | ⟨e, q⟩
    · exact I'.foot 0 b q
    · obtain ⟨h1, h2⟩ := I1.foot j b q
      exact ⟨s.gf b h2 h1 (fo j b e q), s.t b h2⟩
  · rcases sub j b hb with ⟨e1, q⟩ | ⟨e1, q⟩
    · rcases sub l b hb' with ⟨e2, _⟩ | ⟨e2, q'⟩
      · exact hjl (e1.trans e2.symm)
      · rcases f0 b q with z | z
        · exact I1.sep l i b e2 q' z
        · exact (I1.foot l b q').2 z
    · rcases sub l b hb' with ⟨e2, q'⟩ | ⟨e2, q'⟩
      · rcases f0 b q' with z | z
        · exact I1.sep j i b e1 q z
        · exact (I1.foot j b q).2 z
      · exact I1.sep j l b hjl q q'
  · rcases sub j b hb with ⟨e1, q⟩ | ⟨_, q⟩
    · rw [e1]; exact f0 b q
    · exact .inl q
theorem callL_core {i : Nat} (ha : DA C es ta dr) (w : Wd) (σ : L2.St) (ρ : DSt) (Q : VK) (fin : Ret → DSt → Prop) (hA : C.A w) (I : FI X.K C.P w σ ρ) (hv : ∃ v0, σ[i]? = some (some v0))
    (q : dr ρ fun ds ρ1 => lendK ρ1 i fun s0 => p (s0 :: ds.map SD.val) (fun r α => backK ρ1 i α fun ρ2 => fin r ρ2) (fun e α => backK ρ1 i α fun ρ2 => C.W e ρ2))
    (k : ∀ (v : V) (r : Ret) (w1 w2 : Wd) (ρ2 : DSt), Stp w w1 → FI X.K C.P w2 σ ρ2 → Stp w1 w2 → (match r with
      | .d x => Rep X.K w2.G v x
      | .n ds => ∃ (a : Addr) (vs : List V), v = .ref a ∧ w1.H a = none ∧ w2.G a = none ∧ (∀ j, a ∉ w2.F j) ∧ w2.H a = some (.lst vs) ∧ Reps X.K w2.G vs ds) → fin r ρ2 → Q v w2.H) :
    tCallS (spOf X.K p) (WE C.WH) (tCons (tVar i) ta) σ w.H Q := by
  obtain ⟨v0, h0⟩ := hv
  refine ⟨v0, h0, ha.run w σ ρ _ _ hA I q fun vs ds w1 ρ1 s1 I1 R1 q1 => ?_⟩
  have hA1 := C.cl _ _ hA s1
  obtain ⟨s0, s0', hs, hc, q2⟩ : ∃ s0 s0', ρ1[i]? = some s0 ∧ ((∃ io xs, s0 = .own io xs ∧ s0' = .own true xs) ∨ ∃ io r, s0 = .res io r ∧ s0' = .res true r) ∧
      p (s0' :: ds.map SD.val) (fun r α => backK ρ1 i α fun ρ2 => fin r ρ2) (fun e α => backK ρ1 i α fun ρ2 => C.W e ρ2) := by
    rcases lendK_inv q1 with ⟨io, xs, e, q2⟩ | ⟨io, r, e, q2⟩
    · exact ⟨_, _, e, .inl ⟨io, xs, rfl, rfl⟩, q2⟩
    · exact ⟨_, _, e, .inr ⟨io, r, rfl, rfl⟩, q2⟩
  have lo : lentOne (s0' :: ds.map SD.val) = true := by
    have h : (ds.map SD.val).all (fun s => match s with | .val _ => true | _ => false) = true := by
      rw [List.all_eq_true]
      intro s hs
      obtain ⟨d, _, rfl⟩ := List.mem_map.mp hs
      rfl
    rcases hc with ⟨io, xs, rfl, rfl⟩ | ⟨io, r, rfl, rfl⟩ <;> exact h
  -- behind the call: the slot as the callee left it
  have aft : ∀ (w' : Wd) (α' : List SD) (g : DSt → Prop), Stp ⟨w1.G, w1.H, fun j => if j = 0 then w1.F i else []⟩ w' → FI X.K (parOf (v0 :: vs) ⟨w1.G, w1.H, fun j => if j = 0 then w1.F i else []⟩) w' ((v0 :: vs).map some) α' → backK ρ1 i α' g →
      ∃ ρ2, FI X.K C.P ⟨w'.G, w'.H, fun j => if j = i then w'.F 0 else w1.F j⟩ σ ρ2 ∧ Stp w1 ⟨w'.G, w'.H, fun j => if j = i then w'.F 0 else w1.F j⟩ ∧ g ρ2 := by
    intro w' α' g s' I' hb
    rcases backK_inv hb with ⟨io, xs, ys, r, e, rfl, hg⟩ | ⟨io, z, z', r, e, rfl, hg⟩
    · obtain ⟨a1, a2⟩ := lent_back (s2 := .own io ys) hA1 I1 s' rfl I' h0 e (.inl ⟨io, xs, ys, rfl, rfl, rfl⟩)
      exact ⟨_, a1, a2, hg⟩
    · obtain ⟨a1, a2⟩ := lent_back (s2 := .res io z') hA1 I1 s' rfl I' h0 e (.inr ⟨io, z, z', rfl, rfl, rfl⟩)
      exact ⟨_, a1, a2, hg⟩
  refine ⟨⟨w1.G, w1.H, fun j => if j = 0 then w1.F i else []⟩, s0' :: ds.map SD.val, _, _, rfl, lent_in I1 R1 h0 hs hc, lo, q2, fun v r w' α' s' I' hr' q' => ?_, fun ex α' w' cls d s' I' hr' q' => ?_⟩
  · obtain ⟨ρ2, I2, s2, q3⟩ := aft w' α' _ s' I' q'
    refine k v r w1 ⟨w'.G, w'.H, fun j => if j = i then w'.F 0 else w1.F j⟩ ρ2 s1 I2 s2 ?_ q3
    cases r with
    | d x => exact hr'
    | n xs =>
      obtain ⟨a, ws, rfl, h1, h2, h3, h4, h5⟩ := hr'
      refine ⟨a, ws, rfl, h1, h2, fun j hj => ?_, h4, h5⟩
      have hj : a ∈ (if j = i then w'.F 0 else w1.F j) := hj
      by_cases e : j = i
      · rw [if_pos e] at hj; exact h3 0 hj
      · rw [if_neg e] at hj; exact (I1.foot j a hj).2 h1
  · obtain ⟨ρ2, I2, s2, q3⟩ := aft w' α' _ s' I' q'
    exact C.hW ex ρ2 σ ⟨w'.G, w'.H, fun j => if j = i then w'.F 0 else w1.F j⟩ cls d (C.cl _ _ hA1 s2) I2 hr' q3
theorem slot_lent {K : PySem.W.Frag} {P : Par} {w : Wd} {σ : L2.St} {ρ : DSt} {i : Nat} {s : SD} (I : FI K P w σ ρ) (e : ρ[i]? = some s) (h : s ≠ .no) : ∃ v, σ[i]? = some (some v) := by
  have ok := I.ok i s e
  cases s with
  | no => exact absurd rfl h
  | val d => exact ⟨_, ok.2.choose_spec.1⟩
  | own io ds => exact ⟨_, ok.choose_spec.choose_spec.1⟩
  | res io r => exact ⟨_, ok.choose_spec.1⟩
def isLent (ρ : DSt) (i : Nat) : Prop := match ρ[i]? with
  | some (.own _ _) => True
  | some (.res _ _) => True
  | _ => False
theorem isLent_v {K : PySem.W.Frag} {P : Par} {w : Wd} {σ : L2.St} {ρ : DSt} {i : Nat} (I : FI K P w σ ρ) (h : isLent ρ i) : ∃ v, σ[i]? = some (some v) := by
  unfold isLent at h
  cases e : ρ[i]? with
  | none => rw [e] at h; exact h.elim
  | some s =>
    rw [e] at h
    refine slot_lent I e ?_
    rintro rfl
    exact h
def withLent (i : Nat) (t : TED) : TED := fun ρ Q => isLent ρ i ∧ t ρ Q
def withLentN (i : Nat) (t : TND) : TND := fun ρ Q => isLent ρ i ∧ t ρ Q
variable {y : Str} {py : Pos}
theorem de_callL (i : Nat) (F : FnD X.prog X.w X.K X.mg X.base k f fd ps p) (hr : Room k X.A) (hg : Gl X x) (hm : X.mg x = some (.ref f)) (hk : PySem.W.keepIn X.K (.ref f) = true) (hb : Binds X.K fd ps [])
    (ha : DA C es ta dr) (hN : X.N[i]? = some y := by rfl) (hv : Vis X.env.scope y := by first | exact Or.inl rfl | exact Or.inr (Or.inl rfl) | exact Or.inr (Or.inr rfl)) (hd : (y == ("__debug__" : Str)) = false := by decide) (hcd : (y == ("__classdict__" : Str)) = false := by decide)
    (hdb : (x == ("__debug__" : Str)) = false := by decide) (he : starEach (.Name y py :: es) X.env = (false, eval (.Name y py) X.env) :: starEach es X.env := by rfl) (hpl : (backTo pos (starEach es X.env)).any (·.1) = false := by rfl) :
    DE C (.Call (.Name x px) (.Name y py :: es) [] pos) (tCallS (spOf X.K p) (WE C.WH) (tCons (tVar i) ta)) (withLent i (dCallL p C.W i dr)) := by
  refine ⟨pe_callD F C.gd hr hg hm hk hb (fun σ => passAt C.tk σ) (pa_cons (pe_var hN hv hd hcd) ha.pa he) hdb he hpl, fun w σ ρ Q QD hA I q kk => ?_⟩
  refine callL_core ha w σ ρ Q (fun r ρ1 => retD QD ρ1 r) hA I (isLent_v I q.1) q.2 fun v r w1 w2 ρ2 s1 I2 s2 hv' q' => ?_
  cases r with
  | d x => exact kk v (.d x) w2 ρ2 (s1.trans s2) I2 hv' q'
  | n xs =>
    obtain ⟨a, ws, rfl, h1, h2, h3, h4, h5⟩ := hv'
    have n0 : w.H a = none := by
      cases e0 : w.H a with
      | none => rfl
      | some o => exact absurd h1 (s1.t a (by rw [e0]; exact fun z => nomatch z))
    obtain ⟨I3, s3, r3⟩ := stay (s1.trans s2) I2 n0 h2 h3 h4 h5
    exact kk (.ref a) (.d (.list xs)) ⟨upd w2.G a (.lst ws), w2.H, w2.F⟩ ρ2 s3 I3 r3 q'
theorem dn_callL (i : Nat) (F : FnD X.prog X.w X.K X.mg X.base k f fd ps p) (hr : Room k X.A) (hg : Gl X x) (hm : X.mg x = some (.ref f)) (hk : PySem.W.keepIn X.K (.ref f) = true) (hb : Binds X.K fd ps [])
    (ha : DA C es ta dr) (hN : X.N[i]? = some y := by rfl) (hv : Vis X.env.scope y := by first | exact Or.inl rfl | exact Or.inr (Or.inl rfl) | exact Or.inr (Or.inr rfl)) (hd : (y == ("__debug__" : Str)) = false := by decide) (hcd : (y == ("__classdict__" : Str)) = false := by decide)
    (hdb : (x == ("__debug__" : Str)) = false := by decide) (he : starEach (.Name y py :: es) X.env = (false, eval (.Name y py) X.env) :: starEach es X.env := by rfl) (hpl : (backTo pos (starEach es X.env)).any (·.1) = false := by rfl) :
    DN C (.Call (.Name x px) (.Name y py :: es) [] pos) (tCallS (spOf X.K p) (WE C.WH) (tCons (tVar i) ta)) (withLentN i (nCallL p C.W i dr)) := by
  refine ⟨pe_callD F C.gd hr hg hm hk hb (fun σ => passAt C.tk σ) (pa_cons (pe_var hN hv hd hcd) ha.pa he) hdb he hpl, fun w σ ρ Q QD hA I q kk => ?_⟩
  refine callL_core ha w σ ρ Q (fun r ρ1 => retN QD ρ1 r) hA I (isLent_v I q.1) q.2 fun v r w1 w2 ρ2 s1 I2 s2 hv' q' => ?_
  cases r with
  | d x => exact (show False from q').elim
  | n xs =>
    obtain ⟨a, ws, rfl, h1, h2, h3, h4, h5⟩ := hv'
    have n0 : w.H a = none := by
      cases e0 : w.H a with
      | none => rfl
      | some o => exact absurd h1 (s1.t a (by rw [e0]; exact fun z => nomatch z))
    exact kk a ws xs w2 ρ2 (s1.trans s2) I2 n0 h2 h3 h4 h5 q'
end

/-! ### the body -/
/-- what goes out by the arguments -/
def outK (α : List SD) (ρ : DSt) (k : List SD → Prop) : Prop := match α with
  | .own _ _ :: r => (match ρ with | .own true ds :: _ => k (.own true ds :: r) | _ => False)
  | .res _ _ :: r => (match ρ with | .res true q :: _ => k (.res true q :: r) | _ => False)
  | l => k l
/-- the slots at the entry -/
def startD (n : Nat) (α : List SD) : DSt := α ++ List.replicate (n - α.length) .no
theorem fi_start {K : PySem.W.Frag} {w : Wd} {vs : List V} {α : List SD} {P : Par} (N : List Str) (I : FI K P w (vs.map some) α) (hP : P.σ0 = vs.map some) : FI K ⟨start N vs, P.N⟩ w (start N vs) (startD N.length α) := by
  have hl : vs.length = α.length := by have := I.len; rwa [List.length_map] at this
  have e1 : ∀ i, i < α.length → (start N vs)[i]? = (vs.map some)[i]? := fun i hi => by
    unfold L2.start
    rw [List.getElem?_append_left (by rw [List.length_map, hl]; exact hi)]
  refine ⟨I.gh, ?_, fun i s e => ?_, fun i hi => I.out i (Nat.le_trans ?_ hi), I.foot, I.sep⟩
  · unfold L2.start startD
    rw [List.length_append, List.length_append, List.length_map, List.length_replicate, List.length_replicate, hl]
  · by_cases hi : i < α.length
    · have e : α[i]? = some s := by
        unfold startD at e
        rw [List.getElem?_append_left hi] at e; exact e
      have ok := I.ok i s e
      show slotOk K (start N vs)[i]? P.N w (w.F i) (start N vs)[i]? s
      rw [hP] at ok
      rw [e1 i hi]
      exact ok
    · unfold startD at e
      rw [List.getElem?_append_right (by omega), List.getElem?_replicate] at e
      split at e
      · cases e
        exact I.out i (by omega)
      · cases e
  · unfold startD
    rw [List.length_append]
    omega
/-- the arguments' tie at the end -/
theorem fi_end {K : PySem.W.Frag} {w w' : Wd} {vs : List V} {α : List SD} {P : Par} {N : List Str} {σ' : L2.St} {ρ' : DSt} {k : List SD → Prop} (I : FI K P w (vs.map some) α) (hP : P.σ0 = vs.map some) (hlo : lentOne α = true) (s : Stp w w') (I' : FI K ⟨start N vs, P.N⟩ w' σ' ρ') (h : outK α ρ' k) :
    ∃ α' w'', w''.G = w'.G ∧ w''.H = w'.H ∧ (∀ i b, b ∈ w''.F i → b ∈ w'.F i) ∧ FI K P w'' (vs.map some) α' ∧ Stp w w'' ∧ k α' := by
  have hl : vs.length = α.length := by have := I.len; rwa [List.length_map] at this
  -- without a lent argument
  have plain : (∀ st ∈ α, ∃ d, st = .val d) → FI K P ⟨w'.G, w'.H, fun _ => []⟩ (vs.map some) α ∧ Stp w ⟨w'.G, w'.H, fun _ => []⟩ := fun hv => by
    refine ⟨⟨I'.gh, I.len, fun i st e => ?_, fun _ _ => rfl, fun i b hb => (nomatch hb), fun i j b _ hb => (nomatch hb)⟩, ⟨s.g, s.gf, s.h, s.t, fun i b hb => (nomatch hb)⟩⟩
    obtain ⟨d, rfl⟩ := hv st (List.mem_of_getElem? e)
    obtain ⟨_, u, h1, h2⟩ := I.ok i _ e
    exact ⟨rfl, u, h1, rep_mono s.g _ _ h2⟩
  -- with one
  have lent : ∀ (s0 s1 : SD) (r : List SD) (ρr : DSt), α = s0 :: r → ρ' = s1 :: ρr → (∀ st ∈ r, ∃ d, st = .val d) → ((∃ io xs ys, s0 = .own io xs ∧ s1 = .own true ys) ∨ ∃ io q q', s0 = .res io q ∧ s1 = .res true q') →
      FI K P ⟨w'.G, w'.H, fun i => if i = 0 then w'.F 0 else []⟩ (vs.map some) (s1 :: r) ∧ Stp w ⟨w'.G, w'.H, fun i => if i = 0 then w'.F 0 else []⟩ := by
    intro s0 s1 r ρr ea er hv hc
    subst ea er
    have f0 : ∀ j b, b ∈ (if j = 0 then w'.F 0 else ([] : List Addr)) → j = 0 ∧ b ∈ w'.F 0 := fun j b hb => by
      by_cases e : j = 0
      · rw [if_pos e] at hb; exact ⟨e, hb⟩
      · rw [if_neg e] at hb; cases hb
    refine ⟨⟨I'.gh, I.len, fun i st e => ?_, fun i hi => ?_, fun i b hb => I'.foot 0 b (f0 i b hb).2, fun i j b hij hb hb' => hij ((f0 i b hb).1.trans (f0 j b hb').1.symm)⟩, ⟨s.g, s.gf, s.h, s.t, fun i b hb => ?_⟩⟩
    · cases i with
      | zero =>
        cases e
        have ok' := I'.ok 0 s1 rfl
        show slotOk K P.σ0[0]? P.N _ (w'.F 0) (vs.map some)[0]? s1
        cases vs with
        | nil => cases hl
        | cons v0 vr =>
          have e0 : (start N (v0 :: vr))[0]? = some (some v0) := rfl
          have ep : P.σ0[0]? = some (some v0) := by rw [hP]; rfl
          rcases hc with ⟨io, xs, ys, rfl, rfl⟩ | ⟨io, q, q', rfl, rfl⟩
          · obtain ⟨a, ws, h1, h2, h3, h4, h5, _⟩ := ok'
            have h5 := h5 rfl
            rw [e0] at h5
            cases h5
            exact ⟨a, ws, rfl, h2, h3, h4, fun _ => ep, fun z => nomatch z⟩
          · obtain ⟨a, h1, h2, h5, _⟩ := ok'
            have h5 := h5 rfl
            rw [e0] at h5
            cases h5
            exact ⟨a, rfl, h2, fun _ => ep, fun z => nomatch z⟩
      | succ i =>
        have e' : r[i]? = some st := by simpa using e
        obtain ⟨d, rfl⟩ := hv st (List.mem_of_getElem? e')
        obtain ⟨_, u, h1, h2⟩ := I.ok (i + 1) (.val d) (by simpa using e')
        exact ⟨rfl, u, h1, rep_mono s.g _ _ h2⟩
    · show (if i = 0 then w'.F 0 else []) = []
      rw [if_neg (by intro z; subst z; simp at hi)]
    · obtain ⟨rfl, q⟩ := f0 i b hb
      exact s.f 0 b q
  have vals : ∀ r : List SD, (r.all fun s => match s with | .val _ => true | _ => false) = true → ∀ st ∈ r, ∃ d, st = .val d := fun r hr st hm => by
    have z := List.all_eq_true.mp hr st hm
    cases st with
    | val d => exact ⟨d, rfl⟩
    | _ => cases z
  cases α with
  | nil => exact ⟨[], ⟨w'.G, w'.H, fun _ => []⟩, rfl, rfl, (fun i b hb => nomatch (show b ∈ ([] : List Addr) from hb)), (plain fun st hm => (nomatch hm)).1, (plain fun st hm => (nomatch hm)).2, h⟩
  | cons s0 r =>
    cases s0 with
    | no => cases hlo
    | val d =>
      have hv := vals (.val d :: r) hlo
      exact ⟨_, ⟨w'.G, w'.H, fun _ => []⟩, rfl, rfl, (fun i b hb => nomatch (show b ∈ ([] : List Addr) from hb)), (plain hv).1, (plain hv).2, h⟩
    | own io xs =>
      have hv := vals r (Bool.and_eq_true_iff.mp hlo).2
      cases ρ' with
      | nil => exact (show False from h).elim
      | cons s1 ρr =>
        cases s1 with
        | no => exact (show False from h).elim
        | val _ => exact (show False from h).elim
        | res _ _ => exact (show False from h).elim
        | own io' ys =>
          cases io' with
          | false => exact (show False from h).elim
          | true =>
            obtain ⟨h1, h2⟩ := lent _ _ r ρr rfl rfl hv (.inl ⟨io, xs, ys, rfl, rfl⟩)
            refine ⟨_, ⟨w'.G, w'.H, fun i => if i = 0 then w'.F 0 else []⟩, rfl, rfl, fun i b hb => ?_, h1, h2, h⟩
            have hb : b ∈ (if i = 0 then w'.F 0 else ([] : List Addr)) := hb
            by_cases e : i = 0
            · rw [if_pos e] at hb; rw [e]; exact hb
            · rw [if_neg e] at hb; cases hb
    | res io q =>
      have hv := vals r (Bool.and_eq_true_iff.mp hlo).2
      cases ρ' with
      | nil => exact (show False from h).elim
      | cons s1 ρr =>
        cases s1 with
        | no => exact (show False from h).elim
        | val _ => exact (show False from h).elim
        | own _ _ => exact (show False from h).elim
        | res io' q' =>
          cases io' with
          | false => exact (show False from h).elim
          | true =>
            obtain ⟨h1, h2⟩ := lent _ _ r ρr rfl rfl hv (.inr ⟨io, q, q', rfl, rfl⟩)
            refine ⟨_, ⟨w'.G, w'.H, fun i => if i = 0 then w'.F 0 else []⟩, rfl, rfl, fun i b hb => ?_, h1, h2, h⟩
            have hb : b ∈ (if i = 0 then w'.F 0 else ([] : List Addr)) := hb
            by_cases e : i = 0
            · rw [if_pos e] at hb; rw [e]; exact hb
            · rw [if_neg e] at hb; cases hb

/-- THE RULE: a def by its body's derivation and that derivation's reading -/
theorem fnd_of {P : Program} {w : World} {K : PySem.W.Frag} {mg : Str → Option Value} {base : Heap} {k : Nat} {f : Addr} {name qual : Str} {params : Arguments} {body : List Stmt} {scope : Scope} {dV kV doc pm cdv ct oc : Value} {an od : Option Addr}
    {osl : Array (Option Value)} {N ps : List Str} {p : DSp} (lk : K.lookup f = some ⟨oc, od, .func (PySem.W.fnOf name qual params body scope dV kV doc pm an cdv ct), osl⟩) (hcd : PySem.W.codeIn K cdv qual = true) (S : FnScope N ps scope)
    (len : ∀ α QD ED, p α QD ED → α.length = ps.length)
    (hbody : ∀ (A : Around) (outer : List Env) (s : Shared) (H : Hp) (E : XK) (C : DC (cxOf (L2.CX P w) P w K mg base N qual scope f cdv A outer s H E)) (α : List SD) (QD : Ret → List SD → Prop) (ED : Exd → List SD → Prop),
      Room k (A.deeper (envOfC qual scope s.heap.objs.size f cdv)) → C.W = (fun e ρ => outK α ρ fun α' => ED e α') → p α QD ED →
      ∃ ts t, DSs C body ts t ∧ t { nx := fun ρ => outK α ρ fun α' => QD (.d .none) α', rt := fun r ρ => outK α ρ fun α' => QD r α' } (startD N.length α)) :
    FnD P w K mg base (k + 1) f (PySem.W.fnOf name qual params body scope dV kV doc pm an cdv ct) ps p := by
  refine ⟨len, fun A outer s H args us vs Q E hgd hr e0 hb r hsp => ?_⟩
  have hl := spOf.len len hsp
  obtain ⟨wd, α, QD, ED, eH, I0, hlo, hp, hret, hexc⟩ := hsp
  have kin0 : K.In s.heap := PySem.W.Frag.In.keeps e0.mod.kin fun c u q => (e0.bs c u q).1
  have lim0 : s.heap.NoLimit := Heap.NoLimit.keeps e0.mod.nolimit fun c u q => (e0.bs c u q).1
  have kinds : ∀ y ∈ ps.zip us, scope.names.lookup y.1 = some .local ∨ (scope.names.lookup y.1 = some .cell ∧ ((cellsFrom (s.heap.objs.size + 1) scope.names []).lookup y.1).isSome = true) := fun ⟨n, v⟩ hy =>
    (S.par n (List.of_mem_zip hy).1).imp id fun c => ⟨c, PySem.W.cellsFrom_some _ _ _ (.inl c)⟩
  let C : DC (cxOf (L2.CX P w) P w K mg base N qual scope f cdv A outer s H E) :=
    { P := ⟨start N vs, (parOf vs wd).N⟩, A := fun w' => Stp wd w', cl := fun _ _ a b => a.trans b,
      nw := fun w' q a e => by
        show wd.H q = none
        cases z : wd.H q with
        | none => rfl
        | some o => exact absurd e (a.t q (by rw [z]; exact fun z => nomatch z)),
      gd := hgd, calm := rfl, nd := S.nd, un := (by have := (hr.deeper (envOfC qual scope s.heap.objs.size f cdv)).un; show (A.deeper (envOfC qual scope s.heap.objs.size f cdv)).units + 100 < _; omega),
      W := fun e ρ => outK α ρ fun α' => ED e α', WH := fun cls d _ H => E cls d H, tk := takes_of rfl rfl rfl rfl,
      hW := fun e ρ σ w' cls d a I re h => by
        obtain ⟨α', w'', g1, g2, _, I2, s2, h2⟩ := fi_end (P := parOf vs wd) (N := N) I0 rfl hlo a I h
        have z := hexc e α' w'' cls d s2 I2 ⟨re.1, by rw [g1]; exact re.2⟩ h2
        rw [g2] at z
        exact z }
  obtain ⟨ts, t, hd, ht⟩ := hbody A outer s H E C α QD ED (hr.deeper _) rfl hp
  refine codeAny_call_function hr.depth (kin0 _ _ lk) rfl S.co S.gen rfl (PySem.W.codeRec_of kin0 hcd) (hb _ _ _ _ ?_)
  refine wpAny_newFunctionEnv_cells S.kind kinds fun env henv s1 x => ?_
  subst henv
  refine ⟨lim0.keeps x.toInCall.keep, codeAny_func ?_⟩
  have J0 : Inv (cxOf (L2.CX P w) P w K mg base N qual scope f cdv A outer s H E) [] (start N vs) H s1 := inv_start S hr.hd e0 hl r x
  -- the ends
  have ends : EndsOk C wd { nx := fun _ H' => Q .non H', rt := Q } { nx := fun ρ => outK α ρ fun α' => QD (.d .none) α', rt := fun r ρ => outK α ρ fun α' => QD r α' } := by
    have one : ∀ v r w' σ' ρ', Stp wd w' → FI K C.P w' σ' ρ' → RepRet K C.P.N w' v r → outK α ρ' (fun α' => QD r α') → Q v w'.H := by
      intro v r w' σ' ρ' s' I' hr' h
      obtain ⟨α', w'', g1, g2, g3, I2, s2, h2⟩ := fi_end (P := parOf vs wd) (N := N) I0 rfl hlo s' I' h
      have rr : RepRet K (parOf vs wd).N w'' v r := by
        cases r with
        | d y =>
          show Rep K w''.G v y
          rw [g1]; exact hr'
        | n ds =>
          obtain ⟨a, ws, h1, h3, h4, h5, h6, h7⟩ := hr'
          exact ⟨a, ws, h1, h3, by rw [g1]; exact h4, fun i z => h5 i (g3 i a z), by rw [g2]; exact h6, by rw [g1]; exact h7⟩
      have z := hret v r w'' α' s2 I2 rr h2
      rw [g2] at z
      exact z
    exact ⟨fun w' σ' ρ' s' I' h => one .non (.d .none) w' σ' ρ' s' I' .non h, one, fun _ _ _ _ _ h => h.elim, fun _ _ _ _ _ h => h.elim⟩
  have go := hd.run wd (start N vs) (startD N.length α) _ _ (Stp.refl wd) (fi_start N I0 rfl) ht ends
  rw [eH] at go
  refine wpAny_mono (hd.pss.run [] s1 (start N vs) H _ J0 go) ?_ fun _ _ z => z
  intro fl s' got
  have fin : ∀ {σ' : L2.St} {H' : Hp} {v : V} {u : Value}, Inv (cxOf (L2.CX P w) P w K mg base N qual scope f cdv A outer s H E) [] σ' H' s' → RelV v u → Q v H' → CE outer P w H s Q u s' :=
    fun J rv q => ⟨_, _, J.os, J.bare, J.base, J.hok, rv, q⟩
  match fl, got with
  | .ret u, ⟨v, σ', H', J, rv, q⟩ => exact fin J rv q
  | .next, ⟨σ', H', J, q⟩ => exact fin (v := V.non) (u := Value.none) J rfl q
  | .brk, ⟨_, _, _, q⟩ => exact q.elim
  | .cont, ⟨_, _, _, q⟩ => exact q.elim
end DL

end
section
set_option maxHeartbeats 4000000
/-! DLE: more of expressions and statements over data. -/
namespace DL
open PySem PySem.Spec L2
section
variable {X : Cx} {C : DC X} {a b c e : Expr} {ta tb tc te : TE} {da db dc de : TED} {pos : Pos} {es : List Expr} {tr : TA} {dr : TND}

theorem opr_or {f : Value → Value → Sem Value} {r r' : R2} (h : OpR X f r) (h' : OpR X f r') : OpR X f (fun x y H Q => r x y H Q ∨ r' x y H Q) := by
  intro pins s σ H x y v u Q I rx ry q
  rcases q with q | q
  · exact h pins s σ H x y v u Q I rx ry q
  · exact h' pins s σ H x y v u Q I rx ry q

/-! ### + of ints, texts, tuples, lists -/
def rAddU (K : PySem.W.Frag) : R2 := fun x y H Q => rI0 (fun i j => .int (i + j)) x y H Q ∨ (∃ i j, x = .str i ∧ y = .str j ∧ i.length + j.length ≤ sizeLine ∧ Q (.str (i ++ j)) H) ∨ rCatA K x y H Q ∨ rCat x y H Q
def dAdd (x y : PyData) (k : PyData → Prop) : Prop := match x, y with
  | .int i, .int j => k (.int (i + j))
  | .str a, .str b => a.length + b.length ≤ sizeLine ∧ k (.str (a ++ b))
  | .tuple xs, .tuple ys => xs.length + ys.length ≤ sizeLine ∧ k (.tuple (xs ++ ys))
  | .list xs, .list ys => xs.length + ys.length ≤ sizeLine ∧ k (.list (xs ++ ys))
  | _, _ => False
theorem Reps.nil_l {G : Hp} {vs : List V} {ds : List PyData} (r : Reps X.K G vs ds) : vs = [] ↔ ds = [] := by
  cases r with
  | nil => simp
  | cons _ _ => simp
theorem od_addU : OpR X (binaryOp .Add) (rAddU X.K) ∧ OpD X C (rAddU X.K) dAdd := by
  refine ⟨opr_or op_add (opr_or op_add_str (opr_or op_catA op_cat)), fun w σ ρ u v x y Q kd hA I tx ty h k => ?_⟩
  unfold dAdd at h
  split at h
  · cases tx
    cases ty
    exact .inl ⟨_, _, rfl, rfl, k _ (.int _) w (Stp.refl w) I (.int _) h⟩
  · cases tx
    cases ty
    exact .inr (.inl ⟨_, _, rfl, rfl, h.1, k _ (.str _) w (Stp.refl w) I (.str _) h.2⟩)
  · rename_i xs ys
    obtain ⟨hl, h⟩ := h
    cases tx with
    | tup hx rx =>
      rename_i ax vx
      cases ty with
      | tup hy ry =>
        rename_i ay vy
        refine .inr (.inr (.inl ⟨_, _, _, _, rfl, rfl, sqt_mono I.gh hx, sqt_mono I.gh hy, by rw [rx.len, ry.len]; exact hl, fun e => ?_, fun e1 e2 => ?_, fun e1 e2 p hp => ?_⟩))
        · have z := rx.nil_l.mp e
          subst z
          exact k (.ref ay) (.tuple ys) w (Stp.refl w) I (.tup hy ry) h
        · have z := ry.nil_l.mp e2
          subst z
          rw [List.append_nil] at h
          exact k (.ref ax) (.tuple xs) w (Stp.refl w) I (.tup hx rx) h
        · obtain ⟨I2, s2⟩ := I.new (o := .tup (vx ++ vy)) hp
          exact k (.ref p) (.tuple (xs ++ ys)) ⟨upd w.G p _, upd w.H p _, w.F⟩ s2 I2 (.tup (SqT.of upd_same) (reps_mono s2.g _ _ (rx.app ry))) h
  · rename_i xs ys
    obtain ⟨hl, h⟩ := h
    obtain ⟨ax, vx, rfl, hx, rx⟩ := tx
    obtain ⟨ay, vy, rfl, hy, ry⟩ := ty
    refine .inr (.inr (.inr ⟨_, _, _, _, rfl, rfl, hx, hy, by rw [rx.len, ry.len]; exact hl, fun p hp => ?_⟩))
    obtain ⟨I2, s2⟩ := I.new (o := .lst (vx ++ vy)) hp
    exact k (.ref p) (.list (xs ++ ys)) ⟨upd w.G p _, upd w.H p _, w.F⟩ s2 I2 (.lst upd_same (reps_mono s2.g _ _ (rx.app ry))) h
  · exact h.elim
def asLL (x y : PyData) (k : List PyData → List PyData → Prop) : Prop := match x, y with
  | .list xs, .list ys => k xs ys
  | _, _ => False
theorem asLL_inv {x y : PyData} {k : List PyData → List PyData → Prop} (h : asLL x y k) : ∃ xs ys, x = .list xs ∧ y = .list ys ∧ k xs ys := by
  unfold asLL at h
  split at h
  · exact ⟨_, _, rfl, rfl, h⟩
  · exact h.elim
/-- list + list as a new list of one's own -/
def nCat (da db : TED) : TND := fun ρ Q => da ρ fun r1 ρ1 => db ρ1 fun r2 ρ2 => vw ρ2 r1 fun x => vw ρ2 r2 fun y => asLL x y fun xs ys => xs.length + ys.length ≤ sizeLine ∧ Q (xs ++ ys) ρ2
theorem air_new {w w1 : Wd} {p : Addr} (s : Stp w w1) (hp : w1.H p = none) : w.H p = none := by
  cases e0 : w.H p with
  | none => rfl
  | some o => exact absurd hp (s.t p (by rw [e0]; exact fun z => nomatch z))
theorem dn_cat (ha : DE C a ta da) (hb : DE C b tb db) : DN C (.BinOp a .Add b pos) (tOp rCat ta tb) (nCat da db) := by
  refine ⟨pe_op op_cat ha.pe hb.pe, fun w σ ρ Q QD hA I q k => ?_⟩
  refine ha.run w σ ρ _ _ hA I q fun u r1 w1 ρ1 s1 I1 R1 q1 => ?_
  refine hb.run w1 σ ρ1 _ _ (C.cl _ _ hA s1) I1 q1 fun v r2 w2 ρ2 s2 I2 R2 q2 => ?_
  obtain ⟨x, tx, q3⟩ := vw_top I2 (R1.step s2) q2
  obtain ⟨y, ty, q4⟩ := vw_top I2 R2 q3
  obtain ⟨xs, ys, rfl, rfl, hl, h⟩ := asLL_inv q4
  obtain ⟨ax, vx, rfl, hx, rx⟩ := tx
  obtain ⟨ay, vy, rfl, hy, ry⟩ := ty
  refine ⟨_, _, _, _, rfl, rfl, hx, hy, by rw [rx.len, ry.len]; exact hl, fun p hp => ?_⟩
  obtain ⟨I3, s3⟩ := FI.air I2 (o := .lst (vx ++ vy)) hp
  exact k p (vx ++ vy) (xs ++ ys) ⟨w2.G, upd w2.H p _, w2.F⟩ ρ2 ((s1.trans s2).trans s3) I3 (air_new (s1.trans s2) hp) (I2.fresh hp).1 (fun i z => (I2.fresh hp).2 i p z rfl) upd_same (rx.app ry) h

/-! ### built-ins of one value -/
/-- a rule by values for a function of one datum -/
def CallD1 (X : Cx) (C : DC X) (r : List V → Hp → VK → Prop) (f : PyData → (PyData → Prop) → Prop) : Prop :=
  ∀ (w : Wd) (σ : L2.St) (ρ : DSt) (u : V) (x : PyData) (Q : VK) (kd : PyData → Prop), C.A w → FI X.K C.P w σ ρ → Top X.K w u x → f x kd →
    (∀ z d w', Stp w w' → FI X.K C.P w' σ ρ → Rep X.K w'.G z d → kd d → Q z w'.H) → r [u] w.H Q
def dF1 (f : PyData → (PyData → Prop) → Prop) (da : TED) : TED := fun ρ Q => da ρ fun r ρ1 => vw ρ1 r fun x => f x fun z => Q (.d z) ρ1
theorem f1_run {r : List V → Hp → VK → Prop} {f : PyData → (PyData → Prop) → Prop} (h1 : CallD1 X C r f) (ha : DE C a ta da) :
    ∀ (w : Wd) (σ : L2.St) (ρ : DSt) (Q : VK) (QD : R → DSt → Prop), C.A w → FI X.K C.P w σ ρ → dF1 f da ρ QD →
    (∀ v r w' ρ', Stp w w' → FI X.K C.P w' σ ρ' → RepR X.K w' σ v r → QD r ρ' → Q v w'.H) → tCB r (tCons ta tNil) σ w.H Q := by
  intro w σ ρ Q QD hA I q k
  refine ha.run w σ ρ _ _ hA I q fun u r1 w1 ρ1 s1 I1 R1 q1 => ?_
  obtain ⟨x, tx, q2⟩ := vw_top I1 R1 q1
  exact h1 w1 σ ρ1 u x Q _ (C.cl _ _ hA s1) I1 tx q2 fun z d w2 s2 I2 R2 q3 => k z (.d d) w2 ρ1 (s1.trans s2) I2 R2 q3
variable {x : Str} {p : Pos} {id : String} {r : List V → Hp → VK → Prop} {f : PyData → (PyData → Prop) → Prop}
theorem de_B1 (hc : CallR X (.builtin id) r ∧ CallD1 X C r f) (hm : X.mg x = none) (ha : DE C a ta da) (hv : bootBuiltins x = some (.builtin id) := by decide +kernel) (hg : Gl X x := by rfl) (hn : x ≠ "__name__" := by decide) (hdb : (x == ("__debug__" : Str)) = false := by decide)
    (he : starEach [a] X.env = (false, eval a X.env) :: starEach [] X.env := by rfl) (hpl : (backTo pos (starEach [] X.env)).any (·.1) = false := by rfl) : DE C (.Call (.Name x p) [a] [] pos) (tCB r (tCons ta tNil)) (dF1 f da) :=
  ⟨pe_callB hc.1 hg hm hv (pa_cons ha.pe pa_nil he) hn hdb he hpl, f1_run hc.2 ha⟩
theorem de_Ty1 {T : String} (hc : CallR X (.type T) r ∧ CallD1 X C r f) (hm : X.mg x = none) (ha : DE C a ta da) (hv : bootBuiltins x = some (.type T) := by decide +kernel) (hg : Gl X x := by rfl) (hn : x ≠ "__name__" := by decide) (hdb : (x == ("__debug__" : Str)) = false := by decide)
    (he : starEach [a] X.env = (false, eval a X.env) :: starEach [] X.env := by rfl) (hpl : (backTo pos (starEach [] X.env)).any (·.1) = false := by rfl) : DE C (.Call (.Name x p) [a] [] pos) (tCB r (tCons ta tNil)) (dF1 f da) :=
  ⟨pe_callTy hc.1 hg hm hv (pa_cons ha.pe pa_nil he) hn hdb he hpl, f1_run hc.2 ha⟩
/-- len -/
def fLen (x : PyData) (k : PyData → Prop) : Prop := match x with
  | .list xs => k (.int (xs.length : Nat))
  | .tuple xs => k (.int (xs.length : Nat))
  | .str s => s.length ≤ sizeLine ∧ k (.int (s.length : Nat))
  | _ => False
theorem cd_len : CallR X (.builtin "len") (fun xs H Q => ∃ x n, xs = [x] ∧ LenV X.K x H n ∧ Q (.int n) H) ∧ CallD1 X C (fun xs H Q => ∃ x n, xs = [x] ∧ LenV X.K x H n ∧ Q (.int n) H) fLen := by
  refine ⟨call_len, fun w σ ρ u x Q kd hA I tx h k => ?_⟩
  cases x with
  | list xs =>
    obtain ⟨a, vs, rfl, hs, hr⟩ := tx
    refine ⟨_, vs.length, rfl, .inl ⟨vs, SqL.of hs, rfl⟩, ?_⟩
    rw [hr.len]
    exact k _ (.int _) w (Stp.refl w) I (.int _) h
  | tuple xs =>
    cases tx with
    | tup hs hr =>
      rename_i a vs
      refine ⟨_, vs.length, rfl, .inr ⟨vs, sqt_mono I.gh hs, rfl⟩, ?_⟩
      rw [hr.len]
      exact k _ (.int _) w (Stp.refl w) I (.int _) h
  | str s =>
    cases tx
    exact ⟨_, s.length, rfl, ⟨h.1, rfl⟩, k _ (.int _) w (Stp.refl w) I (.int _) h.2⟩
  | _ => exact h.elim
/-- abs -/
def fAbs (x : PyData) (k : PyData → Prop) : Prop := match x with
  | .int i => k (.int (if i < 0 then -i else i))
  | _ => False
theorem cd_abs : CallR X (.builtin "abs") (fun xs H Q => ∃ i, xs = [.int i] ∧ Q (.int (if i < 0 then -i else i)) H) ∧ CallD1 X C (fun xs H Q => ∃ i, xs = [.int i] ∧ Q (.int (if i < 0 then -i else i)) H) fAbs := by
  refine ⟨call_abs, fun w σ ρ u x Q kd hA I tx h k => ?_⟩
  cases x with
  | int i =>
    cases tx
    exact ⟨i, rfl, k _ (.int _) w (Stp.refl w) I (.int _) h⟩
  | _ => exact h.elim
/-- tuple(a list) -/
def fTup (x : PyData) (k : PyData → Prop) : Prop := match x with
  | .list xs => k (.tuple xs)
  | .tuple xs => k (.tuple xs)
  | _ => False
abbrev rTupOf (K : PySem.W.Frag) : List V → Hp → VK → Prop := fun xs H Q => ∃ p ys, xs = [.ref p] ∧ ((SqL K H p ys ∧ ∀ l, H l = none → Q (.ref l) (upd H l (.tup ys))) ∨ (SqT K H p ys ∧ Q (.ref p) H))
theorem cd_tuple : CallR X (.type "tuple") (rTupOf X.K) ∧ CallD1 X C (rTupOf X.K) fTup := by
  refine ⟨call_tuple_of, fun w σ ρ u x Q kd hA I tx h k => ?_⟩
  cases x with
  | list xs =>
    obtain ⟨a, vs, rfl, hs, hr⟩ := tx
    refine ⟨a, vs, rfl, .inl ⟨SqL.of hs, fun p hp => ?_⟩⟩
    obtain ⟨I2, s2⟩ := I.new (o := .tup vs) hp
    exact k (.ref p) (.tuple xs) ⟨upd w.G p _, upd w.H p _, w.F⟩ s2 I2 (.tup (SqT.of upd_same) (reps_mono s2.g _ _ hr)) h
  | tuple xs =>
    cases tx with
    | tup hs hr =>
      rename_i a vs
      exact ⟨a, vs, rfl, .inr ⟨sqt_mono I.gh hs, k (.ref a) (.tuple xs) w (Stp.refl w) I (.tup hs hr) h⟩⟩
  | _ => exact h.elim
/-- all, any of bools -/
def fAll (x : PyData) (k : PyData → Prop) : Prop := ∃ bs : List Bool, x = .list (bs.map .bool) ∧ k (.bool (bs.all fun b => b))
def fAny (x : PyData) (k : PyData → Prop) : Prop := ∃ bs : List Bool, x = .list (bs.map .bool) ∧ k (.bool (bs.any fun b => b))
theorem cd_all : CallR X (.builtin "all") (rAll X.K) ∧ CallD1 X C (rAll X.K) fAll := by
  refine ⟨cr_all C.calm, fun w σ ρ u x Q kd hA I tx h k => ?_⟩
  obtain ⟨bs, rfl, h⟩ := h
  obtain ⟨a, vs, rfl, hs, hr⟩ := tx
  have e := reps_bools_inv hr
  subst e
  exact ⟨a, bs, rfl, SqL.of hs, k _ (.bool _) w (Stp.refl w) I (.bl _) h⟩
theorem cd_any : CallR X (.builtin "any") (rAny X.K) ∧ CallD1 X C (rAny X.K) fAny := by
  refine ⟨cr_any C.calm, fun w σ ρ u x Q kd hA I tx h k => ?_⟩
  obtain ⟨bs, rfl, h⟩ := h
  obtain ⟨a, vs, rfl, hs, hr⟩ := tx
  have e := reps_bools_inv hr
  subst e
  exact ⟨a, bs, rfl, SqL.of hs, k _ (.bool _) w (Stp.refl w) I (.bl _) h⟩
/-- repr: the text of a datum -/
def fRepr (x : PyData) (k : PyData → Prop) : Prop := x.showable = true ∧ x.hasDict = false ∧ x.depth ≤ 60 ∧ x.shown.length ≤ sizeLine ∧ k (.str x.shown)
def rRepr (K : PySem.W.Frag) : List V → Hp → VK → Prop := fun xs H Q => ∃ v d, xs = [v] ∧ Dp K H v d ∧ d.showable = true ∧ d.hasDict = false ∧ d.depth ≤ 60 ∧ d.shown.length ≤ sizeLine ∧ Q (.str d.shown) H
theorem call_repr (gd : X.A.guards = some []) (un : X.A.units + 100 < cLine) : CallR X (.builtin "repr") (rRepr X.K) := by
  intro pins s σ H xs us Q I rx h
  obtain ⟨v, d, rfl, hd, hs, hn, hdep, hsz, q⟩ := h
  obtain ⟨u, rfl, ru⟩ := vals1 rx
  obtain ⟨as, rd⟩ := Dp.reads I d v u hd ru
  have fin : ∀ t, EP X pins σ Q (.str d.shown t) s := fun t => ⟨.str d.shown, H, I, ⟨t, rfl⟩, q⟩
  have fin2 : ∀ h' t tk, (∀ b o, s.heap.get? b = some o → h'.get? b = some o) → EP X pins σ Q (.str d.shown t) { s with heap := h', toks := tk } := fun h' t tk hk => ⟨.str d.shown, H, I.kept (t' := tk) hk, ⟨t, rfl⟩, q⟩
  cases rd with
  | none => exact PySem.P.repr_of_none (by simpa only [PyData.shown] using fin2 s.heap _ _ fun _ _ z => z)
  | bool b => exact PySem.P.repr_of_bool (by simpa only [PyData.shown] using fin2 s.heap _ _ fun _ _ z => z)
  | int i t => exact PySem.P.repr_of_int (by simpa [PyData.showable] using hs) (by simpa only [PyData.shown] using fin2 s.heap _ _ fun _ _ z => z)
  | str z t => exact PySem.P.repr_of_str (by simpa only [PyData.shown] using fin2 s.heap _ _ fun _ _ z => z) (by simpa only [PyData.shown] using hsz)
  | list h1 h2 h3 h4 => exact repr_of_reads' (Reads.list h1 h2 h3 h4) hs (fun z => by rw [hn] at z; cases z) gd (by omega) (fun _ _ z => z) fin2 hsz
  | tuple h1 h2 h3 h4 => exact repr_of_reads' (Reads.tuple h1 h2 h3 h4) hs (fun z => by rw [hn] at z; cases z) gd (by omega) (fun _ _ z => z) fin2 hsz
  | dict _ _ _ _ _ => simp [PyData.hasDict] at hn
theorem cd_repr : CallR X (.builtin "repr") (rRepr X.K) ∧ CallD1 X C (rRepr X.K) fRepr := by
  refine ⟨call_repr C.gd C.un, fun w σ ρ u x Q kd hA I tx h k => ?_⟩
  obtain ⟨h1, h2, h3, h4, h5⟩ := h
  exact ⟨u, x, rfl, (tx.rep I.gh).dp _ _ h2, h1, h2, h3, h4, k _ (.str _) w (Stp.refl w) I (.str _) h5⟩
end
end DL

end
section
set_option maxHeartbeats 4000000
/-! DLF: a law's end over such a def. -/
namespace DL
open PySem PySem.Spec L2
open PyProof.Rows (IntsAre AllBare)

/-- the script: read, never written -/
def scriptR (ns : List Int) : Res where
  P := fun K G _ a fp => fp = [] ∧ SqL K G a (ns.map V.int)
  keep := fun s _ h => ⟨h.1, sql_mono s h.2⟩
/-- what a law promises: True -/
def lawSp : DSp := fun α QD _ => ∃ ns : List Int, ns.length ≤ 63 ∧ α = [.res true (scriptR ns)] ∧ QD (.d (.bool true)) α
theorem lawSp_sp {K : PySem.W.Frag} {H : Hp} {a : Addr} {ns : List Int} (hl : ns.length ≤ 63) (hs : SqL K H a (ns.map V.int)) : spOf K lawSp [.ref a] H (fun v _ => v = .bl true) fun _ _ _ => False := by
  refine ⟨⟨H, H, fun _ => []⟩, [.res true (scriptR ns)], fun r _ => r = .d (.bool true), fun _ _ => False, rfl, ⟨fun _ _ h => h, rfl, fun i s e => ?_, fun _ _ => rfl, fun i b hb => (nomatch hb), fun i j b _ hb => (nomatch hb)⟩, rfl, ⟨ns, hl, rfl, rfl⟩, fun v r w' α' _ _ hr h => ?_, fun _ _ _ _ _ _ _ _ h => h⟩
  · cases i with
    | zero => cases e; exact ⟨a, rfl, ⟨rfl, hs⟩, fun _ => rfl, fun z => nomatch z⟩
    | succ i => simp at e
  · subst h
    cases hr
    rfl
theorem law_callD {P : Program} {w : World} {K : PySem.W.Frag} {mg mb : Str → Option Value} {k : Nat} {fa a : Addr} {fd : FuncData} {x : Str} {s1 : Shared} {vs : List Value} {ns : List Int}
    (KX : K.In s1.heap) (hns : s1.heap.Ns mainGlobals mg) (hb : s1.heap.Ns builtinsNs mb) (hbb : ∀ x : Str, x ≠ "__name__" → mb x = bootBuiltins x) (hlim : s1.heap.NoLimit) (hg : s1.gens = #[])
    (ha : s1.heap.get? a = some { cls := .type "list", data := .seq vs.toArray }) (hi : IntsAre vs ns) (hl : ns.length ≤ 63) (hr : Room k callerA)
    (F : ∀ base : Heap, K.In base → base.Ns mainGlobals mg → FnD P w K mg base k fa fd [x] lawSp) (hbind : ∀ (s : Shared) (u : Value), BindsTo s fd ⟨[u], []⟩ [(x, u)]) :
    codeAny (model P w) callerA (.call (.ref fa) ⟨[.ref a], []⟩) (fun r s' => r = .ok (.ret (.bool true)) ∧ OldK s1.heap s'.heap ∧ s'.os = s1.os ∧ AllBare s'.gens) s1 := by
  have hline : ns.length ≤ sizeLine := Nat.le_trans hl (by decide)
  have main : ∀ H : Hp, Only H → SqL K H a (ns.map V.int) → HOk P w H s1.heap → (∀ b, H b ≠ none → b = a) → (H a ≠ none → K.lookup a = none) →
      codeAny (model P w) callerA (.call (.ref fa) ⟨[.ref a], []⟩) (fun r s' => r = .ok (.ret (.bool true)) ∧ OldK s1.heap s'.heap ∧ s'.os = s1.os ∧ AllBare s'.gens) s1 := by
    intro H only seq hok one away
    -- the heap without what is tracked: a dict is never the script
    have dicts : ∀ (b : Addr) (o : Obj) (es : Array DictEntry) (n : Nat), s1.heap.get? b = some o → o.data = .dict es n → H b = none := by
      intro b o es n e d
      cases q : H b with
      | none => rfl
      | some u =>
        obtain rfl : b = a := one b (by rw [q]; exact fun z => nomatch z)
        rw [ha] at e
        cases e
        exact nomatch (show Data.seq vs.toArray _ = Data.dict es n from d)
    have ns2 : ∀ (b : Addr) (m : Str → Option Value), s1.heap.Ns b m → (hidT s1.heap H).Ns b m := by
      rintro b m ⟨o, es, n, e, d, rest⟩
      exact ⟨o, es, n, hidT_get e (dicts b o es n e d), d, rest⟩
    have kin : K.In (hidT s1.heap H) := by
      intro b o e
      refine hidT_get (KX b o e) ?_
      cases q : H b with
      | none => rfl
      | some u =>
        obtain rfl : b = a := one b (by rw [q]; exact fun z => nomatch z)
        rw [away (by rw [q]; exact fun z => nomatch z)] at e
        cases e
    have mod : Mod K mg (hidT s1.heap H) := by
      obtain ⟨mc, l1, l2⟩ := hlim
      exact ⟨kin, ns2 _ _ hns, ⟨mb, ns2 _ _ hb, hbb⟩, ⟨mc, ns2 _ _ l1, l2⟩⟩
    have env : Env0 P w K mg (hidT s1.heap H) callerA [] s1 H :=
      ⟨rfl, mod, fun b o e => of_hidT e, Nat.le_of_eq (hidT_size _ _), trivial, (fun b z => nomatch (show b ∈ ([] : List Addr) from z)), hok, .of_eq hg⟩
    refine codeAny_mono ((F _ kin (ns2 _ _ hns)).run callerA [] s1 H ⟨[.ref a], []⟩ [.ref a] [.ref a] _ _ rfl hr env (hbind s1 (.ref a)) (.cons rfl .nil) (lawSp_sp hl seq)) ?_
    intro r s' got
    match r, got with
    | .error ex, ⟨_, _, _, _, _, _, _, _, _, _, _, _, z⟩ => exact z.elim
    | .ok .next, got => exact got.elim
    | .ok .brk, got => exact got.elim
    | .ok .cont, got => exact got.elim
    | .ok (.ret u), ⟨v, H', os, bare, un, hok', rv, q⟩ =>
      obtain rfl : v = .bl true := q
      obtain rfl : u = Value.bool true := rv
      refine ⟨rfl, OldK.of_keep fun b o e => ?_, os, bare⟩
      rcases only b with z | ⟨ob, xs, z⟩
      · exact un.keep b o e z (fun y => nomatch (show b ∈ ([] : List Addr) from y)) (fun y => nomatch (show b ∈ ([] : List Addr) from y))
      · have e1 := (hok b _ z).1
        rw [e] at e1
        cases e1
        exact (hok' b _ (un.frzs b _ _ z)).1
  have rv := vals_ints hi
  cases hk : K.lookup a with
  | some o =>
    have e := KX a o hk
    rw [ha] at e
    cases e
    exact main (fun _ => none) (fun _ => .inl rfl) (.inr ⟨_, vs.toArray, _, hk, rfl, rfl, rfl, by rw [List.size_toArray, hi.length]; exact hline, by simpa using rv⟩)
      (fun b u z => nomatch (show (none : Option HO) = some u from z)) (fun b z => absurd rfl z) (fun z => absurd rfl z)
  | none =>
    have at_ : ∀ b, (if b = a then some (HO.frz { cls := .type "list", data := .seq vs.toArray } (.lst (ns.map V.int))) else none) ≠ none → b = a := fun b z => by
      by_cases hb : b = a
      · exact hb
      · exact absurd (if_neg hb) z
    refine main (fun b => if b = a then some (.frz { cls := .type "list", data := .seq vs.toArray } (.lst (ns.map V.int))) else none) (fun b => ?_) (.inl (.inr ⟨_, if_pos rfl⟩)) (fun b u z => ?_) at_ (fun _ => hk)
    · by_cases hb : b = a
      · exact .inr ⟨_, _, if_pos hb⟩
      · exact .inl (if_neg hb)
    · obtain rfl : b = a := at_ b (by rw [show (if b = a then some (HO.frz { cls := .type "list", data := .seq vs.toArray } (.lst (ns.map V.int))) else none) = some u from z]; exact fun z => nomatch z)
      have z' := (if_pos rfl).symm.trans z
      cases z'
      exact ⟨ha, by rw [List.length_map]; exact hline, vs, _, rv, ha⟩
/-- the law's call behind a head by facts -/
theorem walkD {l : PySem.W.OpenLaw} {k : Nat} {q : Program} {loose : List Str} {XP : (Str → Option Value) → Heap → Prop} {YP : World → Heap → Prop} {d : DefRec} {x : Str}
    (hn : l.most = some 63) (hdf : d.params.defaults = []) (hr : Room k callerA)
    (F : ∀ (w : World) (mg : Str → Option Value) (fa : Addr) (h : Heap), YP w h → h.Ns mainGlobals mg → mg d.name = some (.ref fa) →
      ∃ (K : PySem.W.Frag) (fd : FuncData), K.In h ∧ (∀ (s : Shared) (u : Value), BindsTo s fd ⟨[u], []⟩ [(x, u)]) ∧ ∀ base : Heap, K.In base → base.Ns mainGlobals mg → FnD l.prog w K mg base k fa fd [x] lawSp) :
    PySem.W.WalkO q loose XP YP l.row.toRowW d [] (fun f vs => PySem.call f vs) := by
  refine Att.attach_call hn hdf ?_
  intro w s0 s1 mg mb fa o pm cd doc a vs ns G Y ho hd hcd hmg hobj hints hlen hg
  obtain ⟨K, fd, KX, hb, hF⟩ := F w mg fa _ Y G.T.g hmg
  exact law_callD KX G.T.g G.T.b G.T.builtins G.T.nolimit hg hobj hints hlen hr hF hb
end DL

end
section
set_option maxHeartbeats 4000000
/-! DLG: slices, membership, lists that change, comprehensions, pairs walked. -/
namespace DL
open PySem PySem.Spec L2
section
variable {X : Cx} {C : DC X} {a b c e : Expr} {ta tb tc te : TE} {da db dc de : TED} {pos : Pos} {es : List Expr} {tr : TA} {dr : TND}

/-! ### two built-ins of two ints -/
def fMax : PyData → PyData → (PyData → Prop) → Prop := int2 fun i j k => k (.int (if j > i then j else i))
def fMin : PyData → PyData → (PyData → Prop) → Prop := int2 fun i j k => k (.int (if j < i then j else i))
theorem two_run {r : List V → Hp → VK → Prop} {f : PyData → PyData → (PyData → Prop) → Prop} (hr : ∀ (w : Wd) (σ : L2.St) (ρ : DSt) (u v : V) (x y : PyData) (Q : VK) (kd : PyData → Prop), FI X.K C.P w σ ρ → Top X.K w u x → Top X.K w v y → f x y kd → (∀ z d, Rep X.K w.G z d → kd d → Q z w.H) → r [u, v] w.H Q)
    (ha : DE C a ta da) (hb : DE C b tb db) : ∀ (w : Wd) (σ : L2.St) (ρ : DSt) (Q : VK) (QD : R → DSt → Prop), C.A w → FI X.K C.P w σ ρ → dOp f da db ρ QD →
    (∀ v r w' ρ', Stp w w' → FI X.K C.P w' σ ρ' → RepR X.K w' σ v r → QD r ρ' → Q v w'.H) → tCB r (tCons ta (tCons tb tNil)) σ w.H Q := by
  intro w σ ρ Q QD hA I q k
  refine ha.run w σ ρ _ _ hA I q fun u r1 w1 ρ1 s1 I1 R1 q1 => ?_
  refine hb.run w1 σ ρ1 _ _ (C.cl _ _ hA s1) I1 q1 fun v r2 w2 ρ2 s2 I2 R2 q2 => ?_
  obtain ⟨x, tx, q3⟩ := vw_top I2 (R1.step s2) q2
  obtain ⟨y, ty, q4⟩ := vw_top I2 R2 q3
  exact hr w2 σ ρ2 u v x y Q _ I2 tx ty q4 fun z d R3 q5 => k z (.d d) w2 ρ2 (s1.trans s2) I2 R3 q5
theorem de_max {p : Pos} (hm : X.mg "max" = none) (ha : DE C a ta da) (hb : DE C b tb db) (hg : Gl X "max" := by rfl) (he : starEach [a, b] X.env = (false, eval a X.env) :: starEach [b] X.env := by rfl) (he2 : starEach [b] X.env = (false, eval b X.env) :: starEach [] X.env := by rfl)
    (hpl : (backTo pos (starEach [b] X.env)).any (·.1) = false := by rfl) : DE C (.Call (.Name "max" p) [a, b] [] pos) (tCB (fun xs H Q => ∃ i j, xs = [.int i, .int j] ∧ Q (.int (if j > i then j else i)) H) (tCons ta (tCons tb tNil))) (dOp fMax da db) := by
  refine ⟨pe_callB (call_max2 C.calm) hg hm (by decide +kernel) (pa_cons ha.pe (pa_cons hb.pe pa_nil he2) he) (by decide) (by decide) he hpl, two_run (fun w σ ρ u v x y Q kd I tx ty h k => ?_) ha hb⟩
  obtain ⟨i, j, rfl, rfl, q⟩ := int2_inv h
  cases tx
  cases ty
  exact ⟨i, j, rfl, k _ _ (.int _) q⟩
theorem de_min {p : Pos} (hm : X.mg "min" = none) (ha : DE C a ta da) (hb : DE C b tb db) (hg : Gl X "min" := by rfl) (he : starEach [a, b] X.env = (false, eval a X.env) :: starEach [b] X.env := by rfl) (he2 : starEach [b] X.env = (false, eval b X.env) :: starEach [] X.env := by rfl)
    (hpl : (backTo pos (starEach [b] X.env)).any (·.1) = false := by rfl) : DE C (.Call (.Name "min" p) [a, b] [] pos) (tCB (fun xs H Q => ∃ i j, xs = [.int i, .int j] ∧ Q (.int (if j < i then j else i)) H) (tCons ta (tCons tb tNil))) (dOp fMin da db) := by
  refine ⟨pe_callB (call_min2 C.calm) hg hm (by decide +kernel) (pa_cons ha.pe (pa_cons hb.pe pa_nil he2) he) (by decide) (by decide) he hpl, two_run (fun w σ ρ u v x y Q kd I tx ty h k => ?_) ha hb⟩
  obtain ⟨i, j, rfl, rfl, q⟩ := int2_inv h
  cases tx
  cases ty
  exact ⟨i, j, rfl, k _ _ (.int _) q⟩

/-! ### is None, is True -/
def isNoneD : PyData → Bool
  | .none => true | _ => false
def dIs (x y : PyData) (k : PyData → Prop) : Prop := match y with
  | .none => k (.bool (isNoneD x))
  | .bool b => (match x with | .bool a => k (.bool (decide (a = b))) | _ => False)
  | _ => False
def dIsNot (x y : PyData) (k : PyData → Prop) : Prop := match y with
  | .none => k (.bool (!isNoneD x))
  | .bool b => (match x with | .bool a => k (.bool (!decide (a = b))) | _ => False)
  | _ => False
def rIsU : R2 := fun x y H Q => (y = .non ∧ Q (.bl (decide (x = .non))) H) ∨ rIsB x y H Q
def rIsNotU : R2 := fun x y H Q => (y = .non ∧ Q (.bl (!decide (x = .non))) H) ∨ rNotB x y H Q
theorem top_non {w : Wd} {u : V} {x : PyData} (t : Top X.K w u x) : decide (u = .non) = (isNoneD x) := by
  cases x with
  | none => cases t; rfl
  | bool b => cases t; rfl
  | int b => cases t; rfl
  | str b => cases t; rfl
  | list ds => obtain ⟨_, _, rfl, _⟩ := t; rfl
  | tuple ds => cases t; rfl
  | dict ds => cases t; rfl
theorem od_is : OpR X (compareOp .Is) rIsU ∧ OpD X C rIsU dIs := by
  refine ⟨opr_or op_isN op_isBl, fun w σ ρ u v x y Q kd hA I tx ty h k => ?_⟩
  unfold dIs at h
  split at h
  · cases ty
    refine .inl ⟨rfl, ?_⟩
    rw [top_non tx]
    exact k _ _ w (Stp.refl w) I (.bl _) h
  · split at h
    · cases tx
      cases ty
      exact .inr ⟨_, _, rfl, rfl, k _ _ w (Stp.refl w) I (.bl _) h⟩
    · exact h.elim
  · exact h.elim
theorem od_isNot : OpR X (compareOp .IsNot) rIsNotU ∧ OpD X C rIsNotU dIsNot := by
  refine ⟨opr_or op_notN op_notBl, fun w σ ρ u v x y Q kd hA I tx ty h k => ?_⟩
  unfold dIsNot at h
  split at h
  · cases ty
    refine .inl ⟨rfl, ?_⟩
    rw [top_non tx]
    exact k _ _ w (Stp.refl w) I (.bl _) h
  · split at h
    · cases tx
      cases ty
      exact .inr ⟨_, _, rfl, rfl, k _ _ w (Stp.refl w) I (.bl _) h⟩
    · exact h.elim
  · exact h.elim

/-! ### in, not in -/
/-- flat data: in a list or tuple of such; any data in a list -/
def flatD : PyData → Bool
  | .none => true | .bool _ => true | .int _ => true | .str _ => true | _ => false
def inD (x : PyData) (ys : List PyData) : Bool := ys.any fun z => PyData.eqv z x
def dIn (neg : Bool) (x y : PyData) (k : PyData → Prop) : Prop := match y with
  | .list ys => SeqAt.shaped x = true ∧ SeqAt.shaped (.list ys) = true ∧ k (.bool (if neg then !inD x ys else inD x ys))
  | .tuple ys => flatD x = true ∧ ys.all flatD = true ∧ k (.bool (if neg then !inD x ys else inD x ys))
  | _ => False
def rInU (K : PySem.W.Frag) : R2 := fun x y H Q => rInD K x y H Q ∨ rIn K false x y H Q
def rNotInU (K : PySem.W.Frag) : R2 := fun x y H Q => rNotInD K x y H Q ∨ rIn K true x y H Q
theorem flat_v {G : Hp} {u : V} {x : PyData} (h : Rep X.K G u x) (f : flatD x = true) : flatV u = true := by
  cases h <;> first | rfl | cases f
theorem eqv_flat {G : Hp} {u v : V} {x y : PyData} (h : Rep X.K G u x) (g : Rep X.K G v y) (f : flatD x = true) (f' : flatD y = true) : eqV v u = PyData.eqv y x := by
  cases h <;> cases g <;> first | rfl | cases f | cases f' | simp [eqV, PyData.eqv]
theorem inv_flat {G : Hp} {u : V} {x : PyData} (h : Rep X.K G u x) (f : flatD x = true) : ∀ {vs : List V} {ys : List PyData}, Reps X.K G vs ys → ys.all flatD = true → vs.all flatV = true ∧ inV u vs = inD x ys
  | _, _, .nil, _ => ⟨rfl, rfl⟩
  | _, _, .cons r t, hf => by
    rw [List.all_cons, Bool.and_eq_true] at hf
    obtain ⟨h1, h2⟩ := inv_flat h f t hf.2
    refine ⟨by rw [List.all_cons, flat_v r hf.1, h1] <;> rfl, ?_⟩
    show ((eqV _ u) || (inV u _)) = ((PyData.eqv _ x) || (inD x _))
    rw [h2, eqv_flat h r f hf.1]
theorem rep_flat {w : Wd} {u : V} {x : PyData} (t : Top X.K w u x) (f : flatD x = true) : Rep X.K w.G u x := by
  cases x with
  | list _ => cases f
  | _ => exact t
theorem od_in : OpR X (compareOp .In) (rInU X.K) ∧ OpD X C (rInU X.K) (dIn false) := by
  refine ⟨opr_or (op_inD (by have := C.un; omega)) op_in_seq, fun w σ ρ u v x y Q kd hA I tx ty h k => ?_⟩
  unfold dIn at h
  split at h
  · obtain ⟨h1, h2, h3⟩ := h
    refine .inl ⟨x, _, (tx.rep I.gh).dp _ _ (PyData.hasDict_of_canLay _ (SeqAt.canLay_of_shaped h1)), (ty.rep I.gh).dp _ _ (PyData.hasDict_of_canLay _ (SeqAt.canLay_of_shaped h2)), h1, h2, k _ _ w (Stp.refl w) I (.bl _) h3⟩
  · obtain ⟨h1, h2, h3⟩ := h
    cases ty with
    | tup hs hr =>
      obtain ⟨g1, g2⟩ := inv_flat (rep_flat tx h1) h1 hr h2
      refine .inr ⟨_, _, rfl, .inr (sqt_mono I.gh hs), flat_v (rep_flat tx h1) h1, g1, ?_⟩
      rw [g2]
      exact k _ _ w (Stp.refl w) I (.bl _) h3
  · exact h.elim
theorem od_notIn : OpR X (compareOp .NotIn) (rNotInU X.K) ∧ OpD X C (rNotInU X.K) (dIn true) := by
  refine ⟨opr_or (op_notInD (by have := C.un; omega)) op_notIn_seq, fun w σ ρ u v x y Q kd hA I tx ty h k => ?_⟩
  unfold dIn at h
  split at h
  · obtain ⟨h1, h2, h3⟩ := h
    refine .inl ⟨x, _, (tx.rep I.gh).dp _ _ (PyData.hasDict_of_canLay _ (SeqAt.canLay_of_shaped h1)), (ty.rep I.gh).dp _ _ (PyData.hasDict_of_canLay _ (SeqAt.canLay_of_shaped h2)), h1, h2, k _ _ w (Stp.refl w) I (.bl _) h3⟩
  · obtain ⟨h1, h2, h3⟩ := h
    cases ty with
    | tup hs hr =>
      obtain ⟨g1, g2⟩ := inv_flat (rep_flat tx h1) h1 hr h2
      refine .inr ⟨_, _, rfl, .inr (sqt_mono I.gh hs), flat_v (rep_flat tx h1) h1, g1, ?_⟩
      rw [g2]
      exact k _ _ w (Stp.refl w) I (.bl _) h3
  · exact h.elim

/-! ### a < b <= c -/
def dChain (f g : PyData → PyData → (PyData → Prop) → Prop) (da db dc : TED) : TED := fun ρ Q => da ρ fun r1 ρ1 => db ρ1 fun r2 ρ2 => vw ρ2 r1 fun x => vw ρ2 r2 fun y => f x y fun z => match z with
  | .bool true => dc ρ2 fun r3 ρ3 => vw ρ3 r2 fun y' => vw ρ3 r3 fun z => g y' z fun d => Q (.d d) ρ3
  | .bool false => Q (.d (.bool false)) ρ2
  | _ => False
theorem chain_run {r r' : R2} {f g : PyData → PyData → (PyData → Prop) → Prop} (hr : OpD X C r f) (hr' : OpD X C r' g) (ha : DE C a ta da) (hb : DE C b tb db) (hc : DE C c tc dc) :
    ∀ (w : Wd) (σ : L2.St) (ρ : DSt) (Q : VK) (QD : R → DSt → Prop), C.A w → FI X.K C.P w σ ρ → dChain f g da db dc ρ QD →
    (∀ v r w' ρ', Stp w w' → FI X.K C.P w' σ ρ' → RepR X.K w' σ v r → QD r ρ' → Q v w'.H) → tChain r r' ta tb tc σ w.H Q := by
  intro w σ ρ Q QD hA I q k
  refine ha.run w σ ρ _ _ hA I q fun u r1 w1 ρ1 s1 I1 R1 q1 => ?_
  refine hb.run w1 σ ρ1 _ _ (C.cl _ _ hA s1) I1 q1 fun v r2 w2 ρ2 s2 I2 R2 q2 => ?_
  obtain ⟨x, tx, q3⟩ := vw_top I2 (R1.step s2) q2
  obtain ⟨y, ty, q4⟩ := vw_top I2 R2 q3
  refine hr w2 σ ρ2 u v x y _ _ (C.cl _ _ (C.cl _ _ hA s1) s2) I2 tx ty q4 fun z d w3 s3 I3 R3 q5 => ?_
  have s23 := (s1.trans s2).trans s3
  cases d with
  | bool bb =>
    cases R3
    refine ⟨bb, rfl, ?_⟩
    cases bb with
    | false => rw [if_neg Bool.false_ne_true]; exact k _ (.d (.bool false)) w3 ρ2 s23 I3 (.bl _) q5
    | true =>
      rw [if_pos rfl]
      refine hc.run w3 σ ρ2 _ _ (C.cl _ _ hA s23) I3 q5 fun v3 r3 w4 ρ4 s4 I4 R4 q6 => ?_
      obtain ⟨y2, ty2, q7⟩ := vw_top I4 ((R2.step s3).step s4) q6
      obtain ⟨z2, tz2, q8⟩ := vw_top I4 R4 q7
      exact hr' w4 σ ρ4 v v3 y2 z2 Q _ (C.cl _ _ hA (s23.trans s4)) I4 ty2 tz2 q8 fun z5 d5 w5 s5 I5 R5 q9 => k z5 (.d d5) w5 ρ4 ((s23.trans s4).trans s5) I5 R5 q9
  | _ => exact q5.elim
theorem de_chain {op op' : CmpOp} {r r' : R2} {f g : PyData → PyData → (PyData → Prop) → Prop} (ho : OpR X (compareOp op) r ∧ OpD X C r f) (ho' : OpR X (compareOp op') r' ∧ OpD X C r' g) (ha : DE C a ta da) (hb : DE C b tb db) (hc : DE C c tc dc)
    (hm : lastMarks [op, op'] [b, c] = false := by with_unfolding_all rfl) : DE C (.Compare a [op, op'] [b, c] pos) (tChain r r' ta tb tc) (dChain f g da db dc) :=
  ⟨pe_chain ho.1 ho'.1 ha.pe hb.pe hc.pe hm, chain_run ho.2 ho'.2 ha hb hc⟩
theorem dt_chain {op op' : CmpOp} {r r' : R2} {f g : PyData → PyData → (PyData → Prop) → Prop} (ho : OpR X (compareOp op) r ∧ OpD X C r f) (ho' : OpR X (compareOp op') r' ∧ OpD X C r' g) (ha : DE C a ta da) (hb : DE C b tb db) (hc : DE C c tc dc)
    (hm : lastMarks [op, op'] [b, c] = false := by with_unfolding_all rfl) : DT C (.Compare a [op, op'] [b, c] pos) (tTest (tChain r r' ta tb tc)) (dTest (dChain f g da db dc)) :=
  ⟨pt_chain ho.1 ho'.1 ha.pe hb.pe hc.pe hm, test_run (de_chain (pos := pos) ho ho' ha hb hc hm)⟩

/-! ### slices -/
abbrev TOD := DSt → (Option Int → DSt → Prop) → Prop
structure DO (C : DC X) (e : Option Expr) (to : TO) (t : TOD) : Prop where
  po : PO X e to
  run : ∀ (w : Wd) (σ : L2.St) (ρ : DSt) (Q : Option Int → Hp → Prop) (QD : Option Int → DSt → Prop), C.A w → FI X.K C.P w σ ρ → t ρ QD →
    (∀ o w' ρ', Stp w w' → FI X.K C.P w' σ ρ' → QD o ρ' → Q o w'.H) → to σ w.H Q
def oNone : TOD := fun ρ Q => Q none ρ
def oSome (de : TED) : TOD := fun ρ Q => de ρ fun r ρ1 => vw ρ1 r fun x => match x with | .int i => Q (some i) ρ1 | _ => False
theorem do_none : DO C none tNoPart oNone := ⟨po_none, fun w σ ρ Q QD hA I q k => k none w ρ (Stp.refl w) I q⟩
theorem do_some (h : DE C e te de) : DO C (some e) (tPart te) (oSome de) := by
  refine ⟨po_some h.pe, fun w σ ρ Q QD hA I q k => ?_⟩
  refine h.run w σ ρ _ _ hA I q fun u r1 w1 ρ1 s1 I1 R1 q1 => ?_
  obtain ⟨x, tx, q2⟩ := vw_top I1 R1 q1
  cases x with
  | int i =>
    cases tx
    exact ⟨i, rfl, k (some i) w1 ρ1 s1 I1 q2⟩
  | _ => exact q2.elim
def cutD {α : Type} (xs : List α) (lo hi : Option Int) : List α := (xs.drop (HT.sIx xs.length 0 lo)).take (HT.sIx xs.length xs.length hi - HT.sIx xs.length 0 lo)
theorem cut_reps {G : Hp} {vs : List V} {ds : List PyData} (r : Reps X.K G vs ds) (lo hi : Option Int) : Reps X.K G (cutV vs lo hi) (cutD ds lo hi) := by
  unfold cutV cutD
  rw [r.len]
  exact (r.dropN _).takeN _
def rSlU (K : PySem.W.Frag) : V → Option Int → Option Int → Hp → VK → Prop := fun x lo hi H Q => rSlA K x lo hi H Q ∨ rSlS x lo hi H Q
/-- a tuple's, a text's slice -/
def dSl (da : TED) (tl th : TOD) : TED := fun ρ Q => da ρ fun r ρ1 => tl ρ1 fun lo ρ2 => th ρ2 fun hi ρ3 => vw ρ3 r fun x => match x with
  | .tuple ds => Q (.d (.tuple (cutD ds lo hi))) ρ3
  | .str z => z.length ≤ sizeLine ∧ Q (.d (.str (cutS z lo hi))) ρ3
  | _ => False
theorem cut_whole {ds : List PyData} {lo hi : Option Int} (h : HT.sIx ds.length 0 lo = 0 ∧ HT.sIx ds.length ds.length hi = ds.length) : cutD ds lo hi = ds := by
  unfold cutD
  rw [h.1, h.2, List.drop_zero, Nat.sub_zero, List.take_length]
variable {lo hi : Option Expr} {tl th : TO} {dl dh : TOD} {p2 : Pos}
theorem de_slice (ha : DE C a ta da) (hl : DO C lo tl dl) (hh : DO C hi th dh) : DE C (.Subscript a (.Slice lo hi none p2) pos) (tSl (rSlU X.K) ta tl th) (dSl da dl dh) := by
  refine ⟨pe_slice (sl_tupA.or sl_str) ha.pe hl.po hh.po, fun w σ ρ Q QD hA I q k => ?_⟩
  refine ha.run w σ ρ _ _ hA I q fun u r1 w1 ρ1 s1 I1 R1 q1 => ?_
  refine hl.run w1 σ ρ1 _ _ (C.cl _ _ hA s1) I1 q1 fun l w2 ρ2 s2 I2 q2 => ?_
  refine hh.run w2 σ ρ2 _ _ (C.cl _ _ hA (s1.trans s2)) I2 q2 fun h w3 ρ3 s3 I3 q3 => ?_
  have s23 := (s1.trans s2).trans s3
  obtain ⟨x, tx, q4⟩ := vw_top I3 ((R1.step s2).step s3) q3
  cases x with
  | tuple ds =>
    cases tx with
    | tup hs hr =>
      rename_i aa vs
      refine .inl ⟨aa, vs, rfl, sqt_mono I3.gh hs, fun e => ?_, fun _ p hp => ?_⟩
      · rw [hr.len] at e
        have q4 : QD (.d (.tuple (cutD ds l h))) ρ3 := q4
        rw [cut_whole e] at q4
        exact k (.ref aa) (.d (.tuple ds)) w3 ρ3 s23 I3 (.tup hs hr) q4
      · obtain ⟨I4, s4⟩ := I3.new (o := .tup (cutV vs l h)) hp
        exact k (.ref p) (.d (.tuple (cutD ds l h))) ⟨upd w3.G p _, upd w3.H p _, w3.F⟩ ρ3 (s23.trans s4) I4 (.tup (SqT.of upd_same) (reps_mono s4.g _ _ (cut_reps hr l h))) q4
  | str z =>
    cases tx
    exact .inr ⟨z, rfl, q4.1, k _ (.d (.str _)) w3 ρ3 s23 I3 (.str _) q4.2⟩
  | _ => exact q4.elim
/-- a list's slice -/
def nSl (da : TED) (tl th : TOD) : TND := fun ρ Q => da ρ fun r ρ1 => tl ρ1 fun lo ρ2 => th ρ2 fun hi ρ3 => vw ρ3 r fun x => match x with
  | .list ds => Q (cutD ds lo hi) ρ3
  | _ => False
theorem dn_slice (ha : DE C a ta da) (hl : DO C lo tl dl) (hh : DO C hi th dh) : DN C (.Subscript a (.Slice lo hi none p2) pos) (tSl (rSlL X.K) ta tl th) (nSl da dl dh) := by
  refine ⟨pe_slice sl_list ha.pe hl.po hh.po, fun w σ ρ Q QD hA I q k => ?_⟩
  refine ha.run w σ ρ _ _ hA I q fun u r1 w1 ρ1 s1 I1 R1 q1 => ?_
  refine hl.run w1 σ ρ1 _ _ (C.cl _ _ hA s1) I1 q1 fun l w2 ρ2 s2 I2 q2 => ?_
  refine hh.run w2 σ ρ2 _ _ (C.cl _ _ hA (s1.trans s2)) I2 q2 fun h w3 ρ3 s3 I3 q3 => ?_
  have s23 := (s1.trans s2).trans s3
  obtain ⟨x, tx, q4⟩ := vw_top I3 ((R1.step s2).step s3) q3
  cases x with
  | list ds =>
    obtain ⟨aa, vs, rfl, hs, hr⟩ := tx
    refine ⟨aa, vs, rfl, SqL.of hs, fun p hp => ?_⟩
    obtain ⟨I4, s4⟩ := FI.air I3 (o := .lst (cutV vs l h)) hp
    exact k p (cutV vs l h) (cutD ds l h) ⟨w3.G, upd w3.H p _, w3.F⟩ ρ3 (s23.trans s4) I4 (air_new s23 hp) (I3.fresh hp).1 (fun i z => (I3.fresh hp).2 i p z rfl) upd_same (cut_reps hr l h) q4
  | _ => exact q4.elim
/-- xs[::-1] -/
def nRev (da : TED) : TND := fun ρ Q => da ρ fun r ρ1 => vw ρ1 r fun x => match x with | .list ds => Q ds.reverse ρ1 | _ => False
theorem dn_rev {k0 : Nat} {q1 q2 q3 : Pos} (ha : DE C a ta da) : DN C (.Subscript a (.Slice none none (some (.UnaryOp .USub (.Constant (.int 1) k0 q1) q2)) q3) pos) (tRevL X.K ta) (nRev da) := by
  refine ⟨pe_revL ha.pe, fun w σ ρ Q QD hA I q k => ?_⟩
  refine ha.run w σ ρ _ _ hA I q fun u r1 w1 ρ1 s1 I1 R1 q1 => ?_
  obtain ⟨x, tx, q4⟩ := vw_top I1 R1 q1
  cases x with
  | list ds =>
    obtain ⟨aa, vs, rfl, hs, hr⟩ := tx
    refine ⟨aa, vs, rfl, SqL.of hs, fun p hp => ?_⟩
    obtain ⟨I4, s4⟩ := FI.air I1 (o := .lst vs.reverse) hp
    exact k p vs.reverse ds.reverse ⟨w1.G, upd w1.H p _, w1.F⟩ ρ1 (s1.trans s4) I4 (air_new s1 hp) (I1.fresh hp).1 (fun i z => (I1.fresh hp).2 i p z rfl) upd_same hr.rev q4
  | _ => exact q4.elim
/-- list(x) -/
def nList (da : TED) : TND := fun ρ Q => da ρ fun r ρ1 => vw ρ1 r fun x => match x with | .list ds => Q ds ρ1 | .tuple ds => Q ds ρ1 | _ => False
abbrev rListOf (K : PySem.W.Frag) : List V → Hp → VK → Prop := fun xs H Q => ∃ p ys, xs = [.ref p] ∧ (SqL K H p ys ∨ SqT K H p ys) ∧ ∀ l, H l = none → Q (.ref l) (upd H l (.lst ys))
theorem dn_listOf {p : Pos} (hm : X.mg "list" = none) (ha : DE C a ta da) (hg : Gl X "list" := by rfl) (he : starEach [a] X.env = (false, eval a X.env) :: starEach [] X.env := by rfl) (hpl : (backTo pos (starEach [] X.env)).any (·.1) = false := by rfl) :
    DN C (.Call (.Name "list" p) [a] [] pos) (tCB (rListOf X.K) (tCons ta tNil)) (nList da) := by
  refine ⟨pe_callTy call_list_of hg hm (by decide +kernel) (pa_cons ha.pe pa_nil he) (by decide) (by decide) he hpl, fun w σ ρ Q QD hA I q k => ?_⟩
  refine ha.run w σ ρ _ _ hA I q fun u r1 w1 ρ1 s1 I1 R1 q1 => ?_
  obtain ⟨x, tx, q4⟩ := vw_top I1 R1 q1
  have fin : ∀ (aa : Addr) (vs : List V) (ds : List PyData), u = .ref aa → (SqL X.K w1.H aa vs ∨ SqT X.K w1.H aa vs) → Reps X.K w1.G vs ds → QD ds ρ1 → rListOf X.K [u] w1.H Q := by
    rintro aa vs ds rfl hs hr q5
    refine ⟨aa, vs, rfl, hs, fun p hp => ?_⟩
    obtain ⟨I4, s4⟩ := FI.air I1 (o := .lst vs) hp
    exact k p vs ds ⟨w1.G, upd w1.H p _, w1.F⟩ ρ1 (s1.trans s4) I4 (air_new s1 hp) (I1.fresh hp).1 (fun i z => (I1.fresh hp).2 i p z rfl) upd_same hr q5
  cases x with
  | list ds =>
    obtain ⟨aa, vs, e, hs, hr⟩ := tx
    exact fin aa vs ds e (.inl (SqL.of hs)) hr q4
  | tuple ds =>
    cases tx with
    | tup hs hr => exact fin _ _ ds rfl (.inr (sqt_mono I1.gh hs)) hr q4
  | _ => exact q4.elim

/-! ### a frame's own lists change -/
theorem own_at {P : Par} {w : Wd} {σ : L2.St} {ρ : DSt} {i : Nat} {io : Bool} {ds : List PyData} (I : FI X.K P w σ ρ) (h : ρ[i]? = some (.own io ds)) : ∃ l vs, σ[i]? = some (some (.ref l)) ∧ w.H l = some (.lst vs) ∧ Reps X.K w.G vs ds := by
  obtain ⟨l, vs, h1, _, h3, h4, _⟩ := I.ok i _ h
  exact ⟨l, vs, h1, h3, h4⟩
def ownK (ρ : DSt) (i : Nat) (k : Bool → List PyData → Prop) : Prop := match ρ[i]? with
  | some (.own io ds) => k io ds
  | _ => False
theorem ownK_inv {ρ : DSt} {i : Nat} {k : Bool → List PyData → Prop} (h : ownK ρ i k) : ∃ io ds, ρ[i]? = some (.own io ds) ∧ k io ds := by
  unfold ownK at h
  split at h
  · exact ⟨_, _, by assumption, h⟩
  · exact h.elim
/-- xs.append(e), xs in slot i -/
def sApp (i : Nat) (de : TED) : TSD := fun D ρ => ownK ρ i (fun _ _ => True) ∧ de ρ fun r ρ1 => frz ρ1 r fun d ρ2 => ownK ρ2 i fun io ds => ds.length < sizeLine ∧ D.nx (ρ2.set i (.own io (ds ++ [d])))
variable {y : Str} {py apos cpos spos : Pos}
theorem ds_app (i : Nat) (h : DE C e te de) (hN : X.N[i]? = some y := by rfl) (hv : Vis X.env.scope y := by first | exact Or.inl rfl | exact Or.inr (Or.inl rfl) | exact Or.inr (Or.inr rfl)) (hd : (y == ("__debug__" : Str)) = false := by decide) (hcd : (y == ("__classdict__" : Str)) = false := by decide)
    (he : starEach [e] X.env = (false, eval e X.env) :: starEach [] X.env := by rfl)
    (hbase : attributeBase (.Name y py) "append" X.env (eval (.Name y py) X.env) = eval (.Name y py) X.env := by rfl)
    (hfew : ((backTo cpos (starEach [e] X.env)).all (fun x => !x.1) && (backToKw cpos (keywordEach [] X.env)).all (fun x => x.1.isSome)
      && decide ([e].length + ([] : List Keyword).length + (if ([] : List Keyword).isEmpty then 0 else 1) < 30)) = true := by rfl)
    (hline : (apos.endLine == cpos.line) = true := by rfl) (hplain : (backTo cpos (starEach [] X.env)).any (·.1) = false := by rfl)
    (hs : swapsWith (.Call (.Attribute (.Name y py) "append" apos) [e] [] cpos) none spos.line X.env = pure false := by rfl) :
    DS C (.Expr (.Call (.Attribute (.Name y py) "append" apos) [e] [] cpos) spos) (tDrop (tBM X.K "list" rAppend (tVar i) (tCons te tNil))) (sApp i de) := by
  refine ⟨ps_expr (pe_bm PySem.F.plainAttrs_list PySem.F.slot_list_append PySem.F.type_list_append mt_append (pe_var hN hv hd hcd) (pa_cons h.pe pa_nil he) hbase hfew hline he hplain) hs, fun w σ ρ D DD hA I q k => ?_⟩
  obtain ⟨q0, q⟩ := q
  obtain ⟨io0, ds0, e0, _⟩ := ownK_inv q0
  obtain ⟨l, vs0, h1, h2, _⟩ := own_at I e0
  refine ⟨.ref l, h1, .inl ⟨rfl, vs0, SqL.of h2⟩, ?_⟩
  refine h.run w σ ρ _ _ hA I q fun u r1 w1 ρ1 s1 I1 R1 q1 => ?_
  obtain ⟨d, ρ2, w2, I2, s2, hh, hrep, q2⟩ := frz_ok I1 R1 q1
  obtain ⟨io, ds, e2, hlen, q3⟩ := ownK_inv q2
  obtain ⟨l', vs, g1, g2, g3⟩ := own_at I2 e2
  rw [h1] at g1
  cases g1
  rw [hh] at g2
  refine ⟨l, vs, u, rfl, rfl, g2, by rw [g3.len]; exact hlen, ?_⟩
  obtain ⟨I3, s3⟩ := I2.mut e2 h1 (g3.app (.cons hrep .nil))
  rw [← hh]
  exact k.nx ⟨w2.G, upd w2.H l _, w2.F⟩ σ _ ((s1.trans s2).trans s3) I3 q3
/-- xs[e] = v, xs in slot i -/
def sPut (i : Nat) (dv di : TED) : TSD := fun D ρ => dv ρ fun r ρ1 => frz ρ1 r fun d ρ2 => ownK ρ2 i (fun _ _ => True) ∧ di ρ2 fun r2 ρ3 => vw ρ3 r2 fun x => ownK ρ3 i fun io ds => match x with
  | .int z => (match ixN ds.length z with | some j => D.nx (ρ3.set i (.own io (ds.set j d))) | none => False)
  | _ => False
theorem ds_put (i : Nat) {iv : Expr} {ti : TE} {di : TED} {tpos : Pos} (h : DE C e te de) (hix : DE C iv ti di) (hN : X.N[i]? = some y := by rfl) (hv : Vis X.env.scope y := by first | exact Or.inl rfl | exact Or.inr (Or.inl rfl) | exact Or.inr (Or.inr rfl)) (hd : (y == ("__debug__" : Str)) = false := by decide) (hcd : (y == ("__classdict__" : Str)) = false := by decide)
    (hsub : ∀ v, assign (.Subscript (.Name y py) iv tpos) X.env v = (do
      let ov ← holding [v] (eval (.Name y py) X.env)
      let iv ← holding [v, ov] (eval iv X.env)
      standAt tpos
      holding [v, ov, iv] (setItem ov iv v)
      release [v, ov, iv] []) := by intro _; rfl)
    (hs : swapsWithSole [.Subscript (.Name y py) iv tpos] e spos.line X.env = pure false := by rfl) (hw : swappedStores [.Subscript (.Name y py) iv tpos] e X.env = pure none := by rfl)
    (h1 : (assignEach [.Subscript (.Name y py) iv tpos] X.env).map (·.2) = [assign (.Subscript (.Name y py) iv tpos) X.env] := by rfl) :
    DS C (.Assign [.Subscript (.Name y py) iv tpos] e spos) (tAsg te (gSub (tVar i) ti rSetL)) (sPut i de di) := by
  refine ⟨ps_asg h.pe (pg_sub (pe_var hN hv hd hcd) hix.pe set_list hsub) hs hw h1, fun w σ ρ D DD hA I q k => ?_⟩
  refine h.run w σ ρ _ _ hA I q fun u r1 w1 ρ1 s1 I1 R1 q1 => ?_
  obtain ⟨d, ρ2, w2, I2, s2, hh, hrep, q2⟩ := frz_ok I1 R1 q1
  obtain ⟨q0, q2⟩ := q2
  obtain ⟨io0, ds0, e0, _⟩ := ownK_inv q0
  obtain ⟨l, vs0, g1, g2, _⟩ := own_at I2 e0
  refine ⟨.ref l, g1, ?_⟩
  rw [← hh]
  refine hix.run w2 σ ρ2 _ _ (C.cl _ _ hA (s1.trans s2)) I2 q2 fun v2 r2 w3 ρ3 s3 I3 R3 q3 => ?_
  obtain ⟨x, tx, q4⟩ := vw_top I3 R3 q3
  obtain ⟨io, ds, e3, q5⟩ := ownK_inv q4
  obtain ⟨l', vs, f1, f2, f3⟩ := own_at I3 e3
  rw [g1] at f1
  cases f1
  cases x with
  | int z =>
    cases tx
    have q5 : (match ixN ds.length z with | some j => DD.nx (ρ3.set i (.own io (ds.set j d))) | none => False) := q5
    cases ej : ixN ds.length z with
    | none => rw [ej] at q5; exact q5.elim
    | some j =>
      rw [ej] at q5
      refine ⟨l, vs, z, j, rfl, rfl, f2, by rw [f3.len]; exact ej, ?_⟩
      obtain ⟨I4, s4⟩ := I3.mut e3 g1 (f3.setAt j (rep_mono s3.g _ _ hrep))
      exact k.nx ⟨w3.G, upd w3.H l _, w3.F⟩ σ _ (((s1.trans s2).trans s3).trans s4) I4 q5
  | _ => exact q5.elim
/-- xs.pop(), xs in slot i -/
def dPop (i : Nat) : TED := fun ρ Q => ownK ρ i fun io ds => match ds[ds.length - 1]? with
  | some d => Q (.d d) (ρ.set i (.own io ds.dropLast))
  | none => False
theorem Reps.drop1 {G : Hp} : ∀ {vs : List V} {ds : List PyData}, Reps X.K G vs ds → Reps X.K G vs.dropLast ds.dropLast
  | _, _, .nil => .nil
  | _, _, .cons _ .nil => .nil
  | _, _, .cons r (.cons q t) => .cons r (Reps.drop1 (.cons q t))
theorem de_pop (i : Nat) (hN : X.N[i]? = some y := by rfl) (hv : Vis X.env.scope y := by first | exact Or.inl rfl | exact Or.inr (Or.inl rfl) | exact Or.inr (Or.inr rfl)) (hd : (y == ("__debug__" : Str)) = false := by decide) (hcd : (y == ("__classdict__" : Str)) = false := by decide)
    (hbase : attributeBase (.Name y py) "pop" X.env (eval (.Name y py) X.env) = eval (.Name y py) X.env := by rfl) (hline : (apos.endLine == cpos.line) = true := by rfl) :
    DE C (.Call (.Attribute (.Name y py) "pop" apos) [] [] cpos) (tBM0 X.K "list" rPop (tVar i)) (dPop i) := by
  refine ⟨pe_bm0 PySem.F.plainAttrs_list PySem.F.slot_list_pop PySem.F.type_list_pop mt_pop (pe_var hN hv hd hcd) hbase hline, fun w σ ρ Q QD hA I q k => ?_⟩
  obtain ⟨io, ds, e, q1⟩ := ownK_inv q
  obtain ⟨l, vs, h1, h2, h3⟩ := own_at I e
  have q1 : (match ds[ds.length - 1]? with | some d => QD (.d d) (ρ.set i (.own io ds.dropLast)) | none => False) := q1
  cases el : ds[ds.length - 1]? with
  | none => rw [el] at q1; exact q1.elim
  | some d =>
    rw [el] at q1
    obtain ⟨v, hv1, hv2⟩ := h3.get el
    refine ⟨.ref l, h1, .inl ⟨rfl, vs, SqL.of h2⟩, l, vs, v, rfl, rfl, h2, by rw [h3.len]; exact hv1, ?_⟩
    obtain ⟨I3, s3⟩ := I.mut e h1 h3.drop1
    exact k v (.d d) ⟨w.G, upd w.H l _, w.F⟩ _ s3 I3 hv2 q1
end
end DL

end
section
set_option maxHeartbeats 4000000
/-! DLH: names with an operator, bools as ints, three names at once, lists unpacked, raise, pairs walked, comprehensions. -/
namespace DL
open PySem PySem.Spec L2
section
variable {X : Cx} {C : DC X} {a b c e tg iter : Expr} {ta tb tc te : TE} {da db dc de : TED} {pos : Pos} {es : List Expr} {tr : TA} {dr : TND}

/-! ### bools as ints -/
def bi (b : Bool) : Int := if b = true then 1 else 0
def rSubU : R2 := fun x y H Q => rI0 (fun i j => .int (i - j)) x y H Q ∨ ∃ p q, x = .bl p ∧ y = .bl q ∧ Q (.int (bi p - bi q)) H
theorem op_subB : OpR X (binaryOp .Sub) (fun x y H Q => ∃ p q, x = .bl p ∧ y = .bl q ∧ Q (.int (bi p - bi q)) H) := by
  intro pins s σ H x y v u Q I rx ry h
  obtain ⟨p, k, rfl, rfl, q⟩ := h
  cases rx
  cases ry
  exact PyProof.Rows.sub_bool ⟨.int (bi p - bi k), H, I.tok _, ⟨_, rfl⟩, q⟩
def dSub (x y : PyData) (k : PyData → Prop) : Prop := match x, y with
  | .int i, .int j => k (.int (i - j))
  | .bool p, .bool q => k (.int (bi p - bi q))
  | _, _ => False
theorem od_subU : OpR X (binaryOp .Sub) rSubU ∧ OpD X C rSubU dSub := by
  refine ⟨opr_or op_sub op_subB, fun w σ ρ u v x y Q kd hA I tx ty h k => ?_⟩
  unfold dSub at h
  split at h
  · cases tx
    cases ty
    exact .inl ⟨_, _, rfl, rfl, k _ _ w (Stp.refl w) I (.int _) h⟩
  · cases tx
    cases ty
    exact .inr ⟨_, _, rfl, rfl, k _ _ w (Stp.refl w) I (.int _) h⟩
  · exact h.elim

/-! ### name op= value -/
theorem od_iadd : OpR X (inplaceOp .Add) (rI0 fun i j => .int (i + j)) ∧ OpD X C (rI0 fun i j => .int (i + j)) (dI0 fun i j => i + j) := ⟨iop_add, opd_I0⟩
theorem od_isub : OpR X (inplaceOp .Sub) (rI0 fun i j => .int (i - j)) ∧ OpD X C (rI0 fun i j => .int (i - j)) (dI0 fun i j => i - j) := ⟨iop_sub, opd_I0⟩
theorem iop_mulW : OpR X (inplaceOp .Mult) (rI CMulW fun i j => .int (i * j)) := opI fun _ _ _ _ _ _ _ hc q => PyProof.Rows.imul_int q hc.ok
theorem od_imul : OpR X (inplaceOp .Mult) (rI CMulW fun i j => .int (i * j)) ∧ OpD X C (rI CMulW fun i j => .int (i * j)) (dI CMulW fun i j => i * j) := ⟨iop_mulW, opd_I⟩
theorem iop_fdivF : OpR X (inplaceOp .FloorDiv) (rI CDivF fun i j => .int (i.fdiv j)) := opI fun _ _ _ _ _ _ _ hc q => PyProof.Rows.ifloordiv_int hc.1 q (.inl (PyProof.noPylong_of_log2 hc.2))
theorem od_ifdiv : OpR X (inplaceOp .FloorDiv) (rI CDivF fun i j => .int (i.fdiv j)) ∧ OpD X C (rI CDivF fun i j => .int (i.fdiv j)) (dI CDivF fun i j => i.fdiv j) := ⟨iop_fdivF, opd_I⟩
def rIAddS : R2 := fun x y H Q => ∃ i j, x = .str i ∧ y = .str j ∧ i.length + j.length ≤ sizeLine ∧ Q (.str (i ++ j)) H
def rIAddU : R2 := fun x y H Q => rI0 (fun i j => .int (i + j)) x y H Q ∨ rIAddS x y H Q
def dIAdd (x y : PyData) (k : PyData → Prop) : Prop := match x, y with
  | .int i, .int j => k (.int (i + j))
  | .str i, .str j => i.length + j.length ≤ sizeLine ∧ k (.str (i ++ j))
  | _, _ => False
theorem od_iaddU : OpR X (inplaceOp .Add) rIAddU ∧ OpD X C rIAddU dIAdd := by
  refine ⟨opr_or iop_add iop_add_str, fun w σ ρ u v x y Q kd hA I tx ty h k => ?_⟩
  unfold dIAdd at h
  split at h
  · cases tx
    cases ty
    exact .inl ⟨_, _, rfl, rfl, k _ _ w (Stp.refl w) I (.int _) h⟩
  · cases tx
    cases ty
    exact .inr ⟨_, _, rfl, rfl, h.1, k _ _ w (Stp.refl w) I (.str _) h.2⟩
  · exact h.elim
def sAug (i : Nat) (de : TED) (f : PyData → PyData → (PyData → Prop) → Prop) : TSD := fun D ρ => match ρ[i]? with
  | some (.val x) => de ρ fun r ρ1 => vw ρ1 r fun y => f x y fun z => D.nx (ρ1.set i (.val z))
  | _ => False
theorem ds_aug (i : Nat) {x : Str} {op : Operator} {r : R2} {f : PyData → PyData → (PyData → Prop) → Prop} {pos' : Pos} (ho : OpR X (inplaceOp op) r ∧ OpD X C r f) (h : DE C e te de) (hi : X.N[i]? = some x := by rfl) (hx : Loc X.env.scope x := by first | exact Or.inl rfl | exact Or.inr rfl)
    (hf : X.fn x = true ∨ X.env.scope.names.lookup x = some .local := by first | exact .inl rfl | exact .inr rfl) : DS C (.AugAssign (.Name x pos') op e pos) (tAug i te r) (sAug i de f) := by
  refine ⟨ps_aug C.nd hi hx h.pe (fun pins s σ H x y v u Q I rx ry h => ho.1 pins s σ H x y v u Q I rx ry h) hf, fun w σ ρ D DD hA I q k => ?_⟩
  have q : (match ρ[i]? with
    | some (.val x) => de ρ fun r ρ1 => vw ρ1 r fun y => f x y fun z => DD.nx (ρ1.set i (.val z))
    | _ => False) := q
  cases e0 : ρ[i]? with
  | none => rw [e0] at q; exact q.elim
  | some s =>
    rw [e0] at q
    cases s with
    | no => exact q.elim
    | own _ _ => exact q.elim
    | res _ _ => exact q.elim
    | val xd =>
      obtain ⟨_, u, e1, hr⟩ := I.ok i _ e0
      refine ⟨u, e1, h.run w σ ρ _ _ hA I q fun v r1 w1 ρ1 s1 I1 R1 q1 => ?_⟩
      obtain ⟨y, ty, q2⟩ := vw_top I1 R1 q1
      refine ho.2 w1 σ ρ1 u v xd y _ _ (C.cl _ _ hA s1) I1 (rep_top I1.gh (rep_mono s1.g _ _ hr)) ty q2 fun z d w2 s2 I2 R2 q3 => ?_
      have z2 := I2.set (i := i) R2
      exact k.nx ⟨w2.G, w2.H, fun j => if j = i then [] else w2.F j⟩ _ _ ((s1.trans s2).trans z2.2) z2.1 q3

/-! ### a, b, c = x, y, z -/
def asThree (ds : List PyData) (k : PyData → PyData → PyData → Prop) : Prop := match ds with | [x, y, z] => k x y z | _ => False
def sPar3 (i j l : Nat) (t : TND) : TSD := fun D ρ => t ρ fun ds ρ1 => asThree ds fun x y z => D.nx (((ρ1.set i (.val x)).set j (.val y)).set l (.val z))
theorem asThree_inv {ds : List PyData} {k : PyData → PyData → PyData → Prop} (h : asThree ds k) : ∃ x y z, ds = [x, y, z] ∧ k x y z := by
  unfold asThree at h
  split at h
  · exact ⟨_, _, _, rfl, h⟩
  · exact h.elim
theorem ds_par3 {i j l : Nat} {x y z : Str} {px py pz pt : Pos} {kt k2 pt2} (ha : DA C [a, b, c] tr dr) (hi : X.N[i]? = some x := by rfl) (hj : X.N[j]? = some y := by rfl) (hl : X.N[l]? = some z := by rfl) (hij : i ≠ j := by decide) (hil : i ≠ l := by decide) (hjl : j ≠ l := by decide)
    (hx : X.env.scope.names.lookup x = some .local := by rfl) (hy : X.env.scope.names.lookup y = some .local := by rfl) (hz : X.env.scope.names.lookup z = some .local := by rfl)
    (hw : swappedStores [.Tuple [.Name x px, .Name y py, .Name z pz] kt pt] (.Tuple [a, b, c] k2 pt2) X.env = pure (some [x, y, z]) := by rfl)
    (hs : swapsWithSole [.Tuple [.Name x px, .Name y py, .Name z pz] kt pt] (.Tuple [a, b, c] k2 pt2) pos.line X.env = pure false := by rfl) :
    DS C (.Assign [.Tuple [.Name x px, .Name y py, .Name z pz] kt pt] (.Tuple [a, b, c] k2 pt2) pos) (tPar3 i j l tr) (sPar3 i j l dr) := by
  refine ⟨ps_par3 C.calm C.nd hi hj hl hij hil hjl hx hy hz ha.pa hw hs, fun w σ ρ D DD hA I q k => ?_⟩
  refine ha.run w σ ρ _ _ hA I q fun vs ds w1 ρ1 s1 I1 R1 q1 => ?_
  obtain ⟨x1, x2, x3, rfl, q2⟩ := asThree_inv q1
  cases R1 with
  | cons r1 R1 =>
    cases R1 with
    | cons r2 R1 =>
      cases R1 with
      | cons r3 R1 =>
        cases R1
        have z1 := I1.set (i := i) r1
        have z2 := z1.1.set (i := j) r2
        have z3 := z2.1.set (i := l) r3
        exact ⟨_, _, _, rfl, k.nx ⟨w1.G, w1.H, fun j' => if j' = l then [] else if j' = j then [] else if j' = i then [] else w1.F j'⟩ _ _ (((s1.trans z1.2).trans z2.2).trans z3.2) z3.1 q2⟩

/-! ### a list unpacked -/
def gLst' (r : TGsD) : TGD := fun x ρ k => match x with | .list xs => r xs ρ k | _ => False
theorem dg_lst {tgs : List Expr} {gs : TGs} {T : List Nat} {ds : TGsD} {k0 : Nat} {n : Nat} (h : DGs C tgs gs T ds) (hn : (assignEach tgs X.env).length = n := by rfl) (hst : (assignEach tgs X.env).findIdx? (·.1) = none := by rfl) :
    DG C (.Tuple tgs k0 pos) (gLst X.K n gs) T (gLst' (lenIs n ds)) := by
  refine ⟨pg_lst C.calm h.pgs hn hst, fun w σ ρ v x Q QD hA I hr q k => ?_⟩
  cases x with
  | list xs =>
    cases hr with
    | lst hs ha =>
      obtain ⟨hl, q⟩ := q
      exact ⟨_, _, rfl, SqL.of (I.gh _ _ hs), by rw [ha.len]; exact hl, h.run w σ ρ _ _ _ _ hA I ha q k⟩
  | _ => exact q.elim

/-! ### raise -/
def sRaise (W : WD) (cls : Addr) : TSD := fun _ ρ => W ⟨cls, []⟩ ρ
theorem ds_raise {cls : Addr} (h : PMk X e (fun _ H Q => Q (.ref cls) none H)) : DS C (.Raise (some e) none pos) (fun _ σ H => C.WH (.ref cls) none σ H) (sRaise C.W cls) :=
  ⟨ps_raise C.calm C.tk h, fun w σ ρ D DD hA I q k => C.hW ⟨cls, []⟩ ρ σ w (.ref cls) none hA I ⟨rfl, .inl ⟨rfl, rfl⟩⟩ q⟩

/-! ### pairs walked -/
def enumD (ds : List PyData) : List PyData := ds.zipIdx.map fun p => .tuple [.int (p.2 : Int), p.1]
def asL1 (ds : List PyData) (k : List PyData → Prop) : Prop := match ds with | [.list xs] => k xs | _ => False
theorem asL1_inv {ds : List PyData} {k : List PyData → Prop} (h : asL1 ds k) : ∃ xs, ds = [.list xs] ∧ k xs := by
  unfold asL1 at h
  split at h
  · exact ⟨_, rfl, h⟩
  · exact h.elim
def enumI (dr : TND) : TND := fun ρ Q => dr ρ fun ds ρ1 => asL1 ds fun xs => Q (enumD xs) ρ1
theorem di_enum {p tpos : Pos} {elts : List Expr} {kk : Nat} (hm : X.mg "enumerate" = none) (ha : DA C [e] tr dr) (hg : Gl X "enumerate" := by rfl) (hs : starEach [e] X.env = [(false, eval e X.env)] := by rfl) :
    DI C (.Tuple elts kk tpos) (.Call (.Name "enumerate" p) [e] [] pos) (iEnum X.K tr) (enumI dr) := by
  refine ⟨pi_enum hg hm ha.pa hs, fun w σ ρ Q QD hA I q k => ?_⟩
  refine ha.run w σ ρ _ _ hA I q fun vs ds w1 ρ1 s1 I1 R1 q1 => ?_
  obtain ⟨xs, rfl, q2⟩ := asL1_inv q1
  cases R1 with
  | cons r R1 =>
    cases R1
    cases r with
    | lst hg hr =>
      rename_i l us
      have len : (enumD xs).length = us.length := by unfold enumD; rw [List.length_map, List.length_zipIdx, hr.len]
      refine ⟨l, us, rfl, SqL.of (I1.gh _ _ hg), k (Ite X.K l) (enumD xs) w1 ρ1 s1 I1 ⟨fun i H hi s => ?_, fun H s => ⟨us, SqL.of (s _ _ hg), by rw [len]; exact Nat.le_refl _⟩, fun i H x H' hi s y => ?_⟩ q2⟩
      · have hi' : i < us.length := by rw [← len]; exact hi
        exact ⟨us, us[i], SqL.of (s _ _ hg), by simp [hi']⟩
      · obtain ⟨T, u, rfl, hT, rfl, hx⟩ := y
        obtain ⟨d, hd, rd⟩ := hr.get' (hx us (SqL.of (s _ _ hg)))
        refine ⟨.tuple [.int (i : Int), d], ?_, .inr ⟨T, _, u, .int (i : Int), d, rfl, hT, rfl, rfl, .int _, rd⟩⟩
        unfold enumD
        rw [List.getElem?_map, List.getElem?_zipIdx, hd]
        simp
def asL2 (ds : List PyData) (k : List PyData → List PyData → Prop) : Prop := match ds with | [.list xs, .list ys] => k xs ys | _ => False
theorem asL2_inv {ds : List PyData} {k : List PyData → List PyData → Prop} (h : asL2 ds k) : ∃ xs ys, ds = [.list xs, .list ys] ∧ k xs ys := by
  unfold asL2 at h
  split at h
  · exact ⟨_, _, rfl, h⟩
  · exact h.elim
def zipD (xs ys : List PyData) : List PyData := (xs.zip ys).map fun p => .tuple [p.1, p.2]
def zipI (dr : TND) : TND := fun ρ Q => dr ρ fun ds ρ1 => asL2 ds fun xs ys => Q (zipD xs ys) ρ1
theorem di_zip {p tpos : Pos} {elts : List Expr} {kk : Nat} {e2 : Expr} (hm : X.mg "zip" = none) (ha : DA C [e, e2] tr dr) (hg : Gl X "zip" := by rfl) (hs : starEach [e, e2] X.env = (false, eval e X.env) :: starEach [e2] X.env := by rfl) (hpl : (backTo pos (starEach [e2] X.env)).any (·.1) = false := by rfl) :
    DI C (.Tuple elts kk tpos) (.Call (.Name "zip" p) [e, e2] [] pos) (iZip X.K tr) (zipI dr) := by
  refine ⟨pi_zip hg hm ha.pa hs hpl, fun w σ ρ Q QD hA I q k => ?_⟩
  refine ha.run w σ ρ _ _ hA I q fun vs ds w1 ρ1 s1 I1 R1 q1 => ?_
  obtain ⟨xs, ys, rfl, q2⟩ := asL2_inv q1
  cases R1 with
  | cons r R1 =>
    cases R1 with
    | cons r' R1 =>
      cases R1
      cases r with
      | lst hg1 hr1 =>
        cases r' with
        | lst hg2 hr2 =>
          rename_i l us m ws
          have len : (zipD xs ys).length = min us.length ws.length := by unfold zipD; rw [List.length_map, List.length_zip, hr1.len, hr2.len]
          refine ⟨l, m, us, ws, rfl, SqL.of (I1.gh _ _ hg1), SqL.of (I1.gh _ _ hg2), k (Itz X.K l m) (zipD xs ys) w1 ρ1 s1 I1 ⟨fun i H hi s => ?_, fun H s => ⟨us, ws, SqL.of (s _ _ hg1), SqL.of (s _ _ hg2), by rw [len]; omega⟩, fun i H x H' hi s y => ?_⟩ q2⟩
          · rw [len] at hi
            have h1 : i < us.length := by omega
            have h2 : i < ws.length := by omega
            exact ⟨us, ws, us[i], ws[i], SqL.of (s _ _ hg1), SqL.of (s _ _ hg2), by simp [h1], by simp [h2]⟩
          · obtain ⟨T, u, v, rfl, hT, rfl, hx, hy⟩ := y
            obtain ⟨d, hd, rd⟩ := hr1.get' (hx us (SqL.of (s _ _ hg1)))
            obtain ⟨d', hd', rd'⟩ := hr2.get' (hy ws (SqL.of (s _ _ hg2)))
            refine ⟨.tuple [d, d'], ?_, .inr ⟨T, u, v, d, d', rfl, hT, rfl, rfl, rd, rd'⟩⟩
            unfold zipD
            rw [List.getElem?_map, (List.getElem?_zip_eq_some (z := (d, d'))).mpr ⟨hd, hd'⟩]
            rfl

/-! ### comprehensions -/
def wipeD (ρ : DSt) : List Nat → DSt
  | [] => ρ
  | v :: vs => (wipeD ρ vs).set v .no
theorem FI.wipe {K : PySem.W.Frag} {P : Par} {σ : St} : ∀ {vs : List Nat} {w : Wd} {ρ : DSt}, FI K P w σ ρ → ∃ w', w'.G = w.G ∧ w'.H = w.H ∧ FI K P w' σ (wipeD ρ vs) ∧ Stp w w' ∧ ∀ i b, b ∈ w'.F i → b ∈ w.F i
  | [], w, ρ, I => ⟨w, rfl, rfl, I, Stp.refl w, fun _ _ h => h⟩
  | v :: vs, w, ρ, I => by
    obtain ⟨w1, g, h, I1, s1, f1⟩ := FI.wipe (vs := vs) I
    obtain ⟨I2, s2⟩ := I1.drop v
    refine ⟨⟨w1.G, w1.H, fun j => if j = v then [] else w1.F j⟩, g, h, I2, s1.trans s2, fun i b hb => f1 i b ?_⟩
    have hb : b ∈ (if i = v then ([] : List Addr) else w1.F i) := hb
    by_cases e : i = v
    · rw [if_pos e] at hb; cases hb
    · rw [if_neg e] at hb; exact hb
theorem wipeD_len (ρ : DSt) : ∀ vs : List Nat, (wipeD ρ vs).length = ρ.length
  | [] => rfl
  | v :: vs => by unfold wipeD; rw [List.length_set, wipeD_len ρ vs]
theorem wipeD_in {ρ : DSt} {i : Nat} {s : SD} : ∀ {vs : List Nat}, (wipeD ρ vs)[i]? = some s → i ∈ vs → s = .no
  | v :: vs, h, hm => by
    unfold wipeD at h
    by_cases e : v = i
    · subst e
      have hlt : v < (wipeD ρ vs).length := by
        rcases Nat.lt_or_ge v (wipeD ρ vs).length with q | q
        · exact q
        · rw [List.getElem?_eq_none (by rw [List.length_set]; exact q)] at h; cases h
      rw [List.getElem?_set_self hlt] at h
      cases h; rfl
    · rw [List.getElem?_set_ne e] at h
      exact wipeD_in h (by rcases List.mem_cons.mp hm with q | q; exact absurd q.symm e; exact q)
theorem wipe_in {σ : St} {i : Nat} : ∀ {vs : List Nat}, i ∈ vs → (L2.wipe σ vs)[i]? = if i < σ.length then some none else none
  | v :: vs, h => by
    show ((L2.wipe σ vs).set v none)[i]? = _
    by_cases e : v = i
    · subst e
      rw [List.getElem?_set, if_pos rfl, wipe_length]
    · rw [List.getElem?_set_ne e]
      exact wipe_in (by rcases List.mem_cons.mp h with q | q; exact absurd q.symm e; exact q)
theorem wipe_idem (σ : St) (vs : List Nat) : L2.wipe (L2.wipe σ vs) vs = L2.wipe σ vs := by
  refine List.ext_getElem? fun i => ?_
  by_cases h : i ∈ vs
  · rw [wipe_in h, wipe_in h, wipe_length]
  · rw [wipe_out h, wipe_out h]
/-- the block's slots: what was wiped may hold anything -/
theorem FI.other {K : PySem.W.Frag} {P : Par} {w : Wd} {σ σ' : St} {ρ : DSt} {vs : List Nat} (I : FI K P w σ ρ) (hn : ∀ i ∈ vs, ∀ s, ρ[i]? = some s → s = .no) (hl : σ'.length = σ.length) (he : ∀ i, i ∉ vs → σ'[i]? = σ[i]?) : FI K P w σ' ρ := by
  refine ⟨I.gh, by rw [hl]; exact I.len, fun i s e => ?_, I.out, I.foot, I.sep⟩
  by_cases hi : i ∈ vs
  · have := hn i hi s e
    subst this
    exact I.ok i _ e
  · rw [he i hi]
    exact I.ok i s e
/-- the context of a comprehension's block: no exception comes out of it -/
def DC.blk {X : Cx} (C : DC X) (s : Shared) (H : Hp) (scope : Scope) (cenv : Env) (fp : List Addr) : DC (X.blk s H scope cenv fp) :=
  { P := C.P, A := C.A, cl := C.cl, nw := C.nw, gd := C.gd, calm := C.calm, nd := C.nd, un := C.un, W := fun _ _ => False, WH := fun _ _ _ _ => False,
    tk := fun u s' ⟨_, _, _, _, _, _, _, _, _, _, _, _, _, _, _, _, w⟩ => w, hW := fun _ _ _ _ _ _ _ _ _ h => h }
def lcD (vs : List Nat) (g : TGD) (t : TTD) (te : TED) : List PyData → List PyData → DSt → (List PyData → DSt → Prop) → Prop
  | [], acc, ρ, Q => Q acc ρ
  | x :: xs, acc, ρ, Q => g x ρ fun ρ1 => t ρ1 fun b ρ2 => match b with
    | true => te ρ2 fun r ρ3 => frz ρ3 r fun d ρ4 => acc.length < sizeLine ∧ lcD vs g t te xs (acc ++ [d]) (wipeD ρ4 vs) Q
    | false => lcD vs g t te xs acc (wipeD ρ2 vs) Q
def nLc (vs : List Nat) (ti : TND) (g : TGD) (t : TTD) (te : TED) : TND := fun ρ Q => ti ρ fun items ρ1 => lcD vs g t te items [] (wipeD ρ1 vs) Q
def dYes : TTD := fun ρ Q => Q true ρ
/-- the tests of a clause -/
structure DTs (C : DC X) (ifs : List Expr) (tt : TT) (t : TTD) : Prop where
  pts : PTs X ifs tt
  run : ∀ (w : Wd) (σ : St) (ρ : DSt) (Q : Bool → Hp → Prop) (QD : Bool → DSt → Prop), C.A w → FI X.K C.P w σ ρ → t ρ QD →
    (∀ b w' ρ', Stp w w' → FI X.K C.P w' σ ρ' → QD b ρ' → Q b w'.H) → tt σ w.H Q
theorem dts_nil : DTs C [] tYes dYes := ⟨pts_nil, fun w σ ρ Q QD hA I q k => k true w ρ (Stp.refl w) I q⟩
theorem dts_one {ua : TT} {xa : TTD} (h : DT C c ua xa) : DTs C [c] ua xa := ⟨pts_one h.pt, h.run⟩
abbrev BlkEnv (X : Cx) (scope : Scope) (cl : List (Str × Addr)) (Ca : Addr) : Env := compEnvC scope cl Ca X.env
section
variable {elt : Expr} {ifs : List Expr} {scope : Scope} {own : List (Str × Nat)} {wi : TI} {ti : TND} {g : TG} {T : List Nat} {d : TGD} {tt : TT} {t : TTD}
theorem lc_run (hi : DI C tg iter wi ti)
    (hg : ∀ (s : Shared) (H : Hp) (Ca : Addr) (cl : List (Str × Addr)) (fp : List Addr), DG (C.blk s H scope (compEnvC scope cl Ca X.env) fp) tg g T d)
    (ht : ∀ (s : Shared) (H : Hp) (Ca : Addr) (cl : List (Str × Addr)) (fp : List Addr), DTs (C.blk s H scope (compEnvC scope cl Ca X.env) fp) ifs tt t)
    (he : ∀ (s : Shared) (H : Hp) (Ca : Addr) (cl : List (Str × Addr)) (fp : List Addr), DE (C.blk s H scope (compEnvC scope cl Ca X.env) fp) elt te de) (hT : ∀ i ∈ T, i ∈ own.map (·.2)) :
    ∀ (w : Wd) (σ : St) (ρ : DSt) (Q : VK) (QD : List PyData → DSt → Prop), C.A w → FI X.K C.P w σ ρ → nLc (own.map (·.2)) ti d t de ρ QD →
    (∀ a vs ds w' ρ', Stp w w' → FI X.K C.P w' σ ρ' → w.H a = none → w'.G a = none → (∀ i, a ∉ w'.F i) → w'.H a = some (.lst vs) → Reps X.K w'.G vs ds → QD ds ρ' → Q (.ref a) w'.H) → tLc wi g tt te (own.map (·.2)) σ w.H Q := by
  intro w σ ρ Q QD hA I q k
  have gg := hg X.s_0 X.H_0 0 [] []
  have tt' := ht X.s_0 X.H_0 0 [] []
  have ee := he X.s_0 X.H_0 0 [] []
  refine hi.run w σ ρ _ _ hA I q fun J items w1 ρ1 s1 I1 WK q1 D hD => ?_
  obtain ⟨v1, g1, h1, J1, s2, f1⟩ := FI.wipe (vs := own.map (·.2)) I1
  have hD1 : v1.H D = none := by rw [h1]; exact hD
  obtain ⟨J2, s3⟩ := FI.air J1 (o := .lst []) hD1
  have s03 := s2.trans s3
  refine ⟨fun i m H' => m = items.length - i ∧ i ≤ items.length ∧ ∃ w' ρ' us ds, w'.H = H' ∧ Stp v1 w' ∧ FI X.K C.P w' σ ρ' ∧ w'.H D = some (.lst us) ∧ Reps X.K w'.G us ds ∧ w'.G D = none ∧ (∀ i, D ∉ w'.F i) ∧
    (∀ j ∈ own.map (·.2), ∀ s, ρ'[j]? = some s → s = .no) ∧ lcD (own.map (·.2)) d t de (items.drop i) ds ρ' QD,
    ⟨items.length, by simp, Nat.zero_le _, ⟨v1.G, upd v1.H D (.lst []), v1.F⟩, wipeD ρ1 (own.map (·.2)), [], [], by rw [h1], s3, J2, upd_same, .nil, (J1.fresh hD1).1, fun i z => (J1.fresh hD1).2 i D z rfl, fun j hj s e => wipeD_in e hj, by rw [List.drop_zero]; exact q1⟩, ?_⟩
  rintro i m H' ⟨rfl, hi2, w2, ρ2, us, ds, rfl, s4, I2, hD2, R2, hG2, hF2, hno, q2⟩
  have hA2 := C.cl _ _ (C.cl _ _ (C.cl _ _ hA s1) s2) s4
  have g12 : Same w1.G w2.G := fun b o h => s4.g b o (by rw [g1]; exact h)
  have gH : Same w1.G w2.H := fun b o h => I2.gh b o (g12 b o h)
  by_cases hlt : i < items.length
  · refine .inr ⟨WK.go i _ hlt gH, fun H' => ∃ w' ρ' us ds, w'.H = H' ∧ Stp v1 w' ∧ FI X.K C.P w' σ ρ' ∧ w'.H D = some (.lst us) ∧ Reps X.K w'.G us ds ∧ w'.G D = none ∧ (∀ i, D ∉ w'.F i) ∧
      (∀ j ∈ own.map (·.2), ∀ s, ρ'[j]? = some s → s = .no) ∧ lcD (own.map (·.2)) d t de (items.drop (i + 1)) ds ρ' QD, fun H' h => ⟨items.length - (i + 1), by omega, rfl, hlt, h⟩, fun x H' y => ?_⟩
    obtain ⟨z, w3, hz, rfl, s5, I3, r3⟩ := item_come WK I2 g12 hlt y
    have ed : items.drop i = z :: items.drop (i + 1) := by
      have e1 := List.getElem?_eq_some_iff.mp hz
      rw [List.drop_eq_getElem_cons hlt, e1.2]
    rw [ed] at q2
    have I3' : FI X.K C.P w3 (L2.wipe σ (own.map (·.2))) ρ2 := I3.other hno (wipe_length σ _) fun i hi => wipe_out hi
    refine gg.run w3 _ ρ2 x z _ _ (C.cl _ _ hA2 s5) I3' r3 q2 fun w4 σ4 ρ4 s6 I4 e4 q4 => ?_
    have e4 : L2.wipe σ4 (own.map (·.2)) = L2.wipe σ (own.map (·.2)) := (e4 _ hT).trans (wipe_idem σ _)
    refine ⟨e4, tt'.run w4 σ4 ρ4 _ _ (C.cl _ _ (C.cl _ _ hA2 s5) s6) I4 q4 fun b w5 ρ5 s7 I5 q5 => ?_⟩
    have s57 := (s5.trans s6).trans s7
    -- what stays of D
    have fin : ∀ (w6 : Wd) (ρ6 : DSt), Stp w2 w6 → FI X.K C.P w6 σ4 ρ6 → w6.H D = some (.lst us) ∧ w6.G D = none ∧ (∀ i, D ∉ w6.F i) ∧ ∃ w7, w7.G = w6.G ∧ w7.H = w6.H ∧ FI X.K C.P w7 σ (wipeD ρ6 (own.map (·.2))) ∧ Stp w2 w7 ∧ (∀ i, D ∉ w7.F i) := by
      intro w6 ρ6 s I6
      have hF6 : ∀ i, D ∉ w6.F i := fun i z => by
        rcases s.f i D z with q | q
        · exact hF2 i q
        · rw [hD2] at q; cases q
      obtain ⟨w7, g7, h7, I7, s8, f7⟩ := FI.wipe (vs := own.map (·.2)) I6
      have hl : σ.length = σ4.length := by rw [← wipe_length σ (own.map (·.2)), ← e4, wipe_length]
      refine ⟨s.h D _ hD2 hF2, s.gf D (by rw [hD2]; exact fun z => nomatch z) hG2 hF2, hF6, w7, g7, h7, I7.other (fun j hj s e => wipeD_in e hj) hl fun j hj => ?_, s.trans s8, fun i z => hF6 i (f7 i D z)⟩
      rw [← wipe_out (σ := σ) hj, ← e4, wipe_out hj]
    cases b with
    | false =>
      rw [if_neg Bool.false_ne_true]
      obtain ⟨a1, a2, a3, w7, g7, h7, I7, s7', f7⟩ := fin w5 ρ5 s57 I5
      exact ⟨w7, _, us, ds, h7, s4.trans s7', I7, by rw [h7]; exact a1, by rw [g7]; exact reps_mono s57.g _ _ R2, by rw [g7]; exact a2, f7, fun j hj s e => wipeD_in e hj, q5⟩
    | true =>
      rw [if_pos rfl]
      refine ee.run w5 σ4 ρ5 _ _ (C.cl _ _ hA2 s57) I5 q5 fun v r w6 ρ6 s8 I6 R6 q6 => ?_
      obtain ⟨dd, ρ7, w7, I7, s9, hh, hrep, q7⟩ := frz_ok I6 R6 q6
      obtain ⟨hsz, q7⟩ := q7
      have s79 := (s57.trans s8).trans s9
      obtain ⟨a1, a2, a3, w8, g8, h8, I8, s8', f8⟩ := fin w7 ρ7 s79 I7
      have RR : Reps X.K w8.G us ds := by rw [g8]; exact reps_mono s79.g _ _ R2
      have hG8 : w8.G D = none := by rw [g8]; exact a2
      refine ⟨us, by rw [← hh]; exact a1, by rw [RR.len]; exact hsz, ⟨w8.G, upd w8.H D (.lst (us ++ [v])), w8.F⟩, _, us ++ [v], ds ++ [dd], by rw [h8, hh], ?_, ?_, upd_same, RR.app (.cons (by rw [g8]; exact hrep) .nil), hG8, f8, fun j hj s e => wipeD_in e hj, q7⟩
      · have S := s4.trans s8'
        exact ⟨S.g, S.gf, fun b o h n => by
          show upd w8.H D _ b = some o
          rw [upd_ne (ne_of_none h hD1)]
          exact S.h b o h n, fun b h => there_new b (S.t b h), S.f⟩
      · refine ⟨fun b o h => ?_, I8.len, fun i s e => (I8.ok i s e).go (fun _ _ h => h) fun b hb o h => ?_, I8.out, fun i b hb => ⟨(I8.foot i b hb).1, there_new b (I8.foot i b hb).2⟩, I8.sep⟩
        · show upd w8.H D _ b = some o
          rw [upd_ne (ne_of_none h hG8)]
          exact I8.gh b o h
        · show upd w8.H D _ b = some o
          rw [upd_ne (fun z => f8 i (by rw [← z]; exact hb))]
          exact h
  · have e : i = items.length := by omega
    subst e
    rw [List.drop_length] at q2
    have hw : w.H D = none := by
      cases e0 : w.H D with
      | none => rfl
      | some o => exact absurd hD (s1.t D (by rw [e0]; exact fun z => nomatch z))
    exact .inl ⟨WK.stop _ gH, k D us ds w2 ρ2 ((s1.trans s2).trans s4) I2 hw hG2 hF2 hD2 R2 q2⟩
/-! the same, each block's own spec left open -/
def teS (C : DC X) (de : TED) : TE := fun σ H Q => ∃ (w : Wd) (ρ : DSt) (QD : R → DSt → Prop), w.H = H ∧ C.A w ∧ FI X.K C.P w σ ρ ∧ de ρ QD ∧ (∀ v r w' ρ', Stp w w' → FI X.K C.P w' σ ρ' → RepR X.K w' σ v r → QD r ρ' → Q v w'.H)
def ttS (C : DC X) (t : TTD) : TT := fun σ H Q => ∃ (w : Wd) (ρ : DSt) (QD : Bool → DSt → Prop), w.H = H ∧ C.A w ∧ FI X.K C.P w σ ρ ∧ t ρ QD ∧ (∀ b w' ρ', Stp w w' → FI X.K C.P w' σ ρ' → QD b ρ' → Q b w'.H)
def tgS (C : DC X) (T : List Nat) (d : TGD) : TG := fun v σ H Q => ∃ (w : Wd) (ρ : DSt) (x : PyData) (QD : DSt → Prop), w.H = H ∧ C.A w ∧ FI X.K C.P w σ ρ ∧ Rep X.K w.G v x ∧ d x ρ QD ∧
  (∀ w' σ' ρ', Stp w w' → FI X.K C.P w' σ' ρ' → (∀ vs : List Nat, (∀ i ∈ T, i ∈ vs) → L2.wipe σ' vs = L2.wipe σ vs) → QD ρ' → Q σ' w'.H)
variable {s0 : Shared} {H0 : Hp} {cenv : Env} {fp : List Addr}
theorem blkE (h : ∃ te, DE (C.blk s0 H0 scope cenv fp) elt te de) : DE (C.blk s0 H0 scope cenv fp) elt (teS C de) de := by
  obtain ⟨te, h⟩ := h
  refine ⟨⟨fun pins s σ H Q I hh => ?_⟩, fun w σ ρ Q QD hA I q k => ⟨w, ρ, QD, rfl, hA, I, q, k⟩⟩
  obtain ⟨w, ρ, QD, rfl, hA, J, q, k⟩ := hh
  exact h.pe.run pins s σ w.H Q I (h.run w σ ρ Q QD hA J q k)
theorem blkT (h : ∃ tt, DTs (C.blk s0 H0 scope cenv fp) ifs tt t) : DTs (C.blk s0 H0 scope cenv fp) ifs (ttS C t) t := by
  obtain ⟨tt, h⟩ := h
  refine ⟨⟨fun pins s σ H Q I hh => ?_⟩, fun w σ ρ Q QD hA I q k => ⟨w, ρ, QD, rfl, hA, I, q, k⟩⟩
  obtain ⟨w, ρ, QD, rfl, hA, J, q, k⟩ := hh
  exact h.pts.run pins s σ w.H Q I (h.run w σ ρ Q QD hA J q k)
theorem blkG (h : ∃ g, DG (C.blk s0 H0 scope cenv fp) tg g T d) : DG (C.blk s0 H0 scope cenv fp) tg (tgS C T d) T d := by
  obtain ⟨g, h⟩ := h
  refine ⟨⟨fun pins s σ H v u Q I r hh => ?_⟩, fun w σ ρ v x Q QD hA I hr q k => ⟨w, ρ, x, QD, rfl, hA, I, hr, q, k⟩⟩
  obtain ⟨w, ρ, x, QD, rfl, hA, J, hr, q, k⟩ := hh
  exact h.pg.run pins s σ w.H v u Q I r (h.run w σ ρ v x Q QD hA J hr q k)
theorem dn_lc (own : List (Str × Nat)) (hi : DI C tg iter wi ti) (ok : blkC X.N X.env.scope scope own = true)
    (hg : ∀ (s : Shared) (H : Hp) (Ca : Addr) (cl : List (Str × Addr)) (fp : List Addr), ∃ g, DG (C.blk s H scope (compEnvC scope cl Ca X.env) fp) tg g T d)
    (ht : ∀ (s : Shared) (H : Hp) (Ca : Addr) (cl : List (Str × Addr)) (fp : List Addr), ∃ tt, DTs (C.blk s H scope (compEnvC scope cl Ca X.env) fp) ifs tt t)
    (he : ∀ (s : Shared) (H : Hp) (Ca : Addr) (cl : List (Str × Addr)) (fp : List Addr), ∃ te, DE (C.blk s H scope (compEnvC scope cl Ca X.env) fp) elt te de) (hT : ∀ i ∈ T, i ∈ own.map (·.2) := by decide) (hs : ∀ x, foldedSetIterable iter X.env x = pure x := by intro _; rfl) :
    DN C (.ListComp elt [⟨tg, iter, ifs, 0⟩] scope pos) (tLc wi (tgS C T d) (ttS C t) (teS C de) (own.map (·.2))) (nLc (own.map (·.2)) ti d t de) :=
  ⟨pe_lc C.calm C.nd hi.pi (blkOk_by ok) (fun s H Ca cl fp => (blkG (hg s H Ca cl fp)).pg) (fun s H Ca cl fp => (blkT (ht s H Ca cl fp)).pts) (fun s H Ca cl fp => (blkE (he s H Ca cl fp)).pe) hs, lc_run hi (fun s H Ca cl fp => blkG (hg s H Ca cl fp)) (fun s H Ca cl fp => blkT (ht s H Ca cl fp)) (fun s H Ca cl fp => blkE (he s H Ca cl fp)) hT⟩
/-- name = [..], all on one line -/
theorem ds_setLc (i : Nat) (own : List (Str × Nat)) {y : Str} {py spos : Pos} (hi : DI C tg iter wi ti) (ok : blkC X.N X.env.scope scope own = true)
    (hg : ∀ (s : Shared) (H : Hp) (Ca : Addr) (cl : List (Str × Addr)) (fp : List Addr), ∃ g, DG (C.blk s H scope (compEnvC scope cl Ca X.env) fp) tg g T d)
    (ht : ∀ (s : Shared) (H : Hp) (Ca : Addr) (cl : List (Str × Addr)) (fp : List Addr), ∃ tt, DTs (C.blk s H scope (compEnvC scope cl Ca X.env) fp) ifs tt t)
    (he : ∀ (s : Shared) (H : Hp) (Ca : Addr) (cl : List (Str × Addr)) (fp : List Addr), ∃ te, DE (C.blk s H scope (compEnvC scope cl Ca X.env) fp) elt te de) (hT : ∀ i ∈ T, i ∈ own.map (·.2) := by decide)
    (hy : X.N[i]? = some y := by rfl) (hyl : X.env.scope.names.lookup y = some .local := by rfl) (hsw : swapsWith (.ListComp elt [⟨tg, iter, ifs, 0⟩] scope pos) (some (.Name y py)) spos.line X.env = pure true := by rfl) (hs : ∀ x, foldedSetIterable iter X.env x = pure x := by intro _; rfl) :
    DS C (.Assign [.Name y py] (.ListComp elt [⟨tg, iter, ifs, 0⟩] scope pos) spos) (tAsg (tLc wi (tgS C T d) (ttS C t) (teS C de) (own.map (·.2))) (gName i)) (sOwn i (nLc (own.map (·.2)) ti d t de)) := by
  refine ⟨ps_setLc C.calm C.nd hy hyl hsw hi.pi (blkOk_by ok) (fun s H Ca cl fp => (blkG (hg s H Ca cl fp)).pg) (fun s H Ca cl fp => (blkT (ht s H Ca cl fp)).pts) (fun s H Ca cl fp => (blkE (he s H Ca cl fp)).pe) hs, fun w σ ρ D DD hA I q k => ?_⟩
  refine lc_run hi (fun s H Ca cl fp => blkG (hg s H Ca cl fp)) (fun s H Ca cl fp => blkT (ht s H Ca cl fp)) (fun s H Ca cl fp => blkE (he s H Ca cl fp)) hT w σ ρ _ _ hA I q fun a vs ds w1 ρ1 s1 I1 n0 hg hf' hh hr q1 => ?_
  have z := I1.setOwn (i := i) hf' hg hh hr (C.nw w a hA n0) q1.1
  refine k.nx ⟨w1.G, w1.H, fun j => if j = i then [a] else w1.F j⟩ _ _ ⟨s1.g, s1.gf, s1.h, s1.t, fun j b hb => ?_⟩ z q1.2
  have hb : b ∈ (if j = i then [a] else w1.F j) := hb
  by_cases e : j = i
  · rw [if_pos e] at hb
    have : b = a := by simpa using hb
    rw [this]; exact .inr n0
  · rw [if_neg e] at hb
    exact s1.f j b hb
end
end
end DL

end
section
set_option maxHeartbeats 4000000
/-! DLI: calls by the callee's record, the script's slices, a module's constants, a def behind a head. -/
namespace DL
open PySem PySem.Spec L2
open PyProof.Rows (envOfC)
/-- a def that may be called by the name x -/
structure CalD (P : Program) (w : World) (K : PySem.W.Frag) (mg : Str → Option Value) (base : Heap) (k : Nat) (x : Str) (ps : List Str) (p : DSp) : Prop where
  ex : ∃ f fd, FnD P w K mg base k f fd ps p ∧ mg x = some (.ref f) ∧ PySem.W.keepIn K (.ref f) = true ∧ Binds K fd ps []
theorem CalD.mono {P : Program} {w : World} {K : PySem.W.Frag} {mg : Str → Option Value} {base : Heap} {j k : Nat} {x : Str} {ps : List Str} {p : DSp} (F : CalD P w K mg base j x ps p) (h : j ≤ k) : CalD P w K mg base k x ps p := by
  obtain ⟨f, fd, a, b⟩ := F.ex
  exact ⟨f, fd, a.mono h, b⟩
section
variable {X : Cx} {k : Nat} {ps : List Str} {p : DSp} {x : Str} {px pos : Pos} {e : Expr} {es : List Expr} {ta : TA} {C : DC X} {dr : TND}
theorem de_callC (F : CalD X.prog X.w X.K X.mg X.base k x ps p) (hr : Room k X.A) (ha : DA C (e :: es) ta dr) (hg : Gl X x := by rfl) (hdb : (x == ("__debug__" : Str)) = false := by decide)
    (he : starEach (e :: es) X.env = (false, eval e X.env) :: starEach es X.env := by rfl) (hpl : (backTo pos (starEach es X.env)).any (·.1) = false := by rfl) :
    DE C (.Call (.Name x px) (e :: es) [] pos) (tCallS (spOf X.K p) (WE C.WH) ta) (dCall p C.W dr) := by
  obtain ⟨f, fd, F, hm, hk, hb⟩ := F.ex
  exact de_call F hr hg hm hk hb ha hdb he hpl
theorem dn_callC (F : CalD X.prog X.w X.K X.mg X.base k x ps p) (hr : Room k X.A) (ha : DA C (e :: es) ta dr) (hg : Gl X x := by rfl) (hdb : (x == ("__debug__" : Str)) = false := by decide)
    (he : starEach (e :: es) X.env = (false, eval e X.env) :: starEach es X.env := by rfl) (hpl : (backTo pos (starEach es X.env)).any (·.1) = false := by rfl) :
    DN C (.Call (.Name x px) (e :: es) [] pos) (tCallS (spOf X.K p) (WE C.WH) ta) (nCall p C.W dr) := by
  obtain ⟨f, fd, F, hm, hk, hb⟩ := F.ex
  exact dn_call F hr hg hm hk hb ha hdb he hpl
variable {y : Str} {py : Pos}
theorem de_callLC (i : Nat) (F : CalD X.prog X.w X.K X.mg X.base k x ps p) (hr : Room k X.A) (ha : DA C es ta dr) (hg : Gl X x := by rfl)
    (hN : X.N[i]? = some y := by rfl) (hv : Vis X.env.scope y := by first | exact Or.inl rfl | exact Or.inr (Or.inl rfl) | exact Or.inr (Or.inr rfl)) (hd : (y == ("__debug__" : Str)) = false := by decide) (hcd : (y == ("__classdict__" : Str)) = false := by decide)
    (hdb : (x == ("__debug__" : Str)) = false := by decide) (he : starEach (.Name y py :: es) X.env = (false, eval (.Name y py) X.env) :: starEach es X.env := by rfl) (hpl : (backTo pos (starEach es X.env)).any (·.1) = false := by rfl) :
    DE C (.Call (.Name x px) (.Name y py :: es) [] pos) (tCallS (spOf X.K p) (WE C.WH) (tCons (tVar i) ta)) (withLent i (dCallL p C.W i dr)) := by
  obtain ⟨f, fd, F, hm, hk, hb⟩ := F.ex
  exact de_callL i F hr hg hm hk hb ha hN hv hd hcd hdb he hpl
theorem dn_callLC (i : Nat) (F : CalD X.prog X.w X.K X.mg X.base k x ps p) (hr : Room k X.A) (ha : DA C es ta dr) (hg : Gl X x := by rfl)
    (hN : X.N[i]? = some y := by rfl) (hv : Vis X.env.scope y := by first | exact Or.inl rfl | exact Or.inr (Or.inl rfl) | exact Or.inr (Or.inr rfl)) (hd : (y == ("__debug__" : Str)) = false := by decide) (hcd : (y == ("__classdict__" : Str)) = false := by decide)
    (hdb : (x == ("__debug__" : Str)) = false := by decide) (he : starEach (.Name y py :: es) X.env = (false, eval (.Name y py) X.env) :: starEach es X.env := by rfl) (hpl : (backTo pos (starEach es X.env)).any (·.1) = false := by rfl) :
    DN C (.Call (.Name x px) (.Name y py :: es) [] pos) (tCallS (spOf X.K p) (WE C.WH) (tCons (tVar i) ta)) (withLentN i (nCallL p C.W i dr)) := by
  obtain ⟨f, fd, F, hm, hk, hb⟩ := F.ex
  exact dn_callL i F hr hg hm hk hb ha hN hv hd hcd hdb he hpl

/-! ### the script's slices -/
def scrK (ρ : DSt) (i : Nat) (k : List Int → Prop) : Prop := ∃ ns, ρ[i]? = some (.res true (scriptR ns)) ∧ k ns
def nScr (i : Nat) (tl th : TOD) : TND := fun ρ Q => scrK ρ i (fun _ => True) ∧ tl ρ fun lo ρ2 => th ρ2 fun hi ρ3 => scrK ρ3 i fun ns => Q (cutD (ns.map PyData.int) lo hi) ρ3
variable {lo hi : Option Expr} {tl th : TO} {dl dh : TOD} {p2 : Pos}
theorem scr_at {K : PySem.W.Frag} {P : Par} {w : Wd} {σ : L2.St} {ρ : DSt} {i : Nat} {k : List Int → Prop} (I : FI K P w σ ρ) (h : scrK ρ i k) : ∃ a ns, σ[i]? = some (some (.ref a)) ∧ SqL K w.G a (ns.map V.int) ∧ k ns := by
  obtain ⟨ns, e, q⟩ := h
  obtain ⟨a, h1, h2, _⟩ := I.ok i _ e
  exact ⟨a, ns, h1, h2.2, q⟩
theorem reps_int {K : PySem.W.Frag} {G : Hp} : ∀ ns : List Int, Reps K G (ns.map V.int) (ns.map PyData.int)
  | [] => .nil
  | n :: ns => .cons (.int n) (reps_int ns)
theorem dn_scr (i : Nat) (hl : DO C lo tl dl) (hh : DO C hi th dh) (hN : X.N[i]? = some y := by rfl) (hv : Vis X.env.scope y := by first | exact Or.inl rfl | exact Or.inr (Or.inl rfl) | exact Or.inr (Or.inr rfl)) (hd : (y == ("__debug__" : Str)) = false := by decide) (hcd : (y == ("__classdict__" : Str)) = false := by decide) :
    DN C (.Subscript (.Name y py) (.Slice lo hi none p2) pos) (tSl (rSlL X.K) (tVar i) tl th) (nScr i dl dh) := by
  refine ⟨pe_slice sl_list (pe_var hN hv hd hcd) hl.po hh.po, fun w σ ρ Q QD hA I q k => ?_⟩
  obtain ⟨q0, q⟩ := q
  obtain ⟨a, ns0, h1, _, _⟩ := scr_at I q0
  refine ⟨.ref a, h1, ?_⟩
  refine hl.run w σ ρ _ _ hA I q fun l w2 ρ2 s2 I2 q2 => ?_
  refine hh.run w2 σ ρ2 _ _ (C.cl _ _ hA s2) I2 q2 fun h w3 ρ3 s3 I3 q3 => ?_
  have s23 := s2.trans s3
  obtain ⟨a', ns, h2, hs, q4⟩ := scr_at I3 q3
  rw [h1] at h2
  cases h2
  refine ⟨a, ns.map V.int, rfl, sql_mono I3.gh hs, fun p hp => ?_⟩
  obtain ⟨I4, s4⟩ := FI.air I3 (o := .lst (cutV (ns.map V.int) l h)) hp
  exact k p (cutV (ns.map V.int) l h) (cutD (ns.map PyData.int) l h) ⟨w3.G, upd w3.H p _, w3.F⟩ ρ3 (s23.trans s4) I4 (air_new s23 hp) (I3.fresh hp).1 (fun i z => (I3.fresh hp).2 i p z rfl) upd_same (cut_reps (reps_int ns) l h) q4

/-! ### a module's constants -/
theorem de_gtup {x : Str} {u : Addr} {vs : List V} {ds : List PyData} (hm : X.mg x = some (.ref u)) (ht : ∀ H : Hp, SqT X.K H u vs) (hr : ∀ G, Reps X.K G vs ds) (hg : Gl X x := by rfl) (hd : (x == ("__debug__" : Str)) = false := by decide) : DE C (.Name x pos) (tC (.ref u)) (dC (.tuple ds)) :=
  de_glob hg hm rfl (fun G => .tup (ht G) (hr G)) hd
theorem de_gint {x : Str} {i : Int} (hm : ∃ t, X.mg x = some (.int i t)) (hg : Gl X x := by rfl) (hd : (x == ("__debug__" : Str)) = false := by decide) : DE C (.Name x pos) (tC (.int i)) (dC (.int i)) := by
  obtain ⟨t, hm⟩ := hm
  exact de_glob hg hm ⟨t, rfl⟩ (fun _ => .int i) hd
theorem de_gstr {x z : Str} (hm : ∃ t, X.mg x = some (.str z t)) (hg : Gl X x := by rfl) (hd : (x == ("__debug__" : Str)) = false := by decide) : DE C (.Name x pos) (tC (.str z)) (dC (.str z)) := by
  obtain ⟨t, hm⟩ := hm
  exact de_glob hg hm ⟨t, rfl⟩ (fun _ => .str z) hd
end
/-! ### own exceptions of a text -/
/-- an own exception class of the ValueError kind, by the name x -/
structure ExcD (K : PySem.W.Frag) (mg : Str → Option Value) (x : Str) (cls : Addr) : Prop where
  q : PySem.W.excIn K cls He.veBase "ValueError.__new__" = true
  g : mg x = some (.ref cls)
  k : PySem.W.keepIn K (.ref cls) = true
  s : PySem.W.subIn K (.ref cls) (.type "BaseException") = some true
  t : PySem.W.typeIn K (.ref cls) = some (.type "type")
section
variable {X : Cx} {C : DC X} {pos p p2 pos2 : Pos} {x m : Str} {cls : Addr} {j : Nat}
theorem ds_raiseC (h : ExcD X.K X.mg x cls) (hg : Gl X x := by rfl) (hdb : (x == ("__debug__" : Str)) = false := by decide) : DS C (.Raise (some (.Call (.Name x p) [.Constant (.str m) j p2] [] pos2)) none pos) (fun _ σ H => C.WH (.ref cls) none σ H) (sRaise C.W cls) :=
  ds_raise (pmk_own PySem.F.excBase_ValueError h.q h.g h.k (raises_own h.s h.t) hg hdb)
end
theorem body_of {X : Cx} {C : DC X} {body : List Stmt} {ts : TS} {t : TSD} {D : DEnds} {ρ : DSt} (h : DSs C body ts t) (h2 : t D ρ) : ∃ ts t, DSs C body ts t ∧ t D ρ := ⟨ts, t, h, h2⟩
/-! ### the names that gen.py prints -/
abbrev W0 : WD := fun _ _ => False
abbrev dLt : PyData → PyData → (PyData → Prop) → Prop := dB0 fun i j => decide (i < j)
abbrev dLe : PyData → PyData → (PyData → Prop) → Prop := dB0 fun i j => decide (i ≤ j)
abbrev dGt : PyData → PyData → (PyData → Prop) → Prop := dB0 fun i j => decide (j < i)
abbrev dGe : PyData → PyData → (PyData → Prop) → Prop := dB0 fun i j => decide (j ≤ i)
abbrev dMul : PyData → PyData → (PyData → Prop) → Prop := dI CMulW fun i j => i * j
abbrev dFdiv : PyData → PyData → (PyData → Prop) → Prop := dI CDivF fun i j => i.fdiv j
abbrev dMod : PyData → PyData → (PyData → Prop) → Prop := dI (fun _ j => j ≠ 0) fun i j => i.fmod j
abbrev dPow : PyData → PyData → (PyData → Prop) → Prop := dI CPow fun i j => i ^ j.toNat
abbrev dISub : PyData → PyData → (PyData → Prop) → Prop := dI0 fun i j => i - j
/-! ### a def behind a head by facts -/
theorem FunD.okD {P : Program} {w : World} {K : PySem.W.Frag} {mg : Str → Option Value} {base : Heap} {k : Nat} {f : Addr} {fd : FuncData} {name qual : Str} {params : Arguments} {body : List Stmt} {scope : Scope} {dvs : List V} {kws : List (Str × V)} {N ps : List Str} {p : DSp}
    (F : L2.FunD K name qual params body scope dvs kws f fd) (S : FnScope N ps scope) (len : ∀ α QD ED, p α QD ED → α.length = ps.length)
    (hbody : ∀ (cdv : Value) (A : Around) (outer : List Env) (s : Shared) (H : Hp) (E : XK) (C : DC (cxOf (L2.CX P w) P w K mg base N qual scope f cdv A outer s H E)) (α : List SD) (QD : Ret → List SD → Prop) (ED : Exd → List SD → Prop),
      Room k (A.deeper (envOfC qual scope s.heap.objs.size f cdv)) → C.W = (fun e ρ => outK α ρ fun α' => ED e α') → p α QD ED →
      ∃ ts t, DSs C body ts t ∧ t { nx := fun ρ => outK α ρ fun α' => QD (.d .none) α', rt := fun r ρ => outK α ρ fun α' => QD r α' } (startD N.length α)) :
    FnD P w K mg base (k + 1) f fd ps p := by
  obtain ⟨oc, od, dV, kV, doc, pm, an, cdv, ct, osl, rfl, lk, hcd, _, _⟩ := F.ex
  exact fnd_of lk hcd S len fun A outer s H E C α QD ED hr hW hp => hbody cdv A outer s H E C α QD ED hr hW hp
end DL

end
section
set_option maxHeartbeats 4000000
/-! DLJ: an exception caught and kept, isinstance of it, list.count, list.index. -/
namespace DL
open PySem PySem.Spec L2
/-- an exception object of class cls, own dict d, at a: as it stands behind its suite -/
def ExK (cls : Value) (d : Option Addr) (a : Addr) : HO := .ext fun h => ∃ (oe : Obj) (vs : Array Value), h.get? a = some oe ∧ Zc cls d oe ∧ oe.data = .fields vs
theorem exK_ok {P : Program} {w : World} {H : Hp} {h : Heap} {a : Addr} {cls : Value} {d : Option Addr} {oe : Obj} {vs : Array Value} (e : h.get? a = some oe) (z : Zc cls d oe) (dd : oe.data = .fields vs) : ObjOk P w H h a (ExK cls d a) :=
  ⟨⟨oe, vs, e, z, dd⟩, ⟨oe, e⟩, fun _ _ ⟨o, v, q, r⟩ k => ⟨o, v, k o q, r⟩⟩
section
variable {X : Cx} {pins : List (Addr × Obj)} {σ : L2.St} {H : Hp} {s : Shared}
/-- an object that is there, untracked till now, is tracked -/
theorem trk {a : Addr} {o : HO} (I : Inv X pins σ H s) (hn : H a = none) (h0 : X.s_0.heap.get? a = none) (hL : a ≠ X.env.locals) (hc : ∀ x c, X.env.cells.lookup x = some c → c ≠ a) (hp : ∀ p ∈ X.pn ++ pins, p.1 ≠ a) (new : ObjOk X.prog X.w (upd H a o) s.heap a o) :
    Inv X pins σ (upd H a o) s := by
  refine ⟨I.ok, I.os, I.bare, ⟨I.base.keep, I.base.slot, fun b u q n hx => ?_, I.base.there, fun b xs q => ?_, fun b u xs q => ?_, fun b ps q => ?_⟩, I.loc, I.cell, ?_, fun x c e => ?_, fun p hq => ?_, fun b u e => ?_, I.len⟩
  · rw [upd_ne (fun z => by rw [z, h0] at q; cases q)]; exact I.base.free b u q n hx
  · have z := I.base.tups b xs q
    rw [upd_ne (ne_of_none z hn)]; exact z
  · have z := I.base.frzs b u xs q
    rw [upd_ne (ne_of_none z hn)]; exact z
  · obtain ⟨m, z⟩ := I.base.tbls b ps q
    exact ⟨m, by rw [upd_ne (ne_of_none z hn)]; exact z⟩
  · rw [upd_ne (Ne.symm hL)]; exact I.free
  · rw [upd_ne (hc x c e)]; exact I.freeC x c e
  · obtain ⟨e, n, ne, nf, d⟩ := I.pin p hq
    exact ⟨e, by rw [upd_ne (hp p hq)]; exact n, ne, nf, d⟩
  · by_cases hb : b = a
    · subst hb
      rw [upd_same] at e
      cases e
      exact new
    · rw [upd_ne hb] at e
      exact (I.hok b u e).stay (fun c v _ q => q) (fun c q => by rw [upd_ne (ne_of_none q hn)]; exact q) fun c xs q => by rw [upd_ne (ne_of_none q hn)]; exact q
end
/-- what 'except x as n' wishes of an exception that its suite keeps -/
def wAsK (K : PySem.W.Frag) (c : Value) (i : Nat) (ts : Addr → Value → Option Addr → TS) (Wout : WX) (D : Ends) : WX := fun cls d σ H =>
  ∃ b, PySem.W.exmOne K cls c = some b ∧ (b = true → ∀ a, H a = none → ts a cls d { nx := fun σ' H' => D.nx (σ'.set i none) (upd H' a (ExK cls d a)), rt := fun _ _ => False, bk := fun _ _ => False, ct := fun _ _ => False } (σ.set i (some (.ref a))) H) ∧
    (b = false → Wout cls d σ H)
section
variable {X : Cx} {x n : Str} {c : Value} {i : Nat} {body suite : List Stmt} {b₀ : Stmt} {np pos pos' : Pos} {tb : WX → TS} {ts : Addr → Value → Option Addr → TS} {Wout : WX}
theorem ps_try_keep (hs : X.stack = X.env :: X.outer) (hf : X.env.frame = some X.env.locals) (hN : X.N.Nodup) (hi : X.N[i]? = some n) (hln : X.env.kindOf n = some .local) (hc : Names X x c) (tk : Takes X Wout) (hex : X.ex = [])
    (hb : ∀ (W : WX) (pn : List (Addr × Obj)) (xe : Value → Shared → Prop), Takes (X.tr pn xe) W → PassesOwn (model X.prog X.w) X.A X.env xe → PSs (X.tr pn xe) body (tb W))
    (hsu : ∀ (a : Addr) (oe : Obj) (cls : Value) (d : Option Addr) (pn : List (Addr × Obj)), Zc cls d oe → (∃ vs, oe.data = .fields vs) → PSs (X.suite a ((a, oe) :: pn)) (b₀ :: suite) (ts a cls d)) :
    PS X (.Try body [.ExceptHandler (some (.Name x np)) (some n) (b₀ :: suite) pos'] [] [] pos) (fun D σ H => tb (wAsK X.K c i ts Wout D) D σ H) := by
  refine ⟨fun pins s σ H D I h => ?_⟩
  have ok := I.ok
  have hfr : X.A.frames = some (X.env :: X.outer) := by rw [ok.frames, hs]
  have hloc : Loc X.env.scope n := .inl hln
  refine wpAny_Try_except ?_
  refine wpAny_mono ((hb (wAsK X.K c i ts Wout D) (X.pn ++ pins) (fun e s₁ => wpAny (model X.prog X.w) X.A (noteFrame e X.env) (fun _ s₂ => wpAny (model X.prog X.w) X.A (setFlight e none) (fun _ s₃ =>
    wpAny (model X.prog X.w) X.A (handleBy e X.env [.ExceptHandler (some (.Name x np)) (some n) (b₀ :: suite) pos']) (SP X pins D) X.xe s₃) X.xe s₂) X.xe s₁) (fun u s' xx => ?_) PassesOwn.looking).run [] s σ H D (I.toTry _) h) (fun f s1 hsp => ?_) (fun e s1 he => he)
  · obtain ⟨a, B, sI, pins', σ', H', cls, d, rfl, J', nb, up, sky, na, os, ag, b, hb1, hyes, hno⟩ := xx
    have J : Inv X pins σ' H' sI := J'.ofTry ok
    have sky' : Sky B (X.env :: X.outer) a (Zc cls d) X.env.locals s'.heap := by rw [← hs]; exact sky
    show wpAny (model X.prog X.w) X.A (noteFrame (.ref a) X.env) _ _ _
    refine Sky.land Zc.steady hfr hf sky' fun h3 fl3 up3 => ?_
    have J3 : Inv X pins σ' H' { s' with heap := h3 } := J.landed nb fl3.1 (up.trans up3) os ag
    obtain ⟨oe3, vs3, he3, hz3, hd3⟩ := fl3.there
    have notFr : ∀ {h : Heap} {o : Obj} {vs : Array Value}, h.FunFrames B (X.env :: X.outer) → h.get? a = some o → o.data = .fields vs → a ∉ frs (X.env :: X.outer) := fun {h o vs} ff e dd hm => by
      obtain ⟨_, o', e', hnf⟩ := ff.mem hm
      rw [e] at e'; cases e'
      exact hnf _ dd
    have nfr := notFr fl3.2.2.1 he3 hd3
    have nL : a ≠ X.env.locals := fun z => nfr (List.mem_filterMap.mpr ⟨X.env, List.mem_cons_self, by rw [hf, z]⟩)
    have nF : a ∉ X.fs := fun hm => by
      obtain ⟨e, he, q⟩ := List.mem_filterMap.mp hm
      exact nfr (List.mem_filterMap.mpr ⟨e, List.mem_cons_of_mem _ he, q⟩)
    -- a was not there when the body ended, nor at the entry
    have nB : B.get? a = none := fl3.2.1
    have nI : sI.heap.get? a = none := by
      cases q : sI.heap.get? a with
      | none => rfl
      | some o =>
        have z := nb a o q (by rw [hs]; exact nfr)
        rw [nB] at z
        cases z
    have n0 : X.s_0.heap.get? a = none := by
      cases q : X.s_0.heap.get? a with
      | none => rfl
      | some o =>
        obtain ⟨o', z⟩ := J.base.there a o q (by rw [hex]; exact fun z => nomatch z)
        rw [nI] at z
        cases z
    have nC : ∀ y c', X.env.cells.lookup y = some c' → c' ≠ a := fun y c' e z => by
      obtain ⟨v, o, q, _⟩ := J.cell y c' e
      rw [z, nI] at q
      cases q
    have nP : ∀ p ∈ X.pn ++ pins, p.1 ≠ a := fun p hp z => by
      obtain ⟨q, _⟩ := J.pin p hp
      rw [z, nI] at q
      cases q
    have S3 := J3.suite he3 hd3 na nL nF
    refine wpAny_handleBy_cons (codeAny_handlers_test ?_) (by intro q; cases q)
    have LT : PySem.W.Looks (model X.prog X.w) h3 (typeOf (.ref a)) cls := fun A Q E s k q => wpAny_typeOf_ref (k _ _ he3) (by rw [hz3.1]; exact q)
    have LM := PySem.W.exm_one (M := model X.prog X.w) (J3.kIn) LT hb1
    have test : ∀ {Q : Value → Shared → Prop} {E : Value → Shared → Prop}, Q c { s' with heap := h3 } → wpAny (model X.prog X.w) (X.A.mark (some (.ref a))) (eval (.Name x np) X.env) Q E { s' with heap := h3 } := fun {Q E} q => by
      obtain ⟨hg, hdbg, hm | ⟨hm, hv, hnn⟩⟩ := hc
      · exact ld_glob (X := X.suite a ((a, oe3) :: (X.pn ++ pins))) S3 hg hm q hdbg
      · exact ld_blt (X := X.suite a ((a, oe3) :: (X.pn ++ pins))) S3 hg hm hv q hnn hdbg
    refine test (LM.here ?_)
    cases b with
    | true =>
      refine codeAny_handlers_suite_as ?_
      refine HandSPX.lands_againZ fl3 fun h4 fl4 up4 => ?_
      have J4 : Inv X pins σ' H' { s' with heap := h4 } := J.landed nb fl4.1 ((up.trans up3).trans up4) os ag
      obtain ⟨oe4, vs4, he4, hz4, hd4⟩ := fl4.there
      have S4 := J4.suite he4 hd4 na nL nF
      refine store_ok (X := X.suite a ((a, oe4) :: (X.pn ++ pins))) (v := .ref a) S4 hN hi hloc rfl (fun s5 S5 => ?_) (.inr hln)
      refine wpAny_mono ((hsu a oe4 cls d (X.pn ++ pins) hz4 ⟨_, hd4⟩).run [] s5 _ H' _ S5 (hyes rfl a na)) (fun f s6 hsp => ?_) (fun _ _ z => False.elim z)
      cases f with
      | next =>
        obtain ⟨σ6, H6, S6, q6⟩ := hsp
        obtain ⟨hget, hnone, _⟩ := S6.pin (a, oe4) (List.mem_append_left _ List.mem_cons_self)
        have J6 := trk (o := ExK cls d a) (S6.unsuite ok) hnone n0 nL nC nP (exK_ok hget hz4 hd4)
        exact gone_ok J6 hN hi hln fun s7 J7 => ⟨_, _, J7, q6⟩
      | brk =>
        obtain ⟨σ6, H6, S6, q6⟩ := hsp
        exact q6.elim
      | cont =>
        obtain ⟨σ6, H6, S6, q6⟩ := hsp
        exact q6.elim
      | ret u =>
        obtain ⟨v6, σ6, H6, S6, r6, q6⟩ := hsp
        exact q6.elim
    | false =>
      show wpAny _ X.A (handleBy (.ref a) X.env []) _ _ _
      refine wpAny_handleBy_nil ?_
      obtain ⟨k1, k2, k3, oe, vs, T, oT, ts', he, hz, hd, h1, hr⟩ := id fl3
      unfold PySem.passOn
      refine wpAny_bind (wpAny_field he hd h1 ?_)
      rw [if_neg (show ¬ ((Value.ref T == Value.none) = true) from by simp)]
      have fin : wpAny (model X.prog X.w) X.A (setFlight (.ref a) X.env.frame) (fun _ s4 => wpAny (model X.prog X.w) X.A (throw (.ref a) : Sem Flow) (SP X pins D) X.xe s4) X.xe { s' with heap := h3 } := by
        rw [hf]
        refine HandSPX.setFlight_upZ fl3 fun h4 hh4 up4 => wpAny_throw (tk _ _ ?_)
        exact ⟨a, B, sI, pins, σ', H', cls, d, rfl, J, nb, (up.trans up3).trans up4, .inr (.inr (by rw [hs]; exact hh4)), na, os, ag, hno rfl⟩
      first
        | exact wpAny_bind (wpAny_pure (wpAny_bind fin))
        | exact wpAny_bind fin
  · cases f with
    | next =>
      obtain ⟨σ', H', J', q⟩ := hsp
      exact wpAny_execs_nil ⟨σ', H', J'.ofTry ok, q⟩
    | brk =>
      obtain ⟨σ', H', J', q⟩ := hsp
      exact ⟨σ', H', J'.ofTry ok, q⟩
    | cont =>
      obtain ⟨σ', H', J', q⟩ := hsp
      exact ⟨σ', H', J'.ofTry ok, q⟩
    | ret u =>
      obtain ⟨v, σ', H', J', r, q⟩ := hsp
      exact ⟨v, σ', H', J'.ofTry ok, r, q⟩
end

/-! ### kept, over data -/
/-- a kept exception without fields -/
def excR (e : Exd) : Res where
  P := fun _ _ H a fp => fp = [a] ∧ e.fs = [] ∧ H a = some (ExK (.ref e.C) none a)
  keep := fun {K G H G' H' a fp} _ k h => by
    obtain ⟨h1, h2, h3⟩ := h
    exact ⟨h1, h2, k a (by rw [h1]; exact List.mem_cons_self) _ h3⟩
theorem FI.setRes {K : PySem.W.Frag} {P : Par} {w : Wd} {σ : L2.St} {ρ : DSt} (I : FI K P w σ ρ) {i : Nat} {a : Addr} {r : Res} {fp : List Addr} (hf : ∀ b ∈ fp, ∀ j, b ∉ w.F j) (hb : ∀ b ∈ fp, w.G b = none ∧ w.H b ≠ none) (hP : r.P K w.G w.H a fp) (hn : ∀ b ∈ fp, P.N b) (hi : i < ρ.length) :
    FI K P ⟨w.G, w.H, fun j => if j = i then fp else w.F j⟩ (σ.set i (some (.ref a))) (ρ.set i (.res false r)) := by
  have sub : ∀ j b, b ∈ (if j = i then fp else w.F j) → (j = i ∧ b ∈ fp) ∨ (j ≠ i ∧ b ∈ w.F j) := fun j b hb => by
    by_cases e : j = i
    · rw [if_pos e] at hb; exact .inl ⟨e, hb⟩
    · rw [if_neg e] at hb; exact .inr ⟨e, hb⟩
  refine ⟨I.gh, by rw [List.length_set, List.length_set]; exact I.len, fun j s e => ?_, fun j hj => ?_, fun j b hb' => ?_, fun j l b hjl hb1 hb2 => ?_⟩
  · by_cases hj : i = j
    · subst hj
      rw [List.getElem?_set_self hi] at e
      cases e
      rw [List.getElem?_set_self (by rw [I.len]; exact hi)]
      refine ⟨a, rfl, ?_, (fun z => nomatch z), fun _ b h => ?_⟩
      · show r.P K w.G w.H a (if i = i then fp else w.F i)
        rw [if_pos rfl]; exact hP
      · have h : b ∈ (if i = i then fp else w.F i) := h
        rw [if_pos rfl] at h
        exact hn b h
    · rw [List.getElem?_set_ne hj] at e
      rw [List.getElem?_set_ne hj]
      show slotOk K P.σ0[j]? P.N _ (if j = i then fp else w.F j) σ[j]? s
      rw [if_neg (Ne.symm hj)]
      exact (I.ok j s e).go (fun _ _ h => h) fun _ _ _ h => h
  · have hj : ρ.length ≤ j := by rw [← List.length_set (as := ρ)]; exact hj
    show (if j = i then fp else w.F j) = []
    rw [if_neg (by omega)]
    exact I.out j hj
  · rcases sub j b hb' with ⟨_, q⟩ | ⟨_, q⟩
    · exact hb b q
    · exact I.foot j b q
  · rcases sub j b hb1 with ⟨e1, q⟩ | ⟨_, q⟩
    · rcases sub l b hb2 with ⟨e2, _⟩ | ⟨_, q'⟩
      · exact hjl (e1.trans e2.symm)
      · exact hf b q l q'
    · rcases sub l b hb2 with ⟨_, q'⟩ | ⟨_, q'⟩
      · exact hf b q' j q
      · exact I.sep j l b hjl q q'
section
variable {X : Cx} {C : DC X} {body : List Stmt} {t : WD → TSD}
/-- there are data that make it well -/
def tbS (C : DC X) (t : WD → TSD) : WX → TS := fun W D σ H => ∃ (w : Wd) (ρ : DSt) (DD : DEnds) (Wd' : WD), w.H = H ∧ C.A w ∧ FI X.K C.P w σ ρ ∧ t Wd' DD ρ ∧ EndsOk C w D DD ∧
  (∀ e ρ' σ' w' cls d, C.A w' → Stp w w' → FI X.K C.P w' σ' ρ' → RepE X.K w' cls d e → Wd' e ρ' → W cls d σ' w'.H)
/-- try: .. except C as e: caught = e; cat: the classes that it catches -/
def sTry (cat : Addr → Prop) (iC iE : Nat) (t : WD → TSD) : TSD := fun D ρ => t (fun e ρ' => cat e.C ∧ e.fs = [] ∧ iC < ρ'.length ∧ iE < ρ'.length ∧ D.nx ((ρ'.set iE .no).set iC (.res false (excR e)))) D ρ
variable {x n y : Str} {kc : Addr} {np pos pos' py pn' pa : Pos} {cat : Addr → Prop}
theorem ds_try (iC iE : Nat) (hbody : ∀ (pn : List (Addr × Obj)) (xe : Value → Shared → Prop) (C' : DC (X.tr pn xe)), PassesOwn (model X.prog X.w) X.A X.env xe → ∃ ts, DSs C' body ts (t C'.W))
    (hcat : ∀ a, cat a → PySem.W.exmOne X.K (.ref a) (.ref kc) = some true) (hm : X.mg x = some (.ref kc)) (hce : iC ≠ iE := by decide)
    (hs : X.stack = X.env :: X.outer := by rfl) (hf : X.env.frame = some X.env.locals := by rfl) (hex : X.ex = [] := by rfl) (hg : Gl X x := by rfl) (hdb : (x == ("__debug__" : Str)) = false := by decide)
    (hiE : X.N[iE]? = some n := by rfl) (hln : X.env.kindOf n = some .local := by rfl) (hiC : X.N[iC]? = some y := by rfl) (hlc : X.env.scope.names.lookup y = some .local := by rfl) (hvE : X.env.scope.names.lookup n = some .local := by rfl)
    (hd : (n == ("__debug__" : Str)) = false := by decide) (hcd : (n == ("__classdict__" : Str)) = false := by decide)
    (hsw : swapsWith (.Name n pn') (some (.Name y py)) pa.line X.env = pure false := by rfl) :
    DS C (.Try body [.ExceptHandler (some (.Name x np)) (some n) [.Assign [.Name y py] (.Name n pn') pa] pos'] [] [] pos)
      (fun D σ H => tbS C t (wAsK X.K (.ref kc) iE (fun _ _ _ => tAsg (tVar iE) (gName iC)) C.WH D) D σ H) (sTry cat iC iE t) := by
  refine ⟨ps_try_keep hs hf C.nd hiE hln ⟨hg, hdb, .inl hm⟩ C.tk hex (fun W pn xe tk hp => ⟨fun pins s σ H D I h => ?_⟩) (fun a oe cls d pn _ _ => ?_), fun w σ ρ D DD hA I q k => ?_⟩
  · obtain ⟨w, ρ, DD, Wd', rfl, hA, J, ht, ends, hW⟩ := h
    let C' : DC (X.tr pn xe) := { P := C.P, A := fun w' => C.A w' ∧ Stp w w', cl := fun w1 w2 h s => ⟨C.cl w1 w2 h.1 s, h.2.trans s⟩, nw := fun w' p h e => C.nw w' p h.1 e, gd := C.gd, calm := C.calm, nd := C.nd, un := C.un, W := Wd', WH := W, tk := tk, hW := fun e ρ' σ' w' cls d h I' re z => hW e ρ' σ' w' cls d h.1 h.2 I' re z }
    obtain ⟨ts, hd⟩ := hbody pn xe C' hp
    exact hd.pss.run pins s σ w.H D I (hd.run w σ ρ D DD ⟨hA, Stp.refl w⟩ J ht ⟨ends.nx, ends.rt, ends.bk, ends.ct⟩)
  · exact pss_one (ps_set (X := X.suite a ((a, oe) :: pn)) (i := iC) C.nd hiC (.inl hlc) (pe_var (X := X.suite a ((a, oe) :: pn)) hiE (.inl hvE) hd hcd) hsw (.inr hlc))
  · refine ⟨w, ρ, DD, _, rfl, hA, I, q, k, fun e ρ' σ' w' cls d hA' s' I' re h => ?_⟩
    obtain ⟨hc, hfs, l1, l2, hnx⟩ := h
    obtain ⟨rfl, hre⟩ := re
    have hd0 : d = none := by
      rcases hre with ⟨_, z⟩ | ⟨dd, fvs, z, _⟩
      · exact z
      · exact absurd hfs z
    subst hd0
    refine ⟨true, hcat _ hc, fun _ a na => ?_, fun z => nomatch z⟩
    have l1' : iC < σ'.length := by rw [I'.len]; exact l1
    have l2' : iE < σ'.length := by rw [I'.len]; exact l2
    refine ⟨.ref a, List.getElem?_set_self l2', ?_⟩
    obtain ⟨I1, s1⟩ := FI.air I' (o := ExK (.ref e.C) none a) na
    obtain ⟨I2, s2⟩ := I1.drop iE
    have fresh := I'.fresh na
    have I3 := FI.setRes I2 (i := iC) (a := a) (r := excR e) (fp := [a]) (fun b hb j hj => by
        obtain rfl : b = a := by simpa using hb
        have hj : b ∈ (if j = iE then ([] : List Addr) else w'.F j) := hj
        by_cases z : j = iE
        · rw [if_pos z] at hj; cases hj
        · rw [if_neg z] at hj; exact fresh.2 j b hj rfl)
      (fun b hb => by
        obtain rfl : b = a := by simpa using hb
        exact ⟨fresh.1, by show upd w'.H b _ b ≠ none; rw [upd_same]; exact fun z => nomatch z⟩)
      ⟨rfl, hfs, upd_same⟩ (fun b hb => by
        obtain rfl : b = a := by simpa using hb
        exact C.nw w' b hA' na) (by rw [List.length_set]; exact l1)
    have I4 := FI.other (σ' := (((σ'.set iE (some (.ref a))).set iC (some (.ref a))).set iE none)) (vs := [iE]) I3 (fun j hj st e => by
        obtain rfl : j = iE := by simpa using hj
        rw [List.getElem?_set_ne hce, List.getElem?_set_self l2] at e
        cases e; rfl) (by simp) (fun j hj => by
        have hj : j ≠ iE := by simpa using hj
        rw [List.getElem?_set_ne (Ne.symm hj)]
        by_cases z : iC = j
        · subst z
          rw [List.getElem?_set_self (by rw [List.length_set]; exact l1'), List.getElem?_set_self l1']
        · rw [List.getElem?_set_ne z, List.getElem?_set_ne z, List.getElem?_set_ne (Ne.symm hj)])
    have st : Stp w ⟨w'.G, upd w'.H a (ExK (.ref e.C) none a), fun j => if j = iC then [a] else if j = iE then [] else w'.F j⟩ := by
      have s3 := (s'.trans s1).trans s2
      refine ⟨s3.g, s3.gf, s3.h, s3.t, fun j b hb => ?_⟩
      have hb : b ∈ (if j = iC then [a] else if j = iE then [] else w'.F j) := hb
      by_cases z : j = iC
      · rw [if_pos z] at hb
        obtain rfl : b = a := by simpa using hb
        cases q0 : w.H b with
        | none => exact .inr rfl
        | some o => exact absurd na (s'.t b (by rw [q0]; exact fun z => nomatch z))
      · rw [if_neg z] at hb
        exact s3.f j b hb
    exact k.nx _ _ _ st I4 hnx
end

/-! ### is None, of anything held -/
section
variable {X : Cx} {C : DC X} {y : Str} {py pos p2 p3 : Pos} {k0 : Nat}
def dIsNone (i : Nat) : TED := fun ρ Q => match ρ[i]? with
  | some (.val x) => Q (.d (.bool (isNoneD x))) ρ
  | some (.own _ _) => Q (.d (.bool false)) ρ
  | some (.res _ _) => Q (.d (.bool false)) ρ
  | _ => False
theorem isnone_run (i : Nat) : ∀ (w : Wd) (σ : L2.St) (ρ : DSt) (Q : VK) (QD : R → DSt → Prop), C.A w → FI X.K C.P w σ ρ → dIsNone i ρ QD →
    (∀ v r w' ρ', Stp w w' → FI X.K C.P w' σ ρ' → RepR X.K w' σ v r → QD r ρ' → Q v w'.H) → tOp (fun x y H Q => y = .non ∧ Q (.bl (decide (x = .non))) H) (tVar i) (tC .non) σ w.H Q := by
  intro w σ ρ Q QD hA I q k
  unfold dIsNone at q
  split at q
  · rename_i x e
    obtain ⟨_, u, e1, hr⟩ := I.ok i _ e
    refine ⟨u, e1, rfl, ?_⟩
    rw [top_non (rep_top I.gh hr)]
    exact k _ (.d (.bool _)) w ρ (Stp.refl w) I (.bl _) q
  · rename_i io ds e
    obtain ⟨a, vs, e1, _⟩ := I.ok i _ e
    exact ⟨_, e1, rfl, k _ (.d (.bool false)) w ρ (Stp.refl w) I (.bl _) q⟩
  · rename_i io r e
    obtain ⟨a, e1, _⟩ := I.ok i _ e
    exact ⟨_, e1, rfl, k _ (.d (.bool false)) w ρ (Stp.refl w) I (.bl _) q⟩
  · exact q.elim
theorem de_isNone (i : Nat) (hN : X.N[i]? = some y := by rfl) (hv : Vis X.env.scope y := by first | exact Or.inl rfl | exact Or.inr (Or.inl rfl) | exact Or.inr (Or.inr rfl)) (hd : (y == ("__debug__" : Str)) = false := by decide) (hcd : (y == ("__classdict__" : Str)) = false := by decide) :
    DE C (.Compare (.Name y py) [.Is] [.Constant .none k0 p2] pos) (tOp (fun x y H Q => y = .non ∧ Q (.bl (decide (x = .non))) H) (tVar i) (tC .non)) (dIsNone i) :=
  ⟨pe_cmpR op_isN (pe_var hN hv hd hcd) pe_non rfl, isnone_run i⟩
theorem dt_isNone (i : Nat) (hN : X.N[i]? = some y := by rfl) (hv : Vis X.env.scope y := by first | exact Or.inl rfl | exact Or.inr (Or.inl rfl) | exact Or.inr (Or.inr rfl)) (hd : (y == ("__debug__" : Str)) = false := by decide) (hcd : (y == ("__classdict__" : Str)) = false := by decide) :
    DT C (.Compare (.Name y py) [.Is] [.Constant .none k0 p2] pos) (tTest (tOp (fun x y H Q => y = .non ∧ Q (.bl (decide (x = .non))) H) (tVar i) (tC .non))) (dTest (dIsNone i)) :=
  ⟨pt_cmpR op_isN (pe_var hN hv hd hcd) pe_non rfl, test_run (de_isNone (y := y) (py := py) (p2 := p2) (k0 := k0) (pos := pos) i hN hv hd hcd)⟩
end
/-! ### isinstance of a kept exception -/
def rIsX (K : PySem.W.Frag) : List V → Hp → VK → Prop := fun xs H Q => ∃ (a D : Addr) (c : V) (cv : Value) (b : Bool), xs = [.ref a, c] ∧ H a = some (ExK (.ref D) none a) ∧ L2.ExcC K D ∧ (∀ u, RelV c u → u = cv) ∧ PySem.W.kitOne K (.ref D) cv = some b ∧ Q (.bl b) H
theorem call_isX {X : Cx} : CallR X (.builtin "isinstance") (rIsX X.K) := by
  intro pins s σ H xs us Q I r h
  obtain ⟨a, D, c, cv, b, rfl, ha, C, hcv, e, q⟩ := h
  cases r with
  | cons rx rr =>
    cases rr with
    | cons rt rr =>
      cases rr
      cases rx
      have ec := hcv _ rt
      subst ec
      obtain ⟨⟨oe, vs, hget, hz, hv⟩, _⟩ := I.hok a _ ha
      have J : PySem.W.InstAt s.heap a oe D none := by
        obtain ⟨oc, od, oda, osl⟩ := oe
        obtain ⟨h1, h2⟩ := hz
        dsimp only at h1 h2 hv
        subst h1 h2 hv
        exact ⟨hget, rfl, rfl, trivial⟩
      exact PySem.W.kia_one (PySem.W.handS_kitx_exc C.hg C.hk C.hs C.hd C.ha C.hn C.ht C.hm) I.kIn J e (fun z => nomatch z) fun tk => ⟨.bl b, H, I.kept (t' := tk) fun _ _ z => z, rfl, q⟩
section
variable {X : Cx} {C : DC X} {y : Str} {py pos p : Pos} {e2 : Expr} {cV : V} {cv : Value}
def dIsX (i : Nat) (R0 : Addr → Bool → Prop) : TED := fun ρ Q => ∃ io e b, ρ[i]? = some (.res io (excR e)) ∧ R0 e.C b ∧ Q (.d (.bool b)) ρ
theorem de_isX (i : Nat) {R0 : Addr → Bool → Prop} (hR : ∀ D b, R0 D b → L2.ExcC X.K D ∧ PySem.W.kitOne X.K (.ref D) cv = some b) (hm : X.mg "isinstance" = none) (h2 : PE X e2 (tC cV)) (hrel : ∀ u, RelV cV u → u = cv)
    (hg : Gl X "isinstance" := by rfl) (hN : X.N[i]? = some y := by rfl) (hv : Vis X.env.scope y := by first | exact Or.inl rfl | exact Or.inr (Or.inl rfl) | exact Or.inr (Or.inr rfl)) (hd : (y == ("__debug__" : Str)) = false := by decide) (hcd : (y == ("__classdict__" : Str)) = false := by decide)
    (he : starEach [.Name y py, e2] X.env = (false, eval (.Name y py) X.env) :: starEach [e2] X.env := by rfl) (he2 : starEach [e2] X.env = (false, eval e2 X.env) :: starEach [] X.env := by rfl) (hpl : (backTo pos (starEach [e2] X.env)).any (·.1) = false := by rfl) :
    DE C (.Call (.Name "isinstance" p) [.Name y py, e2] [] pos) (tCB (rIsX X.K) (tCons (tVar i) (tCons (tC cV) tNil))) (dIsX i R0) := by
  refine ⟨pe_callB call_isX hg hm (by decide +kernel) (pa_cons (pe_var hN hv hd hcd) (pa_cons h2 pa_nil he2) he) (by decide) (by decide) he hpl, fun w σ ρ Q QD hA I q k => ?_⟩
  obtain ⟨io, e, b, e0, hr, q⟩ := q
  obtain ⟨a, e1, ⟨_, hfs, hH⟩, _⟩ := I.ok i _ e0
  obtain ⟨hC, hk⟩ := hR _ _ hr
  exact ⟨_, e1, a, e.C, cV, cv, b, rfl, hH, hC, hrel, hk, k _ (.d (.bool b)) w ρ (Stp.refl w) I (.bl _) q⟩
end
/-! ### list.count, list.index -/
def rCountD (K : PySem.W.Frag) : V → List V → Hp → VK → Prop := fun x xs H Q => ∃ (a : Addr) (y : V) (d : PyData) (ds : List PyData), x = V.ref a ∧ xs = [y] ∧ Dp K H (V.ref a) (.list ds) ∧ Dp K H y d ∧ PyData.plainAll ds = true ∧ d.plain = true ∧ PyData.depthAll ds ≤ 60 ∧
  Q (.int ((ds.countP fun z => PyData.eqv z d : Nat) : Int)) H
theorem mt_countD {X : Cx} (hu : X.A.units + 65 < cLine) : MtR X "list.count" (rCountD X.K) := by
  intro pins s σ H x xs v us Q I rx rxs h
  obtain ⟨a, y, d, ds, rfl, rfl, hl, hy, pl, pd, dp, q⟩ := h
  cases rx
  cases rxs with
  | cons ry rt =>
    cases rt
    obtain ⟨bs, r1⟩ := Dp.reads I d y _ hy ry
    cases hl with
    | lst hs ha =>
      obtain ⟨its, rv, hl, hlen⟩ := I.list hs
      obtain ⟨as, h4⟩ := Dp.readsAll I ds _ its ha rv
      exact SeqAt.count_list_data hl.isList (show ReadsAll s.heap its.toArray.toList ds as from h4) r1 pl pd (by have := Nat.min_le_left (PyData.depthAll ds) d.depth; omega) ⟨.int _, H, I.tok _, ⟨_, rfl⟩, q⟩
def fCount (x y : PyData) (k : PyData → Prop) : Prop := match x with
  | .list ds => PyData.plainAll ds = true ∧ y.plain = true ∧ PyData.depthAll ds ≤ 60 ∧ PyData.hasDictAll ds = false ∧ y.hasDict = false ∧ k (.int ((ds.countP fun z => PyData.eqv z y : Nat) : Int))
  | _ => False
def fIndex (x y : PyData) (k : PyData → Prop) : Prop := match x with
  | .list ds => SeqAt.shaped (.list ds) = true ∧ SeqAt.shaped y = true ∧ ∃ j z, ds[j]? = some z ∧ PyData.eqv z y = true ∧ (∀ (m : Nat) (z' : PyData), m < j → ds[m]? = some z' → PyData.eqv z' y = false) ∧ k (.int (j : Nat))
  | _ => False
section
variable {X : Cx} {C : DC X} {o e : Expr} {to te : TE} {d1 d2 : TED} {apos cpos : Pos}
def isL : PyData → Prop
  | .list _ => True
  | _ => False
def dM1 (f : PyData → PyData → (PyData → Prop) → Prop) (d1 d2 : TED) : TED := fun ρ Q => d1 ρ fun r1 ρ1 => vw ρ1 r1 fun x => isL x ∧ d2 ρ1 fun r2 ρ2 => vw ρ2 r1 fun x => vw ρ2 r2 fun y => f x y fun z => Q (.d z) ρ2
theorem list_m1 {r : V → List V → Hp → VK → Prop} {f : PyData → PyData → (PyData → Prop) → Prop} (ho : DE C o to d1) (he : DE C e te d2)
    (hr : ∀ (w : Wd) (u v : V) (x y : PyData) (Q : VK) (kd : PyData → Prop), Same w.G w.H → Top X.K w u x → Top X.K w v y → f x y kd → (∀ z d, Rep X.K w.G z d → kd d → Q z w.H) → r u [v] w.H Q) :
    ∀ (w : Wd) (σ : L2.St) (ρ : DSt) (Q : VK) (QD : R → DSt → Prop), C.A w → FI X.K C.P w σ ρ → dM1 f d1 d2 ρ QD →
    (∀ v r w' ρ', Stp w w' → FI X.K C.P w' σ ρ' → RepR X.K w' σ v r → QD r ρ' → Q v w'.H) → tBM X.K "list" r to (tCons te tNil) σ w.H Q := by
  intro w σ ρ Q QD hA I q k
  refine ho.run w σ ρ _ _ hA I q fun u r1 w1 ρ1 s1 I1 R1 q1 => ?_
  obtain ⟨x, tx, hL, q1⟩ := vw_top I1 R1 q1
  cases x with
  | list ds =>
    obtain ⟨a, vs, rfl, hh, hr'⟩ := tx
    refine ⟨.inl ⟨rfl, vs, SqL.of hh⟩, ?_⟩
    refine he.run w1 σ ρ1 _ _ (C.cl _ _ hA s1) I1 q1 fun v r2 w2 ρ2 s2 I2 R2 q2 => ?_
    obtain ⟨x, tx, q3⟩ := vw_top I2 (R1.step s2) q2
    obtain ⟨y, ty, q4⟩ := vw_top I2 R2 q3
    exact hr w2 _ v x y Q _ I2.gh tx ty q4 fun z d R3 q5 => k z (.d d) w2 ρ2 (s1.trans s2) I2 R3 q5
  | _ => exact hL.elim
theorem de_count (ho : DE C o to d1) (he : DE C e te d2) (hbase : attributeBase o "count" X.env (eval o X.env) = eval o X.env := by rfl)
    (hfew : ((backTo cpos (starEach [e] X.env)).all (fun x => !x.1) && (backToKw cpos (keywordEach [] X.env)).all (fun x => x.1.isSome)
      && decide ([e].length + ([] : List Keyword).length + (if ([] : List Keyword).isEmpty then 0 else 1) < 30)) = true := by rfl)
    (hline : (apos.endLine == cpos.line) = true := by rfl) (hse : starEach [e] X.env = (false, eval e X.env) :: starEach [] X.env := by rfl) (hplain : (backTo cpos (starEach [] X.env)).any (·.1) = false := by rfl) :
    DE C (.Call (.Attribute o "count" apos) [e] [] cpos) (tBM X.K "list" (rCountD X.K) to (tCons te tNil)) (dM1 fCount d1 d2) := by
  refine ⟨pe_bm PySem.F.plainAttrs_list PySem.F.slot_list_count PySem.F.type_list_count (mt_countD (by have := C.un; omega)) ho.pe (pa_cons he.pe pa_nil hse) hbase hfew hline hse hplain, list_m1 ho he fun w u v x y Q kd gh tx ty h k => ?_⟩
  unfold fCount at h
  split at h
  · rename_i ds
    obtain ⟨h1, h2, h3, h4, h5, h6⟩ := h
    obtain ⟨a, vs, rfl, hh, hr'⟩ := tx
    exact ⟨a, v, y, ds, rfl, rfl, (Rep.lst hh (reps_mono gh _ _ hr')).dp (.list ds) _ (by simpa [PyData.hasDict] using h4), (ty.rep gh).dp _ _ h5, h1, h2, h3, k _ _ (.int _) h6⟩
  · exact h.elim
theorem de_index (ho : DE C o to d1) (he : DE C e te d2) (hbase : attributeBase o "index" X.env (eval o X.env) = eval o X.env := by rfl)
    (hfew : ((backTo cpos (starEach [e] X.env)).all (fun x => !x.1) && (backToKw cpos (keywordEach [] X.env)).all (fun x => x.1.isSome)
      && decide ([e].length + ([] : List Keyword).length + (if ([] : List Keyword).isEmpty then 0 else 1) < 30)) = true := by rfl)
    (hline : (apos.endLine == cpos.line) = true := by rfl) (hse : starEach [e] X.env = (false, eval e X.env) :: starEach [] X.env := by rfl) (hplain : (backTo cpos (starEach [] X.env)).any (·.1) = false := by rfl) :
    DE C (.Call (.Attribute o "index" apos) [e] [] cpos) (tBM X.K "list" (rIndexD X.K) to (tCons te tNil)) (dM1 fIndex d1 d2) := by
  refine ⟨pe_bm PySem.F.plainAttrs_list PySem.F.slot_list_index PySem.F.type_list_index (mt_indexD (by have := C.un; omega)) ho.pe (pa_cons he.pe pa_nil hse) hbase hfew hline hse hplain, list_m1 ho he fun w u v x y Q kd gh tx ty h k => ?_⟩
  unfold fIndex at h
  split at h
  · rename_i ds
    obtain ⟨h1, h2, j, z, h3, h4, h5, h6⟩ := h
    obtain ⟨a, vs, rfl, hh, hr'⟩ := tx
    exact ⟨a, v, y, ds, j, z, rfl, rfl, (Rep.lst hh (reps_mono gh _ _ hr')).dp (.list ds) _ (PyData.hasDict_of_canLay _ (SeqAt.canLay_of_shaped h1)), (ty.rep gh).dp _ _ (PyData.hasDict_of_canLay _ (SeqAt.canLay_of_shaped h2)), h1, h2, h3, h4, h5, k _ _ (.int _) h6⟩
  · exact h.elim
end
/-! ### isinstance of data -/
def isIntD : PyData → Bool
  | .int _ => true | .bool _ => true | _ => false
def isBoolD : PyData → Bool
  | .bool _ => true | _ => false
def isTupD : PyData → Bool
  | .tuple _ => true | _ => false
end DL

end
section
set_option maxHeartbeats 4000000
/-! DLK: isinstance of data. -/
namespace DL
open PySem PySem.Spec L2
def tyN : PyData → String
  | .none => "NoneType" | .bool _ => "bool" | .int _ => "int" | .str _ => "str" | .list _ => "list" | .tuple _ => "tuple" | .dict _ => "dict"
theorem rep_ty {K : PySem.W.Frag} {G H : Hp} (gh : Same G H) {v : V} : ∀ {d : PyData}, Rep K G v d → TyX K H v (.type (tyN d)) := by
  intro d h
  cases h with
  | non => exact .base .non
  | bl b => exact .base (.bl b)
  | int i => exact .base (.int i)
  | str x => exact .base (.str x)
  | lst hs _ => exact .base (.lst (gh _ _ hs))
  | tup hs _ =>
    rcases hs with (h | ⟨o, h⟩) | ⟨o, its, n, h1, h2, _⟩
    · exact .base (.tup (gh _ _ h))
    · exact .fTuple (gh _ _ h)
    · exact .kTuple h1 h2
  | dic hs _ => exact .base (.dK (gh _ _ hs))
section
variable {X : Cx} {C : DC X} {e : Expr} {te : TE} {de : TED} {p q pos : Pos} {T : String} {isT : PyData → Bool}
def dIsD (isT : PyData → Bool) (de : TED) : TED := fun ρ Q => de ρ fun r ρ1 => vw ρ1 r fun x => Q (.d (.bool (isT x))) ρ1
theorem de_isD (hT : ∀ d, PySem.W.kitOne X.K (.type (tyN d)) (.type T) = some (isT d)) (hm : X.mg "isinstance" = none) {x : Str} (hx : X.mg x = none) (hb : bootBuiltins x = some (.type T)) (he : DE C e te de) (hgx : Gl X x := by rfl) (hg : Gl X "isinstance" := by rfl)
    (hn : x ≠ "__name__" := by decide) (hdx : (x == ("__debug__" : Str)) = false := by decide)
    (hs : starEach [e, .Name x q] X.env = (false, eval e X.env) :: starEach [.Name x q] X.env := by rfl) (hs2 : starEach [.Name x q] X.env = (false, eval (.Name x q) X.env) :: starEach [] X.env := by rfl) (hpl : (backTo pos (starEach [.Name x q] X.env)).any (·.1) = false := by rfl) :
    DE C (.Call (.Name "isinstance" p) [e, .Name x q] [] pos) (tCB (rIsi X.K) (tCons te (tCons (tC (.ty T)) tNil))) (dIsD isT de) := by
  refine ⟨pe_callB call_isi hg hm (by decide +kernel) (pa_cons he.pe (pa_cons (pe_bltn hgx hx hb rfl hn hdx) pa_nil hs2) hs) (by decide) (by decide) hs hpl, fun w σ ρ Q QD hA I q k => ?_⟩
  refine he.run w σ ρ _ _ hA I q fun v r1 w1 ρ1 s1 I1 R1 q1 => ?_
  obtain ⟨d, td, q2⟩ := vw_top I1 R1 q1
  exact ⟨v, .ty T, .type (tyN d), .type T, isT d, rfl, .ty T, rep_ty (fun _ _ h => h) (td.rep I1.gh), hT d, k _ (.d (.bool _)) w1 ρ1 s1 I1 (.bl _) q2⟩
theorem kit_int {K : PySem.W.Frag} (d : PyData) : PySem.W.kitOne K (.type (tyN d)) (.type "int") = some (isIntD d) := by cases d <;> rfl
theorem kit_bool {K : PySem.W.Frag} (d : PyData) : PySem.W.kitOne K (.type (tyN d)) (.type "bool") = some (isBoolD d) := by cases d <;> rfl
theorem kit_tuple {K : PySem.W.Frag} (d : PyData) : PySem.W.kitOne K (.type (tyN d)) (.type "tuple") = some (isTupD d) := by cases d <;> rfl
end

/-! ### facts of exception classes, by names -/
def excB (K : PySem.W.Frag) (x : Str) : Bool := decide (PySem.W.findIn K (.ref (He.ga K x)) "__getattribute__" = some (some (.builtin "BaseException.__getattribute__"))) && (decide (PySem.W.findIn K (.ref (He.ga K x)) "__getattr__" = some none) &&
  (decide (PySem.W.subIn K (.ref (He.ga K x)) (.type "BaseException") = some true) && (PySem.W.hasDictIn K (He.ga K x) && (decide (PySem.W.findIn K (.ref (He.ga K x)) "__class__" = some (some (.builtin "object.__class__"))) &&
  (decide (PySem.W.specialIn K (.builtin "object.__class__") "__get__" = some (some (.builtin "getset_descriptor.__get__"))) && (decide (PySem.W.takesIn K (.builtin "object.__class__") = some true) && decide (PySem.W.mroIn K (He.ga K x) (.type "object") = some true)))))))
theorem excB_ok {K : PySem.W.Frag} {x : Str} (h : excB K x = true) : L2.ExcC K (He.ga K x) := by
  unfold excB at h
  simp only [Bool.and_eq_true, decide_eq_true_eq] at h
  obtain ⟨h1, h2, h3, h4, h5, h6, h7, h8⟩ := h
  exact ⟨h1, h2, h3, h4, h5, h6, h7, h8⟩
def kitB (K : PySem.W.Frag) (x y : Str) (b : Bool) : Bool := decide (PySem.W.kitOne K (.ref (He.ga K x)) (.ref (He.ga K y)) = some b)
theorem kitB_ok {K : PySem.W.Frag} {x y : Str} {b : Bool} (h : kitB K x y b = true) : PySem.W.kitOne K (.ref (He.ga K x)) (.ref (He.ga K y)) = some b := of_decide_eq_true h
def kitT (K : PySem.W.Frag) (x : Str) (T : String) (b : Bool) : Bool := decide (PySem.W.kitOne K (.ref (He.ga K x)) (.type T) = some b)
theorem kitT_ok {K : PySem.W.Frag} {x : Str} {T : String} {b : Bool} (h : kitT K x T b = true) : PySem.W.kitOne K (.ref (He.ga K x)) (.type T) = some b := of_decide_eq_true h
def exmB (K : PySem.W.Frag) (x y : Str) : Bool := decide (PySem.W.exmOne K (.ref (He.ga K x)) (.ref (He.ga K y)) = some true)
theorem exmB_ok {K : PySem.W.Frag} {x y : Str} (h : exmB K x y = true) : PySem.W.exmOne K (.ref (He.ga K x)) (.ref (He.ga K y)) = some true := of_decide_eq_true h

/-! ### texts compared, whatever their letters -/
def dEqS (x y : PyData) (k : PyData → Prop) : Prop := match x, y with
  | .str a, .str b => k (.bool (decide (a = b)))
  | _, _ => False
theorem od_eqS {X : Cx} {C : DC X} : OpR X (compareOp .Eq) rEq ∧ OpD X C rEq dEqS := by
  refine ⟨op_eq, fun w σ ρ u v x y Q kd hA I tx ty h k => ?_⟩
  unfold dEqS at h
  split at h
  · cases tx
    cases ty
    rename_i a b
    refine ⟨rfl, ?_⟩
    have e : decide (V.str a = V.str b) = decide (a = b) := by
      by_cases q : a = b
      · subst q; simp
      · have : ¬ (V.str a = V.str b) := fun z => q (V.str.inj z)
        simp [q, this]
    rw [e]
    exact k _ _ w (Stp.refl w) I (.bl _) h
  · exact h.elim
end DL

end
section
set_option maxHeartbeats 4000000
/-! DLL: repr of ints up to 4,300 digits: the interpreter's own table sets no limit. -/
namespace DL
open PySem PySem.Spec L2 PyProof.Rows
/-- the interpreter's own table, in what stays, names no limit of digits -/
def noDigB (K : PySem.W.Frag) : Bool := match K.lookup cStatics with
  | some ⟨_, _, .dict es _, _⟩ => es.all (fun e => match e.key with | .str _ _ => true | _ => false) && (nsFind es "sys.int_max_str_digits").isNone
  | _ => false
theorem noDigB_ok {K : PySem.W.Frag} (h : noDigB K = true) {hp : Heap} (X : K.In hp) : hp.NoDigits := by
  unfold noDigB at h
  split at h
  · rename_i oc od es ep sl q
    obtain ⟨h1, h2⟩ := He.ba h
    refine ⟨fun n => nsFind es n, ⟨_, es, ep, X _ _ q, rfl, fun e he => ?_, fun _ => rfl⟩, Option.isNone_iff_eq_none.mp h2⟩
    have hx := Array.all_eq_true_iff_forall_mem.mp h1 e he
    cases hk : e.key <;> rw [hk] at hx <;> first | exact ⟨_, _, rfl⟩ | cases hx
  · cases h
mutual
/-- data whose text may be long -/
def wide : PyData → Bool
  | .int i => decide (i.natAbs.log2 < 12900)
  | .list xs => wides xs
  | .tuple xs => wides xs
  | .dict _ => false
  | _ => true
def wides : List PyData → Bool
  | [] => true
  | d :: ds => wide d && wides ds
end
mutual
theorem wide_nd : ∀ d : PyData, wide d = true → d.hasDict = false
  | .none, _ => rfl
  | .bool _, _ => rfl
  | .int _, _ => rfl
  | .str _, _ => rfl
  | .list xs, h => by simpa [PyData.hasDict] using wides_nd xs (by simpa [wide] using h)
  | .tuple xs, h => by simpa [PyData.hasDict] using wides_nd xs (by simpa [wide] using h)
  | .dict _, h => by simp [wide] at h
theorem wides_nd : ∀ ds : List PyData, wides ds = true → PyData.hasDictAll ds = false
  | [], _ => rfl
  | d :: ds, h => by
    have h2 : wide d = true ∧ wides ds = true := by simpa [wides] using h
    simp [PyData.hasDictAll, wide_nd d h2.1, wides_nd ds h2.2]
end
section
variable {prog : Program} {w : World} {A : Around} {E : Value → Shared → Prop} {s : Shared} {a : Int} {t : Tok} {g : Heap}
theorem call_int_reprW {Q : Value → Shared → Prop} (hn : s.heap.NoDigits) (hi : a.natAbs.log2 < 12900) (h : Q (.str (toString a) s.toks) { s with toks := s.toks + 1 }) :
    wpAny (model prog w) A (call (.builtin "int.__repr__") [.int a t]) Q E s := by
  have hlt : a.natAbs < 10 ^ 4300 := Nat.lt_of_lt_of_le (lt_of_log2 hi) pow_lo
  refine wpAny_call_entry F.slot_int_repr (typeIs_int s a t) F.entry_int_repr ?_ (F.args_int_repr_1 _)
  unfold Builtin.«int.__repr__»
  show wpAny _ _ (do let r ← Builtin.overDigitLimit? a; _) _ _ s
  refine wpAny_bind (overDigitLimit_any hn (fun _ => ?_) (fun hge => absurd hlt (Nat.not_lt.mpr hge)))
  clear hi
  exact wpAny_bind (wpAny_mkStr (wpAny_pure ⟨_, rfl, h⟩) (int_text_fits10 hlt))
theorem objUnits {d : Nat} {A : Around} (h : A.units + d < cLine) : A.units < cLine := by omega
theorem reprK_intW {d : Nat} (hn : g.NoDigits) (hi : a.natAbs.log2 < 12900) : ReprK prog w [] g d (.int a t) (toString a) := fun base hb A _ E s Q _ _ hu hk hQ => by
  rw [pyReprUnder_leaf (v := .int a t) (show base ≤ sizeLine by omega) (fun _ e => nomatch e)]
  unfold pyRepr
  refine wpAny_bind (wpAny_pyReprObj_slot (objUnits hu) (typeIs_int s a t) F.slot_int_repr.toG (call_int_reprW (hn.keeps hk) hi ⟨_, _, rfl, ?_⟩))
  exact wpAny_pure (hQ s.heap _ fun _ _ e => e)
mutual
theorem reprK_wide (hn : g.NoDigits) : ∀ (d : PyData) (v : Value) (as : List Addr), Reads g v d as → wide d = true → d.shown.length ≤ sizeLine → ∃ bs, ReadAtMost g d.depth bs ∧ ReprK prog w bs g d.depth v d.shown
  | .none, _, _, r, _, hz => ReprK.of_reads r rfl (fun z => by cases z) hz
  | .bool _, _, _, r, _, hz => ReprK.of_reads r rfl (fun z => by cases z) hz
  | .str _, _, _, r, _, hz => ReprK.of_reads r rfl (fun z => by cases z) hz
  | .int i, _, _, r, hw, _ => by
    cases r with
    | int _ t =>
      refine ⟨[], (fun _ h => nomatch h), ?_⟩
      simp only [PyData.shown]
      exact reprK_intW hn (by simpa [wide] using hw)
  | .dict _, _, _, _, hw, _ => by simp [wide] at hw
  | .list xs, _, _, r0, hw, hz => by
    have hz2 : (listText (PyData.shownAll xs)).length ≤ sizeLine := by simpa only [PyData.shown] using hz
    cases r0 with
    | list h1 h2 h3 h4 =>
      rename_i a o vs n as
      obtain ⟨bs, hb, hk⟩ := reprAllK_wide hn xs _ _ h4 (by simpa [wide] using hw) fun t ht => Nat.le_trans (listText_mem_le ht) hz2
      have r : Reads g (.ref a) (.list xs) _ := .list h1 h2 h3 h4
      have hna : a ∉ bs := not_mem_of_deeper r (by simp only [PyData.depth]; omega) hb
      refine ⟨a :: bs, ReadAtMost.cons r (by simp only [PyData.depth]; omega) hb, ?_⟩
      simp only [PyData.depth, PyData.shown]
      obtain ⟨l⟩ := vs
      cases l with
      | nil =>
        have h4' : ReadsAll g [] xs _ := h4
        cases h4'
        simp only [PyData.shownAll, listText_nil]
        exact ReprK.listEmpty h1 h2 h3
      | cons x l => exact ReprK.list h1 h2 h3 hna (by simpa using hk.length_eq) (fun i y e => hk.item i y (by simpa using e))
  | .tuple xs, _, _, r0, hw, hz => by
    have hz2 : (tupleText (PyData.shownAll xs)).length ≤ sizeLine := by simpa only [PyData.shown] using hz
    cases r0 with
    | tuple h1 h2 h3 h4 =>
      rename_i a o vs n
      obtain ⟨bs, hb, hk⟩ := reprAllK_wide hn xs _ _ h4 (by simpa [wide] using hw) fun t ht => Nat.le_trans (tupleText_mem_le ht) hz2
      have r : Reads g (.ref a) (.tuple xs) _ := .tuple h1 h2 h3 h4
      have hna : a ∉ bs := not_mem_of_deeper r (by simp only [PyData.depth]; omega) hb
      refine ⟨a :: bs, ReadAtMost.cons r (by simp only [PyData.depth]; omega) hb, ?_⟩
      simp only [PyData.depth, PyData.shown]
      exact ReprK.tuple h1 h2 h3 hna hk
theorem reprAllK_wide (hn : g.NoDigits) : ∀ (ds : List PyData) (vs : List Value) (as : List Addr), ReadsAll g vs ds as → wides ds = true → (∀ t ∈ PyData.shownAll ds, t.length ≤ sizeLine) →
    ∃ bs, ReadAtMost g (PyData.depthAll ds) bs ∧ ReprAllK prog w bs g (PyData.depthAll ds) vs (PyData.shownAll ds)
  | [], _, _, r, _, _ => by
    cases r
    exact ⟨[], (fun _ h => nomatch h), by simp only [PyData.shownAll]; exact .nil⟩
  | d :: ds, _, _, r0, hw, hz => by
    have hw2 : wide d = true ∧ wides ds = true := by simpa [wides] using hw
    cases r0 with
    | cons r rs =>
      obtain ⟨b1, hb1, k1⟩ := reprK_wide hn d _ _ r hw2.1 (hz _ (by simp only [PyData.shownAll]; exact List.mem_cons_self ..))
      obtain ⟨b2, hb2, k2⟩ := reprAllK_wide hn ds _ _ rs hw2.2 (fun t ht => hz t (by simp only [PyData.shownAll]; exact List.mem_cons_of_mem _ ht))
      refine ⟨b1 ++ b2, ?_, ?_⟩
      · simp only [PyData.depthAll]
        exact (hb1.mono (Nat.le_max_left _ _)).append (hb2.mono (Nat.le_max_right _ _))
      · simp only [PyData.depthAll, PyData.shownAll]
        exact .cons ((k1.more fun b hb => List.mem_append_left _ hb).level_le (Nat.le_max_left _ _)) (k2.more_le (fun b hb => List.mem_append_right _ hb) (Nat.le_max_right _ _))
end
variable {Q : Value → Shared → Prop} {b : Addr} {d : PyData} {as : List Addr}
theorem reprD_wide (hn : s.heap.NoDigits) (r : Reads s.heap (.ref b) d as) (hw : wide d = true) (gd : A.guards = some []) (un : A.units + (d.depth + 1) < cLine)
    (hQ : ∀ h' u tk, (∀ b o, s.heap.get? b = some o → h'.get? b = some o) → Q (.str d.shown u) { s with heap := h', toks := tk })
    (hsz : d.shown.length ≤ sizeLine) : wpAny (model prog w) A (call (.builtin "repr") [.ref b]) Q E s := by
  have r' := r
  cases r with
  | list h1 h2 h3 h4 =>
    rename_i o vs n xs bs0
    have hz2 : (listText (PyData.shownAll xs)).length ≤ sizeLine := by simpa only [PyData.shown] using hsz
    obtain ⟨bs, hb, hk⟩ := reprAllK_wide (prog := prog) (w := w) hn xs _ _ h4 (by simpa [wide] using hw) fun t ht => Nat.le_trans (listText_mem_le ht) hz2
    have hna : b ∉ bs := not_mem_of_deeper r' (by simp only [PyData.depth]; omega) hb
    simp only [PyData.depth] at un
    simp only [PyData.shown] at hQ
    refine call_repr_slot (by omega) ⟨o, h1, h2⟩ F.slot_list_repr.toG ?_
    obtain ⟨l⟩ := vs
    cases l with
    | nil =>
      have h4' : ReadsAll s.heap [] xs _ := h4
      cases h4'
      simp only [PyData.shownAll, listText_nil] at hQ
      exact call_list_repr_empty ⟨o, h1, h2⟩ h1 h3 ⟨_, _, rfl, hQ s.heap _ _ fun _ _ e => e⟩
    | cons x l =>
      exact call_list_reprK h1 h2 h3 hna (by simpa using hk.length_eq) (fun i y e => hk.item i y (by simpa using e)) gd (fun b _ => Clear.nil b) (by show A.units + 1 + _ < cLine; omega) (fun _ _ e => e) (fun h' u tk hk => ⟨_, _, rfl, hQ h' u tk hk⟩) hz2
  | tuple h1 h2 h3 h4 =>
    rename_i o vs n xs
    have hz2 : (tupleText (PyData.shownAll xs)).length ≤ sizeLine := by simpa only [PyData.shown] using hsz
    obtain ⟨bs, hb, hk⟩ := reprAllK_wide (prog := prog) (w := w) hn xs _ _ h4 (by simpa [wide] using hw) fun t ht => Nat.le_trans (tupleText_mem_le ht) hz2
    have hna : b ∉ bs := not_mem_of_deeper r' (by simp only [PyData.depth]; omega) hb
    simp only [PyData.depth] at un
    simp only [PyData.shown] at hQ
    refine call_repr_slot (by omega) ⟨o, h1, h2⟩ F.slot_tuple_repr ?_
    exact call_tuple_reprK h1 h2 h3 hna hk gd (fun b _ => Clear.nil b) (by show A.units + 1 + _ < cLine; omega) (fun _ _ e => e) (fun h' u tk hk => ⟨_, _, rfl, hQ h' u tk hk⟩) hz2
  | dict _ _ _ _ _ => simp [wide] at hw
theorem reprI_wide (hn : s.heap.NoDigits) (hi : a.natAbs.log2 < 12900) (un : A.units + 1 < cLine) (h : Q (.str (toString a) s.toks) { s with toks := s.toks + 1 }) : wpAny (model prog w) A (call (.builtin "repr") [.int a t]) Q E s :=
  call_repr_slot un (typeIs_int s a t) F.slot_int_repr.toG (call_int_reprW hn hi ⟨_, _, rfl, h⟩)
end
section
variable {X : Cx} {C : DC X}
/-- repr: the text of a datum, of ints up to 4,300 digits too -/
def fReprW (x : PyData) (k : PyData → Prop) : Prop := wide x = true ∧ x.depth ≤ 60 ∧ x.shown.length ≤ sizeLine ∧ k (.str x.shown)
def rReprW (K : PySem.W.Frag) : List V → Hp → VK → Prop := fun xs H Q => ∃ v d, xs = [v] ∧ Dp K H v d ∧ wide d = true ∧ d.depth ≤ 60 ∧ d.shown.length ≤ sizeLine ∧ Q (.str d.shown) H
theorem call_reprW (nd : noDigB X.K = true) (gd : X.A.guards = some []) (un : X.A.units + 100 < cLine) : CallR X (.builtin "repr") (rReprW X.K) := by
  intro pins s σ H xs us Q I rx h
  obtain ⟨v, d, rfl, hd, hs, hdep, hsz, q⟩ := h
  obtain ⟨u, rfl, ru⟩ := vals1 rx
  obtain ⟨as, rd⟩ := Dp.reads I d v u hd ru
  have nn : s.heap.NoDigits := noDigB_ok nd I.kIn
  have fin2 : ∀ h' t tk, (∀ b o, s.heap.get? b = some o → h'.get? b = some o) → EP X pins σ Q (.str d.shown t) { s with heap := h', toks := tk } := fun h' t tk hk => ⟨.str d.shown, H, I.kept (t' := tk) hk, ⟨t, rfl⟩, q⟩
  cases rd with
  | none => exact PySem.P.repr_of_none (by simpa only [PyData.shown] using fin2 s.heap _ _ fun _ _ z => z)
  | bool b => exact PySem.P.repr_of_bool (by simpa only [PyData.shown] using fin2 s.heap _ _ fun _ _ z => z)
  | int i t => exact reprI_wide nn (by simpa [wide] using hs) (by omega) (by simpa only [PyData.shown] using fin2 s.heap _ _ fun _ _ z => z)
  | str z t => exact PySem.P.repr_of_str (by simpa only [PyData.shown] using fin2 s.heap _ _ fun _ _ z => z) (by simpa only [PyData.shown] using hsz)
  | list h1 h2 h3 h4 => exact reprD_wide nn (Reads.list h1 h2 h3 h4) hs gd (by omega) fin2 hsz
  | tuple h1 h2 h3 h4 => exact reprD_wide nn (Reads.tuple h1 h2 h3 h4) hs gd (by omega) fin2 hsz
  | dict _ _ _ _ _ => simp [wide] at hs
theorem cd_reprW (nd : noDigB X.K = true) : CallR X (.builtin "repr") (rReprW X.K) ∧ CallD1 X C (rReprW X.K) fReprW := by
  refine ⟨call_reprW nd C.gd C.un, fun w σ ρ u x Q kd hA I tx h k => ?_⟩
  obtain ⟨h1, h3, h4, h5⟩ := h
  exact ⟨u, x, rfl, (tx.rep I.gh).dp _ _ (wide_nd x h1), h1, h3, h4, k _ (.str _) w (Stp.refl w) I (.str _) h5⟩
end
end DL
/-! a head whose look takes the interpreter's own table too -/
namespace DL
open PySem PySem.Spec PyProof.Rows L2 He
def obsY (n : Nat) (fa : List Fa) (fn : List DefD) (ex : PySem.W.Frag → Bool) (g : Addr → Option Obj) : AlX := (obsT fa fn [] (frT g (asD g n ++ [cStatics])), ex (frT g (asD g n ++ [cStatics])))
def hookY (n : Nat) (fa : List Fa) (fn : List DefD) (ex : PySem.W.Frag → Bool) : PySem.W.Hook where
  α := AlX
  obs := fun s => obsY n fa fn ex s.heap.get?
  val := fun w => valX fn [] w
  says := fun w h => ∃ K : PySem.W.Frag, K.In h ∧ SaysX fa fn [] [] ex w h K
  of := fun _ _ e => ⟨_, frT_in, ⟨congrArg (fun z : AlX => z.1) e, congrArg (fun z : AlX => z.2) e, (fun _ hp => nomatch hp), (fun _ hp => nomatch hp), (fun _ hp => nomatch hp)⟩⟩
  keeps := fun _ _ _ ⟨K, hK, c⟩ k => ⟨K, PySem.W.Frag.In.keeps hK k, ⟨c.t, c.more, c.hd, c.out, fun p hp => k _ _ (c.empty p hp)⟩⟩
theorem obsY_eq {n : Nat} {fa : List Fa} {fn : List DefD} {ex : PySem.W.Frag → Bool} {g : Addr → Option Obj} {s : Shared} (h : ∀ a, g a = s.heap.get? a) : obsY n fa fn ex g = (hookY n fa fn ex).obs s := by
  have e : g = s.heap.get? := funext h
  rw [e] <;> rfl
end DL

end
section
set_option maxHeartbeats 4000000
/-! DLR: a tuple taken many times, dict displays of whole numbers, the text of data with such dicts. -/
namespace DL
open PySem PySem.Spec L2 PyProof.Rows
section
variable {X : Cx}
/-- tuple * n, n up to 10,000 -/
def rRepB (K : PySem.W.Frag) : R2 := fun x y H Q => ∃ l k xs, x = .ref l ∧ y = .int k ∧ SqT K H l xs ∧ xs ≠ [] ∧ 2 ≤ k ∧ k ≤ 10000 ∧ xs.length ≤ 100 ∧ ∀ p, H p = none → Q (.ref p) (upd H p (.tup (List.replicate k.toNat xs).flatten))
theorem op_repB : OpR X (binaryOp .Mult) (rRepB X.K) := by
  intro pins s σ H x y v u Q I rx ry h
  obtain ⟨l, k, xs, rfl, rfl, hT, hne, h1, h2, hz, q⟩ := h
  cases rx
  obtain ⟨t, rfl⟩ := ry
  obtain ⟨its, r, ⟨⟨cls, dd, data, sl⟩, ho, hc, n, hd⟩, hs⟩ := I.tuple hT
  simp only at hc hd
  subst hc hd
  have hle : its.length = xs.length := r.length.symm
  have pos : 0 < xs.length := List.length_pos_iff.mpr hne
  have hi : its.toArray.isEmpty = false := by
    cases its with
    | nil => rw [← hle] at pos; simp at pos
    | cons a b => rfl
  have hsz0 : its.toArray.size = xs.length := by rw [List.size_toArray, hle]
  have big : k.toNat * xs.length ≤ 10000 * 100 := Nat.mul_le_mul (by omega) hz
  have hm : ((its.toArray.size : Nat) : Int) * k ≤ 1000000 := by
    rw [hsz0, show k = ((k.toNat : Nat) : Int) by omega, ← Int.natCast_mul, Nat.mul_comm]
    omega
  have flen : (List.replicate k.toNat its).flatten.length ≤ sizeLine := by
    rw [PyProof.Rows.lm_len_rep_flat, hle, sizeLine_eq]
    omega
  refine wpAny_binaryOp_repeat_ref (T := "tuple") (U := "int") (by decide) ⟨_, ho, rfl⟩ (fun s' => typeIs_int s' k t) noFill_tuple_mul F.fills_int_mul F.slot_int_rmul repeat_tuple F.slot_int_index.lookup
    (call_meets F.slot_int_rmul (typeIs_int s k t) F.entry_int_rmul (F.args_int_rmul_2 _ _) (int_rmul_tuple k t l its.toArray n dd sl)
      ⟨ho, rfl, ⟨_, ho, rfl⟩, call_meets F.slot_tuple_mul ⟨_, ho, rfl⟩ F.entry_tuple_mul (F.args_tuple_mul_2 _ _) (tuple_mulW l its.toArray n dd sl k t
        (by rw [decide_eq_false (by omega), decide_eq_false (by omega)] <;> rfl) (by rw [hi, Bool.false_or]; exact beq_eq_false_iff_ne.mpr (by omega)) (by rw [hi, Bool.or_false]; exact decide_eq_false (by omega)) (by omega)
        (by unfold Builtin.Tuple.tupleTooMany; rw [sizeLine_eq]; exact decide_eq_false (by omega)) (by rw [size_rep, List.size_toArray]; exact flen)) ⟨ho, ?_⟩⟩)
  rw [size_rep]
  refine ⟨.ref s.heap.objs.size, _, I.laid (t' := s.toks) (o := .tup (List.replicate k.toNat xs).flatten) (fun b ob q => Heap.get?_push_of_some _ q) (Nat.le_refl _) ?_, rfl, q _ (I.hok.fresh (Nat.le_refl _))⟩
  exact ⟨by rw [PyProof.Rows.lm_len_rep_flat, sizeLine_eq]; omega, _, r.rep k.toNat, IsTup.new _ _⟩
variable {C : DC X}
theorem reps_rep {G : Hp} {vs : List V} {ds : List PyData} (h : Reps X.K G vs ds) : ∀ n : Nat, Reps X.K G (List.replicate n vs).flatten (List.replicate n ds).flatten
  | 0 => .nil
  | n + 1 => by
    rw [List.replicate_succ, List.replicate_succ, List.flatten_cons, List.flatten_cons]
    exact h.app (reps_rep h n)
def dMulB (x y : PyData) (k : PyData → Prop) : Prop := match x, y with
  | .tuple ds, .int n => ds ≠ [] ∧ 2 ≤ n ∧ n ≤ 10000 ∧ ds.length ≤ 100 ∧ k (.tuple (List.replicate n.toNat ds).flatten)
  | _, _ => False
theorem od_repB : OpR X (binaryOp .Mult) (rRepB X.K) ∧ OpD X C (rRepB X.K) dMulB := by
  refine ⟨op_repB, fun w σ ρ u v x y Q kd hA I tx ty h k => ?_⟩
  unfold dMulB at h
  split at h
  · obtain ⟨h1, h2, h3, h4, h5⟩ := h
    cases ty
    cases tx with
    | tup hs hr =>
      rename_i aa vs
      refine ⟨aa, _, vs, rfl, rfl, sqt_mono I.gh hs, fun z => h1 ?_, h2, h3, by rw [hr.len]; exact h4, fun p hp => ?_⟩
      · have := hr.len
        rw [z] at this
        exact List.eq_nil_of_length_eq_zero this.symm
      · obtain ⟨I4, s4⟩ := I.new (o := .tup (List.replicate _ vs).flatten) hp
        exact k (.ref p) _ ⟨upd w.G p _, upd w.H p _, w.F⟩ s4 I4 (.tup (SqT.of upd_same) (reps_mono s4.g _ _ (reps_rep hr _))) h5
  · exact h.elim
/-! ### dict displays -/
def esD (kvs : List (Int × Int)) : List (PyData × PyData) := kvs.map fun p => (.int p.1, .int p.2)
def kvD (kvs : List (Int × Int)) : List (Key × V) := kvs.map fun p => (Sum.inl p.1, V.int p.2)
def trsD (kvs : List (Int × Int)) : List (TE × TE) := kvs.map fun p => (tC (.int p.1), tC (.int p.2))
theorem rep_kv {G : Hp} : ∀ kvs : List (Int × Int), RepKV X.K G (kvD kvs) (esD kvs)
  | [] => .nil
  | p :: r => .cons (k := Sum.inl p.1) (.int p.2) (rep_kv r)
theorem de_dict0 {pos : Pos} : DE C (.Dict [] [] pos) tDNewK (dC (.dict [])) := by
  refine ⟨pe_dnewK, fun w σ ρ Q QD hA I q k p hp => ?_⟩
  obtain ⟨I4, s4⟩ := I.new (o := .dK []) hp
  exact k (.ref p) (.d (.dict [])) ⟨upd w.G p _, upd w.H p _, w.F⟩ ρ s4 I4 (.dic upd_same .nil) q
theorem pairs_c {σ : L2.St} : ∀ (kvs : List (Int × Int)) (H : Hp) (K : List (V × V) → Hp → Prop), K (kvs.map fun p => (V.int p.1, V.int p.2)) H → tPairs (trsD kvs) σ H K
  | [], _, _, h => h
  | p :: r, H, K, h => pairs_c r H (fun ps H3 => K ((V.int p.1, V.int p.2) :: ps) H3) h
theorem de_disp {pos : Pos} {keys : List (Option Expr)} {values : List Expr} (kvs : List (Int × Int)) (h : PPs X pos keys values (trsD kvs)) (hall : keys.all (·.isSome) = true) (hl : keys.length = values.length) (h0 : keys ≠ [])
    (h15 : keys.length ≤ 15) (hk : kvs.length ≤ 15) (hm : mergeK [] (kvD kvs) = kvD kvs) : DE C (.Dict keys values pos) (tDisp (trsD kvs)) (dC (.dict (esD kvs))) := by
  refine ⟨pe_disp h hall hl h0 h15, fun w σ ρ Q QD hA I q k p hp => ?_⟩
  refine pairs_c kvs _ _ ⟨upd_same, kvD kvs, ?_, by unfold kvD; rw [List.length_map]; exact hk, ?_⟩
  · unfold kvD
    rw [List.map_map]
    rfl
  · rw [hm, upd_upd]
    obtain ⟨I4, s4⟩ := I.new (o := .dK (kvD kvs)) hp
    exact k (.ref p) (.d (.dict (esD kvs))) ⟨upd w.G p _, upd w.H p _, w.F⟩ ρ s4 I4 (.dic upd_same (rep_kv kvs)) q
/-! ### repr of data with flat dicts -/
/-- a dict of whole numbers or what is no list, tuple or dict -/
def lodD : PyData → Bool
  | .none => true | .bool _ => true | .int _ => true | .str _ => true
  | .dict es => es.all fun e => match e with | (.int _, .int _) => true | _ => false
  | _ => false
def flatDict : PyData → Bool
  | .tuple ds => ds.all lodD
  | d => lodD d
theorem kv_reads {h : Heap} {knd : KeyKind X.prog X.w Key} (hk : knd = mixKind X.prog X.w) : ∀ {kvs : List (Key × V)} {es : List (PyData × PyData)} {vs : List (Key × Value)} {ents : List DictEntry} {G : Hp}, RepKV X.K G kvs es → (es.all fun e => match e with | (.int _, .int _) => true | _ => false) = true → KV kvs vs → Pairs knd ents vs →
    ReadsAll h (ents.map (·.key)) (es.map (·.1)) [] ∧ ReadsAll h (ents.map (·.val)) (es.map (·.2)) []
  | _, _, _, _, _, .nil, _, r, p => by
    cases r
    cases p
    exact ⟨.nil, .nil⟩
  | _, _, _, _, _, .cons (k := k) rv rt, ha, r, p => by
    rw [List.all_cons, Bool.and_eq_true] at ha
    cases r with
    | cons r1 r2 =>
      cases p with
      | cons p1 p2 p3 =>
        obtain ⟨i1, i2⟩ := kv_reads hk rt ha.2 r2 p3
        obtain ⟨e1, e2⟩ := r1
        subst hk
        have e1 : (_ : Key) = _ := e1
        have hk1 : keyIs _ _ = true := p1
        rw [← e1] at hk1
        cases k with
        | inr x => exact absurd ha.1 (by simp [keyD])
        | inl i =>
          rcases keyIs_shape hk1 with ⟨j, t, hj, ej⟩ | ⟨x, t, hx, _⟩
          · cases hj
            cases rv with
            | int n =>
              obtain ⟨t2, ht2⟩ := e2
              refine ⟨?_, ?_⟩
              · rw [List.map_cons, List.map_cons, ej]
                exact ReadsAll.cons (as := []) (bs := []) (Reads.int _ _) i1
              · rw [List.map_cons, List.map_cons, p2, ht2]
                exact ReadsAll.cons (as := []) (bs := []) (Reads.int _ _) i2
            | _ => exact absurd ha.1 (by simp [keyD])
          · cases hx
theorem lod_reads {pins : List (Addr × Obj)} {s : Shared} {σ : L2.St} {H G : Hp} (I : Inv X pins σ H s) (gh : Same G H) {v : V} {d : PyData} {u : Value} (r : Rep X.K G v d) (hf : lodD d = true) (ru : RelV v u) : ∃ as, Reads s.heap u d as ∧ sysModules ∉ as := by
  cases r with
  | non => cases ru; exact ⟨[], .none, by simp⟩
  | bl b => cases ru; exact ⟨[], .bool _, by simp⟩
  | int i => obtain ⟨t, rfl⟩ := ru; exact ⟨[], .int _ _, by simp⟩
  | str x => obtain ⟨t, rfl⟩ := ru; exact ⟨[], .str _ _, by simp⟩
  | lst _ _ => cases hf
  | tup _ _ => cases hf
  | dic hg hr =>
    rename_i a kvs es
    cases ru
    obtain ⟨z, hd, vs, kr, o, ents, ep, ho, ⟨hc, _, _⟩, hdt, _, hp, _⟩ := dk_of I.hok (gh _ _ hg)
    obtain ⟨r1, r2⟩ := kv_reads (h := s.heap) rfl hr hf kr hp
    exact ⟨_, .dict ho hc hdt r1 r2, by simpa using fun e => (beq_eq_false_iff_ne.mp hd) e.symm⟩
theorem lods_reads {pins : List (Addr × Obj)} {s : Shared} {σ : L2.St} {H G : Hp} (I : Inv X pins σ H s) (gh : Same G H) : ∀ {vs : List V} {ds : List PyData} {us : List Value}, Reps X.K G vs ds → ds.all lodD = true → Vals vs us → ∃ as, ReadsAll s.heap us ds as ∧ sysModules ∉ as
  | _, _, _, .nil, _, r => by cases r; exact ⟨[], .nil, by simp⟩
  | _, _, _, .cons h t, ha, r => by
    rw [List.all_cons, Bool.and_eq_true] at ha
    cases r with
    | cons r1 r2 =>
      obtain ⟨as, q1, n1⟩ := lod_reads I gh h ha.1 r1
      obtain ⟨bs, q2, n2⟩ := lods_reads I gh t ha.2 r2
      exact ⟨as ++ bs, .cons q1 q2, by simp [n1, n2]⟩
def fReprD (x : PyData) (k : PyData → Prop) : Prop := x.showable = true ∧ (x.hasDict = false ∨ flatDict x = true) ∧ x.depth ≤ 60 ∧ x.shown.length ≤ sizeLine ∧ k (.str x.shown)
def rReprD (K : PySem.W.Frag) : List V → Hp → VK → Prop := fun xs H Q => ∃ v d, xs = [v] ∧ (Dp K H v d ∧ d.hasDict = false ∨ flatDict d = true ∧ ∃ G, Same G H ∧ Rep K G v d) ∧ d.showable = true ∧ d.depth ≤ 60 ∧ d.shown.length ≤ sizeLine ∧ Q (.str d.shown) H
theorem call_reprD (gd : X.A.guards = some []) (un : X.A.units + 100 < cLine) : CallR X (.builtin "repr") (rReprD X.K) := by
  intro pins s σ H xs us Q I rx h
  obtain ⟨v, d, rfl, hd, hs, hdep, hsz, q⟩ := h
  rcases hd with ⟨hd, hn⟩ | ⟨hf, G, gh, hr⟩
  · exact call_repr gd un pins s σ H _ us Q I rx ⟨v, d, rfl, hd, hs, hn, hdep, hsz, q⟩
  obtain ⟨u, rfl, ru⟩ := vals1 rx
  have fin2 : ∀ h' t tk, (∀ b o, s.heap.get? b = some o → h'.get? b = some o) → EP X pins σ Q (.str d.shown t) { s with heap := h', toks := tk } := fun h' t tk hk => ⟨.str d.shown, H, I.kept (t' := tk) hk, ⟨t, rfl⟩, q⟩
  have rd : ∃ as, Reads s.heap u d as ∧ sysModules ∉ as := by
    cases hr with
    | tup ht hr =>
      cases ru
      obtain ⟨its, r, ⟨o, ho, hc, n, hd⟩, _⟩ := I.tuple (sqt_mono gh ht)
      obtain ⟨as, q1, n1⟩ := lods_reads I gh hr hf r
      exact ⟨as, .tuple ho hc hd (by rw [List.toList_toArray]; exact q1), n1⟩
    | lst _ _ => cases hf
    | non => exact lod_reads I gh .non hf ru
    | bl b => exact lod_reads I gh (.bl b) hf ru
    | int i => exact lod_reads I gh (.int i) hf ru
    | str x => exact lod_reads I gh (.str x) hf ru
    | dic a b => exact lod_reads I gh (.dic a b) hf ru
  obtain ⟨as, rd, na⟩ := rd
  cases rd with
  | none => exact PySem.P.repr_of_none (by simpa only [PyData.shown] using fin2 s.heap _ _ fun _ _ z => z)
  | bool b => exact PySem.P.repr_of_bool (by simpa only [PyData.shown] using fin2 s.heap _ _ fun _ _ z => z)
  | int i t => exact PySem.P.repr_of_int (by simpa [PyData.showable] using hs) (by simpa only [PyData.shown] using fin2 s.heap _ _ fun _ _ z => z)
  | str z t => exact PySem.P.repr_of_str (by simpa only [PyData.shown] using fin2 s.heap _ _ fun _ _ z => z) (by simpa only [PyData.shown] using hsz)
  | list h1 h2 h3 h4 => exact repr_of_reads' (Reads.list h1 h2 h3 h4) hs (fun _ => na) gd (by omega) (fun _ _ z => z) fin2 hsz
  | tuple h1 h2 h3 h4 => exact repr_of_reads' (Reads.tuple h1 h2 h3 h4) hs (fun _ => na) gd (by omega) (fun _ _ z => z) fin2 hsz
  | dict h1 h2 h3 h4 h5 => exact repr_of_reads' (Reads.dict h1 h2 h3 h4 h5) hs (fun _ => na) gd (by omega) (fun _ _ z => z) fin2 hsz
theorem cd_reprD : CallR X (.builtin "repr") (rReprD X.K) ∧ CallD1 X C (rReprD X.K) fReprD := by
  refine ⟨call_reprD C.gd C.un, fun w σ ρ u x Q kd hA I tx h k => ?_⟩
  obtain ⟨h1, h2, h3, h4, h5⟩ := h
  refine ⟨u, x, rfl, ?_, h1, h3, h4, k _ (.str _) w (Stp.refl w) I (.str _) h5⟩
  rcases h2 with h2 | h2
  · exact .inl ⟨(tx.rep I.gh).dp _ _ h2, h2⟩
  · refine .inr ⟨h2, w.G, I.gh, ?_⟩
    cases x with
    | list _ => cases h2
    | _ => exact tx
/-! ### texts differ, whatever their letters -/
def dNeS (x y : PyData) (k : PyData → Prop) : Prop := match x, y with
  | .str a, .str b => k (.bool (!decide (a = b)))
  | _, _ => False
theorem od_neS : OpR X (compareOp .NotEq) rNe ∧ OpD X C rNe dNeS := by
  refine ⟨op_ne, fun w σ ρ u v x y Q kd hA I tx ty h k => ?_⟩
  unfold dNeS at h
  split at h
  · cases tx
    cases ty
    rename_i a b
    refine ⟨rfl, ?_⟩
    have e : decide (V.str a = V.str b) = decide (a = b) := by
      by_cases q : a = b
      · subst q; simp
      · have : ¬ (V.str a = V.str b) := fun z => q (V.str.inj z)
        simp [q, this]
    rw [e]
    exact k _ _ w (Stp.refl w) I (.bl _) h
  · exact h.elim
end
end DL

end
section
set_option maxHeartbeats 4000000
/-! DLS: exceptions as values, with fields that are ints; lists of them. -/
namespace DL
open PySem PySem.Spec PyProof.Rows L2

/-! ### isinstance of an exception, with or without a dict -/
section
open PySem.W
variable {prog : Program} {w : World} {A : Around} {E : Value → Shared → Prop} {s : Shared} {K : Frag} {x D : Addr} {ox : Obj} {od : Option Obj}
theorem findObj_dataD {C : Addr} {name : Str} {a g : Value} (hc : (clsIn K C).isSome = true) (ha : findIn K (.ref C) name = some (some a)) (hg : specialIn K a "__get__" = some (some g)) (ht : takesIn K a = some true) : findObj K C od name = some (.bind g a) := by
  obtain ⟨cd, hc⟩ := Option.isSome_iff_exists.mp hc
  unfold findObj
  rw [hc, Option.bind_some, ha, Option.bind_some]
  simp [hg, ht]
theorem kin_classD {Q : Option Value → Shared → Prop} (T : L2.ExcC K D)
    (X : K.In s.heap) (I : InstAt s.heap x ox D od) (h : Q (some (.ref D)) { s with toks := s.toks + 1 }) : wpAny (model prog w) A (getAttr? (.ref x) "__class__") Q E s := by
  obtain ⟨hga, hgt, hsub, hdct, ha, hn, htk, hm⟩ := T
  have hf : findObj K D od "__class__" = some (.bind (.builtin "getset_descriptor.__get__") (.builtin "object.__class__")) := findObj_dataD (by obtain ⟨cd, hc, _⟩ := any_some hdct; rw [hc]; rfl) ha hn htk
  obtain ⟨hp, g, d, t, os⟩ := s
  have L0 := I.type (M := model prog w)
  have L1 := looks_findIn (M := model prog w) X hga
  have L2 := looks_findIn (M := model prog w) X hgt
  have L3 := looks_find (M := model prog w) X I hf
  have sub : Looks (model prog w) hp (isInstance (.ref x) (.type "BaseException")) true := L0.andThen (looks_subIn X hsub)
  have hx0 : (false && onTheHeap (Value.builtin "BaseException.__getattribute__")) = false := rfl
  have hx2 : (Value.builtin "BaseException.__getattribute__" == Value.builtin "object.__getattribute__") = false := by decide +kernel
  have hx1 : (onTheHeap (Value.ref D) && Value.builtin "BaseException.__getattribute__" == Value.builtin "object.__getattribute__") = false := by rw [hx2]; rfl
  unfold getAttr? getAttrBy? getAttrBy
  refine wpAny_bind (wpAny_mkText (wpAny_bind (wpAny_attempt (wpAny_holding (wpAny_bind (L0.at (wpAny_bind (L1.at ?_))))))))
  show wpAny _ _ (if (onTheHeap (Value.ref D) && Value.builtin "BaseException.__getattribute__" == Value.builtin "object.__getattribute__") = true then _ else _) _ _ _
  rw [hx1, if_neg Bool.false_ne_true]
  unfold getAttrByItsOwn hookBefore
  refine wpAny_bind ?_
  rw [if_pos (show onTheHeap (Value.ref D) = true from rfl)]
  refine L2.at ?_
  refine wpAny_bind (wpAny_attempt (wpAny_holding ?_))
  unfold callGetattribute
  rw [hx0, if_neg Bool.false_ne_true]
  unfold boundAndCalled
  rw [PySem.F.excAttr_ValueError.ga.bind (.ref x)]
  refine wpAny_bind (wpAny_pure ?_)
  show wpAny _ _ (call (.builtin "BaseException.__getattribute__") [.ref x, .str "__class__" t]) _ _ _
  refine wpAny_call (codeAny_call_builtin PySem.F.excAttr_ValueError.ga.plain PySem.F.entry_bexc_ga ?_)
  refine @check_slot (model prog w) _ _ ⟨hp, g, d, t + 1, os⟩ "BaseException.__getattribute__" "BaseException" "__getattribute__" (.ref x) [.str "__class__" t] [] _ (by decide +kernel) (by decide +kernel) sub (PySem.F.args_bexc_ga (.ref x) (.str "__class__" t)) ?_
  unfold Builtin.«object.__getattribute__»
  refine wpAny_bind (wpAny_of_eq (a := ((Value.ref x : Value), [Value.str "__class__" t])) (by first | rfl | (simp only [slotArgs]; rfl)) ?_)
  refine wpAny_bind (wpAny_pure (wpAny_bind (L0.at (wpAny_bind (L3.at ?_)))))
  show wpAny _ _ (holding [Value.builtin "object.__class__"] (call (.builtin "getset_descriptor.__get__") [.builtin "object.__class__", .ref x, .ref D]) >>= ret) _ _ _
  refine wpAny_bind (wpAny_holding (wpAny_call (class_get (s := ⟨hp, g, d, t + 1, os⟩) (ox := ox) (od := od) X I hm ?_)))
  refine wpAny_pure ?_
  show wpAny _ _ (handedOut (.ref D)) _ _ _
  rw [handedOut_of (v := .ref D) rfl]
  first
    | exact wpAny_pure (wpAny_pure h)
    | exact wpAny_pure h
    | exact wpAny_pure (wpAny_bind (wpAny_pure (wpAny_pure h)))
theorem kitx_any (T : L2.ExcC K D) : KitX K (.ref x) (.ref D) (fun h => InstAt h x ox D od) where
  ty := fun _ _ _ I => I.type
  it := fun _ _ X _ => by
    obtain ⟨cdD, hcD, _⟩ := any_some T.hd
    unfold clsIn at hcD
    split at hcD
    · rename_i c' d' cd' sl' ho
      intro A' Q' E' s' k q
      unfold isType loadHead
      exact wpAny_bind (wpAny_loadPart (k _ _ (X _ _ ho)) (wpAny_pure q))
    · cases hcD
  ne := fun h tp dd its n sl X htp => by
    obtain ⟨cdD, hcD, _⟩ := any_some T.hd
    refine Bool.eq_false_iff.mpr fun q => ?_
    have e : D = tp := Value.ref.inj (beq_iff_eq.mp q)
    subst e
    unfold clsIn at hcD
    split at hcD
    · rename_i c' d' cd' sl' ho
      have z := (X _ _ ho).symm.trans htp
      cases z
    · cases hcD
  ca := fun X I k => kin_classD T X I k
end

/-! ### what an exception is -/
/-- its class, its fields -/
structure Exv where
  C : Addr
  fs : List (Str × Int)
def Exv.vs (e : Exv) : List (Str × V) := e.fs.map fun p => (p.1, V.int p.2)
def ExAt (G : Hp) (a : Addr) (e : Exv) : Prop := (G a = some (ExO (.ref e.C) a) ∧ e.fs = []) ∨ ∃ d, G a = some (exo a e.C (some d)) ∧ G d = some (exd d e.vs)
theorem ExAt.mono {G G' : Hp} (s : Same G G') {a : Addr} {e : Exv} (h : ExAt G a e) : ExAt G' a e := by
  rcases h with ⟨h, f⟩ | ⟨d, h1, h2⟩
  · exact .inl ⟨s _ _ h, f⟩
  · exact .inr ⟨d, s _ _ h1, s _ _ h2⟩
theorem inst_at {P : Program} {w : World} {H : Hp} {h : Heap} {a : Addr} {e : Exv} (ok : HOk P w H h) (x : ExAt H a e) : ∃ oe od, PySem.W.InstAt h a oe e.C od := by
  rcases x with ⟨x, _⟩ | ⟨d, x1, x2⟩
  · obtain ⟨⟨oe, vs, hget, hz, hv, _⟩, _⟩ := ok a _ x
    obtain ⟨oc, odd, oda, osl⟩ := oe
    obtain ⟨h1, h2⟩ := hz
    dsimp only at h1 h2 hv
    subst h1 h2 hv
    exact ⟨_, none, hget, rfl, rfl, trivial⟩
  · obtain ⟨t1, ho⟩ := exo_at ok x1
    obtain ⟨mA, ⟨od, es, ep, hod, _⟩, _⟩ := exd_at ok x2
    exact ⟨_, some od, ho, rfl, rfl, hod⟩
def ExR (G : Hp) (v : V) (e : Exv) : Prop := ∃ a, v = .ref a ∧ ExAt G a e
def ExRs (G : Hp) : List V → List Exv → Prop := Paired (ExR G)
/-- the slot's kinds: an exception; a list of exceptions -/
def exvR (e : Exv) : Res where
  P := fun _ G _ a fp => fp = [] ∧ ExAt G a e
  keep := fun s _ h => ⟨h.1, h.2.mono s⟩
def exsR (es : List Exv) : Res where
  P := fun _ G _ a fp => fp = [] ∧ ∃ vs, G a = some (.lst vs) ∧ ExRs G vs es
  keep := fun s _ ⟨h, vs, h1, h2⟩ => ⟨h, vs, s _ _ h1, L2.Paired.mapP h2 fun _ _ ⟨a, e, x⟩ => ⟨a, e, x.mono s⟩⟩

/-! ### isinstance of an exception in a slot -/
def rIsV (K : PySem.W.Frag) : List V → Hp → VK → Prop := fun xs H Q => ∃ (a : Addr) (e : Exv) (c : V) (cv : Value) (b : Bool), xs = [.ref a, c] ∧ ExAt H a e ∧ L2.ExcC K e.C ∧ (∀ u, RelV c u → u = cv) ∧ PySem.W.kitOne K (.ref e.C) cv = some b ∧ Q (.bl b) H
theorem call_isV {X : Cx} : CallR X (.builtin "isinstance") (rIsV X.K) := by
  intro pins s σ H xs us Q I r h
  obtain ⟨a, ev, c, cv, b, rfl, ha, C, hcv, e, q⟩ := h
  cases r with
  | cons rx rr =>
    cases rr with
    | cons rt rr =>
      cases rr
      cases rx
      have ec := hcv _ rt
      subst ec
      obtain ⟨oe, od, J⟩ := inst_at I.hok ha
      exact PySem.W.kia_one (kitx_any (ox := oe) (od := od) C) I.kIn J e (fun z => nomatch z) fun tk => ⟨.bl b, H, I.kept (t' := tk) fun _ _ z => z, rfl, q⟩
section
variable {X : Cx} {C : DC X} {y : Str} {py pos p : Pos} {e2 : Expr} {cV : V} {cv : Value}
def dIsV (i : Nat) (R0 : Addr → Bool → Prop) : TED := fun ρ Q => ∃ io e b, ρ[i]? = some (.res io (exvR e)) ∧ R0 e.C b ∧ Q (.d (.bool b)) ρ
theorem de_isV (i : Nat) {R0 : Addr → Bool → Prop} (hR : ∀ D b, R0 D b → L2.ExcC X.K D ∧ PySem.W.kitOne X.K (.ref D) cv = some b) (hm : X.mg "isinstance" = none) (h2 : PE X e2 (tC cV)) (hrel : ∀ u, RelV cV u → u = cv)
    (hg : Gl X "isinstance" := by rfl) (hN : X.N[i]? = some y := by rfl) (hv : Vis X.env.scope y := by first | exact Or.inl rfl | exact Or.inr (Or.inl rfl) | exact Or.inr (Or.inr rfl)) (hd : (y == ("__debug__" : Str)) = false := by decide) (hcd : (y == ("__classdict__" : Str)) = false := by decide)
    (he : starEach [.Name y py, e2] X.env = (false, eval (.Name y py) X.env) :: starEach [e2] X.env := by rfl) (he2 : starEach [e2] X.env = (false, eval e2 X.env) :: starEach [] X.env := by rfl) (hpl : (backTo pos (starEach [e2] X.env)).any (·.1) = false := by rfl) :
    DE C (.Call (.Name "isinstance" p) [.Name y py, e2] [] pos) (tCB (rIsV X.K) (tCons (tVar i) (tCons (tC cV) tNil))) (dIsV i R0) := by
  refine ⟨pe_callB call_isV hg hm (by decide +kernel) (pa_cons (pe_var hN hv hd hcd) (pa_cons h2 pa_nil he2) he) (by decide) (by decide) he hpl, fun w σ ρ Q QD hA I q k => ?_⟩
  obtain ⟨io, e, b, e0, hr, q⟩ := q
  obtain ⟨a, e1, ⟨_, hx⟩, _⟩ := I.ok i _ e0
  obtain ⟨hC, hk⟩ := hR _ _ hr
  exact ⟨_, e1, a, e, cV, cv, b, rfl, hx.mono I.gh, hC, hrel, hk, k _ (.d (.bool b)) w ρ (Stp.refl w) I (.bl _) q⟩
end

/-! ### an exception made -/
abbrev TXD := DSt → (Exv → DSt → Prop) → Prop
abbrev TXL := DSt → (List Exv → DSt → Prop) → Prop
structure DX {X : Cx} (C : DC X) (e : Expr) (te : TE) (t : TXD) : Prop where
  pe : PE X e te
  run : ∀ (w : Wd) (σ : L2.St) (ρ : DSt) (Q : VK) (QD : Exv → DSt → Prop), C.A w → FI X.K C.P w σ ρ → t ρ QD →
    (∀ v x w' ρ', Stp w w' → FI X.K C.P w' σ ρ' → ExR w'.G v x → QD x ρ' → Q v w'.H) → te σ w.H Q
structure DXA {X : Cx} (C : DC X) (es : List Expr) (ta : TA) (t : TXL) : Prop where
  pa : PA X es ta
  run : ∀ (w : Wd) (σ : L2.St) (ρ : DSt) (Q : List V → Hp → Prop) (QD : List Exv → DSt → Prop), C.A w → FI X.K C.P w σ ρ → t ρ QD →
    (∀ vs xs w' ρ', Stp w w' → FI X.K C.P w' σ ρ' → ExRs w'.G vs xs → QD xs ρ' → Q vs w'.H) → ta σ w.H Q
/-- a list of exceptions, in what stays -/
structure DXL {X : Cx} (C : DC X) (e : Expr) (te : TE) (t : TXL) : Prop where
  pe : PE X e te
  run : ∀ (w : Wd) (σ : L2.St) (ρ : DSt) (Q : VK) (QD : List Exv → DSt → Prop), C.A w → FI X.K C.P w σ ρ → t ρ QD →
    (∀ a vs xs w' ρ', Stp w w' → FI X.K C.P w' σ ρ' → w'.G a = some (.lst vs) → ExRs w'.G vs xs → QD xs ρ' → Q (.ref a) w'.H) → te σ w.H Q
section
variable {X : Cx} {C : DC X} {e : Expr} {es : List Expr} {te : TE} {ta : TA} {de : TED} {da : TND} {p pos px : Pos} {x : Str} {cls : Addr}
def dXo (cls : Addr) (de : TED) : TXD := fun ρ Q => de ρ fun _ ρ1 => Q ⟨cls, []⟩ ρ1
theorem dx_own (h : ExcD X.K X.mg x cls) (he : DE C e te de) (hg : Gl X x := by rfl) (hs : starEach [e] X.env = (false, eval e X.env) :: starEach [] X.env := by rfl) (hdb : (x == ("__debug__" : Str)) = false := by decide) :
    DX C (.Call (.Name x p) [e] [] pos) (fun σ H Q => te σ H fun _ H1 => ∀ a, H1 a = none → Q (.ref a) (upd H1 a (ExO (.ref cls) a))) (dXo cls de) := by
  refine ⟨pe_exc1 PySem.F.excBase_ValueError h.q h.g h.k hg he.pe hs hdb, fun w σ ρ Q QD hA I q k => ?_⟩
  refine he.run w σ ρ _ _ hA I q fun v r w1 ρ1 s1 I1 R1 q1 a ha => ?_
  obtain ⟨I2, s2⟩ := I1.new (o := ExO (.ref cls) a) ha
  exact k (.ref a) ⟨cls, []⟩ _ ρ1 (s1.trans s2) I2 ⟨a, rfl, .inl ⟨upd_same, rfl⟩⟩ q1
/-- what __init__ promises: the fields fl, in order -/
def initSp (fl : List Str) (cls : Addr) : Sp := fun vs H Q _ => ∃ (a : Addr) (is : List Int), vs = .ref a :: is.map V.int ∧ is.length = fl.length ∧ (∀ i ∈ is, i.natAbs.log2 < 1920) ∧ H a = some (exo a cls none) ∧
  ∀ d, H d = none → d ≠ a → Q .non (upd (upd H d (exd d ((fl.zip is).reverse.map fun p => (p.1, V.int p.2)))) a (exo a cls (some d)))
structure OexD (P : Program) (w : World) (K : PySem.W.Frag) (mg : Str → Option Value) (base : Heap) (k : Nat) (x : Str) (cls : Addr) (fl : List Str) : Prop where
  ex : ∃ fI fd ps, FnOk P w K mg base (L2.CX P w) k fI fd ps (initSp fl cls) ∧ Binds K fd ps [] ∧ PySem.W.findIn K (.ref cls) "__init__" = some (some (.ref fI)) ∧ PySem.W.typeIn K (.ref fI) = some (.type "function")
  T : OexC K cls
  g : mg x = some (.ref cls)
/-- C(e, ..) by C's own __init__, as a value -/
def tMkV (C : Addr) (sp : Sp) (ta : TA) : TE := fun σ H Q => ta σ H fun vs H1 => vs.length ≤ 1000 ∧ ∀ a, H1 a = none → sp (.ref a :: vs) (upd H1 a (exo a C none))
  (fun v H2 => v = .non ∧ Q (.ref a) H2) (fun _ _ _ => False)
theorem pe_oexV {C : Addr} {fI : Addr} {k : Nat} {fd : FuncData} {ps : List Str} {sp : Sp} {W : WX} (T : OexC X.K C) (iC : PySem.W.findIn X.K (.ref C) "__init__" = some (some (.ref fI))) (tI : PySem.W.typeIn X.K (.ref fI) = some (.type "function"))
    (F1 : FnOk X.prog X.w X.K X.mg X.base (L2.CX X.prog X.w) k fI fd ps sp) (hr : Room (k + 1) X.A) (hb : Binds X.K fd ps []) (tk : Takes X W) (hg : Gl X x) (hm : X.mg x = some (.ref C)) (ha : PA X (e :: es) ta)
    (hdb : (x == ("__debug__" : Str)) = false := by decide) (he : starEach (e :: es) X.env = (false, eval e X.env) :: starEach es X.env := by rfl) (hpl : (backTo pos (starEach es X.env)).any (·.1) = false := by rfl) :
    PE X (.Call (.Name x p) (e :: es) [] pos) (tMkV C sp ta) := by
  refine ⟨fun pins s σ H Q I h => ?_⟩
  obtain ⟨nm, q, N, bs, bm, sn, sub, ab, col, dd, k0, k1, k2, k3, k5, hC, hbm⟩ := T.cls
  refine wpAny_Call_Name_kw (ld_glob I hg hm ?_ hdb)
  refine PySem.W.callWith_K (h₀ := X.base) I.ok.mod.kin T.kC (thn (ha.run pos pins s σ H _ I h) fun us s1 ⟨vs, H1, I1, r1, hz, q1⟩ => ⟨I1.kIn, ?_⟩) he hpl
  show wpAny _ _ (call (.ref C) us) _ _ _
  obtain ⟨hp, g, dr, tk', os⟩ := s1
  have hsz : hp.objs.size ≤ hp.objs.size + 1 := Nat.le_succ _
  have hn : H1 (hp.objs.size + 1) = none := I1.hok.fresh hsz
  have hq := q1 (hp.objs.size + 1) hn
  have kk : ∀ b o, hp.get? b = some o → ((hp.push (PySem.W.kdv_tup us)).push (PySem.HandSPX.excO C hp.objs.size)).get? b = some o := fun b o e => Heap.get?_push_of_some _ (Heap.get?_push_of_some _ e)
  have hget : ((hp.push (PySem.W.kdv_tup us)).push (PySem.HandSPX.excO C hp.objs.size)).get? (hp.objs.size + 1) = some (PySem.HandSPX.excO C hp.objs.size) := by heap_get
  have I2 : Inv X pins σ (upd H1 (hp.objs.size + 1) (exo (hp.objs.size + 1) C none)) ⟨(hp.push (PySem.W.kdv_tup us)).push (PySem.HandSPX.excO C hp.objs.size), g, dr, tk', os⟩ :=
    I1.laid (t' := tk') (a := hp.objs.size + 1) (o := exo (hp.objs.size + 1) C none) (h' := (hp.push (PySem.W.kdv_tup us)).push (PySem.HandSPX.excO C hp.objs.size)) kk hsz (exo_ok hget)
  have r2 : Vals (V.ref (hp.objs.size + 1) :: vs) (Value.ref (hp.objs.size + 1) :: us) := .cons rfl r1
  have hl : (Value.ref (hp.objs.size + 1) :: us).length = ps.length := by
    have e := r2.length
    rw [F1.len _ _ _ _ hq] at e
    exact e.symm
  have hus : us.length ≤ sizeLine := by
    rw [← Paired.length r1, sizeLine_eq]
    omega
  have bb := hb _ (Value.ref (hp.objs.size + 1) :: us) I2.kIn (by rw [List.append_nil]; exact hl)
  rw [List.append_nil] at bb
  refine wpAny_call (PySem.HandSPX.call_own PySem.F.excBase_ValueError (fun Y => PySem.HandSPX.refsVE_contains Y bm hbm) (I1.kIn _ _ hC) (PySem.W.looks_findIn I1.kIn iC) (fun self => PySem.W.bind_fn I1.kIn self tI) hus
    (codeAny_mono (F1.run _ X.stack _ _ ⟨Value.ref (hp.objs.size + 1) :: us, []⟩ (Value.ref (hp.objs.size + 1) :: us) _ _ (fun _ _ _ => False) (hr.make C us []) (I2.env0.make C us []) bb r2 hq) fun r s' hq' => ?_))
  cases r with
  | error er => exact tk er s' (XE.of_call I2 (fun _ _ _ z => z.elim) hq')
  | ok fl =>
    cases fl with
    | ret u =>
      obtain ⟨v, H2, os2, bare2, un2, hok2, rv, ev, q2⟩ := hq'
      subst ev
      exact ⟨rv, .ref (hp.objs.size + 1), H2, I2.call' (ch := []) os2 un2 hok2 bare2 (fun b z => absurd z (by simp)), rfl, q2⟩
    | next => exact False.elim hq'
    | brk => exact False.elim hq'
    | cont => exact False.elim hq'
theorem ints_inv {K : PySem.W.Frag} {G : Hp} : ∀ {is : List Int} {vs : List V}, Reps K G vs (is.map PyData.int) → vs = is.map V.int
  | [], _, .nil => rfl
  | i :: is, _, .cons (v := v) r rr => by
    cases r
    rw [ints_inv rr]
    rfl
def dXi (cls : Addr) (fl : List Str) (da : TND) : TXD := fun ρ Q => da ρ fun ds ρ1 => ∃ is : List Int, ds = is.map PyData.int ∧ is.length = fl.length ∧ fl.length ≤ 900 ∧ (∀ i ∈ is, i.natAbs.log2 < 1920) ∧ Q ⟨cls, (fl.zip is).reverse⟩ ρ1
theorem dx_init {k : Nat} {fl : List Str} (F : OexD X.prog X.w X.K X.mg X.base k x cls fl) (hr : Room (k + 1) X.A) (ha : DA C (e :: es) ta da) (hg : Gl X x := by rfl)
    (hdb : (x == ("__debug__" : Str)) = false := by decide) (he : starEach (e :: es) X.env = (false, eval e X.env) :: starEach es X.env := by rfl) (hpl : (backTo pos (starEach es X.env)).any (·.1) = false := by rfl) :
    DX C (.Call (.Name x p) (e :: es) [] pos) (tMkV cls (initSp fl cls) ta) (dXi cls fl da) := by
  obtain ⟨⟨fI, fd, ps, F1, hb, iC, tI⟩, T, hm⟩ := F
  refine ⟨pe_oexV T iC tI F1 hr hb C.tk hg hm ha.pa hdb he hpl, fun w σ ρ Q QD hA I q k => ?_⟩
  refine ha.run w σ ρ _ _ hA I q fun vs ds w1 ρ1 s1 I1 R1 q1 => ?_
  obtain ⟨is, rfl, h1, h2, h3, q2⟩ := q1
  have ev := ints_inv R1
  subst ev
  refine ⟨by rw [List.length_map, h1]; omega, fun a ha' => ⟨a, is, rfl, h1, h3, upd_same, fun d hd hne => ⟨rfl, ?_⟩⟩⟩
  rw [upd_ne hne] at hd
  have eH : upd (upd (upd w1.H a (exo a cls none)) d (exd d ((fl.zip is).reverse.map fun p => (p.1, V.int p.2)))) a (exo a cls (some d)) = upd (upd w1.H d (exd d ((fl.zip is).reverse.map fun p => (p.1, V.int p.2)))) a (exo a cls (some d)) := by
    funext b
    by_cases e1 : b = a
    · rw [e1, upd_same, upd_same]
    · rw [upd_ne e1, upd_ne e1]
      by_cases e2 : b = d
      · rw [e2, upd_same, upd_same]
      · rw [upd_ne e2, upd_ne e2, upd_ne e1]
  rw [eH]
  obtain ⟨I2, s2⟩ := I1.new (o := exd d ((fl.zip is).reverse.map fun p => (p.1, V.int p.2))) hd
  have ha2 : (upd w1.H d (exd d ((fl.zip is).reverse.map fun p => (p.1, V.int p.2)))) a = none := by rw [upd_ne (Ne.symm hne)]; exact ha'
  obtain ⟨I3, s3⟩ := I2.new (o := exo a cls (some d)) ha2
  refine k (.ref a) ⟨cls, (fl.zip is).reverse⟩ _ ρ1 (s1.trans (s2.trans s3)) I3 ⟨a, rfl, .inr ⟨d, upd_same, ?_⟩⟩ q2
  show upd (upd w1.G d _) a _ d = _
  rw [upd_ne hne, upd_same]
  rfl

/-! ### lists of them -/
def xNil : TXL := fun ρ Q => Q [] ρ
def xCons (dx : TXD) (dr : TXL) : TXL := fun ρ Q => dx ρ fun x ρ1 => dr ρ1 fun xs ρ2 => Q (x :: xs) ρ2
variable {dx : TXD} {dr : TXL} {tr : TA}
theorem ExRs.mono {G G' : Hp} (s : Same G G') {vs : List V} {xs : List Exv} (h : ExRs G vs xs) : ExRs G' vs xs := L2.Paired.mapP h fun _ _ ⟨a, e, x⟩ => ⟨a, e, x.mono s⟩
theorem dxa_nil : DXA C [] tNil xNil := ⟨pa_nil, fun w σ ρ Q QD hA I q k => k [] [] w ρ (Stp.refl w) I .nil q⟩
theorem dxa_cons (h1 : DX C e te dx) (h2 : DXA C es tr dr) (hs : starEach (e :: es) X.env = (false, eval e X.env) :: starEach es X.env := by rfl) : DXA C (e :: es) (tCons te tr) (xCons dx dr) := by
  refine ⟨pa_cons h1.pe h2.pa hs, fun w σ ρ Q QD hA I q k => ?_⟩
  refine h1.run w σ ρ _ _ hA I q fun v x w1 ρ1 s1 I1 R1 q1 => ?_
  refine h2.run w1 σ ρ1 _ _ (C.cl _ _ hA s1) I1 q1 fun vs xs w2 ρ2 s2 I2 R2 q2 => ?_
  obtain ⟨a, ea, xa⟩ := R1
  exact k (v :: vs) (x :: xs) w2 ρ2 (s1.trans s2) I2 (.cons ⟨a, ea, xa.mono s2.g⟩ R2) q2
def xLst (dr : TXL) : TXL := fun ρ Q => dr ρ fun xs ρ1 => xs.length ≤ 1000 ∧ Q xs ρ1
theorem le_line {n : Nat} (h : n ≤ 2000) : n ≤ sizeLine := by rw [sizeLine_eq]; omega
theorem dxl_lst (h : DXA C es tr dr) : DXL C (.List es pos) (tLst tr) (xLst dr) := by
  refine ⟨pe_lst h.pa, fun w σ ρ Q QD hA I q k => ?_⟩
  refine h.run w σ ρ _ _ hA I q fun vs xs w1 ρ1 s1 I1 R1 q1 => ?_
  obtain ⟨hl, q1⟩ := q1
  refine ⟨by rw [Paired.length R1]; exact le_line (by omega), fun p hp => ?_⟩
  obtain ⟨I2, s2⟩ := I1.new (o := .lst vs) hp
  exact k p vs xs _ ρ1 (s1.trans s2) I2 upd_same (R1.mono s2.g) q1
def xVar (i : Nat) : TXL := fun ρ Q => ∃ io xs, ρ[i]? = some (.res io (exsR xs)) ∧ Q xs ρ
theorem dxl_var {y : Str} {py : Pos} (i : Nat) (hN : X.N[i]? = some y := by rfl) (hv : Vis X.env.scope y := by first | exact Or.inl rfl | exact Or.inr (Or.inl rfl) | exact Or.inr (Or.inr rfl)) (hd : (y == ("__debug__" : Str)) = false := by decide) (hcd : (y == ("__classdict__" : Str)) = false := by decide) :
    DXL C (.Name y py) (tVar i) (xVar i) := by
  refine ⟨pe_var hN hv hd hcd, fun w σ ρ Q QD hA I q k => ?_⟩
  obtain ⟨io, xs, e0, q⟩ := q
  obtain ⟨a, e1, ⟨_, vs, h1, h2⟩, _⟩ := I.ok i _ e0
  exact ⟨_, e1, k a vs xs w ρ (Stp.refl w) I h1 h2 q⟩
theorem paired_app {α β : Type} {F : α → β → Prop} : ∀ {l1 l3 : List α} {l2 l4 : List β}, Paired F l1 l2 → Paired F l3 l4 → Paired F (l1 ++ l3) (l2 ++ l4)
  | _, _, _, _, .nil, h => h
  | _, _, _, _, .cons h t, g => .cons h (paired_app t g)
def xCat (d1 d2 : TXL) : TXL := fun ρ Q => d1 ρ fun xs ρ1 => d2 ρ1 fun ys ρ2 => xs.length + ys.length ≤ 1000 ∧ Q (xs ++ ys) ρ2
theorem dxl_cat {a b : Expr} {t1 t2 : TE} {d1 d2 : TXL} (h1 : DXL C a t1 d1) (h2 : DXL C b t2 d2) : DXL C (.BinOp a .Add b pos) (tOp rCat t1 t2) (xCat d1 d2) := by
  refine ⟨pe_op op_cat h1.pe h2.pe, fun w σ ρ Q QD hA I q k => ?_⟩
  refine h1.run w σ ρ _ _ hA I q fun a1 vs xs w1 ρ1 s1 I1 g1 r1 q1 => ?_
  refine h2.run w1 σ ρ1 _ _ (C.cl _ _ hA s1) I1 q1 fun a2 us ys w2 ρ2 s2 I2 g2 r2 q2 => ?_
  obtain ⟨hl, q2⟩ := q2
  refine ⟨_, _, _, _, rfl, rfl, I2.gh _ _ (s2.g _ _ g1), I2.gh _ _ g2, by rw [Paired.length r1, Paired.length r2]; exact le_line (by omega), fun p hp => ?_⟩
  obtain ⟨I3, s3⟩ := I2.new (o := .lst (vs ++ us)) hp
  exact k p (vs ++ us) (xs ++ ys) _ ρ2 ((s1.trans s2).trans s3) I3 upd_same (paired_app (r1.mono (fun b o h => s3.g b o (s2.g b o h))) (r2.mono s3.g)) q2
/-- a slot set to a thing without own addresses -/
theorem setRes0 {K : PySem.W.Frag} {P : Par} {w : Wd} {σ : L2.St} {ρ : DSt} (I : FI K P w σ ρ) {i : Nat} {a : Addr} {r : Res} (hP : r.P K w.G w.H a []) (hi : i < ρ.length) :
    FI K P ⟨w.G, w.H, fun j => if j = i then [] else w.F j⟩ (σ.set i (some (.ref a))) (ρ.set i (.res false r)) ∧ Stp w ⟨w.G, w.H, fun j => if j = i then [] else w.F j⟩ := by
  refine ⟨I.setRes (fp := []) (fun b hb => nomatch hb) (fun b hb => nomatch hb) hP (fun b hb => nomatch hb) hi, ⟨fun _ _ h => h, fun _ _ h _ => h, fun _ _ h _ => h, fun _ h => h, fun j b hb => .inl ?_⟩⟩
  have hb : b ∈ (if j = i then ([] : List Addr) else w.F j) := hb
  by_cases e : j = i
  · rw [if_pos e] at hb; cases hb
  · rw [if_neg e] at hb; exact hb
def sSetX (i : Nat) (dl : TXL) : TSD := fun D ρ => dl ρ fun xs ρ1 => i < ρ1.length ∧ D.nx (ρ1.set i (.res false (exsR xs)))
theorem ds_setX {dl : TXL} (i : Nat) {x : Str} {px : Pos} (h : DXL C e te dl) (hi : X.N[i]? = some x := by rfl) (hx : Loc X.env.scope x := by first | exact Or.inl rfl | exact Or.inr rfl) (hs : swapsWith e (some (.Name x px)) pos.line X.env = pure false := by rfl)
    (hf : X.fn x = true ∨ X.env.scope.names.lookup x = some .local := by first | exact .inl rfl | exact .inr rfl) : DS C (.Assign [.Name x px] e pos) (tAsg te (gName i)) (sSetX i dl) := by
  refine ⟨ps_set C.nd hi hx h.pe hs hf, fun w σ ρ D DD hA I q k => ?_⟩
  refine h.run w σ ρ _ _ hA I q fun a vs xs w1 ρ1 s1 I1 g1 r1 q1 => ?_
  obtain ⟨z1, z2⟩ := setRes0 I1 (i := i) (a := a) (r := exsR xs) ⟨rfl, vs, g1, r1⟩ q1.1
  exact k.nx ⟨w1.G, w1.H, fun j => if j = i then [] else w1.F j⟩ _ _ (s1.trans z2) z1 q1.2

/-! ### one of a list; its field -/
theorem atI_pair {α β : Type} {F : α → β → Prop} : ∀ {vs : List α} {xs : List β} {n : Nat} {x : β}, Paired F vs xs → xs[n]? = some x → ∃ v, vs[n]? = some v ∧ F v x
  | _, _, _, _, .nil, e => by simp at e
  | _, _, 0, _, .cons h _, e => by simp at e; subst e; exact ⟨_, rfl, h⟩
  | _, _, n + 1, x, .cons _ t, e => by
    obtain ⟨v, h1, h2⟩ := atI_pair (n := n) (x := x) t (by simpa using e)
    exact ⟨v, by simpa using h1, h2⟩
def xIx (dl : TXL) (n : Nat) : TXD := fun ρ Q => dl ρ fun xs ρ1 => ∃ x, xs[n]? = some x ∧ Q x ρ1
theorem dx_ix {dl : TXL} {kk : Nat} {pc : Pos} (n : Nat) (h : DXL C e te dl) (hs : PlainIx (.Constant (.int (n : Int)) kk pc) := by intro _ _; rfl) :
    DX C (.Subscript e (.Constant (.int (n : Int)) kk pc) pos) (tOp (rIx X.K) te (tC (.int n))) (xIx dl n) := by
  refine ⟨pe_ix ix_seq h.pe pe_int hs, fun w σ ρ Q QD hA I q k => ?_⟩
  refine h.run w σ ρ _ _ hA I q fun a vs xs w1 ρ1 s1 I1 g1 r1 q1 => ?_
  obtain ⟨x, hx, q2⟩ := q1
  obtain ⟨v, hv, rv⟩ := atI_pair r1 hx
  refine .inl ⟨a, vs, n, v, rfl, rfl, SqL.of (I1.gh _ _ g1), ?_, k v x w1 ρ1 s1 I1 rv q2⟩
  have hn : n < vs.length := (List.getElem?_eq_some_iff.mp hv).1
  have h0 : ¬ ((n : Int) < 0) := by omega
  unfold atI ixN
  simp [hn]
  exact (List.getElem?_eq_some_iff.mp hv).2
def tXv (K : PySem.W.Frag) (f : Str) (te : TE) : TE := fun σ H Q => te σ H fun v H1 => ∃ a x n, v = .ref a ∧ ExAt H1 a x ∧ L2.ExcC K x.C ∧ PySem.W.findIn K (.ref x.C) f = some none ∧ x.fs.lookup f = some n ∧ Q (.int n) H1
theorem lookup_vs {f : Str} {n : Int} : ∀ {fs : List (Str × Int)}, fs.lookup f = some n → (fs.map fun p => (p.1, V.int p.2)).lookup f = some (V.int n)
  | [], h => by simp at h
  | (g, m) :: r, h => by
    rw [List.map_cons]
    rw [List.lookup_cons] at h
    rw [List.lookup_cons]
    cases e : f == g with
    | true => rw [e] at h; cases h; simp [e]
    | false => rw [e] at h; simp only [e]; exact lookup_vs h
theorem pe_xv {f : Str} (he : PE X e te) (hb : attributeBase e f X.env (eval e X.env) = eval e X.env := by rfl) : PE X (.Attribute e f pos) (tXv X.K f te) := by
  refine ⟨fun pins s σ H Q I h => ?_⟩
  refine attr_of hb (thn (he.run pins s σ H _ I h) fun u s1 hh => ?_)
  obtain ⟨v, H1, I1, rx, a, x, n, rfl, xa, T, hno, hl, q⟩ := hh
  obtain rfl : u = Value.ref a := rx
  rcases xa with ⟨_, xe⟩ | ⟨d, x1, x2⟩
  · rw [xe] at hl; cases hl
  · obtain ⟨t1, ho⟩ := exo_at I1.hok x1
    obtain ⟨mA, hns, rel⟩ := exd_at I1.hok x2
    obtain ⟨od, hod, hlk⟩ := lookIn_ns hns
    have rf := rel f
    rw [show x.vs.lookup f = some (V.int n) from lookup_vs hl] at rf
    obtain ⟨u, hu, ru⟩ := RelO.some_of (v := V.int n) (o := mA f) rf
    exact PySem.HandSPX.exc_get I1.kIn (ox := { cls := .ref x.C, dict := some d, data := .fields #[.ref t1, .none, .none, .none, .bool false, .none] }) (od := some od) ⟨ho, rfl, rfl, hod⟩ T.hg T.hk T.hs
      (PySem.W.findObj_own T.hd hno rfl (by rw [hlk, hu])) (handed_of ru) ⟨.int n, H1, I1.tok _, ru, q⟩
def dField (f : Str) (R0 : Addr → Prop) (dx : TXD) : TED := fun ρ Q => dx ρ fun x ρ1 => ∃ n, R0 x.C ∧ x.fs.lookup f = some n ∧ Q (.d (.int n)) ρ1
theorem de_field {f : Str} {R0 : Addr → Prop} (hR : ∀ D, R0 D → L2.ExcC X.K D ∧ PySem.W.findIn X.K (.ref D) f = some none) (h : DX C e te dx) (hb : attributeBase e f X.env (eval e X.env) = eval e X.env := by rfl) :
    DE C (.Attribute e f pos) (tXv X.K f te) (dField f R0 dx) := by
  refine ⟨pe_xv h.pe hb, fun w σ ρ Q QD hA I q k => ?_⟩
  refine h.run w σ ρ _ _ hA I q fun v x w1 ρ1 s1 I1 r1 q1 => ?_
  obtain ⟨n, h0, hl, q2⟩ := q1
  obtain ⟨a, rfl, xa⟩ := r1
  obtain ⟨h1, h2⟩ := hR _ h0
  exact ⟨a, x, n, rfl, xa.mono I1.gh, h1, h2, hl, k _ (.d (.int n)) w1 ρ1 s1 I1 (.int n) q2⟩

/-! ### for word, error in zip(words, errors) -/
def forX (i j : Nat) (t : TSD) (D : DEnds) : List (PyData × Exv) → DSt → Prop
  | [], ρ => D.nx ρ
  | p :: r, ρ => j < ρ.length ∧ t { D with nx := forX i j t D r, ct := forX i j t D r, bk := D.nx } ((ρ.set i (.val p.1)).set j (.res false (exvR p.2)))
def sForX (i j : Nat) (dw : TED) (dl : TXL) (t : TSD) : TSD := fun D ρ => dw ρ fun r ρ1 => frz ρ1 r fun x ρ2 => ∃ ws, x = .list ws ∧ dl ρ2 fun xs ρ3 => forX i j t D (ws.zip xs) ρ3
theorem ds_forX {e1 e2 : Expr} {t1 t2 : TE} {dw : TED} {dl : TXL} {body : List Stmt} {tb : TS} {d1 : TSD} {y1 y2 : Str} {p1 p2 tpos pz pz2 : Pos} {kk : Nat} (i j : Nat) (hp : PassesOwn (model X.prog X.w) X.A X.env X.xe) (hm : X.mg "zip" = none) (hw : DE C e1 t1 dw) (hx : DXL C e2 t2 dl) (hb : DSs C body tb d1)
    (hg : Gl X "zip" := by rfl) (hi1 : X.N[i]? = some y1 := by rfl) (hx1 : Loc X.env.scope y1 := by first | exact Or.inl rfl | exact Or.inr rfl) (hf1 : X.fn y1 = true ∨ X.env.scope.names.lookup y1 = some .local := by first | exact .inl rfl | exact .inr rfl)
    (hi2 : X.N[j]? = some y2 := by rfl) (hx2 : Loc X.env.scope y2 := by first | exact Or.inl rfl | exact Or.inr rfl) (hf2 : X.fn y2 = true ∨ X.env.scope.names.lookup y2 = some .local := by first | exact .inl rfl | exact .inr rfl)
    (hs1 : starEach [e1, e2] X.env = (false, eval e1 X.env) :: starEach [e2] X.env := by rfl) (hs2 : starEach [e2] X.env = (false, eval e2 X.env) :: starEach [] X.env := by rfl) (hpl : (backTo pz2 (starEach [e2] X.env)).any (·.1) = false := by rfl)
    (ht : (assignEach [.Name y1 p1, .Name y2 p2] X.env).map (·.2) = assign (.Name y1 p1) X.env :: (assignEach [.Name y2 p2] X.env).map (·.2) := by rfl) (ht2 : (assignEach [.Name y2 p2] X.env).map (·.2) = assign (.Name y2 p2) X.env :: (assignEach [] X.env).map (·.2) := by rfl)
    (hn : (assignEach [.Name y1 p1, .Name y2 p2] X.env).length = 2 := by rfl) (hst : (assignEach [.Name y1 p1, .Name y2 p2] X.env).findIdx? (·.1) = none := by rfl)
    (hs : ∀ x, foldedSetIterable (.Call (.Name "zip" pz) [e1, e2] [] pz2) X.env x = pure x := by intro _; rfl) :
    DS C (.For (.Tuple [.Name y1 p1, .Name y2 p2] kk tpos) (.Call (.Name "zip" pz) [e1, e2] [] pz2) body [] pos)
      (tFor (iZip X.K (tCons t1 (tCons t2 tNil))) (gTup X.K 2 (gCons (gName i) (gCons (gName j) gNil))) tb) (sForX i j dw dl d1) := by
  refine ⟨ps_for hp C.calm (pi_zip hg hm (pa_cons hw.pe (pa_cons hx.pe pa_nil hs2) hs1) hs1 hpl) (pg_tup C.calm (pgs_cons (pg_name C.nd hi1 hx1 hf1) (pgs_cons (pg_name C.nd hi2 hx2 hf2) pgs_nil ht2) ht) hn hst) hb.pss hs, fun w σ ρ D DD hA I q k => ?_⟩
  refine hw.run w σ ρ _ _ hA I q fun u r0 w0 ρ0 s0 I0 R0 q0 => ?_
  obtain ⟨d, ρ1, w1, I1, s1', hh, hrep, q1⟩ := frz_ok I0 R0 q0
  rw [← hh]
  obtain ⟨ws, rfl, q1⟩ := q1
  have s1 := s0.trans s1'
  refine hx.run w1 σ ρ1 _ _ (C.cl _ _ hA s1) I1 q1 fun b us xs w2 ρ2 s2 I2 g2 r2 q2 => ?_
  cases rep_mono s2.g _ _ hrep with
  | lst hl hr =>
    rename_i l vs
    have hA2 := C.cl _ _ (C.cl _ _ hA s1) s2
    have sqL : ∀ H, Same w2.G H → SqL X.K H l vs := fun H s => SqL.of (s _ _ hl)
    have sqM : ∀ H, Same w2.G H → SqL X.K H b us := fun H s => SqL.of (s _ _ g2)
    have e1 : vs.length = ws.length := hr.len
    have e2 : us.length = xs.length := Paired.length r2
    have ez : (ws.zip xs).length = min vs.length us.length := by rw [List.length_zip, e1, e2]
    refine ⟨l, b, vs, us, rfl, sqL _ I2.gh, sqM _ I2.gh, ?_⟩
    refine ⟨fun n m σ' H' => m = (ws.zip xs).length - n ∧ n ≤ (ws.zip xs).length ∧ ∃ w' ρ', w'.H = H' ∧ Stp w2 w' ∧ FI X.K C.P w' σ' ρ' ∧ forX i j d1 DD ((ws.zip xs).drop n) ρ',
      ⟨(ws.zip xs).length, by simp, Nat.zero_le _, w2, ρ2, rfl, Stp.refl w2, I2, by rw [List.drop_zero]; exact q2⟩, ?_⟩
    rintro n m σ2 H2 ⟨rfl, hi2', w3, ρ3, rfl, s3, I3, q3⟩
    have hA3 := C.cl _ _ hA2 s3
    have gH : Same w2.G w3.H := fun b o h => I3.gh b o (s3.g b o h)
    by_cases hlt : n < (ws.zip xs).length
    · have h1 : n < vs.length := by omega
      have h2 : n < us.length := by omega
      refine .inr ⟨⟨vs, us, vs[n], us[n], sqL _ gH, sqM _ gH, by simp [h1], by simp [h2]⟩, fun σ' H' => ∃ w' ρ', w'.H = H' ∧ Stp w2 w' ∧ FI X.K C.P w' σ' ρ' ∧ forX i j d1 DD ((ws.zip xs).drop (n + 1)) ρ',
        fun σ' H' h => ⟨(ws.zip xs).length - (n + 1), by omega, rfl, hlt, h⟩, fun x H' y => ?_⟩
      obtain ⟨T, x1, x2, rfl, hT, rfl, hx1', hx2'⟩ := y
      have v1 := hx1' vs (sqL _ gH)
      have v2 := hx2' us (sqM _ gH)
      obtain ⟨dd, hd, rd⟩ := hr.get' v1
      have ed : (ws.zip xs).drop n = (ws.zip xs)[n] :: (ws.zip xs).drop (n + 1) := List.drop_eq_getElem_cons hlt
      have hxn : n < xs.length := by omega
      have hwn : n < ws.length := by omega
      obtain ⟨v2', hv2', rv2⟩ := atI_pair r2 (List.getElem?_eq_getElem hxn)
      rw [v2] at hv2'
      cases hv2'
      have edd : dd = ws[n] := by
        rw [List.getElem?_eq_getElem hwn] at hd
        exact (Option.some.inj hd).symm
      subst edd
      rw [ed, List.getElem_zip] at q3
      obtain ⟨I4, s4⟩ := I3.new (o := .tup [x1, x2]) hT
      refine ⟨T, [x1, x2], rfl, SqT.of upd_same, rfl, ?_⟩
      have sg : Same w2.G (upd w3.G T (.tup [x1, x2])) := fun b o h => s4.g b o (s3.g b o h)
      obtain ⟨I5, s5⟩ := I4.set (i := i) (rep_mono sg _ _ rd)
      obtain ⟨a, rfl, xa⟩ := rv2
      obtain ⟨I6, s6⟩ := setRes0 I5 (i := j) (a := a) (r := exvR xs[n]) ⟨rfl, xa.mono sg⟩ (by rw [List.length_set]; exact q3.1)
      have s46 := s4.trans (s5.trans s6)
      refine ⟨x1, [.ref a], rfl, .ref a, [], rfl, rfl, ?_⟩
      refine hb.run ⟨upd w3.G T (.tup [x1, .ref a]), upd w3.H T (.tup [x1, .ref a]), fun j' => if j' = j then [] else if j' = i then [] else w3.F j'⟩ ((σ2.set i (some x1)).set j (some (.ref a))) _ _ _ (C.cl _ _ hA3 s46) I6 q3.2 ?_
      exact ⟨fun w' σ' ρ' s' I' h => ⟨w', ρ', rfl, (s3.trans s46).trans s', I', h⟩, fun v r w' σ' ρ' s' I' R' h => k.rt v r w' σ' ρ' ((s1.trans s2).trans ((s3.trans s46).trans s')) I' R' h,
        fun w' σ' ρ' s' I' h => k.nx w' σ' ρ' ((s1.trans s2).trans ((s3.trans s46).trans s')) I' h, fun w' σ' ρ' s' I' h => ⟨w', ρ', rfl, (s3.trans s46).trans s', I', h⟩⟩
    · have e : n = (ws.zip xs).length := by omega
      subst e
      rw [List.drop_length] at q3
      exact .inl ⟨⟨vs, us, sqL _ gH, sqM _ gH, by omega⟩, k.nx w3 σ2 ρ3 ((s1.trans s2).trans s3) I3 q3⟩

/-! ### __init__ of an own exception -/
/-- Base.__init__(self, ..), found as ValueError's -/
structure InitD (K : PySem.W.Frag) (mg : Str → Option Value) (x : Str) : Prop where
  ex : ∃ D, mg x = some (.ref D) ∧ PySem.W.specialIn K (.ref D) "__getattribute__" = some (some (.builtin "type.__getattribute__")) ∧ PySem.W.readsIn K D (.type "type") = true ∧ PySem.W.findCls K (.ref D) (.type "type") "__init__" = some (.val (.builtin "ValueError.__init__"))
theorem pe_oinit {p1 p2 : Pos} {pl : Sem Bool} (F : InitD X.K X.mg x) (ha : PA X (e :: es) ta) (hg : Gl X x := by rfl) (hdb : (x == ("__debug__" : Str)) = false := by decide)
    (hc : eval (.Call (.Attribute (.Name x p1) "__init__" p2) (e :: es) [] pos) X.env = (do
      let ov ← eval (.Name x p1) X.env
      standAt p2.atName
      let (f, first) ← holding [ov] (getMethod ov "__init__" pl)
      callWith pos f first (backTo pos (starEach (e :: es) X.env)) (backToKw pos (keywordEach [] X.env))) := by rfl)
    (he : starEach (e :: es) X.env = (false, eval e X.env) :: starEach es X.env := by rfl) (hpl : (backTo pos (starEach es X.env)).any (·.1) = false := by rfl) :
    PE X (.Call (.Attribute (.Name x p1) "__init__" p2) (e :: es) [] pos) (tVeI X.K ta) := by
  obtain ⟨D, hm, h1, h2, h3⟩ := F.ex
  refine ⟨fun pins s σ H Q I h => ?_⟩
  refine PySem.W.methodCall_KW (ld_glob I hg hm ?_ hdb) hc
  refine PySem.W.method_cls I.kIn h1 (PySem.W.cls_value I.kIn h2 h3 rfl ?_)
  show wpAny _ _ (callWith pos (Value.builtin "ValueError.__init__") [] (backTo pos (starEach (e :: es) X.env)) []) _ _ _
  refine PyProof.Rows.callWith_method1 (thn (ha.run pos pins _ σ H _ (I.tok _) h) fun us s1 ⟨vs, H1, I1, r1, a, C, ws, ev, hl, T, ea, q⟩ => ?_) he hpl
  subst ev
  cases r1 with
  | @cons _ u0 _ ur ra rw' =>
    obtain rfl : u0 = Value.ref a := ra
    have hlen : ur.length ≤ sizeLine := by
      rw [← Paired.length rw', sizeLine_eq]
      omega
    exact oinit_ok T I1 ea hlen fun s' J => ⟨.non, H1, J, rfl, q⟩
end
end DL

end
section
set_option maxHeartbeats 4000000
/-! DLT: __init__ of own exceptions with one field or two. -/
namespace DL
open PySem PySem.Spec PyProof.Rows L2
theorem OexD.mono {P : Program} {w : World} {K : PySem.W.Frag} {mg : Str → Option Value} {base : Heap} {j k : Nat} {x : Str} {cls : Addr} {fl : List Str} (F : OexD P w K mg base j x cls fl) (h : j ≤ k) : OexD P w K mg base k x cls fl := by
  obtain ⟨⟨fI, fd, ps, F1, r⟩, T, g⟩ := F
  exact ⟨⟨fI, fd, ps, F1.mono h, r⟩, T, g⟩
theorem initSp_len {fl : List Str} {cls : Addr} {n : Nat} (hn : n = fl.length + 1) : ∀ vs H Q E, initSp fl cls vs H Q E → vs.length = n := by
  rintro vs H Q E ⟨a, is, rfl, hl, _⟩
  rw [List.length_cons, List.length_map, hl, hn]
theorem small_text {i : Int} (h : i.natAbs.log2 < 1920) : (Str.ofString (toString i)).length ≤ 2000 := by
  have e := int_text_length_le (k := 1920) (by decide) h
  rw [PySem.ofString_length]; omega
/-- what gives a text, not too long -/
def Gd (σ : L2.St) (t : TE) : Prop := ∀ (H : Hp) (Q : VK), (∀ y : Str, y.length ≤ 2000 → Q (.str y) H) → t σ H Q
theorem gd_c {σ : L2.St} {m : Str} (h : m.length ≤ 2000) : Gd σ (tC (.str m)) := fun _ _ k => k m h
theorem gd_fmt {σ : L2.St} {j : Nat} {n : Int} (h1 : σ[j]? = some (some (.int n))) (hn : n.natAbs.log2 < 1920) : Gd σ (tFmt (tVar j)) := fun H Q k =>
  ⟨.int n, h1, .inr ⟨n, rfl, hn, k _ (small_text hn)⟩⟩
theorem tJs_ok {σ : L2.St} {H : Hp} : ∀ {ts : List TE} {acc : Str} {Q : Str → Hp → Prop}, (∀ t ∈ ts, Gd σ t) → acc.length + 2000 * ts.length ≤ 1000000 → (∀ o, Q o H) → tJs ts acc σ H Q
  | [], acc, Q, _, _, k => k acc
  | t :: ts, acc, Q, h, hl, k => by
    refine h t List.mem_cons_self H _ fun y hy => ⟨y, rfl, ?_, ?_⟩
    · rw [strLen_append, sizeLine_eq]
      rw [List.length_cons] at hl
      omega
    · refine tJs_ok (fun t ht => h t (List.mem_cons_of_mem _ ht)) ?_ k
      rw [strLen_append]
      rw [List.length_cons] at hl
      omega
/-- def __init__(self, f): Base.__init__(self, text); self.f = f -/
theorem init1 {K : PySem.W.Frag} {cls : Addr} {f : Str} {vs : List V} {H : Hp} {Q : VK} {E : XK} {N : List Str} {ts : List TE} (hN : N.length = 2) (T : OexC K cls) (n1 : PySem.W.findIn K (.ref cls) f = some none) (h : initSp [f] cls vs H Q E)
    (hts : ∀ (a : Addr) (n : Int), n.natAbs.log2 < 1920 → ∀ t ∈ ts, Gd [some (.ref a), some (.int n)] t) (hl : ts.length ≤ 400) :
    tSeq (tDrop (tVeI K (tCons (tVar 0) (tCons (fun σ H Q => tJs ts Str.empty σ H fun out H1 => Q (.str out) H1) tNil)))) (tOst K f (tVar 0) (tVar 1)) { nx := fun _ H' => Q .non H', rt := Q } (L2.start N vs) H := by
  obtain ⟨a, is, rfl, hi, hs, ha, hq⟩ := h
  match is, hi with
  | [n], _ =>
    have hn := hs n List.mem_cons_self
    have es : L2.start N (V.ref a :: [n].map V.int) = [some (.ref a), some (.int n)] := by
      unfold L2.start
      simp [hN]
    rw [es]
    refine ⟨.ref a, rfl, tJs_ok (hts a n hn) (by show 0 + _ ≤ _; omega) fun o => ?_⟩
    refine ⟨a, cls, [.str o], rfl, Nat.le_of_ble_eq_true rfl, T, ha, ?_⟩
    refine ⟨.int n, rfl, .ref a, rfl, a, cls, rfl, T, n1, .inl ⟨ha, fun d hd hne => hq d hd hne⟩⟩
/-- .. with two fields -/
theorem init2 {K : PySem.W.Frag} {cls : Addr} {f g : Str} {vs : List V} {H : Hp} {Q : VK} {E : XK} {N : List Str} {ts : List TE} (hN : N.length = 3) (T : OexC K cls) (n1 : PySem.W.findIn K (.ref cls) f = some none) (n2 : PySem.W.findIn K (.ref cls) g = some none) (h : initSp [f, g] cls vs H Q E)
    (hts : ∀ (a : Addr) (n m : Int), n.natAbs.log2 < 1920 → m.natAbs.log2 < 1920 → ∀ t ∈ ts, Gd [some (.ref a), some (.int n), some (.int m)] t) (hl : ts.length ≤ 400) :
    tSeq (tDrop (tVeI K (tCons (tVar 0) (tCons (fun σ H Q => tJs ts Str.empty σ H fun out H1 => Q (.str out) H1) tNil)))) (tSeq (tOst K f (tVar 0) (tVar 1)) (tOst K g (tVar 0) (tVar 2))) { nx := fun _ H' => Q .non H', rt := Q } (L2.start N vs) H := by
  obtain ⟨a, is, rfl, hi, hs, ha, hq⟩ := h
  match is, hi with
  | [n, m], _ =>
    have hn := hs n List.mem_cons_self
    have hm := hs m (List.mem_cons_of_mem _ List.mem_cons_self)
    have es : L2.start N (V.ref a :: [n, m].map V.int) = [some (.ref a), some (.int n), some (.int m)] := by
      unfold L2.start
      simp [hN]
    rw [es]
    refine ⟨.ref a, rfl, tJs_ok (hts a n m hn hm) (by show 0 + _ ≤ _; omega) fun o => ?_⟩
    refine ⟨a, cls, [.str o], rfl, Nat.le_of_ble_eq_true rfl, T, ha, ?_⟩
    refine ⟨.int n, rfl, .ref a, rfl, a, cls, rfl, T, n1, .inl ⟨ha, fun d hd hne => ?_⟩⟩
    refine ⟨.int m, rfl, .ref a, rfl, a, cls, rfl, T, n2, .inr ⟨d, [(f, .int n)], upd_same, by rw [upd_ne hne, upd_same], Nat.le_of_ble_eq_true rfl, ?_⟩⟩
    have z := hq d hd hne
    have eH : upd (upd (upd H d (exd d [(f, V.int n)])) a (exo a cls (some d))) d (exd d ((g, V.int m) :: [(f, V.int n)])) = upd (upd H d (exd d (([f, g].zip [n, m]).reverse.map fun p => (p.1, V.int p.2)))) a (exo a cls (some d)) := by
      funext b
      by_cases e1 : b = d
      · rw [e1, upd_same, upd_ne hne, upd_same]
        rfl
      · rw [upd_ne e1]
        by_cases e2 : b = a
        · rw [e2, upd_same, upd_same]
        · rw [upd_ne e2, upd_ne e2, upd_ne e1, upd_ne e1]
    show Q .non (upd (upd (upd H d (exd d [(f, V.int n)])) a (exo a cls (some d))) d (exd d ((g, V.int m) :: [(f, V.int n)])))
    rw [eH]
    exact z
/-! ### facts by names -/
def oexB (K : PySem.W.Frag) (x : Str) : Bool := (match K.lookup (He.ga K x) with
  | some ⟨.type "type", _, .cls cd, sl⟩ => (match cd.mro, sl.toList with
    | .ref C' :: bm, [_, _, _, _, some (.builtin n), _] => C' == He.ga K x && n == "ValueError.__new__" && !cd.hasDel && cd.hasDict && PySem.HandSPX.refsVE bm
    | _, _ => false)
  | _ => false) && (decide (PySem.W.findIn K (.ref (He.ga K x)) "__setattr__" = some (some (.builtin "object.__setattr__"))) && (decide (PySem.W.subIn K (.ref (He.ga K x)) (.type "BaseException") = some true) &&
  (decide (PySem.W.typeIn K (.ref (He.ga K x)) = some (.type "type")) && PySem.W.keepIn K (.ref (He.ga K x)))))
theorem oexB_ok {K : PySem.W.Frag} {x : Str} (h : oexB K x = true) : OexC K (He.ga K x) := by
  unfold oexB at h
  rw [Bool.and_eq_true, Bool.and_eq_true, Bool.and_eq_true, Bool.and_eq_true, decide_eq_true_eq, decide_eq_true_eq, decide_eq_true_eq] at h
  obtain ⟨q, h2, h3, h4, h5⟩ := h
  refine ⟨?_, h2, h3, h4, h5⟩
  split at q
  · rename_i dd cd sl ho
    split at q
    · rename_i C' bm k0 k1 k2 k3 n k5 hm hs
      simp only [Bool.and_eq_true, beq_iff_eq, Bool.not_eq_true'] at q
      obtain ⟨⟨⟨⟨rfl, rfl⟩, hdel⟩, hd⟩, hr⟩ := q
      obtain ⟨nm, bs, mro, ns, qn, hd', sn, sub, ab, col, del⟩ := cd
      dsimp only at hm hdel hd
      subst hm hdel hd
      have hsl : sl = #[k0, k1, k2, k3, some (.builtin "ValueError.__new__"), k5] := by
        obtain ⟨l⟩ := sl
        simp only at hs
        rw [hs]
      subst hsl
      exact ⟨nm, qn, ns, bs, bm, sn, sub, ab, col, dd, k0, k1, k2, k3, k5, ho, hr⟩
    · cases q
  · cases q
def initB (K : PySem.W.Frag) (x : Str) : Bool := decide (PySem.W.specialIn K (.ref (He.ga K x)) "__getattribute__" = some (some (.builtin "type.__getattribute__"))) && (PySem.W.readsIn K (He.ga K x) (.type "type") && (match PySem.W.findCls K (.ref (He.ga K x)) (.type "type") "__init__" with
  | some (.val (.builtin n)) => n == "ValueError.__init__"
  | _ => false))
theorem initB_ok {K : PySem.W.Frag} {mg : Str → Option Value} {x : Str} (hm : mg x = some (.ref (He.ga K x))) (h : initB K x = true) : InitD K mg x := by
  unfold initB at h
  rw [Bool.and_eq_true, Bool.and_eq_true, decide_eq_true_eq] at h
  obtain ⟨h1, h2, h3⟩ := h
  refine ⟨_, hm, h1, h2, ?_⟩
  split at h3
  · rename_i n e
    rw [e, beq_iff_eq.mp h3]
  · cases h3
/-- the class x has its own __init__ and no fields of the class -/
def oeiB (K : PySem.W.Frag) (x : Str) (fl : List Str) : Bool := decide (PySem.W.findIn K (.ref (He.ga K x)) "__init__" = some (some (.ref (He.ma K (He.ga K x) "__init__")))) && (decide (PySem.W.typeIn K (.ref (He.ma K (He.ga K x) "__init__")) = some (.type "function")) &&
  fl.all fun f => decide (PySem.W.findIn K (.ref (He.ga K x)) f = some none))
theorem oeiB_ok {K : PySem.W.Frag} {x : Str} {fl : List Str} (h : oeiB K x fl = true) : PySem.W.findIn K (.ref (He.ga K x)) "__init__" = some (some (.ref (He.ma K (He.ga K x) "__init__"))) ∧ PySem.W.typeIn K (.ref (He.ma K (He.ga K x) "__init__")) = some (.type "function") ∧
    ∀ f ∈ fl, PySem.W.findIn K (.ref (He.ga K x)) f = some none := by
  unfold oeiB at h
  rw [Bool.and_eq_true, Bool.and_eq_true, decide_eq_true_eq, decide_eq_true_eq, List.all_eq_true] at h
  exact ⟨h.1, h.2.1, fun f hf => of_decide_eq_true (h.2.2 f hf)⟩
end DL

end
namespace KK
/-! ### the numbers of a field, in plain -/
structure Nu where
  p : Int
  q : Int
  d : Int
  s : Int
def sg (s : Int) : Int := if s < 0 then -1 else 1
def gc (p q s : Int) : Int := (((p.natAbs.gcd q.natAbs).gcd s.natAbs : Nat) : Int)
def low (p q d s : Int) : Nu := ⟨sg s * p / gc p q s, sg s * q / gc p q s, if q = 0 then 0 else d, sg s * s / gc p q s⟩
theorem sg_sq (s : Int) : sg s * sg s = 1 := by unfold sg; split <;> rfl
theorem gc_pos {p q s : Int} (h : s ≠ 0) : 0 < gc p q s := by
  unfold gc
  have : 0 < (p.natAbs.gcd q.natAbs).gcd s.natAbs := Nat.gcd_pos_of_pos_right _ (by omega)
  omega
theorem gc_dp {p q s : Int} : gc p q s ∣ p := Int.ofNat_dvd_left.mpr (Nat.dvd_trans (Nat.gcd_dvd_left _ _) (Nat.gcd_dvd_left _ _))
theorem gc_dq {p q s : Int} : gc p q s ∣ q := Int.ofNat_dvd_left.mpr (Nat.dvd_trans (Nat.gcd_dvd_left _ _) (Nat.gcd_dvd_right _ _))
theorem gc_ds {p q s : Int} : gc p q s ∣ s := Int.ofNat_dvd_left.mpr (Nat.gcd_dvd_right _ _)
theorem back {g σ x : Int} (h : g ∣ x) (e : σ * σ = 1) : x = σ * g * (σ * x / g) := by
  obtain ⟨y, rfl⟩ := h
  by_cases hg : g = 0
  · subst hg; simp
  · have : σ * (g * y) / g = σ * y := by rw [Int.mul_left_comm, Int.mul_ediv_cancel_left _ hg]
    rw [this]
    grind
theorem low_spec {p q s : Int} (d : Int) (h : s ≠ 0) : ∃ k, k ≠ 0 ∧ p = k * (low p q d s).p ∧ q = k * (low p q d s).q ∧ s = k * (low p q d s).s ∧ 0 < (low p q d s).s := by
  have g0 := gc_pos (p := p) (q := q) h
  have e := sg_sq s
  have hs := back (gc_ds (p := p) (q := q) (s := s)) e
  have hk : sg s * gc p q s ≠ 0 := fun z => h (by rw [hs, z]; simp)
  refine ⟨sg s * gc p q s, hk, back gc_dp e, back gc_dq e, hs, ?_⟩
  show 0 < sg s * s / gc p q s
  have pos : 0 < sg s * s := by unfold sg; split <;> omega
  exact Int.ediv_pos_of_pos_of_dvd pos (by omega) (Int.dvd_mul_of_dvd_right gc_ds)
theorem gc_scale (k p q s : Int) : gc (k * p) (k * q) (k * s) = (k.natAbs : Int) * gc p q s := by
  unfold gc
  rw [Int.natAbs_mul, Int.natAbs_mul, Int.natAbs_mul, Nat.gcd_mul_left, Nat.gcd_mul_left, Int.natCast_mul]
theorem sg_scale {k s : Int} (hk : k ≠ 0) (hs : s ≠ 0) (x : Int) : sg (k * s) * (k * x) = (k.natAbs : Int) * (sg s * x) := by
  have key : sg (k * s) * k = (k.natAbs : Int) * sg s := by
    unfold sg
    rcases Int.lt_or_gt_of_ne hk with h1 | h1 <;> rcases Int.lt_or_gt_of_ne hs with h2 | h2
    · have := Int.mul_pos_of_neg_of_neg h1 h2
      rw [if_neg (by omega), if_pos h2]; omega
    · have := Int.mul_neg_of_neg_of_pos h1 h2
      rw [if_pos (by omega), if_neg (by omega)]; omega
    · have := Int.mul_neg_of_pos_of_neg h1 h2
      rw [if_pos (by omega), if_pos h2]; omega
    · have := Int.mul_pos h1 h2
      rw [if_neg (by omega), if_neg (by omega)]; omega
  rw [← Int.mul_assoc, key, Int.mul_assoc]
theorem low_scale {k p q s : Int} (d : Int) (hk : k ≠ 0) (hs : s ≠ 0) : low (k * p) (k * q) d (k * s) = low p q d s := by
  unfold low
  have kp : (0 : Int) < (k.natAbs : Int) := by omega
  rw [gc_scale, sg_scale hk hs, sg_scale hk hs, sg_scale hk hs, Int.mul_ediv_mul_of_pos _ _ kp, Int.mul_ediv_mul_of_pos _ _ kp, Int.mul_ediv_mul_of_pos _ _ kp]
  have : (k * q = 0) ↔ (q = 0) := by rw [Int.mul_eq_zero]; simp [hk]
  simp only [this]
theorem low_d {p q d d' s : Int} (h : q ≠ 0 → d = d') : low p q d s = low p q d' s := by
  unfold low
  by_cases hq : q = 0
  · simp [hq]
  · simp [hq, h hq]
theorem low_eq {p q d s p' q' d' s' : Int} (hs : s ≠ 0) (hs' : s' ≠ 0) (e1 : p * s' = p' * s) (e2 : q * s' = q' * s) (e3 : q ≠ 0 → d = d') : low p q d s = low p' q' d' s' := by
  rw [← low_scale d hs' hs, ← low_scale d' hs hs', Int.mul_comm s' p, Int.mul_comm s' q, e1, e2, Int.mul_comm s p', Int.mul_comm s q', Int.mul_comm s' s]
  refine low_d fun h => e3 fun z => h ?_
  rw [← e2, z, Int.zero_mul]
theorem low_dd {p q d s : Int} (hs : s ≠ 0) : (low p q d s).d = if (low p q d s).q = 0 then 0 else d := by
  obtain ⟨k, hk, _, h2, _⟩ := low_spec (p := p) (q := q) d hs
  have : (q = 0) ↔ ((low p q d s).q = 0) := by
    constructor
    · intro h; rw [h] at h2; rcases Int.mul_eq_zero.mp h2.symm with z | z; exact absurd z hk; rw [h]; exact z
    · intro h; rw [h2, h, Int.mul_zero]
  show (if q = 0 then 0 else d) = _
  simp only [this]
/-! signs -/
def sgi (x : Int) : Int := if 0 < x then 1 else if x < 0 then -1 else 0
def sos (p q d : Int) : Int := if sgi p = (if 0 < d then sgi q else 0) ∨ (if 0 < d then sgi q else 0) = 0 then sgi p else if sgi p = 0 then (if 0 < d then sgi q else 0) else if 0 < p * p - q * q * d then sgi p else (if 0 < d then sgi q else 0)
theorem sgi_pos {x : Int} (h : 0 < x) : sgi x = 1 := by unfold sgi; rw [if_pos h]
theorem sgi_neg {x : Int} (h : x < 0) : sgi x = -1 := by unfold sgi; rw [if_neg (by omega), if_pos h]
theorem sgi_mul (x y : Int) : sgi (x * y) = sgi x * sgi y := by
  rcases Int.lt_trichotomy x 0 with h1 | h1 | h1 <;> rcases Int.lt_trichotomy y 0 with h2 | h2 | h2
  · rw [sgi_neg h1, sgi_neg h2, sgi_pos (Int.mul_pos_of_neg_of_neg h1 h2)]; rfl
  · subst h2; simp [sgi]
  · rw [sgi_neg h1, sgi_pos h2, sgi_neg (Int.mul_neg_of_neg_of_pos h1 h2)]; rfl
  · subst h1; simp [sgi]
  · subst h1; simp [sgi]
  · subst h1; simp [sgi]
  · rw [sgi_pos h1, sgi_neg h2, sgi_neg (Int.mul_neg_of_pos_of_neg h1 h2)]; rfl
  · subst h2; simp [sgi]
  · rw [sgi_pos h1, sgi_pos h2, sgi_pos (Int.mul_pos h1 h2)]; rfl
theorem sgi_z {x : Int} : sgi x = 0 ↔ x = 0 := by unfold sgi; split <;> (try split) <;> omega
theorem sos_P {p q d : Int} (hd : 0 < d) (h : 0 < p * p - q * q * d) : sos p q d = sgi p := by
  unfold sos
  simp only [if_pos hd, if_pos h]
  have hp : sgi p ≠ 0 := fun z => by
    rw [sgi_z] at z; subst z
    have h1 : 0 ≤ q * q := by rcases Int.le_total 0 q with a | a; exact Int.mul_nonneg a a; exact Int.mul_nonneg_of_nonpos_of_nonpos a a
    have := Int.mul_nonneg h1 (Int.le_of_lt hd)
    omega
  split
  · rfl
  · simp [hp]
theorem sos_N {p q d : Int} (hd : 0 < d) (h : p * p - q * q * d < 0) : sos p q d = sgi q := by
  unfold sos
  simp only [if_pos hd, if_neg (show ¬ 0 < p * p - q * q * d by omega)]
  have hq : sgi q ≠ 0 := fun z => by
    rw [sgi_z] at z; subst z
    have h1 : 0 ≤ p * p := by rcases Int.le_total 0 p with a | a; exact Int.mul_nonneg a a; exact Int.mul_nonneg_of_nonpos_of_nonpos a a
    omega
  split
  · rename_i h; rcases h with h | h; exact h; exact absurd h hq
  · split <;> rfl
theorem sos_00 {d : Int} : sos 0 0 d = 0 := by unfold sos sgi; simp
theorem sq_nn (q : Int) : 0 ≤ q * q := by rcases Int.le_total 0 q with a | a; exact Int.mul_nonneg a a; exact Int.mul_nonneg_of_nonpos_of_nonpos a a
/-- |x| > |y|: x + y has x's sign -/
theorem dom {x y : Int} (h : y * y < x * x) : sgi (x + y) = sgi x := by
  have hx : x ≠ 0 := fun z => by subst z; have := sq_nn y; omega
  rcases Int.lt_or_gt_of_ne hx with a | a
  · have : x + y < 0 := by
      rcases Int.lt_or_le (x + y) 0 with b | b
      · exact b
      · have h1 : y - x > 0 := by omega
        have := Int.mul_nonneg b (Int.le_of_lt h1)
        have e : (x + y) * (y - x) = y * y - x * x := by grind
        omega
    rw [sgi_neg this, sgi_neg a]
  · have : 0 < x + y := by
      rcases Int.lt_or_le 0 (x + y) with b | b
      · exact b
      · have h1 : x - y > 0 := by omega
        have := Int.mul_nonneg (show 0 ≤ -(x + y) by omega) (Int.le_of_lt h1)
        have e : -(x + y) * (x - y) = y * y - x * x := by grind
        omega
    rw [sgi_pos this, sgi_pos a]
/-- d is no square: no p / q squared -/
def Irr (d : Int) : Prop := ∀ p q : Int, p * p = q * q * d → p = 0 ∧ q = 0
theorem sos_scale {k p q d : Int} (hd : 0 < d) (hk : 0 < k) (ir : Irr d) : sos (k * p) (k * q) d = sos p q d := by
  have kk := Int.mul_pos hk hk
  have e : (k * p) * (k * p) - (k * q) * (k * q) * d = (k * k) * (p * p - q * q * d) := by grind
  rcases Int.lt_trichotomy (p * p - q * q * d) 0 with h | h | h
  · have h2 := Int.mul_neg_of_pos_of_neg kk h
    rw [sos_N hd h, sos_N hd (by omega), sgi_mul, sgi_pos hk, Int.one_mul]
  · obtain ⟨rfl, rfl⟩ := ir p q (by omega)
    simp
  · have h2 := Int.mul_pos kk h
    rw [sos_P hd h, sos_P hd (by omega), sgi_mul, sgi_pos hk, Int.one_mul]
theorem sos_mul {p q p' q' d : Int} (hd : 0 < d) (ir : Irr d) : sos p q d * sos p' q' d = sos (p * p' + q * q' * d) (p * q' + q * p') d := by
  have e : (p * p' + q * q' * d) * (p * p' + q * q' * d) - (p * q' + q * p') * (p * q' + q * p') * d = (p * p - q * q * d) * (p' * p' - q' * q' * d) := by grind
  rcases Int.lt_trichotomy (p * p - q * q * d) 0 with h | h | h
  · rcases Int.lt_trichotomy (p' * p' - q' * q' * d) 0 with h' | h' | h'
    · have h2 := Int.mul_pos_of_neg_of_neg h h'
      rw [sos_N hd h, sos_N hd h', sos_P hd (by omega), ← sgi_mul]
      have hdq : sgi (q * q' * d) = sgi (q * q') := by rw [sgi_mul, sgi_pos hd, Int.mul_one]
      rw [← hdq, Int.add_comm]
      refine (dom ?_).symm
      have a1 := Int.mul_lt_mul_of_pos_left (show p' * p' < q' * q' * d by omega) (show 0 < q * q * d by have := sq_nn p; omega)
      have a2 := Int.mul_le_mul_of_nonneg_right (show p * p ≤ q * q * d by omega) (sq_nn p')
      have e1 : p * p' * (p * p') = p * p * (p' * p') := by grind
      have e2 : q * q' * d * (q * q' * d) = q * q * d * (q' * q' * d) := by grind
      omega
    · obtain ⟨rfl, rfl⟩ := ir p' q' (by omega)
      simp [sos_00]
    · have h2 := Int.mul_neg_of_neg_of_pos h h'
      rw [sos_N hd h, sos_P hd h', sos_N hd (by omega), ← sgi_mul, Int.add_comm]
      refine (dom ?_).symm
      have a1 := Int.mul_lt_mul_of_pos_left (show q' * q' * d < p' * p' by omega) (show 0 < q * q * d by have := sq_nn p; omega)
      have a2 := Int.mul_le_mul_of_nonneg_right (show p * p ≤ q * q * d by omega) (Int.mul_nonneg (sq_nn q') (Int.le_of_lt hd))
      have e1 : p * q' * (p * q') * d = p * p * (q' * q' * d) := by grind
      have e2 : q * p' * (q * p') * d = q * q * d * (p' * p') := by grind
      have : p * q' * (p * q') * d < q * p' * (q * p') * d := by omega
      exact Int.lt_of_mul_lt_mul_right this (Int.le_of_lt hd)
  · obtain ⟨rfl, rfl⟩ := ir p q (by omega)
    simp [sos_00]
  · rcases Int.lt_trichotomy (p' * p' - q' * q' * d) 0 with h' | h' | h'
    · have h2 := Int.mul_neg_of_pos_of_neg h h'
      rw [sos_P hd h, sos_N hd h', sos_N hd (by omega), ← sgi_mul]
      refine (dom ?_).symm
      have a1 := Int.mul_lt_mul_of_pos_left (show p' * p' < q' * q' * d by omega) (show 0 < p * p by have := Int.mul_nonneg (sq_nn q) (Int.le_of_lt hd); omega)
      have a2 := Int.mul_le_mul_of_nonneg_right (show q * q * d ≤ p * p by omega) (sq_nn p')
      have e1 : p * q' * (p * q') * d = p * p * (q' * q' * d) := by grind
      have e2 : q * p' * (q * p') * d = q * q * d * (p' * p') := by grind
      have : q * p' * (q * p') * d < p * q' * (p * q') * d := by omega
      exact Int.lt_of_mul_lt_mul_right this (Int.le_of_lt hd)
    · obtain ⟨rfl, rfl⟩ := ir p' q' (by omega)
      simp [sos_00]
    · have h2 := Int.mul_pos h h'
      rw [sos_P hd h, sos_P hd h', sos_P hd (by omega), ← sgi_mul]
      refine (dom ?_).symm
      have a1 := Int.mul_lt_mul_of_pos_left (show q' * q' * d < p' * p' by omega) (show 0 < p * p by have := Int.mul_nonneg (sq_nn q) (Int.le_of_lt hd); omega)
      have a2 := Int.mul_le_mul_of_nonneg_right (show q * q * d ≤ p * p by omega) (Int.mul_nonneg (sq_nn q') (Int.le_of_lt hd))
      have e1 : p * p' * (p * p') = p * p * (p' * p') := by grind
      have e2 : q * q' * d * (q * q' * d) = q * q * d * (q' * q' * d) := by grind
      omega
/-! no square -/
theorem irr_of {d π e : Int} (hd : d = π * e) (hπ : 1 < π) (h1 : ∀ n : Int, π ∣ n * n → π ∣ n) (h2 : ∀ n : Int, π ∣ n * n * e → π ∣ n) : Irr d := by
  have main : ∀ (m : Nat) (p q : Int), q.natAbs ≤ m → p * p = q * q * d → q = 0 := by
    intro m
    induction m with
    | zero => intro p q h _; omega
    | succ m ih =>
      intro p q h e0
      subst hd
      obtain ⟨p', rfl⟩ := h1 p ⟨q * q * e, by rw [e0]; grind⟩
      have e1 : π * (π * (p' * p')) = π * (q * q * e) := by grind
      have e2 := Int.eq_of_mul_eq_mul_left (by omega) e1
      obtain ⟨q', rfl⟩ := h2 q ⟨p' * p', e2.symm⟩
      have e3 : π * (π * (q' * q' * e)) = π * (p' * p') := by rw [e2]; grind
      have e4 := Int.eq_of_mul_eq_mul_left (by omega) e3
      by_cases z : q' = 0
      · rw [z, Int.mul_zero]
      · have hlt : q'.natAbs < (π * q').natAbs := by
          rw [Int.natAbs_mul]
          have : 1 < π.natAbs := by omega
          have := Nat.mul_lt_mul_of_pos_right this (show 0 < q'.natAbs by omega)
          omega
        have := ih p' q' (by omega) (by rw [← e4]; grind)
        exact absurd this z
  intro p q e0
  have hq := main q.natAbs p q (Nat.le_refl _) e0
  subst hq
  have : p * p = 0 := by rw [e0]; simp
  rcases Int.mul_eq_zero.mp this with z | z <;> exact ⟨z, rfl⟩
theorem mod_mul (π n k : Int) : (n * n * k) % π = ((n % π) * (n % π) * k) % π := by rw [Int.mul_emod (n * n), Int.mul_emod n n, ← Int.mul_emod, Int.mul_emod (n % π * (n % π))]
theorem m2 (n : Int) : n % 2 = 0 ∨ n % 2 = 1 := by omega
theorem irr2 : Irr 2 := by
  have key : ∀ n : Int, (2 : Int) ∣ n * n → (2 : Int) ∣ n := fun n h => by
    rw [Int.dvd_iff_emod_eq_zero] at h ⊢
    rcases m2 n with z | z
    · exact z
    · rw [Int.mul_emod, z] at h
      exact absurd h (by decide)
  exact irr_of (π := 2) (e := 1) rfl (by decide) key fun n h => key n (by rwa [Int.mul_one] at h)
theorem m3 (n : Int) : n % 3 = 0 ∨ n % 3 = 1 ∨ n % 3 = 2 := by omega
theorem irr3 : Irr 3 := irr_of (π := 3) (e := 1) rfl (by decide) (fun n h => by rw [Int.dvd_iff_emod_eq_zero] at *; rcases m3 n with z | z | z; exact z; all_goals (rw [Int.mul_emod, z] at h; cases h)) (fun n h => by rw [Int.mul_one] at h; rw [Int.dvd_iff_emod_eq_zero] at *; rcases m3 n with z | z | z; exact z; all_goals (rw [Int.mul_emod, z] at h; cases h))
theorem irr6 : Irr 6 := irr_of (π := 3) (e := 2) rfl (by decide) (fun n h => by rw [Int.dvd_iff_emod_eq_zero] at *; rcases m3 n with z | z | z; exact z; all_goals (rw [Int.mul_emod, z] at h; cases h)) (fun n h => by rw [Int.dvd_iff_emod_eq_zero] at *; rw [mod_mul] at h; rcases m3 n with z | z | z; exact z; all_goals (rw [z] at h; cases h))
theorem m5 (n : Int) : n % 5 = 0 ∨ n % 5 = 1 ∨ n % 5 = 2 ∨ n % 5 = 3 ∨ n % 5 = 4 := by omega
theorem irr5 : Irr 5 := irr_of (π := 5) (e := 1) rfl (by decide) (fun n h => by rw [Int.dvd_iff_emod_eq_zero] at *; rcases m5 n with z | z | z | z | z; exact z; all_goals (rw [Int.mul_emod, z] at h; cases h)) (fun n h => by rw [Int.mul_one] at h; rw [Int.dvd_iff_emod_eq_zero] at *; rcases m5 n with z | z | z | z | z; exact z; all_goals (rw [Int.mul_emod, z] at h; cases h))
end KK

set_option maxHeartbeats 1000000
namespace KK
/-! ### the order of p + q root d: sums, products -/
theorem sos_rg (p q d : Int) : sos p q d = -1 ∨ sos p q d = 0 ∨ sos p q d = 1 := by
  unfold sos sgi
  split <;> (try split) <;> (try split) <;> (try split) <;> (try split) <;> (try split) <;> omega
theorem sos_q00 (p d : Int) : sos p 0 d = sgi p := by
  unfold sos
  have : (if 0 < d then sgi 0 else 0) = 0 := by split <;> rfl
  rw [this]; simp
theorem sgi_ng (x : Int) : sgi (-x) = -sgi x := by unfold sgi; split <;> split <;> (try split) <;> omega
theorem sgi_p {x : Int} : sgi x = 1 ↔ 0 < x := by unfold sgi; split <;> (try split) <;> omega
theorem sgi_n {x : Int} : sgi x = -1 ↔ x < 0 := by unfold sgi; split <;> (try split) <;> omega
theorem sgi_0 {x : Int} : 0 ≤ sgi x ↔ 0 ≤ x := by unfold sgi; split <;> (try split) <;> omega
theorem sos_ng (p q d : Int) : sos (-p) (-q) d = -sos p q d := by
  have e : -p * -p - -q * -q * d = p * p - q * q * d := by grind
  unfold sos
  rw [sgi_ng, sgi_ng, e]
  generalize sgi p = a
  generalize p * p - q * q * d = N
  by_cases hd : 0 < d
  · simp only [if_pos hd]
    generalize sgi q = b
    split <;> split <;> (try split) <;> (try split) <;> (try split) <;> (try split) <;> omega
  · simp only [if_neg hd]; simp
section
variable {d : Int} (hd : 0 < d) (ir : Irr d)
include hd ir
theorem sos_z {p q : Int} (h : sos p q d = 0) : p = 0 ∧ q = 0 := by
  rcases Int.lt_trichotomy (p * p - q * q * d) 0 with c | c | c
  · rw [sos_N hd c, sgi_z] at h
    subst h
    have := sq_nn p
    simp at c
    omega
  · exact ir p q (by omega)
  · rw [sos_P hd c, sgi_z] at h
    subst h
    have := Int.mul_nonneg (sq_nn q) (Int.le_of_lt hd)
    simp at c
    omega
/-- an integer more -/
theorem sos_int {p q t : Int} (h : 0 ≤ sos p q d) (ht : 0 < t) : sos (p + t) q d = 1 := by
  rcases Int.lt_trichotomy (p * p - q * q * d) 0 with c | c | c
  · rw [sos_N hd c, sgi_0] at h
    have q0 : 0 < q := by
      rcases Int.lt_or_le 0 q with z | z
      · exact z
      · have : q = 0 := by omega
        subst this
        have := sq_nn p
        simp at c
        omega
    rcases Int.lt_trichotomy ((p + t) * (p + t) - q * q * d) 0 with c2 | c2 | c2
    · rw [sos_N hd c2]; exact sgi_p.mpr q0
    · obtain ⟨_, z⟩ := ir (p + t) q (by omega); omega
    · rw [sos_P hd c2]
      refine sgi_p.mpr ?_
      rcases Int.lt_or_le 0 (p + t) with z | z
      · exact z
      · have := Int.mul_le_mul (show -(p + t) ≤ -p by omega) (show -(p + t) ≤ -p by omega) (by omega) (by omega)
        have e1 : -(p + t) * -(p + t) = (p + t) * (p + t) := by grind
        have e2 : -p * -p = p * p := by grind
        omega
  · obtain ⟨z1, z2⟩ := ir p q (by omega)
    subst z1 z2
    rw [sos_q00]
    exact sgi_p.mpr (by omega)
  · rw [sos_P hd c, sgi_0] at h
    have := Int.mul_le_mul (show p ≤ p + t by omega) (show p ≤ p + t by omega) h (by omega)
    rw [sos_P hd (by omega)]
    exact sgi_p.mpr (by
      rcases Int.lt_or_le 0 p with z | z
      · omega
      · omega)
theorem sos_sq {p q : Int} (h : p ≠ 0 ∨ q ≠ 0) : p * p - q * q * d ≠ 0 := fun z => by
  obtain ⟨a, b⟩ := ir p q (by omega)
  rcases h with h | h
  · exact h a
  · exact h b
theorem sos_addP {p q p' q' : Int} (h : 0 ≤ sos p q d) (h' : sos p' q' d = 1) : sos (p + p') (q + q') d = 1 := by
  have nz : p' ≠ 0 ∨ q' ≠ 0 := by
    rcases Classical.em (p' = 0) with a | a
    · rcases Classical.em (q' = 0) with b | b
      · subst a b; rw [sos_00] at h'; cases h'
      · exact .inr b
    · exact .inl a
  have n0 := sos_sq hd ir nz
  -- B * conj B = N
  have cj : sos p' q' d * sos p' (-q') d = sgi (p' * p' - q' * q' * d) := by
    rw [sos_mul hd ir]
    have e1 : p' * p' + q' * -q' * d = p' * p' - q' * q' * d := by grind
    have e2 : p' * -q' + q' * p' = 0 := by grind
    rw [e1, e2, sos_q00]
  rw [h', Int.one_mul] at cj
  have ac : sos p q d * sos p' (-q') d = sos (p * p' + q * -q' * d) (p * -q' + q * p') d := sos_mul hd ir
  have tot : sos (p + p') (q + q') d * sos p' (-q') d = sos (p * p' + q * -q' * d + (p' * p' - q' * q' * d)) (p * -q' + q * p') d := by
    rw [sos_mul hd ir]
    congr 1 <;> grind
  rcases Int.lt_or_gt_of_ne n0 with c | c
  · rw [sgi_n.mpr c] at cj
    rw [cj] at ac tot
    have k : 0 ≤ sos (-(p * p' + q * -q' * d)) (-(p * -q' + q * p')) d := by rw [sos_ng, ← ac]; omega
    have k2 := sos_int hd ir k (t := -(p' * p' - q' * q' * d)) (by omega)
    have e : -(p * p' + q * -q' * d) + -(p' * p' - q' * q' * d) = -(p * p' + q * -q' * d + (p' * p' - q' * q' * d)) := by grind
    rw [e, sos_ng] at k2
    omega
  · rw [sgi_p.mpr c] at cj
    rw [cj] at ac tot
    have k : 0 ≤ sos (p * p' + q * -q' * d) (p * -q' + q * p') d := by rw [← ac]; omega
    have k2 := sos_int hd ir k c
    omega
theorem sos_add {p q p' q' : Int} (h : 0 ≤ sos p q d) (h' : 0 ≤ sos p' q' d) : 0 ≤ sos (p + p') (q + q') d := by
  rcases sos_rg p' q' d with c | c | c
  · omega
  · obtain ⟨rfl, rfl⟩ := sos_z hd ir c
    simpa using h
  · rw [sos_addP hd ir h c]; decide
theorem sos_mulN {p q p' q' : Int} (h : 0 ≤ sos p q d) (h' : 0 ≤ sos p' q' d) : 0 ≤ sos (p * p' + q * q' * d) (p * q' + q * p') d := by
  rw [← sos_mul hd ir]; exact Int.mul_nonneg h h'
theorem sos_intN {p q t : Int} (h : 0 ≤ sos p q d) (ht : 0 ≤ t) : 0 ≤ sos (p + t) q d := by
  rcases Int.lt_or_le 0 t with c | c
  · rw [sos_int hd ir h c]; decide
  · have : t = 0 := by omega
    subst this; simpa using h
/-- of the square root: g is near q root d -/
theorem sos_le {r q : Int} (hr : 0 ≤ r) (hq : 0 ≤ q) (h : r * r ≤ q * q * d) : 0 ≤ sos (-r) q d := by
  rcases Int.lt_trichotomy ((-r) * (-r) - q * q * d) 0 with c | c | c
  · rw [sos_N hd c]; exact sgi_0.mpr hq
  · obtain ⟨z1, z2⟩ := ir (-r) q (by omega)
    rw [z1, z2, sos_00]; decide
  · have e : (-r) * (-r) = r * r := by grind
    omega
theorem sos_ge {r q : Int} (hr : 0 ≤ r) (h : q * q * d ≤ r * r) : 0 ≤ sos r (-q) d := by
  rcases Int.lt_trichotomy (r * r - -q * -q * d) 0 with c | c | c
  · have e : -q * -q * d = q * q * d := by grind
    omega
  · obtain ⟨z1, z2⟩ := ir r (-q) (by omega)
    rw [z1, z2, sos_00]; decide
  · rw [sos_P hd c]; exact sgi_0.mpr hr
end
end KK

set_option maxHeartbeats 1000000
namespace KK
open PySem PySem.Spec PyProof.Rows L2 DL
/-! ### plain: small tools -/
theorem shp_int (i : Int) : SeqAt.shaped (.int i) = true := rfl
theorem eqv_int (i j : Int) : PyData.eqv (.int i) (.int j) = decide (i = j) := rfl
def DEnd (α : List SD) (QD : Ret → List SD → Prop) : DEnds := { nx := fun ρ => outK α ρ fun α' => QD (.d .none) α', rt := fun r ρ => outK α ρ fun α' => QD r α' }
def Bd (n : Nat) (i : Int) : Prop := i.natAbs < 2 ^ n
theorem Bd.mono {n m : Nat} {i : Int} (h : Bd n i) (e : n ≤ m) : Bd m i := Nat.lt_of_lt_of_le h (Nat.pow_le_pow_right (by decide) e)
theorem Bd.mul {n m : Nat} {i j : Int} (h : Bd n i) (k : Bd m j) : Bd (n + m) (i * j) := by
  unfold Bd at *
  rw [Int.natAbs_mul, Nat.pow_add]
  rcases Nat.eq_zero_or_pos i.natAbs with z | z
  · rw [z, Nat.zero_mul]; exact Nat.mul_pos (Nat.pow_pos (by decide)) (Nat.pow_pos (by decide))
  · exact Nat.mul_lt_mul_of_le_of_lt (Nat.le_of_lt h) k (Nat.pow_pos (by decide)) |> fun x => x
theorem Bd.add {n m k : Nat} {i j : Int} (h : Bd n i) (l : Bd m j) (e : max n m + 1 ≤ k) : Bd k (i + j) := by
  refine Bd.mono (n := max n m + 1) ?_ e
  have h1 : Bd (max n m) i := h.mono (Nat.le_max_left _ _)
  have h2 : Bd (max n m) j := l.mono (Nat.le_max_right _ _)
  unfold Bd at *
  rw [Nat.pow_succ]
  have := Int.natAbs_add_le i j
  omega
theorem Bd.neg {n : Nat} {i : Int} (h : Bd n i) : Bd n (-i) := by unfold Bd; rw [Int.natAbs_neg]; exact h
theorem Bd.sub {n m k : Nat} {i j : Int} (h : Bd n i) (l : Bd m j) (e : max n m + 1 ≤ k) : Bd k (i - j) := by rw [Int.sub_eq_add_neg]; exact h.add l.neg e
theorem Bd.div {n : Nat} {i : Int} (h : Bd n i) (j : Int) (hj : 0 < j) : Bd n (i / j) := by
  unfold Bd at *
  refine Nat.lt_of_le_of_lt ?_ h
  exact Int.natAbs_ediv_le_natAbs _ _
theorem Bd.cm {n m : Nat} {i j : Int} (h : Bd n i) (k : Bd m j) (e : n + m ≤ 999990) : CMulW i j := wide_mul (a := n + 1) (b := m + 1) (h.mono (by omega)) (k.mono (by omega)) (by omega) (by omega) (by omega)
theorem Bd.log {n : Nat} {i : Int} (h : Bd n i) (e : n ≤ 8999) : i.natAbs.log2 < 9000 := by
  unfold Bd at h
  by_cases z : i.natAbs = 0
  · rw [z]; decide
  · exact Nat.lt_of_lt_of_le ((Nat.log2_lt z).mpr h) (by omega)
theorem fd_pos {a b : Int} (h : 0 < b) : a.fdiv b = a / b := Int.fdiv_eq_ediv_of_nonneg _ (Int.le_of_lt h)
theorem fm_pos {a b : Int} (h : 0 < b) : a.fmod b = a % b := Int.fmod_eq_emod_of_nonneg _ (Int.le_of_lt h)
theorem sgi_bi (p : Int) : DL.bi (decide (0 < p)) - DL.bi (decide (p < 0)) = sgi p := by
  unfold DL.bi sgi
  by_cases h : 0 < p
  · have : ¬ p < 0 := by omega
    simp [sSeq, sIf, sNext, sSet, sAug, sRet, sPar, sPar3, asThree, sRaise, sAsg, sOwn, sApp, sPut, sRetN, sRetOwn, sRetU, sDrop, sBreak, sCont, dVar, dC, dOp, dTest, dCons, dNil, dTup, nLst, dNew, dNeg, dIf, dF1, dAnd, dOr, dNot, dAndV, dOrV, dNotV, dCall, nCall, dCallL, nCallL, withLent, withLentN, vw, frz, dI, dI0, dB0, int2, dEq, dNe, dAdd, dSub, dIAdd, atD, gName', gTup', gNil', gCons', gLst', lenIs, retD, retN, lendK, backK, isLent, ownK, fAbs, fLen, fMax, fMin, startD, outK, shp_int, eqv_int, h, this]
  · by_cases h' : p < 0
    · simp [sSeq, sIf, sNext, sSet, sAug, sRet, sPar, sPar3, asThree, sRaise, sAsg, sOwn, sApp, sPut, sRetN, sRetOwn, sRetU, sDrop, sBreak, sCont, dVar, dC, dOp, dTest, dCons, dNil, dTup, nLst, dNew, dNeg, dIf, dF1, dAnd, dOr, dNot, dAndV, dOrV, dNotV, dCall, nCall, dCallL, nCallL, withLent, withLentN, vw, frz, dI, dI0, dB0, int2, dEq, dNe, dAdd, dSub, dIAdd, atD, gName', gTup', gNil', gCons', gLst', lenIs, retD, retN, lendK, backK, isLent, ownK, fAbs, fLen, fMax, fMin, startD, outK, shp_int, eqv_int, h, h']
    · simp [sSeq, sIf, sNext, sSet, sAug, sRet, sPar, sPar3, asThree, sRaise, sAsg, sOwn, sApp, sPut, sRetN, sRetOwn, sRetU, sDrop, sBreak, sCont, dVar, dC, dOp, dTest, dCons, dNil, dTup, nLst, dNew, dNeg, dIf, dF1, dAnd, dOr, dNot, dAndV, dOrV, dNotV, dCall, nCall, dCallL, nCallL, withLent, withLentN, vw, frz, dI, dI0, dB0, int2, dEq, dNe, dAdd, dSub, dIAdd, atD, gName', gTup', gNil', gCons', gLst', lenIs, retD, retN, lendK, backK, isLent, ownK, fAbs, fLen, fMax, fMin, startD, outK, shp_int, eqv_int, h, h']
end KK

set_option maxHeartbeats 1000000
namespace KK
open PySem PySem.Spec PyProof.Rows L2 DL
/-! ### what the defs do -/
abbrev iv (i : Int) : SD := .val (.int i)
def Nu.D (x : Nu) : PyData := .tuple [.int x.p, .int x.q, .int x.d, .int x.s]
def Nb (n : Nat) (x : Nu) : Prop := Bd n x.p ∧ Bd n x.q ∧ Bd n x.d ∧ Bd n x.s
def nmax (a b : Int) : Int := if b > a then b else a
/-- the roots agree -/
def rts (x y : Nu) : Prop := x.d ≠ 0 → y.d ≠ 0 → x.d = y.d
def nplus (x y : Nu) : Nu := low (x.p * y.s + y.p * x.s) (x.q * y.s + y.q * x.s) (nmax x.d y.d) (x.s * y.s)
def nopp (x : Nu) : Nu := ⟨-x.p, -x.q, x.d, x.s⟩
def nminus (x y : Nu) : Nu := nplus x (nopp y)
def ntimes (x y : Nu) : Nu := low (x.p * y.p + x.q * y.q * nmax x.d y.d) (x.p * y.q + x.q * y.p) (nmax x.d y.d) (x.s * y.s)
def ninv (y : Nu) : Nu := low (y.p * y.s) (-y.q * y.s) y.d (y.p * y.p - y.q * y.q * y.d)
def nover (x y : Nu) : Nu := ntimes x (ninv y)
def isqr (a n : Int) : Prop := 0 ≤ n ∧ n * n ≤ a ∧ a < (n + 1) * (n + 1)
def Fl (x : Nu) (n : Int) : Prop := ∃ r, isqr (x.q * x.q * x.d) r ∧ n = if 0 ≤ x.q then (x.p + r) / x.s else (x.p - r - 1) / x.s
def sqfree (r : Int) : Prop := ∀ m : Int, 1 < m → ¬ (m * m ∣ r)
/-! the draws -/
structure Spl where
  ns : List Int
  pl : Int
  ce : Int
  si : Int
def Spl.L (s : Spl) : List PyData := [.list (s.ns.map PyData.int), .int s.pl, .int s.ce, .int s.si]
abbrev Spl.S (s : Spl) : SD := .own true s.L
def Sok (n : Nat) (s : Spl) : Prop := 0 ≤ s.pl ∧ s.pl ≤ n ∧ s.ns.length ≤ 64
def p__law_stirred : DSp := fun α QD _ => ∃ c p : Int, α = [iv c, iv p] ∧ 0 ≤ p ∧ p < 2 ^ 60 ∧ 0 ≤ c ∧ c < 2 ^ 60 ∧ ∀ n, QD (.d (.int n)) α
def p__law_spool_of : DSp := fun α QD _ => ∃ ns : List Int, α = [.res true (scriptR ns)] ∧ ns.length ≤ 63 ∧ ∀ s, Sok 0 s → QD (.n s.L) α
def p__law_upto : DSp := fun α QD _ => ∃ (s : Spl) (m : Nat) (b : Int), α = [s.S, iv b] ∧ Sok m s ∧ m < 2 ^ 59 ∧ 0 < b ∧ Bd 8000 b ∧ ∀ n s', 0 ≤ n → n < b → Sok (m + 1) s' → QD (.d (.int n)) [s'.S, iv b]
def p__law_choice : DSp := fun α QD _ => ∃ (s : Spl) (m : Nat) (xs : List PyData), α = [s.S, .val (.list xs)] ∧ Sok m s ∧ m < 2 ^ 59 ∧ xs ≠ [] ∧ xs.length < 2 ^ 60 ∧ ∀ x s', x ∈ xs → Sok (m + 1) s' → QD (.d x) [s'.S, .val (.list xs)]
def p_law : DSp := lawSp
end KK

set_option maxHeartbeats 1000000
namespace KK
open DL
/-! ### decimal bounds of p + q root d -/
def Near (g q d : Int) : Prop := 0 ≤ sos (g + 1) (-q) d ∧ 0 ≤ sos (1 - g) q d
/-- n is the greatest integer at most (p + q root d) / s -/
def FlS (p q d s n : Int) : Prop := 0 ≤ sos (p - n * s) q d ∧ sos (p - (n + 1) * s) q d = -1
section
variable {d : Int} (hd : 0 < d) (ir : Irr d)
include hd ir
theorem near_of {r q : Int} (h : isqr (q * q * d) r) : Near (if 0 < q then r else -r) q d := by
  obtain ⟨r0, h1, h2⟩ := h
  by_cases c : 0 < q
  · rw [if_pos c]
    refine ⟨sos_ge hd ir (by omega) (by omega), ?_⟩
    have := sos_int hd ir (sos_le hd ir r0 (by omega) h1) (show (0 : Int) < 1 by decide)
    rw [show (1 : Int) - r = -r + 1 by omega, this]; decide
  · rw [if_neg c]
    have e : -q * -q * d = q * q * d := by grind
    constructor
    · have := sos_int hd ir (sos_le hd ir r0 (show 0 ≤ -q by omega) (by rw [e]; exact h1)) (show (0 : Int) < 1 by decide)
      rw [this]; decide
    · have := sos_ge hd ir (r := r + 1) (q := -q) (by omega) (by rw [e]; omega)
      rw [Int.neg_neg] at this
      rw [show (1 : Int) - -r = r + 1 by omega]
      exact this
theorem big_pos {p q s T g v : Int} (hs : 0 < s) (hT : 0 < T) (hg : Near g (q * T) d) (h1 : s * v ≤ p * T + g) (hv : 3 < v) : sos p q d = 1 := by
  have := Int.mul_le_mul (show 1 ≤ s by omega) (show 4 ≤ v by omega) (by omega) (by omega)
  have k := sos_int hd ir hg.2 (t := p * T + g - 1) (by omega)
  rw [show 1 - g + (p * T + g - 1) = T * p by rw [Int.mul_comm T]; omega, Int.mul_comm q T, sos_scale hd hT ir] at k
  exact k
theorem big_neg {p q s T g v : Int} (hs : 0 < s) (hT : 0 < T) (hg : Near g (q * T) d) (h2 : p * T + g < s * v + s) (hv : v < -3) : sos p q d = -1 := by
  have := Int.mul_le_mul (show 1 ≤ s by omega) (show 4 ≤ -v by omega) (by omega) (by omega)
  have e : s * -v = -(s * v) := by grind
  have e3 : s * 4 ≤ s * -v := Int.mul_le_mul_of_nonneg_left (by omega) (by omega)
  have k := sos_int hd ir hg.1 (t := -(p * T + g) - 1) (by omega)
  rw [show g + 1 + (-(p * T + g) - 1) = -(T * p) by rw [Int.mul_comm T]; omega, Int.mul_comm q T, sos_ng, sos_scale hd hT ir] at k
  omega
theorem abs_d (q : Int) : 0 ≤ sos (q.natAbs * d) q d ∧ 0 ≤ sos (q.natAbs * d) (-q) d := by
  have n0 : (0 : Int) ≤ q.natAbs * d := Int.mul_nonneg (by omega) (by omega)
  have e1 : (q.natAbs : Int) * q.natAbs = q * q := Int.natAbs_mul_self' q
  have e : q * q * d ≤ q.natAbs * d * (q.natAbs * d) := by
    have : (q.natAbs : Int) * d * (q.natAbs * d) = q * q * d * d := by grind
    rw [this]
    have h := Int.mul_le_mul_of_nonneg_left (show 1 ≤ d by omega) (Int.mul_nonneg (sq_nn q) (show 0 ≤ d by omega))
    omega
  refine ⟨?_, sos_ge hd ir n0 e⟩
  have := sos_ge hd ir (q := -q) n0 (by have : -q * -q * d = q * q * d := by grind
                                        omega)
  rw [Int.neg_neg] at this
  exact this
theorem small_T {p q s T g v : Int} (hs : 0 < s) (hT : 0 < T) (nz : p ≠ 0 ∨ q ≠ 0) (hg : Near g (q * T) d) (h1 : s * v ≤ p * T + g) (h2 : p * T + g < s * v + s) (hv : -3 ≤ v ∧ v ≤ 3) :
    T ≤ (4 * s + 1) * (p.natAbs + q.natAbs * d) := by
  have n0 := sos_sq hd ir nz
  have b1 : s * v ≤ s * 3 := Int.mul_le_mul_of_nonneg_left hv.2 (by omega)
  have b2 : s * -3 ≤ s * v := Int.mul_le_mul_of_nonneg_left hv.1 (by omega)
  have x1 : 0 ≤ sos (4 * s + 1 - p * T) (-(q * T)) d := by
    have := sos_intN hd ir hg.1 (t := 4 * s - (p * T + g)) (by omega)
    rwa [show g + 1 + (4 * s - (p * T + g)) = 4 * s + 1 - p * T by omega] at this
  have x2 : 0 ≤ sos (4 * s + 1 + p * T) (q * T) d := by
    have := sos_intN hd ir hg.2 (t := 4 * s + (p * T + g)) (by omega)
    rwa [show 1 - g + (4 * s + (p * T + g)) = 4 * s + 1 + p * T by omega] at this
  obtain ⟨a1, a2⟩ := abs_d hd ir q
  generalize hK : (p.natAbs + q.natAbs * d : Int) = K
  generalize 4 * s + 1 = C at x1 x2 ⊢
  have y1 : 0 ≤ sos (K - p) q d := by
    have := sos_intN hd ir a1 (t := p.natAbs - p) (by omega)
    rwa [show (q.natAbs * d + (p.natAbs - p) : Int) = K - p by omega] at this
  have y2 : 0 ≤ sos (K + p) (-q) d := by
    have := sos_intN hd ir a2 (t := p.natAbs + p) (by omega)
    rwa [show (q.natAbs * d + (p.natAbs + p) : Int) = K + p by omega] at this
  have z1 := sos_add hd ir (sos_mulN hd ir x1 y2) (sos_mulN hd ir x2 y1)
  have z2 := sos_add hd ir (sos_mulN hd ir x1 y1) (sos_mulN hd ir x2 y2)
  have e1 : (C - p * T) * -q + -(q * T) * (K + p) + ((C + p * T) * q + q * T * (K - p)) = 0 := by grind
  have e2 : (C - p * T) * q + -(q * T) * (K - p) + ((C + p * T) * -q + q * T * (K + p)) = 0 := by grind
  rw [e1, sos_q00, sgi_0] at z1
  rw [e2, sos_q00, sgi_0] at z2
  have f1 : (C - p * T) * (K + p) + -(q * T) * -q * d + ((C + p * T) * (K - p) + q * T * q * d) = 2 * (C * K) - 2 * ((p * p - q * q * d) * T) := by grind
  have f2 : (C - p * T) * (K - p) + -(q * T) * q * d + ((C + p * T) * (K + p) + q * T * -q * d) = 2 * (C * K) + 2 * ((p * p - q * q * d) * T) := by grind
  rw [f1] at z1
  rw [f2] at z2
  rcases Int.lt_or_gt_of_ne n0 with c | c
  · have := Int.mul_le_mul_of_nonneg_right (show 1 ≤ -(p * p - q * q * d) by omega) (show 0 ≤ T by omega)
    have e : -(p * p - q * q * d) * T = -((p * p - q * q * d) * T) := by grind
    omega
  · have := Int.mul_le_mul_of_nonneg_right (show 1 ≤ p * p - q * q * d by omega) (show 0 ≤ T by omega)
    omega
/-! the floor -/
theorem fls_le {p q s n k : Int} (hs : 0 < s) (h : FlS p q d s n) : 0 ≤ sos (p - k * s) q d ↔ k ≤ n := by
  constructor
  · intro c
    rcases Int.lt_or_le n k with z | z
    · exfalso
      have h2 := h.2
      have e0 : sos (-(p - (n + 1) * s)) (-q) d = 1 := by rw [sos_ng, h2]; rfl
      have := sos_intN hd ir (show 0 ≤ sos (-(p - (n + 1) * s)) (-q) d by rw [e0]; decide) (t := (k - (n + 1)) * s) (Int.mul_nonneg (by omega) (by omega))
      have e : -(p - (n + 1) * s) + (k - (n + 1)) * s = -(p - k * s) := by grind
      rw [e, sos_ng] at this
      have z0 : sos (p - k * s) q d = 0 := by omega
      obtain ⟨z1, z2⟩ := sos_z hd ir z0
      subst z2
      rw [sos_q00, sgi_n] at h2
      have := Int.mul_le_mul_of_nonneg_right (show n + 1 ≤ k by omega) (show 0 ≤ s by omega)
      omega
    · exact z
  · intro c
    have := sos_intN hd ir h.1 (t := (n - k) * s) (Int.mul_nonneg (by omega) (by omega))
    have e : p - n * s + (n - k) * s = p - k * s := by grind
    rwa [e] at this
theorem fls_uniq {p q s n k : Int} (hs : 0 < s) (h : FlS p q d s n) (h' : FlS p q d s k) : n = k := by
  have a := (fls_le hd ir hs h' (k := n)).mp h.1
  have b := (fls_le hd ir hs h (k := k)).mp h'.1
  omega
theorem fls_of {p q s r : Int} (hs : 0 < s) (h : isqr (q * q * d) r) : FlS p q d s (if 0 ≤ q then (p + r) / s else (p - r - 1) / s) := by
  obtain ⟨r0, h1, h2⟩ := h
  have up : ∀ a : Int, a / s * s ≤ a ∧ a + 1 ≤ (a / s + 1) * s := fun a => by
    have e := Int.mul_ediv_add_emod a s
    have m0 := Int.emod_nonneg a (show s ≠ 0 by omega)
    have m1 := Int.emod_lt_of_pos a hs
    have e2 : (a / s + 1) * s = s * (a / s) + s := by grind
    have e3 : a / s * s = s * (a / s) := by grind
    omega
  have strict : ∀ {a b : Int}, b ≠ 0 → 0 ≤ sos a b d → sos a b d = 1 := fun {a b} hb hz => by
    rcases sos_rg a b d with c | c | c
    · omega
    · exact absurd (sos_z hd ir c).2 hb
    · exact c
  have neg1 : ∀ {a b : Int}, sos (-a) (-b) d = 1 → sos a b d = -1 := fun {a b} h => by rw [sos_ng] at h; omega
  by_cases c : 0 ≤ q
  · rw [if_pos c]
    obtain ⟨u1, u2⟩ := up (p + r)
    constructor
    · have := sos_intN hd ir (sos_le hd ir r0 c h1) (t := p + r - (p + r) / s * s) (by omega)
      rwa [show -r + (p + r - (p + r) / s * s) = p - (p + r) / s * s by omega] at this
    · refine neg1 ?_
      have k := sos_ge hd ir (r := r + 1) (q := q) (by omega) (by omega)
      rcases Classical.em (q = 0) with z | z
      · subst z
        rw [Int.neg_zero, sos_q00]
        exact sgi_p.mpr (by omega)
      · have := sos_intN hd ir k (t := (((p + r) / s) + 1) * s - p - (r + 1)) (by omega)
        rw [show r + 1 + ((((p + r) / s) + 1) * s - p - (r + 1)) = -(p - ((p + r) / s + 1) * s) by omega] at this
        exact strict (by omega) this
  · rw [if_neg c]
    obtain ⟨u1, u2⟩ := up (p - r - 1)
    have e : -q * -q * d = q * q * d := by grind
    constructor
    · have k := sos_ge hd ir (r := r + 1) (q := -q) (by omega) (by rw [e]; omega)
      rw [Int.neg_neg] at k
      have := sos_intN hd ir k (t := p - (p - r - 1) / s * s - (r + 1)) (by omega)
      rwa [show r + 1 + (p - (p - r - 1) / s * s - (r + 1)) = p - (p - r - 1) / s * s by omega] at this
    · refine neg1 ?_
      have k := sos_le hd ir (q := -q) r0 (by omega) (by rw [e]; exact h1)
      have := sos_intN hd ir k (t := ((p - r - 1) / s + 1) * s - p + r) (by omega)
      rw [show -r + (((p - r - 1) / s + 1) * s - p + r) = -(p - ((p - r - 1) / s + 1) * s) by omega] at this
      exact strict (by omega) this
/-- the first guess of the floor is near it -/
theorem fls_near {p q s n g v : Int} (hs : 0 < s) (h : FlS p q d s n) (hg : Near g q d) (h1 : s * v ≤ p + g) (h2 : p + g < s * v + s) : n - 2 ≤ v ∧ v ≤ n + 2 := by
  constructor
  · rcases Int.lt_or_le v (n - 2) with c | c
    · exfalso
      have k := h.1
      have e := sos_intN hd ir hg.1 (t := (v + 2) * s - p - (g + 1)) (by
        have : (v + 2) * s = s * v + 2 * s := by grind
        omega)
      rw [show g + 1 + ((v + 2) * s - p - (g + 1)) = -(p - (v + 2) * s) by omega, sos_ng] at e
      have k2 := (fls_le hd ir hs h (k := v + 3)).mpr (by omega)
      have e3 := sos_int hd ir k2 (t := s) hs
      have e4 : p - (v + 3) * s + s = p - (v + 2) * s := by grind
      rw [e4] at e3
      omega
    · exact c
  · have e := sos_intN hd ir hg.2 (t := p - (v - 2) * s - (1 - g)) (by
      have : (v - 2) * s = s * v - 2 * s := by grind
      omega)
    rw [show 1 - g + (p - (v - 2) * s - (1 - g)) = p - (v - 2) * s by omega] at e
    have := (fls_le hd ir hs h).mp e
    omega
end
end KK

set_option maxHeartbeats 1000000
namespace KK
open PySem PySem.Spec L2 DL
/-! ### what the defs do: numbers, errors -/
/-- a canonical number -/
def Cn (x : Nu) : Prop := 0 < x.s ∧ gc x.p x.q x.s = 1 ∧ ((x.q = 0 ∧ x.d = 0) ∨ (x.q ≠ 0 ∧ 1 < x.d ∧ sqfree x.d)) ∧ Nb 3000 x
def sqp (d f r : Int) : Prop := (d = 0 ∧ f = 0 ∧ r = 0) ∨ (0 < d ∧ 0 < f ∧ 0 < r ∧ f * f * r = d ∧ sqfree r)
def numF (p q f r s : Int) : Nu := if r < 2 then low (p + q * f) 0 0 s else low p (q * f) r s
def p__law_alike : DSp := fun α QD _ => ∃ x : PyData, α = [.val x, .val x] ∧ x.showable = true ∧ x.hasDict = false ∧ x.depth ≤ 60 ∧ x.shown.length ≤ sizeLine ∧ QD (.d (.bool true)) α
end KK

set_option maxHeartbeats 1000000
namespace KK
open PySem PySem.Spec L2 DL
/-! ### the law's own numbers: promises -/
/-- a root: no square -/
def Dr (d : Int) : Prop := 0 < d ∧ Bd 34 d ∧ Irr d
/-- a number of the law: in lowest terms where it is zero, of a root or none -/
structure Gd (n : Nat) (x : Nu) : Prop where
  s : 0 < x.s
  r : (x.q = 0 ∧ x.d = 0) ∨ (x.q ≠ 0 ∧ Dr x.d)
  z : x.p = 0 → x.q = 0 → x.s = 1
  b : Nb n x
def isZ (x : Nu) : Prop := x.p = 0 ∧ x.q = 0 ∧ x.d = 0 ∧ x.s = 1
instance (x : Nu) : Decidable (isZ x) := by unfold isZ; infer_instance
instance (x y : Nu) : Decidable (rts x y) := by unfold rts; infer_instance
/-- the root, 2 where there is none -/
def de (x : Nu) : Int := if x.d = 0 then 2 else x.d
def sgn (x : Nu) : Int := sos x.p x.q (de x)
def Flo (x : Nu) (n : Int) : Prop := FlS x.p x.q (de x) x.s n
/-- a drawn ratio: small, above 0 -/
structure Rat (x : Nu) : Prop where
  g : Gd 40 x
  p : x.p.natAbs ≤ 5
  q : x.q.natAbs ≤ 5
  s : x.s ≤ 5
  d : x.d ≤ 21
  o : sgn x = 1
end KK

set_option maxHeartbeats 1000000
namespace KK
open PySem PySem.Spec L2 DL
/-! ### the order of the acts: promises -/
def nint (v : Int) : Nu := ⟨v, 0, 0, 1⟩
/-- a ratio: of moderate size, a small root or none, above 0 -/
structure Rx (x : Nu) : Prop where
  g : Gd 150 x
  d : de x < 64
  o : sgn x = 1
/-- L of the first c acts are b's: L (1 + x) < c + 1 ≤ (L + 1) (1 + x) -/
def Cnt (x : Nu) (c L : Int) : Prop := sos ((c + 1) * x.s - L * (x.s + x.p)) (-(L * x.q)) (de x) = 1 ∧ 0 ≤ sos ((L + 1) * (x.s + x.p) - (c + 1) * x.s) ((L + 1) * x.q) (de x)
end KK

namespace KK
open PySem PySem.Spec L2 DL
/-! promises of the errors' law -/
/-- the classes and their words -/
def kinds06 : List (Str × Str) := [("SyntaxProblem", "syntax"), ("TooMany", "many"), ("InvalidNumber", "number"), ("ZeroDivisor", "zero"), ("OtherRoot", "root"), ("NoVariable", "variable"), ("OutOfRange", "range"), ("Incompatible", "differ"), ("NotReached", "reached"), ("NoMark", "mark"), ("InvalidCommand", "command")]
def p__law_error_kind (cA : Str → Addr) : DSp := fun α QD _ => ∃ (x : Exv) (a w : Str), α = [.res true (exvR x)] ∧ x.C = cA a ∧ (a, w) ∈ kinds06 ∧ QD (.d (.str w)) α
end KK

set_option maxHeartbeats 1000000
namespace KK
open PySem PySem.Spec L2 DL

def xCls : List Str := ["SyntaxProblem", "TooMany", "InvalidNumber", "ZeroDivisor", "OtherRoot", "NoVariable", "OutOfRange", "Incompatible", "NotReached", "NoMark", "InvalidCommand"]
def xPlain : List Str := ["InvalidNumber", "ZeroDivisor", "OtherRoot", "NoVariable", "OutOfRange", "Incompatible", "NotReached", "NoMark", "InvalidCommand"]
def xTests : List Str := ["SyntaxProblem", "TooMany", "InvalidNumber", "ZeroDivisor", "OtherRoot", "NoVariable", "OutOfRange", "Incompatible", "NotReached", "NoMark", "InvalidCommand", "TwoSpeedsError"]
def xAll : List Str := ["SyntaxProblem", "TooMany", "InvalidNumber", "ZeroDivisor", "OtherRoot", "NoVariable", "OutOfRange", "Incompatible", "NotReached", "NoMark", "InvalidCommand", "TwoSpeedsError"]
def xFld : List (Str × Str) := [("TooMany", "limit"), ("SyntaxProblem", "line"), ("SyntaxProblem", "column")]
def xSup : List (Str × List Str) := [("SyntaxProblem", ["SyntaxProblem", "TwoSpeedsError", "ValueError"]), ("TooMany", ["TooMany", "TwoSpeedsError", "ValueError"]), ("InvalidNumber", ["InvalidNumber", "TwoSpeedsError", "ValueError"]), ("ZeroDivisor", ["ZeroDivisor", "TwoSpeedsError", "ValueError"]), ("OtherRoot", ["OtherRoot", "TwoSpeedsError", "ValueError"]), ("NoVariable", ["NoVariable", "TwoSpeedsError", "ValueError"]), ("OutOfRange", ["OutOfRange", "TwoSpeedsError", "ValueError"]), ("Incompatible", ["Incompatible", "TwoSpeedsError", "ValueError"]), ("NotReached", ["NotReached", "TwoSpeedsError", "ValueError"]), ("NoMark", ["NoMark", "TwoSpeedsError", "ValueError"]), ("InvalidCommand", ["InvalidCommand", "TwoSpeedsError", "ValueError"])]
def isaX (a x : Str) : Bool := ((xSup.lookup a).getD []).contains x
def R0X (cA : Str → Addr) (x : Str) : Addr → Bool → Prop := fun C b => ∃ a ∈ xCls, C = cA a ∧ b = isaX a x
def kitsB (K : PySem.W.Frag) : Bool := xCls.all fun a => excB K a && (kitT K a "ValueError" (isaX a "ValueError") && xTests.all fun x => kitB K a x (isaX a x))
theorem kitsB_X {K : PySem.W.Frag} (h : kitsB K = true) : ∀ x ∈ xTests, ∀ D b, R0X (He.ga K) x D b → L2.ExcC K D ∧ PySem.W.kitOne K (.ref D) (.ref (He.ga K x)) = some b := by
  rintro x hx D b ⟨a, ha, rfl, rfl⟩
  have q := List.all_eq_true.mp h a ha
  rw [Bool.and_eq_true, Bool.and_eq_true, List.all_eq_true] at q
  exact ⟨excB_ok q.1, kitB_ok (q.2.2 x hx)⟩
theorem kitsB_V {K : PySem.W.Frag} (h : kitsB K = true) : ∀ D b, R0X (He.ga K) "ValueError" D b → L2.ExcC K D ∧ PySem.W.kitOne K (.ref D) (.type "ValueError") = some b := by
  rintro D b ⟨a, ha, rfl, rfl⟩
  have q := List.all_eq_true.mp h a ha
  rw [Bool.and_eq_true, Bool.and_eq_true] at q
  exact ⟨excB_ok q.1, kitT_ok q.2.1⟩
theorem kitsB_E {K : PySem.W.Frag} (h : kitsB K = true) : ∀ a ∈ xCls, L2.ExcC K (He.ga K a) := by
  intro a ha
  have q := List.all_eq_true.mp h a ha
  rw [Bool.and_eq_true] at q
  exact excB_ok q.1
/-! ### readings of the text (printed by gen.py) -/
def n__law_stirred : List Str := ["cell", "place", "modulus", "value", "turn"]
def r__law_stirred (W : WD) : TSD := sSeq (sSet 2 (dC (.int 1180591620717411303449))) (sSeq (sSet 3 (dOp dMod (dOp dAdd (dOp dAdd (dOp dMul (dVar 0) (dC (.int 2685821657736338717))) (dOp dMul (dVar 1) (dC (.int 2891336453)))) (dC (.int 19))) (dVar 2))) (sSeq (sFor (range1D (dCons (dC (.int 4)) (dNil))) (gName' 4) (sSet 3 (dOp dMod (dOp dAdd (dOp dAdd (dOp dAdd (dOp dMul (dVar 3) (dVar 3)) (dOp dMul (dC (.int 3)) (dVar 3))) (dOp dMul (dC (.int 32452843)) (dVar 4))) (dVar 1)) (dVar 2)))) (sRet (dOp dAdd (dOp dMul (dVar 3) (dVar 2)) (dOp dMod (dOp dAdd (dOp dMul (dVar 3) (dC (.int 1103515245))) (dVar 1)) (dVar 2))))))
def n__law_spool_of : List Str := ["script", "numbers", "place", "cell"]
def r__law_spool_of (W : WD) : TSD := sSeq (sOwn 1 (nLc [3] (itemsD (dNew (nScr 0 (oNone) (oSome (dC (.int 16)))))) (gName' 3) (dYes) (dF1 fAbs (dVar 3)))) (sSeq (sFor (enumI (dCons (dNew (nScr 0 (oSome (dC (.int 16))) (oSome (dC (.int 64))))) (dNil))) (gTup' (lenIs 2 (gCons' (gName' 2) (gCons' (gName' 3) (gNil'))))) (sPut 1 (dOp dAdd (dOp atD (dVar 1) (dOp dMod (dVar 2) (dC (.int 16)))) (dF1 fAbs (dVar 3))) (dOp dMod (dVar 2) (dC (.int 16))))) (sRetN (nLst (dCons (dVar 1) (dCons (dC (.int 0)) (dCons (dC (.int 0)) (dCons (dC (.int 0)) (dNil))))))))
def n__law_upto : List Str := ["spool", "bound", "numbers", "place", "cell", "found"]
def r__law_upto (W : WD) : TSD := sSeq (sIf (dTest (dOp dLt (dOp atD (dVar 0) (dC (.int 3))) (dVar 1))) (sSeq (sPar 2 3 (dCons (dOp atD (dVar 0) (dC (.int 0))) (dCons (dOp atD (dVar 0) (dC (.int 1))) (dNil)))) (sSeq (sSet 4 (dIf (dTest (dOp dNe (dVar 2) (dNew (nLst (dNil))))) (dOp atD (dVar 2) (dOp dMod (dVar 3) (dF1 fLen (dVar 2)))) (dC (.int 0)))) (sSeq (sIf (dOr (dTest (dOp dGe (dVar 3) (dF1 fLen (dVar 2)))) (dTest (dOp dLt (dVar 4) (dOp dPow (dC (.int 10)) (dC (.int 15)))))) (sSet 4 (dCall p__law_stirred W (dCons (dOp dMod (dVar 4) (dC (.int 998244353))) (dCons (dVar 3) (dNil))))) (sNext)) (sSeq (sPut 0 (dOp dAdd (dVar 3) (dC (.int 1))) (dC (.int 1))) (sSeq (sPut 0 (dVar 4) (dC (.int 2))) (sPut 0 (dVar 4) (dC (.int 3)))))))) (sNext)) (sSeq (sSet 5 (dOp dMod (dOp atD (dVar 0) (dC (.int 2))) (dVar 1))) (sSeq (sPut 0 (dOp dFdiv (dOp atD (dVar 0) (dC (.int 2))) (dVar 1)) (dC (.int 2))) (sSeq (sPut 0 (dOp dFdiv (dOp atD (dVar 0) (dC (.int 3))) (dVar 1)) (dC (.int 3))) (sRet (dVar 5)))))
def n__law_choice : List Str := ["spool", "items"]
def r__law_choice (W : WD) : TSD := sRet (dOp atD (dVar 1) (withLent 0 (dCallL p__law_upto W 0 (dCons (dF1 fLen (dVar 1)) (dNil)))))
def n__law_alike : List Str := ["one", "other"]
def r__law_alike (W : WD) : TSD := sRet (dOp dEqS (dF1 fRepr (dVar 0)) (dF1 fRepr (dVar 1)))
def n__law_error_kind : List Str := ["error", "found", "words"]
def r__law_error_kind (W : WD) (cA : Str → Addr) : TSD := sSeq (sSet 1 (dNew (nLst (dCons (dIsV 0 (R0X cA "SyntaxProblem")) (dCons (dIsV 0 (R0X cA "TooMany")) (dCons (dIsV 0 (R0X cA "InvalidNumber")) (dNil))))))) (sSeq (sSet 1 (dOp dAdd (dVar 1) (dNew (nLst (dCons (dIsV 0 (R0X cA "ZeroDivisor")) (dCons (dIsV 0 (R0X cA "OtherRoot")) (dCons (dIsV 0 (R0X cA "NoVariable")) (dNil)))))))) (sSeq (sSet 1 (dOp dAdd (dVar 1) (dNew (nLst (dCons (dIsV 0 (R0X cA "OutOfRange")) (dCons (dIsV 0 (R0X cA "Incompatible")) (dCons (dIsV 0 (R0X cA "NotReached")) (dNil)))))))) (sSeq (sSet 1 (dOp dAdd (dVar 1) (dNew (nLst (dCons (dIsV 0 (R0X cA "NoMark")) (dCons (dIsV 0 (R0X cA "InvalidCommand")) (dNil))))))) (sSeq (sIf (dOr (dTest (dOp dNe (dM1 fCount (dVar 1) (dC (.bool true))) (dC (.int 1)))) (dNot (dTest (dIsV 0 (R0X cA "ValueError"))))) (sRet (dC (.str "odd"))) (sNext)) (sSeq (sSet 2 (dNew (nLst (dCons (dC (.str "syntax")) (dCons (dC (.str "many")) (dCons (dC (.str "number")) (dCons (dC (.str "zero")) (dCons (dC (.str "root")) (dCons (dC (.str "variable")) (dCons (dC (.str "range")) (dCons (dC (.str "differ")) (dCons (dC (.str "reached")) (dCons (dC (.str "mark")) (dCons (dC (.str "command")) (dNil))))))))))))))) (sRet (dOp atD (dVar 2) (dM1 fIndex (dVar 1) (dC (.bool true))))))))))
def n_law : List Str := ["script", "spool", "line", "spot", "limit", "text", "errors", "words", "word", "error", "turn"]
def r_law (W : WD) (cA : Str → Addr) : TSD := sSeq (sOwn 1 (withLentN 0 (nCallL p__law_spool_of W 0 (dNil)))) (sSeq (sAsg (dNew (nLc [10] (range1D (dCons (dC (.int 3)) (dNil))) (gName' 10) (dYes) (withLent 1 (dCallL p__law_upto W0 1 (dCons (dC (.int 1000)) (dNil)))))) (gLst' (lenIs 3 (gCons' (gName' 2) (gCons' (gName' 3) (gCons' (gName' 4) (gNil'))))))) (sSeq (sSet 5 (withLent 1 (dCallL p__law_choice W 1 (dCons (dNew (nLst (dCons (dC (.str "")) (dCons (dC (.str "x")) (dCons (dC (.str "not a number")) (dNil)))))) (dNil))))) (sSeq (sSetX 6 (xLst (xCons (dXi (cA "SyntaxProblem") ["line", "column"] (dCons (dVar 2) (dCons (dVar 3) (dNil)))) (xCons (dXi (cA "TooMany") ["limit"] (dCons (dVar 4) (dNil))) (xCons (dXo (cA "InvalidNumber") (dVar 5)) (xCons (dXo (cA "ZeroDivisor") (dVar 5)) (xCons (dXo (cA "OtherRoot") (dVar 5)) (xNil)))))))) (sSeq (sSetX 6 (xCat (xVar 6) (xLst (xCons (dXo (cA "NoVariable") (dVar 5)) (xCons (dXo (cA "OutOfRange") (dVar 5)) (xCons (dXo (cA "Incompatible") (dVar 5)) (xCons (dXo (cA "NotReached") (dVar 5)) (xCons (dXo (cA "NoMark") (dVar 5)) (xNil))))))))) (sSeq (sSet 7 (dNew (nLst (dCons (dC (.str "syntax")) (dCons (dC (.str "many")) (dCons (dC (.str "number")) (dCons (dC (.str "zero")) (dCons (dC (.str "root")) (dCons (dC (.str "variable")) (dCons (dC (.str "range")) (dCons (dC (.str "differ")) (dCons (dC (.str "reached")) (dCons (dC (.str "mark")) (dCons (dC (.str "command")) (dNil))))))))))))))) (sSeq (sForX 8 9 (dVar 7) (xCat (xVar 6) (xLst (xCons (dXo (cA "InvalidCommand") (dVar 5)) (xNil)))) (sIf (dOr (dTest (dOp dNeS (withLent 9 (dCallL (p__law_error_kind cA) W 9 (dNil))) (dVar 8))) (dNot (dTest (dIsV 9 (R0X cA "TwoSpeedsError"))))) (sRet (dC (.bool false))) (sNext))) (sRet (dCall p__law_alike W (dCons (dNew (nLst (dCons (dField "line" (fun D => D = cA "SyntaxProblem") (xIx (xVar 6) 0)) (dCons (dField "column" (fun D => D = cA "SyntaxProblem") (xIx (xVar 6) 0)) (dCons (dField "limit" (fun D => D = cA "TooMany") (xIx (xVar 6) 1)) (dNil)))))) (dCons (dNew (nLst (dCons (dVar 2) (dCons (dVar 3) (dCons (dVar 4) (dNil)))))) (dNil)))))))))))
end KK
set_option maxHeartbeats 1000000
namespace KK
open PySem PySem.Spec PyProof.Rows L2 DL
theorem newton {a f : Int} (hf : 0 < f) (ha : 0 ≤ a) (r : Int) (h : r * r ≤ a) (hr : 0 ≤ r) : r ≤ (f + a / f) / 2 := by
  rcases Int.lt_or_le ((f + a / f) / 2) r with z | z
  · have h1 : f + a / f ≤ 2 * r - 1 := by omega
    have h2 : a < f * (a / f + 1) := by
      have := Int.lt_mul_ediv_self_add (x := a) hf
      grind
    have h3 : f * (a / f + 1) ≤ f * (2 * r - f) := Int.mul_le_mul_of_nonneg_left (by omega) (by omega)
    have h4 := sq_nn (r - f)
    grind
  · exact z
theorem Bd.two {i : Int} (h0 : 0 ≤ i) (h : i < 4) : Bd 2 i := by unfold Bd; omega
theorem Bd.of {n : Nat} {i j : Int} (h : Bd n j) (h0 : 0 ≤ i) (h1 : i ≤ j) : Bd n i := by unfold Bd at *; omega
end KK

set_option maxHeartbeats 1000000
namespace KK
open PySem PySem.Spec PyProof.Rows L2 DL
theorem gc_bd {p q s : Int} {n : Nat} (hs : s ≠ 0) (h : Bd n s) : Bd n (gc p q s) := by
  have h1 : (gc p q s).natAbs ≤ s.natAbs := Nat.le_of_dvd (by omega) (Int.natAbs_dvd_natAbs.mpr gc_ds)
  unfold Bd at *
  omega
theorem gc_int (p q s : Int) : ((Int.gcd ((Int.gcd p q : Nat) : Int) s : Nat) : Int) = gc p q s := by
  unfold gc Int.gcd
  rw [Int.natAbs_natCast]
theorem low_q {p q d s : Int} (hs : s ≠ 0) : (low p q d s).q = 0 ↔ q = 0 := by
  obtain ⟨k, hk, _, h2, _⟩ := low_spec (p := p) (q := q) d hs
  constructor
  · intro h; rw [h2, h, Int.mul_zero]
  · intro h; rw [h] at h2 ⊢; rcases Int.mul_eq_zero.mp h2.symm with z | z; exact absurd z hk; exact z
end KK

set_option maxHeartbeats 1000000
namespace KK
open PySem PySem.Spec PyProof.Rows L2 DL
theorem low_n0 {p q d s : Int} (hs : s ≠ 0) : (low p q d s).s ≠ 0 := by
  obtain ⟨k, hk, _, _, h3, h4⟩ := low_spec (p := p) (q := q) d hs
  omega
theorem low_bd {p q d s : Int} {n : Nat} (hs : s ≠ 0) (h1 : Bd n p) (h2 : Bd n q) (h3 : Bd n d) (h4 : Bd n s) : Nb n (low p q d s) := by
  obtain ⟨k, hk, e1, e2, e3, _⟩ := low_spec (p := p) (q := q) d hs
  have one : ∀ {a b : Int}, Bd n a → a = k * b → Bd n b := fun {a b} h e => by
    unfold Bd at *
    rw [e, Int.natAbs_mul] at h
    have := Nat.le_mul_of_pos_left b.natAbs (show 0 < k.natAbs by omega)
    omega
  refine ⟨one h1 e1, one h2 e2, ?_, one h4 e3⟩
  rw [low_dd hs]
  split
  · unfold Bd; exact Nat.pow_pos (by decide)
  · exact h3
theorem sos_q0 (p d : Int) : sos p 0 d = sgi p := by
  unfold sos
  have : (if 0 < d then sgi 0 else 0) = 0 := by split <;> rfl
  simp [sSeq, sIf, sNext, sSet, sAug, sRet, sPar, sPar3, asThree, sRaise, sAsg, sOwn, sApp, sPut, sRetN, sRetOwn, sRetU, sDrop, sBreak, sCont, dVar, dC, dOp, dTest, dCons, dNil, dTup, nLst, dNew, dNeg, dIf, dF1, dAnd, dOr, dNot, dAndV, dOrV, dNotV, dCall, nCall, dCallL, nCallL, withLent, withLentN, vw, frz, dI, dI0, dB0, int2, dEq, dNe, dAdd, dSub, dIAdd, atD, gName', gTup', gNil', gCons', gLst', lenIs, retD, retN, lendK, backK, isLent, ownK, fAbs, fLen, fMax, fMin, startD, outK, shp_int, eqv_int, atI, ixN, this]
end KK

set_option maxHeartbeats 1000000
namespace KK
open PySem PySem.Spec L2 DL
theorem forD_inv {g : TGD} {t : TSD} {D : DEnds} (Inv : Nat → DSt → Prop) : ∀ (items : List PyData) (ρ : DSt), Inv items.length ρ → (∀ k x ρ (N : DSt → Prop), x ∈ items → (∀ ρ', Inv k ρ' → N ρ') → Inv (k + 1) ρ → g x ρ fun ρ1 => t { D with nx := N, ct := N, bk := D.nx } ρ1) →
    (∀ ρ, Inv 0 ρ → D.nx ρ) → forD g t D items ρ
  | [], ρ, h, _, fin => fin ρ h
  | x :: xs, ρ, h, step, fin => step xs.length x ρ (forD g t D xs) List.mem_cons_self (fun ρ' h' => forD_inv Inv xs ρ' h' (fun k y ρ N hy => step k y ρ N (List.mem_cons_of_mem _ hy)) fin) h
theorem range1_mem {n : Int} {x : PyData} (h : x ∈ (List.range n.toNat).map fun (k : Nat) => PyData.int (k : Int)) : ∃ k : Int, x = .int k ∧ 0 ≤ k ∧ k < n := by
  obtain ⟨k, hk, rfl⟩ := List.mem_map.mp h
  rw [List.mem_range] at hk
  exact ⟨k, rfl, by omega, by omega⟩
theorem cm_of {i j : Int} (a b : Nat) (h1 : i.natAbs < 2 ^ a) (h2 : j.natAbs < 2 ^ b) (e : a + b ≤ 999990) : CMulW i j := Bd.cm (n := a) (m := b) h1 h2 e
theorem pure__law_stirred (α : List SD) (QD : Ret → List SD → Prop) (ED : Exd → List SD → Prop) (W : WD) (hW : W = fun e ρ => outK α ρ fun α' => ED e α') (h : p__law_stirred α QD ED) : r__law_stirred W (DEnd α QD) (startD n__law_stirred.length α) := by
  obtain ⟨c, p, rfl, p0, p1, c0, c1, hq⟩ := h
  unfold r__law_stirred DEnd
  simp [sSeq, sIf, sNext, sSet, sAug, sRet, sPar, sPar3, asThree, sRaise, sAsg, sOwn, sApp, sPut, sRetN, sRetOwn, sRetU, sDrop, sBreak, sCont, dVar, dC, dOp, dTest, dCons, dNil, dTup, nLst, dNew, dNeg, dIf, dF1, dAnd, dOr, dNot, dAndV, dOrV, dNotV, dCall, nCall, dCallL, nCallL, withLent, withLentN, vw, frz, dI, dI0, dB0, int2, dEq, dNe, dAdd, dSub, dIAdd, atD, gName', gTup', gNil', gCons', gLst', lenIs, retD, retN, lendK, backK, isLent, ownK, fAbs, fLen, fMax, fMin, startD, outK, shp_int, eqv_int, n__law_stirred]
  refine ⟨cm_of 60 62 (by omega) (by decide) (by omega), cm_of 60 62 (by omega) (by decide) (by omega), ?_⟩
  refine ⟨by decide, by decide, ?_⟩
  refine forD_inv (fun _ ρ => ∃ v t, ρ = [iv c, iv p, iv 1180591620717411303449, iv v, t] ∧ 0 ≤ v ∧ v < 1180591620717411303449) _ _ ⟨_, _, rfl, ?_, ?_⟩ ?_ ?_
  · exact Int.fmod_nonneg_of_pos _ (by decide)
  · exact Int.fmod_lt_of_pos _ (by decide)
  · rintro _ x _ N hx hN ⟨v, t, rfl, v0, v1⟩
    obtain ⟨k, rfl, k0, k1⟩ := range1_mem hx
    simp [sSeq, sIf, sNext, sSet, sAug, sRet, sPar, sPar3, asThree, sRaise, sAsg, sOwn, sApp, sPut, sRetN, sRetOwn, sRetU, sDrop, sBreak, sCont, dVar, dC, dOp, dTest, dCons, dNil, dTup, nLst, dNew, dNeg, dIf, dF1, dAnd, dOr, dNot, dAndV, dOrV, dNotV, dCall, nCall, dCallL, nCallL, withLent, withLentN, vw, frz, dI, dI0, dB0, int2, dEq, dNe, dAdd, dSub, dIAdd, atD, gName', gTup', gNil', gCons', gLst', lenIs, retD, retN, lendK, backK, isLent, ownK, fAbs, fLen, fMax, fMin, startD, outK, shp_int, eqv_int]
    refine ⟨cm_of 80 80 (by omega) (by omega) (by omega), cm_of 80 80 (by decide) (by omega) (by omega), cm_of 80 80 (by decide) (by omega) (by omega), ?_⟩
    exact hN _ ⟨_, _, rfl, Int.fmod_nonneg_of_pos _ (by decide), Int.fmod_lt_of_pos _ (by decide)⟩
  · rintro _ ⟨v, t, rfl, v0, v1⟩
    simp [sSeq, sIf, sNext, sSet, sAug, sRet, sPar, sPar3, asThree, sRaise, sAsg, sOwn, sApp, sPut, sRetN, sRetOwn, sRetU, sDrop, sBreak, sCont, dVar, dC, dOp, dTest, dCons, dNil, dTup, nLst, dNew, dNeg, dIf, dF1, dAnd, dOr, dNot, dAndV, dOrV, dNotV, dCall, nCall, dCallL, nCallL, withLent, withLentN, vw, frz, dI, dI0, dB0, int2, dEq, dNe, dAdd, dSub, dIAdd, atD, gName', gTup', gNil', gCons', gLst', lenIs, retD, retN, lendK, backK, isLent, ownK, fAbs, fLen, fMax, fMin, startD, outK, shp_int, eqv_int]
    exact ⟨cm_of 80 80 (by omega) (by decide) (by omega), cm_of 80 80 (by omega) (by decide) (by omega), hq _⟩
theorem lc_abs (s0 s1 s2 : SD) (Q : List PyData → DSt → Prop) : ∀ (ns : List Int) (acc : List PyData), acc.length + ns.length ≤ 1000 → Q (acc ++ ns.map fun n => .int (if n < 0 then -n else n)) [s0, s1, s2, .no] → lcD [3] (gName' 3) dYes (dF1 fAbs (dVar 3)) (ns.map PyData.int) acc [s0, s1, s2, .no] Q
  | [], acc, _, h => by simpa [sSeq, sIf, sNext, sSet, sAug, sRet, sPar, sPar3, asThree, sRaise, sAsg, sOwn, sApp, sPut, sRetN, sRetOwn, sRetU, sDrop, sBreak, sCont, dVar, dC, dOp, dTest, dCons, dNil, dTup, nLst, dNew, dNeg, dIf, dF1, dAnd, dOr, dNot, dAndV, dOrV, dNotV, dCall, nCall, dCallL, nCallL, withLent, withLentN, vw, frz, dI, dI0, dB0, int2, dEq, dNe, dAdd, dSub, dIAdd, atD, gName', gTup', gNil', gCons', gLst', lenIs, retD, retN, lendK, backK, isLent, ownK, fAbs, fLen, fMax, fMin, startD, outK, shp_int, eqv_int, lcD] using h
  | n :: ns, acc, hl, h => by
    simp only [List.length_cons] at hl
    have ih := lc_abs s0 s1 s2 Q ns (acc ++ [.int (if n < 0 then -n else n)]) (by simp [sSeq, sIf, sNext, sSet, sAug, sRet, sPar, sPar3, asThree, sRaise, sAsg, sOwn, sApp, sPut, sRetN, sRetOwn, sRetU, sDrop, sBreak, sCont, dVar, dC, dOp, dTest, dCons, dNil, dTup, nLst, dNew, dNeg, dIf, dF1, dAnd, dOr, dNot, dAndV, dOrV, dNotV, dCall, nCall, dCallL, nCallL, withLent, withLentN, vw, frz, dI, dI0, dB0, int2, dEq, dNe, dAdd, dSub, dIAdd, atD, gName', gTup', gNil', gCons', gLst', lenIs, retD, retN, lendK, backK, isLent, ownK, fAbs, fLen, fMax, fMin, startD, outK, shp_int, eqv_int]; omega) (by simpa [sSeq, sIf, sNext, sSet, sAug, sRet, sPar, sPar3, asThree, sRaise, sAsg, sOwn, sApp, sPut, sRetN, sRetOwn, sRetU, sDrop, sBreak, sCont, dVar, dC, dOp, dTest, dCons, dNil, dTup, nLst, dNew, dNeg, dIf, dF1, dAnd, dOr, dNot, dAndV, dOrV, dNotV, dCall, nCall, dCallL, nCallL, withLent, withLentN, vw, frz, dI, dI0, dB0, int2, dEq, dNe, dAdd, dSub, dIAdd, atD, gName', gTup', gNil', gCons', gLst', lenIs, retD, retN, lendK, backK, isLent, ownK, fAbs, fLen, fMax, fMin, startD, outK, shp_int, eqv_int] using h)
    have hz : acc.length < sizeLine := Nat.lt_of_lt_of_le (show acc.length < 1001 by omega) (by rw [sizeLine_eq]; decide)
    simp [sSeq, sIf, sNext, sSet, sAug, sRet, sPar, sPar3, asThree, sRaise, sAsg, sOwn, sApp, sPut, sRetN, sRetOwn, sRetU, sDrop, sBreak, sCont, dVar, dC, dOp, dTest, dCons, dNil, dTup, nLst, dNew, dNeg, dIf, dF1, dAnd, dOr, dNot, dAndV, dOrV, dNotV, dCall, nCall, dCallL, nCallL, withLent, withLentN, vw, frz, dI, dI0, dB0, int2, dEq, dNe, dAdd, dSub, dIAdd, atD, gName', gTup', gNil', gCons', gLst', lenIs, retD, retN, lendK, backK, isLent, ownK, fAbs, fLen, fMax, fMin, startD, outK, shp_int, eqv_int, lcD, dYes, wipeD, hz]
    exact ih
theorem cutD_map {α β : Type} (f : α → β) (xs : List α) (lo hi : Option Int) : cutD (xs.map f) lo hi = (cutD xs lo hi).map f := by
  unfold cutD
  simp [sSeq, sIf, sNext, sSet, sAug, sRet, sPar, sPar3, asThree, sRaise, sAsg, sOwn, sApp, sPut, sRetN, sRetOwn, sRetU, sDrop, sBreak, sCont, dVar, dC, dOp, dTest, dCons, dNil, dTup, nLst, dNew, dNeg, dIf, dF1, dAnd, dOr, dNot, dAndV, dOrV, dNotV, dCall, nCall, dCallL, nCallL, withLent, withLentN, vw, frz, dI, dI0, dB0, int2, dEq, dNe, dAdd, dSub, dIAdd, atD, gName', gTup', gNil', gCons', gLst', lenIs, retD, retN, lendK, backK, isLent, ownK, fAbs, fLen, fMax, fMin, startD, outK, shp_int, eqv_int, List.map_take, List.map_drop]
theorem cut_len {α : Type} (xs : List α) (lo hi : Option Int) : (cutD xs lo hi).length = min (HT.sIx xs.length xs.length hi - HT.sIx xs.length 0 lo) (xs.length - HT.sIx xs.length 0 lo) := by
  unfold cutD
  simp [sSeq, sIf, sNext, sSet, sAug, sRet, sPar, sPar3, asThree, sRaise, sAsg, sOwn, sApp, sPut, sRetN, sRetOwn, sRetU, sDrop, sBreak, sCont, dVar, dC, dOp, dTest, dCons, dNil, dTup, nLst, dNew, dNeg, dIf, dF1, dAnd, dOr, dNot, dAndV, dOrV, dNotV, dCall, nCall, dCallL, nCallL, withLent, withLentN, vw, frz, dI, dI0, dB0, int2, dEq, dNe, dAdd, dSub, dIAdd, atD, gName', gTup', gNil', gCons', gLst', lenIs, retD, retN, lendK, backK, isLent, ownK, fAbs, fLen, fMax, fMin, startD, outK, shp_int, eqv_int]
theorem wipe3 (a b c d : SD) : wipeD [a, b, c, d] [3] = [a, b, c, .no] := rfl
theorem scrK_at {ρ : DSt} {i : Nat} {ns : List Int} {k : List Int → Prop} (h : ρ[i]? = some (.res true (scriptR ns))) (q : k ns) : scrK ρ i k := ⟨ns, h, q⟩
theorem enum_mem {x : PyData} {cs : List Int} (h : x ∈ enumD (cs.map PyData.int)) : ∃ (i : Nat) (c : Int), x = .tuple [.int i, .int c] ∧ i < cs.length := by
  unfold enumD at h
  obtain ⟨⟨d, i⟩, hm, rfl⟩ := List.mem_map.mp h
  obtain ⟨h1, h2, h3⟩ := List.mem_zipIdx hm
  simp [sSeq, sIf, sNext, sSet, sAug, sRet, sPar, sPar3, asThree, sRaise, sAsg, sOwn, sApp, sPut, sRetN, sRetOwn, sRetU, sDrop, sBreak, sCont, dVar, dC, dOp, dTest, dCons, dNil, dTup, nLst, dNew, dNeg, dIf, dF1, dAnd, dOr, dNot, dAndV, dOrV, dNotV, dCall, nCall, dCallL, nCallL, withLent, withLentN, vw, frz, dI, dI0, dB0, int2, dEq, dNe, dAdd, dSub, dIAdd, atD, gName', gTup', gNil', gCons', gLst', lenIs, retD, retN, lendK, backK, isLent, ownK, fAbs, fLen, fMax, fMin, startD, outK, shp_int, eqv_int, wipe3] at h2 h3
  exact ⟨i, cs[i], by simp [sSeq, sIf, sNext, sSet, sAug, sRet, sPar, sPar3, asThree, sRaise, sAsg, sOwn, sApp, sPut, sRetN, sRetOwn, sRetU, sDrop, sBreak, sCont, dVar, dC, dOp, dTest, dCons, dNil, dTup, nLst, dNew, dNeg, dIf, dF1, dAnd, dOr, dNot, dAndV, dOrV, dNotV, dCall, nCall, dCallL, nCallL, withLent, withLentN, vw, frz, dI, dI0, dB0, int2, dEq, dNe, dAdd, dSub, dIAdd, atD, gName', gTup', gNil', gCons', gLst', lenIs, retD, retN, lendK, backK, isLent, ownK, fAbs, fLen, fMax, fMin, startD, outK, shp_int, eqv_int, wipe3, h3], by omega⟩
theorem ixN_ok {n : Nat} {z : Int} (h0 : 0 ≤ z) (h1 : z < n) : ixN n z = some z.toNat := by unfold ixN; rw [if_pos h0, if_pos h1]
theorem atI_int {ms : List Int} {z : Int} (h0 : 0 ≤ z) (h1 : z < ms.length) : ∃ y, atI (ms.map PyData.int) z = some (.int y) := by
  unfold atI
  rw [List.length_map, ixN_ok h0 h1]
  have : z.toNat < ms.length := by omega
  exact ⟨ms[z.toNat], by simp [sSeq, sIf, sNext, sSet, sAug, sRet, sPar, sPar3, asThree, sRaise, sAsg, sOwn, sApp, sPut, sRetN, sRetOwn, sRetU, sDrop, sBreak, sCont, dVar, dC, dOp, dTest, dCons, dNil, dTup, nLst, dNew, dNeg, dIf, dF1, dAnd, dOr, dNot, dAndV, dOrV, dNotV, dCall, nCall, dCallL, nCallL, withLent, withLentN, vw, frz, dI, dI0, dB0, int2, dEq, dNe, dAdd, dSub, dIAdd, atD, gName', gTup', gNil', gCons', gLst', lenIs, retD, retN, lendK, backK, isLent, ownK, fAbs, fLen, fMax, fMin, startD, outK, shp_int, eqv_int, wipe3, this]⟩
theorem pure__law_spool_of (α : List SD) (QD : Ret → List SD → Prop) (ED : Exd → List SD → Prop) (W : WD) (hW : W = fun e ρ => outK α ρ fun α' => ED e α') (h : p__law_spool_of α QD ED) : r__law_spool_of W (DEnd α QD) (startD n__law_spool_of.length α) := by
  obtain ⟨ns, rfl, hl, hq⟩ := h
  unfold r__law_spool_of DEnd
  simp [sSeq, sIf, sNext, sSet, sAug, sRet, sPar, sPar3, asThree, sRaise, sAsg, sOwn, sApp, sPut, sRetN, sRetOwn, sRetU, sDrop, sBreak, sCont, dVar, dC, dOp, dTest, dCons, dNil, dTup, nLst, dNew, dNeg, dIf, dF1, dAnd, dOr, dNot, dAndV, dOrV, dNotV, dCall, nCall, dCallL, nCallL, withLent, withLentN, vw, frz, dI, dI0, dB0, int2, dEq, dNe, dAdd, dSub, dIAdd, atD, gName', gTup', gNil', gCons', gLst', lenIs, retD, retN, lendK, backK, isLent, ownK, fAbs, fLen, fMax, fMin, startD, outK, shp_int, eqv_int, wipe3, n__law_spool_of]
  refine scrK_at rfl trivial |> fun s0 => ⟨s0, ?_⟩
  refine scrK_at rfl ?_
  have e16 : cutD (ns.map PyData.int) none (some 16) = (ns.take 16).map PyData.int := by
    rw [cutD_map]
    congr 1
    unfold DL.cutD
    rw [HT.sIx_none, show (some (16 : Int)) = some ((16 : Nat) : Int) from rfl, HT.sIx_nat]
    simp [sSeq, sIf, sNext, sSet, sAug, sRet, sPar, sPar3, asThree, sRaise, sAsg, sOwn, sApp, sPut, sRetN, sRetOwn, sRetU, sDrop, sBreak, sCont, dVar, dC, dOp, dTest, dCons, dNil, dTup, nLst, dNew, dNeg, dIf, dF1, dAnd, dOr, dNot, dAndV, dOrV, dNotV, dCall, nCall, dCallL, nCallL, withLent, withLentN, vw, frz, dI, dI0, dB0, int2, dEq, dNe, dAdd, dSub, dIAdd, atD, gName', gTup', gNil', gCons', gLst', lenIs, retD, retN, lendK, backK, isLent, ownK, fAbs, fLen, fMax, fMin, startD, outK, shp_int, eqv_int, wipe3]
    try rw [List.take_eq_take_iff]
    try omega
  rw [e16]
  refine lc_abs _ _ _ _ _ _ (by simp [sSeq, sIf, sNext, sSet, sAug, sRet, sPar, sPar3, asThree, sRaise, sAsg, sOwn, sApp, sPut, sRetN, sRetOwn, sRetU, sDrop, sBreak, sCont, dVar, dC, dOp, dTest, dCons, dNil, dTup, nLst, dNew, dNeg, dIf, dF1, dAnd, dOr, dNot, dAndV, dOrV, dNotV, dCall, nCall, dCallL, nCallL, withLent, withLentN, vw, frz, dI, dI0, dB0, int2, dEq, dNe, dAdd, dSub, dIAdd, atD, gName', gTup', gNil', gCons', gLst', lenIs, retD, retN, lendK, backK, isLent, ownK, fAbs, fLen, fMax, fMin, startD, outK, shp_int, eqv_int, wipe3]; omega) ?_
  simp [sSeq, sIf, sNext, sSet, sAug, sRet, sPar, sPar3, asThree, sRaise, sAsg, sOwn, sApp, sPut, sRetN, sRetOwn, sRetU, sDrop, sBreak, sCont, dVar, dC, dOp, dTest, dCons, dNil, dTup, nLst, dNew, dNeg, dIf, dF1, dAnd, dOr, dNot, dAndV, dOrV, dNotV, dCall, nCall, dCallL, nCallL, withLent, withLentN, vw, frz, dI, dI0, dB0, int2, dEq, dNe, dAdd, dSub, dIAdd, atD, gName', gTup', gNil', gCons', gLst', lenIs, retD, retN, lendK, backK, isLent, ownK, fAbs, fLen, fMax, fMin, startD, outK, shp_int, eqv_int, wipe3]
  refine scrK_at rfl trivial |> fun s0 => ⟨s0, ?_⟩
  refine scrK_at rfl ?_
  simp [sSeq, sIf, sNext, sSet, sAug, sRet, sPar, sPar3, asThree, sRaise, sAsg, sOwn, sApp, sPut, sRetN, sRetOwn, sRetU, sDrop, sBreak, sCont, dVar, dC, dOp, dTest, dCons, dNil, dTup, nLst, dNew, dNeg, dIf, dF1, dAnd, dOr, dNot, dAndV, dOrV, dNotV, dCall, nCall, dCallL, nCallL, withLent, withLentN, vw, frz, dI, dI0, dB0, int2, dEq, dNe, dAdd, dSub, dIAdd, atD, gName', gTup', gNil', gCons', gLst', lenIs, retD, retN, lendK, backK, isLent, ownK, fAbs, fLen, fMax, fMin, startD, outK, shp_int, eqv_int, wipe3]
  rw [cutD_map]
  refine forD_inv (fun _ ρ => ∃ (ms : List Int) (a b : SD), ρ = [.res true (scriptR ns), .own false (ms.map PyData.int), a, b] ∧ ms.length = min 16 ns.length) _ _ ⟨(ns.take 16).map fun n => if n < 0 then -n else n, .no, .no, by simp [sSeq, sIf, sNext, sSet, sAug, sRet, sPar, sPar3, asThree, sRaise, sAsg, sOwn, sApp, sPut, sRetN, sRetOwn, sRetU, sDrop, sBreak, sCont, dVar, dC, dOp, dTest, dCons, dNil, dTup, nLst, dNew, dNeg, dIf, dF1, dAnd, dOr, dNot, dAndV, dOrV, dNotV, dCall, nCall, dCallL, nCallL, withLent, withLentN, vw, frz, dI, dI0, dB0, int2, dEq, dNe, dAdd, dSub, dIAdd, atD, gName', gTup', gNil', gCons', gLst', lenIs, retD, retN, lendK, backK, isLent, ownK, fAbs, fLen, fMax, fMin, startD, outK, shp_int, eqv_int, wipe3, Function.comp_def], by simp [sSeq, sIf, sNext, sSet, sAug, sRet, sPar, sPar3, asThree, sRaise, sAsg, sOwn, sApp, sPut, sRetN, sRetOwn, sRetU, sDrop, sBreak, sCont, dVar, dC, dOp, dTest, dCons, dNil, dTup, nLst, dNew, dNeg, dIf, dF1, dAnd, dOr, dNot, dAndV, dOrV, dNotV, dCall, nCall, dCallL, nCallL, withLent, withLentN, vw, frz, dI, dI0, dB0, int2, dEq, dNe, dAdd, dSub, dIAdd, atD, gName', gTup', gNil', gCons', gLst', lenIs, retD, retN, lendK, backK, isLent, ownK, fAbs, fLen, fMax, fMin, startD, outK, shp_int, eqv_int, wipe3]⟩ ?_ ?_
  · rintro _ x _ N hx hN ⟨ms, a, b, rfl, hm⟩
    obtain ⟨i, c, rfl, hi⟩ := enum_mem hx
    rw [cut_len] at hi
    have hn : 16 < ns.length := by
      have h1 : HT.sIx ns.length 0 (some 16) = min 16 ns.length := HT.sIx_nat _ _ 16
      rw [h1] at hi
      omega
    have hm16 : ms.length = 16 := by omega
    have z0 := Int.fmod_nonneg_of_pos (i : Int) (show (0 : Int) < 16 by decide)
    have z1 := Int.fmod_lt_of_pos (i : Int) (show (0 : Int) < 16 by decide)
    generalize hz : (i : Int).fmod 16 = z at z0 z1
    obtain ⟨y, hy⟩ := atI_int (ms := ms) z0 (by omega)
    have ix := ixN_ok (n := ms.length) z0 (by omega)
    simp [sSeq, sIf, sNext, sSet, sAug, sRet, sPar, sPar3, asThree, sRaise, sAsg, sOwn, sApp, sPut, sRetN, sRetOwn, sRetU, sDrop, sBreak, sCont, dVar, dC, dOp, dTest, dCons, dNil, dTup, nLst, dNew, dNeg, dIf, dF1, dAnd, dOr, dNot, dAndV, dOrV, dNotV, dCall, nCall, dCallL, nCallL, withLent, withLentN, vw, frz, dI, dI0, dB0, int2, dEq, dNe, dAdd, dSub, dIAdd, atD, gName', gTup', gNil', gCons', gLst', lenIs, retD, retN, lendK, backK, isLent, ownK, fAbs, fLen, fMax, fMin, startD, outK, shp_int, eqv_int, wipe3, hz, hy, ix]
    exact hN _ ⟨ms.set z.toNat (y + if c < 0 then -c else c), iv i, iv c, by simp [sSeq, sIf, sNext, sSet, sAug, sRet, sPar, sPar3, asThree, sRaise, sAsg, sOwn, sApp, sPut, sRetN, sRetOwn, sRetU, sDrop, sBreak, sCont, dVar, dC, dOp, dTest, dCons, dNil, dTup, nLst, dNew, dNeg, dIf, dF1, dAnd, dOr, dNot, dAndV, dOrV, dNotV, dCall, nCall, dCallL, nCallL, withLent, withLentN, vw, frz, dI, dI0, dB0, int2, dEq, dNe, dAdd, dSub, dIAdd, atD, gName', gTup', gNil', gCons', gLst', lenIs, retD, retN, lendK, backK, isLent, ownK, fAbs, fLen, fMax, fMin, startD, outK, shp_int, eqv_int, wipe3, List.map_set], by simpa [sSeq, sIf, sNext, sSet, sAug, sRet, sPar, sPar3, asThree, sRaise, sAsg, sOwn, sApp, sPut, sRetN, sRetOwn, sRetU, sDrop, sBreak, sCont, dVar, dC, dOp, dTest, dCons, dNil, dTup, nLst, dNew, dNeg, dIf, dF1, dAnd, dOr, dNot, dAndV, dOrV, dNotV, dCall, nCall, dCallL, nCallL, withLent, withLentN, vw, frz, dI, dI0, dB0, int2, dEq, dNe, dAdd, dSub, dIAdd, atD, gName', gTup', gNil', gCons', gLst', lenIs, retD, retN, lendK, backK, isLent, ownK, fAbs, fLen, fMax, fMin, startD, outK, shp_int, eqv_int, wipe3] using hm⟩
  · rintro _ ⟨ms, a, b, rfl, hm⟩
    simp [sSeq, sIf, sNext, sSet, sAug, sRet, sPar, sPar3, asThree, sRaise, sAsg, sOwn, sApp, sPut, sRetN, sRetOwn, sRetU, sDrop, sBreak, sCont, dVar, dC, dOp, dTest, dCons, dNil, dTup, nLst, dNew, dNeg, dIf, dF1, dAnd, dOr, dNot, dAndV, dOrV, dNotV, dCall, nCall, dCallL, nCallL, withLent, withLentN, vw, frz, dI, dI0, dB0, int2, dEq, dNe, dAdd, dSub, dIAdd, atD, gName', gTup', gNil', gCons', gLst', lenIs, retD, retN, lendK, backK, isLent, ownK, fAbs, fLen, fMax, fMin, startD, outK, shp_int, eqv_int, wipe3]
    exact ⟨by decide, hq ⟨ms, 0, 0, 0⟩ ⟨Int.le_refl _, Int.le_refl _, by show ms.length ≤ 64; omega⟩⟩
theorem lay_ints : ∀ ns : List Int, PyData.canLayAll0 (ns.map PyData.int) = true
  | [] => rfl
  | n :: ns => by
    show (PyData.canLay0 (.int n) && PyData.canLayAll0 (ns.map PyData.int)) = true
    rw [lay_ints ns]; rfl
theorem dep_ints : ∀ ns : List Int, PyData.depthAll (ns.map PyData.int) = 0
  | [] => rfl
  | n :: ns => by
    show max (PyData.depth (.int n)) (PyData.depthAll (ns.map PyData.int)) = 0
    rw [dep_ints ns]; rfl
theorem shp_ints (ns : List Int) : SeqAt.shaped (.list (ns.map PyData.int)) = true := by
  show (PyData.canLayAll0 (ns.map PyData.int) && decide (PyData.depthAll (ns.map PyData.int) + 1 ≤ 64)) = true
  rw [lay_ints, dep_ints]; rfl
theorem shp_nil : SeqAt.shaped (.list []) = true := rfl
theorem eqv_nil (ns : List PyData) : PyData.eqv (.list ns) (.list []) = ns.isEmpty := by cases ns <;> rfl
theorem upto_fill (W : WD) (D : DEnds) (ns : List Int) (pl ce si b : Int) (h0 : 0 ≤ pl) (h1 : pl < 2 ^ 60) (hD : ∀ c : Int, D.nx [Spl.S ⟨ns, pl + 1, c, c⟩, iv b, .val (.list (ns.map PyData.int)), iv pl, iv c, .no]) (ce' : Int) :
    sSeq (sIf (dOr (dTest (dOp dGe (dVar 3) (dF1 fLen (dVar 2)))) (dTest (dOp dLt (dVar 4) (dOp dPow (dC (.int 10)) (dC (.int 15)))))) (sSet 4 (dCall p__law_stirred W (dCons (dOp dMod (dVar 4) (dC (.int 998244353))) (dCons (dVar 3) (dNil))))) (sNext)) (sSeq (sPut 0 (dOp dAdd (dVar 3) (dC (.int 1))) (dC (.int 1))) (sSeq (sPut 0 (dVar 4) (dC (.int 2))) (sPut 0 (dVar 4) (dC (.int 3))))) D
      [Spl.S ⟨ns, pl, ce, si⟩, iv b, .val (.list (ns.map PyData.int)), iv pl, iv ce', .no] := by
  have pw : CPow 10 15 := ⟨by decide, by decide, by decide⟩
  have z0 := Int.fmod_nonneg_of_pos ce' (show (0 : Int) < 998244353 by decide)
  have z1 := Int.fmod_lt_of_pos ce' (show (0 : Int) < 998244353 by decide)
  by_cases c1 : (ns.length : Int) ≤ pl
  · simp [sSeq, sIf, sNext, sSet, sAug, sRet, sPar, sPar3, asThree, sRaise, sAsg, sOwn, sApp, sPut, sRetN, sRetOwn, sRetU, sDrop, sBreak, sCont, dVar, dC, dOp, dTest, dCons, dNil, dTup, nLst, dNew, dNeg, dIf, dF1, dAnd, dOr, dNot, dAndV, dOrV, dNotV, dCall, nCall, dCallL, nCallL, withLent, withLentN, vw, frz, dI, dI0, dB0, int2, dEq, dNe, dAdd, dSub, dIAdd, atD, gName', gTup', gNil', gCons', gLst', lenIs, retD, retN, lendK, backK, isLent, ownK, fAbs, fLen, fMax, fMin, startD, outK, shp_int, eqv_int, wipe3, c1, Spl.L]
    refine ⟨_, _, rfl, h0, h1, z0, by omega, fun n => ?_⟩
    simp [sSeq, sIf, sNext, sSet, sAug, sRet, sPar, sPar3, asThree, sRaise, sAsg, sOwn, sApp, sPut, sRetN, sRetOwn, sRetU, sDrop, sBreak, sCont, dVar, dC, dOp, dTest, dCons, dNil, dTup, nLst, dNew, dNeg, dIf, dF1, dAnd, dOr, dNot, dAndV, dOrV, dNotV, dCall, nCall, dCallL, nCallL, withLent, withLentN, vw, frz, dI, dI0, dB0, int2, dEq, dNe, dAdd, dSub, dIAdd, atD, gName', gTup', gNil', gCons', gLst', lenIs, retD, retN, lendK, backK, isLent, ownK, fAbs, fLen, fMax, fMin, startD, outK, shp_int, eqv_int, wipe3, ixN]
    exact hD n
  · by_cases c2 : ce' < 10 ^ 15
    · simp [sSeq, sIf, sNext, sSet, sAug, sRet, sPar, sPar3, asThree, sRaise, sAsg, sOwn, sApp, sPut, sRetN, sRetOwn, sRetU, sDrop, sBreak, sCont, dVar, dC, dOp, dTest, dCons, dNil, dTup, nLst, dNew, dNeg, dIf, dF1, dAnd, dOr, dNot, dAndV, dOrV, dNotV, dCall, nCall, dCallL, nCallL, withLent, withLentN, vw, frz, dI, dI0, dB0, int2, dEq, dNe, dAdd, dSub, dIAdd, atD, gName', gTup', gNil', gCons', gLst', lenIs, retD, retN, lendK, backK, isLent, ownK, fAbs, fLen, fMax, fMin, startD, outK, shp_int, eqv_int, wipe3] at c2
      simp [sSeq, sIf, sNext, sSet, sAug, sRet, sPar, sPar3, asThree, sRaise, sAsg, sOwn, sApp, sPut, sRetN, sRetOwn, sRetU, sDrop, sBreak, sCont, dVar, dC, dOp, dTest, dCons, dNil, dTup, nLst, dNew, dNeg, dIf, dF1, dAnd, dOr, dNot, dAndV, dOrV, dNotV, dCall, nCall, dCallL, nCallL, withLent, withLentN, vw, frz, dI, dI0, dB0, int2, dEq, dNe, dAdd, dSub, dIAdd, atD, gName', gTup', gNil', gCons', gLst', lenIs, retD, retN, lendK, backK, isLent, ownK, fAbs, fLen, fMax, fMin, startD, outK, shp_int, eqv_int, wipe3, c1, c2, Spl.L, pw]
      refine ⟨_, _, rfl, h0, h1, z0, by omega, fun n => ?_⟩
      simp [sSeq, sIf, sNext, sSet, sAug, sRet, sPar, sPar3, asThree, sRaise, sAsg, sOwn, sApp, sPut, sRetN, sRetOwn, sRetU, sDrop, sBreak, sCont, dVar, dC, dOp, dTest, dCons, dNil, dTup, nLst, dNew, dNeg, dIf, dF1, dAnd, dOr, dNot, dAndV, dOrV, dNotV, dCall, nCall, dCallL, nCallL, withLent, withLentN, vw, frz, dI, dI0, dB0, int2, dEq, dNe, dAdd, dSub, dIAdd, atD, gName', gTup', gNil', gCons', gLst', lenIs, retD, retN, lendK, backK, isLent, ownK, fAbs, fLen, fMax, fMin, startD, outK, shp_int, eqv_int, wipe3, ixN]
      exact hD n
    · simp [sSeq, sIf, sNext, sSet, sAug, sRet, sPar, sPar3, asThree, sRaise, sAsg, sOwn, sApp, sPut, sRetN, sRetOwn, sRetU, sDrop, sBreak, sCont, dVar, dC, dOp, dTest, dCons, dNil, dTup, nLst, dNew, dNeg, dIf, dF1, dAnd, dOr, dNot, dAndV, dOrV, dNotV, dCall, nCall, dCallL, nCallL, withLent, withLentN, vw, frz, dI, dI0, dB0, int2, dEq, dNe, dAdd, dSub, dIAdd, atD, gName', gTup', gNil', gCons', gLst', lenIs, retD, retN, lendK, backK, isLent, ownK, fAbs, fLen, fMax, fMin, startD, outK, shp_int, eqv_int, wipe3] at c2
      have c3 : ¬ ce' < 1000000000000000 := by omega
      simp [sSeq, sIf, sNext, sSet, sAug, sRet, sPar, sPar3, asThree, sRaise, sAsg, sOwn, sApp, sPut, sRetN, sRetOwn, sRetU, sDrop, sBreak, sCont, dVar, dC, dOp, dTest, dCons, dNil, dTup, nLst, dNew, dNeg, dIf, dF1, dAnd, dOr, dNot, dAndV, dOrV, dNotV, dCall, nCall, dCallL, nCallL, withLent, withLentN, vw, frz, dI, dI0, dB0, int2, dEq, dNe, dAdd, dSub, dIAdd, atD, gName', gTup', gNil', gCons', gLst', lenIs, retD, retN, lendK, backK, isLent, ownK, fAbs, fLen, fMax, fMin, startD, outK, shp_int, eqv_int, wipe3, c1, c3, Spl.L, pw, ixN]
      exact hD ce'
theorem pure__law_upto (α : List SD) (QD : Ret → List SD → Prop) (ED : Exd → List SD → Prop) (W : WD) (hW : W = fun e ρ => outK α ρ fun α' => ED e α') (h : p__law_upto α QD ED) : r__law_upto W (DEnd α QD) (startD n__law_upto.length α) := by
  obtain ⟨⟨ns, pl, ce, si⟩, m, b, rfl, ⟨h0, h1, h2⟩, hm, b0, bB, hq⟩ := h
  have h0 : 0 ≤ pl := h0
  have h1 : pl ≤ m := h1
  have h2 : ns.length ≤ 64 := h2
  have cd : ∀ z, CDivF z b := fun _ => ⟨by omega, bB.log (by omega)⟩
  have nz : ¬ b = 0 := by omega
  have fin : ∀ (pl' ce' si' : Int) (a2 a3 a4 : SD), 0 ≤ pl' → pl' ≤ ((m + 1 : Nat) : Int) → sSeq (sSet 5 (dOp dMod (dOp atD (dVar 0) (dC (.int 2))) (dVar 1))) (sSeq (sPut 0 (dOp dFdiv (dOp atD (dVar 0) (dC (.int 2))) (dVar 1)) (dC (.int 2))) (sSeq (sPut 0 (dOp dFdiv (dOp atD (dVar 0) (dC (.int 3))) (dVar 1)) (dC (.int 3))) (sRet (dVar 5))))
      (DEnd [Spl.S ⟨ns, pl, ce, si⟩, iv b] QD) [Spl.S ⟨ns, pl', ce', si'⟩, iv b, a2, a3, a4, .no] := by
    intro pl' ce' si' a2 a3 a4 k0 k1
    simp [sSeq, sIf, sNext, sSet, sAug, sRet, sPar, sPar3, asThree, sRaise, sAsg, sOwn, sApp, sPut, sRetN, sRetOwn, sRetU, sDrop, sBreak, sCont, dVar, dC, dOp, dTest, dCons, dNil, dTup, nLst, dNew, dNeg, dIf, dF1, dAnd, dOr, dNot, dAndV, dOrV, dNotV, dCall, nCall, dCallL, nCallL, withLent, withLentN, vw, frz, dI, dI0, dB0, int2, dEq, dNe, dAdd, dSub, dIAdd, atD, gName', gTup', gNil', gCons', gLst', lenIs, retD, retN, lendK, backK, isLent, ownK, fAbs, fLen, fMax, fMin, startD, outK, shp_int, eqv_int, wipe3, DEnd, Spl.L, atI, ixN, nz, cd]
    exact hq (ce'.fmod b) ⟨ns, pl', ce'.fdiv b, si'.fdiv b⟩ (Int.fmod_nonneg_of_pos _ b0) (Int.fmod_lt_of_pos _ b0) ⟨k0, k1, h2⟩
  have e0 : (startD n__law_upto.length [Spl.S ⟨ns, pl, ce, si⟩, iv b]) = [Spl.S ⟨ns, pl, ce, si⟩, iv b, .no, .no, .no, .no] := rfl
  rw [e0]
  unfold r__law_upto
  by_cases hsi : si < b
  · have step : ∀ c : Int, _ := fun c => upto_fill W { DEnd [Spl.S ⟨ns, pl, ce, si⟩, iv b] QD with nx := fun ρ => sSeq (sSet 5 (dOp dMod (dOp atD (dVar 0) (dC (.int 2))) (dVar 1))) (sSeq (sPut 0 (dOp dFdiv (dOp atD (dVar 0) (dC (.int 2))) (dVar 1)) (dC (.int 2))) (sSeq (sPut 0 (dOp dFdiv (dOp atD (dVar 0) (dC (.int 3))) (dVar 1)) (dC (.int 3))) (sRet (dVar 5)))) (DEnd [Spl.S ⟨ns, pl, ce, si⟩, iv b] QD) ρ } ns pl ce si b h0 (by omega) (fun c => fin _ _ _ _ _ _ (by omega) (by omega)) c
    have key : ∀ (R G : TSD), (∀ c : Int, R { DEnd [Spl.S ⟨ns, pl, ce, si⟩, iv b] QD with nx := fun ρ => G (DEnd [Spl.S ⟨ns, pl, ce, si⟩, iv b] QD) ρ } [Spl.S ⟨ns, pl, ce, si⟩, iv b, .val (.list (ns.map PyData.int)), iv pl, iv c, .no]) →
        sSeq (sIf (dTest (dOp dLt (dOp atD (dVar 0) (dC (.int 3))) (dVar 1))) (sSeq (sPar 2 3 (dCons (dOp atD (dVar 0) (dC (.int 0))) (dCons (dOp atD (dVar 0) (dC (.int 1))) (dNil)))) (sSeq (sSet 4 (dIf (dTest (dOp dNe (dVar 2) (dNew (nLst (dNil))))) (dOp atD (dVar 2) (dOp dMod (dVar 3) (dF1 fLen (dVar 2)))) (dC (.int 0)))) R)) (sNext)) G (DEnd [Spl.S ⟨ns, pl, ce, si⟩, iv b] QD) [Spl.S ⟨ns, pl, ce, si⟩, iv b, .no, .no, .no, .no] := by
      intro R G hR
      by_cases hns : ns = []
      · subst hns
        have := hR 0
        simp [sSeq, sIf, sNext, sSet, sAug, sRet, sPar, sPar3, asThree, sRaise, sAsg, sOwn, sApp, sPut, sRetN, sRetOwn, sRetU, sDrop, sBreak, sCont, dVar, dC, dOp, dTest, dCons, dNil, dTup, nLst, dNew, dNeg, dIf, dF1, dAnd, dOr, dNot, dAndV, dOrV, dNotV, dCall, nCall, dCallL, nCallL, withLent, withLentN, vw, frz, dI, dI0, dB0, int2, dEq, dNe, dAdd, dSub, dIAdd, atD, gName', gTup', gNil', gCons', gLst', lenIs, retD, retN, lendK, backK, isLent, ownK, fAbs, fLen, fMax, fMin, startD, outK, shp_int, eqv_int, wipe3, Spl.L, atI, ixN, hsi, shp_nil, eqv_nil]
        exact this
      · have l0 : (0 : Int) < ns.length := by
          have := List.length_pos_iff.mpr hns
          omega
        obtain ⟨y, hy⟩ := atI_int (ms := ns) (Int.fmod_nonneg_of_pos pl l0) (Int.fmod_lt_of_pos pl l0)
        have := hR y
        simp [sSeq, sIf, sNext, sSet, sAug, sRet, sPar, sPar3, asThree, sRaise, sAsg, sOwn, sApp, sPut, sRetN, sRetOwn, sRetU, sDrop, sBreak, sCont, dVar, dC, dOp, dTest, dCons, dNil, dTup, nLst, dNew, dNeg, dIf, dF1, dAnd, dOr, dNot, dAndV, dOrV, dNotV, dCall, nCall, dCallL, nCallL, withLent, withLentN, vw, frz, dI, dI0, dB0, int2, dEq, dNe, dAdd, dSub, dIAdd, atD, gName', gTup', gNil', gCons', gLst', lenIs, retD, retN, lendK, backK, isLent, ownK, fAbs, fLen, fMax, fMin, startD, outK, shp_int, eqv_int, wipe3, Spl.L, hsi, shp_nil, shp_ints ns, hy]
        have a3 : atI [PyData.list (ns.map PyData.int), .int pl, .int ce, .int si] 3 = some (.int si) := rfl
        have a0 : atI [PyData.list (ns.map PyData.int), .int pl, .int ce, .int si] 0 = some (.list (ns.map PyData.int)) := rfl
        have a1 : atI [PyData.list (ns.map PyData.int), .int pl, .int ce, .int si] 1 = some (.int pl) := rfl
        have hns' : ns.isEmpty = false := by simp [sSeq, sIf, sNext, sSet, sAug, sRet, sPar, sPar3, asThree, sRaise, sAsg, sOwn, sApp, sPut, sRetN, sRetOwn, sRetU, sDrop, sBreak, sCont, dVar, dC, dOp, dTest, dCons, dNil, dTup, nLst, dNew, dNeg, dIf, dF1, dAnd, dOr, dNot, dAndV, dOrV, dNotV, dCall, nCall, dCallL, nCallL, withLent, withLentN, vw, frz, dI, dI0, dB0, int2, dEq, dNe, dAdd, dSub, dIAdd, atD, gName', gTup', gNil', gCons', gLst', lenIs, retD, retN, lendK, backK, isLent, ownK, fAbs, fLen, fMax, fMin, startD, outK, shp_int, eqv_int, wipe3, hns]
        simp [sSeq, sIf, sNext, sSet, sAug, sRet, sPar, sPar3, asThree, sRaise, sAsg, sOwn, sApp, sPut, sRetN, sRetOwn, sRetU, sDrop, sBreak, sCont, dVar, dC, dOp, dTest, dCons, dNil, dTup, nLst, dNew, dNeg, dIf, dF1, dAnd, dOr, dNot, dAndV, dOrV, dNotV, dCall, nCall, dCallL, nCallL, withLent, withLentN, vw, frz, dI, dI0, dB0, int2, dEq, dNe, dAdd, dSub, dIAdd, atD, gName', gTup', gNil', gCons', gLst', lenIs, retD, retN, lendK, backK, isLent, ownK, fAbs, fLen, fMax, fMin, startD, outK, shp_int, eqv_int, wipe3, a3, a0, a1, hsi, shp_nil, eqv_nil, hns', shp_ints ns, hy]
        exact ⟨hns, this⟩
    exact key _ _ step
  · have := fin pl ce si .no .no .no h0 (by omega)
    simp [sSeq, sIf, sNext, sSet, sAug, sRet, sPar, sPar3, asThree, sRaise, sAsg, sOwn, sApp, sPut, sRetN, sRetOwn, sRetU, sDrop, sBreak, sCont, dVar, dC, dOp, dTest, dCons, dNil, dTup, nLst, dNew, dNeg, dIf, dF1, dAnd, dOr, dNot, dAndV, dOrV, dNotV, dCall, nCall, dCallL, nCallL, withLent, withLentN, vw, frz, dI, dI0, dB0, int2, dEq, dNe, dAdd, dSub, dIAdd, atD, gName', gTup', gNil', gCons', gLst', lenIs, retD, retN, lendK, backK, isLent, ownK, fAbs, fLen, fMax, fMin, startD, outK, shp_int, eqv_int, wipe3, Spl.L, hsi, DEnd, atI, ixN] at this ⊢
    exact this
theorem atI_mem {α : Type} {xs : List α} {z : Int} (h0 : 0 ≤ z) (h1 : z < xs.length) : ∃ y, y ∈ xs ∧ atI xs z = some y := by
  unfold atI
  rw [ixN_ok h0 h1]
  have : z.toNat < xs.length := by omega
  exact ⟨xs[z.toNat], List.getElem_mem _, by simp [sSeq, sIf, sNext, sSet, sAug, sRet, sPar, sPar3, asThree, sRaise, sAsg, sOwn, sApp, sPut, sRetN, sRetOwn, sRetU, sDrop, sBreak, sCont, dVar, dC, dOp, dTest, dCons, dNil, dTup, nLst, dNew, dNeg, dIf, dF1, dAnd, dOr, dNot, dAndV, dOrV, dNotV, dCall, nCall, dCallL, nCallL, withLent, withLentN, vw, frz, dI, dI0, dB0, int2, dEq, dNe, dAdd, dSub, dIAdd, atD, gName', gTup', gNil', gCons', gLst', lenIs, retD, retN, lendK, backK, isLent, ownK, fAbs, fLen, fMax, fMin, startD, outK, shp_int, eqv_int, wipe3, this]⟩
theorem pure__law_choice (α : List SD) (QD : Ret → List SD → Prop) (ED : Exd → List SD → Prop) (W : WD) (hW : W = fun e ρ => outK α ρ fun α' => ED e α') (h : p__law_choice α QD ED) : r__law_choice W (DEnd α QD) (startD n__law_choice.length α) := by
  obtain ⟨s, m, xs, rfl, hs, hm, hx, hl, hq⟩ := h
  have l0 : 0 < xs.length := List.length_pos_iff.mpr hx
  unfold r__law_choice DEnd
  simp [sSeq, sIf, sNext, sSet, sAug, sRet, sPar, sPar3, asThree, sRaise, sAsg, sOwn, sApp, sPut, sRetN, sRetOwn, sRetU, sDrop, sBreak, sCont, dVar, dC, dOp, dTest, dCons, dNil, dTup, nLst, dNew, dNeg, dIf, dF1, dAnd, dOr, dNot, dAndV, dOrV, dNotV, dCall, nCall, dCallL, nCallL, withLent, withLentN, vw, frz, dI, dI0, dB0, int2, dEq, dNe, dAdd, dSub, dIAdd, atD, gName', gTup', gNil', gCons', gLst', lenIs, retD, retN, lendK, backK, isLent, ownK, fAbs, fLen, fMax, fMin, startD, outK, shp_int, eqv_int, wipe3, n__law_choice, Spl.S]
  refine ⟨s, m, xs.length, rfl, hs, hm, by omega, by unfold Bd; exact Nat.lt_of_lt_of_le (show (xs.length : Int).natAbs < 2 ^ 60 by omega) (Nat.pow_le_pow_right (by decide) (by omega)), fun n s' n0 n1 hs' => ?_⟩
  obtain ⟨y, hy, e⟩ := atI_mem (xs := xs) n0 n1
  simp [sSeq, sIf, sNext, sSet, sAug, sRet, sPar, sPar3, asThree, sRaise, sAsg, sOwn, sApp, sPut, sRetN, sRetOwn, sRetU, sDrop, sBreak, sCont, dVar, dC, dOp, dTest, dCons, dNil, dTup, nLst, dNew, dNeg, dIf, dF1, dAnd, dOr, dNot, dAndV, dOrV, dNotV, dCall, nCall, dCallL, nCallL, withLent, withLentN, vw, frz, dI, dI0, dB0, int2, dEq, dNe, dAdd, dSub, dIAdd, atD, gName', gTup', gNil', gCons', gLst', lenIs, retD, retN, lendK, backK, isLent, ownK, fAbs, fLen, fMax, fMin, startD, outK, shp_int, eqv_int, wipe3, Spl.S, e]
  exact hq y s' hy hs'
end KK

set_option maxHeartbeats 1000000
namespace KK
open PySem PySem.Spec L2 DL
/-! ### expressions without effect, evaluated -/
def Ev (t : TED) (ρ : DSt) (z : PyData) : Prop := ∀ Q : R → DSt → Prop, (∀ r, (∀ k : PyData → Prop, k z → vw ρ r k) → (∀ k : PyData → DSt → Prop, k z ρ → frz ρ r k) → Q r ρ) → t ρ Q
def EvA (t : TND) (ρ : DSt) (zs : List PyData) : Prop := ∀ Q : List PyData → DSt → Prop, Q zs ρ → t ρ Q
def EvT (t : TTD) (ρ : DSt) (b : Bool) : Prop := ∀ Q : Bool → DSt → Prop, Q b ρ → t ρ Q
/-- a def that gives z of these data -/
def Pr (p : DSp) (ds : List PyData) (z : PyData) : Prop := ∀ (QD : Ret → List SD → Prop) (ED : Exd → List SD → Prop), QD (.d z) (ds.map SD.val) → p (ds.map SD.val) QD ED
section
variable {ρ : DSt} {a b c : TED} {x y z : PyData} {ta tb : TTD} {u v : Bool}
theorem ev_var (i : Nat) (h : ρ[i]? = some (.val z)) : Ev (dVar i) ρ z := by
  intro Q k
  refine ⟨by rw [h] <;> trivial, k _ (fun k hk => ?_) (fun k hk => ?_)⟩
  · show (match ρ[i]? with | some (.val d) => k d | some (.own _ ds) => k (.list ds) | _ => False)
    rw [h]; exact hk
  · show (match ρ[i]? with | some (.val d) => k d ρ | some (.own false ds) => k (.list ds) (ρ.set i (.val (.list ds))) | _ => False)
    rw [h]; exact hk
theorem ev_c : Ev (dC z) ρ z := fun Q k => k _ (fun _ h => h) (fun _ h => h)
theorem ev_op {f : PyData → PyData → (PyData → Prop) → Prop} (ha : Ev a ρ x) (hb : Ev b ρ y) (hf : ∀ k : PyData → Prop, k z → f x y k) : Ev (dOp f a b) ρ z := by
  intro Q k
  refine ha _ fun r1 h1 _ => hb _ fun r2 h2 _ => h1 _ (h2 _ (hf _ (k _ (fun _ h => h) (fun _ h => h))))
theorem eva_nil : EvA dNil ρ [] := fun Q h => h
theorem eva_cons {dr : TND} {zs : List PyData} (ha : Ev a ρ x) (hr : EvA dr ρ zs) : EvA (dCons a dr) ρ (x :: zs) := fun Q h => ha _ fun r _ h2 => h2 _ (hr _ h)
theorem ev_tup {dr : TND} {zs : List PyData} (h : EvA dr ρ zs) (hl : zs.length ≤ 1000) : Ev (dTup dr) ρ (.tuple zs) := fun Q k => h _ ⟨Nat.le_trans hl (by rw [sizeLine_eq]; decide), k _ (fun _ h => h) (fun _ h => h)⟩
theorem ev_call {p : DSp} {W : WD} {dr : TND} {zs : List PyData} (h : EvA dr ρ zs) (hp : Pr p zs z) : Ev (dCall p W dr) ρ z := fun Q k => h _ (hp _ _ (k _ (fun _ h => h) (fun _ h => h)))
theorem evt_test {t : TED} (h : Ev t ρ (.bool u)) : EvT (dTest t) ρ u := fun Q hq => h _ fun r h1 _ => h1 _ hq
theorem evt_or (h : EvT ta ρ u) (h2 : u = false → EvT tb ρ v) : EvT (dOr ta tb) ρ (u || v) := fun Q hq => h _ (by cases u with | true => exact hq | false => exact h2 rfl _ hq)
theorem evt_and (h : EvT ta ρ u) (h2 : u = true → EvT tb ρ v) : EvT (dAnd ta tb) ρ (u && v) := fun Q hq => h _ (by cases u with | false => exact hq | true => exact h2 rfl _ hq)
theorem evt_not (h : EvT ta ρ u) : EvT (dNot ta) ρ (!u) := fun Q hq => h _ hq
theorem s_if {x : TTD} {t e : TSD} {D : DEnds} (h : EvT x ρ u) (k : if u = true then t D ρ else e D ρ) : sIf x t e D ρ := h _ (by cases u with | true => exact k | false => exact k)
theorem s_chk {x : TTD} {t n : TSD} {D : DEnds} (h : EvT x ρ false) (k : n D ρ) : sSeq (sIf x t sNext) n D ρ := h _ k
theorem s_set {i : Nat} {n : TSD} {D : DEnds} (h : Ev a ρ z) (k : n D (ρ.set i (.val z))) : sSeq (sSet i a) n D ρ := h _ fun r _ h2 => h2 _ k
theorem ev_ne {z w : PyData} (ha : Ev a ρ z) (hb : Ev b ρ w) (h1 : SeqAt.shaped z = true) (h2 : SeqAt.shaped w = true) (e : PyData.eqv z w = true) : EvT (dTest (dOp dNe a b)) ρ false :=
  evt_test (ev_op (z := .bool false) ha hb fun k hk => ⟨h1, h2, by rw [e]; exact hk⟩)
theorem ev_neI {i j : Int} (ha : Ev a ρ (.int i)) (hb : Ev b ρ (.int j)) (e : i = j) : EvT (dTest (dOp dNe a b)) ρ false := ev_ne ha hb rfl rfl (by subst e; simp [PyData.eqv])
theorem ev_neI' {i j : Int} (ha : Ev a ρ (.int i)) (hb : Ev b ρ (.int j)) : EvT (dTest (dOp dNe a b)) ρ (!decide (i = j)) :=
  evt_test (ev_op (z := .bool (!decide (i = j))) ha hb fun k hk => ⟨rfl, rfl, hk⟩)
end
/-! ### field values -/
structure Fv (d : Int) (n : Nat) (x : Nu) (p q s : Int) : Prop where
  e : x = low p q d s
  s0 : s ≠ 0
  b : Nb n x
def Ex (t : TED) (ρ : DSt) (d : Int) (n : Nat) (p q s : Int) : Prop := ∃ x, Fv d n x p q s ∧ Ev t ρ x.D
def Dd (d : Int) : Prop := 0 < d ∧ d < 64 ∧ Irr d
theorem nu_shaped (x : Nu) : SeqAt.shaped x.D = true := rfl
theorem nu_eqv (x : Nu) : PyData.eqv x.D x.D = true := by
  show PyData.eqvAll [.int x.p, .int x.q, .int x.d, .int x.s] [.int x.p, .int x.q, .int x.d, .int x.s] = true
  simp [PyData.eqvAll, PyData.eqv]
section
variable {d : Int} {n m : Nat} {x y : Nu} {p q s p' q' s' : Int}
theorem Fv.kk (h : Fv d n x p q s) : ∃ k, k ≠ 0 ∧ p = k * x.p ∧ q = k * x.q ∧ s = k * x.s ∧ 0 < x.s ∧ x.d = if x.q = 0 then 0 else d := by
  obtain ⟨rfl, s0, _⟩ := h
  obtain ⟨k, h1, h2, h3, h4, h5⟩ := low_spec (p := p) (q := q) d s0
  exact ⟨k, h1, h2, h3, h4, h5, low_dd s0⟩
theorem Fv.rts (hx : Fv d n x p q s) (hy : Fv d m y p' q' s') : rts x y := by
  obtain ⟨_, _, _, _, _, _, h1⟩ := hx.kk
  obtain ⟨_, _, _, _, _, _, h2⟩ := hy.kk
  intro a b
  rw [h1] at a ⊢
  rw [h2] at b ⊢
  split at a
  · exact absurd rfl a
  · split at b
    · exact absurd rfl b
    · rename_i z1 z2; rw [if_neg z1, if_neg z2]
theorem bd0 (n : Nat) : Bd n 0 := by unfold Bd; exact Nat.pow_pos (by decide)
theorem bdd (hd : Dd d) (hn : 6 ≤ n) : Bd n d := (show Bd 6 d by unfold Bd; have := hd.1; have := hd.2.1; omega).mono hn
theorem Fv.nmx (hx : Fv d n x p q s) (hy : Fv d m y p' q' s') (hd : Dd d) : (x.q ≠ 0 ∨ y.q ≠ 0 → nmax x.d y.d = d) ∧ (x.q = 0 → y.q = 0 → nmax x.d y.d = 0) := by
  obtain ⟨_, _, _, _, _, _, h1⟩ := hx.kk
  obtain ⟨_, _, _, _, _, _, h2⟩ := hy.kk
  have := hd.1
  rw [h1, h2]
  refine ⟨fun h => ?_, fun a b => by rw [if_pos a, if_pos b]; rfl⟩
  unfold nmax
  by_cases a : x.q = 0 <;> by_cases b : y.q = 0 <;> simp [a, b] at h ⊢
  · omega
  · intro z; omega
theorem nplus_V (hx : Fv d n x p q s) (hy : Fv d m y p' q' s') (hd : Dd d) : Fv d (n + m + 7) (nplus x y) (p * s' + p' * s) (q * s' + q' * s) (s * s') := by
  obtain ⟨k, k0, e1, e2, e3, e4, _⟩ := hx.kk
  obtain ⟨l, l0, f1, f2, f3, f4, _⟩ := hy.kk
  obtain ⟨n1, n2⟩ := hx.nmx hy hd
  have ne : x.s * y.s ≠ 0 := Int.mul_ne_zero (by omega) (by omega)
  have eq : nplus x y = low (p * s' + p' * s) (q * s' + q' * s) d (s * s') := by
    unfold nplus
    refine low_eq ne (Int.mul_ne_zero hx.s0 hy.s0) ?_ ?_ fun h => n1 ?_
    · rw [e1, e3, f1, f3]; grind
    · rw [e2, e3, f2, f3]; grind
    · rcases Classical.em (x.q = 0) with a | a
      · rcases Classical.em (y.q = 0) with b | b
        · exact absurd (by rw [a, b]; simp) h
        · exact .inr b
      · exact .inl a
  refine ⟨eq, Int.mul_ne_zero hx.s0 hy.s0, ?_⟩
  obtain ⟨b1, b2, b3, b4⟩ := hx.b
  obtain ⟨c1, c2, c3, c4⟩ := hy.b
  unfold nplus
  have bm : Bd (n + m + 7) (nmax x.d y.d) := by unfold nmax; split; exact c3.mono (by omega); exact b3.mono (by omega)
  exact low_bd ne ((b1.mul c4).add (c1.mul b4) (by omega)) ((b2.mul c4).add (c2.mul b4) (by omega)) bm ((b4.mul c4).mono (by omega))
theorem nopp_V (hx : Fv d n x p q s) : Fv d n (nopp x) (-p) (-q) s := by
  obtain ⟨b1, b2, b3, b4⟩ := hx.b
  refine ⟨?_, hx.s0, b1.neg, b2.neg, b3, b4⟩
  have e := hx.e
  subst e
  unfold nopp low
  have hg : gc (-p) (-q) s = gc p q s := by unfold gc; rw [Int.natAbs_neg, Int.natAbs_neg]
  have dv : ∀ a : Int, gc p q s ∣ a → -(sg s * a / gc p q s) = sg s * -a / gc p q s := fun a h => by
    rw [Int.mul_neg, Int.neg_ediv_of_dvd (Int.dvd_trans h (Int.dvd_mul_left _ _))]
  simp only [hg, dv p gc_dp, dv q gc_dq, Int.neg_eq_zero]
theorem ntimes_V (hx : Fv d n x p q s) (hy : Fv d m y p' q' s') (hd : Dd d) : Fv d (n + m + 7) (ntimes x y) (p * p' + q * q' * d) (p * q' + q * p') (s * s') := by
  obtain ⟨k, k0, e1, e2, e3, e4, dx⟩ := hx.kk
  obtain ⟨l, l0, f1, f2, f3, f4, dy⟩ := hy.kk
  obtain ⟨n1, n2⟩ := hx.nmx hy hd
  have ne : x.s * y.s ≠ 0 := Int.mul_ne_zero (by omega) (by omega)
  have em : x.q * y.q * nmax x.d y.d = x.q * y.q * d := by
    rcases Classical.em (x.q = 0) with a | a
    · rw [a]; simp
    · rw [n1 (.inl a)]
  have eq : ntimes x y = low (p * p' + q * q' * d) (p * q' + q * p') d (s * s') := by
    unfold ntimes
    rw [em]
    refine low_eq ne (Int.mul_ne_zero hx.s0 hy.s0) ?_ ?_ fun h => n1 ?_
    · rw [e1, e2, e3, f1, f2, f3]; grind
    · rw [e1, e2, e3, f1, f2, f3]; grind
    · rcases Classical.em (x.q = 0) with a | a
      · rcases Classical.em (y.q = 0) with b | b
        · exact absurd (by rw [a, b]; simp) h
        · exact .inr b
      · exact .inl a
  refine ⟨eq, Int.mul_ne_zero hx.s0 hy.s0, ?_⟩
  obtain ⟨b1, b2, b3, b4⟩ := hx.b
  obtain ⟨c1, c2, c3, c4⟩ := hy.b
  unfold ntimes
  rw [em]
  have bm : Bd (n + m + 7) (nmax x.d y.d) := by unfold nmax; split; exact c3.mono (by omega); exact b3.mono (by omega)
  exact low_bd ne ((b1.mul c1).add ((b2.mul c2).mul (bdd hd (Nat.le_refl 6))) (by omega)) ((b1.mul c2).add (b2.mul c1) (by omega)) bm ((b4.mul c4).mono (by omega))
theorem norm_ne (hd : Dd d) (h : x.p ≠ 0 ∨ x.q ≠ 0) : x.p * x.p - x.q * x.q * d ≠ 0 := fun z => by
  obtain ⟨a, b⟩ := hd.2.2 x.p x.q (by omega)
  rcases h with h | h
  · exact h a
  · exact h b
theorem ninv_V (hy : Fv d m y p' q' s') (hd : Dd d) (h : y.p ≠ 0 ∨ y.q ≠ 0) : y.p * y.p - y.q * y.q * y.d ≠ 0 ∧ Fv d (2 * m + 7) (ninv y) (y.p * y.s) (-y.q * y.s) (y.p * y.p - y.q * y.q * d) := by
  obtain ⟨l, l0, f1, f2, f3, f4, dy⟩ := hy.kk
  have em : y.q * y.q * y.d = y.q * y.q * d := by
    rw [dy]
    split
    · rename_i z; rw [z]; simp
    · rfl
  have nz := norm_ne hd h
  obtain ⟨c1, c2, c3, c4⟩ := hy.b
  have bn : Bd (2 * m + 7) (y.p * y.p - y.q * y.q * d) := (c1.mul c1).sub ((c2.mul c2).mul (bdd hd (Nat.le_refl 6))) (by omega)
  refine ⟨by rw [em]; exact nz, ?_, nz, ?_⟩
  · unfold ninv
    rw [em]
    refine low_d fun h => ?_
    rw [dy, if_neg]
    intro z
    rw [z] at h
    simp at h
  · unfold ninv
    rw [em]
    exact low_bd nz ((c1.mul c4).mono (by omega)) ((c2.neg.mul c4).mono (by omega)) (c3.mono (by omega)) bn
/-! the promises of the field's defs -/
variable {ρ : DSt} {a b : TED} {W : WD}
theorem nb_mono {n m : Nat} {x : Nu} (h : Nb n x) (e : n ≤ m) : Nb m x := ⟨h.1.mono e, h.2.1.mono e, h.2.2.1.mono e, h.2.2.2.mono e⟩
theorem ex_ne (ha : Ex a ρ d n p q s) (hb : Ex b ρ d m p' q' s') (e1 : p * s' = p' * s) (e2 : q * s' = q' * s) : EvT (dTest (dOp dNe a b)) ρ false := by
  obtain ⟨x, fx, ex⟩ := ha
  obtain ⟨y, fy, ey⟩ := hb
  have : x = y := by rw [fx.e, fy.e]; exact low_eq fx.s0 fy.s0 e1 e2 fun _ => rfl
  subst this
  exact ev_ne ex ey (nu_shaped x) (nu_shaped x) (nu_eqv x)
theorem sos_xd (h : x.d = if x.q = 0 then 0 else d) : sos x.p x.q x.d = sos x.p x.q d := by
  rw [h]
  split
  · rename_i z; rw [z, sos_q0, sos_q0]
  · rfl
end
end KK

set_option maxHeartbeats 1000000
namespace KK
open PySem PySem.Spec L2 DL
/-! ### floors -/
theorem isqr_ex : ∀ n : Nat, ∃ r : Int, isqr n r
  | 0 => ⟨0, by unfold isqr; decide⟩
  | n + 1 => by
    obtain ⟨r, h0, h1, h2⟩ := isqr_ex n
    by_cases h : (r + 1) * (r + 1) ≤ ((n + 1 : Nat) : Int)
    · refine ⟨r + 1, by omega, h, ?_⟩
      have : (r + 1 + 1) * (r + 1 + 1) = (r + 1) * (r + 1) + 2 * r + 3 := by grind
      omega
    · exact ⟨r, h0, by omega, by omega⟩
theorem isqr_uniq {a r t : Int} (h : isqr a r) (k : isqr a t) : r = t := by
  obtain ⟨h0, h1, h2⟩ := h
  obtain ⟨k0, k1, k2⟩ := k
  rcases Int.lt_trichotomy r t with z | z | z
  · have := Int.mul_le_mul (show r + 1 ≤ t by omega) (show r + 1 ≤ t by omega) (by omega) (by omega)
    omega
  · exact z
  · have := Int.mul_le_mul (show t + 1 ≤ r by omega) (show t + 1 ≤ r by omega) (by omega) (by omega)
    omega
section
variable {d : Int} {n m : Nat} {x y : Nu} {p q s p' q' s' : Int} {ρ : DSt} {a b : TED} {W : WD}
theorem fl_ex (hd : 0 ≤ x.d) : ∃ k, Fl x k := by
  obtain ⟨r, h⟩ := isqr_ex (x.q * x.q * x.d).toNat
  have : (((x.q * x.q * x.d).toNat : Nat) : Int) = x.q * x.q * x.d := Int.toNat_of_nonneg (Int.mul_nonneg (sq_nn _) hd)
  rw [this] at h
  exact ⟨_, r, h, rfl⟩
theorem fl_uniq {k l : Int} (h : Fl x k) (g : Fl x l) : k = l := by
  obtain ⟨r, h1, rfl⟩ := h
  obtain ⟨t, g1, rfl⟩ := g
  rw [isqr_uniq h1 g1]
/-- a value that is its own lowest form -/
theorem Fv.self (h : Fv d n x p q s) : Fv d n x x.p x.q x.s := by
  obtain ⟨k, k0, e1, e2, e3, e4, dx⟩ := h.kk
  refine ⟨?_, by omega, h.b⟩
  have := low_scale (p := x.p) (q := x.q) (s := x.s) d k0 (by omega)
  rw [← e1, ← e2, ← e3, ← h.e] at this
  exact this
theorem low_gc (hs : s ≠ 0) : gc (low p q d s).p (low p q d s).q (low p q d s).s = 1 := by
  obtain ⟨k, k0, e1, e2, e3, e4⟩ := low_spec (p := p) (q := q) d hs
  have g0 := gc_pos (p := p) (q := q) hs
  have e := gc_scale k (low p q d s).p (low p q d s).q (low p q d s).s
  rw [← e1, ← e2, ← e3] at e
  have hb := back (gc_ds (p := p) (q := q) (s := s)) (sg_sq s)
  have e5 : s = sg s * gc p q s * (low p q d s).s := hb
  have e6 : k = sg s * gc p q s := by
    have : k * (low p q d s).s = sg s * gc p q s * (low p q d s).s := by rw [← e3, ← e5]
    exact Int.eq_of_mul_eq_mul_right (by omega) this
  have e7 : (k.natAbs : Int) = gc p q s := by
    rw [e6]
    unfold sg
    split <;> omega
  rw [e7] at e
  have : gc p q s * 1 = gc p q s * gc (low p q d s).p (low p q d s).q (low p q d s).s := by rw [Int.mul_one]; exact e
  exact (Int.eq_of_mul_eq_mul_left (by omega) this).symm
theorem gc_shift (v : Int) (hs : x.s ≠ 0) (h : gc x.p x.q x.s = 1) : gc (x.p + v * x.s) x.q x.s = 1 := by
  have g0 := gc_pos (p := x.p + v * x.s) (q := x.q) hs
  have d1 : gc (x.p + v * x.s) x.q x.s ∣ x.p := by
    have := Int.dvd_sub (gc_dp (p := x.p + v * x.s) (q := x.q) (s := x.s)) (Int.dvd_trans (gc_ds (p := x.p + v * x.s) (q := x.q) (s := x.s)) (Int.dvd_mul_left v x.s))
    rwa [Int.add_sub_cancel] at this
  have d2 : gc (x.p + v * x.s) x.q x.s ∣ gc x.p x.q x.s := by
    have n1 := Int.natAbs_dvd_natAbs.mpr d1
    have n2 := Int.natAbs_dvd_natAbs.mpr (gc_dq (p := x.p + v * x.s) (q := x.q) (s := x.s))
    have n3 := Int.natAbs_dvd_natAbs.mpr (gc_ds (p := x.p + v * x.s) (q := x.q) (s := x.s))
    have := Nat.dvd_gcd (Nat.dvd_gcd n1 n2) n3
    exact Int.natAbs_dvd_natAbs.mp (by unfold gc at this ⊢; simpa using this)
  rw [h] at d2
  have := Int.le_of_dvd (by decide) d2
  omega
theorem low_one {p q d s : Int} (hs : 0 < s) (h : gc p q s = 1) : low p q d s = ⟨p, q, if q = 0 then 0 else d, s⟩ := by
  unfold low
  have : sg s = 1 := by unfold sg; rw [if_neg (by omega)]
  rw [h, this]
  simp
/-- x and a whole number more -/
theorem fl_shift (h : Fv d n x p q s) {k : Int} (v : Int) (hk : Fl x k) : Fl (low (x.p + v * x.s) x.q d x.s) (k + v) := by
  obtain ⟨l, l0, e1, e2, e3, e4, dx⟩ := h.kk
  have g1 : gc x.p x.q x.s = 1 := by rw [h.e]; exact low_gc h.s0
  rw [low_one e4 (gc_shift v (by omega) g1), ← dx]
  obtain ⟨r, h1, rfl⟩ := hk
  refine ⟨r, h1, ?_⟩
  show (if 0 ≤ x.q then (x.p + r) / x.s else (x.p - r - 1) / x.s) + v = if 0 ≤ x.q then (x.p + v * x.s + r) / x.s else (x.p + v * x.s - r - 1) / x.s
  split
  · rw [show x.p + v * x.s + r = x.p + r + v * x.s by grind, Int.add_mul_ediv_right _ _ (by omega)]
  · rw [show x.p + v * x.s - r - 1 = x.p - r - 1 + v * x.s by grind, Int.add_mul_ediv_right _ _ (by omega)]
theorem sq_lt {a b : Int} (h0 : 0 ≤ a) (h : a < b) : a * a < b * b := by
  have := Int.mul_le_mul (show a + 1 ≤ b by omega) (show a + 1 ≤ b by omega) (by omega) (by omega)
  have e : (a + 1) * (a + 1) = a * a + 2 * a + 1 := by grind
  omega
theorem sq_le {a b : Int} (h0 : 0 ≤ a) (h : a ≤ b) : a * a ≤ b * b := Int.mul_le_mul h h h0 (by omega)
/-- the floor is not above, the next is above -/
theorem fl_sos (h : Fv d n x p q s) (hd : Dd d) {k : Int} (hk : Fl x k) : sos (k * x.s - x.p) (0 - x.q) d ≤ 0 ∧ sos ((k + 1) * x.s - x.p) (0 - x.q) d = 1 := by
  obtain ⟨l, l0, e1, e2, e3, e4, dx⟩ := h.kk
  obtain ⟨r, ⟨r0, r1, r2⟩, ek⟩ := hk
  have hd0 := hd.1
  have qd : x.q * x.q * x.d = x.q * x.q * d := by
    rw [dx]; split
    · rename_i z; rw [z]; simp
    · rfl
  rw [qd] at r1 r2
  have nq : (0 - x.q) * (0 - x.q) * d = x.q * x.q * d := by grind
  by_cases hq : 0 ≤ x.q
  · rw [if_pos hq] at ek
    have l1 : k * x.s ≤ x.p + r := by
      rw [ek, Int.mul_comm]; exact Int.mul_ediv_self_le (by omega)
    have l2 : x.p + r < (k + 1) * x.s := by
      rw [ek, Int.mul_comm]
      have := Int.lt_mul_ediv_self_add (x := x.p + r) e4
      grind
    by_cases z : x.q = 0
    · have r00 : r = 0 := by
        rw [z] at r1
        rcases Int.lt_or_le 0 r with c | c
        · have := Int.mul_pos c c; simp at r1; omega
        · omega
      rw [z]
      simp only [Int.sub_zero, sos_q0]
      refine ⟨?_, sgi_pos (by omega)⟩
      unfold sgi
      split
      · omega
      · split <;> omega
    · have qp : 0 < x.q * x.q * d := Int.mul_pos (Int.mul_pos (by omega) (by omega)) hd0
      constructor
      · rcases Int.lt_trichotomy ((k * x.s - x.p) * (k * x.s - x.p) - (0 - x.q) * (0 - x.q) * d) 0 with c | c | c
        · rw [sos_N hd0 c, sgi_neg (by omega)]; decide
        · obtain ⟨_, a2⟩ := hd.2.2 _ _ (show (k * x.s - x.p) * (k * x.s - x.p) = (0 - x.q) * (0 - x.q) * d by omega)
          omega
        · rw [sos_P hd0 c]
          rcases Int.lt_or_le 0 (k * x.s - x.p) with t | t
          · have := sq_le (show 0 ≤ k * x.s - x.p by omega) (show k * x.s - x.p ≤ r by omega)
            omega
          · unfold sgi
            rw [if_neg (by omega)]
            split <;> omega
      · have := sq_le (show 0 ≤ r + 1 by omega) (show r + 1 ≤ (k + 1) * x.s - x.p by omega)
        rw [sos_P hd0 (by omega), sgi_pos (by omega)]
  · rw [if_neg hq] at ek
    have l1 : k * x.s ≤ x.p - r - 1 := by
      rw [ek, Int.mul_comm]; exact Int.mul_ediv_self_le (by omega)
    have l2 : x.p - r - 1 < (k + 1) * x.s := by
      rw [ek, Int.mul_comm]
      have := Int.lt_mul_ediv_self_add (x := x.p - r - 1) e4
      grind
    have neq : r * r ≠ x.q * x.q * d := fun z => by
      obtain ⟨_, a2⟩ := hd.2.2 _ _ z
      omega
    constructor
    · have := sq_le (show 0 ≤ r + 1 by omega) (show r + 1 ≤ -(k * x.s - x.p) by omega)
      have e : -(k * x.s - x.p) * -(k * x.s - x.p) = (k * x.s - x.p) * (k * x.s - x.p) := by grind
      rw [sos_P hd0 (by omega), sgi_neg (by omega)]; decide
    · rcases Int.lt_trichotomy (((k + 1) * x.s - x.p) * ((k + 1) * x.s - x.p) - (0 - x.q) * (0 - x.q) * d) 0 with c | c | c
      · rw [sos_N hd0 c, sgi_pos (by omega)]
      · obtain ⟨_, a2⟩ := hd.2.2 _ _ (show ((k + 1) * x.s - x.p) * ((k + 1) * x.s - x.p) = (0 - x.q) * (0 - x.q) * d by omega)
        omega
      · rw [sos_P hd0 c]
        rcases Int.lt_or_le ((k + 1) * x.s - x.p) 0 with t | t
        · have := sq_le (show 0 ≤ -((k + 1) * x.s - x.p) by omega) (show -((k + 1) * x.s - x.p) ≤ r by omega)
          have e : -((k + 1) * x.s - x.p) * -((k + 1) * x.s - x.p) = ((k + 1) * x.s - x.p) * ((k + 1) * x.s - x.p) := by grind
          omega
        · rcases Int.lt_or_le 0 ((k + 1) * x.s - x.p) with u | u
          · exact sgi_pos u
          · have : (k + 1) * x.s - x.p = 0 := by omega
            rw [this] at c
            have := sq_nn (0 - x.q)
            have := Int.mul_nonneg this (Int.le_of_lt hd0)
            omega
theorem fl_bd (h : Fv d n x p q s) (hd : Dd d) {k : Int} (hk : Fl x k) : Bd (n + 6) k := by
  obtain ⟨l, l0, e1, e2, e3, e4, dx⟩ := h.kk
  obtain ⟨r, ⟨r0, r1, r2⟩, ek⟩ := hk
  obtain ⟨b1, b2, b3, b4⟩ := h.b
  have hd0 := hd.1
  have hd1 := hd.2.1
  have rb : Bd (n + 4) r := by
    have dle : x.d ≤ 64 := by rw [dx]; split <;> omega
    have e8 : x.q * x.q * x.d ≤ 8 * (x.q.natAbs : Int) * (8 * (x.q.natAbs : Int)) := by
      have h1 := Int.mul_le_mul_of_nonneg_left dle (sq_nn x.q)
      have h2 : (x.q.natAbs : Int) * (x.q.natAbs : Int) = x.q * x.q := Int.natAbs_mul_self
      have h3 : 8 * (x.q.natAbs : Int) * (8 * (x.q.natAbs : Int)) = (x.q.natAbs : Int) * (x.q.natAbs : Int) * 64 := by grind
      rw [h3, h2]; exact h1
    have le : r ≤ 8 * (x.q.natAbs : Int) := by
      rcases Int.lt_or_le (8 * (x.q.natAbs : Int)) r with c | c
      · have := sq_lt (by omega) c
        omega
      · exact c
    have b8 : Bd (n + 4) (8 * (x.q.natAbs : Int)) := by
      have : Bd n (x.q.natAbs : Int) := by unfold Bd at *; omega
      exact ((show Bd 4 8 by unfold Bd; decide).mul this).mono (by omega)
    exact b8.of r0 le
  rw [ek]
  split
  · exact Bd.div (b1.add rb (by omega)) _ e4
  · refine Bd.div ?_ _ e4
    exact (b1.sub rb (k := n + 5) (by omega)).sub (show Bd 1 1 by unfold Bd; decide) (by omega)
end
/-! ### the six roots -/
end KK

set_option maxHeartbeats 1000000
namespace KK
open PySem PySem.Spec L2 DL
section
variable {ρ : DSt} {a b c e : TED} {W : WD} {D : DEnds} {nn : TSD}
theorem ev_new {dr : TND} {zs : List PyData} (h : EvA dr ρ zs) (hl : zs.length ≤ 1000) : Ev (dNew (nLst dr)) ρ (.list zs) := fun Q k => h _ ⟨Nat.le_trans hl (by rw [sizeLine_eq]; decide), k _ (fun _ h => h) (fun _ h => h)⟩
theorem Pr.run {p : DSp} {ds : List PyData} {z : PyData} (h : Pr p ds z) {Q : R → DSt → Prop} (k : Q (.d z) ρ) : p (ds.map SD.val) (fun r _ => retD Q ρ r) (fun e _ => W e ρ) := h _ _ k
/-- the roots of a turn -/
structure Rt (z f r : Int) : Prop where
  d : Dd r
  r2 : 2 ≤ r
  f0 : 0 < f
  f3 : f ≤ 3
  e : f * f * r = z
  u : ∀ f' r', 0 < f' → 0 < r' → f' * f' * r' = z → sqfree r' → f' = f ∧ r' = r
theorem Rt.z {z f r : Int} (h : Rt z f r) : 0 < z ∧ z < 600 := by
  have h1 := h.d.1
  have h2 := h.d.2.1
  have h3 := h.f3
  have h4 := h.f0
  have hf : f = 1 ∨ f = 2 ∨ f = 3 := by omega
  have := h.e
  rcases hf with rfl | rfl | rfl <;> omega
/-! draws -/
theorem dr_upto {io : Bool} {s : Spl} {m : Nat} {b : Int} {Q : R → DSt → Prop} (h : ρ[1]? = some (.own io s.L)) (ha : Ev a ρ (.int b)) (hs : Sok m s) (hm : m < 2 ^ 50) (h0 : 0 < b) (hb : Bd 1000 b) (k : ∀ n s', 0 ≤ n → n < b → Sok (m + 1) s' → Q (.d (.int n)) (ρ.set 1 (.own io s'.L))) :
    withLent 1 (dCallL p__law_upto W 1 (dCons a dNil)) ρ Q := by
  refine ⟨by unfold isLent; rw [h]; trivial, eva_cons ha eva_nil _ ?_⟩
  show lendK ρ 1 _
  unfold lendK
  rw [h]
  refine ⟨s, m, b, rfl, hs, by omega, h0, hb.mono (by omega), fun n s' n0 n1 hs' => ?_⟩
  unfold backK
  rw [h]
  exact k n s' n0 n1 hs'
theorem dr_choice {io : Bool} {s : Spl} {m : Nat} {xs : List PyData} {Q : R → DSt → Prop} (h : ρ[1]? = some (.own io s.L)) (ha : Ev a ρ (.list xs)) (hs : Sok m s) (hm : m < 2 ^ 50) (h0 : xs ≠ []) (hb : xs.length < 1000) (k : ∀ x s', x ∈ xs → Sok (m + 1) s' → Q (.d x) (ρ.set 1 (.own io s'.L))) :
    withLent 1 (dCallL p__law_choice W 1 (dCons a dNil)) ρ Q := by
  refine ⟨by unfold isLent; rw [h]; trivial, eva_cons ha eva_nil _ ?_⟩
  show lendK ρ 1 _
  unfold lendK
  rw [h]
  refine ⟨s, m, xs, rfl, hs, by omega, h0, by omega, fun x s' hx hs' => ?_⟩
  unfold backK
  rw [h]
  exact k x s' hx hs'
theorem s_spool {ns : List Int} {rest : DSt} (hl : ns.length ≤ 63) (k : ∀ s, Sok 0 s → nn D (.res true (scriptR ns) :: .own false s.L :: rest)) : sSeq (sOwn 1 (withLentN 0 (nCallL p__law_spool_of W 0 dNil))) nn D (.res true (scriptR ns) :: .no :: rest) := by
  refine ⟨trivial, ns, rfl, hl, fun s hs => ⟨?_, k s hs⟩⟩
  show 1 < _
  simp
end
end KK

set_option maxHeartbeats 2000000
namespace KK
open PySem PySem.Spec L2 DL
theorem rg {P : Prop} (a b : P) : P := a
def Good (r : Int) (y : PyData) : Prop := ∃ x p q s, y = Nu.D x ∧ Fv r 60 x p q s ∧ 0 < s
theorem small_mul {i j : Int} (h1 : i.natAbs < 2 ^ 100) (h2 : j.natAbs < 2 ^ 100) : CMulW i j := Bd.cm (n := 100) (m := 100) h1 h2 (by omega)
end KK

set_option maxHeartbeats 4000000
namespace KK
open PySem PySem.Spec L2 DL
theorem evt_and0 {ρ : DSt} {ta tb : TTD} {u : Bool} (h : EvT ta ρ u) (h2 : u = true → EvT tb ρ false) : EvT (dAnd ta tb) ρ false := fun Q hq => h _ (by cases u with | false => exact hq | true => exact h2 rfl _ hq)
theorem evt_or0 {ρ : DSt} {ta tb : TTD} (h : EvT ta ρ false) (h2 : EvT tb ρ false) : EvT (dOr ta tb) ρ false := fun Q hq => h _ (h2 _ hq)
theorem sos_range (p q d : Int) : sos p q d = -1 ∨ sos p q d = 0 ∨ sos p q d = 1 := by
  have sg3 : ∀ x, sgi x = -1 ∨ sgi x = 0 ∨ sgi x = 1 := fun x => by unfold sgi; split; exact .inr (.inr rfl); split; exact .inl rfl; exact .inr (.inl rfl)
  have b3 : (if 0 < d then sgi q else 0) = -1 ∨ (if 0 < d then sgi q else 0) = 0 ∨ (if 0 < d then sgi q else 0) = 1 := by split; exact sg3 q; exact .inr (.inl rfl)
  have a3 := sg3 p
  unfold sos
  generalize (if 0 < d then sgi q else 0) = b at b3 ⊢
  generalize sgi p = a at a3 ⊢
  split
  · exact a3
  · split
    · exact b3
    · split
      · exact a3
      · exact b3
theorem ev_gtI {ρ : DSt} {a b : TED} {i j : Int} (ha : Ev a ρ (.int i)) (hb : Ev b ρ (.int j)) (h : ¬ j < i) : EvT (dTest (dOp dGt a b)) ρ false :=
  evt_test (ev_op (z := .bool false) ha hb fun k hk => by show k (.bool (decide (j < i))); rw [decide_eq_false h]; exact hk)
theorem ev_ltI {ρ : DSt} {a b : TED} {i j : Int} (ha : Ev a ρ (.int i)) (hb : Ev b ρ (.int j)) (h : ¬ i < j) : EvT (dTest (dOp dLt a b)) ρ false :=
  evt_test (ev_op (z := .bool false) ha hb fun k hk => by show k (.bool (decide (i < j))); rw [decide_eq_false h]; exact hk)
end KK

set_option maxHeartbeats 1000000
namespace KK
open PySem PySem.Spec L2 DL
theorem pure__law_alike (α : List SD) (QD : Ret → List SD → Prop) (ED : Exd → List SD → Prop) (W : WD) (hW : W = fun e ρ => outK α ρ fun α' => ED e α') (h : p__law_alike α QD ED) : r__law_alike W (DEnd α QD) (startD n__law_alike.length α) := by
  obtain ⟨x, rfl, h1, h2, h3, h4, hq⟩ := h
  unfold r__law_alike DEnd
  simp [sSeq, sIf, sNext, sSet, sAug, sRet, sPar, sPar3, asThree, sRaise, sAsg, sOwn, sApp, sPut, sRetN, sRetOwn, sRetU, sDrop, sBreak, sCont, dVar, dC, dOp, dTest, dCons, dNil, dTup, nLst, dNew, dNeg, dIf, dF1, dAnd, dOr, dNot, dAndV, dOrV, dNotV, dCall, nCall, dCallL, nCallL, withLent, withLentN, vw, frz, dI, dI0, dB0, int2, dEq, dNe, dAdd, dSub, dIAdd, atD, gName', gTup', gNil', gCons', gLst', lenIs, retD, retN, lendK, backK, isLent, ownK, fAbs, fLen, fMax, fMin, startD, outK, shp_int, eqv_int, dIsD, dIsX, dIsNone, dM1, isL, fCount, fIndex, dEqS, dIs, fRepr, n__law_alike, h1, h2, h3, h4]
  exact hq
theorem fdn {g a : Int} (hg : 0 < g) (h : g ∣ a) : a.fdiv (-g) = -a / g := by
  obtain ⟨y, rfl⟩ := h
  have e1 : g * y = -g * -y := by grind
  rw [e1, Int.mul_fdiv_cancel_left _ (by omega)]
  rw [show -(-g * -y) = g * -y by grind, Int.mul_ediv_cancel_left _ (by omega)]
end KK

set_option maxHeartbeats 2000000
namespace KK
open PySem PySem.Spec L2 DL
theorem small_line {n : Nat} (h : n ≤ 1000) : n ≤ sizeLine := Nat.le_trans h (by rw [sizeLine_eq]; decide)
theorem ev_isX {i : Nat} {ρ : DSt} {e : Exd} {R0 : Addr → Bool → Prop} {b : Bool} (io : Bool) (h : ρ[i]? = some (.res io (excR e))) (hr : R0 e.C b) : Ev (dIsX i R0) ρ (.bool b) := fun Q k => ⟨io, e, b, h, hr, k _ (fun _ h => h) (fun _ h => h)⟩
theorem ev_m1 {ρ : DSt} {f : PyData → PyData → (PyData → Prop) → Prop} {a b : TED} {ds : List PyData} {y z : PyData} (ha : Ev a ρ (.list ds)) (hb : Ev b ρ y) (hf : ∀ k : PyData → Prop, k z → f (.list ds) y k) : Ev (dM1 f a b) ρ z := fun Q k =>
  ha _ fun r1 h1 _ => h1 _ ⟨trivial, hb _ fun r2 h2 _ => h1 _ (h2 _ (hf _ (k _ (fun _ h => h) (fun _ h => h))))⟩
theorem ev_set_seq {ρ : DSt} {i : Nat} {a : TED} {n : TSD} {D : DEnds} {z : PyData} (h : Ev a ρ z) (k : n D (ρ.set i (.val z))) : sSeq (sSet i a) n D ρ := s_set h k
theorem s_ret {ρ : DSt} {a : TED} {D : DEnds} {z : PyData} (h : Ev a ρ z) (k : D.rt (.d z) ρ) : sRet a D ρ := h _ fun r _ h2 => h2 (fun d ρ2 => D.rt (.d d) ρ2) k
end KK

set_option maxHeartbeats 2000000
namespace KK
open PySem PySem.Spec L2 DL
theorem ev_isD {ρ : DSt} {a : TED} {z : PyData} (isT : PyData → Bool) (h : Ev a ρ z) : Ev (dIsD isT a) ρ (.bool (isT z)) := fun Q k => h _ fun r h1 _ => h1 _ (k _ (fun _ h => h) (fun _ h => h))
theorem ev_f1 {ρ : DSt} {f : PyData → (PyData → Prop) → Prop} {a : TED} {x z : PyData} (h : Ev a ρ x) (hf : ∀ k : PyData → Prop, k z → f x k) : Ev (dF1 f a) ρ z := fun Q k => h _ fun r h1 _ => h1 _ (hf _ (k _ (fun _ h => h) (fun _ h => h)))
theorem ev_andV {ρ : DSt} {a b : TED} {z : PyData} (h : Ev a ρ (.bool true)) (h2 : Ev b ρ z) : Ev (dAndV a b) ρ z := fun Q k => h _ fun r h1 _ => h1 _ (h2 _ k)
theorem s_asg {ρ : DSt} {a : TED} {g : TGD} {n : TSD} {D : DEnds} {z : PyData} (h : Ev a ρ z) (k : g z ρ (n D)) : sSeq (sAsg a g) n D ρ := h _ fun r _ h2 => h2 (fun d ρ2 => g d ρ2 (n D)) k
theorem num_canon {x : Nu} (h : Cn x) {f r : Int} (hs : sqp x.d f r) : numF x.p x.q f r x.s = x := by
  obtain ⟨s0, g1, hqd, _⟩ := h
  rcases hqd with ⟨hq, hd⟩ | ⟨hq, hd, sq⟩
  · rcases hs with ⟨_, rfl, rfl⟩ | ⟨h, _⟩
    · unfold numF
      rw [if_pos (by decide), hq]
      rw [hq] at g1
      have : x.p + 0 * 0 = x.p := by omega
      rw [this, low_one s0 g1]
      obtain ⟨p, q, d, s⟩ := x
      simp at hq hd ⊢
      exact ⟨hq.symm, hd.symm⟩
    · omega
  · rcases hs with ⟨h, _⟩ | ⟨_, f0, r0, e, sr⟩
    · omega
    · have f1 : f = 1 := by
        rcases Int.lt_or_le 1 f with z | z
        · exact absurd ⟨r, e.symm⟩ (sq f z)
        · omega
      subst f1
      have er : r = x.d := by omega
      subst er
      unfold numF
      rw [if_neg (by omega), Int.mul_one, low_one s0 g1, if_neg hq]
theorem dr_uptoJ {ρ : DSt} {a : TED} {W : WD} (j : Nat) {io : Bool} {s : Spl} {m : Nat} {b : Int} {Q : R → DSt → Prop} (h : ρ[j]? = some (.own io s.L)) (ha : Ev a ρ (.int b)) (hs : Sok m s) (hm : m < 2 ^ 50) (h0 : 0 < b) (hb : Bd 1000 b) (k : ∀ n s', 0 ≤ n → n < b → Sok (m + 1) s' → Q (.d (.int n)) (ρ.set j (.own io s'.L))) :
    withLent j (dCallL p__law_upto W j (dCons a dNil)) ρ Q := by
  refine ⟨by unfold isLent; rw [h]; trivial, eva_cons ha eva_nil _ ?_⟩
  show lendK ρ j _
  unfold lendK
  rw [h]
  refine ⟨s, m, b, rfl, hs, by omega, h0, hb.mono (by omega), fun n s' n0 n1 hs' => ?_⟩
  unfold backK
  rw [h]
  exact k n s' n0 n1 hs'
end KK

set_option maxHeartbeats 4000000
namespace KK
open PySem PySem.Spec L2 DL
theorem lcD_inv {vs : List Nat} {g : TGD} {te : TED} {Q : List PyData → DSt → Prop} (Inv : Nat → DSt → Prop) (P : PyData → Prop) : ∀ (items acc : List PyData) (ρ : DSt), Inv items.length ρ → acc.length + items.length ≤ 900 → (∀ z ∈ acc, P z) →
    (∀ k x ρ (Q' : R → DSt → Prop), x ∈ items → Inv (k + 1) ρ → (∀ z ρ', P z → Inv k (wipeD ρ' vs) → Q' (.d z) ρ') → g x ρ fun ρ1 => te ρ1 Q') →
    (∀ ds ρ', ds.length = acc.length + items.length → (∀ z ∈ ds, P z) → Inv 0 ρ' → Q ds ρ') → lcD vs g dYes te items acc ρ Q
  | [], acc, ρ, h, _, ha, _, fin => fin acc ρ (by simp) ha h
  | x :: xs, acc, ρ, h, hl, ha, step, fin => by
    simp only [List.length_cons] at hl
    refine step xs.length x ρ _ List.mem_cons_self h fun z ρ' hz hi => ?_
    refine ⟨Nat.lt_of_lt_of_le (show acc.length < 1000 by omega) (by rw [sizeLine_eq]; decide), ?_⟩
    refine lcD_inv Inv P xs (acc ++ [z]) _ hi (by simp; omega) (fun y hy => ?_) (fun k y ρ Q' hy => step k y ρ Q' (List.mem_cons_of_mem _ hy)) fun ds ρ' hd => fin ds ρ' (by simp at hd ⊢; omega)
    rcases List.mem_append.mp hy with h | h
    · exact ha y h
    · rw [List.mem_singleton.mp h]; exact hz
/-! squarefree parts are the same -/
theorem sqf_one {a b r : Nat} (hc : Nat.Coprime a b) (h : a * a ∣ b * b * r) : a * a ∣ r := by
  have c1 : Nat.Coprime (a * a) b := Nat.Coprime.mul_left hc hc
  have c2 : Nat.Coprime (a * a) (b * b) := Nat.Coprime.mul_right c1 c1
  exact Nat.Coprime.dvd_of_dvd_mul_left c2 h
theorem sqf_uniq {f r f' r' : Int} (f0 : 0 < f) (r0 : 0 < r) (f0' : 0 < f') (r0' : 0 < r') (e : f * f * r = f' * f' * r') (s : sqfree r) (s' : sqfree r') : f = f' ∧ r = r' := by
  obtain ⟨F, rfl⟩ := Int.eq_ofNat_of_zero_le (Int.le_of_lt f0)
  obtain ⟨F', rfl⟩ := Int.eq_ofNat_of_zero_le (Int.le_of_lt f0')
  obtain ⟨S, rfl⟩ := Int.eq_ofNat_of_zero_le (Int.le_of_lt r0)
  obtain ⟨S', rfl⟩ := Int.eq_ofNat_of_zero_le (Int.le_of_lt r0')
  have e : F * F * S = F' * F' * S' := by exact_mod_cast e
  have one : ∀ {a b r r' : Nat}, Nat.Coprime a b → a * a * r = b * b * r' → 0 < a → sqfree (r' : Int) → a = 1 := fun {a b r r'} hc h ha hs => by
    have hd : a * a ∣ r' := sqf_one hc ⟨r, h.symm⟩
    rcases Nat.lt_or_ge 1 a with z | z
    · exact absurd (show ((a : Int) * (a : Int)) ∣ (r' : Int) by exact_mod_cast Int.natCast_dvd_natCast.mpr hd) (hs (a : Int) (by omega))
    · omega
  have g0 : 0 < Nat.gcd F F' := Nat.gcd_pos_of_pos_left _ (by omega)
  obtain ⟨a, ha⟩ := Nat.gcd_dvd_left F F'
  obtain ⟨b, hb⟩ := Nat.gcd_dvd_right F F'
  have hc : Nat.Coprime a b := by
    have h1 : a = F / Nat.gcd F F' := (Nat.div_eq_of_eq_mul_right g0 ha).symm
    have h2 : b = F' / Nat.gcd F F' := (Nat.div_eq_of_eq_mul_right g0 hb).symm
    rw [h1, h2]
    exact Nat.coprime_div_gcd_div_gcd g0
  generalize hg : Nat.gcd F F' = g at ha hb g0
  have h3 : a * a * S = b * b * S' := by
    rw [ha, hb] at e
    have e2 : g * g * (a * a * S) = g * g * (b * b * S') := by grind
    exact Nat.eq_of_mul_eq_mul_left (Nat.mul_pos g0 g0) e2
  have a0 : 0 < a := Nat.pos_of_ne_zero fun z => by rw [z] at ha; simp at ha; omega
  have b0 : 0 < b := Nat.pos_of_ne_zero fun z => by rw [z] at hb; simp at hb; omega
  have a1 := one hc h3 a0 s'
  have b1 := one hc.symm h3.symm b0 s
  subst a1 b1
  refine ⟨by rw [ha, hb], ?_⟩
  simp at h3
  rw [h3]
theorem sqp_uniq {d f r f' r' : Int} (h : sqp d f r) (h' : sqp d f' r') : f' = f ∧ r' = r := by
  rcases h with ⟨h1, h2, h3⟩ | ⟨h1, h2, h3, h4, h5⟩ <;> rcases h' with ⟨k1, k2, k3⟩ | ⟨k1, k2, k3, k4, k5⟩
  · omega
  · omega
  · omega
  · exact sqf_uniq k2 k3 h2 h3 (by rw [k4, h4]) k5 h5
/-! shown -/
theorem int_len {i : Int} (h : Bd 1900 i) : (Str.ofString (toString i)).length ≤ 1921 := by
  rw [PySem.ofString_length]
  refine PySem.int_text_length_le (k := 1920) (by decide) ?_
  unfold Bd at h
  by_cases z : i.natAbs = 0
  · rw [z]; decide
  · exact Nat.lt_of_lt_of_le ((Nat.log2_lt z).mpr h) (by decide)
theorem bd_show {i : Int} (h : Bd 1900 i) : i.natAbs.log2 < 1920 := by
  unfold Bd at h
  by_cases z : i.natAbs = 0
  · rw [z]; decide
  · exact Nat.lt_of_lt_of_le ((Nat.log2_lt z).mpr h) (by decide)
theorem nu_shown {x : Nu} (h : Nb 1900 x) : x.D.showable = true ∧ x.D.hasDict = false ∧ x.D.depth ≤ 60 ∧ x.D.shown.length ≤ sizeLine := by
  obtain ⟨h1, h2, h3, h4⟩ := h
  refine ⟨?_, rfl, (by show (1 : Nat) ≤ 60; decide), ?_⟩
  · show (decide _ && (decide _ && (decide _ && (decide _ && true)))) = true
    rw [decide_eq_true (bd_show h1), decide_eq_true (bd_show h2), decide_eq_true (bd_show h3), decide_eq_true (bd_show h4)]; rfl
  · have e := PySem.join_length_add [toString x.p, toString x.q, toString x.d, toString x.s] (by simp)
    have l1 := int_len h1
    have l2 := int_len h2
    have l3 := int_len h3
    have l4 := int_len h4
    simp only [PySem.piled_cons, PySem.piled_nil] at e
    show (("(" : Str) ++ Str.join ", " [toString x.p, toString x.q, toString x.d, toString x.s] ++ (")" : Str)).length ≤ sizeLine
    rw [Str.length_append, Str.length_append]
    have o1 : ("(" : Str).length = 1 := rfl
    have o2 : (")" : Str).length = 1 := rfl
    rw [o1, o2, sizeLine_eq]
    omega
end KK

set_option maxHeartbeats 4000000
namespace KK
open PySem PySem.Spec L2 DL
theorem s_ifseq {ρ : DSt} {x : TTD} {t e n : TSD} {D : DEnds} (h : EvT x ρ true) (k : t { D with nx := n D } ρ) : sSeq (sIf x t e) n D ρ := h _ k
theorem s_set1 {ρ : DSt} {i : Nat} {a : TED} {D : DEnds} {z : PyData} (h : Ev a ρ z) (k : D.nx (ρ.set i (.val z))) : sSet i a D ρ := h _ fun r _ h2 => h2 (fun d ρ2 => D.nx (ρ2.set i (.val d))) k
theorem sqp_f {d f r : Int} (h : sqp d f r) (hd : Bd 60 d) : Bd 60 f := by
  rcases h with ⟨_, rfl, _⟩ | ⟨h0, f0, r0, e, _⟩
  · exact bd0 _
  · refine hd.of (by omega) ?_
    have h1 := Int.mul_le_mul_of_nonneg_left (show 1 ≤ f by omega) (show 0 ≤ f by omega)
    have h2 := Int.mul_le_mul_of_nonneg_left (show 1 ≤ r by omega) (show 0 ≤ f * f by have := Int.mul_pos f0 f0; omega)
    omega
theorem sqp_r {d f r : Int} (h : sqp d f r) (hd : Bd 60 d) : Bd 60 r := by
  rcases h with ⟨_, _, rfl⟩ | ⟨h0, f0, r0, e, _⟩
  · exact bd0 _
  · refine hd.of (by omega) ?_
    have h2 := Int.mul_le_mul_of_nonneg_right (show 1 ≤ f * f by have := Int.mul_pos f0 f0; omega) (show 0 ≤ r by omega)
    omega
theorem numF_Cn {p q d f r s : Int} (hs : s ≠ 0) (h : sqp d f r) (bp : Bd 1000 p) (bq : Bd 1000 q) (bd : Bd 60 d) (bs : Bd 1000 s) : Cn (numF p q f r s) ∧ Nb 1900 (numF p q f r s) := by
  have bf := sqp_f h bd
  have br := sqp_r h bd
  have bqf : Bd 1060 (q * f) := bq.mul bf
  have b1 : Bd 1900 (p + q * f) := bp.add bqf (by omega)
  have key : ∀ (P Q D : Int), Bd 1900 P → Bd 1900 Q → Bd 1900 D → (Q = 0 ∨ (1 < D ∧ sqfree D)) → Cn (low P Q D s) ∧ Nb 1900 (low P Q D s) := by
    intro P Q D b1 b2 b3 hh
    have nb := low_bd hs b1 b2 b3 (bs.mono (show 1000 ≤ 1900 by omega))
    obtain ⟨k, k0, e1, e2, e3, e4⟩ := low_spec (p := P) (q := Q) D hs
    have dd := low_dd (p := P) (q := Q) (d := D) hs
    have qq := low_q (p := P) (q := Q) (d := D) hs
    refine ⟨⟨e4, low_gc hs, ?_, nb_mono nb (by omega)⟩, nb⟩
    by_cases hq : (low P Q D s).q = 0
    · exact .inl ⟨hq, by rw [dd, if_pos hq]⟩
    · rcases hh with h | h
      · exact absurd (qq.mpr h) hq
      · exact .inr ⟨hq, by rw [dd, if_neg hq]; exact h.1, by rw [dd, if_neg hq]; exact h.2⟩
  unfold numF
  by_cases hr : r < 2
  · rw [if_pos hr]
    exact key _ _ _ b1 (bd0 _) (bd0 _) (.inl rfl)
  · rw [if_neg hr]
    refine key _ _ _ (bp.mono (by omega)) (bqf.mono (by omega)) (br.mono (by omega)) (.inr ⟨by omega, ?_⟩)
    rcases h with ⟨_, _, h⟩ | ⟨_, _, _, _, h⟩
    · omega
    · exact h
end KK

namespace KK
open PySem PySem.Spec L2 DL
theorem len__law_stirred : ∀ α QD ED, p__law_stirred α QD ED → α.length = [("cell" : Str), "place"].length := by rintro α QD ED ⟨a, b, rfl, _⟩; rfl
theorem len__law_spool_of : ∀ α QD ED, p__law_spool_of α QD ED → α.length = [("script" : Str)].length := by rintro α QD ED ⟨a, rfl, _⟩; rfl
theorem len__law_upto : ∀ α QD ED, p__law_upto α QD ED → α.length = [("spool" : Str), "bound"].length := by rintro α QD ED ⟨a, m, b, rfl, _⟩; rfl
theorem len__law_choice : ∀ α QD ED, p__law_choice α QD ED → α.length = [("spool" : Str), "items"].length := by rintro α QD ED ⟨a, m, b, rfl, _⟩; rfl
theorem len_law : ∀ α QD ED, p_law α QD ED → α.length = [("script" : Str)].length := by rintro α QD ED ⟨ns, _, rfl, _⟩; rfl
end KK

namespace KK
open PySem PySem.Spec L2 DL
theorem len__law_alike : ∀ α QD ED, p__law_alike α QD ED → α.length = [("one" : Str), "other"].length := by rintro α QD ED ⟨a, rfl, _⟩; rfl
end KK

set_option maxHeartbeats 1000000
namespace KK
open PySem PySem.Spec L2 DL
/-! ### expressions without effect: one rule a construct -/
section
variable {ρ : DSt} {a b c : TED} {i j : Int} {x : Nu} {y z : PyData} {t : TTD} {u v : Bool}
theorem ev_add (ha : Ev a ρ (.int i)) (hb : Ev b ρ (.int j)) : Ev (dOp dAdd a b) ρ (.int (i + j)) := ev_op ha hb fun _ h => h
theorem ev_sub (ha : Ev a ρ (.int i)) (hb : Ev b ρ (.int j)) : Ev (dOp dSub a b) ρ (.int (i - j)) := ev_op ha hb fun _ h => h
theorem ev_mul (ha : Ev a ρ (.int i)) (hb : Ev b ρ (.int j)) (h : CMulW i j) : Ev (dOp dMul a b) ρ (.int (i * j)) := ev_op ha hb fun _ k => ⟨h, k⟩
theorem ev_fdiv (ha : Ev a ρ (.int i)) (hb : Ev b ρ (.int j)) (h : CDivF i j) : Ev (dOp dFdiv a b) ρ (.int (i.fdiv j)) := ev_op ha hb fun _ k => ⟨h, k⟩
theorem ev_mod (ha : Ev a ρ (.int i)) (hb : Ev b ρ (.int j)) (h : j ≠ 0) : Ev (dOp dMod a b) ρ (.int (i.fmod j)) := ev_op ha hb fun _ k => ⟨h, k⟩
theorem ev_pow (ha : Ev a ρ (.int i)) (hb : Ev b ρ (.int j)) (h : CPow i j) : Ev (dOp dPow a b) ρ (.int (i ^ j.toNat)) := ev_op ha hb fun _ k => ⟨h, k⟩
theorem ev_neg (ha : Ev a ρ (.int i)) : Ev (dNeg a) ρ (.int (-i)) := fun Q k => ha _ fun r h1 _ => h1 _ (k _ (fun _ h => h) (fun _ h => h))
theorem ev_max (ha : Ev a ρ (.int i)) (hb : Ev b ρ (.int j)) : Ev (dOp fMax a b) ρ (.int (nmax i j)) := ev_op ha hb fun _ h => h
theorem ev_abs (ha : Ev a ρ (.int i)) : Ev (dF1 fAbs a) ρ (.int (if i < 0 then -i else i)) := fun Q k => ha _ fun r h1 _ => h1 _ (k _ (fun _ h => h) (fun _ h => h))
theorem ev_lt (ha : Ev a ρ (.int i)) (hb : Ev b ρ (.int j)) : Ev (dOp dLt a b) ρ (.bool (decide (i < j))) := ev_op ha hb fun _ h => h
theorem ev_le (ha : Ev a ρ (.int i)) (hb : Ev b ρ (.int j)) : Ev (dOp dLe a b) ρ (.bool (decide (i ≤ j))) := ev_op ha hb fun _ h => h
theorem ev_gt (ha : Ev a ρ (.int i)) (hb : Ev b ρ (.int j)) : Ev (dOp dGt a b) ρ (.bool (decide (j < i))) := ev_op ha hb fun _ h => h
theorem ev_ge (ha : Ev a ρ (.int i)) (hb : Ev b ρ (.int j)) : Ev (dOp dGe a b) ρ (.bool (decide (j ≤ i))) := ev_op ha hb fun _ h => h
theorem ev_eq (ha : Ev a ρ (.int i)) (hb : Ev b ρ (.int j)) : Ev (dOp dEq a b) ρ (.bool (decide (i = j))) := ev_op ha hb fun _ h => ⟨rfl, rfl, h⟩
theorem ev_nei (ha : Ev a ρ (.int i)) (hb : Ev b ρ (.int j)) : Ev (dOp dNe a b) ρ (.bool (!decide (i = j))) := ev_op ha hb fun _ h => ⟨rfl, rfl, h⟩
theorem ev_eqD (ha : Ev a ρ y) (hb : Ev b ρ z) (h1 : SeqAt.shaped y = true := by rfl) (h2 : SeqAt.shaped z = true := by rfl) : Ev (dOp dEq a b) ρ (.bool (PyData.eqv y z)) := ev_op ha hb fun _ h => ⟨h1, h2, h⟩
theorem ev_neD (ha : Ev a ρ y) (hb : Ev b ρ z) (h1 : SeqAt.shaped y = true := by rfl) (h2 : SeqAt.shaped z = true := by rfl) : Ev (dOp dNe a b) ρ (.bool (!PyData.eqv y z)) := ev_op ha hb fun _ h => ⟨h1, h2, h⟩
theorem ev_eqS {y z : Str} (ha : Ev a ρ (.str y)) (hb : Ev b ρ (.str z)) : Ev (dOp dEqS a b) ρ (.bool (decide (y = z))) := ev_op ha hb fun _ h => h
theorem ev_p (ha : Ev a ρ x.D) : Ev (dOp atD a (dC (.int 0))) ρ (.int x.p) := ev_op ha ev_c fun _ h => h
theorem ev_q (ha : Ev a ρ x.D) : Ev (dOp atD a (dC (.int 1))) ρ (.int x.q) := ev_op ha ev_c fun _ h => h
theorem ev_d (ha : Ev a ρ x.D) : Ev (dOp atD a (dC (.int 2))) ρ (.int x.d) := ev_op ha ev_c fun _ h => h
theorem ev_s (ha : Ev a ρ x.D) : Ev (dOp atD a (dC (.int 3))) ρ (.int x.s) := ev_op ha ev_c fun _ h => h
theorem ev_nu {p q d s : Int} (ha : Ev a ρ (.tuple [.int p, .int q, .int d, .int s])) : Ev a ρ (Nu.D ⟨p, q, d, s⟩) := ha
theorem ev_ifT (hc : EvT t ρ true) (ha : Ev a ρ z) : Ev (dIf t a b) ρ z := fun Q k => hc _ (ha Q k)
theorem ev_ifF (hc : EvT t ρ false) (hb : Ev b ρ z) : Ev (dIf t a b) ρ z := fun Q k => hc _ (hb Q k)
theorem ev_ifU (hc : EvT t ρ u) (ha : u = true → Ev a ρ y) (hb : u = false → Ev b ρ z) : Ev (dIf t a b) ρ (if u = true then y else z) := by
  cases u with
  | true => exact ev_ifT hc (ha rfl)
  | false => exact ev_ifF hc (hb rfl)
theorem ev_orV (ha : Ev a ρ (.bool u)) (hb : u = false → Ev b ρ (.bool v)) : Ev (dOrV a b) ρ (.bool (u || v)) := by
  intro Q k
  refine ha _ fun r h1 h2 => h1 _ ?_
  cases u with
  | true => exact k _ (fun _ h => h) (fun _ h => h)
  | false => exact hb rfl Q k
theorem evt_lt (ha : Ev a ρ (.int i)) (hb : Ev b ρ (.int j)) : EvT (dTest (dOp dLt a b)) ρ (decide (i < j)) := evt_test (ev_lt ha hb)
theorem evt_le (ha : Ev a ρ (.int i)) (hb : Ev b ρ (.int j)) : EvT (dTest (dOp dLe a b)) ρ (decide (i ≤ j)) := evt_test (ev_le ha hb)
theorem evt_gt (ha : Ev a ρ (.int i)) (hb : Ev b ρ (.int j)) : EvT (dTest (dOp dGt a b)) ρ (decide (j < i)) := evt_test (ev_gt ha hb)
theorem evt_ge (ha : Ev a ρ (.int i)) (hb : Ev b ρ (.int j)) : EvT (dTest (dOp dGe a b)) ρ (decide (j ≤ i)) := evt_test (ev_ge ha hb)
theorem evt_eq (ha : Ev a ρ (.int i)) (hb : Ev b ρ (.int j)) : EvT (dTest (dOp dEq a b)) ρ (decide (i = j)) := evt_test (ev_eq ha hb)
theorem evt_ne (ha : Ev a ρ (.int i)) (hb : Ev b ρ (.int j)) : EvT (dTest (dOp dNe a b)) ρ (!decide (i = j)) := evt_test (ev_nei ha hb)
theorem evt_eqD (ha : Ev a ρ y) (hb : Ev b ρ z) (h1 : SeqAt.shaped y = true := by rfl) (h2 : SeqAt.shaped z = true := by rfl) : EvT (dTest (dOp dEq a b)) ρ (PyData.eqv y z) := evt_test (ev_eqD ha hb h1 h2)
theorem evt_neD (ha : Ev a ρ y) (hb : Ev b ρ z) (h1 : SeqAt.shaped y = true := by rfl) (h2 : SeqAt.shaped z = true := by rfl) : EvT (dTest (dOp dNe a b)) ρ (!PyData.eqv y z) := evt_test (ev_neD ha hb h1 h2)
theorem evt_as {w : Bool} (h : EvT t ρ u) (e : u = w) : EvT t ρ w := e ▸ h
theorem ev_as {z' : PyData} (h : Ev a ρ z) (e : z = z') : Ev a ρ z' := e ▸ h
end
/-! statements -/
section
variable {ρ : DSt} {a : TED} {t : TTD} {s1 s2 n : TSD} {D : DEnds} {z : PyData} {u : Bool} {dr : TND} {zs : List PyData} {p : DSp} {W : WD} {Q : R → DSt → Prop}
theorem s_ifT (h : EvT t ρ true) (k : s1 D ρ) : sIf t s1 s2 D ρ := h _ k
theorem s_ifF (h : EvT t ρ false) (k : s2 D ρ) : sIf t s1 s2 D ρ := h _ k
theorem s_seq (k : s1 { D with nx := n D } ρ) : sSeq s1 n D ρ := k
theorem s_next (k : D.nx ρ) : sNext D ρ := k
theorem s_raise {C : Addr} (k : W ⟨C, []⟩ ρ) : sRaise W C D ρ := k
/-- a call of data -/
theorem c_call (h : EvA dr ρ zs) (k : p (zs.map SD.val) (fun r _ => retD Q ρ r) (fun e _ => W e ρ)) : dCall p W dr ρ Q := h _ k
theorem s_retc (h : EvA dr ρ zs) (k : p (zs.map SD.val) (fun r _ => match r with | .d z => D.rt (.d z) ρ | .n ds => D.rt (.d (.list ds)) ρ) (fun e _ => W e ρ)) : sRet (dCall p W dr) D ρ := h _ k
theorem s_setc {i : Nat} (h : EvA dr ρ zs) (k : p (zs.map SD.val) (fun r _ => match r with | .d z => n D (ρ.set i (.val z)) | .n ds => n D (ρ.set i (.val (.list ds)))) (fun e _ => W e ρ)) : sSeq (sSet i (dCall p W dr)) n D ρ := h _ k
theorem unpack4 {x : Nu} {i0 i1 i2 i3 : Nat} {N : DSt → Prop} (k : N ((((ρ.set i0 (iv x.p)).set i1 (iv x.q)).set i2 (iv x.d)).set i3 (iv x.s))) : gTup' (lenIs 4 (gCons' (gName' i0) (gCons' (gName' i1) (gCons' (gName' i2) (gCons' (gName' i3) gNil'))))) x.D ρ N := ⟨rfl, k⟩
end
/-! two at once -/
theorem s_par {ρ : DSt} {D : DEnds} {a b : TED} {x y : PyData} {i j : Nat} (ha : Ev a ρ x) (hb : Ev b ρ y) (k : D.nx ((ρ.set i (.val x)).set j (.val y))) : sPar i j (dCons a (dCons b dNil)) D ρ := eva_cons ha (eva_cons hb eva_nil) _ k
theorem s_parS {ρ : DSt} {D : DEnds} {n : TSD} {a b : TED} {x y : PyData} {i j : Nat} (ha : Ev a ρ x) (hb : Ev b ρ y) (k : n D ((ρ.set i (.val x)).set j (.val y))) : sSeq (sPar i j (dCons a (dCons b dNil))) n D ρ := s_par (D := { D with nx := n D }) ha hb k
theorem unpack3 {ρ : DSt} {a b c : PyData} {i0 i1 i2 : Nat} {N : DSt → Prop} (k : N (((ρ.set i0 (.val a)).set i1 (.val b)).set i2 (.val c))) : gTup' (lenIs 3 (gCons' (gName' i0) (gCons' (gName' i1) (gCons' (gName' i2) gNil')))) (.tuple [a, b, c]) ρ N := ⟨rfl, k⟩
theorem unpack2 {ρ : DSt} {a b : PyData} {i0 i1 : Nat} {N : DSt → Prop} (k : N ((ρ.set i0 (.val a)).set i1 (.val b))) : gTup' (lenIs 2 (gCons' (gName' i0) (gCons' (gName' i1) gNil'))) (.tuple [a, b]) ρ N := ⟨rfl, k⟩
/-! calls of a def that is lent a list -/
section
variable {ρ : DSt} {a b : TED} {D : DEnds} {dr : TND} {zs L : List PyData} {p : DSp} {W : WD} {Q : R → DSt → Prop} {QN : List PyData → DSt → Prop} {j : Nat} {io : Bool}
theorem x_lent (h : ρ[j]? = some (.own io L)) (ha : EvA dr ρ zs) (k : p (.own true L :: zs.map SD.val) (fun r α => backK ρ j α fun ρ2 => retD Q ρ2 r) (fun e α => backK ρ j α fun ρ2 => W e ρ2)) : withLent j (dCallL p W j dr) ρ Q := by
  refine ⟨by unfold isLent; rw [h]; trivial, ha _ ?_⟩
  show lendK ρ j _
  unfold lendK
  rw [h]
  exact k
theorem x_back (h : ρ[j]? = some (.own io L)) {L' : List PyData} {α : List SD} {F : DSt → Prop} (k : F (ρ.set j (.own io L'))) : backK ρ j (.own true L' :: α) F := by
  unfold backK
  rw [h]
  exact k
theorem dr_choiceJ (j : Nat) {io : Bool} {s : Spl} {m : Nat} {xs : List PyData} (h : ρ[j]? = some (.own io s.L)) (ha : Ev a ρ (.list xs)) (hs : Sok m s) (hm : m < 2 ^ 50) (h0 : xs ≠ []) (hb : xs.length < 1000) (k : ∀ x s', x ∈ xs → Sok (m + 1) s' → Q (.d x) (ρ.set j (.own io s'.L))) :
    withLent j (dCallL p__law_choice W j (dCons a dNil)) ρ Q :=
  x_lent h (eva_cons ha eva_nil) ⟨s, m, xs, rfl, hs, by omega, h0, by omega, fun x s' hx hs' => x_back h (k x s' hx hs')⟩
/-- the second operand, the first one a datum -/
theorem x_opd {f : PyData → PyData → (PyData → Prop) → Prop} {x y : PyData} (hb : Ev b ρ y) (k : f x y fun z => Q (.d z) ρ) : b ρ (fun r2 ρ2 => vw ρ2 (.d x) fun x => vw ρ2 r2 fun y => f x y fun z => Q (.d z) ρ2) := hb _ fun r2 h2 _ => h2 (fun y => f x y fun z => Q (.d z) ρ) k
/-- the next item -/
theorem x_cons {z : PyData} (ha : Ev a ρ z) (k : dr ρ fun ds ρ2 => QN (z :: ds) ρ2) : dCons a dr ρ QN := ha _ fun r _ h2 => h2 (fun d ρ2 => dr ρ2 fun ds ρ3 => QN (d :: ds) ρ3) k
theorem x_nil (k : QN [] ρ) : dNil ρ QN := k
end
end KK


set_option maxHeartbeats 2000000
namespace KK
open PySem PySem.Spec L2 DL
theorem ev_isV {i : Nat} {ρ : DSt} {e : Exv} {R0 : Addr → Bool → Prop} {b : Bool} (io : Bool) (h : ρ[i]? = some (.res io (exvR e))) (hr : R0 e.C b) : Ev (dIsV i R0) ρ (.bool b) := fun Q k => ⟨io, e, b, h, hr, k _ (fun _ h => h) (fun _ h => h)⟩
theorem r0_at {cA : Str → Addr} {x : Exv} {a y : Str} (b : Bool) (hC : x.C = cA a) (ha : a ∈ xCls) (h : isaX a y = b) : R0X cA y x.C b := ⟨a, ha, hC, h.symm⟩
theorem err_way {cA : Str → Addr} {x : Exv} {w : Str} {n : Nat} (QD : Ret → List SD → Prop) (ED : Exd → List SD → Prop) (W : WD) (b0 b1 b2 b3 b4 b5 b6 b7 b8 b9 b10 : Bool)
    (h0 : R0X cA "SyntaxProblem" x.C b0) (h1 : R0X cA "TooMany" x.C b1) (h2 : R0X cA "InvalidNumber" x.C b2) (h3 : R0X cA "ZeroDivisor" x.C b3) (h4 : R0X cA "OtherRoot" x.C b4) (h5 : R0X cA "NoVariable" x.C b5) (h6 : R0X cA "OutOfRange" x.C b6) (h7 : R0X cA "Incompatible" x.C b7) (h8 : R0X cA "NotReached" x.C b8) (h9 : R0X cA "NoMark" x.C b9) (h10 : R0X cA "InvalidCommand" x.C b10) (hv : R0X cA "ValueError" x.C true)
    (hc : ∀ k : PyData → Prop, k (.int 1) → fCount (.list [.bool b0, .bool b1, .bool b2, .bool b3, .bool b4, .bool b5, .bool b6, .bool b7, .bool b8, .bool b9, .bool b10]) (.bool true) k)
    (hi : ∀ k : PyData → Prop, k (.int n) → fIndex (.list [.bool b0, .bool b1, .bool b2, .bool b3, .bool b4, .bool b5, .bool b6, .bool b7, .bool b8, .bool b9, .bool b10]) (.bool true) k)
    (hw : atI ([.str "syntax", .str "many", .str "number", .str "zero", .str "root", .str "variable", .str "range", .str "differ", .str "reached", .str "mark", .str "command"] : List PyData) (n : Int) = some (.str w)) (hq : QD (.d (.str w)) [.res true (exvR x)]) :
    r__law_error_kind W cA (DEnd [.res true (exvR x)] QD) (startD n__law_error_kind.length [.res true (exvR x)]) := by
  have cat : ∀ (xs ys : List PyData) (k : PyData → Prop), xs.length + ys.length ≤ 1000 → k (.list (xs ++ ys)) → dAdd (.list xs) (.list ys) k := fun xs ys k hl hk => ⟨small_line hl, hk⟩
  unfold r__law_error_kind
  have st : startD n__law_error_kind.length [SD.res true (exvR x)] = [SD.res true (exvR x), .no, .no] := rfl
  rw [st]
  have X : ∀ {b : Bool} {y : Str} (h : R0X cA y x.C b) (a1 a2 : SD), Ev (dIsV 0 (R0X cA y)) [SD.res true (exvR x), a1, a2] (.bool b) := fun h a1 a2 => ev_isV true rfl h
  refine s_set (ev_new (eva_cons (X h0 _ _) (eva_cons (X h1 _ _) (eva_cons (X h2 _ _) eva_nil))) (Nat.le_of_ble_eq_true rfl)) ?_
  refine s_set (ev_op (ev_var 1 rfl) (ev_new (eva_cons (X h3 _ _) (eva_cons (X h4 _ _) (eva_cons (X h5 _ _) eva_nil))) (Nat.le_of_ble_eq_true rfl)) fun k hk => cat _ _ k (Nat.le_of_ble_eq_true rfl) hk) ?_
  refine s_set (ev_op (ev_var 1 rfl) (ev_new (eva_cons (X h6 _ _) (eva_cons (X h7 _ _) (eva_cons (X h8 _ _) eva_nil))) (Nat.le_of_ble_eq_true rfl)) fun k hk => cat _ _ k (Nat.le_of_ble_eq_true rfl) hk) ?_
  refine s_set (ev_op (ev_var 1 rfl) (ev_new (eva_cons (X h9 _ _) (eva_cons (X h10 _ _) eva_nil)) (Nat.le_of_ble_eq_true rfl)) fun k hk => cat _ _ k (Nat.le_of_ble_eq_true rfl) hk) ?_
  refine s_chk (evt_or0 (ev_neI (ev_m1 (z := .int 1) (ev_var 1 rfl) ev_c hc) ev_c rfl) (show EvT _ _ (!true) from evt_not (evt_test (X hv _ _)))) ?_
  refine s_set (ev_new (eva_cons ev_c (eva_cons ev_c (eva_cons ev_c (eva_cons ev_c (eva_cons ev_c (eva_cons ev_c (eva_cons ev_c (eva_cons ev_c (eva_cons ev_c (eva_cons ev_c (eva_cons ev_c eva_nil))))))))))) (by decide)) ?_
  refine s_ret (z := .str w) (ev_op (x := .list _) (y := .int n) (ev_var 2 rfl) (ev_m1 (ev_var 1 rfl) ev_c hi) fun k hk => ?_) hq
  show (match atI _ (n : Int) with | some d => k d | none => False)
  rw [hw]
  exact hk
theorem pure__law_error_kind {cA : Str → Addr} (α : List SD) (QD : Ret → List SD → Prop) (ED : Exd → List SD → Prop) (W : WD) (hW : W = fun e ρ => outK α ρ fun α' => ED e α') (h : p__law_error_kind cA α QD ED) : r__law_error_kind W cA (DEnd α QD) (startD n__law_error_kind.length α) := by
  obtain ⟨x, a, w, rfl, hC, hm, hq⟩ := h
  simp only [kinds06, List.mem_cons, List.not_mem_nil, or_false, Prod.mk.injEq] at hm
  rcases hm with ⟨rfl, rfl⟩ | ⟨rfl, rfl⟩ | ⟨rfl, rfl⟩ | ⟨rfl, rfl⟩ | ⟨rfl, rfl⟩ | ⟨rfl, rfl⟩ | ⟨rfl, rfl⟩ | ⟨rfl, rfl⟩ | ⟨rfl, rfl⟩ | ⟨rfl, rfl⟩ | ⟨rfl, rfl⟩
  · refine err_way (n := 0) QD ED W true false false false false false false false false false false (r0_at true hC (by simp [xCls]) (by decide +kernel)) (r0_at false hC (by simp [xCls]) (by decide +kernel)) (r0_at false hC (by simp [xCls]) (by decide +kernel)) (r0_at false hC (by simp [xCls]) (by decide +kernel)) (r0_at false hC (by simp [xCls]) (by decide +kernel)) (r0_at false hC (by simp [xCls]) (by decide +kernel)) (r0_at false hC (by simp [xCls]) (by decide +kernel)) (r0_at false hC (by simp [xCls]) (by decide +kernel)) (r0_at false hC (by simp [xCls]) (by decide +kernel)) (r0_at false hC (by simp [xCls]) (by decide +kernel)) (r0_at false hC (by simp [xCls]) (by decide +kernel)) (r0_at true hC (by simp [xCls]) (by decide +kernel)) (fun k hk => ⟨by decide, by decide, by decide, by decide, by decide, hk⟩) (fun k hk => ⟨by decide, by decide, 0, .bool true, rfl, rfl, fun m z' hm hz => ?_, hk⟩) rfl hq
    exact absurd hm (Nat.not_lt_zero _)
  · refine err_way (n := 1) QD ED W false true false false false false false false false false false (r0_at false hC (by simp [xCls]) (by decide +kernel)) (r0_at true hC (by simp [xCls]) (by decide +kernel)) (r0_at false hC (by simp [xCls]) (by decide +kernel)) (r0_at false hC (by simp [xCls]) (by decide +kernel)) (r0_at false hC (by simp [xCls]) (by decide +kernel)) (r0_at false hC (by simp [xCls]) (by decide +kernel)) (r0_at false hC (by simp [xCls]) (by decide +kernel)) (r0_at false hC (by simp [xCls]) (by decide +kernel)) (r0_at false hC (by simp [xCls]) (by decide +kernel)) (r0_at false hC (by simp [xCls]) (by decide +kernel)) (r0_at false hC (by simp [xCls]) (by decide +kernel)) (r0_at true hC (by simp [xCls]) (by decide +kernel)) (fun k hk => ⟨by decide, by decide, by decide, by decide, by decide, hk⟩) (fun k hk => ⟨by decide, by decide, 1, .bool true, rfl, rfl, fun m z' hm hz => ?_, hk⟩) rfl hq
    have : m = 0 := by omega
    subst this; cases hz; rfl
  · refine err_way (n := 2) QD ED W false false true false false false false false false false false (r0_at false hC (by simp [xCls]) (by decide +kernel)) (r0_at false hC (by simp [xCls]) (by decide +kernel)) (r0_at true hC (by simp [xCls]) (by decide +kernel)) (r0_at false hC (by simp [xCls]) (by decide +kernel)) (r0_at false hC (by simp [xCls]) (by decide +kernel)) (r0_at false hC (by simp [xCls]) (by decide +kernel)) (r0_at false hC (by simp [xCls]) (by decide +kernel)) (r0_at false hC (by simp [xCls]) (by decide +kernel)) (r0_at false hC (by simp [xCls]) (by decide +kernel)) (r0_at false hC (by simp [xCls]) (by decide +kernel)) (r0_at false hC (by simp [xCls]) (by decide +kernel)) (r0_at true hC (by simp [xCls]) (by decide +kernel)) (fun k hk => ⟨by decide, by decide, by decide, by decide, by decide, hk⟩) (fun k hk => ⟨by decide, by decide, 2, .bool true, rfl, rfl, fun m z' hm hz => ?_, hk⟩) rfl hq
    have : m = 0 ∨ m = 1 := by omega
    rcases this with rfl | rfl <;> (cases hz; rfl)
  · refine err_way (n := 3) QD ED W false false false true false false false false false false false (r0_at false hC (by simp [xCls]) (by decide +kernel)) (r0_at false hC (by simp [xCls]) (by decide +kernel)) (r0_at false hC (by simp [xCls]) (by decide +kernel)) (r0_at true hC (by simp [xCls]) (by decide +kernel)) (r0_at false hC (by simp [xCls]) (by decide +kernel)) (r0_at false hC (by simp [xCls]) (by decide +kernel)) (r0_at false hC (by simp [xCls]) (by decide +kernel)) (r0_at false hC (by simp [xCls]) (by decide +kernel)) (r0_at false hC (by simp [xCls]) (by decide +kernel)) (r0_at false hC (by simp [xCls]) (by decide +kernel)) (r0_at false hC (by simp [xCls]) (by decide +kernel)) (r0_at true hC (by simp [xCls]) (by decide +kernel)) (fun k hk => ⟨by decide, by decide, by decide, by decide, by decide, hk⟩) (fun k hk => ⟨by decide, by decide, 3, .bool true, rfl, rfl, fun m z' hm hz => ?_, hk⟩) rfl hq
    have : m = 0 ∨ m = 1 ∨ m = 2 := by omega
    rcases this with rfl | rfl | rfl <;> (cases hz; rfl)
  · refine err_way (n := 4) QD ED W false false false false true false false false false false false (r0_at false hC (by simp [xCls]) (by decide +kernel)) (r0_at false hC (by simp [xCls]) (by decide +kernel)) (r0_at false hC (by simp [xCls]) (by decide +kernel)) (r0_at false hC (by simp [xCls]) (by decide +kernel)) (r0_at true hC (by simp [xCls]) (by decide +kernel)) (r0_at false hC (by simp [xCls]) (by decide +kernel)) (r0_at false hC (by simp [xCls]) (by decide +kernel)) (r0_at false hC (by simp [xCls]) (by decide +kernel)) (r0_at false hC (by simp [xCls]) (by decide +kernel)) (r0_at false hC (by simp [xCls]) (by decide +kernel)) (r0_at false hC (by simp [xCls]) (by decide +kernel)) (r0_at true hC (by simp [xCls]) (by decide +kernel)) (fun k hk => ⟨by decide, by decide, by decide, by decide, by decide, hk⟩) (fun k hk => ⟨by decide, by decide, 4, .bool true, rfl, rfl, fun m z' hm hz => ?_, hk⟩) rfl hq
    have : m = 0 ∨ m = 1 ∨ m = 2 ∨ m = 3 := by omega
    rcases this with rfl | rfl | rfl | rfl <;> (cases hz; rfl)
  · refine err_way (n := 5) QD ED W false false false false false true false false false false false (r0_at false hC (by simp [xCls]) (by decide +kernel)) (r0_at false hC (by simp [xCls]) (by decide +kernel)) (r0_at false hC (by simp [xCls]) (by decide +kernel)) (r0_at false hC (by simp [xCls]) (by decide +kernel)) (r0_at false hC (by simp [xCls]) (by decide +kernel)) (r0_at true hC (by simp [xCls]) (by decide +kernel)) (r0_at false hC (by simp [xCls]) (by decide +kernel)) (r0_at false hC (by simp [xCls]) (by decide +kernel)) (r0_at false hC (by simp [xCls]) (by decide +kernel)) (r0_at false hC (by simp [xCls]) (by decide +kernel)) (r0_at false hC (by simp [xCls]) (by decide +kernel)) (r0_at true hC (by simp [xCls]) (by decide +kernel)) (fun k hk => ⟨by decide, by decide, by decide, by decide, by decide, hk⟩) (fun k hk => ⟨by decide, by decide, 5, .bool true, rfl, rfl, fun m z' hm hz => ?_, hk⟩) rfl hq
    have : m = 0 ∨ m = 1 ∨ m = 2 ∨ m = 3 ∨ m = 4 := by omega
    rcases this with rfl | rfl | rfl | rfl | rfl <;> (cases hz; rfl)
  · refine err_way (n := 6) QD ED W false false false false false false true false false false false (r0_at false hC (by simp [xCls]) (by decide +kernel)) (r0_at false hC (by simp [xCls]) (by decide +kernel)) (r0_at false hC (by simp [xCls]) (by decide +kernel)) (r0_at false hC (by simp [xCls]) (by decide +kernel)) (r0_at false hC (by simp [xCls]) (by decide +kernel)) (r0_at false hC (by simp [xCls]) (by decide +kernel)) (r0_at true hC (by simp [xCls]) (by decide +kernel)) (r0_at false hC (by simp [xCls]) (by decide +kernel)) (r0_at false hC (by simp [xCls]) (by decide +kernel)) (r0_at false hC (by simp [xCls]) (by decide +kernel)) (r0_at false hC (by simp [xCls]) (by decide +kernel)) (r0_at true hC (by simp [xCls]) (by decide +kernel)) (fun k hk => ⟨by decide, by decide, by decide, by decide, by decide, hk⟩) (fun k hk => ⟨by decide, by decide, 6, .bool true, rfl, rfl, fun m z' hm hz => ?_, hk⟩) rfl hq
    have : m = 0 ∨ m = 1 ∨ m = 2 ∨ m = 3 ∨ m = 4 ∨ m = 5 := by omega
    rcases this with rfl | rfl | rfl | rfl | rfl | rfl <;> (cases hz; rfl)
  · refine err_way (n := 7) QD ED W false false false false false false false true false false false (r0_at false hC (by simp [xCls]) (by decide +kernel)) (r0_at false hC (by simp [xCls]) (by decide +kernel)) (r0_at false hC (by simp [xCls]) (by decide +kernel)) (r0_at false hC (by simp [xCls]) (by decide +kernel)) (r0_at false hC (by simp [xCls]) (by decide +kernel)) (r0_at false hC (by simp [xCls]) (by decide +kernel)) (r0_at false hC (by simp [xCls]) (by decide +kernel)) (r0_at true hC (by simp [xCls]) (by decide +kernel)) (r0_at false hC (by simp [xCls]) (by decide +kernel)) (r0_at false hC (by simp [xCls]) (by decide +kernel)) (r0_at false hC (by simp [xCls]) (by decide +kernel)) (r0_at true hC (by simp [xCls]) (by decide +kernel)) (fun k hk => ⟨by decide, by decide, by decide, by decide, by decide, hk⟩) (fun k hk => ⟨by decide, by decide, 7, .bool true, rfl, rfl, fun m z' hm hz => ?_, hk⟩) rfl hq
    have : m = 0 ∨ m = 1 ∨ m = 2 ∨ m = 3 ∨ m = 4 ∨ m = 5 ∨ m = 6 := by omega
    rcases this with rfl | rfl | rfl | rfl | rfl | rfl | rfl <;> (cases hz; rfl)
  · refine err_way (n := 8) QD ED W false false false false false false false false true false false (r0_at false hC (by simp [xCls]) (by decide +kernel)) (r0_at false hC (by simp [xCls]) (by decide +kernel)) (r0_at false hC (by simp [xCls]) (by decide +kernel)) (r0_at false hC (by simp [xCls]) (by decide +kernel)) (r0_at false hC (by simp [xCls]) (by decide +kernel)) (r0_at false hC (by simp [xCls]) (by decide +kernel)) (r0_at false hC (by simp [xCls]) (by decide +kernel)) (r0_at false hC (by simp [xCls]) (by decide +kernel)) (r0_at true hC (by simp [xCls]) (by decide +kernel)) (r0_at false hC (by simp [xCls]) (by decide +kernel)) (r0_at false hC (by simp [xCls]) (by decide +kernel)) (r0_at true hC (by simp [xCls]) (by decide +kernel)) (fun k hk => ⟨by decide, by decide, by decide, by decide, by decide, hk⟩) (fun k hk => ⟨by decide, by decide, 8, .bool true, rfl, rfl, fun m z' hm hz => ?_, hk⟩) rfl hq
    have : m = 0 ∨ m = 1 ∨ m = 2 ∨ m = 3 ∨ m = 4 ∨ m = 5 ∨ m = 6 ∨ m = 7 := by omega
    rcases this with rfl | rfl | rfl | rfl | rfl | rfl | rfl | rfl <;> (cases hz; rfl)
  · refine err_way (n := 9) QD ED W false false false false false false false false false true false (r0_at false hC (by simp [xCls]) (by decide +kernel)) (r0_at false hC (by simp [xCls]) (by decide +kernel)) (r0_at false hC (by simp [xCls]) (by decide +kernel)) (r0_at false hC (by simp [xCls]) (by decide +kernel)) (r0_at false hC (by simp [xCls]) (by decide +kernel)) (r0_at false hC (by simp [xCls]) (by decide +kernel)) (r0_at false hC (by simp [xCls]) (by decide +kernel)) (r0_at false hC (by simp [xCls]) (by decide +kernel)) (r0_at false hC (by simp [xCls]) (by decide +kernel)) (r0_at true hC (by simp [xCls]) (by decide +kernel)) (r0_at false hC (by simp [xCls]) (by decide +kernel)) (r0_at true hC (by simp [xCls]) (by decide +kernel)) (fun k hk => ⟨by decide, by decide, by decide, by decide, by decide, hk⟩) (fun k hk => ⟨by decide, by decide, 9, .bool true, rfl, rfl, fun m z' hm hz => ?_, hk⟩) rfl hq
    have : m = 0 ∨ m = 1 ∨ m = 2 ∨ m = 3 ∨ m = 4 ∨ m = 5 ∨ m = 6 ∨ m = 7 ∨ m = 8 := by omega
    rcases this with rfl | rfl | rfl | rfl | rfl | rfl | rfl | rfl | rfl <;> (cases hz; rfl)
  · refine err_way (n := 10) QD ED W false false false false false false false false false false true (r0_at false hC (by simp [xCls]) (by decide +kernel)) (r0_at false hC (by simp [xCls]) (by decide +kernel)) (r0_at false hC (by simp [xCls]) (by decide +kernel)) (r0_at false hC (by simp [xCls]) (by decide +kernel)) (r0_at false hC (by simp [xCls]) (by decide +kernel)) (r0_at false hC (by simp [xCls]) (by decide +kernel)) (r0_at false hC (by simp [xCls]) (by decide +kernel)) (r0_at false hC (by simp [xCls]) (by decide +kernel)) (r0_at false hC (by simp [xCls]) (by decide +kernel)) (r0_at false hC (by simp [xCls]) (by decide +kernel)) (r0_at true hC (by simp [xCls]) (by decide +kernel)) (r0_at true hC (by simp [xCls]) (by decide +kernel)) (fun k hk => ⟨by decide, by decide, by decide, by decide, by decide, hk⟩) (fun k hk => ⟨by decide, by decide, 10, .bool true, rfl, rfl, fun m z' hm hz => ?_, hk⟩) rfl hq
    have : m = 0 ∨ m = 1 ∨ m = 2 ∨ m = 3 ∨ m = 4 ∨ m = 5 ∨ m = 6 ∨ m = 7 ∨ m = 8 ∨ m = 9 := by omega
    rcases this with rfl | rfl | rfl | rfl | rfl | rfl | rfl | rfl | rfl | rfl <;> (cases hz; rfl)
end KK

set_option maxHeartbeats 2000000
namespace KK
open PySem PySem.Spec L2 DL
theorem ints_shownS : ∀ ns : List Int, (∀ n ∈ ns, Bd 1900 n) → ((PyData.shownAll (ns.map PyData.int)).map (·.length)).sum ≤ 1921 * ns.length ∧ (PyData.shownAll (ns.map PyData.int)).length = ns.length
  | [], _ => ⟨by simp [PyData.shownAll], rfl⟩
  | n :: ns, h => by
    obtain ⟨a, b⟩ := ints_shownS ns fun m hm => h m (List.mem_cons_of_mem _ hm)
    have c := int_len (h n List.mem_cons_self)
    constructor
    · simp only [List.map_cons, PyData.shownAll, PyData.shown, List.sum_cons, List.length_cons] at *
      have : (Str.ofString (toString n)).length ≤ 1921 := c
      omega
    · simp only [List.map_cons, PyData.shownAll, List.length_cons, b]
theorem ints_sh : ∀ ns : List Int, (∀ n ∈ ns, Bd 1900 n) → PyData.showableAll (ns.map PyData.int) = true
  | [], _ => rfl
  | n :: ns, h => by
    show (decide _ && PyData.showableAll (ns.map PyData.int)) = true
    rw [decide_eq_true (bd_show (h n List.mem_cons_self)), ints_sh ns fun m hm => h m (List.mem_cons_of_mem _ hm)]; rfl
theorem ints_nd : ∀ ns : List Int, PyData.hasDictAll (ns.map PyData.int) = false
  | [] => rfl
  | n :: ns => by
    show (PyData.hasDict (.int n) || PyData.hasDictAll (ns.map PyData.int)) = false
    rw [ints_nd ns]; rfl
theorem ints_dep : ∀ ns : List Int, PyData.depthAll (ns.map PyData.int) = 0
  | [] => rfl
  | n :: ns => by
    show max (PyData.depth (.int n)) (PyData.depthAll (ns.map PyData.int)) = 0
    rw [ints_dep ns]; rfl
theorem lst_shown {ns : List Int} (h : ∀ n ∈ ns, Bd 1900 n) (hl : ns.length ≤ 1000) : (PyData.list (ns.map PyData.int)).showable = true ∧ (PyData.list (ns.map PyData.int)).hasDict = false ∧ (PyData.list (ns.map PyData.int)).depth ≤ 60 ∧ (PyData.list (ns.map PyData.int)).shown.length ≤ sizeLine := by
  refine ⟨by simpa [PyData.showable] using ints_sh ns h, by simpa [PyData.hasDict] using ints_nd ns, ?_, ?_⟩
  · simp only [PyData.depth, ints_dep]; decide
  · simp only [PyData.shown]
    obtain ⟨a, b⟩ := ints_shownS ns h
    have := listText_len_le (PyData.shownAll (ns.map PyData.int))
    rw [b] at this
    rw [sizeLine_eq]
    omega
section
variable {ρ : DSt} {cA : Str → Addr} {W : WD}
theorem s_setP6 {a : TED} {n : TSD} {D : DEnds} {i : Nat} (P : PyData → DSt → Prop) (h : ∀ Q : R → DSt → Prop, (∀ z ρ', P z ρ' → Q (.d z) ρ') → a ρ Q) (k : ∀ z ρ', P z ρ' → n D (ρ'.set i (.val z))) : sSeq (sSet i a) n D ρ := h _ fun z ρ' hp => k z ρ' hp
theorem s_asgP6 {a : TED} {g : TGD} {n : TSD} {D : DEnds} (P : PyData → DSt → Prop) (h : ∀ Q : R → DSt → Prop, (∀ z ρ', P z ρ' → Q (.d z) ρ') → a ρ Q) (k : ∀ z ρ', P z ρ' → g z ρ' (n D)) : sSeq (sAsg a g) n D ρ := h _ fun z ρ' hp => k z ρ' hp
theorem x_lcR {a : TED} {n : Int} {vs : List Nat} {g : TGD} {t : TTD} {te : TED} {Q : R → DSt → Prop} (ha : Ev a ρ (.int n)) (h1 : 0 ≤ n) (h2 : n < 2 ^ 62) (k : lcD vs g t te ((List.range n.toNat).map fun (k : Nat) => .int (k : Int)) [] (wipeD ρ vs) (fun ds ρ1 => Q (.d (.list ds)) ρ1)) : dNew (nLc vs (range1D (dCons a dNil)) g t te) ρ Q := by
  unfold dNew nLc range1D
  exact eva_cons ha eva_nil _ ⟨by omega, h2, k⟩
theorem s_ifF6 {x : TTD} {t u : TSD} {D : DEnds} (h : EvT x ρ false) (k : u D ρ) : sIf x t u D ρ := h _ k
theorem lc_step {vs : List Nat} {g : TGD} {te : TED} {x : PyData} {xs acc : List PyData} {Q : List PyData → DSt → Prop} (ρ1 : DSt) (hg : ∀ k : DSt → Prop, k ρ1 → g x ρ k) (h : te ρ1 fun r ρ3 => frz ρ3 r fun d ρ4 => acc.length < sizeLine ∧ lcD vs g dYes te xs (acc ++ [d]) (wipeD ρ4 vs) Q) : lcD vs g dYes te (x :: xs) acc ρ Q := hg _ h
theorem lc_end {vs : List Nat} {g : TGD} {te : TED} {acc : List PyData} {Q : List PyData → DSt → Prop} (h : Q acc ρ) : lcD vs g dYes te [] acc ρ Q := h
/-! exceptions made -/
def EvX (t : TXD) (ρ : DSt) (x : Exv) : Prop := ∀ Q : Exv → DSt → Prop, Q x ρ → t ρ Q
def EvXL (t : TXL) (ρ : DSt) (xs : List Exv) : Prop := ∀ Q : List Exv → DSt → Prop, Q xs ρ → t ρ Q
theorem evx_own {cls : Addr} {a : TED} {z : PyData} (h : Ev a ρ z) : EvX (dXo cls a) ρ ⟨cls, []⟩ := fun Q k => h _ fun r _ _ => k
theorem evx_init {cls : Addr} {fl : List Str} {da : TND} {is : List Int} (h : EvA da ρ (is.map PyData.int)) (hl : is.length = fl.length) (hf : fl.length ≤ 900) (hs : ∀ i ∈ is, i.natAbs.log2 < 1920) : EvX (dXi cls fl da) ρ ⟨cls, (fl.zip is).reverse⟩ := fun Q k => h _ ⟨is, rfl, hl, hf, hs, k⟩
theorem evxl_nil : EvXL xNil ρ [] := fun Q k => k
theorem evxl_cons {dx : TXD} {dr : TXL} {x : Exv} {xs : List Exv} (h1 : EvX dx ρ x) (h2 : EvXL dr ρ xs) : EvXL (xCons dx dr) ρ (x :: xs) := fun Q k => h1 _ (h2 _ k)
theorem evxl_lst {dr : TXL} {xs : List Exv} (h : EvXL dr ρ xs) (hl : xs.length ≤ 1000) : EvXL (xLst dr) ρ xs := fun Q k => h _ ⟨hl, k⟩
theorem evxl_var {i : Nat} {io : Bool} {xs : List Exv} (h : ρ[i]? = some (.res io (exsR xs))) : EvXL (xVar i) ρ xs := fun Q k => ⟨io, xs, h, k⟩
theorem evxl_cat {d1 d2 : TXL} {xs ys : List Exv} (h1 : EvXL d1 ρ xs) (h2 : EvXL d2 ρ ys) (hl : xs.length + ys.length ≤ 1000) : EvXL (xCat d1 d2) ρ (xs ++ ys) := fun Q k => h1 _ (h2 _ ⟨hl, k⟩)
theorem evx_ix {dl : TXL} {xs : List Exv} {n : Nat} {x : Exv} (h : EvXL dl ρ xs) (hx : xs[n]? = some x) : EvX (xIx dl n) ρ x := fun Q k => h _ ⟨x, hx, k⟩
theorem ev_field {f : Str} {R0 : Addr → Prop} {dx : TXD} {x : Exv} {n : Int} (h : EvX dx ρ x) (h0 : R0 x.C) (hl : x.fs.lookup f = some n) : Ev (dField f R0 dx) ρ (.int n) := fun Q k => h _ ⟨n, h0, hl, k _ (fun _ h => h) (fun _ h => h)⟩
theorem s_setX {i : Nat} {dl : TXL} {n : TSD} {D : DEnds} {xs : List Exv} (h : EvXL dl ρ xs) (hi : i < ρ.length) (k : n D (ρ.set i (.res false (exsR xs)))) : sSeq (sSetX i dl) n D ρ := h _ ⟨hi, k⟩
theorem s_forX {i j : Nat} {dw : TED} {dl : TXL} {t n : TSD} {D : DEnds} {ws : List PyData} {xs : List Exv} (hw : Ev dw ρ (.list ws)) (hx : EvXL dl ρ xs) (k : forX i j t { D with nx := n D } (ws.zip xs) ρ) : sSeq (sForX i j dw dl t) n D ρ :=
  hw _ fun r _ h2 => h2 (fun x ρ2 => ∃ ws, x = .list ws ∧ dl ρ2 fun xs ρ3 => forX i j t { D with nx := n D } (ws.zip xs) ρ3) ⟨ws, rfl, hx _ k⟩
end
def body6 (W : WD) (cA : Str → Addr) : TSD := sIf (dOr (dTest (dOp dNeS (withLent 9 (dCallL (p__law_error_kind cA) W 9 (dNil))) (dVar 8))) (dNot (dTest (dIsV 9 (R0X cA "TwoSpeedsError"))))) (sRet (dC (.bool false))) (sNext)
theorem loop6 {W : WD} {cA : Str → Addr} {D : DEnds} {c0 c1 c2 c3 c4 c5 c6 c7 c10 : SD} (h : ∀ a8 a9, D.nx [c0, c1, c2, c3, c4, c5, c6, c7, a8, a9, c10]) : ∀ (ps : List (PyData × Exv)) (a8 a9 : SD), (∀ p ∈ ps, ∃ a w, p.1 = .str w ∧ p.2.C = cA a ∧ (a, w) ∈ kinds06) →
    forX 8 9 (body6 W cA) D ps [c0, c1, c2, c3, c4, c5, c6, c7, a8, a9, c10]
  | [], a8, a9, _ => h a8 a9
  | (p, x) :: ps, a8, a9, hp => by
    obtain ⟨a, w, h1, hC, hm⟩ := hp (p, x) List.mem_cons_self
    dsimp only at h1 hC
    subst h1
    refine ⟨by simp, ?_⟩
    show body6 W cA _ [c0, c1, c2, c3, c4, c5, c6, c7, .val (.str w), .res false (exvR x), c10]
    have e1 : Ev (withLent 9 (dCallL (p__law_error_kind cA) W 9 (dNil))) [c0, c1, c2, c3, c4, c5, c6, c7, .val (.str w), .res false (exvR x), c10] (.str w) := fun Q k =>
      ⟨trivial, ⟨x, a, w, rfl, hC, hm, k (.d (.str w)) (fun _ h => h) (fun _ h => h)⟩⟩
    have e2 : EvT (dTest (dOp dNeS (withLent 9 (dCallL (p__law_error_kind cA) W 9 (dNil))) (dVar 8))) [c0, c1, c2, c3, c4, c5, c6, c7, .val (.str w), .res false (exvR x), c10] false :=
      evt_test (ev_op e1 (ev_var 8 rfl) fun k hk => by
        show k (.bool (!decide (w = w)))
        rw [decide_eq_true rfl]
        exact hk)
    have hx : a ∈ xCls ∧ isaX a "TwoSpeedsError" = true := by
      simp only [kinds06, List.mem_cons, List.not_mem_nil, or_false, Prod.mk.injEq] at hm
      rcases hm with ⟨rfl, _⟩ | ⟨rfl, _⟩ | ⟨rfl, _⟩ | ⟨rfl, _⟩ | ⟨rfl, _⟩ | ⟨rfl, _⟩ | ⟨rfl, _⟩ | ⟨rfl, _⟩ | ⟨rfl, _⟩ | ⟨rfl, _⟩ | ⟨rfl, _⟩ <;> exact ⟨by simp [xCls], by decide +kernel⟩
    have e3 : EvT (dNot (dTest (dIsV 9 (R0X cA "TwoSpeedsError")))) [c0, c1, c2, c3, c4, c5, c6, c7, .val (.str w), .res false (exvR x), c10] false :=
      show EvT _ _ (!true) from evt_not (evt_test (ev_isV false rfl (r0_at true hC hx.1 hx.2)))
    unfold body6
    refine s_ifF6 (evt_or0 e2 e3) ?_
    exact loop6 h ps _ _ fun q hq => hp q (List.mem_cons_of_mem _ hq)
def tail6 (W : WD) (cA : Str → Addr) : TSD := sSeq (sSetX 6 (xLst (xCons (dXi (cA "SyntaxProblem") ["line", "column"] (dCons (dVar 2) (dCons (dVar 3) (dNil)))) (xCons (dXi (cA "TooMany") ["limit"] (dCons (dVar 4) (dNil))) (xCons (dXo (cA "InvalidNumber") (dVar 5)) (xCons (dXo (cA "ZeroDivisor") (dVar 5)) (xCons (dXo (cA "OtherRoot") (dVar 5)) (xNil)))))))) (sSeq (sSetX 6 (xCat (xVar 6) (xLst (xCons (dXo (cA "NoVariable") (dVar 5)) (xCons (dXo (cA "OutOfRange") (dVar 5)) (xCons (dXo (cA "Incompatible") (dVar 5)) (xCons (dXo (cA "NotReached") (dVar 5)) (xCons (dXo (cA "NoMark") (dVar 5)) (xNil))))))))) (sSeq (sSet 7 (dNew (nLst (dCons (dC (.str "syntax")) (dCons (dC (.str "many")) (dCons (dC (.str "number")) (dCons (dC (.str "zero")) (dCons (dC (.str "root")) (dCons (dC (.str "variable")) (dCons (dC (.str "range")) (dCons (dC (.str "differ")) (dCons (dC (.str "reached")) (dCons (dC (.str "mark")) (dCons (dC (.str "command")) (dNil))))))))))))))) (sSeq (sForX 8 9 (dVar 7) (xCat (xVar 6) (xLst (xCons (dXo (cA "InvalidCommand") (dVar 5)) (xNil)))) (body6 W cA)) (sRet (dCall p__law_alike W (dCons (dNew (nLst (dCons (dField "line" (fun D => D = cA "SyntaxProblem") (xIx (xVar 6) 0)) (dCons (dField "column" (fun D => D = cA "SyntaxProblem") (xIx (xVar 6) 0)) (dCons (dField "limit" (fun D => D = cA "TooMany") (xIx (xVar 6) 1)) (dNil)))))) (dCons (dNew (nLst (dCons (dVar 2) (dCons (dVar 3) (dCons (dVar 4) (dNil)))))) (dNil))))))))
theorem tail6_ok {W : WD} {cA : Str → Addr} {D : DEnds} {c0 c1 a6 a7 a8 a9 c10 : SD} {n1 n2 n3 : Int} {z : PyData} (h1 : 0 ≤ n1 ∧ n1 < 1000) (h2 : 0 ≤ n2 ∧ n2 < 1000) (h3 : 0 ≤ n3 ∧ n3 < 1000)
    (h : ∀ a6 a7 a8 a9, D.rt (.d (.bool true)) [c0, c1, iv n1, iv n2, iv n3, .val z, a6, a7, a8, a9, c10]) : tail6 W cA D [c0, c1, iv n1, iv n2, iv n3, .val z, a6, a7, a8, a9, c10] := by
  have bd : ∀ {n : Int}, 0 ≤ n ∧ n < 1000 → Bd 1900 n := fun {n} hn => (show Bd 10 n by unfold Bd; omega).mono (by omega)
  have own : ∀ (x : Str) (a6 a7 : SD), EvX (dXo (cA x) (dVar 5)) [c0, c1, iv n1, iv n2, iv n3, .val z, a6, a7, a8, a9, c10] ⟨cA x, []⟩ := fun x a6 a7 => evx_own (ev_var 5 rfl)
  unfold tail6
  refine s_setX (evxl_lst (evxl_cons (evx_init (is := [n1, n2]) (eva_cons (ev_var 2 rfl) (eva_cons (ev_var 3 rfl) eva_nil)) rfl (by simp) (fun i hi => ?_)) (evxl_cons (evx_init (is := [n3]) (eva_cons (ev_var 4 rfl) eva_nil) rfl (by simp) (fun i hi => ?_))
    (evxl_cons (own _ _ _) (evxl_cons (own _ _ _) (evxl_cons (own _ _ _) evxl_nil))))) (by simp)) (by simp) ?_
  · simp only [List.mem_cons, List.not_mem_nil, or_false] at hi
    rcases hi with rfl | rfl
    · exact bd_show (bd h1)
    · exact bd_show (bd h2)
  · simp only [List.mem_cons, List.not_mem_nil, or_false] at hi
    subst hi
    exact bd_show (bd h3)
  refine s_setX (evxl_cat (evxl_var (i := 6) rfl) (evxl_lst (evxl_cons (own _ _ _) (evxl_cons (own _ _ _) (evxl_cons (own _ _ _) (evxl_cons (own _ _ _) (evxl_cons (own _ _ _) evxl_nil))))) (by simp)) (by simp)) (by simp) ?_
  refine s_set (ev_new (eva_cons ev_c (eva_cons ev_c (eva_cons ev_c (eva_cons ev_c (eva_cons ev_c (eva_cons ev_c (eva_cons ev_c (eva_cons ev_c (eva_cons ev_c (eva_cons ev_c (eva_cons ev_c eva_nil))))))))))) (by simp)) ?_
  refine s_forX (ev_var 7 rfl) (evxl_cat (evxl_var (i := 6) rfl) (evxl_lst (evxl_cons (own _ _ _) evxl_nil) (by simp)) (by simp)) ?_
  have l1 : List.lookup ("line" : Str) [(("column" : Str), n2), ("line", n1)] = some n1 := by
    rw [List.lookup_cons, show (("line" : Str) == "column") = false from by decide +kernel]; dsimp only; rw [List.lookup_cons, show (("line" : Str) == "line") = true from by decide +kernel]
  have l2 : List.lookup ("column" : Str) [(("column" : Str), n2), ("line", n1)] = some n2 := by
    rw [List.lookup_cons, show (("column" : Str) == "column") = true from by decide +kernel]
  have l3 : List.lookup ("limit" : Str) [(("limit" : Str), n3)] = some n3 := by
    rw [List.lookup_cons, show (("limit" : Str) == "limit") = true from by decide +kernel]
  refine loop6 (fun b8 b9 => ?_) _ _ _ ?_
  · have hv := evxl_var (ρ := [c0, c1, iv n1, iv n2, iv n3, .val z, .res false (exsR ([⟨cA "SyntaxProblem", [(("column" : Str), n2), ("line", n1)]⟩, ⟨cA "TooMany", [(("limit" : Str), n3)]⟩, ⟨cA "InvalidNumber", []⟩, ⟨cA "ZeroDivisor", []⟩, ⟨cA "OtherRoot", []⟩] ++ [⟨cA "NoVariable", []⟩, ⟨cA "OutOfRange", []⟩, ⟨cA "Incompatible", []⟩, ⟨cA "NotReached", []⟩, ⟨cA "NoMark", []⟩])), .val (.list [.str "syntax", .str "many", .str "number", .str "zero", .str "root", .str "variable", .str "range", .str "differ", .str "reached", .str "mark", .str "command"]), b8, b9, c10]) (i := 6) rfl
    have f1 := ev_field (R0 := fun D => D = cA "SyntaxProblem") (evx_ix (n := 0) hv rfl) rfl l1
    have f2 := ev_field (R0 := fun D => D = cA "SyntaxProblem") (evx_ix (n := 0) hv rfl) rfl l2
    have f3 := ev_field (R0 := fun D => D = cA "TooMany") (evx_ix (n := 1) hv rfl) rfl l3
    refine s_ret (z := .bool true) (ev_call (zs := [.list [.int n1, .int n2, .int n3], .list [.int n1, .int n2, .int n3]]) (eva_cons (ev_new (eva_cons f1 (eva_cons f2 (eva_cons f3 eva_nil))) (by simp))
      (eva_cons (ev_new (eva_cons (ev_var 2 rfl) (eva_cons (ev_var 3 rfl) (eva_cons (ev_var 4 rfl) eva_nil))) (by simp)) eva_nil)) fun QD ED hq => ?_) (h _ _ _ _)
    obtain ⟨x1, x2, x3, x4⟩ := lst_shown (ns := [n1, n2, n3]) (fun n hn => by
      simp only [List.mem_cons, List.not_mem_nil, or_false] at hn
      rcases hn with rfl | rfl | rfl
      · exact bd h1
      · exact bd h2
      · exact bd h3) (by simp)
    exact ⟨_, rfl, x1, x2, x3, x4, hq⟩
  · intro p hp
    have mem : ∀ {a w : Str} {x : Exv}, x.C = cA a → (a, w) ∈ kinds06 → ((.str w, x) : PyData × Exv) = p → ∃ a w, p.1 = .str w ∧ p.2.C = cA a ∧ (a, w) ∈ kinds06 := fun {a w x} hx hm e => by subst e; exact ⟨a, w, rfl, hx, hm⟩
    simp only [List.cons_append, List.nil_append, List.zip_cons_cons, List.zip_nil_right, List.mem_cons, List.not_mem_nil, or_false] at hp
    rcases hp with e | e | e | e | e | e | e | e | e | e | e
    · exact mem (a := "SyntaxProblem") rfl (by simp [kinds06]) e.symm
    · exact mem (a := "TooMany") rfl (by simp [kinds06]) e.symm
    · exact mem (a := "InvalidNumber") rfl (by simp [kinds06]) e.symm
    · exact mem (a := "ZeroDivisor") rfl (by simp [kinds06]) e.symm
    · exact mem (a := "OtherRoot") rfl (by simp [kinds06]) e.symm
    · exact mem (a := "NoVariable") rfl (by simp [kinds06]) e.symm
    · exact mem (a := "OutOfRange") rfl (by simp [kinds06]) e.symm
    · exact mem (a := "Incompatible") rfl (by simp [kinds06]) e.symm
    · exact mem (a := "NotReached") rfl (by simp [kinds06]) e.symm
    · exact mem (a := "NoMark") rfl (by simp [kinds06]) e.symm
    · exact mem (a := "InvalidCommand") rfl (by simp [kinds06]) e.symm
theorem r_law_eq6 (W : WD) (cA : Str → Addr) : r_law W cA = sSeq (sOwn 1 (withLentN 0 (nCallL p__law_spool_of W 0 (dNil)))) (sSeq (sAsg (dNew (nLc [10] (range1D (dCons (dC (.int 3)) (dNil))) (gName' 10) (dYes) (withLent 1 (dCallL p__law_upto W0 1 (dCons (dC (.int 1000)) (dNil)))))) (gLst' (lenIs 3 (gCons' (gName' 2) (gCons' (gName' 3) (gCons' (gName' 4) (gNil'))))))) (sSeq (sSet 5 (withLent 1 (dCallL p__law_choice W 1 (dCons (dNew (nLst (dCons (dC (.str "")) (dCons (dC (.str "x")) (dCons (dC (.str "not a number")) (dNil)))))) (dNil))))) (tail6 W cA))) := rfl
theorem g3 {k : DSt → Prop} {x y z : PyData} {ρ : DSt} (h : k (((ρ.set 2 (.val x)).set 3 (.val y)).set 4 (.val z))) : gCons' (gName' 2) (gCons' (gName' 3) (gCons' (gName' 4) gNil')) [x, y, z] ρ k := h
theorem pure_law {cA : Str → Addr} (α : List SD) (QD : Ret → List SD → Prop) (ED : Exd → List SD → Prop) (W : WD) (hW : W = fun e ρ => outK α ρ fun α' => ED e α') (h : p_law α QD ED) : r_law W cA (DEnd α QD) (startD n_law.length α) := by
  obtain ⟨ns, hl, rfl, hq⟩ := h
  rw [r_law_eq6]
  have st : startD n_law.length [SD.res true (scriptR ns)] = [SD.res true (scriptR ns), .no, .no, .no, .no, .no, .no, .no, .no, .no, .no] := rfl
  rw [st]
  refine s_spool hl fun s hs => ?_
  have k1 : Bd 1000 1000 := (show Bd 10 1000 by unfold Bd; decide).mono (by omega)
  have z : ∀ (l : List PyData), l.length ≤ 100 → l.length < sizeLine := fun l h => by rw [sizeLine_eq]; omega
  refine s_asgP6 (fun z ρ' => ∃ (n1 n2 n3 : Int) (s' : Spl), z = .list [.int n1, .int n2, .int n3] ∧ (0 ≤ n1 ∧ n1 < 1000) ∧ (0 ≤ n2 ∧ n2 < 1000) ∧ (0 ≤ n3 ∧ n3 < 1000) ∧ Sok 3 s' ∧ ρ' = [.res true (scriptR ns), .own false s'.L, .no, .no, .no, .no, .no, .no, .no, .no, .no]) (fun Q hQ => ?_) ?_
  · refine x_lcR (n := 3) ev_c (by decide) (by decide) ?_
    show lcD [10] (gName' 10) dYes _ [.int 0, .int 1, .int 2] [] [.res true (scriptR ns), .own false s.L, .no, .no, .no, .no, .no, .no, .no, .no, .no] _
    refine lc_step [.res true (scriptR ns), .own false s.L, .no, .no, .no, .no, .no, .no, .no, .no, iv 0] (fun _ h => h) ?_
    refine dr_uptoJ 1 (b := 1000) rfl ev_c hs (by decide) (by decide) k1 fun n1 s1 a1 b1 hs1 => ⟨z _ (by simp), ?_⟩
    refine lc_step [.res true (scriptR ns), .own false s1.L, .no, .no, .no, .no, .no, .no, .no, .no, iv 1] (fun _ h => h) ?_
    refine dr_uptoJ 1 (b := 1000) rfl ev_c hs1 (by decide) (by decide) k1 fun n2 s2 a2 b2 hs2 => ⟨z _ (by simp), ?_⟩
    refine lc_step [.res true (scriptR ns), .own false s2.L, .no, .no, .no, .no, .no, .no, .no, .no, iv 2] (fun _ h => h) ?_
    refine dr_uptoJ 1 (b := 1000) rfl ev_c hs2 (by decide) (by decide) k1 fun n3 s3 a3 b3 hs3 => ⟨z _ (by simp), ?_⟩
    exact lc_end (hQ _ _ ⟨n1, n2, n3, s3, rfl, ⟨a1, b1⟩, ⟨a2, b2⟩, ⟨a3, b3⟩, hs3, rfl⟩)
  rintro _ _ ⟨n1, n2, n3, s1, rfl, h1, h2, h3, hs1, rfl⟩
  refine ⟨rfl, g3 ?_⟩
  refine s_setP6 (fun z ρ' => ∃ s' : Spl, ρ' = [.res true (scriptR ns), .own false s'.L, iv n1, iv n2, iv n3, .no, .no, .no, .no, .no, .no]) (fun Q hQ => ?_) ?_
  · exact dr_choiceJ 1 (xs := [.str "", .str "x", .str "not a number"]) rfl (ev_new (eva_cons ev_c (eva_cons ev_c (eva_cons ev_c eva_nil))) (by simp)) hs1 (by decide) (by simp) (by simp) fun y s' _ _ => hQ _ _ ⟨s', rfl⟩
  rintro y _ ⟨s2, rfl⟩
  exact tail6_ok h1 h2 h3 fun _ _ _ _ => hq
theorem len__law_error_kind {cA : Str → Addr} : ∀ α QD ED, p__law_error_kind cA α QD ED → α.length = [("error" : Str)].length := by rintro α QD ED ⟨x, a, w, rfl, _⟩; rfl
end KK

set_option maxHeartbeats 0
namespace KK
open PySem PySem.Spec PyProof.Rows L2 DL
def top (i : Nat) : Stmt := PySem.Challenge.pw_twospeeds_k06_errors.main.body.getD i (.Pass ⟨0, 0, 0, 0⟩)
abbrev FnP (K : PySem.W.Frag) (x : Str) (st : Stmt) (f : Addr) (fd : FuncData) : Prop := L2.FunD K x x (defArgs st) (defBody st) (defScope st) [] [] f fd
def mth (i j : Nat) : Stmt := match top i with
  | .ClassDef _ _ _ b _ _ _ _ _ _ _ => b.getD j (.Pass ⟨0, 0, 0, 0⟩)
  | s => s
section
variable {P : Program} {w : World} {K : PySem.W.Frag} {mg : Str → Option Value} {base : Heap} {f : Addr} {fd : FuncData}
theorem sc__law_stirred : FnScope n__law_stirred ["cell", "place"] (defScope (top 14)) := ⟨rfl, rfl, rfl, by decide +kernel, rfl, by decide +kernel, by decide +kernel⟩
theorem ok__law_stirred (F : FnP K "_law_stirred" (top 14) f fd) (z_range : mg "range" = none) : FnD P w K mg base 1 f fd ["cell", "place"] p__law_stirred := by
  refine FunD.okD F sc__law_stirred len__law_stirred fun cdv A outer s H E C α QD ED hr hW hp => ?_
  exact body_of (dss_cons (ds_set 2 (de_int)) (dss_cons (ds_set 3 (de_op od_mod (de_op od_addU (de_op od_addU (de_op od_mul (de_var 0) (de_int)) (de_op od_mul (de_var 1) (de_int))) (de_int)) (de_var 2))) (dss_cons (ds_for (passes_of rfl) (di_range1 (by rfl) z_range (da_cons (de_int) (da_nil))) (dg_name 4) (dss_one (ds_set 3 (de_op od_mod (de_op od_addU (de_op od_addU (de_op od_addU (de_op od_mul (de_var 3) (de_var 3)) (de_op od_mul (de_int) (de_var 3))) (de_op od_mul (de_int) (de_var 4))) (de_var 1)) (de_var 2))))) (dss_one (ds_ret (de_op od_addU (de_op od_mul (de_var 3) (de_var 2)) (de_op od_mod (de_op od_addU (de_op od_mul (de_var 3) (de_int)) (de_var 1)) (de_var 2)))))))) (pure__law_stirred α QD ED C.W hW hp)
theorem sc__law_spool_of : FnScope n__law_spool_of ["script"] (defScope (top 15)) := ⟨rfl, rfl, rfl, by decide +kernel, rfl, by decide +kernel, by decide +kernel⟩
theorem ok__law_spool_of (F : FnP K "_law_spool_of" (top 15) f fd) (z_enumerate : mg "enumerate" = none) (z_abs : mg "abs" = none) : FnD P w K mg base 1 f fd ["script"] p__law_spool_of := by
  refine FunD.okD F sc__law_spool_of len__law_spool_of fun cdv A outer s H E C α QD ED hr hW hp => ?_
  exact body_of (dss_cons (ds_setLc 1 [("cell", 3)] (di_list (de_new (dn_scr 0 (do_none) (do_some (de_int))))) (by kernel_rfl) (fun _ _ _ _ _ => ⟨_, dg_name 3⟩) (fun _ _ _ _ _ => ⟨_, dts_nil⟩) (fun _ _ _ _ _ => ⟨_, de_B1 cd_abs z_abs (de_var 3)⟩)) (dss_cons (ds_for (passes_of rfl) (di_enum z_enumerate (da_cons (de_new (dn_scr 0 (do_some (de_int)) (do_some (de_int)))) (da_nil))) (dg_tup (dgs_cons (dg_name 2) (dgs_cons (dg_name 3) (dgs_nil)))) (dss_one (ds_put 1 (de_op od_addU (de_ix (de_var 1) (de_op od_mod (de_var 2) (de_int))) (de_B1 cd_abs z_abs (de_var 3))) (de_op od_mod (de_var 2) (de_int))))) (dss_one (ds_retN (dn_lst (da_cons (de_var 1) (da_cons (de_int) (da_cons (de_int) (da_cons (de_int) (da_nil)))))))))) (pure__law_spool_of α QD ED C.W hW hp)
theorem sc__law_upto : FnScope n__law_upto ["spool", "bound"] (defScope (top 16)) := ⟨rfl, rfl, rfl, by decide +kernel, rfl, by decide +kernel, by decide +kernel⟩
theorem ok__law_upto (F : FnP K "_law_upto" (top 16) f fd) (z_len : mg "len" = none) (c__law_stirred : CalD P w K mg base 1 "_law_stirred" ["cell", "place"] p__law_stirred) : FnD P w K mg base 2 f fd ["spool", "bound"] p__law_upto := by
  refine FunD.okD F sc__law_upto len__law_upto fun cdv A outer s H E C α QD ED hr hW hp => ?_
  exact body_of (dss_cons (ds_if (dt_cmp od_lt (de_ix (de_var 0) (de_int)) (de_var 1) rfl) (dss_cons (ds_par (i := 2) (j := 3) (da_cons (de_ix (de_var 0) (de_int)) (da_cons (de_ix (de_var 0) (de_int)) (da_nil)))) (dss_cons (ds_set 4 (de_if (dt_cmp od_ne (de_var 2) (de_new (dn_lst (da_nil))) rfl) (de_ix (de_var 2) (de_op od_mod (de_var 3) (de_B1 cd_len z_len (de_var 2)))) (de_int))) (dss_cons (ds_if ((dw_or (dt_cmp od_ge (de_var 3) (de_B1 cd_len z_len (de_var 2)) rfl) (dw_or1 (dt_cmp od_lt (de_var 4) (de_op od_pow (de_int) (de_int)) rfl))).dt) (dss_one (ds_set 4 (de_callC (c__law_stirred.mono (by decide)) hr (da_cons (de_op od_mod (de_var 4) (de_int)) (da_cons (de_var 3) (da_nil)))))) (dss_nil)) (dss_cons (ds_put 0 (de_op od_addU (de_var 3) (de_int)) (de_int)) (dss_cons (ds_put 0 (de_var 4) (de_int)) (dss_one (ds_put 0 (de_var 4) (de_int)))))))) (dss_nil)) (dss_cons (ds_set 5 (de_op od_mod (de_ix (de_var 0) (de_int)) (de_var 1))) (dss_cons (ds_put 0 (de_op od_fdiv (de_ix (de_var 0) (de_int)) (de_var 1)) (de_int)) (dss_cons (ds_put 0 (de_op od_fdiv (de_ix (de_var 0) (de_int)) (de_var 1)) (de_int)) (dss_one (ds_ret (de_var 5))))))) (pure__law_upto α QD ED C.W hW hp)
theorem sc__law_choice : FnScope n__law_choice ["spool", "items"] (defScope (top 17)) := ⟨rfl, rfl, rfl, by decide +kernel, rfl, by decide +kernel, by decide +kernel⟩
theorem ok__law_choice (F : FnP K "_law_choice" (top 17) f fd) (z_len : mg "len" = none) (c__law_upto : CalD P w K mg base 2 "_law_upto" ["spool", "bound"] p__law_upto) : FnD P w K mg base 3 f fd ["spool", "items"] p__law_choice := by
  refine FunD.okD F sc__law_choice len__law_choice fun cdv A outer s H E C α QD ED hr hW hp => ?_
  exact body_of (dss_one (ds_ret (de_ix (de_var 1) (de_callLC 0 (c__law_upto.mono (by decide)) hr (da_cons (de_B1 cd_len z_len (de_var 1)) (da_nil)))))) (pure__law_choice α QD ED C.W hW hp)
theorem sc__law_alike : FnScope n__law_alike ["one", "other"] (defScope (top 18)) := ⟨rfl, rfl, rfl, by decide +kernel, rfl, by decide +kernel, by decide +kernel⟩
theorem ok__law_alike (F : FnP K "_law_alike" (top 18) f fd) (z_repr : mg "repr" = none) : FnD P w K mg base 1 f fd ["one", "other"] p__law_alike := by
  refine FunD.okD F sc__law_alike len__law_alike fun cdv A outer s H E C α QD ED hr hW hp => ?_
  exact body_of (dss_one (ds_ret (de_cmp od_eqS (de_B1 cd_repr z_repr (de_var 0)) (de_B1 cd_repr z_repr (de_var 1)) rfl))) (pure__law_alike α QD ED C.W hW hp)
theorem sc__law_error_kind : FnScope n__law_error_kind ["error"] (defScope (top 19)) := ⟨rfl, rfl, rfl, by decide +kernel, rfl, by decide +kernel, by decide +kernel⟩
theorem ok__law_error_kind (F : FnP K "_law_error_kind" (top 19) f fd) (z_isinstance : mg "isinstance" = none) (z_ValueError : mg "ValueError" = none) {cA : Str → Addr} (mX : ∀ x ∈ xAll, mg x = some (.ref (cA x))) (xX : ∀ x ∈ xPlain, ExcD K mg x (cA x)) (kX : ∀ x ∈ xTests, ∀ D b, R0X cA x D b → L2.ExcC K D ∧ PySem.W.kitOne K (.ref D) (.ref (cA x)) = some b) (kV : ∀ D b, R0X cA "ValueError" D b → L2.ExcC K D ∧ PySem.W.kitOne K (.ref D) (.type "ValueError") = some b) (fX : ∀ p ∈ xFld, L2.ExcC K (cA p.1) ∧ PySem.W.findIn K (.ref (cA p.1)) p.2 = some none) (oX_TooMany : OexD P w K mg base 1 "TooMany" (cA "TooMany") ["limit"]) (oX_SyntaxProblem : OexD P w K mg base 1 "SyntaxProblem" (cA "SyntaxProblem") ["line", "column"]) : FnD P w K mg base 1 f fd ["error"] (p__law_error_kind cA) := by
  refine FunD.okD F sc__law_error_kind len__law_error_kind fun cdv A outer s H E C α QD ED hr hW hp => ?_
  exact body_of (dss_cons (ds_set 1 (de_new (dn_lst (da_cons (de_isV (cv := .ref (cA "SyntaxProblem")) 0 (R0 := (R0X cA "SyntaxProblem")) (kX "SyntaxProblem" (by simp [xTests])) z_isinstance (pe_glob (v := .ref (cA "SyntaxProblem")) (by rfl) (mX "SyntaxProblem" (by simp [xAll])) rfl) (fun _ h => h)) (da_cons (de_isV (cv := .ref (cA "TooMany")) 0 (R0 := (R0X cA "TooMany")) (kX "TooMany" (by simp [xTests])) z_isinstance (pe_glob (v := .ref (cA "TooMany")) (by rfl) (mX "TooMany" (by simp [xAll])) rfl) (fun _ h => h)) (da_cons (de_isV (cv := .ref (cA "InvalidNumber")) 0 (R0 := (R0X cA "InvalidNumber")) (kX "InvalidNumber" (by simp [xTests])) z_isinstance (pe_glob (v := .ref (cA "InvalidNumber")) (by rfl) (mX "InvalidNumber" (by simp [xAll])) rfl) (fun _ h => h)) (da_nil))))))) (dss_cons (ds_set 1 (de_op od_addU (de_var 1) (de_new (dn_lst (da_cons (de_isV (cv := .ref (cA "ZeroDivisor")) 0 (R0 := (R0X cA "ZeroDivisor")) (kX "ZeroDivisor" (by simp [xTests])) z_isinstance (pe_glob (v := .ref (cA "ZeroDivisor")) (by rfl) (mX "ZeroDivisor" (by simp [xAll])) rfl) (fun _ h => h)) (da_cons (de_isV (cv := .ref (cA "OtherRoot")) 0 (R0 := (R0X cA "OtherRoot")) (kX "OtherRoot" (by simp [xTests])) z_isinstance (pe_glob (v := .ref (cA "OtherRoot")) (by rfl) (mX "OtherRoot" (by simp [xAll])) rfl) (fun _ h => h)) (da_cons (de_isV (cv := .ref (cA "NoVariable")) 0 (R0 := (R0X cA "NoVariable")) (kX "NoVariable" (by simp [xTests])) z_isinstance (pe_glob (v := .ref (cA "NoVariable")) (by rfl) (mX "NoVariable" (by simp [xAll])) rfl) (fun _ h => h)) (da_nil)))))))) (dss_cons (ds_set 1 (de_op od_addU (de_var 1) (de_new (dn_lst (da_cons (de_isV (cv := .ref (cA "OutOfRange")) 0 (R0 := (R0X cA "OutOfRange")) (kX "OutOfRange" (by simp [xTests])) z_isinstance (pe_glob (v := .ref (cA "OutOfRange")) (by rfl) (mX "OutOfRange" (by simp [xAll])) rfl) (fun _ h => h)) (da_cons (de_isV (cv := .ref (cA "Incompatible")) 0 (R0 := (R0X cA "Incompatible")) (kX "Incompatible" (by simp [xTests])) z_isinstance (pe_glob (v := .ref (cA "Incompatible")) (by rfl) (mX "Incompatible" (by simp [xAll])) rfl) (fun _ h => h)) (da_cons (de_isV (cv := .ref (cA "NotReached")) 0 (R0 := (R0X cA "NotReached")) (kX "NotReached" (by simp [xTests])) z_isinstance (pe_glob (v := .ref (cA "NotReached")) (by rfl) (mX "NotReached" (by simp [xAll])) rfl) (fun _ h => h)) (da_nil)))))))) (dss_cons (ds_set 1 (de_op od_addU (de_var 1) (de_new (dn_lst (da_cons (de_isV (cv := .ref (cA "NoMark")) 0 (R0 := (R0X cA "NoMark")) (kX "NoMark" (by simp [xTests])) z_isinstance (pe_glob (v := .ref (cA "NoMark")) (by rfl) (mX "NoMark" (by simp [xAll])) rfl) (fun _ h => h)) (da_cons (de_isV (cv := .ref (cA "InvalidCommand")) 0 (R0 := (R0X cA "InvalidCommand")) (kX "InvalidCommand" (by simp [xTests])) z_isinstance (pe_glob (v := .ref (cA "InvalidCommand")) (by rfl) (mX "InvalidCommand" (by simp [xAll])) rfl) (fun _ h => h)) (da_nil))))))) (dss_cons (ds_if ((dw_or (dt_cmp od_ne (de_count (de_var 1) (de_bl)) (de_int) rfl) (dw_or1 (dt_not (dt_val (de_isV (cv := .type "ValueError") 0 (R0 := (R0X cA "ValueError")) kV z_isinstance (pe_bltn (v := .ty "ValueError") (by rfl) z_ValueError (by decide +kernel) rfl) (fun _ h => h)))))).dt) (dss_one (ds_ret (de_str))) (dss_nil)) (dss_cons (ds_set 2 (de_new (dn_lst (da_cons (de_str) (da_cons (de_str) (da_cons (de_str) (da_cons (de_str) (da_cons (de_str) (da_cons (de_str) (da_cons (de_str) (da_cons (de_str) (da_cons (de_str) (da_cons (de_str) (da_cons (de_str) (da_nil))))))))))))))) (dss_one (ds_ret (de_ix (de_var 2) (de_index (de_var 1) (de_bl))))))))))) (pure__law_error_kind α QD ED C.W hW hp)
theorem sc_law : FnScope n_law ["script"] (defScope (top 20)) := ⟨rfl, rfl, rfl, by decide +kernel, rfl, by decide +kernel, by decide +kernel⟩
theorem ok_law (F : FnP K "law" (top 20) f fd) (z_zip : mg "zip" = none) (z_range : mg "range" = none) (z_isinstance : mg "isinstance" = none) {cA : Str → Addr} (mX : ∀ x ∈ xAll, mg x = some (.ref (cA x))) (xX : ∀ x ∈ xPlain, ExcD K mg x (cA x)) (kX : ∀ x ∈ xTests, ∀ D b, R0X cA x D b → L2.ExcC K D ∧ PySem.W.kitOne K (.ref D) (.ref (cA x)) = some b) (kV : ∀ D b, R0X cA "ValueError" D b → L2.ExcC K D ∧ PySem.W.kitOne K (.ref D) (.type "ValueError") = some b) (fX : ∀ p ∈ xFld, L2.ExcC K (cA p.1) ∧ PySem.W.findIn K (.ref (cA p.1)) p.2 = some none) (oX_TooMany : OexD P w K mg base 1 "TooMany" (cA "TooMany") ["limit"]) (oX_SyntaxProblem : OexD P w K mg base 1 "SyntaxProblem" (cA "SyntaxProblem") ["line", "column"]) (c__law_spool_of : CalD P w K mg base 1 "_law_spool_of" ["script"] p__law_spool_of) (c__law_choice : CalD P w K mg base 3 "_law_choice" ["spool", "items"] p__law_choice) (c__law_alike : CalD P w K mg base 1 "_law_alike" ["one", "other"] p__law_alike) (c__law_upto : CalD P w K mg base 2 "_law_upto" ["spool", "bound"] p__law_upto) (c__law_error_kind : CalD P w K mg base 1 "_law_error_kind" ["error"] (p__law_error_kind cA)) : FnD P w K mg base 4 f fd ["script"] p_law := by
  refine FunD.okD F sc_law len_law fun cdv A outer s H E C α QD ED hr hW hp => ?_
  exact body_of (dss_cons (ds_own 1 (dn_callLC 0 (c__law_spool_of.mono (by decide)) hr (da_nil))) (dss_cons (ds_asg (de_new (dn_lc [("turn", 10)] (di_range1 (by rfl) z_range (da_cons (de_int) (da_nil))) (by kernel_rfl) (fun _ _ _ _ _ => ⟨_, dg_name 10⟩) (fun _ _ _ _ _ => ⟨_, dts_nil⟩) (fun _ _ _ _ _ => ⟨_, de_callLC 1 (c__law_upto.mono (by decide)) hr (da_cons (de_int) (da_nil))⟩))) (dg_lst (dgs_cons (dg_name 2) (dgs_cons (dg_name 3) (dgs_cons (dg_name 4) (dgs_nil)))))) (dss_cons (ds_set 5 (de_callLC 1 (c__law_choice.mono (by decide)) hr (da_cons (de_new (dn_lst (da_cons (de_str) (da_cons (de_str) (da_cons (de_str) (da_nil)))))) (da_nil)))) (dss_cons (ds_setX 6 (dxl_lst (dxa_cons (dx_init (oX_SyntaxProblem.mono (by decide)) hr (da_cons (de_var 2) (da_cons (de_var 3) (da_nil)))) (dxa_cons (dx_init (oX_TooMany.mono (by decide)) hr (da_cons (de_var 4) (da_nil))) (dxa_cons (dx_own (xX "InvalidNumber" (by simp [xPlain])) (de_var 5)) (dxa_cons (dx_own (xX "ZeroDivisor" (by simp [xPlain])) (de_var 5)) (dxa_cons (dx_own (xX "OtherRoot" (by simp [xPlain])) (de_var 5)) (dxa_nil)))))))) (dss_cons (ds_setX 6 (dxl_cat (dxl_var 6) (dxl_lst (dxa_cons (dx_own (xX "NoVariable" (by simp [xPlain])) (de_var 5)) (dxa_cons (dx_own (xX "OutOfRange" (by simp [xPlain])) (de_var 5)) (dxa_cons (dx_own (xX "Incompatible" (by simp [xPlain])) (de_var 5)) (dxa_cons (dx_own (xX "NotReached" (by simp [xPlain])) (de_var 5)) (dxa_cons (dx_own (xX "NoMark" (by simp [xPlain])) (de_var 5)) (dxa_nil))))))))) (dss_cons (ds_set 7 (de_new (dn_lst (da_cons (de_str) (da_cons (de_str) (da_cons (de_str) (da_cons (de_str) (da_cons (de_str) (da_cons (de_str) (da_cons (de_str) (da_cons (de_str) (da_cons (de_str) (da_cons (de_str) (da_cons (de_str) (da_nil))))))))))))))) (dss_cons (ds_forX 8 9 (passes_of rfl) z_zip (de_var 7) (dxl_cat (dxl_var 6) (dxl_lst (dxa_cons (dx_own (xX "InvalidCommand" (by simp [xPlain])) (de_var 5)) (dxa_nil)))) (dss_one (ds_if ((dw_or (dt_cmp od_neS (de_callLC 9 (c__law_error_kind.mono (by decide)) hr (da_nil)) (de_var 8) rfl) (dw_or1 (dt_not (dt_val (de_isV (cv := .ref (cA "TwoSpeedsError")) 9 (R0 := (R0X cA "TwoSpeedsError")) (kX "TwoSpeedsError" (by simp [xTests])) z_isinstance (pe_glob (v := .ref (cA "TwoSpeedsError")) (by rfl) (mX "TwoSpeedsError" (by simp [xAll])) rfl) (fun _ h => h)))))).dt) (dss_one (ds_ret (de_bl))) (dss_nil)))) (dss_one (ds_ret (de_callC (c__law_alike.mono (by decide)) hr (da_cons (de_new (dn_lst (da_cons (de_field (R0 := fun D => D = cA "SyntaxProblem") (by rintro D rfl; exact fX ("SyntaxProblem", "line") (by simp [xFld])) (dx_ix 0 (dxl_var 6))) (da_cons (de_field (R0 := fun D => D = cA "SyntaxProblem") (by rintro D rfl; exact fX ("SyntaxProblem", "column") (by simp [xFld])) (dx_ix 0 (dxl_var 6))) (da_cons (de_field (R0 := fun D => D = cA "TooMany") (by rintro D rfl; exact fX ("TooMany", "limit") (by simp [xFld])) (dx_ix 1 (dxl_var 6))) (da_nil)))))) (da_cons (de_new (dn_lst (da_cons (de_var 2) (da_cons (de_var 3) (da_cons (de_var 4) (da_nil)))))) (da_nil))))))))))))) (pure_law α QD ED C.W hW hp)
theorem sci_TooMany : FnScope ["self", "limit"] ["self", "limit"] (defScope (mth 5 0)) := ⟨rfl, rfl, rfl, by decide +kernel, rfl, by decide +kernel, by decide +kernel⟩
theorem oki_TooMany (F : L2.FunD K "__init__" "TooMany.__init__" (defArgs (mth 5 0)) (defBody (mth 5 0)) (defScope (mth 5 0)) [] [] f fd) {cls : Addr} (iT : InitD K mg "TwoSpeedsError") (T : OexC K cls) (n1 : PySem.W.findIn K (.ref cls) "limit" = some none) : FnOk P w K mg base (L2.CX P w) 1 f fd ["self", "limit"] (initSp ["limit"] cls) := by
  refine F.ok sci_TooMany (initSp_len rfl) fun cdv A outer s H vs Q E hr hp => ?_
  exact ⟨_, pss_cons (ps_expr (pe_oinit iT (pa_cons (pe_var (i := 0) rfl (Or.inl rfl)) (pa_cons (pe_joined (.cons pe_str (.cons (pe_fmt (pe_var (i := 1) rfl (Or.inl rfl))) (.nil)))) pa_nil)))) (pss_one (ps_ost (pe_var (i := 0) rfl (Or.inl rfl)) (pe_var (i := 1) rfl (Or.inl rfl)))), init1 rfl T n1 hp (fun a n hn t ht => by
    simp only [List.mem_cons, List.not_mem_nil, or_false] at ht
    rcases ht with rfl | rfl
    · exact gd_c (by decide)
    · exact gd_fmt rfl hn) (by decide)⟩
theorem sci_SyntaxProblem : FnScope ["self", "line", "column"] ["self", "line", "column"] (defScope (mth 6 0)) := ⟨rfl, rfl, rfl, by decide +kernel, rfl, by decide +kernel, by decide +kernel⟩
theorem oki_SyntaxProblem (F : L2.FunD K "__init__" "SyntaxProblem.__init__" (defArgs (mth 6 0)) (defBody (mth 6 0)) (defScope (mth 6 0)) [] [] f fd) {cls : Addr} (iT : InitD K mg "TwoSpeedsError") (T : OexC K cls) (n1 : PySem.W.findIn K (.ref cls) "line" = some none) (n2 : PySem.W.findIn K (.ref cls) "column" = some none) : FnOk P w K mg base (L2.CX P w) 1 f fd ["self", "line", "column"] (initSp ["line", "column"] cls) := by
  refine F.ok sci_SyntaxProblem (initSp_len rfl) fun cdv A outer s H vs Q E hr hp => ?_
  exact ⟨_, pss_cons (ps_expr (pe_oinit iT (pa_cons (pe_var (i := 0) rfl (Or.inl rfl)) (pa_cons (pe_joined (.cons pe_str (.cons (pe_fmt (pe_var (i := 1) rfl (Or.inl rfl))) (.cons pe_str (.cons (pe_fmt (pe_var (i := 2) rfl (Or.inl rfl))) (.nil)))))) pa_nil)))) (pss_cons (ps_ost (pe_var (i := 0) rfl (Or.inl rfl)) (pe_var (i := 1) rfl (Or.inl rfl))) (pss_one (ps_ost (pe_var (i := 0) rfl (Or.inl rfl)) (pe_var (i := 2) rfl (Or.inl rfl))))), init2 rfl T n1 n2 hp (fun a n m hn hm t ht => by
    simp only [List.mem_cons, List.not_mem_nil, or_false] at ht
    rcases ht with rfl | rfl | rfl | rfl
    · exact gd_c (by decide)
    · exact gd_fmt rfl hn
    · exact gd_c (by decide)
    · exact gd_fmt rfl hm) (by decide)⟩
end
abbrev RR : PySem.W.OpenRow := PySem.W.OpenLaw.row PySem.Challenge.rw_twospeeds_k06_errors
def dd__law_stirred : He.DefD := ⟨("_law_stirred", none), "_law_stirred", "_law_stirred", defArgs (top 14), defBody (top 14), defScope (top 14), [], []⟩
def dd__law_spool_of : He.DefD := ⟨("_law_spool_of", none), "_law_spool_of", "_law_spool_of", defArgs (top 15), defBody (top 15), defScope (top 15), [], []⟩
def dd__law_upto : He.DefD := ⟨("_law_upto", none), "_law_upto", "_law_upto", defArgs (top 16), defBody (top 16), defScope (top 16), [], []⟩
def dd__law_choice : He.DefD := ⟨("_law_choice", none), "_law_choice", "_law_choice", defArgs (top 17), defBody (top 17), defScope (top 17), [], []⟩
def dd__law_alike : He.DefD := ⟨("_law_alike", none), "_law_alike", "_law_alike", defArgs (top 18), defBody (top 18), defScope (top 18), [], []⟩
def dd__law_error_kind : He.DefD := ⟨("_law_error_kind", none), "_law_error_kind", "_law_error_kind", defArgs (top 19), defBody (top 19), defScope (top 19), [], []⟩
def dd_law : He.DefD := ⟨("law", none), "law", "law", defArgs (top 20), defBody (top 20), defScope (top 20), [], []⟩
def ddi_TooMany : He.DefD := ⟨("TooMany", some "__init__"), "__init__", "TooMany.__init__", defArgs (mth 5 0), defBody (mth 5 0), defScope (mth 5 0), [], []⟩
def ddi_SyntaxProblem : He.DefD := ⟨("SyntaxProblem", some "__init__"), "__init__", "SyntaxProblem.__init__", defArgs (mth 6 0), defBody (mth 6 0), defScope (mth 6 0), [], []⟩
def fn : List He.DefD := [dd__law_stirred, dd__law_spool_of, dd__law_upto, dd__law_choice, dd__law_alike, dd__law_error_kind, dd_law, ddi_TooMany, ddi_SyntaxProblem]
def fa : List He.Fa := [.glo "_law_stirred", .glo "_law_spool_of", .glo "_law_upto", .glo "_law_choice", .glo "_law_alike", .glo "_law_error_kind", .glo "law", .free "range", .free "enumerate", .free "abs", .free "len", .free "repr", .free "isinstance", .free "ValueError", .free "zip", .glo "SyntaxProblem", .glo "TooMany", .glo "InvalidNumber", .glo "ZeroDivisor", .glo "OtherRoot", .glo "NoVariable", .glo "OutOfRange", .glo "Incompatible", .glo "NotReached", .glo "NoMark", .glo "InvalidCommand", .glo "TwoSpeedsError", .exc "InvalidNumber", .exc "ZeroDivisor", .exc "OtherRoot", .exc "NoVariable", .exc "OutOfRange", .exc "Incompatible", .exc "NotReached", .exc "NoMark", .exc "InvalidCommand"]
def ex (K : PySem.W.Frag) : Bool := kitsB K && (initB K "TwoSpeedsError" && (oexB K "TooMany" && (oeiB K "TooMany" ["limit"] && (oexB K "SyntaxProblem" && (oeiB K "SyntaxProblem" ["line", "column"])))))
abbrev hk : PySem.W.Hook := DL.hookY 5 fa fn ex
def ob (s : PySem.W.SharedT) : He.AlX := DL.obsY 5 fa fn ex (HandSHeadRun.getT s)
theorem ob_eq (s : PySem.W.SharedT) : ob s = hk.obs s.abs := DL.obsY_eq (HandSHeadRun.getT_eq s)
def loose : List Str := (["TwoSpeedsError", "InvalidNumber", "ZeroDivisor", "OtherRoot", "TooMany", "SyntaxProblem", "NoVariable", "OutOfRange", "Incompatible", "NotReached", "NoMark", "InvalidCommand", "_law_stirred", "_law_spool_of", "_law_upto", "_law_choice", "_law_alike", "_law_error_kind"] : List Str)
theorem run (w : World) : HandSHeadRun.RunEq RR (PySem.W.view RR.prog [20]) hk ob 4000 loose w := by
  intro os
  kernel_rfl
theorem facts {P : Program} {w : World} {K : PySem.W.Frag} {h : Heap} {mg : Str → Option Value} {f : Addr} (X : K.In h) (G : h.Ns mainGlobals mg) (hfa : mg ("law" : Str) = some (.ref f)) (c : He.SaysX fa fn [] [] ex w h K) :
    ∃ fd : FuncData, (∀ (s : Shared) (v : Value), BindsTo s fd ⟨[v], []⟩ [("script", v)]) ∧ ∀ base : Heap, K.In base → base.Ns mainGlobals mg → FnD P w K mg base 4 f fd ["script"] lawSp := by
  have z_range := He.free_ok X G (c.t.d.fact 7 (f := .free "range") rfl)
  have z_enumerate := He.free_ok X G (c.t.d.fact 8 (f := .free "enumerate") rfl)
  have z_abs := He.free_ok X G (c.t.d.fact 9 (f := .free "abs") rfl)
  have z_len := He.free_ok X G (c.t.d.fact 10 (f := .free "len") rfl)
  have z_repr := He.free_ok X G (c.t.d.fact 11 (f := .free "repr") rfl)
  have z_isinstance := He.free_ok X G (c.t.d.fact 12 (f := .free "isinstance") rfl)
  have z_ValueError := He.free_ok X G (c.t.d.fact 13 (f := .free "ValueError") rfl)
  have z_zip := He.free_ok X G (c.t.d.fact 14 (f := .free "zip") rfl)
  have bK := id (He.ba c.more).1
  have bI := id (He.ba (He.ba c.more).2).1
  have T_TooMany := oexB_ok (He.ba (He.ba (He.ba c.more).2).2).1
  have I_TooMany := oeiB_ok (He.ba (He.ba (He.ba (He.ba c.more).2).2).2).1
  have T_SyntaxProblem := oexB_ok (He.ba (He.ba (He.ba (He.ba (He.ba c.more).2).2).2).2).1
  have I_SyntaxProblem := oeiB_ok (He.ba (He.ba (He.ba (He.ba (He.ba c.more).2).2).2).2).2
  have mX : ∀ x ∈ xAll, mg x = some (.ref (He.ga K x)) := by
    intro x hx
    simp only [xAll, List.mem_cons, List.not_mem_nil, or_false] at hx
    rcases hx with rfl | rfl | rfl | rfl | rfl | rfl | rfl | rfl | rfl | rfl | rfl | rfl
    · exact He.glo_ok X G (c.t.d.fact 15 (f := .glo "SyntaxProblem") rfl)
    · exact He.glo_ok X G (c.t.d.fact 16 (f := .glo "TooMany") rfl)
    · exact He.glo_ok X G (c.t.d.fact 17 (f := .glo "InvalidNumber") rfl)
    · exact He.glo_ok X G (c.t.d.fact 18 (f := .glo "ZeroDivisor") rfl)
    · exact He.glo_ok X G (c.t.d.fact 19 (f := .glo "OtherRoot") rfl)
    · exact He.glo_ok X G (c.t.d.fact 20 (f := .glo "NoVariable") rfl)
    · exact He.glo_ok X G (c.t.d.fact 21 (f := .glo "OutOfRange") rfl)
    · exact He.glo_ok X G (c.t.d.fact 22 (f := .glo "Incompatible") rfl)
    · exact He.glo_ok X G (c.t.d.fact 23 (f := .glo "NotReached") rfl)
    · exact He.glo_ok X G (c.t.d.fact 24 (f := .glo "NoMark") rfl)
    · exact He.glo_ok X G (c.t.d.fact 25 (f := .glo "InvalidCommand") rfl)
    · exact He.glo_ok X G (c.t.d.fact 26 (f := .glo "TwoSpeedsError") rfl)
  have xX : ∀ x ∈ xPlain, ExcD K mg x (He.ga K x) := by
    intro x hx
    simp only [xPlain, List.mem_cons, List.not_mem_nil, or_false] at hx
    rcases hx with rfl | rfl | rfl | rfl | rfl | rfl | rfl | rfl | rfl
    · obtain ⟨h1, h2, h3, h4⟩ := He.exc_ok (c.t.d.fact 27 (f := .exc "InvalidNumber") rfl)
      exact ⟨h1, He.glo_ok X G (c.t.d.fact 17 (f := .glo "InvalidNumber") rfl), h2, h3, h4⟩
    · obtain ⟨h1, h2, h3, h4⟩ := He.exc_ok (c.t.d.fact 28 (f := .exc "ZeroDivisor") rfl)
      exact ⟨h1, He.glo_ok X G (c.t.d.fact 18 (f := .glo "ZeroDivisor") rfl), h2, h3, h4⟩
    · obtain ⟨h1, h2, h3, h4⟩ := He.exc_ok (c.t.d.fact 29 (f := .exc "OtherRoot") rfl)
      exact ⟨h1, He.glo_ok X G (c.t.d.fact 19 (f := .glo "OtherRoot") rfl), h2, h3, h4⟩
    · obtain ⟨h1, h2, h3, h4⟩ := He.exc_ok (c.t.d.fact 30 (f := .exc "NoVariable") rfl)
      exact ⟨h1, He.glo_ok X G (c.t.d.fact 20 (f := .glo "NoVariable") rfl), h2, h3, h4⟩
    · obtain ⟨h1, h2, h3, h4⟩ := He.exc_ok (c.t.d.fact 31 (f := .exc "OutOfRange") rfl)
      exact ⟨h1, He.glo_ok X G (c.t.d.fact 21 (f := .glo "OutOfRange") rfl), h2, h3, h4⟩
    · obtain ⟨h1, h2, h3, h4⟩ := He.exc_ok (c.t.d.fact 32 (f := .exc "Incompatible") rfl)
      exact ⟨h1, He.glo_ok X G (c.t.d.fact 22 (f := .glo "Incompatible") rfl), h2, h3, h4⟩
    · obtain ⟨h1, h2, h3, h4⟩ := He.exc_ok (c.t.d.fact 33 (f := .exc "NotReached") rfl)
      exact ⟨h1, He.glo_ok X G (c.t.d.fact 23 (f := .glo "NotReached") rfl), h2, h3, h4⟩
    · obtain ⟨h1, h2, h3, h4⟩ := He.exc_ok (c.t.d.fact 34 (f := .exc "NoMark") rfl)
      exact ⟨h1, He.glo_ok X G (c.t.d.fact 24 (f := .glo "NoMark") rfl), h2, h3, h4⟩
    · obtain ⟨h1, h2, h3, h4⟩ := He.exc_ok (c.t.d.fact 35 (f := .exc "InvalidCommand") rfl)
      exact ⟨h1, He.glo_ok X G (c.t.d.fact 25 (f := .glo "InvalidCommand") rfl), h2, h3, h4⟩
  have kX := kitsB_X bK
  have kV := kitsB_V bK
  have eX := kitsB_E bK
  have iT : InitD K mg "TwoSpeedsError" := initB_ok (mX "TwoSpeedsError" (by simp [xAll])) bI
  have fX : ∀ p ∈ xFld, L2.ExcC K (He.ga K p.1) ∧ PySem.W.findIn K (.ref (He.ga K p.1)) p.2 = some none := by
    intro p hp
    simp only [xFld, List.mem_cons, List.not_mem_nil, or_false] at hp
    rcases hp with rfl | rfl | rfl
    · exact ⟨eX "TooMany" (by simp [xCls]), I_TooMany.2.2 "limit" (by simp)⟩
    · exact ⟨eX "SyntaxProblem" (by simp [xCls]), I_SyntaxProblem.2.2 "line" (by simp)⟩
    · exact ⟨eX "SyntaxProblem" (by simp [xCls]), I_SyntaxProblem.2.2 "column" (by simp)⟩
  obtain ⟨fd_i_TooMany, Fi_TooMany⟩ := c.t.d.def_ 7 (d := ddi_TooMany) rfl
  have oX_TooMany : ∀ base : Heap, OexD P w K mg base 1 "TooMany" (He.ga K "TooMany") ["limit"] := fun base => ⟨⟨_, fd_i_TooMany, ["self", "limit"], oki_TooMany Fi_TooMany iT T_TooMany (I_TooMany.2.2 "limit" (by simp)), Fi_TooMany.bindsN (fun _ _ _ _ _ _ us hl => match us, hl with | [_, _], _ => rfl), I_TooMany.1, I_TooMany.2.1⟩, T_TooMany, mX "TooMany" (by simp [xAll])⟩
  obtain ⟨fd_i_SyntaxProblem, Fi_SyntaxProblem⟩ := c.t.d.def_ 8 (d := ddi_SyntaxProblem) rfl
  have oX_SyntaxProblem : ∀ base : Heap, OexD P w K mg base 1 "SyntaxProblem" (He.ga K "SyntaxProblem") ["line", "column"] := fun base => ⟨⟨_, fd_i_SyntaxProblem, ["self", "line", "column"], oki_SyntaxProblem Fi_SyntaxProblem iT T_SyntaxProblem (I_SyntaxProblem.2.2 "line" (by simp)) (I_SyntaxProblem.2.2 "column" (by simp)), Fi_SyntaxProblem.bindsN (fun _ _ _ _ _ _ us hl => match us, hl with | [_, _, _], _ => rfl), I_SyntaxProblem.1, I_SyntaxProblem.2.1⟩, T_SyntaxProblem, mX "SyntaxProblem" (by simp [xAll])⟩
  obtain ⟨fd__law_stirred, F__law_stirred⟩ := c.t.d.def_ 0 (d := dd__law_stirred) rfl
  obtain ⟨fd__law_spool_of, F__law_spool_of⟩ := c.t.d.def_ 1 (d := dd__law_spool_of) rfl
  obtain ⟨fd__law_upto, F__law_upto⟩ := c.t.d.def_ 2 (d := dd__law_upto) rfl
  obtain ⟨fd__law_choice, F__law_choice⟩ := c.t.d.def_ 3 (d := dd__law_choice) rfl
  obtain ⟨fd__law_alike, F__law_alike⟩ := c.t.d.def_ 4 (d := dd__law_alike) rfl
  obtain ⟨fd__law_error_kind, F__law_error_kind⟩ := c.t.d.def_ 5 (d := dd__law_error_kind) rfl
  obtain ⟨fd_law, F_law⟩ := c.t.d.def_ 6 (d := dd_law) rfl
  have c__law_stirred : ∀ base : Heap, CalD P w K mg base 1 "_law_stirred" ["cell", "place"] p__law_stirred := fun base => ⟨⟨_, fd__law_stirred, ok__law_stirred F__law_stirred z_range, He.glo_ok X G (c.t.d.fact 0 (f := .glo "_law_stirred") rfl), F__law_stirred.kp, F__law_stirred.bindsN fun _ _ _ _ _ _ us hl => match us, hl with | [_, _], _ => rfl⟩⟩
  have c__law_spool_of : ∀ base : Heap, CalD P w K mg base 1 "_law_spool_of" ["script"] p__law_spool_of := fun base => ⟨⟨_, fd__law_spool_of, ok__law_spool_of F__law_spool_of z_enumerate z_abs, He.glo_ok X G (c.t.d.fact 1 (f := .glo "_law_spool_of") rfl), F__law_spool_of.kp, F__law_spool_of.bindsN fun _ _ _ _ _ _ us hl => match us, hl with | [_], _ => rfl⟩⟩
  have c__law_upto : ∀ base : Heap, CalD P w K mg base 2 "_law_upto" ["spool", "bound"] p__law_upto := fun base => ⟨⟨_, fd__law_upto, ok__law_upto F__law_upto z_len (c__law_stirred base), He.glo_ok X G (c.t.d.fact 2 (f := .glo "_law_upto") rfl), F__law_upto.kp, F__law_upto.bindsN fun _ _ _ _ _ _ us hl => match us, hl with | [_, _], _ => rfl⟩⟩
  have c__law_choice : ∀ base : Heap, CalD P w K mg base 3 "_law_choice" ["spool", "items"] p__law_choice := fun base => ⟨⟨_, fd__law_choice, ok__law_choice F__law_choice z_len (c__law_upto base), He.glo_ok X G (c.t.d.fact 3 (f := .glo "_law_choice") rfl), F__law_choice.kp, F__law_choice.bindsN fun _ _ _ _ _ _ us hl => match us, hl with | [_, _], _ => rfl⟩⟩
  have c__law_alike : ∀ base : Heap, CalD P w K mg base 1 "_law_alike" ["one", "other"] p__law_alike := fun base => ⟨⟨_, fd__law_alike, ok__law_alike F__law_alike z_repr, He.glo_ok X G (c.t.d.fact 4 (f := .glo "_law_alike") rfl), F__law_alike.kp, F__law_alike.bindsN fun _ _ _ _ _ _ us hl => match us, hl with | [_, _], _ => rfl⟩⟩
  have c__law_error_kind : ∀ base : Heap, CalD P w K mg base 1 "_law_error_kind" ["error"] (p__law_error_kind (He.ga K)) := fun base => ⟨⟨_, fd__law_error_kind, ok__law_error_kind F__law_error_kind z_isinstance z_ValueError mX xX kX kV fX (oX_TooMany base) (oX_SyntaxProblem base), He.glo_ok X G (c.t.d.fact 5 (f := .glo "_law_error_kind") rfl), F__law_error_kind.kp, F__law_error_kind.bindsN fun _ _ _ _ _ _ us hl => match us, hl with | [_], _ => rfl⟩⟩
  have e := hfa.symm.trans (He.glo_ok X G (c.t.d.fact 6 (f := .glo "law") rfl))
  cases e
  have b := L2.FunD.bindsA (ps := ["script"]) F_law fun _ _ _ _ _ _ us hl => match us, hl with | [_], _ => rfl
  exact ⟨fd_law, fun s v => b s [v] rfl, fun base _ _ => ok_law F_law z_zip z_range z_isinstance mX xX kX kV fX (oX_TooMany base) (oX_SyntaxProblem base) (c__law_spool_of base) (c__law_choice base) (c__law_alike base) (c__law_upto base) (c__law_error_kind base)⟩
end KK
open PySem PySem.W PySem.Calls PyProof.Rows
theorem PySem.Challenge.cw_twospeeds_k06_errors_holds : PySem.Challenge.rw_twospeeds_k06_errors.Holds := by
  w_on; o_law
  refine HandSHeadRun.head_any (r := OpenLaw.row PySem.Challenge.rw_twospeeds_k06_errors) (q := view (OpenLaw.row PySem.Challenge.rw_twospeeds_k06_errors).prog [20]) (H := KK.hk) (ob := KK.ob) (M := 4000) (loose := KK.loose) (d := HandSHeadRun.topDef (OpenLaw.row PySem.Challenge.rw_twospeeds_k06_errors).prog 20) (kwd := []) KK.ob_eq
    (by kernel_rfl) (fun s => by kernel_rfl) KK.run (by kernel_rfl) (by kernel_rfl) (by kernel_rfl) (by rfl) (by first | assumption | decide +kernel) (by decide +kernel) ⟨rfl, rfl, rfl, rfl, rfl, by decide +kernel⟩ ?hw ?hc
  case hw => w_witness2
  case hc =>
    refine DL.walkD (l := PySem.Challenge.rw_twospeeds_k06_errors) (k := 4) (x := "script") rfl (by kernel_rfl) ⟨rfl, by decide, by decide⟩ ?F
    intro w mg fa h Y G hmg0
    obtain ⟨K, KX, c⟩ := Y
    have hmg : mg ("law" : PySem.Str) = some (.ref fa) := by
      have e : (HandSHeadRun.topDef (OpenLaw.row PySem.Challenge.rw_twospeeds_k06_errors).prog 20).name = ("law" : PySem.Str) := by kernel_rfl
      rw [← e]
      exact hmg0
    obtain ⟨fd, hb, hF⟩ := KK.facts (P := (PySem.Challenge.rw_twospeeds_k06_errors).prog) (w := w) KX G hmg c
    exact ⟨K, fd, KX, hb, hF⟩
