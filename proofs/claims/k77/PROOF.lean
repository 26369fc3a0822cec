import PyProof.Rows.All
import Wide.All
import OpenK.AllK
import Wide.FinOn
import HandS.ForMost
import HandS.Star
import HandS.Zip
import HandS.Flow
import HandS.DictComp
import KE.DataCmp
import KE.SortData
import KE.DataMinMax
import KE.DataIsa
import KE.DataAny
import KE.DataFind
import HandS.Wide
import HandS.Style
import HandS.TupAny
import HandS.FltList
import KE.GoesNew
import KE.GoesEnum
import PyProof.AutoSeq1
import PyProof.DictFindH
import PyProof.DictTable
import PyProof.DictDisplay
import HandS.TupSets
import HandS.Conv
import HandS.Deep
import HandS.TryOnly
import HandS.SetFor
import HandS.Strs
import HandS.EndBits
import PySem.Challenge.RW_holesheldopen_k77_whole_clocks_by_bounds
set_option Elab.async false
set_option linter.all false
set_option maxRecDepth 100000
set_option maxHeartbeats 4000000
namespace L3
open PySem PySem.Spec PyProof.Rows L2

abbrev D := PyData
/-- a tuple laid in this world -/
def TpT (K : PySem.W.Frag) (H : Hp) (a : Addr) (xs : List V) : Prop := H a = some (.tup xs)
theorem TpT.of {K : PySem.W.Frag} {H : Hp} {a : Addr} {xs : List V} (h : H a = some (.tup xs)) : TpT K H a xs := h
theorem TpT.sq {K : PySem.W.Frag} {H : Hp} {a : Addr} {xs : List V} (h : TpT K H a xs) : SqT K H a xs := SqT.of h
theorem TpT.mono {K : PySem.W.Frag} {H H' : Hp} {a : Addr} {xs : List V} (s : Same H H') (h : TpT K H a xs) : TpT K H' a xs := s _ _ h
/-! ### data over the frozen part G of the heap -/
mutual
inductive Is (K : PySem.W.Frag) (G : Hp) : V → D → Prop
  | non : Is K G .non .none
  | bl (b : Bool) : Is K G (.bl b) (.bool b)
  | int (i : Int) : Is K G (.int i) (.int i)
  | str (x : Str) : x.length ≤ sizeLine → Is K G (.str x) (.str x)
  | lst {a : Addr} {vs : List V} {ds : List D} : SqL K G a vs → ds.length ≤ sizeLine → IsAll K G vs ds → Is K G (.ref a) (.list ds)
  | tup {a : Addr} {vs : List V} {ds : List D} : TpT K G a vs → ds.length ≤ sizeLine → IsAll K G vs ds → Is K G (.ref a) (.tuple ds)
inductive IsAll (K : PySem.W.Frag) (G : Hp) : List V → List D → Prop
  | nil : IsAll K G [] []
  | cons {v : V} {vs : List V} {d : D} {ds : List D} : Is K G v d → IsAll K G vs ds → IsAll K G (v :: vs) (d :: ds)
end
section
variable {K : PySem.W.Frag} {G G' H H' : Hp}
theorem Same.sqT {a : Addr} {xs : List V} (e : Same H H') (h : SqT K H a xs) : SqT K H' a xs := by
  rcases h with (h | ⟨o, h⟩) | h
  · exact .inl (.inl (e _ _ h))
  · exact .inl (.inr ⟨o, e _ _ h⟩)
  · exact .inr h
mutual
theorem Is.mono (e : Same G G') : ∀ (d : D) (v : V), Is K G v d → Is K G' v d
  | .none, _, h => by cases h; exact .non
  | .bool b, _, h => by cases h; exact .bl b
  | .int i, _, h => by cases h; exact .int i
  | .str x, _, h => by cases h with | str _ q => exact .str x q
  | .list ds, _, h => by cases h with | lst s l a => exact .lst (e.seq s) l (IsAll.mono e ds _ a)
  | .tuple ds, _, h => by cases h with | tup s l a => exact .tup (s.mono e) l (IsAll.mono e ds _ a)
  | .dict _, _, h => by cases h
theorem IsAll.mono (e : Same G G') : ∀ (ds : List D) (vs : List V), IsAll K G vs ds → IsAll K G' vs ds
  | [], _, h => by cases h; exact .nil
  | d :: ds, _, h => by cases h with | cons a b => exact .cons (Is.mono e d _ a) (IsAll.mono e ds _ b)
end
mutual
theorem Is.dp : ∀ (d : D) (v : V), Is K G v d → Dp K G v d
  | .none, _, h => by cases h; exact .non
  | .bool b, _, h => by cases h; exact .bl b
  | .int i, _, h => by cases h; exact .int i
  | .str x, _, h => by cases h; exact .str x
  | .list ds, _, h => by cases h with | lst s l a => exact .lst s (IsAll.dp ds _ a)
  | .tuple ds, _, h => by cases h with | tup s l a => exact .tup s.sq (IsAll.dp ds _ a)
  | .dict _, _, h => by cases h
theorem IsAll.dp : ∀ (ds : List D) (vs : List V), IsAll K G vs ds → DpAll K G vs ds
  | [], _, h => by cases h; exact .nil
  | d :: ds, _, h => by cases h with | cons a b => exact .cons (Is.dp d _ a) (IsAll.dp ds _ b)
end
theorem IsAll.len : ∀ {vs : List V} {ds : List D}, IsAll K G vs ds → vs.length = ds.length
  | [], [], _ => rfl
  | _ :: _, _ :: _, .cons _ b => by rw [List.length_cons, List.length_cons, IsAll.len b]
theorem IsAll.get : ∀ {vs : List V} {ds : List D} {i : Nat} {d : D}, IsAll K G vs ds → ds[i]? = some d → ∃ v, vs[i]? = some v ∧ Is K G v d
  | [], [], _, _, _, h => by simp at h
  | v :: _, d :: _, 0, _, .cons a _, h => by simp at h; subst h; exact ⟨v, rfl, a⟩
  | _ :: _, _ :: _, i + 1, _, .cons _ b, h => by
    obtain ⟨v, e, q⟩ := IsAll.get (i := i) b (by simpa using h)
    exact ⟨v, by simpa using e, q⟩
theorem IsAll.getV : ∀ {vs : List V} {ds : List D} {i : Nat} {v : V}, IsAll K G vs ds → vs[i]? = some v → ∃ d, ds[i]? = some d ∧ Is K G v d
  | [], [], _, _, _, h => by simp at h
  | v :: _, d :: _, 0, _, .cons a _, h => by simp at h; subst h; exact ⟨d, rfl, a⟩
  | _ :: _, _ :: _, i + 1, _, .cons _ b, h => by
    obtain ⟨v, e, q⟩ := IsAll.getV (i := i) b (by simpa using h)
    exact ⟨v, by simpa using e, q⟩
theorem IsAll.append : ∀ {vs ws : List V} {ds es : List D}, IsAll K G vs ds → IsAll K G ws es → IsAll K G (vs ++ ws) (ds ++ es)
  | [], _, [], _, _, h => h
  | _ :: _, _, _ :: _, _, .cons a b, h => .cons a (IsAll.append b h)
theorem IsAll.take : ∀ {vs : List V} {ds : List D} (n : Nat), IsAll K G vs ds → IsAll K G (vs.take n) (ds.take n)
  | _, _, 0, _ => .nil
  | [], [], _ + 1, _ => .nil
  | _ :: _, _ :: _, n + 1, .cons a b => .cons a (IsAll.take n b)
theorem IsAll.drop : ∀ {vs : List V} {ds : List D} (n : Nat), IsAll K G vs ds → IsAll K G (vs.drop n) (ds.drop n)
  | _, _, 0, h => h
  | [], [], _ + 1, _ => .nil
  | _ :: _, _ :: _, n + 1, .cons _ b => IsAll.drop n b
theorem IsAll.set : ∀ {vs : List V} {ds : List D} {v : V} {d : D} (n : Nat), IsAll K G vs ds → Is K G v d → IsAll K G (vs.set n v) (ds.set n d)
  | [], [], _, _, _, _, _ => .nil
  | _ :: _, _ :: _, _, _, 0, .cons _ b, h => .cons h b
  | _ :: _, _ :: _, _, _, n + 1, .cons a b, h => .cons a (IsAll.set n b h)
theorem IsAll.reverse {vs : List V} {ds : List D} (h : IsAll K G vs ds) : IsAll K G vs.reverse ds.reverse := by
  induction vs generalizing ds with
  | nil => cases h; exact .nil
  | cons v vs ih => cases h with | cons a b => rw [List.reverse_cons, List.reverse_cons]; exact (ih b).append (.cons a .nil)
theorem IsAll.dropLast {vs : List V} {ds : List D} (h : IsAll K G vs ds) : IsAll K G vs.dropLast ds.dropLast := by
  rw [List.dropLast_eq_take, List.dropLast_eq_take, h.len]; exact h.take _
theorem IsAll.sing {v : V} {d : D} (h : Is K G v d) : IsAll K G [v] [d] := .cons h .nil
theorem IsAll.of_mem : ∀ {vs : List V} {ds : List D}, IsAll K G vs ds → ∀ p ∈ vs.zip ds, Is K G p.1 p.2
  | [], [], _, _, h => by simp at h
  | _ :: _, _ :: _, .cons a b, p, h => by
    rcases List.mem_cons.mp (by simpa using h) with rfl | h
    · exact a
    · exact IsAll.of_mem b p h
theorem IsAll.ints : ∀ {vs : List V} {ns : List Int}, IsAll K G vs (ns.map .int) → vs = ns.map .int
  | [], [], _ => rfl
  | _ :: _, _ :: _, .cons a b => by cases a; rw [IsAll.ints b]; rfl
theorem IsAll.of_ints : ∀ {ns : List Int}, IsAll K G (ns.map .int) (ns.map .int)
  | [] => .nil
  | n :: _ => .cons (.int n) IsAll.of_ints
end

/-! ### slots -/
/-- a thing that can be changed: a list, a dict with keys ints and texts, a dict with keys tuples of them -/
inductive Cel where
  | l (ds : List D)
  | k (es : List (Key × D))
  | t (es : List (List Key × D))
inductive CelOk (K : PySem.W.Frag) (G : Hp) : HO → Cel → Prop
  | l {vs : List V} {ds : List D} : IsAll K G vs ds → ds.length ≤ sizeLine → CelOk K G (.lst vs) (.l ds)
  | k {kvs : List (Key × V)} {es : List (Key × D)} : kvs.map (·.1) = es.map (·.1) → IsAll K G (kvs.map (·.2)) (es.map (·.2)) → es.length ≤ sizeLine → CelOk K G (.dK kvs) (.k es)
  | t {kvs : List (List Key × V)} {es : List (List Key × D)} : kvs.map (·.1) = es.map (·.1) → IsAll K G (kvs.map (·.2)) (es.map (·.2)) → es.length ≤ sizeLine → CelOk K G (.dT kvs) (.t es)
theorem CelOk.mono {K : PySem.W.Frag} {G G' : Hp} (s : Same G G') {u : HO} {C : Cel} (h : CelOk K G u C) : CelOk K G' u C := by
  cases h with
  | l a b => exact .l (IsAll.mono s _ _ a) b
  | k e a b => exact .k e (IsAll.mono s _ _ a) b
  | t e a b => exact .t e (IsAll.mono s _ _ a) b
theorem CelOk.lst {K : PySem.W.Frag} {G : Hp} {ds : List D} {u : HO} (h : CelOk K G u (.l ds)) : ∃ vs, u = .lst vs ∧ IsAll K G vs ds ∧ ds.length ≤ sizeLine := by
  cases h with | l a b => exact ⟨_, rfl, a, b⟩
theorem CelOk.dk {K : PySem.W.Frag} {G : Hp} {es : List (Key × D)} {u : HO} (h : CelOk K G u (.k es)) : ∃ kvs, u = .dK kvs ∧ kvs.map (·.1) = es.map (·.1) ∧ IsAll K G (kvs.map (·.2)) (es.map (·.2)) ∧ es.length ≤ sizeLine := by
  cases h with | k e a b => exact ⟨_, rfl, e, a, b⟩
theorem CelOk.dt {K : PySem.W.Frag} {G : Hp} {es : List (List Key × D)} {u : HO} (h : CelOk K G u (.t es)) : ∃ kvs, u = .dT kvs ∧ kvs.map (·.1) = es.map (·.1) ∧ IsAll K G (kvs.map (·.2)) (es.map (·.2)) ∧ es.length ≤ sizeLine := by
  cases h with | t e a b => exact ⟨_, rfl, e, a, b⟩
inductive Loc where
  | val (d : D)
  /-- made in this def, held by this slot alone -/
  | own (C : Cel)
  /-- the caller's, handed in to be changed -/
  | io (C : Cel)
def Loc.cell : Loc → Bool
  | .val _ => false
  | _ => true
abbrev Rho := List (Option Loc)
/-- an operand: data, or the cell in a slot -/
inductive Opd where
  | fz (d : D)
  | sl (i : Nat)
def slD : Option (Option Loc) → Option D
  | some (some (.own (.l ds))) => some (.list ds)
  | some (some (.io (.l ds))) => some (.list ds)
  | _ => none
def look (ρ : Rho) : Opd → Option D
  | .fz d => some d
  | .sl i => slD ρ[i]?
/-- fixed through a body: F stays as it is, nothing of X is ever frozen -/
structure Fix where
  K : PySem.W.Frag
  F : Hp
  X : Addr → Prop
  ioA : Addr
def LocOk (c : Fix) (G H : Hp) (v : V) : Loc → Prop
  | .val d => Is c.K G v d
  | .own C => ∃ a u, v = .ref a ∧ H a = some u ∧ CelOk c.K G u C ∧ G a = none ∧ c.F a = none ∧ ¬ c.X a
  | .io C => ∃ u, v = .ref c.ioA ∧ H c.ioA = some u ∧ CelOk c.K G u C ∧ G c.ioA = none ∧ c.F c.ioA = none
structure Rep (c : Fix) (G : Hp) (ρ : Rho) (σ : L2.St) (H : Hp) : Prop where
  gh : Same G H
  fh : Same c.F H
  xg : ∀ p : Addr, c.X p → G p = none
  xh : ∀ p : Addr, c.X p → H p ≠ none
  len : ρ.length = σ.length
  loc : ∀ (i : Nat) (l : Loc), ρ[i]? = some (some l) → ∃ v, σ[i]? = some (some v) ∧ LocOk c G H v l
  sep : ∀ (i j : Nat) (l l' : Loc) (v : V), ρ[i]? = some (some l) → ρ[j]? = some (some l') → l.cell = true → l'.cell = true → σ[i]? = some (some v) → σ[j]? = some (some v) → i = j
def OpdOk (c : Fix) (G : Hp) (σ : L2.St) (v : V) : Opd → Prop
  | .fz d => Is c.K G v d
  | .sl i => σ[i]? = some (some v)
/-- what a value is now: frozen data, or a cell of this def's -/
inductive View (K : PySem.W.Frag) (G H : Hp) : V → D → Prop
  | fz {v : V} {d : D} : Is K G v d → View K G H v d
  | cell {a : Addr} {vs : List V} {ds : List D} : H a = some (.lst vs) → IsAll K G vs ds → ds.length ≤ sizeLine → View K G H (.ref a) (.list ds)
section
variable {c : Fix} {K : PySem.W.Frag} {G G' H H' : Hp} {ρ ρ' : Rho} {σ : L2.St} {v : V} {d : D} {o : Opd} {p a : Addr} {u : HO} {i j : Nat}
theorem Rep.view (R : Rep c G ρ σ H) (h : OpdOk c G σ v o) (e : look ρ o = some d) : View c.K G H v d := by
  cases o with
  | fz d' =>
    have : d' = d := Option.some.inj e
    subst this; exact .fz h
  | sl i =>
    have hs : σ[i]? = some (some v) := h
    have e : slD ρ[i]? = some d := e
    cases q : ρ[i]? with
    | none => rw [q] at e; cases e
    | some l =>
      cases l with
      | none => rw [q] at e; cases e
      | some l =>
        obtain ⟨w, h1, h2⟩ := R.loc i _ q
        rw [hs] at h1; cases h1
        rw [q] at e
        cases l with
        | val _ => cases e
        | own C =>
          cases C with
          | l ds =>
            obtain ⟨a, u, rfl, h3, h4, _⟩ := h2
            obtain ⟨vs, rfl, h4, h5⟩ := h4.lst
            cases e; exact .cell h3 h4 h5
          | k es => cases e
          | t es => cases e
        | io C =>
          cases C with
          | l ds =>
            obtain ⟨u, rfl, h3, h4, _⟩ := h2
            obtain ⟨vs, rfl, h4, h5⟩ := h4.lst
            cases e; exact .cell h3 h4 h5
          | k es => cases e
          | t es => cases e
theorem View.dp (s : Same G H) : View K G H v d → Dp K H v d
  | .fz h => (Is.mono s _ _ h).dp
  | .cell h a _ => .lst (SqL.of h) (IsAll.mono s _ _ a).dp
theorem View.seqL {ds : List D} (s : Same G H) (h : View K G H v (.list ds)) : ∃ a vs, v = .ref a ∧ SqL K H a vs ∧ IsAll K G vs ds ∧ ds.length ≤ sizeLine := by
  cases h with
  | fz h => cases h with | lst q l a => exact ⟨_, _, rfl, s.seq q, a, l⟩
  | cell h a l => exact ⟨_, _, rfl, SqL.of h, a, l⟩
theorem View.seqT {ds : List D} (s : Same G H) (h : View K G H v (.tuple ds)) : ∃ a vs, v = .ref a ∧ SqT K H a vs ∧ IsAll K G vs ds ∧ ds.length ≤ sizeLine := by
  cases h with
  | fz h => cases h with | tup q l a => exact ⟨_, _, rfl, (q.mono s).sq, a, l⟩
theorem View.int {i : Int} (h : View K G H v (.int i)) : v = .int i := by cases h with | fz h => cases h; rfl
theorem View.bl {b : Bool} (h : View K G H v (.bool b)) : v = .bl b := by cases h with | fz h => cases h; rfl
theorem View.str {x : Str} (h : View K G H v (.str x)) : v = .str x ∧ x.length ≤ sizeLine := by cases h with | fz h => cases h with | str _ q => exact ⟨rfl, q⟩
theorem View.non (h : View K G H v .none) : v = .non := by cases h with | fz h => cases h; rfl
theorem View.fz_of (h : View K G H v d) (n : ∀ ds, d ≠ .list ds) : Is K G v d := by
  cases h with
  | fz h => exact h
  | cell => exact absurd rfl (n _)
theorem OpdOk.mono (s : Same G G') (h : OpdOk c G σ v o) : OpdOk c G' σ v o := by
  cases o with
  | fz d => exact Is.mono s _ _ h
  | sl i => exact h

/-- one more frozen or untouched object, nothing else -/
theorem LocOk.mono {l : Loc} (s : Same G G') (k : ∀ a u, H a = some u → H' a = some u) (n : ∀ a u, H a = some u → G a = none → (∀ q, v = .ref q → l.cell = true → q = a) → G' a = none) (h : LocOk c G H v l) : LocOk c G' H' v l := by
  cases l with
  | val d => exact Is.mono s _ _ h
  | own C =>
    obtain ⟨a, u, rfl, h1, h2, h4, h5, h6⟩ := h
    exact ⟨a, u, rfl, k _ _ h1, h2.mono s, n _ _ h1 h4 (fun q e _ => by cases e; rfl), h5, h6⟩
  | io C =>
    obtain ⟨u, rfl, h1, h2, h4, h5⟩ := h
    exact ⟨u, rfl, k _ _ h1, h2.mono s, n _ _ h1 h4 (fun q e _ => by cases e; rfl), h5⟩
theorem upd_keep {H : Hp} {p : Addr} {u : HO} (hp : H p = none) : Same H (upd H p u) := fun b o e => by
  rw [upd_ne (ne_of_none e hp)]; exact e
/-- a new object, laid -/
theorem Rep.lay (R : Rep c G ρ σ H) (hp : H p = none) : Rep c G ρ σ (upd H p u) where
  gh := R.gh.trans (upd_keep hp)
  fh := R.fh.trans (upd_keep hp)
  xg := R.xg
  xh := fun q hq => by
    by_cases e : q = p
    · subst e; rw [upd_same]; simp
    · rw [upd_ne e]; exact R.xh q hq
  len := R.len
  loc := fun i l e => by
    obtain ⟨v, h1, h2⟩ := R.loc i l e
    exact ⟨v, h1, h2.mono (Same.refl _) (fun a vs q => by rw [upd_ne (ne_of_none q hp)]; exact q) (fun _ _ _ n _ => n)⟩
  sep := R.sep
/-- .. and frozen at once -/
theorem Rep.alloc (R : Rep c G ρ σ H) (hp : H p = none) : Rep c (upd G p u) ρ σ (upd H p u) where
  gh := fun b o e => by
    by_cases q : b = p
    · subst q; rw [upd_same] at e ⊢; exact e
    · rw [upd_ne q] at e ⊢; exact R.gh b o e
  fh := R.fh.trans (upd_keep hp)
  xg := fun q hq => by
    rw [upd_ne (fun e => R.xh q hq (by rw [e]; exact hp))]; exact R.xg q hq
  xh := fun q hq => by
    by_cases e : q = p
    · subst e; rw [upd_same]; simp
    · rw [upd_ne e]; exact R.xh q hq
  len := R.len
  loc := fun i l e => by
    obtain ⟨v, h1, h2⟩ := R.loc i l e
    refine ⟨v, h1, h2.mono (upd_keep (R.gh.free hp)) (fun a vs q => by rw [upd_ne (ne_of_none q hp)]; exact q) (fun a vs q n _ => by rw [upd_ne (ne_of_none q hp)]; exact n)⟩
  sep := R.sep
theorem Rep.frozen (R : Rep c G ρ σ H) (hp : H p = none) : Same G (upd G p u) := upd_keep (R.gh.free hp)

/-- a new list, not yet held by a slot -/
structure New (c : Fix) (G : Hp) (ρ : Rho) (σ : L2.St) (H : Hp) (p : Addr) (C : Cel) : Prop where
  it : ∃ u, H p = some u ∧ CelOk c.K G u C
  g : G p = none
  f : c.F p = none
  x : ¬ c.X p
  out : ∀ (i : Nat) (l : Loc), ρ[i]? = some (some l) → l.cell = true → σ[i]? ≠ some (some (.ref p))
theorem Rep.out (R : Rep c G ρ σ H) (hp : H p = none) : ∀ (i : Nat) (l : Loc), ρ[i]? = some (some l) → l.cell = true → σ[i]? ≠ some (some (.ref p)) := fun i l e hc q => by
  obtain ⟨v, h1, h2⟩ := R.loc i l e
  rw [q] at h1; cases h1
  cases l with
  | val d => cases hc
  | own C =>
    obtain ⟨a, u, e1, h3, _⟩ := h2
    cases e1; rw [hp] at h3; cases h3
  | io C =>
    obtain ⟨u, e1, h3, _⟩ := h2
    cases e1; rw [hp] at h3; cases h3
theorem New.mk' (R : Rep c G ρ σ H) (hp : H p = none) {vs : List V} {ds : List D} (a : IsAll c.K G vs ds) (l : ds.length ≤ sizeLine) : New c G ρ σ (upd H p (.lst vs)) p (.l ds) :=
  ⟨⟨.lst vs, upd_same, .l a l⟩, R.gh.free hp, R.fh.free hp, fun hx => R.xh p hx hp, R.out hp⟩
/-- frozen -/
theorem Rep.freeze (R : Rep c G ρ σ H) {ds : List D} (N : New c G ρ σ H p (.l ds)) : ∃ G', Same G G' ∧ Rep c G' ρ σ H ∧ Is c.K G' (.ref p) (.list ds) := by
  obtain ⟨⟨u, hv, ha⟩, hg, hf, hx, ho⟩ := N
  obtain ⟨vs, rfl, ha, hl⟩ := ha.lst
  have sg : Same G (upd G p (.lst vs)) := upd_keep hg
  refine ⟨upd G p (.lst vs), sg, ⟨?_, R.fh, fun q hq => ?_, R.xh, R.len, fun i l e => ?_, R.sep⟩, .lst (SqL.of upd_same) hl (IsAll.mono sg _ _ ha)⟩
  · intro b o e
    by_cases q : b = p
    · subst q; rw [upd_same] at e; cases e; exact hv
    · rw [upd_ne q] at e; exact R.gh b o e
  · rw [upd_ne (fun e => hx (by rw [← e]; exact hq))]; exact R.xg q hq
  · obtain ⟨v, h1, h2⟩ := R.loc i l e
    cases l with
    | val d => exact ⟨v, h1, Is.mono sg _ _ h2⟩
    | own C =>
      obtain ⟨a, vs', rfl, h3, h4, h6, h7⟩ := h2
      exact ⟨_, h1, a, vs', rfl, h3, h4.mono sg, by rw [upd_ne (fun z => ho i _ e rfl (by rw [h1, z]))]; exact h6, h7⟩
    | io C =>
      obtain ⟨vs', rfl, h3, h4, h6, h7⟩ := h2
      exact ⟨_, h1, vs', rfl, h3, h4.mono sg, by rw [upd_ne (fun z => ho i _ e rfl (by rw [h1, z]))]; exact h6, h7⟩
/-- an object kept aside while something else is evaluated -/
def Fix.pend (c : Fix) (p : Addr) (u : HO) : Fix := { c with F := upd c.F p u, X := fun q => q = p ∨ c.X q }
theorem Rep.pend (R : Rep c G ρ σ H) {C : Cel} (N : New c G ρ σ H p C) : ∃ u, CelOk c.K G u C ∧ Rep (c.pend p u) G ρ σ H := by
  obtain ⟨⟨u, hv, ha⟩, hg, hf, hx, ho⟩ := N
  refine ⟨u, ha, ⟨R.gh, ?_, fun q hq => ?_, fun q hq => ?_, R.len, fun i l e => ?_, R.sep⟩⟩
  · intro b o e
    have e : upd c.F p u b = some o := e
    by_cases q : b = p
    · subst q; rw [upd_same] at e; cases e; exact hv
    · rw [upd_ne q] at e; exact R.fh b o e
  · rcases hq with rfl | hq
    · exact hg
    · exact R.xg q hq
  · rcases hq with rfl | hq
    · rw [hv]; simp
    · exact R.xh q hq
  · obtain ⟨v, h1, h2⟩ := R.loc i l e
    cases l with
    | val d => exact ⟨v, h1, h2⟩
    | own C =>
      obtain ⟨a, vs', rfl, h3, h4, h6, h7, h8⟩ := h2
      have ne : a ≠ p := fun z => ho i _ e rfl (by rw [h1, z])
      exact ⟨_, h1, a, vs', rfl, h3, h4, h6, by show upd c.F p _ a = none; rw [upd_ne ne]; exact h7, fun z => z.elim ne h8⟩
    | io C =>
      obtain ⟨vs', rfl, h3, h4, h6, h7⟩ := h2
      have ne : c.ioA ≠ p := fun z => ho i _ e rfl (by rw [h1, z])
      exact ⟨_, h1, vs', rfl, h3, h4, h6, by show upd c.F p _ c.ioA = none; rw [upd_ne ne]; exact h7⟩
theorem Rep.unpend {u : HO} {C : Cel} (hf : c.F p = none) (hx : ¬ c.X p) (ha : CelOk c.K G u C) (s : Same G G') (R : Rep (c.pend p u) G' ρ' σ H') : Rep c G' ρ' σ H' ∧ New c G' ρ' σ H' p C := by
  have hv : H' p = some u := R.fh p _ upd_same
  refine ⟨⟨R.gh, fun b o e => R.fh b o ?_, fun q hq => R.xg q (.inr hq), fun q hq => R.xh q (.inr hq), R.len, fun i l e => ?_, R.sep⟩, ⟨⟨u, hv, ha.mono s⟩, R.xg p (.inl rfl), hf, hx, fun i l e hc q => ?_⟩⟩
  · show upd c.F p _ b = some o
    rw [upd_ne (fun z => by rw [z, hf] at e; cases e)]; exact e
  · obtain ⟨v, h1, h2⟩ := R.loc i l e
    cases l with
    | val d => exact ⟨v, h1, h2⟩
    | own C =>
      obtain ⟨a, vs', rfl, h3, h4, h6, h7, h8⟩ := h2
      have ne : a ≠ p := fun z => h8 (.inl z)
      have h7 : upd c.F p u a = none := h7
      rw [upd_ne ne] at h7
      exact ⟨_, h1, a, vs', rfl, h3, h4, h6, h7, fun z => h8 (.inr z)⟩
    | io C =>
      obtain ⟨vs', rfl, h3, h4, h6, h7⟩ := h2
      have h7 : upd c.F p u c.ioA = none := h7
      have ne : c.ioA ≠ p := fun z => by rw [z, upd_same] at h7; cases h7
      rw [upd_ne ne] at h7
      exact ⟨_, h1, vs', rfl, h3, h4, h6, h7⟩
  · obtain ⟨v, h1, h2⟩ := R.loc i l e
    rw [q] at h1; cases h1
    cases l with
    | val d => cases hc
    | own C =>
      obtain ⟨a, vs', e1, h3, h4, h6, h7, h8⟩ := h2
      cases e1; exact h8 (.inl rfl)
    | io C =>
      obtain ⟨vs', e1, h3, h4, h6, h7⟩ := h2
      have h7 : upd c.F p u c.ioA = none := h7
      have e1 : V.ref p = V.ref c.ioA := e1
      have e2 : p = c.ioA := V.ref.inj e1
      rw [← e2, upd_same] at h7; cases h7

/-! ### a slot is set -/
theorem get_set {α : Type} {l : List α} {i j : Nat} {x y : α} (h : (l.set i x)[j]? = some y) : (j = i ∧ y = x) ∨ (j ≠ i ∧ l[j]? = some y) := by
  by_cases e : i = j
  · subst e
    rw [List.getElem?_set] at h
    simp only [if_true] at h
    split at h
    · exact .inl ⟨rfl, (Option.some.inj h).symm⟩
    · cases h
  · rw [List.getElem?_set_ne e] at h; exact .inr ⟨fun z => e z.symm, h⟩
theorem Rep.drop (R : Rep c G ρ σ H) : Rep c G (ρ.set i none) σ H where
  gh := R.gh
  fh := R.fh
  xg := R.xg
  xh := R.xh
  len := by rw [List.length_set]; exact R.len
  loc := fun j l e => by
    rcases get_set e with ⟨_, z⟩ | ⟨_, e⟩
    · cases z
    · exact R.loc j l e
  sep := fun j k l l' v e e' => by
    rcases get_set e with ⟨_, z⟩ | ⟨_, e⟩
    · cases z
    · rcases get_set e' with ⟨_, z⟩ | ⟨_, e'⟩
      · cases z
      · exact R.sep j k l l' v e e'
theorem Rep.set (R : Rep c G ρ σ H) {l : Loc} (h : LocOk c G H v l) (out : l.cell = true → ∀ (j : Nat) (l' : Loc), j ≠ i → ρ[j]? = some (some l') → l'.cell = true → σ[j]? ≠ some (some v)) : Rep c G (ρ.set i (some l)) (σ.set i (some v)) H where
  gh := R.gh
  fh := R.fh
  xg := R.xg
  xh := R.xh
  len := by rw [List.length_set, List.length_set]; exact R.len
  loc := fun j l' e => by
    have hj : j < σ.length := by
      have z := (List.getElem?_eq_some_iff.mp e).1
      rw [List.length_set, R.len] at z; exact z
    rcases get_set e with ⟨rfl, z⟩ | ⟨ne, e⟩
    · cases z; exact ⟨v, by rw [List.getElem?_set_self hj], h⟩
    · obtain ⟨w, h1, h2⟩ := R.loc j l' e
      exact ⟨w, by rw [List.getElem?_set_ne (Ne.symm ne)]; exact h1, h2⟩
  sep := fun j k l1 l2 w e e' c1 c2 s1 s2 => by
    have hj : ∀ m, ((σ.set i (some v))[m]? = some (some w)) → m < σ.length := fun m s => by
      have z := (List.getElem?_eq_some_iff.mp s).1
      rw [List.length_set] at z; exact z
    by_cases ej : j = i
    · by_cases ek : k = i
      · rw [ej, ek]
      · rw [List.getElem?_set_ne (Ne.symm ek)] at e' s2
        have h1 := hj j s1
        subst ej
        have h2 := h1
        rw [← R.len] at h2
        rw [List.getElem?_set_self h1] at s1
        rw [List.getElem?_set_self h2] at e
        cases s1; cases e
        exact absurd s2 (out c1 k l2 ek e' c2)
    · rw [List.getElem?_set_ne (Ne.symm ej)] at e s1
      by_cases ek : k = i
      · have h1 := hj k s2
        subst ek
        have h2 := h1
        rw [← R.len] at h2
        rw [List.getElem?_set_self h1] at s2
        rw [List.getElem?_set_self h2] at e'
        cases s2; cases e'
        exact absurd s1 (out c2 j l1 ej e c1)
      · rw [List.getElem?_set_ne (Ne.symm ek)] at e' s2
        exact R.sep j k l1 l2 w e e' c1 c2 s1 s2
theorem Rep.setVal (R : Rep c G ρ σ H) (h : Is c.K G v d) : Rep c G (ρ.set i (some (.val d))) (σ.set i (some v)) H := R.set h (fun z => by cases z)
theorem Rep.setOwn (R : Rep c G ρ σ H) {C : Cel} (N : New c G ρ σ H p C) : Rep c G (ρ.set i (some (.own C))) (σ.set i (some (.ref p))) H := by
  obtain ⟨⟨u, hv, ha⟩, hg, hf, hx, ho⟩ := N
  exact R.set ⟨p, u, rfl, hv, ha, hg, hf, hx⟩ (fun _ j l' _ e hc => ho j l' e hc)
end
end L3
set_option Elab.async false
set_option linter.all false
set_option maxRecDepth 100000
set_option maxHeartbeats 4000000
namespace L3
open PySem PySem.Spec PyProof.Rows L2

abbrev E := Rho → Option (Opd × Rho)
abbrev B := Rho → Option (Bool × Rho)
abbrev As := Rho → Option (List Opd × Rho)
abbrev N := Rho → Option (List D × Rho)

def den (K : PySem.W.Frag) (f : E) : TE := fun σ H Q => ∃ (c : Fix) (G : Hp) (ρ : Rho) (o : Opd) (ρ' : Rho), c.K = K ∧ Rep c G ρ σ H ∧ f ρ = some (o, ρ') ∧
  ∀ v G' H', Same G G' → Rep c G' ρ' σ H' → OpdOk c G' σ v o → Q v H'
def denB (K : PySem.W.Frag) (f : B) : TT := fun σ H Q => ∃ (c : Fix) (G : Hp) (ρ : Rho) (b : Bool) (ρ' : Rho), c.K = K ∧ Rep c G ρ σ H ∧ f ρ = some (b, ρ') ∧
  ∀ G' H', Same G G' → Rep c G' ρ' σ H' → Q b H'
def denA (K : PySem.W.Frag) (f : As) : TA := fun σ H Q => ∃ (c : Fix) (G : Hp) (ρ : Rho) (os : List Opd) (ρ' : Rho), c.K = K ∧ Rep c G ρ σ H ∧ f ρ = some (os, ρ') ∧
  ∀ vs G' H', Same G G' → Rep c G' ρ' σ H' → Paired (OpdOk c G' σ) vs os → Q vs H'
def denN (K : PySem.W.Frag) (f : N) : TE := fun σ H Q => ∃ (c : Fix) (G : Hp) (ρ : Rho) (ds : List D) (ρ' : Rho), c.K = K ∧ Rep c G ρ σ H ∧ f ρ = some (ds, ρ') ∧
  ∀ p G' H', Same G G' → Rep c G' ρ' σ H' → New c G' ρ' σ H' p (.l ds) → Q (.ref p) H'

structure PD (X : Cx) (e : Expr) (f : E) : Prop where
  pe : PE X e (den X.K f)
structure PDB (X : Cx) (e : Expr) (f : B) : Prop where
  pt : PT X e (denB X.K f)
structure PDA (X : Cx) (es : List Expr) (f : As) : Prop where
  pa : PA X es (denA X.K f)
structure PDN (X : Cx) (e : Expr) (f : N) : Prop where
  pe : PE X e (denN X.K f)

theorem PEimp {X : Cx} {e : Expr} {t t' : TE} (h : PE X e t) (i : ∀ σ H Q, t' σ H Q → t σ H Q) : PE X e t' := ⟨fun pins s σ H Q I hw => h.run pins s σ H Q I (i σ H Q hw)⟩
theorem PTimp {X : Cx} {e : Expr} {t t' : TT} (h : PT X e t) (i : ∀ σ H Q, t' σ H Q → t σ H Q) : PT X e t' := ⟨fun pins s σ H Q I hw => h.run pins s σ H Q I (i σ H Q hw)⟩
theorem PAimp {X : Cx} {e : List Expr} {t t' : TA} (h : PA X e t) (i : ∀ σ H Q, t' σ H Q → t σ H Q) : PA X e t' := ⟨fun pos pins s σ H Q I hw => h.run pos pins s σ H Q I (i σ H Q hw)⟩

/-! ### the heap grows by frozen objects -/
inductive Grow (G H : Hp) : Hp → Hp → Prop
  | refl : Grow G H G H
  | step {G1 H1 : Hp} {p : Addr} {u : HO} : Grow G H G1 H1 → H1 p = none → Grow G H (upd G1 p u) (upd H1 p u)
section
variable {c : Fix} {K : PySem.W.Frag} {G G' H H' : Hp} {ρ ρ' : Rho} {σ : L2.St} {v : V} {d : D} {o : Opd} {p a : Addr} {u : HO} {i j : Nat}
theorem Grow.one (h : H p = none) : Grow G H (upd G p u) (upd H p u) := .step .refl h
theorem Rep.grow (R : Rep c G ρ σ H) (g : Grow G H G' H') : Rep c G' ρ σ H' ∧ Same G G' := by
  induction g with
  | refl => exact ⟨R, Same.refl _⟩
  | step g hp ih => exact ⟨ih.1.alloc hp, ih.2.trans (ih.1.frozen hp)⟩
theorem Same.grow (s : Same G H) (g : Grow G H G' H') : Same G G' ∧ Same G' H' := by
  induction g with
  | refl => exact ⟨Same.refl _, s⟩
  | @step G1 H1 p u g hp ih =>
    refine ⟨ih.1.trans (upd_keep (ih.2.free hp)), fun b o e => ?_⟩
    by_cases q : b = p
    · subst q; rw [upd_same] at e ⊢; exact e
    · rw [upd_ne q] at e ⊢; exact ih.2 b o e

/-! ### names, constants -/
def eVar (i : Nat) : E := fun ρ => match ρ[i]? with
  | some (some (.val d)) => some (.fz d, ρ)
  | some (some _) => some (.sl i, ρ)
  | _ => none
theorem den_var : den K (eVar i) σ H Q → tVar i σ H Q := by
  rintro ⟨c, G, ρ, o, ρ', rfl, R, hf, q⟩
  unfold eVar at hf
  cases e : ρ[i]? with
  | none => rw [e] at hf; cases hf
  | some l =>
    cases l with
    | none => rw [e] at hf; cases hf
    | some l =>
      rw [e] at hf
      obtain ⟨v, h1, h2⟩ := R.loc i l e
      refine ⟨v, h1, ?_⟩
      cases l with
      | val d => cases hf; exact q v G H (Same.refl _) R h2
      | own ds => cases hf; exact q v G H (Same.refl _) R h1
      | io ds => cases hf; exact q v G H (Same.refl _) R h1
theorem pd_var {X : Cx} {e : Expr} (i : Nat) (h : PE X e (tVar i)) : PD X e (eVar i) := ⟨PEimp h fun _ _ _ => den_var⟩
def eC (d : D) : E := fun ρ => some (.fz d, ρ)
theorem den_c (hv : ∀ G, Is K G v d) : den K (eC d) σ H Q → tC v σ H Q := by
  rintro ⟨c, G, ρ, o, ρ', rfl, R, hf, q⟩
  cases hf
  exact q v G H (Same.refl _) R (hv G)
theorem pd_int {X : Cx} {i : Int} {j pos} : PD X (.Constant (.int i) j pos) (eC (.int i)) := ⟨PEimp pe_int fun _ _ _ => den_c fun _ => .int i⟩
theorem pd_bl {X : Cx} {i : Bool} {j pos} : PD X (.Constant (.bool i) j pos) (eC (.bool i)) := ⟨PEimp pe_bl fun _ _ _ => den_c fun _ => .bl i⟩
theorem pd_non {X : Cx} {j pos} : PD X (.Constant .none j pos) (eC .none) := ⟨PEimp pe_non fun _ _ _ => den_c fun _ => .non⟩
theorem pd_str {X : Cx} {x : Str} {j pos} (h : x.length ≤ sizeLine := by decide) : PD X (.Constant (.str x) j pos) (eC (.str x)) := ⟨PEimp pe_str fun _ _ _ => den_c fun _ => .str x h⟩
/-- a module's constant -/
theorem pd_glob {X : Cx} {e : Expr} (h : PE X e (tC v)) (hv : ∀ G, Is X.K G v d) : PD X e (eC d) := ⟨PEimp h fun _ _ _ => den_c hv⟩

/-! ### operators by data -/
def rD2 (K : PySem.W.Frag) (g : D → D → Option D) : R2 := fun x y H Q => ∃ (G : Hp) (dx dy dz : D), Same G H ∧ View K G H x dx ∧ View K G H y dy ∧ g dx dy = some dz ∧ ∀ v G' H', Grow G H G' H' → Is K G' v dz → Q v H'
def OpD (X : Cx) (f : Value → Value → Sem Value) (g : D → D → Option D) : Prop := OpR X f (rD2 X.K g)
def e2 (g : D → D → Option D) (a b : E) : E := fun ρ => (a ρ).bind fun p => (b p.2).bind fun q => (look q.2 p.1).bind fun x => (look q.2 q.1).bind fun y => (g x y).bind fun z => some (.fz z, q.2)
theorem den_e2 {g : D → D → Option D} {fa fb : E} : den K (e2 g fa fb) σ H Q → tOp (rD2 K g) (den K fa) (den K fb) σ H Q := by
  rintro ⟨c, G, ρ, o, ρ', rfl, R, hf, q⟩
  unfold e2 at hf
  obtain ⟨⟨o1, ρ1⟩, h1, hf⟩ := Option.bind_eq_some_iff.mp hf
  obtain ⟨⟨o2, ρ2⟩, h2, hf⟩ := Option.bind_eq_some_iff.mp hf
  obtain ⟨x, h3, hf⟩ := Option.bind_eq_some_iff.mp hf
  obtain ⟨y, h4, hf⟩ := Option.bind_eq_some_iff.mp hf
  obtain ⟨z, h5, hf⟩ := Option.bind_eq_some_iff.mp hf
  cases hf
  refine ⟨c, G, ρ, o1, ρ1, rfl, R, h1, fun v G1 H1 s1 R1 k1 => ⟨c, G1, ρ1, o2, ρ2, rfl, R1, h2, fun w G2 H2 s2 R2 k2 => ?_⟩⟩
  refine ⟨G2, x, y, z, R2.gh, R2.view (k1.mono s2) h3, R2.view k2 h4, h5, fun u G3 H3 g3 i3 => ?_⟩
  obtain ⟨R3, s3⟩ := R2.grow g3
  exact q u G3 H3 (s1.trans (s2.trans s3)) R3 i3
theorem pd_op {X : Cx} {op : Operator} {g : D → D → Option D} {a b : Expr} {fa fb : E} {pos : Pos} (ho : OpD X (binaryOp op) g) (ha : PD X a fa) (hb : PD X b fb) : PD X (.BinOp a op b pos) (e2 g fa fb) :=
  ⟨PEimp (pe_op ho ha.pe hb.pe) fun _ _ _ => den_e2⟩
theorem pd_cmp {X : Cx} {op : CmpOp} {g : D → D → Option D} {a b : Expr} {fa fb : E} {pos : Pos} (ho : OpD X (compareOp op) g) (ha : PD X a fa) (hb : PD X b fb) (hm : behindInMarks op b = false := by first | exact nomark _ | rfl) : PD X (.Compare a [op] [b] pos) (e2 g fa fb) :=
  ⟨PEimp (pe_cmpR ho ha.pe hb.pe hm) fun _ _ _ => den_e2⟩
/-- a test: an expression whose datum is a bool -/
def bE (f : E) : B := fun ρ => (f ρ).bind fun p => match p.1 with
  | .fz (.bool b) => some (b, p.2)
  | _ => none
theorem denB_e {f : E} : denB K (bE f) σ H Q → (den K f) σ H fun x H' => ∃ k, x = .bl k ∧ Q k H' := by
  rintro ⟨c, G, ρ, b, ρ', rfl, R, hf, q⟩
  unfold bE at hf
  obtain ⟨⟨o1, ρ1⟩, h1, hf⟩ := Option.bind_eq_some_iff.mp hf
  refine ⟨c, G, ρ, o1, ρ1, rfl, R, h1, fun v G1 H1 s1 R1 k1 => ?_⟩
  cases o1 with
  | sl i => cases hf
  | fz d =>
    cases d with
    | bool k => cases hf; cases k1; exact ⟨_, rfl, q G1 H1 s1 R1⟩
    | _ => cases hf
theorem pdb_cmp {X : Cx} {op : CmpOp} {g : D → D → Option D} {a b : Expr} {fa fb : E} {pos : Pos} (ho : OpD X (compareOp op) g) (ha : PD X a fa) (hb : PD X b fb) (hm : behindInMarks op b = false := by first | exact nomark _ | rfl) : PDB X (.Compare a [op] [b] pos) (bE (e2 g fa fb)) :=
  ⟨PTimp (pt_cmpR ho ha.pe hb.pe hm) fun _ _ _ h => den_e2 (denB_e h)⟩
/-- any expression but and, or, not, comparisons -/
theorem pdb_val {X : Cx} {e : Expr} {f : E} (h : PD X e f) (he : ∀ whole, isTrue e X.env whole = (do let v ← whole; standAt e.pos; holding [v] (truthy v)) := by intro _; rfl) : PDB X e (bE f) :=
  ⟨PTimp (pt_val h.pe he) fun _ _ _ h => denB_e h⟩
/-- a op b op' c -/
def eChain (g g' : D → D → Option D) (a b c : E) : E := fun ρ => (a ρ).bind fun p => (b p.2).bind fun q => (look q.2 p.1).bind fun x => (look q.2 q.1).bind fun y => (g x y).bind fun z => match z with
  | .bool true => (c q.2).bind fun r => (look r.2 q.1).bind fun y' => (look r.2 r.1).bind fun w => (g' y' w).bind fun z' => some (.fz z', r.2)
  | .bool false => some (.fz (.bool false), q.2)
  | _ => none
theorem den_chain {g g' : D → D → Option D} {fa fb fc : E} : den K (eChain g g' fa fb fc) σ H Q → tChain (rD2 K g) (rD2 K g') (den K fa) (den K fb) (den K fc) σ H Q := by
  rintro ⟨c, G, ρ, o, ρ', rfl, R, hf, q⟩
  unfold eChain at hf
  obtain ⟨⟨o1, ρ1⟩, h1, hf⟩ := Option.bind_eq_some_iff.mp hf
  obtain ⟨⟨o2, ρ2⟩, h2, hf⟩ := Option.bind_eq_some_iff.mp hf
  obtain ⟨x, h3, hf⟩ := Option.bind_eq_some_iff.mp hf
  obtain ⟨y, h4, hf⟩ := Option.bind_eq_some_iff.mp hf
  obtain ⟨z, h5, hf⟩ := Option.bind_eq_some_iff.mp hf
  refine ⟨c, G, ρ, o1, ρ1, rfl, R, h1, fun v G1 H1 s1 R1 k1 => ⟨c, G1, ρ1, o2, ρ2, rfl, R1, h2, fun w G2 H2 s2 R2 k2 => ?_⟩⟩
  refine ⟨G2, x, y, z, R2.gh, R2.view (k1.mono s2) h3, R2.view k2 h4, h5, fun u G3 H3 g3 i3 => ?_⟩
  obtain ⟨R3, s3⟩ := R2.grow g3
  cases z with
  | bool k =>
    cases i3
    refine ⟨k, rfl, ?_⟩
    cases k with
    | false =>
      rw [if_neg Bool.false_ne_true]
      cases hf
      exact q _ G3 H3 (s1.trans (s2.trans s3)) R3 (.bl false)
    | true =>
      rw [if_pos rfl]
      obtain ⟨⟨o3, ρ3⟩, h6, hf⟩ := Option.bind_eq_some_iff.mp hf
      obtain ⟨y', h7, hf⟩ := Option.bind_eq_some_iff.mp hf
      obtain ⟨w', h8, hf⟩ := Option.bind_eq_some_iff.mp hf
      obtain ⟨z', h9, hf⟩ := Option.bind_eq_some_iff.mp hf
      cases hf
      refine ⟨c, G3, ρ2, o3, ρ3, rfl, R3, h6, fun w2 G4 H4 s4 R4 k4 => ?_⟩
      refine ⟨G4, y', w', z', R4.gh, R4.view ((k2.mono s3).mono s4) h7, R4.view k4 h8, h9, fun u5 G5 H5 g5 i5 => ?_⟩
      obtain ⟨R5, s5⟩ := R4.grow g5
      exact q u5 G5 H5 (s1.trans (s2.trans (s3.trans (s4.trans s5)))) R5 i5
  | _ => cases hf
theorem pd_chain {X : Cx} {op op' : CmpOp} {g g' : D → D → Option D} {a b c : Expr} {fa fb fc : E} {pos : Pos} (ho : OpD X (compareOp op) g) (ho' : OpD X (compareOp op') g') (ha : PD X a fa) (hb : PD X b fb) (hc : PD X c fc) (hm : lastMarks [op, op'] [b, c] = false := by with_unfolding_all rfl) :
    PD X (.Compare a [op, op'] [b, c] pos) (eChain g g' fa fb fc) := ⟨PEimp (pe_chain ho ho' ha.pe hb.pe hc.pe hm) fun _ _ _ => den_chain⟩
theorem pdb_chain {X : Cx} {op op' : CmpOp} {g g' : D → D → Option D} {a b c : Expr} {fa fb fc : E} {pos : Pos} (ho : OpD X (compareOp op) g) (ho' : OpD X (compareOp op') g') (ha : PD X a fa) (hb : PD X b fb) (hc : PD X c fc) (hm : lastMarks [op, op'] [b, c] = false := by with_unfolding_all rfl) :
    PDB X (.Compare a [op, op'] [b, c] pos) (bE (eChain g g' fa fb fc)) := ⟨PTimp (pt_chain ho ho' ha.pe hb.pe hc.pe hm) fun _ _ _ h => den_chain (denB_e h)⟩

/-! ### and, or, not, if else -/
def bAnd (a b : B) : B := fun ρ => (a ρ).bind fun p => if p.1 = true then b p.2 else some (false, p.2)
def bOr (a b : B) : B := fun ρ => (a ρ).bind fun p => if p.1 = true then some (true, p.2) else b p.2
def bNot (a : B) : B := fun ρ => (a ρ).bind fun p => some (!p.1, p.2)
structure PWB (X : Cx) (e : Expr) (f : B) : Prop where
  pw : PW X e (denB X.K f)
theorem PWimp {X : Cx} {e : Expr} {t t' : TT} (h : PW X e t) (i : ∀ σ H Q, t' σ H Q → t σ H Q) : PW X e t' := ⟨fun wh pins s σ H Q I hw => h.run wh pins s σ H Q I (i σ H Q hw)⟩
theorem PWB.b {X : Cx} {e : Expr} {f : B} (h : PWB X e f) : PDB X e f := ⟨h.pw.pt⟩
theorem denB_and {a b : B} {Q : Bool → Hp → Prop} : denB K (bAnd a b) σ H Q → tAnd (denB K a) (denB K b) σ H Q := by
  rintro ⟨c, G, ρ, r, ρ', rfl, R, hf, q⟩
  unfold bAnd at hf
  obtain ⟨⟨k, ρ1⟩, h1, hf⟩ := Option.bind_eq_some_iff.mp hf
  refine ⟨c, G, ρ, k, ρ1, rfl, R, h1, fun G1 H1 s1 R1 => ?_⟩
  cases k with
  | true => exact ⟨c, G1, ρ1, r, ρ', rfl, R1, hf, fun G2 H2 s2 R2 => q G2 H2 (s1.trans s2) R2⟩
  | false => cases hf; exact q G1 H1 s1 R1
theorem denB_or {a b : B} {Q : Bool → Hp → Prop} : denB K (bOr a b) σ H Q → tOr (denB K a) (denB K b) σ H Q := by
  rintro ⟨c, G, ρ, r, ρ', rfl, R, hf, q⟩
  unfold bOr at hf
  obtain ⟨⟨k, ρ1⟩, h1, hf⟩ := Option.bind_eq_some_iff.mp hf
  refine ⟨c, G, ρ, k, ρ1, rfl, R, h1, fun G1 H1 s1 R1 => ?_⟩
  cases k with
  | false => exact ⟨c, G1, ρ1, r, ρ', rfl, R1, hf, fun G2 H2 s2 R2 => q G2 H2 (s1.trans s2) R2⟩
  | true => cases hf; exact q G1 H1 s1 R1
theorem denB_not {a : B} {Q : Bool → Hp → Prop} : denB K (bNot a) σ H Q → tNot (denB K a) σ H Q := by
  rintro ⟨c, G, ρ, r, ρ', rfl, R, hf, q⟩
  unfold bNot at hf
  obtain ⟨⟨k, ρ1⟩, h1, hf⟩ := Option.bind_eq_some_iff.mp hf
  cases hf
  exact ⟨c, G, ρ, k, ρ1, rfl, R, h1, q⟩
section
variable {X : Cx} {e e' : Expr} {rest : List Expr} {a b t : B} {fa fb : E} {pos : Pos}
theorem pwb_and1 (h : PDB X e a) : PWB X (.BoolOp .And [e] pos) a := ⟨pw_and1 h.pt⟩
theorem pwb_or1 (h : PDB X e a) : PWB X (.BoolOp .Or [e] pos) a := ⟨pw_or1 h.pt⟩
theorem pwb_and (h : PDB X e a) (h' : PWB X (.BoolOp .And (e' :: rest) pos) b) : PWB X (.BoolOp .And (e :: e' :: rest) pos) (bAnd a b) := ⟨PWimp (pw_and h.pt h'.pw) fun _ _ _ => denB_and⟩
theorem pwb_or (h : PDB X e a) (h' : PWB X (.BoolOp .Or (e' :: rest) pos) b) : PWB X (.BoolOp .Or (e :: e' :: rest) pos) (bOr a b) := ⟨PWimp (pw_or h.pt h'.pw) fun _ _ _ => denB_or⟩
theorem pdb_not (h : PDB X e a) : PDB X (.UnaryOp .Not e pos) (bNot a) := ⟨PTimp (pt_not h.pt) fun _ _ _ => denB_not⟩
end
/-- as values -/
def eAnd (a b : E) : E := fun ρ => (a ρ).bind fun p => match p.1 with
  | .fz (.bool true) => b p.2
  | .fz (.bool false) => some (.fz (.bool false), p.2)
  | _ => none
def eOr (a b : E) : E := fun ρ => (a ρ).bind fun p => match p.1 with
  | .fz (.bool false) => b p.2
  | .fz (.bool true) => some (.fz (.bool true), p.2)
  | _ => none
def eNot (a : E) : E := fun ρ => (a ρ).bind fun p => match p.1 with
  | .fz (.bool k) => some (.fz (.bool (!k)), p.2)
  | _ => none
def eIf (t : B) (a b : E) : E := fun ρ => (t ρ).bind fun p => if p.1 = true then a p.2 else b p.2
theorem den_and {a b : E} : den K (eAnd a b) σ H Q → tAndV (den K a) (den K b) σ H Q := by
  rintro ⟨c, G, ρ, r, ρ', rfl, R, hf, q⟩
  unfold eAnd at hf
  obtain ⟨⟨o, ρ1⟩, h1, hf⟩ := Option.bind_eq_some_iff.mp hf
  refine ⟨c, G, ρ, o, ρ1, rfl, R, h1, fun v G1 H1 s1 R1 k1 => ?_⟩
  cases o with
  | sl i => cases hf
  | fz d =>
    cases d with
    | bool k =>
      cases k1
      refine ⟨k, rfl, ?_⟩
      cases k with
      | true => exact ⟨c, G1, ρ1, r, ρ', rfl, R1, hf, fun v G2 H2 s2 R2 k2 => q v G2 H2 (s1.trans s2) R2 k2⟩
      | false => cases hf; exact q _ G1 H1 s1 R1 (.bl false)
    | _ => cases hf
theorem den_or {a b : E} : den K (eOr a b) σ H Q → tOrV (den K a) (den K b) σ H Q := by
  rintro ⟨c, G, ρ, r, ρ', rfl, R, hf, q⟩
  unfold eOr at hf
  obtain ⟨⟨o, ρ1⟩, h1, hf⟩ := Option.bind_eq_some_iff.mp hf
  refine ⟨c, G, ρ, o, ρ1, rfl, R, h1, fun v G1 H1 s1 R1 k1 => ?_⟩
  cases o with
  | sl i => cases hf
  | fz d =>
    cases d with
    | bool k =>
      cases k1
      refine ⟨k, rfl, ?_⟩
      cases k with
      | false => exact ⟨c, G1, ρ1, r, ρ', rfl, R1, hf, fun v G2 H2 s2 R2 k2 => q v G2 H2 (s1.trans s2) R2 k2⟩
      | true => cases hf; exact q _ G1 H1 s1 R1 (.bl true)
    | _ => cases hf
theorem den_not {a : E} : den K (eNot a) σ H Q → tNotV (den K a) σ H Q := by
  rintro ⟨c, G, ρ, r, ρ', rfl, R, hf, q⟩
  unfold eNot at hf
  obtain ⟨⟨o, ρ1⟩, h1, hf⟩ := Option.bind_eq_some_iff.mp hf
  refine ⟨c, G, ρ, o, ρ1, rfl, R, h1, fun v G1 H1 s1 R1 k1 => ?_⟩
  cases o with
  | sl i => cases hf
  | fz d =>
    cases d with
    | bool k => cases k1; cases hf; exact ⟨_, rfl, q _ G1 H1 s1 R1 (.bl _)⟩
    | _ => cases hf
theorem den_if {t : B} {a b : E} : den K (eIf t a b) σ H Q → tIf (denB K t) (den K a) (den K b) σ H Q := by
  rintro ⟨c, G, ρ, r, ρ', rfl, R, hf, q⟩
  unfold eIf at hf
  obtain ⟨⟨k, ρ1⟩, h1, hf⟩ := Option.bind_eq_some_iff.mp hf
  refine ⟨c, G, ρ, k, ρ1, rfl, R, h1, fun G1 H1 s1 R1 => ?_⟩
  cases k with
  | true => exact ⟨c, G1, ρ1, r, ρ', rfl, R1, hf, fun v G2 H2 s2 R2 k2 => q v G2 H2 (s1.trans s2) R2 k2⟩
  | false => exact ⟨c, G1, ρ1, r, ρ', rfl, R1, hf, fun v G2 H2 s2 R2 k2 => q v G2 H2 (s1.trans s2) R2 k2⟩
section
variable {X : Cx} {e e' : Expr} {rest : List Expr} {t : B} {a b : E} {pos : Pos} {op : BoolOp}
theorem pd_one (h : PD X e a) : PD X (.BoolOp op [e] pos) a := ⟨pe_one h.pe⟩
theorem pd_and (h : PD X e a) (h' : PD X (.BoolOp .And (e' :: rest) pos) b) : PD X (.BoolOp .And (e :: e' :: rest) pos) (eAnd a b) := ⟨PEimp (pe_and h.pe h'.pe) fun _ _ _ => den_and⟩
theorem pd_or (h : PD X e a) (h' : PD X (.BoolOp .Or (e' :: rest) pos) b) : PD X (.BoolOp .Or (e :: e' :: rest) pos) (eOr a b) := ⟨PEimp (pe_or h.pe h'.pe) fun _ _ _ => den_or⟩
theorem pd_not (h : PD X e a) : PD X (.UnaryOp .Not e pos) (eNot a) := ⟨PEimp (pe_not h.pe) fun _ _ _ => den_not⟩
theorem pd_ifx {c : Expr} (hc : PDB X c t) (h : PD X e a) (h' : PD X e' b) : PD X (.IfExp c e e' pos) (eIf t a b) := ⟨PEimp (pe_ifExp hc.pt h.pe h'.pe) fun _ _ _ => den_if⟩
end

/-! ### arguments, displays -/
def looks (ρ : Rho) : List Opd → Option (List D)
  | [] => some []
  | o :: os => (look ρ o).bind fun d => (looks ρ os).bind fun ds => some (d :: ds)
theorem OpdsOk.mono (s : Same G G') {vs : List V} {os : List Opd} (h : Paired (OpdOk c G σ) vs os) : Paired (OpdOk c G' σ) vs os := L2.Paired.mapP h fun _ _ q => q.mono s
theorem Rep.views (R : Rep c G ρ σ H) : ∀ {os : List Opd} {vs : List V} {ds : List D}, Paired (OpdOk c G σ) vs os → looks ρ os = some ds → Paired (View c.K G H) vs ds
  | [], _, _, .nil, e => by cases e; exact .nil
  | o :: os, _, _, .cons h t, e => by
    unfold looks at e
    obtain ⟨d, h1, e⟩ := Option.bind_eq_some_iff.mp e
    obtain ⟨ds, h2, e⟩ := Option.bind_eq_some_iff.mp e
    cases e
    exact .cons (R.view h h1) (Rep.views R t h2)
def aNil : As := fun ρ => some ([], ρ)
def aCons (f : E) (g : As) : As := fun ρ => (f ρ).bind fun p => (g p.2).bind fun q => some (p.1 :: q.1, q.2)
/-- *e: the items of a sequence -/
def itemsOf : D → Option (List D)
  | .list ds => some ds
  | .tuple ds => some ds
  | _ => none
def aStar (f : E) (g : As) : As := fun ρ => (f ρ).bind fun p => (look p.2 p.1).bind fun d => (itemsOf d).bind fun ds => (g p.2).bind fun q => some (ds.map .fz ++ q.1, q.2)
theorem denA_nil {Q : List V → Hp → Prop} : denA K aNil σ H Q → tNil σ H Q := by
  rintro ⟨c, G, ρ, r, ρ', rfl, R, hf, q⟩
  cases hf
  exact q [] G H (Same.refl _) R .nil
theorem denA_cons {f : E} {g : As} {Q : List V → Hp → Prop} : denA K (aCons f g) σ H Q → tCons (den K f) (denA K g) σ H Q := by
  rintro ⟨c, G, ρ, r, ρ', rfl, R, hf, q⟩
  unfold aCons at hf
  obtain ⟨⟨o, ρ1⟩, h1, hf⟩ := Option.bind_eq_some_iff.mp hf
  obtain ⟨⟨os, ρ2⟩, h2, hf⟩ := Option.bind_eq_some_iff.mp hf
  cases hf
  exact ⟨c, G, ρ, o, ρ1, rfl, R, h1, fun v G1 H1 s1 R1 k1 => ⟨c, G1, ρ1, os, ρ2, rfl, R1, h2, fun vs G2 H2 s2 R2 k2 => q (v :: vs) G2 H2 (s1.trans s2) R2 (.cons (k1.mono s2) k2)⟩⟩
theorem fzs {vs : List V} {ds : List D} (h : IsAll c.K G vs ds) : Paired (OpdOk c G σ) vs (ds.map .fz) := by
  induction vs generalizing ds with
  | nil => cases h; exact .nil
  | cons v vs ih => cases h with | cons a b => exact .cons a (ih b)
theorem Paired.app {α β : Type} {F : α → β → Prop} : ∀ {l₁ l₂ : List α} {m₁ m₂ : List β}, Paired F l₁ m₁ → Paired F l₂ m₂ → Paired F (l₁ ++ l₂) (m₁ ++ m₂)
  | _, _, _, _, .nil, h => h
  | _, _, _, _, .cons a b, h => .cons a (Paired.app b h)
theorem View.items {d : D} {ds : List D} (s : Same G H) (h : View K G H v d) (e : itemsOf d = some ds) : ∃ p vs, v = .ref p ∧ (SqT K H p vs ∨ SqL K H p vs) ∧ IsAll K G vs ds ∧ ds.length ≤ sizeLine := by
  cases d with
  | list es =>
    cases e
    obtain ⟨a, vs, e1, h1, h2, h3⟩ := h.seqL s
    exact ⟨a, vs, e1, .inr h1, h2, h3⟩
  | tuple es =>
    cases e
    obtain ⟨a, vs, e1, h1, h2, h3⟩ := h.seqT s
    exact ⟨a, vs, e1, .inl h1, h2, h3⟩
  | _ => cases e
theorem denA_star {f : E} {g : As} {Q : List V → Hp → Prop} : denA K (aStar f g) σ H Q → StX.tStar K (den K f) (denA K g) σ H Q := by
  rintro ⟨c, G, ρ, r, ρ', rfl, R, hf, q⟩
  unfold aStar at hf
  obtain ⟨⟨o, ρ1⟩, h1, hf⟩ := Option.bind_eq_some_iff.mp hf
  obtain ⟨d, h2, hf⟩ := Option.bind_eq_some_iff.mp hf
  obtain ⟨ds, h3, hf⟩ := Option.bind_eq_some_iff.mp hf
  obtain ⟨⟨os, ρ2⟩, h4, hf⟩ := Option.bind_eq_some_iff.mp hf
  cases hf
  refine ⟨c, G, ρ, o, ρ1, rfl, R, h1, fun v G1 H1 s1 R1 k1 => ?_⟩
  obtain ⟨p, vs, e1, q1, q2, q3⟩ := (R1.view k1 h2).items R1.gh h3
  exact ⟨p, vs, e1, q1, c, G1, ρ1, os, ρ2, rfl, R1, h4, fun ws G2 H2 s2 R2 k2 => q (vs ++ ws) G2 H2 (s1.trans s2) R2 (Paired.app (fzs (IsAll.mono s2 _ _ q2)) k2)⟩
section
variable {X : Cx} {e : Expr} {es : List Expr} {f : E} {g : As} {pos p : Pos}
theorem pda_nil : PDA X [] aNil := ⟨PAimp pa_nil fun _ _ _ => denA_nil⟩
theorem pda_cons (h : PD X e f) (h' : PDA X es g) (hs : starEach (e :: es) X.env = (false, eval e X.env) :: starEach es X.env := by rfl) : PDA X (e :: es) (aCons f g) := ⟨PAimp (pa_cons h.pe h'.pa hs) fun _ _ _ => denA_cons⟩
theorem pda_star (h : PD X e f) (h' : PDA X es g) (hs : starEach (.Starred e p :: es) X.env = (true, eval e X.env) :: starEach es X.env := by rfl) : PDA X (.Starred e p :: es) (aStar f g) := ⟨PAimp (StX.pa_star h.pe h'.pa hs) fun _ _ _ => denA_star⟩
end
/-- all operands are frozen data -/
def frozen : List Opd → Option (List D)
  | [] => some []
  | .fz d :: os => (frozen os).bind fun ds => some (d :: ds)
  | .sl _ :: _ => none
theorem frozen_ok : ∀ {os : List Opd} {vs : List V} {ds : List D}, Paired (OpdOk c G σ) vs os → frozen os = some ds → IsAll c.K G vs ds
  | [], _, _, .nil, e => by cases e; exact .nil
  | .fz d :: os, _, _, .cons h t, e => by
    unfold frozen at e
    obtain ⟨ds, h2, e⟩ := Option.bind_eq_some_iff.mp e
    cases e
    exact .cons h (frozen_ok t h2)
  | .sl _ :: _, _, _, .cons h t, e => by cases e
def fits (ds : List D) : Option (List D) := if ds.length ≤ sizeLine then some ds else none
theorem fits_some {ds es : List D} (h : fits ds = some es) : es = ds ∧ ds.length ≤ sizeLine := by
  unfold fits at h
  split at h
  · cases h; exact ⟨rfl, by assumption⟩
  · cases h
def eTup (g : As) : E := fun ρ => (g ρ).bind fun p => (frozen p.1).bind fun ds => (fits ds).bind fun ds => some (.fz (.tuple ds), p.2)
def nLst (g : As) : N := fun ρ => (g ρ).bind fun p => (frozen p.1).bind fun ds => (fits ds).bind fun ds => some (ds, p.2)
theorem den_tup {g : As} : den K (eTup g) σ H Q → tTup (denA K g) σ H Q := by
  rintro ⟨c, G, ρ, r, ρ', rfl, R, hf, q⟩
  unfold eTup at hf
  obtain ⟨⟨os, ρ1⟩, h1, hf⟩ := Option.bind_eq_some_iff.mp hf
  obtain ⟨ds, h2, hf⟩ := Option.bind_eq_some_iff.mp hf
  obtain ⟨ds', h3, hf⟩ := Option.bind_eq_some_iff.mp hf
  cases hf
  obtain ⟨rfl, hl⟩ := fits_some h3
  refine ⟨c, G, ρ, os, ρ1, rfl, R, h1, fun vs G1 H1 s1 R1 k1 => ?_⟩
  have ia := frozen_ok k1 h2
  refine ⟨by rw [ia.len]; exact hl, fun p hp => ?_⟩
  have sf := R1.frozen (u := .tup vs) hp
  exact q (.ref p) _ _ (s1.trans sf) (R1.alloc hp) (Is.tup (TpT.of upd_same) hl (IsAll.mono sf _ _ ia))
theorem denN_lst {g : As} : denN K (nLst g) σ H Q → tLst (denA K g) σ H Q := by
  rintro ⟨c, G, ρ, r, ρ', rfl, R, hf, q⟩
  unfold nLst at hf
  obtain ⟨⟨os, ρ1⟩, h1, hf⟩ := Option.bind_eq_some_iff.mp hf
  obtain ⟨ds, h2, hf⟩ := Option.bind_eq_some_iff.mp hf
  obtain ⟨ds', h3, hf⟩ := Option.bind_eq_some_iff.mp hf
  cases hf
  obtain ⟨rfl, hl⟩ := fits_some h3
  refine ⟨c, G, ρ, os, ρ1, rfl, R, h1, fun vs G1 H1 s1 R1 k1 => ?_⟩
  have ia := frozen_ok k1 h2
  refine ⟨by rw [ia.len]; exact hl, fun p hp => ?_⟩
  exact q p G1 _ s1 (R1.lay hp) (New.mk' R1 hp ia hl)
/-- a new list, frozen at once -/
def eN (f : N) : E := fun ρ => (f ρ).bind fun p => some (.fz (.list p.1), p.2)
theorem den_eN {f : N} : den K (eN f) σ H Q → denN K f σ H Q := by
  rintro ⟨c, G, ρ, r, ρ', rfl, R, hf, q⟩
  unfold eN at hf
  obtain ⟨⟨ds, ρ1⟩, h1, hf⟩ := Option.bind_eq_some_iff.mp hf
  cases hf
  refine ⟨c, G, ρ, ds, ρ1, rfl, R, h1, fun p G1 H1 s1 R1 n1 => ?_⟩
  obtain ⟨G2, s2, R2, i2⟩ := R1.freeze n1
  exact q _ G2 H1 (s1.trans s2) R2 i2
section
variable {X : Cx} {e : Expr} {es : List Expr} {f : N} {g : As} {pos p : Pos}
theorem pd_tup {x1} (h : PDA X es g) : PD X (.Tuple es x1 pos) (eTup g) := ⟨PEimp (pe_tup h.pa) fun _ _ _ => den_tup⟩
theorem pdn_lst (h : PDA X es g) : PDN X (.List es pos) (nLst g) := ⟨PEimp (pe_lst h.pa) fun _ _ _ => denN_lst⟩
theorem PDN.fz (h : PDN X e f) : PD X e (eN f) := ⟨PEimp h.pe fun _ _ _ => den_eN⟩
end
end
end L3
set_option Elab.async false
set_option linter.all false
set_option maxRecDepth 100000
set_option maxHeartbeats 4000000
namespace L3
open PySem PySem.Spec PyProof.Rows L2

section
variable {X : Cx}
/-! ### + -/
def dAdd : D → D → Option D
  | .int i, .int j => some (.int (i + j))
  | .tuple a, .tuple b => if a.length + b.length ≤ sizeLine then some (.tuple (a ++ b)) else none
  | .list a, .list b => if a.length + b.length ≤ sizeLine then some (.list (a ++ b)) else none
  | .str a, .str b => if a.length + b.length ≤ sizeLine then some (.str (a ++ b)) else none
  | _, _ => none
theorem str_len_app (a b : Str) : (a ++ b).length = a.length + b.length := by
  show (a.cps ++ b.cps).size = _
  rw [Array.size_append]; rfl
theorem op_addL {pins : List (Addr × Obj)} {s : Shared} {σ : L2.St} {H : Hp} {a b : Addr} {xs ys : List V} {Q : VK} (I : Inv X pins σ H s) (ha : SqL X.K H a xs) (hb : SqL X.K H b ys) (hz : xs.length + ys.length ≤ sizeLine)
    (q : ∀ p, H p = none → Q (.ref p) (upd H p (.lst (xs ++ ys)))) : wpAny (model X.prog X.w) X.A (binaryOp .Add (.ref a) (.ref b)) (EP X pins σ Q) X.xe s := by
  obtain ⟨vs, r1, ⟨⟨cls, dd, data, sl⟩, n, ho, hc, _, hd⟩, _⟩ := I.list ha
  obtain ⟨ws, r2, ⟨⟨cls2, dd2, data2, sl2⟩, n2, ho2, hc2, _, hd2⟩, _⟩ := I.list hb
  simp only at hc hd hc2 hd2
  subst hc hd hc2 hd2
  have e : vs.toArray ++ ws.toArray = (vs ++ ws).toArray := by simp
  have l1 := r1.length
  have l2 := r2.length
  refine PySem.concat_meets ⟨_, ho, rfl⟩ ⟨_, ho2, rfl⟩ PySem.noFill_list_add PySem.seq_list_add PySem.F.slot_list_add PySem.F.entry_list_add (PySem.F.args_list_add_2 _ _) (PyProof.Rows.list_addW a b vs.toArray ws.toArray n n2 dd dd2 sl sl2 (by simp; omega)) ⟨ho, ho2, ?_⟩
  rw [e]
  exact ⟨.ref _, _, I.lnew (t' := s.toks) (r1.append r2) (by rw [List.length_append]; omega), rfl, q _ I.fresh⟩
theorem od_add : OpD X (binaryOp .Add) dAdd := by
  intro pins s σ H x y v u Q I rx ry ⟨G, dx, dy, dz, sg, vx, vy, hz, q⟩
  unfold dAdd at hz
  split at hz
  · cases hz
    have e1 := vx.int; have e2 := vy.int; subst e1; subst e2
    exact op_add pins s σ H _ _ v u Q I rx ry ⟨_, _, rfl, rfl, q _ G H .refl (.int _)⟩
  · rename_i as bs
    split at hz
    · cases hz
      obtain ⟨a, xs, rfl, h1, h2, _⟩ := vx.seqT sg
      obtain ⟨b, ys, rfl, h4, h5, _⟩ := vy.seqT sg
      have la := h2.len; have lb := h5.len
      refine op_catA pins s σ H _ _ v u Q I rx ry ⟨a, b, xs, ys, rfl, rfl, h1, h4, by omega, fun e => ?_, fun _ e => ?_, fun _ _ p hp => ?_⟩
      · subst e; cases h2
        exact q _ G H .refl (vy.fz_of fun _ z => by cases z)
      · subst e; cases h5
        rw [List.append_nil] at q
        exact q _ G H .refl (vx.fz_of fun _ z => by cases z)
      · have g := Grow.one (G := G) (u := .tup (xs ++ ys)) hp
        exact q _ _ _ g (.tup (TpT.of upd_same) (by rw [List.length_append]; omega) (IsAll.mono (Same.grow sg g).1 _ _ (h2.append h5)))
    · cases hz
  · rename_i as bs
    split at hz
    · cases hz
      obtain ⟨a, xs, rfl, h1, h2, _⟩ := vx.seqL sg
      obtain ⟨b, ys, rfl, h4, h5, _⟩ := vy.seqL sg
      have la := h2.len; have lb := h5.len
      cases rx; cases ry
      refine op_addL I h1 h4 (by omega) fun p hp => ?_
      have g := Grow.one (G := G) (u := .lst (xs ++ ys)) hp
      exact q _ _ _ g (.lst (SqL.of upd_same) (by rw [List.length_append]; omega) (IsAll.mono (Same.grow sg g).1 _ _ (h2.append h5)))
    · cases hz
  · split at hz
    · cases hz
      obtain ⟨rfl, l1⟩ := vx.str
      obtain ⟨rfl, l2⟩ := vy.str
      exact op_add_str pins s σ H _ _ v u Q I rx ry ⟨_, _, rfl, rfl, by assumption, q _ G H .refl (.str _ (by rw [str_len_app]; assumption))⟩
    · cases hz
  · cases hz
/-! ### other arithmetic -/
def dSub : D → D → Option D
  | .int i, .int j => some (.int (i - j))
  | _, _ => none
theorem od_sub : OpD X (binaryOp .Sub) dSub := by
  intro pins s σ H x y v u Q I rx ry ⟨G, dx, dy, dz, sg, vx, vy, hz, q⟩
  unfold dSub at hz
  split at hz
  · cases hz
    have e1 := vx.int; have e2 := vy.int; subst e1; subst e2
    exact op_sub pins s σ H _ _ v u Q I rx ry ⟨_, _, rfl, rfl, q _ G H .refl (.int _)⟩
  · cases hz
/-- a product of ints whose bits together are below a million -/
def dMul : D → D → Option D
  | .int i, .int j => if i.natAbs.log2 + j.natAbs.log2 < 1000000 then some (.int (i * j)) else none
  | _, _ => none
theorem od_mul : OpD X (binaryOp .Mult) dMul := by
  intro pins s σ H x y v u Q I rx ry ⟨G, dx, dy, dz, sg, vx, vy, hz, q⟩
  unfold dMul at hz
  split at hz
  · split at hz
    · cases hz
      have e1 := vx.int; have e2 := vy.int; subst e1; subst e2
      exact op_mulW pins s σ H _ _ v u Q I rx ry ⟨_, _, rfl, rfl, by assumption, q _ G H .refl (.int _)⟩
    · cases hz
  · cases hz
/-- by a positive divisor of less than 9000 bits -/
def dFdiv : D → D → Option D
  | .int i, .int j => if 0 < j ∧ j.natAbs.log2 < 9000 then some (.int (i / j)) else none
  | _, _ => none
theorem od_fdiv : OpD X (binaryOp .FloorDiv) dFdiv := by
  intro pins s σ H x y v u Q I rx ry ⟨G, dx, dy, dz, sg, vx, vy, hz, q⟩
  unfold dFdiv at hz
  split at hz
  · split at hz
    · cases hz
      have e1 := vx.int; have e2 := vy.int; subst e1; subst e2
      exact op_fdivW pins s σ H _ _ v u Q I rx ry ⟨_, _, rfl, rfl, by assumption, q _ G H .refl (.int _)⟩
    · cases hz
  · cases hz
def dMod : D → D → Option D
  | .int i, .int j => if 0 < j then some (.int (i % j)) else none
  | _, _ => none
theorem od_mod : OpD X (binaryOp .Mod) dMod := by
  intro pins s σ H x y v u Q I rx ry ⟨G, dx, dy, dz, sg, vx, vy, hz, q⟩
  unfold dMod at hz
  split at hz
  · split at hz
    · cases hz
      have e1 := vx.int; have e2 := vy.int; subst e1; subst e2
      exact op_mod pins s σ H _ _ v u Q I rx ry ⟨_, _, rfl, rfl, by assumption, q _ G H .refl (.int _)⟩
    · cases hz
  · cases hz
def dPow : D → D → Option D
  | .int i, .int j => if 0 ≤ j ∧ ((i.natAbs.log2 + 1 : Nat) : Int) * j ≤ 134217728 then some (.int (i ^ j.toNat)) else none
  | _, _ => none
theorem intBits_log (x : Int) : Builtin.Int.intBits x ≤ x.natAbs.log2 + 1 := by
  unfold Builtin.Int.intBits
  split <;> omega
theorem od_pow : OpD X (binaryOp .Pow) dPow := by
  intro pins s σ H x y v u Q I rx ry ⟨G, dx, dy, dz, sg, vx, vy, hz, q⟩
  unfold dPow at hz
  split at hz
  · split at hz
    · rename_i i j h
      cases hz
      have e1 := vx.int; have e2 := vy.int; subst e1; subst e2
      obtain ⟨t, rfl⟩ := rx
      obtain ⟨t', rfl⟩ := ry
      refine PyProof.Rows.pow_int h.1 ?_ ⟨.int _, H, I.tok _, ⟨_, rfl⟩, q _ G H .refl (.int _)⟩
      have b := intBits_log i
      have b' : ((Builtin.Int.intBits i : Nat) : Int) ≤ ((i.natAbs.log2 + 1 : Nat) : Int) := Int.ofNat_le.mpr b
      exact Int.le_trans (Int.mul_le_mul_of_nonneg_right b' h.1) h.2
    · cases hz
  · cases hz
/-! ### one place -/
def rD1 (K : PySem.W.Frag) (g : D → Option D) : V → Hp → VK → Prop := fun x H Q => ∃ (G : Hp) (dx dz : D), Same G H ∧ View K G H x dx ∧ g dx = some dz ∧ ∀ v G' H', Grow G H G' H' → Is K G' v dz → Q v H'
def UnD (X : Cx) (f : Value → Sem Value) (g : D → Option D) : Prop := UnR X f (rD1 X.K g)
def e1 (g : D → Option D) (a : E) : E := fun ρ => (a ρ).bind fun p => (look p.2 p.1).bind fun x => (g x).bind fun z => some (.fz z, p.2)
theorem den_e1 {K : PySem.W.Frag} {σ : L2.St} {H : Hp} {Q : VK} {g : D → Option D} {fa : E} : den K (e1 g fa) σ H Q → tUn (rD1 K g) (den K fa) σ H Q := by
  rintro ⟨c, G, ρ, o, ρ', rfl, R, hf, q⟩
  unfold e1 at hf
  obtain ⟨⟨o1, ρ1⟩, h1, hf⟩ := Option.bind_eq_some_iff.mp hf
  obtain ⟨x, h3, hf⟩ := Option.bind_eq_some_iff.mp hf
  obtain ⟨z, h5, hf⟩ := Option.bind_eq_some_iff.mp hf
  cases hf
  refine ⟨c, G, ρ, o1, ρ1, rfl, R, h1, fun v G1 H1 s1 R1 k1 => ?_⟩
  refine ⟨G1, x, z, R1.gh, R1.view k1 h3, h5, fun u G3 H3 g3 i3 => ?_⟩
  obtain ⟨R3, s3⟩ := R1.grow g3
  exact q u G3 H3 (s1.trans s3) R3 i3
theorem pd_un {op : UnaryOp} {g : D → Option D} {a : Expr} {fa : E} {pos : Pos} (ho : UnD X (unaryOp op) g) (ha : PD X a fa) : PD X (.UnaryOp op a pos) (e1 g fa) := ⟨PEimp (pe_un ho ha.pe) fun _ _ _ => den_e1⟩
def dNeg : D → Option D
  | .int i => some (.int (-i))
  | _ => none
theorem ud_neg : UnD X (unaryOp .USub) dNeg := by
  intro pins s σ H x v Q I rx ⟨G, dx, dz, sg, vx, hz, q⟩
  unfold dNeg at hz
  split at hz
  · cases hz
    have e1 := vx.int; subst e1
    exact un_neg pins s σ H _ v Q I rx ⟨_, rfl, q _ G H .refl (.int _)⟩
  · cases hz
/-! ### comparisons -/
def dEq : D → D → Option D := fun a b => if SeqAt.shaped a && SeqAt.shaped b then some (.bool (PyData.eqv a b)) else none
def dNe : D → D → Option D := fun a b => if SeqAt.shaped a && SeqAt.shaped b then some (.bool (!PyData.eqv a b)) else none
theorem od_eq (hu : X.A.units + 64 < cLine) : OpD X (compareOp .Eq) dEq := by
  intro pins s σ H x y v u Q I rx ry ⟨G, dx, dy, dz, sg, vx, vy, hz, q⟩
  unfold dEq at hz
  split at hz
  · rename_i h
    cases hz
    rw [Bool.and_eq_true] at h
    exact op_eqD hu pins s σ H _ _ v u Q I rx ry ⟨dx, dy, vx.dp sg, vy.dp sg, h.1, h.2, q _ G H .refl (.bl _)⟩
  · cases hz
theorem od_ne (hu : X.A.units + 64 < cLine) : OpD X (compareOp .NotEq) dNe := by
  intro pins s σ H x y v u Q I rx ry ⟨G, dx, dy, dz, sg, vx, vy, hz, q⟩
  unfold dNe at hz
  split at hz
  · rename_i h
    cases hz
    rw [Bool.and_eq_true] at h
    exact op_neD hu pins s σ H _ _ v u Q I rx ry ⟨dx, dy, vx.dp sg, vy.dp sg, h.1, h.2, q _ G H .refl (.bl _)⟩
  · cases hz
def isNone : D → Bool
  | .none => true
  | _ => false
/-- the two may be ordered -/
def ordOk (a b : D) : Bool := PySem.W.alike a b && !isNone a && decide (a.depth ≤ 64)
theorem ordOk_ne {a b : D} (h : ordOk a b = true) : PySem.W.alike a b = true ∧ a ≠ .none ∧ a.depth ≤ 64 := by
  unfold ordOk at h
  rw [Bool.and_eq_true, Bool.and_eq_true] at h
  refine ⟨h.1.1, fun e => ?_, of_decide_eq_true h.2⟩
  rw [e] at h; exact absurd h.1.2 (by simp [isNone])
def dLt : D → D → Option D := fun a b => if ordOk a b then some (.bool (PySem.W.dataLt a b)) else none
def dGt : D → D → Option D := fun a b => if ordOk a b then some (.bool (PySem.W.dataLt b a)) else none
def dLe : D → D → Option D := fun a b => if ordOk a b then some (.bool (!PySem.W.dataLt b a)) else none
def dGe : D → D → Option D := fun a b => if ordOk a b then some (.bool (!PySem.W.dataLt a b)) else none
theorem View.reads {pins : List (Addr × Obj)} {σ : L2.St} {G H : Hp} {s : Shared} {x : V} {v : Value} {d : D} (sg : Same G H) (I : Inv X pins σ H s) (h : View X.K G H x d) (r : RelV x v) : ∃ as, Reads s.heap v d as := Dp.reads I d x v (h.dp sg) r
theorem min_le_64 {n m k : Nat} (h : n ≤ 64) (hu : k + 64 < cLine) : k + min n m < cLine := by
  have := Nat.min_le_left n m
  omega
theorem od_lt (hu : X.A.units + 64 < cLine) : OpD X (compareOp .Lt) dLt := by
  intro pins s σ H x y v u Q I rx ry ⟨G, dx, dy, dz, sg, vx, vy, hz, q⟩
  unfold dLt at hz
  split at hz
  · rename_i h
    cases hz
    obtain ⟨h1, h2, h3⟩ := ordOk_ne h
    obtain ⟨as, r1⟩ := vx.reads sg I rx
    obtain ⟨bs, r2⟩ := vy.reads sg I ry
    exact PySem.W.lt_data r1 r2 h1 h2 (min_le_64 h3 hu) ⟨.bl _, H, I, rfl, q _ G H .refl (.bl _)⟩
  · cases hz
theorem od_gt (hu : X.A.units + 64 < cLine) : OpD X (compareOp .Gt) dGt := by
  intro pins s σ H x y v u Q I rx ry ⟨G, dx, dy, dz, sg, vx, vy, hz, q⟩
  unfold dGt at hz
  split at hz
  · rename_i h
    cases hz
    obtain ⟨h1, h2, h3⟩ := ordOk_ne h
    obtain ⟨as, r1⟩ := vx.reads sg I rx
    obtain ⟨bs, r2⟩ := vy.reads sg I ry
    exact PySem.W.gt_data r1 r2 h1 h2 (min_le_64 h3 hu) ⟨.bl _, H, I, rfl, q _ G H .refl (.bl _)⟩
  · cases hz
theorem od_le (hu : X.A.units + 64 < cLine) : OpD X (compareOp .LtE) dLe := by
  intro pins s σ H x y v u Q I rx ry ⟨G, dx, dy, dz, sg, vx, vy, hz, q⟩
  unfold dLe at hz
  split at hz
  · rename_i h
    cases hz
    obtain ⟨h1, h2, h3⟩ := ordOk_ne h
    obtain ⟨as, r1⟩ := vx.reads sg I rx
    obtain ⟨bs, r2⟩ := vy.reads sg I ry
    exact PySem.W.le_data r1 r2 h1 h2 (min_le_64 h3 hu) ⟨.bl _, H, I, rfl, q _ G H .refl (.bl _)⟩
  · cases hz
theorem od_ge (hu : X.A.units + 64 < cLine) : OpD X (compareOp .GtE) dGe := by
  intro pins s σ H x y v u Q I rx ry ⟨G, dx, dy, dz, sg, vx, vy, hz, q⟩
  unfold dGe at hz
  split at hz
  · rename_i h
    cases hz
    obtain ⟨h1, h2, h3⟩ := ordOk_ne h
    obtain ⟨as, r1⟩ := vx.reads sg I rx
    obtain ⟨bs, r2⟩ := vy.reads sg I ry
    exact PySem.W.ge_data r1 r2 h1 h2 (min_le_64 h3 hu) ⟨.bl _, H, I, rfl, q _ G H .refl (.bl _)⟩
  · cases hz
/-- is, is not: None or bools on the right -/
def dIs : D → D → Option D
  | a, .none => some (.bool (isNone a))
  | .bool a, .bool b => some (.bool (decide (a = b)))
  | _, _ => none
def dIsNot : D → D → Option D
  | a, .none => some (.bool (!isNone a))
  | .bool a, .bool b => some (.bool (!decide (a = b)))
  | _, _ => none
theorem View.isNone {G H : Hp} {x : V} {d : D} (h : View X.K G H x d) : decide (x = .non) = L3.isNone d := by
  cases h with
  | fz h => cases h <;> simp [L3.isNone]
  | cell => simp [L3.isNone]
theorem od_is : OpD X (compareOp .Is) dIs := by
  intro pins s σ H x y v u Q I rx ry ⟨G, dx, dy, dz, sg, vx, vy, hz, q⟩
  unfold dIs at hz
  split at hz
  · cases hz
    have e := vy.non; subst e
    refine op_isN pins s σ H _ _ v u Q I rx ry ⟨rfl, ?_⟩
    rw [vx.isNone]; exact q _ G H .refl (.bl _)
  · cases hz
    have e1 := vx.bl; have e2 := vy.bl; subst e1; subst e2
    exact op_isBl pins s σ H _ _ v u Q I rx ry ⟨_, _, rfl, rfl, q _ G H .refl (.bl _)⟩
  · cases hz
theorem od_isnot : OpD X (compareOp .IsNot) dIsNot := by
  intro pins s σ H x y v u Q I rx ry ⟨G, dx, dy, dz, sg, vx, vy, hz, q⟩
  unfold dIsNot at hz
  split at hz
  · cases hz
    have e := vy.non; subst e
    refine op_notN pins s σ H _ _ v u Q I rx ry ⟨rfl, ?_⟩
    rw [vx.isNone]; exact q _ G H .refl (.bl _)
  · cases hz
    have e1 := vx.bl; have e2 := vy.bl; subst e1; subst e2
    exact op_notBl pins s σ H _ _ v u Q I rx ry ⟨_, _, rfl, rfl, q _ G H .refl (.bl _)⟩
  · cases hz
/-- in, not in of sequences -/
def inOk (a : D) (ds : List D) : Bool := SeqAt.shaped a && PyData.canLayAll0 ds
def dIn : D → D → Option D := fun a b => (itemsOf b).bind fun ds => if inOk a ds then some (.bool (ds.any fun z => PyData.eqv z a)) else none
def dNotIn : D → D → Option D := fun a b => (itemsOf b).bind fun ds => if inOk a ds then some (.bool (!ds.any fun z => PyData.eqv z a)) else none
theorem inRoom {a : D} {n k : Nat} (h : SeqAt.shaped a = true) (hu : k + 65 < cLine) : k + 1 + min n a.depth < cLine := by
  have h1 := SeqAt.depth_of_shaped h
  have h2 : min n a.depth ≤ a.depth := Nat.min_le_right _ _
  omega
theorem od_in (hu : X.A.units + 65 < cLine) : OpD X (compareOp .In) dIn := by
  intro pins s σ H x y v u Q I rx ry ⟨G, dx, dy, dz, sg, vx, vy, hz, q⟩
  unfold dIn at hz
  obtain ⟨ds, h0, hz⟩ := Option.bind_eq_some_iff.mp hz
  split at hz
  · rename_i h
    cases hz
    unfold inOk at h
    rw [Bool.and_eq_true] at h
    obtain ⟨as, r1⟩ := vx.reads sg I rx
    obtain ⟨bs, r2⟩ := vy.reads sg I ry
    cases dy with
    | list es => cases h0; exact SeqAt.in_list_reads r2 r1 h.2 (SeqAt.canLay_of_shaped h.1) (inRoom h.1 hu) ⟨.bl _, H, I, rfl, q _ G H .refl (.bl _)⟩
    | tuple es => cases h0; exact SeqAt.in_tuple_reads r2 r1 h.2 (SeqAt.canLay_of_shaped h.1) (inRoom h.1 hu) ⟨.bl _, H, I, rfl, q _ G H .refl (.bl _)⟩
    | _ => cases h0
  · cases hz
theorem od_notin (hu : X.A.units + 65 < cLine) : OpD X (compareOp .NotIn) dNotIn := by
  intro pins s σ H x y v u Q I rx ry ⟨G, dx, dy, dz, sg, vx, vy, hz, q⟩
  unfold dNotIn at hz
  obtain ⟨ds, h0, hz⟩ := Option.bind_eq_some_iff.mp hz
  split at hz
  · rename_i h
    cases hz
    unfold inOk at h
    rw [Bool.and_eq_true] at h
    obtain ⟨as, r1⟩ := vx.reads sg I rx
    obtain ⟨bs, r2⟩ := vy.reads sg I ry
    cases dy with
    | list es => cases h0; exact SeqAt.notIn_list_reads r2 r1 h.2 (SeqAt.canLay_of_shaped h.1) (inRoom h.1 hu) ⟨.bl _, H, I, rfl, q _ G H .refl (.bl _)⟩
    | tuple es => cases h0; exact SeqAt.notIn_tuple_reads r2 r1 h.2 (SeqAt.canLay_of_shaped h.1) (inRoom h.1 hu) ⟨.bl _, H, I, rfl, q _ G H .refl (.bl _)⟩
    | _ => cases h0
  · cases hz
end
end L3
set_option Elab.async false
set_option linter.all false
set_option maxRecDepth 100000
set_option maxHeartbeats 4000000
namespace L3
open PySem PySem.Spec PyProof.Rows L2

/-! ### subscripts -/
def dIx : D → D → Option D
  | .list ds, .int i => atI ds i
  | .tuple ds, .int i => atI ds i
  | .str x, .int i => (atI x.cps.toList i).bind fun c => some (.str ⟨#[c]⟩)
  | _, _ => none
section
variable {K : PySem.W.Frag} {G H : Hp}
theorem IsAll.at {vs : List V} {ds : List D} {i : Int} {d : D} (h : IsAll K G vs ds) (e : atI ds i = some d) : ∃ v, atI vs i = some v ∧ Is K G v d := by
  unfold atI at e ⊢
  rw [h.len]
  obtain ⟨j, h1, h2⟩ := Option.bind_eq_some_iff.mp e
  obtain ⟨v, h3, h4⟩ := h.get h2
  exact ⟨v, by rw [h1]; exact h3, h4⟩
end
section
variable {X : Cx}
def IxD (X : Cx) (g : D → D → Option D) : Prop := IxR X (rD2 X.K g)
theorem ixd : IxD X dIx := by
  intro value slice pins s σ H x y v u Q I rx ry ⟨G, dx, dy, dz, sg, vx, vy, hz, q⟩ hs
  unfold dIx at hz
  split at hz
  · obtain ⟨a, xs, rfl, h1, h2, _⟩ := vx.seqL sg
    have e2 := vy.int; subst e2
    obtain ⟨w, h3, h4⟩ := h2.at hz
    exact ix_list value slice pins s σ H _ _ v u Q I rx ry ⟨a, xs, _, w, rfl, rfl, h1, h3, q w G H .refl h4⟩ hs
  · obtain ⟨a, xs, rfl, h1, h2, _⟩ := vx.seqT sg
    have e2 := vy.int; subst e2
    obtain ⟨w, h3, h4⟩ := h2.at hz
    exact ix_tup value slice pins s σ H _ _ v u Q I rx ry ⟨a, xs, _, w, rfl, rfl, h1, h3, q w G H .refl h4⟩ hs
  · obtain ⟨c, h1, hz⟩ := Option.bind_eq_some_iff.mp hz
    cases hz
    obtain ⟨rfl, l1⟩ := vx.str
    have e2 := vy.int; subst e2
    exact ix_str value slice pins s σ H _ _ v u Q I rx ry ⟨_, _, c, rfl, rfl, l1, h1, q _ G H .refl (.str _ (by show 1 ≤ sizeLine; decide))⟩ hs
  · cases hz
theorem pd_ix {g : D → D → Option D} {a b : Expr} {fa fb : E} {pos : Pos} (hr : IxD X g) (ha : PD X a fa) (hb : PD X b fb) (hs : PlainIx b := by exact fun _ _ => rfl) : PD X (.Subscript a b pos) (e2 g fa fb) := ⟨PEimp (pe_ix hr ha.pe hb.pe hs) fun _ _ _ => den_e2⟩
end

/-! ### slices -/
abbrev O := Rho → Option (Option Int × Rho)
def denO (K : PySem.W.Frag) (f : O) : TO := fun σ H Q => ∃ (c : Fix) (G : Hp) (ρ : Rho) (o : Option Int) (ρ' : Rho), c.K = K ∧ Rep c G ρ σ H ∧ f ρ = some (o, ρ') ∧
  ∀ G' H', Same G G' → Rep c G' ρ' σ H' → Q o H'
structure PDO (X : Cx) (e : Option Expr) (f : O) : Prop where
  po : PO X e (denO X.K f)
theorem POimp {X : Cx} {e : Option Expr} {t t' : TO} (h : PO X e t) (i : ∀ σ H Q, t' σ H Q → t σ H Q) : PO X e t' := ⟨fun pins s σ H Q I hw => h.run pins s σ H Q I (i σ H Q hw)⟩
def oN : O := fun ρ => some (none, ρ)
def oS (f : E) : O := fun ρ => (f ρ).bind fun p => match p.1 with
  | .fz (.int i) => some (some i, p.2)
  | _ => none
section
variable {K : PySem.W.Frag} {G H : Hp} {σ : L2.St} {f : E} {X : Cx}
theorem denO_n {Q : Option Int → Hp → Prop} : denO K oN σ H Q → tNoPart σ H Q := by
  rintro ⟨c, G, ρ, o, ρ', rfl, R, hf, q⟩
  cases hf
  exact q G H (Same.refl _) R
theorem denO_s {Q : Option Int → Hp → Prop} : denO K (oS f) σ H Q → tPart (den K f) σ H Q := by
  rintro ⟨c, G, ρ, o, ρ', rfl, R, hf, q⟩
  unfold oS at hf
  obtain ⟨⟨o1, ρ1⟩, h1, hf⟩ := Option.bind_eq_some_iff.mp hf
  refine ⟨c, G, ρ, o1, ρ1, rfl, R, h1, fun v G1 H1 s1 R1 k1 => ?_⟩
  cases o1 with
  | sl i => cases hf
  | fz d =>
    cases d with
    | int i => cases hf; cases k1; exact ⟨i, rfl, q G1 H1 s1 R1⟩
    | _ => cases hf
theorem pdo_n : PDO X none oN := ⟨POimp po_none fun _ _ _ => denO_n⟩
theorem pdo_s {e : Expr} (h : PD X e f) : PDO X (some e) (oS f) := ⟨POimp (po_some h.pe) fun _ _ _ => denO_s⟩
end
def cut {α : Type} (xs : List α) (lo hi : Option Int) : List α := (xs.drop (HT.sIx xs.length 0 lo)).take (HT.sIx xs.length xs.length hi - HT.sIx xs.length 0 lo)
def dSl : D → Option Int → Option Int → Option D
  | .list ds, lo, hi => some (.list (cut ds lo hi))
  | .tuple ds, lo, hi => some (.tuple (cut ds lo hi))
  | _, _, _ => none
def rDS (K : PySem.W.Frag) (g : D → Option Int → Option Int → Option D) : V → Option Int → Option Int → Hp → VK → Prop := fun x lo hi H Q => ∃ (G : Hp) (dx dz : D), Same G H ∧ View K G H x dx ∧ g dx lo hi = some dz ∧ ∀ v G' H', Grow G H G' H' → Is K G' v dz → Q v H'
def eSl (g : D → Option Int → Option Int → Option D) (f : E) (lo hi : O) : E := fun ρ => (f ρ).bind fun p => (lo p.2).bind fun q => (hi q.2).bind fun r => (look r.2 p.1).bind fun d => (g d q.1 r.1).bind fun z => some (.fz z, r.2)
section
variable {K : PySem.W.Frag} {G H : Hp} {σ : L2.St} {f : E} {lo hi : O} {g : D → Option Int → Option Int → Option D} {X : Cx}
theorem IsAll.cut {vs : List V} {ds : List D} (h : IsAll K G vs ds) (lo hi : Option Int) : IsAll K G (cutV vs lo hi) (L3.cut ds lo hi) := by
  unfold cutV L3.cut
  rw [h.len]
  exact (h.drop _).take _
theorem cut_len {α : Type} (xs : List α) (lo hi : Option Int) : (L3.cut xs lo hi).length ≤ xs.length := by
  unfold L3.cut
  rw [List.length_take, List.length_drop]
  omega
theorem den_sl {Q : VK} : den K (eSl g f lo hi) σ H Q → tSl (rDS K g) (den K f) (denO K lo) (denO K hi) σ H Q := by
  rintro ⟨c, G, ρ, o, ρ', rfl, R, hf, q⟩
  unfold eSl at hf
  obtain ⟨⟨o1, ρ1⟩, h1, hf⟩ := Option.bind_eq_some_iff.mp hf
  obtain ⟨⟨l, ρ2⟩, h2, hf⟩ := Option.bind_eq_some_iff.mp hf
  obtain ⟨⟨u, ρ3⟩, h3, hf⟩ := Option.bind_eq_some_iff.mp hf
  obtain ⟨d, h4, hf⟩ := Option.bind_eq_some_iff.mp hf
  obtain ⟨z, h5, hf⟩ := Option.bind_eq_some_iff.mp hf
  cases hf
  refine ⟨c, G, ρ, o1, ρ1, rfl, R, h1, fun v G1 H1 s1 R1 k1 => ⟨c, G1, ρ1, l, ρ2, rfl, R1, h2, fun G2 H2 s2 R2 => ⟨c, G2, ρ2, u, ρ3, rfl, R2, h3, fun G3 H3 s3 R3 => ?_⟩⟩⟩
  refine ⟨G3, d, z, R3.gh, R3.view ((k1.mono s2).mono s3) h4, h5, fun w G4 H4 g4 i4 => ?_⟩
  obtain ⟨R4, s4⟩ := R3.grow g4
  exact q w G4 H4 (s1.trans (s2.trans (s3.trans s4))) R4 i4
theorem sld : SlR X (rDS X.K dSl) := by
  intro pins s σ H x v vl vu lo hi sl Q I rx hs pl pu ⟨G, dx, dz, sg, vx, hz, q⟩
  unfold dSl at hz
  split at hz
  · cases hz
    obtain ⟨a, xs, rfl, h1, h2, h3⟩ := vx.seqL sg
    refine sl_list pins s σ H _ v vl vu lo hi sl Q I rx hs pl pu ⟨a, xs, rfl, h1, fun p hp => ?_⟩
    have g := Grow.one (G := G) (u := .lst (cutV xs lo hi)) hp
    exact q _ _ _ g (.lst (SqL.of upd_same) (Nat.le_trans (cut_len _ _ _) h3) (IsAll.mono (Same.grow sg g).1 _ _ (h2.cut lo hi)))
  · cases hz
    obtain ⟨a, xs, rfl, h1, h2, h3⟩ := vx.seqT sg
    refine sl_tupA pins s σ H _ v vl vu lo hi sl Q I rx hs pl pu ⟨a, xs, rfl, h1, fun e => ?_, fun _ p hp => ?_⟩
    · rename_i ds
      have e' : L3.cut ds lo hi = ds := by
        unfold L3.cut
        rw [← h2.len, e.1, e.2, List.drop_zero, Nat.sub_zero, h2.len, List.take_length]
      rw [e'] at q
      exact q _ G H .refl (vx.fz_of fun _ z => by cases z)
    · have g := Grow.one (G := G) (u := .tup (cutV xs lo hi)) hp
      exact q _ _ _ g (.tup (TpT.of upd_same) (Nat.le_trans (cut_len _ _ _) h3) (IsAll.mono (Same.grow sg g).1 _ _ (h2.cut lo hi)))
  · cases hz
theorem pd_sl {a : Expr} {l h : Option Expr} {pos p2 : Pos} (ha : PD X a f) (hl : PDO X l lo) (hh : PDO X h hi) : PD X (.Subscript a (.Slice l h none p2) pos) (eSl dSl f lo hi) := ⟨PEimp (pe_slice sld ha.pe hl.po hh.po) fun _ _ _ => den_sl⟩
/-- xs[::-1] of a list -/
def nRev (f : E) : N := fun ρ => (f ρ).bind fun p => (look p.2 p.1).bind fun d => match d with
  | .list ds => some (ds.reverse, p.2)
  | _ => none
theorem den_revL {Q : VK} : denN K (nRev f) σ H Q → tRevL K (den K f) σ H Q := by
  rintro ⟨c, G, ρ, o, ρ', rfl, R, hf, q⟩
  unfold nRev at hf
  obtain ⟨⟨o1, ρ1⟩, h1, hf⟩ := Option.bind_eq_some_iff.mp hf
  obtain ⟨d, h2, hf⟩ := Option.bind_eq_some_iff.mp hf
  cases d with
  | list ds =>
    cases hf
    refine ⟨c, G, ρ, o1, ρ1, rfl, R, h1, fun v G1 H1 s1 R1 k1 => ?_⟩
    obtain ⟨a, vs, rfl, h3, h4, h5⟩ := (R1.view k1 h2).seqL R1.gh
    exact ⟨a, vs, rfl, h3, fun p hp => q p G1 _ s1 (R1.lay hp) (New.mk' R1 hp h4.reverse (by rw [List.length_reverse]; exact h5))⟩
  | _ => cases hf
theorem pdn_rev {e : Expr} {k : Nat} {p1 p2 p3 pos : Pos} (h : PD X e f) : PDN X (.Subscript e (.Slice none none (some (.UnaryOp .USub (.Constant (.int 1) k p1) p2)) p3) pos) (nRev f) := ⟨PEimp (pe_revL h.pe) fun _ _ _ => den_revL⟩
end

/-! ### calls of built-ins -/
def rDC (K : PySem.W.Frag) (g : List D → Option D) : List V → Hp → VK → Prop := fun vs H Q => ∃ (G : Hp) (ds : List D) (dz : D), Same G H ∧ Paired (View K G H) vs ds ∧ g ds = some dz ∧ ∀ v G' H', Grow G H G' H' → Is K G' v dz → Q v H'
def CallD (X : Cx) (f : Value) (g : List D → Option D) : Prop := CallR X f (rDC X.K g)
def eCall (g : List D → Option D) (a : As) : E := fun ρ => (a ρ).bind fun p => (looks p.2 p.1).bind fun ds => (g ds).bind fun z => some (.fz z, p.2)
/-- .. that make a new list -/
def rDCN (K : PySem.W.Frag) (g : List D → Option (List D)) : List V → Hp → VK → Prop := fun vs H Q => ∃ (G : Hp) (ds es : List D), Same G H ∧ Paired (View K G H) vs ds ∧ g ds = some es ∧ ∀ p ws, H p = none → IsAll K G ws es → es.length ≤ sizeLine → Q (.ref p) (upd H p (.lst ws))
def CallN (X : Cx) (f : Value) (g : List D → Option (List D)) : Prop := CallR X f (rDCN X.K g)
def nCall (g : List D → Option (List D)) (a : As) : N := fun ρ => (a ρ).bind fun p => (looks p.2 p.1).bind fun ds => (g ds).bind fun z => some (z, p.2)
section
variable {K : PySem.W.Frag} {G H : Hp} {σ : L2.St} {a : As} {X : Cx}
theorem den_call {g : List D → Option D} {Q : VK} : den K (eCall g a) σ H Q → tCB (rDC K g) (denA K a) σ H Q := by
  rintro ⟨c, G, ρ, o, ρ', rfl, R, hf, q⟩
  unfold eCall at hf
  obtain ⟨⟨os, ρ1⟩, h1, hf⟩ := Option.bind_eq_some_iff.mp hf
  obtain ⟨ds, h2, hf⟩ := Option.bind_eq_some_iff.mp hf
  obtain ⟨z, h3, hf⟩ := Option.bind_eq_some_iff.mp hf
  cases hf
  refine ⟨c, G, ρ, os, ρ1, rfl, R, h1, fun vs G1 H1 s1 R1 k1 => ?_⟩
  refine ⟨G1, ds, z, R1.gh, R1.views k1 h2, h3, fun w G2 H2 g2 i2 => ?_⟩
  obtain ⟨R2, s2⟩ := R1.grow g2
  exact q w G2 H2 (s1.trans s2) R2 i2
theorem denN_call {g : List D → Option (List D)} {Q : VK} : denN K (nCall g a) σ H Q → tCB (rDCN K g) (denA K a) σ H Q := by
  rintro ⟨c, G, ρ, o, ρ', rfl, R, hf, q⟩
  unfold nCall at hf
  obtain ⟨⟨os, ρ1⟩, h1, hf⟩ := Option.bind_eq_some_iff.mp hf
  obtain ⟨ds, h2, hf⟩ := Option.bind_eq_some_iff.mp hf
  obtain ⟨z, h3, hf⟩ := Option.bind_eq_some_iff.mp hf
  cases hf
  refine ⟨c, G, ρ, os, ρ1, rfl, R, h1, fun vs G1 H1 s1 R1 k1 => ?_⟩
  exact ⟨G1, ds, _, R1.gh, R1.views k1 h2, h3, fun p ws hp hw hl => q p G1 _ s1 (R1.lay hp) (New.mk' R1 hp hw hl)⟩
section
variable {x : Str} {id T : String} {g : List D → Option D} {gn : List D → Option (List D)} {e : Expr} {es : List Expr} {p pos : Pos}
theorem pd_callB (hc : CallD X (.builtin id) g) (hg : Gl X x) (hm : X.mg x = none) (hv : bootBuiltins x = some (.builtin id)) (ha : PDA X (e :: es) a) (hn : x ≠ "__name__" := by decide) (hdb : (x == ("__debug__" : Str)) = false := by decide)
    (he : starEach (e :: es) X.env = (false, eval e X.env) :: starEach es X.env := by rfl) (hpl : (backTo pos (starEach es X.env)).any (·.1) = false := by rfl) : PD X (.Call (.Name x p) (e :: es) [] pos) (eCall g a) :=
  ⟨PEimp (pe_callB hc hg hm hv ha.pa hn hdb he hpl) fun _ _ _ => den_call⟩
theorem pd_callT (hc : CallD X (.type T) g) (hg : Gl X x) (hm : X.mg x = none) (hv : bootBuiltins x = some (.type T)) (ha : PDA X (e :: es) a) (hn : x ≠ "__name__" := by decide) (hdb : (x == ("__debug__" : Str)) = false := by decide)
    (he : starEach (e :: es) X.env = (false, eval e X.env) :: starEach es X.env := by rfl) (hpl : (backTo pos (starEach es X.env)).any (·.1) = false := by rfl) : PD X (.Call (.Name x p) (e :: es) [] pos) (eCall g a) :=
  ⟨PEimp (pe_callTy hc hg hm hv ha.pa hn hdb he hpl) fun _ _ _ => den_call⟩
theorem pdn_callB (hc : CallN X (.builtin id) gn) (hg : Gl X x) (hm : X.mg x = none) (hv : bootBuiltins x = some (.builtin id)) (ha : PDA X (e :: es) a) (hn : x ≠ "__name__" := by decide) (hdb : (x == ("__debug__" : Str)) = false := by decide)
    (he : starEach (e :: es) X.env = (false, eval e X.env) :: starEach es X.env := by rfl) (hpl : (backTo pos (starEach es X.env)).any (·.1) = false := by rfl) : PDN X (.Call (.Name x p) (e :: es) [] pos) (nCall gn a) :=
  ⟨PEimp (pe_callB hc hg hm hv ha.pa hn hdb he hpl) fun _ _ _ => denN_call⟩
theorem pdn_callT (hc : CallN X (.type T) gn) (hg : Gl X x) (hm : X.mg x = none) (hv : bootBuiltins x = some (.type T)) (ha : PDA X (e :: es) a) (hn : x ≠ "__name__" := by decide) (hdb : (x == ("__debug__" : Str)) = false := by decide)
    (he : starEach (e :: es) X.env = (false, eval e X.env) :: starEach es X.env := by rfl) (hpl : (backTo pos (starEach es X.env)).any (·.1) = false := by rfl) : PDN X (.Call (.Name x p) (e :: es) [] pos) (nCall gn a) :=
  ⟨PEimp (pe_callTy hc hg hm hv ha.pa hn hdb he hpl) fun _ _ _ => denN_call⟩
end
/-! ### len, abs, int, tuple, list -/
def dLen : List D → Option D
  | [.list ds] => some (.int ds.length)
  | [.tuple ds] => some (.int ds.length)
  | [.str x] => some (.int x.length)
  | _ => none
theorem one_of {vs : List V} {R : V → D → Prop} {d : D} (h : Paired R vs [d]) : ∃ v, vs = [v] ∧ R v d := by
  cases h with | cons a b => cases b; exact ⟨_, rfl, a⟩
theorem two_of {vs : List V} {R : V → D → Prop} {d e : D} (h : Paired R vs [d, e]) : ∃ v w, vs = [v, w] ∧ R v d ∧ R w e := by
  cases h with | cons a b => cases b with | cons b c => cases c; exact ⟨_, _, rfl, a, b⟩
theorem three_of {vs : List V} {R : V → D → Prop} {d e f : D} (h : Paired R vs [d, e, f]) : ∃ v w u, vs = [v, w, u] ∧ R v d ∧ R w e ∧ R u f := by
  cases h with | cons a b => cases b with | cons b c => cases c with | cons c d => cases d; exact ⟨_, _, _, rfl, a, b, c⟩
theorem cd_len : CallD X (.builtin "len") dLen := by
  intro pins s σ H vs us Q I rv ⟨G, ds, dz, sg, vw, hz, q⟩
  unfold dLen at hz
  split at hz
  · cases hz
    obtain ⟨v, rfl, h⟩ := one_of vw
    obtain ⟨a, xs, rfl, h1, h2, _⟩ := h.seqL sg
    exact call_len_seq pins s σ H _ us Q I rv ⟨a, xs, rfl, .inl h1, by rw [h2.len]; exact q _ G H .refl (.int _)⟩
  · cases hz
    obtain ⟨v, rfl, h⟩ := one_of vw
    obtain ⟨a, xs, rfl, h1, h2, _⟩ := h.seqT sg
    exact call_len_seq pins s σ H _ us Q I rv ⟨a, xs, rfl, .inr h1, by rw [h2.len]; exact q _ G H .refl (.int _)⟩
  · cases hz
    obtain ⟨v, rfl, h⟩ := one_of vw
    obtain ⟨rfl, l⟩ := h.str
    exact call_len_str pins s σ H _ us Q I rv ⟨_, rfl, l, q _ G H .refl (.int _)⟩
  · cases hz
def dAbs : List D → Option D
  | [.int i] => some (.int (if i < 0 then -i else i))
  | _ => none
theorem cd_abs : CallD X (.builtin "abs") dAbs := by
  intro pins s σ H vs us Q I rv ⟨G, ds, dz, sg, vw, hz, q⟩
  unfold dAbs at hz
  split at hz
  · cases hz
    obtain ⟨v, rfl, h⟩ := one_of vw
    have e := h.int; subst e
    exact call_abs pins s σ H _ us Q I rv ⟨_, rfl, q _ G H .refl (.int _)⟩
  · cases hz
def dInt : List D → Option D
  | [.int i] => some (.int i)
  | [.bool b] => some (.int (if b then 1 else 0))
  | _ => none
theorem cd_int : CallD X (.type "int") dInt := by
  intro pins s σ H vs us Q I rv ⟨G, ds, dz, sg, vw, hz, q⟩
  unfold dInt at hz
  split at hz
  · cases hz
    obtain ⟨v, rfl, h⟩ := one_of vw
    have e := h.int; subst e
    exact call_int1 pins s σ H _ us Q I rv (.inl ⟨_, rfl, q _ G H .refl (.int _)⟩)
  · cases hz
    obtain ⟨v, rfl, h⟩ := one_of vw
    have e := h.bl; subst e
    exact call_int1 pins s σ H _ us Q I rv (.inr ⟨_, rfl, q _ G H .refl (.int _)⟩)
  · cases hz
def dTuple : List D → Option D
  | [.list ds] => some (.tuple ds)
  | [.tuple ds] => some (.tuple ds)
  | _ => none
theorem cd_tuple : CallD X (.type "tuple") dTuple := by
  intro pins s σ H vs us Q I rv ⟨G, ds, dz, sg, vw, hz, q⟩
  unfold dTuple at hz
  split at hz
  · cases hz
    obtain ⟨v, rfl, h⟩ := one_of vw
    obtain ⟨a, xs, rfl, h1, h2, h3⟩ := h.seqL sg
    refine call_tuple_of pins s σ H _ us Q I rv ⟨a, xs, rfl, .inl ⟨h1, fun p hp => ?_⟩⟩
    have g := Grow.one (G := G) (u := .tup xs) hp
    exact q _ _ _ g (.tup (TpT.of upd_same) h3 (IsAll.mono (Same.grow sg g).1 _ _ h2))
  · cases hz
    obtain ⟨v, rfl, h⟩ := one_of vw
    have f := h.fz_of (fun _ z => by cases z)
    obtain ⟨a, xs, rfl, h1, h2, h3⟩ := h.seqT sg
    exact call_tuple_of pins s σ H _ us Q I rv ⟨a, xs, rfl, .inr ⟨h1, q _ G H .refl f⟩⟩
  · cases hz
def dList : List D → Option (List D)
  | [d] => itemsOf d
  | _ => none
theorem cn_list : CallN X (.type "list") dList := by
  intro pins s σ H vs us Q I rv ⟨G, ds, es, sg, vw, hz, q⟩
  unfold dList at hz
  split at hz
  · obtain ⟨v, rfl, h⟩ := one_of vw
    obtain ⟨a, xs, rfl, h1, h2, h3⟩ := h.items sg hz
    exact call_list_of pins s σ H _ us Q I rv ⟨a, xs, rfl, h1.symm, fun p hp => q p xs hp h2 h3⟩
  · cases hz
/-! ### sum, any, all -/
def intsD : List D → Option (List Int)
  | [] => some []
  | .int i :: ds => (intsD ds).bind fun ns => some (i :: ns)
  | _ :: _ => none
theorem intsD_map : ∀ {ds : List D} {ns : List Int}, intsD ds = some ns → ds = ns.map .int
  | [], _, h => by cases h; rfl
  | d :: ds, ns, h => by
    cases d with
    | int i =>
      obtain ⟨ms, h1, h2⟩ := Option.bind_eq_some_iff.mp (show (intsD ds).bind (fun ns => some (i :: ns)) = some ns from h)
      cases h2
      rw [intsD_map h1]; rfl
    | _ => cases h
theorem intsD_of : ∀ ns : List Int, intsD (ns.map .int) = some ns
  | [] => rfl
  | n :: ns => by show (intsD (ns.map .int)).bind _ = _; rw [intsD_of ns]; rfl
def boolsD : List D → Option (List Bool)
  | [] => some []
  | .bool i :: ds => (boolsD ds).bind fun ns => some (i :: ns)
  | _ :: _ => none
theorem boolsD_map : ∀ {ds : List D} {ns : List Bool}, boolsD ds = some ns → ds = ns.map .bool
  | [], _, h => by cases h; rfl
  | d :: ds, ns, h => by
    cases d with
    | bool i =>
      obtain ⟨ms, h1, h2⟩ := Option.bind_eq_some_iff.mp (show (boolsD ds).bind (fun ns => some (i :: ns)) = some ns from h)
      cases h2
      rw [boolsD_map h1]; rfl
    | _ => cases h
theorem boolsD_of : ∀ ns : List Bool, boolsD (ns.map .bool) = some ns
  | [] => rfl
  | n :: ns => by show (boolsD (ns.map .bool)).bind _ = _; rw [boolsD_of ns]; rfl
theorem IsAll.bls {K : PySem.W.Frag} {G : Hp} : ∀ {vs : List V} {ns : List Bool}, IsAll K G vs (ns.map .bool) → vs = ns.map .bl
  | [], [], _ => rfl
  | _ :: _, _ :: _, .cons a b => by cases a; rw [IsAll.bls b]; rfl
def dSum : List D → Option D
  | [.list ds] => (intsD ds).bind fun ns => some (.int ns.sum)
  | _ => none
theorem cd_sum (hc : X.calm = true) : CallD X (.builtin "sum") dSum := by
  intro pins s σ H vs us Q I rv ⟨G, ds, dz, sg, vw, hz, q⟩
  unfold dSum at hz
  split at hz
  · obtain ⟨ns, h0, hz⟩ := Option.bind_eq_some_iff.mp hz
    cases hz
    obtain ⟨v, rfl, h⟩ := one_of vw
    obtain ⟨a, xs, rfl, h1, h2, h3⟩ := h.seqL sg
    rw [intsD_map h0] at h2
    rw [h2.ints] at h1
    exact cr_sum hc pins s σ H _ us Q I rv ⟨a, ns, rfl, h1, q _ G H .refl (.int _)⟩
  · cases hz
def dAll : List D → Option D
  | [.list ds] => (boolsD ds).bind fun ns => some (.bool (ns.all id))
  | _ => none
def dAny : List D → Option D
  | [.list ds] => (boolsD ds).bind fun ns => some (.bool (ns.any id))
  | _ => none
theorem cd_all (hc : X.calm = true) : CallD X (.builtin "all") dAll := by
  intro pins s σ H vs us Q I rv ⟨G, ds, dz, sg, vw, hz, q⟩
  unfold dAll at hz
  split at hz
  · obtain ⟨ns, h0, hz⟩ := Option.bind_eq_some_iff.mp hz
    cases hz
    obtain ⟨v, rfl, h⟩ := one_of vw
    obtain ⟨a, xs, rfl, h1, h2, h3⟩ := h.seqL sg
    rw [boolsD_map h0] at h2
    rw [h2.bls] at h1
    exact cr_all hc pins s σ H _ us Q I rv ⟨a, ns, rfl, h1, q _ G H .refl (.bl _)⟩
  · cases hz
theorem cd_any (hc : X.calm = true) : CallD X (.builtin "any") dAny := by
  intro pins s σ H vs us Q I rv ⟨G, ds, dz, sg, vw, hz, q⟩
  unfold dAny at hz
  split at hz
  · obtain ⟨ns, h0, hz⟩ := Option.bind_eq_some_iff.mp hz
    cases hz
    obtain ⟨v, rfl, h⟩ := one_of vw
    obtain ⟨a, xs, rfl, h1, h2, h3⟩ := h.seqL sg
    rw [boolsD_map h0] at h2
    rw [h2.bls] at h1
    exact cr_any hc pins s σ H _ us Q I rv ⟨a, ns, rfl, h1, q _ G H .refl (.bl _)⟩
  · cases hz
end
end L3
set_option Elab.async false
set_option linter.all false
set_option maxRecDepth 100000
set_option maxHeartbeats 4000000
namespace L3
open PySem PySem.Spec PyProof.Rows L2
section
variable {X : Cx}
/-! ### sorted -/
/-- all may be ordered one with the other -/
def ordAll (ds : List D) : Bool := ds.all fun x => ds.all fun y => ordOk x y
def isTup : D → Bool
  | .tuple (_ :: _) => true
  | _ => false
def noTup : D → Bool
  | .tuple _ => false
  | _ => true
def sortOk (ds : List D) : Bool := ordAll ds && (ds.all isTup || ds.all noTup)
def sortD (ds : List D) : List D := ds.mergeSort (PySem.W.dataLe false id)
theorem ordAll_ok {ds : List D} (h : ordAll ds = true) : ∀ x ∈ ds, ∀ y ∈ ds, ordOk x y = true := fun x hx y hy => by
  unfold ordAll at h
  exact List.all_eq_true.mp (List.all_eq_true.mp h x hx) y hy
theorem depthAll_le {ds : List D} {n : Nat} (h : ∀ x ∈ ds, x.depth ≤ n) : PyData.depthAll ds ≤ n := by
  induction ds with
  | nil => simp [PyData.depthAll]
  | cons d ds ih =>
    have h1 := h d List.mem_cons_self
    have h2 := ih fun x hx => h x (List.mem_cons_of_mem _ hx)
    simp only [PyData.depthAll]
    omega
def dSorted : List D → Option (List D)
  | [.list ds] => if sortOk ds then some (sortD ds) else none
  | _ => none
theorem isAll_pairs {K : PySem.W.Frag} {G : Hp} {vs : List V} {ds : List D} : ∀ {ps : List (V × D)}, (∀ p ∈ ps, Is K G p.1 p.2) → IsAll K G (ps.map (·.1)) (ps.map (·.2))
  | [], _ => .nil
  | p :: ps, h => .cons (h p List.mem_cons_self) (isAll_pairs (vs := vs) (ds := ds) fun q hq => h q (List.mem_cons_of_mem _ hq))
theorem zip_snd {α β : Type} : ∀ {as : List α} {bs : List β}, as.length = bs.length → (as.zip bs).map (·.2) = bs
  | [], [], _ => rfl
  | _ :: _, _ :: _, h => by simp [zip_snd (by simpa using h)]
  | [], _ :: _, h => by simp at h
  | _ :: _, [], h => by simp at h
theorem vals_fst : ∀ {ps : List (V × D)} {us : List Value}, PySem.W.EachIs (fun (v : Value) (p : V × D) => L2.RelV p.1 v) us ps → Vals (ps.map (·.1)) us
  | [], _, .nil => .nil
  | _ :: _, _, .cons a b => .cons a (vals_fst b)
theorem each_zip {X : Cx} {pins : List (Addr × Obj)} {σ : L2.St} {G H : Hp} {s : Shared} (sg : Same G H) (I : Inv X pins σ H s) : ∀ {vs : List V} {us : List Value} {ds : List D}, Vals vs us → IsAll X.K G vs ds →
    PySem.W.EachIs (fun (v : Value) (p : V × D) => L2.RelV p.1 v) us (vs.zip ds) ∧ PySem.W.EachIs (fun (v : Value) (p : V × D) => ∃ as, Reads s.heap v p.2 as) us (vs.zip ds)
  | [], _, [], .nil, _ => ⟨.nil, .nil⟩
  | v :: vs, _, d :: ds, .cons r rr, .cons a b => by
    obtain ⟨h1, h2⟩ := each_zip sg I rr b
    exact ⟨.cons r h1, .cons (Dp.reads I d v _ (Is.mono sg _ _ a).dp r) h2⟩
theorem sortOk_data {ds : List D} (h : sortOk ds = true) : PySem.W.AllAlike ds ∧ PySem.W.Sortable ds ∧ ∀ d ∈ ds, d.depth ≤ 64 := by
  unfold sortOk at h
  rw [Bool.and_eq_true, Bool.or_eq_true] at h
  have h0 := ordAll_ok h.1
  refine ⟨fun x hx y hy => (ordOk_ne (h0 x hx y hy)).1, ?_, fun d hd => (ordOk_ne (h0 d hd d hd)).2.2⟩
  rcases h.2 with h1 | h1
  · refine .inl fun d hd => ?_
    have q := List.all_eq_true.mp h1 d hd
    cases d with
    | tuple xs =>
      cases xs with
      | nil => cases q
      | cons x r => exact ⟨x, r, rfl⟩
    | _ => cases q
  · refine .inr fun d hd => ⟨(ordOk_ne (h0 d hd d hd)).2.1, fun xs e => ?_⟩
    have q := List.all_eq_true.mp h1 d hd
    rw [e] at q; cases q
theorem sort_seq {pins : List (Addr × Obj)} {s : Shared} {σ : L2.St} {G H : Hp} {v : Value} {l : Addr} {vs : List V} {us : List Value} {ds : List D} {Q : VK} (hu : X.A.units + 67 < cLine) (sg : Same G H) (I : Inv X pins σ H s) (rv : Vals vs us) (ia : IsAll X.K G vs ds) (hl : ds.length ≤ sizeLine) (ok : sortOk ds = true)
    (q : ∀ p ws, H p = none → IsAll X.K G ws (sortD ds) → (sortD ds).length ≤ sizeLine → Q (.ref p) (upd H p (.lst ws))) (isl : s.heap.IsList l us.toArray) :
    wpAny (model X.prog X.w) X.A (call (.builtin "sorted") [.ref l]) (EP X pins σ Q) X.xe s := by
  obtain ⟨e1, e2⟩ := each_zip sg I rv ia
  obtain ⟨a1, a2, a3⟩ := sortOk_data ok
  have em : (vs.zip ds).map (·.2) = ds := zip_snd ia.len
  have el : (vs.zip ds).length = ds.length := by rw [List.length_zip, ia.len, Nat.min_self]
  refine PySem.W.sorted_data (enc := fun p : V × D => p.2) isl e1 e2 (by rw [em]; exact a1) (by rw [em]; exact a2) (by rw [el]; exact hl) (fun p hp => ?_) fun out ho eo => ?_
  · have : p.2 ∈ ds := by rw [← em]; exact List.mem_map_of_mem hp
    have := a3 _ this
    omega
  · obtain ⟨ep, he'⟩ := PyProof.Rows.sortedAll_at s.heap us out.toArray
    generalize hps : (vs.zip ds).mergeSort (PySem.W.dataLe false fun p : V × D => p.2) = ps at eo
    have perm : ps.Perm (vs.zip ds) := by rw [← hps]; exact List.mergeSort_perm _ _
    have e2' : ps.map (·.2) = sortD ds := by
      rw [← hps]
      have := PySem.W.sort_maps (r := PySem.W.dataLe false fun p : V × D => p.2) (s := PySem.W.dataLe false id) (fun p : V × D => p.2) (l := vs.zip ds) (fun a _ b _ => rfl)
      rw [this, em]; rfl
    have ias : IsAll X.K G (ps.map (·.1)) (sortD ds) := by
      rw [← e2']
      exact isAll_pairs (vs := vs) (ds := ds) fun p hp => ia.of_mem p (perm.mem_iff.mp hp)
    have hls : (sortD ds).length ≤ sizeLine := by
      rw [← e2', List.length_map, perm.length_eq, el]; exact hl
    have vv := vals_fst eo
    refine ⟨.ref _, upd H (s.heap.objs.size + 1) (.lst (ps.map (·.1))), I.laid (t' := s.toks) (fun _ _ => PyProof.Rows.sortedAll_old) (Nat.le_succ _) ⟨by rw [ias.len]; exact hls, out, ep, vv, he'⟩, rfl, q _ _ (I.hok.fresh (Nat.le_succ _)) ias hls⟩
theorem cn_sorted (hu : X.A.units + 67 < cLine) : CallN X (.builtin "sorted") dSorted := by
  intro pins s σ H vs us Q I rv ⟨G, ds, es, sg, vw, hz, q⟩
  unfold dSorted at hz
  split at hz
  · split at hz
    · cases hz
      obtain ⟨v, rfl, h⟩ := one_of vw
      obtain ⟨a, ws, rfl, h1, h2, h3⟩ := h.seqL sg
      obtain ⟨its, r, pl, _⟩ := I.list h1
      rw [Vals.ref1 rv]
      exact sort_seq (v := .ref a) hu sg I r h2 h3 (by assumption) q pl.isList
    · cases hz
  · cases hz
theorem nuMin3_int (i j k : Int) : nuMin3 (.int i) (.int j) (.int k) = some (.int (if k < (if j < i then j else i) then k else (if j < i then j else i))) := by
  simp only [nuMin3, nuMin2, nuLt, nuCB, Option.map_some, Option.bind_some]
  by_cases h : j < i
  · simp only [h, decide_true, if_true]
    by_cases h' : k < j <;> simp [h']
  · simp only [h, decide_false, Bool.false_eq_true, if_false]
    by_cases h' : k < i <;> simp [h']
theorem nuMax3_int (i j k : Int) : nuMax3 (.int i) (.int j) (.int k) = some (.int (if k > (if j > i then j else i) then k else (if j > i then j else i))) := by
  simp only [nuMax3, nuMax2, nuLt, nuCB, Option.map_some, Option.bind_some, gt_iff_lt]
  by_cases h : i < j
  · simp only [h, decide_true, if_true]
    by_cases h' : j < k <;> simp [h']
  · simp only [h, decide_false, Bool.false_eq_true, if_false]
    by_cases h' : i < k <;> simp [h']
/-! ### min, max -/
theorem minD_mem {x : D} : ∀ {xs : List D}, PySem.W.minD x xs ∈ x :: xs := by
  intro xs
  unfold PySem.W.minD
  induction xs generalizing x with
  | nil => exact List.mem_cons_self
  | cons y ys ih =>
    rw [List.foldl_cons]
    split
    · exact List.mem_cons_of_mem _ ih
    · rcases List.mem_cons.mp (ih (x := x)) with h | h
      · rw [h]; exact List.mem_cons_self
      · exact List.mem_cons_of_mem _ (List.mem_cons_of_mem _ h)
theorem maxD_mem {x : D} : ∀ {xs : List D}, PySem.W.maxD x xs ∈ x :: xs := by
  intro xs
  unfold PySem.W.maxD
  induction xs generalizing x with
  | nil => exact List.mem_cons_self
  | cons y ys ih =>
    rw [List.foldl_cons]
    split
    · exact List.mem_cons_of_mem _ ih
    · rcases List.mem_cons.mp (ih (x := x)) with h | h
      · rw [h]; exact List.mem_cons_self
      · exact List.mem_cons_of_mem _ (List.mem_cons_of_mem _ h)
theorem ordAll_data {ds : List D} (h : ordAll ds = true) : PySem.W.AlikeAll ds ∧ PyData.depthAll ds ≤ 64 := by
  have h0 := ordAll_ok h
  exact ⟨⟨fun x hx y hy => (ordOk_ne (h0 x hx y hy)).1, fun x hx => (ordOk_ne (h0 x hx x hx)).2.1⟩, depthAll_le fun x hx => (ordOk_ne (h0 x hx x hx)).2.2⟩
/-- the item that reads as m is the one that stands for m -/
theorem pick_at {pins : List (Addr × Obj)} {s : Shared} {σ : L2.St} {G H : Hp} {vs : List V} {us : List Value} {ds : List D} {i : Nat} {v : Value} {m : D} {h' : Heap} {bs : List Addr} (sg : Same G H) (I : Inv X pins σ H s) (rv : Vals vs us) (ia : IsAll X.K G vs ds) (al : PySem.W.AlikeAll ds) (hm : m ∈ ds)
    (hv : us[i]? = some v) (r : Reads h' v m bs) (k : ∀ b o, s.heap.get? b = some o → h'.get? b = some o) : ∃ x, L2.RelV x v ∧ Is X.K G x m := by
  have hi : i < vs.length := by rw [rv.length]; exact (List.getElem?_eq_some_iff.mp hv).1
  have hx : vs[i]? = some vs[i] := List.getElem?_eq_getElem hi
  obtain ⟨u, h1, h2⟩ := rv.get hx
  rw [hv] at h1; cases h1
  obtain ⟨d, h3, h4⟩ := ia.getV hx
  obtain ⟨as, r2⟩ := Dp.reads I d _ v (Is.mono sg _ _ h4).dp h2
  have hd : d ∈ ds := List.mem_of_getElem? h3
  have e : d = m := PySem.W.alike_unique d m v as bs (al.1 d hd m hm) (PySem.W.reads_keeps k r2) r
  rw [← e]
  exact ⟨_, h2, h4⟩
def dMin : List D → Option D
  | [.list (x :: xs)] => if ordAll (x :: xs) then some (PySem.W.minD x xs) else none
  | [.tuple (x :: xs)] => if ordAll (x :: xs) then some (PySem.W.minD x xs) else none
  | [.int i, .int j] => some (.int (if j < i then j else i))
  | [.int i, .int j, .int k] => some (.int (if k < (if j < i then j else i) then k else (if j < i then j else i)))
  | _ => none
def dMax : List D → Option D
  | [.list (x :: xs)] => if ordAll (x :: xs) then some (PySem.W.maxD x xs) else none
  | [.tuple (x :: xs)] => if ordAll (x :: xs) then some (PySem.W.maxD x xs) else none
  | [.int i, .int j] => some (.int (if j > i then j else i))
  | [.int i, .int j, .int k] => some (.int (if k > (if j > i then j else i) then k else (if j > i then j else i)))
  | _ => none
theorem readsAll_of {pins : List (Addr × Obj)} {s : Shared} {σ : L2.St} {G H : Hp} {vs : List V} {us : List Value} {ds : List D} (sg : Same G H) (I : Inv X pins σ H s) (rv : Vals vs us) (ia : IsAll X.K G vs ds) : ∃ as, ReadsAll s.heap us ds as :=
  Dp.readsAll I ds vs us (IsAll.mono sg _ _ ia).dp rv
theorem cd_min (hc : X.calm = true) (hu : X.A.units + 66 < cLine) : CallD X (.builtin "min") dMin := by
  intro pins s σ H vs us Q I rv ⟨G, ds, dz, sg, vw, hz, q⟩
  unfold dMin at hz
  split at hz
  · rename_i x xs
    split at hz
    · rename_i ok
      cases hz
      obtain ⟨a1, a2⟩ := ordAll_data ok
      obtain ⟨v, rfl, h⟩ := one_of vw
      obtain ⟨a, ws, rfl, h1, h2, h3⟩ := h.seqL sg
      obtain ⟨its, r, pl, _⟩ := I.list h1
      obtain ⟨as, ra⟩ := readsAll_of sg I r h2
      rw [Vals.ref1 rv]
      refine PySem.W.min_list_data (I.ok.hd hc) pl.isList (by simpa using ra) a1 (by omega) fun i v h' tk bs hv rd k => ?_
      obtain ⟨y, ry, iy⟩ := pick_at sg I r h2 a1 minD_mem (by simpa using hv) rd k
      exact ⟨y, H, I.kept k, ry, q y G H .refl iy⟩
    · cases hz
  · rename_i x xs
    split at hz
    · rename_i ok
      cases hz
      obtain ⟨a1, a2⟩ := ordAll_data ok
      obtain ⟨v, rfl, h⟩ := one_of vw
      obtain ⟨a, ws, rfl, h1, h2, h3⟩ := h.seqT sg
      obtain ⟨its, r, pl, _⟩ := I.tuple h1
      obtain ⟨as, ra⟩ := readsAll_of sg I r h2
      rw [Vals.ref1 rv]
      refine PySem.W.min_tuple_data (I.ok.hd hc) (show s.heap.IsTuple a its.toArray from pl) (by simpa using ra) a1 (by omega) fun i v h' tk bs hv rd k => ?_
      obtain ⟨y, ry, iy⟩ := pick_at sg I r h2 a1 minD_mem (by simpa using hv) rd k
      exact ⟨y, H, I.kept k, ry, q y G H .refl iy⟩
    · cases hz
  · cases hz
    obtain ⟨v, w, rfl, h1, h2⟩ := two_of vw
    have e1 := h1.int; have e2 := h2.int; subst e1; subst e2
    exact call_min2 hc pins s σ H _ us Q I rv ⟨_, _, rfl, q _ G H .refl (.int _)⟩
  · cases hz
    obtain ⟨v, w, u, rfl, h1, h2, h3⟩ := three_of vw
    have e1 := h1.int; have e2 := h2.int; have e3 := h3.int; subst e1; subst e2; subst e3
    rename_i i j k
    refine call_min3Nu hc pins s σ H _ us Q I rv ⟨_, _, _, .int (if k < (if j < i then j else i) then k else (if j < i then j else i)), rfl, ?_, q _ G H .refl (.int _)⟩
    exact nuMin3_int i j k
  · cases hz
theorem cd_max (hc : X.calm = true) (hu : X.A.units + 66 < cLine) : CallD X (.builtin "max") dMax := by
  intro pins s σ H vs us Q I rv ⟨G, ds, dz, sg, vw, hz, q⟩
  unfold dMax at hz
  split at hz
  · rename_i x xs
    split at hz
    · rename_i ok
      cases hz
      obtain ⟨a1, a2⟩ := ordAll_data ok
      obtain ⟨v, rfl, h⟩ := one_of vw
      obtain ⟨a, ws, rfl, h1, h2, h3⟩ := h.seqL sg
      obtain ⟨its, r, pl, _⟩ := I.list h1
      obtain ⟨as, ra⟩ := readsAll_of sg I r h2
      rw [Vals.ref1 rv]
      refine PySem.W.max_list_data (I.ok.hd hc) pl.isList (by simpa using ra) a1 (by omega) fun i v h' tk bs hv rd k => ?_
      obtain ⟨y, ry, iy⟩ := pick_at sg I r h2 a1 maxD_mem (by simpa using hv) rd k
      exact ⟨y, H, I.kept k, ry, q y G H .refl iy⟩
    · cases hz
  · rename_i x xs
    split at hz
    · rename_i ok
      cases hz
      obtain ⟨a1, a2⟩ := ordAll_data ok
      obtain ⟨v, rfl, h⟩ := one_of vw
      obtain ⟨a, ws, rfl, h1, h2, h3⟩ := h.seqT sg
      obtain ⟨its, r, pl, _⟩ := I.tuple h1
      obtain ⟨as, ra⟩ := readsAll_of sg I r h2
      rw [Vals.ref1 rv]
      refine PySem.W.max_tuple_data (I.ok.hd hc) (show s.heap.IsTuple a its.toArray from pl) (by simpa using ra) a1 (by omega) fun i v h' tk bs hv rd k => ?_
      obtain ⟨y, ry, iy⟩ := pick_at sg I r h2 a1 maxD_mem (by simpa using hv) rd k
      exact ⟨y, H, I.kept k, ry, q y G H .refl iy⟩
    · cases hz
  · cases hz
    obtain ⟨v, w, rfl, h1, h2⟩ := two_of vw
    have e1 := h1.int; have e2 := h2.int; subst e1; subst e2
    exact call_max2 hc pins s σ H _ us Q I rv ⟨_, _, rfl, q _ G H .refl (.int _)⟩
  · cases hz
    obtain ⟨v, w, u, rfl, h1, h2, h3⟩ := three_of vw
    have e1 := h1.int; have e2 := h2.int; have e3 := h3.int; subst e1; subst e2; subst e3
    rename_i i j k
    refine call_max3Nu hc pins s σ H _ us Q I rv ⟨_, _, _, .int (if k > (if j > i then j else i) then k else (if j > i then j else i)), rfl, ?_, q _ G H .refl (.int _)⟩
    exact nuMax3_int i j k
  · cases hz
/-! ### isinstance -/
def isaD : String → D → Option Bool
  | "int", d => some d.isInt
  | "bool", d => some d.isBool
  | "str", d => some d.isStr
  | "tuple", d => some d.isTuple
  | "list", d => some d.isList
  | "dict", d => some d.isDict
  | _, _ => none
def rIsa (K : PySem.W.Frag) (T : String) : List V → Hp → VK → Prop := fun vs H Q => ∃ (G : Hp) (x : V) (d : D) (b : Bool), vs = [x, .ty T] ∧ Same G H ∧ View K G H x d ∧ isaD T d = some b ∧ Q (.bl b) H
theorem call_isa (T : String) : CallR X (.builtin "isinstance") (rIsa X.K T) := by
  intro pins s σ H vs us Q I rv ⟨G, x, d, b, e, sg, vx, hb, q⟩
  subst e
  obtain ⟨u1, u2, rfl, r1, r2⟩ := vals2 rv
  cases r2
  obtain ⟨as, rd⟩ := vx.reads sg I r1
  unfold isaD at hb
  split at hb
  · cases hb; exact PySem.W.isinstance_int_data rd fun tk _ => ⟨.bl _, H, I.tok _, rfl, q⟩
  · cases hb; exact PySem.W.isinstance_bool_data rd fun tk _ => ⟨.bl _, H, I.tok _, rfl, q⟩
  · cases hb; exact PySem.W.isinstance_str_data rd fun tk _ => ⟨.bl _, H, I.tok _, rfl, q⟩
  · cases hb; exact PySem.W.isinstance_tuple_data rd fun tk _ => ⟨.bl _, H, I.tok _, rfl, q⟩
  · cases hb; exact PySem.W.isinstance_list_data rd fun tk _ => ⟨.bl _, H, I.tok _, rfl, q⟩
  · cases hb; exact PySem.W.isinstance_dict_data rd fun tk _ => ⟨.bl _, H, I.tok _, rfl, q⟩
  · cases hb
def eIsa (T : String) (f : E) : E := fun ρ => (f ρ).bind fun p => (look p.2 p.1).bind fun d => (isaD T d).bind fun b => some (.fz (.bool b), p.2)
theorem den_isa {K : PySem.W.Frag} {σ : L2.St} {H : Hp} {Q : VK} {f : E} {T : String} : den K (eIsa T f) σ H Q → tCB (rIsa K T) (tCons (den K f) (tCons (tC (.ty T)) tNil)) σ H Q := by
  rintro ⟨c, G, ρ, o, ρ', rfl, R, hf, q⟩
  unfold eIsa at hf
  obtain ⟨⟨o1, ρ1⟩, h1, hf⟩ := Option.bind_eq_some_iff.mp hf
  obtain ⟨d, h2, hf⟩ := Option.bind_eq_some_iff.mp hf
  obtain ⟨b, h3, hf⟩ := Option.bind_eq_some_iff.mp hf
  cases hf
  refine ⟨c, G, ρ, o1, ρ1, rfl, R, h1, fun v G1 H1 s1 R1 k1 => ?_⟩
  exact ⟨G1, v, d, b, rfl, R1.gh, R1.view k1 h2, h3, q _ G1 H1 s1 R1 (.bl b)⟩
theorem pd_isa {e : Expr} {f : E} {T : String} {x : Str} {p p2 pos : Pos} (hg : Gl X "isinstance") (hm : X.mg "isinstance" = none) (ht : PE X (.Name x p2) (tC (.ty T))) (h : PD X e f) (hv : bootBuiltins "isinstance" = some (.builtin "isinstance") := by decide +kernel)
    (he : starEach [e, .Name x p2] X.env = (false, eval e X.env) :: starEach [.Name x p2] X.env := by rfl) (he2 : starEach [.Name x p2] X.env = (false, eval (.Name x p2) X.env) :: starEach [] X.env := by rfl) : PD X (.Call (.Name "isinstance" p) [e, .Name x p2] [] pos) (eIsa T f) :=
  ⟨PEimp (pe_callB (call_isa T) hg hm hv (pa_cons h.pe (pa_cons ht pa_nil he2) he) (by decide) (by decide) he (by rw [he2]; rfl)) fun _ _ _ => den_isa⟩
end
end L3
set_option Elab.async false
set_option linter.all false
set_option maxRecDepth 100000
set_option maxHeartbeats 4000000
namespace L3
open PySem PySem.Spec PyProof.Rows L2
/-! ### statements -/
inductive Fl where
  | nx | bk | ct
  | rt (d : D)
  | ro (ds : List D)
abbrev S := Rho → Option (Fl × Rho)
def SPost (c : Fix) (G : Hp) (ρ' : Rho) (De : Ends) : Fl → Prop
  | .nx => ∀ G' σ' H', Same G G' → Rep c G' ρ' σ' H' → De.nx σ' H'
  | .bk => ∀ G' σ' H', Same G G' → Rep c G' ρ' σ' H' → De.bk σ' H'
  | .ct => ∀ G' σ' H', Same G G' → Rep c G' ρ' σ' H' → De.ct σ' H'
  | .rt d => ∀ v G' σ' H', Same G G' → Rep c G' ρ' σ' H' → Is c.K G' v d → De.rt v H'
  | .ro ds => ∀ p G' σ' H', Same G G' → Rep c G' ρ' σ' H' → New c G' ρ' σ' H' p (.l ds) → De.rt (.ref p) H'
def denS (K : PySem.W.Frag) (f : S) : TS := fun De σ H => ∃ (c : Fix) (G : Hp) (ρ : Rho) (r : Fl) (ρ' : Rho), c.K = K ∧ Rep c G ρ σ H ∧ f ρ = some (r, ρ') ∧ SPost c G ρ' De r
structure PDS (X : Cx) (st : Stmt) (f : S) : Prop where
  ps : PS X st (denS X.K f)
structure PDSs (X : Cx) (sts : List Stmt) (f : S) : Prop where
  pss : PSs X sts (denS X.K f)
theorem PSimp {X : Cx} {e : Stmt} {t t' : TS} (h : PS X e t) (i : ∀ D σ H, t' D σ H → t D σ H) : PS X e t' := ⟨fun pins s σ H D I hw => h.run pins s σ H D I (i D σ H hw)⟩
theorem PSsimp {X : Cx} {e : List Stmt} {t t' : TS} (h : PSs X e t) (i : ∀ D σ H, t' D σ H → t D σ H) : PSs X e t' := ⟨fun pins s σ H D I hw => h.run pins s σ H D I (i D σ H hw)⟩
section
variable {X : Cx} {c : Fix} {K : PySem.W.Frag} {G G' H H' : Hp} {ρ ρ' : Rho} {σ : L2.St} {De : Ends} {v : V} {d : D}
theorem SPost.up {r : Fl} (s : Same G G') (h : SPost c G ρ' De r) : SPost c G' ρ' De r := by
  cases r with
  | nx => exact fun G1 σ1 H1 s1 R1 => h G1 σ1 H1 (s.trans s1) R1
  | bk => exact fun G1 σ1 H1 s1 R1 => h G1 σ1 H1 (s.trans s1) R1
  | ct => exact fun G1 σ1 H1 s1 R1 => h G1 σ1 H1 (s.trans s1) R1
  | rt d => exact fun v G1 σ1 H1 s1 R1 i1 => h v G1 σ1 H1 (s.trans s1) R1 i1
  | ro ds => exact fun p G1 σ1 H1 s1 R1 i1 => h p G1 σ1 H1 (s.trans s1) R1 i1
/-! blocks -/
def sNil : S := fun ρ => some (.nx, ρ)
def sSeq (s t : S) : S := fun ρ => (s ρ).bind fun p => match p.1 with
  | .nx => t p.2
  | r => some (r, p.2)
theorem denS_nil : denS K sNil De σ H → tNext De σ H := by
  rintro ⟨c, G, ρ, r, ρ', rfl, R, hf, q⟩
  cases hf
  exact q G σ H (Same.refl _) R
theorem denS_seq {s t : S} : denS K (sSeq s t) De σ H → tSeq (denS K s) (denS K t) De σ H := by
  rintro ⟨c, G, ρ, r, ρ', rfl, R, hf, q⟩
  unfold sSeq at hf
  obtain ⟨⟨r1, ρ1⟩, h1, hf⟩ := Option.bind_eq_some_iff.mp hf
  refine ⟨c, G, ρ, r1, ρ1, rfl, R, h1, ?_⟩
  cases r1 with
  | nx => exact fun G1 σ1 H1 s1 R1 => ⟨c, G1, ρ1, r, ρ', rfl, R1, hf, q.up s1⟩
  | bk => cases hf; exact q
  | ct => cases hf; exact q
  | rt d => cases hf; exact q
  | ro ds => cases hf; exact q
theorem pdss_nil : PDSs X [] sNil := ⟨PSsimp pss_nil fun _ _ _ => denS_nil⟩
theorem pdss_cons {st : Stmt} {rest : List Stmt} {s t : S} (h : PDS X st s) (h' : PDSs X rest t) : PDSs X (st :: rest) (sSeq s t) := ⟨PSsimp (pss_cons h.ps h'.pss) fun _ _ _ => denS_seq⟩
theorem pdss_one {st : Stmt} {s : S} (h : PDS X st s) : PDSs X [st] s := ⟨pss_one h.ps⟩
def sBreak : S := fun ρ => some (.bk, ρ)
def sCont : S := fun ρ => some (.ct, ρ)
def sBad : S := fun _ => none
theorem pds_pass {pos : Pos} : PDS X (.Pass pos) sNil := ⟨PSimp ps_pass fun _ _ _ => denS_nil⟩
theorem pds_break {pos : Pos} : PDS X (.Break pos) sBreak := ⟨PSimp ps_break fun De σ H => by
  rintro ⟨c, G, ρ, r, ρ', eK, R, hf, q⟩
  cases hf
  exact q G σ H (Same.refl _) R⟩
theorem pds_cont {pos : Pos} : PDS X (.Continue pos) sCont := ⟨PSimp ps_continue fun De σ H => by
  rintro ⟨c, G, ρ, r, ρ', eK, R, hf, q⟩
  cases hf
  exact q G σ H (Same.refl _) R⟩
/-- a statement of which nothing is said -/
theorem pds_bad {st : Stmt} : PDS X st sBad := ⟨PSimp ps_never fun De σ H => by
  rintro ⟨c, G, ρ, r, ρ', eK, R, hf, q⟩
  cases hf⟩
def sIf (t : B) (a b : S) : S := fun ρ => (t ρ).bind fun p => if p.1 = true then a p.2 else b p.2
theorem denS_if {t : B} {a b : S} : denS K (sIf t a b) De σ H → tIfS (denB K t) (denS K a) (denS K b) De σ H := by
  rintro ⟨c, G, ρ, r, ρ', rfl, R, hf, q⟩
  unfold sIf at hf
  obtain ⟨⟨k, ρ1⟩, h1, hf⟩ := Option.bind_eq_some_iff.mp hf
  refine ⟨c, G, ρ, k, ρ1, rfl, R, h1, fun G1 H1 s1 R1 => ?_⟩
  cases k with
  | true => exact ⟨c, G1, ρ1, r, ρ', rfl, R1, hf, q.up s1⟩
  | false => exact ⟨c, G1, ρ1, r, ρ', rfl, R1, hf, q.up s1⟩
theorem pds_if {e : Expr} {a b : List Stmt} {pos : Pos} {t : B} {s u : S} (hc : PDB X e t) (ha : PDSs X a s) (hb : PDSs X b u) : PDS X (.If e a b pos) (sIf t s u) := ⟨PSimp (ps_if hc.pt ha.pss hb.pss) fun _ _ _ => denS_if⟩
/-! return -/
def sRet (f : E) : S := fun ρ => (f ρ).bind fun p => match p.1 with
  | .fz d => some (.rt d, p.2)
  | .sl i => match p.2[i]? with
    | some (some (.own (.l ds))) => some (.rt (.list ds), p.2.set i none)
    | _ => none
theorem Rep.freezeSlot {i : Nat} {C : Cel} (R : Rep c G ρ σ H) (e : ρ[i]? = some (some (.own C))) (hs : σ[i]? = some (some v)) : ∃ p, v = .ref p ∧ Rep c G (ρ.set i none) σ H ∧ New c G (ρ.set i none) σ H p C := by
  obtain ⟨w, h1, p, vs, rfl, h3, h4, h6, h7, h8⟩ := R.loc i _ e
  rw [hs] at h1; cases h1
  refine ⟨p, rfl, R.drop, ⟨⟨vs, h3, h4⟩, h6, h7, h8, fun j l ej hc q => ?_⟩⟩
  rcases get_set ej with ⟨_, z⟩ | ⟨ne, ej⟩
  · cases z
  · exact ne (R.sep j i l _ _ ej e hc rfl q hs)
theorem denS_ret {f : E} : denS K (sRet f) De σ H → tRet (den K f) De σ H := by
  rintro ⟨c, G, ρ, r, ρ', rfl, R, hf, q⟩
  unfold sRet at hf
  obtain ⟨⟨o, ρ1⟩, h1, hf⟩ := Option.bind_eq_some_iff.mp hf
  refine ⟨c, G, ρ, o, ρ1, rfl, R, h1, fun v G1 H1 s1 R1 k1 => ?_⟩
  cases o with
  | fz d => cases hf; exact q v G1 σ H1 s1 R1 k1
  | sl i =>
    dsimp only at hf
    split at hf
    · rename_i ds e
      cases hf
      obtain ⟨p, rfl, R2, n2⟩ := R1.freezeSlot e k1
      obtain ⟨G3, s3, R3, i3⟩ := R2.freeze n2
      exact q _ G3 σ H1 (s1.trans s3) R3 i3
    · cases hf
theorem pds_ret {e : Expr} {f : E} {pos : Pos} (h : PD X e f) : PDS X (.Return (some e) pos) (sRet f) := ⟨PSimp (ps_ret h.pe) fun _ _ _ => denS_ret⟩
/-- return of a new list, handed out as such -/
def sRetN (f : N) : S := fun ρ => (f ρ).bind fun p => some (.ro p.1, p.2)
theorem denS_retN {f : N} : denS K (sRetN f) De σ H → tRet (denN K f) De σ H := by
  rintro ⟨c, G, ρ, r, ρ', rfl, R, hf, q⟩
  unfold sRetN at hf
  obtain ⟨⟨ds, ρ1⟩, h1, hf⟩ := Option.bind_eq_some_iff.mp hf
  cases hf
  exact ⟨c, G, ρ, ds, ρ1, rfl, R, h1, fun p G1 H1 s1 R1 n1 => q p G1 σ H1 s1 R1 n1⟩
theorem pds_retN {e : Expr} {f : N} {pos : Pos} (h : PDN X e f) : PDS X (.Return (some e) pos) (sRetN f) := ⟨PSimp (ps_ret h.pe) fun _ _ _ => denS_retN⟩
def sRet0 : S := fun ρ => some (.rt .none, ρ)
theorem pds_ret0 {pos : Pos} : PDS X (.Return none pos) sRet0 := ⟨PSimp ps_retN fun De σ H => by
  rintro ⟨c, G, ρ, r, ρ', eK, R, hf, q⟩
  cases hf
  exact q .non G σ H (Same.refl _) R .non⟩
/-- a list of this def's own, moved out of its slot -/
def nMove (i : Nat) : N := fun ρ => match ρ[i]? with
  | some (some (.own (.l ds))) => some (ds, ρ.set i none)
  | _ => none
theorem denN_move {i : Nat} {Q : VK} : denN K (nMove i) σ H Q → tVar i σ H Q := by
  rintro ⟨c, G, ρ, r, ρ', rfl, R, hf, q⟩
  unfold nMove at hf
  split at hf
  · rename_i ds e
    cases hf
    obtain ⟨v, h1, _⟩ := R.loc i _ e
    obtain ⟨p, rfl, R2, n2⟩ := R.freezeSlot e h1
    exact ⟨.ref p, h1, q p G H (Same.refl _) R2 n2⟩
  · cases hf
theorem pdn_move {e : Expr} (i : Nat) (h : PE X e (tVar i)) : PDN X e (nMove i) := ⟨PEimp h fun _ _ _ => denN_move⟩

/-! ### what an assignment stores -/
abbrev L := Rho → Option (Loc × Rho)
def LocNew (c : Fix) (G : Hp) (ρ : Rho) (σ : L2.St) (H : Hp) (v : V) : Loc → Prop
  | .val d => Is c.K G v d
  | .own C => ∃ p, v = .ref p ∧ New c G ρ σ H p C
  | .io _ => False
def denL (K : PySem.W.Frag) (f : L) : TE := fun σ H Q => ∃ (c : Fix) (G : Hp) (ρ : Rho) (l : Loc) (ρ' : Rho), c.K = K ∧ Rep c G ρ σ H ∧ f ρ = some (l, ρ') ∧
  ∀ v G' H', Same G G' → Rep c G' ρ' σ H' → LocNew c G' ρ' σ H' v l → Q v H'
structure PDL (X : Cx) (e : Expr) (f : L) : Prop where
  pe : PE X e (denL X.K f)
def lE (f : E) : L := fun ρ => (f ρ).bind fun p => match p.1 with
  | .fz d => some (.val d, p.2)
  | .sl _ => none
def lN (f : N) : L := fun ρ => (f ρ).bind fun p => some (.own (.l p.1), p.2)
theorem denL_e {f : E} {Q : VK} : denL K (lE f) σ H Q → den K f σ H Q := by
  rintro ⟨c, G, ρ, r, ρ', rfl, R, hf, q⟩
  unfold lE at hf
  obtain ⟨⟨o, ρ1⟩, h1, hf⟩ := Option.bind_eq_some_iff.mp hf
  refine ⟨c, G, ρ, o, ρ1, rfl, R, h1, fun v G1 H1 s1 R1 k1 => ?_⟩
  cases o with
  | fz d => cases hf; exact q v G1 H1 s1 R1 k1
  | sl i => cases hf
theorem denL_n {f : N} {Q : VK} : denL K (lN f) σ H Q → denN K f σ H Q := by
  rintro ⟨c, G, ρ, r, ρ', rfl, R, hf, q⟩
  unfold lN at hf
  obtain ⟨⟨ds, ρ1⟩, h1, hf⟩ := Option.bind_eq_some_iff.mp hf
  cases hf
  exact ⟨c, G, ρ, ds, ρ1, rfl, R, h1, fun p G1 H1 s1 R1 n1 => q _ G1 H1 s1 R1 ⟨p, rfl, n1⟩⟩
theorem PD.l {e : Expr} {f : E} (h : PD X e f) : PDL X e (lE f) := ⟨PEimp h.pe fun _ _ _ => denL_e⟩
theorem PDN.l {e : Expr} {f : N} (h : PDN X e f) : PDL X e (lN f) := ⟨PEimp h.pe fun _ _ _ => denL_n⟩
def isIo (ρ : Rho) (i : Nat) : Bool := match ρ[i]? with
  | some (some (.io _)) => true
  | _ => false
def sSet (i : Nat) (f : L) : S := fun ρ => (f ρ).bind fun p => if isIo p.2 i = true then none else some (.nx, p.2.set i (some p.1))
theorem Rep.store {i : Nat} {l : Loc} (R : Rep c G ρ σ H) (h : LocNew c G ρ σ H v l) : Rep c G (ρ.set i (some l)) (σ.set i (some v)) H := by
  cases l with
  | val d => exact R.setVal h
  | own C => obtain ⟨p, rfl, n⟩ := h; exact R.setOwn n
  | io C => exact h.elim
theorem denS_set {i : Nat} {f : L} : denS K (sSet i f) De σ H → tAsg (denL K f) (gName i) De σ H := by
  rintro ⟨c, G, ρ, r, ρ', rfl, R, hf, q⟩
  unfold sSet at hf
  obtain ⟨⟨l, ρ1⟩, h1, hf⟩ := Option.bind_eq_some_iff.mp hf
  split at hf
  · cases hf
  · cases hf
    exact ⟨c, G, ρ, l, ρ1, rfl, R, h1, fun v G1 H1 s1 R1 n1 => q G1 _ H1 s1 (R1.store n1)⟩
theorem pds_set {i : Nat} {x : Str} {e : Expr} {f : L} {pos pos' : Pos} (hN : X.N.Nodup) (hi : X.N[i]? = some x) (hx : L2.Loc X.env.scope x) (he : PDL X e f) (hs : swapsWith e (some (.Name x pos')) pos.line X.env = pure false := by rfl)
    (hf : X.fn x = true ∨ X.env.scope.names.lookup x = some .local := by first | exact .inl rfl | exact .inr rfl | assumption) : PDS X (.Assign [.Name x pos'] e pos) (sSet i f) :=
  ⟨PSimp (ps_set hN hi hx he.pe hs hf) fun _ _ _ => denS_set⟩

/-! ### several at once -/
abbrev Ls := Rho → Option (List Loc × Rho)
def News (c : Fix) (G : Hp) (ρ : Rho) (σ : L2.St) (H : Hp) : List V → List Loc → Prop
  | [], [] => True
  | v :: vs, l :: ls => LocNew c G ρ σ H v l ∧ News c G ρ σ H vs ls ∧ (l.cell = true → ∀ p ∈ vs.zip ls, p.2.cell = true → p.1 ≠ v)
  | _, _ => False
def denLs (K : PySem.W.Frag) (f : Ls) : TA := fun σ H Q => ∃ (c : Fix) (G : Hp) (ρ : Rho) (ls : List Loc) (ρ' : Rho), c.K = K ∧ Rep c G ρ σ H ∧ f ρ = some (ls, ρ') ∧
  ∀ vs G' H', Same G G' → Rep c G' ρ' σ H' → News c G' ρ' σ H' vs ls → Q vs H'
structure PDLs (X : Cx) (es : List Expr) (f : Ls) : Prop where
  pa : PA X es (denLs X.K f)
def lsNil : Ls := fun ρ => some ([], ρ)
def lsCons (f : L) (g : Ls) : Ls := fun ρ => (f ρ).bind fun p => (g p.2).bind fun q => some (p.1 :: q.1, q.2)
theorem News.cells {c : Fix} : ∀ {vs : List V} {ls : List Loc}, News c G ρ σ H vs ls → ∀ p ∈ vs.zip ls, LocNew c G ρ σ H p.1 p.2
  | [], [], _, p, hp => by simp at hp
  | v :: vs, l :: ls, h, p, hp => by
    rcases List.mem_cons.mp (by simpa using hp) with rfl | hp
    · exact h.1
    · exact News.cells h.2.1 p hp
  | [], _ :: _, h, _, _ => h.elim
  | _ :: _, [], h, _, _ => h.elim
theorem LocNew.mono {c : Fix} {G G' H H' : Hp} {ρ ρ' : Rho} {σ : L2.St} {v : V} {l : Loc} (n : LocNew c G ρ σ H v l) (hc : l.cell = false) (s : Same G G') : LocNew c G' ρ' σ H' v l := by
  cases l with
  | val d => exact Is.mono s _ _ n
  | _ => cases hc
theorem News.unpend {p : Addr} {u : HO} : ∀ {vs : List V} {ls : List Loc}, News (c.pend p u) G ρ σ H vs ls → c.F p = none → News c G ρ σ H vs ls ∧ ∀ q ∈ vs.zip ls, q.2.cell = true → q.1 ≠ .ref p
  | [], [], _, _ => ⟨trivial, fun _ h => by simp at h⟩
  | v :: vs, l :: ls, ⟨h1, h2, h3⟩, hf => by
    obtain ⟨a, b⟩ := News.unpend h2 hf
    have key : LocNew c G ρ σ H v l ∧ (l.cell = true → v ≠ .ref p) := by
      cases l with
      | val d => exact ⟨h1, fun z => by cases z⟩
      | own C =>
        obtain ⟨q, rfl, ⟨i1, i3, i4, i5, i6⟩⟩ := h1
        have ne : q ≠ p := fun z => i5 (.inl z)
        have i4 : upd c.F p u q = none := i4
        rw [upd_ne ne] at i4
        exact ⟨⟨q, rfl, ⟨i1, i3, i4, fun z => i5 (.inr z), i6⟩⟩, fun _ z => ne (V.ref.inj z)⟩
      | io C => exact h1.elim
    refine ⟨⟨key.1, a, h3⟩, fun q hq => ?_⟩
    rcases List.mem_cons.mp (by simpa using hq) with rfl | hq
    · exact key.2
    · exact b q hq
  | [], _ :: _, h, _ => h.elim
  | _ :: _, [], h, _ => h.elim
theorem denLs_cons {f : L} {g : Ls} {Q : List V → Hp → Prop} : denLs K (lsCons f g) σ H Q → tCons (denL K f) (denLs K g) σ H Q := by
  rintro ⟨c, G, ρ, r, ρ', rfl, R, hf, q⟩
  unfold lsCons at hf
  obtain ⟨⟨l, ρ1⟩, h1, hf⟩ := Option.bind_eq_some_iff.mp hf
  obtain ⟨⟨ls, ρ2⟩, h2, hf⟩ := Option.bind_eq_some_iff.mp hf
  cases hf
  refine ⟨c, G, ρ, l, ρ1, rfl, R, h1, fun v G1 H1 s1 R1 n1 => ?_⟩
  cases l with
  | val d => exact ⟨c, G1, ρ1, ls, ρ2, rfl, R1, h2, fun vs G2 H2 s2 R2 n2 => q (v :: vs) G2 H2 (s1.trans s2) R2 ⟨Is.mono s2 _ _ n1, n2, fun z => by cases z⟩⟩
  | own C =>
    obtain ⟨p, rfl, n1⟩ := n1
    obtain ⟨u0, ha, R1'⟩ := R1.pend n1
    refine ⟨c.pend p u0, G1, ρ1, ls, ρ2, rfl, R1', h2, fun vs G2 H2 s2 R2 n2 => ?_⟩
    obtain ⟨R3, n3⟩ := Rep.unpend n1.f n1.x ha s2 R2
    obtain ⟨n4, n5⟩ := News.unpend n2 n1.f
    exact q _ G2 H2 (s1.trans s2) R3 ⟨⟨p, rfl, n3⟩, n4, fun _ => n5⟩
  | io C => exact n1.elim
theorem pdls_nil : PDLs X [] lsNil := ⟨PAimp pa_nil fun σ H Q => by
  rintro ⟨c, G, ρ, r, ρ', eK, R, hf, q⟩
  cases hf
  exact q [] G H (Same.refl _) R trivial⟩
theorem pdls_cons {e : Expr} {es : List Expr} {f : L} {g : Ls} (h : PDL X e f) (h' : PDLs X es g) (hs : starEach (e :: es) X.env = (false, eval e X.env) :: starEach es X.env := by rfl) : PDLs X (e :: es) (lsCons f g) := ⟨PAimp (pa_cons h.pe h'.pa hs) fun _ _ _ => denLs_cons⟩
def setAll : Rho → List Nat → List Loc → Rho
  | ρ, i :: is, l :: ls => setAll (ρ.set i (some l)) is ls
  | ρ, _, _ => ρ
def setAllσ : L2.St → List Nat → List V → L2.St
  | σ, i :: is, v :: vs => setAllσ (σ.set i (some v)) is vs
  | σ, _, _ => σ
theorem News.after {i : Nat} {v : V} {l : Loc} : ∀ {vs : List V} {ls : List Loc}, News c G ρ σ H vs ls → (l.cell = true → ∀ p ∈ vs.zip ls, p.2.cell = true → p.1 ≠ v) → News c G (ρ.set i (some l)) (σ.set i (some v)) H vs ls
  | [], [], _, _ => trivial
  | w :: vs, k :: ls, ⟨h1, h2, h3⟩, hd => by
    refine ⟨?_, News.after h2 (fun z p hp => hd z p (by simpa using .inr hp)), h3⟩
    cases k with
    | val d => exact h1
    | own C =>
      obtain ⟨q, rfl, ⟨i1, i3, i4, i5, i6⟩⟩ := h1
      refine ⟨q, rfl, ⟨i1, i3, i4, i5, fun j l' e hc z => ?_⟩⟩
      by_cases hj : j = i
      · have hlt : j < σ.length := by
          have z := (List.getElem?_eq_some_iff.mp z).1
          rw [List.length_set] at z; exact z
        subst hj
        rw [List.getElem?_set_self hlt] at z
        rcases get_set e with ⟨_, e⟩ | ⟨ne, _⟩
        · cases e; cases z
          exact hd hc (.ref q, .own C) (by simp) rfl rfl
        · exact ne rfl
      · rw [List.getElem?_set_ne (Ne.symm hj)] at e z
        exact i6 j l' e hc z
    | io C => exact h1.elim
  | [], _ :: _, h, _ => h.elim
  | _ :: _, [], h, _ => h.elim
theorem Rep.storeAll : ∀ {is : List Nat} {vs : List V} {ls : List Loc} {ρ : Rho} {σ : L2.St}, Rep c G ρ σ H → News c G ρ σ H vs ls → Rep c G (setAll ρ is ls) (setAllσ σ is vs) H
  | [], _, _, _, _, R, _ => by unfold setAll setAllσ; exact R
  | i :: is, [], [], _, _, R, _ => by unfold setAll setAllσ; exact R
  | i :: is, v :: vs, l :: ls, ρ, σ, R, ⟨h1, h2, h3⟩ => by
    unfold setAll setAllσ
    exact Rep.storeAll (R.store h1) (h2.after h3)
  | _, [], _ :: _, _, _, _, h => h.elim
  | _, _ :: _, [], _, _, _, h => h.elim
def sPar (is : List Nat) (f : Ls) : S := fun ρ => (f ρ).bind fun p => if is.any (isIo p.2) = true then none else some (.nx, setAll p.2 is p.1)
theorem News.len : ∀ {vs : List V} {ls : List Loc}, News c G ρ σ H vs ls → vs.length = ls.length
  | [], [], _ => rfl
  | v :: vs, l :: ls, ⟨_, h2, _⟩ => by rw [List.length_cons, List.length_cons, News.len h2]
  | [], _ :: _, h => h.elim
  | _ :: _, [], h => h.elim
theorem denS_par2 {i j : Nat} {f1 f2 : L} : denS K (sPar [i, j] (lsCons f1 (lsCons f2 lsNil))) De σ H → tPar i j (denLs K (lsCons f1 (lsCons f2 lsNil))) De σ H := by
  rintro ⟨c, G, ρ, r, ρ', rfl, R, hf, q⟩
  unfold sPar at hf
  obtain ⟨⟨ls, ρ1⟩, h1, hf⟩ := Option.bind_eq_some_iff.mp hf
  split at hf
  · cases hf
  · cases hf
    refine ⟨c, G, ρ, ls, ρ1, rfl, R, h1, fun vs G1 H1 s1 R1 n1 => ?_⟩
    have hl : ls.length = 2 := by
      unfold lsCons lsNil at h1
      obtain ⟨⟨l, ρ2⟩, h2, h1⟩ := Option.bind_eq_some_iff.mp h1
      obtain ⟨⟨l', ρ3⟩, h3, h1⟩ := Option.bind_eq_some_iff.mp h1
      obtain ⟨⟨l2, ρ4⟩, h4, h3⟩ := Option.bind_eq_some_iff.mp h3
      obtain ⟨⟨l3, ρ5⟩, h5, h3⟩ := Option.bind_eq_some_iff.mp h3
      cases h5; cases h3; cases h1; rfl
    have hv := n1.len
    match vs, hv with
    | [v, w], _ => exact ⟨v, w, rfl, q G1 _ H1 s1 (Rep.storeAll (is := [i, j]) R1 n1)⟩
    | [], z => rw [hl] at z; cases z
    | [_], z => rw [hl] at z; cases z
    | _ :: _ :: _ :: _, z => rw [hl] at z; cases z
theorem pds_par2 {i j : Nat} {x y : Str} {a b : Expr} {f1 f2 : L} {px py pt pos : Pos} {kt k2 pt2} (hc : X.calm = true) (hN : X.N.Nodup) (hi : X.N[i]? = some x) (hj : X.N[j]? = some y) (hij : i ≠ j)
    (hx : X.env.scope.names.lookup x = some .local) (hy : X.env.scope.names.lookup y = some .local) (ha : PDLs X [a, b] (lsCons f1 (lsCons f2 lsNil)))
    (hw : swappedStores [.Tuple [.Name x px, .Name y py] kt pt] (.Tuple [a, b] k2 pt2) X.env = pure (some [x, y]) := by rfl)
    (hs : swapsWithSole [.Tuple [.Name x px, .Name y py] kt pt] (.Tuple [a, b] k2 pt2) pos.line X.env = pure false := by rfl) :
    PDS X (.Assign [.Tuple [.Name x px, .Name y py] kt pt] (.Tuple [a, b] k2 pt2) pos) (sPar [i, j] (lsCons f1 (lsCons f2 lsNil))) := ⟨PSimp (ps_par hc hN hi hj hij hx hy ha.pa hw hs) fun _ _ _ => denS_par2⟩
theorem denS_par3 {i j k : Nat} {f1 f2 f3 : L} : denS K (sPar [i, j, k] (lsCons f1 (lsCons f2 (lsCons f3 lsNil)))) De σ H → tPar3 i j k (denLs K (lsCons f1 (lsCons f2 (lsCons f3 lsNil)))) De σ H := by
  rintro ⟨c, G, ρ, r, ρ', rfl, R, hf, q⟩
  unfold sPar at hf
  obtain ⟨⟨ls, ρ1⟩, h1, hf⟩ := Option.bind_eq_some_iff.mp hf
  split at hf
  · cases hf
  · cases hf
    refine ⟨c, G, ρ, ls, ρ1, rfl, R, h1, fun vs G1 H1 s1 R1 n1 => ?_⟩
    have hl : ls.length = 3 := by
      unfold lsCons lsNil at h1
      obtain ⟨⟨l, ρ2⟩, h2, h1⟩ := Option.bind_eq_some_iff.mp h1
      obtain ⟨⟨l', ρ3⟩, h3, h1⟩ := Option.bind_eq_some_iff.mp h1
      obtain ⟨⟨l2, ρ4⟩, h4, h3⟩ := Option.bind_eq_some_iff.mp h3
      obtain ⟨⟨l3, ρ5⟩, h5, h3⟩ := Option.bind_eq_some_iff.mp h3
      obtain ⟨⟨l6, ρ6⟩, h6, h5⟩ := Option.bind_eq_some_iff.mp h5
      obtain ⟨⟨l7, ρ7⟩, h7, h5⟩ := Option.bind_eq_some_iff.mp h5
      cases h7; cases h5; cases h3; cases h1; rfl
    have hv := n1.len
    match vs, hv with
    | [u, v, w], _ => exact ⟨u, v, w, rfl, q G1 _ H1 s1 (Rep.storeAll (is := [i, j, k]) R1 n1)⟩
    | [], z => rw [hl] at z; cases z
    | [_], z => rw [hl] at z; cases z
    | [_, _], z => rw [hl] at z; cases z
    | _ :: _ :: _ :: _ :: _, z => rw [hl] at z; cases z

/-! ### targets -/
abbrev T := D → Rho → Option Rho
abbrev Ts := List D → Rho → Option Rho
/-- only the slots `is` changed -/
def Chg (is : List Nat) (σ σ' : L2.St) : Prop := σ'.length = σ.length ∧ ∀ j, j ∉ is → σ'[j]? = σ[j]?
theorem Chg.refl {is : List Nat} {σ : L2.St} : Chg is σ σ := ⟨rfl, fun _ _ => rfl⟩
theorem Chg.trans {is js : List Nat} {σ σ1 σ2 : L2.St} (h : Chg is σ σ1) (h' : Chg js σ1 σ2) : Chg (is ++ js) σ σ2 := ⟨h'.1.trans h.1, fun j hj => by
  rw [List.mem_append, not_or] at hj
  rw [h'.2 j hj.2, h.2 j hj.1]⟩
def denG (K : PySem.W.Frag) (is : List Nat) (f : T) : TG := fun v σ H Q => ∃ (c : Fix) (G : Hp) (ρ : Rho) (d : D) (ρ' : Rho), c.K = K ∧ Rep c G ρ σ H ∧ Is c.K G v d ∧ f d ρ = some ρ' ∧ ∀ σ', Rep c G ρ' σ' H → Chg is σ σ' → Q σ' H
def denGs (K : PySem.W.Frag) (is : List Nat) (f : Ts) : TGs := fun vs σ H Q => ∃ (c : Fix) (G : Hp) (ρ : Rho) (ds : List D) (ρ' : Rho), c.K = K ∧ Rep c G ρ σ H ∧ IsAll c.K G vs ds ∧ f ds ρ = some ρ' ∧ ∀ σ', Rep c G ρ' σ' H → Chg is σ σ' → Q σ' H
structure PDG (X : Cx) (e : Expr) (is : List Nat) (f : T) : Prop where
  pg : PG X e (denG X.K is f)
structure PDGs (X : Cx) (es : List Expr) (is : List Nat) (f : Ts) : Prop where
  pgs : PGs X es (denGs X.K is f)
theorem PGimp {X : Cx} {e : Expr} {t t' : TG} (h : PG X e t) (i : ∀ v σ H Q, t' v σ H Q → t v σ H Q) : PG X e t' := ⟨fun pins s σ H v u Q I r hw => h.run pins s σ H v u Q I r (i v σ H Q hw)⟩
theorem PGsimp {X : Cx} {e : List Expr} {t t' : TGs} (h : PGs X e t) (i : ∀ v σ H Q, t' v σ H Q → t v σ H Q) : PGs X e t' := ⟨fun pins s σ H v u Q I r hw => h.run pins s σ H v u Q I r (i v σ H Q hw)⟩
def tN (i : Nat) : T := fun d ρ => if isIo ρ i = true then none else some (ρ.set i (some (.val d)))
def tsNil : Ts := fun ds ρ => match ds with
  | [] => some ρ
  | _ => none
def tsCons (t : T) (ts : Ts) : Ts := fun ds ρ => match ds with
  | [] => none
  | d :: ds => (t d ρ).bind fun ρ1 => ts ds ρ1
def tT (n : Nat) (ts : Ts) : T := fun d ρ => match d with
  | .tuple ds => if ds.length = n then ts ds ρ else none
  | _ => none
theorem pdg_name {i : Nat} {x : Str} {pos : Pos} (hN : X.N.Nodup) (hi : X.N[i]? = some x) (hx : L2.Loc X.env.scope x) (hf : X.fn x = true ∨ X.env.scope.names.lookup x = some .local := by first | exact .inl rfl | exact .inr rfl | assumption) : PDG X (.Name x pos) [i] (tN i) :=
  ⟨PGimp (pg_name hN hi hx hf) fun v σ H Q => by
    rintro ⟨c, G, ρ, d, ρ', eK, R, i1, hf, q⟩
    unfold tN at hf
    split at hf
    · cases hf
    · cases hf
      refine q _ (R.setVal i1) ⟨by rw [List.length_set], fun j hj => ?_⟩
      rw [List.getElem?_set_ne fun e => hj (by rw [e]; exact List.mem_singleton_self _)]⟩
theorem pdgs_nil : PDGs X [] [] tsNil := ⟨PGsimp pgs_nil fun vs σ H Q => by
    rintro ⟨c, G, ρ, ds, ρ', eK, R, i1, hf, q⟩
    cases ds with
    | nil => cases hf; cases i1; exact ⟨rfl, q σ R .refl⟩
    | cons d ds => cases hf⟩
theorem pdgs_cons {e : Expr} {es : List Expr} {is js : List Nat} {t : T} {ts : Ts} (h1 : PDG X e is t) (h2 : PDGs X es js ts) (hs : (assignEach (e :: es) X.env).map (·.2) = assign e X.env :: (assignEach es X.env).map (·.2) := by rfl) : PDGs X (e :: es) (is ++ js) (tsCons t ts) :=
  ⟨PGsimp (pgs_cons h1.pg h2.pgs hs) fun vs σ H Q => by
    rintro ⟨c, G, ρ, ds, ρ', eK, R, i1, hf, q⟩
    cases ds with
    | nil => cases hf
    | cons d ds =>
      obtain ⟨ρ1, h3, hf⟩ := Option.bind_eq_some_iff.mp hf
      cases i1 with
      | cons a b => exact ⟨_, _, rfl, c, G, ρ, d, ρ1, eK, R, a, h3, fun σ1 R1 k1 => ⟨c, G, ρ1, ds, ρ', eK, R1, b, hf, fun σ2 R2 k2 => q σ2 R2 (k1.trans k2)⟩⟩⟩
theorem pdg_tup {es : List Expr} {is : List Nat} {k n : Nat} {ts : Ts} {pos : Pos} (hc : X.calm = true) (h : PDGs X es is ts) (hn : (assignEach es X.env).length = n := by rfl) (hst : (assignEach es X.env).findIdx? (·.1) = none := by rfl) : PDG X (.Tuple es k pos) is (tT n ts) :=
  ⟨PGimp (pg_tup hc h.pgs hn hst) fun v σ H Q => by
    rintro ⟨c, G, ρ, d, ρ', eK, R, i1, hf, q⟩
    cases d with
    | tuple ds =>
      unfold tT at hf
      dsimp only at hf
      split at hf
      · cases i1 with
        | tup s l a => exact ⟨_, _, rfl, Same.sqT R.gh (eK ▸ s.sq), by rw [a.len]; assumption, c, G, ρ, ds, ρ', eK, R, a, hf, q⟩
      · cases hf
    | _ => cases hf⟩
/-- target = e, e frozen -/
def sAsg (f : E) (t : T) : S := fun ρ => (f ρ).bind fun p => match p.1 with
  | .fz d => (t d p.2).bind fun ρ' => some (.nx, ρ')
  | .sl _ => none
theorem denS_asg {is : List Nat} {f : E} {t : T} : denS K (sAsg f t) De σ H → tAsg (den K f) (denG K is t) De σ H := by
  rintro ⟨c, G, ρ, r, ρ', rfl, R, hf, q⟩
  unfold sAsg at hf
  obtain ⟨⟨o, ρ1⟩, h1, hf⟩ := Option.bind_eq_some_iff.mp hf
  refine ⟨c, G, ρ, o, ρ1, rfl, R, h1, fun v G1 H1 s1 R1 k1 => ?_⟩
  cases o with
  | fz d =>
    obtain ⟨ρ2, h2, hf⟩ := Option.bind_eq_some_iff.mp hf
    cases hf
    exact ⟨c, G1, ρ1, d, _, rfl, R1, k1, h2, fun σ' R2 _ => q G1 σ' H1 s1 R2⟩
  | sl i => cases hf
theorem pds_asg {tg e : Expr} {is : List Nat} {f : E} {t : T} {pos : Pos} (he : PD X e f) (hg : PDG X tg is t) (hs : swapsWithSole [tg] e pos.line X.env = pure false := by rfl) (hw : swappedStores [tg] e X.env = pure none := by rfl)
    (h1 : (assignEach [tg] X.env).map (·.2) = [assign tg X.env] := by rfl) : PDS X (.Assign [tg] e pos) (sAsg f t) := ⟨PSimp (ps_asg he.pe hg.pg hs hw h1) fun _ _ _ => denS_asg⟩
end
end L3
set_option Elab.async false
set_option linter.all false
set_option maxRecDepth 100000
set_option maxHeartbeats 4000000
namespace PySem
open Sem (wp)
theorem l3_enumerate_newB {v : Value} {o : Obj} {H : Heap → Prop} (B : Begins v o H) :
    Meets (Builtin.«enumerate.__new__» ⟨[.type "enumerate", v], []⟩) (fun _ R s => H s.heap ∧
      R (.ok (.ret (.ref (s.heap.push o).objs.size))) { s with heap := (s.heap.push o).push { cls := .type "enumerate", data := .fields #[.none, .bool false, .ref s.heap.objs.size, rawInt 0, .none, .none] } }) :=
  .of_wp fun prog w A R s h => by
    obtain ⟨hp, g, d, tk, os⟩ := s; obtain ⟨h1, h⟩ := h
    have hsub := sub_enumerate
    have q1 : ∀ {A' : Around} {E : Value → Shared → Prop} {Q : Value → Shared → Prop}, Q (.ref hp.objs.size) ⟨hp.push o, g, d, tk, os⟩ → wpAny (model prog w) A' (pyIter v) Q E ⟨hp, g, d, tk, os⟩ :=
      fun q => B.iter prog w _ _ ⟨hp, g, d, tk, os⟩ _ h1 q
    wp_walk using q1
    refine wpAny_stack_any fun st => wpAny_pure ?_
    split
    · rename_i c _ _ _ _ _
      cases (c == Value.type "enumerate")
      · wp_walk using q1
        exact ⟨_, rfl, h⟩
      · wp_walk using q1
        exact ⟨_, rfl, h⟩
    · wp_walk using q1
      exact ⟨_, rfl, h⟩
section
variable {prog : Program} {w : World} {A : Around} {E : Value → Shared → Prop} {s : Shared}
theorem l3_enum_begins {v : Value} {o : Obj} {H : Heap → Prop} {Q : Value → Shared → Prop} (B : Begins v o H) (h1 : H s.heap)
    (h : ∀ h', IsEnum h' (s.heap.objs.size + 1) s.heap.objs.size 0 .none → h'.get? s.heap.objs.size = some o → h'.objs.size = s.heap.objs.size + 2 →
      (∀ b o, s.heap.get? b = some o → h'.get? b = some o) → Q (.ref (s.heap.objs.size + 1)) { s with heap := h' }) :
    wpAny (model prog w) A (call (.type "enumerate") [v]) Q E s := by
  refine callType_new F.called_enumerate (by decide) (F.typeCall_enumerate_1 _) (F.newCall_enumerate_1 _) (fun obj => F.args_object_init_2 obj _) F.entry_enumerate_new
    (l3_enumerate_newB B) ⟨h1, ?_⟩
  have hz : (s.heap.push o).objs.size = s.heap.objs.size + 1 := Heap.size_push ..
  show _ ∧ _
  rw [hz]
  have he : IsEnum ((s.heap.push o).push { cls := .type "enumerate", data := .fields #[.none, .bool false, .ref s.heap.objs.size, rawInt 0, .none, .none] }) (s.heap.objs.size + 1) s.heap.objs.size 0 .none := by
    have := Heap.get?_push_size (s.heap.push o) (o := { cls := .type "enumerate", data := .fields #[.none, .bool false, .ref s.heap.objs.size, rawInt 0, .none, .none] }) rfl
    rw [hz] at this; exact this
  refine ⟨⟨_, he, rfl⟩, h _ he (Heap.get?_push_of_some _ (Heap.get?_push_size _ B.free)) (by rw [Heap.size_push, hz]) fun b o x => Heap.get?_push_of_some _ (Heap.get?_push_of_some _ x)⟩
end
end PySem
namespace L3
open PySem PySem.Spec PyProof.Rows L2
/-! ### a list or a tuple -/
def SqK (K : PySem.W.Frag) (k : Bool) (H : Hp) (a : Addr) (vs : List V) : Prop := match k with
  | true => SqT K H a vs
  | false => SqL K H a vs
def ItK (k : Bool) (h : Heap) (it a : Addr) (i : Nat) : Prop := match k with
  | true => h.IsTupleIter it a i
  | false => h.IsListIter it a i
def IsK (k : Bool) (h : Heap) (a : Addr) (its : Array Value) : Prop := match k with
  | true => h.IsTuple a its
  | false => h.IsList a its
theorem draws_k {prog : Program} {w : World} {A : Around} (hh : A.handled = none) (k : Bool) (it a : Addr) (hne : a ≠ it) (items : Array Value) :
    Draws prog w A it [it, a] items.size (fun i v => items[i]? = some v) (fun i h => ItK k h it a i ∧ IsK k h a items) := by
  cases k
  · exact Draws.list hh it a hne items
  · exact Draws.tuple hh it a hne items
theorem IsK.lt {k : Bool} {h : Heap} {a : Addr} {its : Array Value} (x : IsK k h a its) : a < h.objs.size := by
  cases k
  · obtain ⟨o, e, _⟩ := x; exact Heap.lt_size e
  · obtain ⟨o, e, _⟩ := x; exact Heap.lt_size e
theorem seqK {X : Cx} {pins : List (Addr × Obj)} {σ : L2.St} {H : Hp} {s : Shared} {k : Bool} {a : Addr} {vs : List V} (I : Inv X pins σ H s) (h : SqK X.K k H a vs) : ∃ its : List Value, Vals vs its ∧ IsK k s.heap a its.toArray ∧ vs.length ≤ sizeLine := by
  cases k
  · obtain ⟨its, r, p, z⟩ := I.list h; exact ⟨its, r, p.isList, z⟩
  · obtain ⟨its, r, p, z⟩ := I.tuple h; exact ⟨its, r, p, z⟩
theorem begins_k (k : Bool) (a : Addr) (items : Array Value) : Begins (.ref a) { cls := .type (if k then "tuple_iterator" else "list_iterator"), data := .fields #[.ref a, .int 0 0] } fun h => IsK k h a items := by
  cases k
  · exact begins_list a items
  · exact begins_tuple a items
theorem ItK.of {k : Bool} {h : Heap} {it a : Addr} (e : h.get? it = some { cls := .type (if k then "tuple_iterator" else "list_iterator"), data := .fields #[.ref a, .int 0 0] }) : ItK k h it a 0 := by
  cases k
  · exact ⟨_, e, rfl, rfl⟩
  · exact ⟨_, e, rfl, rfl⟩
theorem ItK.obj {k : Bool} {h : Heap} {it a : Addr} {i : Nat} (x : ItK k h it a i) : ∃ o, h.get? it = some o ∧ ∀ v, o.data ≠ .cell v := by
  cases k
  · obtain ⟨o, e, _, d⟩ := x; exact ⟨o, e, fun v z => by rw [d] at z; cases z⟩
  · obtain ⟨o, e, _, d⟩ := x; exact ⟨o, e, fun v z => by rw [d] at z; cases z⟩
theorem ItK.at {k : Bool} {h h' : Heap} {it a : Addr} {i : Nat} (x : ItK k h it a i) (e : ∀ o, h.get? it = some o → h'.get? it = some o) : ItK k h' it a i := by
  cases k
  · exact Heap.IsListIter.at x e
  · exact Heap.IsTupleIter.at x e
/-! ### iterators of tuples, each new -/
def Itp (pr : Nat → Option (List V)) (n : Nat) (src : Hp → Prop) : It :=
  ⟨fun i H => src H ∧ i < n, fun i H v H' => ∃ T xs, v = .ref T ∧ H T = none ∧ H' = upd H T (.tup xs) ∧ pr i = some xs, fun i H => src H ∧ i = n⟩
theorem tup_list {h : Heap} {T : Addr} {us : Array Value} (x : h.IsTuple T us) : IsTup h T us.toList.toArray := by
  have e : us.toList.toArray = us := by simp
  rw [e]; exact x
theorem turn_gn {P : Program} {w : World} {K : PySem.W.Frag} {tg : Expr} {it : Addr} {fpI : List Addr} {n : Nat} {tnI : Nat → Heap → Prop} {src : Hp → Prop} {pr : Nat → Option (List V)} (hmem : it ∈ fpI)
    (obj : ∀ i h, tnI i h → ∀ b ∈ fpI, ∃ o, h.get? b = some o ∧ ∀ v, o.data ≠ .cell v) (keep : ∀ i h h', tnI i h → (∀ b ∈ fpI, ∀ o, h.get? b = some o → h'.get? b = some o) → tnI i h')
    (go : ∀ (X : Cx), X.prog = P → X.w = w → X.K = K → X.calm = true → ∀ (i0 : Nat) (pins : List (Addr × Obj)) (s : Shared) (σ : L2.St) (H : Hp), Inv X pins σ H s → src H → tnI i0 s.heap →
      ∃ (fp wr : List Addr) (Y : Nat → Heap → Value → Heap → Prop) (St : Nat → Heap → Prop), GoesN P w X.A tg it fp wr n Y St ∧ (∀ b ∈ wr, b ∈ fpI) ∧ St i0 s.heap ∧ (∀ i h, St i h → tnI i h) ∧
        ∀ i v h', i < n → Y i s.heap v h' → ∃ T us xs, v = .ref T ∧ s.heap.objs.size ≤ T ∧ xs.length ≤ sizeLine ∧ h'.IsTuple T us ∧ Vals xs us.toList ∧ pr i = some xs)
    (self : ∀ (A : Around) (i : Nat) (s : Shared) (Q : Value → Shared → Prop) (E : Value → Shared → Prop), tnI i s.heap → Q (.ref it) s → wpAny (model P w) A (pyIter (.ref it)) Q E s) : Turn P w K tg (Itp pr n src) fpI it tnI where
  mem := hmem
  obj := obj
  keep := keep
  item := by
    intro X hP hw hK hc i pins s σ H E I hf st hg
    obtain ⟨hs, hi⟩ := hg
    obtain ⟨fp, wr, Y, St, W, hwr, hst, hback, hY⟩ := go X hP hw hK hc i pins s σ H I hs st
    subst hP hw
    refine thn (W.goes i s (fun v s2 => ∃ x H', Inv X pins σ H' s2 ∧ L2.RelV x v ∧ (Itp pr n src).yld i H x H' ∧ tnI (i + 1) s2.heap ∧ ∀ b ∈ fpI, H' b = none) E hi hst fun v h' tk y st' kk _ => ?_) fun r s1 hr => ?_
    · obtain ⟨T, us, xs, rfl, hT, hz, hTu, hv, hp⟩ := hY i v h' hi y
      have hn : H T = none := I.hok.fresh hT
      have new : ObjOk X.prog X.w (upd H T (.tup xs)) h' T (.tup xs) := ⟨hz, us.toList, hv, tup_list hTu⟩
      have I1 := I.turnedNew (t' := tk) (ch := wr) (ob := .tup xs) kk (fun b hb => hf b (hwr b hb)) hT new
      refine ⟨.ref T, _, I1, rfl, ⟨T, xs, rfl, hn, rfl, hp⟩, hback _ _ st', fun b hb => ?_⟩
      obtain ⟨o, e, _⟩ := obj i _ st b hb
      rw [upd_ne (Nat.ne_of_lt (Nat.lt_of_lt_of_le (Heap.lt_size e) hT))]
      exact (hf b hb).1
    · obtain ⟨v, e, h⟩ := hr; exact ⟨v, e, h⟩
  done := by
    intro X hP hw hK hc i pins s σ H E I hf st hg
    obtain ⟨hs, rfl⟩ := hg
    obtain ⟨fp, wr, Y, St, W, hwr, hst, hback, hY⟩ := go X hP hw hK hc i pins s σ H I hs st
    subst hP hw
    exact W.stops s (fun s' => Inv X pins σ H s') E hst fun h' tk kk _ => I.turnedL (t' := tk) (ch := wr) kk fun b hb => hf b (hwr b hb)
  self := self
/-- enumerate of a list or a tuple -/
def prE (vs : List V) : Nat → Option (List V) := fun i => vs[i]?.map fun x => [.int (i : Nat), x]
def tnE (k : Bool) (e it a : Addr) : Nat → Heap → Prop := fun i h => (∃ old, IsEnum h e it ((0 : Int) + (i : Int)) old) ∧ ItK k h it a i ∧ e ≠ it ∧ e ≠ a ∧ it ≠ a
theorem pair_vals {x y : V} {u v : Value} (h1 : L2.RelV x u) (h2 : L2.RelV y v) : Vals [x, y] [u, v] := .cons h1 (.cons h2 .nil)
theorem turn_enumk {P : Program} {w : World} {K : PySem.W.Frag} {elts : List Expr} {kk : Nat} {tpos : Pos} {k : Bool} {a e it : Addr} {vs : List V} :
    Turn P w K (.Tuple elts kk tpos) (Itp (prE vs) vs.length fun H => SqK K k H a vs) [e, it] e (tnE k e it a) := by
  refine turn_gn (by simp) (fun i h st b hb => ?_) (fun i h h' st kp => ?_) (fun X hP hw hK hc i0 pins s σ H I hs st => ?_) (fun A i s Q E st h => ?_)
  · obtain ⟨⟨old, he⟩, hi, _⟩ := st
    have e' : b = e ∨ b = it := by simpa using hb
    rcases e' with z | z
    · rw [z]; exact ⟨_, he, fun v q => nomatch q⟩
    · rw [z]; exact hi.obj
  · obtain ⟨⟨old, he⟩, hi, r⟩ := st
    exact ⟨⟨old, kp e (by simp) _ he⟩, hi.at fun o q => kp it (by simp) o q, r⟩
  · obtain ⟨he, hi, n1, n2, n3⟩ := st
    subst hP hw hK
    obtain ⟨its, rv, ik, hz⟩ := seqK I hs
    have hn : its.toArray.size = vs.length := by rw [List.size_toArray]; exact rv.length.symm
    have W := GoesN.enumFrom (elts := elts) (x1 := kk) (pos := tpos) 0 (draws_k (prog := X.prog) (w := X.w) (A := X.A.in1) (I.ok.hd hc) k it a (Ne.symm n3) its.toArray) e n1 (by simp; exact ⟨n1, n2⟩) (by simp)
    rw [hn] at W
    refine ⟨_, _, _, _, W, fun b hb => by simpa using hb, ⟨he, hi, ik⟩, fun i h st => ⟨st.1, st.2.1, n1, n2, n3⟩, fun i v h' hlt y => ?_⟩
    obtain ⟨T, t, x, rfl, hT, hx, hTu⟩ := y
    have hx' : its[i]? = some x := by simpa using hx
    have hv : vs[i]? = some vs[i] := List.getElem?_eq_getElem hlt
    obtain ⟨u, h1, h2⟩ := rv.get hv
    rw [hx'] at h1; cases h1
    exact ⟨T, _, [.int (i : Nat), vs[i]], rfl, hT, by show 2 ≤ sizeLine; decide, hTu, pair_vals ⟨t, by rw [Int.zero_add]⟩ h2, by unfold prE; rw [hv]; rfl⟩
  · obtain ⟨⟨old, he⟩, _⟩ := st
    exact wpAny_pyIter_enum he h
def iEnumk (K : PySem.W.Frag) (ta : TA) : TI := fun σ H R => ta σ H fun vs H1 => ∃ k a xs, vs = [.ref a] ∧ SqK K k H1 a xs ∧ R (Itp (prE xs) xs.length fun H => SqK K k H a xs) H1
theorem pi_enumk {X : Cx} {e : Expr} {ta : TA} {p pos tpos : Pos} {elts : List Expr} {kk : Nat} (hg : Gl X "enumerate") (hm : X.mg "enumerate" = none) (ha : PA X [e] ta) (hs : starEach [e] X.env = [(false, eval e X.env)] := by rfl) :
    PI X (.Tuple elts kk tpos) (.Call (.Name "enumerate" p) [e] [] pos) (iEnumk X.K ta) := by
  refine ⟨fun pins s σ H R I h => ?_⟩
  refine Call_ (ld_blt I hg hm boot_enumerate (PyProof.Rows.callWith_type1 (thn (ha.run pos pins s σ H _ I h) fun us s1 ⟨vs, H1, I1, r1, q1⟩ => ?_) hs rfl))
  obtain ⟨k, a, xs, ex, hq, q⟩ := q1
  subst ex
  cases r1 with
  | cons r rr =>
    cases rr
    cases r
    obtain ⟨its, rv, ik, hz⟩ := seqK I1 hq
    refine l3_enum_begins (begins_k k a its.toArray) ik fun h' he hit hsz hk => wpAny_pyIter_enum he ?_
    have I2 : Inv X pins σ H1 { s1 with heap := h' } := I1.kept (t' := s1.toks) hk
    have hlt := ik.lt
    refine ⟨s1.heap.objs.size + 1, [s1.heap.objs.size + 1, s1.heap.objs.size], _, _, H1, rfl, I2, turn_enumk (k := k) (a := a) (e := s1.heap.objs.size + 1) (it := s1.heap.objs.size) (vs := xs), ⟨⟨.none, by rw [Int.zero_add]; exact he⟩, ItK.of hit, Nat.succ_ne_self _, Nat.ne_of_gt (Nat.lt_succ_of_lt hlt), Nat.ne_of_gt hlt⟩, fun b hb => ?_, q⟩
    have e' : b = s1.heap.objs.size + 1 ∨ b = s1.heap.objs.size := by simpa using hb
    have hle : s1.heap.objs.size ≤ b := by
      rcases e' with z | z
      · rw [z]; exact Nat.le_add_right _ _
      · rw [z]; exact Nat.le_refl _
    exact I1.fpOk hle (I1.hok.fresh hle)
/-- zip of two, each a list or a tuple -/
def prZ (xs ys : List V) : Nat → Option (List V) := fun i => xs[i]?.bind fun x => ys[i]?.bind fun y => some [x, y]
def tnZ (k1 k2 : Bool) (z TI TO i1 i2 a b : Addr) : Nat → Heap → Prop := fun i h => (IsZip h z TI TO .none ∧ IsTupOf2 h TI (.ref i1) (.ref i2) ∧ (∃ a1 a2, IsTupOf2 h TO a1 a2) ∧ ItK k1 h i1 a i ∧ ItK k2 h i2 b i) ∧ ZipSep2 z TI TO i1 i2 [i1, a] [i2, b] ∧ a ≠ i1 ∧ b ≠ i2
theorem turn_zipk {P : Program} {w : World} {K : PySem.W.Frag} {elts : List Expr} {kk : Nat} {tpos : Pos} {k1 k2 : Bool} {z TI TO i1 i2 a b : Addr} {xs ys : List V} :
    Turn P w K (.Tuple elts kk tpos) (Itp (prZ xs ys) (min xs.length ys.length) fun H => SqK K k1 H a xs ∧ SqK K k2 H b ys) [z, TI, TO, i1, i2] z (tnZ k1 k2 z TI TO i1 i2 a b) := by
  refine turn_gn (by simp) (fun i h st c hc => ?_) (fun i h h' st kp => ?_) (fun X hP hw hK hc i0 pins s σ H I hs st => ?_) (fun A i s Q E st h => ?_)
  · obtain ⟨⟨hz, hTI, ⟨x, y, hTO⟩, h1, h2⟩, _⟩ := st
    have e' : c = z ∨ c = TI ∨ c = TO ∨ c = i1 ∨ c = i2 := by simpa using hc
    rcases e' with q | q | q | q | q
    · rw [q]; exact ⟨_, hz, fun v q => nomatch q⟩
    · rw [q]; exact ⟨_, hTI, fun v q => nomatch q⟩
    · rw [q]; exact ⟨_, hTO, fun v q => nomatch q⟩
    · rw [q]; exact h1.obj
    · rw [q]; exact h2.obj
  · obtain ⟨⟨hz, hTI, ⟨x, y, hTO⟩, h1, h2⟩, r⟩ := st
    exact ⟨⟨kp z (by simp) _ hz, kp TI (by simp) _ hTI, ⟨x, y, kp TO (by simp) _ hTO⟩, h1.at fun o q => kp i1 (by simp) o q, h2.at fun o q => kp i2 (by simp) o q⟩, r⟩
  · obtain ⟨⟨hz, hTI, hTO, h1, h2⟩, S, n1, n2⟩ := st
    subst hP hw hK
    obtain ⟨its, rv, ik, _⟩ := seqK I hs.1
    obtain ⟨its2, rv2, ik2, _⟩ := seqK I hs.2
    have hn : its.toArray.size = xs.length := by rw [List.size_toArray]; exact rv.length.symm
    have hn2 : its2.toArray.size = ys.length := by rw [List.size_toArray]; exact rv2.length.symm
    have W := GoesN.zip2 (elts := elts) (x1 := kk) (pos := tpos) S (draws_k (prog := X.prog) (w := X.w) (A := X.A.in1) (I.ok.hd hc) k1 i1 a n1 its.toArray) (draws_k (prog := X.prog) (w := X.w) (A := X.A.in1) (I.ok.hd hc) k2 i2 b n2 its2.toArray)
    rw [hn, hn2] at W
    refine ⟨_, _, _, _, W, fun b hb => by simp at hb ⊢; rcases hb with q | q | q | q <;> simp [q], ⟨hz, hTI, hTO, ⟨h1, ik⟩, ⟨h2, ik2⟩⟩, fun i h st => ⟨⟨st.1, st.2.1, st.2.2.1, st.2.2.2.1.1, st.2.2.2.2.1⟩, S, n1, n2⟩, fun i v h' hlt y => ?_⟩
    obtain ⟨T, x, y, rfl, hT, hx, hy, hTu⟩ := y
    have hx' : its[i]? = some x := by simpa using hx
    have hy' : its2[i]? = some y := by simpa using hy
    have l1 : i < xs.length := Nat.lt_of_lt_of_le hlt (Nat.min_le_left _ _)
    have l2 : i < ys.length := Nat.lt_of_lt_of_le hlt (Nat.min_le_right _ _)
    have hv : xs[i]? = some xs[i] := List.getElem?_eq_getElem l1
    have hv2 : ys[i]? = some ys[i] := List.getElem?_eq_getElem l2
    obtain ⟨u, g1, g2⟩ := rv.get hv
    rw [hx'] at g1; cases g1
    obtain ⟨u2, g3, g4⟩ := rv2.get hv2
    rw [hy'] at g3; cases g3
    exact ⟨T, _, [xs[i], ys[i]], rfl, hT, by show 2 ≤ sizeLine; decide, hTu, pair_vals g2 g4, by unfold prZ; rw [hv, hv2]; rfl⟩
  · exact wpAny_pyIter_zip st.1.1 h
def iZipk (K : PySem.W.Frag) (ta : TA) : TI := fun σ H R => ta σ H fun vs H1 => ∃ k1 k2 a b xs ys, vs = [.ref a, .ref b] ∧ SqK K k1 H1 a xs ∧ SqK K k2 H1 b ys ∧ R (Itp (prZ xs ys) (min xs.length ys.length) fun H => SqK K k1 H a xs ∧ SqK K k2 H b ys) H1
theorem pi_zipk {X : Cx} {e e2 : Expr} {ta : TA} {p pos tpos : Pos} {elts : List Expr} {kk : Nat} (hg : Gl X "zip") (hm : X.mg "zip" = none) (ha : PA X [e, e2] ta)
    (hs : starEach [e, e2] X.env = (false, eval e X.env) :: starEach [e2] X.env := by rfl) (hpl : (backTo pos (starEach [e2] X.env)).any (·.1) = false := by rfl) :
    PI X (.Tuple elts kk tpos) (.Call (.Name "zip" p) [e, e2] [] pos) (iZipk X.K ta) := by
  refine ⟨fun pins s σ H R I h => ?_⟩
  refine Call_ (ld_blt I hg hm PyProof.Rows.boot_zip (PyProof.Rows.callWith_type1 (thn (ha.run pos pins s σ H _ I h) fun us s1 ⟨vs, H1, I1, r1, q1⟩ => ?_) hs hpl))
  obtain ⟨k1, k2, a, b, xs, ys, ex, hq1, hq2, q⟩ := q1
  subst ex
  cases r1 with
  | cons r rr =>
    cases rr with
    | cons r' rr =>
      cases rr
      cases r
      cases r'
      obtain ⟨its, rv, ik, _⟩ := seqK I1 hq1
      obtain ⟨its2, rv2, ik2, _⟩ := seqK I1 hq2
      have la := ik.lt
      have lb := ik2.lt
      refine zip_begins2 (begins_k k1 a its.toArray) (begins_k k2 b its2.toArray) ik ik2 fun h' hz hTI hTO h1 h2 hsz hk => wpAny_pyIter_zip hz ?_
      have I2 : Inv X pins σ H1 { s1 with heap := h' } := I1.kept (t' := s1.toks) hk
      refine ⟨s1.heap.objs.size + 4, [s1.heap.objs.size + 4, s1.heap.objs.size + 2, s1.heap.objs.size + 3, s1.heap.objs.size, s1.heap.objs.size + 1], _, _, H1, rfl, I2, turn_zipk (k1 := k1) (k2 := k2) (i1 := s1.heap.objs.size) (i2 := s1.heap.objs.size + 1), ⟨⟨hz, hTI, ⟨_, _, hTO⟩, ItK.of h1, ItK.of h2⟩, ?_, Nat.ne_of_lt la, Nat.ne_of_lt (Nat.lt_succ_of_lt lb)⟩, fun c hcm => ?_, q⟩
      · exact zip_sep2 (fp1 := [a]) (fp2 := [b]) (fun c hc => by have e : c = a := by simpa using hc
                                                                 rw [e]; exact la) (fun c hc => by have e : c = b := by simpa using hc
                                                                                                   rw [e]; exact lb)
      · have e' : c = s1.heap.objs.size + 4 ∨ c = s1.heap.objs.size + 2 ∨ c = s1.heap.objs.size + 3 ∨ c = s1.heap.objs.size ∨ c = s1.heap.objs.size + 1 := by simpa using hcm
        have hle : s1.heap.objs.size ≤ c := by
          rcases e' with z | z | z | z | z
          · rw [z]; exact Nat.le_add_right _ _
          · rw [z]; exact Nat.le_add_right _ _
          · rw [z]; exact Nat.le_add_right _ _
          · rw [z]; exact Nat.le_refl _
          · rw [z]; exact Nat.le_add_right _ _
        exact I1.fpOk hle (I1.hok.fresh hle)
/-- a list or a tuple itself -/
def iSeqk (K : PySem.W.Frag) (te : TE) : TI := fun σ H R => te σ H fun x H1 => ∃ a, x = .ref a ∧ ((∃ xs, SqL K H1 a xs ∧ R (Itl K a) H1) ∨ (∃ xs, SqT K H1 a xs ∧ R (Itt K a) H1))
theorem pi_seqk {X : Cx} {tg l : Expr} {tl : TE} (hl : PE X l tl) : PI X tg l (iSeqk X.K tl) := by
  refine ⟨fun pins s σ H R I h => ?_⟩
  refine thn (hl.run pins s σ H _ I h) fun v s1 ⟨x, H1, I1, r1, q1⟩ => ?_
  obtain ⟨a, e, q⟩ := q1
  subst e
  cases r1
  have fin : ∀ b ∈ [s1.heap.objs.size], FpOk X pins H1 b := fun b hb => by
    have e : b = s1.heap.objs.size := by simpa using hb
    subst e
    exact I1.fpOk (Nat.le_refl _) (I1.hok.fresh (Nat.le_refl _))
  rcases q with ⟨xs, hq, q⟩ | ⟨xs, hq, q⟩
  · obtain ⟨its, rv, p, hz⟩ := I1.list hq
    refine wpAny_pyIter_list p.isList ?_
    exact ⟨s1.heap.objs.size, [s1.heap.objs.size], _, _, H1, rfl, I1.kept (t' := s1.toks) fun b o e => Heap.get?_push_of_some _ e, turn_list a _, ⟨_, Heap.get?_push_size _ rfl, rfl, rfl⟩, fin, q⟩
  · obtain ⟨its, rv, p, hz⟩ := I1.tuple hq
    refine wpAny_pyIter_tuple (show s1.heap.IsTuple a its.toArray from p) ?_
    exact ⟨s1.heap.objs.size, [s1.heap.objs.size], _, _, H1, rfl, I1.kept (t' := s1.toks) fun b o e => Heap.get?_push_of_some _ e, turn_tuple a _, ⟨_, Heap.get?_push_size _ rfl, rfl, rfl⟩, fin, q⟩
end L3
set_option Elab.async false
set_option linter.all false
set_option maxRecDepth 100000
set_option maxHeartbeats 4000000
namespace L3
open PySem PySem.Spec PyProof.Rows L2
/-! ### what is walked -/
abbrev I := Rho → Option (List D × Rho)
/-- J gives the data ds, whatever of G stands -/
structure Feeds (K : PySem.W.Frag) (J : It) (G : Hp) (ds : List D) : Prop where
  len : ds.length ≤ sizeLine
  go : ∀ i H, Same G H → i < ds.length → J.go i H
  stop : ∀ H, Same G H → J.stop ds.length H
  yld : ∀ i H x H' d G1, Same G G1 → Same G1 H → J.yld i H x H' → ds[i]? = some d → ∃ G2, Grow G1 H G2 H' ∧ Is K G2 x d
def denI (K : PySem.W.Frag) (f : I) : TI := fun σ H R => ∃ (c : Fix) (G : Hp) (ρ : Rho) (ds : List D) (ρ' : Rho), c.K = K ∧ Rep c G ρ σ H ∧ f ρ = some (ds, ρ') ∧
  ∀ J G' H', Same G G' → Rep c G' ρ' σ H' → Feeds c.K J G' ds → R J H'
structure PDI (X : Cx) (tg e : Expr) (f : I) : Prop where
  pi : PI X tg e (denI X.K f)
theorem PIimp {X : Cx} {tg e : Expr} {t t' : TI} (h : PI X tg e t) (i : ∀ σ H R, t' σ H R → t σ H R) : PI X tg e t' := ⟨fun pins s σ H R I hw => h.run pins s σ H R I (i σ H R hw)⟩
section
variable {X : Cx} {c : Fix} {K : PySem.W.Frag} {G G' H H' : Hp} {ρ ρ' : Rho} {σ : L2.St} {De : Ends} {v : V} {d : D}
/-- a sequence; a list of this def's own is frozen -/
def iSeq (f : E) : I := fun ρ => (f ρ).bind fun p => match p.1 with
  | .fz d => (itemsOf d).bind fun ds => some (ds, p.2)
  | .sl i => match p.2[i]? with
    | some (some (.own (.l ds))) => some (ds, p.2.set i (some (.val (.list ds))))
    | _ => none
theorem feeds_list {a : Addr} {vs : List V} {ds : List D} (hs : SqL K G a vs) (hl : ds.length ≤ sizeLine) (ia : IsAll K G vs ds) : Feeds K (Itl K a) G ds where
  len := hl
  go := fun i H s hi => ⟨vs, vs[i]'(by rw [ia.len]; exact hi), s.seq hs, by simp [ia.len, hi]⟩
  stop := fun H s => ⟨vs, s.seq hs, by rw [ia.len]; exact Nat.le_refl _⟩
  yld := fun i H x H' d G1 s1 s2 y hd => by
    obtain ⟨rfl, hx⟩ := y
    have h1 := hx vs ((s1.trans s2).seq hs)
    obtain ⟨d', e, i1⟩ := ia.getV h1
    rw [hd] at e; cases e
    exact ⟨G1, .refl, Is.mono s1 _ _ i1⟩
theorem feeds_tup {a : Addr} {vs : List V} {ds : List D} (hs : SqT K G a vs) (hl : ds.length ≤ sizeLine) (ia : IsAll K G vs ds) : Feeds K (Itt K a) G ds where
  len := hl
  go := fun i H s hi => ⟨vs, vs[i]'(by rw [ia.len]; exact hi), Same.sqT s hs, by simp [ia.len, hi]⟩
  stop := fun H s => ⟨vs, Same.sqT s hs, by rw [ia.len]; exact Nat.le_refl _⟩
  yld := fun i H x H' d G1 s1 s2 y hd => by
    obtain ⟨rfl, hx⟩ := y
    have h1 := hx vs (Same.sqT (s1.trans s2) hs)
    obtain ⟨d', e, i1⟩ := ia.getV h1
    rw [hd] at e; cases e
    exact ⟨G1, .refl, Is.mono s1 _ _ i1⟩
theorem Is.items {d : D} {ds : List D} (h : Is K G v d) (e : itemsOf d = some ds) : ∃ a vs, v = .ref a ∧ ds.length ≤ sizeLine ∧ IsAll K G vs ds ∧ ((d = .list ds ∧ SqL K G a vs) ∨ (d = .tuple ds ∧ SqT K G a vs)) := by
  cases d with
  | list es =>
    cases e
    cases h with | lst s l a => exact ⟨_, _, rfl, l, a, .inl ⟨rfl, s⟩⟩
  | tuple es =>
    cases e
    cases h with | tup s l a => exact ⟨_, _, rfl, l, a, .inr ⟨rfl, s.sq⟩⟩
  | _ => cases e
theorem denI_seq {f : E} {R : It → Hp → Prop} : denI K (iSeq f) σ H R → iSeqk K (den K f) σ H R := by
  rintro ⟨c, G, ρ, ds, ρ', rfl, R0, hf, q⟩
  unfold iSeq at hf
  obtain ⟨⟨o, ρ1⟩, h1, hf⟩ := Option.bind_eq_some_iff.mp hf
  refine ⟨c, G, ρ, o, ρ1, rfl, R0, h1, fun v G1 H1 s1 R1 k1 => ?_⟩
  cases o with
  | fz d =>
    obtain ⟨es, h2, hf⟩ := Option.bind_eq_some_iff.mp hf
    cases hf
    obtain ⟨a, vs, rfl, hl, ia, r⟩ := Is.items k1 h2
    refine ⟨a, rfl, ?_⟩
    rcases r with ⟨_, hs⟩ | ⟨_, hs⟩
    · exact .inl ⟨vs, R1.gh.seq hs, q _ G1 H1 s1 R1 (feeds_list hs hl ia)⟩
    · exact .inr ⟨vs, Same.sqT R1.gh hs, q _ G1 H1 s1 R1 (feeds_tup hs hl ia)⟩
  | sl i =>
    dsimp only at hf
    split at hf
    · rename_i es e
      cases hf
      have hs : σ[i]? = some (some v) := k1
      obtain ⟨p, rfl, R2, n2⟩ := R1.freezeSlot e hs
      obtain ⟨G3, s3, R3, i3⟩ := R2.freeze n2
      have hi : i < σ.length := (List.getElem?_eq_some_iff.mp hs).1
      have R4 : Rep c G3 (ρ1.set i (some (.val (.list ds)))) σ H1 := by
        have z := R3.setVal (i := i) i3
        rw [List.set_set] at z
        have e2 : σ.set i (some (.ref p)) = σ := by
          refine List.ext_getElem? fun j => ?_
          by_cases hj : i = j
          · subst hj; rw [List.getElem?_set_self hi, hs]
          · rw [List.getElem?_set_ne hj]
        rw [e2] at z; exact z
      cases i3 with
      | lst hsq hl ia => exact ⟨p, rfl, .inl ⟨_, R4.gh.seq hsq, q _ G3 H1 (s1.trans s3) R4 (feeds_list hsq hl ia)⟩⟩
    · cases hf
theorem pdi_seq {tg e : Expr} {f : E} (h : PD X e f) : PDI X tg e (iSeq f) := ⟨PIimp (pi_seqk h.pe) fun _ _ _ => denI_seq⟩
/-! ranges -/
def rangeD (lo : Int) (n : Nat) : List D := (List.range n).map fun i => .int (lo + (i : Nat))
theorem rangeD_len (lo : Int) (n : Nat) : (rangeD lo n).length = n := by unfold rangeD; rw [List.length_map, List.length_range]
def iRange (a : As) : I := fun ρ => (a ρ).bind fun p => match p.1 with
  | [.fz (.int j)] => if j.toNat ≤ sizeLine ∧ -(2 ^ 62) ≤ j then some (rangeD 0 j.toNat, p.2) else none
  | [.fz (.int i), .fz (.int j)] => if -(2 ^ 62) ≤ i ∧ i < 2 ^ 62 ∧ -(2 ^ 62) ≤ j ∧ j < 2 ^ 62 ∧ (j - i).toNat ≤ sizeLine then some (rangeD i (j - i).toNat, p.2) else none
  | _ => none
theorem feeds_range {lo : Int} {n : Nat} (h : n ≤ sizeLine) : Feeds K (Itr lo n) G (rangeD lo n) where
  len := by rw [rangeD_len]; exact h
  go := fun i H _ hi => by rw [rangeD_len] at hi; exact hi
  stop := fun H _ => by rw [rangeD_len]; exact Nat.le_refl _
  yld := fun i H x H' d G1 _ _ y hd => by
    obtain ⟨rfl, rfl⟩ := y
    refine ⟨G1, .refl, ?_⟩
    unfold rangeD at hd
    rw [List.getElem?_map] at hd
    cases e : (List.range n)[i]? with
    | none => rw [e] at hd; cases hd
    | some k =>
      rw [e] at hd
      have hk : k = i := by
        obtain ⟨h1, h2⟩ := List.getElem?_eq_some_iff.mp e
        rw [List.getElem_range] at h2; exact h2.symm
      subst hk
      cases hd; exact .int _
theorem line62 {j : Int} (h : j.toNat ≤ sizeLine) : j < 2 ^ 62 := by
  have : (sizeLine : Nat) < 2 ^ 62 := by rw [sizeLine_eq]; decide
  omega
theorem denI_range1 {a : As} {R : It → Hp → Prop} (ha : ∀ ρ p, a ρ = some p → p.1.length = 1) : denI K (iRange a) σ H R → iRng1 (denA K a) σ H R := by
  rintro ⟨c, G, ρ, ds, ρ', rfl, R0, hf, q⟩
  unfold iRange at hf
  obtain ⟨⟨os, ρ1⟩, h1, hf⟩ := Option.bind_eq_some_iff.mp hf
  have hl := ha _ _ h1
  refine ⟨c, G, ρ, os, ρ1, rfl, R0, h1, fun vs G1 H1 s1 R1 k1 => ?_⟩
  dsimp only at hf hl
  split at hf
  · split at hf
    · rename_i h
      cases hf
      cases k1 with
      | cons k k' =>
        cases k'
        cases k
        exact ⟨_, rfl, h.2, line62 h.1, q _ G1 H1 s1 R1 (feeds_range h.1)⟩
    · cases hf
  · simp at hl
  · cases hf
theorem denI_range2 {a : As} {R : It → Hp → Prop} (ha : ∀ ρ p, a ρ = some p → p.1.length = 2) : denI K (iRange a) σ H R → iRng2 (denA K a) σ H R := by
  rintro ⟨c, G, ρ, ds, ρ', rfl, R0, hf, q⟩
  unfold iRange at hf
  obtain ⟨⟨os, ρ1⟩, h1, hf⟩ := Option.bind_eq_some_iff.mp hf
  have hl := ha _ _ h1
  refine ⟨c, G, ρ, os, ρ1, rfl, R0, h1, fun vs G1 H1 s1 R1 k1 => ?_⟩
  dsimp only at hf hl
  split at hf
  · simp at hl
  · split at hf
    · rename_i h
      cases hf
      cases k1 with
      | cons k k' =>
        cases k' with
        | cons k2 k' =>
          cases k'
          cases k
          cases k2
          exact ⟨_, _, rfl, ⟨h.1, h.2.1, h.2.2.1, h.2.2.2.1⟩, q _ G1 H1 s1 R1 (feeds_range h.2.2.2.2)⟩
    · cases hf
  · cases hf
theorem aCons_len {f : E} {g : As} {n : Nat} (h : ∀ ρ p, g ρ = some p → p.1.length = n) : ∀ ρ p, aCons f g ρ = some p → p.1.length = n + 1 := fun ρ p e => by
  unfold aCons at e
  obtain ⟨⟨o, ρ1⟩, h1, e⟩ := Option.bind_eq_some_iff.mp e
  obtain ⟨⟨os, ρ2⟩, h2, e⟩ := Option.bind_eq_some_iff.mp e
  cases e
  show os.length + 1 = n + 1
  rw [h _ _ h2]
theorem aNil_len : ∀ ρ p, aNil ρ = some p → p.1.length = 0 := fun ρ p e => by cases e; rfl
theorem pdi_range1 {tg e : Expr} {f : E} {p pos : Pos} (hg : Gl X "range") (hm : X.mg "range" = none) (h : PDA X [e] (aCons f aNil)) (hs : starEach [e] X.env = [(false, eval e X.env)] := by rfl) : PDI X tg (.Call (.Name "range" p) [e] [] pos) (iRange (aCons f aNil)) :=
  ⟨PIimp (pi_range1 hg hm h.pa hs) fun _ _ _ => denI_range1 (aCons_len aNil_len)⟩
theorem pdi_range2 {tg e e' : Expr} {f f' : E} {p pos : Pos} (hg : Gl X "range") (hm : X.mg "range" = none) (h : PDA X [e, e'] (aCons f (aCons f' aNil))) (hs : starEach [e, e'] X.env = [(false, eval e X.env), (false, eval e' X.env)] := by rfl) (hs2 : starEach [e'] X.env = [(false, eval e' X.env)] := by rfl) :
    PDI X tg (.Call (.Name "range" p) [e, e'] [] pos) (iRange (aCons f (aCons f' aNil))) :=
  ⟨PIimp (pi_range2 hg hm h.pa hs hs2) fun _ _ _ => denI_range2 (aCons_len (aCons_len aNil_len))⟩
/-! enumerate, zip -/
def enumD : Nat → List D → List D
  | _, [] => []
  | i, d :: ds => .tuple [.int (i : Nat), d] :: enumD (i + 1) ds
def zipD : List D → List D → List D
  | d :: ds, e :: es => .tuple [d, e] :: zipD ds es
  | _, _ => []
/-- each operand's items, if all are frozen sequences -/
def iEnum (a : As) : I := fun ρ => (a ρ).bind fun p => match p.1 with
  | [o] => (look p.2 o).bind fun d => (itemsOf d).bind fun ds => if fzO p.1 = true then some (enumD 0 ds, p.2) else none
  | _ => none
where fzO : List Opd → Bool
  | [] => true
  | .fz _ :: os => fzO os
  | .sl _ :: _ => false
def iZip (a : As) : I := fun ρ => (a ρ).bind fun p => match p.1 with
  | [.fz d, .fz e] => (itemsOf d).bind fun ds => (itemsOf e).bind fun es => some (zipD ds es, p.2)
  | _ => none
theorem enumD_len : ∀ (i : Nat) (ds : List D), (enumD i ds).length = ds.length
  | _, [] => rfl
  | i, d :: ds => by unfold enumD; rw [List.length_cons, List.length_cons, enumD_len]
theorem enumD_get : ∀ (k : Nat) (ds : List D) (i : Nat), (enumD k ds)[i]? = ds[i]?.map fun d => .tuple [.int ((k + i : Nat) : Int), d]
  | _, [], i => by unfold enumD; simp
  | k, d :: ds, 0 => by unfold enumD; simp
  | k, d :: ds, i + 1 => by
    unfold enumD
    rw [List.getElem?_cons_succ, List.getElem?_cons_succ, enumD_get (k + 1) ds i]
    have : k + 1 + i = k + (i + 1) := by omega
    rw [this]
theorem zipD_len : ∀ (ds es : List D), (zipD ds es).length = min ds.length es.length
  | [], _ => by unfold zipD; simp
  | _ :: _, [] => by unfold zipD; simp
  | d :: ds, e :: es => by unfold zipD; rw [List.length_cons, zipD_len]; simp only [List.length_cons]; omega
theorem zipD_get : ∀ (ds es : List D) (i : Nat), (zipD ds es)[i]? = ds[i]?.bind fun d => es[i]?.bind fun e => some (.tuple [d, e])
  | [], _, i => by unfold zipD; simp
  | _ :: _, [], i => by unfold zipD; cases h : (_ :: _ : List D)[i]? <;> simp
  | d :: ds, e :: es, 0 => by unfold zipD; simp
  | d :: ds, e :: es, i + 1 => by unfold zipD; rw [List.getElem?_cons_succ, List.getElem?_cons_succ, List.getElem?_cons_succ, zipD_get ds es i]
theorem Same.sqK {k : Bool} {a : Addr} {vs : List V} (s : Same H H') (h : SqK K k H a vs) : SqK K k H' a vs := by
  cases k
  · exact s.seq h
  · exact Same.sqT s h
theorem Is.seqK {d : D} {ds : List D} (h : Is K G v d) (e : itemsOf d = some ds) : ∃ k a vs, v = .ref a ∧ ds.length ≤ sizeLine ∧ IsAll K G vs ds ∧ SqK K k G a vs := by
  obtain ⟨a, vs, rfl, hl, ia, r⟩ := Is.items h e
  rcases r with ⟨_, s⟩ | ⟨_, s⟩
  · exact ⟨false, a, vs, rfl, hl, ia, s⟩
  · exact ⟨true, a, vs, rfl, hl, ia, s⟩
theorem yld_new {T : Addr} {xs : List V} {ds : List D} {G1 H : Hp} (hT : H T = none) (hl : ds.length ≤ sizeLine) (s2 : Same G1 H) (ia : IsAll K G1 xs ds) : ∃ G2, Grow G1 H G2 (upd H T (.tup xs)) ∧ Is K G2 (.ref T) (.tuple ds) :=
  ⟨_, Grow.one (u := .tup xs) hT, .tup (TpT.of upd_same) hl (IsAll.mono (upd_keep (s2.free hT)) _ _ ia)⟩
theorem feeds_enum {k : Bool} {a : Addr} {vs : List V} {ds : List D} (hs : SqK K k G a vs) (hl : ds.length ≤ sizeLine) (ia : IsAll K G vs ds) : Feeds K (Itp (prE vs) vs.length fun H => SqK K k H a vs) G (enumD 0 ds) where
  len := by rw [enumD_len]; exact hl
  go := fun i H s hi => ⟨Same.sqK s hs, by rw [enumD_len] at hi; rw [ia.len]; exact hi⟩
  stop := fun H s => ⟨Same.sqK s hs, by rw [enumD_len, ia.len]⟩
  yld := fun i H x H' d G1 s1 s2 y hd => by
    obtain ⟨T, xs, rfl, hT, rfl, hp⟩ := y
    rw [enumD_get] at hd
    unfold prE at hp
    cases e1 : vs[i]? with
    | none => rw [e1] at hp; cases hp
    | some w =>
      rw [e1] at hp; cases hp
      obtain ⟨d', e2, i1⟩ := ia.getV e1
      rw [e2] at hd; cases hd
      rw [Nat.zero_add]
      exact yld_new hT (by show 2 ≤ sizeLine; decide) s2 (.cons (.int _) (.cons (Is.mono s1 _ _ i1) .nil))
theorem feeds_zip {k1 k2 : Bool} {a b : Addr} {vs ws : List V} {ds es : List D} (h1 : SqK K k1 G a vs) (h2 : SqK K k2 G b ws) (hl : ds.length ≤ sizeLine) (ia : IsAll K G vs ds) (ib : IsAll K G ws es) : Feeds K (Itp (prZ vs ws) (min vs.length ws.length) fun H => SqK K k1 H a vs ∧ SqK K k2 H b ws) G (zipD ds es) where
  len := by rw [zipD_len]; exact Nat.le_trans (Nat.min_le_left _ _) hl
  go := fun i H s hi => ⟨⟨Same.sqK s h1, Same.sqK s h2⟩, by rw [zipD_len] at hi; rw [ia.len, ib.len]; exact hi⟩
  stop := fun H s => ⟨⟨Same.sqK s h1, Same.sqK s h2⟩, by rw [zipD_len, ia.len, ib.len]⟩
  yld := fun i H x H' d G1 s1 s2 y hd => by
    obtain ⟨T, xs, rfl, hT, rfl, hp⟩ := y
    rw [zipD_get] at hd
    unfold prZ at hp
    obtain ⟨w1, e1, hp⟩ := Option.bind_eq_some_iff.mp hp
    obtain ⟨w2, e2, hp⟩ := Option.bind_eq_some_iff.mp hp
    cases hp
    obtain ⟨d1, e3, i1⟩ := ia.getV e1
    obtain ⟨d2, e4, i2⟩ := ib.getV e2
    rw [e3, e4] at hd; cases hd
    exact yld_new hT (by show 2 ≤ sizeLine; decide) s2 (.cons (Is.mono s1 _ _ i1) (.cons (Is.mono s1 _ _ i2) .nil))
theorem denI_enum {a : As} {R : It → Hp → Prop} : denI K (iEnum a) σ H R → iEnumk K (denA K a) σ H R := by
  rintro ⟨c, G, ρ, ds, ρ', rfl, R0, hf, q⟩
  unfold iEnum at hf
  obtain ⟨⟨os, ρ1⟩, h1, hf⟩ := Option.bind_eq_some_iff.mp hf
  refine ⟨c, G, ρ, os, ρ1, rfl, R0, h1, fun vs G1 H1 s1 R1 k1 => ?_⟩
  dsimp only at hf
  split at hf
  · rename_i o
    obtain ⟨d, h2, hf⟩ := Option.bind_eq_some_iff.mp hf
    obtain ⟨es, h3, hf⟩ := Option.bind_eq_some_iff.mp hf
    split at hf
    · rename_i hz
      cases hf
      cases k1 with
      | cons k k' =>
        cases k'
        cases o with
        | sl i => cases hz
        | fz d' =>
          cases h2
          obtain ⟨kk, a, ws, rfl, hl, ia, hs⟩ := Is.seqK k h3
          exact ⟨kk, a, ws, rfl, Same.sqK R1.gh hs, q _ G1 H1 s1 R1 (feeds_enum hs hl ia)⟩
    · cases hf
  · cases hf
theorem denI_zip {a : As} {R : It → Hp → Prop} : denI K (iZip a) σ H R → iZipk K (denA K a) σ H R := by
  rintro ⟨c, G, ρ, ds, ρ', rfl, R0, hf, q⟩
  unfold iZip at hf
  obtain ⟨⟨os, ρ1⟩, h1, hf⟩ := Option.bind_eq_some_iff.mp hf
  refine ⟨c, G, ρ, os, ρ1, rfl, R0, h1, fun vs G1 H1 s1 R1 k1 => ?_⟩
  dsimp only at hf
  split at hf
  · obtain ⟨es1, h2, hf⟩ := Option.bind_eq_some_iff.mp hf
    obtain ⟨es2, h3, hf⟩ := Option.bind_eq_some_iff.mp hf
    cases hf
    cases k1 with
    | cons k k' =>
      cases k' with
      | cons k2 k' =>
        cases k'
        obtain ⟨kk, a, ws, rfl, hl, ia, hs⟩ := Is.seqK k h2
        obtain ⟨kk2, b, us, rfl, hl2, ib, hs2⟩ := Is.seqK k2 h3
        exact ⟨kk, kk2, a, b, ws, us, rfl, Same.sqK R1.gh hs, Same.sqK R1.gh hs2, q _ G1 H1 s1 R1 (feeds_zip hs hs2 hl ia ib)⟩
  · cases hf
theorem pdi_enum {e : Expr} {a : As} {p pos tpos : Pos} {elts : List Expr} {kk : Nat} (hg : Gl X "enumerate") (hm : X.mg "enumerate" = none) (h : PDA X [e] a) (hs : starEach [e] X.env = [(false, eval e X.env)] := by rfl) : PDI X (.Tuple elts kk tpos) (.Call (.Name "enumerate" p) [e] [] pos) (iEnum a) :=
  ⟨PIimp (pi_enumk hg hm h.pa hs) fun _ _ _ => denI_enum⟩
theorem pdi_zip {e e2 : Expr} {a : As} {p pos tpos : Pos} {elts : List Expr} {kk : Nat} (hg : Gl X "zip") (hm : X.mg "zip" = none) (h : PDA X [e, e2] a)
    (hs : starEach [e, e2] X.env = (false, eval e X.env) :: starEach [e2] X.env := by rfl) (hpl : (backTo pos (starEach [e2] X.env)).any (·.1) = false := by rfl) : PDI X (.Tuple elts kk tpos) (.Call (.Name "zip" p) [e, e2] [] pos) (iZip a) :=
  ⟨PIimp (pi_zipk hg hm h.pa hs hpl) fun _ _ _ => denI_zip⟩

/-! ### for -/
def forD (t : T) (b : S) : List D → S
  | [] => fun ρ => some (.nx, ρ)
  | d :: ds => fun ρ => (t d ρ).bind fun ρ1 => (b ρ1).bind fun p => match p.1 with
    | .nx => forD t b ds p.2
    | .ct => forD t b ds p.2
    | .bk => some (.nx, p.2)
    | .rt r => some (.rt r, p.2)
    | .ro r => some (.ro r, p.2)
def sFor (it : I) (t : T) (b : S) : S := fun ρ => (it ρ).bind fun p => forD t b p.1 p.2
theorem denS_for {is : List Nat} {it : I} {t : T} {b : S} : denS K (sFor it t b) De σ H → tFor (denI K it) (denG K is t) (denS K b) De σ H := by
  rintro ⟨c, G, ρ, r, ρ', rfl, R, hf, q⟩
  unfold sFor at hf
  obtain ⟨⟨ds, ρ1⟩, h1, hf⟩ := Option.bind_eq_some_iff.mp hf
  refine ⟨c, G, ρ, ds, ρ1, rfl, R, h1, fun J G1 H1 s1 R1 F => ?_⟩
  refine ⟨fun i m σ H => i ≤ ds.length ∧ m = ds.length - i ∧ ∃ G2 ρ2, Same G1 G2 ∧ Rep c G2 ρ2 σ H ∧ forD t b (ds.drop i) ρ2 = some (r, ρ'), ⟨ds.length, Nat.zero_le _, rfl, G1, ρ1, Same.refl _, R1, hf⟩, ?_⟩
  rintro i m σ2 H2 ⟨hi, rfl, G2, ρ2, s2, R2, e2⟩
  by_cases hlt : i < ds.length
  · refine .inr ⟨F.go i H2 (s2.trans R2.gh) hlt, fun σ' H' => ∃ G3 ρ3, Same G1 G3 ∧ Rep c G3 ρ3 σ' H' ∧ forD t b (ds.drop (i + 1)) ρ3 = some (r, ρ'), fun σ' H' ⟨G3, ρ3, s3, R3, e3⟩ => ⟨ds.length - (i + 1), by omega, hlt, rfl, G3, ρ3, s3, R3, e3⟩, fun x H3 y => ?_⟩
    have hd : ds[i]? = some ds[i] := List.getElem?_eq_getElem hlt
    rw [List.drop_eq_getElem_cons hlt] at e2
    unfold forD at e2
    obtain ⟨ρ3, h3, e2⟩ := Option.bind_eq_some_iff.mp e2
    obtain ⟨⟨r4, ρ4⟩, h4, e2⟩ := Option.bind_eq_some_iff.mp e2
    obtain ⟨G3, g3, i3⟩ := F.yld i H2 x H3 ds[i] G2 s2 R2.gh y hd
    obtain ⟨R3, s3⟩ := R2.grow g3
    refine ⟨c, G3, ρ2, ds[i], ρ3, rfl, R3, i3, h3, fun σ5 R5 _ => ⟨c, G3, ρ3, r4, ρ4, rfl, R5, h4, ?_⟩⟩
    cases r4 with
    | nx => exact fun G6 σ6 H6 s6 R6 => ⟨G6, ρ4, s2.trans (s3.trans s6), R6, e2⟩
    | ct => exact fun G6 σ6 H6 s6 R6 => ⟨G6, ρ4, s2.trans (s3.trans s6), R6, e2⟩
    | bk => cases e2; exact fun G6 σ6 H6 s6 R6 => q G6 σ6 H6 (s1.trans (s2.trans (s3.trans s6))) R6
    | rt d => cases e2; exact fun v G6 σ6 H6 s6 R6 k6 => q v G6 σ6 H6 (s1.trans (s2.trans (s3.trans s6))) R6 k6
    | ro d => cases e2; exact fun v G6 σ6 H6 s6 R6 k6 => q v G6 σ6 H6 (s1.trans (s2.trans (s3.trans s6))) R6 k6
  · have e : i = ds.length := by omega
    subst e
    rw [List.drop_length] at e2
    cases e2
    exact .inl ⟨F.stop H2 (s2.trans R2.gh), q G2 σ2 H2 (s1.trans s2) R2⟩
theorem pds_for {tg iter : Expr} {body : List Stmt} {is : List Nat} {it : I} {t : T} {b : S} {pos : Pos} (hp : PassesOwn (model X.prog X.w) X.A X.env X.xe) (hc : X.calm = true) (hi : PDI X tg iter it) (hg : PDG X tg is t) (hb : PDSs X body b)
    (hs : ∀ x, foldedSetIterable iter X.env x = pure x := by intro _; rfl) : PDS X (.For tg iter body [] pos) (sFor it t b) := ⟨PSimp (ps_for hp hc hi.pi hg.pg hb.pss hs) fun _ _ _ => denS_for⟩

/-! ### while -/
def whileF (t : B) (b : S) : Nat → S
  | 0 => fun _ => none
  | n + 1 => fun ρ => (t ρ).bind fun p => if p.1 = true then (b p.2).bind fun q => match q.1 with
      | .nx => whileF t b n q.2
      | .ct => whileF t b n q.2
      | .bk => some (.nx, q.2)
      | .rt r => some (.rt r, q.2)
      | .ro r => some (.ro r, q.2)
    else some (.nx, p.2)
theorem whileF_succ {t : B} {b : S} {n : Nat} {ρ : Rho} : whileF t b (n + 1) ρ = (t ρ).bind fun p => if p.1 = true then (b p.2).bind fun q => match q.1 with
      | .nx => whileF t b n q.2
      | .ct => whileF t b n q.2
      | .bk => some (.nx, q.2)
      | .rt r => some (.rt r, q.2)
      | .ro r => some (.ro r, q.2)
    else some (.nx, p.2) := rfl
theorem whileF_up {t : B} {b : S} : ∀ {n : Nat} {ρ : Rho} {r : Fl × Rho}, whileF t b n ρ = some r → whileF t b (n + 1) ρ = some r
  | 0, _, _, h => by cases h
  | n + 1, ρ, r, h => by
    unfold whileF at h ⊢
    obtain ⟨⟨k, ρ1⟩, h1, h⟩ := Option.bind_eq_some_iff.mp h
    rw [h1, Option.bind_some]
    cases k with
    | false => exact h
    | true =>
      simp only [if_true] at h ⊢
      obtain ⟨⟨r2, ρ2⟩, h2, h⟩ := Option.bind_eq_some_iff.mp h
      rw [h2, Option.bind_some]
      cases r2 with
      | nx => exact whileF_up h
      | ct => exact whileF_up h
      | bk => exact h
      | rt d => exact h
      | ro d => exact h
theorem whileF_le {t : B} {b : S} {n m : Nat} {ρ : Rho} {r : Fl × Rho} (h : whileF t b n ρ = some r) (hm : n ≤ m) : whileF t b m ρ = some r := by
  induction hm with
  | refl => exact h
  | step _ ih => exact whileF_up ih
open Classical in
noncomputable def sWhile (t : B) (b : S) : S := fun ρ => if h : ∃ n r, whileF t b n ρ = some r then some h.choose_spec.choose else none
theorem sWhile_of {t : B} {b : S} {n : Nat} {ρ : Rho} {r : Fl × Rho} (h : whileF t b n ρ = some r) : sWhile t b ρ = some r := by
  have hx : ∃ n r, whileF t b n ρ = some r := ⟨n, r, h⟩
  unfold sWhile
  rw [dif_pos hx]
  have q := hx.choose_spec.choose_spec
  have a := whileF_le q (Nat.le_max_left _ n)
  have c := whileF_le h (Nat.le_max_right hx.choose n)
  rw [a] at c
  exact c
theorem sWhile_fuel {t : B} {b : S} {ρ : Rho} {r : Fl × Rho} (h : sWhile t b ρ = some r) : ∃ n, whileF t b n ρ = some r := by
  unfold sWhile at h
  split at h
  · rename_i hx
    cases h
    exact ⟨_, hx.choose_spec.choose_spec⟩
  · cases h
/-- one turn -/
theorem sWhile_step {t : B} {b : S} {ρ ρ1 ρ2 : Rho} {f : Fl} (h1 : t ρ = some (true, ρ1)) (h2 : b ρ1 = some (f, ρ2)) (hf : f = .nx ∨ f = .ct) : sWhile t b ρ = sWhile t b ρ2 := by
  have up : ∀ n, whileF t b (n + 1) ρ = whileF t b n ρ2 := fun n => by
    rw [whileF_succ, h1, Option.bind_some]
    simp only [if_true, h2, Option.bind_some]
    rcases hf with rfl | rfl <;> rfl
  cases e : sWhile t b ρ2 with
  | some r =>
    obtain ⟨n, hn⟩ := sWhile_fuel e
    exact sWhile_of (n := n + 1) (by rw [up]; exact hn)
  | none =>
    cases e' : sWhile t b ρ with
    | none => rfl
    | some r =>
      obtain ⟨n, hn⟩ := sWhile_fuel e'
      cases n with
      | zero => cases hn
      | succ n => rw [up] at hn; rw [sWhile_of hn] at e; cases e
theorem sWhile_end {t : B} {b : S} {ρ ρ1 : Rho} (h1 : t ρ = some (false, ρ1)) : sWhile t b ρ = some (.nx, ρ1) := sWhile_of (n := 1) (by
  rw [whileF_succ, h1, Option.bind_some]; rfl)
theorem sWhile_brk {t : B} {b : S} {ρ ρ1 ρ2 : Rho} (h1 : t ρ = some (true, ρ1)) (h2 : b ρ1 = some (.bk, ρ2)) : sWhile t b ρ = some (.nx, ρ2) := sWhile_of (n := 1) (by
  rw [whileF_succ, h1, Option.bind_some]; simp only [if_true, h2, Option.bind_some])
theorem sWhile_ret {t : B} {b : S} {ρ ρ1 ρ2 : Rho} {d : D} (h1 : t ρ = some (true, ρ1)) (h2 : b ρ1 = some (.rt d, ρ2)) : sWhile t b ρ = some (.rt d, ρ2) := sWhile_of (n := 1) (by
  rw [whileF_succ, h1, Option.bind_some]; simp only [if_true, h2, Option.bind_some])
theorem sWhile_reto {t : B} {b : S} {ρ ρ1 ρ2 : Rho} {d : List D} (h1 : t ρ = some (true, ρ1)) (h2 : b ρ1 = some (.ro d, ρ2)) : sWhile t b ρ = some (.ro d, ρ2) := sWhile_of (n := 1) (by
  rw [whileF_succ, h1, Option.bind_some]; simp only [if_true, h2, Option.bind_some])
theorem denS_while {t : B} {b : S} : denS K (sWhile t b) De σ H → tWhile (denB K t) (denS K b) De σ H := by
  rintro ⟨c, G, ρ, r, ρ', rfl, R, hf, q⟩
  obtain ⟨n, hn⟩ := sWhile_fuel hf
  refine ⟨fun m σ H => ∃ G2 ρ2, Same G G2 ∧ Rep c G2 ρ2 σ H ∧ whileF t b m ρ2 = some (r, ρ'), ⟨n, G, ρ, Same.refl _, R, hn⟩, ?_⟩
  rintro m σ2 H2 ⟨G2, ρ2, s2, R2, e2⟩
  cases m with
  | zero => cases e2
  | succ m =>
    unfold whileF at e2
    obtain ⟨⟨k, ρ3⟩, h3, e2⟩ := Option.bind_eq_some_iff.mp e2
    refine ⟨c, G2, ρ2, k, ρ3, rfl, R2, h3, fun G3 H3 s3 R3 => ?_⟩
    cases k with
    | false =>
      rw [if_neg Bool.false_ne_true]
      cases e2
      exact q G3 σ2 H3 (s2.trans s3) R3
    | true =>
      rw [if_pos rfl]
      simp only [if_true] at e2
      obtain ⟨⟨r4, ρ4⟩, h4, e2⟩ := Option.bind_eq_some_iff.mp e2
      refine ⟨fun σ' H' => ∃ G5 ρ5, Same G G5 ∧ Rep c G5 ρ5 σ' H' ∧ whileF t b m ρ5 = some (r, ρ'), fun σ' H' h => ⟨m, Nat.lt_succ_self _, h⟩, c, G3, ρ3, r4, ρ4, rfl, R3, h4, ?_⟩
      cases r4 with
      | nx => exact fun G6 σ6 H6 s6 R6 => ⟨G6, ρ4, s2.trans (s3.trans s6), R6, e2⟩
      | ct => exact fun G6 σ6 H6 s6 R6 => ⟨G6, ρ4, s2.trans (s3.trans s6), R6, e2⟩
      | bk => cases e2; exact fun G6 σ6 H6 s6 R6 => q G6 σ6 H6 (s2.trans (s3.trans s6)) R6
      | rt d => cases e2; exact fun v G6 σ6 H6 s6 R6 k6 => q v G6 σ6 H6 (s2.trans (s3.trans s6)) R6 k6
      | ro d => cases e2; exact fun v G6 σ6 H6 s6 R6 k6 => q v G6 σ6 H6 (s2.trans (s3.trans s6)) R6 k6
theorem pds_while {e : Expr} {body : List Stmt} {t : B} {b : S} {pos : Pos} (hp : PassesOwn (model X.prog X.w) X.A X.env X.xe) (hc : PDB X e t) (hb : PDSs X body b) : PDS X (.While e body [] pos) (sWhile t b) := ⟨PSimp (ps_while hp hc.pt hb.pss) fun _ _ _ => denS_while⟩
end
end L3
set_option Elab.async false
set_option linter.all false
set_option maxRecDepth 100000
set_option maxHeartbeats 4000000
namespace L3
open PySem PySem.Spec PyProof.Rows L2
/-! ### comprehensions -/
def wipeR (ρ : Rho) : List Nat → Rho
  | [] => ρ
  | v :: vs => (wipeR ρ vs).set v none
def slot (ρ : Rho) (v : Nat) : Option Loc := match ρ[v]? with
  | some x => x
  | none => none
def backR (ρ0 ρ1 : Rho) : List Nat → Rho
  | [] => ρ1
  | v :: vs => (backR ρ0 ρ1 vs).set v (slot ρ0 v)
def nocell (ρ : Rho) (vs : List Nat) : Bool := vs.all fun v => match slot ρ v with
  | some l => !l.cell
  | none => true
def compD (t : T) (p : B) (e : E) (vs : List Nat) : List D → Rho → Option (List D × Rho)
  | [] => fun ρ => some ([], ρ)
  | d :: ds => fun ρ => (t d (wipeR ρ vs)).bind fun ρ1 => (p ρ1).bind fun q => if q.1 = true then (e q.2).bind fun r => match r.1 with
      | .fz y => (compD t p e vs ds (backR ρ r.2 vs)).bind fun z => some (y :: z.1, z.2)
      | .sl _ => none
    else compD t p e vs ds (backR ρ q.2 vs)
def nComp (it : I) (t : T) (p : B) (e : E) (vs : List Nat) : N := fun ρ => (it ρ).bind fun q => if nocell q.2 vs = true then compD t p e vs q.1 q.2 else none
def bYes : B := fun ρ => some (true, ρ)
structure PDTs (X : Cx) (ifs : List Expr) (f : B) : Prop where
  pt : PTs X ifs (denB X.K f)
theorem PTsimp {X : Cx} {e : List Expr} {t t' : TT} (h : PTs X e t) (i : ∀ σ H Q, t' σ H Q → t σ H Q) : PTs X e t' := ⟨fun pins s σ H Q I hw => h.run pins s σ H Q I (i σ H Q hw)⟩
theorem pdts_nil {X : Cx} : PDTs X [] bYes := ⟨PTsimp pts_nil fun σ H Q => by
  rintro ⟨c, G, ρ, b, ρ', _, R, hf, q⟩
  cases hf
  exact q G H (Same.refl _) R⟩
theorem pdts_one {X : Cx} {e : Expr} {f : B} (h : PDB X e f) : PDTs X [e] f := ⟨pts_one h.pt⟩
section
variable {X : Cx} {c c' : Fix} {K : PySem.W.Frag} {G G' G1 H H' H1 : Hp} {ρ ρ' ρ1 : Rho} {σ σ2 : L2.St} {De : Ends} {v : V} {d : D} {p : Addr} {u : HO}
theorem wipe_get {j : Nat} : ∀ {vs : List Nat}, (wipe σ vs)[j]? = if j ∈ vs then σ[j]?.map fun _ => none else σ[j]?
  | [] => by simp [wipe]
  | v :: vs => by
    unfold wipe
    rw [List.getElem?_set, wipe_length]
    by_cases e : v = j
    · subst e
      simp only [if_true, List.mem_cons, true_or]
      by_cases h : v < σ.length
      · simp [h]
      · simp [h]
    · simp only [if_neg e, wipe_get (vs := vs), List.mem_cons]
      have : ¬ j = v := fun z => e z.symm
      simp [this]
theorem wipeR_length : ∀ vs : List Nat, (wipeR ρ vs).length = ρ.length
  | [] => rfl
  | v :: vs => by unfold wipeR; rw [List.length_set, wipeR_length vs]
theorem backR_length : ∀ vs : List Nat, (backR ρ ρ1 vs).length = ρ1.length
  | [] => rfl
  | v :: vs => by unfold backR; rw [List.length_set, backR_length vs]
theorem backR_get {j : Nat} : ∀ {vs : List Nat}, (backR ρ ρ1 vs)[j]? = if j ∈ vs then ρ1[j]?.map fun _ => slot ρ j else ρ1[j]?
  | [] => by simp [backR]
  | v :: vs => by
    unfold backR
    rw [List.getElem?_set, backR_length]
    by_cases e : v = j
    · subst e
      simp only [if_true, List.mem_cons, true_or]
      by_cases h : v < ρ1.length
      · simp [h]
      · simp [h]
    · simp only [if_neg e, backR_get (vs := vs), List.mem_cons]
      have : ¬ j = v := fun z => e z.symm
      simp [this]
theorem wipe_ext {vs : List Nat} (hl : σ2.length = σ.length) (h : ∀ j, j ∉ vs → σ2[j]? = σ[j]?) : wipe σ2 vs = wipe σ vs := by
  apply List.ext_getElem?
  intro j
  rw [wipe_get, wipe_get]
  by_cases e : j ∈ vs
  · simp only [if_pos e]
    by_cases hj : j < σ.length
    · rw [List.getElem?_eq_getElem hj, List.getElem?_eq_getElem (by omega)]; rfl
    · rw [List.getElem?_eq_none (by omega), List.getElem?_eq_none (by omega)]
  · simp only [if_neg e]; exact h j e
theorem Rep.unset (R : Rep c G ρ σ H) {i : Nat} : Rep c G (ρ.set i none) (σ.set i none) H where
  gh := R.gh
  fh := R.fh
  xg := R.xg
  xh := R.xh
  len := by rw [List.length_set, List.length_set]; exact R.len
  loc := fun j l e => by
    rcases get_set e with ⟨_, z⟩ | ⟨ne, e⟩
    · cases z
    · obtain ⟨w, h1, h2⟩ := R.loc j l e
      exact ⟨w, by rw [List.getElem?_set_ne (Ne.symm ne)]; exact h1, h2⟩
  sep := fun j k l l' v e e' c1 c2 s1 s2 => by
    rcases get_set e with ⟨_, z⟩ | ⟨n1, e⟩
    · cases z
    · rcases get_set e' with ⟨_, z⟩ | ⟨n2, e'⟩
      · cases z
      · rw [List.getElem?_set_ne (Ne.symm n1)] at s1
        rw [List.getElem?_set_ne (Ne.symm n2)] at s2
        exact R.sep j k l l' v e e' c1 c2 s1 s2
theorem Rep.wipe (R : Rep c G ρ σ H) : ∀ vs : List Nat, Rep c G (wipeR ρ vs) (wipe σ vs) H
  | [] => R
  | v :: vs => (Rep.wipe R vs).unset
theorem slot_some {j : Nat} {l : Loc} : slot ρ j = some l ↔ ρ[j]? = some (some l) := by
  unfold slot
  constructor
  · intro h
    cases e : ρ[j]? with
    | none => rw [e] at h; cases h
    | some x => rw [e] at h; cases h; rfl
  · intro h; rw [h]
theorem Rep.back {vs : List Nat} (R0 : Rep c' G ρ σ H) (hK : c'.K = c.K) (R1 : Rep c G1 ρ1 σ2 H1) (s : Same G G1) (hl : σ2.length = σ.length) (hs : ∀ j, j ∉ vs → σ2[j]? = σ[j]?) (nc : nocell ρ vs = true) : Rep c G1 (backR ρ ρ1 vs) σ H1 where
  gh := R1.gh
  fh := R1.fh
  xg := R1.xg
  xh := R1.xh
  len := by rw [backR_length, R1.len, hl]
  loc := fun j l e => by
    rw [backR_get] at e
    by_cases hj : j ∈ vs
    · rw [if_pos hj] at e
      cases q : ρ1[j]? with
      | none => rw [q] at e; cases e
      | some x =>
        rw [q] at e
        have e : slot ρ j = some l := Option.some.inj e
        obtain ⟨w, h1, h2⟩ := R0.loc j l (slot_some.mp e)
        refine ⟨w, h1, ?_⟩
        have z := List.all_eq_true.mp nc j hj
        simp only [e] at z
        cases l with
        | val d => exact (show Is c.K G1 w d from hK ▸ Is.mono s _ _ h2)
        | own C => cases z
        | io C => cases z
    · rw [if_neg hj] at e
      obtain ⟨w, h1, h2⟩ := R1.loc j l e
      exact ⟨w, by rw [← hs j hj]; exact h1, h2⟩
  sep := fun j k l l' v e e' c1 c2 s1 s2 => by
    have key : ∀ {j : Nat} {l : Loc}, (backR ρ ρ1 vs)[j]? = some (some l) → l.cell = true → j ∉ vs ∧ ρ1[j]? = some (some l) := fun {j l} e cl => by
      rw [backR_get] at e
      by_cases hj : j ∈ vs
      · rw [if_pos hj] at e
        cases q : ρ1[j]? with
        | none => rw [q] at e; cases e
        | some x =>
          rw [q] at e
          have e : slot ρ j = some l := Option.some.inj e
          have z := List.all_eq_true.mp nc j hj
          simp only [e, cl] at z
          cases z
      · rw [if_neg hj] at e; exact ⟨hj, e⟩
    obtain ⟨n1, e⟩ := key e c1
    obtain ⟨n2, e'⟩ := key e' c2
    exact R1.sep j k l l' v e e' c1 c2 (by rw [hs j n1]; exact s1) (by rw [hs k n2]; exact s2)
theorem nocell_back {vs : List Nat} (h : nocell ρ vs = true) : nocell (backR ρ ρ1 vs) vs = true := by
  refine List.all_eq_true.mpr fun j hj => ?_
  have z := List.all_eq_true.mp h j hj
  unfold slot
  rw [backR_get, if_pos hj]
  cases q : ρ1[j]? with
  | none => rfl
  | some x => exact z
theorem New.grow {C : Cel} (N : New c G ρ σ H p C) (g : Grow G H G' H') (s : Same G H) : New c G' ρ σ H' p C := by
  induction g with
  | refl => exact N
  | @step G1 H1 q u g hp ih =>
    obtain ⟨⟨vs, hv, ha⟩, hg, hf, hx, ho⟩ := ih
    have ne : p ≠ q := fun e => by rw [e, hp] at hv; cases hv
    have sg : Same G1 (upd G1 q u) := upd_keep ((Same.grow s g).2.free hp)
    exact ⟨⟨vs, by rw [upd_ne ne]; exact hv, ha.mono sg⟩, by rw [upd_ne ne]; exact hg, hf, hx, ho⟩
/-- the new list's content is changed -/
theorem Rep.newPut {C C' : Cel} {u : HO} (R : Rep c G ρ σ H) (N : New c G ρ σ H p C) (ia : CelOk c.K G u C') : Rep c G ρ σ (upd H p u) ∧ New c G ρ σ (upd H p u) p C' := by
  obtain ⟨⟨vs, hv, ha⟩, hg, hf, hx, ho⟩ := N
  refine ⟨⟨fun b o e => ?_, fun b o e => ?_, R.xg, fun q hq => ?_, R.len, fun i l e => ?_, R.sep⟩, ⟨u, upd_same, ia⟩, hg, hf, hx, ho⟩
  · rw [upd_ne fun z => by rw [z, hg] at e; cases e]; exact R.gh b o e
  · rw [upd_ne fun z => by rw [z, hf] at e; cases e]; exact R.fh b o e
  · by_cases z : q = p
    · subst z; rw [upd_same]; simp
    · rw [upd_ne z]; exact R.xh q hq
  · obtain ⟨v, h1, h2⟩ := R.loc i l e
    refine ⟨v, h1, ?_⟩
    cases l with
    | val d => exact h2
    | own C =>
      obtain ⟨a, us, rfl, h3, h4⟩ := h2
      exact ⟨a, us, rfl, by rw [upd_ne fun z => ho i _ e rfl (by rw [h1, z])]; exact h3, h4⟩
    | io C =>
      obtain ⟨us, rfl, h3, h4⟩ := h2
      exact ⟨us, rfl, by rw [upd_ne fun z => ho i _ e rfl (by rw [h1, z])]; exact h3, h4⟩
theorem denN_comp {is : List Nat} {it : I} {t : T} {pr : B} {e : E} {vs : List Nat} {Q : VK} (his : ∀ i ∈ is, i ∈ vs) : denN K (nComp it t pr e vs) σ H Q → tLc (denI K it) (denG K is t) (denB K pr) (den K e) vs σ H Q := by
  rintro ⟨c, G, ρ, out, ρ', rfl, R, hf, q⟩
  unfold nComp at hf
  obtain ⟨⟨ds, ρ1⟩, h1, hf⟩ := Option.bind_eq_some_iff.mp hf
  dsimp only at hf
  split at hf
  case isFalse => cases hf
  rename_i nc
  refine ⟨c, G, ρ, ds, ρ1, rfl, R, h1, fun J G1 H1 s1 R1 F => ?_⟩
  intro Dl hD
  refine ⟨fun i m H => i ≤ ds.length ∧ m = ds.length - i ∧ ∃ G2 ρ2 acc rest, Same G1 G2 ∧ Rep c G2 ρ2 σ H ∧ New c G2 ρ2 σ H Dl (.l acc) ∧ acc.length ≤ i ∧ nocell ρ2 vs = true ∧ compD t pr e vs (ds.drop i) ρ2 = some (rest, ρ') ∧ acc ++ rest = out, ⟨ds.length, Nat.zero_le _, rfl, G1, ρ1, [], out, Same.refl _, R1.lay hD, New.mk' R1 hD .nil (Nat.zero_le _), Nat.le_refl _, nc, hf, rfl⟩, ?_⟩
  rintro i m H2 ⟨hi, rfl, G2, ρ2, acc, rest, s2, R2, N2, la, nc2, e2, eo⟩
  by_cases hlt : i < ds.length
  · refine .inr ⟨F.go i H2 (s2.trans R2.gh) hlt, fun H' => ∃ G3 ρ3 acc rest, Same G1 G3 ∧ Rep c G3 ρ3 σ H' ∧ New c G3 ρ3 σ H' Dl (.l acc) ∧ acc.length ≤ i + 1 ∧ nocell ρ3 vs = true ∧ compD t pr e vs (ds.drop (i + 1)) ρ3 = some (rest, ρ') ∧ acc ++ rest = out, fun H' h => ⟨ds.length - (i + 1), by omega, hlt, rfl, h⟩, fun x H3 y => ?_⟩
    have hd : ds[i]? = some ds[i] := List.getElem?_eq_getElem hlt
    rw [List.drop_eq_getElem_cons hlt] at e2
    unfold compD at e2
    obtain ⟨ρ4, h4, e2⟩ := Option.bind_eq_some_iff.mp e2
    obtain ⟨⟨b, ρ5⟩, h5, e2⟩ := Option.bind_eq_some_iff.mp e2
    obtain ⟨G3, g3, i3⟩ := F.yld i H2 x H3 ds[i] G2 s2 R2.gh y hd
    obtain ⟨R3, s3⟩ := R2.grow g3
    have N3 := N2.grow g3 R2.gh
    have N3' := N3
    obtain ⟨_, hg, hf3, hx3, _⟩ := N3'
    obtain ⟨_, cw, R4⟩ := R3.pend N3
    obtain ⟨ws, rfl, iw, hl⟩ := cw.lst
    have R5 := R4.wipe vs
    refine ⟨c.pend Dl (.lst ws), G3, wipeR ρ2 vs, ds[i], ρ4, rfl, R5, i3, h4, fun σ5 R6 k6 => ?_⟩
    have kl : σ5.length = σ.length := by rw [k6.1, wipe_length]
    have ks : ∀ j, j ∉ vs → σ5[j]? = σ[j]? := fun j hj => by
      rw [k6.2 j fun z => hj (his j z), wipe_get, if_neg hj]
    refine ⟨?_, c.pend Dl (.lst ws), G3, ρ4, b, ρ5, rfl, R6, h5, fun G6 H6 s6 R7 => ?_⟩
    · rw [wipe_ext kl ks]
    · cases b with
      | false =>
        simp only [Bool.false_eq_true, if_false] at e2 ⊢
        have R8 := Rep.back (vs := vs) R4 rfl R7 s6 kl ks nc2
        obtain ⟨R9, N9⟩ := Rep.unpend hf3 hx3 cw s6 R8
        exact ⟨G6, _, acc, rest, s2.trans (s3.trans s6), R9, N9, Nat.le_succ_of_le la, nocell_back nc2, e2, eo⟩
      | true =>
        simp only [if_true] at e2 ⊢
        obtain ⟨⟨o, ρ6⟩, h6, e2⟩ := Option.bind_eq_some_iff.mp e2
        refine ⟨c.pend Dl (.lst ws), G6, ρ5, o, ρ6, rfl, R7, h6, fun y G7 H7 s7 R8 k8 => ?_⟩
        cases o with
        | sl j => cases e2
        | fz z =>
          obtain ⟨⟨rest', ρ7⟩, h7, e2⟩ := Option.bind_eq_some_iff.mp e2
          cases e2
          have R9 := Rep.back (vs := vs) R4 rfl R8 (s6.trans s7) kl ks nc2
          obtain ⟨R10, N10⟩ := Rep.unpend hf3 hx3 cw (s6.trans s7) R9
          have iw' := IsAll.mono (s6.trans s7) _ _ iw
          have hlw : ws.length = acc.length := iw.len
          have hD7 : H7 Dl = some (.lst ws) := R8.fh Dl _ upd_same
          obtain ⟨R11, N11⟩ := R10.newPut N10 (.l (iw'.append (.sing k8)) (by rw [List.length_append, List.length_singleton]; have := F.len; omega))
          exact ⟨ws, hD7, by rw [hlw]; have := F.len; omega, G7, _, acc ++ [z], rest', s2.trans (s3.trans (s6.trans s7)), R11, N11, by rw [List.length_append, List.length_singleton]; omega, nocell_back nc2, h7, by rw [List.append_assoc]; exact eo⟩
  · have e : i = ds.length := by omega
    subst e
    rw [List.drop_length] at e2
    cases e2
    rw [List.append_nil] at eo
    subst eo
    exact .inl ⟨F.stop H2 (s2.trans R2.gh), q Dl G2 H2 (s1.trans s2) R2 N2⟩
theorem pdn_comp {elt tg iter : Expr} {ifs : List Expr} {scope : Scope} {own : List (Str × Nat)} {pos : Pos} {is : List Nat} {it : I} {t : T} {pr : B} {e : E} (hc : X.calm = true) (hN : X.N.Nodup) (hi : PDI X tg iter it) (ok : blkC X.N X.env.scope scope own = true)
    (hg : ∀ (s : Shared) (H : Hp) (C : Addr) (cl : List (Str × Addr)) (fp : List Addr), PDG (X.blk s H scope (compEnvC scope cl C X.env) fp) tg is t) (ht : ∀ (s : Shared) (H : Hp) (C : Addr) (cl : List (Str × Addr)) (fp : List Addr), PDTs (X.blk s H scope (compEnvC scope cl C X.env) fp) ifs pr)
    (he : ∀ (s : Shared) (H : Hp) (C : Addr) (cl : List (Str × Addr)) (fp : List Addr), PD (X.blk s H scope (compEnvC scope cl C X.env) fp) elt e) (his : is.all (fun i => (own.map (·.2)).contains i) = true := by rfl) (hs : ∀ x, foldedSetIterable iter X.env x = pure x := by intro _; rfl) :
    PDN X (.ListComp elt [⟨tg, iter, ifs, 0⟩] scope pos) (nComp it t pr e (own.map (·.2))) :=
  ⟨PEimp (pe_lc hc hN hi.pi (blkOk_by ok) (fun s H C cl fp => (hg s H C cl fp).pg) (fun s H C cl fp => (ht s H C cl fp).pt) (fun s H C cl fp => (he s H C cl fp).pe) hs) fun _ _ _ => denN_comp fun i hi => List.contains_iff_mem.mp (List.all_eq_true.mp his i hi)⟩
theorem pds_setComp {i : Nat} {y : Str} {py : Pos} {elt tg iter : Expr} {ifs : List Expr} {scope : Scope} {own : List (Str × Nat)} {pos spos : Pos} {is : List Nat} {it : I} {t : T} {pr : B} {e : E} (hc : X.calm = true) (hN : X.N.Nodup) (hy : X.N[i]? = some y) (hyl : X.env.scope.names.lookup y = some .local)
    (hsw : swapsWith (.ListComp elt [⟨tg, iter, ifs, 0⟩] scope pos) (some (.Name y py)) spos.line X.env = pure true) (hi : PDI X tg iter it) (ok : blkC X.N X.env.scope scope own = true)
    (hg : ∀ (s : Shared) (H : Hp) (C : Addr) (cl : List (Str × Addr)) (fp : List Addr), PDG (X.blk s H scope (compEnvC scope cl C X.env) fp) tg is t) (ht : ∀ (s : Shared) (H : Hp) (C : Addr) (cl : List (Str × Addr)) (fp : List Addr), PDTs (X.blk s H scope (compEnvC scope cl C X.env) fp) ifs pr)
    (he : ∀ (s : Shared) (H : Hp) (C : Addr) (cl : List (Str × Addr)) (fp : List Addr), PD (X.blk s H scope (compEnvC scope cl C X.env) fp) elt e) (his : is.all (fun i => (own.map (·.2)).contains i) = true := by rfl) (hs : ∀ x, foldedSetIterable iter X.env x = pure x := by intro _; rfl) :
    PDS X (.Assign [.Name y py] (.ListComp elt [⟨tg, iter, ifs, 0⟩] scope pos) spos) (sSet i (lN (nComp it t pr e (own.map (·.2))))) :=
  ⟨PSimp (ps_setLc hc hN hy hyl hsw hi.pi (blkOk_by ok) (fun s H C cl fp => (hg s H C cl fp).pg) (fun s H C cl fp => (ht s H C cl fp).pt) (fun s H C cl fp => (he s H C cl fp).pe) hs) fun De σ H h =>
    denN_comp (fun i hi => List.contains_iff_mem.mp (List.all_eq_true.mp his i hi)) (denL_n (denS_set h))⟩
end
end L3
set_option Elab.async false
set_option linter.all false
set_option maxRecDepth 100000
set_option maxHeartbeats 4000000
namespace PySem
open PySem PyProof
theorem l3_extend_of (l : Addr) (items : Array Value) (n : Nat) (b : Addr) (items2 : Array Value) (n2 : Nat) (o : Obj) (hoc : o.cls = .type "tuple" ∨ o.cls = .type "list") (hod : o.data = .seq items2 n2) (hs0 : ¬(!items.isEmpty && Builtin.List.listTooLong (items.size + items2.size)) = true) (hs1 : items.size ≤ sizeLine) (hs2 : items.size + items2.size ≤ sizeLine + 1) :
    Meets (Builtin.«list.extend» ⟨[.ref l, .ref b], []⟩) (fun _ R s => s.heap.get? l = some { cls := .type "list", dict := none, data := .seq items n, slots := #[] } ∧ s.heap.get? b = some o ∧ R (.ok (.ret Value.none)) { s with heap := s.heap.update l (Obj.mapSeq fun x => x ++ items2) }) :=
  .of_wp fun prog w A R s h => by
    obtain ⟨hp, g, d, tk, os⟩ := s; obtain ⟨hl, hb, h⟩ := h; have f1 := AutoSeq1.idx_int; have f2 := AutoSeq1.sub_tuple_tuple; have f3 := AutoSeq1.sub_list_list; have f4 := AutoSeq1.sub_tuple_list; have f5 := AutoSeq1.sub_list_tuple;
    obtain ⟨ocl, odt, oda, osl⟩ := o
    have hz' : (items ++ items2).size ≤ sizeLine + 1 := by rw [Array.size_append]; exact hs2
    rcases hoc with hoc | hoc
    · simp only at hoc hod; subst hoc; subst hod
      wp_walk using (wpAny_updateSeq hl rfl (hz := hs1) (_hz' := hz')), wpAny_loadPart' hl, wpAny_loadPart' hb; exact ⟨_, rfl, h⟩
    · simp only at hoc hod; subst hoc; subst hod
      wp_walk using (wpAny_updateSeq hl rfl (hz := hs1) (_hz' := hz')), wpAny_loadPart' hl, wpAny_loadPart' hb; exact ⟨_, rfl, h⟩
end PySem
namespace L3
open PySem PySem.Spec PyProof.Rows L2
/-! ### cells are changed -/
def celAt (ρ : Rho) (i : Nat) : Option Cel := match slot ρ i with
  | some (.own C) => some C
  | some (.io C) => some C
  | _ => none
def putAt (ρ : Rho) (i : Nat) (C : Cel) : Rho := match slot ρ i with
  | some (.own _) => ρ.set i (some (.own C))
  | some (.io _) => ρ.set i (some (.io C))
  | _ => ρ
section
variable {X : Cx} {c c' : Fix} {K : PySem.W.Frag} {G G' G1 H H' H1 : Hp} {ρ ρ' ρ1 : Rho} {σ σ2 : L2.St} {De : Ends} {v : V} {d : D} {p a : Addr} {u : HO} {C C' : Cel} {i : Nat}
theorem Rep.cell (R : Rep c G ρ σ H) (e : celAt ρ i = some C) : ∃ a u, σ[i]? = some (some (.ref a)) ∧ H a = some u ∧ CelOk c.K G u C ∧ G a = none ∧ c.F a = none := by
  unfold celAt at e
  split at e
  · rename_i C' e1
    cases e
    obtain ⟨v, h1, a, u, rfl, h2, h3, h4, h5, h6⟩ := R.loc i _ (slot_some.mp e1)
    exact ⟨a, u, h1, h2, h3, h4, h5⟩
  · rename_i C' e1
    cases e
    obtain ⟨v, h1, u, rfl, h2, h3, h4, h5⟩ := R.loc i _ (slot_some.mp e1)
    exact ⟨_, u, h1, h2, h3, h4, h5⟩
  · cases e
theorem Rep.putL {l l' : Loc} (R : Rep c G ρ σ H) (e : ρ[i]? = some (some l)) (hc : l.cell = true) (hs : σ[i]? = some (some (.ref a))) (hn : LocOk c G (upd H a u) (.ref a) l') (hg : G a = none) (hf : c.F a = none) : Rep c G (ρ.set i (some l')) σ (upd H a u) where
  gh := fun b o q => by rw [upd_ne fun z => by rw [z, hg] at q; cases q]; exact R.gh b o q
  fh := fun b o q => by rw [upd_ne fun z => by rw [z, hf] at q; cases q]; exact R.fh b o q
  xg := R.xg
  xh := fun q hq => by
    by_cases z : q = a
    · subst z; rw [upd_same]; simp
    · rw [upd_ne z]; exact R.xh q hq
  len := by rw [List.length_set]; exact R.len
  loc := fun j l2 q => by
    rcases get_set q with ⟨rfl, z⟩ | ⟨ne, q⟩
    · cases z; exact ⟨_, hs, hn⟩
    · obtain ⟨v, h1, h2⟩ := R.loc j l2 q
      refine ⟨v, h1, ?_⟩
      cases l2 with
      | val d => exact h2
      | own C2 =>
        obtain ⟨b, u2, rfl, h3, h4⟩ := h2
        exact ⟨b, u2, rfl, by rw [upd_ne fun z => ne (R.sep j i _ _ _ q e rfl hc h1 (by rw [hs, z]))]; exact h3, h4⟩
      | io C2 =>
        obtain ⟨u2, rfl, h3, h4⟩ := h2
        exact ⟨u2, rfl, by rw [upd_ne fun z => ne (R.sep j i _ _ _ q e rfl hc h1 (by rw [hs, z]))]; exact h3, h4⟩
  sep := fun j k l1 l2 w e1 e2 c1 c2 s1 s2 => by
    have key : ∀ {j : Nat} {l2 : Loc}, (ρ.set i (some l'))[j]? = some (some l2) → l2.cell = true → ∃ l3, ρ[j]? = some (some l3) ∧ l3.cell = true := fun {j l2} q cq => by
      rcases get_set q with ⟨rfl, z⟩ | ⟨ne, q⟩
      · exact ⟨l, e, hc⟩
      · exact ⟨l2, q, cq⟩
    obtain ⟨l3, q1, d1⟩ := key e1 c1
    obtain ⟨l4, q2, d2⟩ := key e2 c2
    exact R.sep j k l3 l4 w q1 q2 d1 d2 s1 s2
theorem Rep.put (R : Rep c G ρ σ H) (e : celAt ρ i = some C) (hs : σ[i]? = some (some (.ref a))) (ok : CelOk c.K G u C') : Rep c G (putAt ρ i C') σ (upd H a u) := by
  unfold celAt at e
  unfold putAt
  split at e
  · rename_i C2 e1
    have e2 := slot_some.mp e1
    obtain ⟨v, h1, b, u', rfl, h2, h3, h4, h5, h6⟩ := R.loc i _ e2
    rw [hs] at h1; cases h1
    exact R.putL e2 rfl hs ⟨a, u, rfl, upd_same, ok, h4, h5, h6⟩ h4 h5
  · rename_i C2 e1
    have e2 := slot_some.mp e1
    obtain ⟨v, h1, u', rfl, h2, h3, h4, h5⟩ := R.loc i _ e2
    rw [hs] at h1; cases h1
    exact R.putL e2 rfl hs ⟨u, rfl, upd_same, ok, h4, h5⟩ h4 h5
  · cases e
/-- x.append(f) -/
def sApp (i : Nat) (f : E) : S := fun ρ => match celAt ρ i with
  | some (.l _) => (f ρ).bind fun p => match p.1, celAt p.2 i with
    | .fz d, some (.l ds) => if ds.length < sizeLine then some (.nx, putAt p.2 i (.l (ds ++ [d]))) else none
    | _, _ => none
  | _ => none
theorem tyV_cell (R : Rep c G ρ σ H) {ds : List D} (e : celAt ρ i = some (.l ds)) : ∃ a, σ[i]? = some (some (.ref a)) ∧ tyV c.K "list" (.ref a) H := by
  obtain ⟨a, u, h1, h2, h3, _⟩ := R.cell e
  obtain ⟨vs, rfl, _⟩ := h3.lst
  exact ⟨a, h1, .inl ⟨rfl, vs, SqL.of h2⟩⟩
theorem denS_app {f : E} : denS K (sApp i f) De σ H → tDrop (tBM K "list" rAppend (tVar i) (denA K (aCons f aNil))) De σ H := by
  rintro ⟨c, G, ρ, r, ρ', rfl, R, hf, q⟩
  unfold sApp at hf
  split at hf
  case h_2 => cases hf
  rename_i ds0 e0
  obtain ⟨⟨o, ρ1⟩, h1, hf⟩ := Option.bind_eq_some_iff.mp hf
  obtain ⟨a, hs, ty⟩ := tyV_cell R e0
  refine ⟨_, hs, ty, c, G, ρ, [o], ρ1, rfl, R, by unfold aCons; rw [h1]; rfl, fun vs G1 H1 s1 R1 k1 => ?_⟩
  cases k1 with
  | cons k k' =>
    cases k'
    dsimp only at hf
    split at hf
    · rename_i x1 x2 x3 x4 d ds x5 e1
      split at hf
      · cases hf
        rename_i hlt
        obtain ⟨b, u, hs2, hb, ok, _⟩ := R1.cell e1
        rw [hs] at hs2; cases hs2
        obtain ⟨ws, rfl, iw, hl⟩ := ok.lst
        refine ⟨a, ws, _, rfl, rfl, hb, by rw [iw.len]; exact hlt, ?_⟩
        exact q G1 σ _ s1 (R1.put e1 hs (.l (iw.append (.sing k)) (by rw [List.length_append, List.length_singleton]; omega)))
      · cases hf
    · cases hf
theorem plist : PlainAttrs "list" := PySem.F.plainAttrs_list
theorem pds_app {x e : Expr} {f : E} {apos cpos pos : Pos} (hx : PE X x (tVar i)) (he : PD X e f)
    (hbase : attributeBase x "append" X.env (eval x X.env) = eval x X.env := by rfl)
    (hfew : ((backTo cpos (starEach [e] X.env)).all (fun x => !x.1) && (backToKw cpos (keywordEach [] X.env)).all (fun x => x.1.isSome)
      && decide (([e] : List Expr).length + ([] : List Keyword).length + (if ([] : List Keyword).isEmpty then 0 else 1) < 30)) = true := by rfl)
    (hline : (apos.endLine == cpos.line) = true := by rfl) (hs : starEach [e] X.env = (false, eval e X.env) :: starEach [] X.env := by rfl) (hplain : (backTo cpos (starEach [] X.env)).any (·.1) = false := by rfl)
    (hsw : swapsWith (.Call (.Attribute x "append" apos) [e] [] cpos) none pos.line X.env = pure false := by rfl) :
    PDS X (.Expr (.Call (.Attribute x "append" apos) [e] [] cpos) pos) (sApp i f) :=
  ⟨PSimp (ps_expr (pe_bm plist PySem.F.slot_list_append PySem.F.type_list_append mt_append hx (pda_cons he pda_nil hs).pa hbase hfew hline hs hplain) hsw) fun _ _ _ => denS_app⟩
/-- list.extend by a list or a tuple -/
def rExtK (K : PySem.W.Frag) : V → List V → Hp → VK → Prop := fun x vs H Q => ∃ l b xs zs, x = .ref l ∧ vs = [.ref b] ∧ H l = some (.lst xs) ∧ (SqL K H b zs ∨ SqT K H b zs) ∧ xs.length + zs.length ≤ sizeLine ∧ Q .non (upd H l (.lst (xs ++ zs)))
theorem mt_extK : MtR X "list.extend" (rExtK X.K) := by
  intro pins s σ H x vs v us Q I rx rv h
  obtain ⟨l, b, xs, zs, rfl, rfl, hH, hB, hz, q⟩ := h
  cases rx
  obtain ⟨u, rfl, ru⟩ := rv.one
  cases ru
  obtain ⟨z, its, n, r, hl, e⟩ := I.lstM hH
  rcases hB with hB | hB
  · obtain ⟨its2, r2, ⟨o2, n2, e2, hc2, _, hd2⟩, hz2⟩ := I.list hB
    have hl2 := r2.length
    have hsz : its.toArray.size + its2.toArray.size ≤ sizeLine := by rw [List.size_toArray, List.size_toArray]; omega
    have hlong : ¬ (!its.toArray.isEmpty && Builtin.List.listTooLong (its.toArray.size + its2.toArray.size)) = true := by
      rw [notLongL hsz, Bool.and_false]
      exact Bool.false_ne_true
    refine call_meets F.slot_list_extend ⟨_, e, rfl⟩ F.entry_list_extend (F.args_list_extend_2 _ _)
      (PySem.l3_extend_of l its.toArray n b its2.toArray n2 o2 (.inr hc2) hd2 hlong (by rw [List.size_toArray]; omega) (by omega)) ⟨e, e2, ?_⟩
    refine ⟨.non, _, I.lset (its' := its ++ its2) hH e (by simp) (r.append r2) ?_, rfl, q⟩
    rw [List.length_append]
    omega
  · obtain ⟨its2, r2, ⟨o2, e2, hc2, n2, hd2⟩, hz2⟩ := I.tuple hB
    have hl2 := r2.length
    have hsz : its.toArray.size + its2.toArray.size ≤ sizeLine := by rw [List.size_toArray, List.size_toArray]; omega
    have hlong : ¬ (!its.toArray.isEmpty && Builtin.List.listTooLong (its.toArray.size + its2.toArray.size)) = true := by
      rw [notLongL hsz, Bool.and_false]
      exact Bool.false_ne_true
    refine call_meets F.slot_list_extend ⟨_, e, rfl⟩ F.entry_list_extend (F.args_list_extend_2 _ _)
      (PySem.l3_extend_of l its.toArray n b its2.toArray n2 o2 (.inl hc2) hd2 hlong (by rw [List.size_toArray]; omega) (by omega)) ⟨e, e2, ?_⟩
    refine ⟨.non, _, I.lset (its' := its ++ its2) hH e (by simp) (r.append r2) ?_, rfl, q⟩
    rw [List.length_append]
    omega
/-- x.extend(f) -/
def sExt (i : Nat) (f : E) : S := fun ρ => match celAt ρ i with
  | some (.l _) => (f ρ).bind fun p => match (look p.2 p.1).bind itemsOf, celAt p.2 i with
    | some es, some (.l ds) => if ds.length + es.length ≤ sizeLine then some (.nx, putAt p.2 i (.l (ds ++ es))) else none
    | _, _ => none
  | _ => none
theorem denS_ext {f : E} : denS K (sExt i f) De σ H → tDrop (tBM K "list" (rExtK K) (tVar i) (denA K (aCons f aNil))) De σ H := by
  rintro ⟨c, G, ρ, r, ρ', rfl, R, hf, q⟩
  unfold sExt at hf
  split at hf
  case h_2 => cases hf
  rename_i ds0 e0
  obtain ⟨⟨o, ρ1⟩, h1, hf⟩ := Option.bind_eq_some_iff.mp hf
  obtain ⟨a, hs, ty⟩ := tyV_cell R e0
  refine ⟨_, hs, ty, c, G, ρ, [o], ρ1, rfl, R, by unfold aCons; rw [h1]; rfl, fun vs G1 H1 s1 R1 k1 => ?_⟩
  cases k1 with
  | cons k k' =>
    cases k'
    dsimp only at hf
    split at hf
    · rename_i x2 x3 es ds e2 e1
      split at hf
      · cases hf
        rename_i hlt
        obtain ⟨d, e3, e4⟩ := Option.bind_eq_some_iff.mp e2
        obtain ⟨b, u, hs2, hb, ok, _⟩ := R1.cell e1
        rw [hs] at hs2; cases hs2
        obtain ⟨ws, rfl, iw, hl⟩ := ok.lst
        obtain ⟨p2, zs, rfl, hz, iz, lz⟩ := View.items R1.gh (R1.view k e3) e4
        refine ⟨a, p2, ws, zs, rfl, rfl, hb, hz.symm, by rw [iw.len, iz.len]; exact hlt, ?_⟩
        exact q G1 σ _ s1 (R1.put e1 hs (.l (iw.append iz) (by rw [List.length_append]; omega)))
      · cases hf
    · cases hf
theorem pds_ext {x e : Expr} {f : E} {apos cpos pos : Pos} (hx : PE X x (tVar i)) (he : PD X e f)
    (hbase : attributeBase x "extend" X.env (eval x X.env) = eval x X.env := by rfl)
    (hfew : ((backTo cpos (starEach [e] X.env)).all (fun x => !x.1) && (backToKw cpos (keywordEach [] X.env)).all (fun x => x.1.isSome)
      && decide (([e] : List Expr).length + ([] : List Keyword).length + (if ([] : List Keyword).isEmpty then 0 else 1) < 30)) = true := by rfl)
    (hline : (apos.endLine == cpos.line) = true := by rfl) (hs : starEach [e] X.env = (false, eval e X.env) :: starEach [] X.env := by rfl) (hplain : (backTo cpos (starEach [] X.env)).any (·.1) = false := by rfl)
    (hsw : swapsWith (.Call (.Attribute x "extend" apos) [e] [] cpos) none pos.line X.env = pure false := by rfl) :
    PDS X (.Expr (.Call (.Attribute x "extend" apos) [e] [] cpos) pos) (sExt i f) :=
  ⟨PSimp (ps_expr (pe_bm plist PySem.F.slot_list_extend PySem.F.type_list_extend mt_extK hx (pda_cons he pda_nil hs).pa hbase hfew hline hs hplain) hsw) fun _ _ _ => denS_ext⟩
/-- x.pop() -/
def ePop (i : Nat) : E := fun ρ => match celAt ρ i with
  | some (.l ds) => match ds[ds.length - 1]? with
    | some d => some (.fz d, putAt ρ i (.l ds.dropLast))
    | none => none
  | _ => none
theorem den_pop {Q : VK} : den K (ePop i) σ H Q → tBM0 K "list" rPop (tVar i) σ H Q := by
  rintro ⟨c, G, ρ, r, ρ', rfl, R, hf, q⟩
  unfold ePop at hf
  split at hf
  case h_2 => cases hf
  rename_i ds e0
  split at hf
  case h_2 => cases hf
  rename_i d ed
  cases hf
  obtain ⟨a, hs, ty⟩ := tyV_cell R e0
  obtain ⟨b, u, hs2, hb, ok, _⟩ := R.cell e0
  rw [hs] at hs2; cases hs2
  obtain ⟨ws, rfl, iw, hl⟩ := ok.lst
  obtain ⟨y, ey, iy⟩ := iw.get ed
  refine ⟨_, hs, ty, a, ws, y, rfl, rfl, hb, by rw [iw.len]; exact ey, ?_⟩
  exact q y G _ (Same.refl _) (R.put e0 hs (.l iw.dropLast (by rw [List.length_dropLast]; omega))) iy
theorem pd_pop {x : Expr} {apos cpos : Pos} (hx : PE X x (tVar i))
    (hbase : attributeBase x "pop" X.env (eval x X.env) = eval x X.env := by rfl) (hline : (apos.endLine == cpos.line) = true := by rfl) : PD X (.Call (.Attribute x "pop" apos) [] [] cpos) (ePop i) :=
  ⟨PEimp (pe_bm0 plist PySem.F.slot_list_pop PySem.F.type_list_pop mt_pop hx hbase hline) fun _ _ _ => den_pop⟩
/-- an expression as a statement -/
def sDrop (f : E) : S := fun ρ => (f ρ).bind fun p => some (.nx, p.2)
theorem pds_drop {e : Expr} {f : E} {pos : Pos} (h : PD X e f) (hs : swapsWith e none pos.line X.env = pure false := by rfl) : PDS X (.Expr e pos) (sDrop f) := ⟨PSimp (ps_expr h.pe hs) fun De σ H => by
  rintro ⟨c, G, ρ, r, ρ', eK, R, hf, q⟩
  obtain ⟨⟨o, ρ1⟩, h1, hf⟩ := Option.bind_eq_some_iff.mp hf
  cases hf
  exact ⟨c, G, ρ, o, ρ1, eK, R, h1, fun v G1 H1 s1 R1 _ => q G1 σ H1 s1 R1⟩⟩
/-- x[g] = f -/
def sPut (i : Nat) (f g : E) : S := fun ρ => (f ρ).bind fun p => match p.1 with
  | .fz d => match celAt p.2 i with
    | some (.l _) => (g p.2).bind fun q => match q.1, celAt q.2 i with
      | .fz (.int k), some (.l ds) => (ixN ds.length k).bind fun j => some (.nx, putAt q.2 i (.l (ds.set j d)))
      | _, _ => none
    | _ => none
  | _ => none
theorem denS_put {f g : E} : denS K (sPut i f g) De σ H → tAsg (den K f) (gSub (tVar i) (den K g) rSetL) De σ H := by
  rintro ⟨c, G, ρ, r, ρ', rfl, R, hf, q⟩
  unfold sPut at hf
  obtain ⟨⟨o, ρ1⟩, h1, hf⟩ := Option.bind_eq_some_iff.mp hf
  refine ⟨c, G, ρ, o, ρ1, rfl, R, h1, fun v G1 H1 s1 R1 k1 => ?_⟩
  cases o with
  | sl i => cases hf
  | fz d =>
    dsimp only at hf
    split at hf
    case h_2 => cases hf
    rename_i ds0 e0
    obtain ⟨⟨o2, ρ2⟩, h2, hf⟩ := Option.bind_eq_some_iff.mp hf
    obtain ⟨a, u, hs, _⟩ := R1.cell e0
    refine ⟨_, hs, c, G1, ρ1, o2, ρ2, rfl, R1, h2, fun w G2 H2 s2 R2 k2 => ?_⟩
    dsimp only at hf
    split at hf
    · rename_i k ds e1
      obtain ⟨j, hj, hf⟩ := Option.bind_eq_some_iff.mp hf
      cases hf
      obtain ⟨b, u, hs2, hb, ok, _⟩ := R2.cell e1
      rw [hs] at hs2; cases hs2
      obtain ⟨ws, rfl, iw, hl⟩ := ok.lst
      cases k2
      refine ⟨a, ws, k, j, rfl, rfl, hb, by rw [iw.len]; exact hj, ?_⟩
      exact q G2 σ _ (s1.trans s2) (R2.put e1 hs (.l (iw.set j (Is.mono s2 _ _ k1)) (by rw [List.length_set]; exact hl)))
    · cases hf
theorem pds_put {x g e : Expr} {f fg : E} {tpos pos : Pos} (hx : PE X x (tVar i)) (hg : PD X g fg) (he : PD X e f)
    (ha : ∀ v, assign (.Subscript x g tpos) X.env v = (do
      let ov ← holding [v] (eval x X.env)
      let iv ← holding [v, ov] (eval g X.env)
      standAt tpos
      holding [v, ov, iv] (setItem ov iv v)
      release [v, ov, iv] []) := by intro _; rfl)
    (hs : swapsWithSole [.Subscript x g tpos] e pos.line X.env = pure false := by rfl) (hw : swappedStores [.Subscript x g tpos] e X.env = pure none := by rfl)
    (h1 : (assignEach [.Subscript x g tpos] X.env).map (·.2) = [assign (.Subscript x g tpos) X.env] := by rfl) : PDS X (.Assign [.Subscript x g tpos] e pos) (sPut i f fg) :=
  ⟨PSimp (ps_asg he.pe (pg_sub hx hg.pe set_list ha) hs hw h1) fun _ _ _ => denS_put⟩
end
end L3
set_option Elab.async false
set_option linter.all false
set_option maxRecDepth 100000
set_option maxHeartbeats 4000000
namespace L2
open PySem PySem.Spec PyProof.Rows
/-- {k: v}, k a tuple of ints and texts -/
def tDisp1T (tk tv : TE) : TE := fun σ H Q => ∀ p, H p = none → tk σ (upd H p (.dT [])) fun x H1 => tv σ H1 fun y H2 => H2 p = some (.dT []) ∧ ∃ b ks, x = .ref b ∧ H2 b = some (.tup (ks.map kV)) ∧ Q (.ref p) (upd H2 p (.dT [(ks, y)]))
theorem pe_disp1T {X : Cx} {pos : Pos} {k v : Expr} {tk tv : TE} (hu : X.A.units + 1 < cLine) (hk : PE X k tk) (hv : PE X v tv) : PE X (.Dict [some k] [v] pos) (tDisp1T tk tv) := by
  refine ⟨fun pins s σ H Q I q => ?_⟩
  have hn := I.hok.fresh (Nat.le_refl s.heap.objs.size)
  have I1 := I.laid (a := s.heap.objs.size) (o := .dT []) (h' := s.heap.push { cls := .type "dict", data := .dict #[] }) (t' := s.toks) (fun _ _ q => Heap.get?_push_of_some _ q) (Nat.le_refl _) (dt_empty s.heap I.big)
  rw [arm_eval_Dict, zip_pairTrees [some k] [v] X.env pos rfl rfl, dictDisplay_pairs _ (by simp [pairTrees]) (by simp [pairTrees])]
  refine wpAny_bind (wpAny_standAt (wpAny_bind ?_))
  unfold subDict
  refine wpAny_bind (wpAny_alloc ?_)
  refine wpAny_bind (wpAny_holding ?_)
  rw [if_pos (by simp [pairTrees])]
  refine wpAny_bind (pairTrees_cons_walk (thn (hk.run pins _ σ _ _ I1 (q _ hn)) fun kv s1 ⟨x, H1, I1, rx, q1⟩ => thn (hv.run pins s1 σ H1 _ I1 q1) fun vv s2 ⟨y, H2, I2, ry, q2⟩ => pairTrees_nil_walk ?_))
  obtain ⟨e, b, ks, rfl, eb, q2⟩ := q2
  cases rx
  refine wpAny_holding ?_
  rw [List.forIn_cons]
  have hlt : (0 : Nat) < sizeLine := by decide
  obtain ⟨z, hd, xs, rel, dd⟩ := dt_of I2.hok e
  cases rel
  refine wpAny_bind (wpAny_bind (wpAny_bind (wpAny_dictSet_heap (hsz := Nat.zero_le _) (knd := tupleKind (mixKind X.prog X.w)) (by show X.A.units < cLine; omega) (key_of I2.hok eb) dd fun h' dd' hs => wpAny_pure ?_)))
  show wpAny _ _ (forIn [] PUnit.unit _) _ _ _
  rw [List.forIn_nil]
  refine wpAny_pure (wpAny_pure (wpAny_pure (wpAny_pure ?_)))
  obtain ⟨qo, es, ep, hq, h2, h3, h4, _, h5⟩ := dd'
  have ok : ObjOk X.prog X.w (upd H2 s.heap.objs.size (.dT [(ks, y)])) h' s.heap.objs.size (.dT [(ks, y)]) :=
    ⟨hlt, hd, _, ((show KT H2 [] [] from .nil).put ks eb ry).keeps fun c ys ec => by
      rw [upd_ne (ne_of ec e (fun z => nomatch z))]
      exact ec, qo, es, ep, hq, h2, h3, h4, h5⟩
  exact ⟨.ref s.heap.objs.size, _, d_write I2 (by rw [e]; exact True.intro) hs ⟨qo, hq⟩ ok, rfl, q2⟩
end L2

namespace L3
open PySem PySem.Spec PyProof.Rows L2
/-! ### dicts -/
def keyD : D → Option Key
  | .int i => some (.inl i)
  | .str x => some (.inr x)
  | _ => none
def keysD : List D → Option (List Key)
  | [] => some []
  | d :: ds => (keyD d).bind fun k => (keysD ds).bind fun ks => some (k :: ks)
def tkeyD : D → Option (List Key)
  | .tuple ds => keysD ds
  | _ => none
def valD {κ : Type} [DecidableEq κ] (es : List (κ × D)) (k : κ) : Option D := (es.find? fun kv => decide (kv.1 = k)).map (·.2)
def putD {κ : Type} [DecidableEq κ] (es : List (κ × D)) (k : κ) (d : D) : List (κ × D) :=
  if (es.any fun kv => decide (kv.1 = k)) = true then es.map (fun kv => if kv.1 = k then (kv.1, d) else kv) else es ++ [(k, d)]
/-- what a dict holds at a key -/
def getC : Cel → D → Option (Option D)
  | .k es, d => (keyD d).bind fun k => some (valD es k)
  | .t es, d => (tkeyD d).bind fun k => some (valD es k)
  | .l _, _ => none
def putC : Cel → D → D → Option Cel
  | .k es, d, z => (keyD d).bind fun k => if es.length < sizeLine then some (.k (putD es k z)) else none
  | .t es, d, z => (tkeyD d).bind fun k => if es.length < sizeLine then some (.t (putD es k z)) else none
  | .l _, _, _ => none
section
variable {X : Cx} {c c' : Fix} {K : PySem.W.Frag} {G G' G1 H H' H1 : Hp} {ρ ρ' ρ1 : Rho} {σ σ2 : L2.St} {De : Ends} {v : V} {d z : D} {p a : Addr} {u : HO} {C C' : Cel} {i : Nat}
theorem Is.key {k : Key} (h : Is K G v d) (e : keyD d = some k) : v = kV k := by
  cases d with
  | int i => cases e; cases h; rfl
  | str x => cases e; cases h; rfl
  | _ => cases e
theorem IsAll.keys : ∀ {vs : List V} {ds : List D} {ks : List Key}, IsAll K G vs ds → keysD ds = some ks → vs = ks.map kV
  | [], [], ks, _, e => by cases e; rfl
  | v :: vs, d :: ds, ks, .cons a b, e => by
    unfold keysD at e
    obtain ⟨k, h1, e⟩ := Option.bind_eq_some_iff.mp e
    obtain ⟨ks', h2, e⟩ := Option.bind_eq_some_iff.mp e
    cases e
    rw [a.key h1, IsAll.keys b h2]; rfl
theorem Is.tkey {ks : List Key} (h : Is K G v d) (e : tkeyD d = some ks) : ∃ b, v = .ref b ∧ G b = some (.tup (ks.map kV)) := by
  cases d with
  | tuple ds =>
    have e : keysD ds = some ks := e
    cases h with
    | @tup b vs _ t l a => exact ⟨b, rfl, by have q := IsAll.keys a e; rw [← q]; exact t⟩
  | _ => cases e
theorem kv_val {κ : Type} [DecidableEq κ] (k : κ) : ∀ {kvs : List (κ × V)} {es : List (κ × D)}, kvs.map (·.1) = es.map (·.1) → IsAll K G (kvs.map (·.2)) (es.map (·.2)) →
    (valD es k = none ∧ valV kvs k = none) ∨ ∃ d v, valD es k = some d ∧ valV kvs k = some v ∧ Is K G v d
  | [], [], _, _ => .inl ⟨rfl, rfl⟩
  | (k1, v) :: kvs, (k2, d) :: es, e, a => by
    rw [List.map_cons, List.map_cons] at e a
    have e1 : k1 = k2 := (List.cons.inj e).1
    subst e1
    cases a with
    | cons a b =>
      by_cases q : k1 = k
      · refine .inr ⟨d, v, ?_, valV_pos q, a⟩
        simp [valD, List.find?_cons, q]
      · have r := kv_val k (List.cons.inj e).2 b
        have h1 : valV ((k1, v) :: kvs) k = valV kvs k := valV_neg q
        have h2 : valD ((k1, d) :: es) k = valD es k := by simp [valD, List.find?_cons, q]
        rw [h1, h2]; exact r
  | [], _ :: _, e, _ => by simp at e
  | _ :: _, [], e, _ => by simp at e
theorem kv_repl {κ : Type} [DecidableEq κ] (k : κ) (hv : Is K G v d) : ∀ {kvs : List (κ × V)} {es : List (κ × D)}, kvs.map (·.1) = es.map (·.1) → IsAll K G (kvs.map (·.2)) (es.map (·.2)) →
    (kvs.map fun kv => if kv.1 = k then (kv.1, v) else kv).map (·.1) = (es.map fun kv => if kv.1 = k then (kv.1, d) else kv).map (·.1) ∧ IsAll K G ((kvs.map fun kv => if kv.1 = k then (kv.1, v) else kv).map (·.2)) ((es.map fun kv => if kv.1 = k then (kv.1, d) else kv).map (·.2))
  | [], [], _, _ => ⟨rfl, .nil⟩
  | (k1, v1) :: kvs, (k2, d1) :: es, e, a => by
    rw [List.map_cons, List.map_cons] at e a
    have e1 : k1 = k2 := (List.cons.inj e).1
    subst e1
    cases a with
    | cons a b =>
      obtain ⟨h1, h2⟩ := kv_repl k hv (List.cons.inj e).2 b
      by_cases q : k1 = k
      · simp only [List.map_cons, q, if_true]
        exact ⟨by rw [h1], .cons hv h2⟩
      · simp only [List.map_cons, q, if_false]
        exact ⟨by rw [h1], .cons a h2⟩
  | [], _ :: _, e, _ => by simp at e
  | _ :: _, [], e, _ => by simp at e
theorem kv_any {κ : Type} [DecidableEq κ] (k : κ) : ∀ {kvs : List (κ × V)} {es : List (κ × D)}, kvs.map (·.1) = es.map (·.1) → (kvs.any fun kv => decide (kv.1 = k)) = (es.any fun kv => decide (kv.1 = k))
  | [], [], _ => rfl
  | (k1, v1) :: kvs, (k2, d1) :: es, e => by
    rw [List.map_cons, List.map_cons] at e
    have e1 : k1 = k2 := (List.cons.inj e).1
    subst e1
    rw [List.any_cons, List.any_cons, kv_any k (List.cons.inj e).2]
  | [], _ :: _, e => by simp at e
  | _ :: _, [], e => by simp at e
theorem putD_len {κ : Type} [DecidableEq κ] (es : List (κ × D)) (k : κ) (d : D) : (putD es k d).length ≤ es.length + 1 := by
  unfold putD
  split
  · rw [List.length_map]; omega
  · rw [List.length_append, List.length_singleton]; exact Nat.le_refl _
theorem kv_put {κ : Type} [DecidableEq κ] (k : κ) (hv : Is K G v d) {kvs : List (κ × V)} {es : List (κ × D)} (e : kvs.map (·.1) = es.map (·.1)) (a : IsAll K G (kvs.map (·.2)) (es.map (·.2))) :
    (putK kvs k v).map (·.1) = (putD es k d).map (·.1) ∧ IsAll K G ((putK kvs k v).map (·.2)) ((putD es k d).map (·.2)) := by
  unfold putK putD
  rw [kv_any k e]
  split
  · exact kv_repl k hv e a
  · simp only [List.map_append, List.map_cons, List.map_nil]
    exact ⟨by rw [e], a.append (.sing hv)⟩
/-- the cell's reading in HandS -/
theorem cel_get {o : Option D} (s : Same G H) (hH : H a = some u) (ok : CelOk K G u C) (hk : Is K G v d) (e : getC C d = some o) : (o = none ∧ DGet H a v none) ∨ ∃ z w, o = some z ∧ DGet H a v (some w) ∧ Is K G w z := by
  cases C with
  | l ds => cases e
  | k es =>
    obtain ⟨k, h1, e⟩ := Option.bind_eq_some_iff.mp e
    cases e
    obtain ⟨kvs, rfl, h2, h3, _⟩ := ok.dk
    have hv := hk.key h1
    subst hv
    have g := DGet.k (k := k) hH
    rcases kv_val k h2 h3 with ⟨q1, q2⟩ | ⟨z, w, q1, q2, q3⟩
    · rw [q2] at g; exact .inl ⟨q1, g⟩
    · rw [q2] at g; exact .inr ⟨z, w, q1, g, q3⟩
  | t es =>
    obtain ⟨k, h1, e⟩ := Option.bind_eq_some_iff.mp e
    cases e
    obtain ⟨kvs, rfl, h2, h3, _⟩ := ok.dt
    obtain ⟨b, rfl, hb⟩ := hk.tkey h1
    have g := DGet.t (k := k) hH (s _ _ hb)
    rcases kv_val k h2 h3 with ⟨q1, q2⟩ | ⟨z, w, q1, q2, q3⟩
    · rw [q2] at g; exact .inl ⟨q1, g⟩
    · rw [q2] at g; exact .inr ⟨z, w, q1, g, q3⟩
theorem cel_put {w : V} (s : Same G H) (hH : H a = some u) (ok : CelOk K G u C) (hk : Is K G v d) (hz : Is K G w z) (e : putC C d z = some C') : ∃ u', DPut H a v w (upd H a u') ∧ CelOk K G u' C' := by
  cases C with
  | l ds => cases e
  | k es =>
    obtain ⟨k, h1, e⟩ := Option.bind_eq_some_iff.mp e
    split at e
    · cases e
      rename_i hlt
      obtain ⟨kvs, rfl, h2, h3, h4⟩ := ok.dk
      have hv := hk.key h1
      subst hv
      obtain ⟨p1, p2⟩ := kv_put k hz h2 h3
      have hl : kvs.length = es.length := by have q := congrArg List.length h2; simpa using q
      exact ⟨_, DPut.k hH (by omega), .k p1 p2 (by have := putD_len es k z; omega)⟩
    · cases e
  | t es =>
    obtain ⟨k, h1, e⟩ := Option.bind_eq_some_iff.mp e
    split at e
    · cases e
      rename_i hlt
      obtain ⟨kvs, rfl, h2, h3, h4⟩ := ok.dt
      obtain ⟨b, rfl, hb⟩ := hk.tkey h1
      obtain ⟨p1, p2⟩ := kv_put k hz h2 h3
      have hl : kvs.length = es.length := by have q := congrArg List.length h2; simpa using q
      exact ⟨_, DPut.t hH (s _ _ hb) (by omega), .t p1 p2 (by have := putD_len es k z; omega)⟩
    · cases e
def fzO : Opd → Option D
  | .fz d => some d
  | .sl _ => none
/-- x[f], x a dict -/
def eDGet (i : Nat) (f : E) : E := fun ρ => (celAt ρ i).bind fun _ => (f ρ).bind fun p => (fzO p.1).bind fun d => (celAt p.2 i).bind fun C => (getC C d).bind fun o => o.bind fun z => some (.fz z, p.2)
theorem fzO_some {o : Opd} {d : D} (h : fzO o = some d) : o = .fz d := by
  cases o with
  | fz d' => cases h; rfl
  | sl i => cases h
theorem den_dget {f : E} {Q : VK} : den K (eDGet i f) σ H Q → tDGet (tVar i) (den K f) σ H Q := by
  rintro ⟨c, G, ρ, r, ρ', rfl, R, hf, q⟩
  unfold eDGet at hf
  obtain ⟨C0, e0, hf⟩ := Option.bind_eq_some_iff.mp hf
  obtain ⟨⟨o, ρ1⟩, h1, hf⟩ := Option.bind_eq_some_iff.mp hf
  obtain ⟨d, h2, hf⟩ := Option.bind_eq_some_iff.mp hf
  have h2 := fzO_some h2
  dsimp only at h2; subst h2
  obtain ⟨C, e1, hf⟩ := Option.bind_eq_some_iff.mp hf
  obtain ⟨oo, h3, hf⟩ := Option.bind_eq_some_iff.mp hf
  obtain ⟨z, h4, hf⟩ := Option.bind_eq_some_iff.mp hf
  subst h4
  cases hf
  obtain ⟨a, u, hs, _⟩ := R.cell e0
  refine ⟨_, hs, c, G, ρ, .fz d, ρ1, rfl, R, h1, fun v G1 H1 s1 R1 k1 => ?_⟩
  obtain ⟨b, u, hs2, hb, ok, _⟩ := R1.cell e1
  rw [hs] at hs2; cases hs2
  rcases cel_get R1.gh hb ok k1 h3 with ⟨z1, _⟩ | ⟨z1, w, q1, q2, q3⟩
  · cases z1
  · cases q1; exact ⟨a, w, rfl, q2, q w G1 H1 s1 R1 q3⟩
theorem pd_dget {x g : Expr} {f : E} {pos : Pos} (hu : X.A.units + 1 < cLine) (hx : PE X x (tVar i)) (hg : PD X g f) (hs : NoSl g := by intro _ _; rfl) : PD X (.Subscript x g pos) (eDGet i f) :=
  ⟨PEimp (pe_dget hu hx hg.pe hs) fun _ _ _ => den_dget⟩
/-- f in x, f not in x -/
def eDIn (b : Bool) (i : Nat) (f : E) : E := fun ρ => (f ρ).bind fun p => (fzO p.1).bind fun d => (celAt p.2 i).bind fun C => (getC C d).bind fun o => some (.fz (.bool (o.isSome == b)), p.2)
theorem den_din {f : E} {Q : VK} : den K (eDIn true i f) σ H Q → tDIn (den K f) (tVar i) σ H Q := by
  rintro ⟨c, G, ρ, r, ρ', rfl, R, hf, q⟩
  unfold eDIn at hf
  obtain ⟨⟨o, ρ1⟩, h1, hf⟩ := Option.bind_eq_some_iff.mp hf
  obtain ⟨d, h2, hf⟩ := Option.bind_eq_some_iff.mp hf
  have h2 := fzO_some h2
  dsimp only at h2; subst h2
  obtain ⟨C, e1, hf⟩ := Option.bind_eq_some_iff.mp hf
  obtain ⟨oo, h3, hf⟩ := Option.bind_eq_some_iff.mp hf
  cases hf
  refine ⟨c, G, ρ, .fz d, ρ1, rfl, R, h1, fun v G1 H1 s1 R1 k1 => ?_⟩
  obtain ⟨a, u, hs, hb, ok, _⟩ := R1.cell e1
  refine ⟨_, hs, ?_⟩
  rcases cel_get R1.gh hb ok k1 h3 with ⟨rfl, g⟩ | ⟨z1, w, rfl, g, _⟩
  · exact ⟨a, none, rfl, g, q _ G1 H1 s1 R1 (.bl _)⟩
  · exact ⟨a, some w, rfl, g, q _ G1 H1 s1 R1 (.bl _)⟩
theorem den_dnin {f : E} {Q : VK} : den K (eDIn false i f) σ H Q → tDNotIn (den K f) (tVar i) σ H Q := by
  rintro ⟨c, G, ρ, r, ρ', rfl, R, hf, q⟩
  unfold eDIn at hf
  obtain ⟨⟨o, ρ1⟩, h1, hf⟩ := Option.bind_eq_some_iff.mp hf
  obtain ⟨d, h2, hf⟩ := Option.bind_eq_some_iff.mp hf
  have h2 := fzO_some h2
  dsimp only at h2; subst h2
  obtain ⟨C, e1, hf⟩ := Option.bind_eq_some_iff.mp hf
  obtain ⟨oo, h3, hf⟩ := Option.bind_eq_some_iff.mp hf
  cases hf
  refine ⟨c, G, ρ, .fz d, ρ1, rfl, R, h1, fun v G1 H1 s1 R1 k1 => ?_⟩
  obtain ⟨a, u, hs, hb, ok, _⟩ := R1.cell e1
  refine ⟨_, hs, ?_⟩
  rcases cel_get R1.gh hb ok k1 h3 with ⟨rfl, g⟩ | ⟨z1, w, rfl, g, _⟩
  · exact ⟨a, none, rfl, g, q _ G1 H1 s1 R1 (.bl _)⟩
  · exact ⟨a, some w, rfl, g, q _ G1 H1 s1 R1 (.bl _)⟩
theorem pd_din {x g : Expr} {f : E} {pos : Pos} (hu : X.A.units + 1 < cLine) (hg : PD X g f) (hx : PE X x (tVar i)) (hm : behindInMarks .In x = false := by rfl) : PD X (.Compare g [.In] [x] pos) (eDIn true i f) :=
  ⟨PEimp (pe_cmp (pc_din hu hg.pe hx) hm) fun _ _ _ => den_din⟩
theorem pd_dnin {x g : Expr} {f : E} {pos : Pos} (hu : X.A.units + 1 < cLine) (hg : PD X g f) (hx : PE X x (tVar i)) (hm : behindInMarks .NotIn x = false := by rfl) : PD X (.Compare g [.NotIn] [x] pos) (eDIn false i f) :=
  ⟨PEimp (pe_cmp (pc_dnotin hu hg.pe hx) hm) fun _ _ _ => den_dnin⟩
theorem den_tB {f : E} {t : TE} {Q : Bool → Hp → Prop} (h : ∀ Q, den K f σ H Q → t σ H Q) : denB K (bE f) σ H Q → tB t σ H Q := fun q => h _ (denB_e q)
theorem pdb_din {x g : Expr} {f : E} {pos : Pos} (hu : X.A.units + 1 < cLine) (hg : PD X g f) (hx : PE X x (tVar i)) (hm : behindInMarks .In x = false := by rfl) : PDB X (.Compare g [.In] [x] pos) (bE (eDIn true i f)) :=
  ⟨PTimp (pt_cmp (pc_din hu hg.pe hx) hm) fun _ _ _ => den_tB fun _ => den_din⟩
theorem pdb_dnin {x g : Expr} {f : E} {pos : Pos} (hu : X.A.units + 1 < cLine) (hg : PD X g f) (hx : PE X x (tVar i)) (hm : behindInMarks .NotIn x = false := by rfl) : PDB X (.Compare g [.NotIn] [x] pos) (bE (eDIn false i f)) :=
  ⟨PTimp (pt_cmp (pc_dnotin hu hg.pe hx) hm) fun _ _ _ => den_tB fun _ => den_dnin⟩
/-- x[g] = f, x a dict -/
def sDPutD (i : Nat) (f g : E) : S := fun ρ => (f ρ).bind fun p => (fzO p.1).bind fun z => (celAt p.2 i).bind fun _ => (g p.2).bind fun q => (fzO q.1).bind fun d => (celAt q.2 i).bind fun C => (putC C d z).bind fun C' => some (.nx, putAt q.2 i C')
theorem denS_dput {f g : E} : denS K (sDPutD i f g) De σ H → sDPut (tVar i) (den K g) (den K f) De σ H := by
  rintro ⟨c, G, ρ, r, ρ', rfl, R, hf, q⟩
  unfold sDPutD at hf
  obtain ⟨⟨o, ρ1⟩, h1, hf⟩ := Option.bind_eq_some_iff.mp hf
  obtain ⟨z, h2, hf⟩ := Option.bind_eq_some_iff.mp hf
  have h2 := fzO_some h2
  dsimp only at h2; subst h2
  obtain ⟨C0, e0, hf⟩ := Option.bind_eq_some_iff.mp hf
  obtain ⟨⟨o2, ρ2⟩, h3, hf⟩ := Option.bind_eq_some_iff.mp hf
  obtain ⟨d, h4, hf⟩ := Option.bind_eq_some_iff.mp hf
  have h4 := fzO_some h4
  dsimp only at h4; subst h4
  obtain ⟨C, e1, hf⟩ := Option.bind_eq_some_iff.mp hf
  obtain ⟨C', h5, hf⟩ := Option.bind_eq_some_iff.mp hf
  cases hf
  refine ⟨c, G, ρ, .fz z, ρ1, rfl, R, h1, fun w G1 H1 s1 R1 k1 => ?_⟩
  obtain ⟨a, u, hs, _⟩ := R1.cell e0
  refine ⟨_, hs, c, G1, ρ1, .fz d, ρ2, rfl, R1, h3, fun v G2 H2 s2 R2 k2 => ?_⟩
  obtain ⟨b, u, hs2, hb, ok, _⟩ := R2.cell e1
  rw [hs] at hs2; cases hs2
  obtain ⟨u', g1, ok'⟩ := cel_put R2.gh hb ok k2 (Is.mono s2 _ _ k1) h5
  exact ⟨a, _, rfl, g1, q G2 σ _ (s1.trans s2) (R2.put e1 hs ok')⟩
theorem pds_dput {x g e : Expr} {f fg : E} {tpos pos : Pos} (hu : X.A.units + 1 < cLine) (hx : PE X x (tVar i)) (hg : PD X g fg) (he : PD X e f) (hs : swapsWith e (some (.Subscript x g tpos)) pos.line X.env = pure false := by rfl) :
    PDS X (.Assign [.Subscript x g tpos] e pos) (sDPutD i f fg) := ⟨PSimp (ps_dput hu hx hg.pe he.pe hs) fun _ _ _ => denS_dput⟩
/-! displays -/
theorem New.mkC (R : Rep c G ρ σ H) (hp : H p = none) (ok : CelOk c.K G u C) : New c G ρ σ (upd H p u) p C :=
  ⟨⟨u, upd_same, ok⟩, R.gh.free hp, R.fh.free hp, fun hx => R.xh p hx hp, R.out hp⟩
def lC (C : Cel) : L := fun ρ => some (.own C, ρ)
theorem pdl_dnewK {pos : Pos} : PDL X (.Dict [] [] pos) (lC (.k [])) := ⟨PEimp pe_dnewK fun σ H Q => by
  rintro ⟨c, G, ρ, l, ρ', eK, R, hf, q⟩
  cases hf
  intro p hp
  exact q _ G _ (Same.refl _) (R.lay hp) ⟨p, rfl, New.mkC R hp (.k rfl .nil (Nat.zero_le _))⟩⟩
theorem pdl_dnewT {pos : Pos} : PDL X (.Dict [] [] pos) (lC (.t [])) := ⟨PEimp pe_dnewT fun σ H Q => by
  rintro ⟨c, G, ρ, l, ρ', eK, R, hf, q⟩
  cases hf
  intro p hp
  exact q _ G _ (Same.refl _) (R.lay hp) ⟨p, rfl, New.mkC R hp (.t rfl .nil (Nat.zero_le _))⟩⟩
def lDisp1T (f g : E) : L := fun ρ => (f ρ).bind fun p => (fzO p.1).bind fun d => (tkeyD d).bind fun k => (g p.2).bind fun q => (fzO q.1).bind fun z => some (.own (.t [(k, z)]), q.2)
theorem denL_disp1T {f g : E} {Q : VK} : denL K (lDisp1T f g) σ H Q → tDisp1T (den K f) (den K g) σ H Q := by
  rintro ⟨c, G, ρ, l, ρ', rfl, R, hf, q⟩
  unfold lDisp1T at hf
  obtain ⟨⟨o, ρ1⟩, h1, hf⟩ := Option.bind_eq_some_iff.mp hf
  obtain ⟨d, h2, hf⟩ := Option.bind_eq_some_iff.mp hf
  have h2 := fzO_some h2
  dsimp only at h2; subst h2
  obtain ⟨k, h3, hf⟩ := Option.bind_eq_some_iff.mp hf
  obtain ⟨⟨o2, ρ2⟩, h4, hf⟩ := Option.bind_eq_some_iff.mp hf
  obtain ⟨z, h5, hf⟩ := Option.bind_eq_some_iff.mp hf
  have h5 := fzO_some h5
  dsimp only at h5; subst h5
  cases hf
  intro p hp
  have N0 := New.mkC (ρ := ρ) (C := .t []) R hp (u := .dT []) (.t rfl .nil (Nat.zero_le _))
  obtain ⟨u0, ok0, R0⟩ := (R.lay (u := .dT []) hp).pend N0
  refine ⟨c.pend p u0, G, ρ, .fz d, ρ1, rfl, R0, h1, fun v G1 H1 s1 R1 k1 => ⟨c.pend p u0, G1, ρ1, .fz z, ρ2, rfl, R1, h4, fun w G2 H2 s2 R2 k2 => ?_⟩⟩
  obtain ⟨kvs, rfl, e1, _⟩ := ok0.dt
  have e2 : kvs = [] := by cases kvs with | nil => rfl | cons a b => simp at e1
  subst e2
  obtain ⟨R3, N3⟩ := Rep.unpend N0.f N0.x ok0 (s1.trans s2) R2
  obtain ⟨b, rfl, hb⟩ := k1.tkey h3
  have hp2 : H2 p = some (.dT []) := R2.fh p _ upd_same
  obtain ⟨R4, N4⟩ := R3.newPut N3 (u := .dT [(k, w)]) (C' := .t [(k, z)]) (.t rfl (.sing k2) (show 1 ≤ sizeLine by decide))
  exact ⟨hp2, b, k, rfl, R2.gh _ _ (s2 _ _ hb), q _ G2 _ (s1.trans s2) R4 ⟨p, rfl, N4⟩⟩
theorem pdl_disp1T {pos : Pos} {k v : Expr} {f g : E} (hu : X.A.units + 1 < cLine) (hk : PD X k f) (hv : PD X v g) : PDL X (.Dict [some k] [v] pos) (lDisp1T f g) := ⟨PEimp (pe_disp1T hu hk.pe hv.pe) fun _ _ _ => denL_disp1T⟩
end
end L3
set_option Elab.async false
set_option linter.all false
set_option maxRecDepth 100000
set_option maxHeartbeats 4000000
namespace L3
open PySem PySem.Spec PyProof.Rows L2
/-! ### defs -/
abbrev Fp := List D → Option D
abbrev Fi := Cel → List D → Option (D × Cel)
def startR (n : Nat) (ls : List Loc) : Rho := ls.map some ++ List.replicate (n - ls.length) none
def retD : Bool → Fl → Option D
  | false, .nx => some .none
  | false, .rt d => some d
  | _, .ro ds => some (.list ds)
  | _, _ => none
def fnP (m n : Nat) (o : Bool) (b : S) : Fp := fun ds => if ds.length = m then (b (startR n (ds.map .val))).bind fun p => retD o p.1 else none
def fnI (m n : Nat) (o : Bool) (b : S) : Fi := fun C ds => if ds.length + 1 = m then (b (startR n (.io C :: ds.map .val))).bind fun p => (retD o p.1).bind fun r => match slot p.2 0 with
    | some (.io C') => some (r, C')
    | _ => none
  else none
def ArP (m : Nat) (f : Fp) : Prop := ∀ ds r, f ds = some r → ds.length = m
def ArI (m : Nat) (f : Fi) : Prop := ∀ C ds r, f C ds = some r → ds.length + 1 = m
theorem fnP_ar {m n : Nat} {o : Bool} {b : S} : ArP m (fnP m n o b) := fun ds r h => by
  unfold fnP at h
  split at h
  · assumption
  · cases h
theorem fnI_ar {m n : Nat} {o : Bool} {b : S} : ArI m (fnI m n o b) := fun C ds r h => by
  unfold fnI at h
  split at h
  · assumption
  · cases h
/-- what is handed back: frozen data, or (o) a new list -/
def RetOk (K : PySem.W.Frag) (o : Bool) (H G' H' : Hp) (v : V) (r : D) : Prop := match o with
  | false => Is K G' v r
  | true => ∃ p u ds, v = .ref p ∧ r = .list ds ∧ H' p = some u ∧ CelOk K G' u (.l ds) ∧ G' p = none ∧ H p = none
def Keeps (G H G' : Hp) : Prop := ∀ p : Addr, H p ≠ none → G p = none → G' p = none
def spP (K : PySem.W.Frag) (n : Nat) (o : Bool) (f : Fp) : Sp := fun vs H Q _ => ∃ G ds r, vs.length = n ∧ Same G H ∧ IsAll K G vs ds ∧ f ds = some r ∧
  ∀ v G' H', Same G G' → Same G' H' → Same H H' → Keeps G H G' → RetOk K o H G' H' v r → Q v H'
def spI (K : PySem.W.Frag) (n : Nat) (o : Bool) (f : Fi) : Sp := fun vs H Q _ => ∃ a ws u C G ds r C', vs = .ref a :: ws ∧ vs.length = n ∧ H a = some u ∧ CelOk K G u C ∧ G a = none ∧ Same G H ∧ IsAll K G ws ds ∧ f C ds = some (r, C') ∧
  ∀ v u' G' H', Same G G' → Same G' H' → (∀ p x, p ≠ a → H p = some x → H' p = some x) → H' a = some u' → CelOk K G' u' C' → Keeps G H G' → RetOk K o H G' H' v r → Q v H'
section
variable {X : Cx} {c c' : Fix} {K : PySem.W.Frag} {G G' G1 H H' H1 : Hp} {ρ ρ' ρ1 : Rho} {σ σ2 : L2.St} {De : Ends} {v : V} {d z : D} {p a : Addr} {u : HO} {C C' : Cel} {i : Nat}
theorem startR_get {n i : Nat} {ls : List Loc} {l : Loc} (h : (startR n ls)[i]? = some (some l)) : ls[i]? = some l := by
  unfold startR at h
  rw [List.getElem?_append] at h
  split at h
  · rename_i hlt
    rw [List.length_map] at hlt
    rw [List.getElem?_map, List.getElem?_eq_getElem hlt] at h
    rw [List.getElem?_eq_getElem hlt]
    exact (Option.some.inj h)
  · rw [List.getElem?_replicate] at h
    split at h
    · cases h
    · cases h
theorem startR_len {n : Nat} {ls : List Loc} (h : ls.length ≤ n) : (startR n ls).length = n := by
  unfold startR; rw [List.length_append, List.length_map, List.length_replicate]; omega
theorem start_get {N : List Str} {vs : List V} {i : Nat} {v : V} (h : vs[i]? = some v) : (L2.start N vs)[i]? = some (some v) := by
  have hlt : i < vs.length := (List.getElem?_eq_some_iff.mp h).1
  unfold L2.start
  rw [List.getElem?_append_left (by rw [List.length_map]; exact hlt), List.getElem?_map, h]; rfl
theorem Rep.start {N : List Str} {vs : List V} {ls : List Loc} (gh : Same G H) (fh : Same c.F H) (xg : ∀ p : Addr, c.X p → G p = none) (xh : ∀ p : Addr, c.X p → H p ≠ none) (hl : ls.length = vs.length) (hn : vs.length ≤ N.length)
    (loc : ∀ (i : Nat) (l : Loc), ls[i]? = some l → ∃ v, vs[i]? = some v ∧ LocOk c G H v l) (sep : ∀ (i j : Nat) (l l' : Loc), ls[i]? = some l → ls[j]? = some l' → l.cell = true → l'.cell = true → i = j) : Rep c G (startR N.length ls) (L2.start N vs) H where
  gh := gh
  fh := fh
  xg := xg
  xh := xh
  len := by
    rw [startR_len (by omega)]
    unfold L2.start
    rw [List.length_append, List.length_map, List.length_replicate]; omega
  loc := fun i l e => by
    obtain ⟨v, h1, h2⟩ := loc i l (startR_get e)
    exact ⟨v, start_get h1, h2⟩
  sep := fun i j l l' v e e' c1 c2 _ _ => sep i j l l' (startR_get e) (startR_get e') c1 c2
/-- the ends of a body -/
theorem SPost.of {o : Bool} {r : D} {fl : Fl} {Q : VK} (e : retD o fl = some r) (xf : ∀ p : Addr, H p ≠ none → G p = none → c.X p)
    (h : ∀ v G' σ' H', Same G G' → Rep c G' ρ' σ' H' → RetOk c.K o H G' H' v r → Q v H') : SPost c G ρ' { nx := fun _ H' => Q .non H', rt := Q } fl := by
  cases fl with
  | nx =>
    cases o with
    | false => cases e; exact fun G1 σ1 H1 s1 R1 => h _ G1 σ1 H1 s1 R1 .non
    | true => cases e
  | bk => cases o <;> cases e
  | ct => cases o <;> cases e
  | rt d =>
    cases o with
    | false => cases e; exact fun v G1 σ1 H1 s1 R1 i1 => h _ G1 σ1 H1 s1 R1 i1
    | true => cases e
  | ro ds =>
    cases o with
    | false =>
      cases e
      intro p G1 σ1 H1 s1 R1 n1
      obtain ⟨G2, s2, R2, i2⟩ := R1.freeze n1
      exact h _ G2 σ1 H1 (s1.trans s2) R2 i2
    | true =>
      cases e
      intro p G1 σ1 H1 s1 R1 n1
      obtain ⟨u, h1, h2⟩ := n1.it
      refine h _ G1 σ1 H1 s1 R1 ⟨p, u, ds, rfl, rfl, h1, h2, n1.g, ?_⟩
      cases q : H p with
      | none => rfl
      | some w => exact absurd (xf p (by rw [q]; simp) (s1.free n1.g)) n1.x
section
variable {P : Program} {w : World} {mg : Str → Option Value} {base : Heap}
theorem fnP_ok {x : Str} {st : Stmt} {f : Addr} {fd : FuncData} {N ps : List Str} {k : Nat} {o : Bool} {b : S} (F : Fun K x x st f fd) (S : FnScope N ps (defScope st))
    (hb : ∀ (cdv : Value) (A : Around) (outer : List Env) (s : Shared) (H : Hp) (E : XK), Room k (A.deeper (envOfC x (defScope st) s.heap.objs.size f cdv)) → PDSs (cxOf CX0 P w K mg base N x (defScope st) f cdv A outer s H E).nox (defBody st) b) :
    FnOk P w K mg base CX0 (k + 1) f fd ps (spP K ps.length o (fnP ps.length N.length o b)) := by
  have hpl : ps.length ≤ N.length := by have := congrArg List.length S.pre; rw [List.length_take] at this; omega
  refine F.ok S (fun vs H Q E ⟨_, _, _, h, _⟩ => h) (fun cdv A outer s H vs Q E hr h => ⟨_, (hb cdv A outer s H E hr).pss, ?_⟩)
  obtain ⟨G, ds, r, hl, gh, ia, hf, q⟩ := h
  unfold fnP at hf
  rw [if_pos (by rw [← hl, ia.len])] at hf
  obtain ⟨⟨fl, ρ'⟩, h1, h2⟩ := Option.bind_eq_some_iff.mp hf
  refine ⟨⟨K, H, fun p => H p ≠ none ∧ G p = none, 0⟩, G, startR N.length (ds.map .val), fl, ρ', rfl, ?_, h1, SPost.of h2 (fun p a b => ⟨a, b⟩) fun v G' σ' H' s1 R1 ro => q v G' H' s1 R1.gh R1.fh (fun p a b => R1.xg p ⟨a, b⟩) ro⟩
  refine Rep.start gh (Same.refl _) (fun p h => h.2) (fun p h => h.1) (by rw [List.length_map, ia.len]) (by omega) (fun i l e => ?_) (fun i j l l' e _ hc _ => ?_)
  · rw [List.getElem?_map] at e
    obtain ⟨d, e1, e2⟩ := Option.map_eq_some_iff.mp e
    subst e2
    exact ia.get e1
  · rw [List.getElem?_map] at e
    obtain ⟨d, e1, e2⟩ := Option.map_eq_some_iff.mp e
    subst e2; cases hc
theorem fnI_ok {x : Str} {st : Stmt} {f : Addr} {fd : FuncData} {N ps : List Str} {k : Nat} {o : Bool} {b : S} (F : Fun K x x st f fd) (S : FnScope N ps (defScope st))
    (hb : ∀ (cdv : Value) (A : Around) (outer : List Env) (s : Shared) (H : Hp) (E : XK), Room k (A.deeper (envOfC x (defScope st) s.heap.objs.size f cdv)) → PDSs (cxOf CX0 P w K mg base N x (defScope st) f cdv A outer s H E).nox (defBody st) b) :
    FnOk P w K mg base CX0 (k + 1) f fd ps (spI K ps.length o (fnI ps.length N.length o b)) := by
  have hpl : ps.length ≤ N.length := by have := congrArg List.length S.pre; rw [List.length_take] at this; omega
  refine F.ok S (fun vs H Q E ⟨_, _, _, _, _, _, _, _, _, h, _⟩ => h) (fun cdv A outer s H vs Q E hr h => ⟨_, (hb cdv A outer s H E hr).pss, ?_⟩)
  obtain ⟨a, ws, u, C, G, ds, r, C', rfl, hl, ha, ok, ga, gh, ia, hf, q⟩ := h
  unfold fnI at hf
  rw [if_pos (by rw [← hl, List.length_cons, ia.len])] at hf
  obtain ⟨⟨fl, ρ'⟩, h1, hf⟩ := Option.bind_eq_some_iff.mp hf
  obtain ⟨r', h2, hf⟩ := Option.bind_eq_some_iff.mp hf
  dsimp only at hf
  split at hf
  case h_2 => cases hf
  rename_i C2 e0
  cases hf
  have e0 := slot_some.mp e0
  refine ⟨⟨K, fun p => if p = a then none else H p, fun p => H p ≠ none ∧ G p = none, a⟩, G, startR N.length (.io C :: ds.map .val), fl, ρ', rfl, ?_, h1, SPost.of h2 (fun p a b => ⟨a, b⟩) fun v G' σ' H' s1 R1 ro => ?_⟩
  · refine Rep.start gh (fun b o e => ?_) (fun p h => h.2) (fun p h => h.1) (by simp [ia.len]) (by omega) (fun i l e => ?_) (fun i j l l' e e' hc hc' => ?_)
    · have e : (if b = a then none else H b) = some o := e
      split at e
      · cases e
      · exact e
    · cases i with
      | zero =>
        have e : some (Loc.io C) = some l := by simpa using e
        cases e
        exact ⟨.ref a, rfl, u, rfl, ha, ok, ga, if_pos rfl⟩
      | succ i =>
        have e : (ds.map Loc.val)[i]? = some l := by simpa using e
        rw [List.getElem?_map] at e
        obtain ⟨d, e1, e2⟩ := Option.map_eq_some_iff.mp e
        subst e2
        obtain ⟨v, g1, g2⟩ := ia.get e1
        exact ⟨v, by simpa using g1, g2⟩
    · have key : ∀ {i : Nat} {l : Loc}, (Loc.io C :: ds.map Loc.val)[i]? = some l → l.cell = true → i = 0 := fun {i l} e hc => by
        cases i with
        | zero => rfl
        | succ i =>
          have e : (ds.map Loc.val)[i]? = some l := by simpa using e
          rw [List.getElem?_map] at e
          obtain ⟨d, e1, e2⟩ := Option.map_eq_some_iff.mp e
          subst e2; cases hc
      rw [key e hc, key e' hc']
  · obtain ⟨v0, _, u', rfl, h3, h4, h5, h6⟩ := R1.loc 0 _ e0
    exact q v u' G' H' s1 R1.gh (fun p x hp e => R1.fh p x (by show (if p = a then none else H p) = some x; rw [if_neg hp]; exact e)) h3 h4 (fun p a b => R1.xg p ⟨a, b⟩) ro
end
end
end L3
set_option Elab.async false
set_option linter.all false
set_option maxRecDepth 100000
set_option maxHeartbeats 4000000
namespace L3
open PySem PySem.Spec PyProof.Rows L2
/-! ### calls of defs -/
mutual
def lfree : D → Bool
  | .list _ => false
  | .tuple ds => lfrees ds
  | _ => true
def lfrees : List D → Bool
  | [] => true
  | d :: ds => lfree d && lfrees ds
end
def celFree : Cel → Bool
  | .l ds => lfrees ds
  | .k es => lfrees (es.map (·.2))
  | .t es => lfrees (es.map (·.2))
/-- a new list of such -/
def lfreeO : Bool → D → Bool
  | true, .list ds => lfrees ds
  | _, d => lfree d
def isSl : Opd → Bool
  | .sl _ => true
  | .fz _ => false
def brw (os : List Opd) : Bool := os.any isSl
section
variable {X : Cx} {c c' : Fix} {K : PySem.W.Frag} {G G' G1 G2 H H' H1 H2 : Hp} {ρ ρ' ρ1 : Rho} {σ σ2 : L2.St} {De : Ends} {v : V} {d z : D} {p a : Addr} {u : HO} {C C' : Cel} {i : Nat}
mutual
theorem Is.tupOnly (e : ∀ (p : Addr) (xs : List V), G p = some (.tup xs) → G' p = some (.tup xs)) : ∀ (d : D) (v : V), lfree d = true → Is K G v d → Is K G' v d
  | .none, _, _, h => by cases h; exact .non
  | .bool b, _, _, h => by cases h; exact .bl b
  | .int i, _, _, h => by cases h; exact .int i
  | .str x, _, _, h => by cases h with | str _ q => exact .str x q
  | .list ds, _, z, h => by cases z
  | .tuple ds, _, z, h => by cases h with | tup s l a => exact .tup (e _ _ s) l (IsAll.tupOnly e ds _ z a)
  | .dict _, _, _, h => by cases h
theorem IsAll.tupOnly (e : ∀ (p : Addr) (xs : List V), G p = some (.tup xs) → G' p = some (.tup xs)) : ∀ (ds : List D) (vs : List V), lfrees ds = true → IsAll K G vs ds → IsAll K G' vs ds
  | [], _, _, h => by cases h; exact .nil
  | d :: ds, _, z, h => by
    unfold lfrees at z
    rw [Bool.and_eq_true] at z
    cases h with | cons a b => exact .cons (Is.tupOnly e d _ z.1 a) (IsAll.tupOnly e ds _ z.2 b)
end
theorem CelOk.tupOnly (e : ∀ (p : Addr) (xs : List V), G p = some (.tup xs) → G' p = some (.tup xs)) (hf : celFree C = true) (h : CelOk K G u C) : CelOk K G' u C := by
  cases h with
  | l a b => exact .l (IsAll.tupOnly e _ _ hf a) b
  | k q a b => exact .k q (IsAll.tupOnly e _ _ hf a) b
  | t q a b => exact .t q (IsAll.tupOnly e _ _ hf a) b
/-- what the callee holds for frozen: G1, and (b) the lists that are lent -/
structure Lent (G1 H1 Ga : Hp) (b : Bool) : Prop where
  up : Same G1 Ga
  lo : Same Ga H1
  tup : ∀ (p : Addr) (xs : List V), Ga p = some (.tup xs) → G1 p = some (.tup xs)
  no : b = false → Ga = G1
theorem looks_sl {j : Nat} : ∀ {os : List Opd} {ds : List D}, looks ρ os = some ds → Opd.sl j ∈ os → ∃ es, celAt ρ j = some (.l es)
  | [], _, _, h => by simp at h
  | o :: os, ds, e, h => by
    unfold looks at e
    obtain ⟨d, h1, e⟩ := Option.bind_eq_some_iff.mp e
    obtain ⟨ds', h2, e⟩ := Option.bind_eq_some_iff.mp e
    rcases List.mem_cons.mp h with h | h
    · subst h
      have h1 : slD ρ[j]? = some d := h1
      unfold celAt slot
      cases q : ρ[j]? with
      | none => rw [q] at h1; cases h1
      | some l =>
        cases l with
        | none => rw [q] at h1; cases h1
        | some l =>
          rw [q] at h1
          cases l with
          | val d => cases h1
          | own C =>
            cases C with
            | l es => exact ⟨es, rfl⟩
            | k es => cases h1
            | t es => cases h1
          | io C =>
            cases C with
            | l es => exact ⟨es, rfl⟩
            | k es => cases h1
            | t es => cases h1
    · exact looks_sl h2 h
theorem Rep.lend (R : Rep c G ρ σ H) {os : List Opd} {vs : List V} {ds : List D} (k : Paired (OpdOk c G σ) vs os) (e : looks ρ os = some ds) :
    ∃ Ga, Lent G H Ga (brw os) ∧ IsAll c.K Ga vs ds ∧ ∀ p, G p = none → (∀ j, Opd.sl j ∈ os → σ[j]? ≠ some (some (.ref p))) → Ga p = none := by
  classical
  let B : Addr → Prop := fun p => ∃ j, Opd.sl j ∈ os ∧ σ[j]? = some (some (.ref p))
  have hB : ∀ p, B p → G p = none ∧ ∃ xs, H p = some (.lst xs) := fun p ⟨j, hj, hs⟩ => by
    obtain ⟨es, e1⟩ := looks_sl e hj
    obtain ⟨a, u, h1, h2, h3, h4, _⟩ := R.cell e1
    rw [hs] at h1; cases h1
    obtain ⟨ws, rfl, _⟩ := h3.lst
    exact ⟨h4, ws, h2⟩
  let Ga : Hp := fun p => if B p then H p else G p
  have up : Same G Ga := fun p o q => by
    show (if B p then H p else G p) = some o
    rw [if_neg fun z => by rw [(hB p z).1] at q; cases q]; exact q
  have lo : Same Ga H := fun p o q => by
    have q : (if B p then H p else G p) = some o := q
    split at q
    · exact q
    · exact R.gh p o q
  refine ⟨Ga, ⟨up, lo, fun p xs q => ?_, fun q => ?_⟩, ?_, fun p h1 h2 => ?_⟩
  · have q : (if B p then H p else G p) = some (.tup xs) := q
    split at q
    · rename_i hb
      obtain ⟨_, ys, h3⟩ := hB p hb
      rw [q] at h3; cases h3
    · exact q
  · funext p
    show (if B p then H p else G p) = G p
    rw [if_neg]
    rintro ⟨j, hj, _⟩
    have := List.any_eq_false.mp q _ hj
    exact absurd rfl this
  · have gen : ∀ {os' : List Opd} {vs : List V} {ds : List D}, (∀ o ∈ os', o ∈ os) → Paired (OpdOk c G σ) vs os' → looks ρ os' = some ds → IsAll c.K Ga vs ds := by
      intro os'
      induction os' with
      | nil => intro vs ds _ k e; cases k; cases e; exact .nil
      | cons o os' ih =>
        intro vs ds hm k e
        unfold looks at e
        obtain ⟨d, h1, e⟩ := Option.bind_eq_some_iff.mp e
        obtain ⟨ds', h2, e⟩ := Option.bind_eq_some_iff.mp e
        cases e
        cases k with
        | cons k k' =>
          refine .cons ?_ (ih (fun o' h' => hm o' (List.mem_cons_of_mem _ h')) k' h2)
          cases o with
          | fz d' => cases h1; exact Is.mono up _ _ k
          | sl j =>
            have vw := R.view k h1
            have hj := hm _ (List.mem_cons_self ..)
            have hs : σ[j]? = some (some _) := k
            cases vw with
            | fz h => exact Is.mono up _ _ h
            | cell h a l =>
              exact .lst (SqL.of (show (if B _ then H _ else G _) = _ by rw [if_pos ⟨j, hj, hs⟩]; exact h)) l (IsAll.mono up _ _ a)
    exact gen (fun _ h => h) k e
  · show (if B p then H p else G p) = none
    rw [if_neg]
    · exact h1
    · rintro ⟨j, hj, hs⟩; exact h2 j hj hs
/-- behind a call -/
theorem Rep.called {Ga Ga' : Hp} {b : Bool} (R : Rep c G ρ σ H) (L : Lent G H Ga b) (s1 : Same Ga Ga') (s2 : Same Ga' H') (s3 : Same H H') (kp : Keeps Ga H Ga') :
    ∃ G', Same G G' ∧ Rep c G' ρ σ H' ∧ (∀ p, H p = none → G' p = Ga' p) ∧ (∀ p, H p ≠ none → G' p = G p) ∧ (∀ p xs, Ga' p = some (.tup xs) → G' p = some (.tup xs)) ∧ (b = false → G' = Ga') := by
  classical
  let G' : Hp := fun p => if H p = none then Ga' p else G p
  have e1 : ∀ p, H p = none → G' p = Ga' p := fun p h => if_pos h
  have e2 : ∀ p, H p ≠ none → G' p = G p := fun p h => if_neg h
  have sg : Same G G' := fun p o q => by rw [e2 p (by rw [R.gh p o q]; simp)]; exact q
  have sh : Same G' H' := fun p o q => by
    by_cases h : H p = none
    · rw [e1 p h] at q; exact s2 p o q
    · rw [e2 p h] at q; exact s3 p o (R.gh p o q)
  refine ⟨G', sg, ⟨sh, fun p o q => s3 p o (R.fh p o q), fun p hp => ?_, fun p hp => ?_, R.len, fun i l e => ?_, R.sep⟩, e1, e2, fun p xs q => ?_, fun hb => ?_⟩
  · rw [e2 p (R.xh p hp)]; exact R.xg p hp
  · cases q : H p with
    | none => exact absurd q (R.xh p hp)
    | some o => rw [s3 p o q]; simp
  · obtain ⟨v, h1, h2⟩ := R.loc i l e
    refine ⟨v, h1, ?_⟩
    cases l with
    | val d => exact Is.mono sg _ _ h2
    | own C =>
      obtain ⟨a, u, rfl, h3, h4, h5, h6⟩ := h2
      exact ⟨a, u, rfl, s3 _ _ h3, h4.mono sg, by rw [e2 a (by rw [h3]; simp)]; exact h5, h6⟩
    | io C =>
      obtain ⟨u, rfl, h3, h4, h5, h6⟩ := h2
      exact ⟨u, rfl, s3 _ _ h3, h4.mono sg, by rw [e2 _ (by rw [h3]; simp)]; exact h5, h6⟩
  · by_cases h : H p = none
    · rw [e1 p h]; exact q
    · rw [e2 p h]
      cases q1 : Ga p with
      | none => rw [kp p h q1] at q; cases q
      | some w =>
        rw [s1 p w q1] at q; cases q
        exact L.tup p xs q1
  · have ea := L.no hb
    subst ea
    funext p
    by_cases h : H p = none
    · exact e1 p h
    · rw [e2 p h]
      cases q1 : Ga p with
      | none => exact (kp p h q1).symm
      | some w => exact (s1 p w q1).symm
theorem Rep.newAny {C : Cel} {u' : HO} (R : Rep c G ρ σ H) (N : New c G ρ σ H p C) : Rep c G ρ σ (upd H p u') := by
  obtain ⟨⟨vs, hv, ha⟩, hg, hf, hx, ho⟩ := N
  refine ⟨fun b o e => ?_, fun b o e => ?_, R.xg, fun q hq => ?_, R.len, fun i l e => ?_, R.sep⟩
  · rw [upd_ne fun z => by rw [z, hg] at e; cases e]; exact R.gh b o e
  · rw [upd_ne fun z => by rw [z, hf] at e; cases e]; exact R.fh b o e
  · by_cases z : q = p
    · subst z; rw [upd_same]; simp
    · rw [upd_ne z]; exact R.xh q hq
  · obtain ⟨v, h1, h2⟩ := R.loc i l e
    refine ⟨v, h1, ?_⟩
    cases l with
    | val d => exact h2
    | own ds =>
      obtain ⟨a, us, rfl, h3, h4⟩ := h2
      exact ⟨a, us, rfl, by rw [upd_ne fun z => ho i _ e rfl (by rw [h1, z])]; exact h3, h4⟩
    | io ds =>
      obtain ⟨us, rfl, h3, h4⟩ := h2
      exact ⟨us, rfl, by rw [upd_ne fun z => ho i _ e rfl (by rw [h1, z])]; exact h3, h4⟩
/-! f(..), no argument changed -/
def okB (b : Bool) (x : Bool) : Bool := !b || x
/-- the result in the caller's world -/
theorem ret_in {Ga' : Hp} {b o : Bool} {r : D} (ok : okB b (lfreeO o r) = true) (tu : ∀ p xs, Ga' p = some (.tup xs) → G' p = some (.tup xs)) (no : b = false → G' = Ga') (e1 : ∀ p, H p = none → G' p = Ga' p)
    (h : RetOk K o H Ga' H' v r) : RetOk K o H G' H' v r := by
  cases o with
  | false =>
    have h : Is K Ga' v r := h
    show Is K G' v r
    cases b with
    | false => rw [no rfl]; exact h
    | true =>
      have ok : lfree r = true := by
        cases r <;> exact ok
      exact Is.tupOnly tu _ _ ok h
  | true =>
    obtain ⟨p, u, ds, rfl, rfl, h1, h2, h3, h4⟩ := h
    refine ⟨p, u, ds, rfl, rfl, h1, ?_, by rw [e1 p h4]; exact h3, h4⟩
    cases b with
    | false => rw [no rfl]; exact h2
    | true => exact h2.tupOnly tu ok
def callP (o : Bool) (f : Fp) (a : As) : Rho → Option (D × Rho) := fun ρ => (a ρ).bind fun p => (looks p.2 p.1).bind fun ds => (f ds).bind fun r => if okB (brw p.1) (lfreeO o r) = true then some (r, p.2) else none
def eCallP (f : Fp) (a : As) : E := fun ρ => (callP false f a ρ).bind fun p => some (.fz p.1, p.2)
def nCallP (f : Fp) (a : As) : N := fun ρ => (callP true f a ρ).bind fun p => match p.1 with
  | .list ds => some (ds, p.2)
  | _ => none
theorem den_callPo {o : Bool} {n : Nat} {f : Fp} {a : As} {E0 : XK} {Q : VK} {c : Fix} {G : Hp} {ρ ρ' : Rho} {r : D} (R : Rep c G ρ σ H) (hf : callP o f a ρ = some (r, ρ')) (hn : ArP n f)
    (q : ∀ v G' H0 H', Same G G' → Rep c G' ρ' σ H' → RetOk c.K o H0 G' H' v r → (∀ p, H0 p = none → c.F p = none ∧ ¬ c.X p ∧ ∀ (i : Nat) (l : Loc), ρ'[i]? = some (some l) → l.cell = true → σ[i]? ≠ some (some (.ref p))) → Q v H') : tCall (spP c.K n o f) [] E0 (denA c.K a) σ H Q := by
  unfold callP at hf
  obtain ⟨⟨os, ρ1⟩, h1, hf⟩ := Option.bind_eq_some_iff.mp hf
  obtain ⟨ds, h2, hf⟩ := Option.bind_eq_some_iff.mp hf
  obtain ⟨r', h3, hf⟩ := Option.bind_eq_some_iff.mp hf
  dsimp only at hf h2
  split at hf
  case isFalse => cases hf
  rename_i ok
  cases hf
  refine ⟨c, G, ρ, os, _, rfl, R, h1, fun vs G1 H1 s1 R1 k1 => ?_⟩
  show spP c.K n o f (vs ++ []) H1 Q E0
  rw [List.append_nil]
  obtain ⟨Ga, L, ia, _⟩ := R1.lend k1 h2
  refine ⟨Ga, ds, r, by rw [ia.len, hn _ _ h3], L.lo, ia, h3, fun v Ga' H2 t1 t2 t3 t4 t5 => ?_⟩
  obtain ⟨G2, s2, R2, e1, e2, tu, no⟩ := R1.called L t1 t2 t3 t4
  refine q v G2 H1 H2 (s1.trans s2) R2 (ret_in ok tu no e1 t5) fun p hp => ⟨R1.fh.free hp, fun hx => R1.xh p hx hp, R1.out hp⟩
theorem den_callP {n : Nat} {f : Fp} {a : As} {E0 : XK} {Q : VK} (hn : ArP n f) : den K (eCallP f a) σ H Q → tCall (spP K n false f) [] E0 (denA K a) σ H Q := by
  rintro ⟨c, G, ρ, o, ρ', rfl, R, hf, q⟩
  unfold eCallP at hf
  obtain ⟨⟨r, ρ1⟩, h1, hf⟩ := Option.bind_eq_some_iff.mp hf
  cases hf
  exact den_callPo R h1 hn fun v G' H0 H' s R' ro _ => q v G' H' s R' ro
theorem denN_callP {n : Nat} {f : Fp} {a : As} {E0 : XK} {Q : VK} (hn : ArP n f) : denN K (nCallP f a) σ H Q → tCall (spP K n true f) [] E0 (denA K a) σ H Q := by
  rintro ⟨c, G, ρ, es, ρ', rfl, R, hf, q⟩
  unfold nCallP at hf
  obtain ⟨⟨r, ρ1⟩, h1, hf⟩ := Option.bind_eq_some_iff.mp hf
  refine den_callPo R h1 hn fun v G' H0 H' s R' ro nw => ?_
  obtain ⟨p, u, ds, rfl, e, h3, h4, h5, h6⟩ := ro
  dsimp only at hf
  subst e
  cases hf
  obtain ⟨n1, n2, n3⟩ := nw p h6
  exact q p G' H' s R' ⟨⟨u, h3, h4⟩, h5, n1, n2, n3⟩
/-! f(x, ..), the first argument changed -/
def callI (o : Bool) (f : Fi) (i : Nat) (a : As) : Rho → Option (D × Rho) := fun ρ => (celAt ρ i).bind fun _ => (a ρ).bind fun p => (looks p.2 p.1).bind fun ds => (celAt p.2 i).bind fun C => (f C ds).bind fun r =>
  if okB (brw p.1) (lfreeO o r.1 && celFree r.2) = true then (if p.1.any (fun q => match q with | .sl j => j == i | .fz _ => false) = true then none else some (r.1, putAt p.2 i r.2)) else none
def eCallI (f : Fi) (i : Nat) (a : As) : E := fun ρ => (callI false f i a ρ).bind fun p => some (.fz p.1, p.2)
def nCallI (f : Fi) (i : Nat) (a : As) : N := fun ρ => (callI true f i a ρ).bind fun p => match p.1 with
  | .list ds => some (ds, p.2)
  | _ => none
theorem upd_back {H : Hp} {a : Addr} {u u' : HO} (h : H a = some u') : upd (upd H a u) a u' = H := by
  funext p
  by_cases e : p = a
  · subst e; rw [upd_same, h]
  · rw [upd_ne e, upd_ne e]
theorem putAt_cells {i j : Nat} {l : Loc} (h : (putAt ρ i C)[j]? = some (some l)) (hc : l.cell = true) : ∃ l', ρ[j]? = some (some l') ∧ l'.cell = true := by
  unfold putAt at h
  split at h
  · rename_i C2 e
    rcases get_set h with ⟨rfl, _⟩ | ⟨_, h⟩
    · exact ⟨_, slot_some.mp e, rfl⟩
    · exact ⟨l, h, hc⟩
  · rename_i C2 e
    rcases get_set h with ⟨rfl, _⟩ | ⟨_, h⟩
    · exact ⟨_, slot_some.mp e, rfl⟩
    · exact ⟨l, h, hc⟩
  · exact ⟨l, h, hc⟩
theorem celAt_slot (h : celAt ρ i = some C) : ∃ l, ρ[i]? = some (some l) ∧ l.cell = true := by
  unfold celAt at h
  split at h
  · rename_i C2 e; exact ⟨_, slot_some.mp e, rfl⟩
  · rename_i C2 e; exact ⟨_, slot_some.mp e, rfl⟩
  · cases h
theorem den_callIo {o : Bool} {n : Nat} {f : Fi} {a : As} {E0 : XK} {Q : VK} {c : Fix} {G : Hp} {ρ ρ' : Rho} {r : D} {i : Nat} (R : Rep c G ρ σ H) (hf : callI o f i a ρ = some (r, ρ')) (hn : ArI n f)
    (q : ∀ v G' H0 H', Same G G' → Rep c G' ρ' σ H' → RetOk c.K o H0 G' H' v r → (∀ p, H0 p = none → c.F p = none ∧ ¬ c.X p ∧ ∀ (i : Nat) (l : Loc), ρ'[i]? = some (some l) → l.cell = true → σ[i]? ≠ some (some (.ref p))) → Q v H') : tCall (spI c.K n o f) [] E0 (tCons (tVar i) (denA c.K a)) σ H Q := by
  unfold callI at hf
  obtain ⟨C0, e0, hf⟩ := Option.bind_eq_some_iff.mp hf
  obtain ⟨⟨os, ρ1⟩, h1, hf⟩ := Option.bind_eq_some_iff.mp hf
  obtain ⟨ds, h2, hf⟩ := Option.bind_eq_some_iff.mp hf
  obtain ⟨C, e1, hf⟩ := Option.bind_eq_some_iff.mp hf
  obtain ⟨⟨r', C'⟩, h3, hf⟩ := Option.bind_eq_some_iff.mp hf
  dsimp only at hf h2 e1
  split at hf
  case isFalse => cases hf
  rename_i ok
  split at hf
  case isTrue => cases hf
  rename_i nsl
  cases hf
  obtain ⟨x, u0, hs, _⟩ := R.cell e0
  refine ⟨_, hs, c, G, ρ, os, ρ1, rfl, R, h1, fun vs G1 H1 s1 R1 k1 => ?_⟩
  show spI c.K n o f ((.ref x :: vs) ++ []) H1 Q E0
  rw [List.append_nil]
  obtain ⟨Ga, L, ia, nb⟩ := R1.lend k1 h2
  obtain ⟨y, u, hs2, hx, okc, hg, hF⟩ := R1.cell e1
  rw [hs] at hs2; cases hs2
  obtain ⟨l0, el0, cl0⟩ := celAt_slot e1
  have ga : Ga x = none := nb x hg fun j hj hsj => by
    obtain ⟨es, e3⟩ := looks_sl h2 hj
    obtain ⟨l1, el1, cl1⟩ := celAt_slot e3
    have hji := R1.sep j i l1 l0 _ el1 el0 cl1 cl0 hsj hs
    subst hji
    exact nsl (List.any_eq_true.mpr ⟨_, hj, by simp⟩)
  refine ⟨x, vs, u, C, Ga, ds, r, C', rfl, ?_, hx, okc.mono L.up, ga, L.lo, ia, h3, fun v u' Ga' H2 t1 t2 t3 t4 t5 t6 t7 => ?_⟩
  · rw [List.length_cons, ia.len, ← hn _ _ _ h3]
  have hxn : H1 x ≠ none := by rw [hx]; simp
  have gx' : Ga' x = none := t6 x hxn ga
  have sA : Same Ga' (upd H2 x u) := fun p w e => by rw [upd_ne fun z => by rw [z, gx'] at e; cases e]; exact t2 p w e
  have sB : Same H1 (upd H2 x u) := fun p w e => by
    by_cases z : p = x
    · subst z; rw [upd_same, ← hx]; exact e
    · rw [upd_ne z]; exact t3 p w z e
  obtain ⟨G2, s2, R2, e1', e2', tu, no⟩ := R1.called L t1 sA sB t6
  have cok : CelOk c.K G2 u' C' := by
    cases hb : brw os with
    | false => rw [no hb]; exact t5
    | true =>
      rw [hb] at ok
      have ok : (lfreeO o r && celFree C') = true := ok
      rw [Bool.and_eq_true] at ok
      exact t5.tupOnly tu ok.2
  have R3 := R2.put e1 hs cok
  rw [upd_back t4] at R3
  have ok1 : okB (brw os) (lfreeO o r) = true := by
    cases hb : brw os with
    | false => rfl
    | true =>
      rw [hb] at ok
      have ok : (lfreeO o r && celFree C') = true := ok
      rw [Bool.and_eq_true] at ok
      exact ok.1
  exact q v G2 H1 H2 (s1.trans s2) R3 (ret_in ok1 tu no e1' t7) fun p hp => ⟨R1.fh.free hp, fun hx => R1.xh p hx hp, fun j l ej hc => by
    obtain ⟨l', ej', hc'⟩ := putAt_cells ej hc
    exact R1.out hp j l' ej' hc'⟩
theorem den_callI {n : Nat} {f : Fi} {a : As} {E0 : XK} {Q : VK} (hn : ArI n f) : den K (eCallI f i a) σ H Q → tCall (spI K n false f) [] E0 (tCons (tVar i) (denA K a)) σ H Q := by
  rintro ⟨c, G, ρ, o, ρ', rfl, R, hf, q⟩
  unfold eCallI at hf
  obtain ⟨⟨r, ρ1⟩, h1, hf⟩ := Option.bind_eq_some_iff.mp hf
  cases hf
  exact den_callIo R h1 hn fun v G' H0 H' s R' ro _ => q v G' H' s R' ro
theorem denN_callI {n : Nat} {f : Fi} {a : As} {E0 : XK} {Q : VK} (hn : ArI n f) : denN K (nCallI f i a) σ H Q → tCall (spI K n true f) [] E0 (tCons (tVar i) (denA K a)) σ H Q := by
  rintro ⟨c, G, ρ, es, ρ', rfl, R, hf, q⟩
  unfold nCallI at hf
  obtain ⟨⟨r, ρ1⟩, h1, hf⟩ := Option.bind_eq_some_iff.mp hf
  refine den_callIo R h1 hn fun v G' H0 H' s R' ro nw => ?_
  obtain ⟨p, u, ds, rfl, e, h3, h4, h5, h6⟩ := ro
  dsimp only at hf
  subst e
  cases hf
  obtain ⟨n1, n2, n3⟩ := nw p h6
  exact q p G' H' s R' ⟨⟨u, h3, h4⟩, h5, n1, n2, n3⟩
/-! f(new list, ..), that list changed -/
def eCallN (f : Fi) (g : N) (a : As) : E := fun ρ => (g ρ).bind fun p0 => (a p0.2).bind fun p => (looks p.2 p.1).bind fun ds => (f (.l p0.1) ds).bind fun r =>
  if okB (brw p.1) (lfree r.1) = true then some (.fz r.1, p.2) else none
theorem den_callN {n : Nat} {f : Fi} {g : N} {a : As} {E0 : XK} {Q : VK} (hn : ArI n f) : den K (eCallN f g a) σ H Q → tCall (spI K n false f) [] E0 (tCons (denN K g) (denA K a)) σ H Q := by
  rintro ⟨c, G, ρ, o, ρ', rfl, R, hf, q⟩
  unfold eCallN at hf
  obtain ⟨⟨es, ρ0⟩, h0, hf⟩ := Option.bind_eq_some_iff.mp hf
  obtain ⟨⟨os, ρ1⟩, h1, hf⟩ := Option.bind_eq_some_iff.mp hf
  obtain ⟨ds, h2, hf⟩ := Option.bind_eq_some_iff.mp hf
  obtain ⟨⟨r, C'⟩, h3, hf⟩ := Option.bind_eq_some_iff.mp hf
  dsimp only at hf h2 h1
  split at hf
  case isFalse => cases hf
  rename_i ok
  cases hf
  refine ⟨c, G, ρ, es, ρ0, rfl, R, h0, fun x G0 H0 s0 R0 N0 => ?_⟩
  obtain ⟨u, okc, R0'⟩ := R0.pend N0
  refine ⟨c.pend x u, G0, ρ0, os, _, rfl, R0', h1, fun vs G1 H1 s1 R1 k1 => ?_⟩
  show spI c.K n false f ((.ref x :: vs) ++ []) H1 Q E0
  rw [List.append_nil]
  obtain ⟨Ga, L, ia, nb⟩ := R1.lend k1 h2
  have hx : H1 x = some u := R1.fh x _ upd_same
  have hg : G1 x = none := R1.xg x (.inl rfl)
  have ga : Ga x = none := nb x hg fun j hj hsj => by
    obtain ⟨es, e3⟩ := looks_sl h2 hj
    obtain ⟨y, u2, hs2, _, _, _, hF⟩ := R1.cell e3
    rw [hsj] at hs2; cases hs2
    have hF : upd c.F x u x = none := hF
    rw [upd_same] at hF; cases hF
  refine ⟨x, vs, u, .l es, Ga, ds, r, C', rfl, ?_, hx, (okc.mono s1).mono L.up, ga, L.lo, ia, h3, fun v u' Ga' H2 t1 t2 t3 t4 t5 t6 t7 => ?_⟩
  · rw [List.length_cons, ia.len, ← hn _ _ _ h3]
  have hxn : H1 x ≠ none := by rw [hx]; simp
  have gx' : Ga' x = none := t6 x hxn ga
  have sA : Same Ga' (upd H2 x u) := fun p w e => by rw [upd_ne fun z => by rw [z, gx'] at e; cases e]; exact t2 p w e
  have sB : Same H1 (upd H2 x u) := fun p w e => by
    by_cases z : p = x
    · subst z; rw [upd_same, ← hx]; exact e
    · rw [upd_ne z]; exact t3 p w z e
  obtain ⟨G2, s2, R2, e1', e2', tu, no⟩ := R1.called L t1 sA sB t6
  obtain ⟨R3, N3⟩ := Rep.unpend N0.f N0.x okc (s1.trans s2) R2
  have R4 := R3.newAny N3 (u' := u')
  rw [upd_back t4] at R4
  have ok1 : okB (brw os) (lfreeO false r) = true := by
    cases r <;> exact ok
  exact q v G2 H2 (s0.trans (s1.trans s2)) R4 (ret_in (o := false) ok1 tu no e1' t7)
end
/-- a def that may be called by its name -/
structure Cal (P : Program) (w : World) (K : PySem.W.Frag) (mg : Str → Option Value) (base : Heap) (k : Nat) (x : Str) (sp : Sp) : Prop where
  ex : ∃ f fd ps, FnOk P w K mg base CX0 k f fd ps sp ∧ mg x = some (.ref f) ∧ PySem.W.keepIn K (.ref f) = true ∧ Binds K fd ps []
section
variable {X : Cx} {k j n i : Nat} {x : Str} {p pos : Pos} {e : Expr} {es : List Expr} {f : Fp} {h : Fi} {a : As} {g : N}
theorem pd_callP (hr : Room j X.A) (cl : Cal X.prog X.w X.K X.mg X.base k x (spP X.K n false f)) (hn : ArP n f) (hk : k ≤ j) (hg : Gl X x) (ha : PDA X (e :: es) a)
    (hdb : (x == ("__debug__" : Str)) = false := by decide) (he : starEach (e :: es) X.env = (false, eval e X.env) :: starEach es X.env := by rfl) (hpl : (backTo pos (starEach es X.env)).any (·.1) = false := by rfl) :
    PD X (.Call (.Name x p) (e :: es) [] pos) (eCallP f a) := by
  obtain ⟨fa, fd, ps, F, hm, kp, b⟩ := cl.ex
  exact ⟨PEimp (pe_call F (hr.mono hk) hg hm kp b .nil pass0 ha.pa hdb he hpl) fun _ _ _ => den_callP hn⟩
theorem pdn_callP (hr : Room j X.A) (cl : Cal X.prog X.w X.K X.mg X.base k x (spP X.K n true f)) (hn : ArP n f) (hk : k ≤ j) (hg : Gl X x) (ha : PDA X (e :: es) a)
    (hdb : (x == ("__debug__" : Str)) = false := by decide) (he : starEach (e :: es) X.env = (false, eval e X.env) :: starEach es X.env := by rfl) (hpl : (backTo pos (starEach es X.env)).any (·.1) = false := by rfl) :
    PDN X (.Call (.Name x p) (e :: es) [] pos) (nCallP f a) := by
  obtain ⟨fa, fd, ps, F, hm, kp, b⟩ := cl.ex
  exact ⟨PEimp (pe_call F (hr.mono hk) hg hm kp b .nil pass0 ha.pa hdb he hpl) fun _ _ _ => denN_callP hn⟩
theorem pd_callP0 (hr : Room j X.A) (cl : Cal X.prog X.w X.K X.mg X.base k x (spP X.K n false f)) (hn : ArP n f) (hk : k ≤ j) (hg : Gl X x)
    (hdb : (x == ("__debug__" : Str)) = false := by decide) : PD X (.Call (.Name x p) [] [] pos) (eCallP f aNil) := by
  obtain ⟨fa, fd, ps, F, hm, kp, b⟩ := cl.ex
  exact ⟨PEimp (pe_call0 F (hr.mono hk) hg hm kp b .nil pass0 hdb) fun _ _ _ q => by
    obtain ⟨c, G, ρ, os, ρ', _, R, h1, q⟩ := den_callP (E0 := E0) hn q
    cases h1
    exact q [] G _ (Same.refl _) R .nil⟩
theorem pdn_callP0 (hr : Room j X.A) (cl : Cal X.prog X.w X.K X.mg X.base k x (spP X.K n true f)) (hn : ArP n f) (hk : k ≤ j) (hg : Gl X x)
    (hdb : (x == ("__debug__" : Str)) = false := by decide) : PDN X (.Call (.Name x p) [] [] pos) (nCallP f aNil) := by
  obtain ⟨fa, fd, ps, F, hm, kp, b⟩ := cl.ex
  exact ⟨PEimp (pe_call0 F (hr.mono hk) hg hm kp b .nil pass0 hdb) fun _ _ _ q => by
    obtain ⟨c, G, ρ, os, ρ', _, R, h1, q⟩ := denN_callP (E0 := E0) hn q
    cases h1
    exact q [] G _ (Same.refl _) R .nil⟩
theorem pd_callI (i : Nat) (hr : Room j X.A) (cl : Cal X.prog X.w X.K X.mg X.base k x (spI X.K n false h)) (hn : ArI n h) (hk : k ≤ j) (hg : Gl X x) (hx : PE X e (tVar i)) (ha : PDA X es a)
    (hdb : (x == ("__debug__" : Str)) = false := by decide) (he : starEach (e :: es) X.env = (false, eval e X.env) :: starEach es X.env := by rfl) (hpl : (backTo pos (starEach es X.env)).any (·.1) = false := by rfl) :
    PD X (.Call (.Name x p) (e :: es) [] pos) (eCallI h i a) := by
  obtain ⟨fa, fd, ps, F, hm, kp, b⟩ := cl.ex
  exact ⟨PEimp (pe_call F (hr.mono hk) hg hm kp b .nil pass0 (pa_cons hx ha.pa he) hdb he hpl) fun _ _ _ => den_callI hn⟩
theorem pdn_callI (i : Nat) (hr : Room j X.A) (cl : Cal X.prog X.w X.K X.mg X.base k x (spI X.K n true h)) (hn : ArI n h) (hk : k ≤ j) (hg : Gl X x) (hx : PE X e (tVar i)) (ha : PDA X es a)
    (hdb : (x == ("__debug__" : Str)) = false := by decide) (he : starEach (e :: es) X.env = (false, eval e X.env) :: starEach es X.env := by rfl) (hpl : (backTo pos (starEach es X.env)).any (·.1) = false := by rfl) :
    PDN X (.Call (.Name x p) (e :: es) [] pos) (nCallI h i a) := by
  obtain ⟨fa, fd, ps, F, hm, kp, b⟩ := cl.ex
  exact ⟨PEimp (pe_call F (hr.mono hk) hg hm kp b .nil pass0 (pa_cons hx ha.pa he) hdb he hpl) fun _ _ _ => denN_callI hn⟩
theorem pd_callN (hr : Room j X.A) (cl : Cal X.prog X.w X.K X.mg X.base k x (spI X.K n false h)) (hn : ArI n h) (hk : k ≤ j) (hg : Gl X x) (hx : PDN X e g) (ha : PDA X es a)
    (hdb : (x == ("__debug__" : Str)) = false := by decide) (he : starEach (e :: es) X.env = (false, eval e X.env) :: starEach es X.env := by rfl) (hpl : (backTo pos (starEach es X.env)).any (·.1) = false := by rfl) :
    PD X (.Call (.Name x p) (e :: es) [] pos) (eCallN h g a) := by
  obtain ⟨fa, fd, ps, F, hm, kp, b⟩ := cl.ex
  exact ⟨PEimp (pe_call F (hr.mono hk) hg hm kp b .nil pass0 (pa_cons hx.pe ha.pa he) hdb he hpl) fun _ _ _ => den_callN hn⟩
end
end L3
set_option Elab.async false
set_option linter.all false
set_option maxRecDepth 100000
set_option maxHeartbeats 4000000
namespace L3
open PySem PySem.Spec PyProof.Rows L2
/-! ### sorted(set(xs)), xs a list of tuples of ints -/
def intsU : List D → Option (List Int)
  | [] => some []
  | .int i :: ds => (intsU ds).bind fun is => some (i :: is)
  | _ => none
def keysU : List D → Option (List (List Int))
  | [] => some []
  | .tuple ds :: r => (intsU ds).bind fun k => (keysU r).bind fun ks => some (k :: ks)
  | _ => none
def dedupL {α : Type} [DecidableEq α] : List α → List α
  | [] => []
  | x :: xs => if x ∈ dedupL xs then dedupL xs else x :: dedupL xs
theorem mem_dedupL {α : Type} [DecidableEq α] {a : α} : ∀ {l : List α}, a ∈ dedupL l ↔ a ∈ l
  | [] => Iff.rfl
  | x :: xs => by
    unfold dedupL
    split
    · rename_i h
      rw [mem_dedupL, List.mem_cons]
      constructor
      · exact .inr
      · rintro (rfl | h')
        · exact mem_dedupL.mp h
        · exact h'
    · rw [List.mem_cons, List.mem_cons, mem_dedupL]
theorem nodup_dedupL {α : Type} [DecidableEq α] : ∀ {l : List α}, (dedupL l).Nodup
  | [] => List.nodup_nil
  | x :: xs => by
    unfold dedupL
    split
    · exact nodup_dedupL
    · rename_i h
      exact List.nodup_cons.mpr ⟨h, nodup_dedupL⟩
def bigU (ks : List (List Int)) : Int := 1 + ks.flatten.foldl max 0
def tupU (k : List Int) : D := .tuple (k.map .int)
def sortU (ks : List (List Int)) : List (List Int) := (dedupL ks).mergeSort fun a b => decide (TS.code (bigU ks) a ≤ TS.code (bigU ks) b)
def dimU (ks : List (List Int)) : Nat := match ks with
  | [] => 1
  | k :: _ => k.length
def ssetT (ds : List D) : Option (List D) := (keysU ds).bind fun ks => if ks.length < 64 ∧ 1 ≤ dimU ks ∧ ks.all (fun k => k.length == dimU ks && k.all fun x => decide (0 ≤ x)) = true then some ((sortU ks).map tupU) else none
theorem foldl_max_le : ∀ (l : List Int) (a : Int), a ≤ l.foldl max a ∧ ∀ x ∈ l, x ≤ l.foldl max a
  | [], a => ⟨Int.le_refl _, fun _ h => by simp at h⟩
  | y :: l, a => by
    obtain ⟨h1, h2⟩ := foldl_max_le l (max a y)
    rw [List.foldl_cons]
    refine ⟨Int.le_trans (Int.le_max_left a y) h1, fun x hx => ?_⟩
    rcases List.mem_cons.mp hx with rfl | hx
    · exact Int.le_trans (Int.le_max_right a x) h1
    · exact h2 x hx
theorem bd_big {ks : List (List Int)} {k : List Int} (hk : k ∈ ks) (h0 : ∀ x ∈ k, 0 ≤ x) : TS.Bd (bigU ks) k := fun x hx => by
  refine ⟨h0 x hx, ?_⟩
  have := (foldl_max_le ks.flatten 0).2 x (List.mem_flatten.mpr ⟨k, hk, hx⟩)
  unfold bigU; omega
theorem code_inj {B : Int} : ∀ {a b : List Int}, a.length = b.length → TS.Bd B a → TS.Bd B b → TS.code B a = TS.code B b → a = b
  | [], [], _, _, _, _ => rfl
  | x :: a, y :: b, hl, ha, hb, h => by
    have hl' : a.length = b.length := by simpa using hl
    have h1 : x = y := by
      rcases Int.lt_trichotomy x y with q | q | q
      · have := TS.code_lt hl' ha.tail hb.tail q; omega
      · exact q
      · have := TS.code_lt hl'.symm hb.tail ha.tail q; omega
    subst h1
    have h2 : TS.code B a = TS.code B b := by
      have e1 := TS.code_same (B := B) (d := x) hl'
      have e2 := TS.code_same (B := B) (d := x) hl'.symm
      rcases Int.lt_trichotomy (TS.code B a) (TS.code B b) with q | q | q
      · have := e1.mpr q; omega
      · exact q
      · have := e2.mpr q; omega
    rw [code_inj hl' ha.tail hb.tail h2]
  | [], _ :: _, hl, _, _, _ => by simp at hl
  | _ :: _, [], hl, _, _, _ => by simp at hl
section
variable {X : Cx} {c : Fix} {K : PySem.W.Frag} {G G' H H' : Hp} {ρ ρ' : Rho} {σ : L2.St} {v : V} {d : D}
theorem intsU_map : ∀ {ds : List D} {is : List Int}, intsU ds = some is → ds = is.map .int
  | [], is, h => by cases h; rfl
  | d :: ds, is, h => by
    cases d with
    | int i =>
      have h : ((intsU ds).bind fun is => some (i :: is)) = some is := h
      obtain ⟨js, h1, h2⟩ := Option.bind_eq_some_iff.mp h
      cases h2
      rw [intsU_map h1]; rfl
    | _ => cases h
theorem IsAll.keysU : ∀ {vs : List V} {ds : List D} {ks : List (List Int)}, IsAll K G vs ds → keysU ds = some ks → ∃ kp : List (Addr × List Int), vs = kp.map (fun p => V.ref p.1) ∧ kp.map (·.2) = ks ∧ ∀ p ∈ kp, Is K G (.ref p.1) (tupU p.2) ∧ TpT K G p.1 (p.2.map .int)
  | [], [], ks, _, e => by cases e; exact ⟨[], rfl, rfl, fun _ h => by simp at h⟩
  | v :: vs, d :: ds, ks, .cons a b, e => by
    cases d with
    | tuple es =>
      have e : ((intsU es).bind fun k => (L3.keysU ds).bind fun ks => some (k :: ks)) = some ks := e
      obtain ⟨k, h1, e⟩ := Option.bind_eq_some_iff.mp e
      obtain ⟨ks', h2, e⟩ := Option.bind_eq_some_iff.mp e
      cases e
      obtain ⟨kp, rfl, rfl, h3⟩ := IsAll.keysU b h2
      have he := intsU_map h1
      subst he
      cases a with
      | @tup x ws _ t l aa =>
        have hw := aa.ints
        subst hw
        refine ⟨(x, k) :: kp, rfl, rfl, fun p hp => ?_⟩
        rcases List.mem_cons.mp hp with rfl | hp
        · exact ⟨.tup t l aa, t⟩
        · exact h3 p hp
    | _ => cases e
def nSsetT (f : E) : N := fun ρ => (f ρ).bind fun p => (look p.2 p.1).bind fun d => match d with
  | .list ds => (ssetT ds).bind fun r => some (r, p.2)
  | _ => none
theorem denN_ssetT {f : E} {Q : VK} : denN K (nSsetT f) σ H Q → tCB (rSortedT K X.prog X.w) (tCons (tCB (rSetOfT K X.prog X.w) (tCons (den K f) tNil)) tNil) σ H Q := by
  rintro ⟨c, G, ρ, es, ρ', rfl, R, hf, q⟩
  unfold nSsetT at hf
  obtain ⟨⟨o, ρ1⟩, h1, hf⟩ := Option.bind_eq_some_iff.mp hf
  obtain ⟨d, h2, hf⟩ := Option.bind_eq_some_iff.mp hf
  cases d with
  | list ds =>
    obtain ⟨r, h3, hf⟩ := Option.bind_eq_some_iff.mp hf
    cases hf
    obtain ⟨ks, h4, h3⟩ := Option.bind_eq_some_iff.mp h3
    split at h3
    case isFalse => cases h3
    rename_i hok
    cases h3
    obtain ⟨hlen, hdim, hall⟩ := hok
    refine ⟨c, G, ρ, o, _, rfl, R, h1, fun v G1 H1 s1 R1 k1 => ?_⟩
    obtain ⟨a, vs, rfl, hs, ia, hl⟩ := (R1.view k1 h2).seqL R1.gh
    obtain ⟨kp, rfl, rfl, hk⟩ := ia.keysU h4
    have hsq : ∀ p ∈ kp, SqT c.K H1 p.1 (p.2.map .int) := fun p hp => (TpT.mono R1.gh (hk p hp).2).sq
    refine ⟨a, kp, rfl, hs, hsq, by simpa using hlen, fun b L hb hL1 hL2 => ?_⟩
    have R2 := R1.lay (u := SetTO X.prog X.w b L) hb
    have sb : Same H1 (upd H1 b (SetTO X.prog X.w b L)) := upd_keep hb
    have hall' : ∀ p ∈ kp, p.2.length = dimU (kp.map (·.2)) ∧ TS.Bd (bigU (kp.map (·.2))) p.2 := fun p hp => by
      have z := List.all_eq_true.mp hall p.2 (List.mem_map_of_mem hp)
      rw [Bool.and_eq_true, beq_iff_eq] at z
      refine ⟨z.1, bd_big (List.mem_map_of_mem hp) fun x hx => ?_⟩
      exact of_decide_eq_true (List.all_eq_true.mp z.2 x hx)
    refine ⟨b, L, dimU (kp.map (·.2)), bigU (kp.map (·.2)), rfl, upd_same, fun p hp => Same.sqT sb (hsq p (hL1 p hp)), hdim, fun p hp => hall' p (hL1 p hp), fun L' p pm nd lt pw hp => ?_⟩
    have hmem : ∀ q ∈ L', q ∈ kp := fun q hq => hL1 q (pm.mem_iff.mp hq)
    have key : L'.map (·.2) = sortU (kp.map (·.2)) := by
      have perm : (L'.map (·.2)).Perm (sortU (kp.map (·.2))) := by
        refine List.Perm.trans ?_ (List.mergeSort_perm _ _).symm
        refine (List.perm_ext_iff_of_nodup nd nodup_dedupL).mpr fun k => ?_
        rw [mem_dedupL]
        constructor
        · intro h
          obtain ⟨q, hq, rfl⟩ := List.mem_map.mp h
          exact List.mem_map_of_mem (hmem q hq)
        · intro h
          obtain ⟨q, hq, rfl⟩ := List.mem_map.mp h
          have := hL2 q hq
          obtain ⟨q2, hq2, e2⟩ := List.mem_map.mp this
          rw [← e2]
          exact List.mem_map_of_mem (pm.mem_iff.mpr hq2)
      refine List.Perm.eq_of_pairwise (le := fun a b => TS.code (bigU (kp.map (·.2))) a ≤ TS.code (bigU (kp.map (·.2))) b) (fun x y hx hy hxy hyx => ?_) (List.pairwise_map.mpr pw) ?_ perm
      · obtain ⟨q1, hq1, rfl⟩ := List.mem_map.mp hx
        have hy' := perm.mem_iff.mpr hy
        obtain ⟨q2, hq2, rfl⟩ := List.mem_map.mp hy'
        obtain ⟨l1, b1⟩ := hall' q1 (hmem q1 hq1)
        obtain ⟨l2, b2⟩ := hall' q2 (hmem q2 hq2)
        exact code_inj (by rw [l1, l2]) b1 b2 (by omega)
      · have := List.pairwise_mergeSort (le := fun a b => decide (TS.code (bigU (kp.map (·.2))) a ≤ TS.code (bigU (kp.map (·.2))) b)) (fun a b c h1 h2 => by
          have := of_decide_eq_true h1; have := of_decide_eq_true h2; exact decide_eq_true (by omega)) (fun a b => by
          rw [Bool.or_eq_true]
          rcases Int.le_total (TS.code (bigU (kp.map (·.2))) a) (TS.code (bigU (kp.map (·.2))) b) with z | z
          · exact .inl (decide_eq_true z)
          · exact .inr (decide_eq_true z)) (dedupL (kp.map (·.2)))
        exact this.imp fun h => of_decide_eq_true h
    have ia2 : ∀ {L'' : List (Addr × List Int)}, (∀ q ∈ L'', q ∈ kp) → IsAll c.K G1 (L''.map fun q => V.ref q.1) ((L''.map (·.2)).map tupU) := by
      intro L''
      induction L'' with
      | nil => intro _; exact .nil
      | cons q L'' ih =>
        intro hm
        exact .cons (hk q (hm q (List.mem_cons_self ..))).1 (ih fun q' hq' => hm q' (List.mem_cons_of_mem _ hq'))
    have iaR := ia2 hmem
    rw [key] at iaR
    have hlen' : ((sortU (kp.map (·.2))).map tupU).length ≤ sizeLine := by
      rw [← iaR.len, List.length_map, sizeLine_eq]; omega
    exact q p G1 _ s1 (R2.lay hp) (New.mk' R2 hp iaR hlen')
  | _ => cases hf
theorem pdn_ssetT {k : Nat} {e : Expr} {f : E} {p p2 pos pos2 : Pos} (hr : Room k X.A) (hc : X.calm = true) (hg : Gl X "sorted") (hm : X.mg "sorted" = none) (hg2 : Gl X "set") (hm2 : X.mg "set" = none) (he : PD X e f)
    (hs2 : starEach [e] X.env = (false, eval e X.env) :: starEach [] X.env := by rfl) (hpl2 : (backTo pos2 (starEach [] X.env)).any (·.1) = false := by rfl)
    (hs : starEach [.Call (.Name "set" p2) [e] [] pos2] X.env = (false, eval (.Call (.Name "set" p2) [e] [] pos2) X.env) :: starEach [] X.env := by rfl) (hpl : (backTo pos (starEach [] X.env)).any (·.1) = false := by rfl)
    (hb : bootBuiltins "sorted" = some (.builtin "sorted") := by exact PySem.boot_sorted) (hb2 : bootBuiltins "set" = some (.type "set") := by exact PySem.boot_set) :
    PDN X (.Call (.Name "sorted" p) [.Call (.Name "set" p2) [e] [] pos2] [] pos) (nSsetT f) :=
  ⟨PEimp (pe_callB (cr_sortedT hc) hg hm hb (pa_cons (pe_callTy (cr_setOfT hc hr.units) hg2 hm2 hb2 (pa_cons he.pe pa_nil hs2) (by decide) (by decide) hs2 hpl2) pa_nil hs) (by decide) (by decide) hs hpl) fun _ _ _ => denN_ssetT⟩
end
end L3
set_option Elab.async false
set_option linter.all false
set_option maxRecDepth 100000
set_option maxHeartbeats 4000000
namespace L3
open PySem PySem.Spec PyProof.Rows L2
section
variable {X : Cx} {c : Fix} {K : PySem.W.Frag} {G G' H H' : Hp} {ρ ρ' : Rho} {σ : L2.St} {v : V} {d : D}
/-! ### names of the module and of the builtins -/
theorem pd_gint {x : Str} {i : Int} {pos : Pos} (h : ∃ t, X.mg x = some (.int i t)) (hg : Gl X x) (hd : (x == ("__debug__" : Str)) = false := by decide) : PD X (.Name x pos) (eC (.int i)) := by
  obtain ⟨t, ht⟩ := h
  exact pd_glob (v := .int i) (pe_glob hg ht ⟨t, rfl⟩ hd) fun _ => .int i
theorem pd_gstr {x y : Str} {pos : Pos} (h : ∃ t, X.mg x = some (.str y t)) (hl : y.length ≤ sizeLine) (hg : Gl X x) (hd : (x == ("__debug__" : Str)) = false := by decide) : PD X (.Name x pos) (eC (.str y)) := by
  obtain ⟨t, ht⟩ := h
  exact pd_glob (v := .str y) (pe_glob hg ht ⟨t, rfl⟩ hd) fun _ => .str y hl
theorem pe_tyn {x : Str} {T : String} {pos : Pos} (hg : Gl X x) (hm : X.mg x = none) (hv : bootBuiltins x = some (.type T)) (hn : x ≠ "__name__" := by decide) (hdb : (x == ("__debug__" : Str)) = false := by decide) : PE X (.Name x pos) (tC (.ty T)) :=
  ⟨fun pins s σ H Q I h => ld_blt I hg hm hv ⟨.ty T, H, I, rfl, h⟩ hn hdb⟩
/-! ### list(range(..)) -/
def rgOk (a b : Int) : Bool := decide (-(2 ^ 62) ≤ a ∧ a < 2 ^ 62 ∧ -(2 ^ 62) ≤ b ∧ b < 2 ^ 62 ∧ (b - a).toNat ≤ 2 ^ 24)
def nListRg1 (f : E) : N := fun ρ => (f ρ).bind fun p => match p.1 with
  | .fz (.int n) => if rgOk 0 n = true then some (rangeD 0 n.toNat, p.2) else none
  | _ => none
def nListRg2 (f g : E) : N := fun ρ => (f ρ).bind fun p => (g p.2).bind fun q => match p.1, q.1 with
  | .fz (.int a), .fz (.int b) => if rgOk a b = true then some (rangeD a (b - a).toNat, q.2) else none
  | _, _ => none
theorem rg_all {a : Int} {n : Nat} : IsAll K G ((List.range n).map fun i => V.int (a + (i : Nat))) (rangeD a n) := by
  have e1 : ((List.range n).map fun i => V.int (a + (i : Nat))) = ((List.range n).map fun i : Nat => a + (i : Int)).map V.int := by rw [List.map_map]; rfl
  have e2 : rangeD a n = ((List.range n).map fun i : Nat => a + (i : Int)).map PyData.int := by unfold rangeD; rw [List.map_map]; rfl
  rw [e1, e2]; exact IsAll.of_ints
theorem denN_listRg1 {f : E} {Q : VK} : denN K (nListRg1 f) σ H Q → tLstRg (tRg1 (den K f)) σ H Q := by
  rintro ⟨c, G, ρ, es, ρ', rfl, R, hf, q⟩
  unfold nListRg1 at hf
  obtain ⟨⟨o, ρ1⟩, h1, hf⟩ := Option.bind_eq_some_iff.mp hf
  refine ⟨c, G, ρ, o, ρ1, rfl, R, h1, fun v G1 H1 s1 R1 k1 => ?_⟩
  dsimp only at hf
  split at hf
  case h_2 => cases hf
  rename_i n
  split at hf
  case isFalse => cases hf
  rename_i ok
  cases hf
  cases k1
  have ok := of_decide_eq_true ok
  refine ⟨n, rfl, ok, fun p hp => ?_⟩
  have ia : IsAll c.K G1 (rgV 0 n) (rangeD 0 n.toNat) := by
    have h := @rg_all c.K G1 0 (n - 0).toNat
    rw [Int.sub_zero] at h
    unfold rgV; rw [Int.sub_zero]; exact h
  have hl : (rangeD 0 n.toNat).length ≤ sizeLine := by
    rw [rangeD_len, sizeLine_eq]; have := ok.2.2.2.2; rw [Int.sub_zero] at this; omega
  exact q p G1 _ s1 (R1.lay hp) (New.mk' R1 hp ia hl)
theorem denN_listRg2 {f g : E} {Q : VK} : denN K (nListRg2 f g) σ H Q → tLstRg (tRg2 (den K f) (den K g)) σ H Q := by
  rintro ⟨c, G, ρ, es, ρ', rfl, R, hf, q⟩
  unfold nListRg2 at hf
  obtain ⟨⟨o, ρ1⟩, h1, hf⟩ := Option.bind_eq_some_iff.mp hf
  obtain ⟨⟨o2, ρ2⟩, h2, hf⟩ := Option.bind_eq_some_iff.mp hf
  refine ⟨c, G, ρ, o, ρ1, rfl, R, h1, fun v G1 H1 s1 R1 k1 => ⟨c, G1, ρ1, o2, ρ2, rfl, R1, h2, fun v2 G2 H2 s2 R2 k2 => ?_⟩⟩
  dsimp only at hf
  split at hf
  case h_2 => cases hf
  rename_i a b _
  split at hf
  case isFalse => cases hf
  rename_i ok
  cases hf
  cases k1
  cases k2
  have ok := of_decide_eq_true ok
  refine ⟨a, b, rfl, rfl, ok, fun p hp => ?_⟩
  have ia : IsAll c.K G2 (rgV a b) (rangeD a (b - a).toNat) := rg_all
  have hl : (rangeD a (b - a).toNat).length ≤ sizeLine := by
    rw [rangeD_len, sizeLine_eq]; have := ok.2.2.2.2; omega
  exact q p G2 _ (s1.trans s2) (R2.lay hp) (New.mk' R2 hp ia hl)
theorem pdn_listRg1 {e : Expr} {f : E} {p p2 pos pos2 : Pos} (hc : X.calm = true) (hg : Gl X "list") (hm : X.mg "list" = none) (hg2 : Gl X "range") (hm2 : X.mg "range" = none) (he : PD X e f)
    (na : starEach [e] X.env = (false, eval e X.env) :: starEach [] X.env := by rfl) (na2 : starEach [.Call (.Name "range" p2) [e] [] pos2] X.env = (false, eval (.Call (.Name "range" p2) [e] [] pos2) X.env) :: starEach [] X.env := by rfl) :
    PDN X (.Call (.Name "list" p) [.Call (.Name "range" p2) [e] [] pos2] [] pos) (nListRg1 f) := ⟨PEimp (pe_listRg hc hg hm (prg_1 hg2 hm2 he.pe na) na2) fun _ _ _ => denN_listRg1⟩
theorem pdn_listRg2 {e e2 : Expr} {f g : E} {p p2 pos pos2 : Pos} (hc : X.calm = true) (hg : Gl X "list") (hm : X.mg "list" = none) (hg2 : Gl X "range") (hm2 : X.mg "range" = none) (he : PD X e f) (he2 : PD X e2 g)
    (na : starEach [e, e2] X.env = (false, eval e X.env) :: starEach [e2] X.env := by rfl) (nb : starEach [e2] X.env = (false, eval e2 X.env) :: starEach [] X.env := by rfl) (hp : (backTo pos2 (starEach [e2] X.env)).any (·.1) = false := by rfl)
    (na2 : starEach [.Call (.Name "range" p2) [e, e2] [] pos2] X.env = (false, eval (.Call (.Name "range" p2) [e, e2] [] pos2) X.env) :: starEach [] X.env := by rfl) :
    PDN X (.Call (.Name "list" p) [.Call (.Name "range" p2) [e, e2] [] pos2] [] pos) (nListRg2 f g) := ⟨PEimp (pe_listRg hc hg hm (prg_2 hg2 hm2 he.pe he2.pe na nb hp) na2) fun _ _ _ => denN_listRg2⟩
end
end L3
set_option Elab.async false
set_option linter.all false
set_option maxRecDepth 100000
set_option maxHeartbeats 4000000
namespace L3
open PySem PySem.Spec PyProof.Rows L2
section
variable {X : Cx} {c c' : Fix} {K : PySem.W.Frag} {G G' G1 H H' H1 : Hp} {ρ ρ' ρ1 : Rho} {σ σ2 : L2.St} {De : Ends} {v : V} {d : D} {p a : Addr} {u : HO} {C C' : Cel} {i : Nat}
/-! ### forgetting slots, freezing a slot -/
theorem Rep.wipes (R : Rep c G ρ σ H) : ∀ is : List Nat, Rep c G (wipeR ρ is) σ H
  | [] => R
  | i :: is => (R.wipes is).drop
theorem wipeR_out {j : Nat} {l : Loc} : ∀ {is : List Nat}, (wipeR ρ is)[j]? = some (some l) → ρ[j]? = some (some l)
  | [], h => h
  | i :: is, h => by
    rcases get_set (show ((wipeR ρ is).set i none)[j]? = some (some l) from h) with ⟨_, h⟩ | ⟨_, h⟩
    · cases h
    · exact wipeR_out h
theorem New.wipes {C : Cel} (N : New c G ρ σ H p C) (is : List Nat) : New c G (wipeR ρ is) σ H p C := ⟨N.it, N.g, N.f, N.x, fun i l e hc => N.out i l (wipeR_out e) hc⟩
def sWp (is : List Nat) (f : S) : S := fun ρ => (f ρ).bind fun p => some (p.1, wipeR p.2 is)
theorem denS_wp {is : List Nat} {f : S} : denS K (sWp is f) De σ H → denS K f De σ H := by
  rintro ⟨c, G, ρ, r, ρ', rfl, R, hf, q⟩
  obtain ⟨⟨r1, ρ1⟩, h1, hf⟩ := Option.bind_eq_some_iff.mp hf
  cases hf
  refine ⟨c, G, ρ, r1, ρ1, rfl, R, h1, ?_⟩
  cases r1 with
  | nx => exact fun G1 σ1 H1 s1 R1 => q G1 σ1 H1 s1 (R1.wipes is)
  | bk => exact fun G1 σ1 H1 s1 R1 => q G1 σ1 H1 s1 (R1.wipes is)
  | ct => exact fun G1 σ1 H1 s1 R1 => q G1 σ1 H1 s1 (R1.wipes is)
  | rt d => exact fun v G1 σ1 H1 s1 R1 i1 => q v G1 σ1 H1 s1 (R1.wipes is) i1
  | ro ds => exact fun p G1 σ1 H1 s1 R1 i1 => q p G1 σ1 H1 s1 (R1.wipes is) (i1.wipes is)
theorem pds_wp {st : Stmt} {f : S} (is : List Nat) (h : PDS X st f) : PDS X st (sWp is f) := ⟨PSimp h.ps fun _ _ _ => denS_wp⟩
theorem pdss_wp {st : List Stmt} {f : S} (is : List Nat) (h : PDSs X st f) : PDSs X st (sWp is f) := ⟨PSsimp h.pss fun _ _ _ => denS_wp⟩
def iWp (is : List Nat) (f : I) : I := fun ρ => (f ρ).bind fun p => some (p.1, wipeR p.2 is)
theorem denI_wp {is : List Nat} {f : I} {R : It → Hp → Prop} : denI K (iWp is f) σ H R → denI K f σ H R := by
  rintro ⟨c, G, ρ, ds, ρ', rfl, R0, hf, q⟩
  obtain ⟨⟨r1, ρ1⟩, h1, hf⟩ := Option.bind_eq_some_iff.mp hf
  cases hf
  exact ⟨c, G, ρ, r1, ρ1, rfl, R0, h1, fun J G1 H1 s1 R1 F => q J G1 H1 s1 (R1.wipes is) F⟩
theorem pdi_wp {tg e : Expr} {f : I} (is : List Nat) (h : PDI X tg e f) : PDI X tg e (iWp is f) := ⟨PIimp h.pi fun _ _ _ => denI_wp⟩
def bWp (is : List Nat) (f : B) : B := fun ρ => f (wipeR ρ is)
theorem pdb_wp {e : Expr} {f : B} (is : List Nat) (h : PDB X e f) : PDB X e (bWp is f) := ⟨PTimp h.pt fun σ H Q => by
  rintro ⟨c, G, ρ, b, ρ', eK, R, hf, q⟩
  exact ⟨c, G, wipeR ρ is, b, ρ', eK, R.wipes is, hf, q⟩⟩
def frz (ρ : Rho) (i : Nat) : Rho := match slot ρ i with
  | some (.own (.l ds)) => ρ.set i (some (.val (.list ds)))
  | _ => ρ
theorem Rep.frz (R : Rep c G ρ σ H) (i : Nat) : ∃ G', Same G G' ∧ Rep c G' (frz ρ i) σ H := by
  unfold L3.frz
  split
  · rename_i ds e
    have e := slot_some.mp e
    obtain ⟨v, hs, _⟩ := R.loc i _ e
    obtain ⟨p, rfl, R2, n2⟩ := R.freezeSlot e hs
    obtain ⟨G3, s3, R3, i3⟩ := R2.freeze n2
    have hi : i < σ.length := (List.getElem?_eq_some_iff.mp hs).1
    refine ⟨G3, s3, ?_⟩
    have z := R3.setVal (i := i) i3
    rw [List.set_set] at z
    have e2 : σ.set i (some (.ref p)) = σ := by
      refine List.ext_getElem? fun j => ?_
      by_cases hj : i = j
      · subst hj; rw [List.getElem?_set_self hi, hs]
      · rw [List.getElem?_set_ne hj]
    rw [e2] at z; exact z
  · exact ⟨G, Same.refl _, R⟩
def sFz (i : Nat) (f : S) : S := fun ρ => (f ρ).bind fun p => match p.1 with
  | .nx => some (.nx, frz p.2 i)
  | _ => none
theorem denS_fz {f : S} : denS K (sFz i f) De σ H → denS K f De σ H := by
  rintro ⟨c, G, ρ, r, ρ', rfl, R, hf, q⟩
  obtain ⟨⟨r1, ρ1⟩, h1, hf⟩ := Option.bind_eq_some_iff.mp hf
  cases r1 with
  | nx =>
    cases hf
    refine ⟨c, G, ρ, .nx, ρ1, rfl, R, h1, fun G1 σ1 H1 s1 R1 => ?_⟩
    obtain ⟨G2, s2, R2⟩ := R1.frz i
    exact q G2 σ1 H1 (s1.trans s2) R2
  | _ => cases hf
theorem pds_fz {st : Stmt} {f : S} (i : Nat) (h : PDS X st f) : PDS X st (sFz i f) := ⟨PSimp h.ps fun _ _ _ => denS_fz⟩
/-! ### x.index(y), data -/
def indexD (ds : List D) (y : D) : Option Nat := if (SeqAt.shaped (.list ds) && SeqAt.shaped y) = true then ds.findIdx? fun z => PyData.eqv z y else none
def eIndex (f g : E) : E := fun ρ => (f ρ).bind fun p => match look p.2 p.1 with
  | some (.list _) => (g p.2).bind fun q => match look q.2 p.1 with
    | some (.list ds) => (look q.2 q.1).bind fun y => (indexD ds y).bind fun j => some (.fz (.int (j : Nat)), q.2)
    | _ => none
  | _ => none
theorem den_index {f g : E} {Q : VK} : den K (eIndex f g) σ H Q → tBM K "list" (rIndexD K) (den K f) (denA K (aCons g aNil)) σ H Q := by
  rintro ⟨c, G, ρ, r, ρ', rfl, R, hf, q⟩
  obtain ⟨⟨o, ρ1⟩, h1, hf⟩ := Option.bind_eq_some_iff.mp hf
  dsimp only at hf
  split at hf
  case h_2 => cases hf
  rename_i ds0 e0
  obtain ⟨⟨o2, ρ2⟩, h2, hf⟩ := Option.bind_eq_some_iff.mp hf
  refine ⟨c, G, ρ, o, ρ1, rfl, R, h1, fun v G1 H1 s1 R1 k1 => ?_⟩
  obtain ⟨a, vs, rfl, hs, _, _⟩ := (R1.view k1 e0).seqL R1.gh
  refine ⟨.inl ⟨rfl, vs, hs⟩, c, G1, ρ1, [o2], ρ2, rfl, R1, by unfold aCons; rw [h2]; rfl, fun ws G2 H2 s2 R2 k2 => ?_⟩
  cases k2 with
  | cons k k' =>
    cases k'
    dsimp only at hf
    split at hf
    case h_2 => cases hf
    rename_i ds e1
    obtain ⟨y, h3, hf⟩ := Option.bind_eq_some_iff.mp hf
    obtain ⟨j, h4, hf⟩ := Option.bind_eq_some_iff.mp hf
    cases hf
    unfold indexD at h4
    split at h4
    case isFalse => cases h4
    rename_i ok
    rw [Bool.and_eq_true] at ok
    obtain ⟨hj, hz, hno⟩ := List.findIdx?_eq_some_iff_getElem.mp h4
    exact ⟨a, _, y, ds, j, ds[j], rfl, rfl, (R2.view (k1.mono s2) e1).dp R2.gh, (R2.view k h3).dp R2.gh, ok.1, ok.2, List.getElem?_eq_getElem hj, hz, fun m z' hm hz' => by
      obtain ⟨hm', rfl⟩ := List.getElem?_eq_some_iff.mp hz'
      have := hno m hm
      simpa using this, q _ G2 H2 (s1.trans s2) R2 (.int _)⟩
theorem pd_index {x e : Expr} {f g : E} {apos cpos : Pos} (hu : X.A.units + 65 < cLine) (hx : PD X x f) (he : PD X e g)
    (hbase : attributeBase x "index" X.env (eval x X.env) = eval x X.env := by rfl)
    (hfew : ((backTo cpos (starEach [e] X.env)).all (fun x => !x.1) && (backToKw cpos (keywordEach [] X.env)).all (fun x => x.1.isSome)
      && decide (([e] : List Expr).length + ([] : List Keyword).length + (if ([] : List Keyword).isEmpty then 0 else 1) < 30)) = true := by rfl)
    (hline : (apos.endLine == cpos.line) = true := by rfl) (hs : starEach [e] X.env = (false, eval e X.env) :: starEach [] X.env := by rfl) (hplain : (backTo cpos (starEach [] X.env)).any (·.1) = false := by rfl) :
    PD X (.Call (.Attribute x "index" apos) [e] [] cpos) (eIndex f g) :=
  ⟨PEimp (pe_bm plist PySem.F.slot_list_index PySem.F.type_list_index (mt_indexD hu) hx.pe (pda_cons he pda_nil hs).pa hbase hfew hline hs hplain) fun _ _ _ => den_index⟩
/-! ### x.pop(i) -/
def ePopAt (i : Nat) (g : E) : E := fun ρ => match celAt ρ i with
  | some (.l _) => (g ρ).bind fun p => match p.1, celAt p.2 i with
    | .fz (.int k), some (.l ds) => if -(2 ^ 63) ≤ k ∧ k < 2 ^ 63 then (seqIndex? k ds.length).bind fun j => (ds[j]?).bind fun d => some (.fz d, putAt p.2 i (.l (ds.eraseIdx j))) else none
    | _, _ => none
  | _ => none
theorem IsAll.eraseIdx : ∀ {vs : List V} {ds : List D} (j : Nat), IsAll K G vs ds → IsAll K G (vs.eraseIdx j) (ds.eraseIdx j)
  | [], [], _, _ => by simpa using .nil
  | _ :: _, _ :: _, 0, .cons _ b => by simpa using b
  | _ :: _, _ :: _, j + 1, .cons a b => .cons a (IsAll.eraseIdx j b)
theorem den_popAt {g : E} {Q : VK} : den K (ePopAt i g) σ H Q → tBM K "list" rPopAt (tVar i) (denA K (aCons g aNil)) σ H Q := by
  rintro ⟨c, G, ρ, r, ρ', rfl, R, hf, q⟩
  unfold ePopAt at hf
  split at hf
  case h_2 => cases hf
  rename_i ds0 e0
  obtain ⟨⟨o, ρ1⟩, h1, hf⟩ := Option.bind_eq_some_iff.mp hf
  obtain ⟨a, hs, ty⟩ := tyV_cell R e0
  refine ⟨_, hs, ty, c, G, ρ, [o], ρ1, rfl, R, by unfold aCons; rw [h1]; rfl, fun vs G1 H1 s1 R1 k1 => ?_⟩
  cases k1 with
  | cons k k' =>
    cases k'
    dsimp only at hf
    split at hf
    case h_2 => cases hf
    rename_i k2 ds e1
    split at hf
    case isFalse => cases hf
    rename_i ok
    obtain ⟨j, h3, hf⟩ := Option.bind_eq_some_iff.mp hf
    obtain ⟨y, h4, hf⟩ := Option.bind_eq_some_iff.mp hf
    cases hf
    cases k
    obtain ⟨b, u, hs2, hb, ok2, _⟩ := R1.cell e1
    rw [hs] at hs2; cases hs2
    obtain ⟨ws, rfl, iw, hl⟩ := ok2.lst
    obtain ⟨w, ew, ew2⟩ := iw.get h4
    refine ⟨a, ws, _, j, w, rfl, rfl, hb, ok.1, ok.2, by rw [iw.len]; exact h3, ew, ?_⟩
    exact q w G1 _ s1 (R1.put e1 hs (.l (iw.eraseIdx j) (Nat.le_trans (List.length_eraseIdx_le ..) hl))) ew2
theorem pd_popAt {x e : Expr} {g : E} {apos cpos : Pos} (hx : PE X x (tVar i)) (he : PD X e g)
    (hbase : attributeBase x "pop" X.env (eval x X.env) = eval x X.env := by rfl)
    (hfew : ((backTo cpos (starEach [e] X.env)).all (fun x => !x.1) && (backToKw cpos (keywordEach [] X.env)).all (fun x => x.1.isSome)
      && decide (([e] : List Expr).length + ([] : List Keyword).length + (if ([] : List Keyword).isEmpty then 0 else 1) < 30)) = true := by rfl)
    (hline : (apos.endLine == cpos.line) = true := by rfl) (hs : starEach [e] X.env = (false, eval e X.env) :: starEach [] X.env := by rfl) (hplain : (backTo cpos (starEach [] X.env)).any (·.1) = false := by rfl) :
    PD X (.Call (.Attribute x "pop" apos) [e] [] cpos) (ePopAt i g) :=
  ⟨PEimp (pe_bm plist PySem.F.slot_list_pop PySem.F.type_list_pop mt_popAt hx (pda_cons he pda_nil hs).pa hbase hfew hline hs hplain) fun _ _ _ => den_popAt⟩
/-! ### [..] * n -/
def repL {α : Type} (xs : List α) (k : Int) : List α := (List.replicate k.toNat xs).flatten
theorem IsAll.rep {vs : List V} {ds : List D} (h : IsAll K G vs ds) (k : Int) : IsAll K G (repL vs k) (repL ds k) := by
  unfold repL
  induction k.toNat with
  | zero => exact .nil
  | succ n ih => rw [List.replicate_succ, List.replicate_succ, List.flatten_cons, List.flatten_cons]; exact h.append ih
theorem repL_len {α : Type} (xs : List α) (k : Int) : (repL xs k).length = xs.length * k.toNat := by
  unfold repL
  induction k.toNat with
  | zero => rfl
  | succ n ih => rw [List.replicate_succ, List.flatten_cons, List.length_append, ih, Nat.mul_succ, Nat.add_comm]
def nRep (n : N) (g : E) : N := fun ρ => (n ρ).bind fun p => (g p.2).bind fun q => match q.1 with
  | .fz (.int k) => if -(2 ^ 63) ≤ k ∧ k < 2 ^ 63 ∧ p.1.length * k.toNat ≤ sizeLine then some (repL p.1 k, q.2) else none
  | _ => none
theorem denN_rep {n : N} {g : E} {Q : VK} : denN K (nRep n g) σ H Q → tOp rRep (denN K n) (den K g) σ H Q := by
  rintro ⟨c, G, ρ, es, ρ', rfl, R, hf, q⟩
  obtain ⟨⟨ds, ρ1⟩, h1, hf⟩ := Option.bind_eq_some_iff.mp hf
  obtain ⟨⟨o, ρ2⟩, h2, hf⟩ := Option.bind_eq_some_iff.mp hf
  dsimp only at hf
  split at hf
  case h_2 => cases hf
  rename_i k
  split at hf
  case isFalse => cases hf
  rename_i ok
  cases hf
  refine ⟨c, G, ρ, ds, ρ1, rfl, R, h1, fun p G1 H1 s1 R1 N1 => ?_⟩
  have hf1 := N1.f
  have hx1 := N1.x
  obtain ⟨u, ha, R1p⟩ := R1.pend N1
  refine ⟨c.pend p u, G1, ρ1, _, _, rfl, R1p, h2, fun w G2 H2 s2 R2 k2 => ?_⟩
  cases k2
  obtain ⟨R3, N3⟩ := Rep.unpend hf1 hx1 ha s2 R2
  obtain ⟨u3, hu3, hc3⟩ := N3.it
  obtain ⟨vs, rfl, iv, hl⟩ := hc3.lst
  refine ⟨p, k, vs, rfl, rfl, hu3, ok.1, ok.2.1, by rw [iv.len]; exact ok.2.2, fun p' hp' => ?_⟩
  exact q p' G2 _ (s1.trans s2) (R3.lay hp') (New.mk' R3 hp' (iv.rep k) (by rw [repL_len]; exact ok.2.2))
theorem pdn_rep {e g : Expr} {n : N} {fg : E} {pos : Pos} (h : PDN X e n) (hg : PD X g fg) : PDN X (.BinOp e .Mult g pos) (nRep n fg) := ⟨PEimp (pe_op op_rep h.pe hg.pe) fun _ _ _ => denN_rep⟩
/-! ### targets that change a list -/
def denG2 (K : PySem.W.Frag) (f : T) : TG := fun v σ H Q => ∃ (c : Fix) (G : Hp) (ρ : Rho) (d : D) (ρ' : Rho), c.K = K ∧ Rep c G ρ σ H ∧ Is c.K G v d ∧ f d ρ = some ρ' ∧ ∀ G' σ' H', Same G G' → Rep c G' ρ' σ' H' → Q σ' H'
def denGs2 (K : PySem.W.Frag) (f : Ts) : TGs := fun vs σ H Q => ∃ (c : Fix) (G : Hp) (ρ : Rho) (ds : List D) (ρ' : Rho), c.K = K ∧ Rep c G ρ σ H ∧ IsAll c.K G vs ds ∧ f ds ρ = some ρ' ∧ ∀ G' σ' H', Same G G' → Rep c G' ρ' σ' H' → Q σ' H'
structure PDG2 (X : Cx) (e : Expr) (f : T) : Prop where
  pg : PG X e (denG2 X.K f)
structure PDGs2 (X : Cx) (es : List Expr) (f : Ts) : Prop where
  pgs : PGs X es (denGs2 X.K f)
theorem PDG.two {e : Expr} {is : List Nat} {f : T} (h : PDG X e is f) : PDG2 X e f := ⟨PGimp h.pg fun v σ H Q => by
  rintro ⟨c, G, ρ, d, ρ', eK, R, i1, hf, q⟩
  exact ⟨c, G, ρ, d, ρ', eK, R, i1, hf, fun σ' R' _ => q G σ' H (Same.refl _) R'⟩⟩
def tPut (i : Nat) (g : E) : T := fun d ρ => match celAt ρ i with
  | some (.l _) => (g ρ).bind fun q => match q.1, celAt q.2 i with
    | .fz (.int k), some (.l ds) => (ixN ds.length k).bind fun j => some (putAt q.2 i (.l (ds.set j d)))
    | _, _ => none
  | _ => none
theorem denG2_put {fg : E} {Q : L2.St → Hp → Prop} : denG2 K (tPut i fg) v σ H Q → gSub (tVar i) (den K fg) rSetL v σ H Q := by
  rintro ⟨c, G1, ρ1, d, ρ', rfl, R1, k1, hf, q⟩
  unfold tPut at hf
  split at hf
  case h_2 => cases hf
  rename_i ds0 e0
  obtain ⟨⟨o2, ρ2⟩, h2, hf⟩ := Option.bind_eq_some_iff.mp hf
  obtain ⟨a, u, hs, _⟩ := R1.cell e0
  refine ⟨_, hs, c, G1, ρ1, o2, ρ2, rfl, R1, h2, fun w G2 H2 s2 R2 k2 => ?_⟩
  dsimp only at hf
  split at hf
  · rename_i k ds e1
    obtain ⟨j, hj, hf⟩ := Option.bind_eq_some_iff.mp hf
    cases hf
    obtain ⟨b, u, hs2, hb, ok, _⟩ := R2.cell e1
    rw [hs] at hs2; cases hs2
    obtain ⟨ws, rfl, iw, hl⟩ := ok.lst
    cases k2
    refine ⟨a, ws, k, j, rfl, rfl, hb, by rw [iw.len]; exact hj, ?_⟩
    exact q G2 σ _ s2 (R2.put e1 hs (.l (iw.set j (Is.mono s2 _ _ k1)) (by rw [List.length_set]; exact hl)))
  · cases hf
theorem pdg2_put {x g : Expr} {fg : E} {tpos : Pos} (hx : PE X x (tVar i)) (hg : PD X g fg)
    (ha : ∀ v, assign (.Subscript x g tpos) X.env v = (do
      let ov ← holding [v] (eval x X.env)
      let iv ← holding [v, ov] (eval g X.env)
      standAt tpos
      holding [v, ov, iv] (setItem ov iv v)
      release [v, ov, iv] []) := by intro _; rfl) : PDG2 X (.Subscript x g tpos) (tPut i fg) := ⟨PGimp (pg_sub hx hg.pe set_list ha) fun _ _ _ _ => denG2_put⟩
theorem pdgs2_nil : PDGs2 X [] tsNil := ⟨PGsimp pgs_nil fun vs σ H Q => by
    rintro ⟨c, G, ρ, ds, ρ', eK, R, i1, hf, q⟩
    cases ds with
    | nil => cases hf; cases i1; exact ⟨rfl, q G σ H (Same.refl _) R⟩
    | cons d ds => cases hf⟩
theorem pdgs2_cons {e : Expr} {es : List Expr} {t : T} {ts : Ts} (h1 : PDG2 X e t) (h2 : PDGs2 X es ts) (hs : (assignEach (e :: es) X.env).map (·.2) = assign e X.env :: (assignEach es X.env).map (·.2) := by rfl) : PDGs2 X (e :: es) (tsCons t ts) :=
  ⟨PGsimp (pgs_cons h1.pg h2.pgs hs) fun vs σ H Q => by
    rintro ⟨c, G, ρ, ds, ρ', eK, R, i1, hf, q⟩
    cases ds with
    | nil => cases hf
    | cons d ds =>
      obtain ⟨ρ1, h3, hf⟩ := Option.bind_eq_some_iff.mp hf
      cases i1 with
      | cons a b => exact ⟨_, _, rfl, c, G, ρ, d, ρ1, eK, R, a, h3, fun G1 σ1 H1 s1 R1 => ⟨c, G1, ρ1, ds, ρ', eK, R1, IsAll.mono s1 _ _ b, hf, fun G2 σ2 H2 s2 R2 => q G2 σ2 H2 (s1.trans s2) R2⟩⟩⟩
theorem pdg2_tup {es : List Expr} {k n : Nat} {ts : Ts} {pos : Pos} (hc : X.calm = true) (h : PDGs2 X es ts) (hn : (assignEach es X.env).length = n := by rfl) (hst : (assignEach es X.env).findIdx? (·.1) = none := by rfl) : PDG2 X (.Tuple es k pos) (tT n ts) :=
  ⟨PGimp (pg_tup hc h.pgs hn hst) fun v σ H Q => by
    rintro ⟨c, G, ρ, d, ρ', eK, R, i1, hf, q⟩
    cases d with
    | tuple ds =>
      unfold tT at hf
      dsimp only at hf
      split at hf
      · cases i1 with
        | tup s l a => exact ⟨_, _, rfl, Same.sqT R.gh (eK ▸ s.sq), by rw [a.len]; assumption, c, G, ρ, ds, ρ', eK, R, a, hf, q⟩
      · cases hf
    | _ => cases hf⟩
/-- a list of n is taken apart -/
def tL (n : Nat) (ts : Ts) : T := fun d ρ => match d with
  | .list ds => if ds.length = n then ts ds ρ else none
  | _ => none
theorem pdg_lst {es : List Expr} {is : List Nat} {k n : Nat} {ts : Ts} {pos : Pos} (hc : X.calm = true) (h : PDGs X es is ts) (hn : (assignEach es X.env).length = n := by rfl) (hst : (assignEach es X.env).findIdx? (·.1) = none := by rfl) : PDG X (.Tuple es k pos) is (tL n ts) :=
  ⟨PGimp (pg_lst hc h.pgs hn hst) fun v σ H Q => by
    rintro ⟨c, G, ρ, d, ρ', eK, R, i1, hf, q⟩
    cases d with
    | list ds =>
      unfold tL at hf
      dsimp only at hf
      split at hf
      · cases i1 with
        | lst s l a => exact ⟨_, _, rfl, R.gh.seq (eK ▸ s), by rw [a.len]; assumption, c, G, ρ, ds, ρ', eK, R, a, hf, q⟩
      · cases hf
    | _ => cases hf⟩
theorem denS_asg2 {f : E} {t : T} : denS K (sAsg f t) De σ H → tAsg (den K f) (denG2 K t) De σ H := by
  rintro ⟨c, G, ρ, r, ρ', rfl, R, hf, q⟩
  unfold sAsg at hf
  obtain ⟨⟨o, ρ1⟩, h1, hf⟩ := Option.bind_eq_some_iff.mp hf
  refine ⟨c, G, ρ, o, ρ1, rfl, R, h1, fun v G1 H1 s1 R1 k1 => ?_⟩
  cases o with
  | sl i => cases hf
  | fz d =>
    obtain ⟨ρ2, h2, hf⟩ := Option.bind_eq_some_iff.mp hf
    cases hf
    exact ⟨c, G1, ρ1, d, _, rfl, R1, k1, h2, fun G2 σ2 H2 s2 R2 => q G2 σ2 H2 (s1.trans s2) R2⟩
theorem pds_asg2 {tg e : Expr} {f : E} {t : T} {pos : Pos} (h : PD X e f) (hg : PDG2 X tg t) (hs : swapsWithSole [tg] e pos.line X.env = pure false := by rfl) (hw : swappedStores [tg] e X.env = pure none := by rfl)
    (h1 : (assignEach [tg] X.env).map (·.2) = [assign tg X.env] := by rfl) : PDS X (.Assign [tg] e pos) (sAsg f t) := ⟨PSimp (ps_asg h.pe hg.pg hs hw h1) fun _ _ _ => denS_asg2⟩
end
end L3
set_option Elab.async false
set_option linter.all false
set_option maxRecDepth 100000
set_option maxHeartbeats 4000000
/-! ### set(xs), xs a list of ints -/
namespace L2
open PySem PySem.Spec PyProof PyProof.Rows
section
variable {P : Program} {w : World} {A : Around} {E : Value → Shared → Prop} {s : Shared}
/-- the new set's object -/
def newSet (w : World) : Obj := { cls := .type "set", dict := none, data := .set #[] 0 (.fresh 0 0 (!w.params.followText "set-order")) }
theorem call_set_listI {l : Addr} {xs : Array Value} (ns : List Int) {Q : Value → Shared → Prop} (hh : A.handled = none) (hl : s.heap.IsList l xs) (hi : IntsAre xs.toList ns) (hb : ns.length + 1 < scanBound)
    (h : ∀ (h' : Heap) (tk c : Nat), SetR w h' s.heap.objs.size (fun j => decide (j ∈ ns)) c → c ≤ ns.length → (∀ b o, s.heap.get? b = some o → h'.get? b = some o) → Q (.ref s.heap.objs.size) { s with heap := h', toks := tk }) : wpAny (model P w) A (call (.type "set") [.ref l]) Q E s := by
  have hsz : xs.size = ns.length := by have q := IntsAre.length hi; rw [Array.length_toList] at q; exact q
  obtain ⟨c, tl, mro⟩ := F.called_set.mro
  have hmade := F.called_set.made; have hsub := F.called_set.sub
  refine wpAny_call (codeAny_of_tree ?_); show wpAny _ _ (callAny (.type "set") _) _ _ _
  refine wpAny_pure ⟨Code.quiet_builtin _ (by decide +kernel), codeAny_builtin F.entry_type_call ?_⟩; rw [Around.under_plain (weight_type_call_type "set" [.ref l] []) rfl]
  have h1 := F.called_set.notType; have h2 := F.called_set.canCreate; have h3 := F.typeCall_set_1 (.ref l)
  repeat (any_goals (first | assumption | wp_step))
  refine codeAny_mono (code_set_led1 (.ref l) (E := E) (Q₁ := fun x s₁ => x = .ref s.heap.objs.size ∧ s₁ = { s with heap := s.heap.push (newSet w) }) ⟨rfl, rfl⟩) fun r s₁ hr => ?_
  cases r with
  | error e => exact hr
  | ok fl =>
    cases fl with
    | ret x =>
      obtain ⟨rfl, rfl⟩ := hr
      have hS : (s.heap.push (newSet w)).get? s.heap.objs.size = some (newSet w) := Heap.get?_push_size _ rfl
      have hT : Shared.TypeIs { s with heap := s.heap.push (newSet w) } (.ref s.heap.objs.size) "set" := ⟨_, hS, rfl⟩
      have hli := F.called_set.init.lookup; have hbi := F.called_set.init.bind (.ref s.heap.objs.size)
      unfold newSet at hS hT ⊢
      repeat (any_goals (first | assumption | wp_step))
      refine codeAny_mono (codeAny_call_builtin (R := wants (fun r s₂ => r = .none ∧ ∃ h' tk c, s₂ = { s with heap := h', toks := tk } ∧ SetR w h' s.heap.objs.size (fun j => decide (j ∈ ns)) c ∧ c ≤ ns.length ∧ (∀ b o, s.heap.get? b = some o → h'.get? b = some o)) E) F.called_set.init.plain F.entry_set_init (check_set_init_1 hT ?_)) fun r₂ s₂ hr₂ => ?_
      · obtain ⟨ol, hol, hcl, nl, hdl⟩ := hl; obtain ⟨ocls, odict, odata, oslots⟩ := ol
        simp only at hcl hdl; subst hcl; subst hdl
        have hls := F.sub_list_set; have hlf := F.sub_list_frozenset
        have hne : (Value.type "list" == Value.type "dict") = false := by decide
        have hol' : (s.heap.push (newSet w)).get? l = some { cls := .type "list", dict := odict, data := .seq xs nl, slots := oslots } := Heap.get?_push_of_some _ hol
        have hl1 : (s.heap.push (newSet w)).IsList l xs := ⟨_, hol', rfl, nl, rfl⟩
        unfold newSet at hol' hl1
        unfold Builtin.«set.__init__» noKeywords Builtin.Frozenset.updateFrom; generalize hPI : pyIter = PI
        wp_walk
        subst hPI; refine wpAny_pyIter_list hl1 ?_; refine wpAny_bind (wpAny_runValue ?_)
        have hlS : l < s.heap.objs.size := Heap.lt_size hol
        have hh3 : A.in1.in1.in1.handled = none := by simp [hh]
        have ps : (s.heap.push (newSet w)).objs.size = s.heap.objs.size + 1 := Heap.size_push ..
        unfold newSet at ps
        refine set_update_ints ((Walks.list hh3 _ l (by rw [ps]; exact Nat.ne_of_lt (Nat.lt_succ_of_lt hlS)) xs).toS) s.heap.objs.size (by rw [ps]; simp only [List.mem_cons, List.mem_singleton, List.not_mem_nil, or_false, not_or]; exact ⟨Nat.ne_of_lt (Nat.lt_succ_self _), Nat.ne_of_gt hlS⟩) ns hsz hb
          (fun i v hv => ?_) (xs.size - 0) 0 _ (by omega) (Nat.zero_le _) ⟨⟨_, Heap.get?_push_size _ rfl, rfl, rfl⟩, (hl1.push _)⟩ ⟨0, Nat.le_refl 0, setR_new_at (Heap.get?_push_of_some _ hS)⟩ fun s' c' hm hc' hS' => ?_
        · have hlt : i < ns.length := by rw [← hsz]; exact (Array.getElem?_eq_some_iff.mp hv).1
          obtain ⟨t, e⟩ := IntsAre.int_at hi i v (by rw [Array.getElem?_toList]; exact hv)
          exact ⟨ns[i], t, List.getElem?_eq_getElem hlt, by rw [e, List.getD_eq_getElem?_getD, List.getElem?_eq_getElem hlt] <;> rfl⟩
        · obtain ⟨h', g2, d', tk', os'⟩ := s'
          have e1 : g2 = s.gens := hm.gens; have e2 : d' = s.drawn := hm.drawn; have e3 : os' = s.os := hm.os
          subst e1; subst e2; subst e3
          show wpAny _ _ _ _ _ _; refine wpAny_pure ?_; show wpAny _ _ (ret Value.none) _ _ _
          rw [hsz] at hc'
          refine wpAny_pure ⟨rfl, h', tk', c', rfl, hS', hc', fun b o e => ?_⟩
          have b0 : b < s.heap.objs.size := Heap.lt_size e
          exact hm.heap b o (by rw [ps]; simp only [List.mem_cons, List.mem_singleton, List.not_mem_nil, or_false, not_or]; exact ⟨Nat.ne_of_lt b0, Nat.ne_of_lt (Nat.lt_succ_of_lt b0)⟩) (Heap.get?_push_of_some _ (Heap.get?_push_of_some _ e))
      · cases r₂ with
        | error e => exact hr₂
        | ok fl₂ =>
          cases fl₂ with
          | ret r =>
            obtain ⟨rfl, h', tk, c, rfl, hS', hc', hk'⟩ := hr₂
            repeat (any_goals (first | assumption | wp_step))
            exact h _ _ _ hS' hc' hk'
          | _ => exact hr₂.elim
    | _ => exact hr.elim
end
/-- fewer than 64 ints -/
def rSetOfI (K : PySem.W.Frag) (w : World) : List V → Hp → VK → Prop := fun xs H Q => ∃ (l : Addr) (ns : List Int), xs = [V.ref l] ∧ SqL K H l (ns.map V.int) ∧ ns.length < 64 ∧
  ∀ a c, H a = none → c ≤ ns.length → Q (.ref a) (upd H a (SetO w a (fun j => decide (j ∈ ns)) c))
theorem intsOf_vals : ∀ {ns : List Int} {us : List Value}, Vals (ns.map V.int) us → IntsAre us ns
  | [], _, .nil => .nil
  | n :: ns, _, .cons r t => by
    obtain ⟨k, rfl⟩ := r
    exact .cons n k (intsOf_vals t)
theorem cr_setOfI {X : Cx} (hc : X.calm = true) : CallR X (.type "set") (rSetOfI X.K X.w) := by
  intro pins s σ H xs us Q I r h
  obtain ⟨l, ns, rfl, hl, hf, q⟩ := h
  rw [Vals.ref1 r]
  obtain ⟨its, rv, pl, hz⟩ := I.list hl
  have hn : H s.heap.objs.size = none := I.hok.fresh (Nat.le_refl _)
  refine call_set_listI ns (I.ok.hd hc) pl.isList (by simpa using intsOf_vals rv) (by unfold scanBound; omega) fun h' tk c R hc' k => ?_
  exact ⟨.ref s.heap.objs.size, _, I.laid (t' := tk) k (Nat.le_refl _) (setO_new R), rfl, q _ c hn hc'⟩
end L2
namespace L3
open PySem PySem.Spec PyProof.Rows L2
/-! ### sorted(set(xs)) -/
def ssetI (ns : List Int) : List Int := (dedupL ns).mergeSort fun a b => decide (a ≤ b)
theorem ssetI_sorted (ns : List Int) : (ssetI ns).Pairwise (· < ·) := by
  have h1 := List.pairwise_mergeSort (le := fun a b : Int => decide (a ≤ b)) (fun a b c h1 h2 => by
    have := of_decide_eq_true h1; have := of_decide_eq_true h2; exact decide_eq_true (by omega)) (fun a b => by
    rw [Bool.or_eq_true]
    rcases Int.le_total a b with z | z
    · exact .inl (decide_eq_true z)
    · exact .inr (decide_eq_true z)) (dedupL ns)
  have h2 : (ssetI ns).Nodup := (List.mergeSort_perm (dedupL ns) _).nodup_iff.mpr nodup_dedupL
  refine (h1.and h2).imp fun ⟨a, b⟩ => ?_
  have := of_decide_eq_true a
  omega
theorem mem_ssetI {ns : List Int} {k : Int} : k ∈ ssetI ns ↔ k ∈ ns := by
  unfold ssetI
  rw [(List.mergeSort_perm (dedupL ns) _).mem_iff, mem_dedupL]
theorem sorted_unique : ∀ {a b : List Int}, a.Pairwise (· < ·) → b.Pairwise (· < ·) → (∀ k, k ∈ a ↔ k ∈ b) → a = b := fun {a b} ha hb h => by
  have na : a.Nodup := ha.imp fun h => Int.ne_of_lt h
  have nb : b.Nodup := hb.imp fun h => Int.ne_of_lt h
  exact List.Perm.eq_of_pairwise (le := fun x y => x ≤ y) (fun x y _ _ h1 h2 => Int.le_antisymm h1 h2) (ha.imp fun h => Int.le_of_lt h) (hb.imp fun h => Int.le_of_lt h) ((List.perm_ext_iff_of_nodup na nb).mpr h)
def ssetD (ds : List D) : Option (List D) := (intsU ds).bind fun ns => if ns.length < 64 then some ((ssetI ns).map .int) else none
section
variable {X : Cx} {c : Fix} {K : PySem.W.Frag} {G G' H H' : Hp} {ρ ρ' : Rho} {σ : L2.St} {De : Ends} {v : V} {d : D} {i : Nat}
def nSsetIL (f : E) : N := fun ρ => (f ρ).bind fun p => (look p.2 p.1).bind fun d => match d with
  | .list ds => (ssetD ds).bind fun r => some (r, p.2)
  | _ => none
theorem denN_ssetI {f : E} {Q : VK} : denN K (nSsetIL f) σ H Q → tCB (rSortedSet X.w) (tCons (tCB (rSetOfI K X.w) (tCons (den K f) tNil)) tNil) σ H Q := by
  rintro ⟨c, G, ρ, es, ρ', rfl, R, hf, q⟩
  unfold nSsetIL at hf
  obtain ⟨⟨o, ρ1⟩, h1, hf⟩ := Option.bind_eq_some_iff.mp hf
  obtain ⟨d, h2, hf⟩ := Option.bind_eq_some_iff.mp hf
  cases d with
  | list ds =>
    obtain ⟨r, h3, hf⟩ := Option.bind_eq_some_iff.mp hf
    cases hf
    obtain ⟨ns, h4, h3⟩ := Option.bind_eq_some_iff.mp h3
    split at h3
    case isFalse => cases h3
    rename_i hlen
    cases h3
    refine ⟨c, G, ρ, o, _, rfl, R, h1, fun v G1 H1 s1 R1 k1 => ?_⟩
    obtain ⟨a, vs, rfl, hs, ia, hl⟩ := (R1.view k1 h2).seqL R1.gh
    have hd := intsU_map h4
    subst hd
    have hv := ia.ints
    subst hv
    refine ⟨a, ns, rfl, hs, hlen, fun b k hb hk => ?_⟩
    have R2 := R1.lay (u := SetO X.w b (fun j => decide (j ∈ ns)) k) hb
    refine ⟨b, _, k, rfl, upd_same, by omega, fun out p hp1 hp2 hp3 hp => ?_⟩
    have e : out = ssetI ns := sorted_unique hp1 (ssetI_sorted ns) fun j => by rw [hp2, mem_ssetI]; simp
    subst e
    exact q p G1 _ s1 (R2.lay hp) (New.mk' R2 hp IsAll.of_ints (by rw [List.length_map, hp3]; have : (64 : Nat) ≤ sizeLine := by decide
                                                                   omega))
  | _ => cases hf
end
end L3
set_option Elab.async false
set_option linter.all false
set_option maxRecDepth 100000
set_option maxHeartbeats 4000000
namespace L3
open PySem PySem.Spec PyProof.Rows L2
section
variable {X : Cx}
theorem pdn_ssetIL {k : Nat} {e : Expr} {f : E} {p p2 pos pos2 : Pos} (hr : Room k X.A) (hc : X.calm = true) (hg : Gl X "sorted") (hm : X.mg "sorted" = none) (hg2 : Gl X "set") (hm2 : X.mg "set" = none) (he : PD X e f)
    (hs2 : starEach [e] X.env = (false, eval e X.env) :: starEach [] X.env := by rfl) (hpl2 : (backTo pos2 (starEach [] X.env)).any (·.1) = false := by rfl)
    (hs : starEach [.Call (.Name "set" p2) [e] [] pos2] X.env = (false, eval (.Call (.Name "set" p2) [e] [] pos2) X.env) :: starEach [] X.env := by rfl) (hpl : (backTo pos (starEach [] X.env)).any (·.1) = false := by rfl)
    (hb : bootBuiltins "sorted" = some (.builtin "sorted") := by exact PySem.boot_sorted) (hb2 : bootBuiltins "set" = some (.type "set") := by exact PySem.boot_set) :
    PDN X (.Call (.Name "sorted" p) [.Call (.Name "set" p2) [e] [] pos2] [] pos) (nSsetIL f) :=
  ⟨PEimp (pe_callB (cr_sortedSet hc) hg hm hb (pa_cons (pe_callTy (cr_setOfI hc) hg2 hm2 hb2 (pa_cons he.pe pa_nil hs2) (by decide) (by decide) hs2 hpl2) pa_nil hs) (by decide) (by decide) hs hpl) fun _ _ _ => denN_ssetI⟩
variable {c : Fix} {K : PySem.W.Frag} {G G' H H' : Hp} {ρ ρ' : Rho} {σ : L2.St} {De : Ends} {v : V} {d : D} {p : Addr} {u : HO} {i j k : Nat}
/-! ### x, y = a, b by a tuple; a list made there is the slot's own -/
theorem New.lay {C : Cel} {q : Addr} (N : New c G ρ σ H q C) (hp : H p = none) : New c G ρ σ (upd H p u) q C := by
  obtain ⟨⟨w, hw, hc⟩, g, f, x, o⟩ := N
  exact ⟨⟨w, by rw [upd_ne (ne_of_none hw hp)]; exact hw, hc⟩, g, f, x, o⟩
theorem News.lay (hp : H p = none) : ∀ {vs : List V} {ls : List Loc}, News c G ρ σ H vs ls → News c G ρ σ (upd H p u) vs ls
  | [], [], _ => trivial
  | w :: vs, l :: ls, ⟨h1, h2, h3⟩ => by
    refine ⟨?_, News.lay hp h2, h3⟩
    cases l with
    | val d => exact h1
    | own C => obtain ⟨q, e, n⟩ := h1; exact ⟨q, e, n.lay hp⟩
    | io C => exact h1.elim
  | [], _ :: _, h => h.elim
  | _ :: _, [], h => h.elim
def gNames : List Nat → TGs
  | [] => gNil
  | i :: is => gCons (gName i) (gNames is)
theorem gNames_of : ∀ {is : List Nat} {vs : List V} {Q : L2.St → Hp → Prop} {σ : L2.St}, is.length = vs.length → Q (setAllσ σ is vs) H → gNames is vs σ H Q
  | [], [], _, _, _, q => ⟨rfl, q⟩
  | i :: is, v :: vs, Q, σ, hl, q => ⟨v, vs, rfl, gNames_of (σ := σ.set i (some v)) (by simpa using hl) q⟩
  | [], _ :: _, _, _, hl, _ => by simp at hl
  | _ :: _, [], _, _, hl, _ => by simp at hl
theorem denS_tupN {is : List Nat} {fs : Ls} (hfs : ∀ ρ ls ρ', fs ρ = some (ls, ρ') → ls.length = is.length) (hz : is.length ≤ sizeLine) : denS K (sPar is fs) De σ H → tAsg (tTup (denLs K fs)) (gTup K is.length (gNames is)) De σ H := by
  rintro ⟨c, G, ρ, r, ρ', rfl, R, hf, q⟩
  unfold sPar at hf
  obtain ⟨⟨ls, ρ1⟩, h1, hf⟩ := Option.bind_eq_some_iff.mp hf
  split at hf
  · cases hf
  · cases hf
    refine ⟨c, G, ρ, ls, ρ1, rfl, R, h1, fun vs G1 H1 s1 R1 n1 => ?_⟩
    have hl := hfs _ _ _ h1
    have hv := n1.len
    refine ⟨by omega, fun p hp => ⟨p, vs, rfl, SqT.of upd_same, by omega, gNames_of (by omega) ?_⟩⟩
    exact q G1 _ _ s1 (Rep.storeAll (is := is) (R1.lay hp) (n1.lay hp))
theorem ls2_len {f1 f2 : L} : ∀ ρ ls ρ', lsCons f1 (lsCons f2 lsNil) ρ = some (ls, ρ') → ls.length = 2 := by
  intro ρ ls ρ' h1
  unfold lsCons lsNil at h1
  obtain ⟨⟨l, ρ2⟩, h2, h1⟩ := Option.bind_eq_some_iff.mp h1
  obtain ⟨⟨l', ρ3⟩, h3, h1⟩ := Option.bind_eq_some_iff.mp h1
  obtain ⟨⟨l2, ρ4⟩, h4, h3⟩ := Option.bind_eq_some_iff.mp h3
  obtain ⟨⟨l3, ρ5⟩, h5, h3⟩ := Option.bind_eq_some_iff.mp h3
  cases h5; cases h3; cases h1; rfl
theorem ls3_len {f1 f2 f3 : L} : ∀ ρ ls ρ', lsCons f1 (lsCons f2 (lsCons f3 lsNil)) ρ = some (ls, ρ') → ls.length = 3 := by
  intro ρ ls ρ' h1
  obtain ⟨⟨l, ρ2⟩, h2, h1⟩ := Option.bind_eq_some_iff.mp h1
  obtain ⟨⟨l', ρ3⟩, h3, h1⟩ := Option.bind_eq_some_iff.mp h1
  cases h1
  have := ls2_len _ _ _ h3
  simp [this]
theorem pds_tup2 {x y : Str} {a b : Expr} {f1 f2 : L} {px py pt pos : Pos} {kt k2 pt2} (hc : X.calm = true) (hN : X.N.Nodup) (hi : X.N[i]? = some x) (hj : X.N[j]? = some y) (ha : PDLs X [a, b] (lsCons f1 (lsCons f2 lsNil)))
    (lx : L2.Loc X.env.scope x := by first | exact .inl rfl | exact .inr rfl) (ly : L2.Loc X.env.scope y := by first | exact .inl rfl | exact .inr rfl)
    (fx : X.fn x = true ∨ X.env.scope.names.lookup x = some .local := by first | exact .inl rfl | exact .inr rfl) (fy : X.fn y = true ∨ X.env.scope.names.lookup y = some .local := by first | exact .inl rfl | exact .inr rfl)
    (hs : swapsWithSole [.Tuple [.Name x px, .Name y py] kt pt] (.Tuple [a, b] k2 pt2) pos.line X.env = pure false := by rfl) (hw : swappedStores [.Tuple [.Name x px, .Name y py] kt pt] (.Tuple [a, b] k2 pt2) X.env = pure none := by rfl)
    (h1 : (assignEach [.Tuple [.Name x px, .Name y py] kt pt] X.env).map (·.2) = [assign (.Tuple [.Name x px, .Name y py] kt pt) X.env] := by rfl)
    (e1 : (assignEach [.Name x px, .Name y py] X.env).map (·.2) = assign (.Name x px) X.env :: (assignEach [.Name y py] X.env).map (·.2) := by rfl) (e2 : (assignEach [.Name y py] X.env).map (·.2) = assign (.Name y py) X.env :: (assignEach [] X.env).map (·.2) := by rfl)
    (hn : (assignEach [.Name x px, .Name y py] X.env).length = 2 := by rfl) (hst : (assignEach [.Name x px, .Name y py] X.env).findIdx? (·.1) = none := by rfl) :
    PDS X (.Assign [.Tuple [.Name x px, .Name y py] kt pt] (.Tuple [a, b] k2 pt2) pos) (sPar [i, j] (lsCons f1 (lsCons f2 lsNil))) :=
  ⟨PSimp (ps_asg (pe_tup ha.pa) (pg_tup hc (pgs_cons (pg_name hN hi lx fx) (pgs_cons (pg_name hN hj ly fy) pgs_nil e2) e1) hn hst) hs hw h1) fun _ _ _ => denS_tupN (is := [i, j]) ls2_len (by show 2 ≤ sizeLine; decide)⟩
end
end L3
set_option Elab.async false
set_option linter.all false
set_option maxRecDepth 100000
set_option maxHeartbeats 1000000
/-! Plain facts about the denotations, of no law. -/
namespace L3
open PySem PySem.W
/-! ### operators on ints and bools -/
theorem eqv_int (a b : Int) : PyData.eqv (.int a) (.int b) = decide (a = b) := by
  show (a == b) = _
  by_cases h : a = b <;> simp [h]
theorem dLt_int (a b : Int) : dLt (.int a) (.int b) = some (.bool (decide (a < b))) := by
  show some (PyData.bool (dataLt (.int a) (.int b))) = _
  rw [dataLt_int]
theorem dGt_int (a b : Int) : dGt (.int a) (.int b) = some (.bool (decide (b < a))) := by
  show some (PyData.bool (dataLt (.int b) (.int a))) = _
  rw [dataLt_int]
theorem dLe_int (a b : Int) : dLe (.int a) (.int b) = some (.bool (decide (a ≤ b))) := by
  show some (PyData.bool (!dataLt (.int b) (.int a))) = _
  rw [dataLt_int]
  by_cases h : a ≤ b
  · have : ¬ b < a := by omega
    simp [h, this]
  · have : b < a := by omega
    simp [h, this]
theorem dGe_int (a b : Int) : dGe (.int a) (.int b) = some (.bool (decide (b ≤ a))) := by
  show some (PyData.bool (!dataLt (.int a) (.int b))) = _
  rw [dataLt_int]
  by_cases h : b ≤ a
  · have : ¬ a < b := by omega
    simp [h, this]
  · have : a < b := by omega
    simp [h, this]
theorem dEq_int (a b : Int) : dEq (.int a) (.int b) = some (.bool (decide (a = b))) := by
  show some (PyData.bool (PyData.eqv (.int a) (.int b))) = _
  rw [eqv_int]
theorem dNe_int (a b : Int) : dNe (.int a) (.int b) = some (.bool (!decide (a = b))) := by
  show some (PyData.bool (!PyData.eqv (.int a) (.int b))) = _
  rw [eqv_int]
theorem dLt_ii (a b a' b' : Int) : dLt (.tuple [.int a, .int b]) (.tuple [.int a', .int b']) = some (.bool (decide (a < a' ∨ a = a' ∧ b < b'))) := by
  show some (PyData.bool (dataLt _ _)) = _
  rw [dataLt_ii]
theorem eqv_ii (a b a' b' : Int) : PyData.eqv (.tuple [.int a, .int b]) (.tuple [.int a', .int b']) = decide (a = a' ∧ b = b') := by
  show ((a == a') && ((b == b') && true)) = _
  by_cases h : a = a' <;> by_cases h' : b = b' <;> simp [h, h']
theorem dEq_ii (a b a' b' : Int) : dEq (.tuple [.int a, .int b]) (.tuple [.int a', .int b']) = some (.bool (decide (a = a' ∧ b = b'))) := by
  show some (PyData.bool (PyData.eqv _ _)) = _
  rw [eqv_ii]
theorem dNe_ii (a b a' b' : Int) : dNe (.tuple [.int a, .int b]) (.tuple [.int a', .int b']) = some (.bool (!decide (a = a' ∧ b = b'))) := by
  show some (PyData.bool (!PyData.eqv _ _)) = _
  rw [eqv_ii]
theorem ordAll_int (ns : List Int) : ordAll (ns.map .int) = true := by
  unfold ordAll
  rw [List.all_eq_true]
  intro x hx
  rw [List.all_eq_true]
  intro y hy
  obtain ⟨a, _, rfl⟩ := List.mem_map.mp hx
  obtain ⟨b, _, rfl⟩ := List.mem_map.mp hy
  rfl
theorem dMin_ints (n : Int) (ns : List Int) : dMin [.list (.int n :: ns.map .int)] = some (.int (ns.foldl min n)) := by
  show (if ordAll (.int n :: ns.map .int) = true then some (minD (.int n) (ns.map .int)) else none) = _
  rw [if_pos (show ordAll (.int n :: ns.map .int) = true from ordAll_int (n :: ns)), minD_ints]
theorem dMax_ints (n : Int) (ns : List Int) : dMax [.list (.int n :: ns.map .int)] = some (.int (ns.foldl max n)) := by
  show (if ordAll (.int n :: ns.map .int) = true then some (maxD (.int n) (ns.map .int)) else none) = _
  rw [if_pos (show ordAll (.int n :: ns.map .int) = true from ordAll_int (n :: ns)), maxD_ints]
theorem dMaxT_ints (n : Int) (ns : List Int) : dMax [.tuple (.int n :: ns.map .int)] = some (.int (ns.foldl max n)) := by
  show (if ordAll (.int n :: ns.map .int) = true then some (maxD (.int n) (ns.map .int)) else none) = _
  rw [if_pos (show ordAll (.int n :: ns.map .int) = true from ordAll_int (n :: ns)), maxD_ints]
theorem dMin2 (i j : Int) : dMin [.int i, .int j] = some (.int (min i j)) := by
  show some (PyData.int (if j < i then j else i)) = _
  congr 2
  by_cases h : j < i
  · rw [if_pos h]; omega
  · rw [if_neg h]; omega
theorem dMax2 (i j : Int) : dMax [.int i, .int j] = some (.int (max i j)) := by
  show some (PyData.int (if j > i then j else i)) = _
  congr 2
  by_cases h : j > i
  · rw [if_pos h]; omega
  · rw [if_neg h]; omega
theorem dMin3 (i j k : Int) : dMin [.int i, .int j, .int k] = some (.int (min (min i j) k)) := by
  show some (PyData.int (if k < (if j < i then j else i) then k else (if j < i then j else i))) = _
  congr 2
  have : (if j < i then j else i) = min i j := by
    by_cases h : j < i
    · rw [if_pos h]; omega
    · rw [if_neg h]; omega
  rw [this]
  by_cases h : k < min i j
  · rw [if_pos h]; omega
  · rw [if_neg h]; omega
theorem dAll_map (bs : List Bool) : dAll [.list (bs.map .bool)] = some (.bool (bs.all id)) := by
  show ((boolsD (bs.map .bool)).bind fun ns => some (PyData.bool (ns.all id))) = _
  rw [boolsD_of]; rfl
theorem dAny_map (bs : List Bool) : dAny [.list (bs.map .bool)] = some (.bool (bs.any id)) := by
  show ((boolsD (bs.map .bool)).bind fun ns => some (PyData.bool (ns.any id))) = _
  rw [boolsD_of]; rfl
/-! ### steps -/
theorem bnd {α β : Type} {x : Option α} {a : α} {f : α → Option β} {r : Option β} (h : x = some a) (h' : f a = r) : x.bind f = r := by rw [h]; exact h'
theorem seq_nx {s t : S} {ρ ρ1 : Rho} {r : Option (Fl × Rho)} (h : s ρ = some (.nx, ρ1)) (h' : t ρ1 = r) : sSeq s t ρ = r := by unfold sSeq; rw [h]; exact h'
theorem seq_rt {s t : S} {ρ ρ1 : Rho} {d : D} (h : s ρ = some (.rt d, ρ1)) : sSeq s t ρ = some (.rt d, ρ1) := by unfold sSeq; rw [h]; rfl
theorem seq_ro {s t : S} {ρ ρ1 : Rho} {d : List D} (h : s ρ = some (.ro d, ρ1)) : sSeq s t ρ = some (.ro d, ρ1) := by unfold sSeq; rw [h]; rfl
theorem seq_bk {s t : S} {ρ ρ1 : Rho} (h : s ρ = some (.bk, ρ1)) : sSeq s t ρ = some (.bk, ρ1) := by unfold sSeq; rw [h]; rfl
theorem seq_ct {s t : S} {ρ ρ1 : Rho} (h : s ρ = some (.ct, ρ1)) : sSeq s t ρ = some (.ct, ρ1) := by unfold sSeq; rw [h]; rfl
theorem if_t {t : B} {a b : S} {ρ ρ1 : Rho} {r : Option (Fl × Rho)} (h : t ρ = some (true, ρ1)) (h' : a ρ1 = r) : sIf t a b ρ = r := by unfold sIf; rw [h]; exact h'
theorem if_f {t : B} {a b : S} {ρ ρ1 : Rho} {r : Option (Fl × Rho)} (h : t ρ = some (false, ρ1)) (h' : b ρ1 = r) : sIf t a b ρ = r := by unfold sIf; rw [h]; exact h'
theorem ifn {t : B} {a : S} {ρ ρ1 : Rho} (h : t ρ = some (false, ρ1)) : sIf t a sNil ρ = some (.nx, ρ1) := if_f h rfl
theorem e2_fz {g : D → D → Option D} {a b : E} {ρ ρ1 ρ2 : Rho} {x y z : D} (ha : a ρ = some (.fz x, ρ1)) (hb : b ρ1 = some (.fz y, ρ2)) (hg : g x y = some z) : e2 g a b ρ = some (.fz z, ρ2) := by
  unfold e2; rw [ha]; show (b ρ1).bind _ = _; rw [hb]; show (g x y).bind _ = _; rw [hg]; rfl
theorem bE_of {f : E} {ρ ρ1 : Rho} {b : Bool} (h : f ρ = some (.fz (.bool b), ρ1)) : bE f ρ = some (b, ρ1) := by unfold bE; rw [h]; rfl
theorem bNot_of {a : B} {ρ ρ1 : Rho} {b : Bool} (h : a ρ = some (b, ρ1)) : bNot a ρ = some (!b, ρ1) := by unfold bNot; rw [h]; rfl
theorem bOr_t {a b : B} {ρ ρ1 : Rho} (h : a ρ = some (true, ρ1)) : bOr a b ρ = some (true, ρ1) := by unfold bOr; rw [h]; rfl
theorem bOr_f {a b : B} {ρ ρ1 : Rho} {r : Option (Bool × Rho)} (h : a ρ = some (false, ρ1)) (h' : b ρ1 = r) : bOr a b ρ = r := by unfold bOr; rw [h]; exact h'
theorem bAnd_t {a b : B} {ρ ρ1 : Rho} {r : Option (Bool × Rho)} (h : a ρ = some (true, ρ1)) (h' : b ρ1 = r) : bAnd a b ρ = r := by unfold bAnd; rw [h]; exact h'
theorem bAnd_f {a b : B} {ρ ρ1 : Rho} (h : a ρ = some (false, ρ1)) : bAnd a b ρ = some (false, ρ1) := by unfold bAnd; rw [h]; rfl
theorem call_of {g : List D → Option D} {a : As} {ρ ρ1 : Rho} {os : List Opd} {ds : List D} {z : D} (ha : a ρ = some (os, ρ1)) (hl : looks ρ1 os = some ds) (hg : g ds = some z) : eCall g a ρ = some (.fz z, ρ1) := by
  unfold eCall; rw [ha]; show (looks ρ1 os).bind _ = _; rw [hl]; show (g ds).bind _ = _; rw [hg]; rfl
theorem cons_of {f : E} {g : As} {ρ ρ1 ρ2 : Rho} {o : Opd} {os : List Opd} (h : f ρ = some (o, ρ1)) (h' : g ρ1 = some (os, ρ2)) : aCons f g ρ = some (o :: os, ρ2) := by
  unfold aCons; rw [h]; show (g ρ1).bind _ = _; rw [h']; rfl
/-- a pure def's call with frozen arguments -/
theorem callP_of {f : Fp} {a : As} {ρ ρ1 : Rho} {os : List Opd} {ds : List D} {r : D} (ha : a ρ = some (os, ρ1)) (hl : looks ρ1 os = some ds) (hb : brw os = false) (hf : f ds = some r) : eCallP f a ρ = some (.fz r, ρ1) := by
  unfold eCallP callP; rw [ha]; show ((looks ρ1 os).bind _).bind _ = _; rw [hl]; show ((f ds).bind _).bind _ = _; rw [hf]
  show (if okB (brw os) (lfreeO false r) = true then some (r, ρ1) else none).bind _ = _
  rw [hb]; rfl
theorem fnP_of {m n : Nat} {o : Bool} {b : S} {ds : List D} {fl : Fl} {ρ : Rho} {r : D} (hm : ds.length = m) (h : b (startR n (ds.map .val)) = some (fl, ρ)) (hr : retD o fl = some r) : fnP m n o b ds = some r := by
  unfold fnP; rw [if_pos hm, h]; exact hr
theorem fnI_of {m n : Nat} {o : Bool} {b : S} {C C' : Cel} {ds : List D} {fl : Fl} {ρ : Rho} {r : D} (hm : ds.length + 1 = m) (h : b (startR n (.io C :: ds.map .val)) = some (fl, ρ)) (hr : retD o fl = some r) (hs : slot ρ 0 = some (.io C')) : fnI m n o b C ds = some (r, C') := by
  unfold fnI; rw [if_pos hm, h]; show (retD o fl).bind _ = _; rw [hr]; show (match slot ρ 0 with | some (.io C') => some (r, C') | _ => none) = _; rw [hs]
/-! ### for, comprehensions -/
/-- a comprehension that changes no cell: each turn gives its item or none, and the state comes back -/
theorem comp_pure {t : T} {p : B} {e : E} {vs : List Nat} {ρ : Rho} {g : D → Option D} : ∀ {ds : List D},
    (∀ d ∈ ds, ∃ ρ1 b ρ2, t d (wipeR ρ vs) = some ρ1 ∧ p ρ1 = some (b, ρ2) ∧ ((b = false ∧ g d = none ∧ backR ρ ρ2 vs = ρ) ∨ ∃ y ρ3, b = true ∧ e ρ2 = some (.fz y, ρ3) ∧ g d = some y ∧ backR ρ ρ3 vs = ρ)) →
    compD t p e vs ds ρ = some (ds.filterMap g, ρ)
  | [], _ => rfl
  | d :: ds, h => by
    obtain ⟨ρ1, b, ρ2, h1, h2, h3⟩ := h d (List.mem_cons_self ..)
    have ih := comp_pure (t := t) (p := p) (e := e) (vs := vs) (ρ := ρ) (g := g) (ds := ds) fun d' hd' => h d' (List.mem_cons_of_mem _ hd')
    unfold compD
    rw [h1]; show (p ρ1).bind _ = _; rw [h2]
    rcases h3 with ⟨rfl, h4, h5⟩ | ⟨y, ρ3, rfl, h4, h5, h6⟩
    · show compD t p e vs ds (backR ρ ρ2 vs) = _
      rw [h5, ih, List.filterMap_cons, h4]
    · show (e ρ2).bind _ = _
      rw [h4]
      show (compD t p e vs ds (backR ρ ρ3 vs)).bind _ = _
      rw [h6, ih, List.filterMap_cons, h5]; rfl
theorem comp_of {it : I} {t : T} {p : B} {e : E} {vs : List Nat} {ρ ρ1 ρ2 : Rho} {ds r : List D} (h : it ρ = some (ds, ρ1)) (hn : nocell ρ1 vs = true) (hc : compD t p e vs ds ρ1 = some (r, ρ2)) : nComp it t p e vs ρ = some (r, ρ2) := by
  unfold nComp; rw [h]; show (if nocell ρ1 vs = true then _ else _) = _; rw [if_pos hn]; exact hc
theorem ix30 (a b c : D) : dIx (.tuple [a, b, c]) (.int 0) = some a := rfl
theorem ix31 (a b c : D) : dIx (.tuple [a, b, c]) (.int 1) = some b := rfl
theorem ix32 (a b c : D) : dIx (.tuple [a, b, c]) (.int 2) = some c := rfl
theorem ix20 (a b : D) : dIx (.tuple [a, b]) (.int 0) = some a := rfl
theorem ix21 (a b : D) : dIx (.tuple [a, b]) (.int 1) = some b := rfl
theorem dAdd_int (a b : Int) : dAdd (.int a) (.int b) = some (.int (a + b)) := rfl
theorem dSub_int (a b : Int) : dSub (.int a) (.int b) = some (.int (a - b)) := rfl
theorem ixL30 (a b c : D) : dIx (.list [a, b, c]) (.int 0) = some a := rfl
theorem ixL31 (a b c : D) : dIx (.list [a, b, c]) (.int 1) = some b := rfl
theorem ixL32 (a b c : D) : dIx (.list [a, b, c]) (.int 2) = some c := rfl
theorem fits_of {ds : List D} (h : ds.length ≤ sizeLine) : fits ds = some ds := if_pos h
theorem frozen_map (ds : List D) (os : List Opd) (es : List D) (h : frozen os = some es) : frozen (ds.map .fz ++ os) = some (ds ++ es) := by
  induction ds with
  | nil => exact h
  | cons d ds ih =>
    show (frozen (ds.map Opd.fz ++ os)).bind (fun es => some (d :: es)) = _
    rw [ih]; rfl
theorem filterMap_map {α β : Type} (f : α → β) (g : β → Option β) (P : α → Bool) (k : α → β) (l : List α) (h : ∀ a ∈ l, g (f a) = if P a = true then some (k a) else none) : (l.map f).filterMap g = (l.filter P).map k := by
  induction l with
  | nil => rfl
  | cons a l ih =>
    have ih := ih fun b hb => h b (List.mem_cons_of_mem _ hb)
    have ha := h a (List.mem_cons_self ..)
    rw [List.map_cons, List.filterMap_cons, ha]
    by_cases q : P a = true
    · simp [q, ih]
    · simp [q, ih]
/-- a comprehension that changes no cell, over data f a -/
theorem comp_map {α : Type} {t : T} {p : B} {e : E} {vs : List Nat} {ρ : Rho} (f : α → D) (ρb : α → Rho) (P : α → Bool) (k : α → D) : ∀ (l : List α), (∀ a ∈ l, t (f a) (wipeR ρ vs) = some (ρb a)) → (∀ a ∈ l, p (ρb a) = some (P a, ρb a)) →
    (∀ a ∈ l, P a = true → e (ρb a) = some (.fz (k a), ρb a)) → (∀ a ∈ l, backR ρ (ρb a) vs = ρ) → compD t p e vs (l.map f) ρ = some ((l.filter P).map k, ρ)
  | [], _, _, _, _ => rfl
  | a :: l, ht, hp, he, hb => by
    have ih := comp_map f ρb P k l (fun b h => ht b (List.mem_cons_of_mem _ h)) (fun b h => hp b (List.mem_cons_of_mem _ h)) (fun b h => he b (List.mem_cons_of_mem _ h)) (fun b h => hb b (List.mem_cons_of_mem _ h))
    have m := List.mem_cons_self (a := a) (l := l)
    rw [List.map_cons]
    unfold compD
    rw [ht a m]; show (p (ρb a)).bind _ = _; rw [hp a m]
    by_cases q : P a = true
    · show (if P a = true then _ else _) = _
      rw [if_pos q, he a m q]
      show (compD t p e vs (l.map f) (backR ρ (ρb a) vs)).bind _ = _
      rw [hb a m, ih, List.filter_cons_of_pos q]; rfl
    · show (if P a = true then _ else _) = _
      rw [if_neg q, hb a m, ih, List.filter_cons_of_neg q]
theorem ncomp_map {α : Type} {it : I} {t : T} {p : B} {e : E} {vs : List Nat} {ρ0 ρ : Rho} (f : α → D) (l : List α) (ρb : α → Rho) (P : α → Bool) (k : α → D) (hi : it ρ0 = some (l.map f, ρ)) (hn : nocell ρ vs = true) (ht : ∀ a ∈ l, t (f a) (wipeR ρ vs) = some (ρb a)) (hp : ∀ a ∈ l, p (ρb a) = some (P a, ρb a))
    (he : ∀ a ∈ l, P a = true → e (ρb a) = some (.fz (k a), ρb a)) (hb : ∀ a ∈ l, backR ρ (ρb a) vs = ρ) : nComp it t p e vs ρ0 = some ((l.filter P).map k, ρ) :=
  comp_of hi hn (comp_map f ρb P k l ht hp he hb)
theorem ncomp_all {α : Type} {it : I} {t : T} {e : E} {vs : List Nat} {ρ0 ρ : Rho} (f : α → D) (l : List α) (ρb : α → Rho) (k : α → D) (hi : it ρ0 = some (l.map f, ρ)) (hn : nocell ρ vs = true) (ht : ∀ a ∈ l, t (f a) (wipeR ρ vs) = some (ρb a))
    (he : ∀ a ∈ l, e (ρb a) = some (.fz (k a), ρb a)) (hb : ∀ a ∈ l, backR ρ (ρb a) vs = ρ) : nComp it t bYes e vs ρ0 = some (l.map k, ρ) := by
  have := ncomp_map (p := bYes) f l ρb (fun _ => true) k hi hn ht (fun a _ => rfl) (fun a h _ => he a h) hb
  rw [List.filter_eq_self.mpr fun _ _ => rfl] at this
  exact this
/-- a for loop as a fold over plain data -/
theorem for_fold {α β : Type} {t : T} {b : S} (f : α → D) (R : β → Rho) (g : β → α → β) : ∀ (l : List α) (x : β), (∀ (x : β), ∀ a ∈ l, ∃ ρ1, t (f a) (R x) = some ρ1 ∧ (b ρ1 = some (.nx, R (g x a)) ∨ b ρ1 = some (.ct, R (g x a)))) → forD t b (l.map f) (R x) = some (.nx, R (l.foldl g x))
  | [], _, _ => rfl
  | a :: l, x, h => by
    obtain ⟨ρ1, h1, h2⟩ := h x a (List.mem_cons_self ..)
    have ih := for_fold f R g l (g x a) fun y b hb => h y b (List.mem_cons_of_mem _ hb)
    rw [List.map_cons]
    unfold forD
    rw [h1]
    show (b ρ1).bind _ = _
    rcases h2 with h2 | h2 <;> (rw [h2]; exact ih)
/-- .. with an invariant -/
theorem for_inv {α β : Type} {t : T} {b : S} (f : α → D) (R : β → Rho) (g : β → α → β) (Ok : List α → β → Prop) : ∀ (l : List α) (x : β), Ok l x → (∀ (a : α) (l : List α) (x : β), Ok (a :: l) x → Ok l (g x a) ∧ ∃ ρ1, t (f a) (R x) = some ρ1 ∧ (b ρ1 = some (.nx, R (g x a)) ∨ b ρ1 = some (.ct, R (g x a)))) → forD t b (l.map f) (R x) = some (.nx, R (l.foldl g x))
  | [], _, _, _ => rfl
  | a :: l, x, ok, h => by
    obtain ⟨ok', ρ1, h1, h2⟩ := h a l x ok
    have ih := for_inv f R g Ok l (g x a) ok' h
    rw [List.map_cons]
    unfold forD
    rw [h1]
    show (b ρ1).bind _ = _
    rcases h2 with h2 | h2 <;> (rw [h2]; exact ih)
theorem sFor_of {it : I} {t : T} {b : S} {ρ ρ1 : Rho} {ds : List D} {r : Option (Fl × Rho)} (h : it ρ = some (ds, ρ1)) (h' : forD t b ds ρ1 = r) : sFor it t b ρ = r := by unfold sFor; rw [h]; exact h'
theorem set_E {i : Nat} {f : E} {ρ ρ1 : Rho} {d : D} (h : f ρ = some (.fz d, ρ1)) (hi : isIo ρ1 i = false) : sSet i (lE f) ρ = some (.nx, ρ1.set i (some (.val d))) := by
  unfold sSet lE; rw [h]; show (if isIo ρ1 i = true then none else _) = _; rw [hi]; rfl
theorem set_N {i : Nat} {f : N} {ρ ρ1 : Rho} {ds : List D} (h : f ρ = some (ds, ρ1)) (hi : isIo ρ1 i = false) : sSet i (lN f) ρ = some (.nx, ρ1.set i (some (.own (.l ds)))) := by
  unfold sSet lN; rw [h]; show (if isIo ρ1 i = true then none else _) = _; rw [hi]; rfl
theorem ret_E {f : E} {ρ ρ1 : Rho} {d : D} (h : f ρ = some (.fz d, ρ1)) : sRet f ρ = some (.rt d, ρ1) := by unfold sRet; rw [h]; rfl
theorem app_of {i : Nat} {f : E} {ρ ρ1 : Rho} {d : D} {ds ds0 : List D} (h0 : celAt ρ i = some (.l ds0)) (h : f ρ = some (.fz d, ρ1)) (h1 : celAt ρ1 i = some (.l ds)) (hl : ds.length < sizeLine) : sApp i f ρ = some (.nx, putAt ρ1 i (.l (ds ++ [d]))) := by
  unfold sApp; rw [h0, h]; show (match Opd.fz d, celAt ρ1 i with | .fz d, some (.l ds) => if ds.length < sizeLine then some (Fl.nx, putAt ρ1 i (.l (ds ++ [d]))) else none | _, _ => none) = _; rw [h1]; exact if_pos hl
theorem eN_of {f : N} {ρ ρ1 : Rho} {ds : List D} (h : f ρ = some (ds, ρ1)) : eN f ρ = some (.fz (.list ds), ρ1) := by unfold eN; rw [h]; rfl
theorem nLst_of {g : As} {ρ ρ1 : Rho} {os : List Opd} {ds : List D} (h : g ρ = some (os, ρ1)) (hf : frozen os = some ds) (hl : ds.length ≤ sizeLine) : nLst g ρ = some (ds, ρ1) := by
  unfold nLst; rw [h]; show (frozen os).bind _ = _; rw [hf]; show (fits ds).bind _ = _; rw [fits_of hl]; rfl
theorem eTup_of {g : As} {ρ ρ1 : Rho} {os : List Opd} {ds : List D} (h : g ρ = some (os, ρ1)) (hf : frozen os = some ds) (hl : ds.length ≤ sizeLine) : eTup g ρ = some (.fz (.tuple ds), ρ1) := by
  unfold eTup; rw [h]; show (frozen os).bind _ = _; rw [hf]; show (fits ds).bind _ = _; rw [fits_of hl]; rfl
theorem star_of {f : E} {g : As} {ρ ρ1 ρ2 : Rho} {o : Opd} {d : D} {ds : List D} {os : List Opd} (h : f ρ = some (o, ρ1)) (hl : look ρ1 o = some d) (hi : itemsOf d = some ds) (h' : g ρ1 = some (os, ρ2)) : aStar f g ρ = some (ds.map .fz ++ os, ρ2) := by
  unfold aStar; rw [h]; show (look ρ1 o).bind _ = _; rw [hl]; show (itemsOf d).bind _ = _; rw [hi]; show (g ρ1).bind _ = _; rw [h']; rfl
theorem dIn_of {b : Bool} {i : Nat} {f : E} {ρ ρ1 : Rho} {d : D} {C : Cel} {o : Option D} (hf : f ρ = some (.fz d, ρ1)) (hc : celAt ρ1 i = some C) (hg : getC C d = some o) : eDIn b i f ρ = some (.fz (.bool (o.isSome == b)), ρ1) := by
  unfold eDIn; rw [hf]; show (celAt ρ1 i).bind _ = _; rw [hc]; show (getC C d).bind _ = _; rw [hg]; rfl
theorem dGet_of {i : Nat} {f : E} {ρ ρ1 : Rho} {d z : D} {C C0 : Cel} (h0 : celAt ρ i = some C0) (hf : f ρ = some (.fz d, ρ1)) (hc : celAt ρ1 i = some C) (hg : getC C d = some (some z)) : eDGet i f ρ = some (.fz z, ρ1) := by
  unfold eDGet; rw [h0]; show (f ρ).bind _ = _; rw [hf]; show (celAt ρ1 i).bind _ = _; rw [hc]; show (getC C d).bind _ = _; rw [hg]; rfl
theorem dPut_of {i : Nat} {f g : E} {ρ ρ1 ρ2 : Rho} {d z : D} {C C0 C' : Cel} (hf : f ρ = some (.fz z, ρ1)) (h0 : celAt ρ1 i = some C0) (hg : g ρ1 = some (.fz d, ρ2)) (hc : celAt ρ2 i = some C) (hp : putC C d z = some C') : sDPutD i f g ρ = some (.nx, putAt ρ2 i C') := by
  unfold sDPutD; rw [hf]; show (celAt ρ1 i).bind _ = _; rw [h0]; show (g ρ1).bind _ = _; rw [hg]; show (celAt ρ2 i).bind _ = _; rw [hc]; show (putC C d z).bind _ = _; rw [hp]; rfl
theorem ixL {ds : List D} {j : Nat} {d : D} (h : ds[j]? = some d) : dIx (.list ds) (.int (j : Int)) = some d := L2.atI_nat h
theorem ixT {ds : List D} {j : Nat} {d : D} (h : ds[j]? = some d) : dIx (.tuple ds) (.int (j : Int)) = some d := L2.atI_nat h
theorem ixTlast (ds : List D) (d : D) : dIx (.tuple (ds ++ [d])) (.int (-1)) = some d := L2.atI_last ds d
theorem par2_of {i j : Nat} {f g : L} {ρ ρ1 ρ2 : Rho} {l l' : L3.Loc} (h1 : f ρ = some (l, ρ1)) (h2 : g ρ1 = some (l', ρ2)) (hi : isIo ρ2 i = false) (hj : isIo ρ2 j = false) : sPar [i, j] (lsCons f (lsCons g lsNil)) ρ = some (.nx, (ρ2.set i (some l)).set j (some l')) := by
  unfold sPar lsCons lsNil
  rw [h1]
  show (((g ρ1).bind _).bind _).bind _ = _
  rw [h2]
  show (if ([i, j].any (isIo ρ2)) = true then none else _) = _
  rw [if_neg (by simp [hi, hj])]; rfl
theorem lE_of {f : E} {ρ ρ1 : Rho} {d : D} (h : f ρ = some (.fz d, ρ1)) : lE f ρ = some (.val d, ρ1) := by unfold lE; rw [h]; rfl
theorem lN_of {f : N} {ρ ρ1 : Rho} {d : List D} (h : f ρ = some (d, ρ1)) : lN f ρ = some (.own (.l d), ρ1) := by unfold lN; rw [h]; rfl
theorem e2_of {g : D → D → Option D} {a b : E} {ρ ρ1 ρ2 : Rho} {o p : Opd} {x y z : D} (ha : a ρ = some (o, ρ1)) (hb : b ρ1 = some (p, ρ2)) (hx : look ρ2 o = some x) (hy : look ρ2 p = some y) (hg : g x y = some z) : e2 g a b ρ = some (.fz z, ρ2) := by
  unfold e2; rw [ha]; show (b ρ1).bind _ = _; rw [hb]; show (look ρ2 o).bind _ = _; rw [hx]; show (look ρ2 p).bind _ = _; rw [hy]; show (g x y).bind _ = _; rw [hg]; rfl
/-- a for loop by a relation -/
theorem for_rel {α : Type} {t : T} {b : S} (f : α → D) (I : List α → Rho → Prop) (h : ∀ (a : α) (l : List α) (ρ : Rho), I (a :: l) ρ → ∃ ρ1 ρ2, t (f a) ρ = some ρ1 ∧ (b ρ1 = some (.nx, ρ2) ∨ b ρ1 = some (.ct, ρ2)) ∧ I l ρ2) : ∀ (l : List α) (ρ : Rho), I l ρ → ∃ ρ', forD t b (l.map f) ρ = some (.nx, ρ') ∧ I [] ρ'
  | [], ρ, hi => ⟨ρ, rfl, hi⟩
  | a :: l, ρ, hi => by
    obtain ⟨ρ1, ρ2, h1, h2, h3⟩ := h a l ρ hi
    obtain ⟨ρ', h4, h5⟩ := for_rel f I h l ρ2 h3
    refine ⟨ρ', ?_, h5⟩
    rw [List.map_cons]
    unfold forD
    rw [h1]
    show (b ρ1).bind _ = _
    rcases h2 with h2 | h2 <;> (rw [h2]; exact h4)
/-! the least of rows of ints that begin with an int -/
def rowD (x : Int) (r : List Int) : D := .tuple (.int x :: r.map .int)
theorem ordOk_row (x y : Int) (r s : List Int) : ordOk (rowD x r) (rowD y s) = true := by
  have ha : ∀ (a b : List Int), PySem.W.alikeAll (a.map .int) (b.map .int) = true := by
    intro a
    induction a with
    | nil => intro b; cases b <;> rfl
    | cons c a ih =>
      intro b
      cases b with
      | nil => rfl
      | cons d b => exact ih b
  have hd : ∀ a : List Int, PyData.depthAll (a.map .int) = 0 := by
    intro a
    induction a with
    | nil => rfl
    | cons c a ih => show max 0 (PyData.depthAll (a.map .int)) = 0; rw [ih]; rfl
  show (PySem.W.alikeAll (r.map .int) (s.map .int) && true && decide (max 0 (PyData.depthAll (r.map .int)) + 1 ≤ 64)) = true
  rw [ha r s, hd r]; rfl
theorem lt_row (x y : Int) (r s : List Int) : PySem.W.dataLt (rowD x r) (rowD y s) = decide ((x :: r) < (y :: s)) := PySem.W.dataLt_ints (x :: r) (y :: s)
theorem lt_row1 {x y : Int} {r s : List Int} (h : x < y) : PySem.W.dataLt (rowD x r) (rowD y s) = true := by
  rw [lt_row]; exact decide_eq_true (List.Lex.rel h)
theorem lt_row2 {x y : Int} {r s : List Int} (h : PySem.W.dataLt (rowD x r) (rowD y s) = true) : x ≤ y := by
  rw [lt_row] at h
  have h := of_decide_eq_true h
  cases h with
  | rel h => omega
  | cons h => omega
theorem minD_row : ∀ (l : List (Int × List Int)) (a : Int × List Int), ∃ m ∈ a :: l, PySem.W.minD (rowD a.1 a.2) (l.map fun p => rowD p.1 p.2) = rowD m.1 m.2 ∧ ∀ p ∈ a :: l, m.1 ≤ p.1
  | [], a => ⟨a, by simp, rfl, fun p hp => by have : p = a := by simpa using hp
                                              rw [this]; exact Int.le_refl _⟩
  | y :: l, a => by
    have step : PySem.W.minD (rowD a.1 a.2) ((y :: l).map fun p => rowD p.1 p.2) = PySem.W.minD (if PySem.W.dataLt (rowD y.1 y.2) (rowD a.1 a.2) = true then rowD y.1 y.2 else rowD a.1 a.2) (l.map fun p => rowD p.1 p.2) := rfl
    by_cases q : PySem.W.dataLt (rowD y.1 y.2) (rowD a.1 a.2) = true
    · obtain ⟨m, hm, e, le⟩ := minD_row l y
      refine ⟨m, List.mem_cons_of_mem _ hm, by rw [step, if_pos q]; exact e, fun p hp => ?_⟩
      rcases List.mem_cons.mp hp with rfl | hp
      · have := le y (List.mem_cons_self ..)
        have := lt_row2 q
        omega
      · exact le p hp
    · obtain ⟨m, hm, e, le⟩ := minD_row l a
      refine ⟨m, ?_, by rw [step, if_neg q]; exact e, fun p hp => ?_⟩
      · rcases List.mem_cons.mp hm with rfl | hm
        · exact List.mem_cons_self ..
        · exact List.mem_cons_of_mem _ (List.mem_cons_of_mem _ hm)
      · rcases List.mem_cons.mp hp with rfl | hp
        · exact le p (List.mem_cons_self ..)
        · rcases List.mem_cons.mp hp with rfl | hp
          · have h1 := le a (List.mem_cons_self ..)
            have h2 : ¬ p.1 < a.1 := fun z => q (lt_row1 z)
            omega
          · exact le p (List.mem_cons_of_mem _ hp)
theorem dMin_row (l : List (Int × List Int)) (a : Int × List Int) : ∃ m ∈ a :: l, dMin [.list ((a :: l).map fun p => rowD p.1 p.2)] = some (rowD m.1 m.2) ∧ ∀ p ∈ a :: l, m.1 ≤ p.1 := by
  obtain ⟨m, hm, e, le⟩ := minD_row l a
  refine ⟨m, hm, ?_, le⟩
  show (if ordAll ((a :: l).map fun p => rowD p.1 p.2) = true then some (PySem.W.minD (rowD a.1 a.2) (l.map fun p => rowD p.1 p.2)) else none) = _
  rw [if_pos, e]
  unfold ordAll
  rw [List.all_eq_true]
  intro x hx
  rw [List.all_eq_true]
  intro y hy
  obtain ⟨p, _, rfl⟩ := List.mem_map.mp hx
  obtain ⟨q, _, rfl⟩ := List.mem_map.mp hy
  exact ordOk_row _ _ _ _
end L3
set_option Elab.async false
set_option linter.all false
set_option maxRecDepth 100000
set_option maxHeartbeats 1000000
/-! typed programs: encodings of plain types, and what a denotation does as a step of a plain function -/
namespace L3
open PySem PySem.W
/-! ### encodings -/
/-- a text that can be laid -/
abbrev Tg := {x : Str // (PyData.strOk x && decide (x.length ≤ sizeLine)) = true}
def tg (x : Str) (h : (PyData.strOk x && decide (x.length ≤ sizeLine)) = true := by decide +kernel) : Tg := ⟨x, h⟩
variable {α β γ δ ε ζ σ τ : Type}
def xI : Int → D := .int
def xB : Bool → D := .bool
def xS : Tg → D := fun x => .str x.1
def xU : Unit → D := fun _ => .none
def xD : D → D := fun d => d
def xL (e : α → D) : List α → D := fun xs => .list (xs.map e)
def xV (e : α → D) : List α → D := fun xs => .tuple (xs.map e)
def xO (e : α → D) : Option α → D
  | none => .none
  | some a => e a
def x1 (a : α → D) : α → D := fun p => .tuple [a p]
def x2 (a : α → D) (b : β → D) : α × β → D := fun p => .tuple [a p.1, b p.2]
def x3 (a : α → D) (b : β → D) (c : γ → D) : α × β × γ → D := fun p => .tuple [a p.1, b p.2.1, c p.2.2]
def x4 (a : α → D) (b : β → D) (c : γ → D) (d : δ → D) : α × β × γ × δ → D := fun p => .tuple [a p.1, b p.2.1, c p.2.2.1, d p.2.2.2]
def x5 (a : α → D) (b : β → D) (c : γ → D) (d : δ → D) (e : ε → D) : α × β × γ × δ × ε → D := fun p => .tuple [a p.1, b p.2.1, c p.2.2.1, d p.2.2.2.1, e p.2.2.2.2]
/-- what can be compared by == -/
class EqC (e : α → D) where
  dep : Nat
  hd : ∀ a, (e a).depth ≤ dep
  lay : ∀ a, (e a).canLay0 = true
  inj : ∀ a b, PyData.eqv (e a) (e b) = true ↔ a = b
/-- never None -/
class NnC (e : α → D) : Prop where
  nn : ∀ a, isNone (e a) = false
/-- what can be put in order -/
class OrdC (e : α → D) : Prop where
  al : ∀ a b, alike (e a) (e b) = true
/-- no list within -/
class FrC (e : α → D) : Prop where
  fr : ∀ a, lfree (e a) = true
/-- tuples all, or none a tuple -/
class TuC (e : α → D) : Prop where
  tu : (∀ a, isTup (e a) = true) ∨ ∀ a, noTup (e a) = true
instance : FrC xI := ⟨fun _ => rfl⟩
instance : FrC xB := ⟨fun _ => rfl⟩
instance : FrC xS := ⟨fun _ => rfl⟩
instance : FrC xU := ⟨fun _ => rfl⟩
theorem lfrees_map (e : α → D) [FrC e] : ∀ xs : List α, lfrees (xs.map e) = true
  | [] => rfl
  | x :: xs => by show (lfree (e x) && lfrees (xs.map e)) = true; rw [FrC.fr, lfrees_map e xs]; rfl
instance (e : α → D) [FrC e] : FrC (xV e) := ⟨fun xs => lfrees_map e xs⟩
instance (e : α → D) [FrC e] : FrC (xO e) := ⟨fun o => by cases o with | none => rfl | some a => exact FrC.fr a⟩
instance (a : α → D) [FrC a] : FrC (x1 a) := ⟨fun p => by show (lfree (a p) && true) = true; rw [FrC.fr]; rfl⟩
instance (a : α → D) (b : β → D) [FrC a] [FrC b] : FrC (x2 a b) := ⟨fun p => by show (lfree (a p.1) && (lfree (b p.2) && true)) = true; rw [FrC.fr, FrC.fr]; rfl⟩
instance (a : α → D) (b : β → D) (c : γ → D) [FrC a] [FrC b] [FrC c] : FrC (x3 a b c) := ⟨fun p => by show (lfree (a p.1) && (lfree (b p.2.1) && (lfree (c p.2.2) && true))) = true; rw [FrC.fr, FrC.fr, FrC.fr]; rfl⟩
instance (a : α → D) (b : β → D) (c : γ → D) (d : δ → D) [FrC a] [FrC b] [FrC c] [FrC d] : FrC (x4 a b c d) := ⟨fun p => by show (lfree (a p.1) && (lfree (b p.2.1) && (lfree (c p.2.2.1) && (lfree (d p.2.2.2) && true)))) = true; rw [FrC.fr, FrC.fr, FrC.fr, FrC.fr]; rfl⟩
instance : NnC xI := ⟨fun _ => rfl⟩
instance : NnC xB := ⟨fun _ => rfl⟩
instance : NnC xS := ⟨fun _ => rfl⟩
instance (e : α → D) : NnC (xL e) := ⟨fun _ => rfl⟩
instance (e : α → D) : NnC (xV e) := ⟨fun _ => rfl⟩
instance (a : α → D) : NnC (x1 a) := ⟨fun _ => rfl⟩
instance (a : α → D) (b : β → D) : NnC (x2 a b) := ⟨fun _ => rfl⟩
instance (a : α → D) (b : β → D) (c : γ → D) : NnC (x3 a b c) := ⟨fun _ => rfl⟩
instance (a : α → D) (b : β → D) (c : γ → D) (d : δ → D) : NnC (x4 a b c d) := ⟨fun _ => rfl⟩
instance : TuC xI := ⟨.inr fun _ => rfl⟩
instance : TuC xB := ⟨.inr fun _ => rfl⟩
instance : TuC xS := ⟨.inr fun _ => rfl⟩
instance (e : α → D) : TuC (xL e) := ⟨.inr fun _ => rfl⟩
instance (a : α → D) : TuC (x1 a) := ⟨.inl fun _ => rfl⟩
instance (a : α → D) (b : β → D) : TuC (x2 a b) := ⟨.inl fun _ => rfl⟩
instance (a : α → D) (b : β → D) (c : γ → D) : TuC (x3 a b c) := ⟨.inl fun _ => rfl⟩
instance (a : α → D) (b : β → D) (c : γ → D) (d : δ → D) : TuC (x4 a b c d) := ⟨.inl fun _ => rfl⟩
/-! equality -/
instance : EqC xI := ⟨0, fun _ => Nat.le_refl _, fun _ => rfl, fun a b => by show ((a == b) = true) ↔ _; simp⟩
instance : EqC xB := ⟨0, fun _ => Nat.le_refl _, fun _ => rfl, fun a b => by show ((a == b) = true) ↔ _; simp⟩
instance : EqC xU := ⟨0, fun _ => Nat.le_refl _, fun _ => rfl, fun a b => ⟨fun _ => rfl, fun _ => rfl⟩⟩
instance : EqC xS := ⟨0, fun _ => Nat.le_refl _, fun a => by have := a.2; rw [Bool.and_eq_true] at this; exact this.1, fun a b => by show ((a.1 == b.1) = true) ↔ _; rw [beq_iff_eq]; exact ⟨fun h => Subtype.ext h, fun h => by rw [h]⟩⟩
theorem depthAll_map (e : α → D) [h : EqC e] : ∀ xs : List α, PyData.depthAll (xs.map e) ≤ h.dep
  | [] => Nat.zero_le _
  | x :: xs => by show max (e x).depth (PyData.depthAll (xs.map e)) ≤ _; exact Nat.max_le.mpr ⟨h.hd x, depthAll_map e xs⟩
theorem canLayAll_map (e : α → D) [h : EqC e] : ∀ xs : List α, PyData.canLayAll0 (xs.map e) = true
  | [] => rfl
  | x :: xs => by show ((e x).canLay0 && PyData.canLayAll0 (xs.map e)) = true; rw [h.lay x, canLayAll_map e xs]; rfl
theorem eqvAll_map (e : α → D) [h : EqC e] : ∀ xs ys : List α, PyData.eqvAll (xs.map e) (ys.map e) = true ↔ xs = ys
  | [], [] => ⟨fun _ => rfl, fun _ => rfl⟩
  | [], y :: ys => ⟨(fun h => by cases h), (fun h => by cases h)⟩
  | x :: xs, [] => ⟨(fun h => by cases h), (fun h => by cases h)⟩
  | x :: xs, y :: ys => by
    show (PyData.eqv (e x) (e y) && PyData.eqvAll (xs.map e) (ys.map e)) = true ↔ _
    rw [Bool.and_eq_true, h.inj, eqvAll_map e xs ys, List.cons.injEq]
instance (e : α → D) [h : EqC e] : EqC (xL e) := ⟨h.dep + 1, fun xs => Nat.succ_le_succ (depthAll_map e xs), fun xs => canLayAll_map e xs, fun a b => eqvAll_map e a b⟩
instance (e : α → D) [h : EqC e] : EqC (xV e) := ⟨h.dep + 1, fun xs => Nat.succ_le_succ (depthAll_map e xs), fun xs => canLayAll_map e xs, fun a b => eqvAll_map e a b⟩
instance (e : α → D) [h : EqC e] [n : NnC e] : EqC (xO e) := ⟨h.dep, fun o => by cases o with | none => exact Nat.zero_le _ | some a => exact h.hd a, fun o => by cases o with | none => rfl | some a => exact h.lay a, fun a b => by
  cases a with
  | none => cases b with
    | none => exact ⟨fun _ => rfl, fun _ => rfl⟩
    | some b =>
      have nn := n.nn b
      refine ⟨fun h => ?_, fun h => by cases h⟩
      exfalso
      revert h nn
      show isNone (e b) = false → PyData.eqv .none (e b) = true → False
      cases e b <;> simp [PyData.eqv, isNone]
  | some a => cases b with
    | none =>
      have nn := n.nn a
      refine ⟨fun h => ?_, fun h => by cases h⟩
      exfalso
      revert h nn
      show isNone (e a) = false → PyData.eqv (e a) .none = true → False
      cases e a <;> simp [PyData.eqv, isNone]
    | some b => show PyData.eqv (e a) (e b) = true ↔ _; rw [h.inj, Option.some.injEq]⟩
instance (a : α → D) [h : EqC a] : EqC (x1 a) := ⟨h.dep + 1, fun p => Nat.succ_le_succ (Nat.max_le.mpr ⟨h.hd _, Nat.zero_le _⟩), fun p => by show ((a p).canLay0 && true) = true; rw [h.lay]; rfl, fun p q => by
  show (PyData.eqv (a p) (a q) && true) = true ↔ _
  rw [Bool.and_true, h.inj]⟩
instance (a : α → D) (b : β → D) [h : EqC a] [k : EqC b] : EqC (x2 a b) := ⟨max h.dep k.dep + 1, fun p => Nat.succ_le_succ (Nat.max_le.mpr ⟨Nat.le_trans (h.hd _) (Nat.le_max_left ..), Nat.max_le.mpr ⟨Nat.le_trans (k.hd _) (Nat.le_max_right ..), Nat.zero_le _⟩⟩), fun p => by show ((a p.1).canLay0 && ((b p.2).canLay0 && true)) = true; rw [h.lay, k.lay]; rfl, fun p q => by
  show (PyData.eqv (a p.1) (a q.1) && (PyData.eqv (b p.2) (b q.2) && true)) = true ↔ _
  rw [Bool.and_eq_true, Bool.and_true, h.inj, k.inj]
  exact ⟨fun ⟨x, y⟩ => Prod.ext x y, fun e => by rw [e]; exact ⟨rfl, rfl⟩⟩⟩
/-- three and more by pairs -/
theorem x3_eqv (a : α → D) (b : β → D) (c : γ → D) (p q : α × β × γ) : PyData.eqv (x3 a b c p) (x3 a b c q) = (PyData.eqv (a p.1) (a q.1) && PyData.eqv (x2 b c p.2) (x2 b c q.2)) := rfl
theorem x4_eqv (a : α → D) (b : β → D) (c : γ → D) (d : δ → D) (p q : α × β × γ × δ) : PyData.eqv (x4 a b c d p) (x4 a b c d q) = (PyData.eqv (a p.1) (a q.1) && PyData.eqv (x3 b c d p.2) (x3 b c d q.2)) := rfl
instance eq3 (a : α → D) (b : β → D) (c : γ → D) [h : EqC a] [k : EqC b] [l : EqC c] : EqC (x3 a b c) := ⟨max h.dep (EqC.dep (x2 b c)) + 1, fun p => by
    have h1 := h.hd p.1
    have h2 := EqC.hd (e := x2 b c) p.2
    have e2 : (x2 b c p.2).depth = max (b p.2.1).depth (max (c p.2.2).depth 0) + 1 := rfl
    have e3 : (x3 a b c p).depth = max (a p.1).depth (max (b p.2.1).depth (max (c p.2.2).depth 0)) + 1 := rfl
    omega, fun p => by
    have h1 := h.lay p.1
    have h2 : ((b p.2.1).canLay0 && ((c p.2.2).canLay0 && true)) = true := EqC.lay (e := x2 b c) p.2
    show ((a p.1).canLay0 && ((b p.2.1).canLay0 && ((c p.2.2).canLay0 && true))) = true
    rw [h1, h2]; rfl, fun p q => by
    rw [x3_eqv, Bool.and_eq_true, h.inj, EqC.inj (e := x2 b c)]
    exact ⟨fun ⟨x, y⟩ => Prod.ext x y, fun e => by rw [e]; exact ⟨rfl, rfl⟩⟩⟩
instance eq4 (a : α → D) (b : β → D) (c : γ → D) (d : δ → D) [h : EqC a] [k : EqC b] [l : EqC c] [m : EqC d] : EqC (x4 a b c d) := ⟨max h.dep (EqC.dep (x3 b c d)) + 1, fun p => by
    have h1 := h.hd p.1
    have h2 := EqC.hd (e := x3 b c d) p.2
    have e2 : (x3 b c d p.2).depth = max (b p.2.1).depth (max (c p.2.2.1).depth (max (d p.2.2.2).depth 0)) + 1 := rfl
    have e3 : (x4 a b c d p).depth = max (a p.1).depth (max (b p.2.1).depth (max (c p.2.2.1).depth (max (d p.2.2.2).depth 0))) + 1 := rfl
    omega, fun p => by
    have h1 := h.lay p.1
    have h2 : ((b p.2.1).canLay0 && ((c p.2.2.1).canLay0 && ((d p.2.2.2).canLay0 && true))) = true := EqC.lay (e := x3 b c d) p.2
    show ((a p.1).canLay0 && ((b p.2.1).canLay0 && ((c p.2.2.1).canLay0 && ((d p.2.2.2).canLay0 && true)))) = true
    rw [h1, h2]; rfl, fun p q => by
    rw [x4_eqv, Bool.and_eq_true, h.inj, EqC.inj (e := x3 b c d)]
    exact ⟨fun ⟨x, y⟩ => Prod.ext x y, fun e => by rw [e]; exact ⟨rfl, rfl⟩⟩⟩
/-! order -/
instance : OrdC xI := ⟨fun _ _ => rfl⟩
instance : OrdC xB := ⟨fun _ _ => rfl⟩
instance : OrdC xS := ⟨fun _ _ => rfl⟩
theorem alikeAll_map (e : α → D) [h : OrdC e] : ∀ xs ys : List α, alikeAll (xs.map e) (ys.map e) = true
  | [], _ => by simp [alikeAll]
  | x :: xs, [] => rfl
  | x :: xs, y :: ys => by show (alike (e x) (e y) && alikeAll (xs.map e) (ys.map e)) = true; rw [h.al, alikeAll_map e xs ys]; rfl
instance (e : α → D) [OrdC e] : OrdC (xL e) := ⟨fun xs ys => alikeAll_map e xs ys⟩
instance (e : α → D) [OrdC e] : OrdC (xV e) := ⟨fun xs ys => alikeAll_map e xs ys⟩
instance (a : α → D) [OrdC a] : OrdC (x1 a) := ⟨fun p q => by show (alike (a p) (a q) && true) = true; rw [OrdC.al]; rfl⟩
instance (a : α → D) (b : β → D) [OrdC a] [OrdC b] : OrdC (x2 a b) := ⟨fun p q => by show (alike (a p.1) (a q.1) && (alike (b p.2) (b q.2) && true)) = true; rw [OrdC.al, OrdC.al]; rfl⟩
instance (a : α → D) (b : β → D) (c : γ → D) [OrdC a] [OrdC b] [OrdC c] : OrdC (x3 a b c) := ⟨fun p q => by show (alike (a p.1) (a q.1) && (alike (b p.2.1) (b q.2.1) && (alike (c p.2.2) (c q.2.2) && true))) = true; rw [OrdC.al, OrdC.al, OrdC.al]; rfl⟩
instance (a : α → D) (b : β → D) (c : γ → D) (d : δ → D) [OrdC a] [OrdC b] [OrdC c] [OrdC d] : OrdC (x4 a b c d) := ⟨fun p q => by show (alike (a p.1) (a q.1) && (alike (b p.2.1) (b q.2.1) && (alike (c p.2.2.1) (c q.2.2.1) && (alike (d p.2.2.2) (d q.2.2.2) && true)))) = true; rw [OrdC.al, OrdC.al, OrdC.al, OrdC.al]; rfl⟩
theorem ordOk_of (e : α → D) [h : EqC e] [OrdC e] [n : NnC e] (hd : h.dep ≤ 64) (a b : α) : ordOk (e a) (e b) = true := by
  unfold ordOk
  rw [OrdC.al, n.nn, decide_eq_true (Nat.le_trans (h.hd a) hd)]; rfl
theorem shaped_of (e : α → D) [h : EqC e] (hd : h.dep ≤ 64) (a : α) : SeqAt.shaped (e a) = true := by
  unfold SeqAt.shaped
  rw [h.lay, decide_eq_true (Nat.le_trans (h.hd a) hd)]; rfl
theorem eqv_of (e : α → D) [h : EqC e] [DecidableEq α] (a b : α) : PyData.eqv (e a) (e b) = decide (a = b) := by
  by_cases q : a = b
  · rw [decide_eq_true q, (h.inj a b).mpr q]
  · rw [decide_eq_false q]
    cases z : PyData.eqv (e a) (e b) with
    | false => rfl
    | true => exact absurd ((h.inj a b).mp z) q
/-- the order of data, on a plain type -/
def ltE (e : α → D) (a b : α) : Bool := dataLt (e a) (e b)
theorem dEq_e (e : α → D) [h : EqC e] [DecidableEq α] (hd : h.dep ≤ 64) (a b : α) : dEq (e a) (e b) = some (.bool (decide (a = b))) := by
  unfold dEq; rw [shaped_of e hd, shaped_of e hd, eqv_of]; rfl
theorem dNe_e (e : α → D) [h : EqC e] [DecidableEq α] (hd : h.dep ≤ 64) (a b : α) : dNe (e a) (e b) = some (.bool (!decide (a = b))) := by
  unfold dNe; rw [shaped_of e hd, shaped_of e hd, eqv_of]; rfl
theorem dLt_e (e : α → D) [h : EqC e] [OrdC e] [NnC e] (hd : h.dep ≤ 64) (a b : α) : dLt (e a) (e b) = some (.bool (ltE e a b)) := by
  unfold dLt; rw [ordOk_of e hd]; rfl
theorem dGt_e (e : α → D) [h : EqC e] [OrdC e] [NnC e] (hd : h.dep ≤ 64) (a b : α) : dGt (e a) (e b) = some (.bool (ltE e b a)) := by
  unfold dGt; rw [ordOk_of e hd]; rfl
theorem dLe_e (e : α → D) [h : EqC e] [OrdC e] [NnC e] (hd : h.dep ≤ 64) (a b : α) : dLe (e a) (e b) = some (.bool (!ltE e b a)) := by
  unfold dLe; rw [ordOk_of e hd]; rfl
theorem dGe_e (e : α → D) [h : EqC e] [OrdC e] [NnC e] (hd : h.dep ≤ 64) (a b : α) : dGe (e a) (e b) = some (.bool (!ltE e a b)) := by
  unfold dGe; rw [ordOk_of e hd]; rfl
theorem any_eqv (e : α → D) [h : EqC e] [DecidableEq α] (a : α) : ∀ xs : List α, ((xs.map e).any fun z => PyData.eqv z (e a)) = decide (a ∈ xs)
  | [] => rfl
  | x :: xs => by
    rw [List.map_cons, List.any_cons, any_eqv e a xs, eqv_of]
    by_cases q : x = a
    · simp [q]
    · have : ¬ a = x := fun z => q z.symm
      simp [q, this]
theorem inOk_map (e : α → D) [h : EqC e] (hd : h.dep ≤ 64) (a : α) (xs : List α) : inOk (e a) (xs.map e) = true := by
  unfold inOk; rw [shaped_of e hd, canLayAll_map]; rfl
theorem dInL_e (e : α → D) [h : EqC e] [DecidableEq α] (hd : h.dep ≤ 64) (a : α) (xs : List α) : dIn (e a) (xL e xs) = some (.bool (decide (a ∈ xs))) := by
  show (if inOk (e a) (xs.map e) = true then some (PyData.bool ((xs.map e).any fun z => PyData.eqv z (e a))) else none) = _
  rw [inOk_map e hd, any_eqv]; rfl
theorem dInV_e (e : α → D) [h : EqC e] [DecidableEq α] (hd : h.dep ≤ 64) (a : α) (xs : List α) : dIn (e a) (xV e xs) = some (.bool (decide (a ∈ xs))) := dInL_e e hd a xs
theorem dNotInL_e (e : α → D) [h : EqC e] [DecidableEq α] (hd : h.dep ≤ 64) (a : α) (xs : List α) : dNotIn (e a) (xL e xs) = some (.bool (!decide (a ∈ xs))) := by
  show (if inOk (e a) (xs.map e) = true then some (PyData.bool (!(xs.map e).any fun z => PyData.eqv z (e a))) else none) = _
  rw [inOk_map e hd, any_eqv]; rfl
theorem dNotInV_e (e : α → D) [h : EqC e] [DecidableEq α] (hd : h.dep ≤ 64) (a : α) (xs : List α) : dNotIn (e a) (xV e xs) = some (.bool (!decide (a ∈ xs))) := dNotInL_e e hd a xs
/-- None, in a row of things that may be None -/
theorem isNone_eqv (d : D) : (PyData.eqv d .none) = isNone d := by cases d <;> rfl
theorem isNone_xO (e : α → D) [n : NnC e] (o : Option α) : isNone (xO e o) = o.isNone := by
  cases o with
  | none => rfl
  | some a => exact n.nn a
end L3
set_option Elab.async false
set_option linter.all false
set_option maxRecDepth 100000
set_option maxHeartbeats 1000000
namespace L3
open PySem PySem.W
variable {α β γ δ ε ζ σ τ : Type}
/-! ### what an expression gives -/
def Ev (f : E) (ρ : Rho) (d : D) (ρ' : Rho) : Prop := f ρ = some (.fz d, ρ')
def Vw (f : E) (ρ : Rho) (d : D) (ρ' : Rho) : Prop := ∃ o, f ρ = some (o, ρ') ∧ look ρ' o = some d
def Bv (f : B) (ρ : Rho) (b : Bool) (ρ' : Rho) : Prop := f ρ = some (b, ρ')
def Aw (a : As) (ρ : Rho) (ds : List D) (ρ' : Rho) : Prop := ∃ os, a ρ = some (os, ρ') ∧ looks ρ' os = some ds
def Av (a : As) (ρ : Rho) (ds : List D) (ρ' : Rho) : Prop := a ρ = some (ds.map .fz, ρ')
def Nv (f : N) (ρ : Rho) (ds : List D) (ρ' : Rho) : Prop := f ρ = some (ds, ρ')
def Iv (f : I) (ρ : Rho) (ds : List D) (ρ' : Rho) : Prop := f ρ = some (ds, ρ')
def Nx (s : S) (ρ ρ' : Rho) : Prop := s ρ = some (.nx, ρ')
theorem bx {m : Option α} {f : α → Option β} {r : β} (h : m.bind f = some r) : ∃ a, m = some a ∧ f a = some r := Option.bind_eq_some_iff.mp h
variable {f a b g : E} {ρ ρ1 ρ2 ρ3 : Rho} {x y z d : D} {i : Nat} {ds es : List D} {as bs : As}
theorem Ev.vw (h : Ev f ρ d ρ1) : Vw f ρ d ρ1 := ⟨_, h, rfl⟩
theorem Ev.to {d' : D} (h : Ev f ρ d ρ1) (e : d = d') : Ev f ρ d' ρ1 := e ▸ h
theorem Vw.to {d' : D} (h : Vw f ρ d ρ1) (e : d = d') : Vw f ρ d' ρ1 := e ▸ h
/-- what may be None, and is not -/
theorem Ev.opt {e : α → D} {o : Option α} {v : α} (h : Ev f ρ (xO e o) ρ1) (q : o = some v) : Ev f ρ (e v) ρ1 := by subst q; exact h
theorem vw_own (h : ρ[i]? = some (some (.own (.l ds)))) : Vw (eVar i) ρ (.list ds) ρ := by
  refine ⟨.sl i, ?_, ?_⟩
  · unfold eVar; rw [h]
  · show slD ρ[i]? = _; rw [h]; rfl
theorem ev_e2 {g : D → D → Option D} (ha : Vw a ρ x ρ1) (hb : Vw b ρ1 y ρ1) (hg : g x y = some z) : Ev (e2 g a b) ρ z ρ1 := by
  obtain ⟨o, h1, h2⟩ := ha
  obtain ⟨p, h3, h4⟩ := hb
  exact e2_of h1 h3 h2 h4 hg
theorem ev_e2i {g : D → D → Option D} (ha : Ev a ρ x ρ1) (hb : Vw b ρ1 y ρ2) (hg : g x y = some z) : Ev (e2 g a b) ρ z ρ2 := by
  obtain ⟨p, h3, h4⟩ := hb
  exact e2_of ha h3 rfl h4 hg
theorem ev_e1 {g : D → Option D} (ha : Vw a ρ x ρ1) (hg : g x = some z) : Ev (e1 g a) ρ z ρ1 := by
  obtain ⟨o, h1, h2⟩ := ha
  unfold Ev e1; rw [h1]; show (look ρ1 o).bind _ = _; rw [h2]; show (g x).bind _ = _; rw [hg]; rfl
theorem ev_chain {g g' : D → D → Option D} {c : E} {w : D} {p q : Bool} (ha : Ev a ρ x ρ) (hb : Ev b ρ y ρ) (hc : Ev c ρ w ρ) (h1 : g x y = some (.bool p)) (h2 : g' y w = some (.bool q)) : Ev (eChain g g' a b c) ρ (.bool (p && q)) ρ := by
  unfold Ev eChain; rw [ha]; show (b ρ).bind _ = _; rw [hb]; show (g x y).bind _ = _; rw [h1]
  cases p with
  | false => rfl
  | true => show (c ρ).bind _ = _; rw [hc]; show (g' y w).bind _ = _; rw [h2]; rfl
theorem ev_chainV {g g' : D → D → Option D} {c : E} {w : D} {p q : Bool} (ha : Vw a ρ x ρ) (hb : Vw b ρ y ρ) (hc : Vw c ρ w ρ) (h1 : g x y = some (.bool p)) (h2 : g' y w = some (.bool q)) : Ev (eChain g g' a b c) ρ (.bool (p && q)) ρ := by
  obtain ⟨o1, a1, a2⟩ := ha
  obtain ⟨o2, b1, b2⟩ := hb
  obtain ⟨o3, c1, c2⟩ := hc
  unfold Ev eChain; rw [a1]; show (b ρ).bind _ = _; rw [b1]; show (look ρ o1).bind _ = _; rw [a2]; show (look ρ o2).bind _ = _; rw [b2]; show (g x y).bind _ = _; rw [h1]
  cases p with
  | false => rfl
  | true => show (c ρ).bind _ = _; rw [c1]; show (look ρ o2).bind _ = _; rw [b2]; show (look ρ o3).bind _ = _; rw [c2]; show (g' y w).bind _ = _; rw [h2]; rfl
theorem ev_not {p : Bool} (h : Ev a ρ (.bool p) ρ1) : Ev (eNot a) ρ (.bool (!p)) ρ1 := by unfold Ev eNot; rw [h]; rfl
theorem ev_and {p q : Bool} (h : Ev a ρ (.bool p) ρ) (h' : p = true → Ev b ρ (.bool q) ρ) : Ev (eAnd a b) ρ (.bool (p && q)) ρ := by
  unfold Ev eAnd; rw [h]
  cases p with
  | false => rfl
  | true => exact h' rfl
theorem ev_or {p q : Bool} (h : Ev a ρ (.bool p) ρ) (h' : p = false → Ev b ρ (.bool q) ρ) : Ev (eOr a b) ρ (.bool (p || q)) ρ := by
  unfold Ev eOr; rw [h]
  cases p with
  | false => exact h' rfl
  | true => rfl
/-- .. whose second part may fail -/
def andN (p : Bool) (m : Option Bool) : Option Bool := if p = true then m else some false
def orN (p : Bool) (m : Option Bool) : Option Bool := if p = true then some true else m
theorem ev_andN {p r : Bool} {m : Option Bool} (h : Ev a ρ (.bool p) ρ) (h' : ∀ q, m = some q → Ev b ρ (.bool q) ρ) (hm : andN p m = some r) : Ev (eAnd a b) ρ (.bool r) ρ := by
  unfold Ev eAnd; rw [h]
  cases p with
  | false => cases hm; rfl
  | true => exact h' r hm
theorem ev_orN {p r : Bool} {m : Option Bool} (h : Ev a ρ (.bool p) ρ) (h' : ∀ q, m = some q → Ev b ρ (.bool q) ρ) (hm : orN p m = some r) : Ev (eOr a b) ρ (.bool r) ρ := by
  unfold Ev eOr; rw [h]
  cases p with
  | false => exact h' r hm
  | true => cases hm; rfl
section
variable {t u : B} {p q r : Bool} {m : Option Bool}
theorem bv_e (h : Ev a ρ (.bool p) ρ1) : Bv (bE a) ρ p ρ1 := by unfold Bv bE; rw [h]; rfl
theorem bv_not (h : Bv t ρ p ρ1) : Bv (bNot t) ρ (!p) ρ1 := by unfold Bv bNot; rw [h]; rfl
theorem bv_and (h : Bv t ρ p ρ) (h' : p = true → Bv u ρ q ρ) : Bv (bAnd t u) ρ (p && q) ρ := by
  unfold Bv bAnd; rw [h]
  cases p with
  | false => rfl
  | true => exact h' rfl
theorem bv_or (h : Bv t ρ p ρ) (h' : p = false → Bv u ρ q ρ) : Bv (bOr t u) ρ (p || q) ρ := by
  unfold Bv bOr; rw [h]
  cases p with
  | false => exact h' rfl
  | true => rfl
theorem bv_andN (h : Bv t ρ p ρ) (h' : ∀ q, m = some q → Bv u ρ q ρ) (hm : andN p m = some r) : Bv (bAnd t u) ρ r ρ := by
  unfold Bv bAnd; rw [h]
  cases p with
  | false => cases hm; rfl
  | true => exact h' r hm
theorem bv_orN (h : Bv t ρ p ρ) (h' : ∀ q, m = some q → Bv u ρ q ρ) (hm : orN p m = some r) : Bv (bOr t u) ρ r ρ := by
  unfold Bv bOr; rw [h]
  cases p with
  | false => exact h' r hm
  | true => cases hm; rfl
/-- the state is changed within: R C -/
def andS {κ : Type} (p : Bool) (C : κ) (m : Option (Bool × κ)) : Option (Bool × κ) := if p = true then m else some (false, C)
def orS {κ : Type} (p : Bool) (C : κ) (m : Option (Bool × κ)) : Option (Bool × κ) := if p = true then some (true, C) else m
theorem bv_andS {κ : Type} {R : κ → Rho} {C : κ} {m : Option (Bool × κ)} {w : Bool × κ} (h : Bv t ρ p (R C)) (h' : ∀ w, m = some w → Bv u (R C) w.1 (R w.2)) (hm : andS p C m = some w) : Bv (bAnd t u) ρ w.1 (R w.2) := by
  unfold Bv bAnd; rw [h]
  cases p with
  | false => cases hm; rfl
  | true => exact h' w hm
theorem bv_orS {κ : Type} {R : κ → Rho} {C : κ} {m : Option (Bool × κ)} {w : Bool × κ} (h : Bv t ρ p (R C)) (h' : ∀ w, m = some w → Bv u (R C) w.1 (R w.2)) (hm : orS p C m = some w) : Bv (bOr t u) ρ w.1 (R w.2) := by
  unfold Bv bOr; rw [h]
  cases p with
  | false => exact h' w hm
  | true => cases hm; rfl
theorem ev_andS {κ : Type} {R : κ → Rho} {C : κ} {m : Option (Bool × κ)} {w : Bool × κ} (h : Ev a ρ (.bool p) (R C)) (h' : ∀ w, m = some w → Ev b (R C) (.bool w.1) (R w.2)) (hm : andS p C m = some w) : Ev (eAnd a b) ρ (.bool w.1) (R w.2) := by
  unfold Ev eAnd; rw [h]
  cases p with
  | false => cases hm; rfl
  | true => exact h' w hm
theorem ev_orS {κ : Type} {R : κ → Rho} {C : κ} {m : Option (Bool × κ)} {w : Bool × κ} (h : Ev a ρ (.bool p) (R C)) (h' : ∀ w, m = some w → Ev b (R C) (.bool w.1) (R w.2)) (hm : orS p C m = some w) : Ev (eOr a b) ρ (.bool w.1) (R w.2) := by
  unfold Ev eOr; rw [h]
  cases p with
  | false => exact h' w hm
  | true => cases hm; rfl
/-- a if t else b -/
theorem ev_if {e : α → D} {v w : α} (ht : Bv t ρ p ρ1) (h1 : p = true → Ev a ρ1 (e v) ρ1) (h2 : p = false → Ev b ρ1 (e w) ρ1) : Ev (eIf t a b) ρ (e (if p = true then v else w)) ρ1 := by
  unfold Ev eIf; rw [ht]
  cases p with
  | false => exact h2 rfl
  | true => exact h1 rfl
theorem ev_ifN {e : α → D} {m n : Option α} {v : α} (ht : Bv t ρ p ρ1) (h1 : ∀ v, m = some v → Ev a ρ1 (e v) ρ1) (h2 : ∀ v, n = some v → Ev b ρ1 (e v) ρ1) (hm : (if p = true then m else n) = some v) : Ev (eIf t a b) ρ (e v) ρ1 := by
  unfold Ev eIf; rw [ht]
  cases p with
  | false => exact h2 v hm
  | true => exact h1 v hm
theorem ev_ifS {κ : Type} {e : α → D} {R : κ → Rho} {m n : Option (α × κ)} {w : α × κ} (ht : Bv t ρ p ρ1) (h1 : ∀ w, m = some w → Ev a ρ1 (e w.1) (R w.2)) (h2 : ∀ w, n = some w → Ev b ρ1 (e w.1) (R w.2)) (hm : (if p = true then m else n) = some w) : Ev (eIf t a b) ρ (e w.1) (R w.2) := by
  unfold Ev eIf; rw [ht]
  cases p with
  | false => exact h2 w hm
  | true => exact h1 w hm
end
/-! ### arguments -/
theorem av_nil : Av aNil ρ [] ρ := rfl
theorem av_cons (h : Ev a ρ d ρ1) (h' : Av as ρ1 ds ρ2) : Av (aCons a as) ρ (d :: ds) ρ2 := by
  unfold Av aCons; rw [h]; show (as ρ1).bind _ = _; rw [h']; rfl
theorem aw_nil : Aw aNil ρ [] ρ := ⟨[], rfl, rfl⟩
theorem looks_cons {o : Opd} {os : List Opd} (h : look ρ o = some d) (h' : looks ρ os = some ds) : looks ρ (o :: os) = some (d :: ds) := by
  show (look ρ o).bind _ = _; rw [h]; show (looks ρ os).bind _ = _; rw [h']; rfl
theorem aw_cons (h : Vw a ρ d ρ) (h' : Aw as ρ ds ρ) : Aw (aCons a as) ρ (d :: ds) ρ := by
  obtain ⟨o, h1, h2⟩ := h
  obtain ⟨os, h3, h4⟩ := h'
  exact ⟨o :: os, cons_of h1 h3, looks_cons h2 h4⟩
theorem looks_fz : ∀ ds : List D, looks ρ (ds.map .fz) = some ds
  | [] => rfl
  | d :: ds => looks_cons rfl (looks_fz ds)
theorem Av.aw (h : Av as ρ ds ρ1) : Aw as ρ ds ρ1 := ⟨_, h, looks_fz ds⟩
theorem frozen_fz : ∀ ds : List D, frozen (ds.map .fz) = some ds
  | [] => rfl
  | d :: ds => by show (frozen (ds.map .fz)).bind _ = _; rw [frozen_fz ds]; rfl
theorem brw_fz : ∀ ds : List D, brw (ds.map .fz) = false
  | [] => rfl
  | d :: ds => brw_fz ds
theorem av_star (h : Vw a ρ x ρ1) (hi : itemsOf x = some es) (h' : Av as ρ1 ds ρ2) : Av (aStar a as) ρ (es ++ ds) ρ2 := by
  obtain ⟨o, h1, h2⟩ := h
  have := star_of h1 h2 hi h'
  unfold Av; rw [this, List.map_append]
/-! ### calls, displays -/
theorem ev_call {g : List D → Option D} (h : Aw as ρ ds ρ1) (hg : g ds = some z) : Ev (eCall g as) ρ z ρ1 := by
  obtain ⟨os, h1, h2⟩ := h
  exact call_of h1 h2 hg
theorem nv_call {g : List D → Option (List D)} (h : Aw as ρ ds ρ1) (hg : g ds = some es) : Nv (nCall g as) ρ es ρ1 := by
  obtain ⟨os, h1, h2⟩ := h
  unfold Nv nCall; rw [h1]; show (looks ρ1 os).bind _ = _; rw [h2]; show (g ds).bind _ = _; rw [hg]; rfl
theorem ev_callPz {f : Fp} (h : Av as ρ ds ρ1) (hf : f ds = some z) : Ev (eCallP f as) ρ z ρ1 := callP_of h (looks_fz ds) (brw_fz ds) hf
theorem ev_callP {f : Fp} (h : Aw as ρ ds ρ1) (hl : lfree z = true) (hf : f ds = some z) : Ev (eCallP f as) ρ z ρ1 := by
  obtain ⟨os, h1, h2⟩ := h
  unfold Ev eCallP callP; rw [h1]; show ((looks ρ1 os).bind _).bind _ = _; rw [h2]; show ((f ds).bind _).bind _ = _; rw [hf]
  show (if okB (brw os) (lfree z) = true then some (z, ρ1) else none).bind _ = _
  rw [hl, if_pos (by cases brw os <;> rfl)]; rfl
theorem nv_callPz {f : Fp} (h : Av as ρ ds ρ1) (hf : f ds = some (.list es)) : Nv (nCallP f as) ρ es ρ1 := by
  unfold Nv nCallP callP; rw [h]; show ((looks ρ1 (ds.map .fz)).bind _).bind _ = _; rw [looks_fz]; show ((f ds).bind _).bind _ = _; rw [hf]
  show (if okB (brw (ds.map .fz)) (lfreeO true (.list es)) = true then some (PyData.list es, ρ1) else none).bind _ = _
  rw [brw_fz]; rfl
theorem nv_callP {f : Fp} (h : Aw as ρ ds ρ1) (hl : lfrees es = true) (hf : f ds = some (.list es)) : Nv (nCallP f as) ρ es ρ1 := by
  obtain ⟨os, h1, h2⟩ := h
  unfold Nv nCallP callP; rw [h1]; show ((looks ρ1 os).bind _).bind _ = _; rw [h2]; show ((f ds).bind _).bind _ = _; rw [hf]
  show (if okB (brw os) (lfrees es) = true then some (PyData.list es, ρ1) else none).bind _ = _
  rw [hl, if_pos (by cases brw os <;> rfl)]; rfl
theorem any_fz (i : Nat) : ∀ ds : List D, (ds.map Opd.fz).any (fun q => match q with | .sl j => j == i | .fz _ => false) = false
  | [] => rfl
  | d :: ds => any_fz i ds
theorem ev_callI {f : Fi} {C C' : Cel} (h0 : celAt ρ i = some C) (h : Av as ρ ds ρ1) (h1 : celAt ρ1 i = some C) (hf : f C ds = some (z, C')) : Ev (eCallI f i as) ρ z (putAt ρ1 i C') := by
  unfold Ev eCallI callI; rw [h0]; show ((as ρ).bind _).bind _ = _; rw [h]; show ((looks ρ1 (ds.map .fz)).bind _).bind _ = _; rw [looks_fz]
  show ((celAt ρ1 i).bind _).bind _ = _; rw [h1]; show ((f C ds).bind _).bind _ = _; rw [hf]
  show (if okB (brw (ds.map .fz)) (lfreeO false z && celFree C') = true then (if (ds.map Opd.fz).any (fun q => match q with | .sl j => j == i | .fz _ => false) = true then none else some (z, putAt ρ1 i C')) else none).bind _ = _
  rw [brw_fz, any_fz]; rfl
theorem nv_callI {f : Fi} {C C' : Cel} (h0 : celAt ρ i = some C) (h : Av as ρ ds ρ1) (h1 : celAt ρ1 i = some C) (hf : f C ds = some (.list es, C')) : Nv (nCallI f i as) ρ es (putAt ρ1 i C') := by
  unfold Nv nCallI callI; rw [h0]; show ((as ρ).bind _).bind _ = _; rw [h]; show ((looks ρ1 (ds.map .fz)).bind _).bind _ = _; rw [looks_fz]
  show ((celAt ρ1 i).bind _).bind _ = _; rw [h1]; show ((f C ds).bind _).bind _ = _; rw [hf]
  show (if okB (brw (ds.map .fz)) (lfreeO true (.list es) && celFree C') = true then (if (ds.map Opd.fz).any (fun q => match q with | .sl j => j == i | .fz _ => false) = true then none else some (PyData.list es, putAt ρ1 i C')) else none).bind _ = _
  rw [brw_fz, any_fz]; rfl
theorem ev_callN {f : Fi} {n : N} {C : List D} {C' : Cel} (h0 : Nv n ρ C ρ1) (h : Av as ρ1 ds ρ2) (hf : f (.l C) ds = some (z, C')) : Ev (eCallN f n as) ρ z ρ2 := by
  unfold Ev eCallN; rw [h0]; show (as ρ1).bind _ = _; rw [h]; show (looks ρ2 (ds.map .fz)).bind _ = _; rw [looks_fz]; show (f (.l C) ds).bind _ = _; rw [hf]
  simp [brw_fz, okB]
theorem nv_lst (h : Av as ρ ds ρ1) (hl : ds.length ≤ sizeLine) : Nv (nLst as) ρ ds ρ1 := nLst_of h (frozen_fz ds) hl
theorem ev_tup (h : Av as ρ ds ρ1) (hl : ds.length ≤ sizeLine) : Ev (eTup as) ρ (.tuple ds) ρ1 := eTup_of h (frozen_fz ds) hl
theorem ev_N {n : N} (h : Nv n ρ ds ρ1) : Ev (eN n) ρ (.list ds) ρ1 := eN_of h
theorem ev_isa {T : String} {p : Bool} (h : Vw a ρ x ρ1) (hi : isaD T x = some p) : Ev (eIsa T a) ρ (.bool p) ρ1 := by
  obtain ⟨o, h1, h2⟩ := h
  unfold Ev eIsa; rw [h1]; show (look ρ1 o).bind _ = _; rw [h2]; show (isaD T x).bind _ = _; rw [hi]; rfl
theorem ev_sl {g : D → Option Int → Option Int → Option D} {lo hi : O} {l h : Option Int} (ha : Vw a ρ x ρ) (hl : lo ρ = some (l, ρ)) (hh : hi ρ = some (h, ρ)) (hg : g x l h = some z) : Ev (eSl g a lo hi) ρ z ρ := by
  obtain ⟨o, h1, h2⟩ := ha
  unfold Ev eSl; rw [h1]; show (lo ρ).bind _ = _; rw [hl]; show (hi ρ).bind _ = _; rw [hh]; show (look ρ o).bind _ = _; rw [h2]; show (g x l h).bind _ = _; rw [hg]; rfl
theorem os_of {k : Int} (h : Ev a ρ (.int k) ρ1) : oS a ρ = some (some k, ρ1) := by unfold oS; rw [h]; rfl
theorem nv_rev (h : Vw a ρ (.list ds) ρ1) : Nv (nRev a) ρ ds.reverse ρ1 := by
  obtain ⟨o, h1, h2⟩ := h
  unfold Nv nRev; rw [h1]; show (look ρ1 o).bind _ = _; rw [h2]; rfl
/-! ### iterables -/
theorem iv_seq (h : Ev a ρ x ρ1) (hi : itemsOf x = some ds) : Iv (iSeq a) ρ ds ρ1 := by unfold Iv iSeq; rw [h]; show (itemsOf x).bind _ = _; rw [hi]; rfl
theorem iv_own (h : ρ[i]? = some (some (.own (.l ds)))) : Iv (iSeq (eVar i)) ρ ds (ρ.set i (some (.val (.list ds)))) := by
  unfold Iv iSeq eVar; rw [h]; show (match ρ[i]? with | some (some (.own (.l ds))) => some (ds, ρ.set i (some (.val (.list ds)))) | _ => none) = _; rw [h]
def rangeI (lo : Int) (n : Nat) : List Int := (List.range n).map fun i => lo + (i : Nat)
theorem rangeI_D (lo : Int) (n : Nat) : rangeD lo n = (rangeI lo n).map xI := by unfold rangeD rangeI; rw [List.map_map]; rfl
def range1 (j : Int) : Option (List Int) := if j.toNat ≤ sizeLine ∧ -(2 ^ 62) ≤ j then some (rangeI 0 j.toNat) else none
def range2 (i j : Int) : Option (List Int) := if -(2 ^ 62) ≤ i ∧ i < 2 ^ 62 ∧ -(2 ^ 62) ≤ j ∧ j < 2 ^ 62 ∧ (j - i).toNat ≤ sizeLine then some (rangeI i (j - i).toNat) else none
theorem iv_range1 {j : Int} {xs : List Int} (h : Av as ρ [.int j] ρ1) (hr : range1 j = some xs) : Iv (iRange as) ρ (xs.map xI) ρ1 := by
  unfold range1 at hr
  split at hr
  · rename_i q
    cases hr
    unfold Iv iRange; rw [h]
    show (if j.toNat ≤ sizeLine ∧ -(2 ^ 62) ≤ j then some (rangeD 0 j.toNat, ρ1) else none) = _
    rw [if_pos q, rangeI_D]
  · cases hr
theorem iv_range2 {i j : Int} {xs : List Int} (h : Av as ρ [.int i, .int j] ρ1) (hr : range2 i j = some xs) : Iv (iRange as) ρ (xs.map xI) ρ1 := by
  unfold range2 at hr
  split at hr
  · rename_i q
    cases hr
    unfold Iv iRange; rw [h]
    show (if -(2 ^ 62) ≤ i ∧ i < 2 ^ 62 ∧ -(2 ^ 62) ≤ j ∧ j < 2 ^ 62 ∧ (j - i).toNat ≤ sizeLine then some (rangeD i (j - i).toNat, ρ1) else none) = _
    rw [if_pos q, rangeI_D]
  · cases hr
def lrange1 (n : Int) : Option (List Int) := if rgOk 0 n = true then some (rangeI 0 n.toNat) else none
def lrange2 (a b : Int) : Option (List Int) := if rgOk a b = true then some (rangeI a (b - a).toNat) else none
theorem nv_lrange1 {j : Int} {xs : List Int} (h : Ev a ρ (.int j) ρ1) (hr : lrange1 j = some xs) : Nv (nListRg1 a) ρ (xs.map xI) ρ1 := by
  unfold lrange1 at hr
  split at hr
  · rename_i q
    cases hr
    unfold Nv nListRg1; rw [h]
    show (if rgOk 0 j = true then some (rangeD 0 j.toNat, ρ1) else none) = _
    rw [if_pos q, rangeI_D]
  · cases hr
theorem nv_lrange2 {j k : Int} {xs : List Int} (h : Ev a ρ (.int j) ρ1) (h' : Ev b ρ1 (.int k) ρ2) (hr : lrange2 j k = some xs) : Nv (nListRg2 a b) ρ (xs.map xI) ρ2 := by
  unfold lrange2 at hr
  split at hr
  · rename_i q
    cases hr
    unfold Nv nListRg2; rw [h]; show (b ρ1).bind _ = _; rw [h']
    show (if rgOk j k = true then some (rangeD j (k - j).toNat, ρ2) else none) = _
    rw [if_pos q, rangeI_D]
  · cases hr
def enumI : Nat → List α → List (Int × α)
  | _, [] => []
  | i, x :: xs => ((i : Nat), x) :: enumI (i + 1) xs
theorem enum_map (e : α → D) : ∀ (i : Nat) (xs : List α), enumD i (xs.map e) = (enumI i xs).map (x2 xI e)
  | _, [] => rfl
  | i, x :: xs => by show _ :: enumD (i + 1) (xs.map e) = _; rw [enum_map e (i + 1) xs]; rfl
theorem zip_map (e : α → D) (e' : β → D) : ∀ (xs : List α) (ys : List β), zipD (xs.map e) (ys.map e') = (xs.zip ys).map (x2 e e')
  | [], _ => by simp [zipD]
  | x :: xs, [] => by simp [zipD]
  | x :: xs, y :: ys => by show _ :: zipD (xs.map e) (ys.map e') = _; rw [zip_map e e' xs ys]; rfl
theorem iv_enum {e : α → D} {xs : List α} (h : Av as ρ [x] ρ1) (hi : itemsOf x = some (xs.map e)) : Iv (iEnum as) ρ ((enumI 0 xs).map (x2 xI e)) ρ1 := by
  unfold Iv iEnum; rw [h]
  show (itemsOf x).bind (fun ds => some (enumD 0 ds, ρ1)) = _
  rw [hi]
  show some (enumD 0 (xs.map e), ρ1) = _
  rw [enum_map]
theorem iv_zip {e : α → D} {e' : β → D} {xs : List α} {ys : List β} (h : Av as ρ [x, y] ρ1) (hi : itemsOf x = some (xs.map e)) (hi' : itemsOf y = some (ys.map e')) : Iv (iZip as) ρ ((xs.zip ys).map (x2 e e')) ρ1 := by
  unfold Iv iZip; rw [h]; show (itemsOf x).bind _ = _; rw [hi]; show (itemsOf y).bind _ = _; rw [hi']
  show some (zipD (xs.map e) (ys.map e'), ρ1) = _
  rw [zip_map]
/-! ### comprehensions -/
def compN (p : α → Option Bool) (k : α → Option β) : List α → Option (List β)
  | [] => some []
  | x :: xs => (p x).bind fun b => if b = true then (k x).bind fun y => (compN p k xs).bind fun ys => some (y :: ys) else compN p k xs
/-- .. that change the state C -/
def compS {κ : Type} (k : α → κ → Option (β × κ)) : List α → κ → Option (List β × κ)
  | [], C => some ([], C)
  | x :: xs, C => (k x C).bind fun r => (compS k xs r.2).bind fun q => some (r.1 :: q.1, q.2)
def compT {κ : Type} (p : α → κ → Option (Bool × κ)) (k : α → κ → Option (β × κ)) : List α → κ → Option (List β × κ)
  | [], C => some ([], C)
  | x :: xs, C => (p x C).bind fun b => if b.1 = true then (k x b.2).bind fun r => (compT p k xs r.2).bind fun q => some (r.1 :: q.1, q.2) else compT p k xs b.2
section
variable {it : I} {t : T} {p : B} {vs : List Nat} {e : α → D} {e' : β → D} {xs : List α} {ys : List β}
theorem nv_compM {ρb : α → Rho} {P : α → Option Bool} {k : α → Option β} (hi : Iv it ρ (xs.map e) ρ1) (hn : nocell ρ1 vs = true) (ht : ∀ x, t (e x) (wipeR ρ1 vs) = some (ρb x)) (hp : ∀ x b, P x = some b → Bv p (ρb x) b (ρb x))
    (he : ∀ x y, k x = some y → Ev f (ρb x) (e' y) (ρb x)) (hb : ∀ x, backR ρ1 (ρb x) vs = ρ1) (h : compN P k xs = some ys) : Nv (nComp it t p f vs) ρ (ys.map e') ρ1 := by
  refine comp_of hi hn ?_
  clear hi
  induction xs generalizing ys with
  | nil => cases h; rfl
  | cons x xs ih =>
    unfold compN at h
    obtain ⟨b, h1, h⟩ := bx h
    rw [List.map_cons]
    unfold compD
    rw [ht x]; show (p (ρb x)).bind _ = _; rw [hp x b h1]
    cases b with
    | false =>
      rw [if_neg (by simp)] at h
      show compD t p f vs (xs.map e) (backR ρ1 (ρb x) vs) = _
      rw [hb, ih h]
    | true =>
      rw [if_pos rfl] at h
      obtain ⟨y, h2, h⟩ := bx h
      obtain ⟨zs, h3, h⟩ := bx h
      cases h
      show (f (ρb x)).bind _ = _
      rw [he x y h2]
      show (compD t p f vs (xs.map e) (backR ρ1 (ρb x) vs)).bind _ = _
      rw [hb, ih h3]; rfl
theorem compN_all (P : α → Bool) (k : α → β) : ∀ xs : List α, compN (fun x => some (P x)) (fun x => some (k x)) xs = some ((xs.filter P).map k)
  | [] => rfl
  | x :: xs => by
    show (if P x = true then _ else _) = _
    rw [List.filter_cons]
    by_cases q : P x = true
    · rw [if_pos q, if_pos q]; show (compN _ _ xs).bind _ = _; rw [compN_all P k xs]; rfl
    · rw [if_neg q, if_neg q, compN_all P k xs]
theorem nv_compP {ρb : α → Rho} {P : α → Bool} {k : α → β} (hi : Iv it ρ (xs.map e) ρ1) (hn : nocell ρ1 vs = true) (ht : ∀ x, t (e x) (wipeR ρ1 vs) = some (ρb x)) (hp : ∀ x, Bv p (ρb x) (P x) (ρb x))
    (he : ∀ x, Ev f (ρb x) (e' (k x)) (ρb x)) (hb : ∀ x, backR ρ1 (ρb x) vs = ρ1) : Nv (nComp it t p f vs) ρ (((xs.filter P).map k).map e') ρ1 :=
  nv_compM (P := fun x => some (P x)) (k := fun x => some (k x)) hi hn ht (fun x b h => by cases h; exact hp x) (fun x y h => by cases h; exact he x) hb (compN_all P k xs)
theorem nv_compA {ρb : α → Rho} {k : α → β} (hi : Iv it ρ (xs.map e) ρ1) (hn : nocell ρ1 vs = true) (ht : ∀ x, t (e x) (wipeR ρ1 vs) = some (ρb x))
    (he : ∀ x, Ev f (ρb x) (e' (k x)) (ρb x)) (hb : ∀ x, backR ρ1 (ρb x) vs = ρ1) : Nv (nComp it t bYes f vs) ρ ((xs.map k).map e') ρ1 := by
  have := nv_compP (p := bYes) (P := fun _ => true) (k := k) hi hn ht (fun _ => rfl) he hb
  rw [List.filter_eq_self.mpr fun _ _ => rfl] at this
  exact this
theorem nv_compS {κ : Type} {R : κ → Rho} {ρb : α → κ → Rho} {k : α → κ → Option (β × κ)} {C C' : κ} (hi : Iv it ρ (xs.map e) (R C)) (hn : ∀ C, nocell (R C) vs = true) (ht : ∀ x C, t (e x) (wipeR (R C) vs) = some (ρb x C))
    (he : ∀ x C w, k x C = some w → Ev f (ρb x C) (e' w.1) (ρb x w.2)) (hb : ∀ x C C', backR (R C) (ρb x C') vs = R C') (h : compS k xs C = some (ys, C')) : Nv (nComp it t bYes f vs) ρ (ys.map e') (R C') := by
  refine comp_of hi (hn C) ?_
  clear hi
  induction xs generalizing ys C with
  | nil => cases h; rfl
  | cons x xs ih =>
    unfold compS at h
    obtain ⟨r, h1, h⟩ := bx h
    obtain ⟨q, h2, h⟩ := bx h
    cases h
    rw [List.map_cons]
    unfold compD
    rw [ht x]
    show (f (ρb x C)).bind _ = _
    rw [he x C r h1]
    show (compD t bYes f vs (xs.map e) (backR (R C) (ρb x r.2) vs)).bind _ = _
    rw [hb, ih h2]; rfl
theorem nv_compT {κ : Type} {R : κ → Rho} {ρb : α → κ → Rho} {P : α → κ → Option (Bool × κ)} {k : α → κ → Option (β × κ)} {C C' : κ} (hi : Iv it ρ (xs.map e) (R C)) (hn : ∀ C, nocell (R C) vs = true) (ht : ∀ x C, t (e x) (wipeR (R C) vs) = some (ρb x C))
    (hp : ∀ x C w, P x C = some w → Bv p (ρb x C) w.1 (ρb x w.2)) (he : ∀ x C w, k x C = some w → Ev f (ρb x C) (e' w.1) (ρb x w.2)) (hb : ∀ x C C', backR (R C) (ρb x C') vs = R C') (h : compT P k xs C = some (ys, C')) : Nv (nComp it t p f vs) ρ (ys.map e') (R C') := by
  refine comp_of hi (hn C) ?_
  clear hi
  induction xs generalizing ys C with
  | nil => cases h; rfl
  | cons x xs ih =>
    unfold compT at h
    obtain ⟨b, h0, h⟩ := bx h
    rw [List.map_cons]
    unfold compD
    rw [ht x]; show (p (ρb x C)).bind _ = _; rw [hp x C b h0]
    obtain ⟨b, C1⟩ := b
    cases b with
    | false =>
      rw [if_neg (by simp)] at h
      show compD t p f vs (xs.map e) (backR (R C) (ρb x C1) vs) = _
      rw [hb, ih h]
    | true =>
      rw [if_pos rfl] at h
      obtain ⟨r, h1, h⟩ := bx h
      obtain ⟨q, h2, h⟩ := bx h
      cases h
      show (f (ρb x C1)).bind _ = _
      rw [he x C1 r h1]
      show (compD t p f vs (xs.map e) (backR (R C) (ρb x r.2) vs)).bind _ = _
      rw [hb, ih h2]; rfl
end
/-! ### statements -/
inductive Rs where
  | nx (ρ : Rho)
  | bk (ρ : Rho)
  | rt (d : D) (c : Option Cel)
  | ro (ds : List D) (c : Option Cel)
inductive Md where
  | stop
  | body
  | top
def Ends0 (c : Option Cel) (ρ : Rho) : Prop := match c with
  | none => True
  | some C => slot ρ 0 = some (.io C)
def Go (m : Md) (s : S) (ρ : Rho) : Rs → Prop
  | .nx ρ' => s ρ = some (.ct, ρ') ∨ (m = .body ∧ s ρ = some (.nx, ρ'))
  | .bk ρ' => s ρ = some (.bk, ρ')
  | .rt d c => ∃ ρ', (s ρ = some (.rt d, ρ') ∨ (m = .top ∧ d = .none ∧ s ρ = some (.nx, ρ'))) ∧ Ends0 c ρ'
  | .ro ds c => ∃ ρ', s ρ = some (.ro ds, ρ') ∧ Ends0 c ρ'
section
variable {m : Md} {s s' u : S} {R : Rs} {c : Option Cel} {t : B}
theorem nx_seq (h : Nx s ρ ρ1) (h' : Nx u ρ1 ρ2) : Nx (sSeq s u) ρ ρ2 := seq_nx h h'
theorem nx_ift (h : Bv t ρ true ρ1) (h' : Nx s ρ1 ρ2) : Nx (sIf t s u) ρ ρ2 := if_t h h'
theorem nx_iff (h : Bv t ρ false ρ1) (h' : Nx u ρ1 ρ2) : Nx (sIf t s u) ρ ρ2 := if_f h h'
theorem nx_nil : Nx sNil ρ ρ := rfl
theorem go_seq (h : Nx s ρ ρ1) (h' : Go m u ρ1 R) : Go m (sSeq s u) ρ R := by
  have e : sSeq s u ρ = u ρ1 := seq_nx h rfl
  cases R with
  | nx ρ' => exact h'.imp (e.trans ·) fun ⟨a, b⟩ => ⟨a, e.trans b⟩
  | bk ρ' => exact e.trans h'
  | rt d c => obtain ⟨ρ', h1, h2⟩ := h'; exact ⟨ρ', h1.imp (e.trans ·) fun ⟨a, b, c⟩ => ⟨a, b, e.trans c⟩, h2⟩
  | ro ds c => obtain ⟨ρ', h1, h2⟩ := h'; exact ⟨ρ', e.trans h1, h2⟩
theorem go_stop (h : Go .stop s ρ R) : Go m (sSeq s u) ρ R := by
  cases R with
  | nx ρ' =>
    rcases h with h | ⟨h, _⟩
    · exact .inl (seq_ct h)
    · cases h
  | bk ρ' => exact seq_bk h
  | rt d c =>
    obtain ⟨ρ', h1, h2⟩ := h
    rcases h1 with h1 | ⟨h1, _⟩
    · exact ⟨ρ', .inl (seq_rt h1), h2⟩
    · cases h1
  | ro ds c => obtain ⟨ρ', h1, h2⟩ := h; exact ⟨ρ', seq_ro h1, h2⟩
theorem Go.eq (h : Go m s' ρ1 R) (e : s ρ = s' ρ1) : Go m s ρ R := by
  cases R with
  | nx ρ' => exact h.imp (e.trans ·) fun ⟨a, b⟩ => ⟨a, e.trans b⟩
  | bk ρ' => exact e.trans h
  | rt d c => obtain ⟨ρ', h1, h2⟩ := h; exact ⟨ρ', h1.imp (e.trans ·) fun ⟨a, b, c⟩ => ⟨a, b, e.trans c⟩, h2⟩
  | ro ds c => obtain ⟨ρ', h1, h2⟩ := h; exact ⟨ρ', e.trans h1, h2⟩
theorem go_ift (h : Bv t ρ true ρ1) (h' : Go m s ρ1 R) : Go m (sIf t s u) ρ R := h'.eq (if_t h rfl)
theorem go_iff (h : Bv t ρ false ρ1) (h' : Go m u ρ1 R) : Go m (sIf t s u) ρ R := h'.eq (if_f h rfl)
/-- on with what follows, in each branch -/
theorem go_seq_ift {w : S} (h : Bv t ρ true ρ1) (h' : Go m (sSeq s w) ρ1 R) : Go m (sSeq (sIf t s u) w) ρ R :=
  h'.eq (by unfold sSeq; rw [show sIf t s u ρ = s ρ1 from if_t h rfl])
theorem go_seq_iff {w : S} (h : Bv t ρ false ρ1) (h' : Go m (sSeq u w) ρ1 R) : Go m (sSeq (sIf t s u) w) ρ R :=
  h'.eq (by unfold sSeq; rw [show sIf t s u ρ = u ρ1 from if_f h rfl])
theorem go_nil {w : S} (h' : Go m w ρ R) : Go m (sSeq sNil w) ρ R := h'.eq rfl
theorem go_assoc {w : S} (h' : Go m (sSeq s (sSeq u w)) ρ R) : Go m (sSeq (sSeq s u) w) ρ R :=
  h'.eq (by
    unfold sSeq
    cases s ρ with
    | none => rfl
    | some p => obtain ⟨fl, ρ'⟩ := p; cases fl <;> rfl)
theorem go_body (h : Nx s ρ ρ1) : Go .body s ρ (.nx ρ1) := .inr ⟨rfl, h⟩
theorem go_cont : Go m sCont ρ (.nx ρ) := .inl rfl
theorem go_brk : Go m sBreak ρ (.bk ρ) := rfl
theorem go_ret (h : Ev a ρ d ρ1) (hc : Ends0 c ρ1) : Go m (sRet a) ρ (.rt d c) := ⟨ρ1, .inl (ret_E h), hc⟩
/-- a list of this def's own, handed back frozen -/
theorem go_retO (h : ρ[i]? = some (some (.own (.l ds)))) (hc : Ends0 c (ρ.set i none)) : Go m (sRet (eVar i)) ρ (.rt (.list ds) c) := by
  refine ⟨ρ.set i none, .inl ?_, hc⟩
  unfold sRet eVar; rw [h]
  show (match ρ[i]? with | some (some (.own (.l ds))) => some (Fl.rt (.list ds), ρ.set i none) | _ => none) = _
  rw [h]
theorem go_ret0 (hc : Ends0 c ρ) : Go m sRet0 ρ (.rt .none c) := ⟨ρ, .inl rfl, hc⟩
theorem go_retN {n : N} (h : Nv n ρ ds ρ1) (hc : Ends0 c ρ1) : Go m (sRetN n) ρ (.ro ds c) := ⟨ρ1, by unfold sRetN; rw [h]; rfl, hc⟩
theorem nv_move (h : ρ[i]? = some (some (.own (.l ds)))) : Nv (nMove i) ρ ds (ρ.set i none) := by unfold Nv nMove; rw [h]
/-- the end of a def is met -/
theorem go_fall (h : Nx s ρ ρ1) (hc : Ends0 c ρ1) : Go .top s ρ (.rt .none c) := ⟨ρ1, .inr ⟨rfl, rfl, h⟩, hc⟩
theorem nx_set (h : Ev a ρ d ρ1) (hi : isIo ρ1 i = false) : Nx (sSet i (lE a)) ρ (ρ1.set i (some (.val d))) := set_E h hi
theorem nx_setN {n : N} (h : Nv n ρ ds ρ1) (hi : isIo ρ1 i = false) : Nx (sSet i (lN n)) ρ (ρ1.set i (some (.own (.l ds)))) := set_N h hi
theorem nx_app {ds0 : List D} (h0 : celAt ρ i = some (.l ds0)) (h : Ev a ρ d ρ1) (h1 : celAt ρ1 i = some (.l ds)) (hl : ds.length < sizeLine) : Nx (sApp i a) ρ (putAt ρ1 i (.l (ds ++ [d]))) := app_of h0 h h1 hl
theorem nx_ext {ds0 : List D} (h0 : celAt ρ i = some (.l ds0)) (h : Vw a ρ x ρ1) (hi : itemsOf x = some es) (h1 : celAt ρ1 i = some (.l ds)) (hl : ds.length + es.length ≤ sizeLine) : Nx (sExt i a) ρ (putAt ρ1 i (.l (ds ++ es))) := by
  obtain ⟨o, h2, h3⟩ := h
  unfold Nx sExt; rw [h0, h2]
  show (match (look ρ1 o).bind itemsOf, celAt ρ1 i with | some es, some (.l ds) => if ds.length + es.length ≤ sizeLine then some (Fl.nx, putAt ρ1 i (.l (ds ++ es))) else none | _, _ => none) = _
  rw [h3, h1]
  show (match itemsOf x, some (Cel.l ds) with | some es, some (.l ds) => if ds.length + es.length ≤ sizeLine then some (Fl.nx, putAt ρ1 i (.l (ds ++ es))) else none | _, _ => none) = _
  rw [hi]; exact if_pos hl
theorem ev_pop (h0 : celAt ρ i = some (.l ds)) (h : ds[ds.length - 1]? = some d) : Ev (ePop i) ρ d (putAt ρ i (.l ds.dropLast)) := by
  unfold Ev ePop; rw [h0]; show (match ds[ds.length - 1]? with | some d => some (Opd.fz d, putAt ρ i (.l ds.dropLast)) | none => none) = _; rw [h]
theorem nx_drop (h : Vw a ρ d ρ1) : Nx (sDrop a) ρ ρ1 := by
  obtain ⟨o, h1, _⟩ := h
  unfold Nx sDrop; rw [h1]; rfl
theorem nx_put {ds0 : List D} {k : Int} {j : Nat} (h : Ev a ρ d ρ1) (h0 : celAt ρ1 i = some (.l ds0)) (hk : Ev b ρ1 (.int k) ρ2) (h1 : celAt ρ2 i = some (.l ds)) (hj : L2.ixN ds.length k = some j) : Nx (sPut i a b) ρ (putAt ρ2 i (.l (ds.set j d))) := by
  unfold Nx sPut; rw [h]; dsimp only [Option.bind_some]; rw [h0]; dsimp only [Option.bind_some]; rw [hk]; dsimp only [Option.bind_some]; rw [h1]; dsimp only; rw [hj]; rfl
theorem nx_asg {g : T} (h : Ev a ρ d ρ1) (ht : g d ρ1 = some ρ2) : Nx (sAsg a g) ρ ρ2 := by unfold Nx sAsg; rw [h]; show (g d ρ1).bind _ = _; rw [ht]; rfl
theorem nx_par {is : List Nat} {fs : Ls} {ls : List L3.Loc} (h : fs ρ = some (ls, ρ1)) (hi : is.any (isIo ρ1) = false) : Nx (sPar is fs) ρ (setAll ρ1 is ls) := by
  unfold Nx sPar; rw [h]; show (if is.any (isIo ρ1) = true then none else _) = _; rw [hi]; rfl
theorem ls_nil : lsNil ρ = some ([], ρ) := rfl
theorem ls_E {fs : Ls} {ls : List L3.Loc} (h : Ev a ρ d ρ1) (h' : fs ρ1 = some (ls, ρ2)) : lsCons (lE a) fs ρ = some (.val d :: ls, ρ2) := by
  unfold lsCons; rw [lE_of h]; show (fs ρ1).bind _ = _; rw [h']; rfl
theorem ls_N {fs : Ls} {n : N} {ls : List L3.Loc} (h : Nv n ρ ds ρ1) (h' : fs ρ1 = some (ls, ρ2)) : lsCons (lN n) fs ρ = some (.own (.l ds) :: ls, ρ2) := by
  unfold lsCons; rw [lN_of h]; show (fs ρ1).bind _ = _; rw [h']; rfl
end
/-! ### loops -/
inductive Ctl (σ β : Type) where
  | nx (s : σ)
  | bk (s : σ)
  | rt (r : β)
/-- for, nothing handed back within -/
def forN (k : α → σ → Option σ) : List α → σ → Option σ
  | [], s => some s
  | x :: xs, s => (k x s).bind fun s' => forN k xs s'
/-- for; a break ends it as if no item were left -/
def forR (k : α → σ → Option (Ctl σ β)) : List α → σ → Option (Ctl σ β)
  | [], s => some (.nx s)
  | x :: xs, s => (k x s).bind fun c => match c with
    | .nx s' => forR k xs s'
    | .bk s' => some (.nx s')
    | .rt r => some (.rt r)
def whN (k : σ → Option (Ctl σ β)) : Nat → σ → Option (Ctl σ β)
  | 0, _ => none
  | n + 1, s => (k s).bind fun c => match c with
    | .nx s' => whN k n s'
    | .bk s' => some (.nx s')
    | .rt r => some (.rt r)
/-- while: the test failing is a break -/
noncomputable def whR (k : σ → Option (Ctl σ β)) (s : σ) : Option (Ctl σ β) := open Classical in if h : ∃ n r, whN k n s = some r then some h.choose_spec.choose else none
theorem whN_mono {k : σ → Option (Ctl σ β)} : ∀ {n : Nat} {s : σ} {r : Ctl σ β}, whN k n s = some r → ∀ m, n ≤ m → whN k m s = some r
  | 0, _, _, h, _, _ => by cases h
  | n + 1, s, r, h, 0, hm => absurd hm (by omega)
  | n + 1, s, r, h, m + 1, hm => by
    unfold whN at h ⊢
    obtain ⟨c, h1, h⟩ := bx h
    rw [h1]
    cases c with
    | nx s' => exact whN_mono h m (by omega)
    | bk s' => exact h
    | rt r => exact h
theorem whR_of {k : σ → Option (Ctl σ β)} {n : Nat} {s : σ} {r : Ctl σ β} (h : whN k n s = some r) : whR k s = some r := by
  have ex : ∃ n r, whN k n s = some r := ⟨n, r, h⟩
  unfold whR
  rw [dif_pos ex]
  have h2 := ex.choose_spec.choose_spec
  have a := whN_mono h (max n ex.choose) (Nat.le_max_left ..)
  have b := whN_mono h2 (max n ex.choose) (Nat.le_max_right ..)
  rw [a] at b
  exact b.symm
theorem whR_some {k : σ → Option (Ctl σ β)} {s : σ} {r : Ctl σ β} (h : whR k s = some r) : ∃ n, whN k n s = some r := by
  unfold whR at h
  split at h
  · rename_i ex
    cases h
    exact ⟨_, ex.choose_spec.choose_spec⟩
  · cases h
theorem whR_step {k : σ → Option (Ctl σ β)} {s : σ} : whR k s = (k s).bind fun c => match c with
    | .nx s' => whR k s'
    | .bk s' => some (.nx s')
    | .rt r => some (.rt r) := by
  cases e : whR k s with
  | some r =>
    obtain ⟨n, hn⟩ := whR_some e
    cases n with
    | zero => cases hn
    | succ n =>
      unfold whN at hn
      obtain ⟨c, h1, hn⟩ := bx hn
      rw [h1]
      cases c with
      | nx s' => exact (whR_of hn).symm
      | bk s' => exact hn.symm
      | rt r => exact hn.symm
  | none =>
    cases h1 : k s with
    | none => rfl
    | some c =>
      have no : ∀ r, whN k 1 s = some r → False := fun r h => by rw [whR_of h] at e; cases e
      cases c with
      | nx s' =>
        show none = whR k s'
        cases h2 : whR k s' with
        | none => rfl
        | some r =>
          obtain ⟨n, hn⟩ := whR_some h2
          have : whN k (n + 1) s = some r := by unfold whN; rw [h1]; exact hn
          rw [whR_of this] at e; cases e
      | bk s' => exact (no (.nx s') (by unfold whN; rw [h1]; rfl)).elim
      | rt r => exact (no (.rt r) (by unfold whN; rw [h1]; rfl)).elim
section
variable {t : T} {b : S} {e : α → D} {rep : σ → Rho} {m : Md}
/-- what a turn of a loop does, as a step of the state -/
def Turn (rep : σ → Rho) (er : β → D) (ec : β → Option Cel) : Ctl σ β → Rs
  | .nx s => .nx (rep s)
  | .bk s => .bk (rep s)
  | .rt r => .rt (er r) (ec r)
theorem nx_forN {k : α → σ → Option σ} (hk : ∀ x s s', k x s = some s' → ∃ ρ1, t (e x) (rep s) = some ρ1 ∧ Go .body b ρ1 (.nx (rep s'))) : ∀ {xs : List α} {s s' : σ}, forN k xs s = some s' → forD t b (xs.map e) (rep s) = some (.nx, rep s')
  | [], s, s', h => by cases h; rfl
  | x :: xs, s, s', h => by
    unfold forN at h
    obtain ⟨s1, h1, h⟩ := bx h
    obtain ⟨ρ1, h2, h3⟩ := hk x s s1 h1
    have ih := nx_forN hk h
    rw [List.map_cons]
    unfold forD
    rw [h2]
    show (b ρ1).bind _ = _
    rcases h3 with h3 | ⟨_, h3⟩
    · rw [h3]; exact ih
    · rw [h3]; exact ih
theorem go_forR {er : β → D} {ec : β → Option Cel} {k : α → σ → Option (Ctl σ β)} (hk : ∀ x s c, k x s = some c → ∃ ρ1, t (e x) (rep s) = some ρ1 ∧ Go .body b ρ1 (Turn rep er ec c)) : ∀ {xs : List α} {s : σ} {c : Ctl σ β}, forR k xs s = some c → match c with
    | .nx s' => forD t b (xs.map e) (rep s) = some (.nx, rep s')
    | .bk _ => False
    | .rt r => ∃ ρ', forD t b (xs.map e) (rep s) = some (.rt (er r), ρ') ∧ Ends0 (ec r) ρ'
  | [], s, c, h => by cases h; rfl
  | x :: xs, s, c, h => by
    unfold forR at h
    obtain ⟨c1, h1, h⟩ := bx h
    obtain ⟨ρ1, h2, h3⟩ := hk x s c1 h1
    rw [List.map_cons]
    unfold forD
    rw [h2]
    cases c1 with
    | nx s1 =>
      have ih := go_forR hk h
      have e1 : ((some ρ1).bind fun ρ1 => (b ρ1).bind fun p => match p.1 with
        | .nx => forD t b (xs.map e) p.2
        | .ct => forD t b (xs.map e) p.2
        | .bk => some (.nx, p.2)
        | .rt r => some (.rt r, p.2)
        | .ro r => some (.ro r, p.2)) = forD t b (xs.map e) (rep s1) := by
        show (b ρ1).bind _ = _
        rcases h3 with h3 | ⟨_, h3⟩ <;> (rw [h3]; rfl)
      cases c with
      | nx s' => exact e1.trans ih
      | bk s' => exact ih
      | rt r => obtain ⟨ρ', i1, i2⟩ := ih; exact ⟨ρ', e1.trans i1, i2⟩
    | bk s1 =>
      cases h
      have h3 : b ρ1 = some (.bk, rep s1) := h3
      show (b ρ1).bind _ = _
      rw [h3]; rfl
    | rt r =>
      cases h
      obtain ⟨ρ', h3, h4⟩ := h3
      rcases h3 with h3 | ⟨h3, _⟩
      · refine ⟨ρ', ?_, h4⟩
        show (b ρ1).bind _ = _
        rw [h3]; rfl
      · cases h3
end
section
variable {it : I} {t : T} {b : S} {e : α → D} {rep : σ → Rho} {m : Md} {xs : List α} {s s' : σ}
theorem nx_for {k : α → σ → Option σ} (hi : Iv it ρ (xs.map e) (rep s)) (hk : ∀ x s s', k x s = some s' → ∃ ρ1, t (e x) (rep s) = some ρ1 ∧ Go .body b ρ1 (.nx (rep s'))) (h : forN k xs s = some s') : Nx (sFor it t b) ρ (rep s') :=
  sFor_of hi (nx_forN hk h)
theorem nx_forR {er : β → D} {ec : β → Option Cel} {k : α → σ → Option (Ctl σ β)} (hi : Iv it ρ (xs.map e) (rep s)) (hk : ∀ x s c, k x s = some c → ∃ ρ1, t (e x) (rep s) = some ρ1 ∧ Go .body b ρ1 (Turn rep er ec c)) (h : forR k xs s = some (.nx s')) : Nx (sFor it t b) ρ (rep s') :=
  sFor_of hi (go_forR hk h)
theorem rt_forR {er : β → D} {ec : β → Option Cel} {k : α → σ → Option (Ctl σ β)} {r : β} (hi : Iv it ρ (xs.map e) (rep s)) (hk : ∀ x s c, k x s = some c → ∃ ρ1, t (e x) (rep s) = some ρ1 ∧ Go .body b ρ1 (Turn rep er ec c)) (h : forR k xs s = some (.rt r)) : Go m (sFor it t b) ρ (.rt (er r) (ec r)) := by
  obtain ⟨ρ', h1, h2⟩ := go_forR hk h
  exact ⟨ρ', .inl (sFor_of hi h1), h2⟩
theorem no_forR {k : α → σ → Option (Ctl σ β)} (h : forR k xs s = some (.bk s')) : False := by
  induction xs generalizing s with
  | nil => cases h
  | cons x xs ih =>
    unfold forR at h
    obtain ⟨c1, h1, h⟩ := bx h
    cases c1 with
    | nx s1 => exact ih h
    | bk s1 => cases h
    | rt r => cases h
end
section
variable {t : B} {b : S} {rep : σ → Rho} {m : Md} {s s' : σ}
/-- what one turn of a while does: the test, then the body -/
def Lap (t : B) (b : S) (rep : σ → Rho) (er : β → D) (ec : β → Option Cel) (s : σ) (c : Ctl σ β) : Prop := match c with
  | .nx s' => ∃ ρ1, Bv t (rep s) true ρ1 ∧ Go .body b ρ1 (.nx (rep s'))
  | .bk s' => Bv t (rep s) false (rep s') ∨ ∃ ρ1, Bv t (rep s) true ρ1 ∧ Go .body b ρ1 (.bk (rep s'))
  | .rt r => ∃ ρ1, Bv t (rep s) true ρ1 ∧ Go .body b ρ1 (.rt (er r) (ec r))
theorem go_whN {er : β → D} {ec : β → Option Cel} {k : σ → Option (Ctl σ β)} (hk : ∀ s c, k s = some c → Lap t b rep er ec s c) : ∀ {n : Nat} {s : σ} {c : Ctl σ β}, whN k n s = some c → match c with
    | .nx s' => whileF t b n (rep s) = some (.nx, rep s')
    | .bk _ => False
    | .rt r => ∃ ρ', whileF t b n (rep s) = some (.rt (er r), ρ') ∧ Ends0 (ec r) ρ'
  | 0, s, c, h => by cases h
  | n + 1, s, c, h => by
    unfold whN at h
    obtain ⟨c1, h1, h⟩ := bx h
    have h3 := hk s c1 h1
    unfold whileF
    cases c1 with
    | nx s1 =>
      obtain ⟨ρ1, h2, h3⟩ := h3
      have ih := go_whN hk h
      have h2 : t (rep s) = some (true, ρ1) := h2
      rw [h2]
      rcases h3 with h3 | ⟨_, h3⟩
      · cases c with
        | nx s' => show (b ρ1).bind _ = _; rw [h3]; exact ih
        | bk s' => exact ih
        | rt r => obtain ⟨ρ', i1, i2⟩ := ih; refine ⟨ρ', ?_, i2⟩; show (b ρ1).bind _ = _; rw [h3]; exact i1
      · cases c with
        | nx s' => show (b ρ1).bind _ = _; rw [h3]; exact ih
        | bk s' => exact ih
        | rt r => obtain ⟨ρ', i1, i2⟩ := ih; refine ⟨ρ', ?_, i2⟩; show (b ρ1).bind _ = _; rw [h3]; exact i1
    | bk s1 =>
      cases h
      rcases h3 with h3 | ⟨ρ1, h2, h3⟩
      · have h3 : t (rep s) = some (false, rep s1) := h3
        rw [h3]; rfl
      · have h2 : t (rep s) = some (true, ρ1) := h2
        have h3 : b ρ1 = some (.bk, rep s1) := h3
        rw [h2]; show (b ρ1).bind _ = _; rw [h3]; rfl
    | rt r =>
      cases h
      obtain ⟨ρ1, h2, ρ', h3, h4⟩ := h3
      have h2 : t (rep s) = some (true, ρ1) := h2
      rcases h3 with h3 | ⟨h3, _⟩
      · refine ⟨ρ', ?_, h4⟩
        rw [h2]; show (b ρ1).bind _ = _; rw [h3]; rfl
      · cases h3
theorem nx_while {er : β → D} {ec : β → Option Cel} {k : σ → Option (Ctl σ β)} (hk : ∀ s c, k s = some c → Lap t b rep er ec s c) (hr : ρ = rep s) (h : whR k s = some (.nx s')) : Nx (sWhile t b) ρ (rep s') := by
  obtain ⟨n, hn⟩ := whR_some h
  subst hr
  exact sWhile_of (go_whN hk hn)
theorem rt_while {er : β → D} {ec : β → Option Cel} {k : σ → Option (Ctl σ β)} {r : β} (hk : ∀ s c, k s = some c → Lap t b rep er ec s c) (hr : ρ = rep s) (h : whR k s = some (.rt r)) : Go m (sWhile t b) ρ (.rt (er r) (ec r)) := by
  obtain ⟨n, hn⟩ := whR_some h
  subst hr
  obtain ⟨ρ', h1, h2⟩ := go_whN hk hn
  exact ⟨ρ', .inl (sWhile_of h1), h2⟩
theorem no_whR {k : σ → Option (Ctl σ β)} (h : whR k s = some (.bk s')) : False := by
  obtain ⟨n, hn⟩ := whR_some h
  clear h
  induction n generalizing s with
  | zero => cases hn
  | succ n ih =>
    unfold whN at hn
    obtain ⟨c1, h1, hn⟩ := bx hn
    cases c1 with
    | nx s1 => exact ih hn
    | bk s1 => cases hn
    | rt r => cases hn
end
/-! ### a def -/
section
variable {n k : Nat} {b : S} {o : Bool}
theorem fn_rt (hm : ds.length = n) (h : Go .top b (startR k (ds.map .val)) (.rt d none)) : fnP n k false b ds = some d := by
  obtain ⟨ρ', h1, _⟩ := h
  rcases h1 with h1 | ⟨_, rfl, h1⟩
  · exact fnP_of hm h1 rfl
  · exact fnP_of hm h1 rfl
theorem fn_ro (hm : ds.length = n) (h : Go .top b (startR k (ds.map .val)) (.ro es none)) : fnP n k true b ds = some (.list es) := by
  obtain ⟨ρ', h1, _⟩ := h
  exact fnP_of hm h1 rfl
theorem fi_rt {C C' : Cel} (hm : ds.length + 1 = n) (h : Go .top b (startR k (.io C :: ds.map .val)) (.rt d (some C'))) : fnI n k false b C ds = some (d, C') := by
  obtain ⟨ρ', h1, h2⟩ := h
  rcases h1 with h1 | ⟨_, rfl, h1⟩
  · exact fnI_of hm h1 rfl h2
  · exact fnI_of hm h1 rfl h2
theorem fi_ro {C C' : Cel} (hm : ds.length + 1 = n) (h : Go .top b (startR k (.io C :: ds.map .val)) (.ro es (some C'))) : fnI n k true b C ds = some (.list es, C') := by
  obtain ⟨ρ', h1, h2⟩ := h
  exact fnI_of hm h1 rfl h2
end
end L3
set_option Elab.async false
set_option linter.all false
set_option maxRecDepth 100000
set_option maxHeartbeats 1000000
namespace L3
open PySem PySem.W
variable {α β γ δ ε ζ σ τ : Type}
/-! ### plain operations and what they are on data -/
theorem ift {c : Prop} [Decidable c] {a b r : α} (q : c) (h : (if c then a else b) = r) : a = r := (if_pos q).symm.trans h
theorem iff' {c : Prop} [Decidable c] {a b r : α} (q : ¬ c) (h : (if c then a else b) = r) : b = r := (if_neg q).symm.trans h
theorem Bv.t {t : B} {ρ ρ1 : Rho} {c : Bool} (h : Bv t ρ c ρ1) (q : c = true) : Bv t ρ true ρ1 := q ▸ h
theorem Bv.f {t : B} {ρ ρ1 : Rho} {c : Bool} (h : Bv t ρ c ρ1) (q : ¬ c = true) : Bv t ρ false ρ1 := by cases c with | true => exact absurd rfl q | false => exact h
def mulN (a b : Int) : Option Int := if a.natAbs.log2 + b.natAbs.log2 < 1000000 then some (a * b) else none
def fdivN (a b : Int) : Option Int := if 0 < b ∧ b.natAbs.log2 < 9000 then some (a / b) else none
def modN (a b : Int) : Option Int := if 0 < b then some (a % b) else none
def powN (a b : Int) : Option Int := if 0 ≤ b ∧ ((a.natAbs.log2 + 1 : Nat) : Int) * b ≤ 134217728 then some (a ^ b.toNat) else none
theorem mul_e {a b r : Int} (h : mulN a b = some r) : dMul (xI a) (xI b) = some (xI r) := by
  unfold mulN at h
  split at h
  · cases h; exact if_pos (by assumption)
  · cases h
theorem fdiv_e {a b r : Int} (h : fdivN a b = some r) : dFdiv (xI a) (xI b) = some (xI r) := by
  unfold fdivN at h
  split at h
  · cases h; exact if_pos (by assumption)
  · cases h
theorem mod_e {a b r : Int} (h : modN a b = some r) : dMod (xI a) (xI b) = some (xI r) := by
  unfold modN at h
  split at h
  · cases h; exact if_pos (by assumption)
  · cases h
theorem pow_e {a b r : Int} (h : powN a b = some r) : dPow (xI a) (xI b) = some (xI r) := by
  unfold powN at h
  split at h
  · cases h; exact if_pos (by assumption)
  · cases h
theorem neg_e (a : Int) : dNeg (xI a) = some (xI (-a)) := rfl
theorem add_e (a b : Int) : dAdd (xI a) (xI b) = some (xI (a + b)) := rfl
theorem sub_e (a b : Int) : dSub (xI a) (xI b) = some (xI (a - b)) := rfl
theorem lt_i (a b : Int) : dLt (xI a) (xI b) = some (xB (decide (a < b))) := dLt_int a b
theorem gt_i (a b : Int) : dGt (xI a) (xI b) = some (xB (decide (b < a))) := dGt_int a b
theorem le_i (a b : Int) : dLe (xI a) (xI b) = some (xB (decide (a ≤ b))) := dLe_int a b
theorem ge_i (a b : Int) : dGe (xI a) (xI b) = some (xB (decide (b ≤ a))) := dGe_int a b
theorem eq_i (a b : Int) : dEq (xI a) (xI b) = some (xB (decide (a = b))) := dEq_int a b
theorem ne_i (a b : Int) : dNe (xI a) (xI b) = some (xB (!decide (a = b))) := dNe_int a b
/-- == of data -/
def eqD (a b : D) : Option Bool := if (SeqAt.shaped a && SeqAt.shaped b) = true then some (PyData.eqv a b) else none
theorem eqD_e {a b : D} {r : Bool} (h : eqD a b = some r) : dEq a b = some (xB r) := by
  unfold eqD at h
  split at h
  · cases h; exact if_pos (by assumption)
  · cases h
theorem neD_e {a b : D} {r : Bool} (h : eqD a b = some r) : dNe a b = some (xB (!r)) := by
  unfold eqD at h
  split at h
  · cases h; exact if_pos (by assumption)
  · cases h
def ltD (a b : D) : Option Bool := if ordOk a b = true then some (dataLt a b) else none
theorem ltD_e {a b : D} {r : Bool} (h : ltD a b = some r) : dLt a b = some (xB r) := by
  unfold ltD at h
  split at h
  · cases h; exact if_pos (by assumption)
  · cases h
theorem ordOk_comm (a b : D) (h : ordOk b a = true) (h' : a.depth ≤ 64) (hn : isNone a = false) : ordOk a b = true := by
  unfold ordOk at h ⊢
  simp only [Bool.and_eq_true] at h ⊢
  refine ⟨⟨?_, by rw [hn]; rfl⟩, decide_eq_true h'⟩
  rw [alike_comm]; exact h.1.1
def gtD (a b : D) : Option Bool := if ordOk a b = true then some (dataLt b a) else none
def leD (a b : D) : Option Bool := if ordOk a b = true then some (!dataLt b a) else none
def geD (a b : D) : Option Bool := if ordOk a b = true then some (!dataLt a b) else none
theorem gtD_e {a b : D} {r : Bool} (h : gtD a b = some r) : dGt a b = some (xB r) := by
  unfold gtD at h
  split at h
  · cases h; exact if_pos (by assumption)
  · cases h
theorem leD_e {a b : D} {r : Bool} (h : leD a b = some r) : dLe a b = some (xB r) := by
  unfold leD at h
  split at h
  · cases h; exact if_pos (by assumption)
  · cases h
theorem geD_e {a b : D} {r : Bool} (h : geD a b = some r) : dGe a b = some (xB r) := by
  unfold geD at h
  split at h
  · cases h; exact if_pos (by assumption)
  · cases h
def inD (a b : D) : Option Bool := (itemsOf b).bind fun ds => if inOk a ds = true then some (ds.any fun z => PyData.eqv z a) else none
theorem inD_e {a b : D} {r : Bool} (h : inD a b = some r) : dIn a b = some (xB r) := by
  unfold inD at h
  obtain ⟨ds, h1, h⟩ := bx h
  split at h
  · cases h; unfold dIn; rw [h1]; exact if_pos (by assumption)
  · cases h
theorem ninD_e {a b : D} {r : Bool} (h : inD a b = some r) : dNotIn a b = some (xB (!r)) := by
  unfold inD at h
  obtain ⟨ds, h1, h⟩ := bx h
  split at h
  · cases h; unfold dNotIn; rw [h1]; exact if_pos (by assumption)
  · cases h
/-! None -/
theorem is_none_o (e : α → D) [NnC e] (o : Option α) : dIs (xO e o) .none = some (xB o.isNone) := by
  show some (PyData.bool (isNone (xO e o))) = _; rw [isNone_xO]; rfl
theorem isnot_none_o (e : α → D) [NnC e] (o : Option α) : dIsNot (xO e o) .none = some (xB (!o.isNone)) := by
  show some (PyData.bool (!isNone (xO e o))) = _; rw [isNone_xO]; rfl
theorem is_none_d (d : D) : dIs d .none = some (xB (isNone d)) := by cases d <;> rfl
theorem isnot_none_d (d : D) : dIsNot d .none = some (xB (!isNone d)) := by cases d <;> rfl
theorem is_b (a b : Bool) : dIs (xB a) (xB b) = some (xB (decide (a = b))) := rfl
theorem isnot_b (a b : Bool) : dIsNot (xB a) (xB b) = some (xB (!decide (a = b))) := rfl
/-! places -/
def getI (xs : List α) (i : Int) : Option α := L2.atI xs i
theorem atI_map (e : α → β) (xs : List α) (i : Int) : L2.atI (xs.map e) i = (L2.atI xs i).map e := by
  unfold L2.atI
  rw [List.length_map]
  cases L2.ixN xs.length i with
  | none => rfl
  | some j => show (xs.map e)[j]? = _; rw [List.getElem?_map]; rfl
theorem ixL_e {e : α → D} {xs : List α} {i : Int} {a : α} (h : getI xs i = some a) : dIx (xL e xs) (xI i) = some (e a) := by
  show L2.atI (xs.map e) i = _; rw [atI_map]; unfold getI at h; rw [h]; rfl
theorem ixV_e {e : α → D} {xs : List α} {i : Int} {a : α} (h : getI xs i = some a) : dIx (xV e xs) (xI i) = some (e a) := ixL_e (e := e) h
def setI (xs : List α) (i : Int) (a : α) : Option (List α) := (L2.ixN xs.length i).map fun j => xs.set j a
def appN (xs : List α) (a : α) : Option (List α) := if xs.length < sizeLine then some (xs ++ [a]) else none
def extN (xs ys : List α) : Option (List α) := if xs.length + ys.length ≤ sizeLine then some (xs ++ ys) else none
def popN (xs : List α) : Option (α × List α) := (xs[xs.length - 1]?).map fun a => (a, xs.dropLast)
section
variable {f a b : E} {as : As} {ρ ρ1 ρ2 : Rho} {x d : D} {i : Nat} {e : α → D} {xs ys zs : List α}
theorem nx_app_e {v : α} {ds0 : List D} (h0 : celAt ρ i = some (.l ds0)) (h : Ev a ρ (e v) ρ1) (h1 : celAt ρ1 i = some (.l (xs.map e))) (hz : appN xs v = some zs) : Nx (sApp i a) ρ (putAt ρ1 i (.l (zs.map e))) := by
  unfold appN at hz
  split at hz
  · cases hz
    have := nx_app h0 h h1 (by rw [List.length_map]; assumption)
    rw [List.map_append]; exact this
  · cases hz
theorem nx_ext_e {ds0 : List D} (h0 : celAt ρ i = some (.l ds0)) (h : Vw a ρ x ρ1) (hi : itemsOf x = some (ys.map e)) (h1 : celAt ρ1 i = some (.l (xs.map e))) (hz : extN xs ys = some zs) : Nx (sExt i a) ρ (putAt ρ1 i (.l (zs.map e))) := by
  unfold extN at hz
  split at hz
  · cases hz
    have := nx_ext h0 h hi h1 (by rw [List.length_map, List.length_map]; assumption)
    rw [List.map_append]; exact this
  · cases hz
theorem nx_put_e {v : α} {k : Int} {ds0 : List D} (h : Ev a ρ (e v) ρ1) (h0 : celAt ρ1 i = some (.l ds0)) (hk : Ev b ρ1 (xI k) ρ2) (h1 : celAt ρ2 i = some (.l (xs.map e))) (hz : setI xs k v = some zs) : Nx (sPut i a b) ρ (putAt ρ2 i (.l (zs.map e))) := by
  unfold setI at hz
  obtain ⟨j, hj, rfl⟩ := Option.map_eq_some_iff.mp hz
  have := nx_put h h0 hk h1 (by rw [List.length_map]; exact hj)
  rw [List.map_set]; exact this
theorem ev_pop_e {r : α × List α} (h0 : celAt ρ i = some (.l (xs.map e))) (h : popN xs = some r) : Ev (ePop i) ρ (e r.1) (putAt ρ i (.l (r.2.map e))) := by
  unfold popN at h
  obtain ⟨v, hv, rfl⟩ := Option.map_eq_some_iff.mp h
  have := ev_pop h0 (show (xs.map e)[(xs.map e).length - 1]? = some (e v) by rw [List.length_map, List.getElem?_map, hv]; rfl)
  rw [List.map_dropLast]; exact this
end
/-! concatenation, slices -/
def catN (xs ys : List α) : Option (List α) := if xs.length + ys.length ≤ sizeLine then some (xs ++ ys) else none
theorem catL_e {e : α → D} {xs ys zs : List α} (h : catN xs ys = some zs) : dAdd (xL e xs) (xL e ys) = some (xL e zs) := by
  unfold catN at h
  split at h
  · cases h
    show (if (xs.map e).length + (ys.map e).length ≤ sizeLine then some (PyData.list (xs.map e ++ ys.map e)) else none) = _
    rw [if_pos (by rw [List.length_map, List.length_map]; assumption)]
    unfold xL; rw [List.map_append]
  · cases h
theorem catV_e {e : α → D} {xs ys zs : List α} (h : catN xs ys = some zs) : dAdd (xV e xs) (xV e ys) = some (xV e zs) := by
  unfold catN at h
  split at h
  · cases h
    show (if (xs.map e).length + (ys.map e).length ≤ sizeLine then some (PyData.tuple (xs.map e ++ ys.map e)) else none) = _
    rw [if_pos (by rw [List.length_map, List.length_map]; assumption)]
    unfold xV; rw [List.map_append]
  · cases h
theorem cut_map (e : α → D) (xs : List α) (lo hi : Option Int) : cut (xs.map e) lo hi = (cut xs lo hi).map e := by
  unfold cut; rw [List.length_map, List.map_take, List.map_drop]
theorem slL_e (e : α → D) (xs : List α) (lo hi : Option Int) : dSl (xL e xs) lo hi = some (xL e (cut xs lo hi)) := by
  show some (PyData.list (cut (xs.map e) lo hi)) = _; rw [cut_map]; rfl
theorem slV_e (e : α → D) (xs : List α) (lo hi : Option Int) : dSl (xV e xs) lo hi = some (xV e (cut xs lo hi)) := by
  show some (PyData.tuple (cut (xs.map e) lo hi)) = _; rw [cut_map]; rfl
/-! builtins -/
theorem len_L (e : α → D) (xs : List α) : dLen [xL e xs] = some (xI xs.length) := by show some (PyData.int ((xs.map e).length : Nat)) = _; rw [List.length_map]; rfl
theorem len_V (e : α → D) (xs : List α) : dLen [xV e xs] = some (xI xs.length) := len_L e xs
def lenD (d : D) : Option Int := match d with
  | .list ds => some ds.length
  | .tuple ds => some ds.length
  | .str x => some x.length
  | _ => none
theorem lenD_e {d : D} {n : Int} (h : lenD d = some n) : dLen [d] = some (xI n) := by
  cases d <;> first | (cases h; rfl) | cases h
def absI (i : Int) : Int := if i < 0 then -i else i
theorem abs_e (i : Int) : dAbs [xI i] = some (xI (absI i)) := rfl
theorem int_i (i : Int) : dInt [xI i] = some (xI i) := rfl
theorem int_b (b : Bool) : dInt [xB b] = some (xI (if b = true then 1 else 0)) := by cases b <;> rfl
theorem tuple_L (e : α → D) (xs : List α) : dTuple [xL e xs] = some (xV e xs) := rfl
theorem tuple_V (e : α → D) (xs : List α) : dTuple [xV e xs] = some (xV e xs) := rfl
theorem list_L (e : α → D) (xs : List α) : dList [xL e xs] = some (xs.map e) := rfl
theorem list_V (e : α → D) (xs : List α) : dList [xV e xs] = some (xs.map e) := rfl
theorem intsD_xI (ns : List Int) : intsD (ns.map xI) = some ns := intsD_of ns
theorem boolsD_xB (ns : List Bool) : boolsD (ns.map xB) = some ns := boolsD_of ns
theorem sum_e (ns : List Int) : dSum [xL xI ns] = some (xI ns.sum) := by show (intsD (ns.map xI)).bind _ = _; rw [intsD_xI]; rfl
theorem all_e (ns : List Bool) : dAll [xL xB ns] = some (xB (ns.all id)) := by show (boolsD (ns.map xB)).bind _ = _; rw [boolsD_xB]; rfl
theorem any_e (ns : List Bool) : dAny [xL xB ns] = some (xB (ns.any id)) := by show (boolsD (ns.map xB)).bind _ = _; rw [boolsD_xB]; rfl
def min2 (i j : Int) : Int := min i j
theorem min2_e (i j : Int) : dMin [xI i, xI j] = some (xI (min i j)) := dMin2 i j
theorem max2_e (i j : Int) : dMax [xI i, xI j] = some (xI (max i j)) := dMax2 i j
theorem min3_e (i j k : Int) : dMin [xI i, xI j, xI k] = some (xI (min (min i j) k)) := dMin3 i j k
theorem max3_e (i j k : Int) : dMax [xI i, xI j, xI k] = some (xI (max (max i j) k)) := by
  show some (PyData.int (if k > (if j > i then j else i) then k else (if j > i then j else i))) = _
  congr 2
  have : (if j > i then j else i) = max i j := by
    by_cases h : j > i
    · rw [if_pos h]; omega
    · rw [if_neg h]; omega
  rw [this]
  by_cases h : k > max i j
  · rw [if_pos h]; omega
  · rw [if_neg h]; omega
/-- the first least, the first greatest, by the order of data -/
def minE (e : α → D) : List α → Option α
  | [] => none
  | x :: xs => some (xs.foldl (fun a y => if ltE e y a = true then y else a) x)
def maxE (e : α → D) : List α → Option α
  | [] => none
  | x :: xs => some (xs.foldl (fun a y => if ltE e a y = true then y else a) x)
theorem minD_map (e : α → D) : ∀ (xs : List α) (x : α), minD (e x) (xs.map e) = e (xs.foldl (fun a y => if ltE e y a = true then y else a) x)
  | [], _ => rfl
  | y :: xs, x => by
    have step : minD (e x) ((y :: xs).map e) = minD (if dataLt (e y) (e x) = true then e y else e x) (xs.map e) := rfl
    rw [step, List.foldl_cons]
    by_cases q : ltE e y x = true
    · rw [if_pos q, if_pos (show dataLt (e y) (e x) = true from q), minD_map e xs y]
    · rw [if_neg q, if_neg (show ¬ dataLt (e y) (e x) = true from q), minD_map e xs x]
theorem maxD_map (e : α → D) : ∀ (xs : List α) (x : α), maxD (e x) (xs.map e) = e (xs.foldl (fun a y => if ltE e a y = true then y else a) x)
  | [], _ => rfl
  | y :: xs, x => by
    have step : maxD (e x) ((y :: xs).map e) = maxD (if dataLt (e x) (e y) = true then e y else e x) (xs.map e) := rfl
    rw [step, List.foldl_cons]
    by_cases q : ltE e x y = true
    · rw [if_pos q, if_pos (show dataLt (e x) (e y) = true from q), maxD_map e xs y]
    · rw [if_neg q, if_neg (show ¬ dataLt (e x) (e y) = true from q), maxD_map e xs x]
theorem ordAll_map (e : α → D) [h : EqC e] [OrdC e] [NnC e] (hd : h.dep ≤ 64) (xs : List α) : ordAll (xs.map e) = true := by
  unfold ordAll
  rw [List.all_eq_true]
  intro x hx
  rw [List.all_eq_true]
  intro y hy
  obtain ⟨a, _, rfl⟩ := List.mem_map.mp hx
  obtain ⟨b, _, rfl⟩ := List.mem_map.mp hy
  exact ordOk_of e hd a b
theorem minL_e {e : α → D} [h : EqC e] [OrdC e] [NnC e] (hd : h.dep ≤ 64) {xs : List α} {r : α} (hr : minE e xs = some r) : dMin [xL e xs] = some (e r) := by
  cases xs with
  | nil => cases hr
  | cons x xs =>
    cases hr
    show (if ordAll (e x :: xs.map e) = true then some (minD (e x) (xs.map e)) else none) = _
    rw [if_pos (show ordAll (e x :: xs.map e) = true from ordAll_map e hd (x :: xs)), minD_map]
theorem minV_e {e : α → D} [h : EqC e] [OrdC e] [NnC e] (hd : h.dep ≤ 64) {xs : List α} {r : α} (hr : minE e xs = some r) : dMin [xV e xs] = some (e r) := by
  cases xs with
  | nil => cases hr
  | cons x xs =>
    cases hr
    show (if ordAll (e x :: xs.map e) = true then some (minD (e x) (xs.map e)) else none) = _
    rw [if_pos (show ordAll (e x :: xs.map e) = true from ordAll_map e hd (x :: xs)), minD_map]
theorem maxL_e {e : α → D} [h : EqC e] [OrdC e] [NnC e] (hd : h.dep ≤ 64) {xs : List α} {r : α} (hr : maxE e xs = some r) : dMax [xL e xs] = some (e r) := by
  cases xs with
  | nil => cases hr
  | cons x xs =>
    cases hr
    show (if ordAll (e x :: xs.map e) = true then some (maxD (e x) (xs.map e)) else none) = _
    rw [if_pos (show ordAll (e x :: xs.map e) = true from ordAll_map e hd (x :: xs)), maxD_map]
theorem maxV_e {e : α → D} [h : EqC e] [OrdC e] [NnC e] (hd : h.dep ≤ 64) {xs : List α} {r : α} (hr : maxE e xs = some r) : dMax [xV e xs] = some (e r) := by
  cases xs with
  | nil => cases hr
  | cons x xs =>
    cases hr
    show (if ordAll (e x :: xs.map e) = true then some (maxD (e x) (xs.map e)) else none) = _
    rw [if_pos (show ordAll (e x :: xs.map e) = true from ordAll_map e hd (x :: xs)), maxD_map]
def sortE (e : α → D) (xs : List α) : List α := xs.mergeSort fun a b => !ltE e b a
theorem sort_map (e : α → D) (xs : List α) : sortD (xs.map e) = (sortE e xs).map e := by
  unfold sortD sortE
  exact (List.map_mergeSort (f := e) (s := dataLe false id) (r := fun a b => !ltE e b a) (l := xs) (fun _ _ _ _ => rfl)).symm
theorem sortedL_e {e : α → D} [h : EqC e] [OrdC e] [NnC e] [t : TuC e] (hd : h.dep ≤ 64) (xs : List α) : dSorted [xL e xs] = some ((sortE e xs).map e) := by
  show (if sortOk (xs.map e) = true then some (sortD (xs.map e)) else none) = _
  rw [if_pos, sort_map]
  unfold sortOk
  rw [ordAll_map e hd]
  show (((xs.map e).all isTup) || ((xs.map e).all noTup)) = true
  rw [Bool.or_eq_true, List.all_eq_true, List.all_eq_true]
  rcases t.tu with q | q
  · exact .inl fun x hx => by obtain ⟨a, _, rfl⟩ := List.mem_map.mp hx; exact q a
  · exact .inr fun x hx => by obtain ⟨a, _, rfl⟩ := List.mem_map.mp hx; exact q a
/-! data of a known kind -/
def unI : D → Option Int
  | .int i => some i
  | _ => none
def unB : D → Option Bool
  | .bool i => some i
  | _ => none
theorem unI_e {d : D} {i : Int} (h : unI d = some i) : d = xI i := by cases d <;> first | (cases h; rfl) | cases h
theorem unB_e {d : D} {i : Bool} (h : unB d = some i) : d = xB i := by cases d <;> first | (cases h; rfl) | cases h
/-- what is drawn from a list -/
theorem items_L (e : α → D) (xs : List α) : itemsOf (xL e xs) = some (xs.map e) := rfl
theorem items_V (e : α → D) (xs : List α) : itemsOf (xV e xs) = some (xs.map e) := rfl
theorem fit_map {e : α → D} {xs : List α} (h : xs.length ≤ sizeLine) : (xs.map e).length ≤ sizeLine := by rw [List.length_map]; exact h
end L3
set_option Elab.async false
set_option linter.all false
set_option maxRecDepth 100000
set_option maxHeartbeats 1000000
namespace L3
open PySem PySem.W
variable {α β γ δ ε ζ σ τ : Type}
/-! ### steps over L3p -/
section
variable {f a b g : E} {as : As} {ρ ρ1 ρ2 : Rho} {x d : D} {i : Nat} {e : α → D} {xs ys zs : List α} {s : S} {is : List Nat} {m : Md}
theorem nx_wp (h : Nx s ρ ρ1) : Nx (sWp is s) ρ (wipeR ρ1 is) := by unfold Nx sWp; rw [h]; rfl
theorem go_cont_wp : Go m (sWp is sCont) ρ (.nx (wipeR ρ is)) := .inl rfl
theorem go_brk_wp : Go m (sWp is sBreak) ρ (.bk (wipeR ρ is)) := rfl
theorem nx_fz (h : Nx s ρ ρ1) : Nx (sFz i s) ρ (frz ρ1 i) := by unfold Nx sFz; rw [h]; rfl
theorem iv_wp {it : I} {ds : List D} (h : Iv it ρ ds ρ1) : Iv (iWp is it) ρ ds (wipeR ρ1 is) := by unfold Iv iWp; rw [h]; rfl
theorem bv_wp {t : B} {p : Bool} (h : Bv t (wipeR ρ is) p ρ1) : Bv (bWp is t) ρ p ρ1 := h
theorem lap_t {t : B} {b : S} {rep : σ → Rho} {er : β → D} {ec : β → Option Cel} {s : σ} {c : Ctl σ β} (h : Bv t (rep s) true ρ1) (h' : Go .body b ρ1 (Turn rep er ec c)) : Lap t b rep er ec s c := by
  cases c with
  | nx s' => exact ⟨ρ1, h, h'⟩
  | bk s' => exact .inr ⟨ρ1, h, h'⟩
  | rt r => exact ⟨ρ1, h, h'⟩
theorem lap_f {t : B} {b : S} {rep : σ → Rho} {er : β → D} {ec : β → Option Cel} {s s' : σ} (h : Bv t (rep s) false (rep s')) : Lap t b rep er ec s (.bk s') := .inl h
/-- the first place -/
def indexN [DecidableEq α] (xs : List α) (a : α) : Option Int := (xs.findIdx? fun z => decide (z = a)).map fun (j : Nat) => (j : Int)
theorem findIdx_map {β : Type} (e : α → β) (p : β → Bool) : ∀ xs : List α, (xs.map e).findIdx? p = xs.findIdx? fun a => p (e a)
  | [] => rfl
  | x :: xs => by rw [List.map_cons, List.findIdx?_cons, List.findIdx?_cons, findIdx_map e p xs]
theorem ev_index [he : EqC e] [DecidableEq α] (hd : he.dep + 1 ≤ 64) {v : α} {j : Int} (ha : Vw a ρ (xL e xs) ρ) (hb : Vw b ρ (e v) ρ) (hj : indexN xs v = some j) : Ev (eIndex a b) ρ (xI j) ρ := by
  obtain ⟨o, h1, h2⟩ := ha
  obtain ⟨p, h3, h4⟩ := hb
  unfold indexN at hj
  obtain ⟨k, hk, rfl⟩ := Option.map_eq_some_iff.mp hj
  unfold Ev eIndex
  rw [h1]; dsimp only [Option.bind_some]
  rw [h2]
  show (b ρ).bind _ = _
  rw [h3]; dsimp only [Option.bind_some]
  rw [h2]
  show (look ρ p).bind _ = _
  rw [h4]
  show (indexD (xs.map e) (e v)).bind _ = _
  have : indexD (xs.map e) (e v) = some k := by
    unfold indexD
    rw [if_pos, findIdx_map, ← hk]
    · congr 1; funext z; exact eqv_of e z v
    · have q1 : SeqAt.shaped (PyData.list (xs.map e)) = true := shaped_of (xL e) hd xs
      rw [q1, shaped_of e (by omega) v]; rfl
  rw [this]; rfl
def popAtN (xs : List α) (k : Int) : Option (α × List α) := if -(2 ^ 63) ≤ k ∧ k < 2 ^ 63 then (seqIndex? k xs.length).bind fun j => (xs[j]?).bind fun a => some (a, xs.eraseIdx j) else none
theorem map_eraseIdx (e : α → β) : ∀ (xs : List α) (j : Nat), (xs.eraseIdx j).map e = (xs.map e).eraseIdx j
  | [], _ => by simp
  | _ :: _, 0 => rfl
  | x :: xs, j + 1 => by show e x :: _ = _; rw [map_eraseIdx e xs j]; rfl
theorem ev_popAt {k : Int} {r : α × List α} {ds0 : List D} (h0 : celAt ρ i = some (.l ds0)) (hb : Ev b ρ (xI k) ρ1) (h1 : celAt ρ1 i = some (.l (xs.map e))) (h : popAtN xs k = some r) : Ev (ePopAt i b) ρ (e r.1) (putAt ρ1 i (.l (r.2.map e))) := by
  unfold popAtN at h
  split at h
  case isFalse => cases h
  rename_i ok
  obtain ⟨j, hj, h⟩ := bx h
  obtain ⟨v, hv, h⟩ := bx h
  cases h
  unfold Ev ePopAt
  rw [h0]
  show (b ρ).bind _ = _
  rw [hb]
  show (match Opd.fz (.int k), celAt ρ1 i with
    | .fz (.int k), some (.l ds) => if -(2 ^ 63) ≤ k ∧ k < 2 ^ 63 then (seqIndex? k ds.length).bind fun j => (ds[j]?).bind fun d => some (Opd.fz d, putAt ρ1 i (.l (ds.eraseIdx j))) else none
    | _, _ => none) = _
  rw [h1]
  show (if -(2 ^ 63) ≤ k ∧ k < 2 ^ 63 then (seqIndex? k (xs.map e).length).bind fun j => ((xs.map e)[j]?).bind fun d => some (Opd.fz d, putAt ρ1 i (.l ((xs.map e).eraseIdx j))) else none) = _
  rw [if_pos ok, List.length_map, hj]
  show ((xs.map e)[j]?).bind _ = _
  rw [List.getElem?_map, hv, map_eraseIdx]; rfl
def repN (xs : List α) (k : Int) : Option (List α) := if -(2 ^ 63) ≤ k ∧ k < 2 ^ 63 ∧ xs.length * k.toNat ≤ sizeLine then some (repL xs k) else none
theorem repL_map (e : α → β) (xs : List α) (k : Int) : repL (xs.map e) k = (repL xs k).map e := by
  unfold repL
  rw [List.map_flatten, List.map_replicate]
theorem nv_rep {n : N} {k : Int} (h : Nv n ρ (xs.map e) ρ1) (hk : Ev b ρ1 (xI k) ρ2) (hz : repN xs k = some zs) : Nv (nRep n b) ρ (zs.map e) ρ2 := by
  unfold repN at hz
  split at hz
  case isFalse => cases hz
  rename_i ok
  cases hz
  unfold Nv nRep; rw [h]; show (b ρ1).bind _ = _; rw [hk]
  show (if -(2 ^ 63) ≤ k ∧ k < 2 ^ 63 ∧ (xs.map e).length * k.toNat ≤ sizeLine then some (repL (xs.map e) k, ρ2) else none) = _
  rw [if_pos (by rw [List.length_map]; exact ok), repL_map]
theorem t_put {k : Int} {v : α} {ds0 : List D} (h0 : celAt ρ i = some (.l ds0)) (hk : Ev b ρ (xI k) ρ1) (h1 : celAt ρ1 i = some (.l (xs.map e))) (hz : setI xs k v = some zs) : tPut i b (e v) ρ = some (putAt ρ1 i (.l (zs.map e))) := by
  unfold setI at hz
  obtain ⟨j, hj, rfl⟩ := Option.map_eq_some_iff.mp hz
  unfold tPut
  rw [h0]
  show (b ρ).bind _ = _
  rw [hk]
  show (match Opd.fz (.int k), celAt ρ1 i with
    | .fz (.int k), some (.l ds) => (L2.ixN ds.length k).bind fun j => some (putAt ρ1 i (.l (ds.set j (e v))))
    | _, _ => none) = _
  rw [h1]
  show (L2.ixN (xs.map e).length k).bind _ = _
  rw [List.length_map, hj, List.map_set]; rfl
theorem t_tup {u : Ts} {n : Nat} {ds : List D} (h : ds.length = n) (h' : u ds ρ = some ρ1) : tT n u (.tuple ds) ρ = some ρ1 := by show (if ds.length = n then u ds ρ else none) = _; rw [if_pos h]; exact h'
theorem t_cons {t : T} {u : Ts} {ds : List D} (h : t d ρ = some ρ1) (h' : u ds ρ1 = some ρ2) : tsCons t u (d :: ds) ρ = some ρ2 := by
  show (t d ρ).bind _ = _; rw [h]; exact h'
end
end L3
set_option Elab.async false
set_option linter.all false
set_option maxRecDepth 100000
set_option maxHeartbeats 1000000
namespace L3
open PySem PySem.W
variable {α β γ δ ε ζ σ τ : Type}
theorem t2v2 (e : α → D) (p : α × α) : x2 e e p = xV e [p.1, p.2] := rfl
theorem t2v3 (e : α → D) (p : α × α × α) : x3 e e e p = xV e [p.1, p.2.1, p.2.2] := rfl
theorem t2v4 (e : α → D) (p : α × α × α × α) : x4 e e e e p = xV e [p.1, p.2.1, p.2.2.1, p.2.2.2] := rfl
theorem t2v5 (e : α → D) (p : α × α × α × α × α) : x5 e e e e e p = xV e [p.1, p.2.1, p.2.2.1, p.2.2.2.1, p.2.2.2.2] := rfl
theorem tix1_0 {a : α → D} (p : α) : dIx ((x1 a) p) (xI 0) = some (a p) := rfl
theorem tix1_0m {a : α → D} (p : α) : dIx ((x1 a) p) (xI (-1)) = some (a p) := rfl
theorem tix2_0 {a : α → D} {b : β → D} (p : α × β) : dIx ((x2 a b) p) (xI 0) = some (a p.1) := rfl
theorem tix2_0m {a : α → D} {b : β → D} (p : α × β) : dIx ((x2 a b) p) (xI (-2)) = some (a p.1) := rfl
theorem tix2_1 {a : α → D} {b : β → D} (p : α × β) : dIx ((x2 a b) p) (xI 1) = some (b p.2) := rfl
theorem tix2_1m {a : α → D} {b : β → D} (p : α × β) : dIx ((x2 a b) p) (xI (-1)) = some (b p.2) := rfl
theorem tix3_0 {a : α → D} {b : β → D} {c : γ → D} (p : α × β × γ) : dIx ((x3 a b c) p) (xI 0) = some (a p.1) := rfl
theorem tix3_0m {a : α → D} {b : β → D} {c : γ → D} (p : α × β × γ) : dIx ((x3 a b c) p) (xI (-3)) = some (a p.1) := rfl
theorem tix3_1 {a : α → D} {b : β → D} {c : γ → D} (p : α × β × γ) : dIx ((x3 a b c) p) (xI 1) = some (b p.2.1) := rfl
theorem tix3_1m {a : α → D} {b : β → D} {c : γ → D} (p : α × β × γ) : dIx ((x3 a b c) p) (xI (-2)) = some (b p.2.1) := rfl
theorem tix3_2 {a : α → D} {b : β → D} {c : γ → D} (p : α × β × γ) : dIx ((x3 a b c) p) (xI 2) = some (c p.2.2) := rfl
theorem tix3_2m {a : α → D} {b : β → D} {c : γ → D} (p : α × β × γ) : dIx ((x3 a b c) p) (xI (-1)) = some (c p.2.2) := rfl
theorem tix4_0 {a : α → D} {b : β → D} {c : γ → D} {d : δ → D} (p : α × β × γ × δ) : dIx ((x4 a b c d) p) (xI 0) = some (a p.1) := rfl
theorem tix4_0m {a : α → D} {b : β → D} {c : γ → D} {d : δ → D} (p : α × β × γ × δ) : dIx ((x4 a b c d) p) (xI (-4)) = some (a p.1) := rfl
theorem tix4_1 {a : α → D} {b : β → D} {c : γ → D} {d : δ → D} (p : α × β × γ × δ) : dIx ((x4 a b c d) p) (xI 1) = some (b p.2.1) := rfl
theorem tix4_1m {a : α → D} {b : β → D} {c : γ → D} {d : δ → D} (p : α × β × γ × δ) : dIx ((x4 a b c d) p) (xI (-3)) = some (b p.2.1) := rfl
theorem tix4_2 {a : α → D} {b : β → D} {c : γ → D} {d : δ → D} (p : α × β × γ × δ) : dIx ((x4 a b c d) p) (xI 2) = some (c p.2.2.1) := rfl
theorem tix4_2m {a : α → D} {b : β → D} {c : γ → D} {d : δ → D} (p : α × β × γ × δ) : dIx ((x4 a b c d) p) (xI (-2)) = some (c p.2.2.1) := rfl
theorem tix4_3 {a : α → D} {b : β → D} {c : γ → D} {d : δ → D} (p : α × β × γ × δ) : dIx ((x4 a b c d) p) (xI 3) = some (d p.2.2.2) := rfl
theorem tix4_3m {a : α → D} {b : β → D} {c : γ → D} {d : δ → D} (p : α × β × γ × δ) : dIx ((x4 a b c d) p) (xI (-1)) = some (d p.2.2.2) := rfl
theorem tix5_0 {a : α → D} {b : β → D} {c : γ → D} {d : δ → D} {e : ε → D} (p : α × β × γ × δ × ε) : dIx ((x5 a b c d e) p) (xI 0) = some (a p.1) := rfl
theorem tix5_0m {a : α → D} {b : β → D} {c : γ → D} {d : δ → D} {e : ε → D} (p : α × β × γ × δ × ε) : dIx ((x5 a b c d e) p) (xI (-5)) = some (a p.1) := rfl
theorem tix5_1 {a : α → D} {b : β → D} {c : γ → D} {d : δ → D} {e : ε → D} (p : α × β × γ × δ × ε) : dIx ((x5 a b c d e) p) (xI 1) = some (b p.2.1) := rfl
theorem tix5_1m {a : α → D} {b : β → D} {c : γ → D} {d : δ → D} {e : ε → D} (p : α × β × γ × δ × ε) : dIx ((x5 a b c d e) p) (xI (-4)) = some (b p.2.1) := rfl
theorem tix5_2 {a : α → D} {b : β → D} {c : γ → D} {d : δ → D} {e : ε → D} (p : α × β × γ × δ × ε) : dIx ((x5 a b c d e) p) (xI 2) = some (c p.2.2.1) := rfl
theorem tix5_2m {a : α → D} {b : β → D} {c : γ → D} {d : δ → D} {e : ε → D} (p : α × β × γ × δ × ε) : dIx ((x5 a b c d e) p) (xI (-3)) = some (c p.2.2.1) := rfl
theorem tix5_3 {a : α → D} {b : β → D} {c : γ → D} {d : δ → D} {e : ε → D} (p : α × β × γ × δ × ε) : dIx ((x5 a b c d e) p) (xI 3) = some (d p.2.2.2.1) := rfl
theorem tix5_3m {a : α → D} {b : β → D} {c : γ → D} {d : δ → D} {e : ε → D} (p : α × β × γ × δ × ε) : dIx ((x5 a b c d e) p) (xI (-2)) = some (d p.2.2.2.1) := rfl
theorem tix5_4 {a : α → D} {b : β → D} {c : γ → D} {d : δ → D} {e : ε → D} (p : α × β × γ × δ × ε) : dIx ((x5 a b c d e) p) (xI 4) = some (e p.2.2.2.2) := rfl
theorem tix5_4m {a : α → D} {b : β → D} {c : γ → D} {d : δ → D} {e : ε → D} (p : α × β × γ × δ × ε) : dIx ((x5 a b c d e) p) (xI (-1)) = some (e p.2.2.2.2) := rfl
section
variable {f a b g : E} {as : As} {ρ ρ1 ρ2 : Rho} {x d : D} {i : Nat} {e : α → D} {xs ys zs : List α} {s u w : S} {is : List Nat} {m : Md}
theorem small {ds : List β} (h : Nat.ble ds.length 64 = true) : ds.length ≤ sizeLine := Nat.le_trans (Nat.le_of_ble_eq_true h) (by decide)
theorem ev_v (h : ρ[i]? = some (some (.val d))) : Ev (eVar i) ρ d ρ := by unfold Ev eVar; rw [h]
theorem ev_c : Ev (eC d) ρ d ρ := rfl
theorem av_nil_e : Av aNil ρ (([] : List α).map e) ρ := rfl
theorem av_one_e {v : α} (h : Ev a ρ (e v) ρ1) : Av (aCons a aNil) ρ ([v].map e) ρ1 := av_cons h av_nil
theorem av_cons_e {v : α} (h : Ev a ρ (e v) ρ1) (h' : Av as ρ1 (xs.map e) ρ2) : Av (aCons a as) ρ ((v :: xs).map e) ρ2 := av_cons h h'
theorem av_star_e (h : Vw a ρ x ρ1) (hi : itemsOf x = some (ys.map e)) (h' : Av as ρ1 (xs.map e) ρ2) : Av (aStar a as) ρ ((ys ++ xs).map e) ρ2 := by
  rw [List.map_append]; exact av_star h hi h'
theorem av_star1_e (h : Vw a ρ x ρ1) (hi : itemsOf x = some (ys.map e)) : Av (aStar a aNil) ρ (ys.map e) ρ1 := by
  have := av_star h hi (ds := []) av_nil
  rwa [List.append_nil] at this
def fitN (xs : List α) : Option Unit := if xs.length ≤ sizeLine then some () else none
theorem fitN_e {z : Unit} (h : fitN xs = some z) : xs.length ≤ sizeLine := by
  unfold fitN at h
  split at h
  · assumption
  · cases h
theorem nv_lst_e (h : Av as ρ (xs.map e) ρ1) (hl : xs.length ≤ sizeLine) : Nv (nLst as) ρ (xs.map e) ρ1 := nv_lst h (fit_map hl)
theorem ev_tup_e (h : Av as ρ (xs.map e) ρ1) (hl : xs.length ≤ sizeLine) : Ev (eTup as) ρ (xV e xs) ρ1 := ev_tup h (fit_map hl)
theorem nv_rev_e (h : Vw a ρ (xL e xs) ρ1) : Nv (nRev a) ρ (xs.reverse.map e) ρ1 := by rw [List.map_reverse]; exact nv_rev h
theorem iv_seqD {ds : List D} (h : Ev a ρ x ρ1) (hi : itemsOf x = some ds) : Iv (iSeq a) ρ (ds.map xD) ρ1 := by
  have : ds.map xD = ds := List.map_id' ds
  rw [this]; exact iv_seq h hi
def unL2 : List α → Option (α × α)
  | [a, b] => some (a, b)
  | _ => none
def unL3 : List α → Option (α × α × α)
  | [a, b, c] => some (a, b, c)
  | _ => none
theorem unL2_e {r : α × α} (h : unL2 xs = some r) : xL e xs = .list [e r.1, e r.2] := by
  unfold unL2 at h
  split at h
  · cases h; rfl
  · cases h
theorem unL3_e {r : α × α × α} (h : unL3 xs = some r) : xL e xs = .list [e r.1, e r.2.1, e r.2.2] := by
  unfold unL3 at h
  split at h
  · cases h; rfl
  · cases h
def ssetN (ns : List Int) : Option (List Int) := if ns.length < 64 then some (ssetI ns) else none
theorem intsU_xI : ∀ ns : List Int, intsU (ns.map xI) = some ns
  | [] => rfl
  | n :: ns => by show (intsU (ns.map xI)).bind _ = _; rw [intsU_xI ns]; rfl
theorem nv_ssetIL {ns zs : List Int} (h : Vw a ρ (xL xI ns) ρ1) (hz : ssetN ns = some zs) : Nv (nSsetIL a) ρ (zs.map xI) ρ1 := by
  unfold ssetN at hz
  split at hz
  case isFalse => cases hz
  rename_i ok
  cases hz
  obtain ⟨o, h1, h2⟩ := h
  unfold Nv nSsetIL; rw [h1]; show (look ρ1 o).bind _ = _; rw [h2]
  show (ssetD (ns.map xI)).bind _ = _
  unfold ssetD; rw [intsU_xI]
  show (if ns.length < 64 then some ((ssetI ns).map PyData.int) else none).bind _ = _
  rw [if_pos ok]; rfl
theorem nx_assoc (h' : Nx (sSeq s (sSeq u w)) ρ ρ1) : Nx (sSeq (sSeq s u) w) ρ ρ1 := by
  unfold Nx at h' ⊢
  rw [← h']
  unfold sSeq
  cases s ρ with
  | none => rfl
  | some p => obtain ⟨fl, ρ'⟩ := p; cases fl <;> rfl
end
section
variable {t : B} {b : S} {ρ : Rho} {rep : σ → Rho} {m : Md} {s s' : σ} {is : List Nat}
theorem whileF_wp {n : Nat} {ρ ρ1 : Rho} (h : wipeR ρ is = wipeR ρ1 is) : whileF (bWp is t) b n ρ = whileF (bWp is t) b n ρ1 := by
  cases n with
  | zero => rfl
  | succ n =>
    unfold whileF
    have : bWp is t ρ = bWp is t ρ1 := by unfold bWp; rw [h]
    rw [this]
theorem nx_whileW {er : β → D} {ec : β → Option Cel} {k : σ → Option (Ctl σ β)} (hk : ∀ s c, k s = some c → Lap (bWp is t) b rep er ec s c) (hr : wipeR ρ is = wipeR (rep s) is) (h : whR k s = some (.nx s')) : Nx (sWhile (bWp is t) b) ρ (rep s') := by
  obtain ⟨n, hn⟩ := whR_some h
  exact sWhile_of ((whileF_wp hr).trans (go_whN hk hn))
theorem rt_whileW {er : β → D} {ec : β → Option Cel} {k : σ → Option (Ctl σ β)} {r : β} (hk : ∀ s c, k s = some c → Lap (bWp is t) b rep er ec s c) (hr : wipeR ρ is = wipeR (rep s) is) (h : whR k s = some (.rt r)) : Go m (sWhile (bWp is t) b) ρ (.rt (er r) (ec r)) := by
  obtain ⟨n, hn⟩ := whR_some h
  obtain ⟨ρ', h1, h2⟩ := go_whN hk hn
  exact ⟨ρ', .inl (sWhile_of ((whileF_wp hr).trans h1)), h2⟩
end
end L3
set_option Elab.async false
set_option linter.all false
set_option maxRecDepth 100000
set_option maxHeartbeats 4000000
namespace Wk
open PySem PySem.Spec PyProof.Rows L2 L3
noncomputable section
/- _law_cells: 0 script, 1 most -/
def b__law_cells : S := (sRet (eN (nListRg1 (eCall dMax (aCons (eC (.int 1)) (aCons (eCall dMin (aCons (eVar 1) (aCons (eCall dLen (aCons (eVar 0) aNil)) aNil))) aNil))))))
def f__law_cells : Fp := fnP 2 2 false b__law_cells
/- is_int: 0 value, 1 low, 2 high -/
def b_is_int : S := (sRet (eAnd (eIsa "int" (eVar 0)) (eAnd (eNot (eIsa "bool" (eVar 0))) (eChain dLe dLe (eVar 1) (eVar 0) (eVar 2)))))
def f_is_int : Fp := fnP 3 3 false b_is_int
/- are_ints: 0 value, 1 low, 2 high, 3 one -/
def b_are_ints : S := (sRet (eAnd (eIsa "tuple" (eVar 0)) (eCall dAll (aCons (eN (nComp (iSeq (eVar 0)) (tN 3) bYes (eCallP f_is_int (aCons (eVar 3) (aCons (eVar 1) (aCons (eVar 2) aNil)))) [3])) aNil))))
def f_are_ints : Fp := fnP 3 4 false b_are_ints
/- look_at_letters_back: 0 exchanges, 1 times -/
def b_look_at_letters_back_l1 : S := (sIf (bOr (bNot (bE (eCallP f_are_ints (aCons (eVar 1) (aCons (e1 dNeg (eC (.int 1000000000000))) (aCons (eC (.int 1000000000000)) aNil)))))) (bE (e2 dNe (eCall dLen (aCons (eVar 1) aNil)) (e2 dAdd (eC (.int 3)) (eC (.int 1)))))) sBad (sWp [1] sNil))
def t_look_at_letters_back_l1 : T := (tN 1)
def b_look_at_letters_back : S := (sSeq (sIf (bOr (bNot (bE (eIsa "tuple" (eVar 0)))) (bNot (bE (eChain dLe dLe (eC (.int 1)) (eCall dLen (aCons (eVar 0) aNil)) (eC (.int 200)))))) sBad sNil)
  (sFor (iWp [1] (iSeq (eVar 0))) t_look_at_letters_back_l1 b_look_at_letters_back_l1))
def f_look_at_letters_back : Fp := fnP 1 2 false b_look_at_letters_back
/- told_apart: 0 some, 1 low, 2 high, 3 one -/
def b_told_apart : S := (sSeq (sSet 1 (lE (eCall dMax (aCons (eN (nComp (iSeq (eVar 0)) (tN 3) bYes (e2 dIx (eVar 3) (eC (.int 0))) [3])) aNil))))
  (sSeq (sSet 2 (lE (eCall dMin (aCons (eN (nComp (iSeq (eVar 0)) (tN 3) bYes (e2 dIx (eVar 3) (eC (.int 1))) [3])) aNil))))
  (sSeq (sIf (bE (e2 dLe (eVar 1) (eVar 2))) (sRet (eTup (aCons (eC (.str "apart")) (aCons (eVar 1) (aCons (eVar 2) aNil))))) sNil)
  (sRet (eTup (aCons (eC (.str "never")) (aCons (eIndex (eN (nComp (iSeq (eVar 0)) (tN 3) bYes (e2 dIx (eVar 3) (eC (.int 0))) [3])) (eVar 1)) (aCons (eIndex (eN (nComp (iSeq (eVar 0)) (tN 3) bYes (e2 dIx (eVar 3) (eC (.int 1))) [3])) (eVar 2)) aNil))))))))
def f_told_apart : Fp := fnP 1 4 false b_told_apart
/- told_between: 0 times, 1 sent, 2 got_there, 3 sent_back, 4 got_back -/
def b_told_between : S := (sSeq (sAsg (eVar 0) (tT 4 (tsCons (tN 1) (tsCons (tN 2) (tsCons (tN 3) (tsCons (tN 4) tsNil))))))
  (sRet (eTup (aCons (e2 dSub (eVar 3) (eVar 4)) (aCons (e2 dSub (eVar 2) (eVar 1)) aNil)))))
def f_told_between : Fp := fnP 1 5 false b_told_between
/- clocks_apart: 0 exchanges, 1 times -/
def b_clocks_apart : S := (sSeq (sDrop (eCallP f_look_at_letters_back (aCons (eVar 0) aNil)))
  (sRet (eCallP f_told_apart (aCons (eN (nComp (iSeq (eVar 0)) (tN 1) bYes (eCallP f_told_between (aCons (eVar 1) aNil)) [1])) aNil))))
def f_clocks_apart : Fp := fnP 1 2 false b_clocks_apart
/- look_at_bounds: 0 many, 1 bounds, 2 bound -/
def b_look_at_bounds_l1 : S := (sSeq (sIf (bOr (bNot (bE (eCallP f_are_ints (aCons (eVar 2) (aCons (e1 dNeg (eC (.int 1000000000000))) (aCons (eC (.int 1000000000000)) aNil)))))) (bE (e2 dNe (eCall dLen (aCons (eVar 2) aNil)) (eC (.int 3))))) sBad sNil)
  (sIf (bNot (bE (eCallP f_are_ints (aCons (eSl dSl (eVar 2) oN (oS (eC (.int 2)))) (aCons (eC (.int 0)) (aCons (e2 dSub (eVar 0) (eC (.int 1))) aNil)))))) sBad (sWp [2] sNil)))
def t_look_at_bounds_l1 : T := (tN 2)
def b_look_at_bounds : S := (sSeq (sIf (bNot (bE (eCallP f_is_int (aCons (eVar 0) (aCons (eC (.int 1)) (aCons (eC (.int 30)) aNil)))))) sBad sNil)
  (sSeq (sIf (bOr (bNot (bE (eIsa "tuple" (eVar 1)))) (bE (e2 dGt (eCall dLen (aCons (eVar 1) aNil)) (eC (.int 200))))) sBad sNil)
  (sFor (iWp [2] (iSeq (eVar 1))) t_look_at_bounds_l1 b_look_at_bounds_l1)))
def f_look_at_bounds : Fp := fnP 2 3 false b_look_at_bounds
/- told_clocks: 0 many, 1 bounds, 2 shown, 3 ahead, 4 last, 5 lap, 6 ring, 7 here, 8 at, 9 one, 10 other, 11 most -/
def b_told_clocks_l2 : S := (sIf (bE (e2 dLt (e2 dAdd (e2 dIx (eVar 2) (eVar 9)) (eVar 11)) (e2 dIx (eVar 2) (eVar 10)))) (sWp [8, 9, 10, 11] (sAsg (eTup (aCons (e2 dAdd (e2 dIx (eVar 2) (eVar 9)) (eVar 11)) (aCons (eVar 8) (aCons (eVar 10) aNil)))) (tT 3 (tsCons (tPut 2 (eVar 10)) (tsCons (tPut 3 (eVar 10)) (tsCons (tN 4) tsNil)))))) (sWp [8, 9, 10, 11] sNil))
def t_told_clocks_l2 : T := (tT 2 (tsCons (tN 8) (tsCons (tT 3 (tsCons (tN 9) (tsCons (tN 10) (tsCons (tN 11) tsNil)))) tsNil)))
def b_told_clocks_l1 : S := (sSeq (sSet 4 (lE (eC .none)))
  (sWp [5, 8, 9, 10, 11] (sFor (iWp [8, 9, 10, 11] (iEnum (aCons (eVar 1) aNil))) t_told_clocks_l2 b_told_clocks_l2)))
def t_told_clocks_l1 : T := (tN 5)
def b_told_clocks_l3 : S := (sWp [5] (sSet 4 (lE (e2 dIx (e2 dIx (eVar 1) (e2 dIx (eVar 3) (eVar 4))) (eC (.int 0))))))
def t_told_clocks_l3 : T := (tN 5)
def b_told_clocks_l4 : S := (sSeq (sApp 6 (e2 dIx (eVar 3) (eVar 7)))
  (sSet 7 (lE (e2 dIx (e2 dIx (eVar 1) (e2 dIx (eVar 3) (eVar 7))) (eC (.int 0))))))
def t_told_clocks_l4 : B := (bOr (bE (e2 dEq (eVar 6) (eN (nLst aNil)))) (bE (e2 dNe (eVar 7) (eVar 4))))
def b_told_clocks : S := (sSeq (sPar [2, 3] (lsCons (lN (nRep (nLst (aCons (eC (.int 0)) aNil)) (eVar 0))) (lsCons (lN (nRep (nLst (aCons (eC .none) aNil)) (eVar 0))) lsNil)))
  (sSeq (sSet 4 (lE (eC .none)))
  (sSeq (sFz 3 (sFz 2 (sFor (iWp [5, 8, 9, 10, 11] (iRange (aCons (eVar 0) aNil))) t_told_clocks_l1 b_told_clocks_l1)))
  (sSeq (sIf (bE (e2 dIs (eVar 4) (eC .none))) (sRet (eTup (aCons (eC (.str "clocks")) (aCons (eCall dTuple (aCons (eVar 2) aNil)) aNil)))) sNil)
  (sSeq (sFor (iWp [5] (iRange (aCons (eVar 0) aNil))) t_told_clocks_l3 b_told_clocks_l3)
  (sSeq (sPar [6, 7] (lsCons (lN (nLst aNil)) (lsCons (lE (eVar 4)) lsNil)))
  (sSeq (sFz 6 (sWhile t_told_clocks_l4 b_told_clocks_l4))
  (sRet (eTup (aCons (eC (.str "ring")) (aCons (eCall dTuple (aCons (eN (nRev (eVar 6))) aNil)) aNil)))))))))))
def f_told_clocks : Fp := fnP 2 12 false b_told_clocks
/- clocks_for: 0 many, 1 bounds -/
def b_clocks_for : S := (sSeq (sDrop (eCallP f_look_at_bounds (aCons (eVar 0) (aCons (eVar 1) aNil))))
  (sRet (eCallP f_told_clocks (aCons (eVar 0) (aCons (eVar 1) aNil)))))
def f_clocks_for : Fp := fnP 2 2 false b_clocks_for
/- is_told: 0 value, 1 sizes -/
def b_is_told : S := (sRet (eAnd (eIsa "tuple" (eVar 0)) (eAnd (e2 dIn (eCall dLen (aCons (eVar 0) aNil)) (eVar 1)) (eIsa "str" (e2 dIx (eVar 0) (eC (.int 0)))))))
def f_is_told : Fp := fnP 2 2 false b_is_told
/- shows_clocks_for: 0 many, 1 bounds, 2 value, 3 some, 4 at, 5 one, 6 other, 7 most, 8 bound -/
def b_shows_clocks_for : S := (sSeq (sDrop (eCallP f_look_at_bounds (aCons (eVar 0) (aCons (eVar 1) aNil))))
  (sSeq (sIf (bNot (bE (eCallP f_is_told (aCons (eVar 2) (aCons (eTup (aCons (eC (.int 2)) aNil)) aNil))))) (sRet (eC (.bool false))) sNil)
  (sSeq (sIf (bE (e2 dEq (e2 dIx (eVar 2) (eC (.int 0))) (eC (.str "clocks")))) (sSeq (sIf (bOr (bNot (bE (eCallP f_are_ints (aCons (e2 dIx (eVar 2) (eC (.int 1))) (aCons (e2 dMul (e1 dNeg (eC (.int 200))) (eC (.int 1000000000000))) (aCons (e2 dMul (eC (.int 200)) (eC (.int 1000000000000))) aNil)))))) (bE (e2 dNe (eCall dLen (aCons (e2 dIx (eVar 2) (eC (.int 1))) aNil)) (eVar 0)))) (sRet (eC (.bool false))) sNil)
  (sRet (eCall dAll (aCons (eN (nComp (iSeq (eVar 1)) (tT 3 (tsCons (tN 5) (tsCons (tN 6) (tsCons (tN 7) tsNil)))) bYes (e2 dLe (e2 dSub (e2 dIx (e2 dIx (eVar 2) (eC (.int 1))) (eVar 6)) (e2 dIx (e2 dIx (eVar 2) (eC (.int 1))) (eVar 5))) (eVar 7)) [5, 6, 7])) aNil)))) sNil)
  (sSeq (sIf (bOr (bE (e2 dNe (e2 dIx (eVar 2) (eC (.int 0))) (eC (.str "ring")))) (bOr (bNot (bE (eCallP f_are_ints (aCons (e2 dIx (eVar 2) (eC (.int 1))) (aCons (eC (.int 0)) (aCons (e2 dSub (eCall dLen (aCons (eVar 1) aNil)) (eC (.int 1))) aNil)))))) (bE (e2 dEq (e2 dIx (eVar 2) (eC (.int 1))) (eTup aNil))))) (sRet (eC (.bool false))) sNil)
  (sSeq (sFz 3 (sSet 3 (lN (nComp (iSeq (e2 dIx (eVar 2) (eC (.int 1)))) (tN 4) bYes (e2 dIx (eVar 1) (eVar 4)) [4]))))
  (sSeq (sIf (bNot (bE (eCall dAll (aCons (eN (nComp (iZip (aCons (eVar 3) (aCons (eN (nLst (aStar (eSl dSl (eVar 3) (oS (eC (.int 1))) oN) (aCons (e2 dIx (eVar 3) (eC (.int 0))) aNil)))) aNil))) (tT 2 (tsCons (tN 5) (tsCons (tN 6) tsNil))) bYes (e2 dEq (e2 dIx (eVar 5) (eC (.int 1))) (e2 dIx (eVar 6) (eC (.int 0)))) [5, 6])) aNil)))) (sRet (eC (.bool false))) sNil)
  (sRet (e2 dLt (eCall dSum (aCons (eN (nComp (iSeq (eVar 3)) (tN 8) bYes (e2 dIx (eVar 8) (eC (.int 2))) [8])) aNil)) (eC (.int 0))))))))))
def f_shows_clocks_for : Fp := fnP 3 9 false b_shows_clocks_for
/- _law_are_letters_right: 0 letters, 1 told, 2 bounds, 3 sent, 4 there, 5 back, 6 home, 7 by_bounds, 8 words, 9 one, 10 shown, 11 ahead, 12 other, 13 word -/
def b__law_are_letters_right_l1 : S := (sWp [3, 4, 5, 6] (sSet 2 (lE (e2 dAdd (eVar 2) (eN (nLst (aCons (eTup (aCons (eC (.int 0)) (aCons (eC (.int 1)) (aCons (e2 dSub (eVar 4) (eVar 3)) aNil)))) (aCons (eTup (aCons (eC (.int 1)) (aCons (eC (.int 0)) (aCons (e2 dSub (eVar 6) (eVar 5)) aNil)))) aNil))))))))
def t__law_are_letters_right_l1 : T := (tT 4 (tsCons (tN 3) (tsCons (tN 4) (tsCons (tN 5) (tsCons (tN 6) tsNil)))))
def b__law_are_letters_right_l2 : S := (sIf (bE (e2 dIsNot (eCallP f_shows_clocks_for (aCons (eC (.int 2)) (aCons (eCall dTuple (aCons (eVar 2) aNil)) (aCons (eTup (aCons (eC (.str "clocks")) (aCons (eTup (aCons (eC (.int 0)) (aCons (eVar 11) aNil))) aNil))) aNil)))) (eC (.bool true)))) (sRet (eC (.bool false))) (sWp [11] sNil))
def t__law_are_letters_right_l2 : T := (tN 11)
def b__law_are_letters_right_l3 : S := (sIf (bE (e2 dIsNot (eCallP f_shows_clocks_for (aCons (eC (.int 2)) (aCons (eCall dTuple (aCons (eVar 2) aNil)) (aCons (eTup (aCons (eC (.str "clocks")) (aCons (eTup (aCons (eC (.int 0)) (aCons (eVar 11) aNil))) aNil))) aNil)))) (eC (.bool false)))) (sRet (eC (.bool false))) (sWp [11] sNil))
def t__law_are_letters_right_l3 : T := (tN 11)
def b__law_are_letters_right_l4 : S := (sWp [9] (sExt 8 (eN (nComp (iSeq (eVar 0)) (tN 12) bYes (e2 dIx (eCallP f_clocks_apart (aCons (eTup (aCons (eVar 9) (aCons (eVar 12) aNil))) aNil)) (eC (.int 0))) [12]))))
def t__law_are_letters_right_l4 : T := (tN 9)
def b__law_are_letters_right : S := (sSeq (sPar [1, 2] (lsCons (lE (eCallP f_clocks_apart (aCons (eVar 0) aNil))) (lsCons (lE (eN (nLst aNil))) lsNil)))
  (sSeq (sFor (iWp [3, 4, 5, 6] (iSeq (eVar 0))) t__law_are_letters_right_l1 b__law_are_letters_right_l1)
  (sSeq (sSet 7 (lE (eCallP f_clocks_for (aCons (eC (.int 2)) (aCons (eCall dTuple (aCons (eVar 2) aNil)) aNil)))))
  (sSeq (sIf (bE (e2 dNe (e2 dEq (e2 dIx (eVar 1) (eC (.int 0))) (eC (.str "apart"))) (e2 dEq (e2 dIx (eVar 7) (eC (.int 0))) (eC (.str "clocks"))))) (sRet (eC (.bool false))) sNil)
  (sSeq (sIf (bE (e2 dEq (e2 dIx (eVar 1) (eC (.int 0))) (eC (.str "apart")))) (sSeq (sSet 10 (lE (e2 dIx (eVar 7) (eC (.int 1)))))
  (sSeq (sIf (bNot (bE (eChain dLe dLe (e2 dIx (eVar 1) (eC (.int 1))) (e2 dSub (e2 dIx (eVar 10) (eC (.int 1))) (e2 dIx (eVar 10) (eC (.int 0)))) (e2 dIx (eVar 1) (eC (.int 2)))))) (sRet (eC (.bool false))) sNil)
  (sSeq (sFor (iWp [11] (iSeq (eTup (aCons (e2 dIx (eVar 1) (eC (.int 1))) (aCons (e2 dIx (eVar 1) (eC (.int 2))) aNil))))) t__law_are_letters_right_l2 b__law_are_letters_right_l2)
  (sFor (iWp [11] (iSeq (eTup (aCons (e2 dSub (e2 dIx (eVar 1) (eC (.int 1))) (eC (.int 1))) (aCons (e2 dAdd (e2 dIx (eVar 1) (eC (.int 2))) (eC (.int 1))) aNil))))) t__law_are_letters_right_l3 b__law_are_letters_right_l3)))) sNil)
  (sSeq (sSet 8 (lN (nLst aNil)))
  (sSeq (sFz 8 (sFor (iWp [9] (iSeq (eVar 0))) t__law_are_letters_right_l4 b__law_are_letters_right_l4))
  (sRet (e2 dEq (eCall dAll (aCons (eN (nComp (iSeq (eVar 8)) (tN 13) bYes (e2 dEq (eVar 13) (eC (.str "apart"))) [13])) aNil)) (e2 dEq (e2 dIx (eVar 1) (eC (.int 0))) (eC (.str "apart"))))))))))))
def f__law_are_letters_right : Fp := fnP 1 14 false b__law_are_letters_right
/- _law_take: 0 pot, 1 upto, 2 prime, 3 blend, 4 digit -/
def b__law_take : S := (sSeq (sIf (bE (e2 dGt (e2 dIx (eVar 0) (eC (.int 0))) (eC (.int 0)))) (sSeq (sSet 4 (lE (e2 dMod (eCall dInt (aCons (e2 dIx (eVar 0) (eC (.int 0))) aNil)) (eVar 1))))
  (sSeq (sPut 0 (e2 dFdiv (e2 dIx (eVar 0) (eC (.int 0))) (eVar 1)) (eC (.int 0)))
  (sRet (eVar 4)))) sNil)
  (sSeq (sPut 0 (e2 dAdd (e2 dIx (eVar 0) (eC (.int 2))) (eC (.int 1))) (eC (.int 2)))
  (sSeq (sSet 2 (lE (e2 dIx (eN (nLst (aCons (eC (.int 2147483647)) (aCons (eC (.int 2147483629)) (aCons (eC (.int 2147483587)) (aCons (eC (.int 2147483579)) (aCons (eC (.int 2147483563)) aNil))))))) (e2 dMod (eCall dInt (aCons (e2 dIx (eVar 0) (eC (.int 2))) aNil)) (eC (.int 5))))))
  (sSeq (sSet 3 (lE (e2 dMod (eCall dInt (aCons (e2 dPow (eCall dInt (aCons (e2 dAdd (e2 dAdd (e2 dIx (eVar 0) (eC (.int 1))) (e2 dMul (e2 dMul (eC (.int 101807)) (e2 dIx (eVar 0) (eC (.int 2)))) (e2 dIx (eVar 0) (eC (.int 2))))) (eC (.int 3793))) aNil)) (eC (.int 3))) aNil)) (eVar 2))))
  (sSeq (sSet 3 (lE (e2 dMod (eCall dInt (aCons (e2 dMul (eVar 3) (e2 dAdd (e2 dMod (eCall dInt (aCons (eVar 3) aNil)) (eC (.int 13033))) (e2 dMul (eC (.int 419)) (e2 dIx (eVar 0) (eC (.int 2)))))) aNil)) (eC (.int 2305843009213693907)))))
  (sRet (e2 dMod (eCall dInt (aCons (e2 dFdiv (eVar 3) (eC (.int 257))) aNil)) (eVar 1))))))))
def f__law_take : Fi := fnI 2 5 false b__law_take
/- _law_of: 0 pot, 1 some -/
def b__law_of : S := (sRet (e2 dIx (eVar 1) (eCallI f__law_take 0 (aCons (eCall dLen (aCons (eVar 1) aNil)) aNil))))
def f__law_of : Fi := fnI 2 2 false b__law_of
/- _law_letters_drawn: 0 pot, 1 upto, 2 ahead, 3 found, 4 lap, 5 sent, 6 there, 7 back -/
def b__law_letters_drawn_l1 : S := (sSeq (sSet 5 (lE (eCall dInt (aCons (eCallI f__law_take 0 (aCons (e2 dPow (eC (.int 10)) (eC (.int 6))) aNil)) aNil))))
  (sSeq (sSet 6 (lE (e2 dSub (e2 dAdd (e2 dAdd (eVar 5) (eVar 2)) (eCall dInt (aCons (eCallI f__law_take 0 (aCons (eVar 1) aNil)) aNil))) (e2 dFdiv (eCall dInt (aCons (eCallI f__law_take 0 (aCons (eC (.int 4)) aNil)) aNil)) (eC (.int 3))))))
  (sSeq (sSet 7 (lE (e2 dAdd (eVar 6) (eCall dInt (aCons (eCallI f__law_take 0 (aCons (eC (.int 99)) aNil)) aNil)))))
  (sWp [4, 5, 6, 7] (sApp 3 (eTup (aCons (eVar 5) (aCons (eVar 6) (aCons (eVar 7) (aCons (e2 dAdd (e2 dSub (eVar 7) (eVar 2)) (eCall dInt (aCons (eCallI f__law_take 0 (aCons (eVar 1) aNil)) aNil))) aNil))))))))))
def t__law_letters_drawn_l1 : T := (tN 4)
def b__law_letters_drawn : S := (sSeq (sSet 1 (lE (eCallI f__law_of 0 (aCons (eN (nLst (aCons (eC (.int 4)) (aCons (eC (.int 30)) (aCons (e2 dPow (eC (.int 10)) (eC (.int 9))) aNil))))) aNil))))
  (sSeq (sPar [2, 3] (lsCons (lE (e2 dSub (eCall dInt (aCons (eCallI f__law_take 0 (aCons (e2 dAdd (e2 dMul (eC (.int 2)) (eVar 1)) (eC (.int 1))) aNil)) aNil)) (eVar 1))) (lsCons (lN (nLst aNil)) lsNil)))
  (sSeq (sFz 3 (sFor (iWp [4, 5, 6, 7] (iRange (aCons (e2 dAdd (eC (.int 1)) (eCallI f__law_take 0 (aCons (eC (.int 5)) aNil))) aNil))) t__law_letters_drawn_l1 b__law_letters_drawn_l1))
  (sRet (eCall dTuple (aCons (eVar 3) aNil))))))
def f__law_letters_drawn : Fi := fnI 1 8 false b__law_letters_drawn
/- look_at_spans: 0 spans, 1 span -/
def b_look_at_spans_l1 : S := (sIf (bOr (bNot (bE (eCallP f_are_ints (aCons (eVar 1) (aCons (e1 dNeg (eC (.int 1000000000000))) (aCons (eC (.int 1000000000000)) aNil)))))) (bOr (bE (e2 dNe (eCall dLen (aCons (eVar 1) aNil)) (eC (.int 2)))) (bE (e2 dGt (e2 dIx (eVar 1) (eC (.int 0))) (e2 dIx (eVar 1) (eC (.int 1))))))) sBad (sWp [1] sNil))
def t_look_at_spans_l1 : T := (tN 1)
def b_look_at_spans : S := (sSeq (sIf (bOr (bNot (bE (eIsa "tuple" (eVar 0)))) (bNot (bE (eChain dLe dLe (eC (.int 1)) (eCall dLen (aCons (eVar 0) aNil)) (eC (.int 200)))))) sBad sNil)
  (sFor (iWp [1] (iSeq (eVar 0))) t_look_at_spans_l1 b_look_at_spans_l1))
def f_look_at_spans : Fp := fnP 1 2 false b_look_at_spans
/- most_agree: 0 spans, 1 best, 2 low, 3 some, 4 span -/
def b_most_agree_l1 : S := (sSeq (sFz 3 (sSet 3 (lN (nComp (iSeq (eVar 0)) (tN 4) (bE (eChain dLe dLe (e2 dIx (eVar 4) (eC (.int 0))) (eVar 2) (e2 dIx (eVar 4) (eC (.int 1))))) (eVar 4) [4]))))
  (sIf (bE (e2 dGt (eCall dLen (aCons (eVar 3) aNil)) (e2 dIx (eVar 1) (eC (.int 0))))) (sWp [2, 3] (sSet 1 (lE (eTup (aCons (eCall dLen (aCons (eVar 3) aNil)) (aCons (eVar 2) (aCons (eCall dMin (aCons (eN (nComp (iSeq (eVar 3)) (tN 4) bYes (e2 dIx (eVar 4) (eC (.int 1))) [4])) aNil)) aNil))))))) (sWp [2, 3] sNil)))
def t_most_agree_l1 : T := (tN 2)
def b_most_agree : S := (sSeq (sDrop (eCallP f_look_at_spans (aCons (eVar 0) aNil)))
  (sSeq (sSet 1 (lE (eTup (aCons (eC (.int 0)) (aCons (eC (.int 0)) (aCons (eC (.int 0)) aNil))))))
  (sSeq (sFor (iWp [2, 3] (iSeq (eN (nSsetIL (eN (nComp (iSeq (eVar 0)) (tN 4) bYes (e2 dIx (eVar 4) (eC (.int 0))) [4])))))) t_most_agree_l1 b_most_agree_l1)
  (sRet (eVar 1)))))
def f_most_agree : Fp := fnP 1 5 false b_most_agree
/- told_points: 0 spans, 1 points, 2 lone, 3 high, 4 low, 5 at, 6 span -/
def b_told_points_l1 : S := (sIf (bOr (bE (e2 dEq (eVar 1) (eN (nLst aNil)))) (bE (e2 dLt (e2 dIx (eVar 1) (e1 dNeg (eC (.int 1)))) (eVar 4)))) (sSeq (sApp 1 (eVar 3))
  (sWp [3, 4, 5] (sApp 2 (eVar 5)))) (sWp [3, 4, 5] sNil))
def t_told_points_l1 : T := (tT 3 (tsCons (tN 3) (tsCons (tN 4) (tsCons (tN 5) tsNil))))
def b_told_points : S := (sSeq (sPar [1, 2] (lsCons (lN (nLst aNil)) (lsCons (lN (nLst aNil)) lsNil)))
  (sSeq (sFz 2 (sFz 1 (sFor (iWp [3, 4, 5] (iSeq (eN (nCall dSorted (aCons (eN (nComp (iEnum (aCons (eVar 0) aNil)) (tT 2 (tsCons (tN 5) (tsCons (tN 6) tsNil))) bYes (eTup (aCons (e2 dIx (eVar 6) (eC (.int 1))) (aCons (e2 dIx (eVar 6) (eC (.int 0))) (aCons (eVar 5) aNil)))) [5, 6])) aNil))))) t_told_points_l1 b_told_points_l1)))
  (sRet (eTup (aCons (eCall dTuple (aCons (eVar 1) aNil)) (aCons (eCall dTuple (aCons (eN (nCall dSorted (aCons (eVar 2) aNil))) aNil)) aNil))))))
def f_told_points : Fp := fnP 1 7 false b_told_points
/- fewest_numbers: 0 spans -/
def b_fewest_numbers : S := (sSeq (sDrop (eCallP f_look_at_spans (aCons (eVar 0) aNil)))
  (sRet (eCallP f_told_points (aCons (eVar 0) aNil))))
def f_fewest_numbers : Fp := fnP 1 1 false b_fewest_numbers
/- _law_are_spans_right: 0 pot, 1 spans, 2 lap, 3 most, 4 first, 5 last, 6 points, 7 lone, 8 more, 9 low, 10 number, 11 one -/
def b__law_are_spans_right_l1 : S := (sSeq (sSet 9 (lE (e2 dSub (eCall dInt (aCons (eCallI f__law_take 0 (aCons (eC (.int 40)) aNil)) aNil)) (eC (.int 20)))))
  (sWp [2, 9] (sApp 1 (eTup (aCons (eVar 9) (aCons (e2 dAdd (eVar 9) (eCall dInt (aCons (eCallI f__law_take 0 (aCons (eC (.int 12)) aNil)) aNil))) aNil))))))
def t__law_are_spans_right_l1 : T := (tN 2)
def b__law_are_spans_right : S := (sSeq (sSet 1 (lN (nLst aNil)))
  (sSeq (sFz 1 (sFor (iWp [2, 9] (iRange (aCons (e2 dAdd (eC (.int 1)) (eCallI f__law_take 0 (aCons (eC (.int 9)) aNil))) aNil))) t__law_are_spans_right_l1 b__law_are_spans_right_l1))
  (sSeq (sSet 1 (lE (eCall dTuple (aCons (eVar 1) aNil))))
  (sSeq (sAsg (eCallP f_most_agree (aCons (eVar 1) aNil)) (tT 3 (tsCons (tN 3) (tsCons (tN 4) (tsCons (tN 5) tsNil)))))
  (sSeq (sAsg (eCallP f_fewest_numbers (aCons (eVar 1) aNil)) (tT 2 (tsCons (tN 6) (tsCons (tN 7) tsNil))))
  (sSeq (sIf (bOr (bE (e2 dNe (e2 dEq (eVar 3) (eCall dLen (aCons (eVar 1) aNil))) (e2 dEq (eCall dLen (aCons (eVar 6) aNil)) (eC (.int 1))))) (bE (e2 dLt (e2 dMul (eCall dLen (aCons (eVar 6) aNil)) (eVar 3)) (eCall dLen (aCons (eVar 1) aNil))))) (sRet (eC (.bool false))) sNil)
  (sSeq (sIf (bE (eCall dAny (aCons (eN (nComp (iSeq (eTup (aCons (eVar 4) (aCons (eVar 5) aNil)))) (tN 10) bYes (e2 dNe (eCall dLen (aCons (eN (nComp (iSeq (eVar 1)) (tN 11) (bE (eChain dLe dLe (e2 dIx (eVar 11) (eC (.int 0))) (eVar 10) (e2 dIx (eVar 11) (eC (.int 1))))) (eVar 11) [11])) aNil)) (eVar 3)) [10])) aNil))) (sRet (eC (.bool false))) sNil)
  (sSeq (sSet 8 (lE (eCallP f_fewest_numbers (aCons (e2 dAdd (eVar 1) (eTup (aCons (eTup (aCons (eC (.int 100)) (aCons (eC (.int 101)) aNil))) aNil))) aNil))))
  (sSeq (sIf (bE (e2 dNe (eCall dLen (aCons (e2 dIx (eVar 8) (eC (.int 0))) aNil)) (e2 dAdd (eCall dLen (aCons (eVar 6) aNil)) (eC (.int 1))))) (sRet (eC (.bool false))) sNil)
  (sRet (e2 dEq (eCall dLen (aCons (e2 dIx (eCallP f_fewest_numbers (aCons (e2 dAdd (eVar 1) (eTup (aCons (e2 dIx (eVar 1) (eC (.int 0))) aNil))) aNil)) (eC (.int 0))) aNil)) (eCall dLen (aCons (eVar 6) aNil)))))))))))))
def f__law_are_spans_right : Fi := fnI 1 12 false b__law_are_spans_right
/- _law_some: 0 pot, 1 pool, 2 many, 3 rests, 4 found, 5 lap -/
def b__law_some_l1 : S := (sWp [5] (sApp 4 (ePopAt 3 (eCallI f__law_take 0 (aCons (eCall dLen (aCons (eVar 3) aNil)) aNil)))))
def t__law_some_l1 : T := (tN 5)
def b__law_some : S := (sSeq (sPar [3, 4] (lsCons (lN (nCall dList (aCons (eVar 1) aNil))) (lsCons (lN (nLst aNil)) lsNil)))
  (sSeq (sFz 4 (sFor (iWp [5] (iRange (aCons (eVar 2) aNil))) t__law_some_l1 b__law_some_l1))
  (sRet (eVar 4))))
def f__law_some : Fi := fnI 3 6 false b__law_some
/- _law_are_bounds_right: 0 pot, 1 many, 2 bounds, 3 shown, 4 lap, 5 told, 6 on, 7 turned, 8 back, 9 negative, 10 some, 11 clocks, 12 order, 13 ring, 14 one, 15 other, 16 word, 17 found, 18 clock, 19 end, 20 most, 21 at, 22 bound -/
def b__law_are_bounds_right_l1 : S := (sSeq (sAsg (eN (nComp (iRange (aCons (eC (.int 2)) aNil)) (tN 19) bYes (eCall dInt (aCons (eCallI f__law_take 0 (aCons (eVar 1) aNil)) aNil)) [19])) (tL 2 (tsCons (tN 14) (tsCons (tN 15) tsNil))))
  (sWp [4, 14, 15] (sApp 2 (eTup (aCons (eVar 14) (aCons (eVar 15) (aCons (e2 dAdd (e2 dSub (e2 dIx (eVar 3) (eVar 15)) (e2 dIx (eVar 3) (eVar 14))) (eCall dInt (aCons (eCallI f__law_take 0 (aCons (eC (.int 5)) aNil)) aNil))) aNil)))))))
def t__law_are_bounds_right_l1 : T := (tN 4)
def b__law_are_bounds_right_l2 : S := (sIf (bOr (bE (e2 dIsNot (eCallP f_shows_clocks_for (aCons (eVar 1) (aCons (eVar 10) (aCons (eTup (aCons (eC (.str "clocks")) (aCons (eVar 11) aNil))) aNil)))) (eC (.bool true)))) (bE (e2 dNe (e2 dIx (eCallP f_clocks_for (aCons (eVar 1) (aCons (eVar 10) aNil))) (eC (.int 0))) (eC (.str "clocks"))))) (sRet (eC (.bool false))) (sWp [10, 11] sNil))
def t__law_are_bounds_right_l2 : T := (tT 2 (tsCons (tN 10) (tsCons (tN 11) tsNil)))
def b__law_are_bounds_right_l3 : S := (sWp [14, 15] (sApp 13 (eTup (aCons (eVar 14) (aCons (eVar 15) (aCons (e2 dSub (e2 dIx (eVar 3) (eVar 15)) (e2 dIx (eVar 3) (eVar 14))) aNil))))))
def t__law_are_bounds_right_l3 : T := (tT 2 (tsCons (tN 14) (tsCons (tN 15) tsNil)))
def b__law_are_bounds_right : S := (sSeq (sPar [1, 2] (lsCons (lE (e2 dAdd (eC (.int 2)) (eCall dInt (aCons (eCallI f__law_take 0 (aCons (eC (.int 8)) aNil)) aNil)))) (lsCons (lN (nLst aNil)) lsNil)))
  (sSeq (sFz 3 (sSet 3 (lN (nComp (iRange (aCons (eVar 1) aNil)) (tN 18) bYes (eCall dInt (aCons (eCallI f__law_take 0 (aCons (eC (.int 999)) aNil)) aNil)) [18]))))
  (sSeq (sFz 2 (sFor (iWp [4, 14, 15] (iRange (aCons (eCallI f__law_take 0 (aCons (eC (.int 16)) aNil)) aNil))) t__law_are_bounds_right_l1 b__law_are_bounds_right_l1))
  (sSeq (sAsg (eTup (aCons (eCall dTuple (aCons (eVar 2) aNil)) (aCons (eCallP f_clocks_for (aCons (eVar 1) (aCons (eCall dTuple (aCons (eVar 2) aNil)) aNil))) aNil))) (tT 2 (tsCons (tN 2) (tsCons (tN 5) tsNil))))
  (sSeq (sIf (bE (e2 dNe (e2 dIx (eVar 5) (eC (.int 0))) (eC (.str "clocks")))) (sRet (eC (.bool false))) sNil)
  (sSeq (sSet 6 (lE (eCall dInt (aCons (eCallI f__law_take 0 (aCons (e2 dPow (eC (.int 10)) (eC (.int 6))) aNil)) aNil))))
  (sSeq (sSet 7 (lE (eCall dTuple (aCons (eN (nComp (iSeq (e2 dIx (eVar 5) (eC (.int 1)))) (tN 14) bYes (e2 dAdd (eVar 14) (eVar 6)) [14])) aNil))))
  (sSeq (sSet 8 (lE (eCall dTuple (aCons (eN (nComp (iSeq (eVar 2)) (tT 3 (tsCons (tN 14) (tsCons (tN 15) (tsCons (tN 20) tsNil)))) bYes (eTup (aCons (eVar 15) (aCons (eVar 14) (aCons (eVar 20) aNil)))) [14, 15, 20])) aNil))))
  (sSeq (sSet 9 (lE (eCall dTuple (aCons (eN (nComp (iSeq (e2 dIx (eVar 5) (eC (.int 1)))) (tN 14) bYes (e1 dNeg (eVar 14)) [14])) aNil))))
  (sSeq (sFor (iWp [10, 11] (iSeq (eTup (aCons (eTup (aCons (eVar 2) (aCons (eVar 7) aNil))) (aCons (eTup (aCons (eVar 8) (aCons (eVar 9) aNil))) (aCons (eTup (aCons (eSl dSl (eVar 2) (oS (eC (.int 1))) oN) (aCons (e2 dIx (eVar 5) (eC (.int 1))) aNil))) (aCons (eTup (aCons (eVar 2) (aCons (eCall dTuple (aCons (eVar 3) aNil)) aNil))) aNil))))))) t__law_are_bounds_right_l2 b__law_are_bounds_right_l2)
  (sSeq (sFz 12 (sSet 12 (lN (nComp (iSeq (eCallI f__law_some 0 (aCons (eN (nListRg1 (eVar 1))) (aCons (eVar 1) aNil)))) (tN 18) bYes (eCall dInt (aCons (eVar 18) aNil)) [18]))))
  (sSeq (sSet 13 (lN (nLst aNil)))
  (sSeq (sFor (iWp [14, 15] (iZip (aCons (eVar 12) (aCons (e2 dAdd (eSl dSl (eVar 12) (oS (eC (.int 1))) oN) (eSl dSl (eVar 12) oN (oS (eC (.int 1))))) aNil)))) t__law_are_bounds_right_l3 b__law_are_bounds_right_l3)
  (sSeq (sIf (bE (e2 dNe (e2 dIx (eCallP f_clocks_for (aCons (eVar 1) (aCons (e2 dAdd (eVar 2) (eCall dTuple (aCons (eVar 13) aNil))) aNil))) (eC (.int 0))) (eC (.str "clocks")))) (sRet (eC (.bool false))) sNil)
  (sSeq (sFz 13 (sPut 13 (eTup (aCons (e2 dIx (e2 dIx (eVar 13) (eC (.int 0))) (eC (.int 0))) (aCons (e2 dIx (e2 dIx (eVar 13) (eC (.int 0))) (eC (.int 1))) (aCons (e2 dSub (e2 dIx (e2 dIx (eVar 13) (eC (.int 0))) (eC (.int 2))) (eC (.int 1))) aNil)))) (eC (.int 0))))
  (sSeq (sAsg (eCallP f_clocks_for (aCons (eVar 1) (aCons (e2 dAdd (eVar 2) (eCall dTuple (aCons (eVar 13) aNil))) aNil))) (tT 2 (tsCons (tN 16) (tsCons (tN 17) tsNil))))
  (sSeq (sSet 10 (lE (eIf (bE (e2 dEq (eVar 16) (eC (.str "ring")))) (eN (nComp (iSeq (eVar 17)) (tN 21) bYes (e2 dIx (e2 dAdd (eVar 2) (eCall dTuple (aCons (eVar 13) aNil))) (eVar 21)) [21])) (eN (nLst aNil)))))
  (sSeq (sIf (bOr (bE (e2 dEq (eVar 10) (eN (nLst aNil)))) (bE (e2 dGe (eCall dSum (aCons (eN (nComp (iSeq (eVar 10)) (tN 22) bYes (e2 dIx (eVar 22) (eC (.int 2))) [22])) aNil)) (eC (.int 0))))) (sRet (eC (.bool false))) sNil)
  (sRet (eCall dAll (aCons (eN (nComp (iZip (aCons (eVar 10) (aCons (e2 dAdd (eSl dSl (eVar 10) (oS (eC (.int 1))) oN) (eSl dSl (eVar 10) oN (oS (eC (.int 1))))) aNil))) (tT 2 (tsCons (tN 14) (tsCons (tN 15) tsNil))) bYes (e2 dEq (e2 dIx (eVar 14) (eC (.int 1))) (e2 dIx (eVar 15) (eC (.int 0)))) [14, 15])) aNil)))))))))))))))))))))
def f__law_are_bounds_right : Fi := fnI 1 23 false b__law_are_bounds_right
/- _law_right: 0 pot, 1 lap -/
def b__law_right_l1 : S := (sSeq (sIf (bOr (bNot (bE (eCallP f__law_are_letters_right (aCons (eCallI f__law_letters_drawn 0 aNil) aNil)))) (bNot (bE (eCallI f__law_are_spans_right 0 aNil)))) (sRet (eC (.bool false))) sNil)
  (sIf (bNot (bE (eCallI f__law_are_bounds_right 0 aNil))) (sRet (eC (.bool false))) (sWp [1] sNil)))
def t__law_right_l1 : T := (tN 1)
def b__law_right : S := (sSeq (sFor (iWp [1] (iRange (aCons (eC (.int 8)) aNil))) t__law_right_l1 b__law_right_l1)
  (sRet (eC (.bool true))))
def f__law_right : Fi := fnI 1 2 false b__law_right
/- _law_pot: 0 script, 1 place, 2 cell, 3 own, 4 small -/
def b__law_pot : S := (sSeq (sSet 2 (lE (eIf (bE (e2 dLt (eVar 1) (eCall dLen (aCons (eVar 0) aNil)))) (e2 dIx (eVar 0) (eVar 1)) (e2 dAdd (e2 dAdd (e2 dMod (eCall dInt (aCons (eCall dSum (aCons (eSl dSl (eVar 0) oN (oS (eC (.int 1)))) aNil)) aNil)) (eC (.int 1000231))) (e2 dMul (eC (.int 6329)) (eVar 1))) (eC (.int 3793))))))
  (sSeq (sSet 3 (lE (e2 dMul (e2 dMod (eCall dInt (aCons (eCall dAbs (aCons (eVar 2) aNil)) aNil)) (e2 dPow (e2 dPow (eC (.int 10)) (eC (.int 60))) (eC (.int 5)))) (eCall dInt (aCons (e2 dGe (eCall dAbs (aCons (eVar 2) aNil)) (e2 dPow (eC (.int 10)) (eC (.int 18)))) aNil)))))
  (sSeq (sSet 4 (lE (e2 dMod (eCall dInt (aCons (eVar 2) aNil)) (eC (.int 2305843009213693951)))))
  (sRetN (nLst (aCons (eVar 3) (aCons (e2 dMod (eCall dInt (aCons (e2 dAdd (e2 dAdd (e2 dMul (eVar 4) (eC (.int 91009))) (e2 dMul (e2 dMul (eC (.int 12653)) (eVar 1)) (eVar 1))) (eC (.int 3301))) aNil)) (eC (.int 2305843009213693921))) (aCons (eC (.int 0)) aNil))))))))
def f__law_pot : Fp := fnP 2 5 true b__law_pot
/- law: 0 script, 1 at -/
def b_law : S := (sRet (eCall dAll (aCons (eN (nComp (iSeq (eCallP f__law_cells (aCons (eVar 0) (aCons (eC (.int 3)) aNil)))) (tN 1) bYes (eCallN f__law_right (nCallP f__law_pot (aCons (eVar 0) (aCons (eVar 1) aNil))) aNil) [1])) aNil)))
def f_law : Fp := fnP 1 2 false b_law
end
end Wk
set_option Elab.async false
set_option linter.all false
set_option maxRecDepth 100000
set_option maxHeartbeats 4000000
namespace Wk
open PySem L3
noncomputable section
/-! _law_cells -/
def n__law_cells (script_1 : (List Int)) (most_2 : Int) : Option ((List Int)) :=
  (lrange1 (max (1 : Int) (min most_2 (script_1.length : Int)))).bind fun v_3 => some v_3
theorem c__law_cells {script_1 : (List Int)} {most_2 : Int} {r : (List Int)} (h : n__law_cells script_1 most_2 = some r) : f__law_cells [(xL xI) script_1, xI most_2] = some ((xL xI) r) := by
  unfold n__law_cells at h
  refine fn_rt rfl ?_
  show Go .top b__law_cells [some (.val ((xL xI) script_1)), some (.val (xI most_2))] (.rt ((xL xI) r) none)
  unfold b__law_cells
  obtain ⟨v_3, hv_3, h⟩ := bx h
  have e := Option.some.inj h; subst e; exact (go_ret (ρ1 := [some (.val ((xL xI) script_1)), some (.val (xI most_2))]) (ev_N (nv_lrange1 (ev_call (Av.aw (av_cons (ev_c (d := xI 1)) (av_cons (ev_call (Av.aw (av_cons (ev_v (d := xI most_2) rfl) (av_cons (ev_call (Av.aw (av_cons (ev_v (d := (xL xI) script_1) rfl) av_nil)) (len_L xI _)) av_nil))) (min2_e _ _ )) av_nil))) (max2_e _ _ )) hv_3)) trivial)
/-! is_int -/
def n_is_int (value_1 : D) (low_2 : Int) (high_3 : Int) : Option (Bool) :=
  (andN ((xD value_1 : D).isInt) ((andN (!((xD value_1 : D).isBool)) ((unI value_1).bind fun v_4 => some ((decide (low_2 ≤ v_4)) && (decide (v_4 ≤ high_3))))).bind fun q_5 => some q_5)).bind fun q_6 => some q_6
theorem c_is_int {value_1 : D} {low_2 : Int} {high_3 : Int} {r : Bool} (h : n_is_int value_1 low_2 high_3 = some r) : f_is_int [xD value_1, xI low_2, xI high_3] = some (xB r) := by
  unfold n_is_int at h
  refine fn_rt rfl ?_
  show Go .top b_is_int [some (.val (xD value_1)), some (.val (xI low_2)), some (.val (xI high_3))] (.rt (xB r) none)
  unfold b_is_int
  obtain ⟨q_6, hq_6, h⟩ := bx h
  have e := Option.some.inj h; subst e; exact (go_ret (ρ1 := [some (.val (xD value_1)), some (.val (xI low_2)), some (.val (xI high_3))]) (ev_andN (ev_isa (Ev.vw (ev_v (d := xD value_1) rfl)) rfl) (fun q hq => by obtain ⟨q_5, hq_5, hq⟩ := bx hq; have e := Option.some.inj hq; subst e; exact (ev_andN (ev_not (ev_isa (Ev.vw (ev_v (d := xD value_1) rfl)) rfl)) (fun q hq => by obtain ⟨v_4, hv_4, hq⟩ := bx hq; have e := Option.some.inj hq; subst e; exact (ev_chainV (Ev.vw (ev_v (d := xI low_2) rfl)) (Ev.vw (Ev.to (ev_v (d := xD value_1) rfl) (unI_e hv_4))) (Ev.vw (ev_v (d := xI high_3) rfl)) (le_i _ _) (le_i _ _))) hq_5)) hq_6) trivial)
/-! are_ints -/
def n_are_ints (value_1 : D) (low_2 : Int) (high_3 : Int) : Option (Bool) :=
  (andN ((xD value_1 : D).isTuple) ((itemsOf value_1).bind fun ds_4 => (compN (fun (x_5 : D) => some true) (fun (x_5 : D) => (n_is_int x_5 low_2 high_3).bind fun v_6 => some v_6) ds_4).bind fun v_7 => some (v_7.all id))).bind fun q_8 => some q_8
theorem c_are_ints {value_1 : D} {low_2 : Int} {high_3 : Int} {r : Bool} (h : n_are_ints value_1 low_2 high_3 = some r) : f_are_ints [xD value_1, xI low_2, xI high_3] = some (xB r) := by
  unfold n_are_ints at h
  refine fn_rt rfl ?_
  show Go .top b_are_ints [some (.val (xD value_1)), some (.val (xI low_2)), some (.val (xI high_3)), none] (.rt (xB r) none)
  unfold b_are_ints
  obtain ⟨q_8, hq_8, h⟩ := bx h
  have e := Option.some.inj h; subst e; exact (go_ret (ρ1 := [some (.val (xD value_1)), some (.val (xI low_2)), some (.val (xI high_3)), none]) (ev_andN (ev_isa (Ev.vw (ev_v (d := xD value_1) rfl)) rfl) (fun q hq => by obtain ⟨ds_4, hds_4, hq⟩ := bx hq; obtain ⟨v_7, hv_7, hq⟩ := bx hq; have e := Option.some.inj hq; subst e; exact (ev_call (Av.aw (av_cons (ev_N (nv_compM (e := xD) (e' := xB) (ρb := fun x_5 => [some (.val (xD value_1)), some (.val (xI low_2)), some (.val (xI high_3)), some (.val (xD x_5))]) (iv_seqD (ev_v (d := xD value_1) rfl) hds_4) rfl (fun _ => rfl) (fun x_5 q hq => by have e := Option.some.inj hq; subst e; exact rfl) (fun x_5 y hq => by obtain ⟨v_6, hv_6, hq⟩ := bx hq; have e := Option.some.inj hq; subst e; exact (ev_callPz (av_cons (ev_v (d := xD x_5) rfl) (av_cons (ev_v (d := xI low_2) rfl) (av_cons (ev_v (d := xI high_3) rfl) av_nil))) (c_is_int hv_6))) (fun _ => rfl) hv_7)) av_nil)) (all_e _))) hq_8) trivial)
/-! look_at_letters_back -/
def n_look_at_letters_back_l1 (x_4 : (Int × Int × Int × Int)) (s_3 : Unit) : Option (Unit) :=
  (n_are_ints ((x4 xI xI xI xI) x_4) (-(1000000000000 : Int)) (1000000000000 : Int)).bind fun v_5 => (if ((!v_5) || (!decide ((4 : Int) = ((3 : Int) + (1 : Int))))) = true then none else some ())
def n_look_at_letters_back (exchanges_1 : (List (Int × Int × Int × Int))) : Option (Unit) :=
  (if ((!(((xV (x4 xI xI xI xI)) exchanges_1 : D).isTuple)) || (!((decide ((1 : Int) ≤ (exchanges_1.length : Int))) && (decide ((exchanges_1.length : Int) ≤ (200 : Int)))))) = true then none else (forN (n_look_at_letters_back_l1) exchanges_1 ()).bind fun s_7 => some ())
theorem l_look_at_letters_back_l1 {exchanges_1 : (List (Int × Int × Int × Int))}  {x_4 : (Int × Int × Int × Int)} {s_3 : Unit} {r : (Unit)} (h : n_look_at_letters_back_l1 x_4 s_3 = some r) : ∃ ρ1, t_look_at_letters_back_l1 ((x4 xI xI xI xI) x_4) [some (.val ((xV (x4 xI xI xI xI)) exchanges_1)), none] = some ρ1 ∧ Go .body b_look_at_letters_back_l1 ρ1 (.nx ((fun s_3 => [some (.val ((xV (x4 xI xI xI xI)) exchanges_1)), none]) r)) := by
  unfold n_look_at_letters_back_l1 at h; unfold b_look_at_letters_back_l1
  refine ⟨[some (.val ((xV (x4 xI xI xI xI)) exchanges_1)), some (.val ((x4 xI xI xI xI) x_4))], rfl, ?_⟩
  obtain ⟨v_5, hv_5, h⟩ := bx h
  by_cases q_6 : ((!v_5) || (!decide ((4 : Int) = ((3 : Int) + (1 : Int))))) = true
  · replace h := ift q_6 h
    refine go_ift (Bv.t (bv_or (bv_not (bv_e (ev_callPz (av_cons (ev_v (d := (x4 xI xI xI xI) x_4) rfl) (av_cons (ev_e1 (Ev.vw (ev_c (d := xI 1000000000000))) (neg_e _)) (av_cons (ev_c (d := xI 1000000000000)) av_nil))) (c_are_ints hv_5)))) (fun _ => (bv_e (ev_e2i (ev_call (z := xI 4) (Av.aw (av_cons (ev_v (d := (x4 xI xI xI xI) x_4) rfl) av_nil)) rfl) (Ev.vw (ev_e2i (ev_c (d := xI 3)) (Ev.vw (ev_c (d := xI 1))) (add_e _ _))) (ne_i _ _))))) q_6) ?_
    cases h
  · replace h := iff' q_6 h
    refine go_iff (Bv.f (bv_or (bv_not (bv_e (ev_callPz (av_cons (ev_v (d := (x4 xI xI xI xI) x_4) rfl) (av_cons (ev_e1 (Ev.vw (ev_c (d := xI 1000000000000))) (neg_e _)) (av_cons (ev_c (d := xI 1000000000000)) av_nil))) (c_are_ints hv_5)))) (fun _ => (bv_e (ev_e2i (ev_call (z := xI 4) (Av.aw (av_cons (ev_v (d := (x4 xI xI xI xI) x_4) rfl) av_nil)) rfl) (Ev.vw (ev_e2i (ev_c (d := xI 3)) (Ev.vw (ev_c (d := xI 1))) (add_e _ _))) (ne_i _ _))))) q_6) ?_
    have e := Option.some.inj h; subst e; exact go_body (nx_wp (is := [1]) (ρ1 := [some (.val ((xV (x4 xI xI xI xI)) exchanges_1)), some (.val ((x4 xI xI xI xI) x_4))]) nx_nil)
theorem c_look_at_letters_back {exchanges_1 : (List (Int × Int × Int × Int))} {r : Unit} (h : n_look_at_letters_back exchanges_1 = some r) : f_look_at_letters_back [(xV (x4 xI xI xI xI)) exchanges_1] = some (xU r) := by
  unfold n_look_at_letters_back at h
  refine fn_rt rfl ?_
  show Go .top b_look_at_letters_back [some (.val ((xV (x4 xI xI xI xI)) exchanges_1)), none] (.rt (xU r) none)
  unfold b_look_at_letters_back
  by_cases q_2 : ((!(((xV (x4 xI xI xI xI)) exchanges_1 : D).isTuple)) || (!((decide ((1 : Int) ≤ (exchanges_1.length : Int))) && (decide ((exchanges_1.length : Int) ≤ (200 : Int)))))) = true
  · replace h := ift q_2 h
    refine go_stop (go_ift (Bv.t (bv_or (bv_not (bv_e (ev_isa (Ev.vw (ev_v (d := (xV (x4 xI xI xI xI)) exchanges_1) rfl)) rfl))) (fun _ => (bv_not (bv_e (ev_chainV (Ev.vw (ev_c (d := xI 1))) (Ev.vw (ev_call (Av.aw (av_cons (ev_v (d := (xV (x4 xI xI xI xI)) exchanges_1) rfl) av_nil)) (len_V (x4 xI xI xI xI) _))) (Ev.vw (ev_c (d := xI 200))) (le_i _ _) (le_i _ _)))))) q_2) ?_)
    cases h
  · replace h := iff' q_2 h
    refine go_seq (nx_iff (Bv.f (bv_or (bv_not (bv_e (ev_isa (Ev.vw (ev_v (d := (xV (x4 xI xI xI xI)) exchanges_1) rfl)) rfl))) (fun _ => (bv_not (bv_e (ev_chainV (Ev.vw (ev_c (d := xI 1))) (Ev.vw (ev_call (Av.aw (av_cons (ev_v (d := (xV (x4 xI xI xI xI)) exchanges_1) rfl) av_nil)) (len_V (x4 xI xI xI xI) _))) (Ev.vw (ev_c (d := xI 200))) (le_i _ _) (le_i _ _)))))) q_2) nx_nil) ?_
    obtain ⟨s_7, hs_7, h⟩ := bx h
    have e := Option.some.inj h; subst e; exact go_fall (nx_for (rep := (fun s_3 => [some (.val ((xV (x4 xI xI xI xI)) exchanges_1)), none])) (e := (x4 xI xI xI xI)) (s := ()) (iv_wp (is := [1]) (ρ1 := [some (.val ((xV (x4 xI xI xI xI)) exchanges_1)), none]) (iv_seq (ev_v (d := (xV (x4 xI xI xI xI)) exchanges_1) rfl) rfl)) (fun _ _ _ h => l_look_at_letters_back_l1 (exchanges_1 := exchanges_1) h) hs_7) trivial
/-! told_apart -/
def n_told_apart (some_1 : (List (Int × Int))) : Option ((Tg × Int × Int)) :=
  (maxE xI (some_1.map fun (x_2 : (Int × Int)) => x_2.1)).bind fun v_3 => (minE xI (some_1.map fun (x_4 : (Int × Int)) => x_4.2)).bind fun v_5 => (if (decide (v_3 ≤ v_5)) = true then some ((tg "apart"), v_3, v_5) else (indexN (some_1.map fun (x_7 : (Int × Int)) => x_7.1) v_3).bind fun v_8 => (indexN (some_1.map fun (x_9 : (Int × Int)) => x_9.2) v_5).bind fun v_10 => some ((tg "never"), v_8, v_10))
theorem c_told_apart {some_1 : (List (Int × Int))} {r : (Tg × Int × Int)} (h : n_told_apart some_1 = some r) : f_told_apart [(xL (x2 xI xI)) some_1] = some ((x3 xS xI xI) r) := by
  unfold n_told_apart at h
  refine fn_rt rfl ?_
  show Go .top b_told_apart [some (.val ((xL (x2 xI xI)) some_1)), none, none, none] (.rt ((x3 xS xI xI) r) none)
  unfold b_told_apart
  obtain ⟨v_3, hv_3, h⟩ := bx h
  refine go_seq (ρ1 := [some (.val ((xL (x2 xI xI)) some_1)), some (.val (xI v_3)), none, none]) (nx_set (ρ1 := [some (.val ((xL (x2 xI xI)) some_1)), none, none, none]) (d := xI v_3) (ev_call (Av.aw (av_cons (ev_N (nv_compA (e := (x2 xI xI)) (e' := xI) (k := fun (x_2 : (Int × Int)) => x_2.1) (ρb := fun x_2 => [some (.val ((xL (x2 xI xI)) some_1)), none, none, some (.val ((x2 xI xI) x_2))]) (iv_seq (ev_v (d := (xL (x2 xI xI)) some_1) rfl) rfl) rfl (fun _ => rfl) (fun x_2 => (ev_e2 (Ev.vw (ev_v (d := (x2 xI xI) x_2) rfl)) (Ev.vw (ev_c (d := xI 0))) (tix2_0 _))) (fun _ => rfl))) av_nil)) (maxL_e (e := xI) (by decide) hv_3)) rfl) ?_
  obtain ⟨v_5, hv_5, h⟩ := bx h
  refine go_seq (ρ1 := [some (.val ((xL (x2 xI xI)) some_1)), some (.val (xI v_3)), some (.val (xI v_5)), none]) (nx_set (ρ1 := [some (.val ((xL (x2 xI xI)) some_1)), some (.val (xI v_3)), none, none]) (d := xI v_5) (ev_call (Av.aw (av_cons (ev_N (nv_compA (e := (x2 xI xI)) (e' := xI) (k := fun (x_4 : (Int × Int)) => x_4.2) (ρb := fun x_4 => [some (.val ((xL (x2 xI xI)) some_1)), some (.val (xI v_3)), none, some (.val ((x2 xI xI) x_4))]) (iv_seq (ev_v (d := (xL (x2 xI xI)) some_1) rfl) rfl) rfl (fun _ => rfl) (fun x_4 => (ev_e2 (Ev.vw (ev_v (d := (x2 xI xI) x_4) rfl)) (Ev.vw (ev_c (d := xI 1))) (tix2_1 _))) (fun _ => rfl))) av_nil)) (minL_e (e := xI) (by decide) hv_5)) rfl) ?_
  by_cases q_6 : (decide (v_3 ≤ v_5)) = true
  · replace h := ift q_6 h
    refine go_stop (go_ift (Bv.t (bv_e (ev_e2i (ev_v (d := xI v_3) rfl) (Ev.vw (ev_v (d := xI v_5) rfl)) (le_i _ _))) q_6) ?_)
    have e := Option.some.inj h; subst e; exact (go_ret (ρ1 := [some (.val ((xL (x2 xI xI)) some_1)), some (.val (xI v_3)), some (.val (xI v_5)), none]) (ev_tup (av_cons (ev_c (d := xS (tg "apart"))) (av_cons (ev_v (d := xI v_3) rfl) (av_cons (ev_v (d := xI v_5) rfl) av_nil))) (small rfl)) trivial)
  · replace h := iff' q_6 h
    refine go_seq (nx_iff (Bv.f (bv_e (ev_e2i (ev_v (d := xI v_3) rfl) (Ev.vw (ev_v (d := xI v_5) rfl)) (le_i _ _))) q_6) nx_nil) ?_
    obtain ⟨v_8, hv_8, h⟩ := bx h
    obtain ⟨v_10, hv_10, h⟩ := bx h
    have e := Option.some.inj h; subst e; exact (go_ret (ρ1 := [some (.val ((xL (x2 xI xI)) some_1)), some (.val (xI v_3)), some (.val (xI v_5)), none]) (ev_tup (av_cons (ev_c (d := xS (tg "never"))) (av_cons (ev_index (e := xI) (by decide) (Ev.vw (ev_N (nv_compA (e := (x2 xI xI)) (e' := xI) (k := fun (x_7 : (Int × Int)) => x_7.1) (ρb := fun x_7 => [some (.val ((xL (x2 xI xI)) some_1)), some (.val (xI v_3)), some (.val (xI v_5)), some (.val ((x2 xI xI) x_7))]) (iv_seq (ev_v (d := (xL (x2 xI xI)) some_1) rfl) rfl) rfl (fun _ => rfl) (fun x_7 => (ev_e2 (Ev.vw (ev_v (d := (x2 xI xI) x_7) rfl)) (Ev.vw (ev_c (d := xI 0))) (tix2_0 _))) (fun _ => rfl)))) (Ev.vw (ev_v (d := xI v_3) rfl)) hv_8) (av_cons (ev_index (e := xI) (by decide) (Ev.vw (ev_N (nv_compA (e := (x2 xI xI)) (e' := xI) (k := fun (x_9 : (Int × Int)) => x_9.2) (ρb := fun x_9 => [some (.val ((xL (x2 xI xI)) some_1)), some (.val (xI v_3)), some (.val (xI v_5)), some (.val ((x2 xI xI) x_9))]) (iv_seq (ev_v (d := (xL (x2 xI xI)) some_1) rfl) rfl) rfl (fun _ => rfl) (fun x_9 => (ev_e2 (Ev.vw (ev_v (d := (x2 xI xI) x_9) rfl)) (Ev.vw (ev_c (d := xI 1))) (tix2_1 _))) (fun _ => rfl)))) (Ev.vw (ev_v (d := xI v_5) rfl)) hv_10) av_nil))) (small rfl)) trivial)
/-! told_between -/
def n_told_between (times_1 : (Int × Int × Int × Int)) : Option ((Int × Int)) :=
  some ((times_1.2.2.1 - times_1.2.2.2), (times_1.2.1 - times_1.1))
theorem c_told_between {times_1 : (Int × Int × Int × Int)} {r : (Int × Int)} (h : n_told_between times_1 = some r) : f_told_between [(x4 xI xI xI xI) times_1] = some ((x2 xI xI) r) := by
  unfold n_told_between at h
  refine fn_rt rfl ?_
  show Go .top b_told_between [some (.val ((x4 xI xI xI xI) times_1)), none, none, none, none] (.rt ((x2 xI xI) r) none)
  unfold b_told_between
  refine go_seq (ρ1 := [some (.val ((x4 xI xI xI xI) times_1)), some (.val (xI times_1.1)), some (.val (xI times_1.2.1)), some (.val (xI times_1.2.2.1)), some (.val (xI times_1.2.2.2))]) (nx_asg (ρ1 := [some (.val ((x4 xI xI xI xI) times_1)), none, none, none, none]) (ev_v (d := (x4 xI xI xI xI) times_1) rfl) rfl) ?_
  have e := Option.some.inj h; subst e; exact (go_ret (ρ1 := [some (.val ((x4 xI xI xI xI) times_1)), some (.val (xI times_1.1)), some (.val (xI times_1.2.1)), some (.val (xI times_1.2.2.1)), some (.val (xI times_1.2.2.2))]) (ev_tup (av_cons (ev_e2i (ev_v (d := xI times_1.2.2.1) rfl) (Ev.vw (ev_v (d := xI times_1.2.2.2) rfl)) (sub_e _ _)) (av_cons (ev_e2i (ev_v (d := xI times_1.2.1) rfl) (Ev.vw (ev_v (d := xI times_1.1) rfl)) (sub_e _ _)) av_nil)) (small rfl)) trivial)
/-! clocks_apart -/
def n_clocks_apart (exchanges_1 : (List (Int × Int × Int × Int))) : Option ((Tg × Int × Int)) :=
  (n_look_at_letters_back exchanges_1).bind fun v_2 => (compN (fun (x_3 : (Int × Int × Int × Int)) => some true) (fun (x_3 : (Int × Int × Int × Int)) => (n_told_between x_3).bind fun v_4 => some v_4) exchanges_1).bind fun v_5 => (n_told_apart v_5).bind fun v_6 => some v_6
theorem c_clocks_apart {exchanges_1 : (List (Int × Int × Int × Int))} {r : (Tg × Int × Int)} (h : n_clocks_apart exchanges_1 = some r) : f_clocks_apart [(xV (x4 xI xI xI xI)) exchanges_1] = some ((x3 xS xI xI) r) := by
  unfold n_clocks_apart at h
  refine fn_rt rfl ?_
  show Go .top b_clocks_apart [some (.val ((xV (x4 xI xI xI xI)) exchanges_1)), none] (.rt ((x3 xS xI xI) r) none)
  unfold b_clocks_apart
  obtain ⟨v_2, hv_2, h⟩ := bx h
  refine go_seq (ρ1 := [some (.val ((xV (x4 xI xI xI xI)) exchanges_1)), none]) (nx_drop (ρ1 := [some (.val ((xV (x4 xI xI xI xI)) exchanges_1)), none]) (Ev.vw (ev_callPz (av_cons (ev_v (d := (xV (x4 xI xI xI xI)) exchanges_1) rfl) av_nil) (c_look_at_letters_back hv_2)))) ?_
  obtain ⟨v_5, hv_5, h⟩ := bx h
  obtain ⟨v_6, hv_6, h⟩ := bx h
  have e := Option.some.inj h; subst e; exact (go_ret (ρ1 := [some (.val ((xV (x4 xI xI xI xI)) exchanges_1)), none]) (ev_callPz (av_cons (ev_N (nv_compM (e := (x4 xI xI xI xI)) (e' := (x2 xI xI)) (ρb := fun x_3 => [some (.val ((xV (x4 xI xI xI xI)) exchanges_1)), some (.val ((x4 xI xI xI xI) x_3))]) (iv_seq (ev_v (d := (xV (x4 xI xI xI xI)) exchanges_1) rfl) rfl) rfl (fun _ => rfl) (fun x_3 q hq => by have e := Option.some.inj hq; subst e; exact rfl) (fun x_3 y hq => by obtain ⟨v_4, hv_4, hq⟩ := bx hq; have e := Option.some.inj hq; subst e; exact (ev_callPz (av_cons (ev_v (d := (x4 xI xI xI xI) x_3) rfl) av_nil) (c_told_between hv_4))) (fun _ => rfl) hv_5)) av_nil) (c_told_apart hv_6)) trivial)
/-! look_at_bounds -/
def n_look_at_bounds_l1 (many_1 : Int) (x_7 : (Int × Int × Int)) (s_6 : Unit) : Option (Unit) :=
  (n_are_ints ((x3 xI xI xI) x_7) (-(1000000000000 : Int)) (1000000000000 : Int)).bind fun v_8 => (if ((!v_8) || (!decide ((3 : Int) = (3 : Int)))) = true then none else (n_are_ints ((x2 xI xI) (x_7.1, x_7.2.1)) (0 : Int) (many_1 - (1 : Int))).bind fun v_10 => (if (!v_10) = true then none else some ()))
def n_look_at_bounds (many_1 : Int) (bounds_2 : (List (Int × Int × Int))) : Option (Unit) :=
  (n_is_int (xI many_1) (1 : Int) (30 : Int)).bind fun v_3 => (if (!v_3) = true then none else (if ((!(((xV (x3 xI xI xI)) bounds_2 : D).isTuple)) || (decide ((200 : Int) < (bounds_2.length : Int)))) = true then none else (forN (n_look_at_bounds_l1 many_1) bounds_2 ()).bind fun s_12 => some ()))
theorem l_look_at_bounds_l1 {many_1 : Int} {bounds_2 : (List (Int × Int × Int))}  {x_7 : (Int × Int × Int)} {s_6 : Unit} {r : (Unit)} (h : n_look_at_bounds_l1 many_1 x_7 s_6 = some r) : ∃ ρ1, t_look_at_bounds_l1 ((x3 xI xI xI) x_7) [some (.val (xI many_1)), some (.val ((xV (x3 xI xI xI)) bounds_2)), none] = some ρ1 ∧ Go .body b_look_at_bounds_l1 ρ1 (.nx ((fun s_6 => [some (.val (xI many_1)), some (.val ((xV (x3 xI xI xI)) bounds_2)), none]) r)) := by
  unfold n_look_at_bounds_l1 at h; unfold b_look_at_bounds_l1
  refine ⟨[some (.val (xI many_1)), some (.val ((xV (x3 xI xI xI)) bounds_2)), some (.val ((x3 xI xI xI) x_7))], rfl, ?_⟩
  obtain ⟨v_8, hv_8, h⟩ := bx h
  by_cases q_9 : ((!v_8) || (!decide ((3 : Int) = (3 : Int)))) = true
  · replace h := ift q_9 h
    refine go_stop (go_ift (Bv.t (bv_or (bv_not (bv_e (ev_callPz (av_cons (ev_v (d := (x3 xI xI xI) x_7) rfl) (av_cons (ev_e1 (Ev.vw (ev_c (d := xI 1000000000000))) (neg_e _)) (av_cons (ev_c (d := xI 1000000000000)) av_nil))) (c_are_ints hv_8)))) (fun _ => (bv_e (ev_e2i (ev_call (z := xI 3) (Av.aw (av_cons (ev_v (d := (x3 xI xI xI) x_7) rfl) av_nil)) rfl) (Ev.vw (ev_c (d := xI 3))) (ne_i _ _))))) q_9) ?_)
    cases h
  · replace h := iff' q_9 h
    refine go_seq (nx_iff (Bv.f (bv_or (bv_not (bv_e (ev_callPz (av_cons (ev_v (d := (x3 xI xI xI) x_7) rfl) (av_cons (ev_e1 (Ev.vw (ev_c (d := xI 1000000000000))) (neg_e _)) (av_cons (ev_c (d := xI 1000000000000)) av_nil))) (c_are_ints hv_8)))) (fun _ => (bv_e (ev_e2i (ev_call (z := xI 3) (Av.aw (av_cons (ev_v (d := (x3 xI xI xI) x_7) rfl) av_nil)) rfl) (Ev.vw (ev_c (d := xI 3))) (ne_i _ _))))) q_9) nx_nil) ?_
    obtain ⟨v_10, hv_10, h⟩ := bx h
    by_cases q_11 : (!v_10) = true
    · replace h := ift q_11 h
      refine go_ift (Bv.t (bv_not (bv_e (ev_callPz (av_cons (ev_sl (Ev.vw (ev_v (d := (x3 xI xI xI) x_7) rfl)) rfl (os_of (ev_c (d := xI 2))) rfl) (av_cons (ev_c (d := xI 0)) (av_cons (ev_e2i (ev_v (d := xI many_1) rfl) (Ev.vw (ev_c (d := xI 1))) (sub_e _ _)) av_nil))) (c_are_ints hv_10)))) q_11) ?_
      cases h
    · replace h := iff' q_11 h
      refine go_iff (Bv.f (bv_not (bv_e (ev_callPz (av_cons (ev_sl (Ev.vw (ev_v (d := (x3 xI xI xI) x_7) rfl)) rfl (os_of (ev_c (d := xI 2))) rfl) (av_cons (ev_c (d := xI 0)) (av_cons (ev_e2i (ev_v (d := xI many_1) rfl) (Ev.vw (ev_c (d := xI 1))) (sub_e _ _)) av_nil))) (c_are_ints hv_10)))) q_11) ?_
      have e := Option.some.inj h; subst e; exact go_body (nx_wp (is := [2]) (ρ1 := [some (.val (xI many_1)), some (.val ((xV (x3 xI xI xI)) bounds_2)), some (.val ((x3 xI xI xI) x_7))]) nx_nil)
theorem c_look_at_bounds {many_1 : Int} {bounds_2 : (List (Int × Int × Int))} {r : Unit} (h : n_look_at_bounds many_1 bounds_2 = some r) : f_look_at_bounds [xI many_1, (xV (x3 xI xI xI)) bounds_2] = some (xU r) := by
  unfold n_look_at_bounds at h
  refine fn_rt rfl ?_
  show Go .top b_look_at_bounds [some (.val (xI many_1)), some (.val ((xV (x3 xI xI xI)) bounds_2)), none] (.rt (xU r) none)
  unfold b_look_at_bounds
  obtain ⟨v_3, hv_3, h⟩ := bx h
  by_cases q_4 : (!v_3) = true
  · replace h := ift q_4 h
    refine go_stop (go_ift (Bv.t (bv_not (bv_e (ev_callPz (av_cons (ev_v (d := xI many_1) rfl) (av_cons (ev_c (d := xI 1)) (av_cons (ev_c (d := xI 30)) av_nil))) (c_is_int hv_3)))) q_4) ?_)
    cases h
  · replace h := iff' q_4 h
    refine go_seq (nx_iff (Bv.f (bv_not (bv_e (ev_callPz (av_cons (ev_v (d := xI many_1) rfl) (av_cons (ev_c (d := xI 1)) (av_cons (ev_c (d := xI 30)) av_nil))) (c_is_int hv_3)))) q_4) nx_nil) ?_
    by_cases q_5 : ((!(((xV (x3 xI xI xI)) bounds_2 : D).isTuple)) || (decide ((200 : Int) < (bounds_2.length : Int)))) = true
    · replace h := ift q_5 h
      refine go_stop (go_ift (Bv.t (bv_or (bv_not (bv_e (ev_isa (Ev.vw (ev_v (d := (xV (x3 xI xI xI)) bounds_2) rfl)) rfl))) (fun _ => (bv_e (ev_e2i (ev_call (Av.aw (av_cons (ev_v (d := (xV (x3 xI xI xI)) bounds_2) rfl) av_nil)) (len_V (x3 xI xI xI) _)) (Ev.vw (ev_c (d := xI 200))) (gt_i _ _))))) q_5) ?_)
      cases h
    · replace h := iff' q_5 h
      refine go_seq (nx_iff (Bv.f (bv_or (bv_not (bv_e (ev_isa (Ev.vw (ev_v (d := (xV (x3 xI xI xI)) bounds_2) rfl)) rfl))) (fun _ => (bv_e (ev_e2i (ev_call (Av.aw (av_cons (ev_v (d := (xV (x3 xI xI xI)) bounds_2) rfl) av_nil)) (len_V (x3 xI xI xI) _)) (Ev.vw (ev_c (d := xI 200))) (gt_i _ _))))) q_5) nx_nil) ?_
      obtain ⟨s_12, hs_12, h⟩ := bx h
      have e := Option.some.inj h; subst e; exact go_fall (nx_for (rep := (fun s_6 => [some (.val (xI many_1)), some (.val ((xV (x3 xI xI xI)) bounds_2)), none])) (e := (x3 xI xI xI)) (s := ()) (iv_wp (is := [2]) (ρ1 := [some (.val (xI many_1)), some (.val ((xV (x3 xI xI xI)) bounds_2)), none]) (iv_seq (ev_v (d := (xV (x3 xI xI xI)) bounds_2) rfl) rfl)) (fun _ _ _ h => l_look_at_bounds_l1 (many_1 := many_1) (bounds_2 := bounds_2) h) hs_12) trivial
/-! told_clocks -/
def n_told_clocks_l2 (x_9 : (Int × (Int × Int × Int))) (s_8 : (List Int) × (List (Option Int)) × (Option Int)) : Option ((List Int) × (List (Option Int)) × (Option Int)) :=
  (getI s_8.1 x_9.2.1).bind fun v_10 => (getI s_8.1 x_9.2.2.1).bind fun v_11 => (if (decide ((v_10 + x_9.2.2.2) < v_11)) = true then (getI s_8.1 x_9.2.1).bind fun v_13 => (setI s_8.1 x_9.2.2.1 (v_13 + x_9.2.2.2)).bind fun z_14 => (setI s_8.2.1 x_9.2.2.1 (some x_9.1)).bind fun z_15 => some (z_14, z_15, (some x_9.2.2.1)) else some (s_8.1, s_8.2.1, s_8.2.2))
def n_told_clocks_l1 (bounds_2 : (List (Int × Int × Int))) (x_7 : Int) (s_6 : (List Int) × (List (Option Int)) × (Option Int)) : Option ((List Int) × (List (Option Int)) × (Option Int)) :=
  (forN (n_told_clocks_l2) (enumI 0 bounds_2) (s_6.1, s_6.2.1, none)).bind fun s_16 => some (s_16.1, s_16.2.1, s_16.2.2)
def n_told_clocks_l3 (bounds_2 : (List (Int × Int × Int))) (s_17 : (List Int) × (List (Option Int)) × (Option Int)) (x_21 : Int) (s_20 : (Option Int)) : Option ((Option Int)) :=
  (s_20).bind fun v_22 => (getI s_17.2.1 v_22).bind fun v_23 => (v_23).bind fun v_24 => (getI bounds_2 v_24).bind fun v_25 => some (some v_25.1)
def n_told_clocks_l4 (bounds_2 : (List (Int × Int × Int))) (s_17 : (List Int) × (List (Option Int)) × (Option Int)) (s_26 : (Option Int)) (s_27 : (List Int) × (Option Int)) : Option (Ctl ((List Int) × (Option Int)) ((Tg × (List Int)))) :=
  (if ((decide (s_27.1 = [])) || (!decide (s_27.2 = s_26))) = true then (s_27.2).bind fun v_29 => (getI s_17.2.1 v_29).bind fun v_30 => (v_30).bind fun v_31 => (appN s_27.1 v_31).bind fun z_32 => (s_27.2).bind fun v_33 => (getI s_17.2.1 v_33).bind fun v_34 => (v_34).bind fun v_35 => (getI bounds_2 v_35).bind fun v_36 => some (.nx (z_32, (some v_36.1))) else some (.bk (s_27.1, s_27.2)))
def n_told_clocks (many_1 : Int) (bounds_2 : (List (Int × Int × Int))) : Option ((Tg × (List Int))) :=
  (repN [(0 : Int)] many_1).bind fun v_3 => (repN [none] many_1).bind fun v_4 => (range1 many_1).bind fun v_5 => (forN (n_told_clocks_l1 bounds_2) v_5 (v_3, v_4, none)).bind fun s_17 => (if (s_17.2.2.isNone) = true then some ((tg "clocks"), s_17.1) else (range1 many_1).bind fun v_19 => (forN (n_told_clocks_l3 bounds_2 s_17) v_19 s_17.2.2).bind fun s_26 => (whR (n_told_clocks_l4 bounds_2 s_17 s_26) ([], s_26)).bind fun c_37 => (match c_37 with | .rt r_38 => none | .bk _ => none | .nx s_39 => some ((tg "ring"), (s_39.1.reverse))))
theorem l_told_clocks_l2 {many_1 : Int} {bounds_2 : (List (Int × Int × Int))} {x_7 : Int}  {x_9 : (Int × (Int × Int × Int))} {s_8 : (List Int) × (List (Option Int)) × (Option Int)} {r : ((List Int) × (List (Option Int)) × (Option Int))} (h : n_told_clocks_l2 x_9 s_8 = some r) : ∃ ρ1, t_told_clocks_l2 ((x2 xI (x3 xI xI xI)) x_9) [some (.val (xI many_1)), some (.val ((xV (x3 xI xI xI)) bounds_2)), some (.own (.l (s_8.1.map xI))), some (.own (.l (s_8.2.1.map (xO xI)))), some (.val ((xO xI) s_8.2.2)), some (.val (xI x_7)), none, none, none, none, none, none] = some ρ1 ∧ Go .body b_told_clocks_l2 ρ1 (.nx ((fun s_8 => [some (.val (xI many_1)), some (.val ((xV (x3 xI xI xI)) bounds_2)), some (.own (.l (s_8.1.map xI))), some (.own (.l (s_8.2.1.map (xO xI)))), some (.val ((xO xI) s_8.2.2)), some (.val (xI x_7)), none, none, none, none, none, none]) r)) := by
  unfold n_told_clocks_l2 at h; unfold b_told_clocks_l2
  refine ⟨[some (.val (xI many_1)), some (.val ((xV (x3 xI xI xI)) bounds_2)), some (.own (.l (s_8.1.map xI))), some (.own (.l (s_8.2.1.map (xO xI)))), some (.val ((xO xI) s_8.2.2)), some (.val (xI x_7)), none, none, some (.val (xI x_9.1)), some (.val (xI x_9.2.1)), some (.val (xI x_9.2.2.1)), some (.val (xI x_9.2.2.2))], rfl, ?_⟩
  obtain ⟨v_10, hv_10, h⟩ := bx h
  obtain ⟨v_11, hv_11, h⟩ := bx h
  by_cases q_12 : (decide ((v_10 + x_9.2.2.2) < v_11)) = true
  · replace h := ift q_12 h
    refine go_ift (Bv.t (bv_e (ev_e2i (ev_e2i (ev_e2 (vw_own rfl) (Ev.vw (ev_v (d := xI x_9.2.1) rfl)) (ixL_e (e := xI) hv_10)) (Ev.vw (ev_v (d := xI x_9.2.2.2) rfl)) (add_e _ _)) (Ev.vw (ev_e2 (vw_own rfl) (Ev.vw (ev_v (d := xI x_9.2.2.1) rfl)) (ixL_e (e := xI) hv_11))) (lt_i _ _))) q_12) ?_
    obtain ⟨v_13, hv_13, h⟩ := bx h
    obtain ⟨z_14, hz_14, h⟩ := bx h
    obtain ⟨z_15, hz_15, h⟩ := bx h
    have e := Option.some.inj h; subst e; exact go_body (nx_wp (is := [8, 9, 10, 11]) (ρ1 := [some (.val (xI many_1)), some (.val ((xV (x3 xI xI xI)) bounds_2)), some (.own (.l (z_14.map xI))), some (.own (.l (z_15.map (xO xI)))), some (.val ((xO xI) (some x_9.2.2.1))), some (.val (xI x_7)), none, none, some (.val (xI x_9.1)), some (.val (xI x_9.2.1)), some (.val (xI x_9.2.2.1)), some (.val (xI x_9.2.2.2))]) (nx_asg (ρ1 := [some (.val (xI many_1)), some (.val ((xV (x3 xI xI xI)) bounds_2)), some (.own (.l (s_8.1.map xI))), some (.own (.l (s_8.2.1.map (xO xI)))), some (.val ((xO xI) s_8.2.2)), some (.val (xI x_7)), none, none, some (.val (xI x_9.1)), some (.val (xI x_9.2.1)), some (.val (xI x_9.2.2.1)), some (.val (xI x_9.2.2.2))]) (ev_tup (av_cons (ev_e2i (ev_e2 (vw_own rfl) (Ev.vw (ev_v (d := xI x_9.2.1) rfl)) (ixL_e (e := xI) hv_13)) (Ev.vw (ev_v (d := xI x_9.2.2.2) rfl)) (add_e _ _)) (av_cons (ev_v (d := xI x_9.1) rfl) (av_cons (ev_v (d := xI x_9.2.2.1) rfl) av_nil))) (small rfl)) (t_tup rfl (t_cons (t_put (e := xI) rfl (ev_v (d := xI x_9.2.2.1) rfl) rfl hz_14) (t_cons (t_put (e := (xO xI)) rfl (ev_v (d := xI x_9.2.2.1) rfl) rfl hz_15) (t_cons (show _ = some _ from rfl) rfl))))))
  · replace h := iff' q_12 h
    refine go_iff (Bv.f (bv_e (ev_e2i (ev_e2i (ev_e2 (vw_own rfl) (Ev.vw (ev_v (d := xI x_9.2.1) rfl)) (ixL_e (e := xI) hv_10)) (Ev.vw (ev_v (d := xI x_9.2.2.2) rfl)) (add_e _ _)) (Ev.vw (ev_e2 (vw_own rfl) (Ev.vw (ev_v (d := xI x_9.2.2.1) rfl)) (ixL_e (e := xI) hv_11))) (lt_i _ _))) q_12) ?_
    have e := Option.some.inj h; subst e; exact go_body (nx_wp (is := [8, 9, 10, 11]) (ρ1 := [some (.val (xI many_1)), some (.val ((xV (x3 xI xI xI)) bounds_2)), some (.own (.l (s_8.1.map xI))), some (.own (.l (s_8.2.1.map (xO xI)))), some (.val ((xO xI) s_8.2.2)), some (.val (xI x_7)), none, none, some (.val (xI x_9.1)), some (.val (xI x_9.2.1)), some (.val (xI x_9.2.2.1)), some (.val (xI x_9.2.2.2))]) nx_nil)
theorem l_told_clocks_l1 {bounds_2 : (List (Int × Int × Int))} {many_1 : Int}  {x_7 : Int} {s_6 : (List Int) × (List (Option Int)) × (Option Int)} {r : ((List Int) × (List (Option Int)) × (Option Int))} (h : n_told_clocks_l1 bounds_2 x_7 s_6 = some r) : ∃ ρ1, t_told_clocks_l1 (xI x_7) [some (.val (xI many_1)), some (.val ((xV (x3 xI xI xI)) bounds_2)), some (.own (.l (s_6.1.map xI))), some (.own (.l (s_6.2.1.map (xO xI)))), some (.val ((xO xI) s_6.2.2)), none, none, none, none, none, none, none] = some ρ1 ∧ Go .body b_told_clocks_l1 ρ1 (.nx ((fun s_6 => [some (.val (xI many_1)), some (.val ((xV (x3 xI xI xI)) bounds_2)), some (.own (.l (s_6.1.map xI))), some (.own (.l (s_6.2.1.map (xO xI)))), some (.val ((xO xI) s_6.2.2)), none, none, none, none, none, none, none]) r)) := by
  unfold n_told_clocks_l1 at h; unfold b_told_clocks_l1
  refine ⟨[some (.val (xI many_1)), some (.val ((xV (x3 xI xI xI)) bounds_2)), some (.own (.l (s_6.1.map xI))), some (.own (.l (s_6.2.1.map (xO xI)))), some (.val ((xO xI) s_6.2.2)), some (.val (xI x_7)), none, none, none, none, none, none], rfl, ?_⟩
  refine go_seq (ρ1 := [some (.val (xI many_1)), some (.val ((xV (x3 xI xI xI)) bounds_2)), some (.own (.l (s_6.1.map xI))), some (.own (.l (s_6.2.1.map (xO xI)))), some (.val ((xO xI) none)), some (.val (xI x_7)), none, none, none, none, none, none]) (nx_set (ρ1 := [some (.val (xI many_1)), some (.val ((xV (x3 xI xI xI)) bounds_2)), some (.own (.l (s_6.1.map xI))), some (.own (.l (s_6.2.1.map (xO xI)))), some (.val ((xO xI) s_6.2.2)), some (.val (xI x_7)), none, none, none, none, none, none]) (d := (xO xI) none) (ev_c (d := .none)) rfl) ?_
  obtain ⟨s_16, hs_16, h⟩ := bx h
  have e := Option.some.inj h; subst e; exact go_body (nx_wp (is := [5, 8, 9, 10, 11]) (ρ1 := [some (.val (xI many_1)), some (.val ((xV (x3 xI xI xI)) bounds_2)), some (.own (.l (s_16.1.map xI))), some (.own (.l (s_16.2.1.map (xO xI)))), some (.val ((xO xI) s_16.2.2)), some (.val (xI x_7)), none, none, none, none, none, none]) (nx_for (rep := (fun s_8 => [some (.val (xI many_1)), some (.val ((xV (x3 xI xI xI)) bounds_2)), some (.own (.l (s_8.1.map xI))), some (.own (.l (s_8.2.1.map (xO xI)))), some (.val ((xO xI) s_8.2.2)), some (.val (xI x_7)), none, none, none, none, none, none])) (e := (x2 xI (x3 xI xI xI))) (s := (s_6.1, s_6.2.1, none)) (iv_wp (is := [8, 9, 10, 11]) (ρ1 := [some (.val (xI many_1)), some (.val ((xV (x3 xI xI xI)) bounds_2)), some (.own (.l (s_6.1.map xI))), some (.own (.l (s_6.2.1.map (xO xI)))), some (.val ((xO xI) none)), some (.val (xI x_7)), none, none, none, none, none, none]) (iv_enum (e := (x3 xI xI xI)) (av_cons (ev_v (d := (xV (x3 xI xI xI)) bounds_2) rfl) av_nil) rfl)) (fun _ _ _ h => l_told_clocks_l2 (many_1 := many_1) (bounds_2 := bounds_2) (x_7 := x_7) h) hs_16))
theorem l_told_clocks_l3 {bounds_2 : (List (Int × Int × Int))} {s_17 : (List Int) × (List (Option Int)) × (Option Int)} {many_1 : Int}  {x_21 : Int} {s_20 : (Option Int)} {r : ((Option Int))} (h : n_told_clocks_l3 bounds_2 s_17 x_21 s_20 = some r) : ∃ ρ1, t_told_clocks_l3 (xI x_21) [some (.val (xI many_1)), some (.val ((xV (x3 xI xI xI)) bounds_2)), some (.val ((xL xI) s_17.1)), some (.val ((xL (xO xI)) s_17.2.1)), some (.val ((xO xI) s_20)), none, none, none, none, none, none, none] = some ρ1 ∧ Go .body b_told_clocks_l3 ρ1 (.nx ((fun s_20 => [some (.val (xI many_1)), some (.val ((xV (x3 xI xI xI)) bounds_2)), some (.val ((xL xI) s_17.1)), some (.val ((xL (xO xI)) s_17.2.1)), some (.val ((xO xI) s_20)), none, none, none, none, none, none, none]) r)) := by
  unfold n_told_clocks_l3 at h; unfold b_told_clocks_l3
  refine ⟨[some (.val (xI many_1)), some (.val ((xV (x3 xI xI xI)) bounds_2)), some (.val ((xL xI) s_17.1)), some (.val ((xL (xO xI)) s_17.2.1)), some (.val ((xO xI) s_20)), some (.val (xI x_21)), none, none, none, none, none, none], rfl, ?_⟩
  obtain ⟨v_22, hv_22, h⟩ := bx h
  obtain ⟨v_23, hv_23, h⟩ := bx h
  obtain ⟨v_24, hv_24, h⟩ := bx h
  obtain ⟨v_25, hv_25, h⟩ := bx h
  have e := Option.some.inj h; subst e; exact go_body (nx_wp (is := [5]) (ρ1 := [some (.val (xI many_1)), some (.val ((xV (x3 xI xI xI)) bounds_2)), some (.val ((xL xI) s_17.1)), some (.val ((xL (xO xI)) s_17.2.1)), some (.val ((xO xI) (some v_25.1))), some (.val (xI x_21)), none, none, none, none, none, none]) (nx_set (ρ1 := [some (.val (xI many_1)), some (.val ((xV (x3 xI xI xI)) bounds_2)), some (.val ((xL xI) s_17.1)), some (.val ((xL (xO xI)) s_17.2.1)), some (.val ((xO xI) s_20)), some (.val (xI x_21)), none, none, none, none, none, none]) (d := (xO xI) (some v_25.1)) (ev_e2 (Ev.vw (ev_e2i (ev_v (d := (xV (x3 xI xI xI)) bounds_2) rfl) (Ev.vw (Ev.opt (ev_e2i (ev_v (d := (xL (xO xI)) s_17.2.1) rfl) (Ev.vw (Ev.opt (ev_v (d := (xO xI) s_20) rfl) hv_22)) (ixL_e (e := (xO xI)) hv_23)) hv_24)) (ixV_e (e := (x3 xI xI xI)) hv_25))) (Ev.vw (ev_c (d := xI 0))) (tix3_0 _)) rfl))
theorem l_told_clocks_l4 {bounds_2 : (List (Int × Int × Int))} {s_17 : (List Int) × (List (Option Int)) × (Option Int)} {s_26 : (Option Int)} {many_1 : Int}  {s_27 : (List Int) × (Option Int)} {r : (Ctl ((List Int) × (Option Int)) ((Tg × (List Int))))} (h : n_told_clocks_l4 bounds_2 s_17 s_26 s_27 = some r) : Lap t_told_clocks_l4 b_told_clocks_l4 (σ := (List Int) × (Option Int)) (fun s_27 => [some (.val (xI many_1)), some (.val ((xV (x3 xI xI xI)) bounds_2)), some (.val ((xL xI) s_17.1)), some (.val ((xL (xO xI)) s_17.2.1)), some (.val ((xO xI) s_26)), none, some (.own (.l (s_27.1.map xI))), some (.val ((xO xI) s_27.2)), none, none, none, none]) (x2 xS (xV xI)) (fun _ => none) s_27 r := by
  unfold n_told_clocks_l4 at h; unfold b_told_clocks_l4; unfold t_told_clocks_l4
  by_cases q_28 : ((decide (s_27.1 = [])) || (!decide (s_27.2 = s_26))) = true
  · replace h := ift q_28 h
    refine lap_t (Bv.t (bv_or (bv_e (ev_e2 (vw_own rfl) (Ev.vw (ev_N (nv_lst_e (av_nil_e (e := xI)) (small rfl)))) (dEq_e (xL xI) (by decide) _ _))) (fun _ => (bv_e (ev_e2i (ev_v (d := (xO xI) s_27.2) rfl) (Ev.vw (ev_v (d := (xO xI) s_26) rfl)) (dNe_e (xO xI) (by decide) _ _))))) q_28) ?_
    obtain ⟨v_29, hv_29, h⟩ := bx h
    obtain ⟨v_30, hv_30, h⟩ := bx h
    obtain ⟨v_31, hv_31, h⟩ := bx h
    obtain ⟨z_32, hz_32, h⟩ := bx h
    refine go_seq (ρ1 := [some (.val (xI many_1)), some (.val ((xV (x3 xI xI xI)) bounds_2)), some (.val ((xL xI) s_17.1)), some (.val ((xL (xO xI)) s_17.2.1)), some (.val ((xO xI) s_26)), none, some (.own (.l (z_32.map xI))), some (.val ((xO xI) s_27.2)), none, none, none, none]) (nx_app_e (ρ1 := [some (.val (xI many_1)), some (.val ((xV (x3 xI xI xI)) bounds_2)), some (.val ((xL xI) s_17.1)), some (.val ((xL (xO xI)) s_17.2.1)), some (.val ((xO xI) s_26)), none, some (.own (.l (s_27.1.map xI))), some (.val ((xO xI) s_27.2)), none, none, none, none]) (e := xI) (v := v_31) rfl (Ev.opt (ev_e2i (ev_v (d := (xL (xO xI)) s_17.2.1) rfl) (Ev.vw (Ev.opt (ev_v (d := (xO xI) s_27.2) rfl) hv_29)) (ixL_e (e := (xO xI)) hv_30)) hv_31) rfl hz_32) ?_
    obtain ⟨v_33, hv_33, h⟩ := bx h
    obtain ⟨v_34, hv_34, h⟩ := bx h
    obtain ⟨v_35, hv_35, h⟩ := bx h
    obtain ⟨v_36, hv_36, h⟩ := bx h
    have e := Option.some.inj h; subst e; exact go_body (nx_set (ρ1 := [some (.val (xI many_1)), some (.val ((xV (x3 xI xI xI)) bounds_2)), some (.val ((xL xI) s_17.1)), some (.val ((xL (xO xI)) s_17.2.1)), some (.val ((xO xI) s_26)), none, some (.own (.l (z_32.map xI))), some (.val ((xO xI) s_27.2)), none, none, none, none]) (d := (xO xI) (some v_36.1)) (ev_e2 (Ev.vw (ev_e2i (ev_v (d := (xV (x3 xI xI xI)) bounds_2) rfl) (Ev.vw (Ev.opt (ev_e2i (ev_v (d := (xL (xO xI)) s_17.2.1) rfl) (Ev.vw (Ev.opt (ev_v (d := (xO xI) s_27.2) rfl) hv_33)) (ixL_e (e := (xO xI)) hv_34)) hv_35)) (ixV_e (e := (x3 xI xI xI)) hv_36))) (Ev.vw (ev_c (d := xI 0))) (tix3_0 _)) rfl)
  · replace h := iff' q_28 h
    cases h; exact lap_f (Bv.f (bv_or (bv_e (ev_e2 (vw_own rfl) (Ev.vw (ev_N (nv_lst_e (av_nil_e (e := xI)) (small rfl)))) (dEq_e (xL xI) (by decide) _ _))) (fun _ => (bv_e (ev_e2i (ev_v (d := (xO xI) s_27.2) rfl) (Ev.vw (ev_v (d := (xO xI) s_26) rfl)) (dNe_e (xO xI) (by decide) _ _))))) q_28)
theorem c_told_clocks {many_1 : Int} {bounds_2 : (List (Int × Int × Int))} {r : (Tg × (List Int))} (h : n_told_clocks many_1 bounds_2 = some r) : f_told_clocks [xI many_1, (xV (x3 xI xI xI)) bounds_2] = some ((x2 xS (xV xI)) r) := by
  unfold n_told_clocks at h
  refine fn_rt rfl ?_
  show Go .top b_told_clocks [some (.val (xI many_1)), some (.val ((xV (x3 xI xI xI)) bounds_2)), none, none, none, none, none, none, none, none, none, none] (.rt ((x2 xS (xV xI)) r) none)
  unfold b_told_clocks
  obtain ⟨v_3, hv_3, h⟩ := bx h
  obtain ⟨v_4, hv_4, h⟩ := bx h
  refine go_seq (ρ1 := [some (.val (xI many_1)), some (.val ((xV (x3 xI xI xI)) bounds_2)), some (.own (.l (v_3.map xI))), some (.own (.l (v_4.map (xO xI)))), none, none, none, none, none, none, none, none]) (nx_par (ρ1 := [some (.val (xI many_1)), some (.val ((xV (x3 xI xI xI)) bounds_2)), none, none, none, none, none, none, none, none, none, none]) (ls_N (ds := v_3.map xI) (nv_rep (e := xI) (nv_lst_e (av_one_e (ev_c (d := xI 0))) (small rfl)) (ev_v (d := xI many_1) rfl) hv_3) (ls_N (ds := v_4.map (xO xI)) (nv_rep (e := (xO xI)) (nv_lst_e (av_one_e (ev_c (d := .none))) (small rfl)) (ev_v (d := xI many_1) rfl) hv_4) ls_nil)) rfl) ?_
  refine go_seq (ρ1 := [some (.val (xI many_1)), some (.val ((xV (x3 xI xI xI)) bounds_2)), some (.own (.l (v_3.map xI))), some (.own (.l (v_4.map (xO xI)))), some (.val ((xO xI) none)), none, none, none, none, none, none, none]) (nx_set (ρ1 := [some (.val (xI many_1)), some (.val ((xV (x3 xI xI xI)) bounds_2)), some (.own (.l (v_3.map xI))), some (.own (.l (v_4.map (xO xI)))), none, none, none, none, none, none, none, none]) (d := (xO xI) none) (ev_c (d := .none)) rfl) ?_
  obtain ⟨v_5, hv_5, h⟩ := bx h
  obtain ⟨s_17, hs_17, h⟩ := bx h
  refine go_seq (ρ1 := [some (.val (xI many_1)), some (.val ((xV (x3 xI xI xI)) bounds_2)), some (.val ((xL xI) s_17.1)), some (.val ((xL (xO xI)) s_17.2.1)), some (.val ((xO xI) s_17.2.2)), none, none, none, none, none, none, none]) (nx_fz (ρ1 := [some (.val (xI many_1)), some (.val ((xV (x3 xI xI xI)) bounds_2)), some (.val ((xL xI) s_17.1)), some (.own (.l (s_17.2.1.map (xO xI)))), some (.val ((xO xI) s_17.2.2)), none, none, none, none, none, none, none]) (nx_fz (ρ1 := [some (.val (xI many_1)), some (.val ((xV (x3 xI xI xI)) bounds_2)), some (.own (.l (s_17.1.map xI))), some (.own (.l (s_17.2.1.map (xO xI)))), some (.val ((xO xI) s_17.2.2)), none, none, none, none, none, none, none]) (nx_for (rep := (fun s_6 => [some (.val (xI many_1)), some (.val ((xV (x3 xI xI xI)) bounds_2)), some (.own (.l (s_6.1.map xI))), some (.own (.l (s_6.2.1.map (xO xI)))), some (.val ((xO xI) s_6.2.2)), none, none, none, none, none, none, none])) (e := xI) (s := (v_3, v_4, none)) (iv_wp (is := [5, 8, 9, 10, 11]) (ρ1 := [some (.val (xI many_1)), some (.val ((xV (x3 xI xI xI)) bounds_2)), some (.own (.l (v_3.map xI))), some (.own (.l (v_4.map (xO xI)))), some (.val ((xO xI) none)), none, none, none, none, none, none, none]) (iv_range1 (av_cons (ev_v (d := xI many_1) rfl) av_nil) hv_5)) (fun _ _ _ h => l_told_clocks_l1 (bounds_2 := bounds_2) (many_1 := many_1) h) hs_17))) ?_
  by_cases q_18 : (s_17.2.2.isNone) = true
  · replace h := ift q_18 h
    refine go_stop (go_ift (Bv.t (bv_e (ev_e2 (x := (xO xI) s_17.2.2) (y := .none) (Ev.vw (ev_v (d := (xO xI) s_17.2.2) rfl)) (Ev.vw ev_c) (is_none_o xI _))) q_18) ?_)
    have e := Option.some.inj h; subst e; exact (go_ret (ρ1 := [some (.val (xI many_1)), some (.val ((xV (x3 xI xI xI)) bounds_2)), some (.val ((xL xI) s_17.1)), some (.val ((xL (xO xI)) s_17.2.1)), some (.val ((xO xI) s_17.2.2)), none, none, none, none, none, none, none]) (ev_tup (av_cons (ev_c (d := xS (tg "clocks"))) (av_cons (ev_call (Av.aw (av_cons (ev_v (d := (xL xI) s_17.1) rfl) av_nil)) (tuple_L xI _)) av_nil)) (small rfl)) trivial)
  · replace h := iff' q_18 h
    refine go_seq (nx_iff (Bv.f (bv_e (ev_e2 (x := (xO xI) s_17.2.2) (y := .none) (Ev.vw (ev_v (d := (xO xI) s_17.2.2) rfl)) (Ev.vw ev_c) (is_none_o xI _))) q_18) nx_nil) ?_
    obtain ⟨v_19, hv_19, h⟩ := bx h
    obtain ⟨s_26, hs_26, h⟩ := bx h
    refine go_seq (ρ1 := [some (.val (xI many_1)), some (.val ((xV (x3 xI xI xI)) bounds_2)), some (.val ((xL xI) s_17.1)), some (.val ((xL (xO xI)) s_17.2.1)), some (.val ((xO xI) s_26)), none, none, none, none, none, none, none]) (nx_for (rep := (fun s_20 => [some (.val (xI many_1)), some (.val ((xV (x3 xI xI xI)) bounds_2)), some (.val ((xL xI) s_17.1)), some (.val ((xL (xO xI)) s_17.2.1)), some (.val ((xO xI) s_20)), none, none, none, none, none, none, none])) (e := xI) (s := s_17.2.2) (iv_wp (is := [5]) (ρ1 := [some (.val (xI many_1)), some (.val ((xV (x3 xI xI xI)) bounds_2)), some (.val ((xL xI) s_17.1)), some (.val ((xL (xO xI)) s_17.2.1)), some (.val ((xO xI) s_17.2.2)), none, none, none, none, none, none, none]) (iv_range1 (av_cons (ev_v (d := xI many_1) rfl) av_nil) hv_19)) (fun _ _ _ h => l_told_clocks_l3 (bounds_2 := bounds_2) (s_17 := s_17) (many_1 := many_1) h) hs_26) ?_
    refine go_seq (ρ1 := [some (.val (xI many_1)), some (.val ((xV (x3 xI xI xI)) bounds_2)), some (.val ((xL xI) s_17.1)), some (.val ((xL (xO xI)) s_17.2.1)), some (.val ((xO xI) s_26)), none, some (.own (.l ([].map xI))), some (.val ((xO xI) s_26)), none, none, none, none]) (nx_par (ρ1 := [some (.val (xI many_1)), some (.val ((xV (x3 xI xI xI)) bounds_2)), some (.val ((xL xI) s_17.1)), some (.val ((xL (xO xI)) s_17.2.1)), some (.val ((xO xI) s_26)), none, none, none, none, none, none, none]) (ls_N (ds := [].map xI) (nv_lst_e (av_nil_e (e := xI)) (small rfl)) (ls_E (d := (xO xI) s_26) (ev_v (d := (xO xI) s_26) rfl) ls_nil)) rfl) ?_
    obtain ⟨c_37, hc_37, h⟩ := bx h
    cases c_37 with
    | rt r_38 =>
      cases h
    | bk _ =>
      exact (no_whR hc_37).elim
    | nx s_39 =>
      refine go_seq (ρ1 := [some (.val (xI many_1)), some (.val ((xV (x3 xI xI xI)) bounds_2)), some (.val ((xL xI) s_17.1)), some (.val ((xL (xO xI)) s_17.2.1)), some (.val ((xO xI) s_26)), none, some (.val ((xL xI) s_39.1)), some (.val ((xO xI) s_39.2)), none, none, none, none]) (nx_fz (ρ1 := [some (.val (xI many_1)), some (.val ((xV (x3 xI xI xI)) bounds_2)), some (.val ((xL xI) s_17.1)), some (.val ((xL (xO xI)) s_17.2.1)), some (.val ((xO xI) s_26)), none, some (.own (.l (s_39.1.map xI))), some (.val ((xO xI) s_39.2)), none, none, none, none]) (nx_while (rep := (fun s_27 => [some (.val (xI many_1)), some (.val ((xV (x3 xI xI xI)) bounds_2)), some (.val ((xL xI) s_17.1)), some (.val ((xL (xO xI)) s_17.2.1)), some (.val ((xO xI) s_26)), none, some (.own (.l (s_27.1.map xI))), some (.val ((xO xI) s_27.2)), none, none, none, none])) (s := ([], s_26)) (er := (x2 xS (xV xI))) (ec := fun _ => none) (fun _ _ h => l_told_clocks_l4 (bounds_2 := bounds_2) (s_17 := s_17) (s_26 := s_26) (many_1 := many_1) h) rfl hc_37)) ?_
      have e := Option.some.inj h; subst e; exact (go_ret (ρ1 := [some (.val (xI many_1)), some (.val ((xV (x3 xI xI xI)) bounds_2)), some (.val ((xL xI) s_17.1)), some (.val ((xL (xO xI)) s_17.2.1)), some (.val ((xO xI) s_26)), none, some (.val ((xL xI) s_39.1)), some (.val ((xO xI) s_39.2)), none, none, none, none]) (ev_tup (av_cons (ev_c (d := xS (tg "ring"))) (av_cons (ev_call (Av.aw (av_cons (ev_N (nv_rev_e (Ev.vw (ev_v (d := (xL xI) s_39.1) rfl)))) av_nil)) (tuple_L xI _)) av_nil)) (small rfl)) trivial)
/-! clocks_for -/
def n_clocks_for (many_1 : Int) (bounds_2 : (List (Int × Int × Int))) : Option ((Tg × (List Int))) :=
  (n_look_at_bounds many_1 bounds_2).bind fun v_3 => (n_told_clocks many_1 bounds_2).bind fun v_4 => some v_4
theorem c_clocks_for {many_1 : Int} {bounds_2 : (List (Int × Int × Int))} {r : (Tg × (List Int))} (h : n_clocks_for many_1 bounds_2 = some r) : f_clocks_for [xI many_1, (xV (x3 xI xI xI)) bounds_2] = some ((x2 xS (xV xI)) r) := by
  unfold n_clocks_for at h
  refine fn_rt rfl ?_
  show Go .top b_clocks_for [some (.val (xI many_1)), some (.val ((xV (x3 xI xI xI)) bounds_2))] (.rt ((x2 xS (xV xI)) r) none)
  unfold b_clocks_for
  obtain ⟨v_3, hv_3, h⟩ := bx h
  refine go_seq (ρ1 := [some (.val (xI many_1)), some (.val ((xV (x3 xI xI xI)) bounds_2))]) (nx_drop (ρ1 := [some (.val (xI many_1)), some (.val ((xV (x3 xI xI xI)) bounds_2))]) (Ev.vw (ev_callPz (av_cons (ev_v (d := xI many_1) rfl) (av_cons (ev_v (d := (xV (x3 xI xI xI)) bounds_2) rfl) av_nil)) (c_look_at_bounds hv_3)))) ?_
  obtain ⟨v_4, hv_4, h⟩ := bx h
  have e := Option.some.inj h; subst e; exact (go_ret (ρ1 := [some (.val (xI many_1)), some (.val ((xV (x3 xI xI xI)) bounds_2))]) (ev_callPz (av_cons (ev_v (d := xI many_1) rfl) (av_cons (ev_v (d := (xV (x3 xI xI xI)) bounds_2) rfl) av_nil)) (c_told_clocks hv_4)) trivial)
/-! is_told -/
def n_is_told (value_1 : D) (sizes_2 : (List Int)) : Option (Bool) :=
  (andN ((xD value_1 : D).isTuple) ((lenD value_1).bind fun v_3 => (andN (decide (v_3 ∈ sizes_2)) ((dIx value_1 (xI (0 : Int))).bind fun d_4 => some ((xD d_4 : D).isStr))).bind fun q_5 => some q_5)).bind fun q_6 => some q_6
theorem c_is_told {value_1 : D} {sizes_2 : (List Int)} {r : Bool} (h : n_is_told value_1 sizes_2 = some r) : f_is_told [xD value_1, (xV xI) sizes_2] = some (xB r) := by
  unfold n_is_told at h
  refine fn_rt rfl ?_
  show Go .top b_is_told [some (.val (xD value_1)), some (.val ((xV xI) sizes_2))] (.rt (xB r) none)
  unfold b_is_told
  obtain ⟨q_6, hq_6, h⟩ := bx h
  have e := Option.some.inj h; subst e; exact (go_ret (ρ1 := [some (.val (xD value_1)), some (.val ((xV xI) sizes_2))]) (ev_andN (ev_isa (Ev.vw (ev_v (d := xD value_1) rfl)) rfl) (fun q hq => by obtain ⟨v_3, hv_3, hq⟩ := bx hq; obtain ⟨q_5, hq_5, hq⟩ := bx hq; have e := Option.some.inj hq; subst e; exact (ev_andN (ev_e2 (Ev.vw (ev_call (Av.aw (av_cons (ev_v (d := xD value_1) rfl) av_nil)) (lenD_e hv_3))) (Ev.vw (ev_v (d := (xV xI) sizes_2) rfl)) (dInV_e xI (by decide) _ _)) (fun q hq => by obtain ⟨d_4, hd_4, hq⟩ := bx hq; have e := Option.some.inj hq; subst e; exact (ev_isa (Ev.vw (ev_e2i (ev_v (d := xD value_1) rfl) (Ev.vw (ev_c (d := xI 0))) hd_4)) rfl)) hq_5)) hq_6) trivial)
/-! shows_clocks_for -/
def n_shows_clocks_for (many_1 : Int) (bounds_2 : (List (Int × Int × Int))) (value_3 : D) : Option (Bool) :=
  (n_look_at_bounds many_1 bounds_2).bind fun v_4 => (n_is_told value_3 [(2 : Int)]).bind fun v_5 => (if (!v_5) = true then some false else (dIx value_3 (xI (0 : Int))).bind fun d_7 => (eqD d_7 (xS (tg "clocks"))).bind fun q_8 => (if q_8 = true then (dIx value_3 (xI (1 : Int))).bind fun d_10 => (mulN (-(200 : Int)) (1000000000000 : Int)).bind fun v_11 => (mulN (200 : Int) (1000000000000 : Int)).bind fun v_12 => (n_are_ints d_10 v_11 v_12).bind fun v_13 => (orN (!v_13) ((dIx value_3 (xI (1 : Int))).bind fun d_14 => (lenD d_14).bind fun v_15 => some (!decide (v_15 = many_1)))).bind fun q_16 => (if q_16 = true then some false else (compN (fun (x_18 : (Int × Int × Int)) => some true) (fun (x_18 : (Int × Int × Int)) => (dIx value_3 (xI (1 : Int))).bind fun d_19 => (dIx d_19 (xI x_18.2.1)).bind fun d_20 => (unI d_20).bind fun v_21 => (dIx value_3 (xI (1 : Int))).bind fun d_22 => (dIx d_22 (xI x_18.1)).bind fun d_23 => (unI d_23).bind fun v_24 => some (decide ((v_21 - v_24) ≤ x_18.2.2))) bounds_2).bind fun v_25 => some (v_25.all id)) else (dIx value_3 (xI (0 : Int))).bind fun d_26 => (eqD d_26 (xS (tg "ring"))).bind fun q_27 => (orN (!q_27) ((dIx value_3 (xI (1 : Int))).bind fun d_28 => (n_are_ints d_28 (0 : Int) ((bounds_2.length : Int) - (1 : Int))).bind fun v_29 => (orN (!v_29) ((dIx value_3 (xI (1 : Int))).bind fun d_30 => (eqD d_30 ((xV xI) [])).bind fun q_31 => some q_31)).bind fun q_32 => some q_32)).bind fun q_33 => (if q_33 = true then some false else (dIx value_3 (xI (1 : Int))).bind fun d_35 => (itemsOf d_35).bind fun ds_36 => (compN (fun (x_37 : D) => some true) (fun (x_37 : D) => (unI x_37).bind fun v_38 => (getI bounds_2 v_38).bind fun v_39 => some v_39) ds_36).bind fun v_40 => (getI v_40 (0 : Int)).bind fun v_41 => (fitN ((cut v_40 (some (1 : Int)) none) ++ [v_41])).bind fun u_42 => (if (!(((v_40.zip ((cut v_40 (some (1 : Int)) none) ++ [v_41])).map fun (x_43 : ((Int × Int × Int) × (Int × Int × Int))) => (decide (x_43.1.2.1 = x_43.2.1))).all id)) = true then some false else some (decide ((List.sum (v_40.map fun (x_45 : (Int × Int × Int)) => x_45.2.2)) < (0 : Int)))))))
theorem c_shows_clocks_for {many_1 : Int} {bounds_2 : (List (Int × Int × Int))} {value_3 : D} {r : Bool} (h : n_shows_clocks_for many_1 bounds_2 value_3 = some r) : f_shows_clocks_for [xI many_1, (xV (x3 xI xI xI)) bounds_2, xD value_3] = some (xB r) := by
  unfold n_shows_clocks_for at h
  refine fn_rt rfl ?_
  show Go .top b_shows_clocks_for [some (.val (xI many_1)), some (.val ((xV (x3 xI xI xI)) bounds_2)), some (.val (xD value_3)), none, none, none, none, none, none] (.rt (xB r) none)
  unfold b_shows_clocks_for
  obtain ⟨v_4, hv_4, h⟩ := bx h
  refine go_seq (ρ1 := [some (.val (xI many_1)), some (.val ((xV (x3 xI xI xI)) bounds_2)), some (.val (xD value_3)), none, none, none, none, none, none]) (nx_drop (ρ1 := [some (.val (xI many_1)), some (.val ((xV (x3 xI xI xI)) bounds_2)), some (.val (xD value_3)), none, none, none, none, none, none]) (Ev.vw (ev_callPz (av_cons (ev_v (d := xI many_1) rfl) (av_cons (ev_v (d := (xV (x3 xI xI xI)) bounds_2) rfl) av_nil)) (c_look_at_bounds hv_4)))) ?_
  obtain ⟨v_5, hv_5, h⟩ := bx h
  by_cases q_6 : (!v_5) = true
  · replace h := ift q_6 h
    refine go_stop (go_ift (Bv.t (bv_not (bv_e (ev_callPz (av_cons (ev_v (d := xD value_3) rfl) (av_cons (ev_tup_e (av_one_e (ev_c (d := xI 2))) (small rfl)) av_nil)) (c_is_told hv_5)))) q_6) ?_)
    have e := Option.some.inj h; subst e; exact (go_ret (ρ1 := [some (.val (xI many_1)), some (.val ((xV (x3 xI xI xI)) bounds_2)), some (.val (xD value_3)), none, none, none, none, none, none]) (ev_c (d := xB false)) trivial)
  · replace h := iff' q_6 h
    refine go_seq (nx_iff (Bv.f (bv_not (bv_e (ev_callPz (av_cons (ev_v (d := xD value_3) rfl) (av_cons (ev_tup_e (av_one_e (ev_c (d := xI 2))) (small rfl)) av_nil)) (c_is_told hv_5)))) q_6) nx_nil) ?_
    obtain ⟨d_7, hd_7, h⟩ := bx h
    obtain ⟨q_8, hq_8, h⟩ := bx h
    by_cases q_9 : q_8 = true
    · replace h := ift q_9 h
      refine go_stop (go_ift (Bv.t (bv_e (ev_e2i (ev_e2i (ev_v (d := xD value_3) rfl) (Ev.vw (ev_c (d := xI 0))) hd_7) (Ev.vw (ev_c (d := xS (tg "clocks")))) (eqD_e hq_8))) q_9) ?_)
      obtain ⟨d_10, hd_10, h⟩ := bx h
      obtain ⟨v_11, hv_11, h⟩ := bx h
      obtain ⟨v_12, hv_12, h⟩ := bx h
      obtain ⟨v_13, hv_13, h⟩ := bx h
      obtain ⟨q_16, hq_16, h⟩ := bx h
      by_cases q_17 : q_16 = true
      · replace h := ift q_17 h
        refine go_stop (go_ift (Bv.t (bv_orN (bv_not (bv_e (ev_callPz (av_cons (ev_e2i (ev_v (d := xD value_3) rfl) (Ev.vw (ev_c (d := xI 1))) hd_10) (av_cons (ev_e2i (ev_e1 (Ev.vw (ev_c (d := xI 200))) (neg_e _)) (Ev.vw (ev_c (d := xI 1000000000000))) (mul_e hv_11)) (av_cons (ev_e2i (ev_c (d := xI 200)) (Ev.vw (ev_c (d := xI 1000000000000))) (mul_e hv_12)) av_nil))) (c_are_ints hv_13)))) (fun q hq => by obtain ⟨d_14, hd_14, hq⟩ := bx hq; obtain ⟨v_15, hv_15, hq⟩ := bx hq; have e := Option.some.inj hq; subst e; exact (bv_e (ev_e2i (ev_call (Av.aw (av_cons (ev_e2i (ev_v (d := xD value_3) rfl) (Ev.vw (ev_c (d := xI 1))) hd_14) av_nil)) (lenD_e hv_15)) (Ev.vw (ev_v (d := xI many_1) rfl)) (ne_i _ _)))) hq_16) q_17) ?_)
        have e := Option.some.inj h; subst e; exact (go_ret (ρ1 := [some (.val (xI many_1)), some (.val ((xV (x3 xI xI xI)) bounds_2)), some (.val (xD value_3)), none, none, none, none, none, none]) (ev_c (d := xB false)) trivial)
      · replace h := iff' q_17 h
        refine go_seq (nx_iff (Bv.f (bv_orN (bv_not (bv_e (ev_callPz (av_cons (ev_e2i (ev_v (d := xD value_3) rfl) (Ev.vw (ev_c (d := xI 1))) hd_10) (av_cons (ev_e2i (ev_e1 (Ev.vw (ev_c (d := xI 200))) (neg_e _)) (Ev.vw (ev_c (d := xI 1000000000000))) (mul_e hv_11)) (av_cons (ev_e2i (ev_c (d := xI 200)) (Ev.vw (ev_c (d := xI 1000000000000))) (mul_e hv_12)) av_nil))) (c_are_ints hv_13)))) (fun q hq => by obtain ⟨d_14, hd_14, hq⟩ := bx hq; obtain ⟨v_15, hv_15, hq⟩ := bx hq; have e := Option.some.inj hq; subst e; exact (bv_e (ev_e2i (ev_call (Av.aw (av_cons (ev_e2i (ev_v (d := xD value_3) rfl) (Ev.vw (ev_c (d := xI 1))) hd_14) av_nil)) (lenD_e hv_15)) (Ev.vw (ev_v (d := xI many_1) rfl)) (ne_i _ _)))) hq_16) q_17) nx_nil) ?_
        obtain ⟨v_25, hv_25, h⟩ := bx h
        have e := Option.some.inj h; subst e; exact (go_ret (ρ1 := [some (.val (xI many_1)), some (.val ((xV (x3 xI xI xI)) bounds_2)), some (.val (xD value_3)), none, none, none, none, none, none]) (ev_call (Av.aw (av_cons (ev_N (nv_compM (e := (x3 xI xI xI)) (e' := xB) (ρb := fun x_18 => [some (.val (xI many_1)), some (.val ((xV (x3 xI xI xI)) bounds_2)), some (.val (xD value_3)), none, none, some (.val (xI x_18.1)), some (.val (xI x_18.2.1)), some (.val (xI x_18.2.2)), none]) (iv_seq (ev_v (d := (xV (x3 xI xI xI)) bounds_2) rfl) rfl) rfl (fun _ => rfl) (fun x_18 q hq => by have e := Option.some.inj hq; subst e; exact rfl) (fun x_18 y hq => by obtain ⟨d_19, hd_19, hq⟩ := bx hq; obtain ⟨d_20, hd_20, hq⟩ := bx hq; obtain ⟨v_21, hv_21, hq⟩ := bx hq; obtain ⟨d_22, hd_22, hq⟩ := bx hq; obtain ⟨d_23, hd_23, hq⟩ := bx hq; obtain ⟨v_24, hv_24, hq⟩ := bx hq; have e := Option.some.inj hq; subst e; exact (ev_e2i (ev_e2i (Ev.to (ev_e2i (ev_e2i (ev_v (d := xD value_3) rfl) (Ev.vw (ev_c (d := xI 1))) hd_19) (Ev.vw (ev_v (d := xI x_18.2.1) rfl)) hd_20) (unI_e hv_21)) (Ev.vw (Ev.to (ev_e2i (ev_e2i (ev_v (d := xD value_3) rfl) (Ev.vw (ev_c (d := xI 1))) hd_22) (Ev.vw (ev_v (d := xI x_18.1) rfl)) hd_23) (unI_e hv_24))) (sub_e _ _)) (Ev.vw (ev_v (d := xI x_18.2.2) rfl)) (le_i _ _))) (fun _ => rfl) hv_25)) av_nil)) (all_e _)) trivial)
    · replace h := iff' q_9 h
      refine go_seq (nx_iff (Bv.f (bv_e (ev_e2i (ev_e2i (ev_v (d := xD value_3) rfl) (Ev.vw (ev_c (d := xI 0))) hd_7) (Ev.vw (ev_c (d := xS (tg "clocks")))) (eqD_e hq_8))) q_9) nx_nil) ?_
      obtain ⟨d_26, hd_26, h⟩ := bx h
      obtain ⟨q_27, hq_27, h⟩ := bx h
      obtain ⟨q_33, hq_33, h⟩ := bx h
      by_cases q_34 : q_33 = true
      · replace h := ift q_34 h
        refine go_stop (go_ift (Bv.t (bv_orN (bv_e (ev_e2i (ev_e2i (ev_v (d := xD value_3) rfl) (Ev.vw (ev_c (d := xI 0))) hd_26) (Ev.vw (ev_c (d := xS (tg "ring")))) (neD_e hq_27))) (fun q hq => by obtain ⟨d_28, hd_28, hq⟩ := bx hq; obtain ⟨v_29, hv_29, hq⟩ := bx hq; obtain ⟨q_32, hq_32, hq⟩ := bx hq; have e := Option.some.inj hq; subst e; exact (bv_orN (bv_not (bv_e (ev_callPz (av_cons (ev_e2i (ev_v (d := xD value_3) rfl) (Ev.vw (ev_c (d := xI 1))) hd_28) (av_cons (ev_c (d := xI 0)) (av_cons (ev_e2i (ev_call (Av.aw (av_cons (ev_v (d := (xV (x3 xI xI xI)) bounds_2) rfl) av_nil)) (len_V (x3 xI xI xI) _)) (Ev.vw (ev_c (d := xI 1))) (sub_e _ _)) av_nil))) (c_are_ints hv_29)))) (fun q hq => by obtain ⟨d_30, hd_30, hq⟩ := bx hq; obtain ⟨q_31, hq_31, hq⟩ := bx hq; have e := Option.some.inj hq; subst e; exact (bv_e (ev_e2i (ev_e2i (ev_v (d := xD value_3) rfl) (Ev.vw (ev_c (d := xI 1))) hd_30) (Ev.vw (ev_tup_e (av_nil_e (e := xI)) (small rfl))) (eqD_e hq_31)))) hq_32)) hq_33) q_34) ?_)
        have e := Option.some.inj h; subst e; exact (go_ret (ρ1 := [some (.val (xI many_1)), some (.val ((xV (x3 xI xI xI)) bounds_2)), some (.val (xD value_3)), none, none, none, none, none, none]) (ev_c (d := xB false)) trivial)
      · replace h := iff' q_34 h
        refine go_seq (nx_iff (Bv.f (bv_orN (bv_e (ev_e2i (ev_e2i (ev_v (d := xD value_3) rfl) (Ev.vw (ev_c (d := xI 0))) hd_26) (Ev.vw (ev_c (d := xS (tg "ring")))) (neD_e hq_27))) (fun q hq => by obtain ⟨d_28, hd_28, hq⟩ := bx hq; obtain ⟨v_29, hv_29, hq⟩ := bx hq; obtain ⟨q_32, hq_32, hq⟩ := bx hq; have e := Option.some.inj hq; subst e; exact (bv_orN (bv_not (bv_e (ev_callPz (av_cons (ev_e2i (ev_v (d := xD value_3) rfl) (Ev.vw (ev_c (d := xI 1))) hd_28) (av_cons (ev_c (d := xI 0)) (av_cons (ev_e2i (ev_call (Av.aw (av_cons (ev_v (d := (xV (x3 xI xI xI)) bounds_2) rfl) av_nil)) (len_V (x3 xI xI xI) _)) (Ev.vw (ev_c (d := xI 1))) (sub_e _ _)) av_nil))) (c_are_ints hv_29)))) (fun q hq => by obtain ⟨d_30, hd_30, hq⟩ := bx hq; obtain ⟨q_31, hq_31, hq⟩ := bx hq; have e := Option.some.inj hq; subst e; exact (bv_e (ev_e2i (ev_e2i (ev_v (d := xD value_3) rfl) (Ev.vw (ev_c (d := xI 1))) hd_30) (Ev.vw (ev_tup_e (av_nil_e (e := xI)) (small rfl))) (eqD_e hq_31)))) hq_32)) hq_33) q_34) nx_nil) ?_
        obtain ⟨d_35, hd_35, h⟩ := bx h
        obtain ⟨ds_36, hds_36, h⟩ := bx h
        obtain ⟨v_40, hv_40, h⟩ := bx h
        refine go_seq (ρ1 := [some (.val (xI many_1)), some (.val ((xV (x3 xI xI xI)) bounds_2)), some (.val (xD value_3)), some (.val ((xL (x3 xI xI xI)) v_40)), none, none, none, none, none]) (nx_fz (ρ1 := [some (.val (xI many_1)), some (.val ((xV (x3 xI xI xI)) bounds_2)), some (.val (xD value_3)), some (.own (.l (v_40.map (x3 xI xI xI)))), none, none, none, none, none]) (nx_setN (ρ1 := [some (.val (xI many_1)), some (.val ((xV (x3 xI xI xI)) bounds_2)), some (.val (xD value_3)), none, none, none, none, none, none]) (nv_compM (e := xD) (e' := (x3 xI xI xI)) (ρb := fun x_37 => [some (.val (xI many_1)), some (.val ((xV (x3 xI xI xI)) bounds_2)), some (.val (xD value_3)), none, some (.val (xD x_37)), none, none, none, none]) (iv_seqD (ev_e2i (ev_v (d := xD value_3) rfl) (Ev.vw (ev_c (d := xI 1))) hd_35) hds_36) rfl (fun _ => rfl) (fun x_37 q hq => by have e := Option.some.inj hq; subst e; exact rfl) (fun x_37 y hq => by obtain ⟨v_38, hv_38, hq⟩ := bx hq; obtain ⟨v_39, hv_39, hq⟩ := bx hq; have e := Option.some.inj hq; subst e; exact (ev_e2i (ev_v (d := (xV (x3 xI xI xI)) bounds_2) rfl) (Ev.vw (Ev.to (ev_v (d := xD x_37) rfl) (unI_e hv_38))) (ixV_e (e := (x3 xI xI xI)) hv_39))) (fun _ => rfl) hv_40) rfl)) ?_
        obtain ⟨v_41, hv_41, h⟩ := bx h
        obtain ⟨u_42, hu_42, h⟩ := bx h
        by_cases q_44 : (!(((v_40.zip ((cut v_40 (some (1 : Int)) none) ++ [v_41])).map fun (x_43 : ((Int × Int × Int) × (Int × Int × Int))) => (decide (x_43.1.2.1 = x_43.2.1))).all id)) = true
        · replace h := ift q_44 h
          refine go_stop (go_ift (Bv.t (bv_not (bv_e (ev_call (Av.aw (av_cons (ev_N (nv_compA (e := (x2 (x3 xI xI xI) (x3 xI xI xI))) (e' := xB) (k := fun (x_43 : ((Int × Int × Int) × (Int × Int × Int))) => (decide (x_43.1.2.1 = x_43.2.1))) (ρb := fun x_43 => [some (.val (xI many_1)), some (.val ((xV (x3 xI xI xI)) bounds_2)), some (.val (xD value_3)), some (.val ((xL (x3 xI xI xI)) v_40)), none, some (.val ((x3 xI xI xI) x_43.1)), some (.val ((x3 xI xI xI) x_43.2)), none, none]) (iv_zip (e := (x3 xI xI xI)) (e' := (x3 xI xI xI)) (av_cons (ev_v (d := (xL (x3 xI xI xI)) v_40) rfl) (av_cons (ev_N (nv_lst_e (av_star_e (Ev.vw (ev_sl (Ev.vw (ev_v (d := (xL (x3 xI xI xI)) v_40) rfl)) (os_of (ev_c (d := xI 1))) rfl (slL_e _ _ _ _))) rfl (av_one_e (ev_e2i (ev_v (d := (xL (x3 xI xI xI)) v_40) rfl) (Ev.vw (ev_c (d := xI 0))) (ixL_e (e := (x3 xI xI xI)) hv_41)))) (fitN_e hu_42))) av_nil)) rfl rfl) rfl (fun _ => rfl) (fun x_43 => (ev_e2i (ev_e2 (Ev.vw (ev_v (d := (x3 xI xI xI) x_43.1) rfl)) (Ev.vw (ev_c (d := xI 1))) (tix3_1 _)) (Ev.vw (ev_e2 (Ev.vw (ev_v (d := (x3 xI xI xI) x_43.2) rfl)) (Ev.vw (ev_c (d := xI 0))) (tix3_0 _))) (eq_i _ _))) (fun _ => rfl))) av_nil)) (all_e _)))) q_44) ?_)
          have e := Option.some.inj h; subst e; exact (go_ret (ρ1 := [some (.val (xI many_1)), some (.val ((xV (x3 xI xI xI)) bounds_2)), some (.val (xD value_3)), some (.val ((xL (x3 xI xI xI)) v_40)), none, none, none, none, none]) (ev_c (d := xB false)) trivial)
        · replace h := iff' q_44 h
          refine go_seq (nx_iff (Bv.f (bv_not (bv_e (ev_call (Av.aw (av_cons (ev_N (nv_compA (e := (x2 (x3 xI xI xI) (x3 xI xI xI))) (e' := xB) (k := fun (x_43 : ((Int × Int × Int) × (Int × Int × Int))) => (decide (x_43.1.2.1 = x_43.2.1))) (ρb := fun x_43 => [some (.val (xI many_1)), some (.val ((xV (x3 xI xI xI)) bounds_2)), some (.val (xD value_3)), some (.val ((xL (x3 xI xI xI)) v_40)), none, some (.val ((x3 xI xI xI) x_43.1)), some (.val ((x3 xI xI xI) x_43.2)), none, none]) (iv_zip (e := (x3 xI xI xI)) (e' := (x3 xI xI xI)) (av_cons (ev_v (d := (xL (x3 xI xI xI)) v_40) rfl) (av_cons (ev_N (nv_lst_e (av_star_e (Ev.vw (ev_sl (Ev.vw (ev_v (d := (xL (x3 xI xI xI)) v_40) rfl)) (os_of (ev_c (d := xI 1))) rfl (slL_e _ _ _ _))) rfl (av_one_e (ev_e2i (ev_v (d := (xL (x3 xI xI xI)) v_40) rfl) (Ev.vw (ev_c (d := xI 0))) (ixL_e (e := (x3 xI xI xI)) hv_41)))) (fitN_e hu_42))) av_nil)) rfl rfl) rfl (fun _ => rfl) (fun x_43 => (ev_e2i (ev_e2 (Ev.vw (ev_v (d := (x3 xI xI xI) x_43.1) rfl)) (Ev.vw (ev_c (d := xI 1))) (tix3_1 _)) (Ev.vw (ev_e2 (Ev.vw (ev_v (d := (x3 xI xI xI) x_43.2) rfl)) (Ev.vw (ev_c (d := xI 0))) (tix3_0 _))) (eq_i _ _))) (fun _ => rfl))) av_nil)) (all_e _)))) q_44) nx_nil) ?_
          have e := Option.some.inj h; subst e; exact (go_ret (ρ1 := [some (.val (xI many_1)), some (.val ((xV (x3 xI xI xI)) bounds_2)), some (.val (xD value_3)), some (.val ((xL (x3 xI xI xI)) v_40)), none, none, none, none, none]) (ev_e2i (ev_call (Av.aw (av_cons (ev_N (nv_compA (e := (x3 xI xI xI)) (e' := xI) (k := fun (x_45 : (Int × Int × Int)) => x_45.2.2) (ρb := fun x_45 => [some (.val (xI many_1)), some (.val ((xV (x3 xI xI xI)) bounds_2)), some (.val (xD value_3)), some (.val ((xL (x3 xI xI xI)) v_40)), none, none, none, none, some (.val ((x3 xI xI xI) x_45))]) (iv_seq (ev_v (d := (xL (x3 xI xI xI)) v_40) rfl) rfl) rfl (fun _ => rfl) (fun x_45 => (ev_e2 (Ev.vw (ev_v (d := (x3 xI xI xI) x_45) rfl)) (Ev.vw (ev_c (d := xI 2))) (tix3_2 _))) (fun _ => rfl))) av_nil)) (sum_e _)) (Ev.vw (ev_c (d := xI 0))) (lt_i _ _)) trivial)
/-! _law_are_letters_right -/
def n__law_are_letters_right_l1 (x_4 : (Int × Int × Int × Int)) (s_3 : (List (Int × Int × Int))) : Option ((List (Int × Int × Int))) :=
  (catN s_3 [((0 : Int), (1 : Int), (x_4.2.1 - x_4.1)), ((1 : Int), (0 : Int), (x_4.2.2.2 - x_4.2.2.1))]).bind fun v_5 => some v_5
def n__law_are_letters_right_l2 (s_6 : (List (Int × Int × Int))) (x_14 : Int) (s_13 : Unit) : Option (Ctl (Unit) (Bool)) :=
  (n_shows_clocks_for (2 : Int) s_6 ((x2 xS (x2 xI xI)) ((tg "clocks"), ((0 : Int), x_14)))).bind fun v_15 => (if (!(decide (v_15 = true))) = true then some (.rt false) else some (.nx ()))
def n__law_are_letters_right_l3 (s_6 : (List (Int × Int × Int))) (x_21 : Int) (s_20 : Unit) : Option (Ctl (Unit) (Bool)) :=
  (n_shows_clocks_for (2 : Int) s_6 ((x2 xS (x2 xI xI)) ((tg "clocks"), ((0 : Int), x_21)))).bind fun v_22 => (if (!(decide (v_22 = false))) = true then some (.rt false) else some (.nx ()))
def n__law_are_letters_right_l4 (letters_1 : (List (Int × Int × Int × Int))) (x_28 : (Int × Int × Int × Int)) (s_27 : (List Tg)) : Option ((List Tg)) :=
  (compN (fun (x_29 : (Int × Int × Int × Int)) => some true) (fun (x_29 : (Int × Int × Int × Int)) => (n_clocks_apart [x_28, x_29]).bind fun v_30 => some v_30.1) letters_1).bind fun v_31 => (extN s_27 v_31).bind fun z_32 => some z_32
def n__law_are_letters_right_l4v2 (letters_1 : (List (Int × Int × Int × Int))) (x_36 : (Int × Int × Int × Int)) (s_35 : (List Tg)) : Option ((List Tg)) :=
  (compN (fun (x_37 : (Int × Int × Int × Int)) => some true) (fun (x_37 : (Int × Int × Int × Int)) => (n_clocks_apart [x_36, x_37]).bind fun v_38 => some v_38.1) letters_1).bind fun v_39 => (extN s_35 v_39).bind fun z_40 => some z_40
def n__law_are_letters_right (letters_1 : (List (Int × Int × Int × Int))) : Option (Bool) :=
  (n_clocks_apart letters_1).bind fun v_2 => (forN (n__law_are_letters_right_l1) letters_1 []).bind fun s_6 => (n_clocks_for (2 : Int) s_6).bind fun v_7 => (if (!decide ((decide (v_2.1 = (tg "apart"))) = (decide (v_7.1 = (tg "clocks"))))) = true then some false else (if (decide (v_2.1 = (tg "apart"))) = true then (getI v_7.2 (1 : Int)).bind fun v_10 => (getI v_7.2 (0 : Int)).bind fun v_11 => (if (!((decide (v_2.2.1 ≤ (v_10 - v_11))) && (decide ((v_10 - v_11) ≤ v_2.2.2)))) = true then some false else (forR (n__law_are_letters_right_l2 s_6) [v_2.2.1, v_2.2.2] ()).bind fun c_17 => (match c_17 with | .rt r_18 => some r_18 | .bk _ => none | .nx s_19 => (forR (n__law_are_letters_right_l3 s_6) [(v_2.2.1 - (1 : Int)), (v_2.2.2 + (1 : Int))] ()).bind fun c_24 => (match c_24 with | .rt r_25 => some r_25 | .bk _ => none | .nx s_26 => (forN (n__law_are_letters_right_l4 letters_1) letters_1 []).bind fun s_33 => some (decide (((s_33.map fun (x_34 : Tg) => (decide (x_34 = (tg "apart")))).all id) = (decide (v_2.1 = (tg "apart")))))))) else (forN (n__law_are_letters_right_l4v2 letters_1) letters_1 []).bind fun s_41 => some (decide (((s_41.map fun (x_42 : Tg) => (decide (x_42 = (tg "apart")))).all id) = (decide (v_2.1 = (tg "apart")))))))
theorem l__law_are_letters_right_l1 {letters_1 : (List (Int × Int × Int × Int))} {v_2 : (Tg × Int × Int)}  {x_4 : (Int × Int × Int × Int)} {s_3 : (List (Int × Int × Int))} {r : ((List (Int × Int × Int)))} (h : n__law_are_letters_right_l1 x_4 s_3 = some r) : ∃ ρ1, t__law_are_letters_right_l1 ((x4 xI xI xI xI) x_4) [some (.val ((xV (x4 xI xI xI xI)) letters_1)), some (.val ((x3 xS xI xI) v_2)), some (.val ((xL (x3 xI xI xI)) s_3)), none, none, none, none, none, none, none, none, none, none, none] = some ρ1 ∧ Go .body b__law_are_letters_right_l1 ρ1 (.nx ((fun s_3 => [some (.val ((xV (x4 xI xI xI xI)) letters_1)), some (.val ((x3 xS xI xI) v_2)), some (.val ((xL (x3 xI xI xI)) s_3)), none, none, none, none, none, none, none, none, none, none, none]) r)) := by
  unfold n__law_are_letters_right_l1 at h; unfold b__law_are_letters_right_l1
  refine ⟨[some (.val ((xV (x4 xI xI xI xI)) letters_1)), some (.val ((x3 xS xI xI) v_2)), some (.val ((xL (x3 xI xI xI)) s_3)), some (.val (xI x_4.1)), some (.val (xI x_4.2.1)), some (.val (xI x_4.2.2.1)), some (.val (xI x_4.2.2.2)), none, none, none, none, none, none, none], rfl, ?_⟩
  obtain ⟨v_5, hv_5, h⟩ := bx h
  have e := Option.some.inj h; subst e; exact go_body (nx_wp (is := [3, 4, 5, 6]) (ρ1 := [some (.val ((xV (x4 xI xI xI xI)) letters_1)), some (.val ((x3 xS xI xI) v_2)), some (.val ((xL (x3 xI xI xI)) v_5)), some (.val (xI x_4.1)), some (.val (xI x_4.2.1)), some (.val (xI x_4.2.2.1)), some (.val (xI x_4.2.2.2)), none, none, none, none, none, none, none]) (nx_set (ρ1 := [some (.val ((xV (x4 xI xI xI xI)) letters_1)), some (.val ((x3 xS xI xI) v_2)), some (.val ((xL (x3 xI xI xI)) s_3)), some (.val (xI x_4.1)), some (.val (xI x_4.2.1)), some (.val (xI x_4.2.2.1)), some (.val (xI x_4.2.2.2)), none, none, none, none, none, none, none]) (d := (xL (x3 xI xI xI)) v_5) (ev_e2 (Ev.vw (ev_v (d := (xL (x3 xI xI xI)) s_3) rfl)) (Ev.vw (ev_N (nv_lst_e (av_cons_e (ev_tup (av_cons (ev_c (d := xI 0)) (av_cons (ev_c (d := xI 1)) (av_cons (ev_e2i (ev_v (d := xI x_4.2.1) rfl) (Ev.vw (ev_v (d := xI x_4.1) rfl)) (sub_e _ _)) av_nil))) (small rfl)) (av_one_e (ev_tup (av_cons (ev_c (d := xI 1)) (av_cons (ev_c (d := xI 0)) (av_cons (ev_e2i (ev_v (d := xI x_4.2.2.2) rfl) (Ev.vw (ev_v (d := xI x_4.2.2.1) rfl)) (sub_e _ _)) av_nil))) (small rfl)))) (small rfl)))) (catL_e hv_5)) rfl))
theorem l__law_are_letters_right_l2 {s_6 : (List (Int × Int × Int))} {letters_1 : (List (Int × Int × Int × Int))} {v_2 : (Tg × Int × Int)} {v_7 : (Tg × (List Int))}  {x_14 : Int} {s_13 : Unit} {r : (Ctl (Unit) (Bool))} (h : n__law_are_letters_right_l2 s_6 x_14 s_13 = some r) : ∃ ρ1, t__law_are_letters_right_l2 (xI x_14) [some (.val ((xV (x4 xI xI xI xI)) letters_1)), some (.val ((x3 xS xI xI) v_2)), some (.val ((xL (x3 xI xI xI)) s_6)), none, none, none, none, some (.val ((x2 xS (xV xI)) v_7)), none, none, some (.val ((xV xI) v_7.2)), none, none, none] = some ρ1 ∧ Go .body b__law_are_letters_right_l2 ρ1 (Turn (σ := Unit) (fun s_13 => [some (.val ((xV (x4 xI xI xI xI)) letters_1)), some (.val ((x3 xS xI xI) v_2)), some (.val ((xL (x3 xI xI xI)) s_6)), none, none, none, none, some (.val ((x2 xS (xV xI)) v_7)), none, none, some (.val ((xV xI) v_7.2)), none, none, none]) xB (fun _ => none) r) := by
  unfold n__law_are_letters_right_l2 at h; unfold b__law_are_letters_right_l2
  refine ⟨[some (.val ((xV (x4 xI xI xI xI)) letters_1)), some (.val ((x3 xS xI xI) v_2)), some (.val ((xL (x3 xI xI xI)) s_6)), none, none, none, none, some (.val ((x2 xS (xV xI)) v_7)), none, none, some (.val ((xV xI) v_7.2)), some (.val (xI x_14)), none, none], rfl, ?_⟩
  obtain ⟨v_15, hv_15, h⟩ := bx h
  by_cases q_16 : (!(decide (v_15 = true))) = true
  · replace h := ift q_16 h
    refine go_ift (Bv.t (bv_e (ev_e2 (Ev.vw (ev_callPz (av_cons (ev_c (d := xI 2)) (av_cons (ev_call (Av.aw (av_cons (ev_v (d := (xL (x3 xI xI xI)) s_6) rfl) av_nil)) (tuple_L (x3 xI xI xI) _)) (av_cons (ev_tup (av_cons (ev_c (d := xS (tg "clocks"))) (av_cons (ev_tup (av_cons (ev_c (d := xI 0)) (av_cons (ev_v (d := xI x_14) rfl) av_nil)) (small rfl)) av_nil)) (small rfl)) av_nil))) (c_shows_clocks_for hv_15))) (Ev.vw (ev_c (d := xB true))) (isnot_b _ _))) q_16) ?_
    have e := Option.some.inj h; subst e; exact (go_ret (ρ1 := [some (.val ((xV (x4 xI xI xI xI)) letters_1)), some (.val ((x3 xS xI xI) v_2)), some (.val ((xL (x3 xI xI xI)) s_6)), none, none, none, none, some (.val ((x2 xS (xV xI)) v_7)), none, none, some (.val ((xV xI) v_7.2)), some (.val (xI x_14)), none, none]) (ev_c (d := xB false)) trivial)
  · replace h := iff' q_16 h
    refine go_iff (Bv.f (bv_e (ev_e2 (Ev.vw (ev_callPz (av_cons (ev_c (d := xI 2)) (av_cons (ev_call (Av.aw (av_cons (ev_v (d := (xL (x3 xI xI xI)) s_6) rfl) av_nil)) (tuple_L (x3 xI xI xI) _)) (av_cons (ev_tup (av_cons (ev_c (d := xS (tg "clocks"))) (av_cons (ev_tup (av_cons (ev_c (d := xI 0)) (av_cons (ev_v (d := xI x_14) rfl) av_nil)) (small rfl)) av_nil)) (small rfl)) av_nil))) (c_shows_clocks_for hv_15))) (Ev.vw (ev_c (d := xB true))) (isnot_b _ _))) q_16) ?_
    have e := Option.some.inj h; subst e; exact go_body (nx_wp (is := [11]) (ρ1 := [some (.val ((xV (x4 xI xI xI xI)) letters_1)), some (.val ((x3 xS xI xI) v_2)), some (.val ((xL (x3 xI xI xI)) s_6)), none, none, none, none, some (.val ((x2 xS (xV xI)) v_7)), none, none, some (.val ((xV xI) v_7.2)), some (.val (xI x_14)), none, none]) nx_nil)
theorem l__law_are_letters_right_l3 {s_6 : (List (Int × Int × Int))} {letters_1 : (List (Int × Int × Int × Int))} {v_2 : (Tg × Int × Int)} {v_7 : (Tg × (List Int))}  {x_21 : Int} {s_20 : Unit} {r : (Ctl (Unit) (Bool))} (h : n__law_are_letters_right_l3 s_6 x_21 s_20 = some r) : ∃ ρ1, t__law_are_letters_right_l3 (xI x_21) [some (.val ((xV (x4 xI xI xI xI)) letters_1)), some (.val ((x3 xS xI xI) v_2)), some (.val ((xL (x3 xI xI xI)) s_6)), none, none, none, none, some (.val ((x2 xS (xV xI)) v_7)), none, none, some (.val ((xV xI) v_7.2)), none, none, none] = some ρ1 ∧ Go .body b__law_are_letters_right_l3 ρ1 (Turn (σ := Unit) (fun s_20 => [some (.val ((xV (x4 xI xI xI xI)) letters_1)), some (.val ((x3 xS xI xI) v_2)), some (.val ((xL (x3 xI xI xI)) s_6)), none, none, none, none, some (.val ((x2 xS (xV xI)) v_7)), none, none, some (.val ((xV xI) v_7.2)), none, none, none]) xB (fun _ => none) r) := by
  unfold n__law_are_letters_right_l3 at h; unfold b__law_are_letters_right_l3
  refine ⟨[some (.val ((xV (x4 xI xI xI xI)) letters_1)), some (.val ((x3 xS xI xI) v_2)), some (.val ((xL (x3 xI xI xI)) s_6)), none, none, none, none, some (.val ((x2 xS (xV xI)) v_7)), none, none, some (.val ((xV xI) v_7.2)), some (.val (xI x_21)), none, none], rfl, ?_⟩
  obtain ⟨v_22, hv_22, h⟩ := bx h
  by_cases q_23 : (!(decide (v_22 = false))) = true
  · replace h := ift q_23 h
    refine go_ift (Bv.t (bv_e (ev_e2 (Ev.vw (ev_callPz (av_cons (ev_c (d := xI 2)) (av_cons (ev_call (Av.aw (av_cons (ev_v (d := (xL (x3 xI xI xI)) s_6) rfl) av_nil)) (tuple_L (x3 xI xI xI) _)) (av_cons (ev_tup (av_cons (ev_c (d := xS (tg "clocks"))) (av_cons (ev_tup (av_cons (ev_c (d := xI 0)) (av_cons (ev_v (d := xI x_21) rfl) av_nil)) (small rfl)) av_nil)) (small rfl)) av_nil))) (c_shows_clocks_for hv_22))) (Ev.vw (ev_c (d := xB false))) (isnot_b _ _))) q_23) ?_
    have e := Option.some.inj h; subst e; exact (go_ret (ρ1 := [some (.val ((xV (x4 xI xI xI xI)) letters_1)), some (.val ((x3 xS xI xI) v_2)), some (.val ((xL (x3 xI xI xI)) s_6)), none, none, none, none, some (.val ((x2 xS (xV xI)) v_7)), none, none, some (.val ((xV xI) v_7.2)), some (.val (xI x_21)), none, none]) (ev_c (d := xB false)) trivial)
  · replace h := iff' q_23 h
    refine go_iff (Bv.f (bv_e (ev_e2 (Ev.vw (ev_callPz (av_cons (ev_c (d := xI 2)) (av_cons (ev_call (Av.aw (av_cons (ev_v (d := (xL (x3 xI xI xI)) s_6) rfl) av_nil)) (tuple_L (x3 xI xI xI) _)) (av_cons (ev_tup (av_cons (ev_c (d := xS (tg "clocks"))) (av_cons (ev_tup (av_cons (ev_c (d := xI 0)) (av_cons (ev_v (d := xI x_21) rfl) av_nil)) (small rfl)) av_nil)) (small rfl)) av_nil))) (c_shows_clocks_for hv_22))) (Ev.vw (ev_c (d := xB false))) (isnot_b _ _))) q_23) ?_
    have e := Option.some.inj h; subst e; exact go_body (nx_wp (is := [11]) (ρ1 := [some (.val ((xV (x4 xI xI xI xI)) letters_1)), some (.val ((x3 xS xI xI) v_2)), some (.val ((xL (x3 xI xI xI)) s_6)), none, none, none, none, some (.val ((x2 xS (xV xI)) v_7)), none, none, some (.val ((xV xI) v_7.2)), some (.val (xI x_21)), none, none]) nx_nil)
theorem l__law_are_letters_right_l4 {letters_1 : (List (Int × Int × Int × Int))} {v_2 : (Tg × Int × Int)} {s_6 : (List (Int × Int × Int))} {v_7 : (Tg × (List Int))}  {x_28 : (Int × Int × Int × Int)} {s_27 : (List Tg)} {r : ((List Tg))} (h : n__law_are_letters_right_l4 letters_1 x_28 s_27 = some r) : ∃ ρ1, t__law_are_letters_right_l4 ((x4 xI xI xI xI) x_28) [some (.val ((xV (x4 xI xI xI xI)) letters_1)), some (.val ((x3 xS xI xI) v_2)), some (.val ((xL (x3 xI xI xI)) s_6)), none, none, none, none, some (.val ((x2 xS (xV xI)) v_7)), some (.own (.l (s_27.map xS))), none, some (.val ((xV xI) v_7.2)), none, none, none] = some ρ1 ∧ Go .body b__law_are_letters_right_l4 ρ1 (.nx ((fun s_27 => [some (.val ((xV (x4 xI xI xI xI)) letters_1)), some (.val ((x3 xS xI xI) v_2)), some (.val ((xL (x3 xI xI xI)) s_6)), none, none, none, none, some (.val ((x2 xS (xV xI)) v_7)), some (.own (.l (s_27.map xS))), none, some (.val ((xV xI) v_7.2)), none, none, none]) r)) := by
  unfold n__law_are_letters_right_l4 at h; unfold b__law_are_letters_right_l4
  refine ⟨[some (.val ((xV (x4 xI xI xI xI)) letters_1)), some (.val ((x3 xS xI xI) v_2)), some (.val ((xL (x3 xI xI xI)) s_6)), none, none, none, none, some (.val ((x2 xS (xV xI)) v_7)), some (.own (.l (s_27.map xS))), some (.val ((x4 xI xI xI xI) x_28)), some (.val ((xV xI) v_7.2)), none, none, none], rfl, ?_⟩
  obtain ⟨v_31, hv_31, h⟩ := bx h
  obtain ⟨z_32, hz_32, h⟩ := bx h
  have e := Option.some.inj h; subst e; exact go_body (nx_wp (is := [9]) (ρ1 := [some (.val ((xV (x4 xI xI xI xI)) letters_1)), some (.val ((x3 xS xI xI) v_2)), some (.val ((xL (x3 xI xI xI)) s_6)), none, none, none, none, some (.val ((x2 xS (xV xI)) v_7)), some (.own (.l (z_32.map xS))), some (.val ((x4 xI xI xI xI) x_28)), some (.val ((xV xI) v_7.2)), none, none, none]) (nx_ext_e (ρ1 := [some (.val ((xV (x4 xI xI xI xI)) letters_1)), some (.val ((x3 xS xI xI) v_2)), some (.val ((xL (x3 xI xI xI)) s_6)), none, none, none, none, some (.val ((x2 xS (xV xI)) v_7)), some (.own (.l (s_27.map xS))), some (.val ((x4 xI xI xI xI) x_28)), some (.val ((xV xI) v_7.2)), none, none, none]) (e := xS) rfl (Ev.vw (ev_N (nv_compM (e := (x4 xI xI xI xI)) (e' := xS) (ρb := fun x_29 => [some (.val ((xV (x4 xI xI xI xI)) letters_1)), some (.val ((x3 xS xI xI) v_2)), some (.val ((xL (x3 xI xI xI)) s_6)), none, none, none, none, some (.val ((x2 xS (xV xI)) v_7)), some (.own (.l (s_27.map xS))), some (.val ((x4 xI xI xI xI) x_28)), some (.val ((xV xI) v_7.2)), none, some (.val ((x4 xI xI xI xI) x_29)), none]) (iv_seq (ev_v (d := (xV (x4 xI xI xI xI)) letters_1) rfl) rfl) rfl (fun _ => rfl) (fun x_29 q hq => by have e := Option.some.inj hq; subst e; exact rfl) (fun x_29 y hq => by obtain ⟨v_30, hv_30, hq⟩ := bx hq; have e := Option.some.inj hq; subst e; exact (ev_e2 (Ev.vw (ev_callPz (av_cons (ev_tup_e (av_cons_e (ev_v (d := (x4 xI xI xI xI) x_28) rfl) (av_one_e (ev_v (d := (x4 xI xI xI xI) x_29) rfl))) (small rfl)) av_nil) (c_clocks_apart hv_30))) (Ev.vw (ev_c (d := xI 0))) (tix3_0 _))) (fun _ => rfl) hv_31))) rfl rfl hz_32))
theorem l__law_are_letters_right_l4v2 {letters_1 : (List (Int × Int × Int × Int))} {v_2 : (Tg × Int × Int)} {s_6 : (List (Int × Int × Int))} {v_7 : (Tg × (List Int))}  {x_36 : (Int × Int × Int × Int)} {s_35 : (List Tg)} {r : ((List Tg))} (h : n__law_are_letters_right_l4v2 letters_1 x_36 s_35 = some r) : ∃ ρ1, t__law_are_letters_right_l4 ((x4 xI xI xI xI) x_36) [some (.val ((xV (x4 xI xI xI xI)) letters_1)), some (.val ((x3 xS xI xI) v_2)), some (.val ((xL (x3 xI xI xI)) s_6)), none, none, none, none, some (.val ((x2 xS (xV xI)) v_7)), some (.own (.l (s_35.map xS))), none, none, none, none, none] = some ρ1 ∧ Go .body b__law_are_letters_right_l4 ρ1 (.nx ((fun s_35 => [some (.val ((xV (x4 xI xI xI xI)) letters_1)), some (.val ((x3 xS xI xI) v_2)), some (.val ((xL (x3 xI xI xI)) s_6)), none, none, none, none, some (.val ((x2 xS (xV xI)) v_7)), some (.own (.l (s_35.map xS))), none, none, none, none, none]) r)) := by
  unfold n__law_are_letters_right_l4v2 at h; unfold b__law_are_letters_right_l4
  refine ⟨[some (.val ((xV (x4 xI xI xI xI)) letters_1)), some (.val ((x3 xS xI xI) v_2)), some (.val ((xL (x3 xI xI xI)) s_6)), none, none, none, none, some (.val ((x2 xS (xV xI)) v_7)), some (.own (.l (s_35.map xS))), some (.val ((x4 xI xI xI xI) x_36)), none, none, none, none], rfl, ?_⟩
  obtain ⟨v_39, hv_39, h⟩ := bx h
  obtain ⟨z_40, hz_40, h⟩ := bx h
  have e := Option.some.inj h; subst e; exact go_body (nx_wp (is := [9]) (ρ1 := [some (.val ((xV (x4 xI xI xI xI)) letters_1)), some (.val ((x3 xS xI xI) v_2)), some (.val ((xL (x3 xI xI xI)) s_6)), none, none, none, none, some (.val ((x2 xS (xV xI)) v_7)), some (.own (.l (z_40.map xS))), some (.val ((x4 xI xI xI xI) x_36)), none, none, none, none]) (nx_ext_e (ρ1 := [some (.val ((xV (x4 xI xI xI xI)) letters_1)), some (.val ((x3 xS xI xI) v_2)), some (.val ((xL (x3 xI xI xI)) s_6)), none, none, none, none, some (.val ((x2 xS (xV xI)) v_7)), some (.own (.l (s_35.map xS))), some (.val ((x4 xI xI xI xI) x_36)), none, none, none, none]) (e := xS) rfl (Ev.vw (ev_N (nv_compM (e := (x4 xI xI xI xI)) (e' := xS) (ρb := fun x_37 => [some (.val ((xV (x4 xI xI xI xI)) letters_1)), some (.val ((x3 xS xI xI) v_2)), some (.val ((xL (x3 xI xI xI)) s_6)), none, none, none, none, some (.val ((x2 xS (xV xI)) v_7)), some (.own (.l (s_35.map xS))), some (.val ((x4 xI xI xI xI) x_36)), none, none, some (.val ((x4 xI xI xI xI) x_37)), none]) (iv_seq (ev_v (d := (xV (x4 xI xI xI xI)) letters_1) rfl) rfl) rfl (fun _ => rfl) (fun x_37 q hq => by have e := Option.some.inj hq; subst e; exact rfl) (fun x_37 y hq => by obtain ⟨v_38, hv_38, hq⟩ := bx hq; have e := Option.some.inj hq; subst e; exact (ev_e2 (Ev.vw (ev_callPz (av_cons (ev_tup_e (av_cons_e (ev_v (d := (x4 xI xI xI xI) x_36) rfl) (av_one_e (ev_v (d := (x4 xI xI xI xI) x_37) rfl))) (small rfl)) av_nil) (c_clocks_apart hv_38))) (Ev.vw (ev_c (d := xI 0))) (tix3_0 _))) (fun _ => rfl) hv_39))) rfl rfl hz_40))
theorem c__law_are_letters_right {letters_1 : (List (Int × Int × Int × Int))} {r : Bool} (h : n__law_are_letters_right letters_1 = some r) : f__law_are_letters_right [(xV (x4 xI xI xI xI)) letters_1] = some (xB r) := by
  unfold n__law_are_letters_right at h
  refine fn_rt rfl ?_
  show Go .top b__law_are_letters_right [some (.val ((xV (x4 xI xI xI xI)) letters_1)), none, none, none, none, none, none, none, none, none, none, none, none, none] (.rt (xB r) none)
  unfold b__law_are_letters_right
  obtain ⟨v_2, hv_2, h⟩ := bx h
  refine go_seq (ρ1 := [some (.val ((xV (x4 xI xI xI xI)) letters_1)), some (.val ((x3 xS xI xI) v_2)), some (.val ((xL (x3 xI xI xI)) [])), none, none, none, none, none, none, none, none, none, none, none]) (nx_par (ρ1 := [some (.val ((xV (x4 xI xI xI xI)) letters_1)), none, none, none, none, none, none, none, none, none, none, none, none, none]) (ls_E (d := (x3 xS xI xI) v_2) (ev_callPz (av_cons (ev_v (d := (xV (x4 xI xI xI xI)) letters_1) rfl) av_nil) (c_clocks_apart hv_2)) (ls_E (d := (xL (x3 xI xI xI)) []) (ev_N (nv_lst_e (av_nil_e (e := (x3 xI xI xI))) (small rfl))) ls_nil)) rfl) ?_
  obtain ⟨s_6, hs_6, h⟩ := bx h
  refine go_seq (ρ1 := [some (.val ((xV (x4 xI xI xI xI)) letters_1)), some (.val ((x3 xS xI xI) v_2)), some (.val ((xL (x3 xI xI xI)) s_6)), none, none, none, none, none, none, none, none, none, none, none]) (nx_for (rep := (fun s_3 => [some (.val ((xV (x4 xI xI xI xI)) letters_1)), some (.val ((x3 xS xI xI) v_2)), some (.val ((xL (x3 xI xI xI)) s_3)), none, none, none, none, none, none, none, none, none, none, none])) (e := (x4 xI xI xI xI)) (s := []) (iv_wp (is := [3, 4, 5, 6]) (ρ1 := [some (.val ((xV (x4 xI xI xI xI)) letters_1)), some (.val ((x3 xS xI xI) v_2)), some (.val ((xL (x3 xI xI xI)) [])), none, none, none, none, none, none, none, none, none, none, none]) (iv_seq (ev_v (d := (xV (x4 xI xI xI xI)) letters_1) rfl) rfl)) (fun _ _ _ h => l__law_are_letters_right_l1 (letters_1 := letters_1) (v_2 := v_2) h) hs_6) ?_
  obtain ⟨v_7, hv_7, h⟩ := bx h
  refine go_seq (ρ1 := [some (.val ((xV (x4 xI xI xI xI)) letters_1)), some (.val ((x3 xS xI xI) v_2)), some (.val ((xL (x3 xI xI xI)) s_6)), none, none, none, none, some (.val ((x2 xS (xV xI)) v_7)), none, none, none, none, none, none]) (nx_set (ρ1 := [some (.val ((xV (x4 xI xI xI xI)) letters_1)), some (.val ((x3 xS xI xI) v_2)), some (.val ((xL (x3 xI xI xI)) s_6)), none, none, none, none, none, none, none, none, none, none, none]) (d := (x2 xS (xV xI)) v_7) (ev_callPz (av_cons (ev_c (d := xI 2)) (av_cons (ev_call (Av.aw (av_cons (ev_v (d := (xL (x3 xI xI xI)) s_6) rfl) av_nil)) (tuple_L (x3 xI xI xI) _)) av_nil)) (c_clocks_for hv_7)) rfl) ?_
  by_cases q_8 : (!decide ((decide (v_2.1 = (tg "apart"))) = (decide (v_7.1 = (tg "clocks"))))) = true
  · replace h := ift q_8 h
    refine go_stop (go_ift (Bv.t (bv_e (ev_e2i (ev_e2i (ev_e2 (Ev.vw (ev_v (d := (x3 xS xI xI) v_2) rfl)) (Ev.vw (ev_c (d := xI 0))) (tix3_0 _)) (Ev.vw (ev_c (d := xS (tg "apart")))) (dEq_e xS (by decide) _ _)) (Ev.vw (ev_e2i (ev_e2 (Ev.vw (ev_v (d := (x2 xS (xV xI)) v_7) rfl)) (Ev.vw (ev_c (d := xI 0))) (tix2_0 _)) (Ev.vw (ev_c (d := xS (tg "clocks")))) (dEq_e xS (by decide) _ _))) (dNe_e xB (by decide) _ _))) q_8) ?_)
    have e := Option.some.inj h; subst e; exact (go_ret (ρ1 := [some (.val ((xV (x4 xI xI xI xI)) letters_1)), some (.val ((x3 xS xI xI) v_2)), some (.val ((xL (x3 xI xI xI)) s_6)), none, none, none, none, some (.val ((x2 xS (xV xI)) v_7)), none, none, none, none, none, none]) (ev_c (d := xB false)) trivial)
  · replace h := iff' q_8 h
    refine go_seq (nx_iff (Bv.f (bv_e (ev_e2i (ev_e2i (ev_e2 (Ev.vw (ev_v (d := (x3 xS xI xI) v_2) rfl)) (Ev.vw (ev_c (d := xI 0))) (tix3_0 _)) (Ev.vw (ev_c (d := xS (tg "apart")))) (dEq_e xS (by decide) _ _)) (Ev.vw (ev_e2i (ev_e2 (Ev.vw (ev_v (d := (x2 xS (xV xI)) v_7) rfl)) (Ev.vw (ev_c (d := xI 0))) (tix2_0 _)) (Ev.vw (ev_c (d := xS (tg "clocks")))) (dEq_e xS (by decide) _ _))) (dNe_e xB (by decide) _ _))) q_8) nx_nil) ?_
    by_cases q_9 : (decide (v_2.1 = (tg "apart"))) = true
    · replace h := ift q_9 h
      refine go_seq_ift (Bv.t (bv_e (ev_e2i (ev_e2 (Ev.vw (ev_v (d := (x3 xS xI xI) v_2) rfl)) (Ev.vw (ev_c (d := xI 0))) (tix3_0 _)) (Ev.vw (ev_c (d := xS (tg "apart")))) (dEq_e xS (by decide) _ _))) q_9) ?_
      refine go_assoc ?_
      refine go_seq (ρ1 := [some (.val ((xV (x4 xI xI xI xI)) letters_1)), some (.val ((x3 xS xI xI) v_2)), some (.val ((xL (x3 xI xI xI)) s_6)), none, none, none, none, some (.val ((x2 xS (xV xI)) v_7)), none, none, some (.val ((xV xI) v_7.2)), none, none, none]) (nx_set (ρ1 := [some (.val ((xV (x4 xI xI xI xI)) letters_1)), some (.val ((x3 xS xI xI) v_2)), some (.val ((xL (x3 xI xI xI)) s_6)), none, none, none, none, some (.val ((x2 xS (xV xI)) v_7)), none, none, none, none, none, none]) (d := (xV xI) v_7.2) (ev_e2 (Ev.vw (ev_v (d := (x2 xS (xV xI)) v_7) rfl)) (Ev.vw (ev_c (d := xI 1))) (tix2_1 _)) rfl) ?_
      refine go_assoc ?_
      obtain ⟨v_10, hv_10, h⟩ := bx h
      obtain ⟨v_11, hv_11, h⟩ := bx h
      by_cases q_12 : (!((decide (v_2.2.1 ≤ (v_10 - v_11))) && (decide ((v_10 - v_11) ≤ v_2.2.2)))) = true
      · replace h := ift q_12 h
        refine go_stop (go_ift (Bv.t (bv_not (bv_e (ev_chainV (Ev.vw (ev_e2 (Ev.vw (ev_v (d := (x3 xS xI xI) v_2) rfl)) (Ev.vw (ev_c (d := xI 1))) (tix3_1 _))) (Ev.vw (ev_e2i (ev_e2i (ev_v (d := (xV xI) v_7.2) rfl) (Ev.vw (ev_c (d := xI 1))) (ixV_e (e := xI) hv_10)) (Ev.vw (ev_e2i (ev_v (d := (xV xI) v_7.2) rfl) (Ev.vw (ev_c (d := xI 0))) (ixV_e (e := xI) hv_11))) (sub_e _ _))) (Ev.vw (ev_e2 (Ev.vw (ev_v (d := (x3 xS xI xI) v_2) rfl)) (Ev.vw (ev_c (d := xI 2))) (tix3_2 _))) (le_i _ _) (le_i _ _)))) q_12) ?_)
        have e := Option.some.inj h; subst e; exact (go_ret (ρ1 := [some (.val ((xV (x4 xI xI xI xI)) letters_1)), some (.val ((x3 xS xI xI) v_2)), some (.val ((xL (x3 xI xI xI)) s_6)), none, none, none, none, some (.val ((x2 xS (xV xI)) v_7)), none, none, some (.val ((xV xI) v_7.2)), none, none, none]) (ev_c (d := xB false)) trivial)
      · replace h := iff' q_12 h
        refine go_seq (nx_iff (Bv.f (bv_not (bv_e (ev_chainV (Ev.vw (ev_e2 (Ev.vw (ev_v (d := (x3 xS xI xI) v_2) rfl)) (Ev.vw (ev_c (d := xI 1))) (tix3_1 _))) (Ev.vw (ev_e2i (ev_e2i (ev_v (d := (xV xI) v_7.2) rfl) (Ev.vw (ev_c (d := xI 1))) (ixV_e (e := xI) hv_10)) (Ev.vw (ev_e2i (ev_v (d := (xV xI) v_7.2) rfl) (Ev.vw (ev_c (d := xI 0))) (ixV_e (e := xI) hv_11))) (sub_e _ _))) (Ev.vw (ev_e2 (Ev.vw (ev_v (d := (x3 xS xI xI) v_2) rfl)) (Ev.vw (ev_c (d := xI 2))) (tix3_2 _))) (le_i _ _) (le_i _ _)))) q_12) nx_nil) ?_
        refine go_assoc ?_
        obtain ⟨c_17, hc_17, h⟩ := bx h
        cases c_17 with
        | rt r_18 =>
          have e := Option.some.inj h; subst e
          exact go_stop (rt_forR (rep := (fun s_13 => [some (.val ((xV (x4 xI xI xI xI)) letters_1)), some (.val ((x3 xS xI xI) v_2)), some (.val ((xL (x3 xI xI xI)) s_6)), none, none, none, none, some (.val ((x2 xS (xV xI)) v_7)), none, none, some (.val ((xV xI) v_7.2)), none, none, none])) (e := xI) (s := ()) (er := xB) (ec := fun _ => none) (iv_wp (is := [11]) (ρ1 := [some (.val ((xV (x4 xI xI xI xI)) letters_1)), some (.val ((x3 xS xI xI) v_2)), some (.val ((xL (x3 xI xI xI)) s_6)), none, none, none, none, some (.val ((x2 xS (xV xI)) v_7)), none, none, some (.val ((xV xI) v_7.2)), none, none, none]) (iv_seq (ev_tup_e (av_cons_e (ev_e2 (Ev.vw (ev_v (d := (x3 xS xI xI) v_2) rfl)) (Ev.vw (ev_c (d := xI 1))) (tix3_1 _)) (av_one_e (ev_e2 (Ev.vw (ev_v (d := (x3 xS xI xI) v_2) rfl)) (Ev.vw (ev_c (d := xI 2))) (tix3_2 _)))) (small rfl)) rfl)) (fun _ _ _ h => l__law_are_letters_right_l2 (s_6 := s_6) (letters_1 := letters_1) (v_2 := v_2) (v_7 := v_7) h) hc_17)
        | bk _ =>
          exact (no_forR hc_17).elim
        | nx s_19 =>
          refine go_seq (ρ1 := [some (.val ((xV (x4 xI xI xI xI)) letters_1)), some (.val ((x3 xS xI xI) v_2)), some (.val ((xL (x3 xI xI xI)) s_6)), none, none, none, none, some (.val ((x2 xS (xV xI)) v_7)), none, none, some (.val ((xV xI) v_7.2)), none, none, none]) (nx_forR (rep := (fun s_13 => [some (.val ((xV (x4 xI xI xI xI)) letters_1)), some (.val ((x3 xS xI xI) v_2)), some (.val ((xL (x3 xI xI xI)) s_6)), none, none, none, none, some (.val ((x2 xS (xV xI)) v_7)), none, none, some (.val ((xV xI) v_7.2)), none, none, none])) (e := xI) (s := ()) (er := xB) (ec := fun _ => none) (iv_wp (is := [11]) (ρ1 := [some (.val ((xV (x4 xI xI xI xI)) letters_1)), some (.val ((x3 xS xI xI) v_2)), some (.val ((xL (x3 xI xI xI)) s_6)), none, none, none, none, some (.val ((x2 xS (xV xI)) v_7)), none, none, some (.val ((xV xI) v_7.2)), none, none, none]) (iv_seq (ev_tup_e (av_cons_e (ev_e2 (Ev.vw (ev_v (d := (x3 xS xI xI) v_2) rfl)) (Ev.vw (ev_c (d := xI 1))) (tix3_1 _)) (av_one_e (ev_e2 (Ev.vw (ev_v (d := (x3 xS xI xI) v_2) rfl)) (Ev.vw (ev_c (d := xI 2))) (tix3_2 _)))) (small rfl)) rfl)) (fun _ _ _ h => l__law_are_letters_right_l2 (s_6 := s_6) (letters_1 := letters_1) (v_2 := v_2) (v_7 := v_7) h) hc_17) ?_
          obtain ⟨c_24, hc_24, h⟩ := bx h
          cases c_24 with
          | rt r_25 =>
            have e := Option.some.inj h; subst e
            exact go_stop (rt_forR (rep := (fun s_20 => [some (.val ((xV (x4 xI xI xI xI)) letters_1)), some (.val ((x3 xS xI xI) v_2)), some (.val ((xL (x3 xI xI xI)) s_6)), none, none, none, none, some (.val ((x2 xS (xV xI)) v_7)), none, none, some (.val ((xV xI) v_7.2)), none, none, none])) (e := xI) (s := ()) (er := xB) (ec := fun _ => none) (iv_wp (is := [11]) (ρ1 := [some (.val ((xV (x4 xI xI xI xI)) letters_1)), some (.val ((x3 xS xI xI) v_2)), some (.val ((xL (x3 xI xI xI)) s_6)), none, none, none, none, some (.val ((x2 xS (xV xI)) v_7)), none, none, some (.val ((xV xI) v_7.2)), none, none, none]) (iv_seq (ev_tup_e (av_cons_e (ev_e2i (ev_e2 (Ev.vw (ev_v (d := (x3 xS xI xI) v_2) rfl)) (Ev.vw (ev_c (d := xI 1))) (tix3_1 _)) (Ev.vw (ev_c (d := xI 1))) (sub_e _ _)) (av_one_e (ev_e2i (ev_e2 (Ev.vw (ev_v (d := (x3 xS xI xI) v_2) rfl)) (Ev.vw (ev_c (d := xI 2))) (tix3_2 _)) (Ev.vw (ev_c (d := xI 1))) (add_e _ _)))) (small rfl)) rfl)) (fun _ _ _ h => l__law_are_letters_right_l3 (s_6 := s_6) (letters_1 := letters_1) (v_2 := v_2) (v_7 := v_7) h) hc_24)
          | bk _ =>
            exact (no_forR hc_24).elim
          | nx s_26 =>
            refine go_seq (ρ1 := [some (.val ((xV (x4 xI xI xI xI)) letters_1)), some (.val ((x3 xS xI xI) v_2)), some (.val ((xL (x3 xI xI xI)) s_6)), none, none, none, none, some (.val ((x2 xS (xV xI)) v_7)), none, none, some (.val ((xV xI) v_7.2)), none, none, none]) (nx_forR (rep := (fun s_20 => [some (.val ((xV (x4 xI xI xI xI)) letters_1)), some (.val ((x3 xS xI xI) v_2)), some (.val ((xL (x3 xI xI xI)) s_6)), none, none, none, none, some (.val ((x2 xS (xV xI)) v_7)), none, none, some (.val ((xV xI) v_7.2)), none, none, none])) (e := xI) (s := ()) (er := xB) (ec := fun _ => none) (iv_wp (is := [11]) (ρ1 := [some (.val ((xV (x4 xI xI xI xI)) letters_1)), some (.val ((x3 xS xI xI) v_2)), some (.val ((xL (x3 xI xI xI)) s_6)), none, none, none, none, some (.val ((x2 xS (xV xI)) v_7)), none, none, some (.val ((xV xI) v_7.2)), none, none, none]) (iv_seq (ev_tup_e (av_cons_e (ev_e2i (ev_e2 (Ev.vw (ev_v (d := (x3 xS xI xI) v_2) rfl)) (Ev.vw (ev_c (d := xI 1))) (tix3_1 _)) (Ev.vw (ev_c (d := xI 1))) (sub_e _ _)) (av_one_e (ev_e2i (ev_e2 (Ev.vw (ev_v (d := (x3 xS xI xI) v_2) rfl)) (Ev.vw (ev_c (d := xI 2))) (tix3_2 _)) (Ev.vw (ev_c (d := xI 1))) (add_e _ _)))) (small rfl)) rfl)) (fun _ _ _ h => l__law_are_letters_right_l3 (s_6 := s_6) (letters_1 := letters_1) (v_2 := v_2) (v_7 := v_7) h) hc_24) ?_
            refine go_seq (ρ1 := [some (.val ((xV (x4 xI xI xI xI)) letters_1)), some (.val ((x3 xS xI xI) v_2)), some (.val ((xL (x3 xI xI xI)) s_6)), none, none, none, none, some (.val ((x2 xS (xV xI)) v_7)), some (.own (.l ([].map xS))), none, some (.val ((xV xI) v_7.2)), none, none, none]) (nx_setN (ρ1 := [some (.val ((xV (x4 xI xI xI xI)) letters_1)), some (.val ((x3 xS xI xI) v_2)), some (.val ((xL (x3 xI xI xI)) s_6)), none, none, none, none, some (.val ((x2 xS (xV xI)) v_7)), none, none, some (.val ((xV xI) v_7.2)), none, none, none]) (ds := [].map xS) (nv_lst_e (av_nil_e (e := xS)) (small rfl)) rfl) ?_
            obtain ⟨s_33, hs_33, h⟩ := bx h
            refine go_seq (ρ1 := [some (.val ((xV (x4 xI xI xI xI)) letters_1)), some (.val ((x3 xS xI xI) v_2)), some (.val ((xL (x3 xI xI xI)) s_6)), none, none, none, none, some (.val ((x2 xS (xV xI)) v_7)), some (.val ((xL xS) s_33)), none, some (.val ((xV xI) v_7.2)), none, none, none]) (nx_fz (ρ1 := [some (.val ((xV (x4 xI xI xI xI)) letters_1)), some (.val ((x3 xS xI xI) v_2)), some (.val ((xL (x3 xI xI xI)) s_6)), none, none, none, none, some (.val ((x2 xS (xV xI)) v_7)), some (.own (.l (s_33.map xS))), none, some (.val ((xV xI) v_7.2)), none, none, none]) (nx_for (rep := (fun s_27 => [some (.val ((xV (x4 xI xI xI xI)) letters_1)), some (.val ((x3 xS xI xI) v_2)), some (.val ((xL (x3 xI xI xI)) s_6)), none, none, none, none, some (.val ((x2 xS (xV xI)) v_7)), some (.own (.l (s_27.map xS))), none, some (.val ((xV xI) v_7.2)), none, none, none])) (e := (x4 xI xI xI xI)) (s := []) (iv_wp (is := [9]) (ρ1 := [some (.val ((xV (x4 xI xI xI xI)) letters_1)), some (.val ((x3 xS xI xI) v_2)), some (.val ((xL (x3 xI xI xI)) s_6)), none, none, none, none, some (.val ((x2 xS (xV xI)) v_7)), some (.own (.l ([].map xS))), none, some (.val ((xV xI) v_7.2)), none, none, none]) (iv_seq (ev_v (d := (xV (x4 xI xI xI xI)) letters_1) rfl) rfl)) (fun _ _ _ h => l__law_are_letters_right_l4 (letters_1 := letters_1) (v_2 := v_2) (s_6 := s_6) (v_7 := v_7) h) hs_33)) ?_
            have e := Option.some.inj h; subst e; exact (go_ret (ρ1 := [some (.val ((xV (x4 xI xI xI xI)) letters_1)), some (.val ((x3 xS xI xI) v_2)), some (.val ((xL (x3 xI xI xI)) s_6)), none, none, none, none, some (.val ((x2 xS (xV xI)) v_7)), some (.val ((xL xS) s_33)), none, some (.val ((xV xI) v_7.2)), none, none, none]) (ev_e2i (ev_call (Av.aw (av_cons (ev_N (nv_compA (e := xS) (e' := xB) (k := fun (x_34 : Tg) => (decide (x_34 = (tg "apart")))) (ρb := fun x_34 => [some (.val ((xV (x4 xI xI xI xI)) letters_1)), some (.val ((x3 xS xI xI) v_2)), some (.val ((xL (x3 xI xI xI)) s_6)), none, none, none, none, some (.val ((x2 xS (xV xI)) v_7)), some (.val ((xL xS) s_33)), none, some (.val ((xV xI) v_7.2)), none, none, some (.val (xS x_34))]) (iv_seq (ev_v (d := (xL xS) s_33) rfl) rfl) rfl (fun _ => rfl) (fun x_34 => (ev_e2i (ev_v (d := xS x_34) rfl) (Ev.vw (ev_c (d := xS (tg "apart")))) (dEq_e xS (by decide) _ _))) (fun _ => rfl))) av_nil)) (all_e _)) (Ev.vw (ev_e2i (ev_e2 (Ev.vw (ev_v (d := (x3 xS xI xI) v_2) rfl)) (Ev.vw (ev_c (d := xI 0))) (tix3_0 _)) (Ev.vw (ev_c (d := xS (tg "apart")))) (dEq_e xS (by decide) _ _))) (dEq_e xB (by decide) _ _)) trivial)
    · replace h := iff' q_9 h
      refine go_seq (nx_iff (Bv.f (bv_e (ev_e2i (ev_e2 (Ev.vw (ev_v (d := (x3 xS xI xI) v_2) rfl)) (Ev.vw (ev_c (d := xI 0))) (tix3_0 _)) (Ev.vw (ev_c (d := xS (tg "apart")))) (dEq_e xS (by decide) _ _))) q_9) nx_nil) ?_
      refine go_seq (ρ1 := [some (.val ((xV (x4 xI xI xI xI)) letters_1)), some (.val ((x3 xS xI xI) v_2)), some (.val ((xL (x3 xI xI xI)) s_6)), none, none, none, none, some (.val ((x2 xS (xV xI)) v_7)), some (.own (.l ([].map xS))), none, none, none, none, none]) (nx_setN (ρ1 := [some (.val ((xV (x4 xI xI xI xI)) letters_1)), some (.val ((x3 xS xI xI) v_2)), some (.val ((xL (x3 xI xI xI)) s_6)), none, none, none, none, some (.val ((x2 xS (xV xI)) v_7)), none, none, none, none, none, none]) (ds := [].map xS) (nv_lst_e (av_nil_e (e := xS)) (small rfl)) rfl) ?_
      obtain ⟨s_41, hs_41, h⟩ := bx h
      refine go_seq (ρ1 := [some (.val ((xV (x4 xI xI xI xI)) letters_1)), some (.val ((x3 xS xI xI) v_2)), some (.val ((xL (x3 xI xI xI)) s_6)), none, none, none, none, some (.val ((x2 xS (xV xI)) v_7)), some (.val ((xL xS) s_41)), none, none, none, none, none]) (nx_fz (ρ1 := [some (.val ((xV (x4 xI xI xI xI)) letters_1)), some (.val ((x3 xS xI xI) v_2)), some (.val ((xL (x3 xI xI xI)) s_6)), none, none, none, none, some (.val ((x2 xS (xV xI)) v_7)), some (.own (.l (s_41.map xS))), none, none, none, none, none]) (nx_for (rep := (fun s_35 => [some (.val ((xV (x4 xI xI xI xI)) letters_1)), some (.val ((x3 xS xI xI) v_2)), some (.val ((xL (x3 xI xI xI)) s_6)), none, none, none, none, some (.val ((x2 xS (xV xI)) v_7)), some (.own (.l (s_35.map xS))), none, none, none, none, none])) (e := (x4 xI xI xI xI)) (s := []) (iv_wp (is := [9]) (ρ1 := [some (.val ((xV (x4 xI xI xI xI)) letters_1)), some (.val ((x3 xS xI xI) v_2)), some (.val ((xL (x3 xI xI xI)) s_6)), none, none, none, none, some (.val ((x2 xS (xV xI)) v_7)), some (.own (.l ([].map xS))), none, none, none, none, none]) (iv_seq (ev_v (d := (xV (x4 xI xI xI xI)) letters_1) rfl) rfl)) (fun _ _ _ h => l__law_are_letters_right_l4v2 (letters_1 := letters_1) (v_2 := v_2) (s_6 := s_6) (v_7 := v_7) h) hs_41)) ?_
      have e := Option.some.inj h; subst e; exact (go_ret (ρ1 := [some (.val ((xV (x4 xI xI xI xI)) letters_1)), some (.val ((x3 xS xI xI) v_2)), some (.val ((xL (x3 xI xI xI)) s_6)), none, none, none, none, some (.val ((x2 xS (xV xI)) v_7)), some (.val ((xL xS) s_41)), none, none, none, none, none]) (ev_e2i (ev_call (Av.aw (av_cons (ev_N (nv_compA (e := xS) (e' := xB) (k := fun (x_42 : Tg) => (decide (x_42 = (tg "apart")))) (ρb := fun x_42 => [some (.val ((xV (x4 xI xI xI xI)) letters_1)), some (.val ((x3 xS xI xI) v_2)), some (.val ((xL (x3 xI xI xI)) s_6)), none, none, none, none, some (.val ((x2 xS (xV xI)) v_7)), some (.val ((xL xS) s_41)), none, none, none, none, some (.val (xS x_42))]) (iv_seq (ev_v (d := (xL xS) s_41) rfl) rfl) rfl (fun _ => rfl) (fun x_42 => (ev_e2i (ev_v (d := xS x_42) rfl) (Ev.vw (ev_c (d := xS (tg "apart")))) (dEq_e xS (by decide) _ _))) (fun _ => rfl))) av_nil)) (all_e _)) (Ev.vw (ev_e2i (ev_e2 (Ev.vw (ev_v (d := (x3 xS xI xI) v_2) rfl)) (Ev.vw (ev_c (d := xI 0))) (tix3_0 _)) (Ev.vw (ev_c (d := xS (tg "apart")))) (dEq_e xS (by decide) _ _))) (dEq_e xB (by decide) _ _)) trivial)
/-! _law_take -/
def n__law_take (a0 : Cel) (a1 : Int) : Option (Int × Cel) := match f__law_take a0 [xI a1] with
  | some (.int v, C) => some (v, C)
  | _ => none
theorem c__law_take {a0 : Cel} {a1 : Int} {r : Int × Cel} (h : n__law_take a0 a1 = some r) : f__law_take a0 [xI a1] = some (xI r.1, r.2) := by
  unfold n__law_take at h
  split at h
  · cases h; assumption
  · cases h
/-! _law_of -/
def n__law_of {α : Type} (C_1 : Cel) (some_2 : (List α)) : Option (α × Cel) :=
  (n__law_take C_1 (some_2.length : Int)).bind fun w_3 => (getI some_2 w_3.1).bind fun v_4 => some (v_4, w_3.2)
theorem c__law_of {α : Type} {e : α → D} {C_1 : Cel} {some_2 : (List α)} {r : α × Cel} (h : n__law_of C_1 some_2 = some r) : f__law_of C_1 [(xL e) some_2] = some (e r.1, r.2) := by
  unfold n__law_of at h
  refine fi_rt rfl ?_
  show Go .top b__law_of [some (.io C_1), some (.val ((xL e) some_2))] (.rt (e r.1) (some r.2))
  unfold b__law_of
  obtain ⟨w_3, hw_3, h⟩ := bx h
  obtain ⟨v_4, hv_4, h⟩ := bx h
  have e := Option.some.inj h; subst e; exact (go_ret (ρ1 := [some (.io w_3.2), some (.val ((xL e) some_2))]) (ev_e2i (ev_v (d := (xL e) some_2) rfl) (Ev.vw (ev_callI rfl (av_cons (ev_call (Av.aw (av_cons (ev_v (d := (xL e) some_2) rfl) av_nil)) (len_L e _)) av_nil) rfl (c__law_take hw_3))) (ixL_e (e := e) hv_4)) rfl)
/-! _law_letters_drawn -/
def n__law_letters_drawn_l1 (w_3 : Int × Cel) (w_5 : Int × Cel) (x_9 : Int) (s_8 : Cel × (List (Int × Int × Int × Int))) : Option (Cel × (List (Int × Int × Int × Int))) :=
  (powN (10 : Int) (6 : Int)).bind fun v_10 => (n__law_take s_8.1 v_10).bind fun w_11 => (n__law_take w_11.2 w_3.1).bind fun w_12 => (n__law_take w_12.2 (4 : Int)).bind fun w_13 => (fdivN w_13.1 (3 : Int)).bind fun v_14 => (n__law_take w_13.2 (99 : Int)).bind fun w_15 => (n__law_take w_15.2 w_3.1).bind fun w_16 => (appN s_8.2 (w_11.1, (((w_11.1 + (w_5.1 - w_3.1)) + w_12.1) - v_14), ((((w_11.1 + (w_5.1 - w_3.1)) + w_12.1) - v_14) + w_15.1), ((((((w_11.1 + (w_5.1 - w_3.1)) + w_12.1) - v_14) + w_15.1) - (w_5.1 - w_3.1)) + w_16.1))).bind fun z_17 => some (w_16.2, z_17)
def n__law_letters_drawn (C_1 : Cel) : Option ((List (Int × Int × Int × Int)) × Cel) :=
  (powN (10 : Int) (9 : Int)).bind fun v_2 => (n__law_of C_1 [(4 : Int), (30 : Int), v_2]).bind fun w_3 => (mulN (2 : Int) w_3.1).bind fun v_4 => (n__law_take w_3.2 (v_4 + (1 : Int))).bind fun w_5 => (n__law_take w_5.2 (5 : Int)).bind fun w_6 => (range1 ((1 : Int) + w_6.1)).bind fun v_7 => (forN (n__law_letters_drawn_l1 w_3 w_5) v_7 (w_6.2, [])).bind fun s_18 => some (s_18.2, s_18.1)
theorem l__law_letters_drawn_l1 {w_3 : Int × Cel} {w_5 : Int × Cel}  {x_9 : Int} {s_8 : Cel × (List (Int × Int × Int × Int))} {r : (Cel × (List (Int × Int × Int × Int)))} (h : n__law_letters_drawn_l1 w_3 w_5 x_9 s_8 = some r) : ∃ ρ1, t__law_letters_drawn_l1 (xI x_9) [some (.io s_8.1), some (.val (xI w_3.1)), some (.val (xI (w_5.1 - w_3.1))), some (.own (.l (s_8.2.map (x4 xI xI xI xI)))), none, none, none, none] = some ρ1 ∧ Go .body b__law_letters_drawn_l1 ρ1 (.nx ((fun s_8 => [some (.io s_8.1), some (.val (xI w_3.1)), some (.val (xI (w_5.1 - w_3.1))), some (.own (.l (s_8.2.map (x4 xI xI xI xI)))), none, none, none, none]) r)) := by
  unfold n__law_letters_drawn_l1 at h; unfold b__law_letters_drawn_l1
  refine ⟨[some (.io s_8.1), some (.val (xI w_3.1)), some (.val (xI (w_5.1 - w_3.1))), some (.own (.l (s_8.2.map (x4 xI xI xI xI)))), some (.val (xI x_9)), none, none, none], rfl, ?_⟩
  obtain ⟨v_10, hv_10, h⟩ := bx h
  obtain ⟨w_11, hw_11, h⟩ := bx h
  refine go_seq (ρ1 := [some (.io w_11.2), some (.val (xI w_3.1)), some (.val (xI (w_5.1 - w_3.1))), some (.own (.l (s_8.2.map (x4 xI xI xI xI)))), some (.val (xI x_9)), some (.val (xI w_11.1)), none, none]) (nx_set (ρ1 := [some (.io w_11.2), some (.val (xI w_3.1)), some (.val (xI (w_5.1 - w_3.1))), some (.own (.l (s_8.2.map (x4 xI xI xI xI)))), some (.val (xI x_9)), none, none, none]) (d := xI w_11.1) (ev_call (Av.aw (av_cons (ev_callI rfl (av_cons (ev_e2i (ev_c (d := xI 10)) (Ev.vw (ev_c (d := xI 6))) (pow_e hv_10)) av_nil) rfl (c__law_take hw_11)) av_nil)) (int_i _)) rfl) ?_
  obtain ⟨w_12, hw_12, h⟩ := bx h
  obtain ⟨w_13, hw_13, h⟩ := bx h
  obtain ⟨v_14, hv_14, h⟩ := bx h
  refine go_seq (ρ1 := [some (.io w_13.2), some (.val (xI w_3.1)), some (.val (xI (w_5.1 - w_3.1))), some (.own (.l (s_8.2.map (x4 xI xI xI xI)))), some (.val (xI x_9)), some (.val (xI w_11.1)), some (.val (xI (((w_11.1 + (w_5.1 - w_3.1)) + w_12.1) - v_14))), none]) (nx_set (ρ1 := [some (.io w_13.2), some (.val (xI w_3.1)), some (.val (xI (w_5.1 - w_3.1))), some (.own (.l (s_8.2.map (x4 xI xI xI xI)))), some (.val (xI x_9)), some (.val (xI w_11.1)), none, none]) (d := xI (((w_11.1 + (w_5.1 - w_3.1)) + w_12.1) - v_14)) (ev_e2i (ev_e2i (ev_e2i (ev_v (d := xI w_11.1) rfl) (Ev.vw (ev_v (d := xI (w_5.1 - w_3.1)) rfl)) (add_e _ _)) (Ev.vw (ev_call (Av.aw (av_cons (ev_callI rfl (av_cons (ev_v (d := xI w_3.1) rfl) av_nil) rfl (c__law_take hw_12)) av_nil)) (int_i _))) (add_e _ _)) (Ev.vw (ev_e2i (ev_call (Av.aw (av_cons (ev_callI rfl (av_cons (ev_c (d := xI 4)) av_nil) rfl (c__law_take hw_13)) av_nil)) (int_i _)) (Ev.vw (ev_c (d := xI 3))) (fdiv_e hv_14))) (sub_e _ _)) rfl) ?_
  obtain ⟨w_15, hw_15, h⟩ := bx h
  refine go_seq (ρ1 := [some (.io w_15.2), some (.val (xI w_3.1)), some (.val (xI (w_5.1 - w_3.1))), some (.own (.l (s_8.2.map (x4 xI xI xI xI)))), some (.val (xI x_9)), some (.val (xI w_11.1)), some (.val (xI (((w_11.1 + (w_5.1 - w_3.1)) + w_12.1) - v_14))), some (.val (xI ((((w_11.1 + (w_5.1 - w_3.1)) + w_12.1) - v_14) + w_15.1)))]) (nx_set (ρ1 := [some (.io w_15.2), some (.val (xI w_3.1)), some (.val (xI (w_5.1 - w_3.1))), some (.own (.l (s_8.2.map (x4 xI xI xI xI)))), some (.val (xI x_9)), some (.val (xI w_11.1)), some (.val (xI (((w_11.1 + (w_5.1 - w_3.1)) + w_12.1) - v_14))), none]) (d := xI ((((w_11.1 + (w_5.1 - w_3.1)) + w_12.1) - v_14) + w_15.1)) (ev_e2i (ev_v (d := xI (((w_11.1 + (w_5.1 - w_3.1)) + w_12.1) - v_14)) rfl) (Ev.vw (ev_call (Av.aw (av_cons (ev_callI rfl (av_cons (ev_c (d := xI 99)) av_nil) rfl (c__law_take hw_15)) av_nil)) (int_i _))) (add_e _ _)) rfl) ?_
  obtain ⟨w_16, hw_16, h⟩ := bx h
  obtain ⟨z_17, hz_17, h⟩ := bx h
  have e := Option.some.inj h; subst e; exact go_body (nx_wp (is := [4, 5, 6, 7]) (ρ1 := [some (.io w_16.2), some (.val (xI w_3.1)), some (.val (xI (w_5.1 - w_3.1))), some (.own (.l (z_17.map (x4 xI xI xI xI)))), some (.val (xI x_9)), some (.val (xI w_11.1)), some (.val (xI (((w_11.1 + (w_5.1 - w_3.1)) + w_12.1) - v_14))), some (.val (xI ((((w_11.1 + (w_5.1 - w_3.1)) + w_12.1) - v_14) + w_15.1)))]) (nx_app_e (ρ1 := [some (.io w_16.2), some (.val (xI w_3.1)), some (.val (xI (w_5.1 - w_3.1))), some (.own (.l (s_8.2.map (x4 xI xI xI xI)))), some (.val (xI x_9)), some (.val (xI w_11.1)), some (.val (xI (((w_11.1 + (w_5.1 - w_3.1)) + w_12.1) - v_14))), some (.val (xI ((((w_11.1 + (w_5.1 - w_3.1)) + w_12.1) - v_14) + w_15.1)))]) (e := (x4 xI xI xI xI)) (v := (w_11.1, (((w_11.1 + (w_5.1 - w_3.1)) + w_12.1) - v_14), ((((w_11.1 + (w_5.1 - w_3.1)) + w_12.1) - v_14) + w_15.1), ((((((w_11.1 + (w_5.1 - w_3.1)) + w_12.1) - v_14) + w_15.1) - (w_5.1 - w_3.1)) + w_16.1))) rfl (ev_tup (av_cons (ev_v (d := xI w_11.1) rfl) (av_cons (ev_v (d := xI (((w_11.1 + (w_5.1 - w_3.1)) + w_12.1) - v_14)) rfl) (av_cons (ev_v (d := xI ((((w_11.1 + (w_5.1 - w_3.1)) + w_12.1) - v_14) + w_15.1)) rfl) (av_cons (ev_e2i (ev_e2i (ev_v (d := xI ((((w_11.1 + (w_5.1 - w_3.1)) + w_12.1) - v_14) + w_15.1)) rfl) (Ev.vw (ev_v (d := xI (w_5.1 - w_3.1)) rfl)) (sub_e _ _)) (Ev.vw (ev_call (Av.aw (av_cons (ev_callI rfl (av_cons (ev_v (d := xI w_3.1) rfl) av_nil) rfl (c__law_take hw_16)) av_nil)) (int_i _))) (add_e _ _)) av_nil)))) (small rfl)) rfl hz_17))
theorem c__law_letters_drawn {C_1 : Cel} {r : (List (Int × Int × Int × Int)) × Cel} (h : n__law_letters_drawn C_1 = some r) : f__law_letters_drawn C_1 [] = some ((xV (x4 xI xI xI xI)) r.1, r.2) := by
  unfold n__law_letters_drawn at h
  refine fi_rt rfl ?_
  show Go .top b__law_letters_drawn [some (.io C_1), none, none, none, none, none, none, none] (.rt ((xV (x4 xI xI xI xI)) r.1) (some r.2))
  unfold b__law_letters_drawn
  obtain ⟨v_2, hv_2, h⟩ := bx h
  obtain ⟨w_3, hw_3, h⟩ := bx h
  refine go_seq (ρ1 := [some (.io w_3.2), some (.val (xI w_3.1)), none, none, none, none, none, none]) (nx_set (ρ1 := [some (.io w_3.2), none, none, none, none, none, none, none]) (d := xI w_3.1) (ev_callI rfl (av_cons (ev_N (nv_lst_e (av_cons_e (ev_c (d := xI 4)) (av_cons_e (ev_c (d := xI 30)) (av_one_e (ev_e2i (ev_c (d := xI 10)) (Ev.vw (ev_c (d := xI 9))) (pow_e hv_2))))) (small rfl))) av_nil) rfl (c__law_of (e := xI) hw_3)) rfl) ?_
  obtain ⟨v_4, hv_4, h⟩ := bx h
  obtain ⟨w_5, hw_5, h⟩ := bx h
  refine go_seq (ρ1 := [some (.io w_5.2), some (.val (xI w_3.1)), some (.val (xI (w_5.1 - w_3.1))), some (.own (.l ([].map (x4 xI xI xI xI)))), none, none, none, none]) (nx_par (ρ1 := [some (.io w_5.2), some (.val (xI w_3.1)), none, none, none, none, none, none]) (ls_E (d := xI (w_5.1 - w_3.1)) (ev_e2i (ev_call (Av.aw (av_cons (ev_callI rfl (av_cons (ev_e2i (ev_e2i (ev_c (d := xI 2)) (Ev.vw (ev_v (d := xI w_3.1) rfl)) (mul_e hv_4)) (Ev.vw (ev_c (d := xI 1))) (add_e _ _)) av_nil) rfl (c__law_take hw_5)) av_nil)) (int_i _)) (Ev.vw (ev_v (d := xI w_3.1) rfl)) (sub_e _ _)) (ls_N (ds := [].map (x4 xI xI xI xI)) (nv_lst_e (av_nil_e (e := (x4 xI xI xI xI))) (small rfl)) ls_nil)) rfl) ?_
  obtain ⟨w_6, hw_6, h⟩ := bx h
  obtain ⟨v_7, hv_7, h⟩ := bx h
  obtain ⟨s_18, hs_18, h⟩ := bx h
  refine go_seq (ρ1 := [some (.io s_18.1), some (.val (xI w_3.1)), some (.val (xI (w_5.1 - w_3.1))), some (.val ((xL (x4 xI xI xI xI)) s_18.2)), none, none, none, none]) (nx_fz (ρ1 := [some (.io s_18.1), some (.val (xI w_3.1)), some (.val (xI (w_5.1 - w_3.1))), some (.own (.l (s_18.2.map (x4 xI xI xI xI)))), none, none, none, none]) (nx_for (rep := (fun s_8 => [some (.io s_8.1), some (.val (xI w_3.1)), some (.val (xI (w_5.1 - w_3.1))), some (.own (.l (s_8.2.map (x4 xI xI xI xI)))), none, none, none, none])) (e := xI) (s := (w_6.2, [])) (iv_wp (is := [4, 5, 6, 7]) (ρ1 := [some (.io w_6.2), some (.val (xI w_3.1)), some (.val (xI (w_5.1 - w_3.1))), some (.own (.l ([].map (x4 xI xI xI xI)))), none, none, none, none]) (iv_range1 (av_cons (ev_e2i (ev_c (d := xI 1)) (Ev.vw (ev_callI rfl (av_cons (ev_c (d := xI 5)) av_nil) rfl (c__law_take hw_6))) (add_e _ _)) av_nil) hv_7)) (fun _ _ _ h => l__law_letters_drawn_l1 (w_3 := w_3) (w_5 := w_5) h) hs_18)) ?_
  have e := Option.some.inj h; subst e; exact (go_ret (ρ1 := [some (.io s_18.1), some (.val (xI w_3.1)), some (.val (xI (w_5.1 - w_3.1))), some (.val ((xL (x4 xI xI xI xI)) s_18.2)), none, none, none, none]) (ev_call (Av.aw (av_cons (ev_v (d := (xL (x4 xI xI xI xI)) s_18.2) rfl) av_nil)) (tuple_L (x4 xI xI xI xI) _)) rfl)
/-! look_at_spans -/
def n_look_at_spans_l1 (x_4 : (Int × Int)) (s_3 : Unit) : Option (Unit) :=
  (n_are_ints ((x2 xI xI) x_4) (-(1000000000000 : Int)) (1000000000000 : Int)).bind fun v_5 => (if ((!v_5) || ((!decide ((2 : Int) = (2 : Int))) || (decide (x_4.2 < x_4.1)))) = true then none else some ())
def n_look_at_spans (spans_1 : (List (Int × Int))) : Option (Unit) :=
  (if ((!(((xV (x2 xI xI)) spans_1 : D).isTuple)) || (!((decide ((1 : Int) ≤ (spans_1.length : Int))) && (decide ((spans_1.length : Int) ≤ (200 : Int)))))) = true then none else (forN (n_look_at_spans_l1) spans_1 ()).bind fun s_7 => some ())
theorem l_look_at_spans_l1 {spans_1 : (List (Int × Int))}  {x_4 : (Int × Int)} {s_3 : Unit} {r : (Unit)} (h : n_look_at_spans_l1 x_4 s_3 = some r) : ∃ ρ1, t_look_at_spans_l1 ((x2 xI xI) x_4) [some (.val ((xV (x2 xI xI)) spans_1)), none] = some ρ1 ∧ Go .body b_look_at_spans_l1 ρ1 (.nx ((fun s_3 => [some (.val ((xV (x2 xI xI)) spans_1)), none]) r)) := by
  unfold n_look_at_spans_l1 at h; unfold b_look_at_spans_l1
  refine ⟨[some (.val ((xV (x2 xI xI)) spans_1)), some (.val ((x2 xI xI) x_4))], rfl, ?_⟩
  obtain ⟨v_5, hv_5, h⟩ := bx h
  by_cases q_6 : ((!v_5) || ((!decide ((2 : Int) = (2 : Int))) || (decide (x_4.2 < x_4.1)))) = true
  · replace h := ift q_6 h
    refine go_ift (Bv.t (bv_or (bv_not (bv_e (ev_callPz (av_cons (ev_v (d := (x2 xI xI) x_4) rfl) (av_cons (ev_e1 (Ev.vw (ev_c (d := xI 1000000000000))) (neg_e _)) (av_cons (ev_c (d := xI 1000000000000)) av_nil))) (c_are_ints hv_5)))) (fun _ => (bv_or (bv_e (ev_e2i (ev_call (z := xI 2) (Av.aw (av_cons (ev_v (d := (x2 xI xI) x_4) rfl) av_nil)) rfl) (Ev.vw (ev_c (d := xI 2))) (ne_i _ _))) (fun _ => (bv_e (ev_e2i (ev_e2 (Ev.vw (ev_v (d := (x2 xI xI) x_4) rfl)) (Ev.vw (ev_c (d := xI 0))) (tix2_0 _)) (Ev.vw (ev_e2 (Ev.vw (ev_v (d := (x2 xI xI) x_4) rfl)) (Ev.vw (ev_c (d := xI 1))) (tix2_1 _))) (gt_i _ _))))))) q_6) ?_
    cases h
  · replace h := iff' q_6 h
    refine go_iff (Bv.f (bv_or (bv_not (bv_e (ev_callPz (av_cons (ev_v (d := (x2 xI xI) x_4) rfl) (av_cons (ev_e1 (Ev.vw (ev_c (d := xI 1000000000000))) (neg_e _)) (av_cons (ev_c (d := xI 1000000000000)) av_nil))) (c_are_ints hv_5)))) (fun _ => (bv_or (bv_e (ev_e2i (ev_call (z := xI 2) (Av.aw (av_cons (ev_v (d := (x2 xI xI) x_4) rfl) av_nil)) rfl) (Ev.vw (ev_c (d := xI 2))) (ne_i _ _))) (fun _ => (bv_e (ev_e2i (ev_e2 (Ev.vw (ev_v (d := (x2 xI xI) x_4) rfl)) (Ev.vw (ev_c (d := xI 0))) (tix2_0 _)) (Ev.vw (ev_e2 (Ev.vw (ev_v (d := (x2 xI xI) x_4) rfl)) (Ev.vw (ev_c (d := xI 1))) (tix2_1 _))) (gt_i _ _))))))) q_6) ?_
    have e := Option.some.inj h; subst e; exact go_body (nx_wp (is := [1]) (ρ1 := [some (.val ((xV (x2 xI xI)) spans_1)), some (.val ((x2 xI xI) x_4))]) nx_nil)
theorem c_look_at_spans {spans_1 : (List (Int × Int))} {r : Unit} (h : n_look_at_spans spans_1 = some r) : f_look_at_spans [(xV (x2 xI xI)) spans_1] = some (xU r) := by
  unfold n_look_at_spans at h
  refine fn_rt rfl ?_
  show Go .top b_look_at_spans [some (.val ((xV (x2 xI xI)) spans_1)), none] (.rt (xU r) none)
  unfold b_look_at_spans
  by_cases q_2 : ((!(((xV (x2 xI xI)) spans_1 : D).isTuple)) || (!((decide ((1 : Int) ≤ (spans_1.length : Int))) && (decide ((spans_1.length : Int) ≤ (200 : Int)))))) = true
  · replace h := ift q_2 h
    refine go_stop (go_ift (Bv.t (bv_or (bv_not (bv_e (ev_isa (Ev.vw (ev_v (d := (xV (x2 xI xI)) spans_1) rfl)) rfl))) (fun _ => (bv_not (bv_e (ev_chainV (Ev.vw (ev_c (d := xI 1))) (Ev.vw (ev_call (Av.aw (av_cons (ev_v (d := (xV (x2 xI xI)) spans_1) rfl) av_nil)) (len_V (x2 xI xI) _))) (Ev.vw (ev_c (d := xI 200))) (le_i _ _) (le_i _ _)))))) q_2) ?_)
    cases h
  · replace h := iff' q_2 h
    refine go_seq (nx_iff (Bv.f (bv_or (bv_not (bv_e (ev_isa (Ev.vw (ev_v (d := (xV (x2 xI xI)) spans_1) rfl)) rfl))) (fun _ => (bv_not (bv_e (ev_chainV (Ev.vw (ev_c (d := xI 1))) (Ev.vw (ev_call (Av.aw (av_cons (ev_v (d := (xV (x2 xI xI)) spans_1) rfl) av_nil)) (len_V (x2 xI xI) _))) (Ev.vw (ev_c (d := xI 200))) (le_i _ _) (le_i _ _)))))) q_2) nx_nil) ?_
    obtain ⟨s_7, hs_7, h⟩ := bx h
    have e := Option.some.inj h; subst e; exact go_fall (nx_for (rep := (fun s_3 => [some (.val ((xV (x2 xI xI)) spans_1)), none])) (e := (x2 xI xI)) (s := ()) (iv_wp (is := [1]) (ρ1 := [some (.val ((xV (x2 xI xI)) spans_1)), none]) (iv_seq (ev_v (d := (xV (x2 xI xI)) spans_1) rfl) rfl)) (fun _ _ _ h => l_look_at_spans_l1 (spans_1 := spans_1) h) hs_7) trivial
/-! most_agree -/
def n_most_agree_l1 (spans_1 : (List (Int × Int))) (x_6 : Int) (s_5 : (Int × Int × Int)) : Option ((Int × Int × Int)) :=
  (if (decide (s_5.1 < (((spans_1.filter fun (x_7 : (Int × Int)) => ((decide (x_7.1 ≤ x_6)) && (decide (x_6 ≤ x_7.2)))).map fun (x_7 : (Int × Int)) => x_7).length : Int))) = true then (minE xI (((spans_1.filter fun (x_7 : (Int × Int)) => ((decide (x_7.1 ≤ x_6)) && (decide (x_6 ≤ x_7.2)))).map fun (x_7 : (Int × Int)) => x_7).map fun (x_9 : (Int × Int)) => x_9.2)).bind fun v_10 => some ((((spans_1.filter fun (x_7 : (Int × Int)) => ((decide (x_7.1 ≤ x_6)) && (decide (x_6 ≤ x_7.2)))).map fun (x_7 : (Int × Int)) => x_7).length : Int), x_6, v_10) else some s_5)
def n_most_agree (spans_1 : (List (Int × Int))) : Option ((Int × Int × Int)) :=
  (n_look_at_spans spans_1).bind fun v_2 => (ssetN (spans_1.map fun (x_3 : (Int × Int)) => x_3.1)).bind fun v_4 => (forN (n_most_agree_l1 spans_1) v_4 ((0 : Int), (0 : Int), (0 : Int))).bind fun s_11 => some s_11
theorem l_most_agree_l1 {spans_1 : (List (Int × Int))}  {x_6 : Int} {s_5 : (Int × Int × Int)} {r : ((Int × Int × Int))} (h : n_most_agree_l1 spans_1 x_6 s_5 = some r) : ∃ ρ1, t_most_agree_l1 (xI x_6) [some (.val ((xV (x2 xI xI)) spans_1)), some (.val ((x3 xI xI xI) s_5)), none, none, none] = some ρ1 ∧ Go .body b_most_agree_l1 ρ1 (.nx ((fun s_5 => [some (.val ((xV (x2 xI xI)) spans_1)), some (.val ((x3 xI xI xI) s_5)), none, none, none]) r)) := by
  unfold n_most_agree_l1 at h; unfold b_most_agree_l1
  refine ⟨[some (.val ((xV (x2 xI xI)) spans_1)), some (.val ((x3 xI xI xI) s_5)), some (.val (xI x_6)), none, none], rfl, ?_⟩
  refine go_seq (ρ1 := [some (.val ((xV (x2 xI xI)) spans_1)), some (.val ((x3 xI xI xI) s_5)), some (.val (xI x_6)), some (.val ((xL (x2 xI xI)) ((spans_1.filter fun (x_7 : (Int × Int)) => ((decide (x_7.1 ≤ x_6)) && (decide (x_6 ≤ x_7.2)))).map fun (x_7 : (Int × Int)) => x_7))), none]) (nx_fz (ρ1 := [some (.val ((xV (x2 xI xI)) spans_1)), some (.val ((x3 xI xI xI) s_5)), some (.val (xI x_6)), some (.own (.l (((spans_1.filter fun (x_7 : (Int × Int)) => ((decide (x_7.1 ≤ x_6)) && (decide (x_6 ≤ x_7.2)))).map fun (x_7 : (Int × Int)) => x_7).map (x2 xI xI)))), none]) (nx_setN (ρ1 := [some (.val ((xV (x2 xI xI)) spans_1)), some (.val ((x3 xI xI xI) s_5)), some (.val (xI x_6)), none, none]) (nv_compP (e := (x2 xI xI)) (e' := (x2 xI xI)) (P := fun (x_7 : (Int × Int)) => ((decide (x_7.1 ≤ x_6)) && (decide (x_6 ≤ x_7.2)))) (k := fun (x_7 : (Int × Int)) => x_7) (ρb := fun x_7 => [some (.val ((xV (x2 xI xI)) spans_1)), some (.val ((x3 xI xI xI) s_5)), some (.val (xI x_6)), none, some (.val ((x2 xI xI) x_7))]) (iv_seq (ev_v (d := (xV (x2 xI xI)) spans_1) rfl) rfl) rfl (fun _ => rfl) (fun x_7 => (bv_e (ev_chainV (Ev.vw (ev_e2 (Ev.vw (ev_v (d := (x2 xI xI) x_7) rfl)) (Ev.vw (ev_c (d := xI 0))) (tix2_0 _))) (Ev.vw (ev_v (d := xI x_6) rfl)) (Ev.vw (ev_e2 (Ev.vw (ev_v (d := (x2 xI xI) x_7) rfl)) (Ev.vw (ev_c (d := xI 1))) (tix2_1 _))) (le_i _ _) (le_i _ _)))) (fun x_7 => (ev_v (d := (x2 xI xI) x_7) rfl)) (fun _ => rfl)) rfl)) ?_
  by_cases q_8 : (decide (s_5.1 < (((spans_1.filter fun (x_7 : (Int × Int)) => ((decide (x_7.1 ≤ x_6)) && (decide (x_6 ≤ x_7.2)))).map fun (x_7 : (Int × Int)) => x_7).length : Int))) = true
  · replace h := ift q_8 h
    refine go_ift (Bv.t (bv_e (ev_e2i (ev_call (Av.aw (av_cons (ev_v (d := (xL (x2 xI xI)) ((spans_1.filter fun (x_7 : (Int × Int)) => ((decide (x_7.1 ≤ x_6)) && (decide (x_6 ≤ x_7.2)))).map fun (x_7 : (Int × Int)) => x_7)) rfl) av_nil)) (len_L (x2 xI xI) _)) (Ev.vw (ev_e2 (Ev.vw (ev_v (d := (x3 xI xI xI) s_5) rfl)) (Ev.vw (ev_c (d := xI 0))) (tix3_0 _))) (gt_i _ _))) q_8) ?_
    obtain ⟨v_10, hv_10, h⟩ := bx h
    have e := Option.some.inj h; subst e; exact go_body (nx_wp (is := [2, 3]) (ρ1 := [some (.val ((xV (x2 xI xI)) spans_1)), some (.val ((x3 xI xI xI) ((((spans_1.filter fun (x_7 : (Int × Int)) => ((decide (x_7.1 ≤ x_6)) && (decide (x_6 ≤ x_7.2)))).map fun (x_7 : (Int × Int)) => x_7).length : Int), x_6, v_10))), some (.val (xI x_6)), some (.val ((xL (x2 xI xI)) ((spans_1.filter fun (x_7 : (Int × Int)) => ((decide (x_7.1 ≤ x_6)) && (decide (x_6 ≤ x_7.2)))).map fun (x_7 : (Int × Int)) => x_7))), none]) (nx_set (ρ1 := [some (.val ((xV (x2 xI xI)) spans_1)), some (.val ((x3 xI xI xI) s_5)), some (.val (xI x_6)), some (.val ((xL (x2 xI xI)) ((spans_1.filter fun (x_7 : (Int × Int)) => ((decide (x_7.1 ≤ x_6)) && (decide (x_6 ≤ x_7.2)))).map fun (x_7 : (Int × Int)) => x_7))), none]) (d := (x3 xI xI xI) ((((spans_1.filter fun (x_7 : (Int × Int)) => ((decide (x_7.1 ≤ x_6)) && (decide (x_6 ≤ x_7.2)))).map fun (x_7 : (Int × Int)) => x_7).length : Int), x_6, v_10)) (ev_tup (av_cons (ev_call (Av.aw (av_cons (ev_v (d := (xL (x2 xI xI)) ((spans_1.filter fun (x_7 : (Int × Int)) => ((decide (x_7.1 ≤ x_6)) && (decide (x_6 ≤ x_7.2)))).map fun (x_7 : (Int × Int)) => x_7)) rfl) av_nil)) (len_L (x2 xI xI) _)) (av_cons (ev_v (d := xI x_6) rfl) (av_cons (ev_call (Av.aw (av_cons (ev_N (nv_compA (e := (x2 xI xI)) (e' := xI) (k := fun (x_9 : (Int × Int)) => x_9.2) (ρb := fun x_9 => [some (.val ((xV (x2 xI xI)) spans_1)), some (.val ((x3 xI xI xI) s_5)), some (.val (xI x_6)), some (.val ((xL (x2 xI xI)) ((spans_1.filter fun (x_7 : (Int × Int)) => ((decide (x_7.1 ≤ x_6)) && (decide (x_6 ≤ x_7.2)))).map fun (x_7 : (Int × Int)) => x_7))), some (.val ((x2 xI xI) x_9))]) (iv_seq (ev_v (d := (xL (x2 xI xI)) ((spans_1.filter fun (x_7 : (Int × Int)) => ((decide (x_7.1 ≤ x_6)) && (decide (x_6 ≤ x_7.2)))).map fun (x_7 : (Int × Int)) => x_7)) rfl) rfl) rfl (fun _ => rfl) (fun x_9 => (ev_e2 (Ev.vw (ev_v (d := (x2 xI xI) x_9) rfl)) (Ev.vw (ev_c (d := xI 1))) (tix2_1 _))) (fun _ => rfl))) av_nil)) (minL_e (e := xI) (by decide) hv_10)) av_nil))) (small rfl)) rfl))
  · replace h := iff' q_8 h
    refine go_iff (Bv.f (bv_e (ev_e2i (ev_call (Av.aw (av_cons (ev_v (d := (xL (x2 xI xI)) ((spans_1.filter fun (x_7 : (Int × Int)) => ((decide (x_7.1 ≤ x_6)) && (decide (x_6 ≤ x_7.2)))).map fun (x_7 : (Int × Int)) => x_7)) rfl) av_nil)) (len_L (x2 xI xI) _)) (Ev.vw (ev_e2 (Ev.vw (ev_v (d := (x3 xI xI xI) s_5) rfl)) (Ev.vw (ev_c (d := xI 0))) (tix3_0 _))) (gt_i _ _))) q_8) ?_
    have e := Option.some.inj h; subst e; exact go_body (nx_wp (is := [2, 3]) (ρ1 := [some (.val ((xV (x2 xI xI)) spans_1)), some (.val ((x3 xI xI xI) s_5)), some (.val (xI x_6)), some (.val ((xL (x2 xI xI)) ((spans_1.filter fun (x_7 : (Int × Int)) => ((decide (x_7.1 ≤ x_6)) && (decide (x_6 ≤ x_7.2)))).map fun (x_7 : (Int × Int)) => x_7))), none]) nx_nil)
theorem c_most_agree {spans_1 : (List (Int × Int))} {r : (Int × Int × Int)} (h : n_most_agree spans_1 = some r) : f_most_agree [(xV (x2 xI xI)) spans_1] = some ((x3 xI xI xI) r) := by
  unfold n_most_agree at h
  refine fn_rt rfl ?_
  show Go .top b_most_agree [some (.val ((xV (x2 xI xI)) spans_1)), none, none, none, none] (.rt ((x3 xI xI xI) r) none)
  unfold b_most_agree
  obtain ⟨v_2, hv_2, h⟩ := bx h
  refine go_seq (ρ1 := [some (.val ((xV (x2 xI xI)) spans_1)), none, none, none, none]) (nx_drop (ρ1 := [some (.val ((xV (x2 xI xI)) spans_1)), none, none, none, none]) (Ev.vw (ev_callPz (av_cons (ev_v (d := (xV (x2 xI xI)) spans_1) rfl) av_nil) (c_look_at_spans hv_2)))) ?_
  refine go_seq (ρ1 := [some (.val ((xV (x2 xI xI)) spans_1)), some (.val ((x3 xI xI xI) ((0 : Int), (0 : Int), (0 : Int)))), none, none, none]) (nx_set (ρ1 := [some (.val ((xV (x2 xI xI)) spans_1)), none, none, none, none]) (d := (x3 xI xI xI) ((0 : Int), (0 : Int), (0 : Int))) (ev_tup (av_cons (ev_c (d := xI 0)) (av_cons (ev_c (d := xI 0)) (av_cons (ev_c (d := xI 0)) av_nil))) (small rfl)) rfl) ?_
  obtain ⟨v_4, hv_4, h⟩ := bx h
  obtain ⟨s_11, hs_11, h⟩ := bx h
  refine go_seq (ρ1 := [some (.val ((xV (x2 xI xI)) spans_1)), some (.val ((x3 xI xI xI) s_11)), none, none, none]) (nx_for (rep := (fun s_5 => [some (.val ((xV (x2 xI xI)) spans_1)), some (.val ((x3 xI xI xI) s_5)), none, none, none])) (e := xI) (s := ((0 : Int), (0 : Int), (0 : Int))) (iv_wp (is := [2, 3]) (ρ1 := [some (.val ((xV (x2 xI xI)) spans_1)), some (.val ((x3 xI xI xI) ((0 : Int), (0 : Int), (0 : Int)))), none, none, none]) (iv_seq (ev_N (nv_ssetIL (Ev.vw (ev_N (nv_compA (e := (x2 xI xI)) (e' := xI) (k := fun (x_3 : (Int × Int)) => x_3.1) (ρb := fun x_3 => [some (.val ((xV (x2 xI xI)) spans_1)), some (.val ((x3 xI xI xI) ((0 : Int), (0 : Int), (0 : Int)))), none, none, some (.val ((x2 xI xI) x_3))]) (iv_seq (ev_v (d := (xV (x2 xI xI)) spans_1) rfl) rfl) rfl (fun _ => rfl) (fun x_3 => (ev_e2 (Ev.vw (ev_v (d := (x2 xI xI) x_3) rfl)) (Ev.vw (ev_c (d := xI 0))) (tix2_0 _))) (fun _ => rfl)))) hv_4)) rfl)) (fun _ _ _ h => l_most_agree_l1 (spans_1 := spans_1) h) hs_11) ?_
  have e := Option.some.inj h; subst e; exact (go_ret (ρ1 := [some (.val ((xV (x2 xI xI)) spans_1)), some (.val ((x3 xI xI xI) s_11)), none, none, none]) (ev_v (d := (x3 xI xI xI) s_11) rfl) trivial)
/-! told_points -/
def n_told_points_l1 (x_4 : (Int × Int × Int)) (s_3 : (List Int) × (List Int)) : Option ((List Int) × (List Int)) :=
  (orN (decide (s_3.1 = [])) ((getI s_3.1 (-(1 : Int))).bind fun v_5 => some (decide (v_5 < x_4.2.1)))).bind fun q_6 => (if q_6 = true then (appN s_3.1 x_4.1).bind fun z_8 => (appN s_3.2 x_4.2.2).bind fun z_9 => some (z_8, z_9) else some (s_3.1, s_3.2))
def n_told_points (spans_1 : (List (Int × Int))) : Option (((List Int) × (List Int))) :=
  (forN (n_told_points_l1) (sortE (x3 xI xI xI) ((enumI 0 spans_1).map fun (x_2 : (Int × (Int × Int))) => (x_2.2.2, x_2.2.1, x_2.1))) ([], [])).bind fun s_10 => some (s_10.1, (sortE xI s_10.2))
theorem l_told_points_l1 {spans_1 : (List (Int × Int))}  {x_4 : (Int × Int × Int)} {s_3 : (List Int) × (List Int)} {r : ((List Int) × (List Int))} (h : n_told_points_l1 x_4 s_3 = some r) : ∃ ρ1, t_told_points_l1 ((x3 xI xI xI) x_4) [some (.val ((xV (x2 xI xI)) spans_1)), some (.own (.l (s_3.1.map xI))), some (.own (.l (s_3.2.map xI))), none, none, none, none] = some ρ1 ∧ Go .body b_told_points_l1 ρ1 (.nx ((fun s_3 => [some (.val ((xV (x2 xI xI)) spans_1)), some (.own (.l (s_3.1.map xI))), some (.own (.l (s_3.2.map xI))), none, none, none, none]) r)) := by
  unfold n_told_points_l1 at h; unfold b_told_points_l1
  refine ⟨[some (.val ((xV (x2 xI xI)) spans_1)), some (.own (.l (s_3.1.map xI))), some (.own (.l (s_3.2.map xI))), some (.val (xI x_4.1)), some (.val (xI x_4.2.1)), some (.val (xI x_4.2.2)), none], rfl, ?_⟩
  obtain ⟨q_6, hq_6, h⟩ := bx h
  by_cases q_7 : q_6 = true
  · replace h := ift q_7 h
    refine go_ift (Bv.t (bv_orN (bv_e (ev_e2 (vw_own rfl) (Ev.vw (ev_N (nv_lst_e (av_nil_e (e := xI)) (small rfl)))) (dEq_e (xL xI) (by decide) _ _))) (fun q hq => by obtain ⟨v_5, hv_5, hq⟩ := bx hq; have e := Option.some.inj hq; subst e; exact (bv_e (ev_e2i (ev_e2 (vw_own rfl) (Ev.vw (ev_e1 (Ev.vw (ev_c (d := xI 1))) (neg_e _))) (ixL_e (e := xI) hv_5)) (Ev.vw (ev_v (d := xI x_4.2.1) rfl)) (lt_i _ _)))) hq_6) q_7) ?_
    obtain ⟨z_8, hz_8, h⟩ := bx h
    refine go_seq (ρ1 := [some (.val ((xV (x2 xI xI)) spans_1)), some (.own (.l (z_8.map xI))), some (.own (.l (s_3.2.map xI))), some (.val (xI x_4.1)), some (.val (xI x_4.2.1)), some (.val (xI x_4.2.2)), none]) (nx_app_e (ρ1 := [some (.val ((xV (x2 xI xI)) spans_1)), some (.own (.l (s_3.1.map xI))), some (.own (.l (s_3.2.map xI))), some (.val (xI x_4.1)), some (.val (xI x_4.2.1)), some (.val (xI x_4.2.2)), none]) (e := xI) (v := x_4.1) rfl (ev_v (d := xI x_4.1) rfl) rfl hz_8) ?_
    obtain ⟨z_9, hz_9, h⟩ := bx h
    have e := Option.some.inj h; subst e; exact go_body (nx_wp (is := [3, 4, 5]) (ρ1 := [some (.val ((xV (x2 xI xI)) spans_1)), some (.own (.l (z_8.map xI))), some (.own (.l (z_9.map xI))), some (.val (xI x_4.1)), some (.val (xI x_4.2.1)), some (.val (xI x_4.2.2)), none]) (nx_app_e (ρ1 := [some (.val ((xV (x2 xI xI)) spans_1)), some (.own (.l (z_8.map xI))), some (.own (.l (s_3.2.map xI))), some (.val (xI x_4.1)), some (.val (xI x_4.2.1)), some (.val (xI x_4.2.2)), none]) (e := xI) (v := x_4.2.2) rfl (ev_v (d := xI x_4.2.2) rfl) rfl hz_9))
  · replace h := iff' q_7 h
    refine go_iff (Bv.f (bv_orN (bv_e (ev_e2 (vw_own rfl) (Ev.vw (ev_N (nv_lst_e (av_nil_e (e := xI)) (small rfl)))) (dEq_e (xL xI) (by decide) _ _))) (fun q hq => by obtain ⟨v_5, hv_5, hq⟩ := bx hq; have e := Option.some.inj hq; subst e; exact (bv_e (ev_e2i (ev_e2 (vw_own rfl) (Ev.vw (ev_e1 (Ev.vw (ev_c (d := xI 1))) (neg_e _))) (ixL_e (e := xI) hv_5)) (Ev.vw (ev_v (d := xI x_4.2.1) rfl)) (lt_i _ _)))) hq_6) q_7) ?_
    have e := Option.some.inj h; subst e; exact go_body (nx_wp (is := [3, 4, 5]) (ρ1 := [some (.val ((xV (x2 xI xI)) spans_1)), some (.own (.l (s_3.1.map xI))), some (.own (.l (s_3.2.map xI))), some (.val (xI x_4.1)), some (.val (xI x_4.2.1)), some (.val (xI x_4.2.2)), none]) nx_nil)
theorem c_told_points {spans_1 : (List (Int × Int))} {r : ((List Int) × (List Int))} (h : n_told_points spans_1 = some r) : f_told_points [(xV (x2 xI xI)) spans_1] = some ((x2 (xV xI) (xV xI)) r) := by
  unfold n_told_points at h
  refine fn_rt rfl ?_
  show Go .top b_told_points [some (.val ((xV (x2 xI xI)) spans_1)), none, none, none, none, none, none] (.rt ((x2 (xV xI) (xV xI)) r) none)
  unfold b_told_points
  refine go_seq (ρ1 := [some (.val ((xV (x2 xI xI)) spans_1)), some (.own (.l ([].map xI))), some (.own (.l ([].map xI))), none, none, none, none]) (nx_par (ρ1 := [some (.val ((xV (x2 xI xI)) spans_1)), none, none, none, none, none, none]) (ls_N (ds := [].map xI) (nv_lst_e (av_nil_e (e := xI)) (small rfl)) (ls_N (ds := [].map xI) (nv_lst_e (av_nil_e (e := xI)) (small rfl)) ls_nil)) rfl) ?_
  obtain ⟨s_10, hs_10, h⟩ := bx h
  refine go_seq (ρ1 := [some (.val ((xV (x2 xI xI)) spans_1)), some (.val ((xL xI) s_10.1)), some (.val ((xL xI) s_10.2)), none, none, none, none]) (nx_fz (ρ1 := [some (.val ((xV (x2 xI xI)) spans_1)), some (.val ((xL xI) s_10.1)), some (.own (.l (s_10.2.map xI))), none, none, none, none]) (nx_fz (ρ1 := [some (.val ((xV (x2 xI xI)) spans_1)), some (.own (.l (s_10.1.map xI))), some (.own (.l (s_10.2.map xI))), none, none, none, none]) (nx_for (rep := (fun s_3 => [some (.val ((xV (x2 xI xI)) spans_1)), some (.own (.l (s_3.1.map xI))), some (.own (.l (s_3.2.map xI))), none, none, none, none])) (e := (x3 xI xI xI)) (s := ([], [])) (iv_wp (is := [3, 4, 5]) (ρ1 := [some (.val ((xV (x2 xI xI)) spans_1)), some (.own (.l ([].map xI))), some (.own (.l ([].map xI))), none, none, none, none]) (iv_seq (ev_N (nv_call (Av.aw (av_cons (ev_N (nv_compA (e := (x2 xI (x2 xI xI))) (e' := (x3 xI xI xI)) (k := fun (x_2 : (Int × (Int × Int))) => (x_2.2.2, x_2.2.1, x_2.1)) (ρb := fun x_2 => [some (.val ((xV (x2 xI xI)) spans_1)), some (.own (.l ([].map xI))), some (.own (.l ([].map xI))), none, none, some (.val (xI x_2.1)), some (.val ((x2 xI xI) x_2.2))]) (iv_enum (e := (x2 xI xI)) (av_cons (ev_v (d := (xV (x2 xI xI)) spans_1) rfl) av_nil) rfl) rfl (fun _ => rfl) (fun x_2 => (ev_tup (av_cons (ev_e2 (Ev.vw (ev_v (d := (x2 xI xI) x_2.2) rfl)) (Ev.vw (ev_c (d := xI 1))) (tix2_1 _)) (av_cons (ev_e2 (Ev.vw (ev_v (d := (x2 xI xI) x_2.2) rfl)) (Ev.vw (ev_c (d := xI 0))) (tix2_0 _)) (av_cons (ev_v (d := xI x_2.1) rfl) av_nil))) (small rfl))) (fun _ => rfl))) av_nil)) (sortedL_e (e := (x3 xI xI xI)) (by decide) _))) rfl)) (fun _ _ _ h => l_told_points_l1 (spans_1 := spans_1) h) hs_10))) ?_
  have e := Option.some.inj h; subst e; exact (go_ret (ρ1 := [some (.val ((xV (x2 xI xI)) spans_1)), some (.val ((xL xI) s_10.1)), some (.val ((xL xI) s_10.2)), none, none, none, none]) (ev_tup (av_cons (ev_call (Av.aw (av_cons (ev_v (d := (xL xI) s_10.1) rfl) av_nil)) (tuple_L xI _)) (av_cons (ev_call (Av.aw (av_cons (ev_N (nv_call (Av.aw (av_cons (ev_v (d := (xL xI) s_10.2) rfl) av_nil)) (sortedL_e (e := xI) (by decide) _))) av_nil)) (tuple_L xI _)) av_nil)) (small rfl)) trivial)
/-! fewest_numbers -/
def n_fewest_numbers (spans_1 : (List (Int × Int))) : Option (((List Int) × (List Int))) :=
  (n_look_at_spans spans_1).bind fun v_2 => (n_told_points spans_1).bind fun v_3 => some v_3
theorem c_fewest_numbers {spans_1 : (List (Int × Int))} {r : ((List Int) × (List Int))} (h : n_fewest_numbers spans_1 = some r) : f_fewest_numbers [(xV (x2 xI xI)) spans_1] = some ((x2 (xV xI) (xV xI)) r) := by
  unfold n_fewest_numbers at h
  refine fn_rt rfl ?_
  show Go .top b_fewest_numbers [some (.val ((xV (x2 xI xI)) spans_1))] (.rt ((x2 (xV xI) (xV xI)) r) none)
  unfold b_fewest_numbers
  obtain ⟨v_2, hv_2, h⟩ := bx h
  refine go_seq (ρ1 := [some (.val ((xV (x2 xI xI)) spans_1))]) (nx_drop (ρ1 := [some (.val ((xV (x2 xI xI)) spans_1))]) (Ev.vw (ev_callPz (av_cons (ev_v (d := (xV (x2 xI xI)) spans_1) rfl) av_nil) (c_look_at_spans hv_2)))) ?_
  obtain ⟨v_3, hv_3, h⟩ := bx h
  have e := Option.some.inj h; subst e; exact (go_ret (ρ1 := [some (.val ((xV (x2 xI xI)) spans_1))]) (ev_callPz (av_cons (ev_v (d := (xV (x2 xI xI)) spans_1) rfl) av_nil) (c_told_points hv_3)) trivial)
/-! _law_are_spans_right -/
def n__law_are_spans_right_l1 (x_5 : Int) (s_4 : Cel × (List (Int × Int))) : Option (Cel × (List (Int × Int))) :=
  (n__law_take s_4.1 (40 : Int)).bind fun w_6 => (n__law_take w_6.2 (12 : Int)).bind fun w_7 => (appN s_4.2 ((w_6.1 - (20 : Int)), ((w_6.1 - (20 : Int)) + w_7.1))).bind fun z_8 => some (w_7.2, z_8)
def n__law_are_spans_right (C_1 : Cel) : Option (Bool × Cel) :=
  (n__law_take C_1 (9 : Int)).bind fun w_2 => (range1 ((1 : Int) + w_2.1)).bind fun v_3 => (forN (n__law_are_spans_right_l1) v_3 (w_2.2, [])).bind fun s_9 => (n_most_agree s_9.2).bind fun v_10 => (n_fewest_numbers s_9.2).bind fun v_11 => (orN (!decide ((decide (v_10.1 = (s_9.2.length : Int))) = (decide ((v_11.1.length : Int) = (1 : Int))))) ((mulN (v_11.1.length : Int) v_10.1).bind fun v_12 => some (decide (v_12 < (s_9.2.length : Int))))).bind fun q_13 => (if q_13 = true then some (false, s_9.1) else (if (([v_10.2.1, v_10.2.2].map fun (x_15 : Int) => (!decide ((((s_9.2.filter fun (x_16 : (Int × Int)) => ((decide (x_16.1 ≤ x_15)) && (decide (x_15 ≤ x_16.2)))).map fun (x_16 : (Int × Int)) => x_16).length : Int) = v_10.1))).any id) = true then some (false, s_9.1) else (catN s_9.2 [((100 : Int), (101 : Int))]).bind fun v_18 => (n_fewest_numbers v_18).bind fun v_19 => (if (!decide ((v_19.1.length : Int) = ((v_11.1.length : Int) + (1 : Int)))) = true then some (false, s_9.1) else (getI s_9.2 (0 : Int)).bind fun v_21 => (catN s_9.2 [v_21]).bind fun v_22 => (n_fewest_numbers v_22).bind fun v_23 => some ((decide ((v_23.1.length : Int) = (v_11.1.length : Int))), s_9.1))))
theorem l__law_are_spans_right_l1  {x_5 : Int} {s_4 : Cel × (List (Int × Int))} {r : (Cel × (List (Int × Int)))} (h : n__law_are_spans_right_l1 x_5 s_4 = some r) : ∃ ρ1, t__law_are_spans_right_l1 (xI x_5) [some (.io s_4.1), some (.own (.l (s_4.2.map (x2 xI xI)))), none, none, none, none, none, none, none, none, none, none] = some ρ1 ∧ Go .body b__law_are_spans_right_l1 ρ1 (.nx ((fun s_4 => [some (.io s_4.1), some (.own (.l (s_4.2.map (x2 xI xI)))), none, none, none, none, none, none, none, none, none, none]) r)) := by
  unfold n__law_are_spans_right_l1 at h; unfold b__law_are_spans_right_l1
  refine ⟨[some (.io s_4.1), some (.own (.l (s_4.2.map (x2 xI xI)))), some (.val (xI x_5)), none, none, none, none, none, none, none, none, none], rfl, ?_⟩
  obtain ⟨w_6, hw_6, h⟩ := bx h
  refine go_seq (ρ1 := [some (.io w_6.2), some (.own (.l (s_4.2.map (x2 xI xI)))), some (.val (xI x_5)), none, none, none, none, none, none, some (.val (xI (w_6.1 - (20 : Int)))), none, none]) (nx_set (ρ1 := [some (.io w_6.2), some (.own (.l (s_4.2.map (x2 xI xI)))), some (.val (xI x_5)), none, none, none, none, none, none, none, none, none]) (d := xI (w_6.1 - (20 : Int))) (ev_e2i (ev_call (Av.aw (av_cons (ev_callI rfl (av_cons (ev_c (d := xI 40)) av_nil) rfl (c__law_take hw_6)) av_nil)) (int_i _)) (Ev.vw (ev_c (d := xI 20))) (sub_e _ _)) rfl) ?_
  obtain ⟨w_7, hw_7, h⟩ := bx h
  obtain ⟨z_8, hz_8, h⟩ := bx h
  have e := Option.some.inj h; subst e; exact go_body (nx_wp (is := [2, 9]) (ρ1 := [some (.io w_7.2), some (.own (.l (z_8.map (x2 xI xI)))), some (.val (xI x_5)), none, none, none, none, none, none, some (.val (xI (w_6.1 - (20 : Int)))), none, none]) (nx_app_e (ρ1 := [some (.io w_7.2), some (.own (.l (s_4.2.map (x2 xI xI)))), some (.val (xI x_5)), none, none, none, none, none, none, some (.val (xI (w_6.1 - (20 : Int)))), none, none]) (e := (x2 xI xI)) (v := ((w_6.1 - (20 : Int)), ((w_6.1 - (20 : Int)) + w_7.1))) rfl (ev_tup (av_cons (ev_v (d := xI (w_6.1 - (20 : Int))) rfl) (av_cons (ev_e2i (ev_v (d := xI (w_6.1 - (20 : Int))) rfl) (Ev.vw (ev_call (Av.aw (av_cons (ev_callI rfl (av_cons (ev_c (d := xI 12)) av_nil) rfl (c__law_take hw_7)) av_nil)) (int_i _))) (add_e _ _)) av_nil)) (small rfl)) rfl hz_8))
theorem c__law_are_spans_right {C_1 : Cel} {r : Bool × Cel} (h : n__law_are_spans_right C_1 = some r) : f__law_are_spans_right C_1 [] = some (xB r.1, r.2) := by
  unfold n__law_are_spans_right at h
  refine fi_rt rfl ?_
  show Go .top b__law_are_spans_right [some (.io C_1), none, none, none, none, none, none, none, none, none, none, none] (.rt (xB r.1) (some r.2))
  unfold b__law_are_spans_right
  refine go_seq (ρ1 := [some (.io C_1), some (.own (.l ([].map (x2 xI xI)))), none, none, none, none, none, none, none, none, none, none]) (nx_setN (ρ1 := [some (.io C_1), none, none, none, none, none, none, none, none, none, none, none]) (ds := [].map (x2 xI xI)) (nv_lst_e (av_nil_e (e := (x2 xI xI))) (small rfl)) rfl) ?_
  obtain ⟨w_2, hw_2, h⟩ := bx h
  obtain ⟨v_3, hv_3, h⟩ := bx h
  obtain ⟨s_9, hs_9, h⟩ := bx h
  refine go_seq (ρ1 := [some (.io s_9.1), some (.val ((xL (x2 xI xI)) s_9.2)), none, none, none, none, none, none, none, none, none, none]) (nx_fz (ρ1 := [some (.io s_9.1), some (.own (.l (s_9.2.map (x2 xI xI)))), none, none, none, none, none, none, none, none, none, none]) (nx_for (rep := (fun s_4 => [some (.io s_4.1), some (.own (.l (s_4.2.map (x2 xI xI)))), none, none, none, none, none, none, none, none, none, none])) (e := xI) (s := (w_2.2, [])) (iv_wp (is := [2, 9]) (ρ1 := [some (.io w_2.2), some (.own (.l ([].map (x2 xI xI)))), none, none, none, none, none, none, none, none, none, none]) (iv_range1 (av_cons (ev_e2i (ev_c (d := xI 1)) (Ev.vw (ev_callI rfl (av_cons (ev_c (d := xI 9)) av_nil) rfl (c__law_take hw_2))) (add_e _ _)) av_nil) hv_3)) (fun _ _ _ h => l__law_are_spans_right_l1 h) hs_9)) ?_
  refine go_seq (ρ1 := [some (.io s_9.1), some (.val ((xV (x2 xI xI)) s_9.2)), none, none, none, none, none, none, none, none, none, none]) (nx_set (ρ1 := [some (.io s_9.1), some (.val ((xL (x2 xI xI)) s_9.2)), none, none, none, none, none, none, none, none, none, none]) (d := (xV (x2 xI xI)) s_9.2) (ev_call (Av.aw (av_cons (ev_v (d := (xL (x2 xI xI)) s_9.2) rfl) av_nil)) (tuple_L (x2 xI xI) _)) rfl) ?_
  obtain ⟨v_10, hv_10, h⟩ := bx h
  refine go_seq (ρ1 := [some (.io s_9.1), some (.val ((xV (x2 xI xI)) s_9.2)), none, some (.val (xI v_10.1)), some (.val (xI v_10.2.1)), some (.val (xI v_10.2.2)), none, none, none, none, none, none]) (nx_asg (ρ1 := [some (.io s_9.1), some (.val ((xV (x2 xI xI)) s_9.2)), none, none, none, none, none, none, none, none, none, none]) (ev_callPz (av_cons (ev_v (d := (xV (x2 xI xI)) s_9.2) rfl) av_nil) (c_most_agree hv_10)) rfl) ?_
  obtain ⟨v_11, hv_11, h⟩ := bx h
  refine go_seq (ρ1 := [some (.io s_9.1), some (.val ((xV (x2 xI xI)) s_9.2)), none, some (.val (xI v_10.1)), some (.val (xI v_10.2.1)), some (.val (xI v_10.2.2)), some (.val ((xV xI) v_11.1)), some (.val ((xV xI) v_11.2)), none, none, none, none]) (nx_asg (ρ1 := [some (.io s_9.1), some (.val ((xV (x2 xI xI)) s_9.2)), none, some (.val (xI v_10.1)), some (.val (xI v_10.2.1)), some (.val (xI v_10.2.2)), none, none, none, none, none, none]) (ev_callPz (av_cons (ev_v (d := (xV (x2 xI xI)) s_9.2) rfl) av_nil) (c_fewest_numbers hv_11)) rfl) ?_
  obtain ⟨q_13, hq_13, h⟩ := bx h
  by_cases q_14 : q_13 = true
  · replace h := ift q_14 h
    refine go_stop (go_ift (Bv.t (bv_orN (bv_e (ev_e2i (ev_e2i (ev_v (d := xI v_10.1) rfl) (Ev.vw (ev_call (Av.aw (av_cons (ev_v (d := (xV (x2 xI xI)) s_9.2) rfl) av_nil)) (len_V (x2 xI xI) _))) (eq_i _ _)) (Ev.vw (ev_e2i (ev_call (Av.aw (av_cons (ev_v (d := (xV xI) v_11.1) rfl) av_nil)) (len_V xI _)) (Ev.vw (ev_c (d := xI 1))) (eq_i _ _))) (dNe_e xB (by decide) _ _))) (fun q hq => by obtain ⟨v_12, hv_12, hq⟩ := bx hq; have e := Option.some.inj hq; subst e; exact (bv_e (ev_e2i (ev_e2i (ev_call (Av.aw (av_cons (ev_v (d := (xV xI) v_11.1) rfl) av_nil)) (len_V xI _)) (Ev.vw (ev_v (d := xI v_10.1) rfl)) (mul_e hv_12)) (Ev.vw (ev_call (Av.aw (av_cons (ev_v (d := (xV (x2 xI xI)) s_9.2) rfl) av_nil)) (len_V (x2 xI xI) _))) (lt_i _ _)))) hq_13) q_14) ?_)
    have e := Option.some.inj h; subst e; exact (go_ret (ρ1 := [some (.io s_9.1), some (.val ((xV (x2 xI xI)) s_9.2)), none, some (.val (xI v_10.1)), some (.val (xI v_10.2.1)), some (.val (xI v_10.2.2)), some (.val ((xV xI) v_11.1)), some (.val ((xV xI) v_11.2)), none, none, none, none]) (ev_c (d := xB false)) rfl)
  · replace h := iff' q_14 h
    refine go_seq (nx_iff (Bv.f (bv_orN (bv_e (ev_e2i (ev_e2i (ev_v (d := xI v_10.1) rfl) (Ev.vw (ev_call (Av.aw (av_cons (ev_v (d := (xV (x2 xI xI)) s_9.2) rfl) av_nil)) (len_V (x2 xI xI) _))) (eq_i _ _)) (Ev.vw (ev_e2i (ev_call (Av.aw (av_cons (ev_v (d := (xV xI) v_11.1) rfl) av_nil)) (len_V xI _)) (Ev.vw (ev_c (d := xI 1))) (eq_i _ _))) (dNe_e xB (by decide) _ _))) (fun q hq => by obtain ⟨v_12, hv_12, hq⟩ := bx hq; have e := Option.some.inj hq; subst e; exact (bv_e (ev_e2i (ev_e2i (ev_call (Av.aw (av_cons (ev_v (d := (xV xI) v_11.1) rfl) av_nil)) (len_V xI _)) (Ev.vw (ev_v (d := xI v_10.1) rfl)) (mul_e hv_12)) (Ev.vw (ev_call (Av.aw (av_cons (ev_v (d := (xV (x2 xI xI)) s_9.2) rfl) av_nil)) (len_V (x2 xI xI) _))) (lt_i _ _)))) hq_13) q_14) nx_nil) ?_
    by_cases q_17 : (([v_10.2.1, v_10.2.2].map fun (x_15 : Int) => (!decide ((((s_9.2.filter fun (x_16 : (Int × Int)) => ((decide (x_16.1 ≤ x_15)) && (decide (x_15 ≤ x_16.2)))).map fun (x_16 : (Int × Int)) => x_16).length : Int) = v_10.1))).any id) = true
    · replace h := ift q_17 h
      refine go_stop (go_ift (Bv.t (bv_e (ev_call (Av.aw (av_cons (ev_N (nv_compA (e := xI) (e' := xB) (k := fun (x_15 : Int) => (!decide ((((s_9.2.filter fun (x_16 : (Int × Int)) => ((decide (x_16.1 ≤ x_15)) && (decide (x_15 ≤ x_16.2)))).map fun (x_16 : (Int × Int)) => x_16).length : Int) = v_10.1))) (ρb := fun x_15 => [some (.io s_9.1), some (.val ((xV (x2 xI xI)) s_9.2)), none, some (.val (xI v_10.1)), some (.val (xI v_10.2.1)), some (.val (xI v_10.2.2)), some (.val ((xV xI) v_11.1)), some (.val ((xV xI) v_11.2)), none, none, some (.val (xI x_15)), none]) (iv_seq (ev_tup_e (av_cons_e (ev_v (d := xI v_10.2.1) rfl) (av_one_e (ev_v (d := xI v_10.2.2) rfl))) (small rfl)) rfl) rfl (fun _ => rfl) (fun x_15 => (ev_e2i (ev_call (Av.aw (av_cons (ev_N (nv_compP (e := (x2 xI xI)) (e' := (x2 xI xI)) (P := fun (x_16 : (Int × Int)) => ((decide (x_16.1 ≤ x_15)) && (decide (x_15 ≤ x_16.2)))) (k := fun (x_16 : (Int × Int)) => x_16) (ρb := fun x_16 => [some (.io s_9.1), some (.val ((xV (x2 xI xI)) s_9.2)), none, some (.val (xI v_10.1)), some (.val (xI v_10.2.1)), some (.val (xI v_10.2.2)), some (.val ((xV xI) v_11.1)), some (.val ((xV xI) v_11.2)), none, none, some (.val (xI x_15)), some (.val ((x2 xI xI) x_16))]) (iv_seq (ev_v (d := (xV (x2 xI xI)) s_9.2) rfl) rfl) rfl (fun _ => rfl) (fun x_16 => (bv_e (ev_chainV (Ev.vw (ev_e2 (Ev.vw (ev_v (d := (x2 xI xI) x_16) rfl)) (Ev.vw (ev_c (d := xI 0))) (tix2_0 _))) (Ev.vw (ev_v (d := xI x_15) rfl)) (Ev.vw (ev_e2 (Ev.vw (ev_v (d := (x2 xI xI) x_16) rfl)) (Ev.vw (ev_c (d := xI 1))) (tix2_1 _))) (le_i _ _) (le_i _ _)))) (fun x_16 => (ev_v (d := (x2 xI xI) x_16) rfl)) (fun _ => rfl))) av_nil)) (len_L (x2 xI xI) _)) (Ev.vw (ev_v (d := xI v_10.1) rfl)) (ne_i _ _))) (fun _ => rfl))) av_nil)) (any_e _))) q_17) ?_)
      have e := Option.some.inj h; subst e; exact (go_ret (ρ1 := [some (.io s_9.1), some (.val ((xV (x2 xI xI)) s_9.2)), none, some (.val (xI v_10.1)), some (.val (xI v_10.2.1)), some (.val (xI v_10.2.2)), some (.val ((xV xI) v_11.1)), some (.val ((xV xI) v_11.2)), none, none, none, none]) (ev_c (d := xB false)) rfl)
    · replace h := iff' q_17 h
      refine go_seq (nx_iff (Bv.f (bv_e (ev_call (Av.aw (av_cons (ev_N (nv_compA (e := xI) (e' := xB) (k := fun (x_15 : Int) => (!decide ((((s_9.2.filter fun (x_16 : (Int × Int)) => ((decide (x_16.1 ≤ x_15)) && (decide (x_15 ≤ x_16.2)))).map fun (x_16 : (Int × Int)) => x_16).length : Int) = v_10.1))) (ρb := fun x_15 => [some (.io s_9.1), some (.val ((xV (x2 xI xI)) s_9.2)), none, some (.val (xI v_10.1)), some (.val (xI v_10.2.1)), some (.val (xI v_10.2.2)), some (.val ((xV xI) v_11.1)), some (.val ((xV xI) v_11.2)), none, none, some (.val (xI x_15)), none]) (iv_seq (ev_tup_e (av_cons_e (ev_v (d := xI v_10.2.1) rfl) (av_one_e (ev_v (d := xI v_10.2.2) rfl))) (small rfl)) rfl) rfl (fun _ => rfl) (fun x_15 => (ev_e2i (ev_call (Av.aw (av_cons (ev_N (nv_compP (e := (x2 xI xI)) (e' := (x2 xI xI)) (P := fun (x_16 : (Int × Int)) => ((decide (x_16.1 ≤ x_15)) && (decide (x_15 ≤ x_16.2)))) (k := fun (x_16 : (Int × Int)) => x_16) (ρb := fun x_16 => [some (.io s_9.1), some (.val ((xV (x2 xI xI)) s_9.2)), none, some (.val (xI v_10.1)), some (.val (xI v_10.2.1)), some (.val (xI v_10.2.2)), some (.val ((xV xI) v_11.1)), some (.val ((xV xI) v_11.2)), none, none, some (.val (xI x_15)), some (.val ((x2 xI xI) x_16))]) (iv_seq (ev_v (d := (xV (x2 xI xI)) s_9.2) rfl) rfl) rfl (fun _ => rfl) (fun x_16 => (bv_e (ev_chainV (Ev.vw (ev_e2 (Ev.vw (ev_v (d := (x2 xI xI) x_16) rfl)) (Ev.vw (ev_c (d := xI 0))) (tix2_0 _))) (Ev.vw (ev_v (d := xI x_15) rfl)) (Ev.vw (ev_e2 (Ev.vw (ev_v (d := (x2 xI xI) x_16) rfl)) (Ev.vw (ev_c (d := xI 1))) (tix2_1 _))) (le_i _ _) (le_i _ _)))) (fun x_16 => (ev_v (d := (x2 xI xI) x_16) rfl)) (fun _ => rfl))) av_nil)) (len_L (x2 xI xI) _)) (Ev.vw (ev_v (d := xI v_10.1) rfl)) (ne_i _ _))) (fun _ => rfl))) av_nil)) (any_e _))) q_17) nx_nil) ?_
      obtain ⟨v_18, hv_18, h⟩ := bx h
      obtain ⟨v_19, hv_19, h⟩ := bx h
      refine go_seq (ρ1 := [some (.io s_9.1), some (.val ((xV (x2 xI xI)) s_9.2)), none, some (.val (xI v_10.1)), some (.val (xI v_10.2.1)), some (.val (xI v_10.2.2)), some (.val ((xV xI) v_11.1)), some (.val ((xV xI) v_11.2)), some (.val ((x2 (xV xI) (xV xI)) v_19)), none, none, none]) (nx_set (ρ1 := [some (.io s_9.1), some (.val ((xV (x2 xI xI)) s_9.2)), none, some (.val (xI v_10.1)), some (.val (xI v_10.2.1)), some (.val (xI v_10.2.2)), some (.val ((xV xI) v_11.1)), some (.val ((xV xI) v_11.2)), none, none, none, none]) (d := (x2 (xV xI) (xV xI)) v_19) (ev_callPz (av_cons (ev_e2 (Ev.vw (ev_v (d := (xV (x2 xI xI)) s_9.2) rfl)) (Ev.vw (ev_tup_e (av_one_e (ev_tup (av_cons (ev_c (d := xI 100)) (av_cons (ev_c (d := xI 101)) av_nil)) (small rfl))) (small rfl))) (catV_e hv_18)) av_nil) (c_fewest_numbers hv_19)) rfl) ?_
      by_cases q_20 : (!decide ((v_19.1.length : Int) = ((v_11.1.length : Int) + (1 : Int)))) = true
      · replace h := ift q_20 h
        refine go_stop (go_ift (Bv.t (bv_e (ev_e2i (ev_call (Av.aw (av_cons (ev_e2 (Ev.vw (ev_v (d := (x2 (xV xI) (xV xI)) v_19) rfl)) (Ev.vw (ev_c (d := xI 0))) (tix2_0 _)) av_nil)) (len_V xI _)) (Ev.vw (ev_e2i (ev_call (Av.aw (av_cons (ev_v (d := (xV xI) v_11.1) rfl) av_nil)) (len_V xI _)) (Ev.vw (ev_c (d := xI 1))) (add_e _ _))) (ne_i _ _))) q_20) ?_)
        have e := Option.some.inj h; subst e; exact (go_ret (ρ1 := [some (.io s_9.1), some (.val ((xV (x2 xI xI)) s_9.2)), none, some (.val (xI v_10.1)), some (.val (xI v_10.2.1)), some (.val (xI v_10.2.2)), some (.val ((xV xI) v_11.1)), some (.val ((xV xI) v_11.2)), some (.val ((x2 (xV xI) (xV xI)) v_19)), none, none, none]) (ev_c (d := xB false)) rfl)
      · replace h := iff' q_20 h
        refine go_seq (nx_iff (Bv.f (bv_e (ev_e2i (ev_call (Av.aw (av_cons (ev_e2 (Ev.vw (ev_v (d := (x2 (xV xI) (xV xI)) v_19) rfl)) (Ev.vw (ev_c (d := xI 0))) (tix2_0 _)) av_nil)) (len_V xI _)) (Ev.vw (ev_e2i (ev_call (Av.aw (av_cons (ev_v (d := (xV xI) v_11.1) rfl) av_nil)) (len_V xI _)) (Ev.vw (ev_c (d := xI 1))) (add_e _ _))) (ne_i _ _))) q_20) nx_nil) ?_
        obtain ⟨v_21, hv_21, h⟩ := bx h
        obtain ⟨v_22, hv_22, h⟩ := bx h
        obtain ⟨v_23, hv_23, h⟩ := bx h
        have e := Option.some.inj h; subst e; exact (go_ret (ρ1 := [some (.io s_9.1), some (.val ((xV (x2 xI xI)) s_9.2)), none, some (.val (xI v_10.1)), some (.val (xI v_10.2.1)), some (.val (xI v_10.2.2)), some (.val ((xV xI) v_11.1)), some (.val ((xV xI) v_11.2)), some (.val ((x2 (xV xI) (xV xI)) v_19)), none, none, none]) (ev_e2i (ev_call (Av.aw (av_cons (ev_e2 (Ev.vw (ev_callPz (av_cons (ev_e2 (Ev.vw (ev_v (d := (xV (x2 xI xI)) s_9.2) rfl)) (Ev.vw (ev_tup_e (av_one_e (ev_e2i (ev_v (d := (xV (x2 xI xI)) s_9.2) rfl) (Ev.vw (ev_c (d := xI 0))) (ixV_e (e := (x2 xI xI)) hv_21))) (small rfl))) (catV_e hv_22)) av_nil) (c_fewest_numbers hv_23))) (Ev.vw (ev_c (d := xI 0))) (tix2_0 _)) av_nil)) (len_V xI _)) (Ev.vw (ev_call (Av.aw (av_cons (ev_v (d := (xV xI) v_11.1) rfl) av_nil)) (len_V xI _))) (eq_i _ _)) rfl)
/-! _law_some -/
def n__law_some_l1 (x_6 : Int) (s_5 : Cel × (List Int) × (List Int)) : Option (Cel × (List Int) × (List Int)) :=
  (n__law_take s_5.1 (s_5.2.1.length : Int)).bind fun w_7 => (popAtN s_5.2.1 w_7.1).bind fun w_8 => (appN s_5.2.2 w_8.1).bind fun z_9 => some (w_7.2, w_8.2, z_9)
def n__law_some (C_1 : Cel) (pool_2 : (List Int)) (many_3 : Int) : Option ((List Int) × Cel) :=
  (range1 many_3).bind fun v_4 => (forN (n__law_some_l1) v_4 (C_1, pool_2, [])).bind fun s_10 => some (s_10.2.2, s_10.1)
theorem l__law_some_l1 {pool_2 : (List Int)} {many_3 : Int}  {x_6 : Int} {s_5 : Cel × (List Int) × (List Int)} {r : (Cel × (List Int) × (List Int))} (h : n__law_some_l1 x_6 s_5 = some r) : ∃ ρ1, t__law_some_l1 (xI x_6) [some (.io s_5.1), some (.val ((xL xI) pool_2)), some (.val (xI many_3)), some (.own (.l (s_5.2.1.map xI))), some (.own (.l (s_5.2.2.map xI))), none] = some ρ1 ∧ Go .body b__law_some_l1 ρ1 (.nx ((fun s_5 => [some (.io s_5.1), some (.val ((xL xI) pool_2)), some (.val (xI many_3)), some (.own (.l (s_5.2.1.map xI))), some (.own (.l (s_5.2.2.map xI))), none]) r)) := by
  unfold n__law_some_l1 at h; unfold b__law_some_l1
  refine ⟨[some (.io s_5.1), some (.val ((xL xI) pool_2)), some (.val (xI many_3)), some (.own (.l (s_5.2.1.map xI))), some (.own (.l (s_5.2.2.map xI))), some (.val (xI x_6))], rfl, ?_⟩
  obtain ⟨w_7, hw_7, h⟩ := bx h
  obtain ⟨w_8, hw_8, h⟩ := bx h
  obtain ⟨z_9, hz_9, h⟩ := bx h
  have e := Option.some.inj h; subst e; exact go_body (nx_wp (is := [5]) (ρ1 := [some (.io w_7.2), some (.val ((xL xI) pool_2)), some (.val (xI many_3)), some (.own (.l (w_8.2.map xI))), some (.own (.l (z_9.map xI))), some (.val (xI x_6))]) (nx_app_e (ρ1 := [some (.io w_7.2), some (.val ((xL xI) pool_2)), some (.val (xI many_3)), some (.own (.l (w_8.2.map xI))), some (.own (.l (s_5.2.2.map xI))), some (.val (xI x_6))]) (e := xI) (v := w_8.1) rfl (ev_popAt (e := xI) rfl (ev_callI rfl (av_cons (ev_call (aw_cons (vw_own rfl) aw_nil) (len_L xI _)) av_nil) rfl (c__law_take hw_7)) rfl hw_8) rfl hz_9))
theorem c__law_some {C_1 : Cel} {pool_2 : (List Int)} {many_3 : Int} {r : (List Int) × Cel} (h : n__law_some C_1 pool_2 many_3 = some r) : f__law_some C_1 [(xL xI) pool_2, xI many_3] = some ((xL xI) r.1, r.2) := by
  unfold n__law_some at h
  refine fi_rt rfl ?_
  show Go .top b__law_some [some (.io C_1), some (.val ((xL xI) pool_2)), some (.val (xI many_3)), none, none, none] (.rt ((xL xI) r.1) (some r.2))
  unfold b__law_some
  refine go_seq (ρ1 := [some (.io C_1), some (.val ((xL xI) pool_2)), some (.val (xI many_3)), some (.own (.l (pool_2.map xI))), some (.own (.l ([].map xI))), none]) (nx_par (ρ1 := [some (.io C_1), some (.val ((xL xI) pool_2)), some (.val (xI many_3)), none, none, none]) (ls_N (ds := pool_2.map xI) (nv_call (Av.aw (av_cons (ev_v (d := (xL xI) pool_2) rfl) av_nil)) (list_L xI _)) (ls_N (ds := [].map xI) (nv_lst_e (av_nil_e (e := xI)) (small rfl)) ls_nil)) rfl) ?_
  obtain ⟨v_4, hv_4, h⟩ := bx h
  obtain ⟨s_10, hs_10, h⟩ := bx h
  refine go_seq (ρ1 := [some (.io s_10.1), some (.val ((xL xI) pool_2)), some (.val (xI many_3)), some (.own (.l (s_10.2.1.map xI))), some (.val ((xL xI) s_10.2.2)), none]) (nx_fz (ρ1 := [some (.io s_10.1), some (.val ((xL xI) pool_2)), some (.val (xI many_3)), some (.own (.l (s_10.2.1.map xI))), some (.own (.l (s_10.2.2.map xI))), none]) (nx_for (rep := (fun s_5 => [some (.io s_5.1), some (.val ((xL xI) pool_2)), some (.val (xI many_3)), some (.own (.l (s_5.2.1.map xI))), some (.own (.l (s_5.2.2.map xI))), none])) (e := xI) (s := (C_1, pool_2, [])) (iv_wp (is := [5]) (ρ1 := [some (.io C_1), some (.val ((xL xI) pool_2)), some (.val (xI many_3)), some (.own (.l (pool_2.map xI))), some (.own (.l ([].map xI))), none]) (iv_range1 (av_cons (ev_v (d := xI many_3) rfl) av_nil) hv_4)) (fun _ _ _ h => l__law_some_l1 (pool_2 := pool_2) (many_3 := many_3) h) hs_10)) ?_
  have e := Option.some.inj h; subst e; exact (go_ret (ρ1 := [some (.io s_10.1), some (.val ((xL xI) pool_2)), some (.val (xI many_3)), some (.own (.l (s_10.2.1.map xI))), some (.val ((xL xI) s_10.2.2)), none]) (ev_v (d := (xL xI) s_10.2.2) rfl) rfl)
/-! _law_are_bounds_right -/
def n__law_are_bounds_right_l1 (w_2 : Int × Cel) (w_6 : (List Int) × Cel) (x_10 : Int) (s_9 : Cel × (List (Int × Int × Int))) : Option (Cel × (List (Int × Int × Int))) :=
  (range1 (2 : Int)).bind fun v_11 => (compS (fun (x_12 : Int) C => (n__law_take C ((2 : Int) + w_2.1)).bind fun w_13 => some (w_13.1, w_13.2)) v_11 s_9.1).bind fun w_14 => (unL2 w_14.1).bind fun u_15 => (getI w_6.1 u_15.2).bind fun v_16 => (getI w_6.1 u_15.1).bind fun v_17 => (n__law_take w_14.2 (5 : Int)).bind fun w_18 => (appN s_9.2 (u_15.1, u_15.2, ((v_16 - v_17) + w_18.1))).bind fun z_19 => some (w_18.2, z_19)
def n__law_are_bounds_right_l2 (w_2 : Int × Cel) (w_24 : Int × Cel) (x_29 : ((List (Int × Int × Int)) × (List Int))) (s_28 : Unit) : Option (Ctl (Unit) (Bool × Cel)) :=
  (n_shows_clocks_for ((2 : Int) + w_2.1) x_29.1 ((x2 xS (xV xI)) ((tg "clocks"), x_29.2))).bind fun v_30 => (orN (!(decide (v_30 = true))) ((n_clocks_for ((2 : Int) + w_2.1) x_29.1).bind fun v_31 => some (!decide (v_31.1 = (tg "clocks"))))).bind fun q_32 => (if q_32 = true then some (.rt (false, w_24.2)) else some (.nx ()))
def n__law_are_bounds_right_l3 (w_6 : (List Int) × Cel) (x_42 : (Int × Int)) (s_41 : (List (Int × Int × Int))) : Option ((List (Int × Int × Int))) :=
  (getI w_6.1 x_42.2).bind fun v_43 => (getI w_6.1 x_42.1).bind fun v_44 => (appN s_41 (x_42.1, x_42.2, (v_43 - v_44))).bind fun z_45 => some z_45
def n__law_are_bounds_right (C_1 : Cel) : Option (Bool × Cel) :=
  (n__law_take C_1 (8 : Int)).bind fun w_2 => (range1 ((2 : Int) + w_2.1)).bind fun v_3 => (compS (fun (x_4 : Int) C => (n__law_take C (999 : Int)).bind fun w_5 => some (w_5.1, w_5.2)) v_3 w_2.2).bind fun w_6 => (n__law_take w_6.2 (16 : Int)).bind fun w_7 => (range1 w_7.1).bind fun v_8 => (forN (n__law_are_bounds_right_l1 w_2 w_6) v_8 (w_7.2, [])).bind fun s_20 => (n_clocks_for ((2 : Int) + w_2.1) s_20.2).bind fun v_21 => (if (!decide (v_21.1 = (tg "clocks"))) = true then some (false, s_20.1) else (powN (10 : Int) (6 : Int)).bind fun v_23 => (n__law_take s_20.1 v_23).bind fun w_24 => (forR (n__law_are_bounds_right_l2 w_2 w_24) [(s_20.2, (v_21.2.map fun (x_25 : Int) => (x_25 + w_24.1))), ((s_20.2.map fun (x_26 : (Int × Int × Int)) => (x_26.2.1, x_26.1, x_26.2.2)), (v_21.2.map fun (x_27 : Int) => (-x_27))), ((cut s_20.2 (some (1 : Int)) none), v_21.2), (s_20.2, w_6.1)] ()).bind fun c_34 => (match c_34 with | .rt r_35 => some r_35 | .bk _ => none | .nx s_36 => (lrange1 ((2 : Int) + w_2.1)).bind fun v_37 => (n__law_some w_24.2 v_37 ((2 : Int) + w_2.1)).bind fun w_38 => (catN (cut (w_38.1.map fun (x_39 : Int) => x_39) (some (1 : Int)) none) (cut (w_38.1.map fun (x_39 : Int) => x_39) none (some (1 : Int)))).bind fun v_40 => (forN (n__law_are_bounds_right_l3 w_6) ((w_38.1.map fun (x_39 : Int) => x_39).zip v_40) []).bind fun s_46 => (catN s_20.2 s_46).bind fun v_47 => (n_clocks_for ((2 : Int) + w_2.1) v_47).bind fun v_48 => (if (!decide (v_48.1 = (tg "clocks"))) = true then some (false, w_38.2) else (getI s_46 (0 : Int)).bind fun v_50 => (getI s_46 (0 : Int)).bind fun v_51 => (getI s_46 (0 : Int)).bind fun v_52 => (setI s_46 (0 : Int) (v_50.1, v_51.2.1, (v_52.2.2 - (1 : Int)))).bind fun z_53 => (catN s_20.2 z_53).bind fun v_54 => (n_clocks_for ((2 : Int) + w_2.1) v_54).bind fun v_55 => (if (decide (v_55.1 = (tg "ring"))) = true then (compN (fun (x_56 : Int) => some true) (fun (x_56 : Int) => (catN s_20.2 z_53).bind fun v_57 => (getI v_57 x_56).bind fun v_58 => some v_58) v_55.2).bind fun v_59 => some v_59 else some []).bind fun v_60 => (if ((decide (v_60 = [])) || (decide ((0 : Int) ≤ (List.sum (v_60.map fun (x_61 : (Int × Int × Int)) => x_61.2.2))))) = true then some (false, w_38.2) else (catN (cut v_60 (some (1 : Int)) none) (cut v_60 none (some (1 : Int)))).bind fun v_63 => some ((((v_60.zip v_63).map fun (x_64 : ((Int × Int × Int) × (Int × Int × Int))) => (decide (x_64.1.2.1 = x_64.2.1))).all id), w_38.2)))))
theorem l__law_are_bounds_right_l1 {w_2 : Int × Cel} {w_6 : (List Int) × Cel}  {x_10 : Int} {s_9 : Cel × (List (Int × Int × Int))} {r : (Cel × (List (Int × Int × Int)))} (h : n__law_are_bounds_right_l1 w_2 w_6 x_10 s_9 = some r) : ∃ ρ1, t__law_are_bounds_right_l1 (xI x_10) [some (.io s_9.1), some (.val (xI ((2 : Int) + w_2.1))), some (.own (.l (s_9.2.map (x3 xI xI xI)))), some (.val ((xL xI) w_6.1)), none, none, none, none, none, none, none, none, none, none, none, none, none, none, none, none, none, none, none] = some ρ1 ∧ Go .body b__law_are_bounds_right_l1 ρ1 (.nx ((fun s_9 => [some (.io s_9.1), some (.val (xI ((2 : Int) + w_2.1))), some (.own (.l (s_9.2.map (x3 xI xI xI)))), some (.val ((xL xI) w_6.1)), none, none, none, none, none, none, none, none, none, none, none, none, none, none, none, none, none, none, none]) r)) := by
  unfold n__law_are_bounds_right_l1 at h; unfold b__law_are_bounds_right_l1
  refine ⟨[some (.io s_9.1), some (.val (xI ((2 : Int) + w_2.1))), some (.own (.l (s_9.2.map (x3 xI xI xI)))), some (.val ((xL xI) w_6.1)), some (.val (xI x_10)), none, none, none, none, none, none, none, none, none, none, none, none, none, none, none, none, none, none], rfl, ?_⟩
  obtain ⟨v_11, hv_11, h⟩ := bx h
  obtain ⟨w_14, hw_14, h⟩ := bx h
  obtain ⟨u_15, hu_15, h⟩ := bx h
  refine go_seq (ρ1 := [some (.io w_14.2), some (.val (xI ((2 : Int) + w_2.1))), some (.own (.l (s_9.2.map (x3 xI xI xI)))), some (.val ((xL xI) w_6.1)), some (.val (xI x_10)), none, none, none, none, none, none, none, none, none, some (.val (xI u_15.1)), some (.val (xI u_15.2)), none, none, none, none, none, none, none]) (nx_asg (ρ1 := [some (.io w_14.2), some (.val (xI ((2 : Int) + w_2.1))), some (.own (.l (s_9.2.map (x3 xI xI xI)))), some (.val ((xL xI) w_6.1)), some (.val (xI x_10)), none, none, none, none, none, none, none, none, none, none, none, none, none, none, none, none, none, none]) (Ev.to (ev_N (nv_compS (e := xI) (e' := xI) (R := fun C => [some (.io C), some (.val (xI ((2 : Int) + w_2.1))), some (.own (.l (s_9.2.map (x3 xI xI xI)))), some (.val ((xL xI) w_6.1)), some (.val (xI x_10)), none, none, none, none, none, none, none, none, none, none, none, none, none, none, none, none, none, none]) (ρb := fun x_12 C => [some (.io C), some (.val (xI ((2 : Int) + w_2.1))), some (.own (.l (s_9.2.map (x3 xI xI xI)))), some (.val ((xL xI) w_6.1)), some (.val (xI x_10)), none, none, none, none, none, none, none, none, none, none, none, none, none, none, some (.val (xI x_12)), none, none, none]) (iv_range1 (av_cons (ev_c (d := xI 2)) av_nil) hv_11) (fun _ => rfl) (fun _ _ => rfl) (fun x_12 C w hq => by obtain ⟨w_13, hw_13, hq⟩ := bx hq; have e := Option.some.inj hq; subst e; exact (ev_call (Av.aw (av_cons (ev_callI rfl (av_cons (ev_v (d := xI ((2 : Int) + w_2.1)) rfl) av_nil) rfl (c__law_take hw_13)) av_nil)) (int_i _))) (fun _ _ _ => rfl) hw_14)) (unL2_e (e := xI) hu_15)) rfl) ?_
  obtain ⟨v_16, hv_16, h⟩ := bx h
  obtain ⟨v_17, hv_17, h⟩ := bx h
  obtain ⟨w_18, hw_18, h⟩ := bx h
  obtain ⟨z_19, hz_19, h⟩ := bx h
  have e := Option.some.inj h; subst e; exact go_body (nx_wp (is := [4, 14, 15]) (ρ1 := [some (.io w_18.2), some (.val (xI ((2 : Int) + w_2.1))), some (.own (.l (z_19.map (x3 xI xI xI)))), some (.val ((xL xI) w_6.1)), some (.val (xI x_10)), none, none, none, none, none, none, none, none, none, some (.val (xI u_15.1)), some (.val (xI u_15.2)), none, none, none, none, none, none, none]) (nx_app_e (ρ1 := [some (.io w_18.2), some (.val (xI ((2 : Int) + w_2.1))), some (.own (.l (s_9.2.map (x3 xI xI xI)))), some (.val ((xL xI) w_6.1)), some (.val (xI x_10)), none, none, none, none, none, none, none, none, none, some (.val (xI u_15.1)), some (.val (xI u_15.2)), none, none, none, none, none, none, none]) (e := (x3 xI xI xI)) (v := (u_15.1, u_15.2, ((v_16 - v_17) + w_18.1))) rfl (ev_tup (av_cons (ev_v (d := xI u_15.1) rfl) (av_cons (ev_v (d := xI u_15.2) rfl) (av_cons (ev_e2i (ev_e2i (ev_e2i (ev_v (d := (xL xI) w_6.1) rfl) (Ev.vw (ev_v (d := xI u_15.2) rfl)) (ixL_e (e := xI) hv_16)) (Ev.vw (ev_e2i (ev_v (d := (xL xI) w_6.1) rfl) (Ev.vw (ev_v (d := xI u_15.1) rfl)) (ixL_e (e := xI) hv_17))) (sub_e _ _)) (Ev.vw (ev_call (Av.aw (av_cons (ev_callI rfl (av_cons (ev_c (d := xI 5)) av_nil) rfl (c__law_take hw_18)) av_nil)) (int_i _))) (add_e _ _)) av_nil))) (small rfl)) rfl hz_19))
theorem l__law_are_bounds_right_l2 {w_2 : Int × Cel} {w_24 : Int × Cel} {w_6 : (List Int) × Cel} {s_20 : Cel × (List (Int × Int × Int))} {v_21 : (Tg × (List Int))}  {x_29 : ((List (Int × Int × Int)) × (List Int))} {s_28 : Unit} {r : (Ctl (Unit) (Bool × Cel))} (h : n__law_are_bounds_right_l2 w_2 w_24 x_29 s_28 = some r) : ∃ ρ1, t__law_are_bounds_right_l2 ((x2 (xV (x3 xI xI xI)) (xV xI)) x_29) [some (.io w_24.2), some (.val (xI ((2 : Int) + w_2.1))), some (.val ((xV (x3 xI xI xI)) s_20.2)), some (.val ((xL xI) w_6.1)), none, some (.val ((x2 xS (xV xI)) v_21)), some (.val (xI w_24.1)), some (.val ((xV xI) (v_21.2.map fun (x_25 : Int) => (x_25 + w_24.1)))), some (.val ((xV (x3 xI xI xI)) (s_20.2.map fun (x_26 : (Int × Int × Int)) => (x_26.2.1, x_26.1, x_26.2.2)))), some (.val ((xV xI) (v_21.2.map fun (x_27 : Int) => (-x_27)))), none, none, none, none, none, none, none, none, none, none, none, none, none] = some ρ1 ∧ Go .body b__law_are_bounds_right_l2 ρ1 (Turn (σ := Unit) (fun s_28 => [some (.io w_24.2), some (.val (xI ((2 : Int) + w_2.1))), some (.val ((xV (x3 xI xI xI)) s_20.2)), some (.val ((xL xI) w_6.1)), none, some (.val ((x2 xS (xV xI)) v_21)), some (.val (xI w_24.1)), some (.val ((xV xI) (v_21.2.map fun (x_25 : Int) => (x_25 + w_24.1)))), some (.val ((xV (x3 xI xI xI)) (s_20.2.map fun (x_26 : (Int × Int × Int)) => (x_26.2.1, x_26.1, x_26.2.2)))), some (.val ((xV xI) (v_21.2.map fun (x_27 : Int) => (-x_27)))), none, none, none, none, none, none, none, none, none, none, none, none, none]) (fun r => xB r.1) (fun r => some r.2) r) := by
  unfold n__law_are_bounds_right_l2 at h; unfold b__law_are_bounds_right_l2
  refine ⟨[some (.io w_24.2), some (.val (xI ((2 : Int) + w_2.1))), some (.val ((xV (x3 xI xI xI)) s_20.2)), some (.val ((xL xI) w_6.1)), none, some (.val ((x2 xS (xV xI)) v_21)), some (.val (xI w_24.1)), some (.val ((xV xI) (v_21.2.map fun (x_25 : Int) => (x_25 + w_24.1)))), some (.val ((xV (x3 xI xI xI)) (s_20.2.map fun (x_26 : (Int × Int × Int)) => (x_26.2.1, x_26.1, x_26.2.2)))), some (.val ((xV xI) (v_21.2.map fun (x_27 : Int) => (-x_27)))), some (.val ((xV (x3 xI xI xI)) x_29.1)), some (.val ((xV xI) x_29.2)), none, none, none, none, none, none, none, none, none, none, none], rfl, ?_⟩
  obtain ⟨v_30, hv_30, h⟩ := bx h
  obtain ⟨q_32, hq_32, h⟩ := bx h
  by_cases q_33 : q_32 = true
  · replace h := ift q_33 h
    refine go_ift (Bv.t (bv_orN (bv_e (ev_e2 (Ev.vw (ev_callPz (av_cons (ev_v (d := xI ((2 : Int) + w_2.1)) rfl) (av_cons (ev_v (d := (xV (x3 xI xI xI)) x_29.1) rfl) (av_cons (ev_tup (av_cons (ev_c (d := xS (tg "clocks"))) (av_cons (ev_v (d := (xV xI) x_29.2) rfl) av_nil)) (small rfl)) av_nil))) (c_shows_clocks_for hv_30))) (Ev.vw (ev_c (d := xB true))) (isnot_b _ _))) (fun q hq => by obtain ⟨v_31, hv_31, hq⟩ := bx hq; have e := Option.some.inj hq; subst e; exact (bv_e (ev_e2i (ev_e2 (Ev.vw (ev_callPz (av_cons (ev_v (d := xI ((2 : Int) + w_2.1)) rfl) (av_cons (ev_v (d := (xV (x3 xI xI xI)) x_29.1) rfl) av_nil)) (c_clocks_for hv_31))) (Ev.vw (ev_c (d := xI 0))) (tix2_0 _)) (Ev.vw (ev_c (d := xS (tg "clocks")))) (dNe_e xS (by decide) _ _)))) hq_32) q_33) ?_
    have e := Option.some.inj h; subst e; exact (go_ret (ρ1 := [some (.io w_24.2), some (.val (xI ((2 : Int) + w_2.1))), some (.val ((xV (x3 xI xI xI)) s_20.2)), some (.val ((xL xI) w_6.1)), none, some (.val ((x2 xS (xV xI)) v_21)), some (.val (xI w_24.1)), some (.val ((xV xI) (v_21.2.map fun (x_25 : Int) => (x_25 + w_24.1)))), some (.val ((xV (x3 xI xI xI)) (s_20.2.map fun (x_26 : (Int × Int × Int)) => (x_26.2.1, x_26.1, x_26.2.2)))), some (.val ((xV xI) (v_21.2.map fun (x_27 : Int) => (-x_27)))), some (.val ((xV (x3 xI xI xI)) x_29.1)), some (.val ((xV xI) x_29.2)), none, none, none, none, none, none, none, none, none, none, none]) (ev_c (d := xB false)) rfl)
  · replace h := iff' q_33 h
    refine go_iff (Bv.f (bv_orN (bv_e (ev_e2 (Ev.vw (ev_callPz (av_cons (ev_v (d := xI ((2 : Int) + w_2.1)) rfl) (av_cons (ev_v (d := (xV (x3 xI xI xI)) x_29.1) rfl) (av_cons (ev_tup (av_cons (ev_c (d := xS (tg "clocks"))) (av_cons (ev_v (d := (xV xI) x_29.2) rfl) av_nil)) (small rfl)) av_nil))) (c_shows_clocks_for hv_30))) (Ev.vw (ev_c (d := xB true))) (isnot_b _ _))) (fun q hq => by obtain ⟨v_31, hv_31, hq⟩ := bx hq; have e := Option.some.inj hq; subst e; exact (bv_e (ev_e2i (ev_e2 (Ev.vw (ev_callPz (av_cons (ev_v (d := xI ((2 : Int) + w_2.1)) rfl) (av_cons (ev_v (d := (xV (x3 xI xI xI)) x_29.1) rfl) av_nil)) (c_clocks_for hv_31))) (Ev.vw (ev_c (d := xI 0))) (tix2_0 _)) (Ev.vw (ev_c (d := xS (tg "clocks")))) (dNe_e xS (by decide) _ _)))) hq_32) q_33) ?_
    have e := Option.some.inj h; subst e; exact go_body (nx_wp (is := [10, 11]) (ρ1 := [some (.io w_24.2), some (.val (xI ((2 : Int) + w_2.1))), some (.val ((xV (x3 xI xI xI)) s_20.2)), some (.val ((xL xI) w_6.1)), none, some (.val ((x2 xS (xV xI)) v_21)), some (.val (xI w_24.1)), some (.val ((xV xI) (v_21.2.map fun (x_25 : Int) => (x_25 + w_24.1)))), some (.val ((xV (x3 xI xI xI)) (s_20.2.map fun (x_26 : (Int × Int × Int)) => (x_26.2.1, x_26.1, x_26.2.2)))), some (.val ((xV xI) (v_21.2.map fun (x_27 : Int) => (-x_27)))), some (.val ((xV (x3 xI xI xI)) x_29.1)), some (.val ((xV xI) x_29.2)), none, none, none, none, none, none, none, none, none, none, none]) nx_nil)
theorem l__law_are_bounds_right_l3 {w_6 : (List Int) × Cel} {w_2 : Int × Cel} {s_20 : Cel × (List (Int × Int × Int))} {v_21 : (Tg × (List Int))} {w_24 : Int × Cel} {w_38 : (List Int) × Cel}  {x_42 : (Int × Int)} {s_41 : (List (Int × Int × Int))} {r : ((List (Int × Int × Int)))} (h : n__law_are_bounds_right_l3 w_6 x_42 s_41 = some r) : ∃ ρ1, t__law_are_bounds_right_l3 ((x2 xI xI) x_42) [some (.io w_38.2), some (.val (xI ((2 : Int) + w_2.1))), some (.val ((xV (x3 xI xI xI)) s_20.2)), some (.val ((xL xI) w_6.1)), none, some (.val ((x2 xS (xV xI)) v_21)), some (.val (xI w_24.1)), some (.val ((xV xI) (v_21.2.map fun (x_25 : Int) => (x_25 + w_24.1)))), some (.val ((xV (x3 xI xI xI)) (s_20.2.map fun (x_26 : (Int × Int × Int)) => (x_26.2.1, x_26.1, x_26.2.2)))), some (.val ((xV xI) (v_21.2.map fun (x_27 : Int) => (-x_27)))), none, none, some (.val ((xL xI) (w_38.1.map fun (x_39 : Int) => x_39))), some (.own (.l (s_41.map (x3 xI xI xI)))), none, none, none, none, none, none, none, none, none] = some ρ1 ∧ Go .body b__law_are_bounds_right_l3 ρ1 (.nx ((fun s_41 => [some (.io w_38.2), some (.val (xI ((2 : Int) + w_2.1))), some (.val ((xV (x3 xI xI xI)) s_20.2)), some (.val ((xL xI) w_6.1)), none, some (.val ((x2 xS (xV xI)) v_21)), some (.val (xI w_24.1)), some (.val ((xV xI) (v_21.2.map fun (x_25 : Int) => (x_25 + w_24.1)))), some (.val ((xV (x3 xI xI xI)) (s_20.2.map fun (x_26 : (Int × Int × Int)) => (x_26.2.1, x_26.1, x_26.2.2)))), some (.val ((xV xI) (v_21.2.map fun (x_27 : Int) => (-x_27)))), none, none, some (.val ((xL xI) (w_38.1.map fun (x_39 : Int) => x_39))), some (.own (.l (s_41.map (x3 xI xI xI)))), none, none, none, none, none, none, none, none, none]) r)) := by
  unfold n__law_are_bounds_right_l3 at h; unfold b__law_are_bounds_right_l3
  refine ⟨[some (.io w_38.2), some (.val (xI ((2 : Int) + w_2.1))), some (.val ((xV (x3 xI xI xI)) s_20.2)), some (.val ((xL xI) w_6.1)), none, some (.val ((x2 xS (xV xI)) v_21)), some (.val (xI w_24.1)), some (.val ((xV xI) (v_21.2.map fun (x_25 : Int) => (x_25 + w_24.1)))), some (.val ((xV (x3 xI xI xI)) (s_20.2.map fun (x_26 : (Int × Int × Int)) => (x_26.2.1, x_26.1, x_26.2.2)))), some (.val ((xV xI) (v_21.2.map fun (x_27 : Int) => (-x_27)))), none, none, some (.val ((xL xI) (w_38.1.map fun (x_39 : Int) => x_39))), some (.own (.l (s_41.map (x3 xI xI xI)))), some (.val (xI x_42.1)), some (.val (xI x_42.2)), none, none, none, none, none, none, none], rfl, ?_⟩
  obtain ⟨v_43, hv_43, h⟩ := bx h
  obtain ⟨v_44, hv_44, h⟩ := bx h
  obtain ⟨z_45, hz_45, h⟩ := bx h
  have e := Option.some.inj h; subst e; exact go_body (nx_wp (is := [14, 15]) (ρ1 := [some (.io w_38.2), some (.val (xI ((2 : Int) + w_2.1))), some (.val ((xV (x3 xI xI xI)) s_20.2)), some (.val ((xL xI) w_6.1)), none, some (.val ((x2 xS (xV xI)) v_21)), some (.val (xI w_24.1)), some (.val ((xV xI) (v_21.2.map fun (x_25 : Int) => (x_25 + w_24.1)))), some (.val ((xV (x3 xI xI xI)) (s_20.2.map fun (x_26 : (Int × Int × Int)) => (x_26.2.1, x_26.1, x_26.2.2)))), some (.val ((xV xI) (v_21.2.map fun (x_27 : Int) => (-x_27)))), none, none, some (.val ((xL xI) (w_38.1.map fun (x_39 : Int) => x_39))), some (.own (.l (z_45.map (x3 xI xI xI)))), some (.val (xI x_42.1)), some (.val (xI x_42.2)), none, none, none, none, none, none, none]) (nx_app_e (ρ1 := [some (.io w_38.2), some (.val (xI ((2 : Int) + w_2.1))), some (.val ((xV (x3 xI xI xI)) s_20.2)), some (.val ((xL xI) w_6.1)), none, some (.val ((x2 xS (xV xI)) v_21)), some (.val (xI w_24.1)), some (.val ((xV xI) (v_21.2.map fun (x_25 : Int) => (x_25 + w_24.1)))), some (.val ((xV (x3 xI xI xI)) (s_20.2.map fun (x_26 : (Int × Int × Int)) => (x_26.2.1, x_26.1, x_26.2.2)))), some (.val ((xV xI) (v_21.2.map fun (x_27 : Int) => (-x_27)))), none, none, some (.val ((xL xI) (w_38.1.map fun (x_39 : Int) => x_39))), some (.own (.l (s_41.map (x3 xI xI xI)))), some (.val (xI x_42.1)), some (.val (xI x_42.2)), none, none, none, none, none, none, none]) (e := (x3 xI xI xI)) (v := (x_42.1, x_42.2, (v_43 - v_44))) rfl (ev_tup (av_cons (ev_v (d := xI x_42.1) rfl) (av_cons (ev_v (d := xI x_42.2) rfl) (av_cons (ev_e2i (ev_e2i (ev_v (d := (xL xI) w_6.1) rfl) (Ev.vw (ev_v (d := xI x_42.2) rfl)) (ixL_e (e := xI) hv_43)) (Ev.vw (ev_e2i (ev_v (d := (xL xI) w_6.1) rfl) (Ev.vw (ev_v (d := xI x_42.1) rfl)) (ixL_e (e := xI) hv_44))) (sub_e _ _)) av_nil))) (small rfl)) rfl hz_45))
theorem c__law_are_bounds_right {C_1 : Cel} {r : Bool × Cel} (h : n__law_are_bounds_right C_1 = some r) : f__law_are_bounds_right C_1 [] = some (xB r.1, r.2) := by
  unfold n__law_are_bounds_right at h
  refine fi_rt rfl ?_
  show Go .top b__law_are_bounds_right [some (.io C_1), none, none, none, none, none, none, none, none, none, none, none, none, none, none, none, none, none, none, none, none, none, none] (.rt (xB r.1) (some r.2))
  unfold b__law_are_bounds_right
  obtain ⟨w_2, hw_2, h⟩ := bx h
  refine go_seq (ρ1 := [some (.io w_2.2), some (.val (xI ((2 : Int) + w_2.1))), some (.own (.l ([].map (x3 xI xI xI)))), none, none, none, none, none, none, none, none, none, none, none, none, none, none, none, none, none, none, none, none]) (nx_par (ρ1 := [some (.io w_2.2), none, none, none, none, none, none, none, none, none, none, none, none, none, none, none, none, none, none, none, none, none, none]) (ls_E (d := xI ((2 : Int) + w_2.1)) (ev_e2i (ev_c (d := xI 2)) (Ev.vw (ev_call (Av.aw (av_cons (ev_callI rfl (av_cons (ev_c (d := xI 8)) av_nil) rfl (c__law_take hw_2)) av_nil)) (int_i _))) (add_e _ _)) (ls_N (ds := [].map (x3 xI xI xI)) (nv_lst_e (av_nil_e (e := (x3 xI xI xI))) (small rfl)) ls_nil)) rfl) ?_
  obtain ⟨v_3, hv_3, h⟩ := bx h
  obtain ⟨w_6, hw_6, h⟩ := bx h
  refine go_seq (ρ1 := [some (.io w_6.2), some (.val (xI ((2 : Int) + w_2.1))), some (.own (.l ([].map (x3 xI xI xI)))), some (.val ((xL xI) w_6.1)), none, none, none, none, none, none, none, none, none, none, none, none, none, none, none, none, none, none, none]) (nx_fz (ρ1 := [some (.io w_6.2), some (.val (xI ((2 : Int) + w_2.1))), some (.own (.l ([].map (x3 xI xI xI)))), some (.own (.l (w_6.1.map xI))), none, none, none, none, none, none, none, none, none, none, none, none, none, none, none, none, none, none, none]) (nx_setN (ρ1 := [some (.io w_6.2), some (.val (xI ((2 : Int) + w_2.1))), some (.own (.l ([].map (x3 xI xI xI)))), none, none, none, none, none, none, none, none, none, none, none, none, none, none, none, none, none, none, none, none]) (nv_compS (e := xI) (e' := xI) (R := fun C => [some (.io C), some (.val (xI ((2 : Int) + w_2.1))), some (.own (.l ([].map (x3 xI xI xI)))), none, none, none, none, none, none, none, none, none, none, none, none, none, none, none, none, none, none, none, none]) (ρb := fun x_4 C => [some (.io C), some (.val (xI ((2 : Int) + w_2.1))), some (.own (.l ([].map (x3 xI xI xI)))), none, none, none, none, none, none, none, none, none, none, none, none, none, none, none, some (.val (xI x_4)), none, none, none, none]) (iv_range1 (av_cons (ev_v (d := xI ((2 : Int) + w_2.1)) rfl) av_nil) hv_3) (fun _ => rfl) (fun _ _ => rfl) (fun x_4 C w hq => by obtain ⟨w_5, hw_5, hq⟩ := bx hq; have e := Option.some.inj hq; subst e; exact (ev_call (Av.aw (av_cons (ev_callI rfl (av_cons (ev_c (d := xI 999)) av_nil) rfl (c__law_take hw_5)) av_nil)) (int_i _))) (fun _ _ _ => rfl) hw_6) rfl)) ?_
  obtain ⟨w_7, hw_7, h⟩ := bx h
  obtain ⟨v_8, hv_8, h⟩ := bx h
  obtain ⟨s_20, hs_20, h⟩ := bx h
  refine go_seq (ρ1 := [some (.io s_20.1), some (.val (xI ((2 : Int) + w_2.1))), some (.val ((xL (x3 xI xI xI)) s_20.2)), some (.val ((xL xI) w_6.1)), none, none, none, none, none, none, none, none, none, none, none, none, none, none, none, none, none, none, none]) (nx_fz (ρ1 := [some (.io s_20.1), some (.val (xI ((2 : Int) + w_2.1))), some (.own (.l (s_20.2.map (x3 xI xI xI)))), some (.val ((xL xI) w_6.1)), none, none, none, none, none, none, none, none, none, none, none, none, none, none, none, none, none, none, none]) (nx_for (rep := (fun s_9 => [some (.io s_9.1), some (.val (xI ((2 : Int) + w_2.1))), some (.own (.l (s_9.2.map (x3 xI xI xI)))), some (.val ((xL xI) w_6.1)), none, none, none, none, none, none, none, none, none, none, none, none, none, none, none, none, none, none, none])) (e := xI) (s := (w_7.2, [])) (iv_wp (is := [4, 14, 15]) (ρ1 := [some (.io w_7.2), some (.val (xI ((2 : Int) + w_2.1))), some (.own (.l ([].map (x3 xI xI xI)))), some (.val ((xL xI) w_6.1)), none, none, none, none, none, none, none, none, none, none, none, none, none, none, none, none, none, none, none]) (iv_range1 (av_cons (ev_callI rfl (av_cons (ev_c (d := xI 16)) av_nil) rfl (c__law_take hw_7)) av_nil) hv_8)) (fun _ _ _ h => l__law_are_bounds_right_l1 (w_2 := w_2) (w_6 := w_6) h) hs_20)) ?_
  obtain ⟨v_21, hv_21, h⟩ := bx h
  refine go_seq (ρ1 := [some (.io s_20.1), some (.val (xI ((2 : Int) + w_2.1))), some (.val ((xV (x3 xI xI xI)) s_20.2)), some (.val ((xL xI) w_6.1)), none, some (.val ((x2 xS (xV xI)) v_21)), none, none, none, none, none, none, none, none, none, none, none, none, none, none, none, none, none]) (nx_asg (ρ1 := [some (.io s_20.1), some (.val (xI ((2 : Int) + w_2.1))), some (.val ((xL (x3 xI xI xI)) s_20.2)), some (.val ((xL xI) w_6.1)), none, none, none, none, none, none, none, none, none, none, none, none, none, none, none, none, none, none, none]) (ev_tup (av_cons (ev_call (Av.aw (av_cons (ev_v (d := (xL (x3 xI xI xI)) s_20.2) rfl) av_nil)) (tuple_L (x3 xI xI xI) _)) (av_cons (ev_callPz (av_cons (ev_v (d := xI ((2 : Int) + w_2.1)) rfl) (av_cons (ev_call (Av.aw (av_cons (ev_v (d := (xL (x3 xI xI xI)) s_20.2) rfl) av_nil)) (tuple_L (x3 xI xI xI) _)) av_nil)) (c_clocks_for hv_21)) av_nil)) (small rfl)) rfl) ?_
  by_cases q_22 : (!decide (v_21.1 = (tg "clocks"))) = true
  · replace h := ift q_22 h
    refine go_stop (go_ift (Bv.t (bv_e (ev_e2i (ev_e2 (Ev.vw (ev_v (d := (x2 xS (xV xI)) v_21) rfl)) (Ev.vw (ev_c (d := xI 0))) (tix2_0 _)) (Ev.vw (ev_c (d := xS (tg "clocks")))) (dNe_e xS (by decide) _ _))) q_22) ?_)
    have e := Option.some.inj h; subst e; exact (go_ret (ρ1 := [some (.io s_20.1), some (.val (xI ((2 : Int) + w_2.1))), some (.val ((xV (x3 xI xI xI)) s_20.2)), some (.val ((xL xI) w_6.1)), none, some (.val ((x2 xS (xV xI)) v_21)), none, none, none, none, none, none, none, none, none, none, none, none, none, none, none, none, none]) (ev_c (d := xB false)) rfl)
  · replace h := iff' q_22 h
    refine go_seq (nx_iff (Bv.f (bv_e (ev_e2i (ev_e2 (Ev.vw (ev_v (d := (x2 xS (xV xI)) v_21) rfl)) (Ev.vw (ev_c (d := xI 0))) (tix2_0 _)) (Ev.vw (ev_c (d := xS (tg "clocks")))) (dNe_e xS (by decide) _ _))) q_22) nx_nil) ?_
    obtain ⟨v_23, hv_23, h⟩ := bx h
    obtain ⟨w_24, hw_24, h⟩ := bx h
    refine go_seq (ρ1 := [some (.io w_24.2), some (.val (xI ((2 : Int) + w_2.1))), some (.val ((xV (x3 xI xI xI)) s_20.2)), some (.val ((xL xI) w_6.1)), none, some (.val ((x2 xS (xV xI)) v_21)), some (.val (xI w_24.1)), none, none, none, none, none, none, none, none, none, none, none, none, none, none, none, none]) (nx_set (ρ1 := [some (.io w_24.2), some (.val (xI ((2 : Int) + w_2.1))), some (.val ((xV (x3 xI xI xI)) s_20.2)), some (.val ((xL xI) w_6.1)), none, some (.val ((x2 xS (xV xI)) v_21)), none, none, none, none, none, none, none, none, none, none, none, none, none, none, none, none, none]) (d := xI w_24.1) (ev_call (Av.aw (av_cons (ev_callI rfl (av_cons (ev_e2i (ev_c (d := xI 10)) (Ev.vw (ev_c (d := xI 6))) (pow_e hv_23)) av_nil) rfl (c__law_take hw_24)) av_nil)) (int_i _)) rfl) ?_
    refine go_seq (ρ1 := [some (.io w_24.2), some (.val (xI ((2 : Int) + w_2.1))), some (.val ((xV (x3 xI xI xI)) s_20.2)), some (.val ((xL xI) w_6.1)), none, some (.val ((x2 xS (xV xI)) v_21)), some (.val (xI w_24.1)), some (.val ((xV xI) (v_21.2.map fun (x_25 : Int) => (x_25 + w_24.1)))), none, none, none, none, none, none, none, none, none, none, none, none, none, none, none]) (nx_set (ρ1 := [some (.io w_24.2), some (.val (xI ((2 : Int) + w_2.1))), some (.val ((xV (x3 xI xI xI)) s_20.2)), some (.val ((xL xI) w_6.1)), none, some (.val ((x2 xS (xV xI)) v_21)), some (.val (xI w_24.1)), none, none, none, none, none, none, none, none, none, none, none, none, none, none, none, none]) (d := (xV xI) (v_21.2.map fun (x_25 : Int) => (x_25 + w_24.1))) (ev_call (Av.aw (av_cons (ev_N (nv_compA (e := xI) (e' := xI) (k := fun (x_25 : Int) => (x_25 + w_24.1)) (ρb := fun x_25 => [some (.io w_24.2), some (.val (xI ((2 : Int) + w_2.1))), some (.val ((xV (x3 xI xI xI)) s_20.2)), some (.val ((xL xI) w_6.1)), none, some (.val ((x2 xS (xV xI)) v_21)), some (.val (xI w_24.1)), none, none, none, none, none, none, none, some (.val (xI x_25)), none, none, none, none, none, none, none, none]) (iv_seq (ev_e2 (Ev.vw (ev_v (d := (x2 xS (xV xI)) v_21) rfl)) (Ev.vw (ev_c (d := xI 1))) (tix2_1 _)) rfl) rfl (fun _ => rfl) (fun x_25 => (ev_e2i (ev_v (d := xI x_25) rfl) (Ev.vw (ev_v (d := xI w_24.1) rfl)) (add_e _ _))) (fun _ => rfl))) av_nil)) (tuple_L xI _)) rfl) ?_
    refine go_seq (ρ1 := [some (.io w_24.2), some (.val (xI ((2 : Int) + w_2.1))), some (.val ((xV (x3 xI xI xI)) s_20.2)), some (.val ((xL xI) w_6.1)), none, some (.val ((x2 xS (xV xI)) v_21)), some (.val (xI w_24.1)), some (.val ((xV xI) (v_21.2.map fun (x_25 : Int) => (x_25 + w_24.1)))), some (.val ((xV (x3 xI xI xI)) (s_20.2.map fun (x_26 : (Int × Int × Int)) => (x_26.2.1, x_26.1, x_26.2.2)))), none, none, none, none, none, none, none, none, none, none, none, none, none, none]) (nx_set (ρ1 := [some (.io w_24.2), some (.val (xI ((2 : Int) + w_2.1))), some (.val ((xV (x3 xI xI xI)) s_20.2)), some (.val ((xL xI) w_6.1)), none, some (.val ((x2 xS (xV xI)) v_21)), some (.val (xI w_24.1)), some (.val ((xV xI) (v_21.2.map fun (x_25 : Int) => (x_25 + w_24.1)))), none, none, none, none, none, none, none, none, none, none, none, none, none, none, none]) (d := (xV (x3 xI xI xI)) (s_20.2.map fun (x_26 : (Int × Int × Int)) => (x_26.2.1, x_26.1, x_26.2.2))) (ev_call (Av.aw (av_cons (ev_N (nv_compA (e := (x3 xI xI xI)) (e' := (x3 xI xI xI)) (k := fun (x_26 : (Int × Int × Int)) => (x_26.2.1, x_26.1, x_26.2.2)) (ρb := fun x_26 => [some (.io w_24.2), some (.val (xI ((2 : Int) + w_2.1))), some (.val ((xV (x3 xI xI xI)) s_20.2)), some (.val ((xL xI) w_6.1)), none, some (.val ((x2 xS (xV xI)) v_21)), some (.val (xI w_24.1)), some (.val ((xV xI) (v_21.2.map fun (x_25 : Int) => (x_25 + w_24.1)))), none, none, none, none, none, none, some (.val (xI x_26.1)), some (.val (xI x_26.2.1)), none, none, none, none, some (.val (xI x_26.2.2)), none, none]) (iv_seq (ev_v (d := (xV (x3 xI xI xI)) s_20.2) rfl) rfl) rfl (fun _ => rfl) (fun x_26 => (ev_tup (av_cons (ev_v (d := xI x_26.2.1) rfl) (av_cons (ev_v (d := xI x_26.1) rfl) (av_cons (ev_v (d := xI x_26.2.2) rfl) av_nil))) (small rfl))) (fun _ => rfl))) av_nil)) (tuple_L (x3 xI xI xI) _)) rfl) ?_
    refine go_seq (ρ1 := [some (.io w_24.2), some (.val (xI ((2 : Int) + w_2.1))), some (.val ((xV (x3 xI xI xI)) s_20.2)), some (.val ((xL xI) w_6.1)), none, some (.val ((x2 xS (xV xI)) v_21)), some (.val (xI w_24.1)), some (.val ((xV xI) (v_21.2.map fun (x_25 : Int) => (x_25 + w_24.1)))), some (.val ((xV (x3 xI xI xI)) (s_20.2.map fun (x_26 : (Int × Int × Int)) => (x_26.2.1, x_26.1, x_26.2.2)))), some (.val ((xV xI) (v_21.2.map fun (x_27 : Int) => (-x_27)))), none, none, none, none, none, none, none, none, none, none, none, none, none]) (nx_set (ρ1 := [some (.io w_24.2), some (.val (xI ((2 : Int) + w_2.1))), some (.val ((xV (x3 xI xI xI)) s_20.2)), some (.val ((xL xI) w_6.1)), none, some (.val ((x2 xS (xV xI)) v_21)), some (.val (xI w_24.1)), some (.val ((xV xI) (v_21.2.map fun (x_25 : Int) => (x_25 + w_24.1)))), some (.val ((xV (x3 xI xI xI)) (s_20.2.map fun (x_26 : (Int × Int × Int)) => (x_26.2.1, x_26.1, x_26.2.2)))), none, none, none, none, none, none, none, none, none, none, none, none, none, none]) (d := (xV xI) (v_21.2.map fun (x_27 : Int) => (-x_27))) (ev_call (Av.aw (av_cons (ev_N (nv_compA (e := xI) (e' := xI) (k := fun (x_27 : Int) => (-x_27)) (ρb := fun x_27 => [some (.io w_24.2), some (.val (xI ((2 : Int) + w_2.1))), some (.val ((xV (x3 xI xI xI)) s_20.2)), some (.val ((xL xI) w_6.1)), none, some (.val ((x2 xS (xV xI)) v_21)), some (.val (xI w_24.1)), some (.val ((xV xI) (v_21.2.map fun (x_25 : Int) => (x_25 + w_24.1)))), some (.val ((xV (x3 xI xI xI)) (s_20.2.map fun (x_26 : (Int × Int × Int)) => (x_26.2.1, x_26.1, x_26.2.2)))), none, none, none, none, none, some (.val (xI x_27)), none, none, none, none, none, none, none, none]) (iv_seq (ev_e2 (Ev.vw (ev_v (d := (x2 xS (xV xI)) v_21) rfl)) (Ev.vw (ev_c (d := xI 1))) (tix2_1 _)) rfl) rfl (fun _ => rfl) (fun x_27 => (ev_e1 (Ev.vw (ev_v (d := xI x_27) rfl)) (neg_e _))) (fun _ => rfl))) av_nil)) (tuple_L xI _)) rfl) ?_
    obtain ⟨c_34, hc_34, h⟩ := bx h
    cases c_34 with
    | rt r_35 =>
      have e := Option.some.inj h; subst e
      exact go_stop (rt_forR (rep := (fun s_28 => [some (.io w_24.2), some (.val (xI ((2 : Int) + w_2.1))), some (.val ((xV (x3 xI xI xI)) s_20.2)), some (.val ((xL xI) w_6.1)), none, some (.val ((x2 xS (xV xI)) v_21)), some (.val (xI w_24.1)), some (.val ((xV xI) (v_21.2.map fun (x_25 : Int) => (x_25 + w_24.1)))), some (.val ((xV (x3 xI xI xI)) (s_20.2.map fun (x_26 : (Int × Int × Int)) => (x_26.2.1, x_26.1, x_26.2.2)))), some (.val ((xV xI) (v_21.2.map fun (x_27 : Int) => (-x_27)))), none, none, none, none, none, none, none, none, none, none, none, none, none])) (e := (x2 (xV (x3 xI xI xI)) (xV xI))) (s := ()) (er := fun r => xB r.1) (ec := fun r => some r.2) (iv_wp (is := [10, 11]) (ρ1 := [some (.io w_24.2), some (.val (xI ((2 : Int) + w_2.1))), some (.val ((xV (x3 xI xI xI)) s_20.2)), some (.val ((xL xI) w_6.1)), none, some (.val ((x2 xS (xV xI)) v_21)), some (.val (xI w_24.1)), some (.val ((xV xI) (v_21.2.map fun (x_25 : Int) => (x_25 + w_24.1)))), some (.val ((xV (x3 xI xI xI)) (s_20.2.map fun (x_26 : (Int × Int × Int)) => (x_26.2.1, x_26.1, x_26.2.2)))), some (.val ((xV xI) (v_21.2.map fun (x_27 : Int) => (-x_27)))), none, none, none, none, none, none, none, none, none, none, none, none, none]) (iv_seq (ev_tup_e (av_cons_e (ev_tup (av_cons (ev_v (d := (xV (x3 xI xI xI)) s_20.2) rfl) (av_cons (ev_v (d := (xV xI) (v_21.2.map fun (x_25 : Int) => (x_25 + w_24.1))) rfl) av_nil)) (small rfl)) (av_cons_e (ev_tup (av_cons (ev_v (d := (xV (x3 xI xI xI)) (s_20.2.map fun (x_26 : (Int × Int × Int)) => (x_26.2.1, x_26.1, x_26.2.2))) rfl) (av_cons (ev_v (d := (xV xI) (v_21.2.map fun (x_27 : Int) => (-x_27))) rfl) av_nil)) (small rfl)) (av_cons_e (ev_tup (av_cons (ev_sl (Ev.vw (ev_v (d := (xV (x3 xI xI xI)) s_20.2) rfl)) (os_of (ev_c (d := xI 1))) rfl (slV_e _ _ _ _)) (av_cons (ev_e2 (Ev.vw (ev_v (d := (x2 xS (xV xI)) v_21) rfl)) (Ev.vw (ev_c (d := xI 1))) (tix2_1 _)) av_nil)) (small rfl)) (av_one_e (ev_tup (av_cons (ev_v (d := (xV (x3 xI xI xI)) s_20.2) rfl) (av_cons (ev_call (Av.aw (av_cons (ev_v (d := (xL xI) w_6.1) rfl) av_nil)) (tuple_L xI _)) av_nil)) (small rfl)))))) (small rfl)) rfl)) (fun _ _ _ h => l__law_are_bounds_right_l2 (w_2 := w_2) (w_24 := w_24) (w_6 := w_6) (s_20 := s_20) (v_21 := v_21) h) hc_34)
    | bk _ =>
      exact (no_forR hc_34).elim
    | nx s_36 =>
      refine go_seq (ρ1 := [some (.io w_24.2), some (.val (xI ((2 : Int) + w_2.1))), some (.val ((xV (x3 xI xI xI)) s_20.2)), some (.val ((xL xI) w_6.1)), none, some (.val ((x2 xS (xV xI)) v_21)), some (.val (xI w_24.1)), some (.val ((xV xI) (v_21.2.map fun (x_25 : Int) => (x_25 + w_24.1)))), some (.val ((xV (x3 xI xI xI)) (s_20.2.map fun (x_26 : (Int × Int × Int)) => (x_26.2.1, x_26.1, x_26.2.2)))), some (.val ((xV xI) (v_21.2.map fun (x_27 : Int) => (-x_27)))), none, none, none, none, none, none, none, none, none, none, none, none, none]) (nx_forR (rep := (fun s_28 => [some (.io w_24.2), some (.val (xI ((2 : Int) + w_2.1))), some (.val ((xV (x3 xI xI xI)) s_20.2)), some (.val ((xL xI) w_6.1)), none, some (.val ((x2 xS (xV xI)) v_21)), some (.val (xI w_24.1)), some (.val ((xV xI) (v_21.2.map fun (x_25 : Int) => (x_25 + w_24.1)))), some (.val ((xV (x3 xI xI xI)) (s_20.2.map fun (x_26 : (Int × Int × Int)) => (x_26.2.1, x_26.1, x_26.2.2)))), some (.val ((xV xI) (v_21.2.map fun (x_27 : Int) => (-x_27)))), none, none, none, none, none, none, none, none, none, none, none, none, none])) (e := (x2 (xV (x3 xI xI xI)) (xV xI))) (s := ()) (er := fun r => xB r.1) (ec := fun r => some r.2) (iv_wp (is := [10, 11]) (ρ1 := [some (.io w_24.2), some (.val (xI ((2 : Int) + w_2.1))), some (.val ((xV (x3 xI xI xI)) s_20.2)), some (.val ((xL xI) w_6.1)), none, some (.val ((x2 xS (xV xI)) v_21)), some (.val (xI w_24.1)), some (.val ((xV xI) (v_21.2.map fun (x_25 : Int) => (x_25 + w_24.1)))), some (.val ((xV (x3 xI xI xI)) (s_20.2.map fun (x_26 : (Int × Int × Int)) => (x_26.2.1, x_26.1, x_26.2.2)))), some (.val ((xV xI) (v_21.2.map fun (x_27 : Int) => (-x_27)))), none, none, none, none, none, none, none, none, none, none, none, none, none]) (iv_seq (ev_tup_e (av_cons_e (ev_tup (av_cons (ev_v (d := (xV (x3 xI xI xI)) s_20.2) rfl) (av_cons (ev_v (d := (xV xI) (v_21.2.map fun (x_25 : Int) => (x_25 + w_24.1))) rfl) av_nil)) (small rfl)) (av_cons_e (ev_tup (av_cons (ev_v (d := (xV (x3 xI xI xI)) (s_20.2.map fun (x_26 : (Int × Int × Int)) => (x_26.2.1, x_26.1, x_26.2.2))) rfl) (av_cons (ev_v (d := (xV xI) (v_21.2.map fun (x_27 : Int) => (-x_27))) rfl) av_nil)) (small rfl)) (av_cons_e (ev_tup (av_cons (ev_sl (Ev.vw (ev_v (d := (xV (x3 xI xI xI)) s_20.2) rfl)) (os_of (ev_c (d := xI 1))) rfl (slV_e _ _ _ _)) (av_cons (ev_e2 (Ev.vw (ev_v (d := (x2 xS (xV xI)) v_21) rfl)) (Ev.vw (ev_c (d := xI 1))) (tix2_1 _)) av_nil)) (small rfl)) (av_one_e (ev_tup (av_cons (ev_v (d := (xV (x3 xI xI xI)) s_20.2) rfl) (av_cons (ev_call (Av.aw (av_cons (ev_v (d := (xL xI) w_6.1) rfl) av_nil)) (tuple_L xI _)) av_nil)) (small rfl)))))) (small rfl)) rfl)) (fun _ _ _ h => l__law_are_bounds_right_l2 (w_2 := w_2) (w_24 := w_24) (w_6 := w_6) (s_20 := s_20) (v_21 := v_21) h) hc_34) ?_
      obtain ⟨v_37, hv_37, h⟩ := bx h
      obtain ⟨w_38, hw_38, h⟩ := bx h
      refine go_seq (ρ1 := [some (.io w_38.2), some (.val (xI ((2 : Int) + w_2.1))), some (.val ((xV (x3 xI xI xI)) s_20.2)), some (.val ((xL xI) w_6.1)), none, some (.val ((x2 xS (xV xI)) v_21)), some (.val (xI w_24.1)), some (.val ((xV xI) (v_21.2.map fun (x_25 : Int) => (x_25 + w_24.1)))), some (.val ((xV (x3 xI xI xI)) (s_20.2.map fun (x_26 : (Int × Int × Int)) => (x_26.2.1, x_26.1, x_26.2.2)))), some (.val ((xV xI) (v_21.2.map fun (x_27 : Int) => (-x_27)))), none, none, some (.val ((xL xI) (w_38.1.map fun (x_39 : Int) => x_39))), none, none, none, none, none, none, none, none, none, none]) (nx_fz (ρ1 := [some (.io w_38.2), some (.val (xI ((2 : Int) + w_2.1))), some (.val ((xV (x3 xI xI xI)) s_20.2)), some (.val ((xL xI) w_6.1)), none, some (.val ((x2 xS (xV xI)) v_21)), some (.val (xI w_24.1)), some (.val ((xV xI) (v_21.2.map fun (x_25 : Int) => (x_25 + w_24.1)))), some (.val ((xV (x3 xI xI xI)) (s_20.2.map fun (x_26 : (Int × Int × Int)) => (x_26.2.1, x_26.1, x_26.2.2)))), some (.val ((xV xI) (v_21.2.map fun (x_27 : Int) => (-x_27)))), none, none, some (.own (.l ((w_38.1.map fun (x_39 : Int) => x_39).map xI))), none, none, none, none, none, none, none, none, none, none]) (nx_setN (ρ1 := [some (.io w_38.2), some (.val (xI ((2 : Int) + w_2.1))), some (.val ((xV (x3 xI xI xI)) s_20.2)), some (.val ((xL xI) w_6.1)), none, some (.val ((x2 xS (xV xI)) v_21)), some (.val (xI w_24.1)), some (.val ((xV xI) (v_21.2.map fun (x_25 : Int) => (x_25 + w_24.1)))), some (.val ((xV (x3 xI xI xI)) (s_20.2.map fun (x_26 : (Int × Int × Int)) => (x_26.2.1, x_26.1, x_26.2.2)))), some (.val ((xV xI) (v_21.2.map fun (x_27 : Int) => (-x_27)))), none, none, none, none, none, none, none, none, none, none, none, none, none]) (nv_compA (e := xI) (e' := xI) (k := fun (x_39 : Int) => x_39) (ρb := fun x_39 => [some (.io w_38.2), some (.val (xI ((2 : Int) + w_2.1))), some (.val ((xV (x3 xI xI xI)) s_20.2)), some (.val ((xL xI) w_6.1)), none, some (.val ((x2 xS (xV xI)) v_21)), some (.val (xI w_24.1)), some (.val ((xV xI) (v_21.2.map fun (x_25 : Int) => (x_25 + w_24.1)))), some (.val ((xV (x3 xI xI xI)) (s_20.2.map fun (x_26 : (Int × Int × Int)) => (x_26.2.1, x_26.1, x_26.2.2)))), some (.val ((xV xI) (v_21.2.map fun (x_27 : Int) => (-x_27)))), none, none, none, none, none, none, none, none, some (.val (xI x_39)), none, none, none, none]) (iv_seq (ev_callI rfl (av_cons (ev_N (nv_lrange1 (ev_v (d := xI ((2 : Int) + w_2.1)) rfl) hv_37)) (av_cons (ev_v (d := xI ((2 : Int) + w_2.1)) rfl) av_nil)) rfl (c__law_some hw_38)) rfl) rfl (fun _ => rfl) (fun x_39 => (ev_call (Av.aw (av_cons (ev_v (d := xI x_39) rfl) av_nil)) (int_i _))) (fun _ => rfl)) rfl)) ?_
      refine go_seq (ρ1 := [some (.io w_38.2), some (.val (xI ((2 : Int) + w_2.1))), some (.val ((xV (x3 xI xI xI)) s_20.2)), some (.val ((xL xI) w_6.1)), none, some (.val ((x2 xS (xV xI)) v_21)), some (.val (xI w_24.1)), some (.val ((xV xI) (v_21.2.map fun (x_25 : Int) => (x_25 + w_24.1)))), some (.val ((xV (x3 xI xI xI)) (s_20.2.map fun (x_26 : (Int × Int × Int)) => (x_26.2.1, x_26.1, x_26.2.2)))), some (.val ((xV xI) (v_21.2.map fun (x_27 : Int) => (-x_27)))), none, none, some (.val ((xL xI) (w_38.1.map fun (x_39 : Int) => x_39))), some (.own (.l ([].map (x3 xI xI xI)))), none, none, none, none, none, none, none, none, none]) (nx_setN (ρ1 := [some (.io w_38.2), some (.val (xI ((2 : Int) + w_2.1))), some (.val ((xV (x3 xI xI xI)) s_20.2)), some (.val ((xL xI) w_6.1)), none, some (.val ((x2 xS (xV xI)) v_21)), some (.val (xI w_24.1)), some (.val ((xV xI) (v_21.2.map fun (x_25 : Int) => (x_25 + w_24.1)))), some (.val ((xV (x3 xI xI xI)) (s_20.2.map fun (x_26 : (Int × Int × Int)) => (x_26.2.1, x_26.1, x_26.2.2)))), some (.val ((xV xI) (v_21.2.map fun (x_27 : Int) => (-x_27)))), none, none, some (.val ((xL xI) (w_38.1.map fun (x_39 : Int) => x_39))), none, none, none, none, none, none, none, none, none, none]) (ds := [].map (x3 xI xI xI)) (nv_lst_e (av_nil_e (e := (x3 xI xI xI))) (small rfl)) rfl) ?_
      obtain ⟨v_40, hv_40, h⟩ := bx h
      obtain ⟨s_46, hs_46, h⟩ := bx h
      refine go_seq (ρ1 := [some (.io w_38.2), some (.val (xI ((2 : Int) + w_2.1))), some (.val ((xV (x3 xI xI xI)) s_20.2)), some (.val ((xL xI) w_6.1)), none, some (.val ((x2 xS (xV xI)) v_21)), some (.val (xI w_24.1)), some (.val ((xV xI) (v_21.2.map fun (x_25 : Int) => (x_25 + w_24.1)))), some (.val ((xV (x3 xI xI xI)) (s_20.2.map fun (x_26 : (Int × Int × Int)) => (x_26.2.1, x_26.1, x_26.2.2)))), some (.val ((xV xI) (v_21.2.map fun (x_27 : Int) => (-x_27)))), none, none, some (.val ((xL xI) (w_38.1.map fun (x_39 : Int) => x_39))), some (.own (.l (s_46.map (x3 xI xI xI)))), none, none, none, none, none, none, none, none, none]) (nx_for (rep := (fun s_41 => [some (.io w_38.2), some (.val (xI ((2 : Int) + w_2.1))), some (.val ((xV (x3 xI xI xI)) s_20.2)), some (.val ((xL xI) w_6.1)), none, some (.val ((x2 xS (xV xI)) v_21)), some (.val (xI w_24.1)), some (.val ((xV xI) (v_21.2.map fun (x_25 : Int) => (x_25 + w_24.1)))), some (.val ((xV (x3 xI xI xI)) (s_20.2.map fun (x_26 : (Int × Int × Int)) => (x_26.2.1, x_26.1, x_26.2.2)))), some (.val ((xV xI) (v_21.2.map fun (x_27 : Int) => (-x_27)))), none, none, some (.val ((xL xI) (w_38.1.map fun (x_39 : Int) => x_39))), some (.own (.l (s_41.map (x3 xI xI xI)))), none, none, none, none, none, none, none, none, none])) (e := (x2 xI xI)) (s := []) (iv_wp (is := [14, 15]) (ρ1 := [some (.io w_38.2), some (.val (xI ((2 : Int) + w_2.1))), some (.val ((xV (x3 xI xI xI)) s_20.2)), some (.val ((xL xI) w_6.1)), none, some (.val ((x2 xS (xV xI)) v_21)), some (.val (xI w_24.1)), some (.val ((xV xI) (v_21.2.map fun (x_25 : Int) => (x_25 + w_24.1)))), some (.val ((xV (x3 xI xI xI)) (s_20.2.map fun (x_26 : (Int × Int × Int)) => (x_26.2.1, x_26.1, x_26.2.2)))), some (.val ((xV xI) (v_21.2.map fun (x_27 : Int) => (-x_27)))), none, none, some (.val ((xL xI) (w_38.1.map fun (x_39 : Int) => x_39))), some (.own (.l ([].map (x3 xI xI xI)))), none, none, none, none, none, none, none, none, none]) (iv_zip (e := xI) (e' := xI) (av_cons (ev_v (d := (xL xI) (w_38.1.map fun (x_39 : Int) => x_39)) rfl) (av_cons (ev_e2 (Ev.vw (ev_sl (Ev.vw (ev_v (d := (xL xI) (w_38.1.map fun (x_39 : Int) => x_39)) rfl)) (os_of (ev_c (d := xI 1))) rfl (slL_e _ _ _ _))) (Ev.vw (ev_sl (Ev.vw (ev_v (d := (xL xI) (w_38.1.map fun (x_39 : Int) => x_39)) rfl)) rfl (os_of (ev_c (d := xI 1))) (slL_e _ _ _ _))) (catL_e hv_40)) av_nil)) rfl rfl)) (fun _ _ _ h => l__law_are_bounds_right_l3 (w_6 := w_6) (w_2 := w_2) (s_20 := s_20) (v_21 := v_21) (w_24 := w_24) (w_38 := w_38) h) hs_46) ?_
      obtain ⟨v_47, hv_47, h⟩ := bx h
      obtain ⟨v_48, hv_48, h⟩ := bx h
      by_cases q_49 : (!decide (v_48.1 = (tg "clocks"))) = true
      · replace h := ift q_49 h
        refine go_stop (go_ift (Bv.t (bv_e (ev_e2i (ev_e2 (Ev.vw (ev_callPz (av_cons (ev_v (d := xI ((2 : Int) + w_2.1)) rfl) (av_cons (ev_e2 (Ev.vw (ev_v (d := (xV (x3 xI xI xI)) s_20.2) rfl)) (Ev.vw (ev_call (aw_cons (vw_own rfl) aw_nil) (tuple_L (x3 xI xI xI) _))) (catV_e hv_47)) av_nil)) (c_clocks_for hv_48))) (Ev.vw (ev_c (d := xI 0))) (tix2_0 _)) (Ev.vw (ev_c (d := xS (tg "clocks")))) (dNe_e xS (by decide) _ _))) q_49) ?_)
        have e := Option.some.inj h; subst e; exact (go_ret (ρ1 := [some (.io w_38.2), some (.val (xI ((2 : Int) + w_2.1))), some (.val ((xV (x3 xI xI xI)) s_20.2)), some (.val ((xL xI) w_6.1)), none, some (.val ((x2 xS (xV xI)) v_21)), some (.val (xI w_24.1)), some (.val ((xV xI) (v_21.2.map fun (x_25 : Int) => (x_25 + w_24.1)))), some (.val ((xV (x3 xI xI xI)) (s_20.2.map fun (x_26 : (Int × Int × Int)) => (x_26.2.1, x_26.1, x_26.2.2)))), some (.val ((xV xI) (v_21.2.map fun (x_27 : Int) => (-x_27)))), none, none, some (.val ((xL xI) (w_38.1.map fun (x_39 : Int) => x_39))), some (.own (.l (s_46.map (x3 xI xI xI)))), none, none, none, none, none, none, none, none, none]) (ev_c (d := xB false)) rfl)
      · replace h := iff' q_49 h
        refine go_seq (nx_iff (Bv.f (bv_e (ev_e2i (ev_e2 (Ev.vw (ev_callPz (av_cons (ev_v (d := xI ((2 : Int) + w_2.1)) rfl) (av_cons (ev_e2 (Ev.vw (ev_v (d := (xV (x3 xI xI xI)) s_20.2) rfl)) (Ev.vw (ev_call (aw_cons (vw_own rfl) aw_nil) (tuple_L (x3 xI xI xI) _))) (catV_e hv_47)) av_nil)) (c_clocks_for hv_48))) (Ev.vw (ev_c (d := xI 0))) (tix2_0 _)) (Ev.vw (ev_c (d := xS (tg "clocks")))) (dNe_e xS (by decide) _ _))) q_49) nx_nil) ?_
        obtain ⟨v_50, hv_50, h⟩ := bx h
        obtain ⟨v_51, hv_51, h⟩ := bx h
        obtain ⟨v_52, hv_52, h⟩ := bx h
        obtain ⟨z_53, hz_53, h⟩ := bx h
        refine go_seq (ρ1 := [some (.io w_38.2), some (.val (xI ((2 : Int) + w_2.1))), some (.val ((xV (x3 xI xI xI)) s_20.2)), some (.val ((xL xI) w_6.1)), none, some (.val ((x2 xS (xV xI)) v_21)), some (.val (xI w_24.1)), some (.val ((xV xI) (v_21.2.map fun (x_25 : Int) => (x_25 + w_24.1)))), some (.val ((xV (x3 xI xI xI)) (s_20.2.map fun (x_26 : (Int × Int × Int)) => (x_26.2.1, x_26.1, x_26.2.2)))), some (.val ((xV xI) (v_21.2.map fun (x_27 : Int) => (-x_27)))), none, none, some (.val ((xL xI) (w_38.1.map fun (x_39 : Int) => x_39))), some (.val ((xL (x3 xI xI xI)) z_53)), none, none, none, none, none, none, none, none, none]) (nx_fz (ρ1 := [some (.io w_38.2), some (.val (xI ((2 : Int) + w_2.1))), some (.val ((xV (x3 xI xI xI)) s_20.2)), some (.val ((xL xI) w_6.1)), none, some (.val ((x2 xS (xV xI)) v_21)), some (.val (xI w_24.1)), some (.val ((xV xI) (v_21.2.map fun (x_25 : Int) => (x_25 + w_24.1)))), some (.val ((xV (x3 xI xI xI)) (s_20.2.map fun (x_26 : (Int × Int × Int)) => (x_26.2.1, x_26.1, x_26.2.2)))), some (.val ((xV xI) (v_21.2.map fun (x_27 : Int) => (-x_27)))), none, none, some (.val ((xL xI) (w_38.1.map fun (x_39 : Int) => x_39))), some (.own (.l (z_53.map (x3 xI xI xI)))), none, none, none, none, none, none, none, none, none]) (nx_put_e (ρ2 := [some (.io w_38.2), some (.val (xI ((2 : Int) + w_2.1))), some (.val ((xV (x3 xI xI xI)) s_20.2)), some (.val ((xL xI) w_6.1)), none, some (.val ((x2 xS (xV xI)) v_21)), some (.val (xI w_24.1)), some (.val ((xV xI) (v_21.2.map fun (x_25 : Int) => (x_25 + w_24.1)))), some (.val ((xV (x3 xI xI xI)) (s_20.2.map fun (x_26 : (Int × Int × Int)) => (x_26.2.1, x_26.1, x_26.2.2)))), some (.val ((xV xI) (v_21.2.map fun (x_27 : Int) => (-x_27)))), none, none, some (.val ((xL xI) (w_38.1.map fun (x_39 : Int) => x_39))), some (.own (.l (s_46.map (x3 xI xI xI)))), none, none, none, none, none, none, none, none, none]) (e := (x3 xI xI xI)) (v := (v_50.1, v_51.2.1, (v_52.2.2 - (1 : Int)))) (ev_tup (av_cons (ev_e2 (Ev.vw (ev_e2 (vw_own rfl) (Ev.vw (ev_c (d := xI 0))) (ixL_e (e := (x3 xI xI xI)) hv_50))) (Ev.vw (ev_c (d := xI 0))) (tix3_0 _)) (av_cons (ev_e2 (Ev.vw (ev_e2 (vw_own rfl) (Ev.vw (ev_c (d := xI 0))) (ixL_e (e := (x3 xI xI xI)) hv_51))) (Ev.vw (ev_c (d := xI 1))) (tix3_1 _)) (av_cons (ev_e2i (ev_e2 (Ev.vw (ev_e2 (vw_own rfl) (Ev.vw (ev_c (d := xI 0))) (ixL_e (e := (x3 xI xI xI)) hv_52))) (Ev.vw (ev_c (d := xI 2))) (tix3_2 _)) (Ev.vw (ev_c (d := xI 1))) (sub_e _ _)) av_nil))) (small rfl)) rfl (ev_c (d := xI 0)) rfl hz_53)) ?_
        obtain ⟨v_54, hv_54, h⟩ := bx h
        obtain ⟨v_55, hv_55, h⟩ := bx h
        refine go_seq (ρ1 := [some (.io w_38.2), some (.val (xI ((2 : Int) + w_2.1))), some (.val ((xV (x3 xI xI xI)) s_20.2)), some (.val ((xL xI) w_6.1)), none, some (.val ((x2 xS (xV xI)) v_21)), some (.val (xI w_24.1)), some (.val ((xV xI) (v_21.2.map fun (x_25 : Int) => (x_25 + w_24.1)))), some (.val ((xV (x3 xI xI xI)) (s_20.2.map fun (x_26 : (Int × Int × Int)) => (x_26.2.1, x_26.1, x_26.2.2)))), some (.val ((xV xI) (v_21.2.map fun (x_27 : Int) => (-x_27)))), none, none, some (.val ((xL xI) (w_38.1.map fun (x_39 : Int) => x_39))), some (.val ((xL (x3 xI xI xI)) z_53)), none, none, some (.val (xS v_55.1)), some (.val ((xV xI) v_55.2)), none, none, none, none, none]) (nx_asg (ρ1 := [some (.io w_38.2), some (.val (xI ((2 : Int) + w_2.1))), some (.val ((xV (x3 xI xI xI)) s_20.2)), some (.val ((xL xI) w_6.1)), none, some (.val ((x2 xS (xV xI)) v_21)), some (.val (xI w_24.1)), some (.val ((xV xI) (v_21.2.map fun (x_25 : Int) => (x_25 + w_24.1)))), some (.val ((xV (x3 xI xI xI)) (s_20.2.map fun (x_26 : (Int × Int × Int)) => (x_26.2.1, x_26.1, x_26.2.2)))), some (.val ((xV xI) (v_21.2.map fun (x_27 : Int) => (-x_27)))), none, none, some (.val ((xL xI) (w_38.1.map fun (x_39 : Int) => x_39))), some (.val ((xL (x3 xI xI xI)) z_53)), none, none, none, none, none, none, none, none, none]) (ev_callPz (av_cons (ev_v (d := xI ((2 : Int) + w_2.1)) rfl) (av_cons (ev_e2 (Ev.vw (ev_v (d := (xV (x3 xI xI xI)) s_20.2) rfl)) (Ev.vw (ev_call (Av.aw (av_cons (ev_v (d := (xL (x3 xI xI xI)) z_53) rfl) av_nil)) (tuple_L (x3 xI xI xI) _))) (catV_e hv_54)) av_nil)) (c_clocks_for hv_55)) rfl) ?_
        obtain ⟨v_60, hv_60, h⟩ := bx h
        refine go_seq (ρ1 := [some (.io w_38.2), some (.val (xI ((2 : Int) + w_2.1))), some (.val ((xV (x3 xI xI xI)) s_20.2)), some (.val ((xL xI) w_6.1)), none, some (.val ((x2 xS (xV xI)) v_21)), some (.val (xI w_24.1)), some (.val ((xV xI) (v_21.2.map fun (x_25 : Int) => (x_25 + w_24.1)))), some (.val ((xV (x3 xI xI xI)) (s_20.2.map fun (x_26 : (Int × Int × Int)) => (x_26.2.1, x_26.1, x_26.2.2)))), some (.val ((xV xI) (v_21.2.map fun (x_27 : Int) => (-x_27)))), some (.val ((xL (x3 xI xI xI)) v_60)), none, some (.val ((xL xI) (w_38.1.map fun (x_39 : Int) => x_39))), some (.val ((xL (x3 xI xI xI)) z_53)), none, none, some (.val (xS v_55.1)), some (.val ((xV xI) v_55.2)), none, none, none, none, none]) (nx_set (ρ1 := [some (.io w_38.2), some (.val (xI ((2 : Int) + w_2.1))), some (.val ((xV (x3 xI xI xI)) s_20.2)), some (.val ((xL xI) w_6.1)), none, some (.val ((x2 xS (xV xI)) v_21)), some (.val (xI w_24.1)), some (.val ((xV xI) (v_21.2.map fun (x_25 : Int) => (x_25 + w_24.1)))), some (.val ((xV (x3 xI xI xI)) (s_20.2.map fun (x_26 : (Int × Int × Int)) => (x_26.2.1, x_26.1, x_26.2.2)))), some (.val ((xV xI) (v_21.2.map fun (x_27 : Int) => (-x_27)))), none, none, some (.val ((xL xI) (w_38.1.map fun (x_39 : Int) => x_39))), some (.val ((xL (x3 xI xI xI)) z_53)), none, none, some (.val (xS v_55.1)), some (.val ((xV xI) v_55.2)), none, none, none, none, none]) (d := (xL (x3 xI xI xI)) v_60) (ev_ifN (e := (xL (x3 xI xI xI))) (bv_e (ev_e2i (ev_v (d := xS v_55.1) rfl) (Ev.vw (ev_c (d := xS (tg "ring")))) (dEq_e xS (by decide) _ _))) (fun v hq => by obtain ⟨v_59, hv_59, hq⟩ := bx hq; have e := Option.some.inj hq; subst e; exact (ev_N (nv_compM (e := xI) (e' := (x3 xI xI xI)) (ρb := fun x_56 => [some (.io w_38.2), some (.val (xI ((2 : Int) + w_2.1))), some (.val ((xV (x3 xI xI xI)) s_20.2)), some (.val ((xL xI) w_6.1)), none, some (.val ((x2 xS (xV xI)) v_21)), some (.val (xI w_24.1)), some (.val ((xV xI) (v_21.2.map fun (x_25 : Int) => (x_25 + w_24.1)))), some (.val ((xV (x3 xI xI xI)) (s_20.2.map fun (x_26 : (Int × Int × Int)) => (x_26.2.1, x_26.1, x_26.2.2)))), some (.val ((xV xI) (v_21.2.map fun (x_27 : Int) => (-x_27)))), none, none, some (.val ((xL xI) (w_38.1.map fun (x_39 : Int) => x_39))), some (.val ((xL (x3 xI xI xI)) z_53)), none, none, some (.val (xS v_55.1)), some (.val ((xV xI) v_55.2)), none, none, none, some (.val (xI x_56)), none]) (iv_seq (ev_v (d := (xV xI) v_55.2) rfl) rfl) rfl (fun _ => rfl) (fun x_56 q hq => by have e := Option.some.inj hq; subst e; exact rfl) (fun x_56 y hq => by obtain ⟨v_57, hv_57, hq⟩ := bx hq; obtain ⟨v_58, hv_58, hq⟩ := bx hq; have e := Option.some.inj hq; subst e; exact (ev_e2i (ev_e2 (Ev.vw (ev_v (d := (xV (x3 xI xI xI)) s_20.2) rfl)) (Ev.vw (ev_call (Av.aw (av_cons (ev_v (d := (xL (x3 xI xI xI)) z_53) rfl) av_nil)) (tuple_L (x3 xI xI xI) _))) (catV_e hv_57)) (Ev.vw (ev_v (d := xI x_56) rfl)) (ixV_e (e := (x3 xI xI xI)) hv_58))) (fun _ => rfl) hv_59))) (fun v hq => by have e := Option.some.inj hq; subst e; exact (ev_N (nv_lst_e (av_nil_e (e := (x3 xI xI xI))) (small rfl)))) hv_60) rfl) ?_
        by_cases q_62 : ((decide (v_60 = [])) || (decide ((0 : Int) ≤ (List.sum (v_60.map fun (x_61 : (Int × Int × Int)) => x_61.2.2))))) = true
        · replace h := ift q_62 h
          refine go_stop (go_ift (Bv.t (bv_or (bv_e (ev_e2i (ev_v (d := (xL (x3 xI xI xI)) v_60) rfl) (Ev.vw (ev_N (nv_lst_e (av_nil_e (e := (x3 xI xI xI))) (small rfl)))) (dEq_e (xL (x3 xI xI xI)) (by decide) _ _))) (fun _ => (bv_e (ev_e2i (ev_call (Av.aw (av_cons (ev_N (nv_compA (e := (x3 xI xI xI)) (e' := xI) (k := fun (x_61 : (Int × Int × Int)) => x_61.2.2) (ρb := fun x_61 => [some (.io w_38.2), some (.val (xI ((2 : Int) + w_2.1))), some (.val ((xV (x3 xI xI xI)) s_20.2)), some (.val ((xL xI) w_6.1)), none, some (.val ((x2 xS (xV xI)) v_21)), some (.val (xI w_24.1)), some (.val ((xV xI) (v_21.2.map fun (x_25 : Int) => (x_25 + w_24.1)))), some (.val ((xV (x3 xI xI xI)) (s_20.2.map fun (x_26 : (Int × Int × Int)) => (x_26.2.1, x_26.1, x_26.2.2)))), some (.val ((xV xI) (v_21.2.map fun (x_27 : Int) => (-x_27)))), some (.val ((xL (x3 xI xI xI)) v_60)), none, some (.val ((xL xI) (w_38.1.map fun (x_39 : Int) => x_39))), some (.val ((xL (x3 xI xI xI)) z_53)), none, none, some (.val (xS v_55.1)), some (.val ((xV xI) v_55.2)), none, none, none, none, some (.val ((x3 xI xI xI) x_61))]) (iv_seq (ev_v (d := (xL (x3 xI xI xI)) v_60) rfl) rfl) rfl (fun _ => rfl) (fun x_61 => (ev_e2 (Ev.vw (ev_v (d := (x3 xI xI xI) x_61) rfl)) (Ev.vw (ev_c (d := xI 2))) (tix3_2 _))) (fun _ => rfl))) av_nil)) (sum_e _)) (Ev.vw (ev_c (d := xI 0))) (ge_i _ _))))) q_62) ?_)
          have e := Option.some.inj h; subst e; exact (go_ret (ρ1 := [some (.io w_38.2), some (.val (xI ((2 : Int) + w_2.1))), some (.val ((xV (x3 xI xI xI)) s_20.2)), some (.val ((xL xI) w_6.1)), none, some (.val ((x2 xS (xV xI)) v_21)), some (.val (xI w_24.1)), some (.val ((xV xI) (v_21.2.map fun (x_25 : Int) => (x_25 + w_24.1)))), some (.val ((xV (x3 xI xI xI)) (s_20.2.map fun (x_26 : (Int × Int × Int)) => (x_26.2.1, x_26.1, x_26.2.2)))), some (.val ((xV xI) (v_21.2.map fun (x_27 : Int) => (-x_27)))), some (.val ((xL (x3 xI xI xI)) v_60)), none, some (.val ((xL xI) (w_38.1.map fun (x_39 : Int) => x_39))), some (.val ((xL (x3 xI xI xI)) z_53)), none, none, some (.val (xS v_55.1)), some (.val ((xV xI) v_55.2)), none, none, none, none, none]) (ev_c (d := xB false)) rfl)
        · replace h := iff' q_62 h
          refine go_seq (nx_iff (Bv.f (bv_or (bv_e (ev_e2i (ev_v (d := (xL (x3 xI xI xI)) v_60) rfl) (Ev.vw (ev_N (nv_lst_e (av_nil_e (e := (x3 xI xI xI))) (small rfl)))) (dEq_e (xL (x3 xI xI xI)) (by decide) _ _))) (fun _ => (bv_e (ev_e2i (ev_call (Av.aw (av_cons (ev_N (nv_compA (e := (x3 xI xI xI)) (e' := xI) (k := fun (x_61 : (Int × Int × Int)) => x_61.2.2) (ρb := fun x_61 => [some (.io w_38.2), some (.val (xI ((2 : Int) + w_2.1))), some (.val ((xV (x3 xI xI xI)) s_20.2)), some (.val ((xL xI) w_6.1)), none, some (.val ((x2 xS (xV xI)) v_21)), some (.val (xI w_24.1)), some (.val ((xV xI) (v_21.2.map fun (x_25 : Int) => (x_25 + w_24.1)))), some (.val ((xV (x3 xI xI xI)) (s_20.2.map fun (x_26 : (Int × Int × Int)) => (x_26.2.1, x_26.1, x_26.2.2)))), some (.val ((xV xI) (v_21.2.map fun (x_27 : Int) => (-x_27)))), some (.val ((xL (x3 xI xI xI)) v_60)), none, some (.val ((xL xI) (w_38.1.map fun (x_39 : Int) => x_39))), some (.val ((xL (x3 xI xI xI)) z_53)), none, none, some (.val (xS v_55.1)), some (.val ((xV xI) v_55.2)), none, none, none, none, some (.val ((x3 xI xI xI) x_61))]) (iv_seq (ev_v (d := (xL (x3 xI xI xI)) v_60) rfl) rfl) rfl (fun _ => rfl) (fun x_61 => (ev_e2 (Ev.vw (ev_v (d := (x3 xI xI xI) x_61) rfl)) (Ev.vw (ev_c (d := xI 2))) (tix3_2 _))) (fun _ => rfl))) av_nil)) (sum_e _)) (Ev.vw (ev_c (d := xI 0))) (ge_i _ _))))) q_62) nx_nil) ?_
          obtain ⟨v_63, hv_63, h⟩ := bx h
          have e := Option.some.inj h; subst e; exact (go_ret (ρ1 := [some (.io w_38.2), some (.val (xI ((2 : Int) + w_2.1))), some (.val ((xV (x3 xI xI xI)) s_20.2)), some (.val ((xL xI) w_6.1)), none, some (.val ((x2 xS (xV xI)) v_21)), some (.val (xI w_24.1)), some (.val ((xV xI) (v_21.2.map fun (x_25 : Int) => (x_25 + w_24.1)))), some (.val ((xV (x3 xI xI xI)) (s_20.2.map fun (x_26 : (Int × Int × Int)) => (x_26.2.1, x_26.1, x_26.2.2)))), some (.val ((xV xI) (v_21.2.map fun (x_27 : Int) => (-x_27)))), some (.val ((xL (x3 xI xI xI)) v_60)), none, some (.val ((xL xI) (w_38.1.map fun (x_39 : Int) => x_39))), some (.val ((xL (x3 xI xI xI)) z_53)), none, none, some (.val (xS v_55.1)), some (.val ((xV xI) v_55.2)), none, none, none, none, none]) (ev_call (Av.aw (av_cons (ev_N (nv_compA (e := (x2 (x3 xI xI xI) (x3 xI xI xI))) (e' := xB) (k := fun (x_64 : ((Int × Int × Int) × (Int × Int × Int))) => (decide (x_64.1.2.1 = x_64.2.1))) (ρb := fun x_64 => [some (.io w_38.2), some (.val (xI ((2 : Int) + w_2.1))), some (.val ((xV (x3 xI xI xI)) s_20.2)), some (.val ((xL xI) w_6.1)), none, some (.val ((x2 xS (xV xI)) v_21)), some (.val (xI w_24.1)), some (.val ((xV xI) (v_21.2.map fun (x_25 : Int) => (x_25 + w_24.1)))), some (.val ((xV (x3 xI xI xI)) (s_20.2.map fun (x_26 : (Int × Int × Int)) => (x_26.2.1, x_26.1, x_26.2.2)))), some (.val ((xV xI) (v_21.2.map fun (x_27 : Int) => (-x_27)))), some (.val ((xL (x3 xI xI xI)) v_60)), none, some (.val ((xL xI) (w_38.1.map fun (x_39 : Int) => x_39))), some (.val ((xL (x3 xI xI xI)) z_53)), some (.val ((x3 xI xI xI) x_64.1)), some (.val ((x3 xI xI xI) x_64.2)), some (.val (xS v_55.1)), some (.val ((xV xI) v_55.2)), none, none, none, none, none]) (iv_zip (e := (x3 xI xI xI)) (e' := (x3 xI xI xI)) (av_cons (ev_v (d := (xL (x3 xI xI xI)) v_60) rfl) (av_cons (ev_e2 (Ev.vw (ev_sl (Ev.vw (ev_v (d := (xL (x3 xI xI xI)) v_60) rfl)) (os_of (ev_c (d := xI 1))) rfl (slL_e _ _ _ _))) (Ev.vw (ev_sl (Ev.vw (ev_v (d := (xL (x3 xI xI xI)) v_60) rfl)) rfl (os_of (ev_c (d := xI 1))) (slL_e _ _ _ _))) (catL_e hv_63)) av_nil)) rfl rfl) rfl (fun _ => rfl) (fun x_64 => (ev_e2i (ev_e2 (Ev.vw (ev_v (d := (x3 xI xI xI) x_64.1) rfl)) (Ev.vw (ev_c (d := xI 1))) (tix3_1 _)) (Ev.vw (ev_e2 (Ev.vw (ev_v (d := (x3 xI xI xI) x_64.2) rfl)) (Ev.vw (ev_c (d := xI 0))) (tix3_0 _))) (eq_i _ _))) (fun _ => rfl))) av_nil)) (all_e _)) rfl)
/-! _law_right -/
def n__law_right_l1 (x_4 : Int) (s_3 : Cel) : Option (Ctl (Cel) (Bool × Cel)) :=
  (n__law_letters_drawn s_3).bind fun w_5 => (n__law_are_letters_right w_5.1).bind fun v_6 => (orS (!v_6) w_5.2 ((n__law_are_spans_right w_5.2).bind fun w_7 => some ((!w_7.1), w_7.2))).bind fun w_8 => (if w_8.1 = true then some (.rt (false, w_8.2)) else (n__law_are_bounds_right w_8.2).bind fun w_10 => (if (!w_10.1) = true then some (.rt (false, w_10.2)) else some (.nx w_10.2)))
def n__law_right (C_1 : Cel) : Option (Bool × Cel) :=
  (range1 (8 : Int)).bind fun v_2 => (forR (n__law_right_l1) v_2 C_1).bind fun c_12 => (match c_12 with | .rt r_13 => some r_13 | .bk _ => none | .nx s_14 => some (true, s_14))
theorem l__law_right_l1  {x_4 : Int} {s_3 : Cel} {r : (Ctl (Cel) (Bool × Cel))} (h : n__law_right_l1 x_4 s_3 = some r) : ∃ ρ1, t__law_right_l1 (xI x_4) [some (.io s_3), none] = some ρ1 ∧ Go .body b__law_right_l1 ρ1 (Turn (σ := Cel) (fun s_3 => [some (.io s_3), none]) (fun r => xB r.1) (fun r => some r.2) r) := by
  unfold n__law_right_l1 at h; unfold b__law_right_l1
  refine ⟨[some (.io s_3), some (.val (xI x_4))], rfl, ?_⟩
  obtain ⟨w_5, hw_5, h⟩ := bx h
  obtain ⟨v_6, hv_6, h⟩ := bx h
  obtain ⟨w_8, hw_8, h⟩ := bx h
  by_cases q_9 : w_8.1 = true
  · replace h := ift q_9 h
    refine go_stop (go_ift (Bv.t (bv_orS (R := fun C => [some (.io C), some (.val (xI x_4))]) (bv_not (bv_e (ev_callPz (av_cons (ev_callI rfl av_nil rfl (c__law_letters_drawn hw_5)) av_nil) (c__law_are_letters_right hv_6)))) (fun w hq => by obtain ⟨w_7, hw_7, hq⟩ := bx hq; have e := Option.some.inj hq; subst e; exact (bv_not (bv_e (ev_callI rfl av_nil rfl (c__law_are_spans_right hw_7))))) hw_8) q_9) ?_)
    have e := Option.some.inj h; subst e; exact (go_ret (ρ1 := [some (.io w_8.2), some (.val (xI x_4))]) (ev_c (d := xB false)) rfl)
  · replace h := iff' q_9 h
    refine go_seq (nx_iff (Bv.f (bv_orS (R := fun C => [some (.io C), some (.val (xI x_4))]) (bv_not (bv_e (ev_callPz (av_cons (ev_callI rfl av_nil rfl (c__law_letters_drawn hw_5)) av_nil) (c__law_are_letters_right hv_6)))) (fun w hq => by obtain ⟨w_7, hw_7, hq⟩ := bx hq; have e := Option.some.inj hq; subst e; exact (bv_not (bv_e (ev_callI rfl av_nil rfl (c__law_are_spans_right hw_7))))) hw_8) q_9) nx_nil) ?_
    obtain ⟨w_10, hw_10, h⟩ := bx h
    by_cases q_11 : (!w_10.1) = true
    · replace h := ift q_11 h
      refine go_ift (Bv.t (bv_not (bv_e (ev_callI rfl av_nil rfl (c__law_are_bounds_right hw_10)))) q_11) ?_
      have e := Option.some.inj h; subst e; exact (go_ret (ρ1 := [some (.io w_10.2), some (.val (xI x_4))]) (ev_c (d := xB false)) rfl)
    · replace h := iff' q_11 h
      refine go_iff (Bv.f (bv_not (bv_e (ev_callI rfl av_nil rfl (c__law_are_bounds_right hw_10)))) q_11) ?_
      have e := Option.some.inj h; subst e; exact go_body (nx_wp (is := [1]) (ρ1 := [some (.io w_10.2), some (.val (xI x_4))]) nx_nil)
theorem c__law_right {C_1 : Cel} {r : Bool × Cel} (h : n__law_right C_1 = some r) : f__law_right C_1 [] = some (xB r.1, r.2) := by
  unfold n__law_right at h
  refine fi_rt rfl ?_
  show Go .top b__law_right [some (.io C_1), none] (.rt (xB r.1) (some r.2))
  unfold b__law_right
  obtain ⟨v_2, hv_2, h⟩ := bx h
  obtain ⟨c_12, hc_12, h⟩ := bx h
  cases c_12 with
  | rt r_13 =>
    have e := Option.some.inj h; subst e
    exact go_stop (rt_forR (rep := (fun s_3 => [some (.io s_3), none])) (e := xI) (s := C_1) (er := fun r => xB r.1) (ec := fun r => some r.2) (iv_wp (is := [1]) (ρ1 := [some (.io C_1), none]) (iv_range1 (av_cons (ev_c (d := xI 8)) av_nil) hv_2)) (fun _ _ _ h => l__law_right_l1 h) hc_12)
  | bk _ =>
    exact (no_forR hc_12).elim
  | nx s_14 =>
    refine go_seq (ρ1 := [some (.io s_14), none]) (nx_forR (rep := (fun s_3 => [some (.io s_3), none])) (e := xI) (s := C_1) (er := fun r => xB r.1) (ec := fun r => some r.2) (iv_wp (is := [1]) (ρ1 := [some (.io C_1), none]) (iv_range1 (av_cons (ev_c (d := xI 8)) av_nil) hv_2)) (fun _ _ _ h => l__law_right_l1 h) hc_12) ?_
    have e := Option.some.inj h; subst e; exact (go_ret (ρ1 := [some (.io s_14), none]) (ev_c (d := xB true)) rfl)
/-! _law_pot -/
def n__law_pot (a0 : (List Int)) (a1 : Int) : Option ((List D)) := match f__law_pot [(xL xI) a0, xI a1] with
  | some (.list v) => some v
  | _ => none
theorem c__law_pot {a0 : (List Int)} {a1 : Int} {r : (List D)} (h : n__law_pot a0 a1 = some r) : f__law_pot [(xL xI) a0, xI a1] = some (xL xD r) := by
  unfold n__law_pot at h
  split at h
  · rename_i q; cases h; rw [q]; unfold xL xD; rw [List.map_id']
  · cases h
/-! law -/
def n_law (script_1 : (List Int)) : Option (Bool) :=
  (n__law_cells script_1 (3 : Int)).bind fun v_2 => (compN (fun (x_3 : Int) => some true) (fun (x_3 : Int) => (n__law_pot script_1 x_3).bind fun v_4 => (n__law_right (.l (v_4.map xD))).bind fun w_5 => some w_5.1) v_2).bind fun v_6 => some (v_6.all id)
theorem c_law {script_1 : (List Int)} {r : Bool} (h : n_law script_1 = some r) : f_law [(xL xI) script_1] = some (xB r) := by
  unfold n_law at h
  refine fn_rt rfl ?_
  show Go .top b_law [some (.val ((xL xI) script_1)), none] (.rt (xB r) none)
  unfold b_law
  obtain ⟨v_2, hv_2, h⟩ := bx h
  obtain ⟨v_6, hv_6, h⟩ := bx h
  have e := Option.some.inj h; subst e; exact (go_ret (ρ1 := [some (.val ((xL xI) script_1)), none]) (ev_call (Av.aw (av_cons (ev_N (nv_compM (e := xI) (e' := xB) (ρb := fun x_3 => [some (.val ((xL xI) script_1)), some (.val (xI x_3))]) (iv_seq (ev_callPz (av_cons (ev_v (d := (xL xI) script_1) rfl) (av_cons (ev_c (d := xI 3)) av_nil)) (c__law_cells hv_2)) rfl) rfl (fun _ => rfl) (fun x_3 q hq => by have e := Option.some.inj hq; subst e; exact rfl) (fun x_3 y hq => by obtain ⟨v_4, hv_4, hq⟩ := bx hq; obtain ⟨w_5, hw_5, hq⟩ := bx hq; have e := Option.some.inj hq; subst e; exact (ev_callN (nv_callPz (av_cons (ev_v (d := (xL xI) script_1) rfl) (av_cons (ev_v (d := xI x_3) rfl) av_nil)) (c__law_pot hv_4)) av_nil (c__law_right hw_5))) (fun _ => rfl) hv_6)) av_nil)) (all_e _)) trivial)
end
end Wk
set_option Elab.async false
set_option linter.all false
set_option maxRecDepth 100000
set_option maxHeartbeats 1000000
/-! plain facts about plain programs, of no law -/
namespace L3
open PySem PySem.W
variable {α β γ δ ε σ τ κ : Type}
/-- as a rewriting, never by computing -/
theorem obs (a : α) (f : α → Option β) : (some a).bind f = f a := Eq.trans (b := f a) rfl rfl
theorem sz64 : 64 ≤ sizeLine := by decide
theorem szM : 1000000 ≤ sizeLine := by decide
/-! loops -/
theorem forN_inv {k : α → σ → Option σ} (I : Nat → σ → Prop) : ∀ {xs : List α} {s : σ} (n : Nat), I n s → (∀ i x s, xs[i]? = some x → I (n + i) s → ∃ s', k x s = some s' ∧ I (n + i + 1) s') → ∃ s', forN k xs s = some s' ∧ I (n + xs.length) s'
  | [], s, n, h0, _ => ⟨s, rfl, h0⟩
  | x :: xs, s, n, h0, hs => by
    obtain ⟨s1, h1, h2⟩ := hs 0 x s rfl h0
    obtain ⟨s2, h3, h4⟩ := forN_inv (k := k) I (xs := xs) (s := s1) (n + 1) h2 fun i y s' hy hi => by
      have := hs (i + 1) y s' (by simpa using hy) (by rw [show n + (i + 1) = n + 1 + i by omega]; exact hi)
      rw [show n + (i + 1) + 1 = n + 1 + i + 1 by omega] at this
      exact this
    refine ⟨s2, ?_, by rw [List.length_cons, show n + (xs.length + 1) = n + 1 + xs.length by omega]; exact h4⟩
    unfold forN; rw [h1]; exact h3
/-- an invariant that does not look at the place -/
theorem forN_mem {k : α → σ → Option σ} (I : σ → Prop) : ∀ {xs : List α} {s : σ}, I s → (∀ x s, x ∈ xs → I s → ∃ s', k x s = some s' ∧ I s') → ∃ s', forN k xs s = some s' ∧ I s'
  | [], s, h0, _ => ⟨s, rfl, h0⟩
  | x :: xs, s, h0, hs => by
    obtain ⟨s1, h1, h2⟩ := hs x s (List.mem_cons_self ..) h0
    obtain ⟨s2, h3, h4⟩ := forN_mem (k := k) I (xs := xs) (s := s1) h2 fun y s' hy hi => hs y s' (List.mem_cons_of_mem _ hy) hi
    exact ⟨s2, by unfold forN; rw [h1]; exact h3, h4⟩
/-- by what is done and what is left -/
theorem forN_split {k : α → σ → Option σ} (I : List α → List α → σ → Prop) : ∀ {ys xs : List α} {s : σ}, I xs ys s → (∀ xs x ys s, I xs (x :: ys) s → ∃ s', k x s = some s' ∧ I (xs ++ [x]) ys s') → ∃ s', forN k ys s = some s' ∧ I (xs ++ ys) [] s'
  | [], xs, s, h0, _ => ⟨s, rfl, by rw [List.append_nil]; exact h0⟩
  | y :: ys, xs, s, h0, hs => by
    obtain ⟨s1, h1, h2⟩ := hs xs y ys s h0
    obtain ⟨s2, h3, h4⟩ := forN_split (k := k) I (ys := ys) (xs := xs ++ [y]) (s := s1) h2 hs
    exact ⟨s2, by unfold forN; rw [h1]; exact h3, by rw [List.append_assoc] at h4; exact h4⟩
theorem forN_fold {k : α → σ → Option σ} {g : σ → α → σ} : ∀ {xs : List α} {s : σ}, (∀ x s, x ∈ xs → k x s = some (g s x)) → forN k xs s = some (xs.foldl g s)
  | [], s, _ => rfl
  | x :: xs, s, h => by unfold forN; rw [h x s (List.mem_cons_self ..)]; exact forN_fold fun y s hy => h y s (List.mem_cons_of_mem _ hy)
theorem forN_append {k : α → σ → Option σ} : ∀ {xs ys : List α} {s : σ}, forN k (xs ++ ys) s = (forN k xs s).bind fun s' => forN k ys s'
  | [], ys, s => rfl
  | x :: xs, ys, s => by
    show ((k x s).bind fun s' => forN k (xs ++ ys) s') = ((k x s).bind fun s' => forN k xs s').bind fun s' => forN k ys s'
    cases k x s with
    | none => rfl
    | some s1 => exact forN_append
theorem forN_unit {k : α → Unit → Option Unit} {xs : List α} (h : ∀ x ∈ xs, k x () = some ()) : forN k xs () = some () := by
  have := forN_fold (k := k) (g := fun _ _ => ()) (xs := xs) (s := ()) fun x _ hx => h x hx
  rw [this]
/-- no turn hands back -/
theorem forR_mem {k : α → σ → Option (Ctl σ β)} (I : σ → Prop) : ∀ {xs : List α} {s : σ}, I s → (∀ x s, x ∈ xs → I s → ∃ s', k x s = some (.nx s') ∧ I s') → ∃ s', forR k xs s = some (.nx s') ∧ I s'
  | [], s, h0, _ => ⟨s, rfl, h0⟩
  | x :: xs, s, h0, hs => by
    obtain ⟨s1, h1, h2⟩ := hs x s (List.mem_cons_self ..) h0
    obtain ⟨s2, h3, h4⟩ := forR_mem (k := k) I (xs := xs) (s := s1) h2 fun y s' hy hi => hs y s' (List.mem_cons_of_mem _ hy) hi
    exact ⟨s2, by unfold forR; rw [h1]; exact h3, h4⟩
theorem forR_inv {k : α → σ → Option (Ctl σ β)} (I : Nat → σ → Prop) : ∀ {xs : List α} {s : σ} (n : Nat), I n s → (∀ i x s, xs[i]? = some x → I (n + i) s → ∃ s', k x s = some (.nx s') ∧ I (n + i + 1) s') → ∃ s', forR k xs s = some (.nx s') ∧ I (n + xs.length) s'
  | [], s, n, h0, _ => ⟨s, rfl, h0⟩
  | x :: xs, s, n, h0, hs => by
    obtain ⟨s1, h1, h2⟩ := hs 0 x s rfl h0
    obtain ⟨s2, h3, h4⟩ := forR_inv (k := k) I (xs := xs) (s := s1) (n + 1) h2 fun i y s' hy hi => by
      have := hs (i + 1) y s' (by simpa using hy) (by rw [show n + (i + 1) = n + 1 + i by omega]; exact hi)
      rw [show n + (i + 1) + 1 = n + 1 + i + 1 by omega] at this
      exact this
    refine ⟨s2, ?_, by rw [List.length_cons, show n + (xs.length + 1) = n + 1 + xs.length by omega]; exact h4⟩
    unfold forR; rw [h1]; exact h3
theorem forR_unit {k : α → Unit → Option (Ctl Unit β)} {xs : List α} (h : ∀ x ∈ xs, k x () = some (.nx ())) : forR k xs () = some (.nx ()) := by
  obtain ⟨s, hs, _⟩ := forR_mem (k := k) (fun _ => True) (xs := xs) (s := ()) trivial fun x _ hx _ => ⟨(), h x hx, trivial⟩
  exact hs
theorem compN_ok {p : α → Option Bool} {k : α → Option β} {P : α → Bool} {f : α → β} : ∀ {xs : List α}, (∀ x ∈ xs, p x = some (P x)) → (∀ x ∈ xs, P x = true → k x = some (f x)) → compN p k xs = some ((xs.filter P).map f)
  | [], _, _ => rfl
  | x :: xs, h1, h2 => by
    have ih := compN_ok (p := p) (k := k) (P := P) (f := f) (xs := xs) (fun y hy => h1 y (List.mem_cons_of_mem _ hy)) fun y hy => h2 y (List.mem_cons_of_mem _ hy)
    unfold compN
    rw [h1 x (List.mem_cons_self ..)]
    show (if P x = true then _ else _) = _
    by_cases q : P x = true
    · rw [if_pos q, h2 x (List.mem_cons_self ..) q, List.filter_cons_of_pos q]
      show (compN p k xs).bind _ = _
      rw [ih]; rfl
    · rw [if_neg q, ih, List.filter_cons_of_neg q]
theorem compN_map {k : α → Option β} {f : α → β} {xs : List α} (h : ∀ x ∈ xs, k x = some (f x)) : compN (fun _ => some true) k xs = some (xs.map f) := by
  rw [compN_ok (P := fun _ => true) (f := f) (fun _ _ => rfl) fun x hx _ => h x hx, List.filter_eq_self.mpr fun _ _ => rfl]
/-- draws for the items of a list -/
theorem compS_inv {k : α → κ → Option (β × κ)} (I : Nat → κ → Prop) (Q : α → β → Prop) : ∀ {xs : List α} {C : κ} (n : Nat), I n C → (∀ i x C, x ∈ xs → i < n + xs.length → I i C → ∃ w, k x C = some w ∧ Q x w.1 ∧ I (i + 1) w.2) → ∃ w, compS k xs C = some w ∧ w.1.length = xs.length ∧ (∀ y ∈ w.1, ∃ x ∈ xs, Q x y) ∧ I (n + xs.length) w.2
  | [], C, n, h0, _ => ⟨([], C), rfl, rfl, fun _ h => by simp at h, h0⟩
  | x :: xs, C, n, h0, hs => by
    obtain ⟨w, h1, h2, h3⟩ := hs n x C (List.mem_cons_self ..) (by simp) h0
    obtain ⟨v, h4, h5, h6, h7⟩ := compS_inv (k := k) I Q (xs := xs) (C := w.2) (n + 1) h3 fun i y C' hy hi hI => hs i y C' (List.mem_cons_of_mem _ hy) (by rw [List.length_cons]; omega) hI
    refine ⟨(w.1 :: v.1, v.2), ?_, by simp [h5], fun y hy => ?_, by rw [List.length_cons, show n + (xs.length + 1) = n + 1 + xs.length by omega]; exact h7⟩
    · unfold compS; rw [h1]; show (compS k xs w.2).bind _ = _; rw [h4]; rfl
    · rcases List.mem_cons.mp hy with rfl | hy
      · exact ⟨x, List.mem_cons_self .., h2⟩
      · obtain ⟨z, hz, q⟩ := h6 y hy
        exact ⟨z, List.mem_cons_of_mem _ hz, q⟩
/-! while: by a measure -/
theorem whR_inv {k : σ → Option (Ctl σ β)} (I : σ → Prop) (μ : σ → Nat) (Q : Ctl σ β → Prop) (h : ∀ s, I s → ∃ c, k s = some c ∧ match c with | .nx s' => I s' ∧ μ s' < μ s | .bk s' => Q (.nx s') | .rt r => Q (.rt r)) : ∀ (n : Nat) (s : σ), μ s ≤ n → I s → ∃ c, whR k s = some c ∧ Q c
  | n, s, hn, hi => by
    obtain ⟨c, h1, h2⟩ := h s hi
    rw [whR_step, h1]
    cases c with
    | nx s' =>
      cases n with
      | zero => exact absurd h2.2 (by omega)
      | succ n => exact whR_inv I μ Q h n s' (by have := h2.2; omega) h2.1
    | bk s' => exact ⟨_, rfl, h2⟩
    | rt r => exact ⟨_, rfl, h2⟩
/-! places -/
theorem getI_nat {xs : List α} {j : Nat} {a : α} (h : xs[j]? = some a) : getI xs (j : Int) = some a := L2.atI_nat h
theorem getI_int {xs : List α} {i : Int} (h0 : 0 ≤ i) (h : i.toNat < xs.length) : getI xs i = some xs[i.toNat] := by
  have := getI_nat (xs := xs) (j := i.toNat) (List.getElem?_eq_getElem h)
  rwa [show ((i.toNat : Nat) : Int) = i by omega] at this
theorem ixN_nat {n j : Nat} (h : j < n) : L2.ixN n (j : Int) = some j := by
  unfold L2.ixN
  rw [if_pos (by omega), if_pos (by omega)]; simp
theorem setI_nat {xs : List α} {j : Nat} {a : α} (h : j < xs.length) : setI xs (j : Int) a = some (xs.set j a) := by unfold setI; rw [ixN_nat h]; rfl
theorem setI_int {xs : List α} {i : Int} {a : α} (h0 : 0 ≤ i) (h : i.toNat < xs.length) : setI xs i a = some (xs.set i.toNat a) := by
  have := setI_nat (xs := xs) (j := i.toNat) (a := a) h
  rwa [show ((i.toNat : Nat) : Int) = i by omega] at this
theorem getI_last {xs : List α} {a : α} : getI (xs ++ [a]) (-1) = some a := L2.atI_last xs a
theorem appN_ok {xs : List α} {a : α} (h : xs.length < sizeLine) : appN xs a = some (xs ++ [a]) := if_pos h
theorem extN_ok {xs ys : List α} (h : xs.length + ys.length ≤ sizeLine) : extN xs ys = some (xs ++ ys) := if_pos h
theorem catN_ok {xs ys : List α} (h : xs.length + ys.length ≤ sizeLine) : catN xs ys = some (xs ++ ys) := if_pos h
theorem fitN_ok {xs : List α} (h : xs.length ≤ sizeLine) : fitN xs = some () := if_pos h
theorem range1_ok {j : Int} (h : j.toNat ≤ sizeLine) (h' : -(2 ^ 62) ≤ j) : range1 j = some (rangeI 0 j.toNat) := if_pos ⟨h, h'⟩
theorem lrange1_ok {j : Int} (h0 : 0 ≤ j) (h : j ≤ 2 ^ 24) : lrange1 j = some (rangeI 0 j.toNat) := by
  unfold lrange1 rgOk
  rw [if_pos (decide_eq_true ⟨by decide, by decide, by omega, by omega, by omega⟩)]
theorem rangeI_len (a : Int) (n : Nat) : (rangeI a n).length = n := by unfold rangeI; simp
theorem mem_rangeI {a x : Int} {n : Nat} : x ∈ rangeI a n ↔ a ≤ x ∧ x < a + n := by
  unfold rangeI
  rw [List.mem_map]
  constructor
  · rintro ⟨i, hi, rfl⟩
    have := List.mem_range.mp hi
    omega
  · intro h
    exact ⟨(x - a).toNat, List.mem_range.mpr (by omega), by omega⟩
theorem repN_ok {a : α} {k : Int} (h0 : 0 ≤ k) (h : k.toNat ≤ sizeLine) (hk : k < 2 ^ 63) : repN [a] k = some (List.replicate k.toNat a) := by
  unfold repN
  rw [if_pos ⟨by omega, hk, by simpa using h⟩]
  unfold repL
  congr 1
  induction k.toNat with
  | zero => rfl
  | succ n ih => rw [List.replicate_succ, List.flatten_cons, ih, List.replicate_succ]; rfl
/-! numbers -/
theorem log_le {n k : Nat} (h : n < 2 ^ k) : n.log2 ≤ k := by
  by_cases q : n = 0
  · subst q; simp
  · exact Nat.le_of_lt ((Nat.log2_lt q).mpr h)
theorem mulN_ok {i j : Int} (h1 : i.natAbs < 2 ^ 4000) (h2 : j.natAbs < 2 ^ 4000) : mulN i j = some (i * j) := by
  have a := log_le h1
  have b := log_le h2
  exact if_pos (by omega)
theorem fdivN_ok {i j : Int} (h0 : 0 < j) (h2 : j.natAbs < 2 ^ 4000) : fdivN i j = some (i / j) := by
  have b := log_le h2
  exact if_pos ⟨h0, by omega⟩
theorem modN_ok {i j : Int} (h0 : 0 < j) : modN i j = some (i % j) := if_pos h0
theorem ltE_i (a b : Int) : ltE xI a b = decide (a < b) := dataLt_int a b
theorem maxE_i : ∀ {xs : List Int}, xs ≠ [] → ∃ m, maxE xI xs = some m ∧ m ∈ xs ∧ ∀ x ∈ xs, x ≤ m
  | [], h => absurd rfl h
  | x :: xs, _ => by
    refine ⟨_, rfl, ?_⟩
    induction xs generalizing x with
    | nil => simp
    | cons y xs ih =>
      rw [List.foldl_cons]
      have hs : (if ltE xI x y = true then y else x) = max x y := by
        rw [ltE_i]
        by_cases q : x < y
        · rw [if_pos (decide_eq_true q)]; omega
        · rw [if_neg (by simpa using q)]; omega
      rw [hs]
      obtain ⟨h1, h2⟩ := ih (max x y) (by simp)
      refine ⟨?_, fun z hz => ?_⟩
      · rcases List.mem_cons.mp h1 with h1 | h1
        · rw [h1]
          rcases Int.le_total x y with q | q
          · rw [Int.max_eq_right q]; simp
          · rw [Int.max_eq_left q]; simp
        · simp [h1]
      · have hm := h2 (max x y) (List.mem_cons_self ..)
        rcases List.mem_cons.mp hz with rfl | hz
        · omega
        · rcases List.mem_cons.mp hz with rfl | hz
          · omega
          · exact h2 z (List.mem_cons_of_mem _ hz)
theorem minE_i : ∀ {xs : List Int}, xs ≠ [] → ∃ m, minE xI xs = some m ∧ m ∈ xs ∧ ∀ x ∈ xs, m ≤ x
  | [], h => absurd rfl h
  | x :: xs, _ => by
    refine ⟨_, rfl, ?_⟩
    induction xs generalizing x with
    | nil => simp
    | cons y xs ih =>
      rw [List.foldl_cons]
      have hs : (if ltE xI y x = true then y else x) = min x y := by
        rw [ltE_i]
        by_cases q : y < x
        · rw [if_pos (decide_eq_true q)]; omega
        · rw [if_neg (by simpa using q)]; omega
      rw [hs]
      obtain ⟨h1, h2⟩ := ih (min x y) (by simp)
      refine ⟨?_, fun z hz => ?_⟩
      · rcases List.mem_cons.mp h1 with h1 | h1
        · rw [h1]
          rcases Int.le_total x y with q | q
          · rw [Int.min_eq_left q]; simp
          · rw [Int.min_eq_right q]; simp
        · simp [h1]
      · have hm := h2 (min x y) (List.mem_cons_self ..)
        rcases List.mem_cons.mp hz with rfl | hz
        · omega
        · rcases List.mem_cons.mp hz with rfl | hz
          · omega
          · exact h2 z (List.mem_cons_of_mem _ hz)
theorem indexN_some [DecidableEq α] {xs : List α} {a : α} (h : a ∈ xs) : ∃ j, indexN xs a = some j := by
  unfold indexN
  cases q : xs.findIdx? fun z => decide (z = a) with
  | none =>
    rw [List.findIdx?_eq_none_iff] at q
    have := q a h
    simp at this
  | some j => exact ⟨j, rfl⟩
theorem cut_from (xs : List α) (j : Nat) : cut xs (some (j : Int)) none = xs.drop j := by
  unfold cut
  rw [show HT.sIx xs.length 0 (some (j : Int)) = min j xs.length from HT.sIx_nat _ _ j, HT.sIx_none]
  rcases Nat.le_total j xs.length with h | h
  · rw [Nat.min_eq_left h, List.take_of_length_le (by rw [List.length_drop]; exact Nat.le_refl _)]
  · rw [Nat.min_eq_right h, List.drop_of_length_le (Nat.le_refl _), List.drop_of_length_le h, List.take_nil]
theorem cut_to (xs : List α) (j : Nat) : cut xs none (some (j : Int)) = xs.take j := by
  unfold cut
  rw [HT.sIx_none, show HT.sIx xs.length xs.length (some (j : Int)) = min j xs.length from HT.sIx_nat _ _ j]
  show xs.take _ = _
  rcases Nat.le_total j xs.length with h | h
  · rw [Nat.min_eq_left h]; rfl
  · rw [Nat.min_eq_right h, List.take_of_length_le h]
    exact List.take_of_length_le (Nat.le_refl _)
theorem sortE_perm (e : α → D) (xs : List α) : (sortE e xs).Perm xs := List.mergeSort_perm _ _
theorem mem_enumI {i : Nat} {x : Int × α} : ∀ {xs : List α} {k : Nat}, x ∈ enumI k xs → ∃ j, x.1 = ((k + j : Nat) : Int) ∧ xs[j]? = some x.2
  | [], _, h => by cases h
  | y :: xs, k, h => by
    rcases List.mem_cons.mp h with rfl | h
    · exact ⟨0, rfl, rfl⟩
    · obtain ⟨j, h1, h2⟩ := mem_enumI (i := i) h
      exact ⟨j + 1, by rw [h1]; congr 1; omega, h2⟩
theorem enumI_get : ∀ {xs : List α} {k i : Nat}, (enumI k xs)[i]? = xs[i]?.map fun a => (((k + i : Nat) : Int), a)
  | [], _, _ => by simp [enumI]
  | x :: xs, k, 0 => by simp [enumI]
  | x :: xs, k, i + 1 => by
    show (enumI (k + 1) xs)[i]? = _
    rw [enumI_get, List.getElem?_cons_succ]
    congr 1; funext a; rw [show k + 1 + i = k + (i + 1) by omega]
theorem enumI_len (xs : List α) (k : Nat) : (enumI k xs).length = xs.length := by
  induction xs generalizing k with
  | nil => rfl
  | cons x xs ih => show (enumI (k + 1) xs).length + 1 = _; rw [ih]; rfl
end L3
set_option Elab.async false
set_option linter.all false
set_option maxRecDepth 100000
set_option maxHeartbeats 4000000
set_option exponentiation.threshold 2000
/-! the draws: what _law_pot, _law_take, _law_of, _law_cells do -/
namespace Wk
open PySem PySem.W L3
noncomputable section
theorem eIf_t {t : B} {a b : E} {ρ ρ1 : Rho} {r : Option (Opd × Rho)} (h : t ρ = some (true, ρ1)) (h' : a ρ1 = r) : eIf t a b ρ = r := by unfold eIf; rw [h]; exact h'
theorem eIf_f {t : B} {a b : E} {ρ ρ1 : Rho} {r : Option (Opd × Rho)} (h : t ρ = some (false, ρ1)) (h' : b ρ1 = r) : eIf t a b ρ = r := by unfold eIf; rw [h]; exact h'
/-! the pot -/
theorem log_small {n : Nat} (h : n < 2 ^ 1000) : n.log2 < 1000 := by
  by_cases q : n = 0
  · subst q; decide
  · exact (Nat.log2_lt q).mpr h
theorem dMul_ok {i j : Int} (h1 : i.natAbs < 2 ^ 1000) (h2 : j.natAbs < 2 ^ 1000) : dMul (.int i) (.int j) = some (.int (i * j)) := by
  have a := log_small h1
  have b := log_small h2
  exact if_pos (by omega)
theorem dFdiv_ok {i j : Int} (h0 : 0 < j) (h2 : j.natAbs < 2 ^ 1000) : dFdiv (.int i) (.int j) = some (.int (i / j)) := by
  have b := log_small h2
  exact if_pos ⟨h0, by omega⟩
theorem dMod_ok {i j : Int} (h0 : 0 < j) : dMod (.int i) (.int j) = some (.int (i % j)) := if_pos h0
theorem dPow3_ok {i : Int} (h1 : i.natAbs < 2 ^ 1000) : dPow (.int i) (.int 3) = some (.int (i ^ 3)) := by
  have a := log_small h1
  refine (if_pos ⟨by decide, ?_⟩ : (if 0 ≤ (3 : Int) ∧ ((i.natAbs.log2 + 1 : Nat) : Int) * 3 ≤ 134217728 then some (PyData.int (i ^ (3 : Int).toNat)) else none) = _)
  omega
theorem sm {i : Int} {k : Nat} (h : i.natAbs ≤ k) (hk : k < 2 ^ 1000) : i.natAbs < 2 ^ 1000 := Nat.lt_of_le_of_lt h hk
theorem put_of {i : Nat} {f g : E} {ρ ρ1 ρ2 : Rho} {d : D} {k : Int} {ds ds0 : List D} {j : Nat} (hf : f ρ = some (.fz d, ρ1)) (h0 : celAt ρ1 i = some (.l ds0)) (hg : g ρ1 = some (.fz (.int k), ρ2)) (hc : celAt ρ2 i = some (.l ds)) (hj : L2.ixN ds.length k = some j) : sPut i f g ρ = some (.nx, putAt ρ2 i (.l (ds.set j d))) := by
  unfold sPut
  rw [hf]
  show (match celAt ρ1 i with
    | some (.l _) => (g ρ1).bind fun q => match q.1, celAt q.2 i with
      | .fz (.int k), some (.l ds) => (L2.ixN ds.length k).bind fun j => some (Fl.nx, putAt q.2 i (.l (ds.set j d)))
      | _, _ => none
    | _ => none) = _
  rw [h0]
  show (g ρ1).bind _ = _
  rw [hg]
  show (match Opd.fz (.int k), celAt ρ2 i with
      | .fz (.int k), some (.l ds) => (L2.ixN ds.length k).bind fun j => some (Fl.nx, putAt ρ2 i (.l (ds.set j d)))
      | _, _ => none) = _
  rw [hc]
  show (L2.ixN ds.length k).bind _ = _
  rw [hj]; rfl
/-- n draws at most so far -/
structure Pot (n : Nat) (C : Cel) : Prop where
  ex : ∃ o s c : Int, C = .l [.int o, .int s, .int c] ∧ 0 ≤ o ∧ 0 ≤ s ∧ s ≤ 2305843009213693951 ∧ 0 ≤ c ∧ c ≤ n
theorem Pot.mono {n m : Nat} {C : Cel} (h : Pot n C) (hm : n ≤ m) : Pot m C := by
  obtain ⟨o, s, c, e, h1, h2, h3, h4, h5⟩ := h.ex
  exact ⟨o, s, c, e, h1, h2, h3, h4, by omega⟩
abbrev Tk (C : List D) (up : Int) (x2 x3 x4 : Option D) : Rho := [some (.io (.l C)), some (.val (.int up)), x2.map .val, x3.map .val, x4.map .val]
theorem primes {k : Int} (h0 : 0 ≤ k) (h5 : k < 5) : ∃ p : Int, 0 < p ∧ p ≤ 2147483647 ∧ dIx (.list [.int 2147483647, .int 2147483629, .int 2147483587, .int 2147483579, .int 2147483563]) (.int k) = some (.int p) := by
  have : k = 0 ∨ k = 1 ∨ k = 2 ∨ k = 3 ∨ k = 4 := by omega
  rcases this with rfl | rfl | rfl | rfl | rfl
  · exact ⟨2147483647, by decide, by decide, rfl⟩
  · exact ⟨2147483629, by decide, by decide, rfl⟩
  · exact ⟨2147483587, by decide, by decide, rfl⟩
  · exact ⟨2147483579, by decide, by decide, rfl⟩
  · exact ⟨2147483563, by decide, by decide, rfl⟩
theorem take_ev {n : Nat} {C : Cel} (hp : Pot n C) (hn : n ≤ 1000000) {up : Int} (h1 : 1 ≤ up) (h2 : up ≤ 1000000000000) : ∃ d C', f__law_take C [.int up] = some (.int d, C') ∧ 0 ≤ d ∧ d < up ∧ Pot (n + 1) C' := by
  obtain ⟨o, s, c, rfl, a1, a2, a3, a4, a5⟩ := hp.ex
  have ix0 : ∀ (p q r : Int) (x2 x3 x4 : Option D), e2 dIx (eVar 0) (eC (.int 0)) (Tk [.int p, .int q, .int r] up x2 x3 x4) = some (.fz (.int p), Tk [.int p, .int q, .int r] up x2 x3 x4) := fun p q r x2 x3 x4 => e2_of (o := .sl 0) (p := .fz (.int 0)) (x := .list [.int p, .int q, .int r]) rfl rfl rfl rfl (ixL30 _ _ _)
  have ix1 : ∀ (p q r : Int) (x2 x3 x4 : Option D), e2 dIx (eVar 0) (eC (.int 1)) (Tk [.int p, .int q, .int r] up x2 x3 x4) = some (.fz (.int q), Tk [.int p, .int q, .int r] up x2 x3 x4) := fun p q r x2 x3 x4 => e2_of (o := .sl 0) (p := .fz (.int 1)) (x := .list [.int p, .int q, .int r]) rfl rfl rfl rfl (ixL31 _ _ _)
  have ix2 : ∀ (p q r : Int) (x2 x3 x4 : Option D), e2 dIx (eVar 0) (eC (.int 2)) (Tk [.int p, .int q, .int r] up x2 x3 x4) = some (.fz (.int r), Tk [.int p, .int q, .int r] up x2 x3 x4) := fun p q r x2 x3 x4 => e2_of (o := .sl 0) (p := .fz (.int 2)) (x := .list [.int p, .int q, .int r]) rfl rfl rfl rfl (ixL32 _ _ _)
  have toInt : ∀ {f : E} {ρ ρ1 : Rho} {i : Int}, f ρ = some (.fz (.int i), ρ1) → eCall dInt (aCons f aNil) ρ = some (.fz (.int i), ρ1) := fun {f ρ ρ1 i} hf => call_of (os := [.fz (.int i)]) (cons_of hf rfl) rfl rfl
  have upS : up.natAbs < 2 ^ 1000 := sm (k := 1000000000000) (by omega) (by decide)
  by_cases q : 0 < o
  · have hd : 0 ≤ o % up ∧ o % up < up := ⟨Int.emod_nonneg _ (by omega), Int.emod_lt_of_pos _ (by omega)⟩
    refine ⟨o % up, .l [.int (o / up), .int s, .int c], ?_, hd.1, hd.2, ⟨o / up, s, c, rfl, Int.ediv_nonneg a1 (by omega), a2, a3, a4, by omega⟩⟩
    refine fnI_of (fl := .rt (.int (o % up))) (ρ := Tk [.int (o / up), .int s, .int c] up none none (some (.int (o % up)))) rfl ?_ rfl rfl
    refine seq_rt (if_t (bE_of (e2_fz (ix0 o s c none none none) rfl ((dGt_int _ _).trans (by rw [decide_eq_true q])))) ?_)
    refine seq_nx (set_E (i := 4) (e2_fz (toInt (ix0 o s c none none none)) rfl (dMod_ok (by omega))) rfl) ?_
    refine seq_nx (ρ1 := Tk [.int (o / up), .int s, .int c] up none none (some (.int (o % up)))) ?_ rfl
    exact put_of (i := 0) (ρ := Tk [.int o, .int s, .int c] up none none (some (.int (o % up)))) (ρ1 := Tk [.int o, .int s, .int c] up none none (some (.int (o % up)))) (ρ2 := Tk [.int o, .int s, .int c] up none none (some (.int (o % up)))) (k := 0) (j := 0) (e2_fz (ix0 o s c none none _) rfl (dFdiv_ok (by omega) upS)) rfl rfl rfl rfl
  · have e0 : o = 0 := by omega
    subst e0
    have c5 : 0 ≤ (c + 1) % 5 ∧ (c + 1) % 5 < 5 := ⟨Int.emod_nonneg _ (by decide), Int.emod_lt_of_pos _ (by decide)⟩
    obtain ⟨p, p0, p1, pe⟩ := primes c5.1 c5.2
    -- the numbers
    have cc : (c + 1).natAbs ≤ 1000001 := by omega
    have b1 : ∀ (b : Int), 0 ≤ b → b < p → True := fun _ _ _ => trivial
    generalize hw : s + 101807 * (c + 1) * (c + 1) + 3793 = w
    have m1 : 101807 * (c + 1) ≤ 101807 * 1000001 := by omega
    have m0 : 0 ≤ 101807 * (c + 1) := by omega
    have m2 : 101807 * (c + 1) * (c + 1) ≤ 101807 * 1000001 * 1000001 := Int.mul_le_mul m1 (by omega) (by omega) (by decide)
    have m3 : 0 ≤ 101807 * (c + 1) * (c + 1) := Int.mul_nonneg m0 (by omega)
    have w0 : 0 ≤ w := by omega
    have w1 : w.natAbs ≤ 10 ^ 40 := by
      have : (101807 : Int) * 1000001 * 1000001 ≤ 10 ^ 20 := by decide
      have : (10 : Nat) ^ 40 = 10000000000000000000000000000000000000000 := by decide
      omega
    generalize hb : w ^ 3 % p = b
    have b0 : 0 ≤ b ∧ b < p := by rw [← hb]; exact ⟨Int.emod_nonneg _ (by omega), Int.emod_lt_of_pos _ p0⟩
    generalize ht : b % 13033 + 419 * (c + 1) = t
    have t0 : 0 ≤ b % 13033 ∧ b % 13033 < 13033 := ⟨Int.emod_nonneg _ (by decide), Int.emod_lt_of_pos _ (by decide)⟩
    have t1 : t.natAbs ≤ 10 ^ 10 := by
      have : (10 : Nat) ^ 10 = 10000000000 := by decide
      omega
    generalize hv : b * t % 2305843009213693907 = v
    have v0 : 0 ≤ v := by rw [← hv]; exact Int.emod_nonneg _ (by decide)
    have hd : 0 ≤ v / 257 % up ∧ v / 257 % up < up := ⟨Int.emod_nonneg _ (by omega), Int.emod_lt_of_pos _ (by omega)⟩
    refine ⟨v / 257 % up, .l [.int 0, .int s, .int (c + 1)], ?_, hd.1, hd.2, ⟨0, s, c + 1, rfl, by decide, a2, a3, by omega, by omega⟩⟩
    refine fnI_of (fl := .rt (.int (v / 257 % up))) (ρ := Tk [.int 0, .int s, .int (c + 1)] up (some (.int p)) (some (.int v)) none) rfl ?_ rfl rfl
    refine seq_nx (ifn (bE_of (e2_fz (ix0 0 s c none none none) rfl (dGt_int _ _)))) ?_
    refine seq_nx (ρ1 := Tk [.int 0, .int s, .int (c + 1)] up none none none) (put_of (i := 0) (ρ := Tk [.int 0, .int s, .int c] up none none none) (ρ1 := Tk [.int 0, .int s, .int c] up none none none) (ρ2 := Tk [.int 0, .int s, .int c] up none none none) (k := 2) (j := 2) (e2_fz (ix2 0 s c none none none) rfl rfl) rfl rfl rfl rfl) ?_
    refine seq_nx (set_E (i := 2) (e2_fz (x := .list [.int 2147483647, .int 2147483629, .int 2147483587, .int 2147483579, .int 2147483563]) (ρ1 := Tk [.int 0, .int s, .int (c + 1)] up none none none) rfl (e2_fz (toInt (ix2 0 s (c + 1) none none none)) rfl (dMod_ok (by decide))) pe) rfl) ?_
    have cS : (c + 1).natAbs < 2 ^ 1000 := sm cc (by decide)
    have kS : (101807 : Int).natAbs < 2 ^ 1000 := sm (k := 101807) (by decide) (by decide)
    have k4 : (419 : Int).natAbs < 2 ^ 1000 := sm (k := 419) (by decide) (by decide)
    have mS : (101807 * (c + 1)).natAbs < 2 ^ 1000 := sm (k := 1000000000000) (by omega) (by decide)
    have wS : w.natAbs < 2 ^ 1000 := sm w1 (by decide)
    have bS : b.natAbs < 2 ^ 1000 := sm (k := 2147483647) (by omega) (by decide)
    have tS : t.natAbs < 2 ^ 1000 := sm t1 (by decide)
    have step3 : e2 dMod (eCall dInt (aCons (e2 dPow (eCall dInt (aCons (e2 dAdd (e2 dAdd (e2 dIx (eVar 0) (eC (.int 1))) (e2 dMul (e2 dMul (eC (.int 101807)) (e2 dIx (eVar 0) (eC (.int 2)))) (e2 dIx (eVar 0) (eC (.int 2))))) (eC (.int 3793))) aNil)) (eC (.int 3))) aNil)) (eVar 2) (Tk [.int 0, .int s, .int (c + 1)] up (some (.int p)) none none) = some (.fz (.int b), Tk [.int 0, .int s, .int (c + 1)] up (some (.int p)) none none) := by
      refine e2_fz (x := .int (w ^ 3)) (toInt (e2_fz (x := .int w) (toInt (e2_fz (x := .int (s + 101807 * (c + 1) * (c + 1))) (e2_fz (ix1 0 s (c + 1) _ none none) (e2_fz (x := .int (101807 * (c + 1))) (e2_fz rfl (ix2 0 s (c + 1) _ none none) (dMul_ok kS cS)) (ix2 0 s (c + 1) _ none none) (dMul_ok mS cS)) rfl) rfl ?_)) rfl (dPow3_ok wS))) rfl ((dMod_ok p0).trans (by rw [hb]))
      rw [dAdd_int, hw]
    refine seq_nx (set_E (i := 3) step3 rfl) ?_
    have step4 : e2 dMod (eCall dInt (aCons (e2 dMul (eVar 3) (e2 dAdd (e2 dMod (eCall dInt (aCons (eVar 3) aNil)) (eC (.int 13033))) (e2 dMul (eC (.int 419)) (e2 dIx (eVar 0) (eC (.int 2)))))) aNil)) (eC (.int 2305843009213693907)) (Tk [.int 0, .int s, .int (c + 1)] up (some (.int p)) (some (.int b)) none) = some (.fz (.int v), Tk [.int 0, .int s, .int (c + 1)] up (some (.int p)) (some (.int b)) none) := by
      refine e2_fz (x := .int (b * t)) (toInt (e2_fz (x := .int b) (y := .int t) rfl (e2_fz (x := .int (b % 13033)) (y := .int (419 * (c + 1))) (e2_fz (toInt rfl) rfl (dMod_ok (by decide))) (e2_fz rfl (ix2 0 s (c + 1) _ _ none) (dMul_ok k4 cS)) (by rw [dAdd_int, ht])) (dMul_ok bS tS))) rfl ((dMod_ok (by decide)).trans (by rw [hv]))
    refine seq_nx (set_E (i := 3) step4 rfl) ?_
    exact ret_E (e2_fz (toInt (e2_fz rfl rfl (dFdiv_ok (by decide) (by decide)))) rfl (dMod_ok (by omega)))
theorem callI_of {f : Fi} {i : Nat} {a : As} {ρ ρ1 : Rho} {os : List Opd} {ds : List D} {C0 C C' : Cel} {r : D} (h0 : celAt ρ i = some C0) (ha : a ρ = some (os, ρ1)) (hl : looks ρ1 os = some ds) (hb : brw os = false) (hc : celAt ρ1 i = some C) (hf : f C ds = some (r, C')) (hs : os.any (fun q => match q with | .sl j => j == i | .fz _ => false) = false) : eCallI f i a ρ = some (.fz r, putAt ρ1 i C') := by
  unfold eCallI callI
  rw [h0]
  show ((a ρ).bind _).bind _ = _
  rw [ha]
  show ((looks ρ1 os).bind _).bind _ = _
  rw [hl]
  show ((celAt ρ1 i).bind _).bind _ = _
  rw [hc]
  show ((f C ds).bind _).bind _ = _
  rw [hf]
  show (if okB (brw os) (lfreeO false r && celFree C') = true then (if os.any (fun q => match q with | .sl j => j == i | .fz _ => false) = true then none else some (r, putAt ρ1 i C')) else none).bind _ = _
  rw [hb, hs]; rfl
theorem toInt {f : E} {ρ ρ1 : Rho} {i : Int} (hf : f ρ = some (.fz (.int i), ρ1)) : eCall dInt (aCons f aNil) ρ = some (.fz (.int i), ρ1) := call_of (os := [.fz (.int i)]) (cons_of hf rfl) rfl rfl
/-- a draw, the pot in slot 0 -/
theorem draw_of {n : Nat} {C : Cel} (hp : Pot n C) (hn : n ≤ 1000000) {up : Int} (h1 : 1 ≤ up) (h2 : up ≤ 1000000000000) {f : E} {xs : Rho} (hf : f (some (.io C) :: xs) = some (.fz (.int up), some (.io C) :: xs)) :
    ∃ d C', eCallI f__law_take 0 (aCons f aNil) (some (.io C) :: xs) = some (.fz (.int d), some (.io C') :: xs) ∧ 0 ≤ d ∧ d < up ∧ Pot (n + 1) C' := by
  obtain ⟨d, C', e, a, b, c⟩ := take_ev hp hn h1 h2
  exact ⟨d, C', callI_of (i := 0) (ρ := some (.io C) :: xs) (ρ1 := some (.io C) :: xs) (os := [.fz (.int up)]) (C0 := C) (C := C) rfl (cons_of hf rfl) rfl rfl rfl e rfl, a, b, c⟩
theorem set_at {i : Nat} {f : E} {ρ : Rho} {d : D} (h : f ρ = some (.fz d, ρ)) (hi : isIo ρ i = false) : sSet i (lE f) ρ = some (.nx, ρ.set i (some (.val d))) := set_E h hi
theorem pot_ev (ns : List Int) (p : Nat) (hp : p ≤ 3) : ∃ (l : List D), f__law_pot [.list (ns.map .int), .int (p : Int)] = some (.list l) ∧ Pot 0 (.l l) := by
  -- the cell
  have cell : ∃ c : Int, eIf (bE (e2 dLt (eVar 1) (eCall dLen (aCons (eVar 0) aNil)))) (e2 dIx (eVar 0) (eVar 1)) (e2 dAdd (e2 dAdd (e2 dMod (eCall dInt (aCons (eCall dSum (aCons (eSl dSl (eVar 0) oN (oS (eC (.int 1)))) aNil)) aNil)) (eC (.int 1000231))) (e2 dMul (eC (.int 6329)) (eVar 1))) (eC (.int 3793)))
      [some (.val (.list (ns.map .int))), some (.val (.int (p : Int))), none, none, none] = some (.fz (.int c), [some (.val (.list (ns.map .int))), some (.val (.int (p : Int))), none, none, none]) := by
    have t : bE (e2 dLt (eVar 1) (eCall dLen (aCons (eVar 0) aNil))) [some (.val (.list (ns.map .int))), some (.val (.int (p : Int))), none, none, none] = some (decide ((p : Int) < (ns.length : Int)), [some (.val (.list (ns.map .int))), some (.val (.int (p : Int))), none, none, none]) :=
      bE_of (e2_fz rfl (call_of (os := [.fz (.list (ns.map .int))]) rfl rfl (by show some (PyData.int _) = _; rw [List.length_map])) (dLt_int _ _))
    by_cases q : p < ns.length
    · rw [decide_eq_true (by omega)] at t
      refine ⟨ns[p], eIf_t t (e2_fz rfl rfl (ixL (j := p) ?_))⟩
      rw [List.getElem?_map, List.getElem?_eq_getElem q]; rfl
    · rw [decide_eq_false (by omega)] at t
      have sl : cut (ns.map PyData.int) none (some 1) = (ns.take 1).map .int := by
        unfold cut
        rw [HT.sIx_none, show HT.sIx (ns.map PyData.int).length (ns.map PyData.int).length (some 1) = min 1 (ns.map PyData.int).length from HT.sIx_nat _ _ 1]
        cases ns with
        | nil => rfl
        | cons a r =>
          rw [List.length_map, List.length_cons, show min 1 (r.length + 1) = 1 by omega]; rfl
      refine ⟨(ns.take 1).sum % 1000231 + 6329 * (p : Int) + 3793, eIf_f t (e2_fz (e2_fz (e2_fz (toInt (call_of (os := [.fz (.list ((ns.take 1).map .int))]) (cons_of (ρ1 := [some (.val (.list (ns.map .int))), some (.val (.int (p : Int))), none, none, none]) ?_ rfl) rfl (by show (intsD ((ns.take 1).map PyData.int)).bind _ = _; rw [intsD_of]; rfl))) rfl (dMod_ok (by decide))) (e2_fz rfl rfl (dMul_ok (by decide) (sm (k := 3) (by omega) (by decide)))) rfl) rfl rfl)⟩
      show some (Opd.fz (.list (cut (ns.map PyData.int) none (some 1))), _) = _
      rw [sl]
  obtain ⟨c, ce⟩ := cell
  generalize ha : (if c < 0 then -c else c) = a
  have a0 : 0 ≤ a := by rw [← ha]; split <;> omega
  have ab : ∀ ρ : Rho, eVar 2 ρ = some (.fz (.int c), ρ) → eCall dAbs (aCons (eVar 2) aNil) ρ = some (.fz (.int a), ρ) := fun ρ h => call_of (os := [.fz (.int c)]) (cons_of h rfl) rfl (by rw [← ha]; rfl)
  generalize hP : (10 : Int) ^ 300 = P
  have P0 : 0 < P := by rw [← hP]; decide
  have PS : P.natAbs < 2 ^ 1000 := by rw [← hP]; decide
  have p5 : dPow (.int (10 ^ 60)) (.int 5) = some (.int P) := by rw [← hP]; rfl
  have p1 : dPow (.int 10) (.int 60) = some (.int (10 ^ 60)) := rfl
  have p2 : dPow (.int 10) (.int 18) = some (.int (10 ^ 18)) := rfl
  have r0 : 0 ≤ a % P ∧ a % P < P := ⟨Int.emod_nonneg _ (by omega), Int.emod_lt_of_pos _ P0⟩
  have rS : (a % P).natAbs < 2 ^ 1000 := by omega
  generalize hk : (if decide ((10 : Int) ^ 18 ≤ a) = true then (1 : Int) else 0) = k
  have k01 : k = 0 ∨ k = 1 := by rw [← hk]; split <;> simp
  have kS : k.natAbs < 2 ^ 1000 := sm (k := 1) (by omega) (by decide)
  generalize hs : c % 2305843009213693951 = s
  have s0 : 0 ≤ s ∧ s < 2305843009213693951 := by rw [← hs]; exact ⟨Int.emod_nonneg _ (by decide), Int.emod_lt_of_pos _ (by decide)⟩
  have pS : (p : Int).natAbs < 2 ^ 1000 := sm (k := 3) (by omega) (by decide)
  have pS2 : (12653 * (p : Int)).natAbs < 2 ^ 1000 := sm (k := 100000) (by omega) (by decide)
  have sS : s.natAbs < 2 ^ 1000 := sm (k := 2305843009213693951) (by omega) (by decide)
  have c1 : (91009 : Int).natAbs < 2 ^ 1000 := sm (k := 91009) (by decide) (by decide)
  have c2 : (12653 : Int).natAbs < 2 ^ 1000 := sm (k := 12653) (by decide) (by decide)
  have f0 : 0 ≤ (s * 91009 + 12653 * (p : Int) * (p : Int) + 3301) % 2305843009213693921 ∧ (s * 91009 + 12653 * (p : Int) * (p : Int) + 3301) % 2305843009213693921 < 2305843009213693921 := ⟨Int.emod_nonneg _ (by decide), Int.emod_lt_of_pos _ (by decide)⟩
  have o0 : 0 ≤ a % P * k := by rcases k01 with rfl | rfl <;> omega
  refine ⟨[.int (a % P * k), .int ((s * 91009 + 12653 * (p : Int) * (p : Int) + 3301) % 2305843009213693921), .int 0], ?_, ⟨_, _, _, rfl, o0, f0.1, by omega, by decide, by decide⟩⟩
  refine fnP_of (fl := .ro [.int (a % P * k), .int ((s * 91009 + 12653 * (p : Int) * (p : Int) + 3301) % 2305843009213693921), .int 0]) (ρ := [some (.val (.list (ns.map .int))), some (.val (.int (p : Int))), some (.val (.int c)), some (.val (.int (a % P * k))), some (.val (.int s))]) rfl ?_ rfl
  refine seq_nx (set_E (i := 2) ce rfl) ?_
  refine seq_nx (ρ1 := [some (.val (.list (ns.map .int))), some (.val (.int (p : Int))), some (.val (.int c)), some (.val (.int (a % P * k))), none]) ?_ ?_
  · refine set_at (i := 3) (ρ := [some (.val (.list (ns.map .int))), some (.val (.int (p : Int))), some (.val (.int c)), none, none]) ?_ rfl
    refine e2_fz (x := .int (a % P)) (y := .int k) (e2_fz (toInt (ab _ rfl)) (e2_fz (e2_fz rfl rfl p1) rfl p5) (dMod_ok P0)) ?_ (dMul_ok rS kS)
    refine call_of (os := [.fz (.bool (decide ((10 : Int) ^ 18 ≤ a)))]) (cons_of (e2_fz (ab _ rfl) (e2_fz rfl rfl p2) (dGe_int _ _)) rfl) rfl ?_
    rw [← hk]; rfl
  refine seq_nx (ρ1 := [some (.val (.list (ns.map .int))), some (.val (.int (p : Int))), some (.val (.int c)), some (.val (.int (a % P * k))), some (.val (.int s))]) ?_ ?_
  · refine set_at (i := 4) (ρ := [some (.val (.list (ns.map .int))), some (.val (.int (p : Int))), some (.val (.int c)), some (.val (.int (a % P * k))), none]) ?_ rfl
    exact e2_fz (toInt rfl) rfl ((dMod_ok (by decide)).trans (by rw [hs]))
  have third : e2 dMod (eCall dInt (aCons (e2 dAdd (e2 dAdd (e2 dMul (eVar 4) (eC (.int 91009))) (e2 dMul (e2 dMul (eC (.int 12653)) (eVar 1)) (eVar 1))) (eC (.int 3301))) aNil)) (eC (.int 2305843009213693921)) [some (.val (.list (ns.map .int))), some (.val (.int (p : Int))), some (.val (.int c)), some (.val (.int (a % P * k))), some (.val (.int s))] =
      some (.fz (.int ((s * 91009 + 12653 * (p : Int) * (p : Int) + 3301) % 2305843009213693921)), [some (.val (.list (ns.map .int))), some (.val (.int (p : Int))), some (.val (.int c)), some (.val (.int (a % P * k))), some (.val (.int s))]) :=
    e2_fz (toInt (e2_fz (e2_fz (e2_fz rfl rfl (dMul_ok sS c1)) (e2_fz (e2_fz rfl rfl (dMul_ok c2 pS)) rfl (dMul_ok pS2 pS)) rfl) rfl rfl)) rfl (dMod_ok (by decide))
  have := nLst_of (ρ := [some (.val (.list (ns.map .int))), some (.val (.int (p : Int))), some (.val (.int c)), some (.val (.int (a % P * k))), some (.val (.int s))]) (g := aCons (eVar 3) (aCons (e2 dMod (eCall dInt (aCons (e2 dAdd (e2 dAdd (e2 dMul (eVar 4) (eC (.int 91009))) (e2 dMul (e2 dMul (eC (.int 12653)) (eVar 1)) (eVar 1))) (eC (.int 3301))) aNil)) (eC (.int 2305843009213693921))) (aCons (eC (.int 0)) aNil))) (os := [.fz (.int (a % P * k)), .fz (.int ((s * 91009 + 12653 * (p : Int) * (p : Int) + 3301) % 2305843009213693921)), .fz (.int 0)]) (ds := [.int (a % P * k), .int ((s * 91009 + 12653 * (p : Int) * (p : Int) + 3301) % 2305843009213693921), .int 0]) (cons_of rfl (cons_of third rfl)) rfl (by show 3 ≤ sizeLine; decide)
  unfold sRetN
  rw [this]; rfl

theorem take_n {n : Nat} {C : Cel} (hp : Pot n C) (hn : n ≤ 1000000) {up : Int} (h1 : 1 ≤ up) (h2 : up ≤ 1000000000000) : ∃ w : Int × Cel, n__law_take C up = some w ∧ 0 ≤ w.1 ∧ w.1 < up ∧ Pot (n + 1) w.2 := by
  obtain ⟨d, C', e, a, b, c⟩ := take_ev hp hn h1 h2
  refine ⟨(d, C'), ?_, a, b, c⟩
  unfold n__law_take xI
  rw [e]
theorem pot_n (ns : List Int) {p : Int} (h0 : 0 ≤ p) (h3 : p ≤ 3) : ∃ l, n__law_pot ns p = some l ∧ Pot 0 (.l (l.map xD)) := by
  obtain ⟨l, e, hp⟩ := pot_ev ns p.toNat (by omega)
  rw [show ((p.toNat : Nat) : Int) = p by omega] at e
  have hx : l.map xD = l := List.map_id' l
  refine ⟨l, ?_, by rw [hx]; exact hp⟩
  unfold n__law_pot
  have e' : f__law_pot [(xL xI) ns, xI p] = some (.list l) := e
  rw [e']
theorem of_n {α : Type} {n : Nat} {C : Cel} (hp : Pot n C) (hn : n ≤ 1000000) {xs : List α} (h1 : 1 ≤ xs.length) (h2 : xs.length ≤ 1000000) : ∃ w : α × Cel, n__law_of C xs = some w ∧ w.1 ∈ xs ∧ Pot (n + 1) w.2 := by
  obtain ⟨w, e, a, b, c⟩ := take_n hp hn (up := (xs.length : Int)) (by omega) (by omega)
  have hd : w.1.toNat < xs.length := by omega
  refine ⟨(xs[w.1.toNat], w.2), ?_, List.getElem_mem hd, c⟩
  unfold n__law_of
  rw [e]
  show (getI xs w.1).bind _ = _
  rw [getI_int a hd]; rfl
theorem cells_n (ns : List Int) {m : Int} (h1 : 1 ≤ m) (h4 : m ≤ 4) : ∃ n : Nat, (n : Int) ≤ m ∧ n__law_cells ns m = some (rangeI 0 n) := by
  unfold n__law_cells
  rw [lrange1_ok (by omega) (by omega)]
  exact ⟨_, by omega, rfl⟩
end
end Wk
set_option Elab.async false
set_option linter.all false
set_option maxRecDepth 100000
set_option maxHeartbeats 1000000
/-! bounds between clocks: what the laps keep -/
namespace BFd
abbrev Bd := Int × Int × Int
def sv (S : List Int) (i : Nat) : Int := S.getD i 0
theorem sv_set {S : List Int} {v i : Nat} {a : Int} (hv : v < S.length) : sv (S.set v a) i = if i = v then a else sv S i := by
  unfold sv
  rw [List.getD_eq_getElem?_getD, List.getD_eq_getElem?_getD, List.getElem?_set]
  by_cases h : v = i
  · subst h; rw [if_pos rfl, if_pos hv, if_pos rfl]; rfl
  · rw [if_neg h, if_neg (fun z => h z.symm)]
/-- a way back along the bounds that set the clocks -/
inductive PW (bs : List Bd) (A : List (Option Int)) : Nat → Nat → Int → Nat → Prop
  | z (x : Nat) : PW bs A x 0 0 x
  | s {x x' t : Nat} {e u v w c : Int} : A[x]? = some (some e) → 0 ≤ e → bs[e.toNat]? = some (u, v, w) → v.toNat = x → PW bs A u.toNat t c x' → PW bs A x (t + 1) (w + c) x'
theorem PW.app {bs : List Bd} {A : List (Option Int)} {x y : Nat} {t : Nat} {c : Int} (h : PW bs A x t c y) : ∀ {t' : Nat} {c' : Int} {z : Nat}, PW bs A y t' c' z → PW bs A x (t + t') (c + c') z := by
  induction h with
  | z x => intro t' c' z h; rw [Nat.zero_add, Int.zero_add]; exact h
  | @s x x' t e u v w c a b d f g ih =>
    intro t' c' z h
    have := ih h
    rw [show t + 1 + t' = t + t' + 1 by omega, show w + c + c' = w + (c + c') by omega]
    exact .s a b d f this
structure BF (N : Nat) (bs : List Bd) (W : Int) (n lap at_ : Nat) (st : List Int × List (Option Int) × Option Int) (G : Nat → Nat) : Prop where
  ls : st.1.length = N
  la : st.2.1.length = N
  lo : ∀ i, i < N → -(W * n) ≤ sv st.1 i ∧ sv st.1 i ≤ 0
  ed : ∀ (x : Nat) (e : Int), x < N → st.2.1[x]? = some (some e) → ∃ u v w, 0 ≤ e ∧ bs[e.toNat]? = some (u, v, w) ∧ v.toNat = x ∧ sv st.1 u.toNat + w ≤ sv st.1 x ∧ 1 ≤ G x ∧ G x ≤ G u.toNat + 1
  no : ∀ x, x < N → st.2.1[x]? = some none → G x = 0
  gl : ∀ x, G x ≤ lap
  cy : ∀ x t c, PW bs st.2.1 x (t + 1) c x → c < 0
  ex : ∀ (e : Nat) u v w, bs[e]? = some (u, v, w) → G u.toNat < (if e < at_ then lap else lap - 1) → sv st.1 v.toNat ≤ sv st.1 u.toNat + w
  ns : st.2.2 = none → ∀ (e : Nat) u v w, e < at_ → bs[e]? = some (u, v, w) → sv st.1 v.toNat ≤ sv st.1 u.toNat + w
  sm : ∀ x, st.2.2 = some x → 0 ≤ x ∧ x.toNat < N ∧ G x.toNat = lap
theorem PW.low {N : Nat} {bs : List Bd} {W : Int} {n lap at_ : Nat} {st : List Int × List (Option Int) × Option Int} {G : Nat → Nat} (B : BF N bs W n lap at_ st G) {x y t : Nat} {c : Int} (h : PW bs st.2.1 x t c y) : c + sv st.1 y ≤ sv st.1 x := by
  induction h with
  | z x => omega
  | @s x x' t e u v w c a b d f g ih =>
    have hx : x < N := by rw [← B.la]; exact (List.getElem?_eq_some_iff.mp a).1
    obtain ⟨u', v', w', _, h2, _, h4, _⟩ := B.ed x e hx a
    rw [d] at h2; cases h2
    omega
/-- a way by the new bounds: an old one, or an old one up to v -/
theorem PW.split {bs : List Bd} {A : List (Option Int)} {v : Nat} {a : Int} {x y t : Nat} {c : Int} (h : PW bs (A.set v (some a)) x t c y) :
    PW bs A x t c y ∨ ∃ t1 t2 c1 c2, PW bs A x t1 c1 v ∧ PW bs (A.set v (some a)) x t1 c1 v ∧ PW bs (A.set v (some a)) v (t2 + 1) c2 y ∧ t1 + (t2 + 1) = t ∧ c1 + c2 = c := by
  induction h with
  | z x => exact .inl (.z x)
  | @s x x' t e u vv w c h1 h2 h3 h4 h5 ih =>
    by_cases q : x = v
    · subst q
      exact .inr ⟨0, t, 0, w + c, .z x, .z x, .s h1 h2 h3 h4 h5, by omega, by omega⟩
    · have h1' : A[x]? = some (some e) := by
        rw [List.getElem?_set_ne (fun z => q z.symm)] at h1; exact h1
      rcases ih with ih | ⟨t1, t2, c1, c2, p1, p2, p3, e1, e2⟩
      · exact .inl (.s h1' h2 h3 h4 ih)
      · exact .inr ⟨t1 + 1, t2, w + c1, c2, .s h1' h2 h3 h4 p1, .s h1 h2 h3 h4 p2, p3, by omega, by omega⟩
variable {N : Nat} {bs : List Bd} {W : Int} {n lap at_ : Nat} {st : List Int × List (Option Int) × Option Int} {G : Nat → Nat}
theorem loop_v (B : BF N bs W n lap at_ st G) {u v w : Int} (hb : bs[at_]? = some (u, v, w)) (hv : v.toNat < N) (hr : sv st.1 u.toNat + w < sv st.1 v.toNat) : ∀ (k t : Nat) (c : Int), t ≤ k → PW bs (st.2.1.set v.toNat (some (at_ : Int))) v.toNat (t + 1) c v.toNat → c < 0
  | k, t, c, hk, h => by
    cases h with
    | @s _ _ _ e u' v' w' c' h1 h2 h3 h4 h5 =>
      rw [List.getElem?_set_self (by rw [B.la]; exact hv)] at h1
      cases h1
      rw [show ((at_ : Int)).toNat = at_ by omega, hb] at h3
      cases h3
      rcases h5.split with h6 | ⟨t1, t2, c1, c2, p1, p2, p3, e1, e2⟩
      · have := h6.low B; omega
      · have := p1.low B
        cases k with
        | zero => omega
        | succ k =>
          have := loop_v B hb hv hr k t2 c2 (by omega) p3
          omega
theorem cyc_new (B : BF N bs W n lap at_ st G) {u v w : Int} (hb : bs[at_]? = some (u, v, w)) (hv : v.toNat < N) (hr : sv st.1 u.toNat + w < sv st.1 v.toNat) (x t : Nat) (c : Int) (h : PW bs (st.2.1.set v.toNat (some (at_ : Int))) x (t + 1) c x) : c < 0 := by
  rcases h.split with h6 | ⟨t1, t2, c1, c2, p1, p2, p3, e1, e2⟩
  · exact B.cy x t c h6
  · have h7 := p3.app p2
    rw [show t2 + 1 + t1 = (t2 + t1) + 1 by omega] at h7
    have := loop_v B hb hv hr (t2 + t1) (t2 + t1) (c2 + c1) (Nat.le_refl _) h7
    omega
/-- no bound is met anew -/
theorem BF.skip (B : BF N bs W n lap at_ st G) (hW : 0 ≤ W) {u v w : Int} (hb : bs[at_]? = some (u, v, w)) (hr : ¬ sv st.1 u.toNat + w < sv st.1 v.toNat) : BF N bs W (n + 1) lap (at_ + 1) st G where
  ls := B.ls
  la := B.la
  lo := fun i hi => by
    have h := B.lo i hi
    have : W * ((n + 1 : Nat) : Int) = W * n + W := by rw [show ((n + 1 : Nat) : Int) = (n : Int) + 1 by omega, Int.mul_add, Int.mul_one]
    omega
  ed := B.ed
  no := B.no
  gl := B.gl
  cy := B.cy
  ex := fun e u2 v2 w2 he hG => by
    by_cases q : e = at_
    · subst q; rw [hb] at he; cases he; omega
    · refine B.ex e u2 v2 w2 he ?_
      by_cases z : e < at_
      · rw [if_pos z]; rw [if_pos (by omega)] at hG; exact hG
      · rw [if_neg z]; rw [if_neg (by omega)] at hG; exact hG
  ns := fun hn e u2 v2 w2 he hb2 => by
    by_cases q : e = at_
    · subst q; rw [hb] at hb2; cases hb2; omega
    · exact B.ns hn e u2 v2 w2 (by omega) hb2
  sm := B.sm
/-- a clock is set back -/
theorem BF.relax (B : BF N bs W n lap at_ st G) (hl : 1 ≤ lap) {u v w : Int} (hb : bs[at_]? = some (u, v, w)) (hu : u.toNat < N) (hv : v.toNat < N) (hv0 : 0 ≤ v) (hw : -W ≤ w) (hW : 0 ≤ W) (hr : sv st.1 u.toNat + w < sv st.1 v.toNat) :
    BF N bs W (n + 1) lap (at_ + 1) (st.1.set v.toNat (sv st.1 u.toNat + w), st.2.1.set v.toNat (some (at_ : Int)), some v) (fun x => if x = v.toNat then lap else G x) := by
  have hlv : v.toNat < st.1.length := by rw [B.ls]; exact hv
  have S' : ∀ i, sv (st.1.set v.toNat (sv st.1 u.toNat + w)) i = if i = v.toNat then sv st.1 u.toNat + w else sv st.1 i := fun i => sv_set hlv
  have Sle : ∀ i, sv (st.1.set v.toNat (sv st.1 u.toNat + w)) i ≤ sv st.1 i := fun i => by
    rw [S']; split
    · rename_i h; subst h; omega
    · exact Int.le_refl _
  have hGu : lap - 1 ≤ G u.toNat := by
    rcases Nat.lt_or_ge (G u.toNat) (lap - 1) with q | q
    · have := B.ex at_ u v w hb (by rw [if_neg (by omega)]; exact q)
      omega
    · exact q
  refine ⟨by rw [List.length_set]; exact B.ls, by rw [List.length_set]; exact B.la, fun i hi => ?_, fun x e hx he => ?_, fun x hx he => ?_, fun x => ?_, fun x t c h => cyc_new B hb hv hr x t c h, fun e u2 v2 w2 he hG => ?_, (fun h => by cases h), fun x hx => ?_⟩
  · have h := B.lo i hi
    have hu' := B.lo u.toNat hu
    have hv' := B.lo v.toNat hv
    have : W * ((n + 1 : Nat) : Int) = W * n + W := by rw [show ((n + 1 : Nat) : Int) = (n : Int) + 1 by omega, Int.mul_add, Int.mul_one]
    dsimp only
    rw [S']
    split <;> omega
  · dsimp only at he ⊢
    by_cases q : x = v.toNat
    · subst q
      rw [List.getElem?_set_self (by rw [B.la]; exact hv)] at he
      cases he
      refine ⟨u, v, w, by omega, by rw [show ((at_ : Int)).toNat = at_ by omega]; exact hb, rfl, ?_, by rw [if_pos rfl]; exact hl, ?_⟩
      · rw [S', S', if_pos rfl]
        split
        · rename_i z; rw [z] at hr; omega
        · exact Int.le_refl _
      · rw [if_pos rfl]
        split
        · omega
        · omega
    · rw [List.getElem?_set_ne (fun z => q z.symm)] at he
      obtain ⟨u2, v2, w2, a1, a2, a3, a4, a5, a6⟩ := B.ed x e hx he
      refine ⟨u2, v2, w2, a1, a2, a3, ?_, by rw [if_neg q]; exact a5, ?_⟩
      · have := Sle u2.toNat
        rw [S' x, if_neg q]; omega
      · rw [if_neg q]
        have := B.gl x
        split
        · omega
        · exact a6
  · dsimp only at he ⊢
    by_cases q : x = v.toNat
    · subst q
      rw [List.getElem?_set_self (by rw [B.la]; exact hv)] at he
      cases he
    · rw [List.getElem?_set_ne (fun z => q z.symm)] at he
      rw [if_neg q]; exact B.no x hx he
  · show (if x = v.toNat then lap else G x) ≤ lap
    split
    · exact Nat.le_refl _
    · exact B.gl x
  · dsimp only at hG ⊢
    have hT : (if e < at_ + 1 then lap else lap - 1) ≤ lap := by split <;> omega
    by_cases q : u2.toNat = v.toNat
    · rw [if_pos q] at hG; omega
    · rw [if_neg q] at hG
      rw [S' u2.toNat, if_neg q]
      by_cases z : e = at_
      · subst z
        rw [hb] at he; cases he
        rw [S', if_pos rfl]; exact Int.le_refl _
      · have := B.ex e u2 v2 w2 he (by
          by_cases y : e < at_
          · rw [if_pos y]; rw [if_pos (by omega)] at hG; exact hG
          · rw [if_neg y]; rw [if_neg (by omega)] at hG; exact hG)
        have := Sle v2.toNat
        omega
  · cases hx
    exact ⟨hv0, hv, if_pos rfl⟩
/-- the next lap -/
theorem BF.next (B : BF N bs W n lap at_ st G) (ha : bs.length ≤ at_) : BF N bs W n (lap + 1) 0 (st.1, st.2.1, none) G where
  ls := B.ls
  la := B.la
  lo := B.lo
  ed := B.ed
  no := B.no
  gl := fun x => Nat.le_succ_of_le (B.gl x)
  cy := B.cy
  ex := fun e u v w he hG => B.ex e u v w he (by
    rw [if_neg (by omega)] at hG
    rw [if_pos (Nat.lt_of_lt_of_le (List.getElem?_eq_some_iff.mp he).1 ha)]
    omega)
  ns := fun _ e _ _ _ h => absurd h (by omega)
  sm := fun x h => by cases h
theorem BF.start (hN : 0 < N) : BF N bs W 0 1 0 (List.replicate N 0, List.replicate N none, none) (fun _ => 0) where
  ls := List.length_replicate
  la := List.length_replicate
  lo := fun i hi => by
    have : sv (List.replicate N 0) i = 0 := by
      unfold sv
      rw [List.getD_eq_getElem?_getD, List.getElem?_replicate]
      split <;> rfl
    dsimp only; rw [this]; simp
  ed := fun x e hx he => by
    dsimp only at he
    rw [List.getElem?_replicate, if_pos hx] at he; cases he
  no := fun _ _ _ => rfl
  gl := fun _ => Nat.zero_le _
  cy := fun x t c h => by
    cases h with
    | s a _ _ _ _ =>
      dsimp only at a
      rw [List.getElem?_replicate] at a
      split at a <;> cases a
  ex := fun e u v w he hG => by simp at hG
  ns := fun _ e _ _ _ h => absurd h (by omega)
  sm := fun x h => by cases h
/-! ### going back -/
theorem pigeon : ∀ (N : Nat) (f : Nat → Nat), (∀ i, i ≤ N → f i < N) → ∃ i j, i < j ∧ j ≤ N ∧ f i = f j
  | 0, f, h => absurd (h 0 (Nat.le_refl _)) (by omega)
  | N + 1, f, h => by
    by_cases q : ∃ i, i < N + 1 ∧ f i = f (N + 1)
    · obtain ⟨i, h1, h2⟩ := q
      exact ⟨i, N + 1, h1, Nat.le_refl _, h2⟩
    · have no : ∀ i, i < N + 1 → f i ≠ f (N + 1) := fun i hi z => q ⟨i, hi, z⟩
      obtain ⟨i, j, h1, h2, h3⟩ := pigeon N (fun i => if f i < f (N + 1) then f i else f i - 1) (fun i hi => by
        have a := h i (by omega)
        have b := no i (by omega)
        have c := h (N + 1) (Nat.le_refl _)
        split <;> omega)
      refine ⟨i, j, h1, by omega, ?_⟩
      have a := no i (by omega)
      have b := no j (by omega)
      split at h3 <;> split at h3 <;> omega
end BFd
set_option Elab.async false
set_option linter.all false
set_option maxRecDepth 100000
set_option maxHeartbeats 1000000
namespace BFd
/-! ### the walk back over the bounds that set the clocks -/
def wt (bs : List Bd) (e : Int) : Int := (bs.getD e.toNat (0, 0, 0)).2.2
def At (bs : List Bd) (A : List (Option Int)) (x y : Nat) (e : Int) : Prop := ∃ u v w, A[x]? = some (some e) ∧ 0 ≤ e ∧ bs[e.toNat]? = some (u, v, w) ∧ v.toNat = x ∧ u.toNat = y
theorem At.det {bs : List Bd} {A : List (Option Int)} {x y y' : Nat} {e e' : Int} (h : At bs A x y e) (h' : At bs A x y' e') : y = y' := by
  obtain ⟨u, v, w, a1, a2, a3, a4, a5⟩ := h
  obtain ⟨u', v', w', b1, b2, b3, b4, b5⟩ := h'
  rw [a1] at b1; cases b1
  rw [a3] at b3; cases b3
  omega
theorem pw_of {bs : List Bd} {A : List (Option Int)} {Y : Nat → Nat} : ∀ (es : List Int) (r : Nat), (∀ i e, es[i]? = some e → At bs A (Y (r + i)) (Y (r + i + 1)) e) → PW bs A (Y r) es.length ((es.map (wt bs)).sum) (Y (r + es.length))
  | [], r, _ => .z _
  | e :: es, r, h => by
    obtain ⟨u, v, w, a1, a2, a3, a4, a5⟩ := h 0 e rfl
    have ih := pw_of es (r + 1) fun i e' he => by
      have := h (i + 1) e' (by simpa using he)
      rw [show r + (i + 1) = r + 1 + i by omega] at this
      exact this
    have hw : wt bs e = w := by
      unfold wt; rw [List.getD_eq_getElem?_getD, a3]; rfl
    rw [List.map_cons, List.sum_cons, hw, List.length_cons, show r + (es.length + 1) = r + 1 + es.length by omega]
    refine .s a1 a2 a3 a4 ?_
    rw [a5]; exact ih
open Classical in
noncomputable def nxA (bs : List Bd) (A : List (Option Int)) (y : Nat) : Nat := if h : ∃ z e, At bs A y z e then h.choose else y
theorem nxA_at {bs : List Bd} {A : List (Option Int)} {y z : Nat} {e : Int} (h : At bs A y z e) : nxA bs A y = z := by
  have ex : ∃ z e, At bs A y z e := ⟨z, e, h⟩
  unfold nxA
  rw [dif_pos ex]
  obtain ⟨e', h'⟩ := ex.choose_spec
  exact h'.det h
/-- from a clock set in the last of N laps one comes to a ring -/
theorem back {N : Nat} {bs : List Bd} {W : Int} {n at_ : Nat} {st : List Int × List (Option Int) × Option Int} {G : Nat → Nat} (B : BF N bs W n N at_ st G) (hb : ∀ b ∈ bs, 0 ≤ b.1 ∧ b.1.toNat < N) {x : Int} (hx : st.2.2 = some x) :
    ∃ (X : Nat → Nat) (p : Nat), X 0 = x.toNat ∧ 1 ≤ p ∧ p ≤ N ∧ (∀ m, X m < N) ∧ (∀ m, ∃ e, At bs st.2.1 (X m) (X (m + 1)) e) ∧ X (N + p) = X N := by
  obtain ⟨x0, xN, xG⟩ := B.sm x hx
  have step : ∀ y, y < N → 1 ≤ G y → ∃ z e, At bs st.2.1 y z e ∧ z < N ∧ G y ≤ G z + 1 := fun y hy hG => by
    have hl : y < st.2.1.length := by rw [B.la]; exact hy
    cases q : st.2.1[y] with
    | none =>
      have := B.no y hy (by rw [List.getElem?_eq_getElem hl, q])
      omega
    | some e =>
      have he : st.2.1[y]? = some (some e) := by rw [List.getElem?_eq_getElem hl, q]
      obtain ⟨u, v, w, a1, a2, a3, a4, a5, a6⟩ := B.ed y e hy he
      exact ⟨u.toNat, e, ⟨u, v, w, he, a1, a2, a3, rfl⟩, (hb _ (List.mem_of_getElem? a2)).2, a6⟩
  -- the walk
  obtain ⟨nx, nx_at⟩ : ∃ nx : Nat → Nat, ∀ y z e, At bs st.2.1 y z e → nx y = z := ⟨nxA bs st.2.1, fun y z e h => nxA_at h⟩
  obtain ⟨X, X0, Xs⟩ : ∃ X : Nat → Nat, X 0 = x.toNat ∧ ∀ m, X (m + 1) = nx (X m) := ⟨fun m => Nat.rec x.toNat (fun _ y => nx y) m, rfl, fun _ => rfl⟩
  have lab : ∀ j, j ≤ N → X j < N ∧ N ≤ G (X j) + j := fun j => by
    induction j with
    | zero => intro _; exact ⟨by rw [X0]; exact xN, by rw [X0]; omega⟩
    | succ j ih =>
      intro hj
      obtain ⟨a, b⟩ := ih (by omega)
      obtain ⟨z, e, h1, h2, h3⟩ := step (X j) a (by omega)
      rw [Xs, nx_at _ _ _ h1]
      exact ⟨h2, by omega⟩
  have early : ∀ m, m < N → ∃ e, At bs st.2.1 (X m) (X (m + 1)) e := fun m hm => by
    obtain ⟨a, b⟩ := lab m (by omega)
    obtain ⟨z, e, h1, h2, h3⟩ := step (X m) a (by omega)
    exact ⟨e, by rw [Xs, nx_at _ _ _ h1]; exact h1⟩
  obtain ⟨i, j, hij, hj, hX⟩ := pigeon N X fun i hi => (lab i hi).1
  have per : ∀ r, X (i + r) = X (j + r) := fun r => by
    induction r with
    | zero => exact hX
    | succ r ih => rw [show i + (r + 1) = (i + r) + 1 by omega, show j + (r + 1) = (j + r) + 1 by omega, Xs, Xs, ih]
  have all : ∀ k m, m ≤ k → X m < N ∧ ∃ e, At bs st.2.1 (X m) (X (m + 1)) e := fun k => by
    induction k with
    | zero => intro m hm; exact ⟨(lab m (by omega)).1, early m (by omega)⟩
    | succ k ih =>
      intro m hm
      rcases Nat.lt_or_ge m N with q | q
      · exact ⟨(lab m (by omega)).1, early m q⟩
      · obtain ⟨a, e, b⟩ := ih (i + (m - j)) (by omega)
        have e1 := per (m - j)
        have e2 := per (m - j + 1)
        rw [show j + (m - j) = m by omega] at e1
        rw [show j + (m - j + 1) = m + 1 by omega, show i + (m - j + 1) = i + (m - j) + 1 by omega] at e2
        rw [← e1, ← e2]
        exact ⟨a, e, b⟩
  refine ⟨X, j - i, X0, by omega, by omega, fun m => (all m m (Nat.le_refl _)).1, fun m => (all m m (Nat.le_refl _)).2, ?_⟩
  have := per (N - i)
  rw [show i + (N - i) = N by omega, show j + (N - i) = N + (j - i) by omega] at this
  exact this.symm
end BFd
namespace Wk
open PySem PySem.W L3 BFd
noncomputable section
/-! ### tests of what is given -/
theorem is_int_i (v lo hi : Int) : n_is_int (xI v) lo hi = some (decide (lo ≤ v) && decide (v ≤ hi)) := rfl
theorem compN_mapL {α β γ : Type} {p : β → Option Bool} {k : β → Option γ} (e : α → β) : ∀ xs : List α, compN p k (xs.map e) = compN (fun x => p (e x)) (fun x => k (e x)) xs
  | [] => rfl
  | x :: xs => by
    rw [List.map_cons]
    unfold compN
    rw [compN_mapL e xs]
theorem are_ints_V (xs : List Int) (lo hi : Int) : n_are_ints (xV xI xs) lo hi = some (xs.all fun v => decide (lo ≤ v) && decide (v ≤ hi)) := by
  unfold n_are_ints andN
  rw [if_pos (show PyData.isTuple (xD (xV xI xs)) = true from rfl), items_V]
  simp only [Option.bind_some]
  rw [compN_mapL, compN_map (f := fun v => decide (lo ≤ v) && decide (v ≤ hi)) fun v _ => by rw [is_int_i]; rfl]
  simp only [Option.bind_some]
  rw [List.all_map]; rfl
theorem are_ints_2 (p : Int × Int) (lo hi : Int) : n_are_ints ((x2 xI xI) p) lo hi = some (([p.1, p.2] : List Int).all fun v => decide (lo ≤ v) && decide (v ≤ hi)) := are_ints_V [p.1, p.2] lo hi
theorem are_ints_3 (p : Int × Int × Int) (lo hi : Int) : n_are_ints ((x3 xI xI xI) p) lo hi = some (([p.1, p.2.1, p.2.2] : List Int).all fun v => decide (lo ≤ v) && decide (v ≤ hi)) := are_ints_V [p.1, p.2.1, p.2.2] lo hi
theorem are_ints_4 (p : Int × Int × Int × Int) (lo hi : Int) : n_are_ints ((x4 xI xI xI xI) p) lo hi = some (([p.1, p.2.1, p.2.2.1, p.2.2.2] : List Int).all fun v => decide (lo ≤ v) && decide (v ≤ hi)) := are_ints_V [p.1, p.2.1, p.2.2.1, p.2.2.2] lo hi
theorem all_in {xs : List Int} {lo hi : Int} (h : ∀ v ∈ xs, lo ≤ v ∧ v ≤ hi) : (xs.all fun v => decide (lo ≤ v) && decide (v ≤ hi)) = true := by
  rw [List.all_eq_true]
  intro v hv
  have := h v hv
  simp [this.1, this.2]
/-- a bound between clocks 0 .. N - 1 -/
def BdIn (N : Nat) (W : Int) (b : Bd) : Prop := 0 ≤ b.1 ∧ b.1 < N ∧ 0 ≤ b.2.1 ∧ b.2.1 < N ∧ -W ≤ b.2.2 ∧ b.2.2 ≤ W
theorem look_bounds {N : Nat} {bs : List Bd} (h1 : 1 ≤ N) (h30 : N ≤ 30) (hl : bs.length ≤ 200) (hb : ∀ b ∈ bs, BdIn N 1000000000000 b) : n_look_at_bounds (N : Int) bs = some () := by
  unfold n_look_at_bounds
  rw [is_int_i, decide_eq_true (by omega), decide_eq_true (by omega)]
  show (if ((!true) || decide ((200 : Int) < (bs.length : Int))) = true then none else _) = _
  rw [decide_eq_false (by omega)]
  show ((forN (n_look_at_bounds_l1 (N : Int)) bs ()).bind fun _ => some ()) = _
  rw [forN_unit fun b hb' => ?_]
  · rfl
  · obtain ⟨a1, a2, a3, a4, a5, a6⟩ := hb b hb'
    unfold n_look_at_bounds_l1
    rw [are_ints_3, all_in (by simp; omega)]
    simp only [Option.bind_some]
    rw [if_neg (by decide), are_ints_2, all_in (by simp; omega)]
    rfl
end
end Wk
set_option Elab.async false
set_option linter.all false
set_option maxRecDepth 100000
set_option maxHeartbeats 1000000
namespace Wk
open PySem PySem.W L3 BFd
noncomputable section
theorem get_sv {S : List Int} {i : Int} (h0 : 0 ≤ i) (h : i.toNat < S.length) : getI S i = some (sv S i.toNat) := by
  rw [getI_int h0 h]
  unfold sv
  rw [List.getD_eq_getElem?_getD, List.getElem?_eq_getElem h]; rfl
section
variable {N : Nat} {bs : List Bd} {W : Int}
theorem l2_step {n lap a : Nat} {st : List Int × List (Option Int) × Option Int} {G : Nat → Nat} (B : BF N bs W n lap a st G) (hl : 1 ≤ lap) (hW : 0 ≤ W) {b : Bd} (hb : BdIn N W b) (ha : bs[a]? = some b) :
    ∃ st', n_told_clocks_l2 ((a : Int), b) st = some st' ∧ ∃ G', BF N bs W (n + 1) lap (a + 1) st' G' := by
  obtain ⟨u, v, w⟩ := b
  obtain ⟨b1, b2, b3, b4, b5, b6⟩ := hb
  dsimp only at b1 b2 b3 b4 b5 b6
  have hu : u.toNat < N := by omega
  have hv : v.toNat < N := by omega
  unfold n_told_clocks_l2
  rw [get_sv b1 (by rw [B.ls]; exact hu), get_sv b3 (by rw [B.ls]; exact hv)]
  simp only [Option.bind_some]
  by_cases q : sv st.1 u.toNat + w < sv st.1 v.toNat
  · rw [if_pos (decide_eq_true q), setI_int b3 (by rw [B.ls]; exact hv), setI_int b3 (by rw [B.la]; exact hv)]
    exact ⟨_, rfl, _, B.relax hl ha hu hv b3 b5 hW q⟩
  · rw [if_neg (by simpa using q)]
    exact ⟨_, rfl, _, B.skip hW ha q⟩
theorem l1_step (h1 : 1 ≤ N) (hW : 0 ≤ W) (hb : ∀ b ∈ bs, BdIn N W b) {n lap : Nat} {st : List Int × List (Option Int) × Option Int} {G : Nat → Nat} (hl : 1 ≤ lap) (B : BF N bs W n lap 0 (st.1, st.2.1, none) G) (x : Int) :
    ∃ st', n_told_clocks_l1 bs x st = some st' ∧ ∃ G', BF N bs W (n + bs.length) lap bs.length st' G' := by
  obtain ⟨st', e, G', B'⟩ := forN_inv (k := n_told_clocks_l2) (fun i st => ∃ G, BF N bs W (n + i) lap i st G) (xs := enumI 0 bs) (s := (st.1, st.2.1, none)) 0 ⟨G, B⟩ (fun i y s hy hi => by
    rw [enumI_get] at hy
    obtain ⟨b, hb', rfl⟩ := Option.map_eq_some_iff.mp hy
    rw [Nat.zero_add] at hi ⊢
    obtain ⟨G1, B1⟩ := hi
    obtain ⟨s', e', G2, B2⟩ := l2_step B1 hl hW (hb b (List.mem_of_getElem? hb')) hb'
    exact ⟨s', e', G2, B2⟩)
  rw [enumI_len, Nat.zero_add] at B'
  refine ⟨st', ?_, G', B'⟩
  unfold n_told_clocks_l1
  rw [e]; rfl
/-- a ring of bounds that can't be met -/
def Ring (bs : List Bd) (r : List Int) : Prop := ∃ Y : Nat → Nat, (1 ≤ r.length ∧ r.length ≤ 1000) ∧ Y r.length = Y 0 ∧ (∀ i e, r[i]? = some e → ∃ u v w, 0 ≤ e ∧ bs[e.toNat]? = some (u, v, w) ∧ v.toNat = Y i ∧ u.toNat = Y (i + 1)) ∧ (r.map (wt bs)).sum < 0
theorem whole {n : Nat} {st : List Int × List (Option Int) × Option Int} {G : Nat → Nat} (hb : ∀ b ∈ bs, BdIn N W b) (B : BF N bs W n N bs.length st G) (hN : 1 ≤ N) (h30 : N ≤ 30) {x : Int} (hx : st.2.2 = some x) :
    ∃ s26, forN (n_told_clocks_l3 bs st) (rangeI 0 N) st.2.2 = some s26 ∧ ∃ r, whR (n_told_clocks_l4 bs st s26) ([], s26) = some (.nx r) ∧ Ring bs r.1 := by
  obtain ⟨X, p, X0, p1, pN, XN, Xe, Xp⟩ := back B (fun b h => ⟨(hb b h).1, by have := hb b h; unfold BdIn at this; omega⟩) hx
  have hA : st.2.1.length = N := B.la
  -- one step back
  have one : ∀ m, ∃ e u v w, getI st.2.1 ((X m : Nat) : Int) = some (some e) ∧ getI bs e = some (u, v, w) ∧ u = ((X (m + 1) : Nat) : Int) ∧ At bs st.2.1 (X m) (X (m + 1)) e := fun m => by
    obtain ⟨e, u, v, w, a1, a2, a3, a4, a5⟩ := Xe m
    have hb' := hb _ (List.mem_of_getElem? a3)
    unfold BdIn at hb'
    refine ⟨e, u, v, w, getI_nat a1, ?_, by omega, u, v, w, a1, a2, a3, a4, a5⟩
    have := getI_nat a3
    rwa [show ((e.toNat : Nat) : Int) = e by omega] at this
  obtain ⟨s26, e1, h26⟩ := forN_inv (k := n_told_clocks_l3 bs st) (fun i s => s = some ((X i : Nat) : Int)) (xs := rangeI 0 N) (s := st.2.2) 0 (by rw [hx, X0]; obtain ⟨x0, _⟩ := B.sm x hx; rw [show ((x.toNat : Nat) : Int) = x by omega]) (fun i y s _ hs => by
    rw [Nat.zero_add] at hs ⊢
    subst hs
    obtain ⟨e, u, v, w, o1, o2, o3, _⟩ := one i
    refine ⟨_, ?_, rfl⟩
    unfold n_told_clocks_l3
    simp only [Option.bind_some]
    rw [o1]; simp only [Option.bind_some]
    rw [o2, ← o3]; rfl)
  rw [rangeI_len, Nat.zero_add] at h26
  subst h26
  refine ⟨_, e1, ?_⟩
  -- round
  obtain ⟨c, e2, hc⟩ := whR_inv (k := n_told_clocks_l4 bs st (some ((X N : Nat) : Int))) (fun s => ∃ t, t ≤ p ∧ s.2 = some ((X (N + t) : Nat) : Int) ∧ s.1.length = t ∧ ∀ i e, s.1[i]? = some e → At bs st.2.1 (X (N + i)) (X (N + i + 1)) e) (fun s => p - s.1.length)
    (fun c => ∃ r, c = .nx r ∧ Ring bs r.1) (fun s => by
      rintro ⟨t, ht, h2, h1, hi⟩
      obtain ⟨ring, here⟩ := s
      dsimp only at h2 h1 hi
      subst h2; subst h1
      unfold n_told_clocks_l4
      by_cases q : ring = [] ∨ X (N + ring.length) ≠ X N
      · have q' : (decide (ring = []) || !decide (some ((X (N + ring.length) : Nat) : Int) = some ((X N : Nat) : Int))) = true := by
          rw [Bool.or_eq_true]
          rcases q with q | q
          · exact .inl (decide_eq_true q)
          · right
            rw [decide_eq_false (fun z => q (by have := Option.some.inj z; omega))]; rfl
        rw [if_pos q']
        obtain ⟨e, u, v, w, o1, o2, o3, o4⟩ := one (N + ring.length)
        simp only [Option.bind_some]
        rw [o1]; simp only [Option.bind_some]
        have hlt : ring.length < p := by
          rcases Nat.lt_or_ge ring.length p with z | z
          · exact z
          · exfalso
            have : ring.length = p := by omega
            rcases q with q | q
            · subst q; simp at this; omega
            · rw [this] at q; exact q Xp
        rw [appN_ok (by have := szM; omega)]; simp only [Option.bind_some]
        rw [o2]
        refine ⟨_, rfl, ⟨ring.length + 1, by omega, by rw [o3, show N + (ring.length + 1) = N + ring.length + 1 by omega], by rw [List.length_append]; rfl, fun i e' he => ?_⟩, by rw [List.length_append, List.length_singleton]; omega⟩
        rcases Nat.lt_or_ge i ring.length with z | z
        · rw [List.getElem?_append_left z] at he; exact hi i e' he
        · rw [List.getElem?_append_right z] at he
          have : i - ring.length = 0 := by
            rcases Nat.eq_zero_or_pos (i - ring.length) with y | y
            · exact y
            · rw [List.getElem?_eq_none (by simp; omega)] at he; cases he
          rw [this] at he; cases he
          have : i = ring.length := by omega
          subst this; exact o4
      · have q1 : ring ≠ [] := fun z => q (.inl z)
        have q2 : X (N + ring.length) = X N := Classical.byContradiction fun z => q (.inr z)
        have q' : ¬ (decide (ring = []) || !decide (some ((X (N + ring.length) : Nat) : Int) = some ((X N : Nat) : Int))) = true := by
          rw [decide_eq_false q1, decide_eq_true (by rw [q2])]; simp
        rw [if_neg q']
        refine ⟨_, rfl, _, rfl, fun i => X (N + i), ?_, q2, fun i e he => ?_, ?_⟩
        · refine ⟨?_, by show ring.length ≤ 1000; omega⟩
          cases ring with
          | nil => exact absurd rfl q1
          | cons a r => simp
        · obtain ⟨u, v, w, _, a2, a3, a4, a5⟩ := hi i e he
          exact ⟨u, v, w, a2, a3, a4, a5⟩
        · have pw := pw_of (Y := fun i => X (N + i)) ring 0 fun i e he => by
            have := hi i e he
            rw [Nat.zero_add]
            exact this
          rw [Nat.zero_add] at pw
          have hl : ring.length = (ring.length - 1) + 1 := by
            cases ring with
            | nil => exact absurd rfl q1
            | cons a r => simp
          rw [q2, Nat.add_zero, hl] at pw
          exact B.cy _ _ _ pw) (p - 0) ([], some ((X N : Nat) : Int)) (by simp) ⟨0, by omega, rfl, rfl, fun i e he => by simp at he⟩
  obtain ⟨r, rfl, hr⟩ := hc
  exact ⟨r, e2, hr⟩
end
end
end Wk
set_option Elab.async false
set_option linter.all false
set_option maxRecDepth 100000
set_option maxHeartbeats 1000000
namespace Wk
open PySem PySem.W L3 BFd
noncomputable section
section
variable {N : Nat} {bs : List Bd} {W : Int}
/-- what told_clocks tells -/
theorem told_clocks_n (h1 : 1 ≤ N) (h30 : N ≤ 30) (hl : bs.length ≤ 200) (hW : 0 ≤ W) (hb : ∀ b ∈ bs, BdIn N W b) : ∃ r, n_told_clocks (N : Int) bs = some r ∧
    ((r.1 = tg "clocks" ∧ r.2.length = N ∧ (∀ b ∈ bs, sv r.2 b.2.1.toNat ≤ sv r.2 b.1.toNat + b.2.2) ∧ ∀ i, i < N → -(W * 6000) ≤ sv r.2 i ∧ sv r.2 i ≤ 0) ∨ (r.1 = tg "ring" ∧ Ring bs r.2.reverse)) := by
  have s30 := sz64
  obtain ⟨st, e, hst⟩ := forN_inv (k := n_told_clocks_l1 bs) (fun i s => ∃ G, BF N bs W (i * bs.length) (i + 1) 0 (s.1, s.2.1, none) G ∧ (1 ≤ i → BF N bs W (i * bs.length) i bs.length s G)) (xs := rangeI 0 N) (s := (List.replicate N 0, List.replicate N none, none)) 0
    ⟨fun _ => 0, by rw [Nat.zero_mul]; exact BF.start (by omega), fun h => absurd h (by omega)⟩ (fun i y s _ hs => by
      rw [Nat.zero_add] at hs ⊢
      obtain ⟨G, B, _⟩ := hs
      obtain ⟨s', e', G', B'⟩ := l1_step h1 hW hb (by omega) B y
      have hn : i * bs.length + bs.length = (i + 1) * bs.length := by rw [Nat.add_mul, Nat.one_mul]
      rw [hn] at B'
      exact ⟨s', e', G', B'.next (Nat.le_refl _), fun _ => B'⟩)
  rw [rangeI_len, Nat.zero_add] at hst
  obtain ⟨G, _, B⟩ := hst
  have B := B h1
  unfold n_told_clocks
  have r1 := repN_ok (a := (0 : Int)) (k := (N : Int)) (by omega) (by omega) (by omega)
  have r2 := repN_ok (a := (none : Option Int)) (k := (N : Int)) (by omega) (by omega) (by omega)
  have r3 := range1_ok (j := (N : Int)) (by omega) (by omega)
  rw [show (N : Int).toNat = N by omega] at r1 r2 r3
  rw [r1]; rw [obs]
  rw [r2]; rw [obs]
  rw [r3]; rw [obs]
  rw [e]; rw [obs]
  cases q : st.2.2 with
  | none =>
    rw [if_pos (by rfl)]
    refine ⟨_, rfl, .inl ⟨rfl, B.ls, fun b hb' => ?_, fun i hi => ?_⟩⟩
    · obtain ⟨j, hj⟩ := List.mem_iff_getElem?.mp hb'
      obtain ⟨u, v, w⟩ := b
      exact B.ns q j u v w (List.getElem?_eq_some_iff.mp hj).1 hj
    · have := B.lo i hi
      have h6 : N * bs.length ≤ 6000 := Nat.mul_le_mul h30 hl
      have h7 : W * ((N * bs.length : Nat) : Int) ≤ W * 6000 := Int.mul_le_mul_of_nonneg_left (by omega) hW
      exact ⟨Int.le_trans (Int.neg_le_neg h7) this.1, this.2⟩
  | some x =>
    rw [if_neg (by simp)]
    obtain ⟨s26, e1, r, e2, hr⟩ := whole hb B h1 h30 q
    rw [q] at e1
    rw [obs, e1, obs, e2, obs]
    exact ⟨_, rfl, .inr ⟨rfl, by rw [List.reverse_reverse]; exact hr⟩⟩
/-- clocks_for -/
theorem clocks_for_n (h1 : 1 ≤ N) (h30 : N ≤ 30) (hl : bs.length ≤ 200) (hW : 0 ≤ W) (hW2 : W ≤ 1000000000000) (hb : ∀ b ∈ bs, BdIn N W b) : ∃ r, n_clocks_for (N : Int) bs = some r ∧
    ((r.1 = tg "clocks" ∧ r.2.length = N ∧ (∀ b ∈ bs, sv r.2 b.2.1.toNat ≤ sv r.2 b.1.toNat + b.2.2) ∧ ∀ i, i < N → -(W * 6000) ≤ sv r.2 i ∧ sv r.2 i ≤ 0) ∨ (r.1 = tg "ring" ∧ Ring bs r.2.reverse)) := by
  obtain ⟨r, e, h⟩ := told_clocks_n h1 h30 hl hW hb
  refine ⟨r, ?_, h⟩
  unfold n_clocks_for
  rw [look_bounds h1 h30 hl fun b hb' => by have := hb b hb'; unfold BdIn at this ⊢; omega]
  rw [obs]
  rw [e, obs]
end
end
end Wk
set_option Elab.async false
set_option linter.all false
set_option maxRecDepth 100000
set_option maxHeartbeats 1000000
namespace Wk
open PySem PySem.W L3 BFd
noncomputable section
theorem eqD_of {α : Type} (e : α → D) [h : EqC e] [DecidableEq α] (hd : h.dep ≤ 64) (a b : α) : eqD (e a) (e b) = some (decide (a = b)) := by
  unfold eqD
  rw [shaped_of e hd, shaped_of e hd, eqv_of]; rfl
theorem told_is (w : Tg) (cs : List Int) : n_is_told ((x2 xS (xV xI)) (w, cs)) [(2 : Int)] = some true := by
  unfold n_is_told
  have h1 : lenD ((x2 xS (xV xI)) (w, cs)) = some 2 := rfl
  have h2 : dIx ((x2 xS (xV xI)) (w, cs)) (xI 0) = some (xS w) := tix2_0 _
  rw [h1, obs, h2, obs]
  rfl
theorem m1 : mulN (-(200 : Int)) 1000000000000 = some (-200000000000000) := by decide +kernel
theorem m2 : mulN (200 : Int) 1000000000000 = some 200000000000000 := by decide +kernel
section
variable {N : Nat} {bs : List Bd} {W : Int}
theorem shows_n (h1 : 1 ≤ N) (h30 : N ≤ 30) (hl : bs.length ≤ 200) (hb : ∀ b ∈ bs, BdIn N 1000000000000 b) {cs : List Int} (hc : cs.length = N) (hv : ∀ v ∈ cs, -200000000000000 ≤ v ∧ v ≤ 200000000000000) :
    n_shows_clocks_for (N : Int) bs ((x2 xS (xV xI)) (tg "clocks", cs)) = some (bs.all fun b => decide (sv cs b.2.1.toNat - sv cs b.1.toNat ≤ b.2.2)) := by
  have f0 : dIx ((x2 xS (xV xI)) (tg "clocks", cs)) (xI 0) = some (xS (tg "clocks")) := tix2_0 _
  have f1 : dIx ((x2 xS (xV xI)) (tg "clocks", cs)) (xI 1) = some ((xV xI) cs) := tix2_1 _
  have f2 : lenD ((xV xI) cs) = some (N : Int) := by show some (((cs.map xI).length : Nat) : Int) = _; rw [List.length_map, hc]
  have fi : ∀ i : Int, 0 ≤ i → i < N → dIx ((xV xI) cs) (xI i) = some (xI (sv cs i.toNat)) := fun i h0 hN => ixV_e (e := xI) (get_sv h0 (by omega))
  unfold n_shows_clocks_for
  rw [look_bounds h1 h30 hl hb, obs, told_is, obs, if_neg (by decide), f0, obs, eqD_of xS (by decide), obs, if_pos (decide_eq_true rfl), f1, obs, m1, obs, m2, obs, are_ints_V, all_in hv, obs, obs, f2, obs]
  have e1 : orN (!true) (some (!decide ((N : Int) = N))) = some false := by rw [decide_eq_true rfl]; rfl
  rw [e1, obs, if_neg (by decide), compN_map (f := fun b => decide (sv cs b.2.1.toNat - sv cs b.1.toNat ≤ b.2.2)) fun b hb' => by
    obtain ⟨a1, a2, a3, a4, _, _⟩ := hb b hb'
    rw [obs, fi _ a3 a4, obs]
    show (some (sv cs b.2.1.toNat)).bind _ = _
    rw [obs, obs, fi _ a1 a2, obs]
    show (some (sv cs b.1.toNat)).bind _ = _
    rw [obs], obs, List.all_map]
  rfl
end
end
end Wk
set_option Elab.async false
set_option linter.all false
set_option maxRecDepth 100000
set_option maxHeartbeats 1000000
namespace Wk
open PySem PySem.W L3 BFd
noncomputable section
/-! ### letters there and back -/
theorem no_ring {bs : List Bd} {r : List Int} (P : Nat → Int) (hP : ∀ b ∈ bs, P b.2.1.toNat - P b.1.toNat ≤ b.2.2) : ¬ Ring bs r := by
  rintro ⟨Y, ⟨h1, _⟩, h2, h3, h4⟩
  have key : ∀ (es : List Int) (k : Nat), (∀ i e, es[i]? = some e → ∃ u v w, 0 ≤ e ∧ bs[e.toNat]? = some (u, v, w) ∧ v.toNat = Y (k + i) ∧ u.toNat = Y (k + i + 1)) → P (Y k) - P (Y (k + es.length)) ≤ (es.map (wt bs)).sum := by
    intro es
    induction es with
    | nil => intro k _; simp
    | cons e es ih =>
      intro k h
      obtain ⟨u, v, w, a1, a2, a3, a4⟩ := h 0 e rfl
      have := ih (k + 1) fun i e' he => by
        have := h (i + 1) e' (by simpa using he)
        rw [show k + (i + 1) = k + 1 + i by omega] at this
        exact this
      have hw : wt bs e = w := by unfold wt; rw [List.getD_eq_getElem?_getD, a2]; rfl
      have hp := hP _ (List.mem_of_getElem? a2)
      rw [List.map_cons, List.sum_cons, hw, List.length_cons, show k + (es.length + 1) = k + 1 + es.length by omega]
      dsimp only at hp
      rw [a3, a4] at hp
      rw [Nat.add_zero] at hp
      omega
  have := key r 0 fun i e he => by
    rw [Nat.zero_add]
    exact h3 i e he
  rw [Nat.zero_add, h2] at this
  omega
def okL (ps : List (Int × Int)) : Bool := ps.all fun p => ps.all fun q => decide (p.1 ≤ q.2)
theorem okL_iff {ps : List (Int × Int)} : okL ps = true ↔ ∀ p ∈ ps, ∀ q ∈ ps, p.1 ≤ q.2 := by
  unfold okL
  rw [List.all_eq_true]
  constructor
  · intro h p hp q hq
    have := List.all_eq_true.mp (h p hp) q hq
    exact of_decide_eq_true this
  · intro h p hp
    rw [List.all_eq_true]
    intro q hq
    exact decide_eq_true (h p hp q hq)
theorem told_apart_n {ps : List (Int × Int)} (h : ps ≠ []) : ∃ r, n_told_apart ps = some r ∧ r.1 = (if okL ps = true then tg "apart" else tg "never") ∧
    (okL ps = true → (∃ p ∈ ps, p.1 = r.2.1) ∧ (∃ p ∈ ps, p.2 = r.2.2) ∧ r.2.1 ≤ r.2.2 ∧ ∀ p ∈ ps, p.1 ≤ r.2.1 ∧ r.2.2 ≤ p.2) := by
  obtain ⟨m, e1, m1, m2⟩ := maxE_i (xs := ps.map fun x => x.1) (by simpa using h)
  obtain ⟨k, e2, k1, k2⟩ := minE_i (xs := ps.map fun x => x.2) (by simpa using h)
  obtain ⟨p, hp, rfl⟩ := List.mem_map.mp m1
  obtain ⟨q, hq, rfl⟩ := List.mem_map.mp k1
  have m2 : ∀ x ∈ ps, x.1 ≤ p.1 := fun x hx => m2 _ (List.mem_map_of_mem hx)
  have k2 : ∀ x ∈ ps, q.2 ≤ x.2 := fun x hx => k2 _ (List.mem_map_of_mem hx)
  unfold n_told_apart
  rw [e1, obs, e2, obs]
  by_cases c : p.1 ≤ q.2
  · have ok : okL ps = true := okL_iff.mpr fun x hx y hy => by have := m2 x hx; have := k2 y hy; omega
    rw [if_pos (decide_eq_true c)]
    exact ⟨_, rfl, by rw [if_pos ok], fun _ => ⟨⟨p, hp, rfl⟩, ⟨q, hq, rfl⟩, c, fun x hx => ⟨m2 x hx, k2 x hx⟩⟩⟩
  · have ok : ¬ okL ps = true := fun z => c (okL_iff.mp z p hp q hq)
    rw [if_neg (by simpa using c)]
    obtain ⟨i, hi⟩ := indexN_some m1
    obtain ⟨j, hj⟩ := indexN_some k1
    rw [hi, obs, hj, obs]
    exact ⟨_, rfl, by rw [if_neg ok], fun z => absurd z ok⟩
abbrev Let := Int × Int × Int × Int
def btw (l : Let) : Int × Int := (l.2.2.1 - l.2.2.2, l.2.1 - l.1)
def LetIn (l : Let) : Prop := -100000000000 ≤ l.1 ∧ l.1 ≤ 100000000000 ∧ -100000000000 ≤ l.2.1 ∧ l.2.1 ≤ 100000000000 ∧ -100000000000 ≤ l.2.2.1 ∧ l.2.2.1 ≤ 100000000000 ∧ -100000000000 ≤ l.2.2.2 ∧ l.2.2.2 ≤ 100000000000
theorem clocks_apart_n {ls : List Let} (h1 : 1 ≤ ls.length) (h2 : ls.length ≤ 200) (hb : ∀ l ∈ ls, LetIn l) : ∃ r, n_clocks_apart ls = some r ∧ r.1 = (if okL (ls.map btw) = true then tg "apart" else tg "never") ∧
    (okL (ls.map btw) = true → (∃ p ∈ ls.map btw, p.1 = r.2.1) ∧ (∃ p ∈ ls.map btw, p.2 = r.2.2) ∧ r.2.1 ≤ r.2.2 ∧ ∀ p ∈ ls.map btw, p.1 ≤ r.2.1 ∧ r.2.2 ≤ p.2) := by
  obtain ⟨r, e, hr⟩ := told_apart_n (ps := ls.map btw) (by cases ls with | nil => simp at h1 | cons a r => simp)
  refine ⟨r, ?_, hr⟩
  have look : n_look_at_letters_back ls = some () := by
    unfold n_look_at_letters_back
    rw [if_neg, forN_unit fun l hl => ?_]
    · rfl
    · unfold n_look_at_letters_back_l1
      have := hb l hl
      unfold LetIn at this
      rw [are_ints_4, all_in (by simp; omega), obs, if_neg (by decide)]
    · rw [decide_eq_true (show (1 : Int) ≤ (ls.length : Int) by omega), decide_eq_true (show (ls.length : Int) ≤ 200 by omega)]
      show ¬ (!true || !(true && true)) = true
      decide
  unfold n_clocks_apart
  rw [look, obs, compN_map (k := fun l => (n_told_between l).bind fun v => some v) (f := btw) fun l _ => by unfold n_told_between; rw [obs]; rfl, obs, e, obs]
def bdsOf (ls : List Let) : List Bd := ls.flatMap fun l => [(0, 1, l.2.1 - l.1), (1, 0, l.2.2.2 - l.2.2.1)]
theorem bds_n {ls : List Let} (h2 : ls.length ≤ 100) : forN n__law_are_letters_right_l1 ls [] = some (bdsOf ls) ∧ (bdsOf ls).length = 2 * ls.length := by
  have sz := szM
  have hl : ∀ xs : List Let, (bdsOf xs).length = 2 * xs.length := fun xs => by
    induction xs with
    | nil => rfl
    | cons x xs ih =>
      unfold bdsOf at ih ⊢
      rw [List.flatMap_cons, List.length_append, ih]
      show 2 + 2 * xs.length = 2 * (xs.length + 1)
      omega
  obtain ⟨s, e, h⟩ := forN_split (k := n__law_are_letters_right_l1) (fun xs ys s => s = bdsOf xs ∧ xs.length + ys.length = ls.length) (xs := []) (ys := ls) (s := []) ⟨rfl, by simp⟩ (fun xs x ys s => by
    rintro ⟨rfl, hlen⟩
    rw [List.length_cons] at hlen
    refine ⟨bdsOf xs ++ [(0, 1, x.2.1 - x.1), (1, 0, x.2.2.2 - x.2.2.1)], ?_, ?_, ?_⟩
    · unfold n__law_are_letters_right_l1
      rw [catN_ok (by rw [hl]; simp; omega), obs]
    · unfold bdsOf; rw [List.flatMap_append]; simp
    · rw [List.length_append]; simp; omega)
  rw [List.nil_append] at h
  rw [h.1] at e
  exact ⟨e, hl ls⟩
theorem mem_bds {ls : List Let} {b : Bd} : b ∈ bdsOf ls ↔ ∃ l ∈ ls, b = (0, 1, l.2.1 - l.1) ∨ b = (1, 0, l.2.2.2 - l.2.2.1) := by
  unfold bdsOf
  rw [List.mem_flatMap]
  simp
theorem words_n {ls : List Let} (h1 : 1 ≤ ls.length) (h2 : ls.length ≤ 100) (hb : ∀ l ∈ ls, LetIn l) (k : Let → List Tg → Option (List Tg))
    (hk : ∀ x s, k x s = (compN (fun _ => some true) (fun y => (n_clocks_apart [x, y]).bind fun v => some v.1) ls).bind fun v => (extN s v).bind fun z => some z) :
    ∃ s, forN k ls [] = some s ∧ ((s.map fun x => decide (x = tg "apart")).all id = true ↔ ∀ x ∈ ls, ∀ y ∈ ls, okL [btw x, btw y] = true) := by
  have sz := szM
  have pair : ∀ x ∈ ls, ∀ y ∈ ls, ((n_clocks_apart [x, y]).bind fun v => some v.1) = some (if okL [btw x, btw y] = true then tg "apart" else tg "never") := fun x hx y hy => by
    obtain ⟨r, e, h, _⟩ := clocks_apart_n (ls := [x, y]) (by simp) (by simp) (by simp [hb x hx, hb y hy])
    rw [e, obs, h]; rfl
  have ne : tg "never" ≠ tg "apart" := by decide +kernel
  obtain ⟨s, e, h⟩ := forN_split (k := k) (fun xs ys s => s.length = xs.length * ls.length ∧ xs.length + ys.length = ls.length ∧ (∀ x ∈ ys, x ∈ ls) ∧ ((∀ w ∈ s, w = tg "apart") ↔ ∀ x ∈ xs, ∀ y ∈ ls, okL [btw x, btw y] = true)) (xs := []) (ys := ls) (s := []) ⟨by simp, by simp, fun x hx => hx, by simp⟩ (fun xs x ys s => by
    rintro ⟨a1, a2, a3, a4⟩
    rw [List.length_cons] at a2
    have hx := a3 x (List.mem_cons_self ..)
    have hsz : xs.length * ls.length ≤ 100 * 100 := Nat.mul_le_mul (by omega) h2
    rw [hk, compN_map (f := fun y => if okL [btw x, btw y] = true then tg "apart" else tg "never") fun y hy => pair x hx y hy, obs, extN_ok (by rw [a1, List.length_map]; omega), obs]
    refine ⟨_, rfl, by rw [List.length_append, List.length_map, a1, List.length_append, List.length_singleton, Nat.add_mul, Nat.one_mul], by rw [List.length_append, List.length_singleton]; omega, fun z hz => a3 z (List.mem_cons_of_mem _ hz), ?_⟩
    constructor
    · intro h z hz y hy
      rcases List.mem_append.mp hz with hz | hz
      · exact a4.mp (fun w hw => h w (List.mem_append_left _ hw)) z hz y hy
      · have : z = x := by simpa using hz
        subst this
        have := h _ (List.mem_append_right _ (List.mem_map_of_mem hy))
        by_cases q : okL [btw z, btw y] = true
        · exact q
        · rw [if_neg q] at this; exact absurd this ne
    · intro h w hw
      rcases List.mem_append.mp hw with hw | hw
      · exact a4.mpr (fun z hz y hy => h z (List.mem_append_left _ hz) y hy) w hw
      · obtain ⟨y, hy, rfl⟩ := List.mem_map.mp hw
        rw [if_pos (h x (by simp) y hy)])
  rw [List.nil_append] at h
  refine ⟨s, e, ?_⟩
  rw [← h.2.2.2, List.all_eq_true]
  simp
theorem okL_pairs {ls : List Let} : (∀ x ∈ ls, ∀ y ∈ ls, okL [btw x, btw y] = true) ↔ okL (ls.map btw) = true := by
  rw [okL_iff]
  constructor
  · intro h p hp q hq
    obtain ⟨x, hx, rfl⟩ := List.mem_map.mp hp
    obtain ⟨y, hy, rfl⟩ := List.mem_map.mp hq
    exact okL_iff.mp (h x hx y hy) _ (by simp) _ (by simp)
  · intro h x hx y hy
    rw [okL_iff]
    intro p hp q hq
    refine h p ?_ q ?_
    · rcases List.mem_cons.mp hp with rfl | hp
      · exact List.mem_map_of_mem hx
      · rcases List.mem_cons.mp hp with rfl | hp
        · exact List.mem_map_of_mem hy
        · simp at hp
    · rcases List.mem_cons.mp hq with rfl | hq
      · exact List.mem_map_of_mem hx
      · rcases List.mem_cons.mp hq with rfl | hq
        · exact List.mem_map_of_mem hy
        · simp at hq
end
end Wk
set_option Elab.async false
set_option linter.all false
set_option maxRecDepth 100000
set_option maxHeartbeats 1000000
namespace Wk
open PySem PySem.W L3 BFd
noncomputable section
theorem never_apart : tg "never" ≠ tg "apart" := by decide +kernel
theorem ring_clocks : tg "ring" ≠ tg "clocks" := by decide +kernel
theorem clocks_ring : tg "clocks" ≠ tg "ring" := by decide +kernel
theorem shows_2 {bs : List Bd} (hl : bs.length ≤ 200) (hb : ∀ b ∈ bs, BdIn 2 1000000000000 b) {x : Int} (hx : -200000000000000 ≤ x ∧ x ≤ 200000000000000) :
    n_shows_clocks_for (2 : Int) bs ((x2 xS (x2 xI xI)) (tg "clocks", ((0 : Int), x))) = some (bs.all fun b => decide (sv [0, x] b.2.1.toNat - sv [0, x] b.1.toNat ≤ b.2.2)) :=
  shows_n (N := 2) (cs := [0, x]) (by decide) (by decide) hl hb rfl (fun v hv => by
    rcases List.mem_cons.mp hv with rfl | hv
    · decide
    · have : v = x := by simpa using hv
      rw [this]; exact hx)
theorem letters_right_n {ls : List Let} (h1 : 1 ≤ ls.length) (h2 : ls.length ≤ 100) (hb : ∀ l ∈ ls, LetIn l) : n__law_are_letters_right ls = some true := by
  obtain ⟨r, e, r1, r2⟩ := clocks_apart_n h1 (by omega) hb
  obtain ⟨e2, hlen⟩ := bds_n h2
  have bin : ∀ b ∈ bdsOf ls, BdIn 2 1000000000000 b := fun b hb' => by
    obtain ⟨l, hl, q⟩ := mem_bds.mp hb'
    have := hb l hl
    unfold LetIn at this
    rcases q with rfl | rfl <;> (unfold BdIn; dsimp only; omega)
  obtain ⟨c, e3, hc⟩ := clocks_for_n (N := 2) (W := 1000000000000) (by decide) (by decide) (bs := bdsOf ls) (by omega) (by decide) (by decide) bin
  have e3 : n_clocks_for (2 : Int) (bdsOf ls) = some c := e3
  obtain ⟨s, e4, hs⟩ := words_n h1 h2 hb (n__law_are_letters_right_l4 ls) fun x s => rfl
  obtain ⟨s', e5, hs'⟩ := words_n h1 h2 hb (n__law_are_letters_right_l4v2 ls) fun x s => rfl
  unfold n__law_are_letters_right
  rw [e, obs, e2, obs, e3, obs]
  by_cases ok : okL (ls.map btw) = true
  · rw [if_pos ok] at r1
    obtain ⟨⟨p, hp, p1⟩, ⟨q, hq, q1⟩, le, al⟩ := r2 ok
    -- clocks
    have hcl : c.1 = tg "clocks" ∧ c.2.length = 2 ∧ (∀ b ∈ bdsOf ls, sv c.2 b.2.1.toNat ≤ sv c.2 b.1.toNat + b.2.2) := by
      rcases hc with ⟨a, b, d, _⟩ | ⟨_, hr⟩
      · exact ⟨a, b, d⟩
      · refine absurd hr (no_ring (fun i => if i = 0 then 0 else r.2.1) fun b hb' => ?_)
        obtain ⟨l, hl, z⟩ := mem_bds.mp hb'
        have := al (btw l) (List.mem_map_of_mem hl)
        unfold btw at this
        rcases z with rfl | rfl <;> (simp; omega)
    obtain ⟨c1, c2, c3⟩ := hcl
    rw [if_neg (by rw [decide_eq_true r1, decide_eq_true c1]; decide), if_pos (decide_eq_true r1)]
    rw [get_sv (by decide) (by rw [c2]; decide), obs, get_sv (by decide) (by rw [c2]; decide), obs]
    obtain ⟨lp, hlp, rfl⟩ := List.mem_map.mp hp
    obtain ⟨lq, hlq, rfl⟩ := List.mem_map.mp hq
    have b1 := c3 _ (mem_bds.mpr ⟨lp, hlp, .inr rfl⟩)
    have b2 := c3 _ (mem_bds.mpr ⟨lq, hlq, .inl rfl⟩)
    have i1 := hb lp hlp
    have i2 := hb lq hlq
    unfold LetIn at i1 i2
    unfold btw at p1 q1
    dsimp only at b1 b2 p1 q1
    rw [if_neg (by
      rw [decide_eq_true (show r.2.1 ≤ sv c.2 (1 : Int).toNat - sv c.2 (0 : Int).toNat by omega), decide_eq_true (show sv c.2 (1 : Int).toNat - sv c.2 (0 : Int).toNat ≤ r.2.2 by omega)]; decide)]
    have good : ∀ x, r.2.1 ≤ x → x ≤ r.2.2 → ((bdsOf ls).all fun b => decide (sv [0, x] b.2.1.toNat - sv [0, x] b.1.toNat ≤ b.2.2)) = true := fun x x1 x2 => by
      rw [List.all_eq_true]
      intro b hb'
      obtain ⟨l, hl, z⟩ := mem_bds.mp hb'
      have := al (btw l) (List.mem_map_of_mem hl)
      unfold btw at this
      rcases z with rfl | rfl
      · exact decide_eq_true (by show x - 0 ≤ l.2.1 - l.1; omega)
      · exact decide_eq_true (by show 0 - x ≤ l.2.2.2 - l.2.2.1; omega)
    have bad1 : ((bdsOf ls).all fun b => decide (sv [0, r.2.1 - 1] b.2.1.toNat - sv [0, r.2.1 - 1] b.1.toNat ≤ b.2.2)) = false := by
      rw [List.all_eq_false]
      exact ⟨_, mem_bds.mpr ⟨lp, hlp, .inr rfl⟩, by
        rw [decide_eq_true_iff]
        show ¬ (0 - (r.2.1 - 1) ≤ lp.2.2.2 - lp.2.2.1)
        omega⟩
    have bad2 : ((bdsOf ls).all fun b => decide (sv [0, r.2.2 + 1] b.2.1.toNat - sv [0, r.2.2 + 1] b.1.toNat ≤ b.2.2)) = false := by
      rw [List.all_eq_false]
      exact ⟨_, mem_bds.mpr ⟨lq, hlq, .inl rfl⟩, by
        rw [decide_eq_true_iff]
        show ¬ ((r.2.2 + 1) - 0 ≤ lq.2.1 - lq.1)
        omega⟩
    rw [forR_unit fun x hx => ?_, obs]
    · show (Option.bind _ _) = _
      rw [forR_unit fun x hx => ?_, obs]
      · show (Option.bind _ _) = _
        rw [e4, obs]
        rw [show (List.all (s.map fun x => decide (x = tg "apart")) id) = true from hs.mpr (okL_pairs.mpr ok), decide_eq_true r1]
        rfl
      · unfold n__law_are_letters_right_l3
        rcases List.mem_cons.mp hx with rfl | hx
        · rw [shows_2 (by omega) bin (by omega), bad1, obs]; rfl
        · have : x = r.2.2 + 1 := by simpa using hx
          subst this
          rw [shows_2 (by omega) bin (by omega), bad2, obs]; rfl
    · unfold n__law_are_letters_right_l2
      rcases List.mem_cons.mp hx with rfl | hx
      · rw [shows_2 (by omega) bin (by omega), good _ (by omega) (by omega), obs]; rfl
      · have : x = r.2.2 := by simpa using hx
        subst this
        rw [shows_2 (by omega) bin (by omega), good _ (by omega) (by omega), obs]; rfl
  · rw [if_neg ok] at r1
    have hcl : c.1 = tg "ring" := by
      rcases hc with ⟨_, b, d, _⟩ | ⟨a, _⟩
      · exfalso
        refine ok (okL_iff.mpr fun p hp q hq => ?_)
        obtain ⟨lp, hlp, rfl⟩ := List.mem_map.mp hp
        obtain ⟨lq, hlq, rfl⟩ := List.mem_map.mp hq
        have b1 := d _ (mem_bds.mpr ⟨lp, hlp, .inr rfl⟩)
        have b2 := d _ (mem_bds.mpr ⟨lq, hlq, .inl rfl⟩)
        unfold btw
        dsimp only at b1 b2 ⊢
        omega
      · exact a
    have d1 : decide (r.1 = tg "apart") = false := decide_eq_false (by rw [r1]; exact never_apart)
    have d2 : decide (c.1 = tg "clocks") = false := decide_eq_false (by rw [hcl]; exact ring_clocks)
    rw [if_neg (by rw [d1, d2]; decide), if_neg (by rw [d1]; decide), e5, obs, d1]
    have : (List.all (s'.map fun x => decide (x = tg "apart")) id) = false := by
      cases q : (List.all (s'.map fun x => decide (x = tg "apart")) id) with
      | false => rfl
      | true => exact absurd (okL_pairs.mp (hs'.mp q)) ok
    rw [this]
    rfl
end
end Wk
set_option Elab.async false
set_option linter.all false
set_option maxRecDepth 100000
set_option maxHeartbeats 1000000
namespace Wk
open PySem PySem.W L3 BFd
noncomputable section
theorem p9 : powN (10 : Int) 9 = some 1000000000 := by decide +kernel
theorem p6 : powN (10 : Int) 6 = some 1000000 := by decide +kernel
theorem letters_drawn_n {n : Nat} {C : Cel} (hp : Pot n C) (hn : n ≤ 900000) : ∃ w, n__law_letters_drawn C = some w ∧ 1 ≤ w.1.length ∧ w.1.length ≤ 5 ∧ (∀ l ∈ w.1, LetIn l) ∧ Pot (n + 28) w.2 := by
  have sz := szM
  obtain ⟨w3, e3, m3, P3⟩ := of_n hp (by omega) (xs := [(4 : Int), 30, 1000000000]) (by decide) (by decide)
  have u3 : 4 ≤ w3.1 ∧ w3.1 ≤ 1000000000 := by
    simp at m3
    omega
  obtain ⟨w5, e5, a5, b5, P5⟩ := take_n P3 (by omega) (up := 2 * w3.1 + 1) (by omega) (by omega)
  obtain ⟨w6, e6, a6, b6, P6⟩ := take_n P5 (by omega) (up := 5) (by decide) (by decide)
  have rg := range1_ok (j := 1 + w6.1) (by omega) (by omega)
  obtain ⟨s, e, h⟩ := forN_inv (k := n__law_letters_drawn_l1 w3 w5) (fun i s => Pot (n + 3 + 5 * i) s.1 ∧ s.2.length = i ∧ ∀ l ∈ s.2, LetIn l) (xs := rangeI 0 (1 + w6.1).toNat) (s := (w6.2, [])) 0 ⟨P6, rfl, by simp⟩ (fun i x s hx => by
    rw [Nat.zero_add]
    rintro ⟨P, hl, hi⟩
    have hlt : i < (1 + w6.1).toNat := by
      have := (List.getElem?_eq_some_iff.mp hx).1
      rwa [rangeI_len] at this
    obtain ⟨v1, f1, c1, d1, P1⟩ := take_n P (by omega) (up := 1000000) (by decide) (by decide)
    obtain ⟨v2, f2, c2, d2, P2⟩ := take_n P1 (by omega) (up := w3.1) (by omega) (by omega)
    obtain ⟨v3, f3, c3, d3, P3'⟩ := take_n P2 (by omega) (up := 4) (by decide) (by decide)
    obtain ⟨v4, f4, c4, d4, P4⟩ := take_n P3' (by omega) (up := 99) (by decide) (by decide)
    obtain ⟨v5, f5, c5, d5, P5'⟩ := take_n P4 (by omega) (up := w3.1) (by omega) (by omega)
    unfold n__law_letters_drawn_l1
    rw [p6, obs, f1, obs, f2, obs, f3, obs, fdivN_ok (by decide) (by decide +kernel), obs, f4, obs, f5, obs, appN_ok (by omega), obs]
    have hq : 0 ≤ v3.1 / 3 ∧ v3.1 / 3 ≤ 4 := by omega
    refine ⟨_, rfl, P5'.mono (by omega), by rw [List.length_append, hl]; rfl, fun l hl' => ?_⟩
    rcases List.mem_append.mp hl' with hl' | hl'
    · exact hi l hl'
    · have : l = _ := List.mem_singleton.mp hl'
      subst this
      unfold LetIn
      dsimp only
      omega)
  rw [rangeI_len, Nat.zero_add] at h
  refine ⟨(s.2, s.1), ?_, by show 1 ≤ s.2.length; omega, by show s.2.length ≤ 5; omega, h.2.2, h.1.mono (by omega)⟩
  unfold n__law_letters_drawn
  rw [p9, obs, e3, obs, mulN_ok (by decide +kernel) (Nat.lt_of_le_of_lt (show w3.1.natAbs ≤ 1000000000 by omega) (by decide +kernel)), obs, e5, obs, e6, obs, rg, obs, e, obs]
/-! ### spans -/
abbrev Sp := Int × Int
def has (x : Int) (s : Sp) : Bool := decide (s.1 ≤ x) && decide (x ≤ s.2)
def cnt (ss : List Sp) (x : Int) : Nat := (ss.filter (has x)).length
theorem has_iff {x : Int} {s : Sp} : has x s = true ↔ s.1 ≤ x ∧ x ≤ s.2 := by unfold has; simp
def SpIn (s : Sp) : Prop := -1000000000000 ≤ s.1 ∧ s.1 ≤ s.2 ∧ s.2 ≤ 1000000000000
theorem look_spans {ss : List Sp} (h1 : 1 ≤ ss.length) (h2 : ss.length ≤ 200) (hb : ∀ s ∈ ss, SpIn s) : n_look_at_spans ss = some () := by
  unfold n_look_at_spans
  rw [if_neg, forN_unit fun l hl => ?_, obs]
  · unfold n_look_at_spans_l1
    have := hb l hl
    unfold SpIn at this
    rw [are_ints_2, all_in (by simp; omega), obs, if_neg (by rw [decide_eq_false (show ¬ l.2 < l.1 by omega)]; decide)]
  · rw [decide_eq_true (show (1 : Int) ≤ (ss.length : Int) by omega), decide_eq_true (show (ss.length : Int) ≤ 200 by omega)]
    show ¬ (!true || !(true && true)) = true
    decide
theorem cnt_le {ss : List Sp} {x y : Int} (h : ∀ s ∈ ss, has x s = true → has y s = true) : cnt ss x ≤ cnt ss y := by
  unfold cnt
  induction ss with
  | nil => exact Nat.le_refl _
  | cons s ss ih =>
    have ih := ih fun t ht => h t (List.mem_cons_of_mem _ ht)
    rw [List.filter_cons, List.filter_cons]
    by_cases q : has x s = true
    · rw [if_pos q, if_pos (h s (List.mem_cons_self ..) q), List.length_cons, List.length_cons]; omega
    · rw [if_neg q]
      split
      · rw [List.length_cons]; omega
      · exact ih
theorem cnt_pos {ss : List Sp} {x : Int} (h : 1 ≤ cnt ss x) : ∃ s ∈ ss, has x s = true := by
  unfold cnt at h
  cases q : ss.filter (has x) with
  | nil => rw [q] at h; simp at h
  | cons s r => exact ⟨s, (List.mem_filter.mp (by rw [q]; exact List.mem_cons_self ..)).1, (List.mem_filter.mp (show s ∈ ss.filter (has x) by rw [q]; exact List.mem_cons_self ..)).2⟩
/-- what most_agree tells: as many as any number lies in, from .. to -/
theorem most_agree_n {ss : List Sp} (h1 : 1 ≤ ss.length) (h2 : ss.length < 64) (hb : ∀ s ∈ ss, SpIn s) : ∃ r : Int × Int × Int, n_most_agree ss = some r ∧ (∀ x, (cnt ss x : Int) ≤ r.1) ∧ (cnt ss r.2.1 : Int) = r.1 ∧ (cnt ss r.2.2 : Int) = r.1 := by
  have filt : ∀ x : Int, (ss.filter fun (s : Int × Int) => ((decide (s.1 ≤ x)) && (decide (x ≤ s.2)))).map (fun (s : Int × Int) => s) = ss.filter (has x) := fun x => List.map_id' _
  obtain ⟨r, e, h⟩ := forN_split (k := n_most_agree_l1 ss) (fun xs ys s => (∀ x ∈ ys, ∃ t ∈ ss, t.1 = x) ∧ (∀ x ∈ xs, (cnt ss x : Int) ≤ s.1) ∧ ((s.1 = 0 ∧ xs = []) ∨ ((cnt ss s.2.1 : Int) = s.1 ∧ (∀ t ∈ ss, has s.2.1 t = true → s.2.2 ≤ t.2) ∧ ∃ t ∈ ss, has s.2.1 t = true ∧ t.2 = s.2.2)))
    (xs := []) (ys := ssetI (ss.map fun x => x.1)) (s := (0, 0, 0)) ⟨fun x hx => by
      obtain ⟨t, ht, rfl⟩ := List.mem_map.mp (mem_ssetI.mp hx)
      exact ⟨t, ht, rfl⟩, by simp, .inl ⟨rfl, rfl⟩⟩ (fun xs x ys s => by
      rintro ⟨a1, a2, a3⟩
      obtain ⟨t0, ht0, hx0⟩ := a1 x (List.mem_cons_self ..)
      have hc : has x t0 = true := has_iff.mpr ⟨by omega, by have := hb t0 ht0; unfold SpIn at this; omega⟩
      have pos : 1 ≤ cnt ss x := by
        unfold cnt
        exact List.length_pos_of_mem (List.mem_filter.mpr ⟨ht0, hc⟩)
      unfold n_most_agree_l1
      rw [filt]
      have more : ∀ {b : Int}, (∀ y ∈ xs, (cnt ss y : Int) ≤ b) → (cnt ss x : Int) ≤ b → ∀ y ∈ xs ++ [x], (cnt ss y : Int) ≤ b := fun h1 h2 y hy => by
        rcases List.mem_append.mp hy with hy | hy
        · exact h1 y hy
        · rw [List.mem_singleton.mp hy]; exact h2
      by_cases q : s.1 < ((ss.filter (has x)).length : Int)
      · rw [if_pos (decide_eq_true q)]
        obtain ⟨m, em, m1, m2⟩ := minE_i (xs := (ss.filter (has x)).map fun (s : Int × Int) => s.2) (by
          intro z
          have : ss.filter (has x) = [] := List.map_eq_nil_iff.mp z
          have p := pos
          unfold cnt at p
          rw [this] at p; simp at p)
        rw [em, obs]
        obtain ⟨t, ht, hm⟩ := List.mem_map.mp m1
        have ht := List.mem_filter.mp ht
        refine ⟨_, rfl, fun y hy => a1 y (List.mem_cons_of_mem _ hy), more (fun y hy => by have := a2 y hy; dsimp only; omega) (Int.le_refl _), .inr ⟨rfl, fun u hu hx => m2 _ (List.mem_map_of_mem (List.mem_filter.mpr ⟨hu, hx⟩)), t, ht.1, ht.2, hm⟩⟩
      · rw [if_neg (by simpa using q)]
        refine ⟨_, rfl, fun y hy => a1 y (List.mem_cons_of_mem _ hy), more a2 (by unfold cnt; omega), ?_⟩
        rcases a3 with ⟨z, _⟩ | a3
        · have p := pos
          unfold cnt at p
          omega
        · exact .inr a3)
  rw [List.nil_append] at h
  obtain ⟨_, h2', h3⟩ := h
  obtain ⟨s0, hs0⟩ : ∃ s0, s0 ∈ ss := by
    cases ss with
    | nil => simp at h1
    | cons a r => exact ⟨a, List.mem_cons_self ..⟩
  have inS : ∀ t ∈ ss, (cnt ss t.1 : Int) ≤ r.1 := fun t ht => h2' _ (mem_ssetI.mpr (List.mem_map_of_mem ht))
  have all : ∀ x, (cnt ss x : Int) ≤ r.1 := fun x => by
    rcases Nat.eq_zero_or_pos (cnt ss x) with z | z
    · rw [z]
      have := inS s0 hs0
      omega
    · -- the last that begins
      obtain ⟨t, ht, hx⟩ := cnt_pos z
      obtain ⟨m, em, m1, m2⟩ := maxE_i (xs := (ss.filter (has x)).map fun (s : Int × Int) => s.1) (by
        intro y
        have : ss.filter (has x) = [] := List.map_eq_nil_iff.mp y
        have p := List.mem_filter.mpr ⟨ht, hx⟩
        rw [this] at p; simp at p)
      obtain ⟨u, hu, rfl⟩ := List.mem_map.mp m1
      have hu := List.mem_filter.mp hu
      have hux := has_iff.mp hu.2
      have := cnt_le (ss := ss) (x := x) (y := u.1) fun s hs hxs => by
        have a := m2 s.1 (List.mem_map_of_mem (List.mem_filter.mpr ⟨hs, hxs⟩))
        have b := has_iff.mp hxs
        exact has_iff.mpr ⟨a, by omega⟩
      have := inS u hu.1
      omega
  refine ⟨r, ?_, all, ?_⟩
  · unfold n_most_agree
    rw [look_spans h1 (by omega) hb, obs]
    unfold ssetN
    rw [if_pos (by rw [List.length_map]; exact h2), obs, e, obs]
  · rcases h3 with ⟨_, z⟩ | ⟨c1, c2, t, ht, c3, c4⟩
    · have := mem_ssetI.mpr (List.mem_map_of_mem (f := fun (x : Int × Int) => x.1) hs0)
      rw [z] at this; simp at this
    · refine ⟨c1, ?_⟩
      have hlow := has_iff.mp c3
      have := cnt_le (ss := ss) (x := r.2.1) (y := r.2.2) fun s hs hx => by
        have a := c2 s hs hx
        have b := has_iff.mp hx
        exact has_iff.mpr ⟨by omega, a⟩
      have := all r.2.2
      omega
end
end Wk
set_option Elab.async false
set_option linter.all false
set_option maxRecDepth 100000
set_option maxHeartbeats 1000000
namespace Wk
open PySem PySem.W L3 BFd
noncomputable section
/-! ### points that meet all spans -/
abbrev Tr := Int × Int × Int
def lt3 (a b : Tr) : Prop := a.1 < b.1 ∨ a.1 = b.1 ∧ (a.2.1 < b.2.1 ∨ a.2.1 = b.2.1 ∧ a.2.2 < b.2.2)
instance (a b : Tr) : Decidable (lt3 a b) := by unfold lt3; infer_instance
theorem ltE_3 (a b : Tr) : ltE (x3 xI xI xI) a b = decide (lt3 a b) := by
  have : ltE (x3 xI xI xI) a b = decide (([a.1, a.2.1, a.2.2] : List Int) < [b.1, b.2.1, b.2.2]) := lt_row a.1 b.1 [a.2.1, a.2.2] [b.2.1, b.2.2]
  rw [this]
  congr 1
  unfold lt3
  simp [List.cons_lt_cons_iff]
theorem sort3 (xs : List Tr) : (sortE (x3 xI xI xI) xs).Pairwise (fun a b => ¬ lt3 b a) := by
  have := List.pairwise_mergeSort (le := fun a b : Tr => !ltE (x3 xI xI xI) b a) (fun a b c h1 h2 => by
    rw [ltE_3] at h1 h2 ⊢
    simp at h1 h2 ⊢
    unfold lt3 at h1 h2 ⊢
    omega) (fun a b => by
    rw [ltE_3, ltE_3]
    simp
    unfold lt3
    omega) xs
  refine this.imp fun h => ?_
  rw [ltE_3] at h
  simpa using h
theorem sort3_eq {xs ys : List Tr} (hp : ys.Perm xs) (hs : ys.Pairwise (fun a b => ¬ lt3 b a)) : ys = sortE (x3 xI xI xI) xs :=
  List.Perm.eq_of_pairwise (le := fun a b => ¬ lt3 b a) (fun x y _ _ h1 h2 => by
    unfold lt3 at h1 h2
    have : x.1 = y.1 ∧ x.2.1 = y.2.1 ∧ x.2.2 = y.2.2 := by omega
    exact Prod.ext this.1 (Prod.ext this.2.1 this.2.2)) hs (sort3 xs) (hp.trans (sortE_perm _ xs).symm)
theorem rev_ind {α : Type} {P : List α → Prop} (xs : List α) (h0 : P []) (h1 : ∀ xs x, P xs → P (xs ++ [x])) : P xs := by
  have : ∀ n (xs : List α), xs.length = n → P xs := by
    intro n
    induction n with
    | zero => intro xs h; rw [List.length_eq_zero_iff.mp h]; exact h0
    | succ n ih =>
      intro xs h
      rcases List.eq_nil_or_concat xs with rfl | ⟨L, b, rfl⟩
      · simp at h
      · rw [List.concat_eq_append] at h ⊢
        exact h1 _ _ (ih _ (by simpa using h))
  exact this _ xs rfl
def late (P : List Int) (lo : Int) : Bool := match P.getLast? with
  | none => true
  | some z => decide (z < lo)
def gs (s : List Int × List Int) (x : Tr) : List Int × List Int := if late s.1 x.2.1 = true then (s.1 ++ [x.1], s.2 ++ [x.2.2]) else s
def pts (xs : List Tr) : List Int × List Int := xs.foldl gs ([], [])
theorem pts_snoc (xs : List Tr) (x : Tr) : pts (xs ++ [x]) = gs (pts xs) x := by unfold pts; rw [List.foldl_append]; rfl
theorem pts_len (xs : List Tr) : (pts xs).1.length ≤ xs.length ∧ (pts xs).2.length ≤ xs.length := by
  refine rev_ind (P := fun xs => (pts xs).1.length ≤ xs.length ∧ (pts xs).2.length ≤ xs.length) xs ?_ ?_
  · exact ⟨Nat.le_refl _, Nat.le_refl _⟩
  · intro xs x ih
    rw [pts_snoc, List.length_append, List.length_singleton]
    unfold gs
    split
    · dsimp only; rw [List.length_append, List.length_append, List.length_singleton, List.length_singleton]; omega
    · omega
theorem late_get {P : List Int} {lo : Int} : orN (decide (P = [])) ((getI P (-(1 : Int))).bind fun v => some (decide (v < lo))) = some (late P lo) := by
  rcases List.eq_nil_or_concat P with rfl | ⟨Q, z, rfl⟩
  · rfl
  · rw [List.concat_eq_append, decide_eq_false (by simp)]
    unfold orN
    rw [if_neg (by decide), getI_last, obs]
    unfold late
    rw [List.getLast?_append]; rfl
theorem told_points_n {ss : List Sp} (h : ss.length ≤ 1000) : n_told_points ss = some ((pts (sortE (x3 xI xI xI) ((enumI 0 ss).map fun x => (x.2.2, x.2.1, x.1)))).1, sortE xI (pts (sortE (x3 xI xI xI) ((enumI 0 ss).map fun x => (x.2.2, x.2.1, x.1)))).2) := by
  have sz := szM
  have hl : (sortE (x3 xI xI xI) ((enumI 0 ss).map fun x => (x.2.2, x.2.1, x.1))).length = ss.length := by
    rw [(sortE_perm _ _).length_eq, List.length_map, enumI_len]
  obtain ⟨s, e, hs⟩ := forN_split (k := n_told_points_l1) (fun xs ys s => s = pts xs ∧ xs.length + ys.length ≤ 1000) (xs := []) (ys := sortE (x3 xI xI xI) ((enumI 0 ss).map fun x => (x.2.2, x.2.1, x.1))) (s := ([], [])) ⟨rfl, by rw [hl]; simpa using h⟩ (fun xs x ys s => by
    rintro ⟨rfl, hlen⟩
    rw [List.length_cons] at hlen
    have pl := pts_len xs
    refine ⟨gs (pts xs) x, ?_, (pts_snoc xs x).symm, by rw [List.length_append, List.length_singleton]; omega⟩
    unfold n_told_points_l1
    rw [late_get, obs]
    unfold gs
    by_cases q : late (pts xs).1 x.2.1 = true
    · rw [if_pos q, if_pos q, appN_ok (by omega), obs, appN_ok (by omega), obs]
    · rw [if_neg q, if_neg q])
  rw [List.nil_append] at hs
  unfold n_told_points
  rw [e, obs, hs.1]
/-- the points, of spans told from their ends on -/
def inT (x : Int) (t : Tr) : Prop := t.2.1 ≤ x ∧ x ≤ t.1
theorem pts_facts (xs : List Tr) (ok : ∀ t ∈ xs, t.2.1 ≤ t.1) (srt : xs.Pairwise (fun a b => ¬ lt3 b a)) : (xs ≠ [] → ∃ z, (pts xs).1.getLast? = some z ∧ (∀ t ∈ xs, t.2.1 ≤ z) ∧ ∃ t ∈ xs, t.1 = z) ∧ (∀ t ∈ xs, ∃ p ∈ (pts xs).1, inT p t) ∧ ∀ p ∈ (pts xs).1, ∃ t ∈ xs, t.1 = p := by
  revert ok srt
  refine rev_ind (P := fun xs => (∀ t ∈ xs, t.2.1 ≤ t.1) → xs.Pairwise (fun a b => ¬ lt3 b a) → (xs ≠ [] → ∃ z, (pts xs).1.getLast? = some z ∧ (∀ t ∈ xs, t.2.1 ≤ z) ∧ ∃ t ∈ xs, t.1 = z) ∧ (∀ t ∈ xs, ∃ p ∈ (pts xs).1, inT p t) ∧ ∀ p ∈ (pts xs).1, ∃ t ∈ xs, t.1 = p) xs ?_ ?_
  · intro _ _; exact ⟨fun h => absurd rfl h, fun t h => by simp at h, fun p h => by simp [pts] at h⟩
  · intro xs x ih ok srt
    rw [List.pairwise_append] at srt
    obtain ⟨i1, i2, i3⟩ := ih (fun t ht => ok t (List.mem_append_left _ ht)) srt.1
    have okx := ok x (by simp)
    have ord : ∀ t ∈ xs, t.1 ≤ x.1 := fun t ht => by
      have := srt.2.2 t ht x (by simp)
      unfold lt3 at this; omega
    rw [pts_snoc]
    unfold gs
    by_cases q : late (pts xs).1 x.2.1 = true
    · rw [if_pos q]
      refine ⟨fun _ => ⟨x.1, by rw [List.getLast?_append]; rfl, fun t ht => ?_, x, by simp, rfl⟩, fun t ht => ?_, fun p hp => ?_⟩
      · rcases List.mem_append.mp ht with ht | ht
        · have := ok t (List.mem_append_left _ ht); have := ord t ht; omega
        · rw [List.mem_singleton.mp ht]; exact okx
      · rcases List.mem_append.mp ht with ht | ht
        · obtain ⟨p, hp, h⟩ := i2 t ht
          exact ⟨p, List.mem_append_left _ hp, h⟩
        · rw [List.mem_singleton.mp ht]; exact ⟨x.1, by simp, okx, Int.le_refl _⟩
      · rcases List.mem_append.mp hp with hp | hp
        · obtain ⟨t, ht, h⟩ := i3 p hp
          exact ⟨t, List.mem_append_left _ ht, h⟩
        · exact ⟨x, by simp, (List.mem_singleton.mp hp).symm⟩
    · rw [if_neg q]
      have ne : xs ≠ [] := fun z => by subst z; exact q rfl
      obtain ⟨z, z1, z2, u, hu, z3⟩ := i1 ne
      have hz : x.2.1 ≤ z := by
        unfold late at q
        rw [z1] at q
        simpa using q
      refine ⟨fun _ => ⟨z, z1, fun t ht => ?_, u, List.mem_append_left _ hu, z3⟩, fun t ht => ?_, fun p hp => ?_⟩
      · rcases List.mem_append.mp ht with ht | ht
        · exact z2 t ht
        · rw [List.mem_singleton.mp ht]; exact hz
      · rcases List.mem_append.mp ht with ht | ht
        · exact i2 t ht
        · rw [List.mem_singleton.mp ht]
          refine ⟨z, List.mem_of_getLast? z1, hz, ?_⟩
          have := ord u hu; omega
      · obtain ⟨t, ht, h⟩ := i3 p hp
        exact ⟨t, List.mem_append_left _ ht, h⟩
/-- all in one point: one point -/
theorem pts_one {xs : List Tr} (ok : ∀ t ∈ xs, t.2.1 ≤ t.1) (srt : xs.Pairwise (fun a b => ¬ lt3 b a)) {c : Int} (hc : ∀ t ∈ xs, inT c t) (ne : xs ≠ []) : (pts xs).1.length = 1 := by
  revert ok srt hc ne
  refine rev_ind (P := fun xs => (∀ t ∈ xs, t.2.1 ≤ t.1) → xs.Pairwise (fun a b => ¬ lt3 b a) → (∀ t ∈ xs, inT c t) → xs ≠ [] → (pts xs).1.length = 1) xs (fun _ _ _ h => absurd rfl h) ?_
  intro xs x ih ok srt hc _
  have srt0 := srt
  rw [List.pairwise_append] at srt
  rw [pts_snoc]
  unfold gs
  by_cases e : xs = []
  · subst e; rfl
  · have i := ih (fun t ht => ok t (List.mem_append_left _ ht)) srt.1 (fun t ht => hc t (List.mem_append_left _ ht)) e
    obtain ⟨i1, _, _⟩ := pts_facts xs (fun t ht => ok t (List.mem_append_left _ ht)) srt.1
    obtain ⟨z, z1, z2, u, hu, z3⟩ := i1 e
    have a := hc u (List.mem_append_left _ hu)
    have b := hc x (by simp)
    unfold inT at a b
    rw [if_neg]
    · exact i
    · unfold late
      rw [z1]
      simp; omega
theorem piece {ss : List Sp} {p : Int} {P : List Int} (h : ∀ s ∈ ss, ∃ p ∈ P, has p s = true) {m : Nat} (hm : ∀ p, cnt ss p ≤ m) : ss.length ≤ P.length * m := by
  induction P generalizing ss with
  | nil =>
    cases ss with
    | nil => simp
    | cons s r => obtain ⟨p, hp, _⟩ := h s (List.mem_cons_self ..); simp at hp
  | cons q P ih =>
    have key : ss.length = cnt ss q + (ss.filter fun s => !has q s).length := by
      unfold cnt
      clear ih h hm
      induction ss with
      | nil => rfl
      | cons s r ih =>
        rw [List.filter_cons, List.filter_cons]
        by_cases z : has q s = true
        · rw [if_pos z, if_neg (by simp [z])]; simp; omega
        · rw [if_neg z, if_pos (by simp [z])]; simp; omega
    have := ih (ss := ss.filter fun s => !has q s) (fun s hs => by
      have hs := List.mem_filter.mp hs
      obtain ⟨p, hp, hps⟩ := h s hs.1
      rcases List.mem_cons.mp hp with rfl | hp
      · have := hs.2; rw [hps] at this; simp at this
      · exact ⟨p, hp, hps⟩) (fun p => by
      refine Nat.le_trans ?_ (hm p)
      unfold cnt
      rw [List.filter_filter]
      exact List.Sublist.length_le (by
        have : (ss.filter fun a => has p a && !has q a) = (ss.filter (has p)).filter fun a => !has q a := by rw [List.filter_filter]; congr 1; funext a; rw [Bool.and_comm]
        rw [this]; exact List.filter_sublist))
    have := hm q
    rw [List.length_cons, Nat.add_mul, Nat.one_mul]
    omega
def trs (ss : List Sp) : List Tr := (enumI 0 ss).map fun x => (x.2.2, x.2.1, x.1)
theorem trs_snoc (ss : List Sp) (s : Sp) : trs (ss ++ [s]) = trs ss ++ [(s.2, s.1, (ss.length : Int))] := by
  unfold trs
  have : ∀ (xs : List Sp) (k : Nat), enumI k (xs ++ [s]) = enumI k xs ++ [(((k + xs.length : Nat) : Int), s)] := by
    intro xs
    induction xs with
    | nil => intro k; rfl
    | cons x xs ih =>
      intro k
      show _ :: enumI (k + 1) (xs ++ [s]) = _
      rw [ih, List.length_cons, show k + 1 + xs.length = k + (xs.length + 1) by omega]; rfl
  rw [this, List.map_append, Nat.zero_add]; rfl
theorem mem_trs {ss : List Sp} {t : Tr} (h : t ∈ trs ss) : (t.2.1, t.1) ∈ ss ∧ 0 ≤ t.2.2 ∧ t.2.2 < ss.length := by
  unfold trs at h
  obtain ⟨x, hx, rfl⟩ := List.mem_map.mp h
  obtain ⟨j, h1, h2⟩ := mem_enumI (i := 0) hx
  have := (List.getElem?_eq_some_iff.mp h2).1
  exact ⟨List.mem_of_getElem? h2, by dsimp only; omega, by dsimp only; omega⟩
theorem trs_mem {ss : List Sp} {s : Sp} (h : s ∈ ss) : ∃ a, (s.2, s.1, a) ∈ trs ss := by
  obtain ⟨j, hj⟩ := List.mem_iff_getElem?.mp h
  refine ⟨(j : Int), ?_⟩
  unfold trs
  refine List.mem_map.mpr ⟨((j : Int), s), ?_, rfl⟩
  refine List.mem_iff_getElem?.mpr ⟨j, ?_⟩
  rw [enumI_get, hj, Nat.zero_add]; rfl
/-- the sorted row with one more item -/
theorem sort_more {xs : List Tr} {d : Tr} (nd : ∀ t ∈ xs, t ≠ d) : ∃ A B, sortE (x3 xI xI xI) (xs ++ [d]) = A ++ d :: B ∧ A ++ B = sortE (x3 xI xI xI) xs ∧ (∀ t ∈ A, ¬ lt3 d t) ∧ ∀ t ∈ B, ¬ lt3 t d := by
  have pm := sortE_perm (x3 xI xI xI) (xs ++ [d])
  have st := sort3 (xs ++ [d])
  obtain ⟨A, B, e⟩ := List.append_of_mem (pm.mem_iff.mpr (by simp : d ∈ xs ++ [d]))
  rw [e] at pm st
  refine ⟨A, B, e, sort3_eq ?_ ?_, fun t ht => ?_, fun t ht => ?_⟩
  · have h1 : (A ++ d :: B).Perm (d :: (A ++ B)) := List.perm_middle
    have h2 : (xs ++ [d]).Perm (d :: xs) := List.perm_append_singleton d xs
    exact List.Perm.cons_inv ((h1.symm.trans pm).trans h2)
  · rw [List.pairwise_append, List.pairwise_cons] at st
    rw [List.pairwise_append]
    exact ⟨st.1, st.2.1.2, fun a ha b hb => st.2.2 a ha b (List.mem_cons_of_mem _ hb)⟩
  · rw [List.pairwise_append] at st
    exact st.2.2 t ht d (List.mem_cons_self ..)
  · rw [List.pairwise_append, List.pairwise_cons] at st
    exact st.2.1.1 t ht
end
end Wk
set_option Elab.async false
set_option linter.all false
set_option maxRecDepth 100000
set_option maxHeartbeats 1000000
namespace Wk
open PySem PySem.W L3 BFd
noncomputable section
def nums (ss : List Sp) : List Int := (pts (sortE (x3 xI xI xI) (trs ss))).1
theorem fewest_n {ss : List Sp} (h1 : 1 ≤ ss.length) (h2 : ss.length ≤ 200) (hb : ∀ s ∈ ss, SpIn s) : ∃ r, n_fewest_numbers ss = some r ∧ r.1 = nums ss := by
  have e : n_fewest_numbers ss = some (nums ss, sortE xI (pts (sortE (x3 xI xI xI) (trs ss))).2) := by
    unfold n_fewest_numbers
    rw [look_spans h1 h2 hb, obs, told_points_n (by omega), obs]
    rfl
  exact ⟨_, e, rfl⟩
theorem mem_S {ss : List Sp} {t : Tr} : t ∈ sortE (x3 xI xI xI) (trs ss) ↔ t ∈ trs ss := (sortE_perm _ _).mem_iff
theorem S_ok {ss : List Sp} (hb : ∀ s ∈ ss, s.1 ≤ s.2) : ∀ t ∈ sortE (x3 xI xI xI) (trs ss), t.2.1 ≤ t.1 := fun t ht => hb _ (mem_trs (mem_S.mp ht)).1
theorem S_ne {ss : List Sp} (h1 : 1 ≤ ss.length) : sortE (x3 xI xI xI) (trs ss) ≠ [] := fun z => by
  have := (sortE_perm (x3 xI xI xI) (trs ss)).length_eq
  rw [z] at this
  unfold trs at this
  rw [List.length_map, enumI_len] at this
  simp at this; omega
theorem cnt_all {ss : List Sp} {x : Int} : cnt ss x = ss.length ↔ ∀ s ∈ ss, has x s = true := by
  unfold cnt; exact List.length_filter_eq_length_iff
theorem nums_more {ss : List Sp} (h1 : 1 ≤ ss.length) (hb : ∀ s ∈ ss, s.1 ≤ s.2 ∧ s.2 < 100) : (nums (ss ++ [(100, 101)])).length = (nums ss).length + 1 := by
  have nd : ∀ t ∈ trs ss, t ≠ ((101 : Int), (100 : Int), (ss.length : Int)) := fun t ht z => by
    have := (hb _ (mem_trs ht).1).2
    rw [z] at this; dsimp only at this; omega
  obtain ⟨A, B, e, eAB, hA, hB⟩ := sort_more nd
  have B0 : B = [] := by
    cases B with
    | nil => rfl
    | cons t B =>
      exfalso
      have ht : t ∈ trs ss := mem_S.mp (by rw [← eAB]; simp)
      refine hB t (List.mem_cons_self ..) ?_
      have := (hb _ (mem_trs ht).1).2
      unfold lt3; dsimp only at this ⊢; omega
  subst B0
  rw [List.append_nil] at eAB
  obtain ⟨f, _, _⟩ := pts_facts (sortE (x3 xI xI xI) (trs ss)) (S_ok fun s hs => (hb s hs).1) (sort3 _)
  obtain ⟨z, z1, _, u, hu, z3⟩ := f (S_ne h1)
  have hu' := (hb _ (mem_trs (mem_S.mp hu)).1).2
  unfold nums
  rw [trs_snoc, e, eAB, pts_snoc]
  unfold gs
  rw [if_pos]
  · dsimp only; rw [List.length_append]; rfl
  · unfold late
    rw [z1]
    simp; dsimp only at hu'; omega
theorem nums_twice {ss : List Sp} {s0 : Sp} (h0 : ss[0]? = some s0) (hb : ∀ s ∈ ss, s.1 ≤ s.2) : nums (ss ++ [s0]) = nums ss := by
  have hm : (s0.2, s0.1, (0 : Int)) ∈ trs ss := by
    unfold trs
    refine List.mem_map.mpr ⟨((0 : Int), s0), List.mem_iff_getElem?.mpr ⟨0, ?_⟩, rfl⟩
    rw [enumI_get, h0]; rfl
  have hl : 0 < ss.length := (List.getElem?_eq_some_iff.mp h0).1
  have nd : ∀ t ∈ trs ss, t ≠ (s0.2, s0.1, (ss.length : Int)) := fun t ht z => by
    have := (mem_trs ht).2.2
    rw [z] at this; dsimp only at this; omega
  obtain ⟨A, B, e, eAB, hA, hB⟩ := sort_more nd
  have inA : (s0.2, s0.1, (0 : Int)) ∈ A := by
    have := mem_S.mpr hm
    rw [← eAB] at this
    rcases List.mem_append.mp this with h | h
    · exact h
    · exact absurd (show lt3 (s0.2, s0.1, (0 : Int)) (s0.2, s0.1, (ss.length : Int)) by unfold lt3; dsimp only; omega) (hB _ h)
  have sS := sort3 (trs ss)
  have oS := S_ok hb
  rw [← eAB] at sS oS
  obtain ⟨f, _, _⟩ := pts_facts A (fun t ht => oS t (List.mem_append_left _ ht)) (List.pairwise_append.mp sS).1
  obtain ⟨z, z1, z2, _⟩ := f (List.ne_nil_of_mem inA)
  have hz := z2 _ inA
  dsimp only at hz
  unfold nums
  rw [trs_snoc, e, ← eAB]
  have : pts (A ++ (s0.2, s0.1, (ss.length : Int)) :: B) = pts (A ++ B) := by
    unfold pts
    rw [List.foldl_append, List.foldl_append, List.foldl_cons]
    congr 1
    show gs (pts A) _ = pts A
    unfold gs
    rw [if_neg]
    unfold late
    rw [z1]
    simp; omega
  rw [this]
theorem drawn_spans {n : Nat} {C : Cel} (hp : Pot n C) (hn : n ≤ 900000) {k : Nat} (hk : k ≤ 9) : ∃ s, forN n__law_are_spans_right_l1 (rangeI 0 k) (C, []) = some s ∧ s.2.length = k ∧ (∀ t ∈ s.2, -20 ≤ t.1 ∧ t.1 ≤ t.2 ∧ t.2 ≤ 30) ∧ Pot (n + 2 * k) s.1 := by
  have sz := szM
  obtain ⟨s, e, h⟩ := forN_inv (k := n__law_are_spans_right_l1) (fun i s => Pot (n + 2 * i) s.1 ∧ s.2.length = i ∧ ∀ t ∈ s.2, -20 ≤ t.1 ∧ t.1 ≤ t.2 ∧ t.2 ≤ 30) (xs := rangeI 0 k) (s := (C, [])) 0 ⟨hp, rfl, by simp⟩ (fun i x s hx => by
    rw [Nat.zero_add]
    rintro ⟨P, hl, hi⟩
    have hlt : i < k := by
      have := (List.getElem?_eq_some_iff.mp hx).1
      rwa [rangeI_len] at this
    obtain ⟨v1, f1, c1, d1, P1⟩ := take_n P (by omega) (up := 40) (by decide) (by decide)
    obtain ⟨v2, f2, c2, d2, P2⟩ := take_n P1 (by omega) (up := 12) (by decide) (by decide)
    unfold n__law_are_spans_right_l1
    rw [f1, obs, f2, obs, appN_ok (by omega), obs]
    refine ⟨_, rfl, P2.mono (by omega), by rw [List.length_append, hl]; rfl, fun t ht => ?_⟩
    rcases List.mem_append.mp ht with ht | ht
    · exact hi t ht
    · have : t = _ := List.mem_singleton.mp ht
      subst this
      dsimp only
      omega)
  rw [rangeI_len, Nat.zero_add] at h
  exact ⟨s, e, h.2.1, h.2.2, h.1⟩
theorem spans_right_n {n : Nat} {C : Cel} (hp : Pot n C) (hn : n ≤ 800000) : ∃ w, n__law_are_spans_right C = some w ∧ w.1 = true ∧ Pot (n + 19) w.2 := by
  have sz := szM
  obtain ⟨w2, e2, a2, b2, P2⟩ := take_n hp (by omega) (up := 9) (by decide) (by decide)
  have rg := range1_ok (j := 1 + w2.1) (by omega) (by omega)
  obtain ⟨s, e3, sl, sb, P3⟩ := drawn_spans P2 (by omega) (k := (1 + w2.1).toNat) (by omega)
  have l1 : 1 ≤ s.2.length := by omega
  have l9 : s.2.length ≤ 9 := by omega
  have okI : ∀ t ∈ s.2, SpIn t := fun t ht => by have := sb t ht; unfold SpIn; omega
  have ok : ∀ t ∈ s.2, t.1 ≤ t.2 := fun t ht => (sb t ht).2.1
  obtain ⟨r, e4, r1, r2, r3⟩ := most_agree_n l1 (by omega) okI
  obtain ⟨p, e5, p1⟩ := fewest_n l1 (by omega) okI
  obtain ⟨p', e6, p1'⟩ := fewest_n (ss := s.2 ++ [(100, 101)]) (by rw [List.length_append]; simp) (by rw [List.length_append]; simp; omega) (fun t ht => by
    rcases List.mem_append.mp ht with ht | ht
    · exact okI t ht
    · rw [List.mem_singleton.mp ht]; unfold SpIn; decide)
  have hs0 : s.2[0]? = some s.2[0] := List.getElem?_eq_getElem (by omega)
  obtain ⟨p'', e7, p1''⟩ := fewest_n (ss := s.2 ++ [s.2[0]]) (by rw [List.length_append]; simp) (by rw [List.length_append]; simp; omega) (fun t ht => by
    rcases List.mem_append.mp ht with ht | ht
    · exact okI t ht
    · rw [List.mem_singleton.mp ht]; exact okI _ (List.getElem_mem _))
  have hcut : ∀ x : Int, ((s.2.filter fun (t : Int × Int) => ((decide (t.1 ≤ x)) && (decide (x ≤ t.2)))).map fun (t : Int × Int) => t) = s.2.filter (has x) := fun x => List.map_id' _
  -- the points
  obtain ⟨_, pf, _⟩ := pts_facts (sortE (x3 xI xI xI) (trs s.2)) (S_ok ok) (sort3 _)
  have pierce : ∀ t ∈ s.2, ∃ q ∈ nums s.2, has q t = true := fun t ht => by
    obtain ⟨a, ha⟩ := trs_mem ht
    obtain ⟨q, hq, h⟩ := pf _ (mem_S.mpr ha)
    exact ⟨q, hq, has_iff.mpr h⟩
  have rN : r.1 = ((r.1.toNat : Nat) : Int) := by have := r2; omega
  have big : s.2.length ≤ (nums s.2).length * r.1.toNat := piece (p := 0) pierce fun q => by have := r1 q; omega
  have rle : r.1 ≤ s.2.length := by
    rw [← r2]
    have : cnt s.2 r.2.1 ≤ s.2.length := List.length_filter_le _ _
    omega
  have one : (r.1 = (s.2.length : Int)) ↔ (((nums s.2).length : Int) = 1) := by
    constructor
    · intro h
      have all := cnt_all.mp (show cnt s.2 r.2.1 = s.2.length by omega)
      have := pts_one (S_ok ok) (sort3 (trs s.2)) (c := r.2.1) (fun t ht => has_iff.mp (all _ (mem_trs (mem_S.mp ht)).1)) (S_ne l1)
      unfold nums; omega
    · intro h
      obtain ⟨q, hq⟩ := List.length_eq_one_iff.mp (show (nums s.2).length = 1 by omega)
      have := (cnt_all (ss := s.2) (x := q)).mpr fun t ht => by
        obtain ⟨q', hq', h⟩ := pierce t ht
        rw [hq] at hq'
        rw [List.mem_singleton.mp hq'] at h
        exact h
      have := r1 q
      omega
  have mul : mulN ((nums s.2).length : Int) r.1 = some (((nums s.2).length : Int) * r.1) := by
    have h9 : (nums s.2).length ≤ 9 := by
      have := (pts_len (sortE (x3 xI xI xI) (trs s.2))).1
      rw [(sortE_perm _ _).length_eq] at this
      unfold trs at this
      rw [List.length_map, enumI_len] at this
      unfold nums trs; omega
    exact mulN_ok (Nat.lt_of_le_of_lt (show ((nums s.2).length : Int).natAbs ≤ 9 by omega) (by decide +kernel)) (Nat.lt_of_le_of_lt (show r.1.natAbs ≤ 9 by omega) (by decide +kernel))
  have bigI : (s.2.length : Int) ≤ ((nums s.2).length : Int) * r.1 := by rw [rN]; exact_mod_cast big
  refine ⟨(true, s.1), ?_, rfl, P3.mono (by omega)⟩
  unfold n__law_are_spans_right
  rw [e2, obs, rg, obs, e3, obs, e4, obs, e5, obs, p1, mul, obs]
  have c1 : (!decide ((decide (r.1 = (s.2.length : Int))) = (decide (((nums s.2).length : Int) = 1)))) = false := by
    rw [decide_eq_true (show decide (r.1 = (s.2.length : Int)) = decide (((nums s.2).length : Int) = 1) from decide_eq_decide.mpr one)]; rfl
  rw [c1, decide_eq_false (show ¬ (((nums s.2).length : Int) * r.1 < (s.2.length : Int)) by omega)]
  rw [show orN false (some false) = some false from rfl, obs, if_neg (by decide)]
  rw [if_neg]
  · rw [catN_ok (by simp; omega), obs, e6, obs, p1', nums_more l1 fun t ht => by have := sb t ht; omega]
    rw [if_neg (by rw [decide_eq_true (by omega)]; decide)]
    rw [show getI s.2 0 = some s.2[0] from getI_nat (j := 0) hs0, obs, catN_ok (by simp; omega), obs, e7, obs, p1'', nums_twice hs0 ok, decide_eq_true rfl]
  · rw [List.any_map]
    simp only [List.any_cons, List.any_nil, Function.comp]
    rw [hcut, hcut]
    have q1 : ((s.2.filter (has r.2.1)).length : Int) = r.1 := r2
    have q2 : ((s.2.filter (has r.2.2)).length : Int) = r.1 := r3
    rw [q1, q2, decide_eq_true rfl]
    decide
end
end Wk
set_option Elab.async false
set_option linter.all false
set_option maxRecDepth 100000
set_option maxHeartbeats 1000000
namespace Wk
open PySem PySem.W L3 BFd
noncomputable section
/-! ### some: a list of cells drawn -/
theorem popAtN_ok {α : Type} {xs : List α} {i : Int} (h0 : 0 ≤ i) (h : i.toNat < xs.length) (hi : i < 2 ^ 62) : popAtN xs i = some (xs[i.toNat], xs.eraseIdx i.toNat) := by
  unfold popAtN
  rw [if_pos ⟨by omega, by omega⟩]
  have : seqIndex? i xs.length = some i.toNat := by
    unfold seqIndex?
    first
      | (rw [if_pos (by omega)]; done)
      | (rw [if_pos (by omega)]; rw [if_pos (by omega)]; done)
      | (simp; omega)
  rw [this, obs, List.getElem?_eq_getElem h, obs]
theorem some_n {n : Nat} {C : Cel} (hp : Pot n C) {N : Nat} (hn : n + N ≤ 900000) (h30 : N ≤ 30) : ∃ w, n__law_some C (rangeI 0 N) (N : Int) = some w ∧ w.1.length = N ∧ (∀ x ∈ w.1, 0 ≤ x ∧ x < N) ∧ Pot (n + N) w.2 := by
  have sz := szM
  have rg := range1_ok (j := (N : Int)) (by omega) (by omega)
  rw [show (N : Int).toNat = N by omega] at rg
  obtain ⟨s, e, h⟩ := forN_inv (k := n__law_some_l1) (fun i s => Pot (n + i) s.1 ∧ s.2.1.length + i = N ∧ s.2.2.length = i ∧ (∀ x ∈ s.2.1, 0 ≤ x ∧ x < N) ∧ ∀ x ∈ s.2.2, 0 ≤ x ∧ x < N) (xs := rangeI 0 N) (s := (C, rangeI 0 N, [])) 0
    ⟨hp, rangeI_len _ _, rfl, fun x hx => by have := mem_rangeI.mp hx; omega, by simp⟩ (fun i y s hx => by
    rw [Nat.zero_add]
    rintro ⟨P, hl, hm, h1, h2⟩
    have hlt : i < N := by
      have := (List.getElem?_eq_some_iff.mp hx).1
      rwa [rangeI_len] at this
    obtain ⟨w, f, a, b, P'⟩ := take_n P (by omega) (up := (s.2.1.length : Int)) (by omega) (by omega)
    have hw : w.1.toNat < s.2.1.length := by omega
    unfold n__law_some_l1
    rw [f, obs, popAtN_ok a hw (by omega), obs, appN_ok (by omega), obs]
    refine ⟨_, rfl, P', ?_, ?_, fun x hx => h1 x (List.mem_of_mem_eraseIdx hx), fun x hx => ?_⟩
    · show (s.2.1.eraseIdx _).length + _ = _
      rw [List.length_eraseIdx_of_lt hw]; omega
    · rw [List.length_append, hm]; rfl
    · rcases List.mem_append.mp hx with hx | hx
      · exact h2 x hx
      · rw [List.mem_singleton.mp hx]; exact h1 _ (List.getElem_mem _))
  rw [rangeI_len, Nat.zero_add] at h
  refine ⟨(s.2.2, s.1), ?_, h.2.2.1, h.2.2.2.2, h.1⟩
  unfold n__law_some
  rw [rg, obs, e, obs]
/-! ### round a ring -/
theorem mem_rot {α : Type} {P : α → α → Prop} {xs : List α} (h1 : ∀ j a b, xs[j]? = some a → xs[j + 1]? = some b → P a b) (h2 : ∀ a b, xs[xs.length - 1]? = some a → xs[0]? = some b → P a b) : ∀ p ∈ xs.zip (xs.drop 1 ++ xs.take 1), P p.1 p.2 := by
  intro p hp
  obtain ⟨j, hj⟩ := List.mem_iff_getElem?.mp hp
  obtain ⟨ha, hb⟩ := List.getElem?_zip_eq_some.mp hj
  have hl := (List.getElem?_eq_some_iff.mp ha).1
  rw [List.getElem?_append] at hb
  rw [List.length_drop] at hb
  by_cases q : j < xs.length - 1
  · rw [if_pos q, List.getElem?_drop, Nat.add_comm] at hb
    exact h1 j _ _ ha hb
  · rw [if_neg q] at hb
    have e : j = xs.length - 1 := by omega
    rw [show j - (xs.length - 1) = 0 by omega, List.getElem?_take, if_pos (by omega)] at hb
    rw [e] at ha
    exact h2 _ _ ha hb
theorem zip_sum (f : Int → Int) : ∀ (xs ys : List Int), xs.length = ys.length → ((xs.zip ys).map fun p => f p.2 - f p.1).sum = (ys.map f).sum - (xs.map f).sum
  | [], [], _ => by simp
  | x :: xs, y :: ys, h => by
    rw [List.zip_cons_cons, List.map_cons, List.sum_cons, zip_sum f xs ys (by simpa using h), List.map_cons, List.map_cons, List.sum_cons, List.sum_cons]
    dsimp only; omega
  | [], _ :: _, h => by simp at h
  | _ :: _, [], h => by simp at h
theorem rot_len {α : Type} (xs : List α) : (xs.drop 1 ++ xs.take 1).length = xs.length := by
  rw [List.length_append, List.length_drop, List.length_take]; omega
theorem rot_zero (f : Int → Int) (xs : List Int) : ((xs.zip (xs.drop 1 ++ xs.take 1)).map fun p => f p.2 - f p.1).sum = 0 := by
  rw [zip_sum f _ _ (rot_len xs).symm]
  cases xs with
  | nil => rfl
  | cons a r => show ((r ++ [a]).map f).sum - ((a :: r).map f).sum = 0; rw [List.map_append, List.sum_append, List.map_cons, List.sum_cons]; simp; omega
theorem sum_le {α : Type} {f g : α → Int} : ∀ {xs : List α}, (∀ x ∈ xs, f x ≤ g x) → (xs.map f).sum ≤ (xs.map g).sum
  | [], _ => by simp
  | x :: xs, h => by
    rw [List.map_cons, List.map_cons, List.sum_cons, List.sum_cons]
    have := sum_le (xs := xs) fun y hy => h y (List.mem_cons_of_mem _ hy)
    have := h x (List.mem_cons_self ..)
    omega
theorem rot_range {N : Nat} {xs : List Int} (h : ∀ x ∈ xs, 0 ≤ x ∧ x < N) : ∀ p ∈ xs.zip (xs.drop 1 ++ xs.take 1), (0 ≤ p.1 ∧ p.1 < N) ∧ 0 ≤ p.2 ∧ p.2 < N := fun p hp => by
  have := List.of_mem_zip (a := p.1) (b := p.2) hp
  refine ⟨h _ this.1, h _ ?_⟩
  rcases List.mem_append.mp this.2 with z | z
  · exact List.mem_of_mem_drop z
  · exact List.mem_of_mem_take z
/-- no clocks where a ring of bounds is one too low -/
theorem low_ring {zs : List (Int × Int)} {N : Nat} {S cs : List Int} {z0 : Int × Int} {zt : List (Int × Int)} (hz : zs = z0 :: zt) (r0 : ∀ f : Int → Int, (zs.map fun p => f p.2 - f p.1).sum = 0)
    (h0 : sv cs z0.2.toNat - sv cs z0.1.toNat ≤ sv S z0.2.toNat - sv S z0.1.toNat - 1) (ht : ∀ z ∈ zt, sv cs z.2.toNat - sv cs z.1.toNat ≤ sv S z.2.toNat - sv S z.1.toNat) : False := by
  have a := r0 fun i => sv cs i.toNat
  have b := r0 fun i => sv S i.toNat
  rw [hz, List.map_cons, List.sum_cons] at a b
  have := sum_le (f := fun p : Int × Int => sv cs p.2.toNat - sv cs p.1.toNat) (g := fun p : Int × Int => sv S p.2.toNat - sv S p.1.toNat) ht
  omega
/-! ### one pair of bounds and clocks -/
def Fz (S : List Int) (bs : List Bd) : Prop := ∀ b ∈ bs, sv S b.2.1.toNat - sv S b.1.toNat ≤ b.2.2
section
variable {N : Nat} {bs : List Bd}
theorem clocks_fz {W : Int} (h1 : 1 ≤ N) (h30 : N ≤ 30) (hl : bs.length ≤ 200) (hW : 0 ≤ W) (hW2 : W ≤ 1000000000000) (hb : ∀ b ∈ bs, BdIn N W b) {S : List Int} (hf : Fz S bs) : ∃ cs, n_clocks_for (N : Int) bs = some (tg "clocks", cs) ∧ cs.length = N ∧ Fz cs bs ∧ ∀ i, i < N → -(W * 6000) ≤ sv cs i ∧ sv cs i ≤ 0 := by
  obtain ⟨r, e, ⟨a1, a2, a3, a4⟩ | ⟨_, z⟩⟩ := clocks_for_n h1 h30 hl hW hW2 hb
  · refine ⟨r.2, by rw [e, ← a1], a2, fun b hb => ?_, a4⟩
    have := a3 b hb
    omega
  · exact absurd z (no_ring (fun i => sv S i) hf)
theorem lap2 {w_2 : Int × Cel} {w_24 : Int × Cel} (hN : 2 + w_2.1 = (N : Int)) {x : List Bd × List Int} {W : Int} (h1 : 1 ≤ N) (h30 : N ≤ 30) (hl : x.1.length ≤ 200) (hW : 0 ≤ W) (hW2 : W ≤ 1000000000000) (hb : ∀ b ∈ x.1, BdIn N W b) (hc : x.2.length = N)
    (hv : ∀ v ∈ x.2, -200000000000000 ≤ v ∧ v ≤ 200000000000000) (hf : Fz x.2 x.1) : n__law_are_bounds_right_l2 w_2 w_24 x () = some (.nx ()) := by
  obtain ⟨cs, e, _⟩ := clocks_fz h1 h30 hl hW hW2 hb hf
  unfold n__law_are_bounds_right_l2
  rw [hN, shows_n h1 h30 hl (fun b h => by have := hb b h; unfold BdIn at this ⊢; omega) hc hv, obs, e]
  rw [show (x.1.all fun b => decide (sv x.2 b.2.1.toNat - sv x.2 b.1.toNat ≤ b.2.2)) = true from List.all_eq_true.mpr fun b hb => decide_eq_true (hf b hb)]
  rw [obs]
  rw [show (!decide ((tg "clocks", cs).1 = tg "clocks")) = false by rw [decide_eq_true rfl]; rfl]
  rw [show orN (!decide (true = true)) (some false) = some false from rfl, obs, if_neg (by decide)]
end
end
end Wk
set_option Elab.async false
set_option linter.all false
set_option maxRecDepth 100000
set_option maxHeartbeats 1000000
namespace Wk
open PySem PySem.W L3 BFd
noncomputable section
theorem cut1 {α : Type} (xs : List α) : cut xs (some (1 : Int)) none = xs.drop 1 := cut_from xs 1
theorem cut1' {α : Type} (xs : List α) : cut xs none (some (1 : Int)) = xs.take 1 := cut_to xs 1
theorem sv_map {f : Int → Int} {xs : List Int} {i : Nat} (h : i < xs.length) : sv (xs.map f) i = f (sv xs i) := by
  unfold sv
  rw [List.getD_eq_getElem?_getD, List.getD_eq_getElem?_getD, List.getElem?_map, List.getElem?_eq_getElem h]; rfl
theorem sv_mem {xs : List Int} {i : Nat} (h : i < xs.length) : sv xs i ∈ xs := by
  unfold sv
  rw [List.getD_eq_getElem?_getD, List.getElem?_eq_getElem h]; exact List.getElem_mem _
theorem mem_sv {xs : List Int} {v : Int} (h : v ∈ xs) : ∃ i, i < xs.length ∧ sv xs i = v := by
  obtain ⟨i, hi, rfl⟩ := List.getElem_of_mem h
  refine ⟨i, hi, ?_⟩
  unfold sv
  rw [List.getD_eq_getElem?_getD, List.getElem?_eq_getElem hi]; rfl
section
variable {N : Nat}
/-- the bounds drawn -/
theorem bounds_drawn {w_2 : Int × Cel} {w_6 : (List Int) × Cel} (hN : 2 + w_2.1 = (N : Int)) (h1 : 1 ≤ N) (h30 : N ≤ 30) (hS : w_6.1.length = N) (hv : ∀ v ∈ w_6.1, 0 ≤ v ∧ v < 999) {n : Nat} {C : Cel} (hp : Pot n C) (hn : n ≤ 900000) {m : Nat} (hm : m ≤ 100) :
    ∃ s, forN (n__law_are_bounds_right_l1 w_2 w_6) (rangeI 0 m) (C, []) = some s ∧ Pot (n + 3 * m) s.1 ∧ s.2.length = m ∧ (∀ b ∈ s.2, BdIn N 1100 b) ∧ Fz w_6.1 s.2 := by
  have sz := szM
  obtain ⟨s, e, h⟩ := forN_inv (k := n__law_are_bounds_right_l1 w_2 w_6) (fun i s => Pot (n + 3 * i) s.1 ∧ s.2.length = i ∧ (∀ b ∈ s.2, BdIn N 1100 b) ∧ Fz w_6.1 s.2) (xs := rangeI 0 m) (s := (C, [])) 0
    ⟨hp, rfl, fun b hb => by simp at hb, fun b hb => by simp at hb⟩ (fun i y s hx => by
    rw [Nat.zero_add]
    rintro ⟨P, hl, hb, hf⟩
    have hlt : i < m := by
      have := (List.getElem?_eq_some_iff.mp hx).1
      rwa [rangeI_len] at this
    obtain ⟨a, ea, a1, a2, Pa⟩ := take_n P (by omega) (up := (N : Int)) (by omega) (by omega)
    obtain ⟨b, eb, b1, b2, Pb⟩ := take_n Pa (by omega) (up := (N : Int)) (by omega) (by omega)
    obtain ⟨c, ec, c1, c2, Pc⟩ := take_n Pb (by omega) (up := (5 : Int)) (by omega) (by omega)
    have ga := get_sv (S := w_6.1) a1 (by omega)
    have gb := get_sv (S := w_6.1) b1 (by omega)
    have va := hv _ (sv_mem (xs := w_6.1) (i := a.1.toNat) (by omega))
    have vb := hv _ (sv_mem (xs := w_6.1) (i := b.1.toNat) (by omega))
    unfold n__law_are_bounds_right_l1
    rw [range1_ok (j := 2) (by omega) (by omega), obs, hN]
    rw [show rangeI 0 (2 : Int).toNat = [0, 1] from by decide]
    rw [compS, ea, obs, obs, compS, eb, obs, obs, compS, obs, obs, obs]
    rw [show unL2 [(a.1, a.2).1, (b.1, b.2).1] = some (a.1, b.1) from rfl, obs, gb, obs, ga, obs, ec, obs, appN_ok (by omega), obs]
    refine ⟨_, rfl, Pc.mono (by omega), by rw [List.length_append, hl]; rfl, fun d hd => ?_, fun d hd => ?_⟩
    · rcases List.mem_append.mp hd with hd | hd
      · exact hb d hd
      · have : d = _ := List.mem_singleton.mp hd
        subst this
        unfold BdIn
        dsimp only
        omega
    · rcases List.mem_append.mp hd with hd | hd
      · exact hf d hd
      · have : d = _ := List.mem_singleton.mp hd
        subst this
        dsimp only
        omega)
  rw [rangeI_len, Nat.zero_add] at h
  exact ⟨s, e, h⟩
def edge (S : List Int) (p : Int × Int) : Bd := (p.1, p.2, sv S p.2.toNat - sv S p.1.toNat)
theorem ring_made {w_6 : (List Int) × Cel} (hS : w_6.1.length = N) {zs : List (Int × Int)} (hz : zs.length ≤ 100) (hr : ∀ p ∈ zs, (0 ≤ p.1 ∧ p.1 < N) ∧ 0 ≤ p.2 ∧ p.2 < N) :
    forN (n__law_are_bounds_right_l3 w_6) zs [] = some (zs.map (edge w_6.1)) := by
  have sz := szM
  obtain ⟨s, e, h1, _⟩ := forN_split (k := n__law_are_bounds_right_l3 w_6) (fun xs ys s => s = xs.map (edge w_6.1) ∧ xs.length + ys.length ≤ 100 ∧ ∀ p ∈ ys, (0 ≤ p.1 ∧ p.1 < (N : Int)) ∧ 0 ≤ p.2 ∧ p.2 < N) (xs := []) (ys := zs) (s := [])
    ⟨rfl, by simpa using hz, hr⟩ (fun xs x ys s => by
    rintro ⟨rfl, hl, h⟩
    have hx := h x (List.mem_cons_self ..)
    rw [List.length_cons] at hl
    unfold n__law_are_bounds_right_l3
    rw [get_sv hx.2.1 (by omega), obs, get_sv hx.1.1 (by omega), obs, appN_ok (by rw [List.length_map]; omega), obs]
    exact ⟨_, rfl, by rw [List.map_append]; rfl, by rw [List.length_append]; simp; omega, fun p hp => h p (List.mem_cons_of_mem _ hp)⟩)
  rw [e, h1, List.nil_append]
/-- what the ring that clocks_for tells must be -/
def bat (bs : List Bd) (e : Int) : Bd := bs.getD e.toNat (0, 0, 0)
theorem ring_shown {bs : List Bd} {W : Int} {r : List Int} (hb : ∀ b ∈ bs, BdIn N W b) (h : Ring bs r.reverse) : (∀ e ∈ r, 0 ≤ e ∧ e.toNat < bs.length) ∧ r.map (bat bs) ≠ [] ∧ ((r.map (bat bs)).map fun x : Bd => x.2.2).sum < 0 ∧
    (∀ p ∈ (r.map (bat bs)).zip ((r.map (bat bs)).drop 1 ++ (r.map (bat bs)).take 1), p.1.2.1 = p.2.1) ∧ (r.map (bat bs)).length ≤ 1000 := by
  obtain ⟨Y, ⟨h1, h1'⟩, h2, h3, h4⟩ := h
  rw [List.length_reverse] at h1 h1' h2
  have el : ∀ j e, r[j]? = some e → 0 ≤ e ∧ ∃ b, bs[e.toNat]? = some b ∧ bat bs e = b ∧ b.2.1.toNat = Y (r.length - 1 - j) ∧ b.1.toNat = Y (r.length - j) := fun j e hj => by
    have hlt := (List.getElem?_eq_some_iff.mp hj).1
    have := h3 (r.length - 1 - j) e (by rw [List.getElem?_reverse (by omega), show r.length - 1 - (r.length - 1 - j) = j by omega]; exact hj)
    obtain ⟨u, v, w, a0, a1, a2, a3⟩ := this
    refine ⟨a0, (u, v, w), a1, ?_, a2, by rw [show r.length - j = r.length - 1 - j + 1 by omega]; exact a3⟩
    unfold bat
    rw [List.getD_eq_getElem?_getD, a1]; rfl
  have eq : ∀ b b' : Bd, b ∈ bs → b' ∈ bs → b.2.1.toNat = b'.1.toNat → b.2.1 = b'.1 := fun b b' m m' h => by
    have := hb b m
    have := hb b' m'
    unfold BdIn at *
    omega
  refine ⟨fun e he => ?_, fun z => ?_, ?_, mem_rot (P := fun (a b : Bd) => a.2.1 = b.1) ?_ ?_, by rw [List.length_map]; exact h1'⟩
  · obtain ⟨j, hj⟩ := List.mem_iff_getElem?.mp he
    obtain ⟨a, b, c, _⟩ := el j e hj
    exact ⟨a, (List.getElem?_eq_some_iff.mp c).1⟩
  · have := List.map_eq_nil_iff.mp z
    rw [this] at h1; simp at h1
  · rw [List.map_map]
    rw [List.map_reverse, List.sum_reverse] at h4
    exact h4
  · intro j a b ha hb'
    rw [List.getElem?_map] at ha hb'
    obtain ⟨e, he, rfl⟩ := Option.map_eq_some_iff.mp ha
    obtain ⟨f, hf, rfl⟩ := Option.map_eq_some_iff.mp hb'
    obtain ⟨_, p, p1, p2, p3, p4⟩ := el _ _ he
    obtain ⟨_, q, q1, q2, q3, q4⟩ := el _ _ hf
    have hlt := (List.getElem?_eq_some_iff.mp hf).1
    rw [p2, q2]
    exact eq p q (List.mem_of_getElem? p1) (List.mem_of_getElem? q1) (by rw [p3, q4]; congr 1; omega)
  · intro a b ha hb'
    rw [List.length_map] at ha
    rw [List.getElem?_map] at ha hb'
    obtain ⟨e, he, rfl⟩ := Option.map_eq_some_iff.mp ha
    obtain ⟨f, hf, rfl⟩ := Option.map_eq_some_iff.mp hb'
    obtain ⟨_, p, p1, p2, p3, p4⟩ := el _ _ he
    obtain ⟨_, q, q1, q2, q3, q4⟩ := el _ _ hf
    rw [p2, q2]
    exact eq p q (List.mem_of_getElem? p1) (List.mem_of_getElem? q1) (by rw [p3, q4, show r.length - 1 - (r.length - 1) = 0 by omega, ← h2]; rfl)
end
end
end Wk
set_option Elab.async false
set_option linter.all false
set_option maxRecDepth 100000
set_option maxHeartbeats 1000000
namespace Wk
open PySem PySem.W L3 BFd
noncomputable section
theorem bounds_right_n {n : Nat} {C : Cel} (hp : Pot n C) (hn : n ≤ 800000) : ∃ w, n__law_are_bounds_right C = some w ∧ w.1 = true ∧ Pot (n + 76) w.2 := by
  have sz := szM
  obtain ⟨w2, e2, a2, b2, P2⟩ := take_n hp (by omega) (up := 8) (by omega) (by omega)
  obtain ⟨N, hN⟩ : ∃ N : Nat, 2 + w2.1 = (N : Int) := ⟨(2 + w2.1).toNat, by omega⟩
  have h1 : 2 ≤ N := by omega
  have h9 : N ≤ 9 := by omega
  have rg := range1_ok (j := (N : Int)) (by omega) (by omega)
  rw [show (N : Int).toNat = N by omega] at rg
  obtain ⟨w6, e6, l6, v6, P6⟩ := compS_inv (k := fun (x_4 : Int) C => (n__law_take C (999 : Int)).bind fun w_5 => some (w_5.1, w_5.2)) (fun i C => Pot (n + 1 + i) C) (fun _ v => 0 ≤ v ∧ v < 999) (xs := rangeI 0 N) (C := w2.2) 0 P2 (fun i x C _ hi hP => by
    rw [rangeI_len] at hi
    obtain ⟨w, e, a, b, P⟩ := take_n hP (by omega) (up := 999) (by omega) (by omega)
    refine ⟨(w.1, w.2), ?_, ⟨a, b⟩, P⟩
    show (n__law_take C 999).bind _ = _
    rw [e, obs])
  rw [rangeI_len] at l6 P6
  have v6 : ∀ v ∈ w6.1, 0 ≤ v ∧ v < 999 := fun v hv => by obtain ⟨_, _, h⟩ := v6 v hv; exact h
  obtain ⟨w7, e7, a7, b7, P7⟩ := take_n P6 (by omega) (up := 16) (by omega) (by omega)
  obtain ⟨m, hm⟩ : ∃ m : Nat, w7.1 = (m : Int) := ⟨w7.1.toNat, by omega⟩
  have rg7 := range1_ok (j := w7.1) (by omega) (by omega)
  rw [show w7.1.toNat = m by omega] at rg7
  obtain ⟨s, es, Ps, ls, bs, fs⟩ := bounds_drawn (w_2 := w2) (w_6 := w6) hN (by omega) (by omega) l6 v6 P7 (by omega) (m := m) (by omega)
  have bs' : ∀ b ∈ s.2, BdIn N 1100 b := bs
  obtain ⟨cs, ec, lc, fc, vc⟩ := clocks_fz (N := N) (W := 1100) (by omega) (by omega) (by omega) (by decide) (by decide) bs fs
  obtain ⟨w24, e24, a24, b24, P24⟩ := take_n Ps (by omega) (up := 1000000) (by omega) (by omega)
  have vcs : ∀ v ∈ cs, -6600000 ≤ v ∧ v ≤ 0 := fun v hv => by
    obtain ⟨i, hi, rfl⟩ := mem_sv hv
    have := vc i (by omega)
    omega
  have lap : forR (n__law_are_bounds_right_l2 w2 w24) [(s.2, (cs.map fun (x_25 : Int) => (x_25 + w24.1))), ((s.2.map fun (x_26 : (Int × Int × Int)) => (x_26.2.1, x_26.1, x_26.2.2)), (cs.map fun (x_27 : Int) => (-x_27))), ((cut s.2 (some (1 : Int)) none), cs), (s.2, w6.1)] () = some (.nx ()) := by
    refine forR_unit fun x hx => ?_
    rcases List.mem_cons.mp hx with rfl | hx
    · refine lap2 (W := 1100) hN (by omega) (by omega) (by show s.2.length ≤ 200; omega) (by decide) (by decide) bs (by rw [List.length_map, lc]) (fun v hv => ?_) (fun b hb => ?_)
      · obtain ⟨u, hu, rfl⟩ := List.mem_map.mp hv
        have := vcs u hu
        omega
      · have := fc b hb
        have hB := bs b hb
        unfold BdIn at hB
        show sv (cs.map _) _ - sv (cs.map _) _ ≤ _
        rw [sv_map (by omega), sv_map (by omega)]
        omega
    rcases List.mem_cons.mp hx with rfl | hx
    · refine lap2 (W := 1100) hN (by omega) (by omega) (by rw [List.length_map]; omega) (by decide) (by decide) (fun b hb => ?_) (by rw [List.length_map, lc]) (fun v hv => ?_) (fun b hb => ?_)
      · obtain ⟨c, hc, rfl⟩ := List.mem_map.mp hb
        have hB := bs c hc
        unfold BdIn at hB ⊢
        dsimp only
        omega
      · obtain ⟨u, hu, rfl⟩ := List.mem_map.mp hv
        have := vcs u hu
        omega
      · obtain ⟨c, hc, rfl⟩ := List.mem_map.mp hb
        have := fc c hc
        have hB := bs c hc
        unfold BdIn at hB
        show sv (cs.map _) c.1.toNat - sv (cs.map _) c.2.1.toNat ≤ c.2.2
        rw [sv_map (by omega), sv_map (by omega)]
        omega
    rcases List.mem_cons.mp hx with rfl | hx
    · refine lap2 (W := 1100) hN (by omega) (by omega) (by rw [cut1, List.length_drop]; omega) (by decide) (by decide) (fun b hb => ?_) lc (fun v hv => ?_) (fun b hb => ?_)
      · rw [cut1] at hb
        exact bs b (List.mem_of_mem_drop hb)
      · have := vcs v hv
        omega
      · rw [cut1] at hb
        exact fc b (List.mem_of_mem_drop hb)
    · rw [List.mem_singleton.mp hx]
      refine lap2 (W := 1100) hN (by omega) (by omega) (by show s.2.length ≤ 200; omega) (by decide) (by decide) bs l6 (fun v hv => ?_) fs
      have := v6 v hv
      omega
  obtain ⟨w38, e38, l38, r38, P38⟩ := some_n P24 (N := N) (by omega) (by omega)
  have hid : (w38.1.map fun (x_39 : Int) => x_39) = w38.1 := List.map_id' _
  -- the ring
  obtain ⟨zs, hzs⟩ : ∃ zs, w38.1.zip (w38.1.drop 1 ++ w38.1.take 1) = zs := ⟨_, rfl⟩
  have lz : zs.length = N := by rw [← hzs, List.length_zip, rot_len, l38]; omega
  have rz : ∀ p ∈ zs, (0 ≤ p.1 ∧ p.1 < (N : Int)) ∧ 0 ≤ p.2 ∧ p.2 < N := by rw [← hzs]; exact rot_range r38
  have z0 : ∀ f : Int → Int, (zs.map fun p => f p.2 - f p.1).sum = 0 := fun f => by rw [← hzs]; exact rot_zero f _
  have er := ring_made (N := N) (w_6 := w6) l6 (zs := zs) (by omega) rz
  have edgeB : ∀ p ∈ zs, -1000 ≤ (edge w6.1 p).2.2 ∧ (edge w6.1 p).2.2 ≤ 1000 := fun p hp => by
    have := rz p hp
    have va := v6 _ (sv_mem (xs := w6.1) (i := p.1.toNat) (by omega))
    have vb := v6 _ (sv_mem (xs := w6.1) (i := p.2.toNat) (by omega))
    show -1000 ≤ sv w6.1 p.2.toNat - sv w6.1 p.1.toNat ∧ sv w6.1 p.2.toNat - sv w6.1 p.1.toNat ≤ 1000
    omega
  obtain ⟨cs2, ec2, _⟩ := clocks_fz (N := N) (bs := s.2 ++ zs.map (edge w6.1)) (W := 1100) (S := w6.1) (by omega) (by omega) (by rw [List.length_append, List.length_map]; omega) (by decide) (by decide) (fun b hb => by
    rcases List.mem_append.mp hb with hb | hb
    · exact bs b hb
    · obtain ⟨p, hp, rfl⟩ := List.mem_map.mp hb
      have := rz p hp
      have := edgeB p hp
      unfold BdIn
      show 0 ≤ p.1 ∧ p.1 < N ∧ 0 ≤ p.2 ∧ p.2 < N ∧ _
      omega) (fun b hb => by
    rcases List.mem_append.mp hb with hb | hb
    · exact fs b hb
    · obtain ⟨p, hp, rfl⟩ := List.mem_map.mp hb
      show sv w6.1 p.2.toNat - sv w6.1 p.1.toNat ≤ sv w6.1 p.2.toNat - sv w6.1 p.1.toNat
      omega)
  -- the first of them lower
  obtain ⟨z, zt, hz⟩ : ∃ z zt, zs = z :: zt := by
    cases zs with
    | nil => simp at lz; omega
    | cons a r => exact ⟨a, r, rfl⟩
  obtain ⟨low, hlow⟩ : ∃ low : Bd, (z.1, z.2, sv w6.1 z.2.toNat - sv w6.1 z.1.toNat - 1) = low := ⟨_, rfl⟩
  obtain ⟨ls2, hls2⟩ : ∃ l, low :: zt.map (edge w6.1) = l := ⟨_, rfl⟩
  have ll2 : ls2.length = N := by rw [← hls2, List.length_cons, List.length_map, ← lz, hz]; rfl
  have hget : getI (zs.map (edge w6.1)) 0 = some (edge w6.1 z) := by rw [hz]; exact getI_nat (j := 0) rfl
  have hset : setI (zs.map (edge w6.1)) 0 low = some ls2 := by rw [hz, ← hls2]; exact setI_nat (j := 0) (xs := edge w6.1 z :: zt.map (edge w6.1)) (by simp)
  have in2 : ∀ b ∈ s.2 ++ ls2, BdIn N 1100 b := fun b hb => by
    rcases List.mem_append.mp hb with hb | hb
    · exact bs b hb
    · rw [← hls2] at hb
      rcases List.mem_cons.mp hb with rfl | hb
      · have := rz z (by rw [hz]; exact List.mem_cons_self ..)
        have he := edgeB z (by rw [hz]; exact List.mem_cons_self ..)
        have he : -1000 ≤ sv w6.1 z.2.toNat - sv w6.1 z.1.toNat ∧ sv w6.1 z.2.toNat - sv w6.1 z.1.toNat ≤ 1000 := he
        rw [← hlow]
        unfold BdIn
        dsimp only
        omega
      · obtain ⟨p, hp, rfl⟩ := List.mem_map.mp hb
        have hp : p ∈ zs := by rw [hz]; exact List.mem_cons_of_mem _ hp
        have := rz p hp
        have := edgeB p hp
        unfold BdIn
        show 0 ≤ p.1 ∧ p.1 < N ∧ 0 ≤ p.2 ∧ p.2 < N ∧ _
        omega
  have len2 : (s.2 ++ ls2).length ≤ 200 := by rw [List.length_append]; omega
  obtain ⟨r, e55, h55⟩ := clocks_for_n (N := N) (bs := s.2 ++ ls2) (W := 1100) (by omega) (by omega) len2 (by decide) (by decide) in2
  rcases h55 with ⟨_, _, c3, _⟩ | ⟨rt, rr⟩
  · exfalso
    refine low_ring (N := N) (S := w6.1) (cs := r.2) hz z0 ?_ fun p hp => ?_
    · have := c3 low (List.mem_append_right _ (by rw [← hls2]; exact List.mem_cons_self ..))
      rw [← hlow] at this
      dsimp only at this
      omega
    · have := c3 (edge w6.1 p) (List.mem_append_right _ (by rw [← hls2]; exact List.mem_cons_of_mem _ (List.mem_map_of_mem hp)))
      have : sv r.2 p.2.toNat ≤ sv r.2 p.1.toNat + (sv w6.1 p.2.toNat - sv w6.1 p.1.toNat) := this
      omega
  obtain ⟨q1, q2, q3, q4, q5⟩ := ring_shown in2 rr
  have cmp : compN (fun (x_56 : Int) => some true) (fun (x_56 : Int) => (some (s.2 ++ ls2)).bind fun v_57 => (getI v_57 x_56).bind fun v_58 => some v_58) r.2 = some (r.2.map (bat (s.2 ++ ls2))) := by
    refine compN_map fun x hx => ?_
    have := q1 x hx
    rw [obs, getI_int this.1 this.2, obs]
    unfold bat
    rw [List.getD_eq_getElem?_getD, List.getElem?_eq_getElem this.2]; rfl
  obtain ⟨out, hout⟩ : ∃ o, r.2.map (bat (s.2 ++ ls2)) = o := ⟨_, rfl⟩
  rw [hout] at q2 q3 q4 q5 cmp
  have q3' : (out.map fun (x_61 : (Int × Int × Int)) => x_61.2.2).sum < 0 := q3
  refine ⟨(true, w38.2), ?_, rfl, P38.mono (by omega)⟩
  unfold n__law_are_bounds_right
  rw [e2, obs, hN, rg, obs, e6, obs, e7, obs, rg7, obs, es, obs, ec, obs]
  rw [if_neg (by rw [decide_eq_true rfl]; decide), p6, obs, e24, obs, lap, obs]
  dsimp only
  rw [lrange1_ok (by omega) (by omega), obs, show (N : Int).toNat = N by omega, e38, obs, hid, cut1, cut1', catN_ok (by rw [← List.length_append, rot_len]; omega), obs, hzs, er, obs]
  rw [catN_ok (by rw [List.length_map]; omega), obs, ec2, obs, if_neg (by rw [decide_eq_true rfl]; decide), hget, obs, obs, obs]
  rw [show ((edge w6.1 z).1, (edge w6.1 z).2.1, (edge w6.1 z).2.2 - 1) = low from hlow, hset, obs, catN_ok (by omega), obs, e55, obs]
  rw [if_pos (decide_eq_true rt), cmp, obs, obs]
  rw [if_neg (by rw [decide_eq_false q2, decide_eq_false (Int.not_le.mpr q3')]; decide)]
  rw [cut1, cut1', catN_ok (by rw [← List.length_append, rot_len]; omega), obs]
  rw [show ((out.zip (out.drop 1 ++ out.take 1)).map fun (x_64 : ((Int × Int × Int) × (Int × Int × Int))) => (decide (x_64.1.2.1 = x_64.2.1))).all id = true from ?_]
  rw [List.all_map, List.all_eq_true]
  exact fun p hp => decide_eq_true (q4 p hp)
end
end Wk
set_option Elab.async false
set_option linter.all false
set_option maxRecDepth 100000
set_option maxHeartbeats 1000000
namespace Wk
open PySem PySem.W L3 BFd
noncomputable section
theorem lap_right {C : Cel} {n : Nat} (hp : Pot n C) (hn : n ≤ 10000) (x : Int) : ∃ C', n__law_right_l1 x C = some (.nx C') ∧ Pot (n + 123) C' := by
  obtain ⟨w5, e5, l1, l5, hl, P5⟩ := letters_drawn_n hp (by omega)
  obtain ⟨w7, e7, t7, P7⟩ := spans_right_n P5 (by omega)
  obtain ⟨w10, e10, t10, P10⟩ := bounds_right_n P7 (by omega)
  refine ⟨w10.2, ?_, P10.mono (by omega)⟩
  unfold n__law_right_l1
  rw [e5, obs, letters_right_n l1 (by omega) hl, obs, e7, obs, t7]
  rw [show orS (!true) w5.2 (some (!true, w7.2)) = some (false, w7.2) from rfl, obs, if_neg Bool.false_ne_true]
  rw [e10, obs, t10, if_neg (by decide)]
theorem right_n {C : Cel} (hp : Pot 0 C) : ∃ w, n__law_right C = some w ∧ w.1 = true := by
  have sz := szM
  obtain ⟨C', e, _⟩ := forR_inv (k := n__law_right_l1) (fun i C => Pot (123 * i) C) (xs := rangeI 0 8) (s := C) 0 hp (fun i x s hx hs => by
    have hlt := (List.getElem?_eq_some_iff.mp hx).1
    rw [rangeI_len] at hlt
    rw [Nat.zero_add] at hs ⊢
    obtain ⟨C', e, h⟩ := lap_right hs (by omega) x
    exact ⟨C', e, h.mono (by omega)⟩)
  refine ⟨(true, C'), ?_, rfl⟩
  unfold n__law_right
  rw [range1_ok (j := 8) (by omega) (by omega), obs, show (8 : Int).toNat = 8 from rfl, e, obs]
theorem law_n (ns : List Int) : n_law ns = some true := by
  obtain ⟨n, hn, e⟩ := cells_n ns (m := 3) (by decide) (by decide)
  unfold n_law
  rw [e, obs]
  rw [compN_map (f := fun _ => true) fun x hx => ?_]
  · rw [obs]
    exact congrArg some (List.all_eq_true.mpr fun b hb => by
      obtain ⟨_, _, rfl⟩ := List.mem_map.mp hb
      rfl)
  · have hx := mem_rangeI.mp hx
    obtain ⟨l, el, hp⟩ := pot_n ns (p := x) (by omega) (by omega)
    obtain ⟨w, ew, tw⟩ := right_n hp
    rw [el, obs, ew, obs, tw]
theorem law_plain {ns : List Int} {P Q : Prop} (_ : P) (_ : Q) : f_law [.list (ns.map .int)] = some (.bool true) :=
  c_law (law_n ns)
end
end Wk
set_option Elab.async false
set_option linter.all false
set_option maxRecDepth 100000
set_option maxHeartbeats 4000000
namespace Wk
open PySem PySem.Spec PyProof.Rows L2 L3
theorem bt_len : bootBuiltins "len" = some (.builtin "len") := by decide +kernel
theorem bt_abs : bootBuiltins "abs" = some (.builtin "abs") := by decide +kernel
theorem bt_sum : bootBuiltins "sum" = some (.builtin "sum") := by decide +kernel
theorem bt_all : bootBuiltins "all" = some (.builtin "all") := by decide +kernel
theorem bt_any : bootBuiltins "any" = some (.builtin "any") := by decide +kernel
theorem bt_min : bootBuiltins "min" = some (.builtin "min") := by decide +kernel
theorem bt_max : bootBuiltins "max" = some (.builtin "max") := by decide +kernel
theorem bt_sorted : bootBuiltins "sorted" = some (.builtin "sorted") := by decide +kernel
theorem bt_int : bootBuiltins "int" = some (.type "int") := by decide +kernel
theorem bt_tuple : bootBuiltins "tuple" = some (.type "tuple") := by decide +kernel
theorem bt_list : bootBuiltins "list" = some (.type "list") := by decide +kernel
theorem bt_set : bootBuiltins "set" = some (.type "set") := by decide +kernel
theorem u65 {k : Nat} {A : Around} (hr : Room k A) : A.units + 65 < cLine := by have := hr.un; omega
theorem u66 {k : Nat} {A : Around} (hr : Room k A) : A.units + 66 < cLine := by have := hr.un; omega
theorem u67 {k : Nat} {A : Around} (hr : Room k A) : A.units + 67 < cLine := by have := hr.un; omega
def topS (i : Nat) : Stmt := PySem.Challenge.pw_holesheldopen_k77_whole_clocks_by_bounds.main.body.getD i (.Pass ⟨0, 0, 0, 0⟩)
abbrev s__law_cells : Stmt := topS 33
theorem sc__law_cells : FnScope ["script", "most"] ["script", "most"] (defScope s__law_cells) := ⟨rfl, rfl, rfl, by decide +kernel, rfl, by decide +kernel, by decide +kernel⟩
abbrev s_is_int : Stmt := topS 5
theorem sc_is_int : FnScope ["value", "low", "high"] ["value", "low", "high"] (defScope s_is_int) := ⟨rfl, rfl, rfl, by decide +kernel, rfl, by decide +kernel, by decide +kernel⟩
abbrev s_are_ints : Stmt := topS 6
theorem sc_are_ints : FnScope ["value", "low", "high", "one"] ["value", "low", "high"] (defScope s_are_ints) := ⟨rfl, rfl, rfl, by decide +kernel, rfl, by decide +kernel, by decide +kernel⟩
abbrev s_look_at_letters_back : Stmt := topS 17
theorem sc_look_at_letters_back : FnScope ["exchanges", "times"] ["exchanges"] (defScope s_look_at_letters_back) := ⟨rfl, rfl, rfl, by decide +kernel, rfl, by decide +kernel, by decide +kernel⟩
abbrev s_told_apart : Stmt := topS 19
theorem sc_told_apart : FnScope ["some", "low", "high", "one"] ["some"] (defScope s_told_apart) := ⟨rfl, rfl, rfl, by decide +kernel, rfl, by decide +kernel, by decide +kernel⟩
abbrev s_told_between : Stmt := topS 18
theorem sc_told_between : FnScope ["times", "sent", "got_there", "sent_back", "got_back"] ["times"] (defScope s_told_between) := ⟨rfl, rfl, rfl, by decide +kernel, rfl, by decide +kernel, by decide +kernel⟩
abbrev s_clocks_apart : Stmt := topS 20
theorem sc_clocks_apart : FnScope ["exchanges", "times"] ["exchanges"] (defScope s_clocks_apart) := ⟨rfl, rfl, rfl, by decide +kernel, rfl, by decide +kernel, by decide +kernel⟩
abbrev s_look_at_bounds : Stmt := topS 25
theorem sc_look_at_bounds : FnScope ["many", "bounds", "bound"] ["many", "bounds"] (defScope s_look_at_bounds) := ⟨rfl, rfl, rfl, by decide +kernel, rfl, by decide +kernel, by decide +kernel⟩
abbrev s_told_clocks : Stmt := topS 26
theorem sc_told_clocks : FnScope ["many", "bounds", "shown", "ahead", "last", "lap", "ring", "here", "at", "one", "other", "most"] ["many", "bounds"] (defScope s_told_clocks) := ⟨rfl, rfl, rfl, by decide +kernel, rfl, by decide +kernel, by decide +kernel⟩
abbrev s_clocks_for : Stmt := topS 27
theorem sc_clocks_for : FnScope ["many", "bounds"] ["many", "bounds"] (defScope s_clocks_for) := ⟨rfl, rfl, rfl, by decide +kernel, rfl, by decide +kernel, by decide +kernel⟩
abbrev s_is_told : Stmt := topS 7
theorem sc_is_told : FnScope ["value", "sizes"] ["value", "sizes"] (defScope s_is_told) := ⟨rfl, rfl, rfl, by decide +kernel, rfl, by decide +kernel, by decide +kernel⟩
abbrev s_shows_clocks_for : Stmt := topS 28
theorem sc_shows_clocks_for : FnScope ["many", "bounds", "value", "some", "at", "one", "other", "most", "bound"] ["many", "bounds", "value"] (defScope s_shows_clocks_for) := ⟨rfl, rfl, rfl, by decide +kernel, rfl, by decide +kernel, by decide +kernel⟩
abbrev s__law_are_letters_right : Stmt := topS 36
theorem sc__law_are_letters_right : FnScope ["letters", "told", "bounds", "sent", "there", "back", "home", "by_bounds", "words", "one", "shown", "ahead", "other", "word"] ["letters"] (defScope s__law_are_letters_right) := ⟨rfl, rfl, rfl, by decide +kernel, rfl, by decide +kernel, by decide +kernel⟩
abbrev s__law_take : Stmt := topS 31
theorem sc__law_take : FnScope ["pot", "upto", "prime", "blend", "digit"] ["pot", "upto"] (defScope s__law_take) := ⟨rfl, rfl, rfl, by decide +kernel, rfl, by decide +kernel, by decide +kernel⟩
abbrev s__law_of : Stmt := topS 32
theorem sc__law_of : FnScope ["pot", "some"] ["pot", "some"] (defScope s__law_of) := ⟨rfl, rfl, rfl, by decide +kernel, rfl, by decide +kernel, by decide +kernel⟩
abbrev s__law_letters_drawn : Stmt := topS 35
theorem sc__law_letters_drawn : FnScope ["pot", "upto", "ahead", "found", "lap", "sent", "there", "back"] ["pot"] (defScope s__law_letters_drawn) := ⟨rfl, rfl, rfl, by decide +kernel, rfl, by decide +kernel, by decide +kernel⟩
abbrev s_look_at_spans : Stmt := topS 21
theorem sc_look_at_spans : FnScope ["spans", "span"] ["spans"] (defScope s_look_at_spans) := ⟨rfl, rfl, rfl, by decide +kernel, rfl, by decide +kernel, by decide +kernel⟩
abbrev s_most_agree : Stmt := topS 22
theorem sc_most_agree : FnScope ["spans", "best", "low", "some", "span"] ["spans"] (defScope s_most_agree) := ⟨rfl, rfl, rfl, by decide +kernel, rfl, by decide +kernel, by decide +kernel⟩
abbrev s_told_points : Stmt := topS 23
theorem sc_told_points : FnScope ["spans", "points", "lone", "high", "low", "at", "span"] ["spans"] (defScope s_told_points) := ⟨rfl, rfl, rfl, by decide +kernel, rfl, by decide +kernel, by decide +kernel⟩
abbrev s_fewest_numbers : Stmt := topS 24
theorem sc_fewest_numbers : FnScope ["spans"] ["spans"] (defScope s_fewest_numbers) := ⟨rfl, rfl, rfl, by decide +kernel, rfl, by decide +kernel, by decide +kernel⟩
abbrev s__law_are_spans_right : Stmt := topS 37
theorem sc__law_are_spans_right : FnScope ["pot", "spans", "lap", "most", "first", "last", "points", "lone", "more", "low", "number", "one"] ["pot"] (defScope s__law_are_spans_right) := ⟨rfl, rfl, rfl, by decide +kernel, rfl, by decide +kernel, by decide +kernel⟩
abbrev s__law_some : Stmt := topS 34
theorem sc__law_some : FnScope ["pot", "pool", "many", "rests", "found", "lap"] ["pot", "pool", "many"] (defScope s__law_some) := ⟨rfl, rfl, rfl, by decide +kernel, rfl, by decide +kernel, by decide +kernel⟩
abbrev s__law_are_bounds_right : Stmt := topS 38
theorem sc__law_are_bounds_right : FnScope ["pot", "many", "bounds", "shown", "lap", "told", "on", "turned", "back", "negative", "some", "clocks", "order", "ring", "one", "other", "word", "found", "clock", "end", "most", "at", "bound"] ["pot"] (defScope s__law_are_bounds_right) := ⟨rfl, rfl, rfl, by decide +kernel, rfl, by decide +kernel, by decide +kernel⟩
abbrev s__law_right : Stmt := topS 39
theorem sc__law_right : FnScope ["pot", "lap"] ["pot"] (defScope s__law_right) := ⟨rfl, rfl, rfl, by decide +kernel, rfl, by decide +kernel, by decide +kernel⟩
abbrev s__law_pot : Stmt := topS 30
theorem sc__law_pot : FnScope ["script", "place", "cell", "own", "small"] ["script", "place"] (defScope s__law_pot) := ⟨rfl, rfl, rfl, by decide +kernel, rfl, by decide +kernel, by decide +kernel⟩
abbrev s_law : Stmt := topS 40
theorem sc_law : FnScope ["script", "at"] ["script"] (defScope s_law) := ⟨rfl, rfl, rfl, by decide +kernel, rfl, by decide +kernel, by decide +kernel⟩
structure Top (mg : Str → Option Value) : Prop where
  b_abs : mg "abs" = none
  b_all : mg "all" = none
  b_any : mg "any" = none
  b_bool : mg "bool" = none
  b_enumerate : mg "enumerate" = none
  b_int : mg "int" = none
  b_isinstance : mg "isinstance" = none
  b_len : mg "len" = none
  b_list : mg "list" = none
  b_max : mg "max" = none
  b_min : mg "min" = none
  b_range : mg "range" = none
  b_set : mg "set" = none
  b_sorted : mg "sorted" = none
  b_str : mg "str" = none
  b_sum : mg "sum" = none
  b_tuple : mg "tuple" = none
  b_zip : mg "zip" = none
  k_APART : ∃ t, mg "APART" = some (.str "apart" t)
  k_CLOCKS : ∃ t, mg "CLOCKS" = some (.str "clocks" t)
  k_MOST_HOSTS : ∃ t, mg "MOST_HOSTS" = some (.int 30 t)
  k_MOST_SOME : ∃ t, mg "MOST_SOME" = some (.int 200 t)
  k_MOST_TIME : ∃ t, mg "MOST_TIME" = some (.int 1000000000000 t)
  k_NEVER : ∃ t, mg "NEVER" = some (.str "never" t)
  k_RING : ∃ t, mg "RING" = some (.str "ring" t)
  k_THREE : ∃ t, mg "THREE" = some (.int 3 t)
section
variable {P : Program} {w : World} {K : PySem.W.Frag} {mg : Str → Option Value} {base : Heap}
theorem ok__law_cells {f : Addr} {fd : FuncData} (F : Fun K "_law_cells" "_law_cells" s__law_cells f fd) (T : Top mg) : FnOk P w K mg base CX0 1 f fd ["script", "most"] (spP K 2 false f__law_cells) :=
  fnP_ok F sc__law_cells fun cdv A outer s H E hr => ((pdss_one (pds_ret (PDN.fz (pdn_listRg1 rfl (by rfl) T.b_list (by rfl) T.b_range (pd_callB (cd_max rfl (u66 hr)) (by rfl) T.b_max bt_max (pda_cons pd_int (pda_cons (pd_callB (cd_min rfl (u66 hr)) (by rfl) T.b_min bt_min (pda_cons (pd_var 1 (pv 1)) (pda_cons (pd_callB cd_len (by rfl) T.b_len bt_len (pda_cons (pd_var 0 (pv 0)) pda_nil)) pda_nil))) pda_nil))))))))
theorem ok_is_int {f : Addr} {fd : FuncData} (F : Fun K "is_int" "is_int" s_is_int f fd) (T : Top mg) : FnOk P w K mg base CX0 1 f fd ["value", "low", "high"] (spP K 3 false f_is_int) :=
  fnP_ok F sc_is_int fun cdv A outer s H E hr => ((pdss_one (pds_ret (pd_and (pd_isa (by rfl) T.b_isinstance (pe_tyn (by rfl) T.b_int (by decide +kernel)) (pd_var 0 (pv 0))) (pd_and (pd_not (pd_isa (by rfl) T.b_isinstance (pe_tyn (by rfl) T.b_bool (by decide +kernel)) (pd_var 0 (pv 0)))) (pd_one (pd_chain (od_le hr.units) (od_le hr.units) (pd_var 1 (pv 1)) (pd_var 0 (pv 0)) (pd_var 2 (pv 2)))))))))
theorem ok_are_ints {f : Addr} {fd : FuncData} (F : Fun K "are_ints" "are_ints" s_are_ints f fd) (T : Top mg) (c_is_int : Cal P w K mg base 1 "is_int" (spP K 3 false f_is_int)) : FnOk P w K mg base CX0 2 f fd ["value", "low", "high"] (spP K 3 false f_are_ints) :=
  fnP_ok F sc_are_ints fun cdv A outer s H E hr => ((pdss_one (pds_ret (pd_and (pd_isa (by rfl) T.b_isinstance (pe_tyn (by rfl) T.b_tuple (by decide +kernel)) (pd_var 0 (pv 0))) (pd_one (pd_callB (cd_all rfl) (by rfl) T.b_all bt_all (pda_cons (PDN.fz (pdn_comp (own := [("one", 3)]) rfl sc_are_ints.nd (pdi_seq (pd_var 0 (pv 0))) (by kernel_rfl) (fun _ _ _ _ _ => (pdg_name (i := 3) sc_are_ints.nd rfl (by first | exact .inl rfl | exact .inr rfl))) (fun _ _ _ _ _ => pdts_nil) (fun _ _ _ _ _ => (pd_callP hr c_is_int fnP_ar (by decide) (by rfl) (pda_cons (pd_var 3 (pv 3)) (pda_cons (pd_var 1 (pv 1)) (pda_cons (pd_var 2 (pv 2)) pda_nil))))))) pda_nil)))))))
theorem ok_look_at_letters_back {f : Addr} {fd : FuncData} (F : Fun K "look_at_letters_back" "look_at_letters_back" s_look_at_letters_back f fd) (T : Top mg) (c_are_ints : Cal P w K mg base 2 "are_ints" (spP K 3 false f_are_ints)) : FnOk P w K mg base CX0 3 f fd ["exchanges"] (spP K 1 false f_look_at_letters_back) :=
  fnP_ok F sc_look_at_letters_back fun cdv A outer s H E hr => ((pdss_cons (pds_if (PWB.b (pwb_or (pdb_not (pdb_val (pd_isa (by rfl) T.b_isinstance (pe_tyn (by rfl) T.b_tuple (by decide +kernel)) (pd_var 0 (pv 0))))) (pwb_or1 (pdb_not (pdb_chain (od_le hr.units) (od_le hr.units) pd_int (pd_callB cd_len (by rfl) T.b_len bt_len (pda_cons (pd_var 0 (pv 0)) pda_nil)) (pd_gint T.k_MOST_SOME (by rfl))))))) (pdss_one pds_bad) pdss_nil)
  (pdss_one (pds_for .never rfl (pdi_wp [1] (pdi_seq (pd_var 0 (pv 0)))) (show PDG _ _ _ t_look_at_letters_back_l1 from (pdg_name (i := 1) sc_look_at_letters_back.nd rfl (by first | exact .inl rfl | exact .inr rfl))) (show PDSs _ _ b_look_at_letters_back_l1 from (pdss_one (pds_if (PWB.b (pwb_or (pdb_not (pdb_val (pd_callP hr c_are_ints fnP_ar (by decide) (by rfl) (pda_cons (pd_var 1 (pv 1)) (pda_cons (pd_un ud_neg (pd_gint T.k_MOST_TIME (by rfl))) (pda_cons (pd_gint T.k_MOST_TIME (by rfl)) pda_nil)))))) (pwb_or1 (pdb_cmp (od_ne hr.units) (pd_callB cd_len (by rfl) T.b_len bt_len (pda_cons (pd_var 1 (pv 1)) pda_nil)) (pd_op od_add (pd_gint T.k_THREE (by rfl)) pd_int))))) (pdss_one pds_bad) (pdss_wp [1] pdss_nil))))))))
theorem ok_told_apart {f : Addr} {fd : FuncData} (F : Fun K "told_apart" "told_apart" s_told_apart f fd) (T : Top mg) : FnOk P w K mg base CX0 1 f fd ["some"] (spP K 1 false f_told_apart) :=
  fnP_ok F sc_told_apart fun cdv A outer s H E hr => ((pdss_cons (pds_set (i := 1) sc_told_apart.nd rfl (by first | exact .inl rfl | exact .inr rfl) (PD.l (pd_callB (cd_max rfl (u66 hr)) (by rfl) T.b_max bt_max (pda_cons (PDN.fz (pdn_comp (own := [("one", 3)]) rfl sc_told_apart.nd (pdi_seq (pd_var 0 (pv 0))) (by kernel_rfl) (fun _ _ _ _ _ => (pdg_name (i := 3) sc_told_apart.nd rfl (by first | exact .inl rfl | exact .inr rfl))) (fun _ _ _ _ _ => pdts_nil) (fun _ _ _ _ _ => (pd_ix ixd (pd_var 3 (pv 3)) pd_int)))) pda_nil))))
  (pdss_cons (pds_set (i := 2) sc_told_apart.nd rfl (by first | exact .inl rfl | exact .inr rfl) (PD.l (pd_callB (cd_min rfl (u66 hr)) (by rfl) T.b_min bt_min (pda_cons (PDN.fz (pdn_comp (own := [("one", 3)]) rfl sc_told_apart.nd (pdi_seq (pd_var 0 (pv 0))) (by kernel_rfl) (fun _ _ _ _ _ => (pdg_name (i := 3) sc_told_apart.nd rfl (by first | exact .inl rfl | exact .inr rfl))) (fun _ _ _ _ _ => pdts_nil) (fun _ _ _ _ _ => (pd_ix ixd (pd_var 3 (pv 3)) pd_int)))) pda_nil))))
  (pdss_cons (pds_if (pdb_cmp (od_le hr.units) (pd_var 1 (pv 1)) (pd_var 2 (pv 2))) (pdss_one (pds_ret (pd_tup (pda_cons (pd_gstr T.k_APART (by decide) (by rfl)) (pda_cons (pd_var 1 (pv 1)) (pda_cons (pd_var 2 (pv 2)) pda_nil)))))) pdss_nil)
  (pdss_one (pds_ret (pd_tup (pda_cons (pd_gstr T.k_NEVER (by decide) (by rfl)) (pda_cons (pd_index (u65 hr) (PDN.fz (pdn_comp (own := [("one", 3)]) rfl sc_told_apart.nd (pdi_seq (pd_var 0 (pv 0))) (by kernel_rfl) (fun _ _ _ _ _ => (pdg_name (i := 3) sc_told_apart.nd rfl (by first | exact .inl rfl | exact .inr rfl))) (fun _ _ _ _ _ => pdts_nil) (fun _ _ _ _ _ => (pd_ix ixd (pd_var 3 (pv 3)) pd_int)))) (pd_var 1 (pv 1))) (pda_cons (pd_index (u65 hr) (PDN.fz (pdn_comp (own := [("one", 3)]) rfl sc_told_apart.nd (pdi_seq (pd_var 0 (pv 0))) (by kernel_rfl) (fun _ _ _ _ _ => (pdg_name (i := 3) sc_told_apart.nd rfl (by first | exact .inl rfl | exact .inr rfl))) (fun _ _ _ _ _ => pdts_nil) (fun _ _ _ _ _ => (pd_ix ixd (pd_var 3 (pv 3)) pd_int)))) (pd_var 2 (pv 2))) pda_nil))))))))))
theorem ok_told_between {f : Addr} {fd : FuncData} (F : Fun K "told_between" "told_between" s_told_between f fd) (T : Top mg) : FnOk P w K mg base CX0 1 f fd ["times"] (spP K 1 false f_told_between) :=
  fnP_ok F sc_told_between fun cdv A outer s H E hr => ((pdss_cons (pds_asg (pd_var 0 (pv 0)) (pdg_tup rfl (pdgs_cons (pdg_name (i := 1) sc_told_between.nd rfl (by first | exact .inl rfl | exact .inr rfl)) (pdgs_cons (pdg_name (i := 2) sc_told_between.nd rfl (by first | exact .inl rfl | exact .inr rfl)) (pdgs_cons (pdg_name (i := 3) sc_told_between.nd rfl (by first | exact .inl rfl | exact .inr rfl)) (pdgs_cons (pdg_name (i := 4) sc_told_between.nd rfl (by first | exact .inl rfl | exact .inr rfl)) pdgs_nil))))))
  (pdss_one (pds_ret (pd_tup (pda_cons (pd_op od_sub (pd_var 3 (pv 3)) (pd_var 4 (pv 4))) (pda_cons (pd_op od_sub (pd_var 2 (pv 2)) (pd_var 1 (pv 1))) pda_nil)))))))
theorem ok_clocks_apart {f : Addr} {fd : FuncData} (F : Fun K "clocks_apart" "clocks_apart" s_clocks_apart f fd) (T : Top mg) (c_look_at_letters_back : Cal P w K mg base 3 "look_at_letters_back" (spP K 1 false f_look_at_letters_back)) (c_told_apart : Cal P w K mg base 1 "told_apart" (spP K 1 false f_told_apart)) (c_told_between : Cal P w K mg base 1 "told_between" (spP K 1 false f_told_between)) : FnOk P w K mg base CX0 4 f fd ["exchanges"] (spP K 1 false f_clocks_apart) :=
  fnP_ok F sc_clocks_apart fun cdv A outer s H E hr => ((pdss_cons (pds_drop (pd_callP hr c_look_at_letters_back fnP_ar (by decide) (by rfl) (pda_cons (pd_var 0 (pv 0)) pda_nil)))
  (pdss_one (pds_ret (pd_callP hr c_told_apart fnP_ar (by decide) (by rfl) (pda_cons (PDN.fz (pdn_comp (own := [("times", 1)]) rfl sc_clocks_apart.nd (pdi_seq (pd_var 0 (pv 0))) (by kernel_rfl) (fun _ _ _ _ _ => (pdg_name (i := 1) sc_clocks_apart.nd rfl (by first | exact .inl rfl | exact .inr rfl))) (fun _ _ _ _ _ => pdts_nil) (fun _ _ _ _ _ => (pd_callP hr c_told_between fnP_ar (by decide) (by rfl) (pda_cons (pd_var 1 (pv 1)) pda_nil))))) pda_nil))))))
theorem ok_look_at_bounds {f : Addr} {fd : FuncData} (F : Fun K "look_at_bounds" "look_at_bounds" s_look_at_bounds f fd) (T : Top mg) (c_is_int : Cal P w K mg base 1 "is_int" (spP K 3 false f_is_int)) (c_are_ints : Cal P w K mg base 2 "are_ints" (spP K 3 false f_are_ints)) : FnOk P w K mg base CX0 3 f fd ["many", "bounds"] (spP K 2 false f_look_at_bounds) :=
  fnP_ok F sc_look_at_bounds fun cdv A outer s H E hr => ((pdss_cons (pds_if (pdb_not (pdb_val (pd_callP hr c_is_int fnP_ar (by decide) (by rfl) (pda_cons (pd_var 0 (pv 0)) (pda_cons pd_int (pda_cons (pd_gint T.k_MOST_HOSTS (by rfl)) pda_nil)))))) (pdss_one pds_bad) pdss_nil)
  (pdss_cons (pds_if (PWB.b (pwb_or (pdb_not (pdb_val (pd_isa (by rfl) T.b_isinstance (pe_tyn (by rfl) T.b_tuple (by decide +kernel)) (pd_var 1 (pv 1))))) (pwb_or1 (pdb_cmp (od_gt hr.units) (pd_callB cd_len (by rfl) T.b_len bt_len (pda_cons (pd_var 1 (pv 1)) pda_nil)) (pd_gint T.k_MOST_SOME (by rfl)))))) (pdss_one pds_bad) pdss_nil)
  (pdss_one (pds_for .never rfl (pdi_wp [2] (pdi_seq (pd_var 1 (pv 1)))) (show PDG _ _ _ t_look_at_bounds_l1 from (pdg_name (i := 2) sc_look_at_bounds.nd rfl (by first | exact .inl rfl | exact .inr rfl))) (show PDSs _ _ b_look_at_bounds_l1 from (pdss_cons (pds_if (PWB.b (pwb_or (pdb_not (pdb_val (pd_callP hr c_are_ints fnP_ar (by decide) (by rfl) (pda_cons (pd_var 2 (pv 2)) (pda_cons (pd_un ud_neg (pd_gint T.k_MOST_TIME (by rfl))) (pda_cons (pd_gint T.k_MOST_TIME (by rfl)) pda_nil)))))) (pwb_or1 (pdb_cmp (od_ne hr.units) (pd_callB cd_len (by rfl) T.b_len bt_len (pda_cons (pd_var 2 (pv 2)) pda_nil)) (pd_gint T.k_THREE (by rfl)))))) (pdss_one pds_bad) pdss_nil)
  (pdss_one (pds_if (pdb_not (pdb_val (pd_callP hr c_are_ints fnP_ar (by decide) (by rfl) (pda_cons (pd_sl (pd_var 2 (pv 2)) pdo_n (pdo_s pd_int)) (pda_cons pd_int (pda_cons (pd_op od_sub (pd_var 0 (pv 0)) pd_int) pda_nil)))))) (pdss_one pds_bad) (pdss_wp [2] pdss_nil))))))))))
theorem ok_told_clocks {f : Addr} {fd : FuncData} (F : Fun K "told_clocks" "told_clocks" s_told_clocks f fd) (T : Top mg) : FnOk P w K mg base CX0 1 f fd ["many", "bounds"] (spP K 2 false f_told_clocks) :=
  fnP_ok F sc_told_clocks fun cdv A outer s H E hr => ((pdss_cons (pds_par2 (i := 2) (j := 3) rfl sc_told_clocks.nd rfl rfl (by decide) rfl rfl (pdls_cons (PDN.l (pdn_rep (pdn_lst (pda_cons pd_int pda_nil)) (pd_var 0 (pv 0)))) (pdls_cons (PDN.l (pdn_rep (pdn_lst (pda_cons pd_non pda_nil)) (pd_var 0 (pv 0)))) pdls_nil)))
  (pdss_cons (pds_set (i := 4) sc_told_clocks.nd rfl (by first | exact .inl rfl | exact .inr rfl) (PD.l pd_non))
  (pdss_cons (pds_fz 3 (pds_fz 2 (pds_for .never rfl (pdi_wp [5, 8, 9, 10, 11] (pdi_range1 (by rfl) T.b_range (pda_cons (pd_var 0 (pv 0)) pda_nil))) (show PDG _ _ _ t_told_clocks_l1 from (pdg_name (i := 5) sc_told_clocks.nd rfl (by first | exact .inl rfl | exact .inr rfl))) (show PDSs _ _ b_told_clocks_l1 from (pdss_cons (pds_set (i := 4) sc_told_clocks.nd rfl (by first | exact .inl rfl | exact .inr rfl) (PD.l pd_non))
  (pdss_one (pds_wp [5, 8, 9, 10, 11] (pds_for .never rfl (pdi_wp [8, 9, 10, 11] (pdi_enum (by rfl) T.b_enumerate (pda_cons (pd_var 1 (pv 1)) pda_nil))) (show PDG _ _ _ t_told_clocks_l2 from (pdg_tup rfl (pdgs_cons (pdg_name (i := 8) sc_told_clocks.nd rfl (by first | exact .inl rfl | exact .inr rfl)) (pdgs_cons (pdg_tup rfl (pdgs_cons (pdg_name (i := 9) sc_told_clocks.nd rfl (by first | exact .inl rfl | exact .inr rfl)) (pdgs_cons (pdg_name (i := 10) sc_told_clocks.nd rfl (by first | exact .inl rfl | exact .inr rfl)) (pdgs_cons (pdg_name (i := 11) sc_told_clocks.nd rfl (by first | exact .inl rfl | exact .inr rfl)) pdgs_nil)))) pdgs_nil)))) (show PDSs _ _ b_told_clocks_l2 from (pdss_one (pds_if (pdb_cmp (od_lt hr.units) (pd_op od_add (pd_ix ixd (pd_var 2 (pv 2)) (pd_var 9 (pv 9))) (pd_var 11 (pv 11))) (pd_ix ixd (pd_var 2 (pv 2)) (pd_var 10 (pv 10)))) (pdss_one (pds_wp [8, 9, 10, 11] (pds_asg2 (pd_tup (pda_cons (pd_op od_add (pd_ix ixd (pd_var 2 (pv 2)) (pd_var 9 (pv 9))) (pd_var 11 (pv 11))) (pda_cons (pd_var 8 (pv 8)) (pda_cons (pd_var 10 (pv 10)) pda_nil)))) (pdg2_tup rfl (pdgs2_cons (pdg2_put (pv 2) (pd_var 10 (pv 10))) (pdgs2_cons (pdg2_put (pv 3) (pd_var 10 (pv 10))) (pdgs2_cons (PDG.two (pdg_name (i := 4) sc_told_clocks.nd rfl (by first | exact .inl rfl | exact .inr rfl))) pdgs2_nil))))))) (pdss_wp [8, 9, 10, 11] pdss_nil))))))))))))
  (pdss_cons (pds_if (pdb_cmp od_is (pd_var 4 (pv 4)) pd_non) (pdss_one (pds_ret (pd_tup (pda_cons (pd_gstr T.k_CLOCKS (by decide) (by rfl)) (pda_cons (pd_callT cd_tuple (by rfl) T.b_tuple bt_tuple (pda_cons (pd_var 2 (pv 2)) pda_nil)) pda_nil))))) pdss_nil)
  (pdss_cons (pds_for .never rfl (pdi_wp [5] (pdi_range1 (by rfl) T.b_range (pda_cons (pd_var 0 (pv 0)) pda_nil))) (show PDG _ _ _ t_told_clocks_l3 from (pdg_name (i := 5) sc_told_clocks.nd rfl (by first | exact .inl rfl | exact .inr rfl))) (show PDSs _ _ b_told_clocks_l3 from (pdss_one (pds_wp [5] (pds_set (i := 4) sc_told_clocks.nd rfl (by first | exact .inl rfl | exact .inr rfl) (PD.l (pd_ix ixd (pd_ix ixd (pd_var 1 (pv 1)) (pd_ix ixd (pd_var 3 (pv 3)) (pd_var 4 (pv 4)))) pd_int)))))))
  (pdss_cons (pds_par2 (i := 6) (j := 7) rfl sc_told_clocks.nd rfl rfl (by decide) rfl rfl (pdls_cons (PDN.l (pdn_lst pda_nil)) (pdls_cons (PD.l (pd_var 4 (pv 4))) pdls_nil)))
  (pdss_cons (pds_fz 6 (pds_while .never (show PDB _ _ t_told_clocks_l4 from (PWB.b (pwb_or (pdb_cmp (od_eq hr.units) (pd_var 6 (pv 6)) (PDN.fz (pdn_lst pda_nil))) (pwb_or1 (pdb_cmp (od_ne hr.units) (pd_var 7 (pv 7)) (pd_var 4 (pv 4))))))) (show PDSs _ _ b_told_clocks_l4 from (pdss_cons (pds_app (pv 6) (pd_ix ixd (pd_var 3 (pv 3)) (pd_var 7 (pv 7))))
  (pdss_one (pds_set (i := 7) sc_told_clocks.nd rfl (by first | exact .inl rfl | exact .inr rfl) (PD.l (pd_ix ixd (pd_ix ixd (pd_var 1 (pv 1)) (pd_ix ixd (pd_var 3 (pv 3)) (pd_var 7 (pv 7)))) pd_int))))))))
  (pdss_one (pds_ret (pd_tup (pda_cons (pd_gstr T.k_RING (by decide) (by rfl)) (pda_cons (pd_callT cd_tuple (by rfl) T.b_tuple bt_tuple (pda_cons (PDN.fz (pdn_rev (pd_var 6 (pv 6)))) pda_nil)) pda_nil)))))))))))))
theorem ok_clocks_for {f : Addr} {fd : FuncData} (F : Fun K "clocks_for" "clocks_for" s_clocks_for f fd) (T : Top mg) (c_look_at_bounds : Cal P w K mg base 3 "look_at_bounds" (spP K 2 false f_look_at_bounds)) (c_told_clocks : Cal P w K mg base 1 "told_clocks" (spP K 2 false f_told_clocks)) : FnOk P w K mg base CX0 4 f fd ["many", "bounds"] (spP K 2 false f_clocks_for) :=
  fnP_ok F sc_clocks_for fun cdv A outer s H E hr => ((pdss_cons (pds_drop (pd_callP hr c_look_at_bounds fnP_ar (by decide) (by rfl) (pda_cons (pd_var 0 (pv 0)) (pda_cons (pd_var 1 (pv 1)) pda_nil))))
  (pdss_one (pds_ret (pd_callP hr c_told_clocks fnP_ar (by decide) (by rfl) (pda_cons (pd_var 0 (pv 0)) (pda_cons (pd_var 1 (pv 1)) pda_nil)))))))
theorem ok_is_told {f : Addr} {fd : FuncData} (F : Fun K "is_told" "is_told" s_is_told f fd) (T : Top mg) : FnOk P w K mg base CX0 1 f fd ["value", "sizes"] (spP K 2 false f_is_told) :=
  fnP_ok F sc_is_told fun cdv A outer s H E hr => ((pdss_one (pds_ret (pd_and (pd_isa (by rfl) T.b_isinstance (pe_tyn (by rfl) T.b_tuple (by decide +kernel)) (pd_var 0 (pv 0))) (pd_and (pd_cmp (od_in (u65 hr)) (pd_callB cd_len (by rfl) T.b_len bt_len (pda_cons (pd_var 0 (pv 0)) pda_nil)) (pd_var 1 (pv 1))) (pd_one (pd_isa (by rfl) T.b_isinstance (pe_tyn (by rfl) T.b_str (by decide +kernel)) (pd_ix ixd (pd_var 0 (pv 0)) pd_int))))))))
theorem ok_shows_clocks_for {f : Addr} {fd : FuncData} (F : Fun K "shows_clocks_for" "shows_clocks_for" s_shows_clocks_for f fd) (T : Top mg) (c_look_at_bounds : Cal P w K mg base 3 "look_at_bounds" (spP K 2 false f_look_at_bounds)) (c_is_told : Cal P w K mg base 1 "is_told" (spP K 2 false f_is_told)) (c_are_ints : Cal P w K mg base 2 "are_ints" (spP K 3 false f_are_ints)) : FnOk P w K mg base CX0 4 f fd ["many", "bounds", "value"] (spP K 3 false f_shows_clocks_for) :=
  fnP_ok F sc_shows_clocks_for fun cdv A outer s H E hr => ((pdss_cons (pds_drop (pd_callP hr c_look_at_bounds fnP_ar (by decide) (by rfl) (pda_cons (pd_var 0 (pv 0)) (pda_cons (pd_var 1 (pv 1)) pda_nil))))
  (pdss_cons (pds_if (pdb_not (pdb_val (pd_callP hr c_is_told fnP_ar (by decide) (by rfl) (pda_cons (pd_var 2 (pv 2)) (pda_cons (pd_tup (pda_cons pd_int pda_nil)) pda_nil))))) (pdss_one (pds_ret pd_bl)) pdss_nil)
  (pdss_cons (pds_if (pdb_cmp (od_eq hr.units) (pd_ix ixd (pd_var 2 (pv 2)) pd_int) (pd_gstr T.k_CLOCKS (by decide) (by rfl))) (pdss_cons (pds_if (PWB.b (pwb_or (pdb_not (pdb_val (pd_callP hr c_are_ints fnP_ar (by decide) (by rfl) (pda_cons (pd_ix ixd (pd_var 2 (pv 2)) pd_int) (pda_cons (pd_op od_mul (pd_un ud_neg (pd_gint T.k_MOST_SOME (by rfl))) (pd_gint T.k_MOST_TIME (by rfl))) (pda_cons (pd_op od_mul (pd_gint T.k_MOST_SOME (by rfl)) (pd_gint T.k_MOST_TIME (by rfl))) pda_nil)))))) (pwb_or1 (pdb_cmp (od_ne hr.units) (pd_callB cd_len (by rfl) T.b_len bt_len (pda_cons (pd_ix ixd (pd_var 2 (pv 2)) pd_int) pda_nil)) (pd_var 0 (pv 0)))))) (pdss_one (pds_ret pd_bl)) pdss_nil)
  (pdss_one (pds_ret (pd_callB (cd_all rfl) (by rfl) T.b_all bt_all (pda_cons (PDN.fz (pdn_comp (own := [("one", 5), ("other", 6), ("most", 7)]) rfl sc_shows_clocks_for.nd (pdi_seq (pd_var 1 (pv 1))) (by kernel_rfl) (fun _ _ _ _ _ => (pdg_tup rfl (pdgs_cons (pdg_name (i := 5) sc_shows_clocks_for.nd rfl (by first | exact .inl rfl | exact .inr rfl)) (pdgs_cons (pdg_name (i := 6) sc_shows_clocks_for.nd rfl (by first | exact .inl rfl | exact .inr rfl)) (pdgs_cons (pdg_name (i := 7) sc_shows_clocks_for.nd rfl (by first | exact .inl rfl | exact .inr rfl)) pdgs_nil))))) (fun _ _ _ _ _ => pdts_nil) (fun _ _ _ _ _ => (pd_cmp (od_le hr.units) (pd_op od_sub (pd_ix ixd (pd_ix ixd (pd_var 2 (pv 2)) pd_int) (pd_var 6 (pv 6))) (pd_ix ixd (pd_ix ixd (pd_var 2 (pv 2)) pd_int) (pd_var 5 (pv 5)))) (pd_var 7 (pv 7)))))) pda_nil))))) pdss_nil)
  (pdss_cons (pds_if (PWB.b (pwb_or (pdb_cmp (od_ne hr.units) (pd_ix ixd (pd_var 2 (pv 2)) pd_int) (pd_gstr T.k_RING (by decide) (by rfl))) (pwb_or (pdb_not (pdb_val (pd_callP hr c_are_ints fnP_ar (by decide) (by rfl) (pda_cons (pd_ix ixd (pd_var 2 (pv 2)) pd_int) (pda_cons pd_int (pda_cons (pd_op od_sub (pd_callB cd_len (by rfl) T.b_len bt_len (pda_cons (pd_var 1 (pv 1)) pda_nil)) pd_int) pda_nil)))))) (pwb_or1 (pdb_cmp (od_eq hr.units) (pd_ix ixd (pd_var 2 (pv 2)) pd_int) (pd_tup pda_nil)))))) (pdss_one (pds_ret pd_bl)) pdss_nil)
  (pdss_cons (pds_fz 3 (pds_setComp (own := [("at", 4)]) (i := 3) rfl sc_shows_clocks_for.nd rfl rfl (sw_true rfl rfl rfl rfl) (pdi_seq (pd_ix ixd (pd_var 2 (pv 2)) pd_int)) (by kernel_rfl) (fun _ _ _ _ _ => (pdg_name (i := 4) sc_shows_clocks_for.nd rfl (by first | exact .inl rfl | exact .inr rfl))) (fun _ _ _ _ _ => pdts_nil) (fun _ _ _ _ _ => (pd_ix ixd (pd_var 1 (pv 1)) (pd_var 4 (pv 4))))))
  (pdss_cons (pds_if (pdb_not (pdb_val (pd_callB (cd_all rfl) (by rfl) T.b_all bt_all (pda_cons (PDN.fz (pdn_comp (own := [("one", 5), ("other", 6)]) rfl sc_shows_clocks_for.nd (pdi_zip (by rfl) T.b_zip (pda_cons (pd_var 3 (pv 3)) (pda_cons (PDN.fz (pdn_lst (pda_star (pd_sl (pd_var 3 (pv 3)) (pdo_s pd_int) pdo_n) (pda_cons (pd_ix ixd (pd_var 3 (pv 3)) pd_int) pda_nil)))) pda_nil))) (by kernel_rfl) (fun _ _ _ _ _ => (pdg_tup rfl (pdgs_cons (pdg_name (i := 5) sc_shows_clocks_for.nd rfl (by first | exact .inl rfl | exact .inr rfl)) (pdgs_cons (pdg_name (i := 6) sc_shows_clocks_for.nd rfl (by first | exact .inl rfl | exact .inr rfl)) pdgs_nil)))) (fun _ _ _ _ _ => pdts_nil) (fun _ _ _ _ _ => (pd_cmp (od_eq hr.units) (pd_ix ixd (pd_var 5 (pv 5)) pd_int) (pd_ix ixd (pd_var 6 (pv 6)) pd_int))))) pda_nil)))) (pdss_one (pds_ret pd_bl)) pdss_nil)
  (pdss_one (pds_ret (pd_cmp (od_lt hr.units) (pd_callB (cd_sum rfl) (by rfl) T.b_sum bt_sum (pda_cons (PDN.fz (pdn_comp (own := [("bound", 8)]) rfl sc_shows_clocks_for.nd (pdi_seq (pd_var 3 (pv 3))) (by kernel_rfl) (fun _ _ _ _ _ => (pdg_name (i := 8) sc_shows_clocks_for.nd rfl (by first | exact .inl rfl | exact .inr rfl))) (fun _ _ _ _ _ => pdts_nil) (fun _ _ _ _ _ => (pd_ix ixd (pd_var 8 (pv 8)) pd_int)))) pda_nil)) pd_int))))))))))
theorem ok__law_are_letters_right {f : Addr} {fd : FuncData} (F : Fun K "_law_are_letters_right" "_law_are_letters_right" s__law_are_letters_right f fd) (T : Top mg) (c_clocks_apart : Cal P w K mg base 4 "clocks_apart" (spP K 1 false f_clocks_apart)) (c_clocks_for : Cal P w K mg base 4 "clocks_for" (spP K 2 false f_clocks_for)) (c_shows_clocks_for : Cal P w K mg base 4 "shows_clocks_for" (spP K 3 false f_shows_clocks_for)) : FnOk P w K mg base CX0 5 f fd ["letters"] (spP K 1 false f__law_are_letters_right) :=
  fnP_ok F sc__law_are_letters_right fun cdv A outer s H E hr => ((pdss_cons (pds_par2 (i := 1) (j := 2) rfl sc__law_are_letters_right.nd rfl rfl (by decide) rfl rfl (pdls_cons (PD.l (pd_callP hr c_clocks_apart fnP_ar (by decide) (by rfl) (pda_cons (pd_var 0 (pv 0)) pda_nil))) (pdls_cons (PD.l (PDN.fz (pdn_lst pda_nil))) pdls_nil)))
  (pdss_cons (pds_for .never rfl (pdi_wp [3, 4, 5, 6] (pdi_seq (pd_var 0 (pv 0)))) (show PDG _ _ _ t__law_are_letters_right_l1 from (pdg_tup rfl (pdgs_cons (pdg_name (i := 3) sc__law_are_letters_right.nd rfl (by first | exact .inl rfl | exact .inr rfl)) (pdgs_cons (pdg_name (i := 4) sc__law_are_letters_right.nd rfl (by first | exact .inl rfl | exact .inr rfl)) (pdgs_cons (pdg_name (i := 5) sc__law_are_letters_right.nd rfl (by first | exact .inl rfl | exact .inr rfl)) (pdgs_cons (pdg_name (i := 6) sc__law_are_letters_right.nd rfl (by first | exact .inl rfl | exact .inr rfl)) pdgs_nil)))))) (show PDSs _ _ b__law_are_letters_right_l1 from (pdss_one (pds_wp [3, 4, 5, 6] (pds_set (i := 2) sc__law_are_letters_right.nd rfl (by first | exact .inl rfl | exact .inr rfl) (PD.l (pd_op od_add (pd_var 2 (pv 2)) (PDN.fz (pdn_lst (pda_cons (pd_tup (pda_cons pd_int (pda_cons pd_int (pda_cons (pd_op od_sub (pd_var 4 (pv 4)) (pd_var 3 (pv 3))) pda_nil)))) (pda_cons (pd_tup (pda_cons pd_int (pda_cons pd_int (pda_cons (pd_op od_sub (pd_var 6 (pv 6)) (pd_var 5 (pv 5))) pda_nil)))) pda_nil)))))))))))
  (pdss_cons (pds_set (i := 7) sc__law_are_letters_right.nd rfl (by first | exact .inl rfl | exact .inr rfl) (PD.l (pd_callP hr c_clocks_for fnP_ar (by decide) (by rfl) (pda_cons pd_int (pda_cons (pd_callT cd_tuple (by rfl) T.b_tuple bt_tuple (pda_cons (pd_var 2 (pv 2)) pda_nil)) pda_nil)))))
  (pdss_cons (pds_if (pdb_cmp (od_ne hr.units) (pd_cmp (od_eq hr.units) (pd_ix ixd (pd_var 1 (pv 1)) pd_int) (pd_str (by decide))) (pd_cmp (od_eq hr.units) (pd_ix ixd (pd_var 7 (pv 7)) pd_int) (pd_str (by decide)))) (pdss_one (pds_ret pd_bl)) pdss_nil)
  (pdss_cons (pds_if (pdb_cmp (od_eq hr.units) (pd_ix ixd (pd_var 1 (pv 1)) pd_int) (pd_str (by decide))) (pdss_cons (pds_set (i := 10) sc__law_are_letters_right.nd rfl (by first | exact .inl rfl | exact .inr rfl) (PD.l (pd_ix ixd (pd_var 7 (pv 7)) pd_int)))
  (pdss_cons (pds_if (pdb_not (pdb_chain (od_le hr.units) (od_le hr.units) (pd_ix ixd (pd_var 1 (pv 1)) pd_int) (pd_op od_sub (pd_ix ixd (pd_var 10 (pv 10)) pd_int) (pd_ix ixd (pd_var 10 (pv 10)) pd_int)) (pd_ix ixd (pd_var 1 (pv 1)) pd_int))) (pdss_one (pds_ret pd_bl)) pdss_nil)
  (pdss_cons (pds_for .never rfl (pdi_wp [11] (pdi_seq (pd_tup (pda_cons (pd_ix ixd (pd_var 1 (pv 1)) pd_int) (pda_cons (pd_ix ixd (pd_var 1 (pv 1)) pd_int) pda_nil))))) (show PDG _ _ _ t__law_are_letters_right_l2 from (pdg_name (i := 11) sc__law_are_letters_right.nd rfl (by first | exact .inl rfl | exact .inr rfl))) (show PDSs _ _ b__law_are_letters_right_l2 from (pdss_one (pds_if (pdb_cmp od_isnot (pd_callP hr c_shows_clocks_for fnP_ar (by decide) (by rfl) (pda_cons pd_int (pda_cons (pd_callT cd_tuple (by rfl) T.b_tuple bt_tuple (pda_cons (pd_var 2 (pv 2)) pda_nil)) (pda_cons (pd_tup (pda_cons (pd_str (by decide)) (pda_cons (pd_tup (pda_cons pd_int (pda_cons (pd_var 11 (pv 11)) pda_nil))) pda_nil))) pda_nil)))) pd_bl) (pdss_one (pds_ret pd_bl)) (pdss_wp [11] pdss_nil)))))
  (pdss_one (pds_for .never rfl (pdi_wp [11] (pdi_seq (pd_tup (pda_cons (pd_op od_sub (pd_ix ixd (pd_var 1 (pv 1)) pd_int) pd_int) (pda_cons (pd_op od_add (pd_ix ixd (pd_var 1 (pv 1)) pd_int) pd_int) pda_nil))))) (show PDG _ _ _ t__law_are_letters_right_l3 from (pdg_name (i := 11) sc__law_are_letters_right.nd rfl (by first | exact .inl rfl | exact .inr rfl))) (show PDSs _ _ b__law_are_letters_right_l3 from (pdss_one (pds_if (pdb_cmp od_isnot (pd_callP hr c_shows_clocks_for fnP_ar (by decide) (by rfl) (pda_cons pd_int (pda_cons (pd_callT cd_tuple (by rfl) T.b_tuple bt_tuple (pda_cons (pd_var 2 (pv 2)) pda_nil)) (pda_cons (pd_tup (pda_cons (pd_str (by decide)) (pda_cons (pd_tup (pda_cons pd_int (pda_cons (pd_var 11 (pv 11)) pda_nil))) pda_nil))) pda_nil)))) pd_bl) (pdss_one (pds_ret pd_bl)) (pdss_wp [11] pdss_nil))))))))) pdss_nil)
  (pdss_cons (pds_set (i := 8) sc__law_are_letters_right.nd rfl (by first | exact .inl rfl | exact .inr rfl) (PDN.l (pdn_lst pda_nil)))
  (pdss_cons (pds_fz 8 (pds_for .never rfl (pdi_wp [9] (pdi_seq (pd_var 0 (pv 0)))) (show PDG _ _ _ t__law_are_letters_right_l4 from (pdg_name (i := 9) sc__law_are_letters_right.nd rfl (by first | exact .inl rfl | exact .inr rfl))) (show PDSs _ _ b__law_are_letters_right_l4 from (pdss_one (pds_wp [9] (pds_ext (pv 8) (PDN.fz (pdn_comp (own := [("other", 12)]) rfl sc__law_are_letters_right.nd (pdi_seq (pd_var 0 (pv 0))) (by kernel_rfl) (fun _ _ _ _ _ => (pdg_name (i := 12) sc__law_are_letters_right.nd rfl (by first | exact .inl rfl | exact .inr rfl))) (fun _ _ _ _ _ => pdts_nil) (fun _ _ _ _ _ => (pd_ix ixd (pd_callP hr c_clocks_apart fnP_ar (by decide) (by rfl) (pda_cons (pd_tup (pda_cons (pd_var 9 (pv 9)) (pda_cons (pd_var 12 (pv 12)) pda_nil))) pda_nil)) pd_int))))))))))
  (pdss_one (pds_ret (pd_cmp (od_eq hr.units) (pd_callB (cd_all rfl) (by rfl) T.b_all bt_all (pda_cons (PDN.fz (pdn_comp (own := [("word", 13)]) rfl sc__law_are_letters_right.nd (pdi_seq (pd_var 8 (pv 8))) (by kernel_rfl) (fun _ _ _ _ _ => (pdg_name (i := 13) sc__law_are_letters_right.nd rfl (by first | exact .inl rfl | exact .inr rfl))) (fun _ _ _ _ _ => pdts_nil) (fun _ _ _ _ _ => (pd_cmp (od_eq hr.units) (pd_var 13 (pv 13)) (pd_str (by decide)))))) pda_nil)) (pd_cmp (od_eq hr.units) (pd_ix ixd (pd_var 1 (pv 1)) pd_int) (pd_str (by decide))))))))))))))
theorem ok__law_take {f : Addr} {fd : FuncData} (F : Fun K "_law_take" "_law_take" s__law_take f fd) (T : Top mg) : FnOk P w K mg base CX0 1 f fd ["pot", "upto"] (spI K 2 false f__law_take) :=
  fnI_ok F sc__law_take fun cdv A outer s H E hr => ((pdss_cons (pds_if (pdb_cmp (od_gt hr.units) (pd_ix ixd (pd_var 0 (pv 0)) pd_int) pd_int) (pdss_cons (pds_set (i := 4) sc__law_take.nd rfl (by first | exact .inl rfl | exact .inr rfl) (PD.l (pd_op od_mod (pd_callT cd_int (by rfl) T.b_int bt_int (pda_cons (pd_ix ixd (pd_var 0 (pv 0)) pd_int) pda_nil)) (pd_var 1 (pv 1)))))
  (pdss_cons (pds_put (pv 0) pd_int (pd_op od_fdiv (pd_ix ixd (pd_var 0 (pv 0)) pd_int) (pd_var 1 (pv 1))))
  (pdss_one (pds_ret (pd_var 4 (pv 4)))))) pdss_nil)
  (pdss_cons (pds_put (pv 0) pd_int (pd_op od_add (pd_ix ixd (pd_var 0 (pv 0)) pd_int) pd_int))
  (pdss_cons (pds_set (i := 2) sc__law_take.nd rfl (by first | exact .inl rfl | exact .inr rfl) (PD.l (pd_ix ixd (PDN.fz (pdn_lst (pda_cons pd_int (pda_cons pd_int (pda_cons pd_int (pda_cons pd_int (pda_cons pd_int pda_nil))))))) (pd_op od_mod (pd_callT cd_int (by rfl) T.b_int bt_int (pda_cons (pd_ix ixd (pd_var 0 (pv 0)) pd_int) pda_nil)) pd_int))))
  (pdss_cons (pds_set (i := 3) sc__law_take.nd rfl (by first | exact .inl rfl | exact .inr rfl) (PD.l (pd_op od_mod (pd_callT cd_int (by rfl) T.b_int bt_int (pda_cons (pd_op od_pow (pd_callT cd_int (by rfl) T.b_int bt_int (pda_cons (pd_op od_add (pd_op od_add (pd_ix ixd (pd_var 0 (pv 0)) pd_int) (pd_op od_mul (pd_op od_mul pd_int (pd_ix ixd (pd_var 0 (pv 0)) pd_int)) (pd_ix ixd (pd_var 0 (pv 0)) pd_int))) pd_int) pda_nil)) pd_int) pda_nil)) (pd_var 2 (pv 2)))))
  (pdss_cons (pds_set (i := 3) sc__law_take.nd rfl (by first | exact .inl rfl | exact .inr rfl) (PD.l (pd_op od_mod (pd_callT cd_int (by rfl) T.b_int bt_int (pda_cons (pd_op od_mul (pd_var 3 (pv 3)) (pd_op od_add (pd_op od_mod (pd_callT cd_int (by rfl) T.b_int bt_int (pda_cons (pd_var 3 (pv 3)) pda_nil)) pd_int) (pd_op od_mul pd_int (pd_ix ixd (pd_var 0 (pv 0)) pd_int)))) pda_nil)) pd_int)))
  (pdss_one (pds_ret (pd_op od_mod (pd_callT cd_int (by rfl) T.b_int bt_int (pda_cons (pd_op od_fdiv (pd_var 3 (pv 3)) pd_int) pda_nil)) (pd_var 1 (pv 1)))))))))))
theorem ok__law_of {f : Addr} {fd : FuncData} (F : Fun K "_law_of" "_law_of" s__law_of f fd) (T : Top mg) (c__law_take : Cal P w K mg base 1 "_law_take" (spI K 2 false f__law_take)) : FnOk P w K mg base CX0 2 f fd ["pot", "some"] (spI K 2 false f__law_of) :=
  fnI_ok F sc__law_of fun cdv A outer s H E hr => ((pdss_one (pds_ret (pd_ix ixd (pd_var 1 (pv 1)) (pd_callI 0 hr c__law_take fnI_ar (by decide) (by rfl) (pv 0) (pda_cons (pd_callB cd_len (by rfl) T.b_len bt_len (pda_cons (pd_var 1 (pv 1)) pda_nil)) pda_nil))))))
theorem ok__law_letters_drawn {f : Addr} {fd : FuncData} (F : Fun K "_law_letters_drawn" "_law_letters_drawn" s__law_letters_drawn f fd) (T : Top mg) (c__law_of : Cal P w K mg base 2 "_law_of" (spI K 2 false f__law_of)) (c__law_take : Cal P w K mg base 1 "_law_take" (spI K 2 false f__law_take)) : FnOk P w K mg base CX0 3 f fd ["pot"] (spI K 1 false f__law_letters_drawn) :=
  fnI_ok F sc__law_letters_drawn fun cdv A outer s H E hr => ((pdss_cons (pds_set (i := 1) sc__law_letters_drawn.nd rfl (by first | exact .inl rfl | exact .inr rfl) (PD.l (pd_callI 0 hr c__law_of fnI_ar (by decide) (by rfl) (pv 0) (pda_cons (PDN.fz (pdn_lst (pda_cons pd_int (pda_cons pd_int (pda_cons (pd_op od_pow pd_int pd_int) pda_nil))))) pda_nil))))
  (pdss_cons (pds_par2 (i := 2) (j := 3) rfl sc__law_letters_drawn.nd rfl rfl (by decide) rfl rfl (pdls_cons (PD.l (pd_op od_sub (pd_callT cd_int (by rfl) T.b_int bt_int (pda_cons (pd_callI 0 hr c__law_take fnI_ar (by decide) (by rfl) (pv 0) (pda_cons (pd_op od_add (pd_op od_mul pd_int (pd_var 1 (pv 1))) pd_int) pda_nil)) pda_nil)) (pd_var 1 (pv 1)))) (pdls_cons (PDN.l (pdn_lst pda_nil)) pdls_nil)))
  (pdss_cons (pds_fz 3 (pds_for .never rfl (pdi_wp [4, 5, 6, 7] (pdi_range1 (by rfl) T.b_range (pda_cons (pd_op od_add pd_int (pd_callI 0 hr c__law_take fnI_ar (by decide) (by rfl) (pv 0) (pda_cons pd_int pda_nil))) pda_nil))) (show PDG _ _ _ t__law_letters_drawn_l1 from (pdg_name (i := 4) sc__law_letters_drawn.nd rfl (by first | exact .inl rfl | exact .inr rfl))) (show PDSs _ _ b__law_letters_drawn_l1 from (pdss_cons (pds_set (i := 5) sc__law_letters_drawn.nd rfl (by first | exact .inl rfl | exact .inr rfl) (PD.l (pd_callT cd_int (by rfl) T.b_int bt_int (pda_cons (pd_callI 0 hr c__law_take fnI_ar (by decide) (by rfl) (pv 0) (pda_cons (pd_op od_pow pd_int pd_int) pda_nil)) pda_nil))))
  (pdss_cons (pds_set (i := 6) sc__law_letters_drawn.nd rfl (by first | exact .inl rfl | exact .inr rfl) (PD.l (pd_op od_sub (pd_op od_add (pd_op od_add (pd_var 5 (pv 5)) (pd_var 2 (pv 2))) (pd_callT cd_int (by rfl) T.b_int bt_int (pda_cons (pd_callI 0 hr c__law_take fnI_ar (by decide) (by rfl) (pv 0) (pda_cons (pd_var 1 (pv 1)) pda_nil)) pda_nil))) (pd_op od_fdiv (pd_callT cd_int (by rfl) T.b_int bt_int (pda_cons (pd_callI 0 hr c__law_take fnI_ar (by decide) (by rfl) (pv 0) (pda_cons pd_int pda_nil)) pda_nil)) pd_int))))
  (pdss_cons (pds_set (i := 7) sc__law_letters_drawn.nd rfl (by first | exact .inl rfl | exact .inr rfl) (PD.l (pd_op od_add (pd_var 6 (pv 6)) (pd_callT cd_int (by rfl) T.b_int bt_int (pda_cons (pd_callI 0 hr c__law_take fnI_ar (by decide) (by rfl) (pv 0) (pda_cons pd_int pda_nil)) pda_nil)))))
  (pdss_one (pds_wp [4, 5, 6, 7] (pds_app (pv 3) (pd_tup (pda_cons (pd_var 5 (pv 5)) (pda_cons (pd_var 6 (pv 6)) (pda_cons (pd_var 7 (pv 7)) (pda_cons (pd_op od_add (pd_op od_sub (pd_var 7 (pv 7)) (pd_var 2 (pv 2))) (pd_callT cd_int (by rfl) T.b_int bt_int (pda_cons (pd_callI 0 hr c__law_take fnI_ar (by decide) (by rfl) (pv 0) (pda_cons (pd_var 1 (pv 1)) pda_nil)) pda_nil))) pda_nil))))))))))))))
  (pdss_one (pds_ret (pd_callT cd_tuple (by rfl) T.b_tuple bt_tuple (pda_cons (pd_var 3 (pv 3)) pda_nil))))))))
theorem ok_look_at_spans {f : Addr} {fd : FuncData} (F : Fun K "look_at_spans" "look_at_spans" s_look_at_spans f fd) (T : Top mg) (c_are_ints : Cal P w K mg base 2 "are_ints" (spP K 3 false f_are_ints)) : FnOk P w K mg base CX0 3 f fd ["spans"] (spP K 1 false f_look_at_spans) :=
  fnP_ok F sc_look_at_spans fun cdv A outer s H E hr => ((pdss_cons (pds_if (PWB.b (pwb_or (pdb_not (pdb_val (pd_isa (by rfl) T.b_isinstance (pe_tyn (by rfl) T.b_tuple (by decide +kernel)) (pd_var 0 (pv 0))))) (pwb_or1 (pdb_not (pdb_chain (od_le hr.units) (od_le hr.units) pd_int (pd_callB cd_len (by rfl) T.b_len bt_len (pda_cons (pd_var 0 (pv 0)) pda_nil)) (pd_gint T.k_MOST_SOME (by rfl))))))) (pdss_one pds_bad) pdss_nil)
  (pdss_one (pds_for .never rfl (pdi_wp [1] (pdi_seq (pd_var 0 (pv 0)))) (show PDG _ _ _ t_look_at_spans_l1 from (pdg_name (i := 1) sc_look_at_spans.nd rfl (by first | exact .inl rfl | exact .inr rfl))) (show PDSs _ _ b_look_at_spans_l1 from (pdss_one (pds_if (PWB.b (pwb_or (pdb_not (pdb_val (pd_callP hr c_are_ints fnP_ar (by decide) (by rfl) (pda_cons (pd_var 1 (pv 1)) (pda_cons (pd_un ud_neg (pd_gint T.k_MOST_TIME (by rfl))) (pda_cons (pd_gint T.k_MOST_TIME (by rfl)) pda_nil)))))) (pwb_or (pdb_cmp (od_ne hr.units) (pd_callB cd_len (by rfl) T.b_len bt_len (pda_cons (pd_var 1 (pv 1)) pda_nil)) pd_int) (pwb_or1 (pdb_cmp (od_gt hr.units) (pd_ix ixd (pd_var 1 (pv 1)) pd_int) (pd_ix ixd (pd_var 1 (pv 1)) pd_int)))))) (pdss_one pds_bad) (pdss_wp [1] pdss_nil))))))))
theorem ok_most_agree {f : Addr} {fd : FuncData} (F : Fun K "most_agree" "most_agree" s_most_agree f fd) (T : Top mg) (c_look_at_spans : Cal P w K mg base 3 "look_at_spans" (spP K 1 false f_look_at_spans)) : FnOk P w K mg base CX0 4 f fd ["spans"] (spP K 1 false f_most_agree) :=
  fnP_ok F sc_most_agree fun cdv A outer s H E hr => ((pdss_cons (pds_drop (pd_callP hr c_look_at_spans fnP_ar (by decide) (by rfl) (pda_cons (pd_var 0 (pv 0)) pda_nil)))
  (pdss_cons (pds_set (i := 1) sc_most_agree.nd rfl (by first | exact .inl rfl | exact .inr rfl) (PD.l (pd_tup (pda_cons pd_int (pda_cons pd_int (pda_cons pd_int pda_nil))))))
  (pdss_cons (pds_for .never rfl (pdi_wp [2, 3] (pdi_seq (PDN.fz (pdn_ssetIL hr rfl (by rfl) T.b_sorted (by rfl) T.b_set (PDN.fz (pdn_comp (own := [("span", 4)]) rfl sc_most_agree.nd (pdi_seq (pd_var 0 (pv 0))) (by kernel_rfl) (fun _ _ _ _ _ => (pdg_name (i := 4) sc_most_agree.nd rfl (by first | exact .inl rfl | exact .inr rfl))) (fun _ _ _ _ _ => pdts_nil) (fun _ _ _ _ _ => (pd_ix ixd (pd_var 4 (pv 4)) pd_int)))) (hb := bt_sorted) (hb2 := bt_set))))) (show PDG _ _ _ t_most_agree_l1 from (pdg_name (i := 2) sc_most_agree.nd rfl (by first | exact .inl rfl | exact .inr rfl))) (show PDSs _ _ b_most_agree_l1 from (pdss_cons (pds_fz 3 (pds_setComp (own := [("span", 4)]) (i := 3) rfl sc_most_agree.nd rfl rfl (sw_true rfl rfl rfl rfl) (pdi_seq (pd_var 0 (pv 0))) (by kernel_rfl) (fun _ _ _ _ _ => (pdg_name (i := 4) sc_most_agree.nd rfl (by first | exact .inl rfl | exact .inr rfl))) (fun _ _ _ _ _ => (pdts_one (pdb_chain (od_le hr.units) (od_le hr.units) (pd_ix ixd (pd_var 4 (pv 4)) pd_int) (pd_var 2 (pv 2)) (pd_ix ixd (pd_var 4 (pv 4)) pd_int)))) (fun _ _ _ _ _ => (pd_var 4 (pv 4)))))
  (pdss_one (pds_if (pdb_cmp (od_gt hr.units) (pd_callB cd_len (by rfl) T.b_len bt_len (pda_cons (pd_var 3 (pv 3)) pda_nil)) (pd_ix ixd (pd_var 1 (pv 1)) pd_int)) (pdss_one (pds_wp [2, 3] (pds_set (i := 1) sc_most_agree.nd rfl (by first | exact .inl rfl | exact .inr rfl) (PD.l (pd_tup (pda_cons (pd_callB cd_len (by rfl) T.b_len bt_len (pda_cons (pd_var 3 (pv 3)) pda_nil)) (pda_cons (pd_var 2 (pv 2)) (pda_cons (pd_callB (cd_min rfl (u66 hr)) (by rfl) T.b_min bt_min (pda_cons (PDN.fz (pdn_comp (own := [("span", 4)]) rfl sc_most_agree.nd (pdi_seq (pd_var 3 (pv 3))) (by kernel_rfl) (fun _ _ _ _ _ => (pdg_name (i := 4) sc_most_agree.nd rfl (by first | exact .inl rfl | exact .inr rfl))) (fun _ _ _ _ _ => pdts_nil) (fun _ _ _ _ _ => (pd_ix ixd (pd_var 4 (pv 4)) pd_int)))) pda_nil)) pda_nil)))))))) (pdss_wp [2, 3] pdss_nil))))))
  (pdss_one (pds_ret (pd_var 1 (pv 1))))))))
theorem ok_told_points {f : Addr} {fd : FuncData} (F : Fun K "told_points" "told_points" s_told_points f fd) (T : Top mg) : FnOk P w K mg base CX0 1 f fd ["spans"] (spP K 1 false f_told_points) :=
  fnP_ok F sc_told_points fun cdv A outer s H E hr => ((pdss_cons (pds_par2 (i := 1) (j := 2) rfl sc_told_points.nd rfl rfl (by decide) rfl rfl (pdls_cons (PDN.l (pdn_lst pda_nil)) (pdls_cons (PDN.l (pdn_lst pda_nil)) pdls_nil)))
  (pdss_cons (pds_fz 2 (pds_fz 1 (pds_for .never rfl (pdi_wp [3, 4, 5] (pdi_seq (PDN.fz (pdn_callB (cn_sorted (u67 hr)) (by rfl) T.b_sorted bt_sorted (pda_cons (PDN.fz (pdn_comp (own := [("at", 5), ("span", 6)]) rfl sc_told_points.nd (pdi_enum (by rfl) T.b_enumerate (pda_cons (pd_var 0 (pv 0)) pda_nil)) (by kernel_rfl) (fun _ _ _ _ _ => (pdg_tup rfl (pdgs_cons (pdg_name (i := 5) sc_told_points.nd rfl (by first | exact .inl rfl | exact .inr rfl)) (pdgs_cons (pdg_name (i := 6) sc_told_points.nd rfl (by first | exact .inl rfl | exact .inr rfl)) pdgs_nil)))) (fun _ _ _ _ _ => pdts_nil) (fun _ _ _ _ _ => (pd_tup (pda_cons (pd_ix ixd (pd_var 6 (pv 6)) pd_int) (pda_cons (pd_ix ixd (pd_var 6 (pv 6)) pd_int) (pda_cons (pd_var 5 (pv 5)) pda_nil))))))) pda_nil))))) (show PDG _ _ _ t_told_points_l1 from (pdg_tup rfl (pdgs_cons (pdg_name (i := 3) sc_told_points.nd rfl (by first | exact .inl rfl | exact .inr rfl)) (pdgs_cons (pdg_name (i := 4) sc_told_points.nd rfl (by first | exact .inl rfl | exact .inr rfl)) (pdgs_cons (pdg_name (i := 5) sc_told_points.nd rfl (by first | exact .inl rfl | exact .inr rfl)) pdgs_nil))))) (show PDSs _ _ b_told_points_l1 from (pdss_one (pds_if (PWB.b (pwb_or (pdb_cmp (od_eq hr.units) (pd_var 1 (pv 1)) (PDN.fz (pdn_lst pda_nil))) (pwb_or1 (pdb_cmp (od_lt hr.units) (pd_ix ixd (pd_var 1 (pv 1)) (pd_un ud_neg pd_int)) (pd_var 4 (pv 4)))))) (pdss_cons (pds_app (pv 1) (pd_var 3 (pv 3)))
  (pdss_one (pds_wp [3, 4, 5] (pds_app (pv 2) (pd_var 5 (pv 5)))))) (pdss_wp [3, 4, 5] pdss_nil)))))))
  (pdss_one (pds_ret (pd_tup (pda_cons (pd_callT cd_tuple (by rfl) T.b_tuple bt_tuple (pda_cons (pd_var 1 (pv 1)) pda_nil)) (pda_cons (pd_callT cd_tuple (by rfl) T.b_tuple bt_tuple (pda_cons (PDN.fz (pdn_callB (cn_sorted (u67 hr)) (by rfl) T.b_sorted bt_sorted (pda_cons (pd_var 2 (pv 2)) pda_nil))) pda_nil)) pda_nil))))))))
theorem ok_fewest_numbers {f : Addr} {fd : FuncData} (F : Fun K "fewest_numbers" "fewest_numbers" s_fewest_numbers f fd) (T : Top mg) (c_look_at_spans : Cal P w K mg base 3 "look_at_spans" (spP K 1 false f_look_at_spans)) (c_told_points : Cal P w K mg base 1 "told_points" (spP K 1 false f_told_points)) : FnOk P w K mg base CX0 4 f fd ["spans"] (spP K 1 false f_fewest_numbers) :=
  fnP_ok F sc_fewest_numbers fun cdv A outer s H E hr => ((pdss_cons (pds_drop (pd_callP hr c_look_at_spans fnP_ar (by decide) (by rfl) (pda_cons (pd_var 0 (pv 0)) pda_nil)))
  (pdss_one (pds_ret (pd_callP hr c_told_points fnP_ar (by decide) (by rfl) (pda_cons (pd_var 0 (pv 0)) pda_nil))))))
theorem ok__law_are_spans_right {f : Addr} {fd : FuncData} (F : Fun K "_law_are_spans_right" "_law_are_spans_right" s__law_are_spans_right f fd) (T : Top mg) (c__law_take : Cal P w K mg base 1 "_law_take" (spI K 2 false f__law_take)) (c_most_agree : Cal P w K mg base 4 "most_agree" (spP K 1 false f_most_agree)) (c_fewest_numbers : Cal P w K mg base 4 "fewest_numbers" (spP K 1 false f_fewest_numbers)) : FnOk P w K mg base CX0 5 f fd ["pot"] (spI K 1 false f__law_are_spans_right) :=
  fnI_ok F sc__law_are_spans_right fun cdv A outer s H E hr => ((pdss_cons (pds_set (i := 1) sc__law_are_spans_right.nd rfl (by first | exact .inl rfl | exact .inr rfl) (PDN.l (pdn_lst pda_nil)))
  (pdss_cons (pds_fz 1 (pds_for .never rfl (pdi_wp [2, 9] (pdi_range1 (by rfl) T.b_range (pda_cons (pd_op od_add pd_int (pd_callI 0 hr c__law_take fnI_ar (by decide) (by rfl) (pv 0) (pda_cons pd_int pda_nil))) pda_nil))) (show PDG _ _ _ t__law_are_spans_right_l1 from (pdg_name (i := 2) sc__law_are_spans_right.nd rfl (by first | exact .inl rfl | exact .inr rfl))) (show PDSs _ _ b__law_are_spans_right_l1 from (pdss_cons (pds_set (i := 9) sc__law_are_spans_right.nd rfl (by first | exact .inl rfl | exact .inr rfl) (PD.l (pd_op od_sub (pd_callT cd_int (by rfl) T.b_int bt_int (pda_cons (pd_callI 0 hr c__law_take fnI_ar (by decide) (by rfl) (pv 0) (pda_cons pd_int pda_nil)) pda_nil)) pd_int)))
  (pdss_one (pds_wp [2, 9] (pds_app (pv 1) (pd_tup (pda_cons (pd_var 9 (pv 9)) (pda_cons (pd_op od_add (pd_var 9 (pv 9)) (pd_callT cd_int (by rfl) T.b_int bt_int (pda_cons (pd_callI 0 hr c__law_take fnI_ar (by decide) (by rfl) (pv 0) (pda_cons pd_int pda_nil)) pda_nil))) pda_nil))))))))))
  (pdss_cons (pds_set (i := 1) sc__law_are_spans_right.nd rfl (by first | exact .inl rfl | exact .inr rfl) (PD.l (pd_callT cd_tuple (by rfl) T.b_tuple bt_tuple (pda_cons (pd_var 1 (pv 1)) pda_nil))))
  (pdss_cons (pds_asg (pd_callP hr c_most_agree fnP_ar (by decide) (by rfl) (pda_cons (pd_var 1 (pv 1)) pda_nil)) (pdg_tup rfl (pdgs_cons (pdg_name (i := 3) sc__law_are_spans_right.nd rfl (by first | exact .inl rfl | exact .inr rfl)) (pdgs_cons (pdg_name (i := 4) sc__law_are_spans_right.nd rfl (by first | exact .inl rfl | exact .inr rfl)) (pdgs_cons (pdg_name (i := 5) sc__law_are_spans_right.nd rfl (by first | exact .inl rfl | exact .inr rfl)) pdgs_nil)))))
  (pdss_cons (pds_asg (pd_callP hr c_fewest_numbers fnP_ar (by decide) (by rfl) (pda_cons (pd_var 1 (pv 1)) pda_nil)) (pdg_tup rfl (pdgs_cons (pdg_name (i := 6) sc__law_are_spans_right.nd rfl (by first | exact .inl rfl | exact .inr rfl)) (pdgs_cons (pdg_name (i := 7) sc__law_are_spans_right.nd rfl (by first | exact .inl rfl | exact .inr rfl)) pdgs_nil))))
  (pdss_cons (pds_if (PWB.b (pwb_or (pdb_cmp (od_ne hr.units) (pd_cmp (od_eq hr.units) (pd_var 3 (pv 3)) (pd_callB cd_len (by rfl) T.b_len bt_len (pda_cons (pd_var 1 (pv 1)) pda_nil))) (pd_cmp (od_eq hr.units) (pd_callB cd_len (by rfl) T.b_len bt_len (pda_cons (pd_var 6 (pv 6)) pda_nil)) pd_int)) (pwb_or1 (pdb_cmp (od_lt hr.units) (pd_op od_mul (pd_callB cd_len (by rfl) T.b_len bt_len (pda_cons (pd_var 6 (pv 6)) pda_nil)) (pd_var 3 (pv 3))) (pd_callB cd_len (by rfl) T.b_len bt_len (pda_cons (pd_var 1 (pv 1)) pda_nil)))))) (pdss_one (pds_ret pd_bl)) pdss_nil)
  (pdss_cons (pds_if (pdb_val (pd_callB (cd_any rfl) (by rfl) T.b_any bt_any (pda_cons (PDN.fz (pdn_comp (own := [("number", 10)]) rfl sc__law_are_spans_right.nd (pdi_seq (pd_tup (pda_cons (pd_var 4 (pv 4)) (pda_cons (pd_var 5 (pv 5)) pda_nil)))) (by kernel_rfl) (fun _ _ _ _ _ => (pdg_name (i := 10) sc__law_are_spans_right.nd rfl (by first | exact .inl rfl | exact .inr rfl))) (fun _ _ _ _ _ => pdts_nil) (fun _ _ _ _ _ => (pd_cmp (od_ne hr.units) (pd_callB cd_len (by rfl) T.b_len bt_len (pda_cons (PDN.fz (pdn_comp (own := [("one", 11)]) rfl sc__law_are_spans_right.nd (pdi_seq (pd_var 1 (pv 1))) (by kernel_rfl) (fun _ _ _ _ _ => (pdg_name (i := 11) sc__law_are_spans_right.nd rfl (by first | exact .inl rfl | exact .inr rfl))) (fun _ _ _ _ _ => (pdts_one (pdb_chain (od_le hr.units) (od_le hr.units) (pd_ix ixd (pd_var 11 (pv 11)) pd_int) (pd_var 10 (pv 10)) (pd_ix ixd (pd_var 11 (pv 11)) pd_int)))) (fun _ _ _ _ _ => (pd_var 11 (pv 11))))) pda_nil)) (pd_var 3 (pv 3)))))) pda_nil))) (pdss_one (pds_ret pd_bl)) pdss_nil)
  (pdss_cons (pds_set (i := 8) sc__law_are_spans_right.nd rfl (by first | exact .inl rfl | exact .inr rfl) (PD.l (pd_callP hr c_fewest_numbers fnP_ar (by decide) (by rfl) (pda_cons (pd_op od_add (pd_var 1 (pv 1)) (pd_tup (pda_cons (pd_tup (pda_cons pd_int (pda_cons pd_int pda_nil))) pda_nil))) pda_nil))))
  (pdss_cons (pds_if (pdb_cmp (od_ne hr.units) (pd_callB cd_len (by rfl) T.b_len bt_len (pda_cons (pd_ix ixd (pd_var 8 (pv 8)) pd_int) pda_nil)) (pd_op od_add (pd_callB cd_len (by rfl) T.b_len bt_len (pda_cons (pd_var 6 (pv 6)) pda_nil)) pd_int)) (pdss_one (pds_ret pd_bl)) pdss_nil)
  (pdss_one (pds_ret (pd_cmp (od_eq hr.units) (pd_callB cd_len (by rfl) T.b_len bt_len (pda_cons (pd_ix ixd (pd_callP hr c_fewest_numbers fnP_ar (by decide) (by rfl) (pda_cons (pd_op od_add (pd_var 1 (pv 1)) (pd_tup (pda_cons (pd_ix ixd (pd_var 1 (pv 1)) pd_int) pda_nil))) pda_nil)) pd_int) pda_nil)) (pd_callB cd_len (by rfl) T.b_len bt_len (pda_cons (pd_var 6 (pv 6)) pda_nil)))))))))))))))
theorem ok__law_some {f : Addr} {fd : FuncData} (F : Fun K "_law_some" "_law_some" s__law_some f fd) (T : Top mg) (c__law_take : Cal P w K mg base 1 "_law_take" (spI K 2 false f__law_take)) : FnOk P w K mg base CX0 2 f fd ["pot", "pool", "many"] (spI K 3 false f__law_some) :=
  fnI_ok F sc__law_some fun cdv A outer s H E hr => ((pdss_cons (pds_par2 (i := 3) (j := 4) rfl sc__law_some.nd rfl rfl (by decide) rfl rfl (pdls_cons (PDN.l (pdn_callT cn_list (by rfl) T.b_list bt_list (pda_cons (pd_var 1 (pv 1)) pda_nil))) (pdls_cons (PDN.l (pdn_lst pda_nil)) pdls_nil)))
  (pdss_cons (pds_fz 4 (pds_for .never rfl (pdi_wp [5] (pdi_range1 (by rfl) T.b_range (pda_cons (pd_var 2 (pv 2)) pda_nil))) (show PDG _ _ _ t__law_some_l1 from (pdg_name (i := 5) sc__law_some.nd rfl (by first | exact .inl rfl | exact .inr rfl))) (show PDSs _ _ b__law_some_l1 from (pdss_one (pds_wp [5] (pds_app (pv 4) (pd_popAt (pv 3) (pd_callI 0 hr c__law_take fnI_ar (by decide) (by rfl) (pv 0) (pda_cons (pd_callB cd_len (by rfl) T.b_len bt_len (pda_cons (pd_var 3 (pv 3)) pda_nil)) pda_nil)))))))))
  (pdss_one (pds_ret (pd_var 4 (pv 4)))))))
theorem ok__law_are_bounds_right {f : Addr} {fd : FuncData} (F : Fun K "_law_are_bounds_right" "_law_are_bounds_right" s__law_are_bounds_right f fd) (T : Top mg) (c__law_take : Cal P w K mg base 1 "_law_take" (spI K 2 false f__law_take)) (c_clocks_for : Cal P w K mg base 4 "clocks_for" (spP K 2 false f_clocks_for)) (c_shows_clocks_for : Cal P w K mg base 4 "shows_clocks_for" (spP K 3 false f_shows_clocks_for)) (c__law_some : Cal P w K mg base 2 "_law_some" (spI K 3 false f__law_some)) : FnOk P w K mg base CX0 5 f fd ["pot"] (spI K 1 false f__law_are_bounds_right) :=
  fnI_ok F sc__law_are_bounds_right fun cdv A outer s H E hr => ((pdss_cons (pds_tup2 (i := 1) (j := 2) rfl sc__law_are_bounds_right.nd rfl rfl (pdls_cons (PD.l (pd_op od_add pd_int (pd_callT cd_int (by rfl) T.b_int bt_int (pda_cons (pd_callI 0 hr c__law_take fnI_ar (by decide) (by rfl) (pv 0) (pda_cons pd_int pda_nil)) pda_nil)))) (pdls_cons (PDN.l (pdn_lst pda_nil)) pdls_nil)))
  (pdss_cons (pds_fz 3 (pds_setComp (own := [("clock", 18)]) (i := 3) rfl sc__law_are_bounds_right.nd rfl rfl (sw_true rfl rfl rfl rfl) (pdi_range1 (by rfl) T.b_range (pda_cons (pd_var 1 (pv 1)) pda_nil)) (by kernel_rfl) (fun _ _ _ _ _ => (pdg_name (i := 18) sc__law_are_bounds_right.nd rfl (by first | exact .inl rfl | exact .inr rfl))) (fun _ _ _ _ _ => pdts_nil) (fun _ _ _ _ _ => (pd_callT cd_int (by rfl) T.b_int bt_int (pda_cons (pd_callI 0 hr c__law_take fnI_ar (by decide) (by rfl) (pv 0) (pda_cons pd_int pda_nil)) pda_nil)))))
  (pdss_cons (pds_fz 2 (pds_for .never rfl (pdi_wp [4, 14, 15] (pdi_range1 (by rfl) T.b_range (pda_cons (pd_callI 0 hr c__law_take fnI_ar (by decide) (by rfl) (pv 0) (pda_cons pd_int pda_nil)) pda_nil))) (show PDG _ _ _ t__law_are_bounds_right_l1 from (pdg_name (i := 4) sc__law_are_bounds_right.nd rfl (by first | exact .inl rfl | exact .inr rfl))) (show PDSs _ _ b__law_are_bounds_right_l1 from (pdss_cons (pds_asg (PDN.fz (pdn_comp (own := [("end", 19)]) rfl sc__law_are_bounds_right.nd (pdi_range1 (by rfl) T.b_range (pda_cons pd_int pda_nil)) (by kernel_rfl) (fun _ _ _ _ _ => (pdg_name (i := 19) sc__law_are_bounds_right.nd rfl (by first | exact .inl rfl | exact .inr rfl))) (fun _ _ _ _ _ => pdts_nil) (fun _ _ _ _ _ => (pd_callT cd_int (by rfl) T.b_int bt_int (pda_cons (pd_callI 0 hr c__law_take fnI_ar (by decide) (by rfl) (pv 0) (pda_cons (pd_var 1 (pv 1)) pda_nil)) pda_nil))))) (pdg_lst rfl (pdgs_cons (pdg_name (i := 14) sc__law_are_bounds_right.nd rfl (by first | exact .inl rfl | exact .inr rfl)) (pdgs_cons (pdg_name (i := 15) sc__law_are_bounds_right.nd rfl (by first | exact .inl rfl | exact .inr rfl)) pdgs_nil))))
  (pdss_one (pds_wp [4, 14, 15] (pds_app (pv 2) (pd_tup (pda_cons (pd_var 14 (pv 14)) (pda_cons (pd_var 15 (pv 15)) (pda_cons (pd_op od_add (pd_op od_sub (pd_ix ixd (pd_var 3 (pv 3)) (pd_var 15 (pv 15))) (pd_ix ixd (pd_var 3 (pv 3)) (pd_var 14 (pv 14)))) (pd_callT cd_int (by rfl) T.b_int bt_int (pda_cons (pd_callI 0 hr c__law_take fnI_ar (by decide) (by rfl) (pv 0) (pda_cons pd_int pda_nil)) pda_nil))) pda_nil)))))))))))
  (pdss_cons (pds_asg (pd_tup (pda_cons (pd_callT cd_tuple (by rfl) T.b_tuple bt_tuple (pda_cons (pd_var 2 (pv 2)) pda_nil)) (pda_cons (pd_callP hr c_clocks_for fnP_ar (by decide) (by rfl) (pda_cons (pd_var 1 (pv 1)) (pda_cons (pd_callT cd_tuple (by rfl) T.b_tuple bt_tuple (pda_cons (pd_var 2 (pv 2)) pda_nil)) pda_nil))) pda_nil))) (pdg_tup rfl (pdgs_cons (pdg_name (i := 2) sc__law_are_bounds_right.nd rfl (by first | exact .inl rfl | exact .inr rfl)) (pdgs_cons (pdg_name (i := 5) sc__law_are_bounds_right.nd rfl (by first | exact .inl rfl | exact .inr rfl)) pdgs_nil))))
  (pdss_cons (pds_if (pdb_cmp (od_ne hr.units) (pd_ix ixd (pd_var 5 (pv 5)) pd_int) (pd_str (by decide))) (pdss_one (pds_ret pd_bl)) pdss_nil)
  (pdss_cons (pds_set (i := 6) sc__law_are_bounds_right.nd rfl (by first | exact .inl rfl | exact .inr rfl) (PD.l (pd_callT cd_int (by rfl) T.b_int bt_int (pda_cons (pd_callI 0 hr c__law_take fnI_ar (by decide) (by rfl) (pv 0) (pda_cons (pd_op od_pow pd_int pd_int) pda_nil)) pda_nil))))
  (pdss_cons (pds_set (i := 7) sc__law_are_bounds_right.nd rfl (by first | exact .inl rfl | exact .inr rfl) (PD.l (pd_callT cd_tuple (by rfl) T.b_tuple bt_tuple (pda_cons (PDN.fz (pdn_comp (own := [("one", 14)]) rfl sc__law_are_bounds_right.nd (pdi_seq (pd_ix ixd (pd_var 5 (pv 5)) pd_int)) (by kernel_rfl) (fun _ _ _ _ _ => (pdg_name (i := 14) sc__law_are_bounds_right.nd rfl (by first | exact .inl rfl | exact .inr rfl))) (fun _ _ _ _ _ => pdts_nil) (fun _ _ _ _ _ => (pd_op od_add (pd_var 14 (pv 14)) (pd_var 6 (pv 6)))))) pda_nil))))
  (pdss_cons (pds_set (i := 8) sc__law_are_bounds_right.nd rfl (by first | exact .inl rfl | exact .inr rfl) (PD.l (pd_callT cd_tuple (by rfl) T.b_tuple bt_tuple (pda_cons (PDN.fz (pdn_comp (own := [("one", 14), ("other", 15), ("most", 20)]) rfl sc__law_are_bounds_right.nd (pdi_seq (pd_var 2 (pv 2))) (by kernel_rfl) (fun _ _ _ _ _ => (pdg_tup rfl (pdgs_cons (pdg_name (i := 14) sc__law_are_bounds_right.nd rfl (by first | exact .inl rfl | exact .inr rfl)) (pdgs_cons (pdg_name (i := 15) sc__law_are_bounds_right.nd rfl (by first | exact .inl rfl | exact .inr rfl)) (pdgs_cons (pdg_name (i := 20) sc__law_are_bounds_right.nd rfl (by first | exact .inl rfl | exact .inr rfl)) pdgs_nil))))) (fun _ _ _ _ _ => pdts_nil) (fun _ _ _ _ _ => (pd_tup (pda_cons (pd_var 15 (pv 15)) (pda_cons (pd_var 14 (pv 14)) (pda_cons (pd_var 20 (pv 20)) pda_nil))))))) pda_nil))))
  (pdss_cons (pds_set (i := 9) sc__law_are_bounds_right.nd rfl (by first | exact .inl rfl | exact .inr rfl) (PD.l (pd_callT cd_tuple (by rfl) T.b_tuple bt_tuple (pda_cons (PDN.fz (pdn_comp (own := [("one", 14)]) rfl sc__law_are_bounds_right.nd (pdi_seq (pd_ix ixd (pd_var 5 (pv 5)) pd_int)) (by kernel_rfl) (fun _ _ _ _ _ => (pdg_name (i := 14) sc__law_are_bounds_right.nd rfl (by first | exact .inl rfl | exact .inr rfl))) (fun _ _ _ _ _ => pdts_nil) (fun _ _ _ _ _ => (pd_un ud_neg (pd_var 14 (pv 14)))))) pda_nil))))
  (pdss_cons (pds_for .never rfl (pdi_wp [10, 11] (pdi_seq (pd_tup (pda_cons (pd_tup (pda_cons (pd_var 2 (pv 2)) (pda_cons (pd_var 7 (pv 7)) pda_nil))) (pda_cons (pd_tup (pda_cons (pd_var 8 (pv 8)) (pda_cons (pd_var 9 (pv 9)) pda_nil))) (pda_cons (pd_tup (pda_cons (pd_sl (pd_var 2 (pv 2)) (pdo_s pd_int) pdo_n) (pda_cons (pd_ix ixd (pd_var 5 (pv 5)) pd_int) pda_nil))) (pda_cons (pd_tup (pda_cons (pd_var 2 (pv 2)) (pda_cons (pd_callT cd_tuple (by rfl) T.b_tuple bt_tuple (pda_cons (pd_var 3 (pv 3)) pda_nil)) pda_nil))) pda_nil))))))) (show PDG _ _ _ t__law_are_bounds_right_l2 from (pdg_tup rfl (pdgs_cons (pdg_name (i := 10) sc__law_are_bounds_right.nd rfl (by first | exact .inl rfl | exact .inr rfl)) (pdgs_cons (pdg_name (i := 11) sc__law_are_bounds_right.nd rfl (by first | exact .inl rfl | exact .inr rfl)) pdgs_nil)))) (show PDSs _ _ b__law_are_bounds_right_l2 from (pdss_one (pds_if (PWB.b (pwb_or (pdb_cmp od_isnot (pd_callP hr c_shows_clocks_for fnP_ar (by decide) (by rfl) (pda_cons (pd_var 1 (pv 1)) (pda_cons (pd_var 10 (pv 10)) (pda_cons (pd_tup (pda_cons (pd_str (by decide)) (pda_cons (pd_var 11 (pv 11)) pda_nil))) pda_nil)))) pd_bl) (pwb_or1 (pdb_cmp (od_ne hr.units) (pd_ix ixd (pd_callP hr c_clocks_for fnP_ar (by decide) (by rfl) (pda_cons (pd_var 1 (pv 1)) (pda_cons (pd_var 10 (pv 10)) pda_nil))) pd_int) (pd_str (by decide)))))) (pdss_one (pds_ret pd_bl)) (pdss_wp [10, 11] pdss_nil)))))
  (pdss_cons (pds_fz 12 (pds_setComp (own := [("clock", 18)]) (i := 12) rfl sc__law_are_bounds_right.nd rfl rfl (sw_true rfl rfl rfl rfl) (pdi_seq (pd_callI 0 hr c__law_some fnI_ar (by decide) (by rfl) (pv 0) (pda_cons (PDN.fz (pdn_listRg1 rfl (by rfl) T.b_list (by rfl) T.b_range (pd_var 1 (pv 1)))) (pda_cons (pd_var 1 (pv 1)) pda_nil)))) (by kernel_rfl) (fun _ _ _ _ _ => (pdg_name (i := 18) sc__law_are_bounds_right.nd rfl (by first | exact .inl rfl | exact .inr rfl))) (fun _ _ _ _ _ => pdts_nil) (fun _ _ _ _ _ => (pd_callT cd_int (by rfl) T.b_int bt_int (pda_cons (pd_var 18 (pv 18)) pda_nil)))))
  (pdss_cons (pds_set (i := 13) sc__law_are_bounds_right.nd rfl (by first | exact .inl rfl | exact .inr rfl) (PDN.l (pdn_lst pda_nil)))
  (pdss_cons (pds_for .never rfl (pdi_wp [14, 15] (pdi_zip (by rfl) T.b_zip (pda_cons (pd_var 12 (pv 12)) (pda_cons (pd_op od_add (pd_sl (pd_var 12 (pv 12)) (pdo_s pd_int) pdo_n) (pd_sl (pd_var 12 (pv 12)) pdo_n (pdo_s pd_int))) pda_nil)))) (show PDG _ _ _ t__law_are_bounds_right_l3 from (pdg_tup rfl (pdgs_cons (pdg_name (i := 14) sc__law_are_bounds_right.nd rfl (by first | exact .inl rfl | exact .inr rfl)) (pdgs_cons (pdg_name (i := 15) sc__law_are_bounds_right.nd rfl (by first | exact .inl rfl | exact .inr rfl)) pdgs_nil)))) (show PDSs _ _ b__law_are_bounds_right_l3 from (pdss_one (pds_wp [14, 15] (pds_app (pv 13) (pd_tup (pda_cons (pd_var 14 (pv 14)) (pda_cons (pd_var 15 (pv 15)) (pda_cons (pd_op od_sub (pd_ix ixd (pd_var 3 (pv 3)) (pd_var 15 (pv 15))) (pd_ix ixd (pd_var 3 (pv 3)) (pd_var 14 (pv 14)))) pda_nil)))))))))
  (pdss_cons (pds_if (pdb_cmp (od_ne hr.units) (pd_ix ixd (pd_callP hr c_clocks_for fnP_ar (by decide) (by rfl) (pda_cons (pd_var 1 (pv 1)) (pda_cons (pd_op od_add (pd_var 2 (pv 2)) (pd_callT cd_tuple (by rfl) T.b_tuple bt_tuple (pda_cons (pd_var 13 (pv 13)) pda_nil))) pda_nil))) pd_int) (pd_str (by decide))) (pdss_one (pds_ret pd_bl)) pdss_nil)
  (pdss_cons (pds_fz 13 (pds_put (pv 13) pd_int (pd_tup (pda_cons (pd_ix ixd (pd_ix ixd (pd_var 13 (pv 13)) pd_int) pd_int) (pda_cons (pd_ix ixd (pd_ix ixd (pd_var 13 (pv 13)) pd_int) pd_int) (pda_cons (pd_op od_sub (pd_ix ixd (pd_ix ixd (pd_var 13 (pv 13)) pd_int) pd_int) pd_int) pda_nil))))))
  (pdss_cons (pds_asg (pd_callP hr c_clocks_for fnP_ar (by decide) (by rfl) (pda_cons (pd_var 1 (pv 1)) (pda_cons (pd_op od_add (pd_var 2 (pv 2)) (pd_callT cd_tuple (by rfl) T.b_tuple bt_tuple (pda_cons (pd_var 13 (pv 13)) pda_nil))) pda_nil))) (pdg_tup rfl (pdgs_cons (pdg_name (i := 16) sc__law_are_bounds_right.nd rfl (by first | exact .inl rfl | exact .inr rfl)) (pdgs_cons (pdg_name (i := 17) sc__law_are_bounds_right.nd rfl (by first | exact .inl rfl | exact .inr rfl)) pdgs_nil))))
  (pdss_cons (pds_set (i := 10) sc__law_are_bounds_right.nd rfl (by first | exact .inl rfl | exact .inr rfl) (PD.l (pd_ifx (pdb_cmp (od_eq hr.units) (pd_var 16 (pv 16)) (pd_str (by decide))) (PDN.fz (pdn_comp (own := [("at", 21)]) rfl sc__law_are_bounds_right.nd (pdi_seq (pd_var 17 (pv 17))) (by kernel_rfl) (fun _ _ _ _ _ => (pdg_name (i := 21) sc__law_are_bounds_right.nd rfl (by first | exact .inl rfl | exact .inr rfl))) (fun _ _ _ _ _ => pdts_nil) (fun _ _ _ _ _ => (pd_ix ixd (pd_op od_add (pd_var 2 (pv 2)) (pd_callT cd_tuple (by rfl) T.b_tuple bt_tuple (pda_cons (pd_var 13 (pv 13)) pda_nil))) (pd_var 21 (pv 21)))))) (PDN.fz (pdn_lst pda_nil)))))
  (pdss_cons (pds_if (PWB.b (pwb_or (pdb_cmp (od_eq hr.units) (pd_var 10 (pv 10)) (PDN.fz (pdn_lst pda_nil))) (pwb_or1 (pdb_cmp (od_ge hr.units) (pd_callB (cd_sum rfl) (by rfl) T.b_sum bt_sum (pda_cons (PDN.fz (pdn_comp (own := [("bound", 22)]) rfl sc__law_are_bounds_right.nd (pdi_seq (pd_var 10 (pv 10))) (by kernel_rfl) (fun _ _ _ _ _ => (pdg_name (i := 22) sc__law_are_bounds_right.nd rfl (by first | exact .inl rfl | exact .inr rfl))) (fun _ _ _ _ _ => pdts_nil) (fun _ _ _ _ _ => (pd_ix ixd (pd_var 22 (pv 22)) pd_int)))) pda_nil)) pd_int)))) (pdss_one (pds_ret pd_bl)) pdss_nil)
  (pdss_one (pds_ret (pd_callB (cd_all rfl) (by rfl) T.b_all bt_all (pda_cons (PDN.fz (pdn_comp (own := [("one", 14), ("other", 15)]) rfl sc__law_are_bounds_right.nd (pdi_zip (by rfl) T.b_zip (pda_cons (pd_var 10 (pv 10)) (pda_cons (pd_op od_add (pd_sl (pd_var 10 (pv 10)) (pdo_s pd_int) pdo_n) (pd_sl (pd_var 10 (pv 10)) pdo_n (pdo_s pd_int))) pda_nil))) (by kernel_rfl) (fun _ _ _ _ _ => (pdg_tup rfl (pdgs_cons (pdg_name (i := 14) sc__law_are_bounds_right.nd rfl (by first | exact .inl rfl | exact .inr rfl)) (pdgs_cons (pdg_name (i := 15) sc__law_are_bounds_right.nd rfl (by first | exact .inl rfl | exact .inr rfl)) pdgs_nil)))) (fun _ _ _ _ _ => pdts_nil) (fun _ _ _ _ _ => (pd_cmp (od_eq hr.units) (pd_ix ixd (pd_var 14 (pv 14)) pd_int) (pd_ix ixd (pd_var 15 (pv 15)) pd_int))))) pda_nil)))))))))))))))))))))))
theorem ok__law_right {f : Addr} {fd : FuncData} (F : Fun K "_law_right" "_law_right" s__law_right f fd) (T : Top mg) (c__law_are_letters_right : Cal P w K mg base 5 "_law_are_letters_right" (spP K 1 false f__law_are_letters_right)) (c__law_letters_drawn : Cal P w K mg base 3 "_law_letters_drawn" (spI K 1 false f__law_letters_drawn)) (c__law_are_spans_right : Cal P w K mg base 5 "_law_are_spans_right" (spI K 1 false f__law_are_spans_right)) (c__law_are_bounds_right : Cal P w K mg base 5 "_law_are_bounds_right" (spI K 1 false f__law_are_bounds_right)) : FnOk P w K mg base CX0 6 f fd ["pot"] (spI K 1 false f__law_right) :=
  fnI_ok F sc__law_right fun cdv A outer s H E hr => ((pdss_cons (pds_for .never rfl (pdi_wp [1] (pdi_range1 (by rfl) T.b_range (pda_cons pd_int pda_nil))) (show PDG _ _ _ t__law_right_l1 from (pdg_name (i := 1) sc__law_right.nd rfl (by first | exact .inl rfl | exact .inr rfl))) (show PDSs _ _ b__law_right_l1 from (pdss_cons (pds_if (PWB.b (pwb_or (pdb_not (pdb_val (pd_callP hr c__law_are_letters_right fnP_ar (by decide) (by rfl) (pda_cons (pd_callI 0 hr c__law_letters_drawn fnI_ar (by decide) (by rfl) (pv 0) pda_nil) pda_nil)))) (pwb_or1 (pdb_not (pdb_val (pd_callI 0 hr c__law_are_spans_right fnI_ar (by decide) (by rfl) (pv 0) pda_nil)))))) (pdss_one (pds_ret pd_bl)) pdss_nil)
  (pdss_one (pds_if (pdb_not (pdb_val (pd_callI 0 hr c__law_are_bounds_right fnI_ar (by decide) (by rfl) (pv 0) pda_nil))) (pdss_one (pds_ret pd_bl)) (pdss_wp [1] pdss_nil))))))
  (pdss_one (pds_ret pd_bl))))
theorem ok__law_pot {f : Addr} {fd : FuncData} (F : Fun K "_law_pot" "_law_pot" s__law_pot f fd) (T : Top mg) : FnOk P w K mg base CX0 1 f fd ["script", "place"] (spP K 2 true f__law_pot) :=
  fnP_ok F sc__law_pot fun cdv A outer s H E hr => ((pdss_cons (pds_set (i := 2) sc__law_pot.nd rfl (by first | exact .inl rfl | exact .inr rfl) (PD.l (pd_ifx (pdb_cmp (od_lt hr.units) (pd_var 1 (pv 1)) (pd_callB cd_len (by rfl) T.b_len bt_len (pda_cons (pd_var 0 (pv 0)) pda_nil))) (pd_ix ixd (pd_var 0 (pv 0)) (pd_var 1 (pv 1))) (pd_op od_add (pd_op od_add (pd_op od_mod (pd_callT cd_int (by rfl) T.b_int bt_int (pda_cons (pd_callB (cd_sum rfl) (by rfl) T.b_sum bt_sum (pda_cons (pd_sl (pd_var 0 (pv 0)) pdo_n (pdo_s pd_int)) pda_nil)) pda_nil)) pd_int) (pd_op od_mul pd_int (pd_var 1 (pv 1)))) pd_int))))
  (pdss_cons (pds_set (i := 3) sc__law_pot.nd rfl (by first | exact .inl rfl | exact .inr rfl) (PD.l (pd_op od_mul (pd_op od_mod (pd_callT cd_int (by rfl) T.b_int bt_int (pda_cons (pd_callB cd_abs (by rfl) T.b_abs bt_abs (pda_cons (pd_var 2 (pv 2)) pda_nil)) pda_nil)) (pd_op od_pow (pd_op od_pow pd_int pd_int) pd_int)) (pd_callT cd_int (by rfl) T.b_int bt_int (pda_cons (pd_cmp (od_ge hr.units) (pd_callB cd_abs (by rfl) T.b_abs bt_abs (pda_cons (pd_var 2 (pv 2)) pda_nil)) (pd_op od_pow pd_int pd_int)) pda_nil)))))
  (pdss_cons (pds_set (i := 4) sc__law_pot.nd rfl (by first | exact .inl rfl | exact .inr rfl) (PD.l (pd_op od_mod (pd_callT cd_int (by rfl) T.b_int bt_int (pda_cons (pd_var 2 (pv 2)) pda_nil)) pd_int)))
  (pdss_one (pds_retN (pdn_lst (pda_cons (pd_var 3 (pv 3)) (pda_cons (pd_op od_mod (pd_callT cd_int (by rfl) T.b_int bt_int (pda_cons (pd_op od_add (pd_op od_add (pd_op od_mul (pd_var 4 (pv 4)) pd_int) (pd_op od_mul (pd_op od_mul pd_int (pd_var 1 (pv 1))) (pd_var 1 (pv 1)))) pd_int) pda_nil)) pd_int) (pda_cons pd_int pda_nil))))))))))
theorem ok_law {f : Addr} {fd : FuncData} (F : Fun K "law" "law" s_law f fd) (T : Top mg) (c__law_cells : Cal P w K mg base 1 "_law_cells" (spP K 2 false f__law_cells)) (c__law_right : Cal P w K mg base 6 "_law_right" (spI K 1 false f__law_right)) (c__law_pot : Cal P w K mg base 1 "_law_pot" (spP K 2 true f__law_pot)) : FnOk P w K mg base CX0 7 f fd ["script"] (spP K 1 false f_law) :=
  fnP_ok F sc_law fun cdv A outer s H E hr => ((pdss_one (pds_ret (pd_callB (cd_all rfl) (by rfl) T.b_all bt_all (pda_cons (PDN.fz (pdn_comp (own := [("at", 1)]) rfl sc_law.nd (pdi_seq (pd_callP hr c__law_cells fnP_ar (by decide) (by rfl) (pda_cons (pd_var 0 (pv 0)) (pda_cons pd_int pda_nil)))) (by kernel_rfl) (fun _ _ _ _ _ => (pdg_name (i := 1) sc_law.nd rfl (by first | exact .inl rfl | exact .inr rfl))) (fun _ _ _ _ _ => pdts_nil) (fun _ _ _ _ _ => (pd_callN hr c__law_right fnI_ar (by decide) (by rfl) (pdn_callP hr c__law_pot fnP_ar (by decide) (by rfl) (pda_cons (pd_var 0 (pv 0)) (pda_cons (pd_var 1 (pv 1)) pda_nil))) pda_nil)))) pda_nil)))))
end
theorem all_mk {l : PySem.W.OpenLaw} {w : World} {K : PySem.W.Frag} {h : Heap} {mg : Str → Option Value} {fa f1 f2 f3 f4 f5 f6 f7 f8 f9 f10 f11 f12 f13 f14 f15 f16 f17 f18 f19 f20 f21 f22 f23 f24 f25 f26 : Addr} (X : K.In h) (G : h.Ns mainGlobals mg) (hfa : mg "law" = some (.ref fa))
    {od1 an1 : Option Addr} {sl1 : Array (Option Value)} {oc1 kV1 dc1 pm1 cd1 ct1 : Value}
    (a1 : PySem.W.nsIn K mainGlobals "_law_cells" = some (some (.ref f1))) (l1 : K.lookup f1 = some ⟨oc1, od1, .func (PySem.W.fnOf "_law_cells" "_law_cells" (defArgs s__law_cells) (defBody s__law_cells) (defScope s__law_cells) .none kV1 dc1 pm1 an1 cd1 ct1), sl1⟩) (c1 : PySem.W.codeIn K cd1 "_law_cells" = true) (k1 : PySem.W.keepIn K (.ref f1) = true)
    {od2 an2 : Option Addr} {sl2 : Array (Option Value)} {oc2 kV2 dc2 pm2 cd2 ct2 : Value}
    (a2 : PySem.W.nsIn K mainGlobals "is_int" = some (some (.ref f2))) (l2 : K.lookup f2 = some ⟨oc2, od2, .func (PySem.W.fnOf "is_int" "is_int" (defArgs s_is_int) (defBody s_is_int) (defScope s_is_int) .none kV2 dc2 pm2 an2 cd2 ct2), sl2⟩) (c2 : PySem.W.codeIn K cd2 "is_int" = true) (k2 : PySem.W.keepIn K (.ref f2) = true)
    {od3 an3 : Option Addr} {sl3 : Array (Option Value)} {oc3 kV3 dc3 pm3 cd3 ct3 : Value}
    (a3 : PySem.W.nsIn K mainGlobals "are_ints" = some (some (.ref f3))) (l3 : K.lookup f3 = some ⟨oc3, od3, .func (PySem.W.fnOf "are_ints" "are_ints" (defArgs s_are_ints) (defBody s_are_ints) (defScope s_are_ints) .none kV3 dc3 pm3 an3 cd3 ct3), sl3⟩) (c3 : PySem.W.codeIn K cd3 "are_ints" = true) (k3 : PySem.W.keepIn K (.ref f3) = true)
    {od4 an4 : Option Addr} {sl4 : Array (Option Value)} {oc4 kV4 dc4 pm4 cd4 ct4 : Value}
    (a4 : PySem.W.nsIn K mainGlobals "look_at_letters_back" = some (some (.ref f4))) (l4 : K.lookup f4 = some ⟨oc4, od4, .func (PySem.W.fnOf "look_at_letters_back" "look_at_letters_back" (defArgs s_look_at_letters_back) (defBody s_look_at_letters_back) (defScope s_look_at_letters_back) .none kV4 dc4 pm4 an4 cd4 ct4), sl4⟩) (c4 : PySem.W.codeIn K cd4 "look_at_letters_back" = true) (k4 : PySem.W.keepIn K (.ref f4) = true)
    {od5 an5 : Option Addr} {sl5 : Array (Option Value)} {oc5 kV5 dc5 pm5 cd5 ct5 : Value}
    (a5 : PySem.W.nsIn K mainGlobals "told_apart" = some (some (.ref f5))) (l5 : K.lookup f5 = some ⟨oc5, od5, .func (PySem.W.fnOf "told_apart" "told_apart" (defArgs s_told_apart) (defBody s_told_apart) (defScope s_told_apart) .none kV5 dc5 pm5 an5 cd5 ct5), sl5⟩) (c5 : PySem.W.codeIn K cd5 "told_apart" = true) (k5 : PySem.W.keepIn K (.ref f5) = true)
    {od6 an6 : Option Addr} {sl6 : Array (Option Value)} {oc6 kV6 dc6 pm6 cd6 ct6 : Value}
    (a6 : PySem.W.nsIn K mainGlobals "told_between" = some (some (.ref f6))) (l6 : K.lookup f6 = some ⟨oc6, od6, .func (PySem.W.fnOf "told_between" "told_between" (defArgs s_told_between) (defBody s_told_between) (defScope s_told_between) .none kV6 dc6 pm6 an6 cd6 ct6), sl6⟩) (c6 : PySem.W.codeIn K cd6 "told_between" = true) (k6 : PySem.W.keepIn K (.ref f6) = true)
    {od7 an7 : Option Addr} {sl7 : Array (Option Value)} {oc7 kV7 dc7 pm7 cd7 ct7 : Value}
    (a7 : PySem.W.nsIn K mainGlobals "clocks_apart" = some (some (.ref f7))) (l7 : K.lookup f7 = some ⟨oc7, od7, .func (PySem.W.fnOf "clocks_apart" "clocks_apart" (defArgs s_clocks_apart) (defBody s_clocks_apart) (defScope s_clocks_apart) .none kV7 dc7 pm7 an7 cd7 ct7), sl7⟩) (c7 : PySem.W.codeIn K cd7 "clocks_apart" = true) (k7 : PySem.W.keepIn K (.ref f7) = true)
    {od8 an8 : Option Addr} {sl8 : Array (Option Value)} {oc8 kV8 dc8 pm8 cd8 ct8 : Value}
    (a8 : PySem.W.nsIn K mainGlobals "look_at_bounds" = some (some (.ref f8))) (l8 : K.lookup f8 = some ⟨oc8, od8, .func (PySem.W.fnOf "look_at_bounds" "look_at_bounds" (defArgs s_look_at_bounds) (defBody s_look_at_bounds) (defScope s_look_at_bounds) .none kV8 dc8 pm8 an8 cd8 ct8), sl8⟩) (c8 : PySem.W.codeIn K cd8 "look_at_bounds" = true) (k8 : PySem.W.keepIn K (.ref f8) = true)
    {od9 an9 : Option Addr} {sl9 : Array (Option Value)} {oc9 kV9 dc9 pm9 cd9 ct9 : Value}
    (a9 : PySem.W.nsIn K mainGlobals "told_clocks" = some (some (.ref f9))) (l9 : K.lookup f9 = some ⟨oc9, od9, .func (PySem.W.fnOf "told_clocks" "told_clocks" (defArgs s_told_clocks) (defBody s_told_clocks) (defScope s_told_clocks) .none kV9 dc9 pm9 an9 cd9 ct9), sl9⟩) (c9 : PySem.W.codeIn K cd9 "told_clocks" = true) (k9 : PySem.W.keepIn K (.ref f9) = true)
    {od10 an10 : Option Addr} {sl10 : Array (Option Value)} {oc10 kV10 dc10 pm10 cd10 ct10 : Value}
    (a10 : PySem.W.nsIn K mainGlobals "clocks_for" = some (some (.ref f10))) (l10 : K.lookup f10 = some ⟨oc10, od10, .func (PySem.W.fnOf "clocks_for" "clocks_for" (defArgs s_clocks_for) (defBody s_clocks_for) (defScope s_clocks_for) .none kV10 dc10 pm10 an10 cd10 ct10), sl10⟩) (c10 : PySem.W.codeIn K cd10 "clocks_for" = true) (k10 : PySem.W.keepIn K (.ref f10) = true)
    {od11 an11 : Option Addr} {sl11 : Array (Option Value)} {oc11 kV11 dc11 pm11 cd11 ct11 : Value}
    (a11 : PySem.W.nsIn K mainGlobals "is_told" = some (some (.ref f11))) (l11 : K.lookup f11 = some ⟨oc11, od11, .func (PySem.W.fnOf "is_told" "is_told" (defArgs s_is_told) (defBody s_is_told) (defScope s_is_told) .none kV11 dc11 pm11 an11 cd11 ct11), sl11⟩) (c11 : PySem.W.codeIn K cd11 "is_told" = true) (k11 : PySem.W.keepIn K (.ref f11) = true)
    {od12 an12 : Option Addr} {sl12 : Array (Option Value)} {oc12 kV12 dc12 pm12 cd12 ct12 : Value}
    (a12 : PySem.W.nsIn K mainGlobals "shows_clocks_for" = some (some (.ref f12))) (l12 : K.lookup f12 = some ⟨oc12, od12, .func (PySem.W.fnOf "shows_clocks_for" "shows_clocks_for" (defArgs s_shows_clocks_for) (defBody s_shows_clocks_for) (defScope s_shows_clocks_for) .none kV12 dc12 pm12 an12 cd12 ct12), sl12⟩) (c12 : PySem.W.codeIn K cd12 "shows_clocks_for" = true) (k12 : PySem.W.keepIn K (.ref f12) = true)
    {od13 an13 : Option Addr} {sl13 : Array (Option Value)} {oc13 kV13 dc13 pm13 cd13 ct13 : Value}
    (a13 : PySem.W.nsIn K mainGlobals "_law_are_letters_right" = some (some (.ref f13))) (l13 : K.lookup f13 = some ⟨oc13, od13, .func (PySem.W.fnOf "_law_are_letters_right" "_law_are_letters_right" (defArgs s__law_are_letters_right) (defBody s__law_are_letters_right) (defScope s__law_are_letters_right) .none kV13 dc13 pm13 an13 cd13 ct13), sl13⟩) (c13 : PySem.W.codeIn K cd13 "_law_are_letters_right" = true) (k13 : PySem.W.keepIn K (.ref f13) = true)
    {od14 an14 : Option Addr} {sl14 : Array (Option Value)} {oc14 kV14 dc14 pm14 cd14 ct14 : Value}
    (a14 : PySem.W.nsIn K mainGlobals "_law_take" = some (some (.ref f14))) (l14 : K.lookup f14 = some ⟨oc14, od14, .func (PySem.W.fnOf "_law_take" "_law_take" (defArgs s__law_take) (defBody s__law_take) (defScope s__law_take) .none kV14 dc14 pm14 an14 cd14 ct14), sl14⟩) (c14 : PySem.W.codeIn K cd14 "_law_take" = true) (k14 : PySem.W.keepIn K (.ref f14) = true)
    {od15 an15 : Option Addr} {sl15 : Array (Option Value)} {oc15 kV15 dc15 pm15 cd15 ct15 : Value}
    (a15 : PySem.W.nsIn K mainGlobals "_law_of" = some (some (.ref f15))) (l15 : K.lookup f15 = some ⟨oc15, od15, .func (PySem.W.fnOf "_law_of" "_law_of" (defArgs s__law_of) (defBody s__law_of) (defScope s__law_of) .none kV15 dc15 pm15 an15 cd15 ct15), sl15⟩) (c15 : PySem.W.codeIn K cd15 "_law_of" = true) (k15 : PySem.W.keepIn K (.ref f15) = true)
    {od16 an16 : Option Addr} {sl16 : Array (Option Value)} {oc16 kV16 dc16 pm16 cd16 ct16 : Value}
    (a16 : PySem.W.nsIn K mainGlobals "_law_letters_drawn" = some (some (.ref f16))) (l16 : K.lookup f16 = some ⟨oc16, od16, .func (PySem.W.fnOf "_law_letters_drawn" "_law_letters_drawn" (defArgs s__law_letters_drawn) (defBody s__law_letters_drawn) (defScope s__law_letters_drawn) .none kV16 dc16 pm16 an16 cd16 ct16), sl16⟩) (c16 : PySem.W.codeIn K cd16 "_law_letters_drawn" = true) (k16 : PySem.W.keepIn K (.ref f16) = true)
    {od17 an17 : Option Addr} {sl17 : Array (Option Value)} {oc17 kV17 dc17 pm17 cd17 ct17 : Value}
    (a17 : PySem.W.nsIn K mainGlobals "look_at_spans" = some (some (.ref f17))) (l17 : K.lookup f17 = some ⟨oc17, od17, .func (PySem.W.fnOf "look_at_spans" "look_at_spans" (defArgs s_look_at_spans) (defBody s_look_at_spans) (defScope s_look_at_spans) .none kV17 dc17 pm17 an17 cd17 ct17), sl17⟩) (c17 : PySem.W.codeIn K cd17 "look_at_spans" = true) (k17 : PySem.W.keepIn K (.ref f17) = true)
    {od18 an18 : Option Addr} {sl18 : Array (Option Value)} {oc18 kV18 dc18 pm18 cd18 ct18 : Value}
    (a18 : PySem.W.nsIn K mainGlobals "most_agree" = some (some (.ref f18))) (l18 : K.lookup f18 = some ⟨oc18, od18, .func (PySem.W.fnOf "most_agree" "most_agree" (defArgs s_most_agree) (defBody s_most_agree) (defScope s_most_agree) .none kV18 dc18 pm18 an18 cd18 ct18), sl18⟩) (c18 : PySem.W.codeIn K cd18 "most_agree" = true) (k18 : PySem.W.keepIn K (.ref f18) = true)
    {od19 an19 : Option Addr} {sl19 : Array (Option Value)} {oc19 kV19 dc19 pm19 cd19 ct19 : Value}
    (a19 : PySem.W.nsIn K mainGlobals "told_points" = some (some (.ref f19))) (l19 : K.lookup f19 = some ⟨oc19, od19, .func (PySem.W.fnOf "told_points" "told_points" (defArgs s_told_points) (defBody s_told_points) (defScope s_told_points) .none kV19 dc19 pm19 an19 cd19 ct19), sl19⟩) (c19 : PySem.W.codeIn K cd19 "told_points" = true) (k19 : PySem.W.keepIn K (.ref f19) = true)
    {od20 an20 : Option Addr} {sl20 : Array (Option Value)} {oc20 kV20 dc20 pm20 cd20 ct20 : Value}
    (a20 : PySem.W.nsIn K mainGlobals "fewest_numbers" = some (some (.ref f20))) (l20 : K.lookup f20 = some ⟨oc20, od20, .func (PySem.W.fnOf "fewest_numbers" "fewest_numbers" (defArgs s_fewest_numbers) (defBody s_fewest_numbers) (defScope s_fewest_numbers) .none kV20 dc20 pm20 an20 cd20 ct20), sl20⟩) (c20 : PySem.W.codeIn K cd20 "fewest_numbers" = true) (k20 : PySem.W.keepIn K (.ref f20) = true)
    {od21 an21 : Option Addr} {sl21 : Array (Option Value)} {oc21 kV21 dc21 pm21 cd21 ct21 : Value}
    (a21 : PySem.W.nsIn K mainGlobals "_law_are_spans_right" = some (some (.ref f21))) (l21 : K.lookup f21 = some ⟨oc21, od21, .func (PySem.W.fnOf "_law_are_spans_right" "_law_are_spans_right" (defArgs s__law_are_spans_right) (defBody s__law_are_spans_right) (defScope s__law_are_spans_right) .none kV21 dc21 pm21 an21 cd21 ct21), sl21⟩) (c21 : PySem.W.codeIn K cd21 "_law_are_spans_right" = true) (k21 : PySem.W.keepIn K (.ref f21) = true)
    {od22 an22 : Option Addr} {sl22 : Array (Option Value)} {oc22 kV22 dc22 pm22 cd22 ct22 : Value}
    (a22 : PySem.W.nsIn K mainGlobals "_law_some" = some (some (.ref f22))) (l22 : K.lookup f22 = some ⟨oc22, od22, .func (PySem.W.fnOf "_law_some" "_law_some" (defArgs s__law_some) (defBody s__law_some) (defScope s__law_some) .none kV22 dc22 pm22 an22 cd22 ct22), sl22⟩) (c22 : PySem.W.codeIn K cd22 "_law_some" = true) (k22 : PySem.W.keepIn K (.ref f22) = true)
    {od23 an23 : Option Addr} {sl23 : Array (Option Value)} {oc23 kV23 dc23 pm23 cd23 ct23 : Value}
    (a23 : PySem.W.nsIn K mainGlobals "_law_are_bounds_right" = some (some (.ref f23))) (l23 : K.lookup f23 = some ⟨oc23, od23, .func (PySem.W.fnOf "_law_are_bounds_right" "_law_are_bounds_right" (defArgs s__law_are_bounds_right) (defBody s__law_are_bounds_right) (defScope s__law_are_bounds_right) .none kV23 dc23 pm23 an23 cd23 ct23), sl23⟩) (c23 : PySem.W.codeIn K cd23 "_law_are_bounds_right" = true) (k23 : PySem.W.keepIn K (.ref f23) = true)
    {od24 an24 : Option Addr} {sl24 : Array (Option Value)} {oc24 kV24 dc24 pm24 cd24 ct24 : Value}
    (a24 : PySem.W.nsIn K mainGlobals "_law_right" = some (some (.ref f24))) (l24 : K.lookup f24 = some ⟨oc24, od24, .func (PySem.W.fnOf "_law_right" "_law_right" (defArgs s__law_right) (defBody s__law_right) (defScope s__law_right) .none kV24 dc24 pm24 an24 cd24 ct24), sl24⟩) (c24 : PySem.W.codeIn K cd24 "_law_right" = true) (k24 : PySem.W.keepIn K (.ref f24) = true)
    {od25 an25 : Option Addr} {sl25 : Array (Option Value)} {oc25 kV25 dc25 pm25 cd25 ct25 : Value}
    (a25 : PySem.W.nsIn K mainGlobals "_law_pot" = some (some (.ref f25))) (l25 : K.lookup f25 = some ⟨oc25, od25, .func (PySem.W.fnOf "_law_pot" "_law_pot" (defArgs s__law_pot) (defBody s__law_pot) (defScope s__law_pot) .none kV25 dc25 pm25 an25 cd25 ct25), sl25⟩) (c25 : PySem.W.codeIn K cd25 "_law_pot" = true) (k25 : PySem.W.keepIn K (.ref f25) = true)
    {od26 an26 : Option Addr} {sl26 : Array (Option Value)} {oc26 kV26 dc26 pm26 cd26 ct26 : Value}
    (a26 : PySem.W.nsIn K mainGlobals "law" = some (some (.ref f26))) (l26 : K.lookup f26 = some ⟨oc26, od26, .func (PySem.W.fnOf "law" "law" (defArgs s_law) (defBody s_law) (defScope s_law) .none kV26 dc26 pm26 an26 cd26 ct26), sl26⟩) (c26 : PySem.W.codeIn K cd26 "law" = true) (k26 : PySem.W.keepIn K (.ref f26) = true)
    (z1 : PySem.W.nsIn K mainGlobals "abs" = some none)
    (z2 : PySem.W.nsIn K mainGlobals "all" = some none)
    (z3 : PySem.W.nsIn K mainGlobals "any" = some none)
    (z4 : PySem.W.nsIn K mainGlobals "bool" = some none)
    (z5 : PySem.W.nsIn K mainGlobals "enumerate" = some none)
    (z6 : PySem.W.nsIn K mainGlobals "int" = some none)
    (z7 : PySem.W.nsIn K mainGlobals "isinstance" = some none)
    (z8 : PySem.W.nsIn K mainGlobals "len" = some none)
    (z9 : PySem.W.nsIn K mainGlobals "list" = some none)
    (z10 : PySem.W.nsIn K mainGlobals "max" = some none)
    (z11 : PySem.W.nsIn K mainGlobals "min" = some none)
    (z12 : PySem.W.nsIn K mainGlobals "range" = some none)
    (z13 : PySem.W.nsIn K mainGlobals "set" = some none)
    (z14 : PySem.W.nsIn K mainGlobals "sorted" = some none)
    (z15 : PySem.W.nsIn K mainGlobals "str" = some none)
    (z16 : PySem.W.nsIn K mainGlobals "sum" = some none)
    (z17 : PySem.W.nsIn K mainGlobals "tuple" = some none)
    (z18 : PySem.W.nsIn K mainGlobals "zip" = some none)
    {t1 : Tok} (v1 : PySem.W.nsIn K mainGlobals "APART" = some (some (.str "apart" t1)))
    {t2 : Tok} (v2 : PySem.W.nsIn K mainGlobals "CLOCKS" = some (some (.str "clocks" t2)))
    {t3 : Tok} (v3 : PySem.W.nsIn K mainGlobals "MOST_HOSTS" = some (some (.int 30 t3)))
    {t4 : Tok} (v4 : PySem.W.nsIn K mainGlobals "MOST_SOME" = some (some (.int 200 t4)))
    {t5 : Tok} (v5 : PySem.W.nsIn K mainGlobals "MOST_TIME" = some (some (.int 1000000000000 t5)))
    {t6 : Tok} (v6 : PySem.W.nsIn K mainGlobals "NEVER" = some (some (.str "never" t6)))
    {t7 : Tok} (v7 : PySem.W.nsIn K mainGlobals "RING" = some (some (.str "ring" t7)))
    {t8 : Tok} (v8 : PySem.W.nsIn K mainGlobals "THREE" = some (some (.int 3 t8)))
    : ∃ fd : FuncData, (∀ (s : Shared) (v : Value), BindsTo s fd ⟨[v], []⟩ [("script", v)]) ∧ ∀ base : Heap, K.In base → base.Ns mainGlobals mg → FnOk l.prog w K mg base CX0 7 fa fd ["script"] (spP K 1 false f_law) := by
  have e := hfa.symm.trans (PySem.W.mg_of X G a26)
  cases e
  have T : Top mg := ⟨PySem.W.mg_none_of X G z1, PySem.W.mg_none_of X G z2, PySem.W.mg_none_of X G z3, PySem.W.mg_none_of X G z4, PySem.W.mg_none_of X G z5, PySem.W.mg_none_of X G z6, PySem.W.mg_none_of X G z7, PySem.W.mg_none_of X G z8, PySem.W.mg_none_of X G z9, PySem.W.mg_none_of X G z10, PySem.W.mg_none_of X G z11, PySem.W.mg_none_of X G z12, PySem.W.mg_none_of X G z13, PySem.W.mg_none_of X G z14, PySem.W.mg_none_of X G z15, PySem.W.mg_none_of X G z16, PySem.W.mg_none_of X G z17, PySem.W.mg_none_of X G z18, ⟨_, PySem.W.mg_of X G v1⟩, ⟨_, PySem.W.mg_of X G v2⟩, ⟨_, PySem.W.mg_of X G v3⟩, ⟨_, PySem.W.mg_of X G v4⟩, ⟨_, PySem.W.mg_of X G v5⟩, ⟨_, PySem.W.mg_of X G v6⟩, ⟨_, PySem.W.mg_of X G v7⟩, ⟨_, PySem.W.mg_of X G v8⟩⟩
  have F1 := fun_mk (st := s__law_cells) l1 c1 k1
  have B1 := F1.binds (ps := ["script", "most"]) fun _ _ _ _ _ _ us hl => match us, hl with | [_, _], _ => rfl
  have F2 := fun_mk (st := s_is_int) l2 c2 k2
  have B2 := F2.binds (ps := ["value", "low", "high"]) fun _ _ _ _ _ _ us hl => match us, hl with | [_, _, _], _ => rfl
  have F3 := fun_mk (st := s_are_ints) l3 c3 k3
  have B3 := F3.binds (ps := ["value", "low", "high"]) fun _ _ _ _ _ _ us hl => match us, hl with | [_, _, _], _ => rfl
  have F4 := fun_mk (st := s_look_at_letters_back) l4 c4 k4
  have B4 := F4.binds (ps := ["exchanges"]) fun _ _ _ _ _ _ us hl => match us, hl with | [_], _ => rfl
  have F5 := fun_mk (st := s_told_apart) l5 c5 k5
  have B5 := F5.binds (ps := ["some"]) fun _ _ _ _ _ _ us hl => match us, hl with | [_], _ => rfl
  have F6 := fun_mk (st := s_told_between) l6 c6 k6
  have B6 := F6.binds (ps := ["times"]) fun _ _ _ _ _ _ us hl => match us, hl with | [_], _ => rfl
  have F7 := fun_mk (st := s_clocks_apart) l7 c7 k7
  have B7 := F7.binds (ps := ["exchanges"]) fun _ _ _ _ _ _ us hl => match us, hl with | [_], _ => rfl
  have F8 := fun_mk (st := s_look_at_bounds) l8 c8 k8
  have B8 := F8.binds (ps := ["many", "bounds"]) fun _ _ _ _ _ _ us hl => match us, hl with | [_, _], _ => rfl
  have F9 := fun_mk (st := s_told_clocks) l9 c9 k9
  have B9 := F9.binds (ps := ["many", "bounds"]) fun _ _ _ _ _ _ us hl => match us, hl with | [_, _], _ => rfl
  have F10 := fun_mk (st := s_clocks_for) l10 c10 k10
  have B10 := F10.binds (ps := ["many", "bounds"]) fun _ _ _ _ _ _ us hl => match us, hl with | [_, _], _ => rfl
  have F11 := fun_mk (st := s_is_told) l11 c11 k11
  have B11 := F11.binds (ps := ["value", "sizes"]) fun _ _ _ _ _ _ us hl => match us, hl with | [_, _], _ => rfl
  have F12 := fun_mk (st := s_shows_clocks_for) l12 c12 k12
  have B12 := F12.binds (ps := ["many", "bounds", "value"]) fun _ _ _ _ _ _ us hl => match us, hl with | [_, _, _], _ => rfl
  have F13 := fun_mk (st := s__law_are_letters_right) l13 c13 k13
  have B13 := F13.binds (ps := ["letters"]) fun _ _ _ _ _ _ us hl => match us, hl with | [_], _ => rfl
  have F14 := fun_mk (st := s__law_take) l14 c14 k14
  have B14 := F14.binds (ps := ["pot", "upto"]) fun _ _ _ _ _ _ us hl => match us, hl with | [_, _], _ => rfl
  have F15 := fun_mk (st := s__law_of) l15 c15 k15
  have B15 := F15.binds (ps := ["pot", "some"]) fun _ _ _ _ _ _ us hl => match us, hl with | [_, _], _ => rfl
  have F16 := fun_mk (st := s__law_letters_drawn) l16 c16 k16
  have B16 := F16.binds (ps := ["pot"]) fun _ _ _ _ _ _ us hl => match us, hl with | [_], _ => rfl
  have F17 := fun_mk (st := s_look_at_spans) l17 c17 k17
  have B17 := F17.binds (ps := ["spans"]) fun _ _ _ _ _ _ us hl => match us, hl with | [_], _ => rfl
  have F18 := fun_mk (st := s_most_agree) l18 c18 k18
  have B18 := F18.binds (ps := ["spans"]) fun _ _ _ _ _ _ us hl => match us, hl with | [_], _ => rfl
  have F19 := fun_mk (st := s_told_points) l19 c19 k19
  have B19 := F19.binds (ps := ["spans"]) fun _ _ _ _ _ _ us hl => match us, hl with | [_], _ => rfl
  have F20 := fun_mk (st := s_fewest_numbers) l20 c20 k20
  have B20 := F20.binds (ps := ["spans"]) fun _ _ _ _ _ _ us hl => match us, hl with | [_], _ => rfl
  have F21 := fun_mk (st := s__law_are_spans_right) l21 c21 k21
  have B21 := F21.binds (ps := ["pot"]) fun _ _ _ _ _ _ us hl => match us, hl with | [_], _ => rfl
  have F22 := fun_mk (st := s__law_some) l22 c22 k22
  have B22 := F22.binds (ps := ["pot", "pool", "many"]) fun _ _ _ _ _ _ us hl => match us, hl with | [_, _, _], _ => rfl
  have F23 := fun_mk (st := s__law_are_bounds_right) l23 c23 k23
  have B23 := F23.binds (ps := ["pot"]) fun _ _ _ _ _ _ us hl => match us, hl with | [_], _ => rfl
  have F24 := fun_mk (st := s__law_right) l24 c24 k24
  have B24 := F24.binds (ps := ["pot"]) fun _ _ _ _ _ _ us hl => match us, hl with | [_], _ => rfl
  have F25 := fun_mk (st := s__law_pot) l25 c25 k25
  have B25 := F25.binds (ps := ["script", "place"]) fun _ _ _ _ _ _ us hl => match us, hl with | [_, _], _ => rfl
  have F26 := fun_mk (st := s_law) l26 c26 k26
  refine ⟨PySem.W.fnOf "law" "law" (defArgs s_law) (defBody s_law) (defScope s_law) .none kV26 dc26 pm26 an26 cd26 ct26, fun s v => .of_eq rfl, fun base _ _ => ?_⟩
  have C1 : Cal l.prog w K mg base 1 "_law_cells" (spP K 2 false f__law_cells) := ⟨_, _, _, ok__law_cells F1 T , PySem.W.mg_of X G a1, F1.kp, B1⟩
  have C2 : Cal l.prog w K mg base 1 "is_int" (spP K 3 false f_is_int) := ⟨_, _, _, ok_is_int F2 T , PySem.W.mg_of X G a2, F2.kp, B2⟩
  have C3 : Cal l.prog w K mg base 2 "are_ints" (spP K 3 false f_are_ints) := ⟨_, _, _, ok_are_ints F3 T C2, PySem.W.mg_of X G a3, F3.kp, B3⟩
  have C4 : Cal l.prog w K mg base 3 "look_at_letters_back" (spP K 1 false f_look_at_letters_back) := ⟨_, _, _, ok_look_at_letters_back F4 T C3, PySem.W.mg_of X G a4, F4.kp, B4⟩
  have C5 : Cal l.prog w K mg base 1 "told_apart" (spP K 1 false f_told_apart) := ⟨_, _, _, ok_told_apart F5 T , PySem.W.mg_of X G a5, F5.kp, B5⟩
  have C6 : Cal l.prog w K mg base 1 "told_between" (spP K 1 false f_told_between) := ⟨_, _, _, ok_told_between F6 T , PySem.W.mg_of X G a6, F6.kp, B6⟩
  have C7 : Cal l.prog w K mg base 4 "clocks_apart" (spP K 1 false f_clocks_apart) := ⟨_, _, _, ok_clocks_apart F7 T C4 C5 C6, PySem.W.mg_of X G a7, F7.kp, B7⟩
  have C8 : Cal l.prog w K mg base 3 "look_at_bounds" (spP K 2 false f_look_at_bounds) := ⟨_, _, _, ok_look_at_bounds F8 T C2 C3, PySem.W.mg_of X G a8, F8.kp, B8⟩
  have C9 : Cal l.prog w K mg base 1 "told_clocks" (spP K 2 false f_told_clocks) := ⟨_, _, _, ok_told_clocks F9 T , PySem.W.mg_of X G a9, F9.kp, B9⟩
  have C10 : Cal l.prog w K mg base 4 "clocks_for" (spP K 2 false f_clocks_for) := ⟨_, _, _, ok_clocks_for F10 T C8 C9, PySem.W.mg_of X G a10, F10.kp, B10⟩
  have C11 : Cal l.prog w K mg base 1 "is_told" (spP K 2 false f_is_told) := ⟨_, _, _, ok_is_told F11 T , PySem.W.mg_of X G a11, F11.kp, B11⟩
  have C12 : Cal l.prog w K mg base 4 "shows_clocks_for" (spP K 3 false f_shows_clocks_for) := ⟨_, _, _, ok_shows_clocks_for F12 T C8 C11 C3, PySem.W.mg_of X G a12, F12.kp, B12⟩
  have C13 : Cal l.prog w K mg base 5 "_law_are_letters_right" (spP K 1 false f__law_are_letters_right) := ⟨_, _, _, ok__law_are_letters_right F13 T C7 C10 C12, PySem.W.mg_of X G a13, F13.kp, B13⟩
  have C14 : Cal l.prog w K mg base 1 "_law_take" (spI K 2 false f__law_take) := ⟨_, _, _, ok__law_take F14 T , PySem.W.mg_of X G a14, F14.kp, B14⟩
  have C15 : Cal l.prog w K mg base 2 "_law_of" (spI K 2 false f__law_of) := ⟨_, _, _, ok__law_of F15 T C14, PySem.W.mg_of X G a15, F15.kp, B15⟩
  have C16 : Cal l.prog w K mg base 3 "_law_letters_drawn" (spI K 1 false f__law_letters_drawn) := ⟨_, _, _, ok__law_letters_drawn F16 T C15 C14, PySem.W.mg_of X G a16, F16.kp, B16⟩
  have C17 : Cal l.prog w K mg base 3 "look_at_spans" (spP K 1 false f_look_at_spans) := ⟨_, _, _, ok_look_at_spans F17 T C3, PySem.W.mg_of X G a17, F17.kp, B17⟩
  have C18 : Cal l.prog w K mg base 4 "most_agree" (spP K 1 false f_most_agree) := ⟨_, _, _, ok_most_agree F18 T C17, PySem.W.mg_of X G a18, F18.kp, B18⟩
  have C19 : Cal l.prog w K mg base 1 "told_points" (spP K 1 false f_told_points) := ⟨_, _, _, ok_told_points F19 T , PySem.W.mg_of X G a19, F19.kp, B19⟩
  have C20 : Cal l.prog w K mg base 4 "fewest_numbers" (spP K 1 false f_fewest_numbers) := ⟨_, _, _, ok_fewest_numbers F20 T C17 C19, PySem.W.mg_of X G a20, F20.kp, B20⟩
  have C21 : Cal l.prog w K mg base 5 "_law_are_spans_right" (spI K 1 false f__law_are_spans_right) := ⟨_, _, _, ok__law_are_spans_right F21 T C14 C18 C20, PySem.W.mg_of X G a21, F21.kp, B21⟩
  have C22 : Cal l.prog w K mg base 2 "_law_some" (spI K 3 false f__law_some) := ⟨_, _, _, ok__law_some F22 T C14, PySem.W.mg_of X G a22, F22.kp, B22⟩
  have C23 : Cal l.prog w K mg base 5 "_law_are_bounds_right" (spI K 1 false f__law_are_bounds_right) := ⟨_, _, _, ok__law_are_bounds_right F23 T C14 C10 C12 C22, PySem.W.mg_of X G a23, F23.kp, B23⟩
  have C24 : Cal l.prog w K mg base 6 "_law_right" (spI K 1 false f__law_right) := ⟨_, _, _, ok__law_right F24 T C13 C16 C21 C23, PySem.W.mg_of X G a24, F24.kp, B24⟩
  have C25 : Cal l.prog w K mg base 1 "_law_pot" (spP K 2 true f__law_pot) := ⟨_, _, _, ok__law_pot F25 T , PySem.W.mg_of X G a25, F25.kp, B25⟩
  exact ok_law F26 T C1 C24 C25
theorem law_sp {K : PySem.W.Frag} {H : Hp} {a : Addr} {ns : List Int} {E : XK} (hS : SqL K H a (ns.map V.int)) (hl : ns.length ≤ 63) (h : f_law [.list (ns.map .int)] = some (.bool true)) : spP K 1 false f_law [.ref a] H (fun v _ => v = .bl true) E :=
  ⟨H, [.list (ns.map .int)], .bool true, rfl, Same.refl _, .cons (.lst hS (by rw [List.length_map]; exact Nat.le_trans hl (by decide)) IsAll.of_ints) .nil, h, fun v G' H' _ _ _ _ r => by cases (show Is K G' v (.bool true) from r); rfl⟩

end Wk
open PySem PySem.W PyProof.Rows
set_option maxHeartbeats 0 in
theorem PySem.Challenge.cw_holesheldopen_k77_whole_clocks_by_bounds_holds : PySem.Challenge.rw_holesheldopen_k77_whole_clocks_by_bounds.Holds := by
  w_on; o_law; k_head; (case hw => w_witness2)
  k_fill
  refine L2.walk_ofB (l := PySem.Challenge.rw_holesheldopen_k77_whole_clocks_by_bounds) (n := 63) (k := 7) (x := "script") (CX := fun _ => L2.CX0) (sp := fun w => L3.spP _ 1 false Wk.f_law) rfl (by decide) rfl ⟨rfl, by decide, by decide⟩ (fun w h Y => PySem.W.kIn_of Y) ?F (fun _ _ a ns hl hb _ hS => Wk.law_sp hS hl (Wk.law_plain hl hb)) (fun _ _ _ _ _ h => h)
  case F =>
    intro w mg fa h KX G hmg
    refine' Wk.all_mk KX G hmg ?a1 ?l1 ?c1 ?k1 ?a2 ?l2 ?c2 ?k2 ?a3 ?l3 ?c3 ?k3 ?a4 ?l4 ?c4 ?k4 ?a5 ?l5 ?c5 ?k5 ?a6 ?l6 ?c6 ?k6 ?a7 ?l7 ?c7 ?k7 ?a8 ?l8 ?c8 ?k8 ?a9 ?l9 ?c9 ?k9 ?a10 ?l10 ?c10 ?k10 ?a11 ?l11 ?c11 ?k11 ?a12 ?l12 ?c12 ?k12 ?a13 ?l13 ?c13 ?k13 ?a14 ?l14 ?c14 ?k14 ?a15 ?l15 ?c15 ?k15 ?a16 ?l16 ?c16 ?k16 ?a17 ?l17 ?c17 ?k17 ?a18 ?l18 ?c18 ?k18 ?a19 ?l19 ?c19 ?k19 ?a20 ?l20 ?c20 ?k20 ?a21 ?l21 ?c21 ?k21 ?a22 ?l22 ?c22 ?k22 ?a23 ?l23 ?c23 ?k23 ?a24 ?l24 ?c24 ?k24 ?a25 ?l25 ?c25 ?k25 ?a26 ?l26 ?c26 ?k26 ?z1 ?z2 ?z3 ?z4 ?z5 ?z6 ?z7 ?z8 ?z9 ?z10 ?z11 ?z12 ?z13 ?z14 ?z15 ?z16 ?z17 ?z18 ?v1 ?v2 ?v3 ?v4 ?v5 ?v6 ?v7 ?v8
    (case a1 => k_is); (case l1 => k_is); (case c1 => k_is); (case k1 => k_is); (case a2 => k_is); (case l2 => k_is); (case c2 => k_is); (case k2 => k_is); (case a3 => k_is); (case l3 => k_is); (case c3 => k_is); (case k3 => k_is); (case a4 => k_is); (case l4 => k_is); (case c4 => k_is); (case k4 => k_is); (case a5 => k_is); (case l5 => k_is); (case c5 => k_is); (case k5 => k_is); (case a6 => k_is); (case l6 => k_is); (case c6 => k_is); (case k6 => k_is); (case a7 => k_is); (case l7 => k_is); (case c7 => k_is); (case k7 => k_is); (case a8 => k_is); (case l8 => k_is); (case c8 => k_is); (case k8 => k_is); (case a9 => k_is); (case l9 => k_is); (case c9 => k_is); (case k9 => k_is); (case a10 => k_is); (case l10 => k_is); (case c10 => k_is); (case k10 => k_is); (case a11 => k_is); (case l11 => k_is); (case c11 => k_is); (case k11 => k_is); (case a12 => k_is); (case l12 => k_is); (case c12 => k_is); (case k12 => k_is); (case a13 => k_is); (case l13 => k_is); (case c13 => k_is); (case k13 => k_is); (case a14 => k_is); (case l14 => k_is); (case c14 => k_is); (case k14 => k_is); (case a15 => k_is); (case l15 => k_is); (case c15 => k_is); (case k15 => k_is); (case a16 => k_is); (case l16 => k_is); (case c16 => k_is); (case k16 => k_is); (case a17 => k_is); (case l17 => k_is); (case c17 => k_is); (case k17 => k_is); (case a18 => k_is); (case l18 => k_is); (case c18 => k_is); (case k18 => k_is); (case a19 => k_is); (case l19 => k_is); (case c19 => k_is); (case k19 => k_is); (case a20 => k_is); (case l20 => k_is); (case c20 => k_is); (case k20 => k_is); (case a21 => k_is); (case l21 => k_is); (case c21 => k_is); (case k21 => k_is); (case a22 => k_is); (case l22 => k_is); (case c22 => k_is); (case k22 => k_is); (case a23 => k_is); (case l23 => k_is); (case c23 => k_is); (case k23 => k_is); (case a24 => k_is); (case l24 => k_is); (case c24 => k_is); (case k24 => k_is); (case a25 => k_is); (case l25 => k_is); (case c25 => k_is); (case k25 => k_is); (case a26 => k_is); (case l26 => k_is); (case c26 => k_is); (case k26 => k_is); (case z1 => k_is); (case z2 => k_is); (case z3 => k_is); (case z4 => k_is); (case z5 => k_is); (case z6 => k_is); (case z7 => k_is); (case z8 => k_is); (case z9 => k_is); (case z10 => k_is); (case z11 => k_is); (case z12 => k_is); (case z13 => k_is); (case z14 => k_is); (case z15 => k_is); (case z16 => k_is); (case z17 => k_is); (case z18 => k_is); (case v1 => k_is); (case v2 => k_is); (case v3 => k_is); (case v4 => k_is); (case v5 => k_is); (case v6 => k_is); (case v7 => k_is); (case v8 => k_is)
