import PyProof.Rows.All
import HandS.ForMost
import HandS.Wide
import HandS.WideBits
import HandS.Style
import HandS.Flow
import HandS.IsInst
import HandS.Deep
import HandS.TupLe
import HandS.Sort
import HandS.SortRule
import HandS.SortInts
import HandS.RaiseMore
import PySem.Challenge.RW_lonehall_k13_whole_golden_numbers_exactl
set_option Elab.async false
set_option linter.all false
set_option maxRecDepth 100000
set_option maxHeartbeats 4000000
namespace DL
open PySem PySem.Spec PyProof.Rows L2
/-! Data layer: names hold pure data; objects are hidden. -/

abbrev Dat := PyData
abbrev Fg := PySem.W.Frag
def keyD : Key → Dat
  | .inl i => .int i
  | .inr x => .str x
/-! ### a value stands for data -/
mutual
inductive Rp (K : Fg) (H : Hp) : V → Dat → Prop
  | non : Rp K H .non .none
  | bl (b : Bool) : Rp K H (.bl b) (.bool b)
  | int (i : Int) : Rp K H (.int i) (.int i)
  | str (x : Str) : Rp K H (.str x) (.str x)
  | lst {a : Addr} {xs : List V} {ds : List Dat} : SqL K H a xs → Rps K H xs ds → Rp K H (.ref a) (.list ds)
  | tup {a : Addr} {xs : List V} {ds : List Dat} : SqT K H a xs → Rps K H xs ds → Rp K H (.ref a) (.tuple ds)
  | dik {a : Addr} {ks : List (Key × V)} {es : List (Dat × Dat)} : Rd H a (.dK ks) → RpK K H ks es → Rp K H (.ref a) (.dict es)
  | dit {a : Addr} {ks : List (List Key × V)} {es : List (Dat × Dat)} : Rd H a (.dT ks) → RpT K H ks es → Rp K H (.ref a) (.dict es)
inductive Rps (K : Fg) (H : Hp) : List V → List Dat → Prop
  | nil : Rps K H [] []
  | cons {v : V} {vs : List V} {d : Dat} {ds : List Dat} : Rp K H v d → Rps K H vs ds → Rps K H (v :: vs) (d :: ds)
inductive RpK (K : Fg) (H : Hp) : List (Key × V) → List (Dat × Dat) → Prop
  | nil : RpK K H [] []
  | cons {k : Key} {v : V} {d : Dat} {ks : List (Key × V)} {es : List (Dat × Dat)} : Rp K H v d → RpK K H ks es → RpK K H ((k, v) :: ks) ((keyD k, d) :: es)
inductive RpT (K : Fg) (H : Hp) : List (List Key × V) → List (Dat × Dat) → Prop
  | nil : RpT K H [] []
  | cons {k : List Key} {v : V} {d : Dat} {ks : List (List Key × V)} {es : List (Dat × Dat)} : Rp K H v d → RpT K H ks es → RpT K H ((k, v) :: ks) ((.tuple (k.map keyD), d) :: es)
end
/-! ### one heap within another: a thing may be locked meanwhile -/
def Sub (H H' : Hp) : Prop := ∀ p o, H p = some o → H' p = some o ∨ (Mut (some o) ∧ ∃ b, H' p = some (.frz b o))
theorem Sub.refl (H : Hp) : Sub H H := fun _ _ h => .inl h
theorem Sub.of {H H' : Hp} (h : Same H H') : Sub H H' := fun p o e => .inl (h p o e)
theorem Sub.trans {H H1 H2 : Hp} (a : Sub H H1) (b : Sub H1 H2) : Sub H H2 := fun p o e => by
  rcases a p o e with h | ⟨m, c, h⟩
  · exact b p o h
  · rcases b p _ h with h' | ⟨m', _⟩
    · exact .inr ⟨m, c, h'⟩
    · exact absurd m' (fun z => z)
theorem Sub.rd {H H' : Hp} (s : Sub H H') {a : Addr} {u : HO} (h : Rd H a u) : Rd H' a u := by
  rcases h with h | ⟨o, h⟩
  · rcases s a u h with h' | ⟨_, c, h'⟩
    · exact .inl h'
    · exact .inr ⟨c, h'⟩
  · rcases s a _ h with h' | ⟨m, _⟩
    · exact .inr ⟨o, h'⟩
    · exact absurd m (fun z => z)
theorem Sub.free {H H' : Hp} (s : Sub H H') {a : Addr} (h : H' a = none) : H a = none := by
  cases q : H a with
  | none => rfl
  | some o =>
    rcases s a o q with h' | ⟨_, c, h'⟩ <;> (rw [h] at h'; cases h')
theorem Sub.sql {K : Fg} {H H' : Hp} (s : Sub H H') {a : Addr} {xs : List V} (h : SqL K H a xs) : SqL K H' a xs := h.imp s.rd id
theorem Sub.sqt {K : Fg} {H H' : Hp} (s : Sub H H') {a : Addr} {xs : List V} (h : SqT K H a xs) : SqT K H' a xs := h.imp s.rd id
mutual
theorem Rp.mono {K : Fg} {H H' : Hp} (s : Sub H H') : ∀ {v : V} {d : Dat}, Rp K H v d → Rp K H' v d
  | _, _, .non => .non
  | _, _, .bl b => .bl b
  | _, _, .int i => .int i
  | _, _, .str x => .str x
  | _, _, .lst h r => .lst (s.sql h) (Rps.mono s r)
  | _, _, .tup h r => .tup (s.sqt h) (Rps.mono s r)
  | _, _, .dik h r => .dik (s.rd h) (RpK.mono s r)
  | _, _, .dit h r => .dit (s.rd h) (RpT.mono s r)
theorem Rps.mono {K : Fg} {H H' : Hp} (s : Sub H H') : ∀ {v : List V} {d : List Dat}, Rps K H v d → Rps K H' v d
  | _, _, .nil => .nil
  | _, _, .cons a b => .cons (Rp.mono s a) (Rps.mono s b)
theorem RpK.mono {K : Fg} {H H' : Hp} (s : Sub H H') : ∀ {v : List (Key × V)} {d : List (Dat × Dat)}, RpK K H v d → RpK K H' v d
  | _, _, .nil => .nil
  | _, _, .cons a b => .cons (Rp.mono s a) (RpK.mono s b)
theorem RpT.mono {K : Fg} {H H' : Hp} (s : Sub H H') : ∀ {v : List (List Key × V)} {d : List (Dat × Dat)}, RpT K H v d → RpT K H' v d
  | _, _, .nil => .nil
  | _, _, .cons a b => .cons (Rp.mono s a) (RpT.mono s b)
end
theorem Rps.length {K : Fg} {H : Hp} : ∀ {vs : List V} {ds : List Dat}, Rps K H vs ds → vs.length = ds.length
  | _, _, .nil => rfl
  | _, _, .cons _ r => congrArg (· + 1) r.length
theorem Rps.get {K : Fg} {H : Hp} : ∀ {vs : List V} {ds : List Dat} {i : Nat} {d : Dat}, Rps K H vs ds → ds[i]? = some d → ∃ v, vs[i]? = some v ∧ Rp K H v d
  | _, _, _, _, .nil, e => by simp at e
  | _, _, 0, _, .cons r _, e => by simp at e; subst e; exact ⟨_, rfl, r⟩
  | _, _, i + 1, d, .cons _ t, e => by
    obtain ⟨u, h1, h2⟩ := Rps.get (i := i) (d := d) t (by simpa using e)
    exact ⟨u, by simpa using h1, h2⟩
theorem Rps.append {K : Fg} {H : Hp} : ∀ {vs ws : List V} {ds es : List Dat}, Rps K H vs ds → Rps K H ws es → Rps K H (vs ++ ws) (ds ++ es)
  | _, _, _, _, .nil, s => s
  | _, _, _, _, .cons r t, s => .cons r (Rps.append t s)
theorem Rps.drop {K : Fg} {H : Hp} : ∀ {vs : List V} {ds : List Dat} (n : Nat), Rps K H vs ds → Rps K H (vs.drop n) (ds.drop n)
  | _, _, 0, r => r
  | _, _, _ + 1, .nil => .nil
  | _, _, n + 1, .cons _ t => Rps.drop n t
theorem Rps.take {K : Fg} {H : Hp} : ∀ {vs : List V} {ds : List Dat} (n : Nat), Rps K H vs ds → Rps K H (vs.take n) (ds.take n)
  | _, _, 0, _ => .nil
  | _, _, _ + 1, .nil => .nil
  | _, _, n + 1, .cons r t => .cons r (Rps.take n t)
theorem Rps.set {K : Fg} {H : Hp} {v : V} {d : Dat} (r : Rp K H v d) : ∀ {vs : List V} {ds : List Dat} (i : Nat), Rps K H vs ds → Rps K H (vs.set i v) (ds.set i d)
  | _, _, _, .nil => .nil
  | _, _, 0, .cons _ t => .cons r t
  | _, _, i + 1, .cons q t => .cons q (Rps.set r i t)
theorem Rps.erase {K : Fg} {H : Hp} : ∀ {vs : List V} {ds : List Dat} (i : Nat), Rps K H vs ds → Rps K H (vs.eraseIdx i) (ds.eraseIdx i)
  | _, _, _, .nil => .nil
  | _, _, 0, .cons _ t => t
  | _, _, i + 1, .cons q t => .cons q (Rps.erase i t)
theorem Rps.rev {K : Fg} {H : Hp} : ∀ {vs : List V} {ds : List Dat}, Rps K H vs ds → Rps K H vs.reverse ds.reverse
  | _, _, .nil => .nil
  | _, _, .cons a b => by rw [List.reverse_cons, List.reverse_cons]; exact (Rps.rev b).append (.cons a .nil)
theorem Rps.ints {K : Fg} {H : Hp} : ∀ ns : List Int, Rps K H (ns.map V.int) (ns.map .int)
  | [] => .nil
  | n :: ns => .cons (.int n) (Rps.ints ns)
theorem Rps.strs {K : Fg} {H : Hp} : ∀ ns : List Str, Rps K H (ns.map V.str) (ns.map .str)
  | [] => .nil
  | n :: ns => .cons (.str n) (Rps.strs ns)
theorem Rps.of_ints {K : Fg} {H : Hp} : ∀ {vs : List V} {ns : List Int}, Rps K H vs (ns.map .int) → vs = ns.map V.int
  | _, [], .nil => rfl
  | _, n :: ns, .cons r t => by cases r; rw [Rps.of_ints t]; rfl
theorem Rps.of_bools {K : Fg} {H : Hp} : ∀ {vs : List V} {ns : List Bool}, Rps K H vs (ns.map .bool) → vs = ns.map V.bl
  | _, [], .nil => rfl
  | _, n :: ns, .cons r t => by cases r; rw [Rps.of_bools t]; rfl
theorem Rps.of_strs {K : Fg} {H : Hp} : ∀ {vs : List V} {ns : List Str}, Rps K H vs (ns.map .str) → vs = ns.map V.str
  | _, [], .nil => rfl
  | _, n :: ns, .cons r t => by cases r; rw [Rps.of_strs t]; rfl
/-! ### names: what each holds -/
inductive Sl where
  | un
  | sh (d : Dat)
  | ol (ds : List Dat)
  | od (es : List (Dat × Dat))
  | io (p : Addr) (ds : List Dat)
abbrev Ev := List Sl
def own1 : Sl × Option V → List Addr
  | (.ol _, some (.ref p)) => [p]
  | (.od _, some (.ref p)) => [p]
  | (.io _ _, some (.ref p)) => [p]
  | _ => []
def SlR (K : Fg) (Hs H : Hp) : Sl → Option V → Prop
  | .un, _ => True
  | .sh d, o => ∃ v, o = some v ∧ Rp K Hs v d
  | .ol ds, o => ∃ p vs, o = some (.ref p) ∧ H p = some (.lst vs) ∧ Rps K Hs vs ds
  | .od es, o => ∃ p, o = some (.ref p) ∧ ((∃ ks, H p = some (.dK ks) ∧ RpK K Hs ks es) ∨ ∃ ks, H p = some (.dT ks) ∧ RpT K Hs ks es)
  | .io p ds, o => ∃ vs, o = some (.ref p) ∧ H p = some (.lst vs) ∧ Rps K Hs vs ds
theorem SlR.mono {K : Fg} {Hs Hs' H H' : Hp} {s : Sl} {o : Option V} (a : Sub Hs Hs') (b : ∀ p ∈ own1 (s, o), ∀ u, H p = some u → H' p = some u) (h : SlR K Hs H s o) : SlR K Hs' H' s o := by
  cases s with
  | un => trivial
  | sh d => obtain ⟨v, e, r⟩ := h; exact ⟨v, e, r.mono a⟩
  | ol ds =>
    obtain ⟨p, vs, e, hp, r⟩ := h
    subst e
    exact ⟨p, vs, rfl, b p (by simp [own1]) _ hp, r.mono a⟩
  | od es =>
    obtain ⟨p, e, h⟩ := h
    subst e
    refine ⟨p, rfl, ?_⟩
    rcases h with ⟨ks, hp, r⟩ | ⟨ks, hp, r⟩
    · exact .inl ⟨ks, b p (by simp [own1]) _ hp, r.mono a⟩
    · exact .inr ⟨ks, b p (by simp [own1]) _ hp, r.mono a⟩
  | io p ds =>
    obtain ⟨vs, e, hp, r⟩ := h
    subst e
    exact ⟨vs, rfl, b p (by simp [own1]) _ hp, r.mono a⟩
theorem SlR.there {K : Fg} {Hs H : Hp} {s : Sl} {o : Option V} (h : SlR K Hs H s o) : ∀ p ∈ own1 (s, o), ∃ u, H p = some u ∧ Mut (some u) := by
  intro p hp
  cases s with
  | un => simp [own1] at hp
  | sh d => simp [own1] at hp
  | ol ds =>
    obtain ⟨q, vs, e, hq, r⟩ := h
    subst e
    have e : p = q := by simpa [own1] using hp
    subst e
    exact ⟨_, hq, trivial⟩
  | od es =>
    obtain ⟨q, e, h⟩ := h
    subst e
    have e : p = q := by simpa [own1] using hp
    subst e
    rcases h with ⟨ks, hq, r⟩ | ⟨ks, hq, r⟩
    · exact ⟨_, hq, trivial⟩
    · exact ⟨_, hq, trivial⟩
  | io q ds =>
    obtain ⟨vs, e, hq, r⟩ := h
    subst e
    have e : p = q := by simpa [own1] using hp
    subst e
    exact ⟨_, hq, trivial⟩
/-- the state: Hs what stays for ever, Fr what is another's, l the names -/
structure RS (K : Fg) (Fr Hs H : Hp) (l : List (Sl × Option V)) : Prop where
  hs : Sub Hs H
  fr : Same Fr H
  dj : ∀ p o, Fr p = some o → Hs p = none ∨ ∃ b u, o = .frz b u ∧ Hs p = some u
  sl : ∀ x ∈ l, SlR K Hs H x.1 x.2
  nd : (l.flatMap own1).Nodup
  ow : ∀ p ∈ l.flatMap own1, Hs p = none ∧ Fr p = none
/-- from one state to a later one in which nothing of ours was written -/
structure Nx (Hs H Hs' H' : Hp) : Prop where
  ss : Same Hs Hs'
  hh : Same H H'
  sb : Sub Hs' H'
  fresh : ∀ p o, Hs' p = some o → Hs p = none → H p = none
theorem Nx.refl {Hs H : Hp} (s : Sub Hs H) : Nx Hs H Hs H := ⟨.refl _, .refl _, s, fun _ _ a b => by rw [a] at b; cases b⟩
theorem Nx.trans {Hs H Hs1 H1 Hs2 H2 : Hp} (a : Nx Hs H Hs1 H1) (b : Nx Hs1 H1 Hs2 H2) : Nx Hs H Hs2 H2 := by
  refine ⟨a.ss.trans b.ss, a.hh.trans b.hh, b.sb, fun p o e n => ?_⟩
  cases q : Hs1 p with
  | none => exact a.hh.free (b.fresh p o e q)
  | some u => exact a.fresh p u q n
section
variable {K : Fg} {Fr Hs H Hs' H' : Hp} {l m : List (Sl × Option V)}
theorem RS.there (R : RS K Fr Hs H l) {p : Addr} (h : p ∈ l.flatMap own1) : ∃ u, H p = some u ∧ Mut (some u) := by
  obtain ⟨x, hx, hp⟩ := List.mem_flatMap.mp h
  exact (R.sl x hx).there p hp
theorem RS.nx (R : RS K Fr Hs H l) (n : Nx Hs H Hs' H') : RS K Fr Hs' H' l where
  hs := n.sb
  fr := R.fr.trans n.hh
  dj := fun p o e => by
    rcases R.dj p o e with h | ⟨b, u, e1, e2⟩
    · cases q : Hs' p with
      | none => exact .inl rfl
      | some u =>
        have := n.fresh p u q h
        rw [R.fr p o e] at this
        cases this
    · exact .inr ⟨b, u, e1, n.ss _ _ e2⟩
  sl := fun x hx => (R.sl x hx).mono (.of n.ss) fun p _ u e => n.hh p u e
  nd := R.nd
  ow := fun p hp => by
    obtain ⟨h1, h2⟩ := R.ow p hp
    refine ⟨?_, h2⟩
    cases q : Hs' p with
    | none => rfl
    | some u =>
      have := n.fresh p u q h1
      obtain ⟨v, e, _⟩ := R.there hp
      rw [e] at this
      cases this
theorem RS.sub (R : RS K Fr Hs H l) (hm : ∀ x ∈ m, x ∈ l) (hn : (m.flatMap own1).Nodup) : RS K Fr Hs H m :=
  ⟨R.hs, R.fr, R.dj, fun x hx => R.sl x (hm x hx), hn, fun p hp => by
    obtain ⟨x, hx, e⟩ := List.mem_flatMap.mp hp
    exact R.ow p (List.mem_flatMap.mpr ⟨x, hm x hx, e⟩)⟩
theorem RS.tail {x : Sl × Option V} (R : RS K Fr Hs H (x :: l)) : RS K Fr Hs H l :=
  R.sub (fun y hy => List.mem_cons_of_mem _ hy) (by
    have := R.nd
    rw [List.flatMap_cons] at this
    exact (List.nodup_append.mp this).2.1)
theorem RS.head {x : Sl × Option V} (R : RS K Fr Hs H (x :: l)) : SlR K Hs H x.1 x.2 := R.sl _ List.mem_cons_self
/-- one more, that owns nothing -/
theorem RS.add {x : Sl × Option V} (R : RS K Fr Hs H l) (h : SlR K Hs H x.1 x.2) (ho : own1 x = []) : RS K Fr Hs H (x :: l) := by
  refine ⟨R.hs, R.fr, R.dj, fun y hy => ?_, ?_, ?_⟩
  · rcases List.mem_cons.mp hy with e | hy
    · rw [e]; exact h
    · exact R.sl y hy
  · rw [List.flatMap_cons, ho]; exact R.nd
  · rw [List.flatMap_cons, ho]; exact R.ow
/-- one more, new in H -/
theorem RS.new {x : Sl × Option V} (R : RS K Fr Hs H l) (n : Nx Hs H Hs' H') (h : SlR K Hs' H' x.1 x.2) (hn : ∀ p ∈ own1 x, Hs' p = none ∧ H p = none) (hd : (own1 x).Nodup) : RS K Fr Hs' H' (x :: l) := by
  have R' := R.nx n
  refine ⟨R'.hs, R'.fr, R'.dj, fun y hy => ?_, ?_, ?_⟩
  · rcases List.mem_cons.mp hy with e | hy
    · rw [e]; exact h
    · exact R'.sl y hy
  · rw [List.flatMap_cons]
    refine List.nodup_append.mpr ⟨hd, R'.nd, fun p hp q hq e => ?_⟩
    subst e
    obtain ⟨u, e, _⟩ := R.there hq
    rw [(hn p hp).2] at e
    cases e
  · rw [List.flatMap_cons]
    intro p hp
    rcases List.mem_append.mp hp with hp | hp
    · exact ⟨(hn p hp).1, R.fr.free (hn p hp).2⟩
    · exact R'.ow p hp
end
theorem own1_nodup (x : Sl × Option V) : (own1 x).Nodup := by
  obtain ⟨s, o⟩ := x
  cases s <;> cases o with
  | none => simp [own1]
  | some v => cases v <;> simp [own1]

abbrev St := List (Option V)
/-! ### moving a name to the front and back -/
theorem flat_set {l : List (Sl × Option V)} {i : Nat} (hi : i < l.length) (x : Sl × Option V) :
    ((l.set i x).flatMap own1).Perm (own1 x ++ ((l.set i (.un, none)).flatMap own1)) := by
  rw [List.set_eq_take_append_cons_drop, List.set_eq_take_append_cons_drop, if_pos hi, if_pos hi]
  rw [List.flatMap_append, List.flatMap_append, List.flatMap_cons, List.flatMap_cons]
  have e : own1 (Sl.un, none) = [] := rfl
  rw [e, List.nil_append]
  exact List.perm_append_comm_assoc _ _ _
section
variable {K : Fg} {Fr Hs H Hs' H' : Hp} {l m : List (Sl × Option V)} {i : Nat} {x y : Sl × Option V}
theorem mem_set_un {z : Sl × Option V} (h : z ∈ l.set i (.un, none)) : z ∈ l ∨ z = (.un, none) := by
  rcases List.mem_or_eq_of_mem_set h with h | h
  · exact .inl h
  · exact .inr h
theorem RS.focus (R : RS K Fr Hs H l) (h : l[i]? = some y) : RS K Fr Hs H (y :: l.set i (.un, none)) := by
  obtain ⟨hi, e⟩ := List.getElem?_eq_some_iff.mp h
  have el : l.set i y = l := by rw [← e, List.set_getElem_self]
  have p : (l.flatMap own1).Perm ((y :: l.set i (.un, none)).flatMap own1) := by
    have := flat_set hi y
    rw [el] at this
    exact this
  refine ⟨R.hs, R.fr, R.dj, fun z hz => ?_, p.nodup_iff.mp R.nd, fun q hq => R.ow q (p.mem_iff.mpr hq)⟩
  rcases List.mem_cons.mp hz with e' | hz
  · rw [e']; exact R.sl y (List.mem_of_getElem? h)
  · rcases mem_set_un hz with hz | hz
    · exact R.sl z hz
    · rw [hz]; trivial
theorem RS.unfocus (R : RS K Fr Hs H (x :: l.set i (.un, none))) (hi : i < l.length) : RS K Fr Hs H (l.set i x) := by
  have p : ((l.set i x).flatMap own1).Perm ((x :: l.set i (.un, none)).flatMap own1) := flat_set hi x
  refine ⟨R.hs, R.fr, R.dj, fun z hz => ?_, p.nodup_iff.mpr R.nd, fun q hq => R.ow q (p.mem_iff.mp hq)⟩
  obtain ⟨j, hj, e⟩ := List.mem_iff_getElem.mp hz
  rw [List.length_set] at hj
  rw [List.getElem_set] at e
  split at e
  · rw [← e]; exact R.sl x List.mem_cons_self
  · rename_i hn
    have : z ∈ l.set i (.un, none) := by
      refine List.mem_iff_getElem.mpr ⟨j, by rw [List.length_set]; exact hj, ?_⟩
      rw [List.getElem_set, if_neg hn]
      exact e
    exact R.sl z (List.mem_cons_of_mem _ this)
theorem zip_get {ρ : Ev} {σ : St} {s : Sl} (hl : ρ.length = σ.length) (h : ρ[i]? = some s) : ∃ o, σ[i]? = some o ∧ (ρ.zip σ)[i]? = some (s, o) := by
  obtain ⟨hi, e⟩ := List.getElem?_eq_some_iff.mp h
  refine ⟨σ[i]'(by omega), by simp, ?_⟩
  rw [List.getElem?_eq_some_iff]
  exact ⟨by rw [List.length_zip]; omega, by rw [List.getElem_zip, e]⟩
theorem zip_set (ρ : Ev) (σ : St) (i : Nat) (s : Sl) (o : Option V) : (ρ.zip σ).set i (s, o) = (ρ.set i s).zip (σ.set i o) := by
  induction ρ generalizing σ i with
  | nil => cases i <;> simp
  | cons a r ih =>
    cases σ with
    | nil => cases i <;> simp
    | cons b t =>
      cases i with
      | zero => simp
      | succ i => simp [ih]
theorem set_self {σ : St} {o : Option V} (h : σ[i]? = some o) : σ.set i o = σ := by
  obtain ⟨hi, e⟩ := List.getElem?_eq_some_iff.mp h
  rw [← e, List.set_getElem_self]
theorem zip_set_l {ρ : Ev} {σ : St} {s : Sl} {o : Option V} (h : σ[i]? = some o) : (ρ.zip σ).set i (s, o) = (ρ.set i s).zip σ := by
  rw [zip_set, set_self h]
end
/-! ### freezing -/
def fz (s : Sl) (k : Dat → Prop) : Prop :=
  match s with
  | .sh d => k d
  | .ol ds => k (.list ds)
  | .od es => k (.dict es)
  | _ => False
section
variable {K : Fg} {Fr Hs H Hs' H' : Hp} {l m : List (Sl × Option V)} {v : V}
theorem RS.frzP {s : Sl} {p : Addr} {o : HO} {x : Sl × Option V} (R : RS K Fr Hs H ((s, some (.ref p)) :: l)) (ho : own1 (s, some (.ref p)) = [p]) (hp : H p = some o) (hx : own1 x = [])
    (hr : Same Hs (upd Hs p o) → SlR K (upd Hs p o) H x.1 x.2) : Same Hs (upd Hs p o) ∧ RS K Fr (upd Hs p o) H (x :: l) := by
  have hw := R.ow p (by rw [List.flatMap_cons, ho]; exact List.mem_cons_self)
  have ss : Same Hs (upd Hs p o) := fun b u e => by rw [upd_ne (ne_of_none e hw.1)]; exact e
  have nd := R.nd
  rw [List.flatMap_cons, ho] at nd
  have np : p ∉ l.flatMap own1 := (List.nodup_cons.mp nd).1
  refine ⟨ss, ⟨fun b u e => ?_, R.fr, fun b u e => ?_, fun z hz => ?_, ?_, ?_⟩⟩
  · by_cases hb : b = p
    · subst hb; rw [upd_same] at e; cases e; exact .inl hp
    · rw [upd_ne hb] at e; exact R.hs b u e
  · have hb : b ≠ p := fun z => by rw [z, hw.2] at e; cases e
    rw [upd_ne hb]
    exact R.dj b u e
  · rcases List.mem_cons.mp hz with e | hz
    · rw [e]; exact hr ss
    · exact (R.sl z (List.mem_cons_of_mem _ hz)).mono (.of ss) fun _ _ _ e => e
  · rw [List.flatMap_cons, hx]; exact (List.nodup_cons.mp nd).2
  · rw [List.flatMap_cons, hx]
    intro q hq
    have hq' : q ≠ p := fun z => np (z ▸ hq)
    obtain ⟨h1, h2⟩ := R.ow q (by rw [List.flatMap_cons]; exact List.mem_append_right _ hq)
    exact ⟨by rw [upd_ne hq']; exact h1, h2⟩
theorem RS.frz {s : Sl} {o : Option V} {k : Dat → Prop} (R : RS K Fr Hs H ((s, o) :: l)) (h : fz s k) : ∃ d Hs', k d ∧ Same Hs Hs' ∧ RS K Fr Hs' H ((.sh d, o) :: l) := by
  cases s with
  | un => exact h.elim
  | io p ds => exact h.elim
  | sh d => exact ⟨d, Hs, h, .refl _, R⟩
  | ol ds =>
    obtain ⟨p, vs, e, hp, r⟩ := R.head
    obtain rfl : o = some (V.ref p) := e
    obtain ⟨a, b⟩ := R.frzP (x := (.sh (.list ds), some (.ref p))) rfl hp rfl fun ss => ⟨_, rfl, .lst (.inl (.inl upd_same)) (r.mono (.of ss))⟩
    exact ⟨_, _, h, a, b⟩
  | od es =>
    obtain ⟨p, e, q⟩ := R.head
    obtain rfl : o = some (V.ref p) := e
    rcases q with ⟨ks, hp, r⟩ | ⟨ks, hp, r⟩
    · obtain ⟨a, b⟩ := R.frzP (x := (.sh (.dict es), some (.ref p))) rfl hp rfl fun ss => ⟨_, rfl, .dik (.inl upd_same) (r.mono (.of ss))⟩
      exact ⟨_, _, h, a, b⟩
    · obtain ⟨a, b⟩ := R.frzP (x := (.sh (.dict es), some (.ref p))) rfl hp rfl fun ss => ⟨_, rfl, .dit (.inl upd_same) (r.mono (.of ss))⟩
      exact ⟨_, _, h, a, b⟩
end
/-! ### judgements -/
abbrev TD := Ev → (Sl → Ev → Prop) → Prop
inductive Lt where
  | c (d : Dat)
  | s (i : Nat)
def Lt.get (ρ : Ev) : Lt → Option Dat
  | .c d => some d
  | .s i => match ρ[i]? with
    | some (.sh d) => some d
    | some (.ol ds) => some (.list ds)
    | some (.od es) => some (.dict es)
    | some (.io _ ds) => some (.list ds)
    | _ => none
abbrev TOD := Ev → (Lt → Ev → Prop) → Prop
abbrev TAD := Ev → (List Lt → Ev → Prop) → Prop
abbrev TTD := Ev → (Bool → Ev → Prop) → Prop
def LR (K : Fg) (Hs : Hp) (σ : St) : Lt → V → Prop
  | .c d, v => Rp K Hs v d
  | .s i, v => σ[i]? = some (some v)
theorem LR.mono {K : Fg} {Hs Hs' : Hp} {σ : St} {l : Lt} {v : V} (s : Same Hs Hs') (h : LR K Hs σ l v) : LR K Hs' σ l v := by
  cases l with
  | c d => exact Rp.mono (.of s) h
  | s i => exact h
abbrev LRs (K : Fg) (Hs : Hp) (σ : St) : List Lt → List V → Prop := Paired (LR K Hs σ)
theorem LRs.mono {K : Fg} {Hs Hs' : Hp} {σ : St} {l : List Lt} {v : List V} (s : Same Hs Hs') (h : LRs K Hs σ l v) : LRs K Hs' σ l v := Paired.mapP h fun _ _ r => r.mono s
/-- at the point of an expression -/
structure At (K : Fg) (Fr Hs : Hp) (ρ : Ev) (σ : St) (H : Hp) : Prop where
  len : ρ.length = σ.length
  rs : RS K Fr Hs H (ρ.zip σ)
def lE (K : Fg) (t : TD) : TE := fun σ H Q => ∃ (Fr Hs : Hp) (ρ : Ev) (QD : Sl → Ev → Prop), At K Fr Hs ρ σ H ∧ t ρ QD ∧
  ∀ s ρ' Hs' H' v, QD s ρ' → ρ'.length = σ.length → Same Hs Hs' → RS K Fr Hs' H' ((s, some v) :: ρ'.zip σ) → Q v H'
def lO (K : Fg) (t : TOD) : TE := fun σ H Q => ∃ (Fr Hs : Hp) (ρ : Ev) (QD : Lt → Ev → Prop), At K Fr Hs ρ σ H ∧ t ρ QD ∧
  ∀ l ρ' Hs' H' v, QD l ρ' → Same Hs Hs' → At K Fr Hs' ρ' σ H' → LR K Hs' σ l v → Q v H'
def lA (K : Fg) (t : TAD) : TA := fun σ H Q => ∃ (Fr Hs : Hp) (ρ : Ev) (QD : List Lt → Ev → Prop), At K Fr Hs ρ σ H ∧ t ρ QD ∧
  ∀ l ρ' Hs' H' vs, QD l ρ' → Same Hs Hs' → At K Fr Hs' ρ' σ H' → LRs K Hs' σ l vs → Q vs H'
def lT (K : Fg) (t : TTD) : TT := fun σ H Q => ∃ (Fr Hs : Hp) (ρ : Ev) (QD : Bool → Ev → Prop), At K Fr Hs ρ σ H ∧ t ρ QD ∧
  ∀ b ρ' Hs' H', QD b ρ' → Same Hs Hs' → At K Fr Hs' ρ' σ H' → Q b H'
structure DE (X : Cx) (e : Expr) (t : TD) : Prop where
  pe : PE X e (lE X.K t)
structure DO (X : Cx) (e : Expr) (t : TOD) : Prop where
  pe : PE X e (lO X.K t)
structure DAs (X : Cx) (es : List Expr) (t : TAD) : Prop where
  pa : PA X es (lA X.K t)
structure DT (X : Cx) (e : Expr) (t : TTD) : Prop where
  pt : PT X e (lT X.K t)
structure DW (X : Cx) (e : Expr) (t : TTD) : Prop where
  pw : PW X e (lT X.K t)
section
variable {X : Cx} {e : Expr}
theorem pe_imp {t t' : TE} (h : PE X e t) (f : ∀ σ H Q, t' σ H Q → t σ H Q) : PE X e t' := ⟨fun pins s σ H Q I q => h.run pins s σ H Q I (f σ H Q q)⟩
theorem pt_imp {t t' : TT} (h : PT X e t) (f : ∀ σ H Q, t' σ H Q → t σ H Q) : PT X e t' := ⟨fun pins s σ H Q I q => h.run pins s σ H Q I (f σ H Q q)⟩
theorem pw_imp {t t' : TT} (h : PW X e t) (f : ∀ σ H Q, t' σ H Q → t σ H Q) : PW X e t' := ⟨fun wh pins s σ H Q I q => h.run wh pins s σ H Q I (f σ H Q q)⟩
theorem pa_imp {es : List Expr} {t t' : TA} (h : PA X es t) (f : ∀ σ H Q, t' σ H Q → t σ H Q) : PA X es t' := ⟨fun pos pins s σ H Q I q => h.run pos pins s σ H Q I (f σ H Q q)⟩
end
/-! ### what may be read -/
inductive Pk (K : Fg) (Hs H : Hp) : V → Dat → Prop
  | st {v : V} {d : Dat} : Rp K Hs v d → Pk K Hs H v d
  | ol {p : Addr} {vs : List V} {ds : List Dat} : H p = some (.lst vs) → Rps K Hs vs ds → Pk K Hs H (.ref p) (.list ds)
  | odk {p : Addr} {ks : List (Key × V)} {es : List (Dat × Dat)} : H p = some (.dK ks) → RpK K Hs ks es → Pk K Hs H (.ref p) (.dict es)
  | odt {p : Addr} {ks : List (List Key × V)} {es : List (Dat × Dat)} : H p = some (.dT ks) → RpT K Hs ks es → Pk K Hs H (.ref p) (.dict es)
abbrev Pks (K : Fg) (Hs H : Hp) : List V → List Dat → Prop := Paired (Pk K Hs H)
section
variable {K : Fg} {Fr Hs H : Hp}
theorem Pk.rp {v : V} {d : Dat} (s : Sub Hs H) (h : Pk K Hs H v d) : Rp K H v d := by
  cases h with
  | st r => exact r.mono s
  | ol h r => exact .lst (.inl (.inl h)) (r.mono s)
  | odk h r => exact .dik (.inl h) (r.mono s)
  | odt h r => exact .dit (.inl h) (r.mono s)
theorem Pk.int {v : V} {i : Int} (h : Pk K Hs H v (.int i)) : v = .int i := by cases h with | st r => cases r; rfl
theorem Pk.str {v : V} {x : Str} (h : Pk K Hs H v (.str x)) : v = .str x := by cases h with | st r => cases r; rfl
theorem Pk.bool {v : V} {b : Bool} (h : Pk K Hs H v (.bool b)) : v = .bl b := by cases h with | st r => cases r; rfl
theorem Pk.none {v : V} (h : Pk K Hs H v .none) : v = .non := by cases h with | st r => cases r; rfl
theorem Pk.list {v : V} {ds : List Dat} (s : Sub Hs H) (h : Pk K Hs H v (.list ds)) : ∃ a xs, v = .ref a ∧ SqL K H a xs ∧ Rps K Hs xs ds := by
  cases h with
  | st r => cases r with | lst h r => exact ⟨_, _, rfl, s.sql h, r⟩
  | ol h r => exact ⟨_, _, rfl, .inl (.inl h), r⟩
theorem Pk.tup {v : V} {ds : List Dat} (s : Sub Hs H) (h : Pk K Hs H v (.tuple ds)) : ∃ a xs, v = .ref a ∧ SqT K H a xs ∧ Rps K Hs xs ds := by
  cases h with
  | st r => cases r with | tup h r => exact ⟨_, _, rfl, s.sqt h, r⟩
theorem Pk.dict {v : V} {es : List (Dat × Dat)} (s : Sub Hs H) (h : Pk K Hs H v (.dict es)) : ∃ a, v = .ref a ∧ ((∃ ks, Rd H a (.dK ks) ∧ RpK K Hs ks es) ∨ ∃ ks, Rd H a (.dT ks) ∧ RpT K Hs ks es) := by
  cases h with
  | st r => cases r with
    | dik h r => exact ⟨_, rfl, .inl ⟨_, s.rd h, r⟩⟩
    | dit h r => exact ⟨_, rfl, .inr ⟨_, s.rd h, r⟩⟩
  | odk h r => exact ⟨_, rfl, .inl ⟨_, .inl h, r⟩⟩
  | odt h r => exact ⟨_, rfl, .inr ⟨_, .inl h, r⟩⟩
theorem At.late {ρ : Ev} {σ : St} {l : Lt} {v : V} {d : Dat} (A : At K Fr Hs ρ σ H) (h : LR K Hs σ l v) (g : l.get ρ = some d) : Pk K Hs H v d := by
  cases l with
  | c d' => cases g; exact .st h
  | s i =>
    cases e : ρ[i]? with
    | none => simp [Lt.get, e] at g
    | some s =>
      obtain ⟨o, e1, e2⟩ := zip_get A.len e
      have hs := A.rs.sl _ (List.mem_of_getElem? e2)
      have e3 : o = some v := Option.some.inj (e1.symm.trans h)
      subst e3
      cases s with
      | un => simp [Lt.get, e] at g
      | sh d' =>
        obtain ⟨w, e4, r⟩ := hs
        cases e4
        simp [Lt.get, e] at g
        subst g
        exact .st r
      | ol ds =>
        obtain ⟨p, vs, e4, hp, r⟩ := hs
        cases e4
        simp [Lt.get, e] at g
        subst g
        exact .ol hp r
      | od es =>
        obtain ⟨p, e4, q⟩ := hs
        cases e4
        simp [Lt.get, e] at g
        subst g
        rcases q with ⟨ks, hp, r⟩ | ⟨ks, hp, r⟩
        · exact .odk hp r
        · exact .odt hp r
      | io p ds =>
        obtain ⟨vs, e4, hp, r⟩ := hs
        cases e4
        simp [Lt.get, e] at g
        subst g
        exact .ol hp r
/-- what a new value must be -/
def Rs (K : Fg) (Hs H : Hp) (Q : VK) (s : Sl) : Prop := ∀ Hs' H' v, Nx Hs H Hs' H' → SlR K Hs' H' s (some v) → (∀ p ∈ own1 (s, some v), Hs' p = Option.none ∧ H p = Option.none) → Q v H'
theorem Rs.sc {Q : VK} {v : V} {d : Dat} (s : Sub Hs H) (r : Rp K Hs v d) (h : Rs K Hs H Q (.sh d)) : Q v H := h Hs H v (.refl s) ⟨v, rfl, r⟩ (by intro p hp; simp [own1] at hp)
theorem nx_own {p : Addr} {o : HO} (s : Sub Hs H) (hp : H p = Option.none) : Nx Hs H Hs (upd H p o) := by
  have sm : Same H (upd H p o) := fun b u e => by rw [upd_ne (ne_of_none e hp)]; exact e
  exact ⟨.refl _, sm, s.trans (.of sm), fun _ _ a b => by rw [a] at b; cases b⟩
theorem nx_both {p : Addr} {o : HO} (s : Sub Hs H) (hp : H p = Option.none) : Nx Hs H (upd Hs p o) (upd H p o) := by
  have sm : Same H (upd H p o) := fun b u e => by rw [upd_ne (ne_of_none e hp)]; exact e
  have sh : Same Hs (upd Hs p o) := fun b u e => by rw [upd_ne (ne_of_none e (s.free hp))]; exact e
  refine ⟨sh, sm, fun b u e => ?_, fun b u e n => ?_⟩
  · by_cases hb : b = p
    · subst hb; rw [upd_same] at e; cases e; exact .inl upd_same
    · rw [upd_ne hb] at e
      rw [upd_ne hb]
      exact s b u e
  · by_cases hb : b = p
    · rw [hb]; exact hp
    · rw [upd_ne hb, n] at e; cases e
theorem Rs.lst {Q : VK} {p : Addr} {vs : List V} {ds : List Dat} (s : Sub Hs H) (r : Rps K Hs vs ds) (hp : H p = Option.none) (h : Rs K Hs H Q (.ol ds)) : Q (.ref p) (upd H p (.lst vs)) :=
  h Hs _ _ (nx_own s hp) ⟨p, vs, rfl, upd_same, r⟩ fun q hq => by
    have e : q = p := by simpa [own1] using hq
    subst e
    exact ⟨s.free hp, hp⟩
theorem Rs.tup {Q : VK} {p : Addr} {vs : List V} {ds : List Dat} (s : Sub Hs H) (r : Rps K Hs vs ds) (hp : H p = Option.none) (h : Rs K Hs H Q (.sh (.tuple ds))) : Q (.ref p) (upd H p (.tup vs)) :=
  let n := nx_both (o := .tup vs) s hp
  h _ _ _ n ⟨.ref p, rfl, .tup (.inl (.inl upd_same)) (r.mono (.of n.ss))⟩ (by intro q hq; simp [own1] at hq)
theorem Rs.dik {Q : VK} {p : Addr} {vs : List (Key × V)} {ds : List (Dat × Dat)} (s : Sub Hs H) (r : RpK K Hs vs ds) (hp : H p = Option.none) (h : Rs K Hs H Q (.od ds)) : Q (.ref p) (upd H p (.dK vs)) :=
  h Hs _ _ (nx_own s hp) ⟨p, rfl, .inl ⟨vs, upd_same, r⟩⟩ fun q hq => by
    have e : q = p := by simpa [own1] using hq
    subst e
    exact ⟨s.free hp, hp⟩
theorem Rs.dit {Q : VK} {p : Addr} {vs : List (List Key × V)} {ds : List (Dat × Dat)} (s : Sub Hs H) (r : RpT K Hs vs ds) (hp : H p = Option.none) (h : Rs K Hs H Q (.od ds)) : Q (.ref p) (upd H p (.dT vs)) :=
  h Hs _ _ (nx_own s hp) ⟨p, rfl, .inr ⟨vs, upd_same, r⟩⟩ fun q hq => by
    have e : q = p := by simpa [own1] using hq
    subst e
    exact ⟨s.free hp, hp⟩
/-- from a state, a new value -/
theorem At.new {ρ : Ev} {σ : St} {Q : VK} {k : Sl → Prop} (A : At K Fr Hs ρ σ H) {s : Sl} (h : ∀ Hs' H' v, Same Hs Hs' → RS K Fr Hs' H' ((s, some v) :: ρ.zip σ) → Q v H') : Rs K Hs H Q s :=
  fun Hs' H' v n r hn => h Hs' H' v n.ss (A.rs.new n r hn (own1_nodup _))
end
/-! ### operations by values -/
abbrev F2 := Dat → Dat → (Sl → Prop) → Prop
abbrev F1 := Dat → (Sl → Prop) → Prop
abbrev FN := List Dat → (Sl → Prop) → Prop
def OpD (X : Cx) (F : Value → Value → Sem Value) (f : F2) : Prop :=
  OpR X F fun x y H Q => ∃ Hs dx dy k, Sub Hs H ∧ Pk X.K Hs H x dx ∧ Pk X.K Hs H y dy ∧ f dx dy k ∧ ∀ s, k s → Rs X.K Hs H Q s
def IxD (X : Cx) (f : F2) : Prop :=
  IxR X fun x y H Q => ∃ Hs dx dy k, Sub Hs H ∧ Pk X.K Hs H x dx ∧ Pk X.K Hs H y dy ∧ f dx dy k ∧ ∀ s, k s → Rs X.K Hs H Q s
def UnD (X : Cx) (F : Value → Sem Value) (f : F1) : Prop :=
  UnR X F fun x H Q => ∃ Hs dx k, Sub Hs H ∧ Pk X.K Hs H x dx ∧ f dx k ∧ ∀ s, k s → Rs X.K Hs H Q s
def CallD (X : Cx) (F : Value) (f : FN) : Prop :=
  CallR X F fun vs H Q => ∃ Hs ds k, Sub Hs H ∧ Pks X.K Hs H vs ds ∧ f ds k ∧ ∀ s, k s → Rs X.K Hs H Q s
def oVar (i : Nat) : TOD := fun ρ Q => ((Lt.s i).get ρ).isSome = true ∧ Q (.s i) ρ
def oExp (t : TD) : TOD := fun ρ Q => t ρ fun s ρ' => fz s fun d => Q (.c d) ρ'
def dVar (i : Nat) : TD := fun ρ Q => ∃ s, ρ[i]? = some s ∧ fz s fun d => Q (.sh d) (ρ.set i (.sh d))
def dC (d : Dat) : TD := fun ρ Q => Q (.sh d) ρ
def dBin (f : F2) (a b : TOD) : TD := fun ρ Q => a ρ fun la ρ1 => b ρ1 fun lb ρ2 => ∃ dx dy, la.get ρ2 = some dx ∧ lb.get ρ2 = some dy ∧ f dx dy fun s => Q s ρ2
def dUn (f : F1) (a : TOD) : TD := fun ρ Q => a ρ fun la ρ1 => ∃ dx, la.get ρ1 = some dx ∧ f dx fun s => Q s ρ1
def aNil : TAD := fun ρ Q => Q [] ρ
def aCons (a : TOD) (r : TAD) : TAD := fun ρ Q => a ρ fun l ρ1 => r ρ1 fun ls ρ2 => Q (l :: ls) ρ2
def gets (ρ : Ev) : List Lt → Option (List Dat)
  | [] => some []
  | l :: ls => match l.get ρ, gets ρ ls with
    | some d, some ds => some (d :: ds)
    | _, _ => none
def dCall (f : FN) (a : TAD) : TD := fun ρ Q => a ρ fun ls ρ1 => ∃ ds, gets ρ1 ls = some ds ∧ f ds fun s => Q s ρ1
section
variable {X : Cx} {a b e : Expr} {es : List Expr} {pos : Pos}
theorem do_var (i : Nat) {x : Str} (hN : X.N[i]? = some x := by rfl) (hv : Vis X.env.scope x := by first | exact Or.inl rfl | exact Or.inr (Or.inl rfl) | exact Or.inr (Or.inr rfl)) (hd : (x == ("__debug__" : Str)) = false := by decide)
    (hcd : (x == ("__classdict__" : Str)) = false := by decide) : DO X (.Name x pos) (oVar i) := by
  refine ⟨⟨fun pins s σ H Q I h => ?_⟩⟩
  obtain ⟨Fr, Hs, ρ, QD, A, ⟨g, q⟩, f⟩ := h
  obtain ⟨d, g⟩ := Option.isSome_iff_exists.mp g
  obtain ⟨v, eσ⟩ : ∃ v, σ[i]? = some (some v) := by
    cases e : ρ[i]? with
    | none => simp [Lt.get, e] at g
    | some s =>
      obtain ⟨o, e1, e2⟩ := zip_get A.len e
      have hs := A.rs.sl _ (List.mem_of_getElem? e2)
      cases s with
      | un => simp [Lt.get, e] at g
      | sh d => obtain ⟨w, e3, _⟩ := hs; exact ⟨w, by rw [e1]; exact congrArg some e3⟩
      | ol d => obtain ⟨w, _, e3, _⟩ := hs; exact ⟨_, by rw [e1]; exact congrArg some e3⟩
      | od d => obtain ⟨w, e3, _⟩ := hs; exact ⟨_, by rw [e1]; exact congrArg some e3⟩
      | io p d => obtain ⟨w, e3, _⟩ := hs; exact ⟨_, by rw [e1]; exact congrArg some e3⟩
  exact (pe_var hN hv hd hcd).run pins s σ H Q I ⟨v, eσ, f _ ρ Hs H v q (.refl _) A eσ⟩
theorem do_exp {t : TD} (h : DE X e t) : DO X e (oExp t) := by
  refine ⟨pe_imp h.pe fun σ H Q hq => ?_⟩
  obtain ⟨Fr, Hs, ρ, QD, A, q, f⟩ := hq
  refine ⟨Fr, Hs, ρ, _, A, q, fun s ρ' Hs' H' v hs hl ss R => ?_⟩
  obtain ⟨d, Hs2, hd, s2, R2⟩ := R.frz hs
  obtain ⟨w, e1, r⟩ := R2.head
  cases e1
  exact f _ ρ' Hs2 H' v hd (ss.trans s2) ⟨hl, R2.tail⟩ r
theorem da_nil : DAs X [] aNil := by
  refine ⟨pa_imp pa_nil fun σ H Q hq => ?_⟩
  obtain ⟨Fr, Hs, ρ, QD, A, q, f⟩ := hq
  exact f [] ρ Hs H [] q (.refl _) A .nil
theorem da_cons {t : TOD} {r : TAD} (h : DO X e t) (hr : DAs X es r) (hs : starEach (e :: es) X.env = (false, eval e X.env) :: starEach es X.env := by rfl) : DAs X (e :: es) (aCons t r) := by
  refine ⟨pa_imp (pa_cons h.pe hr.pa hs) fun σ H Q hq => ?_⟩
  obtain ⟨Fr, Hs, ρ, QD, A, q, f⟩ := hq
  refine ⟨Fr, Hs, ρ, _, A, q, fun l ρ1 Hs1 H1 v q1 s1 A1 r1 => ?_⟩
  refine ⟨Fr, Hs1, ρ1, _, A1, q1, fun ls ρ2 Hs2 H2 vs q2 s2 A2 r2 => ?_⟩
  exact f (l :: ls) ρ2 Hs2 H2 (v :: vs) q2 (s1.trans s2) A2 (.cons (r1.mono s2) r2)
theorem de_bin {op : Operator} {f : F2} {ta tb : TOD} (ho : OpD X (binaryOp op) f) (ha : DO X a ta) (hb : DO X b tb) : DE X (.BinOp a op b pos) (dBin f ta tb) := by
  refine ⟨pe_imp (pe_op ho ha.pe hb.pe) fun σ H Q hq => ?_⟩
  obtain ⟨Fr, Hs, ρ, QD, A, q, g⟩ := hq
  refine ⟨Fr, Hs, ρ, _, A, q, fun l ρ1 Hs1 H1 v q1 s1 A1 r1 => ?_⟩
  refine ⟨Fr, Hs1, ρ1, _, A1, q1, fun l2 ρ2 Hs2 H2 v2 q2 s2 A2 r2 => ?_⟩
  obtain ⟨dx, dy, g1, g2, hf⟩ := q2
  exact ⟨Hs2, dx, dy, _, A2.rs.hs, A2.late (r1.mono s2) g1, A2.late r2 g2, hf, fun s hs => A2.new (k := fun _ => True) fun Hs' H' v ss R => g s ρ2 Hs' H' v hs A2.len ((s1.trans s2).trans ss) R⟩
theorem de_cmp {op : CmpOp} {f : F2} {ta tb : TOD} (ho : OpD X (compareOp op) f) (ha : DO X a ta) (hb : DO X b tb) (hm : behindInMarks op b = false) : DE X (.Compare a [op] [b] pos) (dBin f ta tb) := by
  refine ⟨pe_imp (pe_cmpR ho ha.pe hb.pe hm) fun σ H Q hq => ?_⟩
  obtain ⟨Fr, Hs, ρ, QD, A, q, g⟩ := hq
  refine ⟨Fr, Hs, ρ, _, A, q, fun l ρ1 Hs1 H1 v q1 s1 A1 r1 => ?_⟩
  refine ⟨Fr, Hs1, ρ1, _, A1, q1, fun l2 ρ2 Hs2 H2 v2 q2 s2 A2 r2 => ?_⟩
  obtain ⟨dx, dy, g1, g2, hf⟩ := q2
  exact ⟨Hs2, dx, dy, _, A2.rs.hs, A2.late (r1.mono s2) g1, A2.late r2 g2, hf, fun s hs => A2.new (k := fun _ => True) fun Hs' H' v ss R => g s ρ2 Hs' H' v hs A2.len ((s1.trans s2).trans ss) R⟩
theorem de_ix {f : F2} {ta tb : TOD} (ho : IxD X f) (ha : DO X a ta) (hb : DO X b tb) (hs : PlainIx b := by intro _ _; rfl) : DE X (.Subscript a b pos) (dBin f ta tb) := by
  refine ⟨pe_imp (pe_ix ho ha.pe hb.pe hs) fun σ H Q hq => ?_⟩
  obtain ⟨Fr, Hs, ρ, QD, A, q, g⟩ := hq
  refine ⟨Fr, Hs, ρ, _, A, q, fun l ρ1 Hs1 H1 v q1 s1 A1 r1 => ?_⟩
  refine ⟨Fr, Hs1, ρ1, _, A1, q1, fun l2 ρ2 Hs2 H2 v2 q2 s2 A2 r2 => ?_⟩
  obtain ⟨dx, dy, g1, g2, hf⟩ := q2
  exact ⟨Hs2, dx, dy, _, A2.rs.hs, A2.late (r1.mono s2) g1, A2.late r2 g2, hf, fun s hs => A2.new (k := fun _ => True) fun Hs' H' v ss R => g s ρ2 Hs' H' v hs A2.len ((s1.trans s2).trans ss) R⟩
theorem de_un {op : UnaryOp} {f : F1} {ta : TOD} (ho : UnD X (unaryOp op) f) (ha : DO X a ta) : DE X (.UnaryOp op a pos) (dUn f ta) := by
  refine ⟨pe_imp (pe_un ho ha.pe) fun σ H Q hq => ?_⟩
  obtain ⟨Fr, Hs, ρ, QD, A, q, g⟩ := hq
  refine ⟨Fr, Hs, ρ, _, A, q, fun l ρ1 Hs1 H1 v q1 s1 A1 r1 => ?_⟩
  obtain ⟨dx, g1, hf⟩ := q1
  exact ⟨Hs1, dx, _, A1.rs.hs, A1.late r1 g1, hf, fun s hs => A1.new (k := fun _ => True) fun Hs' H' v ss R => g s ρ1 Hs' H' v hs A1.len (s1.trans ss) R⟩
theorem At.lates {K : Fg} {Fr Hs H : Hp} {ρ : Ev} {σ : St} (A : At K Fr Hs ρ σ H) : ∀ {l : List Lt} {v : List V} {d : List Dat}, LRs K Hs σ l v → gets ρ l = some d → Pks K Hs H v d
  | _, _, _, .nil, g => by cases g; exact .nil
  | l :: ls, _, _, .cons r rs, g => by
    unfold gets at g
    cases e1 : l.get ρ with
    | none => rw [e1] at g; cases g
    | some d =>
      cases e2 : gets ρ ls with
      | none => rw [e1, e2] at g; cases g
      | some ds =>
        rw [e1, e2] at g
        cases g
        exact .cons (A.late r e1) (A.lates rs e2)
theorem de_builtin {id : String} {x : Str} {p : Pos} {f : FN} {t : TAD} (hc : CallD X (.builtin id) f) (hg : Gl X x) (hm : X.mg x = none) (hv : bootBuiltins x = some (.builtin id)) (ha : DAs X (e :: es) t) (hn : x ≠ "__name__" := by decide) (hdb : (x == ("__debug__" : Str)) = false := by decide)
    (he : starEach (e :: es) X.env = (false, eval e X.env) :: starEach es X.env := by rfl) (hpl : (backTo pos (starEach es X.env)).any (·.1) = false := by rfl) : DE X (.Call (.Name x p) (e :: es) [] pos) (dCall f t) := by
  refine ⟨pe_imp (pe_callB hc hg hm hv ha.pa hn hdb he hpl) fun σ H Q hq => ?_⟩
  obtain ⟨Fr, Hs, ρ, QD, A, q, g⟩ := hq
  refine ⟨Fr, Hs, ρ, _, A, q, fun l ρ1 Hs1 H1 vs q1 s1 A1 r1 => ?_⟩
  obtain ⟨ds, g1, hf⟩ := q1
  exact ⟨Hs1, ds, _, A1.rs.hs, A1.lates r1 g1, hf, fun s hs => A1.new (k := fun _ => True) fun Hs' H' v ss R => g s ρ1 Hs' H' v hs A1.len (s1.trans ss) R⟩
theorem de_type {T : String} {x : Str} {p : Pos} {f : FN} {t : TAD} (hc : CallD X (.type T) f) (hg : Gl X x) (hm : X.mg x = none) (hv : bootBuiltins x = some (.type T)) (ha : DAs X (e :: es) t) (hn : x ≠ "__name__" := by decide) (hdb : (x == ("__debug__" : Str)) = false := by decide)
    (he : starEach (e :: es) X.env = (false, eval e X.env) :: starEach es X.env := by rfl) (hpl : (backTo pos (starEach es X.env)).any (·.1) = false := by rfl) : DE X (.Call (.Name x p) (e :: es) [] pos) (dCall f t) := by
  refine ⟨pe_imp (pe_callTy hc hg hm hv ha.pa hn hdb he hpl) fun σ H Q hq => ?_⟩
  obtain ⟨Fr, Hs, ρ, QD, A, q, g⟩ := hq
  refine ⟨Fr, Hs, ρ, _, A, q, fun l ρ1 Hs1 H1 vs q1 s1 A1 r1 => ?_⟩
  obtain ⟨ds, g1, hf⟩ := q1
  exact ⟨Hs1, ds, _, A1.rs.hs, A1.lates r1 g1, hf, fun s hs => A1.new (k := fun _ => True) fun Hs' H' v ss R => g s ρ1 Hs' H' v hs A1.len (s1.trans ss) R⟩
/-- a name as a value: what it holds is frozen -/
theorem At.frz {K : Fg} {Fr Hs H : Hp} {ρ : Ev} {σ : St} {i : Nat} {s : Sl} {k : Dat → Prop} (A : At K Fr Hs ρ σ H) (e : ρ[i]? = some s) (h : fz s k) :
    ∃ d v Hs', k d ∧ Same Hs Hs' ∧ σ[i]? = some (some v) ∧ Rp K Hs' v d ∧ At K Fr Hs' (ρ.set i (.sh d)) σ H := by
  obtain ⟨o, e1, e2⟩ := zip_get A.len e
  obtain ⟨d, Hs', hk, ss, R⟩ := (A.rs.focus e2).frz h
  obtain ⟨v, e3, r⟩ := R.head
  have e3 : o = some v := e3
  subst e3
  have hi : i < (ρ.zip σ).length := (List.getElem?_eq_some_iff.mp e2).1
  have R' := R.unfocus hi
  rw [zip_set_l e1] at R'
  exact ⟨d, v, Hs', hk, ss, e1, r, by rw [List.length_set]; exact A.len, R'⟩
theorem de_var (i : Nat) {x : Str} (hN : X.N[i]? = some x := by rfl) (hv : Vis X.env.scope x := by first | exact Or.inl rfl | exact Or.inr (Or.inl rfl) | exact Or.inr (Or.inr rfl)) (hd : (x == ("__debug__" : Str)) = false := by decide)
    (hcd : (x == ("__classdict__" : Str)) = false := by decide) : DE X (.Name x pos) (dVar i) := by
  refine ⟨⟨fun pins s σ H Q I h => ?_⟩⟩
  obtain ⟨Fr, Hs, ρ, QD, A, q, f⟩ := h
  obtain ⟨z, e, hk⟩ := q
  obtain ⟨d, v, Hs', hd', ss, e1, r, A'⟩ := A.frz e hk
  exact (pe_var hN hv hd hcd).run pins s σ H Q I ⟨v, e1, f (.sh d) _ Hs' H v hd' A'.len ss (A'.rs.add ⟨v, rfl, r⟩ rfl)⟩
end

/-! ### frozen items -/
abbrev TFD := Ev → (List Dat → Ev → Prop) → Prop
def lF (K : Fg) (t : TFD) : TA := fun σ H Q => ∃ (Fr Hs : Hp) (ρ : Ev) (QD : List Dat → Ev → Prop), At K Fr Hs ρ σ H ∧ t ρ QD ∧
  ∀ ds ρ' Hs' H' vs, QD ds ρ' → Same Hs Hs' → At K Fr Hs' ρ' σ H' → Rps K Hs' vs ds → Q vs H'
structure DFs (X : Cx) (es : List Expr) (t : TFD) : Prop where
  pa : PA X es (lF X.K t)
def fNil : TFD := fun ρ Q => Q [] ρ
def fCons (t : TD) (r : TFD) : TFD := fun ρ Q => t ρ fun s ρ1 => fz s fun d => r ρ1 fun ds ρ2 => Q (d :: ds) ρ2
def dTup (t : TFD) : TD := fun ρ Q => t ρ fun ds ρ1 => ds.length ≤ sizeLine ∧ Q (.sh (.tuple ds)) ρ1
def dLst (t : TFD) : TD := fun ρ Q => t ρ fun ds ρ1 => ds.length ≤ sizeLine ∧ Q (.ol ds) ρ1
/-- truth -/
def tru : Dat → (Bool → Prop) → Prop
  | .none, k => k false
  | .bool b, k => k b
  | .int i, k => k (i != 0)
  | .str x, k => x.length ≤ sizeLine ∧ k ((x.length : Int) != 0)
  | .list ds, k => k (!ds.isEmpty)
  | .tuple ds, k => k (!ds.isEmpty)
  | .dict _, _ => False
def tVal (t : TD) : TTD := fun ρ Q => t ρ fun s ρ1 => ∃ b, s = .sh (.bool b) ∧ Q b ρ1
def tTru (t : TOD) : TTD := fun ρ Q => t ρ fun l ρ1 => ∃ d, l.get ρ1 = some d ∧ tru d fun b => Q b ρ1
def tNotD (t : TTD) : TTD := fun ρ Q => t ρ fun b ρ1 => Q (!b) ρ1
def tAndD (t u : TTD) : TTD := fun ρ Q => t ρ fun b ρ1 => if b = true then u ρ1 Q else Q false ρ1
def tOrD (t u : TTD) : TTD := fun ρ Q => t ρ fun b ρ1 => if b = true then Q true ρ1 else u ρ1 Q
def dAnd (t u : TD) : TD := fun ρ Q => t ρ fun s ρ1 => fz s fun d => tru d fun b => if b = true then u ρ1 Q else Q (.sh d) ρ1
def dOr (t u : TD) : TD := fun ρ Q => t ρ fun s ρ1 => fz s fun d => tru d fun b => if b = true then Q (.sh d) ρ1 else u ρ1 Q
def dNot (t : TOD) : TD := fun ρ Q => t ρ fun l ρ1 => ∃ d, l.get ρ1 = some d ∧ tru d fun b => Q (.sh (.bool (!b))) ρ1
def dIf (c : TTD) (t u : TD) : TD := fun ρ Q => c ρ fun b ρ1 => if b = true then t ρ1 Q else u ρ1 Q
abbrev TPD := Ev → (Option Int → Ev → Prop) → Prop
def pNo : TPD := fun ρ Q => Q none ρ
def pYes (t : TD) : TPD := fun ρ Q => t ρ fun s ρ1 => ∃ i, s = .sh (.int i) ∧ Q (some i) ρ1
def lP (K : Fg) (t : TPD) : TO := fun σ H Q => ∃ (Fr Hs : Hp) (ρ : Ev) (QD : Option Int → Ev → Prop), At K Fr Hs ρ σ H ∧ t ρ QD ∧
  ∀ o ρ' Hs' H', QD o ρ' → Same Hs Hs' → At K Fr Hs' ρ' σ H' → Q o H'
structure DP (X : Cx) (e : Option Expr) (t : TPD) : Prop where
  po : PO X e (lP X.K t)
abbrev FS3 := Dat → Option Int → Option Int → (Sl → Prop) → Prop
def SlD (X : Cx) (f : FS3) : Prop :=
  L2.SlR X fun x lo hi H Q => ∃ Hs d k, Sub Hs H ∧ Pk X.K Hs H x d ∧ f d lo hi k ∧ ∀ s, k s → Rs X.K Hs H Q s
def dSlice (f : FS3) (a : TOD) (lo hi : TPD) : TD := fun ρ Q => a ρ fun l ρ1 => lo ρ1 fun i ρ2 => hi ρ2 fun j ρ3 => ∃ d, l.get ρ3 = some d ∧ f d i j fun s => Q s ρ3
theorem tru_of {K : Fg} {Hs H : Hp} {v : V} {d : Dat} {k : Bool → Prop} (s : Sub Hs H) (p : Pk K Hs H v d) (h : tru d k) : ∃ b, TruV K v H b ∧ k b := by
  cases d with
  | none => rw [p.none]; exact ⟨_, rfl, h⟩
  | bool b => rw [p.bool]; exact ⟨_, rfl, h⟩
  | int i => rw [p.int]; exact ⟨_, rfl, h⟩
  | str x => rw [p.str]; exact ⟨_, ⟨h.1, rfl⟩, h.2⟩
  | list ds =>
    obtain ⟨a, xs, rfl, hs, r⟩ := p.list s
    refine ⟨_, .inl ⟨xs, hs, rfl⟩, ?_⟩
    have e : xs.isEmpty = ds.isEmpty := by cases r <;> rfl
    rw [e]; exact h
  | tuple ds =>
    obtain ⟨a, xs, rfl, hs, r⟩ := p.tup s
    refine ⟨_, .inr (.inl ⟨xs, hs, rfl⟩), ?_⟩
    have e : xs.isEmpty = ds.isEmpty := by cases r <;> rfl
    rw [e]; exact h
  | dict es => exact h.elim
section
variable {X : Cx} {a b e : Expr} {es rest : List Expr} {pos : Pos}
theorem df_nil : DFs X [] fNil := ⟨pa_imp pa_nil fun σ H Q ⟨Fr, Hs, ρ, QD, A, q, f⟩ => f [] ρ Hs H [] q (.refl _) A .nil⟩
theorem df_cons {t : TD} {r : TFD} (h : DE X e t) (hr : DFs X es r) (hs : starEach (e :: es) X.env = (false, eval e X.env) :: starEach es X.env := by rfl) : DFs X (e :: es) (fCons t r) := by
  refine ⟨pa_imp (pa_cons h.pe hr.pa hs) fun σ H Q hq => ?_⟩
  obtain ⟨Fr, Hs, ρ, QD, A, q, f⟩ := hq
  refine ⟨Fr, Hs, ρ, _, A, q, fun s ρ1 Hs1 H1 v q1 hl s1 R => ?_⟩
  obtain ⟨d, Hs2, hd, s2, R2⟩ := R.frz q1
  obtain ⟨w, e1, r1⟩ := R2.head
  cases e1
  refine ⟨Fr, Hs2, ρ1, _, ⟨hl, R2.tail⟩, hd, fun ds ρ2 Hs3 H3 vs q3 s3 A3 r3 => ?_⟩
  exact f (d :: ds) ρ2 Hs3 H3 (v :: vs) q3 ((s1.trans s2).trans s3) A3 (.cons (r1.mono (.of s3)) r3)
theorem de_tup {t : TFD} {k} (h : DFs X es t) : DE X (.Tuple es k pos) (dTup t) := by
  refine ⟨pe_imp (pe_tup h.pa) fun σ H Q hq => ?_⟩
  obtain ⟨Fr, Hs, ρ, QD, A, q, f⟩ := hq
  refine ⟨Fr, Hs, ρ, _, A, q, fun ds ρ1 Hs1 H1 vs q1 s1 A1 r1 => ⟨by rw [r1.length]; exact q1.1, fun p hp => ?_⟩⟩
  exact Rs.tup A1.rs.hs r1 hp (A1.new (k := fun _ => True) fun Hs' H' v ss R => f _ ρ1 Hs' H' v q1.2 A1.len (s1.trans ss) R)
theorem de_lst {t : TFD} (h : DFs X es t) : DE X (.List es pos) (dLst t) := by
  refine ⟨pe_imp (pe_lst h.pa) fun σ H Q hq => ?_⟩
  obtain ⟨Fr, Hs, ρ, QD, A, q, f⟩ := hq
  refine ⟨Fr, Hs, ρ, _, A, q, fun ds ρ1 Hs1 H1 vs q1 s1 A1 r1 => ⟨by rw [r1.length]; exact q1.1, fun p hp => ?_⟩⟩
  exact Rs.lst A1.rs.hs r1 hp (A1.new (k := fun _ => True) fun Hs' H' v ss R => f _ ρ1 Hs' H' v q1.2 A1.len (s1.trans ss) R)
theorem de_sc {v : V} {d : Dat} (h : PE X e (tC v)) (r : ∀ Hs, Rp X.K Hs v d) : DE X e (dC d) := by
  refine ⟨pe_imp h fun σ H Q hq => ?_⟩
  obtain ⟨Fr, Hs, ρ, QD, A, q, f⟩ := hq
  exact f _ ρ Hs H v q A.len (.refl _) (A.rs.add ⟨v, rfl, r Hs⟩ rfl)
theorem de_int {i : Int} {j} : DE X (.Constant (.int i) j pos) (dC (.int i)) := de_sc pe_int fun _ => .int i
theorem de_bl {b : Bool} {j} : DE X (.Constant (.bool b) j pos) (dC (.bool b)) := de_sc pe_bl fun _ => .bl b
theorem de_non {j} : DE X (.Constant .none j pos) (dC .none) := de_sc pe_non fun _ => .non
theorem de_str {x : Str} {j} : DE X (.Constant (.str x) j pos) (dC (.str x)) := de_sc pe_str fun _ => .str x
/-- a module's constant -/
theorem de_glob {x : Str} {v : V} {u : Value} {d : Dat} (hg : Gl X x) (hm : X.mg x = some u) (r : RelV v u) (hr : ∀ Hs, Rp X.K Hs v d) (hd : (x == ("__debug__" : Str)) = false := by decide) : DE X (.Name x pos) (dC d) := de_sc (pe_glob hg hm r hd) hr
/-! tests -/
theorem dt_val {t : TD} (h : DE X e t) (he : ∀ whole, isTrue e X.env whole = (do let v ← whole; standAt e.pos; holding [v] (truthy v)) := by intro _; rfl) : DT X e (tVal t) := by
  refine ⟨pt_imp (pt_val h.pe he) fun σ H Q hq => ?_⟩
  obtain ⟨Fr, Hs, ρ, QD, A, q, f⟩ := hq
  refine ⟨Fr, Hs, ρ, _, A, q, fun s ρ1 Hs1 H1 v q1 hl s1 R => ?_⟩
  obtain ⟨b, rfl, qb⟩ := q1
  obtain ⟨w, e1, r1⟩ := R.head
  cases e1
  cases r1
  exact ⟨b, rfl, f b ρ1 Hs1 H1 qb s1 ⟨hl, R.tail⟩⟩
theorem dt_tru {t : TOD} (h : DO X e t) (he : ∀ whole, isTrue e X.env whole = (do let v ← whole; standAt e.pos; holding [v] (truthy v)) := by intro _; rfl) : DT X e (tTru t) := by
  refine ⟨pt_imp (pt_truth h.pe he) fun σ H Q hq => ?_⟩
  obtain ⟨Fr, Hs, ρ, QD, A, q, f⟩ := hq
  refine ⟨Fr, Hs, ρ, _, A, q, fun l ρ1 Hs1 H1 v q1 s1 A1 r1 => ?_⟩
  obtain ⟨d, g, ht⟩ := q1
  obtain ⟨b, hb, qb⟩ := tru_of A1.rs.hs (A1.late r1 g) ht
  exact ⟨b, hb, f b ρ1 Hs1 H1 qb s1 A1⟩
theorem dt_cmp {op : CmpOp} {f : F2} {ta tb : TOD} (ho : OpD X (compareOp op) f) (ha : DO X a ta) (hb : DO X b tb) (hm : behindInMarks op b = false) : DT X (.Compare a [op] [b] pos) (tVal (dBin f ta tb)) := by
  refine ⟨pt_imp (pt_cmpR ho ha.pe hb.pe hm) fun σ H Q hq => ?_⟩
  obtain ⟨Fr, Hs, ρ, QD, A, q, g⟩ := hq
  refine ⟨Fr, Hs, ρ, _, A, q, fun l ρ1 Hs1 H1 v q1 s1 A1 r1 => ?_⟩
  refine ⟨Fr, Hs1, ρ1, _, A1, q1, fun l2 ρ2 Hs2 H2 v2 q2 s2 A2 r2 => ?_⟩
  obtain ⟨dx, dy, g1, g2, hf⟩ := q2
  refine ⟨Hs2, dx, dy, _, A2.rs.hs, A2.late (r1.mono s2) g1, A2.late r2 g2, hf, fun s hs => A2.new (k := fun _ => True) fun Hs' H' v ss R => ?_⟩
  obtain ⟨b, rfl, qb⟩ := hs
  obtain ⟨w, e1, r1⟩ := R.head
  cases e1
  cases r1
  exact ⟨b, rfl, g b ρ2 Hs' H' qb ((s1.trans s2).trans ss) ⟨A2.len, R.tail⟩⟩
theorem dt_not {t : TTD} (h : DT X a t) : DT X (.UnaryOp .Not a pos) (tNotD t) := by
  refine ⟨pt_imp (pt_not h.pt) fun σ H Q hq => ?_⟩
  obtain ⟨Fr, Hs, ρ, QD, A, q, g⟩ := hq
  exact ⟨Fr, Hs, ρ, _, A, q, fun b ρ1 Hs1 H1 q1 s1 A1 => g _ ρ1 Hs1 H1 q1 s1 A1⟩
theorem dt_w {t : TTD} (h : DW X e t) : DT X e t := ⟨h.pw.pt⟩
theorem dw_and1 {t : TTD} (h : DT X a t) : DW X (.BoolOp .And [a] pos) t := ⟨pw_and1 h.pt⟩
theorem dw_or1 {t : TTD} (h : DT X a t) : DW X (.BoolOp .Or [a] pos) t := ⟨pw_or1 h.pt⟩
theorem dw_and {t u : TTD} (h : DT X a t) (hb : DW X (.BoolOp .And (b :: rest) pos) u) : DW X (.BoolOp .And (a :: b :: rest) pos) (tAndD t u) := by
  refine ⟨pw_imp (pw_and h.pt hb.pw) fun σ H Q hq => ?_⟩
  obtain ⟨Fr, Hs, ρ, QD, A, q, g⟩ := hq
  refine ⟨Fr, Hs, ρ, _, A, q, fun b ρ1 Hs1 H1 q1 s1 A1 => ?_⟩
  cases b with
  | true => exact ⟨Fr, Hs1, ρ1, _, A1, q1, fun b' ρ2 Hs2 H2 q2 s2 A2 => g _ _ _ _ q2 (s1.trans s2) A2⟩
  | false => exact g _ _ _ _ q1 s1 A1
theorem dw_or {t u : TTD} (h : DT X a t) (hb : DW X (.BoolOp .Or (b :: rest) pos) u) : DW X (.BoolOp .Or (a :: b :: rest) pos) (tOrD t u) := by
  refine ⟨pw_imp (pw_or h.pt hb.pw) fun σ H Q hq => ?_⟩
  obtain ⟨Fr, Hs, ρ, QD, A, q, g⟩ := hq
  refine ⟨Fr, Hs, ρ, _, A, q, fun b ρ1 Hs1 H1 q1 s1 A1 => ?_⟩
  cases b with
  | false => exact ⟨Fr, Hs1, ρ1, _, A1, q1, fun b' ρ2 Hs2 H2 q2 s2 A2 => g _ _ _ _ q2 (s1.trans s2) A2⟩
  | true => exact g _ _ _ _ q1 s1 A1
/-! logic as values -/
theorem de_one {op} {t : TD} (h : DE X a t) : DE X (.BoolOp op [a] pos) t := ⟨pe_one h.pe⟩
theorem de_and {t u : TD} (h : DE X a t) (hb : DE X (.BoolOp .And (b :: rest) pos) u) : DE X (.BoolOp .And (a :: b :: rest) pos) (dAnd t u) := by
  refine ⟨pe_imp (pe_andT h.pe hb.pe) fun σ H Q hq => ?_⟩
  obtain ⟨Fr, Hs, ρ, QD, A, q, g⟩ := hq
  refine ⟨Fr, Hs, ρ, _, A, q, fun s ρ1 Hs1 H1 v q1 hl s1 R => ?_⟩
  obtain ⟨d, Hs2, hd, s2, R2⟩ := R.frz q1
  obtain ⟨w, e1, r1⟩ := R2.head
  cases e1
  obtain ⟨k, hk, hq⟩ := tru_of R2.hs (.st r1) hd
  refine ⟨k, hk, ?_⟩
  cases k with
  | true => exact ⟨Fr, Hs2, ρ1, _, ⟨hl, R2.tail⟩, hq, fun s' ρ2 Hs3 H3 v3 q3 hl3 s3 R3 => g s' ρ2 Hs3 H3 v3 q3 hl3 ((s1.trans s2).trans s3) R3⟩
  | false => exact g _ ρ1 Hs2 H1 v hq hl (s1.trans s2) R2
theorem de_or {t u : TD} (h : DE X a t) (hb : DE X (.BoolOp .Or (b :: rest) pos) u) : DE X (.BoolOp .Or (a :: b :: rest) pos) (dOr t u) := by
  refine ⟨pe_imp (pe_orT h.pe hb.pe) fun σ H Q hq => ?_⟩
  obtain ⟨Fr, Hs, ρ, QD, A, q, g⟩ := hq
  refine ⟨Fr, Hs, ρ, _, A, q, fun s ρ1 Hs1 H1 v q1 hl s1 R => ?_⟩
  obtain ⟨d, Hs2, hd, s2, R2⟩ := R.frz q1
  obtain ⟨w, e1, r1⟩ := R2.head
  cases e1
  obtain ⟨k, hk, hq⟩ := tru_of R2.hs (.st r1) hd
  refine ⟨k, hk, ?_⟩
  cases k with
  | false => exact ⟨Fr, Hs2, ρ1, _, ⟨hl, R2.tail⟩, hq, fun s' ρ2 Hs3 H3 v3 q3 hl3 s3 R3 => g s' ρ2 Hs3 H3 v3 q3 hl3 ((s1.trans s2).trans s3) R3⟩
  | true => exact g _ ρ1 Hs2 H1 v hq hl (s1.trans s2) R2
theorem de_not {t : TOD} (h : DO X a t) : DE X (.UnaryOp .Not a pos) (dNot t) := by
  refine ⟨pe_imp (pe_notT h.pe) fun σ H Q hq => ?_⟩
  obtain ⟨Fr, Hs, ρ, QD, A, q, f⟩ := hq
  refine ⟨Fr, Hs, ρ, _, A, q, fun l ρ1 Hs1 H1 v q1 s1 A1 r1 => ?_⟩
  obtain ⟨d, g, ht⟩ := q1
  obtain ⟨b, hb, qb⟩ := tru_of A1.rs.hs (A1.late r1 g) ht
  exact ⟨b, hb, f _ ρ1 Hs1 H1 _ qb A1.len s1 (A1.rs.add ⟨_, rfl, .bl _⟩ rfl)⟩
theorem de_if {c : Expr} {tc : TTD} {t u : TD} (hc : DT X c tc) (h : DE X a t) (hb : DE X b u) : DE X (.IfExp c a b pos) (dIf tc t u) := by
  refine ⟨pe_imp (pe_ifExp hc.pt h.pe hb.pe) fun σ H Q hq => ?_⟩
  obtain ⟨Fr, Hs, ρ, QD, A, q, f⟩ := hq
  refine ⟨Fr, Hs, ρ, _, A, q, fun k ρ1 Hs1 H1 q1 s1 A1 => ?_⟩
  cases k with
  | true => exact ⟨Fr, Hs1, ρ1, _, A1, q1, fun s' ρ2 Hs3 H3 v3 q3 hl3 s3 R3 => f s' ρ2 Hs3 H3 v3 q3 hl3 (s1.trans s3) R3⟩
  | false => exact ⟨Fr, Hs1, ρ1, _, A1, q1, fun s' ρ2 Hs3 H3 v3 q3 hl3 s3 R3 => f s' ρ2 Hs3 H3 v3 q3 hl3 (s1.trans s3) R3⟩
/-! slices -/
theorem dp_no : DP X none pNo := ⟨⟨fun pins s σ H Q I ⟨Fr, Hs, ρ, QD, A, q, f⟩ => po_none.run pins s σ H Q I (f none ρ Hs H q (.refl _) A)⟩⟩
theorem dp_yes {t : TD} (h : DE X e t) : DP X (some e) (pYes t) := by
  refine ⟨⟨fun pins s σ H Q I hq => (po_some h.pe).run pins s σ H Q I ?_⟩⟩
  obtain ⟨Fr, Hs, ρ, QD, A, q, f⟩ := hq
  refine ⟨Fr, Hs, ρ, _, A, q, fun s ρ1 Hs1 H1 v q1 hl s1 R => ?_⟩
  obtain ⟨i, rfl, qi⟩ := q1
  obtain ⟨w, e1, r1⟩ := R.head
  cases e1
  cases r1
  exact ⟨i, rfl, f _ ρ1 Hs1 H1 qi s1 ⟨hl, R.tail⟩⟩
theorem de_slice {lo hi : Option Expr} {p2 : Pos} {f : FS3} {t : TOD} {tl th : TPD} (hr : SlD X f) (he : DO X e t) (hl : DP X lo tl) (hu : DP X hi th) : DE X (.Subscript e (.Slice lo hi none p2) pos) (dSlice f t tl th) := by
  refine ⟨pe_imp (pe_slice hr he.pe hl.po hu.po) fun σ H Q hq => ?_⟩
  obtain ⟨Fr, Hs, ρ, QD, A, q, g⟩ := hq
  refine ⟨Fr, Hs, ρ, _, A, q, fun l ρ1 Hs1 H1 v q1 s1 A1 r1 => ?_⟩
  refine ⟨Fr, Hs1, ρ1, _, A1, q1, fun o ρ2 Hs2 H2 q2 s2 A2 => ?_⟩
  refine ⟨Fr, Hs2, ρ2, _, A2, q2, fun o2 ρ3 Hs3 H3 q3 s3 A3 => ?_⟩
  obtain ⟨d, g1, hf⟩ := q3
  exact ⟨Hs3, d, _, A3.rs.hs, A3.late (r1.mono (s2.trans s3)) g1, hf, fun s hs => A3.new (k := fun _ => True) fun Hs' H' v ss R => g s ρ3 Hs' H' v hs A3.len (((s1.trans s2).trans s3).trans ss) R⟩
end
/-! ### a list that changes in place: the method of a name -/
abbrev FM := List Dat → List Dat → (Dat → List Dat → Prop) → Prop
def MutD (X : Cx) (id : String) (f : FM) : Prop :=
  MtR X id fun x vs H Q => ∃ (p : Addr) (xs : List V) (Hs : Hp) (ds as : List Dat) (k : Dat → List Dat → Prop), x = .ref p ∧ H p = some (.lst xs) ∧ Sub Hs H ∧ Rps X.K Hs xs ds ∧ Rps X.K Hs vs as ∧ f ds as k ∧
    ∀ d ds', k d ds' → ∀ v xs', Rp X.K Hs v d → Rps X.K Hs xs' ds' → Q v (upd H p (.lst xs'))
/-- the list at a name, and with another content -/
def lstAt (ρ : Ev) (i : Nat) : Option (List Dat) := match ρ[i]? with
  | some (.ol ds) => some ds
  | some (.io _ ds) => some ds
  | _ => none
def putAt (ρ : Ev) (i : Nat) (ds : List Dat) : Ev := match ρ[i]? with
  | some (.io p _) => ρ.set i (.io p ds)
  | _ => ρ.set i (.ol ds)
def dMut (i : Nat) (f : FM) (t : TFD) : TD := fun ρ Q => (lstAt ρ i).isSome = true ∧ t ρ fun as ρ1 => ∃ ds, lstAt ρ1 i = some ds ∧ f ds as fun d ds' => Q (.sh d) (putAt ρ1 i ds')
section
variable {K : Fg} {Fr Hs H : Hp} {ρ : Ev} {σ : St} {i : Nat} {ds ds' : List Dat} {xs' : List V}
theorem At.lst (A : At K Fr Hs ρ σ H) (h : lstAt ρ i = some ds) : ∃ p xs, σ[i]? = some (some (.ref p)) ∧ H p = some (.lst xs) ∧ Rps K Hs xs ds := by
  unfold lstAt at h
  cases e : ρ[i]? with
  | none => rw [e] at h; cases h
  | some s =>
    obtain ⟨o, e1, e2⟩ := zip_get A.len e
    have hs := A.rs.sl _ (List.mem_of_getElem? e2)
    rw [e] at h
    cases s with
    | un => cases h
    | sh d => cases h
    | od d => cases h
    | ol d => obtain ⟨p, vs, e3, h1, h2⟩ := hs; cases h; exact ⟨p, vs, by rw [e1]; exact congrArg some e3, h1, h2⟩
    | io q d => obtain ⟨vs, e3, h1, h2⟩ := hs; cases h; exact ⟨q, vs, by rw [e1]; exact congrArg some e3, h1, h2⟩
theorem At.putLst {p : Addr} (A : At K Fr Hs ρ σ H) (h : lstAt ρ i = some ds) (hσ : σ[i]? = some (some (.ref p))) (r : Rps K Hs xs' ds') : At K Fr Hs (putAt ρ i ds') σ (upd H p (.lst xs')) := by
  unfold lstAt at h
  cases e : ρ[i]? with
  | none => rw [e] at h; cases h
  | some s =>
    obtain ⟨o, e1, e2⟩ := zip_get A.len e
    rw [hσ] at e1
    cases e1
    have hi : i < (ρ.zip σ).length := (List.getElem?_eq_some_iff.mp e2).1
    have R := A.rs.focus e2
    have go : ∀ s' : Sl, own1 (s, some (.ref p)) = [p] → own1 (s', some (.ref p)) = [p] → SlR K Hs (upd H p (.lst xs')) s' (some (.ref p)) → At K Fr Hs (ρ.set i s') σ (upd H p (.lst xs')) := by
      intro s' o1 o2 hs'
      have nd := R.nd
      rw [List.flatMap_cons, o1] at nd
      have np : p ∉ ((ρ.zip σ).set i (.un, none)).flatMap own1 := (List.nodup_cons.mp nd).1
      have hw := R.ow p (by rw [List.flatMap_cons, o1]; exact List.mem_cons_self)
      have R' : RS K Fr Hs (upd H p (.lst xs')) ((s', some (.ref p)) :: (ρ.zip σ).set i (.un, none)) := by
        refine ⟨fun b u q => ?_, fun b u q => ?_, R.dj, fun z hz => ?_, ?_, ?_⟩
        · rw [upd_ne (ne_of_none q hw.1)]; exact R.hs b u q
        · rw [upd_ne (ne_of_none q hw.2)]; exact R.fr b u q
        · rcases List.mem_cons.mp hz with z1 | z1
          · rw [z1]; exact hs'
          · refine (R.sl z (List.mem_cons_of_mem _ z1)).mono (.refl _) fun q hq u e => ?_
            have nq : q ≠ p := fun c => np (List.mem_flatMap.mpr ⟨z, z1, c ▸ hq⟩)
            rw [upd_ne nq]; exact e
        · rw [List.flatMap_cons, o2]; exact nd
        · rw [List.flatMap_cons, o2]
          have := R.ow
          rw [List.flatMap_cons, o1] at this
          exact this
      have R2 := R'.unfocus hi
      rw [zip_set_l hσ] at R2
      exact ⟨by rw [List.length_set]; exact A.len, R2⟩
    unfold putAt
    rw [e] at h ⊢
    cases s with
    | un => cases h
    | sh d => cases h
    | od d => cases h
    | ol d => exact go (.ol ds') rfl rfl ⟨p, xs', rfl, upd_same, r⟩
    | io q d =>
      obtain ⟨vs, e3, h1, h2⟩ := R.head
      cases e3
      exact go (.io p ds') rfl rfl ⟨xs', rfl, upd_same, r⟩
end
section
variable {X : Cx} {e : Expr} {es : List Expr} {name x : Str} {px apos cpos : Pos} {id : String} {f : FM} {t : TFD}
theorem de_mut (i : Nat) (slot : Slot "list" name id) (hty : typeOf (.builtin id) = pure (.type "method_descriptor")) (hm : MutD X id f) (ha : DFs X (e :: es) t)
    (hN : X.N[i]? = some x := by rfl) (hv : Vis X.env.scope x := by first | exact Or.inl rfl | exact Or.inr (Or.inl rfl) | exact Or.inr (Or.inr rfl)) (hd : (x == ("__debug__" : Str)) = false := by decide) (hcd : (x == ("__classdict__" : Str)) = false := by decide)
    (hbase : attributeBase (.Name x px) name X.env (eval (.Name x px) X.env) = eval (.Name x px) X.env := by rfl)
    (hfew : ((backTo cpos (starEach (e :: es) X.env)).all (fun x => !x.1) && (backToKw cpos (keywordEach [] X.env)).all (fun x => x.1.isSome)
      && decide ((e :: es).length + ([] : List Keyword).length + (if ([] : List Keyword).isEmpty then 0 else 1) < 30)) = true := by rfl)
    (hline : (apos.endLine == cpos.line) = true := by rfl) (hs : starEach (e :: es) X.env = (false, eval e X.env) :: starEach es X.env := by rfl) (hplain : (backTo cpos (starEach es X.env)).any (·.1) = false := by rfl) :
    DE X (.Call (.Attribute (.Name x px) name apos) (e :: es) [] cpos) (dMut i f t) := by
  refine ⟨pe_imp (pe_bm PySem.F.plainAttrs_list slot hty hm (pe_var hN hv hd hcd) ha.pa hbase hfew hline hs hplain) fun σ H Q hq => ?_⟩
  obtain ⟨Fr, Hs, ρ, QD, A, ⟨q0, q⟩, g⟩ := hq
  obtain ⟨d0, q0⟩ := Option.isSome_iff_exists.mp q0
  obtain ⟨p0, xs0, e0, h0, r0⟩ := A.lst q0
  refine ⟨_, e0, .inl ⟨rfl, _, .inl (.inl h0)⟩, Fr, Hs, ρ, _, A, q, fun as ρ1 Hs1 H1 vs q1 s1 A1 r1 => ?_⟩
  obtain ⟨ds, hl, hf⟩ := q1
  obtain ⟨p, xs, e1, h1, r2⟩ := A1.lst hl
  rw [e0] at e1
  cases e1
  refine ⟨p0, xs, Hs1, ds, as, _, rfl, h1, A1.rs.hs, r2, r1, hf, fun d ds' hk v xs' rv rx => ?_⟩
  have A2 := A1.putLst hl e0 rx
  exact g _ _ Hs1 _ v hk A2.len s1 (A2.rs.add ⟨v, rfl, rv⟩ rfl)
theorem de_mut0 (i : Nat) (slot : Slot "list" name id) (hty : typeOf (.builtin id) = pure (.type "method_descriptor")) (hm : MutD X id f)
    (hN : X.N[i]? = some x := by rfl) (hv : Vis X.env.scope x := by first | exact Or.inl rfl | exact Or.inr (Or.inl rfl) | exact Or.inr (Or.inr rfl)) (hd : (x == ("__debug__" : Str)) = false := by decide) (hcd : (x == ("__classdict__" : Str)) = false := by decide)
    (hbase : attributeBase (.Name x px) name X.env (eval (.Name x px) X.env) = eval (.Name x px) X.env := by rfl) (hline : (apos.endLine == cpos.line) = true := by rfl) :
    DE X (.Call (.Attribute (.Name x px) name apos) [] [] cpos) (dMut i f fNil) := by
  refine ⟨pe_imp (pe_bm0 PySem.F.plainAttrs_list slot hty hm (pe_var hN hv hd hcd) hbase hline) fun σ H Q hq => ?_⟩
  obtain ⟨Fr, Hs, ρ, QD, A, ⟨q0, ds, hl, hf⟩, g⟩ := hq
  obtain ⟨p, xs, e0, h0, r0⟩ := A.lst hl
  refine ⟨_, e0, .inl ⟨rfl, _, .inl (.inl h0)⟩, p, xs, Hs, ds, [], _, rfl, h0, A.rs.hs, r0, .nil, hf, fun d ds' hk v xs' rv rx => ?_⟩
  have A2 := A.putLst hl e0 rx
  exact g _ _ Hs _ v hk A2.len (.refl _) (A2.rs.add ⟨v, rfl, rv⟩ rfl)
end

/-! ### statements -/
structure DEn where
  nx : Ev → Prop
  rt : Sl → Ev → Prop
  bk : Ev → Prop := fun _ => False
  ct : Ev → Prop := fun _ => False
abbrev TSD := DEn → Ev → Prop
def lS (K : Fg) (t : TSD) : TS := fun D σ H => ∃ (Fr Hs : Hp) (ρ : Ev) (E : DEn), At K Fr Hs ρ σ H ∧ t E ρ ∧
  (∀ ρ' σ' Hs' H', E.nx ρ' → Same Hs Hs' → At K Fr Hs' ρ' σ' H' → D.nx σ' H') ∧
  (∀ s ρ' σ' Hs' H' v, E.rt s ρ' → Same Hs Hs' → ρ'.length = σ'.length → RS K Fr Hs' H' ((s, some v) :: ρ'.zip σ') → D.rt v H') ∧
  (∀ ρ' σ' Hs' H', E.bk ρ' → Same Hs Hs' → At K Fr Hs' ρ' σ' H' → D.bk σ' H') ∧
  (∀ ρ' σ' Hs' H', E.ct ρ' → Same Hs Hs' → At K Fr Hs' ρ' σ' H' → D.ct σ' H')
structure DS (X : Cx) (st : Stmt) (t : TSD) : Prop where
  ps : PS X st (lS X.K t)
structure DSs (X : Cx) (st : List Stmt) (t : TSD) : Prop where
  ps : PSs X st (lS X.K t)
theorem ps_imp {X : Cx} {st : Stmt} {t t' : TS} (h : PS X st t) (f : ∀ D σ H, t' D σ H → t D σ H) : PS X st t' := ⟨fun pins s σ H D I q => h.run pins s σ H D I (f D σ H q)⟩
theorem pss_imp {X : Cx} {st : List Stmt} {t t' : TS} (h : PSs X st t) (f : ∀ D σ H, t' D σ H → t D σ H) : PSs X st t' := ⟨fun pins s σ H D I q => h.run pins s σ H D I (f D σ H q)⟩
def sNext : TSD := fun E ρ => E.nx ρ
def sSeq (t u : TSD) : TSD := fun E ρ => t { E with nx := u E } ρ
def sDrop (t : TD) : TSD := fun E ρ => t ρ fun _ ρ1 => E.nx ρ1
def sRet (t : TD) : TSD := fun E ρ => t ρ E.rt
def sRetN : TSD := fun E ρ => E.rt (.sh .none) ρ
def sIf (c : TTD) (t u : TSD) : TSD := fun E ρ => c ρ fun b ρ1 => if b = true then t E ρ1 else u E ρ1
def sNever : TSD := fun _ _ => False
def sBreak : TSD := fun E ρ => E.bk ρ
def sCont : TSD := fun E ρ => E.ct ρ
def notIo : Option Sl → Prop
  | some (.io _ _) => False
  | none => False
  | _ => True
def notIoS : Sl → Prop
  | .io _ _ => False
  | _ => True
def sSet (i : Nat) (t : TD) : TSD := fun E ρ => t ρ fun s ρ1 => notIo ρ1[i]? ∧ E.nx (ρ1.set i s)
/-- return of a name: what it owns is handed on -/
def sRetV (i : Nat) : TSD := fun E ρ => match ρ[i]? with
  | some (.sh d) => E.rt (.sh d) ρ
  | some (.ol ds) => E.rt (.ol ds) (ρ.set i .un)
  | some (.od es) => E.rt (.od es) (ρ.set i .un)
  | _ => False
section
variable {K : Fg} {Fr Hs H : Hp} {ρ : Ev} {σ : St} {i : Nat}
theorem flat_un (l : List (Sl × Option V)) (i : Nat) (x : Sl × Option V) (hx : own1 x = []) : ((l.set i x).flatMap own1).Sublist (l.flatMap own1) := by
  induction l generalizing i with
  | nil => simp
  | cons a r ih =>
    cases i with
    | zero =>
      rw [List.set_cons_zero, List.flatMap_cons, List.flatMap_cons, hx]
      exact List.sublist_append_right _ _
    | succ i =>
      rw [List.set_cons_succ, List.flatMap_cons, List.flatMap_cons]
      exact (List.Sublist.refl _).append (ih i)
theorem flat_same {x y : Sl × Option V} (l : List (Sl × Option V)) (i : Nat) (h : own1 x = own1 y) : (l.set i x).flatMap own1 = (l.set i y).flatMap own1 := by
  induction l generalizing i with
  | nil => simp
  | cons a r ih =>
    cases i with
    | zero => rw [List.set_cons_zero, List.set_cons_zero, List.flatMap_cons, List.flatMap_cons, h]
    | succ i => rw [List.set_cons_succ, List.set_cons_succ, List.flatMap_cons, List.flatMap_cons, ih i]
/-- a name is stored -/
theorem RS.store {s : Sl} {o : Option V} (hl : ρ.length = σ.length) (hi : i < ρ.length) (R : RS K Fr Hs H ((s, o) :: ρ.zip σ)) : At K Fr Hs (ρ.set i s) (σ.set i o) H := by
  refine ⟨by simp [hl], ?_⟩
  rw [← zip_set]
  refine RS.unfocus ?_ (by rw [List.length_zip]; omega)
  have sb := flat_un (ρ.zip σ) i (.un, none) rfl
  refine ⟨R.hs, R.fr, R.dj, fun z hz => ?_, ?_, fun p hp => ?_⟩
  · rcases List.mem_cons.mp hz with e | hz
    · rw [e]; exact R.head
    · rcases mem_set_un hz with hz | hz
      · exact R.sl z (List.mem_cons_of_mem _ hz)
      · rw [hz]; trivial
  · have := R.nd
    rw [List.flatMap_cons] at this ⊢
    exact this.sublist ((List.Sublist.refl _).append sb)
  · refine R.ow p ?_
    rw [List.flatMap_cons] at hp ⊢
    rcases List.mem_append.mp hp with h | h
    · exact List.mem_append_left _ h
    · exact List.mem_append_right _ (sb.subset h)
end
section
variable {X : Cx} {st : Stmt} {rest : List Stmt} {e : Expr} {t : TD} {u v : TSD} {pos : Pos}
theorem dss_nil : DSs X [] sNext := ⟨pss_imp pss_nil fun D σ H ⟨Fr, Hs, ρ, E, A, q, f, _⟩ => f ρ σ Hs H q (.refl _) A⟩
theorem dss_one (h : DS X st u) : DSs X [st] u := ⟨pss_one h.ps⟩
theorem dss_cons (h : DS X st u) (hr : DSs X rest v) : DSs X (st :: rest) (sSeq u v) := by
  refine ⟨pss_imp (pss_cons h.ps hr.ps) fun D σ H hq => ?_⟩
  obtain ⟨Fr, Hs, ρ, E, A, q, f1, f2, f3, f4⟩ := hq
  refine ⟨Fr, Hs, ρ, { E with nx := v E }, A, q, fun ρ1 σ1 Hs1 H1 q1 s1 A1 => ?_, f2, f3, f4⟩
  exact ⟨Fr, Hs1, ρ1, E, A1, q1, fun ρ2 σ2 Hs2 H2 q2 s2 A2 => f1 _ _ _ _ q2 (s1.trans s2) A2, fun s ρ2 σ2 Hs2 H2 w q2 s2 l2 R2 => f2 _ _ _ _ _ _ q2 (s1.trans s2) l2 R2,
    fun ρ2 σ2 Hs2 H2 q2 s2 A2 => f3 _ _ _ _ q2 (s1.trans s2) A2, fun ρ2 σ2 Hs2 H2 q2 s2 A2 => f4 _ _ _ _ q2 (s1.trans s2) A2⟩
theorem ds_never : DS X st sNever := ⟨⟨fun _ _ _ _ _ _ h => (by obtain ⟨_, _, _, _, _, q, _⟩ := h; exact q.elim)⟩⟩
theorem ds_pass : DS X (.Pass pos) sNext := ⟨ps_imp ps_pass fun D σ H ⟨Fr, Hs, ρ, E, A, q, f, _⟩ => f ρ σ Hs H q (.refl _) A⟩
theorem ds_break : DS X (.Break pos) sBreak := ⟨ps_imp ps_break fun D σ H ⟨Fr, Hs, ρ, E, A, q, _, _, f, _⟩ => f ρ σ Hs H q (.refl _) A⟩
theorem ds_continue : DS X (.Continue pos) sCont := ⟨ps_imp ps_continue fun D σ H ⟨Fr, Hs, ρ, E, A, q, _, _, _, f⟩ => f ρ σ Hs H q (.refl _) A⟩
theorem ds_expr (h : DE X e t) (hs : swapsWith e none pos.line X.env = pure false := by rfl) : DS X (.Expr e pos) (sDrop t) := by
  refine ⟨ps_imp (ps_expr h.pe hs) fun D σ H hq => ?_⟩
  obtain ⟨Fr, Hs, ρ, E, A, q, f1, f2, f3, f4⟩ := hq
  exact ⟨Fr, Hs, ρ, _, A, q, fun s ρ1 Hs1 H1 w q1 hl s1 R => f1 ρ1 σ Hs1 H1 q1 s1 ⟨hl, R.tail⟩⟩
theorem ds_ret (h : DE X e t) : DS X (.Return (some e) pos) (sRet t) := by
  refine ⟨ps_imp (ps_ret h.pe) fun D σ H hq => ?_⟩
  obtain ⟨Fr, Hs, ρ, E, A, q, f1, f2, f3, f4⟩ := hq
  exact ⟨Fr, Hs, ρ, _, A, q, fun s ρ1 Hs1 H1 w q1 hl s1 R => f2 s ρ1 σ Hs1 H1 w q1 s1 hl R⟩
theorem ds_retN : DS X (.Return none pos) sRetN := ⟨ps_imp ps_retN fun D σ H ⟨Fr, Hs, ρ, E, A, q, _, f, _⟩ => f _ ρ σ Hs H _ q (.refl _) A.len (A.rs.add ⟨_, rfl, .non⟩ rfl)⟩
theorem ds_retV (i : Nat) {x : Str} {px : Pos} (hN : X.N[i]? = some x := by rfl) (hv : Vis X.env.scope x := by first | exact Or.inl rfl | exact Or.inr (Or.inl rfl) | exact Or.inr (Or.inr rfl)) (hd : (x == ("__debug__" : Str)) = false := by decide)
    (hcd : (x == ("__classdict__" : Str)) = false := by decide) : DS X (.Return (some (.Name x px)) pos) (sRetV i) := by
  refine ⟨ps_imp (ps_ret (pe_var hN hv hd hcd)) fun D σ H hq => ?_⟩
  obtain ⟨Fr, Hs, ρ, E, A, q, f1, f2, f3, f4⟩ := hq
  unfold sRetV at q
  cases e : ρ[i]? with
  | none => rw [e] at q; exact q.elim
  | some s =>
    obtain ⟨o, e1, e2⟩ := zip_get A.len e
    have hi : i < (ρ.zip σ).length := (List.getElem?_eq_some_iff.mp e2).1
    have R := A.rs.focus e2
    rw [e] at q
    have go : ∀ w s', o = some w → own1 (Sl.un, o) = [] → (E.rt s' (ρ.set i .un)) → s' = s → (tRet (tVar i)) D σ H := by
      intro w s' ho _ hq hs
      subst ho hs
      refine ⟨w, e1, f2 s' (ρ.set i .un) σ Hs H w hq (.refl _) (by rw [List.length_set]; exact A.len) ?_⟩
      have fz : ∀ l : List (Sl × Option V), (l.set i (Sl.un, some w)).flatMap own1 = (l.set i (Sl.un, none)).flatMap own1 := fun l => flat_same l i rfl
      have Z : (ρ.set i .un).zip σ = (ρ.zip σ).set i (.un, some w) := (zip_set_l e1).symm
      rw [Z]
      refine ⟨R.hs, R.fr, R.dj, fun z hz => ?_, ?_, ?_⟩
      · rcases List.mem_cons.mp hz with e | hz
        · rw [e]; exact R.head
        · rcases List.mem_or_eq_of_mem_set hz with hz | hz
          · exact A.rs.sl z hz
          · rw [hz]; trivial
      · rw [List.flatMap_cons, fz]; exact R.nd
      · rw [List.flatMap_cons, fz]; exact R.ow
    have hs := A.rs.sl _ (List.mem_of_getElem? e2)
    cases s with
    | un => exact q.elim
    | io p d => exact q.elim
    | sh d =>
      obtain ⟨w, ho, r⟩ := hs
      have ho : o = some w := ho
      subst ho
      exact ⟨w, e1, f2 _ ρ σ Hs H w q (.refl _) A.len (A.rs.add ⟨w, rfl, r⟩ rfl)⟩
    | ol d => obtain ⟨p, _, ho, _⟩ := hs; exact go _ (.ol d) ho rfl q rfl
    | od d => obtain ⟨p, ho, _⟩ := hs; exact go _ (.od d) ho rfl q rfl
theorem ds_if {c : Expr} {a b : List Stmt} {tc : TTD} (hc : DT X c tc) (ha : DSs X a u) (hb : DSs X b v) : DS X (.If c a b pos) (sIf tc u v) := by
  refine ⟨ps_imp (ps_if hc.pt ha.ps hb.ps) fun D σ H hq => ?_⟩
  obtain ⟨Fr, Hs, ρ, E, A, q, f1, f2, f3, f4⟩ := hq
  refine ⟨Fr, Hs, ρ, _, A, q, fun b ρ1 Hs1 H1 q1 s1 A1 => ?_⟩
  have go : ∀ w : TSD, w E ρ1 → lS X.K w D σ H1 := fun w hw =>
    ⟨Fr, Hs1, ρ1, E, A1, hw, fun ρ2 σ2 Hs2 H2 q2 s2 A2 => f1 _ _ _ _ q2 (s1.trans s2) A2, fun s ρ2 σ2 Hs2 H2 w q2 s2 l2 R2 => f2 _ _ _ _ _ _ q2 (s1.trans s2) l2 R2,
      fun ρ2 σ2 Hs2 H2 q2 s2 A2 => f3 _ _ _ _ q2 (s1.trans s2) A2, fun ρ2 σ2 Hs2 H2 q2 s2 A2 => f4 _ _ _ _ q2 (s1.trans s2) A2⟩
  cases b with
  | true => exact go u q1
  | false => exact go v q1
theorem notIo_lt {ρ : Ev} {i : Nat} (h : notIo ρ[i]?) : i < ρ.length := by
  cases e : ρ[i]? with
  | none => rw [e] at h; exact h.elim
  | some s => exact (List.getElem?_eq_some_iff.mp e).1
theorem ds_set (i : Nat) {x : Str} {px : Pos} (hNd : X.N.Nodup) (h : DE X e t) (hi : X.N[i]? = some x := by rfl) (hx : Loc X.env.scope x := by first | exact Or.inl rfl | exact Or.inr rfl)
    (hs : swapsWith e (some (.Name x px)) pos.line X.env = pure false := by rfl) (hf : X.fn x = true ∨ X.env.scope.names.lookup x = some .local := by first | exact .inl rfl | exact .inr rfl) : DS X (.Assign [.Name x px] e pos) (sSet i t) := by
  refine ⟨ps_imp (ps_set hNd hi hx h.pe hs hf) fun D σ H hq => ?_⟩
  obtain ⟨Fr, Hs, ρ, E, A, q, f1, f2, f3, f4⟩ := hq
  exact ⟨Fr, Hs, ρ, _, A, q, fun s ρ1 Hs1 H1 w q1 hl s1 R => f1 _ _ Hs1 H1 q1.2 s1 (R.store hl (notIo_lt q1.1))⟩
end
/-! ### calls of defs -/
abbrev FS := List Sl → (Sl → List (Addr × List Dat) → Prop) → Prop
def ioP (x : Addr × List Dat) : Sl × Option V := (.io x.1 x.2, some (.ref x.1))
def iosOf : Ev → List (Addr × List Dat)
  | [] => []
  | .io p ds :: r => (p, ds) :: iosOf r
  | _ :: r => iosOf r
structure GFn (P : Program) (w : World) (K : Fg) (mg : Str → Option Value) (base : Heap) (k : Nat) (f : Addr) (fd : FuncData) (ps : List Str) (spec : FS) : Prop where
  run : ∀ (A : Around) (outer : List Env) (s : Shared) (H : Hp) (args : Args) (us : List Value) (vs : List V) (Q : VK) (Fr Hs : Hp) (as : List Sl) (QD : Sl → List (Addr × List Dat) → Prop),
    Room k A → A.guards = some [] → Env0 P w K mg base A outer s H → BindsTo s fd args (ps.zip us) → Vals vs us → as.length = ps.length → vs.length = ps.length → RS K Fr Hs H (as.zip (vs.map some)) → spec as QD →
    (∀ s ios Hs' H' v, QD s ios → Same Hs Hs' → RS K Fr Hs' H' ((s, some v) :: ios.map ioP) → Q v H') → codeAny (model P w) A (.call (.ref f) args) (CR CX0 outer P w H s Q E0) s
theorem GFn.mono {P : Program} {w : World} {K : Fg} {mg : Str → Option Value} {base : Heap} {j k : Nat} {f : Addr} {fd : FuncData} {ps : List Str} {spec : FS} (F : GFn P w K mg base j f fd ps spec) (h : j ≤ k) : GFn P w K mg base k f fd ps spec :=
  ⟨fun A outer s H args us vs Q Fr Hs as QD hr => F.run A outer s H args us vs Q Fr Hs as QD (hr.mono h)⟩
theorem iosOf_sub {K : Fg} {Hs H : Hp} : ∀ {ρ : Ev} {σ : St}, (∀ x ∈ ρ.zip σ, SlR K Hs H x.1 x.2) → ρ.length = σ.length →
    (∀ x ∈ (iosOf ρ).map ioP, x ∈ ρ.zip σ) ∧ (((iosOf ρ).map ioP).flatMap own1).Sublist ((ρ.zip σ).flatMap own1)
  | [], _, _, _ => ⟨fun x hx => by simp [iosOf] at hx, by simp [iosOf]⟩
  | _ :: _, [], _, hl => by simp at hl
  | s :: ρ, o :: σ, h, hl => by
    have ih := iosOf_sub (ρ := ρ) (σ := σ) (fun x hx => h x (by rw [List.zip_cons_cons]; exact List.mem_cons_of_mem _ hx)) (by simpa using hl)
    have other : (iosOf (s :: ρ) = iosOf ρ) → (∀ x ∈ (iosOf (s :: ρ)).map ioP, x ∈ (s :: ρ).zip (o :: σ)) ∧ (((iosOf (s :: ρ)).map ioP).flatMap own1).Sublist (((s :: ρ).zip (o :: σ)).flatMap own1) := by
      intro e
      rw [e, List.zip_cons_cons]
      refine ⟨fun x hx => List.mem_cons_of_mem _ (ih.1 x hx), ?_⟩
      rw [List.flatMap_cons]
      exact ih.2.trans (List.sublist_append_right _ _)
    cases s with
    | un => exact other rfl
    | sh d => exact other rfl
    | ol d => exact other rfl
    | od d => exact other rfl
    | io p ds =>
      obtain ⟨vs, e, _⟩ := h _ (by rw [List.zip_cons_cons]; exact List.mem_cons_self)
      have e : o = some (.ref p) := e
      subst e
      rw [List.zip_cons_cons]
      refine ⟨fun x hx => ?_, ?_⟩
      · rcases List.mem_cons.mp (show x ∈ ioP (p, ds) :: (iosOf ρ).map ioP from hx) with z | z
        · rw [z]; exact List.mem_cons_self
        · exact List.mem_cons_of_mem _ (ih.1 x z)
      · rw [List.flatMap_cons]
        show ((ioP (p, ds) :: (iosOf ρ).map ioP).flatMap own1).Sublist _
        rw [List.flatMap_cons]
        exact (List.Sublist.refl _).append ih.2
theorem ret_ios {K : Fg} {Fr Hs H : Hp} {ρ : Ev} {σ : St} {x : Sl × Option V} (hl : ρ.length = σ.length) (R : RS K Fr Hs H (x :: ρ.zip σ)) : RS K Fr Hs H (x :: (iosOf ρ).map ioP) := by
  obtain ⟨h1, h2⟩ := iosOf_sub (fun z hz => R.sl z (List.mem_cons_of_mem _ hz)) hl
  refine R.sub (fun z hz => ?_) ?_
  · rcases List.mem_cons.mp hz with e | hz
    · rw [e]; exact List.mem_cons_self
    · exact List.mem_cons_of_mem _ (h1 z hz)
  · have := R.nd
    rw [List.flatMap_cons] at this ⊢
    exact this.sublist ((List.Sublist.refl _).append h2)

theorem deeper_guards (A : Around) (env : Env) : (A.deeper env).guards = A.guards := by first | rfl | simp [Around.deeper]
theorem start_env {N : List Str} {vs : List V} {as : List Sl} (ha : as.length = vs.length) (hn : vs.length ≤ N.length) :
    (as ++ List.replicate (N.length - as.length) Sl.un).length = (L2.start N vs).length := by
  unfold L2.start
  simp only [List.length_append, List.length_replicate, List.length_map]
  omega
theorem flat_uns : ∀ (n : Nat) (os : List (Option V)), ((List.replicate n Sl.un).zip os).flatMap own1 = []
  | 0, _ => by simp
  | n + 1, [] => by simp
  | n + 1, o :: os => by
    rw [List.replicate_succ, List.zip_cons_cons, List.flatMap_cons, flat_uns n os]
    rfl
theorem RS.start {K : Fg} {Fr Hs H : Hp} {N : List Str} {vs : List V} {as : List Sl} (ha : as.length = vs.length) (hn : vs.length ≤ N.length) (R : RS K Fr Hs H (as.zip (vs.map some))) :
    At K Fr Hs (as ++ List.replicate (N.length - as.length) .un) (L2.start N vs) H := by
  refine ⟨start_env ha hn, ?_⟩
  have e : (as ++ List.replicate (N.length - as.length) Sl.un).zip (L2.start N vs) = as.zip (vs.map some) ++ (List.replicate (N.length - as.length) Sl.un).zip (List.replicate (N.length - vs.length) (none : Option V)) := by
    unfold L2.start
    rw [List.zip_append (by simp [ha])]
  have fl : (as.zip (vs.map some) ++ (List.replicate (N.length - as.length) Sl.un).zip (List.replicate (N.length - vs.length) (none : Option V))).flatMap own1 = (as.zip (vs.map some)).flatMap own1 := by
    rw [List.flatMap_append, flat_uns, List.append_nil]
  rw [e]
  refine ⟨R.hs, R.fr, R.dj, fun x hx => ?_, by rw [fl]; exact R.nd, by rw [fl]; exact R.ow⟩
  rcases List.mem_append.mp hx with hx | hx
  · exact R.sl x hx
  · obtain ⟨s, o⟩ := x
    have : s = .un := (List.mem_replicate.mp (List.of_mem_zip hx).1).2
    subst this
    trivial
/-- the place of a def's body -/
abbrev XD (P : Program) (w : World) (K : Fg) (mg : Str → Option Value) (base : Heap) (N : List Str) (qual : Str) (st : Stmt) (f : Addr) (cdv : Value) (A : Around) (outer : List Env) (s : Shared) (H : Hp) : Cx :=
  (cxOf CX0 P w K mg base N qual (defScope st) f cdv A outer s H E0).nox
/-- the body keeps the promise -/
theorem fn_ok {P : Program} {w : World} {K : Fg} {mg : Str → Option Value} {base : Heap} {k : Nat} {x qual : Str} {st : Stmt} {f : Addr} {fd : FuncData} {N ps : List Str} {spec : FS} {t : TSD}
    (F : Fun K x qual st f fd) (S : FnScope N ps (defScope st))
    (hb : ∀ (cdv : Value) (A : Around) (outer : List Env) (s : Shared) (H : Hp), (A.deeper (envOfC qual (defScope st) s.heap.objs.size f cdv)).guards = some [] → Room k (A.deeper (envOfC qual (defScope st) s.heap.objs.size f cdv)) → DSs (XD P w K mg base N qual st f cdv A outer s H) (defBody st) t)
    (hs : ∀ as QD, spec as QD → as.length = ps.length → t { nx := fun ρ => QD (.sh .none) (iosOf ρ), rt := fun s ρ => QD s (iosOf ρ) } (as ++ List.replicate (N.length - ps.length) .un)) :
    GFn P w K mg base (k + 1) f fd ps spec := by
  obtain ⟨oc, od, kV, doc, pm, an, cdv, ct, osl, rfl, lk, hcd⟩ := F.ex
  refine ⟨fun A outer s H args us vs Q Fr Hs as QD room gd en bd rv la lv R sp fin => ?_⟩
  have kin : K.In s.heap := en.mod.kin.keeps fun b o q => (en.bs b o q).1
  have nolim : s.heap.NoLimit := en.mod.nolimit.keeps fun b o q => (en.bs b o q).1
  have pl : ps.length ≤ N.length := by
    have := congrArg List.length S.pre
    rw [List.length_take] at this
    omega
  have kinds : ∀ y ∈ ps.zip us, (defScope st).names.lookup y.1 = some .local ∨ ((defScope st).names.lookup y.1 = some .cell ∧ ((cellsFrom (s.heap.objs.size + 1) (defScope st).names []).lookup y.1).isSome = true) := by
    rintro ⟨n, v⟩ hy
    exact (S.par n (List.of_mem_zip hy).1).imp id fun q => ⟨q, PySem.W.cellsFrom_some _ _ _ (.inl q)⟩
  refine codeAny_call_function room.depth (kin _ _ lk) rfl S.co S.gen rfl (PySem.W.codeRec_of kin hcd) (bd _ _ _ _ ?_)
  refine wpAny_newFunctionEnv_cells S.kind kinds fun en2 he s1 ic => ?_
  subst he
  refine ⟨nolim.keeps ic.toInCall.keep, codeAny_func ?_⟩
  let X0 : Cx := cxOf CX0 P w K mg base N qual (defScope st) f cdv A outer s H E0
  have I : Inv X0 [] (L2.start N vs) H s1 := inv_start S room.hd en lv rv ic
  have D : DSs X0.nox (defBody st) t := hb cdv A outer s H (by rw [deeper_guards]; exact gd) (room.deeper _)
  have AT : At K Fr Hs (as ++ List.replicate (N.length - as.length) .un) (L2.start N vs) H := RS.start (by omega) (by omega) R
  have ht := hs as QD sp la
  rw [← la] at ht
  let E : Ends := { nx := fun _ H' => Q .non H', rt := Q }
  have lifted : lS K t E (L2.start N vs) H := by
    refine ⟨Fr, Hs, _, _, AT, ht, fun ρ1 σ1 Hs1 H1 q1 ss A1 => ?_, fun z ρ1 σ1 Hs1 H1 v q1 ss l1 R1 => ?_, fun _ _ _ _ z => z.elim, fun _ _ _ _ z => z.elim⟩
    · exact fin _ _ Hs1 H1 .non q1 ss (ret_ios A1.len (A1.rs.add ⟨_, rfl, .non⟩ rfl))
    · exact fin z _ Hs1 H1 v q1 ss (ret_ios l1 R1)
  refine wpAny_mono (D.ps.nox.run [] s1 (L2.start N vs) H E I lifted) (fun fl s2 hf => ?_) fun e s2 he => he
  cases fl with
  | next => obtain ⟨σ2, H2, J, q⟩ := hf; exact ⟨V.non, H2, J.os, J.bare, J.base, J.hok, rfl, q⟩
  | ret u => obtain ⟨v, σ2, H2, J, r, q⟩ := hf; exact ⟨v, H2, J.os, J.bare, J.base, J.hok, r, q⟩
  | brk => obtain ⟨_, _, _, q⟩ := hf; exact q.elim
  | cont => obtain ⟨_, _, _, q⟩ := hf; exact q.elim

/-! ### entering and leaving a callee -/
open Classical in
noncomputable def foreign (Hs H : Hp) (ls : List Addr) : Hp := fun q => if q ∈ ls then none else if H q = Hs q then none else H q
theorem frz_ne (b : Obj) : ∀ u : HO, HO.frz b u ≠ u := by
  intro u e
  have := congrArg sizeOf e
  simp at this
theorem foreign_some {Hs H : Hp} {ls : List Addr} {q : Addr} {o : HO} (h : foreign Hs H ls q = some o) : q ∉ ls ∧ H q ≠ Hs q ∧ H q = some o := by
  unfold foreign at h
  split at h
  · cases h
  · rename_i h1
    split at h
    · cases h
    · rename_i h2
      exact ⟨h1, h2, h⟩
theorem foreign_of {Hs H : Hp} {ls : List Addr} {q : Addr} (h1 : q ∉ ls) (h2 : H q ≠ Hs q) : foreign Hs H ls q = H q := by
  unfold foreign
  rw [if_neg h1, if_neg h2]
theorem foreign_same {Hs H : Hp} {ls : List Addr} : Same (foreign Hs H ls) H := fun q o h => (foreign_some h).2.2
theorem foreign_dj {Hs H : Hp} {ls : List Addr} (s : Sub Hs H) : ∀ p o, foreign Hs H ls p = some o → Hs p = none ∨ ∃ b u, o = .frz b u ∧ Hs p = some u := by
  intro p o h
  obtain ⟨_, h2, h3⟩ := foreign_some h
  cases e : Hs p with
  | none => exact .inl rfl
  | some u =>
    rcases s p u e with h | ⟨_, b, h⟩
    · exact absurd (h.trans e.symm) h2
    · rw [h3] at h
      cases h
      exact .inr ⟨b, u, rfl, rfl⟩
section
variable {K : Fg} {Fr Hs H Hs' H' : Hp} {l lent : List (Sl × Option V)}
theorem RS.enter (s : Sub Hs H) {ls : List Addr} {m : List (Sl × Option V)} (hm : ∀ x ∈ m, SlR K Hs H x.1 x.2) (nd : (m.flatMap own1).Nodup) (ow : ∀ p ∈ m.flatMap own1, Hs p = none ∧ p ∈ ls) : RS K (foreign Hs H ls) Hs H m :=
  ⟨s, foreign_same, foreign_dj s, hm, nd, fun p hp => ⟨(ow p hp).1, by unfold foreign; rw [if_pos (ow p hp).2]⟩⟩
theorem RS.leave {x : Sl × Option V} {ios : List (Addr × List Dat)} (R : RS K Fr Hs H (lent ++ l)) (ss : Same Hs Hs') (R' : RS K (foreign Hs H (ios.map (·.1))) Hs' H' (x :: ios.map ioP)) (hls : lent.flatMap own1 = ios.map (·.1)) :
    RS K Fr Hs' H' (x :: (ios.map ioP ++ l)) := by
  have onl : ∀ q ∈ l.flatMap own1, q ∉ ios.map (·.1) := by
    intro q hq hi
    have nd := R.nd
    rw [List.flatMap_append, hls] at nd
    exact (List.nodup_append.mp nd).2.2 q hi q hq rfl
  have frf : ∀ q o, Fr q = some o → foreign Hs H (ios.map (·.1)) q = some o := by
    intro q o h
    have n1 : q ∉ ios.map (·.1) := fun hi => by
      have := (R.ow q (by rw [List.flatMap_append, hls]; exact List.mem_append_left _ hi)).2
      rw [h] at this
      cases this
    have h1 := R.fr q o h
    rw [foreign_of n1]
    · exact h1
    · intro e
      rw [h1] at e
      rcases R.dj q o h with z | ⟨b, u, rfl, z⟩
      · rw [z] at e; cases e
      · rw [z] at e
        exact frz_ne b u (Option.some.inj e)
  have own_l : ∀ q ∈ l.flatMap own1, ∃ o, foreign Hs H (ios.map (·.1)) q = some o ∧ H q = some o ∧ Mut (some o) := by
    intro q hq
    have hq' : q ∈ (lent ++ l).flatMap own1 := by rw [List.flatMap_append]; exact List.mem_append_right _ hq
    obtain ⟨o, e, m⟩ := R.there hq'
    refine ⟨o, ?_, e, m⟩
    rw [foreign_of (onl q hq)]
    · exact e
    · rw [e, (R.ow q hq').1]
      exact fun z => by cases z
  have io_own : (ios.map ioP).flatMap own1 = ios.map (·.1) := by
    clear R R' hls onl frf own_l
    induction ios with
    | nil => rfl
    | cons a r ih => rw [List.map_cons, List.flatMap_cons, ih]; rfl
  refine ⟨R'.hs, fun q o h => R'.fr q o (frf q o h), fun q o h => R'.dj q o (frf q o h), fun z hz => ?_, ?_, fun q hq => ?_⟩
  · rcases List.mem_cons.mp hz with e | hz
    · rw [e]; exact R'.head
    · rcases List.mem_append.mp hz with hz | hz
      · exact R'.sl z (List.mem_cons_of_mem _ hz)
      · refine (R.sl z (List.mem_append_right _ hz)).mono (.of ss) fun q hq u e => ?_
        obtain ⟨o, h1, h2, _⟩ := own_l q (List.mem_flatMap.mpr ⟨z, hz, hq⟩)
        rw [h2] at e
        cases e
        exact R'.fr q u h1
  · have nd' := R'.nd
    rw [List.flatMap_cons] at nd' ⊢
    rw [List.flatMap_append, ← List.append_assoc]
    refine List.nodup_append.mpr ⟨nd', ?_, fun a ha b hb e => ?_⟩
    · have := R.nd
      rw [List.flatMap_append] at this
      exact (List.nodup_append.mp this).2.1
    · subst e
      obtain ⟨o, h1, _⟩ := own_l a hb
      have := (R'.ow a (by rw [List.flatMap_cons]; exact ha)).2
      rw [h1] at this
      cases this
  · rw [List.flatMap_cons, List.flatMap_append, ← List.append_assoc] at hq
    rcases List.mem_append.mp hq with hq | hq
    · obtain ⟨h1, h2⟩ := R'.ow q (by rw [List.flatMap_cons]; exact hq)
      refine ⟨h1, ?_⟩
      cases e : Fr q with
      | none => rfl
      | some o => rw [frf q o e] at h2; cases h2
    · obtain ⟨o, h1, h2, m⟩ := own_l q hq
      refine ⟨?_, (R.ow q (by rw [List.flatMap_append]; exact List.mem_append_right _ hq)).2⟩
      rcases R'.dj q o h1 with z | ⟨b, u, rfl, _⟩
      · exact z
      · exact absurd m (fun z => z)
theorem RS.perm {m : List (Sl × Option V)} (R : RS K Fr Hs H l) (p : l.Perm m) : RS K Fr Hs H m := by
  have p2 := p.flatMap_right own1
  exact ⟨R.hs, R.fr, R.dj, fun z hz => R.sl z (p.mem_iff.mpr hz), p2.nodup_iff.mp R.nd, fun q hq => R.ow q (p2.mem_iff.mpr hq)⟩
theorem RS.swap {x y : Sl × Option V} (R : RS K Fr Hs H (x :: l)) (ho : own1 y = own1 x) (h : SlR K Hs H y.1 y.2) : RS K Fr Hs H (y :: l) := by
  refine ⟨R.hs, R.fr, R.dj, fun z hz => ?_, ?_, ?_⟩
  · rcases List.mem_cons.mp hz with e | hz
    · rw [e]; exact h
    · exact R.sl z (List.mem_cons_of_mem _ hz)
  · rw [List.flatMap_cons, ho, ← List.flatMap_cons]; exact R.nd
  · rw [List.flatMap_cons, ho, ← List.flatMap_cons]; exact R.ow
end
/-- a call with frozen arguments -/
def dFn (spec : FS) (n : Nat) (t : TFD) : TD := fun ρ Q => t ρ fun ds ρ1 => ds.length = n ∧ spec (ds.map .sh) fun s ios => ios = [] ∧ Q s ρ1
/-- .. and with keywords: g lays all values in the parameters' order -/
def dFnK (spec : FS) (n : Nat) (g : List Dat → List Dat → List Dat) (t tk : TFD) : TD := fun ρ Q => t ρ fun ds ρ1 => tk ρ1 fun es ρ2 => (g ds es).length = n ∧ spec ((g ds es).map .sh) fun s ios => ios = [] ∧ Q s ρ2
/-- the first argument is a name's list, lent -/
def dFnB (spec : FS) (n i : Nat) (t : TFD) : TD := fun ρ Q => (lstAt ρ i).isSome = true ∧ t ρ fun ds ρ1 => ds.length + 1 = n ∧ ∃ xs, lstAt ρ1 i = some xs ∧ ∀ p, (∀ q ys, ρ1[i]? = some (.io q ys) → q = p) →
  spec (.io p xs :: ds.map .sh) fun s ios => ∃ xs', ios = [(p, xs')] ∧ Q s (putAt ρ1 i xs')
section
variable {X : Cx} {k : Nat} {f : Addr} {fd : FuncData} {ps : List Str} {spec : FS} {x : Str} {p pos : Pos} {e : Expr} {es : List Expr} {t : TFD}
/-- the callee runs -/
theorem run_def {pins : List (Addr × Obj)} {σ : St} {H : Hp} {s : Shared} {us : List Value} {vs : List V} {Q : VK} {args : Args} {Fr Hs : Hp} {as : List Sl} {QD : Sl → List (Addr × List Dat) → Prop}
    (F : GFn X.prog X.w X.K X.mg X.base k f fd ps spec) (hr : Room k X.A) (hg : X.A.guards = some []) (I : Inv X pins σ H s) (hb : BindsTo s fd args (ps.zip us)) (r : Vals vs us) (h1 : as.length = ps.length) (h2 : vs.length = ps.length)
    (R : RS X.K Fr Hs H (as.zip (vs.map some))) (sp : spec as QD) (fin : ∀ z ios Hs' H' v, QD z ios → Same Hs Hs' → RS X.K Fr Hs' H' ((z, some v) :: ios.map ioP) → Q v H') :
    codeAny (model X.prog X.w) X.A (.call (.ref f) args) (fun r s' => match r with | .ok (.ret u) => EP X pins σ Q u s' | _ => False) s := by
  refine codeAny_mono (F.run X.A X.stack s H args us vs Q Fr Hs as QD hr hg I.env0 hb r h1 h2 R sp fin) fun r s2 hq => ?_
  cases r with
  | error e => exact hq.elim
  | ok fl =>
    cases fl with
    | ret u => exact I.after hq
    | next => exact hq.elim
    | brk => exact hq.elim
    | cont => exact hq.elim
end

section
variable {X : Cx} {k n : Nat} {f : Addr} {fd : FuncData} {ps ks : List Str} {spec : FS} {x y : Str} {p pos py kpos : Pos} {e : Expr} {es : List Expr} {t tk : TFD} {kws : List Keyword}
theorem sh_own : ∀ (vs : List V) (ds : List Dat), (((ds.map Sl.sh).zip (vs.map some)).flatMap own1) = [] := by
  intro vs
  induction vs with
  | nil => intro ds; simp
  | cons v vs ih =>
    intro ds
    cases ds with
    | nil => simp
    | cons d ds => rw [List.map_cons, List.map_cons, List.zip_cons_cons, List.flatMap_cons, ih]; rfl
theorem sh_zip {K : Fg} {Fr Hs H : Hp} {l : List (Sl × Option V)} (R : RS K Fr Hs H l) {vs : List V} {ds : List Dat} (r : Rps K Hs vs ds) : RS K (foreign Hs H []) Hs H ((ds.map Sl.sh).zip (vs.map some)) := by
  have own := sh_own
  refine RS.enter R.hs (fun z hz => ?_) (by rw [own]; exact List.nodup_nil) (fun q hq => by rw [own] at hq; cases hq)
  clear own
  revert hz
  revert r
  revert vs
  induction ds with
  | nil => intro vs r hz; simp at hz
  | cons d ds ih =>
    intro vs r hz
    cases r with
    | cons r1 r2 =>
      rw [List.map_cons, List.map_cons, List.zip_cons_cons] at hz
      rcases List.mem_cons.mp hz with e | hz
      · rw [e]; exact ⟨_, rfl, r1⟩
      · exact ih r2 hz
/-- how a call of a def ends for the caller: frozen arguments -/
theorem call_frozen {pins : List (Addr × Obj)} {σ : St} {H : Hp} {s : Shared} {us : List Value} {vs : List V} {Q : VK} {args : Args} {Fr Hs : Hp} {ρ : Ev} {ds : List Dat} {QD : Sl → Ev → Prop}
    (F : GFn X.prog X.w X.K X.mg X.base k f fd ps spec) (hr : Room k X.A) (hg : X.A.guards = some []) (I : Inv X pins σ H s) (hb : us.length = ps.length → BindsTo s fd args (ps.zip us)) (r : Vals vs us) (hl : ds.length = ps.length)
    (A : At X.K Fr Hs ρ σ H) (rd : Rps X.K Hs vs ds) (sp : spec (ds.map .sh) fun z ios => ios = [] ∧ QD z ρ)
    (fin : ∀ z ρ' Hs' H' v, QD z ρ' → ρ'.length = σ.length → Same Hs Hs' → RS X.K Fr Hs' H' ((z, some v) :: ρ'.zip σ) → Q v H') :
    codeAny (model X.prog X.w) X.A (.call (.ref f) args) (fun r s' => match r with | .ok (.ret u) => EP X pins σ Q u s' | _ => False) s := by
  have l1 := rd.length
  have l2 := r.length
  refine run_def F hr hg I (hb (by omega)) r (by rw [List.length_map]; exact hl) (by omega) (sh_zip A.rs rd) sp fun z ios Hs' H' v hq ss R' => ?_
  obtain ⟨rfl, hq⟩ := hq
  exact fin z ρ Hs' H' v hq A.len ss (RS.leave (lent := []) (ios := []) A.rs ss R' rfl)
theorem call_end {pins : List (Addr × Obj)} {σ : St} {Q : VK} {us : List Value} {kw : List (Str × Value)} {s : Shared}
    (h : codeAny (model X.prog X.w) X.A (.call (.ref f) ⟨us, kw⟩) (fun r s' => match r with | .ok (.ret u) => EP X pins σ Q u s' | _ => False) s) : wpAny (model X.prog X.w) X.A (call (.ref f) us kw) (EP X pins σ Q) X.xe s := by
  refine wpAny_call (codeAny_mono h fun r s2 hq => ?_)
  cases r with
  | error e => exact hq.elim
  | ok fl =>
    cases fl with
    | ret u => exact hq
    | next => exact hq.elim
    | brk => exact hq.elim
    | cont => exact hq.elim
/-- the frozen arguments have come -/
def Come (X : Cx) (pins : List (Addr × Obj)) (σ : St) (Fr Hs : Hp) (QD : List Dat → Ev → Prop) (us : List Value) (s1 : Shared) : Prop :=
  ∃ (vs : List V) (H1 Hs1 : Hp) (ρ1 : Ev) (ds : List Dat), Inv X pins σ H1 s1 ∧ Vals vs us ∧ QD ds ρ1 ∧ Same Hs Hs1 ∧ At X.K Fr Hs1 ρ1 σ H1 ∧ Rps X.K Hs1 vs ds
theorem DFs.come (h : DFs X es t) {pins : List (Addr × Obj)} {s : Shared} {σ : St} {H : Hp} {Fr Hs : Hp} {ρ : Ev} {QD : List Dat → Ev → Prop} (I : Inv X pins σ H s) (A : At X.K Fr Hs ρ σ H) (q : t ρ QD) :
    wpAny (model X.prog X.w) X.A (spliced (backTo pos (starEach es X.env))) (Come X pins σ Fr Hs QD) X.xe s := by
  refine thn (h.pa.run pos pins s σ H (fun vs H1 => ∃ (Hs1 : Hp) (ρ1 : Ev) (ds : List Dat), QD ds ρ1 ∧ Same Hs Hs1 ∧ At X.K Fr Hs1 ρ1 σ H1 ∧ Rps X.K Hs1 vs ds) I ⟨Fr, Hs, ρ, QD, A, q, fun ds ρ1 Hs1 H1 vs q1 s1 A1 r1 => ⟨Hs1, ρ1, ds, q1, s1, A1, r1⟩⟩) fun us s1 hq => ?_
  obtain ⟨vs, H1, I1, r, Hs1, ρ1, ds, q1, s1', A1, rd⟩ := hq
  exact ⟨vs, H1, Hs1, ρ1, ds, I1, r, q1, s1', A1, rd⟩
structure DKs (X : Cx) (kws : List Keyword) (t : TFD) : Prop where
  pk : PK X kws (lF X.K t)
theorem dk_nil : DKs X [] fNil := ⟨⟨fun pos pins s σ H Q I ⟨Fr, Hs, ρ, QD, A, q, f⟩ => pk_nil.run pos pins s σ H Q I (f [] ρ Hs H [] q (.refl _) A .nil)⟩⟩
theorem dk_cons {nm : Option Str} {td : TD} (h : DE X e td) (hr : DKs X kws t) : DKs X (⟨nm, e, kpos⟩ :: kws) (fCons td t) := by
  refine ⟨⟨fun pos pins s σ H Q I hq => (pk_cons h.pe hr.pk).run pos pins s σ H Q I ?_⟩⟩
  obtain ⟨Fr, Hs, ρ, QD, A, q, f⟩ := hq
  refine ⟨Fr, Hs, ρ, _, A, q, fun s ρ1 Hs1 H1 v q1 hl s1 R => ?_⟩
  obtain ⟨d, Hs2, hd, s2, R2⟩ := R.frz q1
  obtain ⟨w, e1, r1⟩ := R2.head
  cases e1
  refine ⟨Fr, Hs2, ρ1, _, ⟨hl, R2.tail⟩, hd, fun ds ρ2 Hs3 H3 vs q3 s3 A3 r3 => ?_⟩
  exact f (d :: ds) ρ2 Hs3 H3 (v :: vs) q3 ((s1.trans s2).trans s3) A3 (.cons (r1.mono (.of s3)) r3)
theorem DKs.come (h : DKs X kws t) {pins : List (Addr × Obj)} {s : Shared} {σ : St} {H : Hp} {Fr Hs : Hp} {ρ : Ev} {QD : List Dat → Ev → Prop} (I : Inv X pins σ H s) (A : At X.K Fr Hs ρ σ H) (q : t ρ QD) :
    wpAny (model X.prog X.w) X.A (evalAll ((backToKw pos (keywordEach kws X.env)).map (·.2))) (Come X pins σ Fr Hs QD) X.xe s := by
  refine thn (h.pk.run pos pins s σ H (fun vs H1 => ∃ (Hs1 : Hp) (ρ1 : Ev) (ds : List Dat), QD ds ρ1 ∧ Same Hs Hs1 ∧ At X.K Fr Hs1 ρ1 σ H1 ∧ Rps X.K Hs1 vs ds) I ⟨Fr, Hs, ρ, QD, A, q, fun ds ρ1 Hs1 H1 vs q1 s1 A1 r1 => ⟨Hs1, ρ1, ds, q1, s1, A1, r1⟩⟩) fun us s1 hq => ?_
  obtain ⟨vs, H1, I1, r, Hs1, ρ1, ds, q1, s1', A1, rd⟩ := hq
  exact ⟨vs, H1, Hs1, ρ1, ds, I1, r, q1, s1', A1, rd⟩
theorem binds0 {K : Fg} {us : List Value} {s : Shared} (hb : Binds K fd ps []) (hk : K.In s.heap) (hu : us.length = ps.length) : BindsTo s fd ⟨us, []⟩ (ps.zip us) := by
  have := hb s us hk (by rw [List.append_nil]; exact hu)
  rw [List.append_nil] at this
  exact this
/-- f(a, b) -/
theorem de_fn (F : GFn X.prog X.w X.K X.mg X.base k f fd ps spec) (hr : Room k X.A) (hgd : X.A.guards = some []) (hg : Gl X x) (hm : X.mg x = some (.ref f)) (hk : PySem.W.keepIn X.K (.ref f) = true) (hb : Binds X.K fd ps [])
    (ha : DFs X (e :: es) t) (hn : ps.length = n := by rfl) (hdb : (x == ("__debug__" : Str)) = false := by decide) (he : starEach (e :: es) X.env = (false, eval e X.env) :: starEach es X.env := by rfl) (hpl : (backTo pos (starEach es X.env)).any (·.1) = false := by rfl) :
    DE X (.Call (.Name x p) (e :: es) [] pos) (dFn spec n t) := by
  subst hn
  refine ⟨⟨fun pins s σ H Q I h => ?_⟩⟩
  refine wpAny_Call_Name_kw (ld_glob I hg hm ?_ hdb)
  obtain ⟨Fr, Hs, ρ, QD, A, q, fin⟩ := h
  refine PySem.W.callWith_K (h₀ := X.base) I.ok.mod.kin hk (thn (ha.come I A q) fun us s1 hc => ?_) he hpl
  obtain ⟨vs, H1, Hs1, ρ1, ds, I1, r, ⟨hl, sp⟩, s1', A1, rd⟩ := hc
  exact ⟨I1.kIn, call_end (call_frozen F hr hgd I1 (fun hu => binds0 hb I1.kIn hu) r hl A1 rd sp fun z ρ' Hs' H' v hz l' s' R' => fin z ρ' Hs' H' v hz l' (s1'.trans s') R')⟩
theorem de_fn0 (F : GFn X.prog X.w X.K X.mg X.base k f fd ps spec) (hr : Room k X.A) (hgd : X.A.guards = some []) (hg : Gl X x) (hm : X.mg x = some (.ref f)) (hk : PySem.W.keepIn X.K (.ref f) = true) (hb : Binds X.K fd ps [])
    (hdb : (x == ("__debug__" : Str)) = false := by decide) (hn : ps.length = n := by rfl) : DE X (.Call (.Name x p) [] [] pos) (dFn spec n fNil) := by
  subst hn
  refine ⟨⟨fun pins s σ H Q I h => ?_⟩⟩
  refine wpAny_Call_Name_kw (ld_glob I hg hm ?_ hdb)
  obtain ⟨Fr, Hs, ρ, QD, A, ⟨hl, sp⟩, fin⟩ := h
  exact PySem.W.callWith_K0 I.kIn hk (call_end (call_frozen F hr hgd I (fun hu => binds0 hb I.kIn hu) .nil hl A .nil sp fin))
/-- how keywords are laid in order, for values and data alike -/
structure KwOrd (K : Fg) (fd : FuncData) (ps ks : List Str) (g : {α : Type} → List α → List α → List α) : Prop where
  to : ∀ (s : Shared) (us ws : List Value), K.In s.heap → (g us ws).length = ps.length → BindsTo s fd ⟨us, ks.zip ws⟩ (ps.zip (g us ws))
  vals : ∀ {vs : List V} {us : List Value} {zs : List V} {ws : List Value}, Vals vs us → Vals zs ws → Vals (g vs zs) (g us ws)
  data : ∀ {K : Fg} {H : Hp} {vs : List V} {ds : List Dat} {zs : List V} {es : List Dat}, Rps K H vs ds → Rps K H zs es → Rps K H (g vs zs) (g ds es)
/-- f(a, k=b) -/
theorem de_fnK {g : {α : Type} → List α → List α → List α} (F : GFn X.prog X.w X.K X.mg X.base k f fd ps spec) (hr : Room k X.A) (hgd : X.A.guards = some []) (hg : Gl X x) (hm : X.mg x = some (.ref f)) (hk : PySem.W.keepIn X.K (.ref f) = true) (hb : KwOrd X.K fd ps ks g)
    (ha : DFs X (e :: es) t) (hkw : DKs X kws tk) (hall : (backToKw pos (keywordEach kws X.env)).all (·.1.isSome) = true := by rfl) (hks : (backToKw pos (keywordEach kws X.env)).filterMap (·.1) = ks := by rfl)
    (hdb : (x == ("__debug__" : Str)) = false := by decide) (he : starEach (e :: es) X.env = (false, eval e X.env) :: starEach es X.env := by rfl)
    (hpl : ((backTo pos (starEach (e :: es) X.env)).any (·.1) || (backToKw pos (keywordEach kws X.env)).any (·.1.isNone)) = false := by rfl)
    (hn : ps.length = n := by rfl) :
    DE X (.Call (.Name x p) (e :: es) kws pos) (dFnK spec n g t tk) := by
  subst hn
  refine ⟨⟨fun pins s σ H Q I h => ?_⟩⟩
  refine wpAny_Call_Name_kw (ld_glob I hg hm ?_ hdb)
  obtain ⟨Fr, Hs, ρ, QD, A, q, fin⟩ := h
  refine PySem.W.callWith_KW (h₀ := X.base) I.ok.mod.kin hk hall (thn (ha.come I A q) fun us s1 hc => ?_) hpl he
  obtain ⟨vs, H1, Hs1, ρ1, ds, I1, r, q1, s1', A1, rd⟩ := hc
  refine thn (hkw.come I1 A1 q1) fun ws s2 hc2 => ?_
  obtain ⟨zs, H2, Hs2, ρ2, es', I2, r2, ⟨hl, sp⟩, s2', A2, rd2⟩ := hc2
  rw [hks]
  exact ⟨I2.kIn, call_end (call_frozen F hr hgd I2 (fun hu => hb.to s2 us ws I2.kIn hu) (hb.vals r r2) hl A2 (hb.data (rd.mono (.of s2')) rd2) sp fun z ρ' Hs' H' v hz l' s' R' => fin z ρ' Hs' H' v hz l' ((s1'.trans s2').trans s') R')⟩
/-- f(k=b) -/
theorem de_fnK0 {g : {α : Type} → List α → List α → List α} (F : GFn X.prog X.w X.K X.mg X.base k f fd ps spec) (hr : Room k X.A) (hgd : X.A.guards = some []) (hg : Gl X x) (hm : X.mg x = some (.ref f)) (hk : PySem.W.keepIn X.K (.ref f) = true) (hb : KwOrd X.K fd ps ks g)
    (hkw : DKs X kws tk) (hall : (backToKw pos (keywordEach kws X.env)).all (·.1.isSome) = true := by rfl) (hks : (backToKw pos (keywordEach kws X.env)).filterMap (·.1) = ks := by rfl)
    (hdb : (x == ("__debug__" : Str)) = false := by decide)
    (hpl : ((backTo pos (starEach [] X.env)).any (·.1) || (backToKw pos (keywordEach kws X.env)).any (·.1.isNone)) = false := by rfl)
    (hn : ps.length = n := by rfl) :
    DE X (.Call (.Name x p) [] kws pos) (dFnK spec n g fNil tk) := by
  subst hn
  refine ⟨⟨fun pins s σ H Q I h => ?_⟩⟩
  refine wpAny_Call_Name_kw (ld_glob I hg hm ?_ hdb)
  obtain ⟨Fr, Hs, ρ, QD, A, q, fin⟩ := h
  refine PySem.W.callWith_KW0 (h₀ := X.base) I.ok.mod.kin hk hall (thn (hkw.come I A q) fun ws s2 hc2 => ?_) hpl
  obtain ⟨zs, H2, Hs2, ρ2, es', I2, r2, ⟨hl, sp⟩, s2', A2, rd2⟩ := hc2
  rw [hks]
  exact ⟨I2.kIn, call_end (call_frozen F hr hgd I2 (fun hu => hb.to s2 [] ws I2.kIn hu) (hb.vals .nil r2) hl A2 (hb.data .nil rd2) sp fun z ρ' Hs' H' v hz l' s' R' => fin z ρ' Hs' H' v hz l' (s2'.trans s') R')⟩
/-- how a call ends whose first argument is lent -/
theorem call_lent {pins : List (Addr × Obj)} {σ : St} {H : Hp} {s : Shared} {us : List Value} {vs : List V} {Q : VK} {Fr Hs : Hp} {ρ : Ev} {i : Nat} {xs ds : List Dat} {q : Addr} {QD : Sl → Ev → Prop}
    (F : GFn X.prog X.w X.K X.mg X.base k f fd ps spec) (hr : Room k X.A) (hg : X.A.guards = some []) (I : Inv X pins σ H s) (hb : Binds X.K fd ps []) (r : Vals vs us) (hl : ds.length + 1 = ps.length)
    (A : At X.K Fr Hs ρ σ H) (rd : Rps X.K Hs vs ds) (hx : lstAt ρ i = some xs) (hσ : σ[i]? = some (some (.ref q)))
    (sp : ∀ p, (∀ q ys, ρ[i]? = some (.io q ys) → q = p) → spec (.io p xs :: ds.map .sh) fun z ios => ∃ xs', ios = [(p, xs')] ∧ QD z (putAt ρ i xs'))
    (fin : ∀ z ρ' Hs' H' v, QD z ρ' → ρ'.length = σ.length → Same Hs Hs' → RS X.K Fr Hs' H' ((z, some v) :: ρ'.zip σ) → Q v H') :
    codeAny (model X.prog X.w) X.A (.call (.ref f) ⟨.ref q :: us, []⟩) (fun r s' => match r with | .ok (.ret u) => EP X pins σ Q u s' | _ => False) s := by
  have l1 := rd.length
  have l2 := r.length
  -- the name's slot
  obtain ⟨sl, esl, hsl⟩ : ∃ sl, ρ[i]? = some sl ∧ (sl = .ol xs ∨ sl = .io q xs) := by
    cases e : ρ[i]? with
    | none => rw [lstAt, e] at hx; cases hx
    | some z =>
      cases z with
      | un => rw [lstAt, e] at hx; cases hx
      | sh d => rw [lstAt, e] at hx; cases hx
      | od d => rw [lstAt, e] at hx; cases hx
      | ol d => rw [lstAt, e] at hx; cases hx; exact ⟨_, rfl, .inl rfl⟩
      | io p d =>
        rw [lstAt, e] at hx; cases hx
        obtain ⟨o, e1, e2⟩ := zip_get A.len e
        rw [hσ] at e1
        cases e1
        obtain ⟨vs', e3, _⟩ := A.rs.sl _ (List.mem_of_getElem? e2)
        cases e3
        exact ⟨_, rfl, .inr rfl⟩
  obtain ⟨o, e1, e2⟩ := zip_get A.len esl
  rw [hσ] at e1
  cases e1
  have hi : i < (ρ.zip σ).length := (List.getElem?_eq_some_iff.mp e2).1
  have R0 := A.rs.focus e2
  have ow : own1 (sl, some (V.ref q)) = [q] := by rcases hsl with z | z <;> subst z <;> rfl
  obtain ⟨ws, hq, rw'⟩ : ∃ ws, H q = some (.lst ws) ∧ Rps X.K Hs ws xs := by
    have := R0.head
    rcases hsl with z | z
    · subst z; obtain ⟨p, ws, e3, h1, h2⟩ := this; cases e3; exact ⟨ws, h1, h2⟩
    · subst z; obtain ⟨ws, e3, h1, h2⟩ := this; exact ⟨ws, h1, h2⟩
  have R1 : RS X.K Fr Hs H ((.io q xs, some (.ref q)) :: (ρ.zip σ).set i (.un, none)) := R0.swap (by rw [ow]; rfl) ⟨ws, rfl, hq, rw'⟩
  have hqs : Hs q = none := (R1.ow q (by rw [List.flatMap_cons]; exact List.mem_append_left _ (by simp [own1]))).1
  -- what the callee is handed
  have RC : RS X.K (foreign Hs H [q]) Hs H ((.io q xs :: ds.map Sl.sh).zip ((.ref q :: vs).map some)) := by
    have z := sh_zip A.rs rd
    have own := sh_own vs ds
    rw [List.map_cons, List.zip_cons_cons]
    refine RS.enter A.rs.hs (fun y hy => ?_) ?_ fun y hy => ?_
    · rcases List.mem_cons.mp hy with e | hy
      · rw [e]; exact ⟨ws, rfl, hq, rw'⟩
      · exact z.sl y hy
    · rw [List.flatMap_cons, own]; simp [own1]
    · rw [List.flatMap_cons, own] at hy
      have e : y = q := by simpa [own1] using hy
      subst e
      exact ⟨hqs, List.mem_cons_self⟩
  have hp : ∀ q' ys, ρ[i]? = some (.io q' ys) → q' = q := by
    intro q' ys e
    rw [esl] at e
    cases e
    rcases hsl with z | z
    · cases z
    · cases z; rfl
  have rv : Vals (.ref q :: vs) (.ref q :: us) := .cons rfl r
  refine run_def F hr hg I (binds0 hb I.kIn (by simp; omega)) rv (by simp; omega) (by simp; omega) RC (sp q hp) fun z ios Hs' H' v hz ss R' => ?_
  obtain ⟨xs', rfl, hz⟩ := hz
  have R2 : RS X.K Fr Hs' H' ((z, some v) :: ([(q, xs')].map ioP ++ (ρ.zip σ).set i (.un, none))) := RS.leave (lent := [(.io q xs, some (.ref q))]) R1 ss R' rfl
  have R3 : RS X.K Fr Hs' H' ((.io q xs', some (.ref q)) :: (z, some v) :: (ρ.zip σ).set i (.un, none)) := R2.perm (List.Perm.swap _ _ _)
  obtain ⟨ws', _, hq', rw2⟩ := R3.head
  have fin2 : ∀ sl', own1 (sl', some (V.ref q)) = [q] → SlR X.K Hs' H' sl' (some (.ref q)) → putAt ρ i xs' = ρ.set i sl' → Q v H' := by
    intro sl' o1 hs' ep
    have R4 : RS X.K Fr Hs' H' ((sl', some (.ref q)) :: (z, some v) :: (ρ.zip σ).set i (.un, none)) := R3.swap (by rw [o1]; rfl) hs'
    have R5 : RS X.K Fr Hs' H' ((sl', some (.ref q)) :: ((z, some v) :: ρ.zip σ).set (i + 1) (.un, none)) := R4
    have R6 := R5.unfocus (by rw [List.length_cons]; omega)
    rw [List.set_cons_succ, zip_set_l hσ, ← ep] at R6
    exact fin z _ Hs' H' v hz (by unfold putAt; split <;> (rw [List.length_set]; exact A.len)) ss R6
  rcases hsl with e | e
  · subst e
    exact fin2 (.ol xs') rfl ⟨q, ws', rfl, hq', rw2⟩ (by unfold putAt; rw [esl])
  · subst e
    exact fin2 (.io q xs') rfl ⟨ws', rfl, hq', rw2⟩ (by unfold putAt; rw [esl])
theorem lent_come {i : Nat} (ha : DFs X es t) (hn : PE X (.Name y py) (tVar i)) (he : starEach (.Name y py :: es) X.env = (false, eval (.Name y py) X.env) :: starEach es X.env) {pins : List (Addr × Obj)} {s : Shared} {σ : St} {H : Hp} {Fr Hs : Hp} {ρ : Ev} {QD : List Dat → Ev → Prop} {p0 : Addr}
    (I : Inv X pins σ H s) (A : At X.K Fr Hs ρ σ H) (q : t ρ QD) (e0 : σ[i]? = some (some (.ref p0))) :
    wpAny (model X.prog X.w) X.A (spliced (backTo pos (starEach (.Name y py :: es) X.env))) (fun us s1 => ∃ us', us = .ref p0 :: us' ∧ Come X pins σ Fr Hs QD us' s1) X.xe s := by
  refine thn ((pa_cons hn ha.pa he).run pos pins s σ H (fun vs H1 => ∃ (vs' : List V) (Hs1 : Hp) (ρ1 : Ev) (ds : List Dat), vs = .ref p0 :: vs' ∧ QD ds ρ1 ∧ Same Hs Hs1 ∧ At X.K Fr Hs1 ρ1 σ H1 ∧ Rps X.K Hs1 vs' ds) I
    ⟨_, e0, Fr, Hs, ρ, _, A, q, fun ds ρ1 Hs1 H1 vs q1 s1 A1 r1 => ⟨vs, Hs1, ρ1, ds, rfl, q1, s1, A1, r1⟩⟩) fun us s1 hc => ?_
  obtain ⟨vs, H1, I1, r, vs', Hs1, ρ1, ds, rfl, q1, s1', A1, rd⟩ := hc
  cases r with
  | cons ra rb =>
    cases ra
    exact ⟨_, rfl, vs', H1, Hs1, ρ1, ds, I1, rb, q1, s1', A1, rd⟩
/-- f(x, b), x lent -/
theorem de_fnB (i : Nat) (F : GFn X.prog X.w X.K X.mg X.base k f fd ps spec) (hr : Room k X.A) (hgd : X.A.guards = some []) (hg : Gl X x) (hm : X.mg x = some (.ref f)) (hk : PySem.W.keepIn X.K (.ref f) = true) (hb : Binds X.K fd ps [])
    (ha : DFs X es t) (hN : X.N[i]? = some y := by rfl) (hv : Vis X.env.scope y := by first | exact Or.inl rfl | exact Or.inr (Or.inl rfl) | exact Or.inr (Or.inr rfl)) (hd : (y == ("__debug__" : Str)) = false := by decide) (hcd : (y == ("__classdict__" : Str)) = false := by decide)
    (hdb : (x == ("__debug__" : Str)) = false := by decide) (he : starEach (.Name y py :: es) X.env = (false, eval (.Name y py) X.env) :: starEach es X.env := by rfl) (hpl : (backTo pos (starEach es X.env)).any (·.1) = false := by rfl)
    (hn : ps.length = n := by rfl) :
    DE X (.Call (.Name x p) (.Name y py :: es) [] pos) (dFnB spec n i t) := by
  subst hn
  refine ⟨⟨fun pins s σ H Q I h => ?_⟩⟩
  refine wpAny_Call_Name_kw (ld_glob I hg hm ?_ hdb)
  obtain ⟨Fr, Hs, ρ, QD, A, ⟨q0, q⟩, fin⟩ := h
  obtain ⟨d0, q0⟩ := Option.isSome_iff_exists.mp q0
  obtain ⟨p0, xs0, e0, _, _⟩ := A.lst q0
  refine PySem.W.callWith_K (h₀ := X.base) I.ok.mod.kin hk (thn (lent_come ha (pe_var hN hv hd hcd) he I A q e0) fun us s1 hc => ?_) he hpl
  obtain ⟨us', rfl, vs', H1, Hs1, ρ1, ds, I1, rb, ⟨hl, xs, hx, sp⟩, s1', A1, rd⟩ := hc
  exact ⟨I1.kIn, call_end (call_lent F hr hgd I1 hb rb hl A1 rd hx e0 sp fun z ρ' Hs' H' v hz l' s' R' => fin z ρ' Hs' H' v hz l' (s1'.trans s') R')⟩
end

/-! ### targets -/
abbrev TGD := Dat → Ev → (Ev → Prop) → Prop
abbrev TGsD := List Dat → Ev → (Ev → Prop) → Prop
/-- only the places js change -/
def Only (js : List Nat) (σ σ' : St) : Prop := σ'.length = σ.length ∧ ∀ i, i ∉ js → σ'[i]? = σ[i]?
theorem Only.refl (js : List Nat) (σ : St) : Only js σ σ := ⟨rfl, fun _ _ => rfl⟩
theorem Only.trans {js ks : List Nat} {σ σ1 σ2 : St} (a : Only js σ σ1) (b : Only ks σ1 σ2) : Only (js ++ ks) σ σ2 :=
  ⟨b.1.trans a.1, fun i hi => (b.2 i fun z => hi (List.mem_append_right _ z)).trans (a.2 i fun z => hi (List.mem_append_left _ z))⟩
def lG (K : Fg) (js : List Nat) (g : TGD) : TG := fun v σ H Q => ∃ (Fr Hs : Hp) (ρ : Ev) (d : Dat) (QD : Ev → Prop), At K Fr Hs ρ σ H ∧ Rp K Hs v d ∧ g d ρ QD ∧
  ∀ ρ' σ', QD ρ' → Only js σ σ' → At K Fr Hs ρ' σ' H → Q σ' H
def lGs (K : Fg) (js : List Nat) (g : TGsD) : TGs := fun vs σ H Q => ∃ (Fr Hs : Hp) (ρ : Ev) (ds : List Dat) (QD : Ev → Prop), At K Fr Hs ρ σ H ∧ Rps K Hs vs ds ∧ g ds ρ QD ∧
  ∀ ρ' σ', QD ρ' → Only js σ σ' → At K Fr Hs ρ' σ' H → Q σ' H
structure DG (X : Cx) (tg : Expr) (js : List Nat) (g : TGD) : Prop where
  pg : PG X tg (lG X.K js g)
structure DGs (X : Cx) (ts : List Expr) (js : List Nat) (g : TGsD) : Prop where
  pg : PGs X ts (lGs X.K js g)
def gN (i : Nat) : TGD := fun d ρ Q => notIo ρ[i]? ∧ Q (ρ.set i (.sh d))
def gsNil : TGsD := fun ds ρ Q => ds = [] ∧ Q ρ
def gsCons (g : TGD) (r : TGsD) : TGsD := fun ds ρ Q => ∃ d es, ds = d :: es ∧ g d ρ fun ρ1 => r es ρ1 Q
def gT (n : Nat) (r : TGsD) : TGD := fun d ρ Q => ∃ ds, d = .tuple ds ∧ ds.length = n ∧ r ds ρ Q
def sAsg (t : TD) (g : TGD) : TSD := fun E ρ => t ρ fun s ρ1 => fz s fun d => g d ρ1 E.nx
section
variable {X : Cx} {pos : Pos}
theorem pg_imp {tg : Expr} {t t' : TG} (h : PG X tg t) (f : ∀ v σ H Q, t' v σ H Q → t v σ H Q) : PG X tg t' := ⟨fun pins s σ H v u Q I r q => h.run pins s σ H v u Q I r (f v σ H Q q)⟩
theorem pgs_imp {tg : List Expr} {t t' : TGs} (h : PGs X tg t) (f : ∀ v σ H Q, t' v σ H Q → t v σ H Q) : PGs X tg t' := ⟨fun pins s σ H v u Q I r q => h.run pins s σ H v u Q I r (f v σ H Q q)⟩
theorem dg_name (i : Nat) {x : Str} (hNd : X.N.Nodup) (hi : X.N[i]? = some x := by rfl) (hx : Loc X.env.scope x := by first | exact Or.inl rfl | exact Or.inr rfl) (hf : X.fn x = true ∨ X.env.scope.names.lookup x = some .local := by first | exact .inl rfl | exact .inr rfl) : DG X (.Name x pos) [i] (gN i) := by
  refine ⟨pg_imp (pg_name hNd hi hx hf) fun v σ H Q hq => ?_⟩
  obtain ⟨Fr, Hs, ρ, d, QD, A, r, ⟨h1, h2⟩, f⟩ := hq
  have A2 := RS.store A.len (notIo_lt h1) (A.rs.add (x := (.sh d, some v)) ⟨v, rfl, r⟩ rfl)
  refine f _ _ h2 ⟨by simp, fun j hj => ?_⟩ A2
  rw [List.getElem?_set_ne]
  intro e
  exact hj (by simp [e])
theorem dgs_nil : DGs X [] [] gsNil := by
  refine ⟨pgs_imp pgs_nil fun v σ H Q hq => ?_⟩
  obtain ⟨Fr, Hs, ρ, ds, QD, A, r, ⟨h1, h2⟩, f⟩ := hq
  subst h1
  cases r
  exact ⟨rfl, f ρ σ h2 (.refl _ _) A⟩
theorem dgs_cons {e : Expr} {es : List Expr} {js ks : List Nat} {g : TGD} {r : TGsD} (h1 : DG X e js g) (h2 : DGs X es ks r) (hs : (assignEach (e :: es) X.env).map (·.2) = assign e X.env :: (assignEach es X.env).map (·.2) := by rfl) : DGs X (e :: es) (js ++ ks) (gsCons g r) := by
  refine ⟨pgs_imp (pgs_cons h1.pg h2.pg hs) fun v σ H Q hq => ?_⟩
  obtain ⟨Fr, Hs, ρ, ds, QD, A, r, ⟨d, es', rfl, hg⟩, f⟩ := hq
  cases r with
  | cons r1 r2 => exact ⟨_, _, rfl, Fr, Hs, ρ, d, _, A, r1, hg, fun ρ1 σ1 q1 o1 A1 => ⟨Fr, Hs, ρ1, es', _, A1, r2, q1, fun ρ2 σ2 q2 o2 A2 => f ρ2 σ2 q2 (o1.trans o2) A2⟩⟩
theorem dg_tup {es : List Expr} {k n : Nat} {js : List Nat} {r : TGsD} (hc : X.calm = true) (h : DGs X es js r) (hn : (assignEach es X.env).length = n := by rfl) (hst : (assignEach es X.env).findIdx? (·.1) = none := by rfl) : DG X (.Tuple es k pos) js (gT n r) := by
  refine ⟨pg_imp (pg_tup hc h.pg hn hst) fun v σ H Q hq => ?_⟩
  obtain ⟨Fr, Hs, ρ, d, QD, A, rd, ⟨ds, rfl, hl, hg⟩, f⟩ := hq
  obtain ⟨a, xs, rfl, ht, rs⟩ := (Pk.st (H := H) rd).tup A.rs.hs
  exact ⟨a, xs, rfl, ht, by rw [rs.length]; exact hl, Fr, Hs, ρ, ds, _, A, rs, hg, f⟩
theorem ds_asg {tg e : Expr} {t : TD} {js : List Nat} {g : TGD} (he : DE X e t) (hg : DG X tg js g) (hs : swapsWithSole [tg] e pos.line X.env = pure false := by rfl) (hw : swappedStores [tg] e X.env = pure none := by rfl)
    (h1 : (assignEach [tg] X.env).map (·.2) = [assign tg X.env] := by rfl) : DS X (.Assign [tg] e pos) (sAsg t g) := by
  refine ⟨ps_imp (ps_asg he.pe hg.pg hs hw h1) fun D σ H hq => ?_⟩
  obtain ⟨Fr, Hs, ρ, E, A, q, f1, f2, f3, f4⟩ := hq
  refine ⟨Fr, Hs, ρ, _, A, q, fun s ρ1 Hs1 H1 w q1 hl s1 R => ?_⟩
  obtain ⟨d, Hs2, hd, s2, R2⟩ := R.frz q1
  obtain ⟨w', e1, r1⟩ := R2.head
  cases e1
  exact ⟨Fr, Hs2, ρ1, d, _, ⟨hl, R2.tail⟩, r1, hd, fun ρ2 σ2 q2 _ A2 => f1 _ _ Hs2 H1 q2 (s1.trans s2) A2⟩
/-- x[i] = e -/
def sIx (i : Nat) (tv ti : TD) : TSD := fun E ρ => tv ρ fun s ρ1 => fz s fun d => (lstAt ρ1 i).isSome = true ∧ ti ρ1 fun s2 ρ2 => ∃ k xs j, s2 = .sh (.int k) ∧ lstAt ρ2 i = some xs ∧ ixN xs.length k = some j ∧ E.nx (putAt ρ2 i (xs.set j d))
theorem ds_ix (i : Nat) {x : Str} {px p2 : Pos} {e ie : Expr} {tv ti : TD} (he : DE X e tv) (hi : DE X ie ti) (hN : X.N[i]? = some x := by rfl) (hv : Vis X.env.scope x := by first | exact Or.inl rfl | exact Or.inr (Or.inl rfl) | exact Or.inr (Or.inr rfl)) (hd : (x == ("__debug__" : Str)) = false := by decide) (hcd : (x == ("__classdict__" : Str)) = false := by decide)
    (ha : ∀ v, assign (.Subscript (.Name x px) ie p2) X.env v = (do
      let ov ← holding [v] (eval (.Name x px) X.env)
      let iv ← holding [v, ov] (eval ie X.env)
      standAt p2
      holding [v, ov, iv] (setItem ov iv v)
      release [v, ov, iv] []) := by intro _; rfl)
    (hs : swapsWithSole [.Subscript (.Name x px) ie p2] e pos.line X.env = pure false := by rfl) (hw : swappedStores [.Subscript (.Name x px) ie p2] e X.env = pure none := by rfl)
    (h1 : (assignEach [.Subscript (.Name x px) ie p2] X.env).map (·.2) = [assign (.Subscript (.Name x px) ie p2) X.env] := by rfl) : DS X (.Assign [.Subscript (.Name x px) ie p2] e pos) (sIx i tv ti) := by
  refine ⟨ps_imp (ps_asg he.pe (pg_sub (pe_var hN hv hd hcd) hi.pe set_list ha) hs hw h1) fun D σ H hq => ?_⟩
  obtain ⟨Fr, Hs, ρ, E, A, q, f1, f2, f3, f4⟩ := hq
  refine ⟨Fr, Hs, ρ, _, A, q, fun s ρ1 Hs1 H1 w q1 hl s1 R => ?_⟩
  obtain ⟨d, Hs2, ⟨g0, hd⟩, s2, R2⟩ := R.frz q1
  obtain ⟨w', e1, r1⟩ := R2.head
  cases e1
  have A2 : At X.K Fr Hs2 ρ1 σ H1 := ⟨hl, R2.tail⟩
  obtain ⟨xs0, g0⟩ := Option.isSome_iff_exists.mp g0
  obtain ⟨p, vs0, e0, _, _⟩ := A2.lst g0
  refine ⟨_, e0, Fr, Hs2, ρ1, _, A2, hd, fun s3 ρ2 Hs3 H3 w3 q3 hl3 s3' R3 => ?_⟩
  obtain ⟨k, xs, j, rfl, hx, hj, hn⟩ := q3
  have A3 : At X.K Fr Hs3 ρ2 σ H3 := ⟨hl3, R3.tail⟩
  obtain ⟨w4, e4, r4⟩ := R3.head
  cases e4
  cases r4
  obtain ⟨p', vs, e5, hp, rv⟩ := A3.lst hx
  rw [e0] at e5
  cases e5
  refine ⟨p, vs, k, j, rfl, rfl, hp, by rw [rv.length]; exact hj, ?_⟩
  exact f1 _ _ Hs3 _ hn ((s1.trans s2).trans s3') (A3.putLst hx e0 (rv.set (r1.mono (.of s3')) j))
end
/-! ### what a loop walks -/
abbrev TID := Ev → (List Dat → Ev → Prop) → Prop
/-- J gives the items, one by one, whatever else happens -/
def Walks (K : Fg) (Hs : Hp) (J : It) (items : List Dat) : Prop := ∀ Hs2 H2, Same Hs Hs2 → Sub Hs2 H2 →
  (∀ i d, items[i]? = some d → J.go i H2 ∧ ∀ x H3, J.yld i H2 x H3 → ∃ Hs3, Nx Hs2 H2 Hs3 H3 ∧ Rp K Hs3 x d) ∧ J.stop items.length H2
def lI (K : Fg) (t : TID) : TI := fun σ H R => ∃ (Fr Hs : Hp) (ρ : Ev) (QD : List Dat → Ev → Prop), At K Fr Hs ρ σ H ∧ t ρ QD ∧
  ∀ items ρ' Hs' H' J, QD items ρ' → Same Hs Hs' → At K Fr Hs' ρ' σ H' → Walks K Hs' J items → R J H'
structure DI (X : Cx) (tg iter : Expr) (t : TID) : Prop where
  pi : PI X tg iter (lI X.K t)
theorem pi_imp {X : Cx} {tg it : Expr} {t t' : TI} (h : PI X tg it t) (f : ∀ σ H R, t' σ H R → t σ H R) : PI X tg it t' := ⟨fun pins s σ H R I q => h.run pins s σ H R I (f σ H R q)⟩
def iLst (t : TD) : TID := fun ρ Q => t ρ fun s ρ1 => fz s fun d => ∃ ds, d = .list ds ∧ Q ds ρ1
def iTup (t : TD) : TID := fun ρ Q => t ρ fun s ρ1 => fz s fun d => ∃ ds, d = .tuple ds ∧ Q ds ρ1
/-- lo, lo + 1, .. -/
def rgD (lo : Int) : Nat → List Dat
  | 0 => []
  | n + 1 => .int lo :: rgD (lo + 1) n
theorem rgD_len : ∀ (n : Nat) (lo : Int), (rgD lo n).length = n
  | 0, _ => rfl
  | n + 1, lo => congrArg (· + 1) (rgD_len n (lo + 1))
theorem rgD_get : ∀ (n : Nat) (lo : Int) (i : Nat), (rgD lo n)[i]? = if i < n then some (.int (lo + i)) else none
  | 0, _, _ => by simp [rgD]
  | n + 1, lo, 0 => by simp [rgD]
  | n + 1, lo, i + 1 => by
    unfold rgD
    rw [List.getElem?_cons_succ, rgD_get n (lo + 1) i]
    by_cases h : i < n
    · rw [if_pos h, if_pos (by omega)]
      congr 2
      omega
    · rw [if_neg h, if_neg (by omega)]
def iRg1 (t : TD) : TID := fun ρ Q => t ρ fun s ρ1 => ∃ j : Int, s = .sh (.int j) ∧ (-(2 ^ 62) ≤ j ∧ j < 2 ^ 62) ∧ Q (rgD 0 j.toNat) ρ1
def iRg2 (t u : TD) : TID := fun ρ Q => t ρ fun s ρ1 => ∃ i : Int, s = .sh (.int i) ∧ u ρ1 fun s2 ρ2 => ∃ j : Int, s2 = .sh (.int j) ∧ (-(2 ^ 62) ≤ i ∧ i < 2 ^ 62 ∧ -(2 ^ 62) ≤ j ∧ j < 2 ^ 62) ∧ Q (rgD i (j - i).toNat) ρ2
section
variable {X : Cx} {tg e e2 : Expr} {t u : TD} {p pos : Pos}
theorem walks_list {K : Fg} {Hs : Hp} {a : Addr} {xs : List V} {ds : List Dat} (h : SqL K Hs a xs) (r : Rps K Hs xs ds) : (∀ H2 ys zs, SqL K H2 a ys → SqL K H2 a zs → ys = zs) ∨ True → Walks K Hs (Itl K a) ds := by
  intro _ Hs2 H2 ss sb
  have h2 : SqL K H2 a xs := sb.sql ((Sub.of ss).sql h)
  refine ⟨fun i d e => ?_, ⟨xs, h2, Nat.le_of_eq r.length⟩⟩
  obtain ⟨v, e1, r1⟩ := r.get e
  refine ⟨⟨xs, v, h2, e1⟩, fun x H3 hy => ?_⟩
  obtain ⟨rfl, hy⟩ := hy
  have := hy xs h2
  rw [e1] at this
  cases this
  exact ⟨Hs2, .refl sb, r1.mono (.of ss)⟩
theorem walks_tup {K : Fg} {Hs : Hp} {a : Addr} {xs : List V} {ds : List Dat} (h : SqT K Hs a xs) (r : Rps K Hs xs ds) : Walks K Hs (Itt K a) ds := by
  intro Hs2 H2 ss sb
  have h2 : SqT K H2 a xs := sb.sqt ((Sub.of ss).sqt h)
  refine ⟨fun i d e => ?_, ⟨xs, h2, Nat.le_of_eq r.length⟩⟩
  obtain ⟨v, e1, r1⟩ := r.get e
  refine ⟨⟨xs, v, h2, e1⟩, fun x H3 hy => ?_⟩
  obtain ⟨rfl, hy⟩ := hy
  have := hy xs h2
  rw [e1] at this
  cases this
  exact ⟨Hs2, .refl sb, r1.mono (.of ss)⟩
theorem walks_rg {K : Fg} {Hs : Hp} (lo : Int) (n : Nat) : Walks K Hs (Itr lo n) (rgD lo n) := by
  intro Hs2 H2 ss sb
  refine ⟨fun i d e => ?_, by rw [rgD_len]; exact Nat.le_refl n⟩
  rw [rgD_get] at e
  by_cases h : i < n
  · rw [if_pos h] at e
    cases e
    refine ⟨h, fun x H3 hy => ?_⟩
    obtain ⟨rfl, rfl⟩ := hy
    exact ⟨Hs2, .refl sb, .int _⟩
  · rw [if_neg h] at e
    cases e
theorem di_list (h : DE X e t) : DI X tg e (iLst t) := by
  refine ⟨pi_imp (pi_list h.pe) fun σ H R hq => ?_⟩
  obtain ⟨Fr, Hs, ρ, QD, A, q, f⟩ := hq
  refine ⟨Fr, Hs, ρ, _, A, q, fun s ρ1 Hs1 H1 v q1 hl s1 R1 => ?_⟩
  obtain ⟨d, Hs2, ⟨ds, rfl, hd⟩, s2, R2⟩ := R1.frz q1
  obtain ⟨w, e1, r1⟩ := R2.head
  cases e1
  cases r1 with
  | lst hs r => exact ⟨_, rfl, ⟨_, R2.hs.sql hs⟩, f ds ρ1 Hs2 H1 _ hd (s1.trans s2) ⟨hl, R2.tail⟩ (walks_list hs r (.inr trivial))⟩
theorem di_tup (h : DE X e t) : DI X tg e (iTup t) := by
  refine ⟨pi_imp (pi_tup h.pe) fun σ H R hq => ?_⟩
  obtain ⟨Fr, Hs, ρ, QD, A, q, f⟩ := hq
  refine ⟨Fr, Hs, ρ, _, A, q, fun s ρ1 Hs1 H1 v q1 hl s1 R1 => ?_⟩
  obtain ⟨d, Hs2, ⟨ds, rfl, hd⟩, s2, R2⟩ := R1.frz q1
  obtain ⟨w, e1, r1⟩ := R2.head
  cases e1
  cases r1 with
  | tup hs r => exact ⟨_, rfl, ⟨_, R2.hs.sqt hs⟩, f ds ρ1 Hs2 H1 _ hd (s1.trans s2) ⟨hl, R2.tail⟩ (walks_tup hs r)⟩
theorem di_range1 (hg : Gl X "range") (hm : X.mg "range" = none) (h : DE X e t) (hs : starEach [e] X.env = [(false, eval e X.env)] := by rfl) : DI X tg (.Call (.Name "range" p) [e] [] pos) (iRg1 t) := by
  refine ⟨pi_imp (pi_range1 hg hm (pa_cons h.pe pa_nil hs) hs) fun σ H R hq => ?_⟩
  obtain ⟨Fr, Hs, ρ, QD, A, q, f⟩ := hq
  refine ⟨Fr, Hs, ρ, _, A, q, fun s ρ1 Hs1 H1 v q1 hl s1 R1 => ?_⟩
  obtain ⟨j, rfl, ⟨b1, b2⟩, hd⟩ := q1
  obtain ⟨w, e1, r1⟩ := R1.head
  cases e1
  cases r1
  exact ⟨j, rfl, b1, b2, f _ ρ1 Hs1 H1 _ hd s1 ⟨hl, R1.tail⟩ (walks_rg 0 j.toNat)⟩
theorem di_range2 (hg : Gl X "range") (hm : X.mg "range" = none) (h : DE X e t) (h2 : DE X e2 u) (hs : starEach [e, e2] X.env = [(false, eval e X.env), (false, eval e2 X.env)] := by rfl) (hs2 : starEach [e2] X.env = [(false, eval e2 X.env)] := by rfl) : DI X tg (.Call (.Name "range" p) [e, e2] [] pos) (iRg2 t u) := by
  refine ⟨pi_imp (pi_range2 hg hm (pa_cons h.pe (pa_cons h2.pe pa_nil hs2) (by rw [hs, hs2])) hs hs2) fun σ H R hq => ?_⟩
  obtain ⟨Fr, Hs, ρ, QD, A, q, f⟩ := hq
  refine ⟨Fr, Hs, ρ, _, A, q, fun s ρ1 Hs1 H1 v q1 hl s1 R1 => ?_⟩
  obtain ⟨i, rfl, hd⟩ := q1
  obtain ⟨w, e1, r1⟩ := R1.head
  cases e1
  cases r1
  refine ⟨Fr, Hs1, ρ1, _, ⟨hl, R1.tail⟩, hd, fun s2 ρ2 Hs2 H2 v2 q2 hl2 s2' R2 => ?_⟩
  obtain ⟨j, rfl, b, hd⟩ := q2
  obtain ⟨w, e1, r1⟩ := R2.head
  cases e1
  cases r1
  exact ⟨i, j, rfl, b, f _ ρ2 Hs2 H2 _ hd (s1.trans s2') ⟨hl2, R2.tail⟩ (walks_rg i (j - i).toNat)⟩
end
/-! ### for -/
def forW (g : TGD) (tb : TSD) (E : DEn) : List Dat → Ev → Prop
  | [], ρ => E.nx ρ
  | d :: ds, ρ => g d ρ fun ρ1 => tb { E with nx := forW g tb E ds, ct := forW g tb E ds, bk := E.nx } ρ1
def sFor (ti : TID) (g : TGD) (tb : TSD) : TSD := fun E ρ => ti ρ fun items ρ1 => forW g tb E items ρ1
def whlW (c : TTD) (tb : TSD) (E : DEn) (ρ : Ev) : Prop := ∃ W : Nat → Ev → Prop, (∃ m, W m ρ) ∧ ∀ m ρ, W m ρ → c ρ fun b ρ1 => if b = true then ∃ N : Ev → Prop, (∀ ρ', N ρ' → ∃ m', m' < m ∧ W m' ρ') ∧ tb { E with nx := N, ct := N, bk := E.nx } ρ1 else E.nx ρ1
section
variable {X : Cx} {tg iter : Expr} {body : List Stmt} {ti : TID} {js : List Nat} {g : TGD} {tb : TSD} {pos : Pos}
theorem ds_for (hp : PassesOwn (model X.prog X.w) X.A X.env X.xe) (hc : X.calm = true) (hi : DI X tg iter ti) (hg : DG X tg js g) (hb : DSs X body tb) (hs : ∀ x, foldedSetIterable iter X.env x = pure x := by intro _; rfl) : DS X (.For tg iter body [] pos) (sFor ti g tb) := by
  refine ⟨ps_imp (ps_for hp hc hi.pi hg.pg hb.ps hs) fun D σ H hq => ?_⟩
  obtain ⟨Fr, Hs, ρ, E, A, q, f1, f2, f3, f4⟩ := hq
  refine ⟨Fr, Hs, ρ, _, A, q, fun items ρ1 Hs1 H1 J q1 s1 A1 wk => ?_⟩
  refine ⟨fun i m σ2 H2 => ∃ Hs2 ρ2, i ≤ items.length ∧ m = items.length - i ∧ Same Hs1 Hs2 ∧ At X.K Fr Hs2 ρ2 σ2 H2 ∧ forW g tb E (items.drop i) ρ2, ⟨_, Hs1, ρ1, Nat.zero_le _, rfl, .refl _, A1, q1⟩, ?_⟩
  rintro i m σ2 H2 ⟨Hs2, ρ2, hi2, rfl, s2, A2, w2⟩
  obtain ⟨go, stop⟩ := wk Hs2 H2 s2 A2.rs.hs
  by_cases hlt : i < items.length
  · have ed : items.drop i = items[i] :: items.drop (i + 1) := List.drop_eq_getElem_cons hlt
    rw [ed] at w2
    obtain ⟨hgo, hy⟩ := go i items[i] (List.getElem?_eq_getElem hlt)
    refine .inr ⟨hgo, fun σ' H' => ∃ Hs3 ρ3, Same Hs1 Hs3 ∧ At X.K Fr Hs3 ρ3 σ' H' ∧ forW g tb E (items.drop (i + 1)) ρ3, ?_, ?_⟩
    · rintro σ' H' ⟨Hs3, ρ3, s3, A3, w3⟩
      exact ⟨items.length - (i + 1), by omega, Hs3, ρ3, hlt, rfl, s3, A3, w3⟩
    · intro x H3 hx
      obtain ⟨Hs3, n3, r3⟩ := hy x H3 hx
      refine ⟨Fr, Hs3, ρ2, items[i], _, ⟨A2.len, A2.rs.nx n3⟩, r3, w2, fun ρ4 σ4 q4 _ A4 => ?_⟩
      have s13 : Same Hs1 Hs3 := s2.trans n3.ss
      refine ⟨Fr, Hs3, ρ4, _, A4, q4, fun ρ5 σ5 Hs5 H5 q5 s5 A5 => ⟨Hs5, ρ5, s13.trans s5, A5, q5⟩, fun s ρ5 σ5 Hs5 H5 v q5 s5 l5 R5 => f2 _ _ _ _ _ _ q5 (s1.trans (s13.trans s5)) l5 R5,
        fun ρ5 σ5 Hs5 H5 q5 s5 A5 => f1 _ _ _ _ q5 (s1.trans (s13.trans s5)) A5, fun ρ5 σ5 Hs5 H5 q5 s5 A5 => ⟨Hs5, ρ5, s13.trans s5, A5, q5⟩⟩
  · have e : i = items.length := by omega
    subst e
    rw [List.drop_length] at w2
    exact .inl ⟨stop, f1 _ _ _ _ w2 (s1.trans s2) A2⟩
theorem ds_while {c : Expr} {tc : TTD} (hp : PassesOwn (model X.prog X.w) X.A X.env X.xe) (hc : DT X c tc) (hb : DSs X body tb) : DS X (.While c body [] pos) (whlW tc tb) := by
  refine ⟨ps_imp (ps_while hp hc.pt hb.ps) fun D σ H hq => ?_⟩
  obtain ⟨Fr, Hs, ρ, E, A, ⟨W, ⟨m0, w0⟩, turn⟩, f1, f2, f3, f4⟩ := hq
  refine ⟨fun m σ2 H2 => ∃ Hs2 ρ2, Same Hs Hs2 ∧ At X.K Fr Hs2 ρ2 σ2 H2 ∧ W m ρ2, ⟨m0, Hs, ρ, .refl _, A, w0⟩, ?_⟩
  rintro m σ2 H2 ⟨Hs2, ρ2, s2, A2, w2⟩
  refine ⟨Fr, Hs2, ρ2, _, A2, turn m ρ2 w2, fun b ρ3 Hs3 H3 q3 s3 A3 => ?_⟩
  cases b with
  | false => exact f1 _ _ _ _ q3 (s2.trans s3) A3
  | true =>
    obtain ⟨N, hN, q3⟩ := q3
    rw [if_pos rfl]
    refine ⟨fun σ' H' => ∃ Hs4 ρ4, Same Hs Hs4 ∧ At X.K Fr Hs4 ρ4 σ' H' ∧ N ρ4, ?_, ?_⟩
    · rintro σ' H' ⟨Hs4, ρ4, s4, A4, n4⟩
      obtain ⟨m', hm, w4⟩ := hN ρ4 n4
      exact ⟨m', hm, Hs4, ρ4, s4, A4, w4⟩
    · have s23 := s2.trans s3
      exact ⟨Fr, Hs3, ρ3, _, A3, q3, fun ρ5 σ5 Hs5 H5 q5 s5 A5 => ⟨Hs5, ρ5, s23.trans s5, A5, q5⟩, fun s ρ5 σ5 Hs5 H5 v q5 s5 l5 R5 => f2 _ _ _ _ _ _ q5 (s23.trans s5) l5 R5,
        fun ρ5 σ5 Hs5 H5 q5 s5 A5 => f1 _ _ _ _ q5 (s23.trans s5) A5, fun ρ5 σ5 Hs5 H5 q5 s5 A5 => ⟨Hs5, ρ5, s23.trans s5, A5, q5⟩⟩
end

/-! ### lending to the foreign part and back -/
section
variable {K : Fg} {Fr Hs H Hs' H' : Hp} {l : List (Sl × Option V)}
/-- the object of a value that owns -/
def ownOf (s : Sl) (v : V) : List Addr := own1 (s, some v)
theorem RS.lend {p : Addr} {o : HO} {x : Sl × Option V} (R : RS K Fr Hs H (x :: l)) (ho : own1 x = [p]) (hp : H p = some o) : RS K (upd Fr p o) Hs H l ∧ Fr p = none ∧ Hs p = none := by
  have hw := R.ow p (by rw [List.flatMap_cons, ho]; exact List.mem_cons_self)
  have nd := R.nd
  rw [List.flatMap_cons, ho] at nd
  have np : p ∉ l.flatMap own1 := (List.nodup_cons.mp nd).1
  refine ⟨⟨R.hs, fun b u e => ?_, fun b u e => ?_, R.tail.sl, R.tail.nd, fun q hq => ?_⟩, hw.2, hw.1⟩
  · by_cases hb : b = p
    · subst hb; rw [upd_same] at e; cases e; exact hp
    · rw [upd_ne hb] at e; exact R.fr b u e
  · by_cases hb : b = p
    · subst hb; exact .inl hw.1
    · rw [upd_ne hb] at e; exact R.dj b u e
  · obtain ⟨h1, h2⟩ := R.tail.ow q hq
    have hq' : q ≠ p := fun z => np (z ▸ hq)
    exact ⟨h1, by rw [upd_ne hq']; exact h2⟩
theorem RS.back {p : Addr} {o : HO} {x : Sl × Option V} (R : RS K (upd Fr p o) Hs H l) (hf : Fr p = none) (hm : Mut (some o)) (ho : own1 x = [p]) (hx : SlR K Hs H x.1 x.2) : RS K Fr Hs H (x :: l) := by
  have hp : H p = some o := R.fr p o upd_same
  have hs : Hs p = none := by
    rcases R.dj p o upd_same with h | ⟨b, u, rfl, _⟩
    · exact h
    · exact absurd hm (fun z => z)
  have np : p ∉ l.flatMap own1 := fun z => by
    have := (R.ow p z).2
    rw [upd_same] at this
    cases this
  refine ⟨R.hs, fun b u e => R.fr b u (by rw [upd_ne (ne_of_none e hf)]; exact e), fun b u e => R.dj b u (by rw [upd_ne (ne_of_none e hf)]; exact e), fun z hz => ?_, ?_, fun q hq => ?_⟩
  · rcases List.mem_cons.mp hz with e | hz
    · rw [e]; exact hx
    · exact R.sl z hz
  · rw [List.flatMap_cons, ho]; exact List.nodup_cons.mpr ⟨np, R.nd⟩
  · rw [List.flatMap_cons, ho] at hq
    rcases List.mem_cons.mp hq with e | hq
    · rw [e]; exact ⟨hs, hf⟩
    · obtain ⟨h1, h2⟩ := R.ow q hq
      have hq' : q ≠ p := fun z => np (z ▸ hq)
      exact ⟨h1, by rw [upd_ne hq'] at h2; exact h2⟩
/-- only what a set slot holds matters -/
theorem flat_agree : ∀ {ρ : Ev} {σ σ' : St}, ρ.length = σ.length → ρ.length = σ'.length → (∀ (i : Nat) (s : Sl), ρ[i]? = some s → s ≠ Sl.un → σ[i]? = σ'[i]?) → (ρ.zip σ).flatMap own1 = (ρ.zip σ').flatMap own1
  | [], _, _, _, _, _ => by simp
  | s :: ρ, [], _, h, _, _ => by simp at h
  | s :: ρ, _, [], _, h, _ => by simp at h
  | s :: ρ, o :: σ, o' :: σ', h1, h2, h => by
    rw [List.zip_cons_cons, List.zip_cons_cons, List.flatMap_cons, List.flatMap_cons]
    have ih := flat_agree (ρ := ρ) (σ := σ) (σ' := σ') (by simpa using h1) (by simpa using h2) fun i s e n => by
      have := h (i + 1) s (by simpa using e) n
      simpa using this
    rw [ih]
    congr 1
    cases s with
    | un => rfl
    | sh d => rfl
    | _ =>
      have := h 0 _ rfl (by intro z; cases z)
      have e : o = o' := by simpa using this
      rw [e]
theorem RS.agree {ρ : Ev} {σ σ' : St} {m : List (Sl × Option V)} (h1 : ρ.length = σ.length) (h2 : ρ.length = σ'.length) (h : ∀ (i : Nat) (s : Sl), ρ[i]? = some s → s ≠ Sl.un → σ[i]? = σ'[i]?) (R : RS K Fr Hs H (m ++ ρ.zip σ)) : RS K Fr Hs H (m ++ ρ.zip σ') := by
  have e := flat_agree h1 h2 h
  refine ⟨R.hs, R.fr, R.dj, fun z hz => ?_, ?_, ?_⟩
  · rcases List.mem_append.mp hz with hz | hz
    · exact R.sl z (List.mem_append_left _ hz)
    · obtain ⟨i, hi⟩ := List.getElem?_of_mem hz
      obtain ⟨s, o⟩ := z
      obtain ⟨hlt, ez⟩ := List.getElem?_eq_some_iff.mp hi
      rw [List.getElem_zip] at ez
      rw [List.length_zip] at hlt
      have e1 : ρ[i]? = some s := by rw [List.getElem?_eq_some_iff]; exact ⟨by omega, by simpa using congrArg Prod.fst ez⟩
      have e2 : σ'[i]? = some o := by rw [List.getElem?_eq_some_iff]; exact ⟨by omega, by simpa using congrArg Prod.snd ez⟩
      by_cases hs : s = .un
      · rw [hs]; trivial
      · have e3 := (h i s e1 hs).trans e2
        refine R.sl (s, o) (List.mem_append_right _ (List.mem_of_getElem? (i := i) ?_))
        rw [List.getElem?_eq_some_iff]
        refine ⟨by rw [List.length_zip]; omega, ?_⟩
        rw [List.getElem_zip]
        obtain ⟨a1, b1⟩ := List.getElem?_eq_some_iff.mp e1
        obtain ⟨a2, b2⟩ := List.getElem?_eq_some_iff.mp e3
        rw [b1, b2]
  · rw [List.flatMap_append, ← e, ← List.flatMap_append]; exact R.nd
  · rw [List.flatMap_append, ← e, ← List.flatMap_append]; exact R.ow
end
/-! ### the block's own names -/
def wipeD (ρ : Ev) : List Nat → Ev
  | [] => ρ
  | i :: is => (wipeD ρ is).set i .un
/-- behind the block they hold what they held, if it was plain -/
def backD (ρ0 ρ : Ev) : List Nat → Ev
  | [] => ρ
  | i :: is => match ρ0[i]? with
    | some (.sh d) => (backD ρ0 ρ is).set i (.sh d)
    | _ => backD ρ0 ρ is
theorem wipeD_len (ρ : Ev) : ∀ vs, (wipeD ρ vs).length = ρ.length
  | [] => rfl
  | v :: vs => by unfold wipeD; rw [List.length_set, wipeD_len ρ vs]
theorem backD_len (ρ0 ρ : Ev) : ∀ vs, (backD ρ0 ρ vs).length = ρ.length
  | [] => rfl
  | v :: vs => by
    unfold backD
    split
    · rw [List.length_set, backD_len ρ0 ρ vs]
    · exact backD_len ρ0 ρ vs
theorem wipeD_get (ρ : Ev) (i : Nat) : ∀ vs, (wipeD ρ vs)[i]? = if i ∈ vs ∧ i < ρ.length then some .un else ρ[i]?
  | [] => by simp [wipeD]
  | v :: vs => by
    unfold wipeD
    rw [List.getElem?_set, wipeD_len, wipeD_get ρ i vs]
    by_cases h : v = i
    · subst h
      by_cases h2 : v < ρ.length
      · simp [h2]
      · simp [h2]
    · rw [if_neg h]
      have : (i ∈ v :: vs ∧ i < ρ.length) ↔ (i ∈ vs ∧ i < ρ.length) := by
        simp only [List.mem_cons]
        constructor
        · rintro ⟨h1 | h1, h2⟩
          · exact absurd h1.symm h
          · exact ⟨h1, h2⟩
        · rintro ⟨h1, h2⟩
          exact ⟨.inr h1, h2⟩
      simp only [this]
theorem wipe_get (σ : St) (i : Nat) : ∀ vs, (wipe σ vs)[i]? = if i ∈ vs ∧ i < σ.length then some none else σ[i]?
  | [] => by simp [wipe]
  | v :: vs => by
    unfold wipe
    rw [List.getElem?_set, wipe_length, wipe_get σ i vs]
    by_cases h : v = i
    · subst h
      by_cases h2 : v < σ.length
      · simp [h2]
      · simp [h2]
    · rw [if_neg h]
      have : (i ∈ v :: vs ∧ i < σ.length) ↔ (i ∈ vs ∧ i < σ.length) := by
        simp only [List.mem_cons]
        constructor
        · rintro ⟨h1 | h1, h2⟩
          · exact absurd h1.symm h
          · exact ⟨h1, h2⟩
        · rintro ⟨h1, h2⟩
          exact ⟨.inr h1, h2⟩
      simp only [this]
theorem wipe_only {σ σ2 : St} {vs js : List Nat} (h : Only js (wipe σ vs) σ2) (hj : ∀ j ∈ js, j ∈ vs) : wipe σ2 vs = wipe σ vs := by
  have hl : σ2.length = σ.length := h.1.trans (wipe_length σ vs)
  apply List.ext_getElem?
  intro i
  rw [wipe_get, wipe_get, hl]
  by_cases hi : i ∈ vs ∧ i < σ.length
  · rw [if_pos hi, if_pos hi]
  · rw [if_neg hi, if_neg hi]
    by_cases hv : i ∈ vs
    · have : ¬ i < σ.length := fun z => hi ⟨hv, z⟩
      rw [List.getElem?_eq_none (by omega), List.getElem?_eq_none (by omega)]
    · have h2 := h.2 i fun z => hv (hj i z)
      rw [h2, wipe_get, if_neg hi]
section
variable {K : Fg} {Fr Hs H : Hp} {m : List (Sl × Option V)}
theorem zip_set_un {ρ : Ev} {σ : St} (i : Nat) : ∃ o, (ρ.set i .un).zip σ = (ρ.zip σ).set i (.un, o) := by
  cases e : σ[i]? with
  | some o => exact ⟨o, (zip_set_l e).symm⟩
  | none =>
    refine ⟨none, ?_⟩
    rw [zip_set]
    congr 1
    rw [List.getElem?_eq_none_iff] at e
    exact (List.set_eq_of_length_le e).symm
theorem RS.unset {ρ : Ev} {σ : St} (R : RS K Fr Hs H (m ++ ρ.zip σ)) (i : Nat) : RS K Fr Hs H (m ++ (ρ.set i .un).zip σ) := by
  obtain ⟨o, e⟩ := zip_set_un (ρ := ρ) (σ := σ) i
  rw [e]
  have sb := flat_un (ρ.zip σ) i (.un, o) rfl
  refine ⟨R.hs, R.fr, R.dj, fun z hz => ?_, ?_, fun q hq => R.ow q ?_⟩
  · rcases List.mem_append.mp hz with hz | hz
    · exact R.sl z (List.mem_append_left _ hz)
    · rcases List.mem_or_eq_of_mem_set hz with hz | hz
      · exact R.sl z (List.mem_append_right _ hz)
      · rw [hz]; trivial
  · have := R.nd
    rw [List.flatMap_append] at this ⊢
    exact this.sublist ((List.Sublist.refl _).append sb)
  · rw [List.flatMap_append] at hq ⊢
    rcases List.mem_append.mp hq with h | h
    · exact List.mem_append_left _ h
    · exact List.mem_append_right _ (sb.subset h)
theorem RS.wipe {ρ : Ev} {σ : St} (R : RS K Fr Hs H (m ++ ρ.zip σ)) : ∀ vs, RS K Fr Hs H (m ++ (wipeD ρ vs).zip σ)
  | [] => R
  | v :: vs => (RS.wipe R vs).unset v
theorem RS.reset {ρ : Ev} {σ : St} {i : Nat} {v : V} {d : Dat} (R : RS K Fr Hs H (m ++ ρ.zip σ)) (hv : σ[i]? = some (some v)) (r : Rp K Hs v d) : RS K Fr Hs H (m ++ (ρ.set i (.sh d)).zip σ) := by
  rw [← zip_set_l hv]
  have sb := flat_un (ρ.zip σ) i (.sh d, some v) rfl
  refine ⟨R.hs, R.fr, R.dj, fun z hz => ?_, ?_, fun q hq => R.ow q ?_⟩
  · rcases List.mem_append.mp hz with hz | hz
    · exact R.sl z (List.mem_append_left _ hz)
    · rcases List.mem_or_eq_of_mem_set hz with hz | hz
      · exact R.sl z (List.mem_append_right _ hz)
      · rw [hz]; exact ⟨v, rfl, r⟩
  · have := R.nd
    rw [List.flatMap_append] at this ⊢
    exact this.sublist ((List.Sublist.refl _).append sb)
  · rw [List.flatMap_append] at hq ⊢
    rcases List.mem_append.mp hq with h | h
    · exact List.mem_append_left _ h
    · exact List.mem_append_right _ (sb.subset h)
theorem RS.backD {ρ0 ρ : Ev} {σ : St} (R : RS K Fr Hs H (m ++ ρ.zip σ)) (h : ∀ (i : Nat) (d : Dat), ρ0[i]? = some (Sl.sh d) → ∃ v, σ[i]? = some (some v) ∧ Rp K Hs v d) : ∀ vs, RS K Fr Hs H (m ++ (DL.backD ρ0 ρ vs).zip σ)
  | [] => R
  | v :: vs => by
    unfold DL.backD
    split
    · rename_i d e
      obtain ⟨w, e1, r⟩ := h v d e
      exact (RS.backD R h vs).reset e1 r
    · exact RS.backD R h vs
theorem At.shs {ρ : Ev} {σ : St} (A : At K Fr Hs ρ σ H) : ∀ (i : Nat) (d : Dat), ρ[i]? = some (Sl.sh d) → ∃ v, σ[i]? = some (some v) ∧ Rp K Hs v d := by
  intro i d e
  obtain ⟨o, e1, e2⟩ := zip_get A.len e
  obtain ⟨v, e3, r⟩ := A.rs.sl _ (List.mem_of_getElem? e2)
  exact ⟨v, by rw [e1]; exact congrArg some e3, r⟩
end
theorem own_ol {C : Addr → Prop} {ds : List Dat} {D p : Addr} (hp : p ∈ own1 (Sl.ol ds, some (V.ref D))) (h : C D) : C p := by
  have e : p = D := by simpa [own1] using hp
  rw [e]; exact h
/-! ### list comprehensions -/
structure DTs (X : Cx) (ifs : List Expr) (t : TTD) : Prop where
  pt : PTs X ifs (lT X.K t)
def tYesD : TTD := fun ρ Q => Q true ρ
def lcW (g : TGD) (tt : TTD) (te : TD) (vs : List Nat) : List Dat → Ev → List Dat → (List Dat → Ev → Prop) → Prop
  | [], ρ, acc, k => k acc ρ
  | d :: ds, ρ, acc, k => g d ρ fun ρ1 => tt ρ1 fun b ρ2 => if b = true then te ρ2 fun s ρ3 => fz s fun y => acc.length < sizeLine ∧ lcW g tt te vs ds (wipeD ρ3 vs) (acc ++ [y]) k else lcW g tt te vs ds (wipeD ρ2 vs) acc k
def dLc (ti : TID) (g : TGD) (tt : TTD) (te : TD) (vs : List Nat) : TD := fun ρ Q => ti ρ fun items ρ1 => lcW g tt te vs items (wipeD ρ1 vs) [] fun acc ρ2 => Q (.ol acc) (backD ρ1 ρ2 vs)
section
variable {X : Cx}
theorem dts_nil : DTs X [] tYesD := ⟨⟨fun pins s σ H Q I ⟨Fr, Hs, ρ, QD, A, q, f⟩ => pts_nil.run pins s σ H Q I (f true ρ Hs H q (.refl _) A)⟩⟩
theorem dts_one {c : Expr} {t : TTD} (h : DT X c t) : DTs X [c] t := ⟨pts_one h.pt⟩
theorem lc_read {ti : TID} {js vs : List Nat} {g : TGD} {tt : TTD} {te : TD} (hj : ∀ j ∈ js, j ∈ vs) (σ : St) (H : Hp) (Q : VK) (h : lE X.K (dLc ti g tt te vs) σ H Q) :
    tLc (lI X.K ti) (lG X.K js g) (lT X.K tt) (lE X.K te) vs σ H Q := by
  obtain ⟨Fr, Hs, ρ, QD, A, q, f⟩ := h
  refine ⟨Fr, Hs, ρ, _, A, q, fun items ρ1 Hs1 H1 J q1 s1 A1 wk D hD => ?_⟩
  have wl : (wipeD ρ1 vs).length = σ.length := by rw [wipeD_len]; exact A1.len
  refine ⟨fun i m H2 => ∃ Hs2 ρ2 acc, i ≤ items.length ∧ m = items.length - i ∧ Same Hs1 Hs2 ∧ ρ2.length = σ.length ∧ (∀ (j : Nat) (s : Sl), ρ2[j]? = some s → j ∈ vs → s = Sl.un) ∧ RS X.K Fr Hs2 H2 ((.ol acc, some (.ref D)) :: ρ2.zip σ) ∧
      lcW g tt te vs (items.drop i) ρ2 acc (fun acc ρ3 => QD (.ol acc) (backD ρ1 ρ3 vs)), ⟨_, Hs1, wipeD ρ1 vs, [], Nat.zero_le _, rfl, .refl _, wl, ?_, ?_, q1⟩, ?_⟩
  · intro j s e hj
    rw [wipeD_get] at e
    split at e
    · cases e; rfl
    · rename_i hn
      have : ¬ j < ρ1.length := fun z => hn ⟨hj, z⟩
      rw [List.getElem?_eq_none (by omega)] at e
      cases e
  · have R := RS.wipe (m := []) A1.rs vs
    have n := nx_own (o := .lst []) A1.rs.hs hD
    exact R.new n ⟨D, [], rfl, upd_same, .nil⟩ (fun p hp => own_ol (C := fun p => Hs1 p = none ∧ H1 p = none) hp ⟨A1.rs.hs.free hD, hD⟩) (own1_nodup _)
  · rintro i m H2 ⟨Hs2, ρ2, acc, hi, rfl, s2, l2, un2, R2, w2⟩
    obtain ⟨go, stop⟩ := wk Hs2 H2 s2 R2.hs
    by_cases hlt : i < items.length
    · have ed : items.drop i = items[i] :: items.drop (i + 1) := List.drop_eq_getElem_cons hlt
      rw [ed] at w2
      obtain ⟨hgo, hy⟩ := go i items[i] (List.getElem?_eq_getElem hlt)
      refine .inr ⟨hgo, fun H' => ∃ Hs3 ρ3 acc3, Same Hs1 Hs3 ∧ ρ3.length = σ.length ∧ (∀ (j : Nat) (s : Sl), ρ3[j]? = some s → j ∈ vs → s = Sl.un) ∧ RS X.K Fr Hs3 H' ((.ol acc3, some (.ref D)) :: ρ3.zip σ) ∧
        lcW g tt te vs (items.drop (i + 1)) ρ3 acc3 (fun acc ρ3 => QD (.ol acc) (backD ρ1 ρ3 vs)), ?_, ?_⟩
      · rintro H' ⟨Hs3, ρ3, acc3, s3, l3, un3, R3, w3⟩
        exact ⟨items.length - (i + 1), by omega, Hs3, ρ3, acc3, hlt, rfl, s3, l3, un3, R3, w3⟩
      · intro x H3 hx
        obtain ⟨Hs3, n3, r3⟩ := hy x H3 hx
        have R3 := R2.nx n3
        obtain ⟨p, vsA, e3, hDA, rA⟩ := R3.head
        have e3 : D = p := V.ref.inj (Option.some.inj e3)
        subst e3
        obtain ⟨R3', frD, hsD⟩ := R3.lend rfl hDA
        have un_of : ∀ (j : Nat) (s : Sl), ρ2[j]? = some s → s ≠ Sl.un → σ[j]? = (L2.wipe σ vs)[j]? := by
          intro j s e hs
          rw [wipe_get]
          have : j ∉ vs := fun z => hs (un2 j s e z)
          rw [if_neg (fun z => this z.1)]
        have R3w : RS X.K (upd Fr D (.lst vsA)) Hs3 H3 (ρ2.zip (L2.wipe σ vs)) := RS.agree (m := []) l2 (by rw [wipe_length]; exact l2) un_of R3'
        refine ⟨_, Hs3, ρ2, items[i], _, ⟨by rw [wipe_length]; exact l2, R3w⟩, r3, w2, fun ρ4 σ4 q4 o4 A4 => ⟨wipe_only o4 hj, ?_⟩⟩
        have σ4l : σ4.length = σ.length := o4.1.trans (wipe_length σ vs)
        have σ4a : ∀ j, j ∉ vs → σ4[j]? = σ[j]? := by
          intro j hj4
          rw [o4.2 j (fun z => hj4 (hj j z)), wipe_get, if_neg (fun z => hj4 z.1)]
        have s13 : Same Hs1 Hs3 := s2.trans n3.ss
        -- from a state in the block to one behind it
        have out : ∀ {Hs5 H5 : Hp} {ρ5 : Ev} {m5 : List (Sl × Option V)}, ρ5.length = σ4.length → RS X.K (upd Fr D (.lst vsA)) Hs5 H5 (m5 ++ ρ5.zip σ4) → RS X.K (upd Fr D (.lst vsA)) Hs5 H5 (m5 ++ (wipeD ρ5 vs).zip σ) ∧ (wipeD ρ5 vs).length = σ.length ∧ (∀ (j : Nat) (s : Sl), (wipeD ρ5 vs)[j]? = some s → j ∈ vs → s = Sl.un) := by
          intro Hs5 H5 ρ5 m5 l5 R5
          refine ⟨RS.agree (by rw [wipeD_len]; exact l5) (by rw [wipeD_len]; omega) (fun j s e hs => σ4a j fun z => hs ?_) (R5.wipe vs), by rw [wipeD_len]; omega, fun j s e hj => ?_⟩
          · rw [wipeD_get] at e
            split at e
            · cases e; rfl
            · rename_i hn
              have : ¬ j < ρ5.length := fun y => hn ⟨z, y⟩
              rw [List.getElem?_eq_none (by omega)] at e
              cases e
          · rw [wipeD_get] at e
            split at e
            · cases e; rfl
            · rename_i hn
              have : ¬ j < ρ5.length := fun y => hn ⟨hj, y⟩
              rw [List.getElem?_eq_none (by omega)] at e
              cases e
        refine ⟨_, Hs3, ρ4, _, A4, q4, fun b ρ5 Hs5 H5 q5 s5 A5 => ?_⟩
        cases b with
        | false =>
          rw [if_neg Bool.false_ne_true] at q5
          rw [if_neg Bool.false_ne_true]
          obtain ⟨R6, l6, un6⟩ := out (m5 := []) A5.len A5.rs
          have hD5 : H5 D = some (.lst vsA) := R6.fr D _ upd_same
          exact ⟨Hs5, _, acc, s13.trans s5, l6, un6, R6.back frD trivial rfl ⟨D, vsA, rfl, hD5, rA.mono (.of s5)⟩, q5⟩
        | true =>
          rw [if_pos rfl] at q5
          rw [if_pos rfl]
          refine ⟨_, Hs5, ρ5, _, A5, q5, fun s ρ6 Hs6 H6 v q6 l6 s6 R6 => ?_⟩
          obtain ⟨y, Hs7, ⟨hz, q7⟩, s7, R7⟩ := R6.frz q6
          obtain ⟨w, e7, r7⟩ := R7.head
          cases e7
          obtain ⟨R8, l8, un8⟩ := out (m5 := [(.sh y, some v)]) l6 R7
          have hD8 : H6 D = some (.lst vsA) := R8.fr D _ upd_same
          have rA8 : Rps X.K Hs7 vsA acc := rA.mono (.of ((s5.trans s6).trans s7))
          have R9 := RS.back (x := (.ol acc, some (.ref D))) (RS.tail (x := (.sh y, some v)) R8) frD trivial rfl ⟨D, vsA, rfl, hD8, rA8⟩
          refine ⟨vsA, hD8, by rw [rA8.length]; exact hz, Hs7, _, _, ((s13.trans s5).trans s6).trans s7, l8, un8, ?_, q7⟩
          have A9 : At X.K Fr Hs7 (.ol acc :: wipeD ρ6 vs) (some (.ref D) :: σ) H6 := ⟨by simp [l8], R9⟩
          have A10 := A9.putLst (i := 0) (ds := acc) (ds' := acc ++ [y]) (xs' := vsA ++ [v]) rfl rfl (rA8.append (.cons r7 .nil))
          exact A10.rs
    · have e : i = items.length := by omega
      subst e
      rw [List.drop_length] at w2
      refine .inl ⟨stop, ?_⟩
      have sh1 : ∀ (j : Nat) (d : Dat), ρ1[j]? = some (Sl.sh d) → ∃ v, σ[j]? = some (some v) ∧ Rp X.K Hs2 v d := fun j d e => by
        obtain ⟨v, e1, r⟩ := A1.shs j d e
        exact ⟨v, e1, r.mono (.of s2)⟩
      have R3 := RS.backD (m := [(.ol acc, some (.ref D))]) R2 sh1 vs
      exact f (.ol acc) (backD ρ1 ρ2 vs) Hs2 H2 (.ref D) w2 (by rw [backD_len]; exact l2) (s1.trans s2) R3
theorem de_lc {elt tg iter : Expr} {ifs : List Expr} {scope : Scope} {own : List (Str × Nat)} {pos : Pos} {ti : TID} {js : List Nat} {g : TGD} {tt : TTD} {te : TD} (hc : X.calm = true) (hN : X.N.Nodup) (hi : DI X tg iter ti) (ok : BlkOk X.N X.env.scope scope own)
    (hg : ∀ (s : Shared) (H : Hp) (C : Addr) (cl : List (Str × Addr)) (fp : List Addr), DG (X.blk s H scope (compEnvC scope cl C X.env) fp) tg js g)
    (ht : ∀ (s : Shared) (H : Hp) (C : Addr) (cl : List (Str × Addr)) (fp : List Addr), DTs (X.blk s H scope (compEnvC scope cl C X.env) fp) ifs tt)
    (he : ∀ (s : Shared) (H : Hp) (C : Addr) (cl : List (Str × Addr)) (fp : List Addr), DE (X.blk s H scope (compEnvC scope cl C X.env) fp) elt te)
    (hj : ∀ j ∈ js, j ∈ own.map (·.2)) (hs : ∀ x, foldedSetIterable iter X.env x = pure x := by intro _; rfl) : DE X (.ListComp elt [⟨tg, iter, ifs, 0⟩] scope pos) (dLc ti g tt te (own.map (·.2))) :=
  ⟨pe_imp (pe_lc hc hN hi.pi ok (fun s H C cl fp => (hg s H C cl fp).pg) (fun s H C cl fp => (ht s H C cl fp).pt) (fun s H C cl fp => (he s H C cl fp).pe) hs) fun σ H Q h => lc_read hj σ H Q h⟩
/-- y = [..] -/
theorem ds_setLc {i : Nat} {y : Str} {py : Pos} {elt tg iter : Expr} {ifs : List Expr} {scope : Scope} {own : List (Str × Nat)} {pos spos : Pos} {ti : TID} {js : List Nat} {g : TGD} {tt : TTD} {te : TD} (hc : X.calm = true) (hN : X.N.Nodup) (hy : X.N[i]? = some y) (hyl : X.env.scope.names.lookup y = some .local)
    (hsw : swapsWith (.ListComp elt [⟨tg, iter, ifs, 0⟩] scope pos) (some (.Name y py)) spos.line X.env = pure true) (hi : DI X tg iter ti) (ok : BlkOk X.N X.env.scope scope own)
    (hg : ∀ (s : Shared) (H : Hp) (C : Addr) (cl : List (Str × Addr)) (fp : List Addr), DG (X.blk s H scope (compEnvC scope cl C X.env) fp) tg js g)
    (ht : ∀ (s : Shared) (H : Hp) (C : Addr) (cl : List (Str × Addr)) (fp : List Addr), DTs (X.blk s H scope (compEnvC scope cl C X.env) fp) ifs tt)
    (he : ∀ (s : Shared) (H : Hp) (C : Addr) (cl : List (Str × Addr)) (fp : List Addr), DE (X.blk s H scope (compEnvC scope cl C X.env) fp) elt te)
    (hj : ∀ j ∈ js, j ∈ own.map (·.2)) (hs : ∀ x, foldedSetIterable iter X.env x = pure x := by intro _; rfl) : DS X (.Assign [.Name y py] (.ListComp elt [⟨tg, iter, ifs, 0⟩] scope pos) spos) (sSet i (dLc ti g tt te (own.map (·.2)))) := by
  refine ⟨ps_imp (ps_setLc (wi := lI X.K ti) (g := lG X.K js g) (tt := lT X.K tt) (te := lE X.K te) hc hN hy hyl hsw hi.pi ok (fun s H C cl fp => (hg s H C cl fp).pg) (fun s H C cl fp => (ht s H C cl fp).pt) (fun s H C cl fp => (he s H C cl fp).pe) hs) fun D σ H hq => ?_⟩
  obtain ⟨Fr, Hs, ρ, E, A, q, f1, f2, f3, f4⟩ := hq
  refine lc_read hj σ H _ ⟨Fr, Hs, ρ, _, A, q, fun s ρ1 Hs1 H1 w q1 hl s1 R => ?_⟩
  exact f1 _ _ Hs1 H1 q1.2 s1 (R.store hl (notIo_lt q1.1))
end

/-! ### from data to the library's readings -/
section
variable {X : Cx} {pins : List (Addr × Obj)} {σ : St} {H : Hp} {s : Shared}
mutual
theorem Rp.dp {K : Fg} {H : Hp} : ∀ {v : V} {d : Dat}, Rp K H v d → d.canLay0 = true → Dp K H v d
  | _, _, .non, _ => .non
  | _, _, .bl b, _ => .bl b
  | _, _, .int i, _ => .int i
  | _, _, .str x, _ => .str x
  | _, _, .lst h r, c => .lst h (Rps.dp r (by simpa [PyData.canLay0] using c))
  | _, _, .tup h r, c => .tup h (Rps.dp r (by simpa [PyData.canLay0] using c))
  | _, _, .dik h r, c => by simp [PyData.canLay0] at c
  | _, _, .dit h r, c => by simp [PyData.canLay0] at c
theorem Rps.dp {K : Fg} {H : Hp} : ∀ {v : List V} {d : List Dat}, Rps K H v d → PyData.canLayAll0 d = true → DpAll K H v d
  | _, _, .nil, _ => .nil
  | _, d :: ds, .cons a b, c => by
    have c' : d.canLay0 = true ∧ PyData.canLayAll0 ds = true := by simpa [PyData.canLayAll0] using c
    exact .cons (Rp.dp a c'.1) (Rps.dp b c'.2)
end
theorem Pk.reads {Hs : Hp} {v : V} {d : Dat} {u : Value} (I : Inv X pins σ H s) (sb : Sub Hs H) (p : Pk X.K Hs H v d) (c : d.canLay0 = true) (r : RelV v u) : ∃ as, Reads s.heap u d as :=
  Dp.reads I d v u ((p.rp sb).dp c) r
end
/-! ### what a comparison of data asks -/
def EqOk (x y : Dat) : Prop := x.canLay0 = true ∧ y.canLay0 = true ∧ min x.depth y.depth ≤ 60
def isStr : Dat → Bool
  | .str _ => true
  | _ => false
def EqOk1 (x y : Dat) : Prop := (isStr x = true ∧ isStr y = true) ∨ EqOk x y
theorem isStr_eq {x : Dat} (h : isStr x = true) : ∃ a, x = .str a := by
  cases x with
  | str a => exact ⟨a, rfl⟩
  | _ => cases h
theorem str_beq (a b : Str) : decide (V.str a = V.str b) = (a == b) := by
  by_cases h : a = b
  · subst h; simp
  · have h2 : V.str a ≠ V.str b := fun z => h (V.str.inj z)
    rw [decide_eq_false h2]
    exact (beq_eq_false_iff_ne.mpr h).symm
def fEq : F2 := fun x y k => EqOk1 x y ∧ k (.sh (.bool (PyData.eqv x y)))
def fNe : F2 := fun x y k => EqOk1 x y ∧ k (.sh (.bool (!PyData.eqv x y)))
section
variable {X : Cx}
theorem od_eq {n : Nat} (hr : Room n X.A) : OpD X (compareOp .Eq) fEq := by
  intro pins s σ H x y v u Q I rx ry ⟨Hs, dx, dy, k, sb, px, py, ⟨ok, hk⟩, f⟩
  rcases ok with ⟨h1, h2⟩ | ⟨c1, c2, c3⟩
  · obtain ⟨a, rfl⟩ := isStr_eq h1
    obtain ⟨b, rfl⟩ := isStr_eq h2
    refine op_eq pins s σ H x y v u Q I rx ry ?_
    rw [px.str, py.str]
    refine ⟨rfl, ?_⟩
    rw [str_beq]
    exact Rs.sc sb (.bl _) (f _ (by simpa [PyData.eqv] using hk))
  obtain ⟨as, r1⟩ := px.reads I sb c1 rx
  obtain ⟨bs, r2⟩ := py.reads I sb c2 ry
  have hu := hr.units
  exact SeqAt.compareEq_reads r1 r2 c1 c2 (by omega) ⟨.bl _, H, I, rfl, Rs.sc sb (.bl _) (f _ hk)⟩
theorem od_ne {n : Nat} (hr : Room n X.A) : OpD X (compareOp .NotEq) fNe := by
  intro pins s σ H x y v u Q I rx ry ⟨Hs, dx, dy, k, sb, px, py, ⟨ok, hk⟩, f⟩
  rcases ok with ⟨h1, h2⟩ | ⟨c1, c2, c3⟩
  · obtain ⟨a, rfl⟩ := isStr_eq h1
    obtain ⟨b, rfl⟩ := isStr_eq h2
    refine op_ne pins s σ H x y v u Q I rx ry ?_
    rw [px.str, py.str]
    refine ⟨rfl, ?_⟩
    rw [str_beq]
    exact Rs.sc sb (.bl _) (f _ (by simpa [PyData.eqv] using hk))
  obtain ⟨as, r1⟩ := px.reads I sb c1 rx
  obtain ⟨bs, r2⟩ := py.reads I sb c2 ry
  have hu := hr.units
  exact SeqAt.compareNe_reads r1 r2 c1 c2 (by omega) ⟨.bl _, H, I, rfl, Rs.sc sb (.bl _) (f _ hk)⟩
end
/-! in, not in -/
def inD (x : Dat) : Dat → Option Bool
  | .list ds => some (ds.any fun y => PyData.eqv y x)
  | .tuple ds => some (ds.any fun y => PyData.eqv y x)
  | .str b => match x with
    | .str a => some (!(Builtin.Str.occurrences b a 0 b.length 1).isEmpty)
    | _ => none
  | _ => none
def InOk (x y : Dat) : Prop := match y with
  | .list ds => x.canLay0 = true ∧ PyData.canLayAll0 ds = true ∧ min (PyData.depthAll ds) x.depth ≤ 60
  | .tuple ds => x.canLay0 = true ∧ PyData.canLayAll0 ds = true ∧ min (PyData.depthAll ds) x.depth ≤ 60
  | _ => True
def fIn : F2 := fun x y k => InOk x y ∧ ∃ b, inD x y = some b ∧ k (.sh (.bool b))
def fNotIn : F2 := fun x y k => InOk x y ∧ ∃ b, inD x y = some b ∧ k (.sh (.bool (!b)))
section
variable {X : Cx}
theorem od_in {n : Nat} (hr : Room n X.A) : OpD X (compareOp .In) fIn := by
  intro pins s σ H x y v u Q I rx ry ⟨Hs, dx, dy, k, sb, px, py, ⟨ok, b, hb, hk⟩, f⟩
  have hu := hr.units
  have fin : EP X pins σ Q (.bool b) s := ⟨.bl b, H, I, rfl, Rs.sc sb (.bl _) (f _ hk)⟩
  cases dy with
  | list ds =>
    obtain ⟨c1, c2, c3⟩ := ok
    obtain ⟨as, r1⟩ := px.reads I sb c1 rx
    obtain ⟨bs, r2⟩ := py.reads I sb (by simpa [PyData.canLay0] using c2) ry
    cases hb
    exact SeqAt.in_list_reads r2 r1 c2 c1 (by omega) fin
  | tuple ds =>
    obtain ⟨c1, c2, c3⟩ := ok
    obtain ⟨as, r1⟩ := px.reads I sb c1 rx
    obtain ⟨bs, r2⟩ := py.reads I sb (by simpa [PyData.canLay0] using c2) ry
    cases hb
    exact SeqAt.in_tuple_reads r2 r1 c2 c1 (by omega) fin
  | str z =>
    cases dx with
    | str a =>
      cases hb
      exact op_in_str pins s σ H x y v u Q I rx ry ⟨a, z, px.str, py.str, Rs.sc sb (.bl _) (f _ hk)⟩
    | _ => simp [inD] at hb
  | _ => simp [inD] at hb
theorem od_notIn {n : Nat} (hr : Room n X.A) : OpD X (compareOp .NotIn) fNotIn := by
  intro pins s σ H x y v u Q I rx ry ⟨Hs, dx, dy, k, sb, px, py, ⟨ok, b, hb, hk⟩, f⟩
  have hu := hr.units
  have fin : EP X pins σ Q (.bool (!b)) s := ⟨.bl (!b), H, I, rfl, Rs.sc sb (.bl _) (f _ hk)⟩
  cases dy with
  | list ds =>
    obtain ⟨c1, c2, c3⟩ := ok
    obtain ⟨as, r1⟩ := px.reads I sb c1 rx
    obtain ⟨bs, r2⟩ := py.reads I sb (by simpa [PyData.canLay0] using c2) ry
    cases hb
    exact SeqAt.notIn_list_reads r2 r1 c2 c1 (by omega) fin
  | tuple ds =>
    obtain ⟨c1, c2, c3⟩ := ok
    obtain ⟨as, r1⟩ := px.reads I sb c1 rx
    obtain ⟨bs, r2⟩ := py.reads I sb (by simpa [PyData.canLay0] using c2) ry
    cases hb
    exact SeqAt.notIn_tuple_reads r2 r1 c2 c1 (by omega) fin
  | str z =>
    cases dx with
    | str a =>
      cases hb
      exact op_notin_str pins s σ H x y v u Q I rx ry ⟨a, z, px.str, py.str, Rs.sc sb (.bl _) (f _ hk)⟩
    | _ => simp [inD] at hb
  | _ => simp [inD] at hb
end
/-! is, is not -/
def isD : Dat → Dat → Option Bool
  | .none, .none => some true
  | .bool a, .bool b => some (decide (a = b))
  | .bool _, .none => some false
  | .int _, .none => some false
  | .str _, .none => some false
  | .list _, .none => some false
  | .tuple _, .none => some false
  | .dict _, .none => some false
  | _, _ => none
def fIs : F2 := fun x y k => ∃ b, isD x y = some b ∧ k (.sh (.bool b))
def fIsN : F2 := fun x y k => ∃ b, isD x y = some b ∧ k (.sh (.bool (!b)))
theorem isD_none {K : Fg} {Hs H : Hp} {x y : V} {dx dy : Dat} {b : Bool} (sb : Sub Hs H) (px : Pk K Hs H x dx) (py : Pk K Hs H y dy) (h : isD dx dy = some b) :
    (∃ p q, x = .bl p ∧ y = .bl q ∧ b = decide (p = q)) ∨ (y = .non ∧ b = decide (x = .non)) := by
  cases dy with
  | none =>
    have ey := py.none
    subst ey
    refine .inr ⟨rfl, ?_⟩
    cases dx with
    | none => rw [px.none]; simp [isD] at h; simp [← h]
    | bool p => rw [px.bool]; simp [isD] at h; simp [h]
    | int p => rw [px.int]; simp [isD] at h; simp [h]
    | str p => rw [px.str]; simp [isD] at h; simp [h]
    | list p => obtain ⟨a, xs, rfl, _⟩ := px.list sb; simp [isD] at h; simp [h]
    | tuple p => obtain ⟨a, xs, rfl, _⟩ := px.tup sb; simp [isD] at h; simp [h]
    | dict p => obtain ⟨a, rfl, _⟩ := px.dict sb; simp [isD] at h; simp [h]
  | bool q =>
    cases dx with
    | bool p => exact .inl ⟨p, q, px.bool, py.bool, by simpa [isD] using h.symm⟩
    | _ => simp [isD] at h
  | _ => cases dx <;> simp [isD] at h
section
variable {X : Cx}
theorem od_is : OpD X (compareOp .Is) fIs := by
  intro pins s σ H x y v u Q I rx ry ⟨Hs, dx, dy, k, sb, px, py, ⟨b, hb, hk⟩, f⟩
  have fin := Rs.sc (v := .bl b) sb (.bl _) (f _ hk)
  rcases isD_none sb px py hb with ⟨p, q, rfl, rfl, rfl⟩ | ⟨rfl, rfl⟩
  · exact op_isBl pins s σ H _ _ v u Q I rx ry ⟨p, q, rfl, rfl, fin⟩
  · exact op_isN pins s σ H _ _ v u Q I rx ry ⟨rfl, fin⟩
theorem od_isN : OpD X (compareOp .IsNot) fIsN := by
  intro pins s σ H x y v u Q I rx ry ⟨Hs, dx, dy, k, sb, px, py, ⟨b, hb, hk⟩, f⟩
  have fin := Rs.sc (v := .bl (!b)) sb (.bl _) (f _ hk)
  rcases isD_none sb px py hb with ⟨p, q, rfl, rfl, rfl⟩ | ⟨rfl, rfl⟩
  · exact op_notBl pins s σ H _ _ v u Q I rx ry ⟨p, q, rfl, rfl, fin⟩
  · exact op_notN pins s σ H _ _ v u Q I rx ry ⟨rfl, fin⟩
end

/-! ### arithmetic -/
def MulOk (i j : Int) : Prop := (-(2 ^ 64) < i ∧ i < 2 ^ 64) ∨ (-(2 ^ 64) < j ∧ j < 2 ^ 64) ∨ CMulW i j
theorem MulOk.ok {i j : Int} (h : MulOk i j) : IntMulOk i j := by
  rcases h with h | h | h
  · exact CMul.ok (.inl h)
  · exact CMul.ok (.inr h)
  · exact h.ok
def rpD (n : Int) (ds : List Dat) : List Dat := (List.replicate n.toNat ds).flatten
def fAdd : F2
  | .int i, .int j, k => k (.sh (.int (i + j)))
  | .str x, .str y, k => x.length + y.length ≤ sizeLine ∧ k (.sh (.str (x ++ y)))
  | .list xs, .list ys, k => xs.length + ys.length ≤ sizeLine ∧ k (.ol (xs ++ ys))
  | .bool i, .bool j, k => k (.sh (.int (b2i i + b2i j)))
  | .int i, .bool j, k => k (.sh (.int (i + b2i j)))
  | _, _, _ => False
def fSub : F2
  | .int i, .int j, k => k (.sh (.int (i - j)))
  | .bool i, .bool j, k => k (.sh (.int (b2i i - b2i j)))
  | _, _, _ => False
def fMul : F2
  | .int i, .int j, k => MulOk i j ∧ k (.sh (.int (i * j)))
  | .list xs, .int n, k => -(2 ^ 63) ≤ n ∧ n < 2 ^ 63 ∧ xs.length * n.toNat ≤ sizeLine ∧ k (.ol (rpD n xs))
  | _, _, _ => False
def fDiv : F2
  | .int i, .int j, k => (0 < j ∧ j.natAbs.log2 < 9000) ∧ k (.sh (.int (i / j)))
  | _, _, _ => False
def fMod : F2
  | .int i, .int j, k => 0 < j ∧ k (.sh (.int (i % j)))
  | _, _, _ => False
def fPow : F2
  | .int i, .int j, k => 0 ≤ j ∧ (Builtin.Int.intBits i : Int) * j ≤ 2 ^ 27 ∧ k (.sh (.int (i ^ j.toNat)))
  | _, _, _ => False
def fShr : F2
  | .int i, .int j, k => 0 ≤ j ∧ k (.sh (.int (i / 2 ^ j.toNat)))
  | _, _, _ => False
def fShl : F2
  | .int i, .int j, k => CShl i j ∧ k (.sh (.int (i * 2 ^ j.toNat)))
  | _, _, _ => False
def fAnd : F2
  | .int i, .int j, k => k (.sh (.int (Builtin.bitAnd i j)))
  | _, _, _ => False
def fXor : F2
  | .int i, .int j, k => k (.sh (.int (Builtin.bitXor i j)))
  | _, _, _ => False
def fNeg : F1
  | .int i, k => k (.sh (.int (-i)))
  | _, _ => False
theorem rps_rep {K : Fg} {H : Hp} {vs : List V} {ds : List Dat} (r : Rps K H vs ds) : ∀ n : Nat, Rps K H (List.replicate n vs).flatten (List.replicate n ds).flatten
  | 0 => .nil
  | n + 1 => by
    rw [List.replicate_succ, List.replicate_succ, List.flatten_cons, List.flatten_cons]
    exact r.append (rps_rep r n)
section
variable {X : Cx}
section
variable {prog : Program} {w : World} {A : Around} {E : Value → Shared → Prop} {s : Shared}
theorem add_any {l b : Addr} {vs ws : List Value} {Q : Value → Shared → Prop} (hl : s.heap.IsList l vs.toArray) (hb : s.heap.IsList b ws.toArray)
    (h : Q (.ref s.heap.objs.size) { s with heap := s.heap.push { cls := .type "list", data := .seq (vs ++ ws).toArray } }) (hz : vs.length + ws.length ≤ sizeLine) : wpAny (model prog w) A (binaryOp .Add (.ref l) (.ref b)) Q E s := by
  obtain ⟨⟨c1, d1, z1, t1⟩, o1, k1, n1, e1⟩ := id hl
  obtain ⟨⟨c2, d2, z2, t2⟩, o2, k2, n2, e2⟩ := id hb
  simp only at k1 e1 k2 e2
  subst k1 e1 k2 e2
  refine concat_meets ⟨_, o1, rfl⟩ ⟨_, o2, rfl⟩ noFill_list_add seq_list_add PySem.F.slot_list_add PySem.F.entry_list_add (PySem.F.args_list_add_2 _ _)
    (list_addW l b vs.toArray ws.toArray n1 n2 d1 d2 t1 t2 (by simpa using hz)) ⟨o1, o2, ?_⟩
  have e : vs.toArray ++ ws.toArray = (vs ++ ws).toArray := by simp
  rw [e]
  exact h
theorem rep_any {l : Addr} {vs : List Value} {x : Int} {u : Tok} {Q : Value → Shared → Prop} (hl : s.heap.IsList l vs.toArray) (h1 : -(2 ^ 63 : Int) ≤ x) (h2 : x < 2 ^ 63) (hz : vs.length * x.toNat ≤ 2 ^ 24)
    (h : Q (.ref s.heap.objs.size) { s with heap := s.heap.push { cls := .type "list", data := .seq (List.replicate x.toNat vs).flatten.toArray } }) : wpAny (model prog w) A (binaryOp .Mult (.ref l) (.int x u)) Q E s := by
  obtain ⟨⟨c1, d1, z1, t1⟩, o1, k1, n1, e1⟩ := id hl
  simp only at k1 e1
  subst k1 e1
  have hz' : vs.toArray.size * x.toNat ≤ 2 ^ 24 := by simpa using hz
  refine wpAny_binaryOp_repeat_ref (T := "list") (U := "int") (by decide) ⟨_, o1, rfl⟩ (fun s' => typeIs_int s' x u) noFill_list_mul F.fills_int_mul F.slot_int_rmul repeat_list F.slot_int_index.lookup
    (call_meets F.slot_int_rmul (typeIs_int s x u) F.entry_int_rmul (F.args_int_rmul_2 _ _) (lm_int_rmul_list_any x u l vs.toArray n1 d1 t1)
      ⟨o1, rfl, ⟨_, o1, rfl⟩, call_meets F.slot_list_mul ⟨_, o1, rfl⟩ F.entry_list_mul (F.args_list_mul_2 _ _) (lm_list_mul_any l vs.toArray n1 d1 t1 x u (by simp [Builtin.List.listFitsIndex]; omega) (by omega) (by simp [Builtin.List.listTooLong, sizeLine]; omega)) ⟨o1, ?_⟩⟩)
  rw [listMul_foldl_if]
  exact h
end
theorem od_add : OpD X (binaryOp .Add) fAdd := by
  intro pins s σ H x y v u Q I rx ry ⟨Hs, dx, dy, k, sb, px, py, hf, f⟩
  unfold fAdd at hf
  split at hf
  · rename_i i j
    exact op_add pins s σ H x y v u Q I rx ry ⟨i, j, px.int, py.int, Rs.sc sb (.int _) (f _ hf)⟩
  · rename_i i j
    exact op_add_str pins s σ H x y v u Q I rx ry ⟨i, j, px.str, py.str, hf.1, Rs.sc sb (.str _) (f _ hf.2)⟩
  · rename_i xs ys
    obtain ⟨a, xv, rfl, h1, r1⟩ := px.list sb
    obtain ⟨b, yv, rfl, h2, r2⟩ := py.list sb
    cases rx
    cases ry
    obtain ⟨its, rv, p1, z1⟩ := I.list h1
    obtain ⟨its2, rv2, p2, z2⟩ := I.list h2
    have l1 := rv.length
    have l2 := rv2.length
    have l3 := r1.length
    have l4 := r2.length
    refine add_any p1.isList p2.isList ⟨.ref _, _, I.lnew (t' := s.toks) (rv.append rv2) (by rw [List.length_append]; omega), rfl, ?_⟩ (by omega)
    exact Rs.lst sb (r1.append r2) I.fresh (f _ hf.2)
  · rename_i i j
    rw [px.bool] at rx
    rw [py.bool] at ry
    cases rx
    cases ry
    exact add_bool ⟨.int _, H, I.tok _, ⟨_, rfl⟩, Rs.sc sb (.int _) (f _ hf)⟩
  · rename_i i j
    exact op_add_ib pins s σ H x y v u Q I rx ry ⟨i, j, px.int, py.bool, Rs.sc sb (.int _) (f _ hf)⟩
  · exact hf.elim
theorem od_sub : OpD X (binaryOp .Sub) fSub := by
  intro pins s σ H x y v u Q I rx ry ⟨Hs, dx, dy, k, sb, px, py, hf, f⟩
  unfold fSub at hf
  split at hf
  · rename_i i j
    exact op_sub pins s σ H x y v u Q I rx ry ⟨i, j, px.int, py.int, Rs.sc sb (.int _) (f _ hf)⟩
  · rename_i i j
    rw [px.bool] at rx
    rw [py.bool] at ry
    cases rx
    cases ry
    exact sub_bool ⟨.int _, H, I.tok _, ⟨_, rfl⟩, Rs.sc sb (.int _) (f _ hf)⟩
  · exact hf.elim
theorem od_mul : OpD X (binaryOp .Mult) fMul := by
  intro pins s σ H x y v u Q I rx ry ⟨Hs, dx, dy, k, sb, px, py, hf, f⟩
  unfold fMul at hf
  split at hf
  · rename_i i j
    rw [px.int] at rx
    rw [py.int] at ry
    obtain ⟨t, rfl⟩ := rx
    obtain ⟨t', rfl⟩ := ry
    exact mul_int ⟨.int _, H, I.tok _, ⟨_, rfl⟩, Rs.sc sb (.int _) (f _ hf.2)⟩ hf.1.ok
  · rename_i xs n
    obtain ⟨h1, h2, hz, hf⟩ := hf
    obtain ⟨a, xv, rfl, h3, r1⟩ := px.list sb
    cases rx
    rw [py.int] at ry
    obtain ⟨t', rfl⟩ := ry
    obtain ⟨its, rv, p1, z1⟩ := I.list h3
    have l1 := rv.length
    have l3 := r1.length
    have e1 : its.length * n.toNat ≤ 2 ^ 24 := by rw [← l1, l3]; exact hz
    refine rep_any p1.isList h1 h2 e1 ⟨.ref _, _, I.lnew (t' := s.toks) (rv.rep n.toNat) (by rw [lm_len_rep_flat, Nat.mul_comm, l3]; exact hz), rfl, ?_⟩
    exact Rs.lst sb (rps_rep r1 n.toNat) I.fresh (f _ hf)
  · exact hf.elim
theorem od_int2 {op : Operator} {fi : Int → Int → (Sl → Prop) → Prop} {g : Int → Int → Int} {C : Int → Int → Prop} (h : OpR X (binaryOp op) (rI C fun i j => .int (g i j))) (hf : ∀ i j k, fi i j k → C i j ∧ k (.sh (.int (g i j)))) {f2 : F2}
    (h2 : ∀ x y k, f2 x y k → ∃ i j, x = .int i ∧ y = .int j ∧ fi i j k) : OpD X (binaryOp op) f2 := by
  intro pins s σ H x y v u Q I rx ry ⟨Hs, dx, dy, k, sb, px, py, hq, f⟩
  obtain ⟨i, j, e1, e2, hq2⟩ := h2 _ _ _ hq
  subst e1 e2
  obtain ⟨c, hk⟩ := hf _ _ _ hq2
  exact h pins s σ H x y v u Q I rx ry ⟨i, j, px.int, py.int, c, Rs.sc sb (.int _) (f _ hk)⟩
theorem od_div : OpD X (binaryOp .FloorDiv) fDiv := od_int2 op_fdivW (fi := fun i j k => (0 < j ∧ j.natAbs.log2 < 9000) ∧ k (.sh (.int (i / j)))) (fun _ _ _ h => h) (by intro x y k h; unfold fDiv at h; split at h; exact ⟨_, _, rfl, rfl, h⟩; exact h.elim)
theorem od_mod : OpD X (binaryOp .Mod) fMod := od_int2 op_mod (fi := fun i j k => 0 < j ∧ k (.sh (.int (i % j)))) (fun _ _ _ h => h) (by intro x y k h; unfold fMod at h; split at h; exact ⟨_, _, rfl, rfl, h⟩; exact h.elim)
theorem op_powD : OpR X (binaryOp .Pow) (rI (fun i j => 0 ≤ j ∧ (Builtin.Int.intBits i : Int) * j ≤ 2 ^ 27) fun i j => .int (i ^ j.toNat)) := opI fun _ _ _ _ _ _ _ hc q => pow_int hc.1 hc.2 q
theorem od_pow : OpD X (binaryOp .Pow) fPow := od_int2 op_powD (fi := fun i j k => (0 ≤ j ∧ (Builtin.Int.intBits i : Int) * j ≤ 2 ^ 27) ∧ k (.sh (.int (i ^ j.toNat)))) (fun _ _ _ h => h) (by intro x y k h; unfold fPow at h; split at h; exact ⟨_, _, rfl, rfl, ⟨h.1, h.2.1⟩, h.2.2⟩; exact h.elim)
theorem od_shr : OpD X (binaryOp .RShift) fShr := od_int2 op_shr (fi := fun i j k => 0 ≤ j ∧ k (.sh (.int (i / 2 ^ j.toNat)))) (fun _ _ _ h => h) (by intro x y k h; unfold fShr at h; split at h; exact ⟨_, _, rfl, rfl, h⟩; exact h.elim)
theorem od_shl : OpD X (binaryOp .LShift) fShl := od_int2 op_shlW (fi := fun i j k => CShl i j ∧ k (.sh (.int (i * 2 ^ j.toNat)))) (fun _ _ _ h => h) (by intro x y k h; unfold fShl at h; split at h; exact ⟨_, _, rfl, rfl, h⟩; exact h.elim)
theorem op_andC : OpR X (binaryOp .BitAnd) (rI (fun _ _ => True) fun i j => .int (Builtin.bitAnd i j)) := opI fun _ _ _ _ _ _ _ _ q => and_int q
theorem op_xorC : OpR X (binaryOp .BitXor) (rI (fun _ _ => True) fun i j => .int (Builtin.bitXor i j)) := opI fun _ _ _ _ _ _ _ _ q => xor_int q
theorem od_and : OpD X (binaryOp .BitAnd) fAnd := od_int2 op_andC (fi := fun i j k => k (.sh (.int (Builtin.bitAnd i j)))) (fun _ _ _ h => ⟨trivial, h⟩) (by intro x y k h; unfold fAnd at h; split at h; exact ⟨_, _, rfl, rfl, h⟩; exact h.elim)
theorem od_xor : OpD X (binaryOp .BitXor) fXor := od_int2 op_xorC (fi := fun i j k => k (.sh (.int (Builtin.bitXor i j)))) (fun _ _ _ h => ⟨trivial, h⟩) (by intro x y k h; unfold fXor at h; split at h; exact ⟨_, _, rfl, rfl, h⟩; exact h.elim)
theorem ud_neg : UnD X (unaryOp .USub) fNeg := by
  intro pins s σ H x v Q I rx ⟨Hs, dx, k, sb, px, hf, f⟩
  unfold fNeg at hf
  split at hf
  · rename_i i
    exact un_neg pins s σ H x v Q I rx ⟨i, px.int, Rs.sc sb (.int _) (f _ hf)⟩
  · exact hf.elim
end
/-! ### order -/
mutual
def cmpD : Dat → Dat → Option Ordering
  | .int i, .int j => some (compare i j)
  | .bool i, .bool j => some (compare (b2i i) (b2i j))
  | .str x, .str y => some (if x.cps.toList < y.cps.toList then .lt else if y.cps.toList < x.cps.toList then .gt else .eq)
  | .tuple xs, .tuple ys => cmpDs xs ys
  | _, _ => none
def cmpDs : List Dat → List Dat → Option Ordering
  | [], [] => some .eq
  | [], _ :: _ => some .lt
  | _ :: _, [] => some .gt
  | x :: xs, y :: ys => if PyData.eqv x y = true then cmpDs xs ys else match cmpD x y, cmpDs xs ys with
    | some o, some _ => some o
    | _, _ => none
end
def fOrd (p : Ordering → Bool) : F2 := fun x y k => EqOk x y ∧ ∃ o, cmpD x y = some o ∧ k (.sh (.bool (p o)))
def pLt : Ordering → Bool | .lt => true | _ => false
def pGt : Ordering → Bool | .gt => true | _ => false
def pLe : Ordering → Bool | .gt => false | _ => true
def pGe : Ordering → Bool | .lt => false | _ => true
def ordOp : CmpOp → Ordering → Bool
  | .Lt => pLt
  | .Gt => pGt
  | .LtE => pLe
  | .GtE => pGe
  | _ => fun _ => false
def ordN : CmpOp → Nat → Nat → Bool
  | .Lt, a, b => decide (a < b)
  | .Gt, a, b => decide (a > b)
  | .LtE, a, b => decide (a ≤ b)
  | .GtE, a, b => decide (a ≥ b)
  | _, _, _ => false
def rOf (op : CmpOp) : Option Ordering → Bool
  | some o => ordOp op o
  | none => false
theorem lexAt_shift (e r : Nat → Bool) (z : Bool) : ∀ k i, Ob.lexAt (fun j => e (j + 1)) (fun j => r (j + 1)) z i k = Ob.lexAt e r z (i + 1) k
  | 0, _ => rfl
  | k + 1, i => by rw [Ob.lexAt_succ, Ob.lexAt_succ, lexAt_shift e r z k (i + 1)]
theorem ordN_eq {op : CmpOp} (hop : op = .Lt ∨ op = .Gt ∨ op = .LtE ∨ op = .GtE) (a b : Nat) : ordN op a b = ordOp op (compare a b) := by
  rcases hop with h | h | h | h <;> subst h <;> simp only [ordN, ordOp] <;> rcases Nat.lt_trichotomy a b with h | h | h <;>
    simp [pLt, pGt, pLe, pGe, Nat.compare_eq_lt.mpr, Nat.compare_eq_gt.mpr, h] <;> omega
theorem lex_cmp {op : CmpOp} (hop : op = .Lt ∨ op = .Gt ∨ op = .LtE ∨ op = .GtE) : ∀ (xs ys : List Dat) (o : Ordering), cmpDs xs ys = some o →
    Ob.lexAt (fun j => PyData.eqv (xs.getD j .none) (ys.getD j .none)) (fun j => rOf op (cmpD (xs.getD j .none) (ys.getD j .none))) (ordN op xs.length ys.length) 0 (min xs.length ys.length) = ordOp op o
  | [], [], o, h => by
    have e : o = .eq := by simpa [cmpDs] using h.symm
    subst e
    show ordN op 0 0 = _
    rw [ordN_eq hop]
    rfl
  | [], y :: ys, o, h => by
    have e : o = .lt := by simpa [cmpDs] using h.symm
    subst e
    show ordN op 0 (ys.length + 1) = _
    rw [ordN_eq hop]
    congr 1
  | x :: xs, [], o, h => by
    have e : o = .gt := by simpa [cmpDs] using h.symm
    subst e
    show ordN op (xs.length + 1) 0 = _
    rw [ordN_eq hop]
    congr 1
  | x :: xs, y :: ys, o, h => by
    have em : min (x :: xs).length (y :: ys).length = min xs.length ys.length + 1 := by simp [Nat.succ_min_succ]
    rw [em, Ob.lexAt_succ]
    have hz : ordN op (x :: xs).length (y :: ys).length = ordN op xs.length ys.length := by
      rw [ordN_eq hop, ordN_eq hop]
      congr 1
      simp only [List.length_cons]
      rcases Nat.lt_trichotomy xs.length ys.length with h | h | h
      · rw [Nat.compare_eq_lt.mpr h, Nat.compare_eq_lt.mpr (by omega)]
      · rw [h]; simp
      · rw [Nat.compare_eq_gt.mpr h, Nat.compare_eq_gt.mpr (by omega)]
    unfold cmpDs at h
    show (if PyData.eqv x y = true then _ else _) = _
    by_cases hq : PyData.eqv x y = true
    · rw [if_pos hq] at h ⊢
      rw [hz]
      have := lex_cmp hop xs ys o h
      rw [← this]
      exact (lexAt_shift (fun j => PyData.eqv ((x :: xs).getD j .none) ((y :: ys).getD j .none)) (fun j => rOf op (cmpD ((x :: xs).getD j .none) ((y :: ys).getD j .none))) (ordN op xs.length ys.length) (min xs.length ys.length) 0).symm
    · rw [if_neg hq] at h ⊢
      show rOf op (cmpD x y) = _
      cases e1 : cmpD x y with
      | none => rw [e1] at h; cases h
      | some o1 =>
        cases e2 : cmpDs xs ys with
        | none => rw [e1, e2] at h; cases h
        | some o2 => rw [e1, e2] at h; cases h; rfl
theorem cmpDs_at : ∀ {xs ys : List Dat} {o : Ordering}, cmpDs xs ys = some o → ∀ (j : Nat), j < xs.length → j < ys.length → PyData.eqv (xs.getD j .none) (ys.getD j .none) = false → ∃ p, cmpD (xs.getD j .none) (ys.getD j .none) = some p
  | [], _, _, _, j, h1, _, _ => by simp at h1
  | _ :: _, [], _, _, j, _, h2, _ => by simp at h2
  | x :: xs, y :: ys, o, h, j, h1, h2, he => by
    unfold cmpDs at h
    have rest : ∃ p, cmpDs xs ys = some p := by
      split at h
      · exact ⟨_, h⟩
      · cases e1 : cmpD x y with
        | none => rw [e1] at h; cases h
        | some o1 =>
          cases e2 : cmpDs xs ys with
          | none => rw [e1, e2] at h; cases h
          | some o2 => exact ⟨_, rfl⟩
    cases j with
    | zero =>
      have he' : PyData.eqv x y = false := he
      rw [if_neg (by rw [he']; exact Bool.false_ne_true)] at h
      cases e1 : cmpD x y with
      | none => rw [e1] at h; cases h
      | some o1 => exact ⟨o1, e1⟩
    | succ j =>
      obtain ⟨p, hp⟩ := rest
      exact cmpDs_at hp j (by simpa using h1) (by simpa using h2) he

/-! ### order, by the library -/
theorem readsAll_at {h : Heap} : ∀ {vs : List Value} {ds : List Dat} {as : List Addr}, ReadsAll h vs ds as → ∀ (j : Nat) (hj : j < vs.length), j < ds.length ∧ ∃ bs, Reads h vs[j] (ds.getD j .none) bs
  | _, _, _, .nil, j, hj => by simp at hj
  | v :: vs, d :: ds, _, .cons r rs, 0, _ => ⟨by simp, _, r⟩
  | v :: vs, d :: ds, _, .cons r rs, j + 1, hj => by
    obtain ⟨h1, bs, h2⟩ := readsAll_at rs j (by simpa using hj)
    exact ⟨by simpa using h1, bs, by simpa using h2⟩
theorem readsAll_len {h : Heap} : ∀ {vs : List Value} {ds : List Dat} {as : List Addr}, ReadsAll h vs ds as → vs.length = ds.length
  | _, _, _, .nil => rfl
  | _, _, _, .cons _ rs => congrArg (· + 1) (readsAll_len rs)
theorem canLay_at : ∀ {ds : List Dat} (j : Nat), PyData.canLayAll0 ds = true → (ds.getD j .none).canLay0 = true
  | [], _, _ => by simp [PyData.canLay0]
  | d :: ds, 0, h => by
    have h' : d.canLay0 = true ∧ PyData.canLayAll0 ds = true := by simpa [PyData.canLayAll0] using h
    exact h'.1
  | d :: ds, j + 1, h => by
    have h' : d.canLay0 = true ∧ PyData.canLayAll0 ds = true := by simpa [PyData.canLayAll0] using h
    exact canLay_at j h'.2
theorem depth_at : ∀ {ds : List Dat} (j : Nat), (ds.getD j .none).depth ≤ PyData.depthAll ds
  | [], _ => by simp [PyData.depth]
  | d :: ds, 0 => by simp only [PyData.depthAll]; exact Nat.le_max_left _ _
  | d :: ds, j + 1 => by simp only [PyData.depthAll]; exact Nat.le_trans (depth_at j) (Nat.le_max_right _ _)
theorem str_rc {op : CmpOp} (hop : op = .Lt ∨ op = .Gt ∨ op = .LtE ∨ op = .GtE) {A : Around} {s : Shared} {x y : Str} {t u : Tok} {o : Ordering} (h : cmpD (.str x) (.str y) = some o) : Ob.RcOp op A s (.str x t) (.str y u) (ordOp op o) := by
  intro prog w E Q hq
  have asym : ∀ a b : List Nat, a < b → ¬ b < a := fun a b h1 h2 => List.lt_irrefl a (List.lt_trans h1 h2)
  simp only [cmpD, Option.some.injEq] at h
  have key : (o = .lt ↔ x.cps.toList < y.cps.toList) ∧ (o = .gt ↔ y.cps.toList < x.cps.toList) := by
    by_cases h1 : x.cps.toList < y.cps.toList
    · rw [if_pos h1] at h
      subst h
      exact ⟨by simp [h1], by simp [asym _ _ h1]⟩
    · rw [if_neg h1] at h
      by_cases h2 : y.cps.toList < x.cps.toList
      · rw [if_pos h2] at h
        subst h
        exact ⟨by simp [h1], by simp [h2]⟩
      · rw [if_neg h2] at h
        subst h
        exact ⟨by simp [h1], by simp [h2]⟩
  rcases hop with e | e | e | e <;> subst e
  · refine PyProof.Rows.lt_str ?_
    have e : decide (x.cps.toList < y.cps.toList) = ordOp .Lt o := by
      cases o <;> simp [ordOp, pLt, ← key.1]
    rw [e]; exact hq
  · refine PySem.P.gt_str ?_
    have e : decide (y.cps.toList < x.cps.toList) = ordOp .Gt o := by
      cases o <;> simp [ordOp, pGt, ← key.2]
    rw [e]; exact hq
  · refine PySem.P.le_str ?_
    have e : (!decide (y.cps.toList < x.cps.toList)) = ordOp .LtE o := by
      cases o <;> simp [ordOp, pLe, ← key.2]
    rw [e]; exact hq
  · refine PySem.P.ge_str ?_
    have e : (!decide (x.cps.toList < y.cps.toList)) = ordOp .GtE o := by
      cases o <;> simp [ordOp, pGe, ← key.1]
    rw [e]; exact hq
theorem int_rc {op : CmpOp} (hop : op = .Lt ∨ op = .Gt ∨ op = .LtE ∨ op = .GtE) {A : Around} {s : Shared} {x y : Int} {t u : Tok} : Ob.RcOp op A s (.int x t) (.int y u) (ordOp op (compare x y)) := by
  have c : compare x y = if x < y then .lt else if x = y then .eq else .gt := rfl
  rcases hop with e | e | e | e <;> subst e
  · have e : decide (x < y) = ordOp .Lt (compare x y) := by
      rw [c]; by_cases h1 : x < y <;> by_cases h2 : x = y <;> simp [h1, h2, ordOp, pLt]
    rw [← e]; exact .lt_int _ _ _ _
  · have e : decide (y < x) = ordOp .Gt (compare x y) := by
      rw [c]; by_cases h1 : x < y <;> by_cases h2 : x = y <;> simp [h1, h2, ordOp, pGt] <;> omega
    rw [← e]; exact .gt_int _ _ _ _
  · have e : decide (x ≤ y) = ordOp .LtE (compare x y) := by
      rw [c]; by_cases h1 : x < y <;> by_cases h2 : x = y <;> simp [h1, h2, ordOp, pLe] <;> omega
    rw [← e]; exact .le_int _ _ _ _
  · have e : decide (y ≤ x) = ordOp .GtE (compare x y) := by
      rw [c]; by_cases h1 : x < y <;> by_cases h2 : x = y <;> simp [h1, h2, ordOp, pGe] <;> omega
    rw [← e]; exact .ge_int _ _ _ _
theorem bool_rc {op : CmpOp} (hop : op = .Lt ∨ op = .Gt ∨ op = .LtE ∨ op = .GtE) {A : Around} {s : Shared} {x y : Bool} : Ob.RcOp op A s (.bool x) (.bool y) (ordOp op (compare (b2i x) (b2i y))) := by
  intro prog w E Q hq
  rcases hop with e | e | e | e <;> subst e
  · exact PyProof.Rows.lt_bool (by cases x <;> cases y <;> exact hq)
  · exact PyProof.Rows.gt_bool (by cases x <;> cases y <;> exact hq)
  · exact PyProof.Rows.le_bool (by cases x <;> cases y <;> exact hq)
  · exact PyProof.Rows.ge_bool (by cases x <;> cases y <;> exact hq)
theorem tuples_rc {op : CmpOp} (hop : op = .Lt ∨ op = .Gt ∨ op = .LtE ∨ op = .GtE) {A : Around} {s : Shared} {l b : Addr} {i1 i2 : Array Value} {e r : Nat → Bool} (hl : s.heap.IsTuple l i1) (hb : s.heap.IsTuple b i2) (hu : A.units < cLine)
    (he : ∀ j (h1 : j < i1.size) (h2 : j < i2.size), SeqAt.EqAt A.in1 s i1[j] i2[j] (e j)) (hr : ∀ j (h1 : j < i1.size) (h2 : j < i2.size), e j = false → Ob.RcOp op A.in1 s i1[j] i2[j] (r j)) :
    Ob.RcOp op A s (.ref l) (.ref b) (Ob.lexAt e r (ordN op i1.size i2.size) 0 (min i1.size i2.size)) := by
  rcases hop with h | h | h | h <;> subst h
  · exact Ob.RcOp.tuples_lt hl hb hu he hr
  · exact Ob.RcOp.tuples_gt hl hb hu he hr
  · exact Ob.RcOp.tuples_le hl hb hu he hr
  · exact Ob.RcOp.tuples_ge hl hb hu he hr
theorem data_rc {op : CmpOp} (hop : op = .Lt ∨ op = .Gt ∨ op = .LtE ∨ op = .GtE) : ∀ (n : Nat) (x y : Dat) (A : Around) (s : Shared) (a b : Value) (as bs : List Addr) (o : Ordering), min x.depth y.depth ≤ n → Reads s.heap a x as → Reads s.heap b y bs → x.canLay0 = true → y.canLay0 = true → A.units + min x.depth y.depth + 1 < cLine →
    cmpD x y = some o → Ob.RcOp op A s a b (ordOp op o) := by
  intro n
  induction n with
  | zero =>
    intro x y A s a b as bs o hd ra rb ca cb hu h
    cases x with
    | int i =>
      cases y with
      | int j => cases ra; cases rb; simp only [cmpD, Option.some.injEq] at h; subst h; exact int_rc hop
      | _ => simp [cmpD] at h
    | bool i =>
      cases y with
      | bool j => cases ra; cases rb; simp only [cmpD, Option.some.injEq] at h; subst h; exact bool_rc hop
      | _ => simp [cmpD] at h
    | str i =>
      cases y with
      | str j => cases ra; cases rb; exact str_rc hop h
      | _ => simp [cmpD] at h
    | tuple xs =>
      cases y with
      | tuple ys => simp [PyData.depth] at hd
      | _ => simp [cmpD] at h
    | _ => simp [cmpD] at h
  | succ n ih =>
    intro x y A s a b as bs o hd ra rb ca cb hu h
    cases x with
    | int i =>
      cases y with
      | int j => cases ra; cases rb; simp only [cmpD, Option.some.injEq] at h; subst h; exact int_rc hop
      | _ => simp [cmpD] at h
    | bool i =>
      cases y with
      | bool j => cases ra; cases rb; simp only [cmpD, Option.some.injEq] at h; subst h; exact bool_rc hop
      | _ => simp [cmpD] at h
    | str i =>
      cases y with
      | str j => cases ra; cases rb; exact str_rc hop h
      | _ => simp [cmpD] at h
    | tuple xs =>
      cases y with
      | tuple ys =>
        have cx : PyData.canLayAll0 xs = true := by simpa [PyData.canLay0] using ca
        have cy : PyData.canLayAll0 ys = true := by simpa [PyData.canLay0] using cb
        have dx : min (PyData.depthAll xs) (PyData.depthAll ys) ≤ n := by simp only [PyData.depth] at hd; omega
        have ux : A.units + (min (PyData.depthAll xs) (PyData.depthAll ys) + 1) + 1 < cLine := by simp only [PyData.depth] at hu; omega
        have hc : cmpDs xs ys = some o := by simpa [cmpD] using h
        cases ra with
        | tuple h1 h2 h3 h4 =>
          cases rb with
          | tuple g1 g2 g3 g4 =>
            have l1 := readsAll_len h4
            have l2 := readsAll_len g4
            have key := tuples_rc hop (A := A) (e := fun j => PyData.eqv (xs.getD j .none) (ys.getD j .none)) (r := fun j => rOf op (cmpD (xs.getD j .none) (ys.getD j .none))) ⟨_, h1, h2, _, h3⟩ ⟨_, g1, g2, _, g3⟩ (by omega)
              (fun j k1 k2 => ?_) (fun j k1 k2 k3 => ?_)
            · have q := lex_cmp hop xs ys o hc
              rw [← l1, ← l2, Array.length_toList, Array.length_toList] at q
              rw [q] at key
              exact key
            · obtain ⟨_, bs1, r1⟩ := readsAll_at h4 j (by rw [Array.length_toList]; exact k1)
              obtain ⟨_, bs2, r2⟩ := readsAll_at g4 j (by rw [Array.length_toList]; exact k2)
              rw [Array.getElem_toList] at r1 r2
              have d1 := depth_at (ds := xs) j
              have d2 := depth_at (ds := ys) j
              exact SeqAt.eqAt_reads _ _ A.in1 s _ _ _ _ r1 r2 (canLay_at j cx) (canLay_at j cy) (by show A.units + 1 + _ < cLine; omega)
            · obtain ⟨m1, bs1, r1⟩ := readsAll_at h4 j (by rw [Array.length_toList]; exact k1)
              obtain ⟨m2, bs2, r2⟩ := readsAll_at g4 j (by rw [Array.length_toList]; exact k2)
              rw [Array.getElem_toList] at r1 r2
              obtain ⟨p, hp⟩ := cmpDs_at hc j m1 m2 k3
              have d1 := depth_at (ds := xs) j
              have d2 := depth_at (ds := ys) j
              rw [hp]
              exact ih _ _ A.in1 s _ _ _ _ p (by omega) r1 r2 (canLay_at j cx) (canLay_at j cy) (by show A.units + 1 + _ + 1 < cLine; omega) hp
      | _ => simp [cmpD] at h
    | _ => simp [cmpD] at h
section
variable {X : Cx}
theorem od_ord {op : CmpOp} (hop : op = .Lt ∨ op = .Gt ∨ op = .LtE ∨ op = .GtE) {n : Nat} (hr : Room n X.A) (hco : ∀ v u, compareOp op v u = richCompare op v u) : OpD X (compareOp op) (fOrd (ordOp op)) := by
  intro pins s σ H x y v u Q I rx ry ⟨Hs, dx, dy, k, sb, px, py, ⟨⟨c1, c2, c3⟩, o, ho, hk⟩, f⟩
  obtain ⟨as, r1⟩ := px.reads I sb c1 rx
  obtain ⟨bs, r2⟩ := py.reads I sb c2 ry
  have hu := hr.units
  rw [hco]
  exact data_rc hop _ dx dy X.A s v u as bs o (Nat.le_refl _) r1 r2 c1 c2 (by omega) ho X.prog X.w X.xe _ ⟨.bl _, H, I, rfl, Rs.sc sb (.bl _) (f _ hk)⟩
theorem od_lt {n : Nat} (hr : Room n X.A) : OpD X (compareOp .Lt) (fOrd pLt) := od_ord (.inl rfl) hr fun _ _ => rfl
theorem od_gt {n : Nat} (hr : Room n X.A) : OpD X (compareOp .Gt) (fOrd pGt) := od_ord (.inr (.inl rfl)) hr fun _ _ => rfl
theorem od_le {n : Nat} (hr : Room n X.A) : OpD X (compareOp .LtE) (fOrd pLe) := od_ord (.inr (.inr (.inl rfl))) hr fun _ _ => rfl
theorem od_ge {n : Nat} (hr : Room n X.A) : OpD X (compareOp .GtE) (fOrd pGe) := od_ord (.inr (.inr (.inr rfl))) hr fun _ _ => rfl
/-- a < b < c -/
def dChain (f f' : F2) (a b c : TOD) : TD := fun ρ Q => a ρ fun la ρ1 => b ρ1 fun lb ρ2 => ∃ dx dy, la.get ρ2 = some dx ∧ lb.get ρ2 = some dy ∧ f dx dy fun s => ∃ k, s = .sh (.bool k) ∧
  if k = true then c ρ2 fun lc ρ3 => ∃ dy dz, lb.get ρ3 = some dy ∧ lc.get ρ3 = some dz ∧ f' dy dz fun s => Q s ρ3 else Q (.sh (.bool false)) ρ2
theorem de_chain {op op' : CmpOp} {f f' : F2} {a b c : Expr} {ta tb tc : TOD} {pos : Pos} (ho : OpD X (compareOp op) f) (ho' : OpD X (compareOp op') f') (ha : DO X a ta) (hb : DO X b tb) (hc : DO X c tc)
    (hm : lastMarks [op, op'] [b, c] = false := by with_unfolding_all rfl) : DE X (.Compare a [op, op'] [b, c] pos) (dChain f f' ta tb tc) := by
  refine ⟨pe_imp (pe_chain ho ho' ha.pe hb.pe hc.pe hm) fun σ H Q hq => ?_⟩
  obtain ⟨Fr, Hs, ρ, QD, A, q, g⟩ := hq
  refine ⟨Fr, Hs, ρ, _, A, q, fun l ρ1 Hs1 H1 v q1 s1 A1 r1 => ?_⟩
  refine ⟨Fr, Hs1, ρ1, _, A1, q1, fun l2 ρ2 Hs2 H2 v2 q2 s2 A2 r2 => ?_⟩
  obtain ⟨dx, dy, g1, g2, hf⟩ := q2
  refine ⟨Hs2, dx, dy, _, A2.rs.hs, A2.late (r1.mono s2) g1, A2.late r2 g2, hf, fun s hs => A2.new (k := fun _ => True) fun Hs3 H3 v3 s3 R3 => ?_⟩
  obtain ⟨k, rfl, hk⟩ := hs
  obtain ⟨w, e3, r3⟩ := R3.head
  cases e3
  cases r3
  refine ⟨k, rfl, ?_⟩
  cases k with
  | false =>
    rw [if_neg Bool.false_ne_true] at hk
    rw [if_neg Bool.false_ne_true]
    exact g _ ρ2 Hs3 H3 _ hk A2.len ((s1.trans s2).trans s3) R3
  | true =>
    rw [if_pos rfl] at hk
    rw [if_pos rfl]
    refine ⟨Fr, Hs3, ρ2, _, ⟨A2.len, R3.tail⟩, hk, fun l4 ρ4 Hs4 H4 v4 q4 s4 A4 r4 => ?_⟩
    obtain ⟨dy', dz, g3, g4, hf'⟩ := q4
    exact ⟨Hs4, dy', dz, _, A4.rs.hs, A4.late (r2.mono (s3.trans s4)) g3, A4.late r4 g4, hf', fun s hs => A4.new (k := fun _ => True) fun Hs' H' v ss R => g s ρ4 Hs' H' v hs A4.len ((((s1.trans s2).trans s3).trans s4).trans ss) R⟩
theorem dt_chain {op op' : CmpOp} {f f' : F2} {a b c : Expr} {ta tb tc : TOD} {pos : Pos} (ho : OpD X (compareOp op) f) (ho' : OpD X (compareOp op') f') (ha : DO X a ta) (hb : DO X b tb) (hc : DO X c tc)
    (hm : lastMarks [op, op'] [b, c] = false := by with_unfolding_all rfl) : DT X (.Compare a [op, op'] [b, c] pos) (tVal (dChain f f' ta tb tc)) := by
  refine ⟨pt_imp (pt_chain ho ho' ha.pe hb.pe hc.pe hm) fun σ H Q hq => ?_⟩
  obtain ⟨Fr, Hs, ρ, QD, A, q, g⟩ := hq
  refine ⟨Fr, Hs, ρ, _, A, q, fun l ρ1 Hs1 H1 v q1 s1 A1 r1 => ?_⟩
  refine ⟨Fr, Hs1, ρ1, _, A1, q1, fun l2 ρ2 Hs2 H2 v2 q2 s2 A2 r2 => ?_⟩
  obtain ⟨dx, dy, g1, g2, hf⟩ := q2
  refine ⟨Hs2, dx, dy, _, A2.rs.hs, A2.late (r1.mono s2) g1, A2.late r2 g2, hf, fun s hs => A2.new (k := fun _ => True) fun Hs3 H3 v3 s3 R3 => ?_⟩
  obtain ⟨k, rfl, hk⟩ := hs
  obtain ⟨w, e3, r3⟩ := R3.head
  cases e3
  cases r3
  refine ⟨k, rfl, ?_⟩
  cases k with
  | false =>
    rw [if_neg Bool.false_ne_true] at hk
    rw [if_neg Bool.false_ne_true]
    obtain ⟨b, e, hb⟩ := hk
    cases e
    exact ⟨_, rfl, g _ ρ2 Hs3 H3 hb ((s1.trans s2).trans s3) ⟨A2.len, R3.tail⟩⟩
  | true =>
    rw [if_pos rfl] at hk
    rw [if_pos rfl]
    refine ⟨Fr, Hs3, ρ2, _, ⟨A2.len, R3.tail⟩, hk, fun l4 ρ4 Hs4 H4 v4 q4 s4 A4 r4 => ?_⟩
    obtain ⟨dy', dz, g3, g4, hf'⟩ := q4
    refine ⟨Hs4, dy', dz, _, A4.rs.hs, A4.late (r2.mono (s3.trans s4)) g3, A4.late r4 g4, hf', fun s hs => A4.new (k := fun _ => True) fun Hs' H' v ss R => ?_⟩
    obtain ⟨b, rfl, hb⟩ := hs
    obtain ⟨w, e5, r5⟩ := R.head
    cases e5
    cases r5
    exact ⟨b, rfl, g _ ρ4 Hs' H' hb ((((s1.trans s2).trans s3).trans s4).trans ss) ⟨A4.len, R.tail⟩⟩
end

/-! ### items and slices -/
def fIx : F2
  | .list xs, .int i, k => ∃ d, atI xs i = some d ∧ k (.sh d)
  | .tuple xs, .int i, k => ∃ d, atI xs i = some d ∧ k (.sh d)
  | .str x, .int i, k => x.length ≤ sizeLine ∧ ∃ c, atI x.cps.toList i = some c ∧ k (.sh (.str ⟨#[c]⟩))
  | _, _, _ => False
def cutD (xs : List Dat) (lo hi : Option Int) : List Dat := (xs.drop (HT.sIx xs.length 0 lo)).take (HT.sIx xs.length xs.length hi - HT.sIx xs.length 0 lo)
def fSl : FS3
  | .list xs, lo, hi, k => k (.ol (cutD xs lo hi))
  | .str x, lo, hi, k => x.length ≤ sizeLine ∧ k (.sh (.str (cutS x lo hi)))
  | .tuple xs, lo, hi, k => (¬ (HT.sIx xs.length 0 lo = 0 ∧ HT.sIx xs.length xs.length hi = xs.length)) ∧ k (.sh (.tuple (cutD xs lo hi)))
  | _, _, _, _ => False
theorem atI_rps {K : Fg} {H : Hp} {vs : List V} {ds : List Dat} {i : Int} {d : Dat} (r : Rps K H vs ds) (h : atI ds i = some d) : ∃ v, atI vs i = some v ∧ Rp K H v d := by
  unfold atI at h ⊢
  rw [r.length]
  cases e : ixN ds.length i with
  | none => rw [e] at h; cases h
  | some j =>
    rw [e] at h
    exact r.get h
section
variable {X : Cx}
theorem xd_ix : IxD X fIx := by
  intro value slice pins s σ H x y ov iv Q I rx ry ⟨Hs, dx, dy, k, sb, px, py, hf, f⟩ hsub
  unfold fIx at hf
  split at hf
  · rename_i xs i
    obtain ⟨d, hd, hk⟩ := hf
    obtain ⟨a, xv, rfl, h1, r1⟩ := px.list sb
    obtain ⟨v, e, rv⟩ := atI_rps r1 hd
    exact ix_list value slice pins s σ H _ y ov iv Q I rx ry ⟨a, xv, i, v, rfl, py.int, h1, e, Rs.sc sb rv (f _ hk)⟩ hsub
  · rename_i xs i
    obtain ⟨d, hd, hk⟩ := hf
    obtain ⟨a, xv, rfl, h1, r1⟩ := px.tup sb
    obtain ⟨v, e, rv⟩ := atI_rps r1 hd
    exact ix_tup value slice pins s σ H _ y ov iv Q I rx ry ⟨a, xv, i, v, rfl, py.int, h1, e, Rs.sc sb rv (f _ hk)⟩ hsub
  · rename_i x i
    obtain ⟨hz, c, hc, hk⟩ := hf
    exact ix_str value slice pins s σ H _ y ov iv Q I rx ry ⟨x, i, c, px.str, py.int, hz, hc, Rs.sc sb (.str _) (f _ hk)⟩ hsub
  · exact hf.elim
theorem cut_rps {K : Fg} {H : Hp} {vs : List V} {ds : List Dat} (r : Rps K H vs ds) (lo hi : Option Int) : Rps K H (cutV vs lo hi) (cutD ds lo hi) := by
  unfold cutV cutD
  rw [r.length]
  exact (r.drop _).take _
theorem ld_sl : SlD X fSl := by
  intro pins s σ H x v vl vu lo hi sl Q I rx hs pl pu ⟨Hs, d, k, sb, px, hf, f⟩
  unfold fSl at hf
  split at hf
  · rename_i xs
    obtain ⟨a, xv, rfl, h1, r1⟩ := px.list sb
    exact sl_list pins s σ H _ v vl vu lo hi sl Q I rx hs pl pu ⟨a, xv, rfl, h1, fun p hp => Rs.lst sb (cut_rps r1 lo hi) hp (f _ hf)⟩
  · rename_i z
    exact sl_str pins s σ H _ v vl vu lo hi sl Q I rx hs pl pu ⟨z, px.str, hf.1, Rs.sc sb (.str _) (f _ hf.2)⟩
  · rename_i xs
    obtain ⟨a, xv, rfl, h1, r1⟩ := px.tup sb
    refine sl_tup pins s σ H _ v vl vu lo hi sl Q I rx hs pl pu ⟨a, xv, rfl, h1, ?_, fun p hp => Rs.tup sb (cut_rps r1 lo hi) hp (f _ hf.2)⟩
    rw [r1.length]
    exact hf.1
  · exact hf.elim
end
/-! ### built-ins -/
def intsD : List Dat → Option (List Int)
  | [] => some []
  | .int i :: r => (intsD r).map (i :: ·)
  | _ => none
def boolsD : List Dat → Option (List Bool)
  | [] => some []
  | .bool i :: r => (boolsD r).map (i :: ·)
  | _ => none
def pairsD : List Dat → Option (List (Int × Int))
  | [] => some []
  | .tuple [.int i, .int j] :: r => (pairsD r).map ((i, j) :: ·)
  | _ => none
def pairD (p : Int × Int) : Dat := .tuple [.int p.1, .int p.2]
theorem intsD_eq : ∀ {ds : List Dat} {ns : List Int}, intsD ds = some ns → ds = ns.map .int
  | [], _, h => by cases h; rfl
  | .int i :: r, _, h => by
    unfold intsD at h
    obtain ⟨m, e, rfl⟩ := Option.map_eq_some_iff.mp h
    rw [List.map_cons, intsD_eq e]
  | .none :: _, _, h => by simp [intsD] at h
  | .bool _ :: _, _, h => by simp [intsD] at h
  | .str _ :: _, _, h => by simp [intsD] at h
  | .list _ :: _, _, h => by simp [intsD] at h
  | .tuple _ :: _, _, h => by simp [intsD] at h
  | .dict _ :: _, _, h => by simp [intsD] at h
@[simp] theorem intsD_map : ∀ ns : List Int, intsD (ns.map .int) = some ns
  | [] => rfl
  | n :: ns => by rw [List.map_cons, intsD, intsD_map ns]; rfl
theorem boolsD_eq : ∀ {ds : List Dat} {ns : List Bool}, boolsD ds = some ns → ds = ns.map .bool
  | [], _, h => by cases h; rfl
  | .bool i :: r, _, h => by
    unfold boolsD at h
    obtain ⟨m, e, rfl⟩ := Option.map_eq_some_iff.mp h
    rw [List.map_cons, boolsD_eq e]
  | .none :: _, _, h => by simp [boolsD] at h
  | .int _ :: _, _, h => by simp [boolsD] at h
  | .str _ :: _, _, h => by simp [boolsD] at h
  | .list _ :: _, _, h => by simp [boolsD] at h
  | .tuple _ :: _, _, h => by simp [boolsD] at h
  | .dict _ :: _, _, h => by simp [boolsD] at h
@[simp] theorem boolsD_map : ∀ ns : List Bool, boolsD (ns.map .bool) = some ns
  | [] => rfl
  | n :: ns => by rw [List.map_cons, boolsD, boolsD_map ns]; rfl
@[simp] theorem pairsD_map : ∀ ns : List (Int × Int), pairsD (ns.map pairD) = some ns
  | [] => rfl
  | n :: ns => by
    rw [List.map_cons]
    show (pairsD (ns.map pairD)).map _ = _
    rw [pairsD_map ns]; rfl
theorem pairsD_eq : ∀ {ds : List Dat} {ns : List (Int × Int)}, pairsD ds = some ns → ds = ns.map pairD := by
  intro ds
  induction ds with
  | nil => intro ns h; cases h; rfl
  | cons d r ih =>
    intro ns h
    unfold pairsD at h
    split at h
    · rename_i e; cases e
    · rename_i i j r' e
      cases e
      obtain ⟨m, e, rfl⟩ := Option.map_eq_some_iff.mp h
      rw [List.map_cons, ih e]; rfl
    · cases h
def lexP (p q : Int × Int) : Prop := p.1 < q.1 ∨ (p.1 = q.1 ∧ p.2 ≤ q.2)
def fLen : FN
  | [.list xs], k => k (.sh (.int xs.length))
  | [.tuple xs], k => k (.sh (.int xs.length))
  | [.str x], k => x.length ≤ sizeLine ∧ k (.sh (.int x.length))
  | _, _ => False
def fAbs : FN
  | [.int i], k => k (.sh (.int (if i < 0 then -i else i)))
  | _, _ => False
def fMax : FN
  | [.int i, .int j], k => k (.sh (.int (if j > i then j else i)))
  | [.list xs], k => ∃ ns, intsD xs = some ns ∧ 0 < ns.length ∧ ∀ m, m ∈ ns → (∀ y, y ∈ ns → y ≤ m) → k (.sh (.int m))
  | _, _ => False
def fMin : FN
  | [.int i, .int j], k => k (.sh (.int (if j < i then j else i)))
  | [.list xs], k => ∃ ns, intsD xs = some ns ∧ 0 < ns.length ∧ ∀ m, m ∈ ns → (∀ y, y ∈ ns → m ≤ y) → k (.sh (.int m))
  | _, _ => False
def fSum : FN
  | [.list xs], k => ∃ ns, intsD xs = some ns ∧ k (.sh (.int ns.sum))
  | _, _ => False
def fInt : FN
  | [.int i], k => k (.sh (.int i))
  | [.bool b], k => k (.sh (.int (if b then 1 else 0)))
  | [.str x], k => ∃ n, PySem.intText? x = some n ∧ x.length ≤ 640 ∧ k (.sh (.int n))
  | _, _ => False
def fStr : FN
  | [.int i], k => i.natAbs.log2 < 1920 ∧ k (.sh (.str (toString i)))
  | [.str x], k => k (.sh (.str x))
  | _, _ => False
def ReprOk (d : Dat) : Prop := d.canLay0 = true ∧ d.showable = true ∧ d.depth ≤ 60 ∧ d.shown.length ≤ sizeLine
def fRepr : FN
  | [d], k => ReprOk d ∧ k (.sh (.str d.shown))
  | _, _ => False
def fAll : FN
  | [.list xs], k => ∃ bs, boolsD xs = some bs ∧ k (.sh (.bool (bs.all id)))
  | _, _ => False
def fAny : FN
  | [.list xs], k => ∃ bs, boolsD xs = some bs ∧ k (.sh (.bool (bs.any id)))
  | _, _ => False
def fList : FN
  | [.list xs], k => k (.ol xs)
  | [.tuple xs], k => k (.ol xs)
  | _, _ => False
def fTuple : FN
  | [.list xs], k => k (.sh (.tuple xs))
  | [.tuple xs], k => k (.sh (.tuple xs))
  | _, _ => False
def fSorted : FN
  | [.list xs], k => (∃ ns, intsD xs = some ns ∧ ∀ ms : List Int, ms.Perm ns → ms.Pairwise (· ≤ ·) → k (.ol (ms.map .int))) ∨ (∃ ps, pairsD xs = some ps ∧ ∀ qs : List (Int × Int), qs.Perm ps → qs.Pairwise lexP → k (.ol (qs.map pairD)))
  | _, _ => False
theorem len_le {X : Cx} {pins : List (Addr × Obj)} {σ : St} {H : Hp} {s : Shared} (I : Inv X pins σ H s) {a : Addr} {xs : List V} (h : SqL X.K H a xs ∨ SqT X.K H a xs) : xs.length ≤ sizeLine := by
  rcases h with h | h
  · obtain ⟨_, _, _, z⟩ := I.list h; exact z
  · obtain ⟨_, _, _, z⟩ := I.tuple h; exact z
section
variable {X : Cx}
theorem pk1 {K : Fg} {Hs H : Hp} {vs : List V} {d : Dat} (h : Pks K Hs H vs [d]) : ∃ v, vs = [v] ∧ Pk K Hs H v d := by
  cases h with
  | cons a b => cases b; exact ⟨_, rfl, a⟩
theorem pk2 {K : Fg} {Hs H : Hp} {vs : List V} {d e : Dat} (h : Pks K Hs H vs [d, e]) : ∃ v w, vs = [v, w] ∧ Pk K Hs H v d ∧ Pk K Hs H w e := by
  cases h with
  | cons a b => cases b with | cons b c => cases c; exact ⟨_, _, rfl, a, b⟩
theorem cd_len : CallD X (.builtin "len") fLen := by
  intro pins s σ H vs us Q I r ⟨Hs, ds, k, sb, ps, hf, f⟩
  unfold fLen at hf
  split at hf
  · obtain ⟨v, rfl, p⟩ := pk1 ps
    obtain ⟨a, xv, rfl, h1, r1⟩ := p.list sb
    exact call_len_seq pins s σ H _ us Q I r ⟨a, xv, rfl, .inl h1, by rw [r1.length]; exact Rs.sc sb (.int _) (f _ hf)⟩
  · obtain ⟨v, rfl, p⟩ := pk1 ps
    obtain ⟨a, xv, rfl, h1, r1⟩ := p.tup sb
    exact call_len_seq pins s σ H _ us Q I r ⟨a, xv, rfl, .inr h1, by rw [r1.length]; exact Rs.sc sb (.int _) (f _ hf)⟩
  · obtain ⟨v, rfl, p⟩ := pk1 ps
    rw [p.str] at r
    exact call_len_str pins s σ H _ us Q I r ⟨_, rfl, hf.1, Rs.sc sb (.int _) (f _ hf.2)⟩
  · exact hf.elim
theorem cd_abs : CallD X (.builtin "abs") fAbs := by
  intro pins s σ H vs us Q I r ⟨Hs, ds, k, sb, ps, hf, f⟩
  unfold fAbs at hf
  split at hf
  · obtain ⟨v, rfl, p⟩ := pk1 ps
    exact call_abs pins s σ H _ us Q I r ⟨_, by rw [p.int], Rs.sc sb (.int _) (f _ hf)⟩
  · exact hf.elim
theorem cd_max (hc : X.calm = true) : CallD X (.builtin "max") fMax := by
  intro pins s σ H vs us Q I r ⟨Hs, ds, k, sb, ps, hf, f⟩
  unfold fMax at hf
  split at hf
  · obtain ⟨v, w, rfl, p, q⟩ := pk2 ps
    exact call_max2 hc pins s σ H _ us Q I r ⟨_, _, by rw [p.int, q.int], Rs.sc sb (.int _) (f _ hf)⟩
  · obtain ⟨ns, e, hn, hf⟩ := hf
    obtain ⟨v, rfl, p⟩ := pk1 ps
    obtain ⟨a, xv, rfl, h1, r1⟩ := p.list sb
    rw [intsD_eq e] at r1
    rw [r1.of_ints] at h1
    exact cr_max hc pins s σ H _ us Q I r ⟨a, ns, rfl, h1, hn, fun m m1 m2 => Rs.sc sb (.int _) (f _ (hf m m1 m2))⟩
  · exact hf.elim
theorem cd_min (hc : X.calm = true) : CallD X (.builtin "min") fMin := by
  intro pins s σ H vs us Q I r ⟨Hs, ds, k, sb, ps, hf, f⟩
  unfold fMin at hf
  split at hf
  · obtain ⟨v, w, rfl, p, q⟩ := pk2 ps
    exact call_min2 hc pins s σ H _ us Q I r ⟨_, _, by rw [p.int, q.int], Rs.sc sb (.int _) (f _ hf)⟩
  · obtain ⟨ns, e, hn, hf⟩ := hf
    obtain ⟨v, rfl, p⟩ := pk1 ps
    obtain ⟨a, xv, rfl, h1, r1⟩ := p.list sb
    rw [intsD_eq e] at r1
    rw [r1.of_ints] at h1
    exact cr_min hc pins s σ H _ us Q I r ⟨a, ns, rfl, h1, hn, fun m m1 m2 => Rs.sc sb (.int _) (f _ (hf m m1 m2))⟩
  · exact hf.elim
theorem cd_sum (hc : X.calm = true) : CallD X (.builtin "sum") fSum := by
  intro pins s σ H vs us Q I r ⟨Hs, ds, k, sb, ps, hf, f⟩
  unfold fSum at hf
  split at hf
  · obtain ⟨ns, e, hf⟩ := hf
    obtain ⟨v, rfl, p⟩ := pk1 ps
    obtain ⟨a, xv, rfl, h1, r1⟩ := p.list sb
    rw [intsD_eq e] at r1
    rw [r1.of_ints] at h1
    exact cr_sum hc pins s σ H _ us Q I r ⟨a, ns, rfl, h1, Rs.sc sb (.int _) (f _ hf)⟩
  · exact hf.elim
theorem cd_int : CallD X (.type "int") fInt := by
  intro pins s σ H vs us Q I r ⟨Hs, ds, k, sb, ps, hf, f⟩
  unfold fInt at hf
  split at hf
  · obtain ⟨v, rfl, p⟩ := pk1 ps
    exact call_int1 pins s σ H _ us Q I r (.inl ⟨_, by rw [p.int], Rs.sc sb (.int _) (f _ hf)⟩)
  · obtain ⟨v, rfl, p⟩ := pk1 ps
    exact call_int1 pins s σ H _ us Q I r (.inr ⟨_, by rw [p.bool], Rs.sc sb (.int _) (f _ hf)⟩)
  · obtain ⟨v, rfl, p⟩ := pk1 ps
    obtain ⟨n, hn, hl, hf⟩ := hf
    exact call_int_str pins s σ H _ us Q I r ⟨_, n, by rw [p.str], hn, hl, Rs.sc sb (.int _) (f _ hf)⟩
  · exact hf.elim
theorem cd_str : CallD X (.type "str") fStr := by
  intro pins s σ H vs us Q I r ⟨Hs, ds, k, sb, ps, hf, f⟩
  unfold fStr at hf
  split at hf
  · obtain ⟨v, rfl, p⟩ := pk1 ps
    exact call_str_int pins s σ H _ us Q I r ⟨_, by rw [p.int], hf.1, Rs.sc sb (.str _) (f _ hf.2)⟩
  · obtain ⟨v, rfl, p⟩ := pk1 ps
    exact SkE.call_str_str pins s σ H _ us Q I r ⟨_, by rw [p.str], Rs.sc sb (.str _) (f _ hf)⟩
  · exact hf.elim
theorem cd_repr {n : Nat} (hr : Room n X.A) (hg : X.A.guards = some []) : CallD X (.builtin "repr") fRepr := by
  intro pins s σ H vs us Q I r ⟨Hs, ds, k, sb, ps, hf, f⟩
  unfold fRepr at hf
  split at hf
  · rename_i d
    obtain ⟨⟨c1, c2, c3, c4⟩, hk⟩ := hf
    obtain ⟨v, rfl, p⟩ := pk1 ps
    obtain ⟨u, rfl, ru⟩ := vals1 r
    have hu := hr.units
    obtain ⟨as, rd⟩ := p.reads I sb c1 ru
    have fin : ∀ h' tk t, (∀ b o, s.heap.get? b = some o → h'.get? b = some o) → EP X pins σ Q (.str d.shown t) { s with heap := h', toks := tk } := fun h' tk t hk' => ⟨.str _, H, I.kept hk', ⟨_, rfl⟩, Rs.sc sb (.str _) (f _ hk)⟩
    cases rd with
    | none => simp only [PyData.shown] at fin; exact PySem.P.repr_of_none (fin s.heap _ _ fun _ _ e => e)
    | bool b => simp only [PyData.shown] at fin; exact PySem.P.repr_of_bool (fin s.heap _ _ fun _ _ e => e)
    | int i t => simp only [PyData.shown] at fin; exact PySem.P.repr_of_int (by simpa [PyData.showable] using c2) (fin s.heap _ _ fun _ _ e => e)
    | str x t => simp only [PyData.shown] at fin; exact PySem.P.repr_of_str (fin s.heap _ _ fun _ _ e => e) (by simpa only [PyData.shown] using c4)
    | list h1 h2 h3 h4 => exact repr_of_reads' (.list h1 h2 h3 h4) c2 (PyData.noDict_hsm (PyData.hasDict_of_canLay _ c1)) hg (by omega) (fun _ _ e => e) (fun h' u tk hk' => fin h' tk u hk') c4
    | tuple h1 h2 h3 h4 => exact repr_of_reads' (.tuple h1 h2 h3 h4) c2 (PyData.noDict_hsm (PyData.hasDict_of_canLay _ c1)) hg (by omega) (fun _ _ e => e) (fun h' u tk hk' => fin h' tk u hk') c4
    | dict => simp [PyData.canLay0] at c1
  · exact hf.elim
theorem cd_all (hc : X.calm = true) : CallD X (.builtin "all") fAll := by
  intro pins s σ H vs us Q I r ⟨Hs, ds, k, sb, ps, hf, f⟩
  unfold fAll at hf
  split at hf
  · obtain ⟨ns, e, hf⟩ := hf
    obtain ⟨v, rfl, p⟩ := pk1 ps
    obtain ⟨a, xv, rfl, h1, r1⟩ := p.list sb
    rw [boolsD_eq e] at r1
    rw [r1.of_bools] at h1
    exact cr_all hc pins s σ H _ us Q I r ⟨a, ns, rfl, h1, Rs.sc sb (.bl _) (f _ hf)⟩
  · exact hf.elim
theorem cd_any (hc : X.calm = true) : CallD X (.builtin "any") fAny := by
  intro pins s σ H vs us Q I r ⟨Hs, ds, k, sb, ps, hf, f⟩
  unfold fAny at hf
  split at hf
  · obtain ⟨ns, e, hf⟩ := hf
    obtain ⟨v, rfl, p⟩ := pk1 ps
    obtain ⟨a, xv, rfl, h1, r1⟩ := p.list sb
    rw [boolsD_eq e] at r1
    rw [r1.of_bools] at h1
    exact cr_any hc pins s σ H _ us Q I r ⟨a, ns, rfl, h1, Rs.sc sb (.bl _) (f _ hf)⟩
  · exact hf.elim
theorem cd_list : CallD X (.type "list") fList := by
  intro pins s σ H vs us Q I r ⟨Hs, ds, k, sb, ps, hf, f⟩
  unfold fList at hf
  split at hf
  · obtain ⟨v, rfl, p⟩ := pk1 ps
    obtain ⟨a, xv, rfl, h1, r1⟩ := p.list sb
    exact call_list_of pins s σ H _ us Q I r ⟨a, xv, rfl, .inl h1, fun l hl => Rs.lst sb r1 hl (f _ hf)⟩
  · obtain ⟨v, rfl, p⟩ := pk1 ps
    obtain ⟨a, xv, rfl, h1, r1⟩ := p.tup sb
    exact call_list_of pins s σ H _ us Q I r ⟨a, xv, rfl, .inr h1, fun l hl => Rs.lst sb r1 hl (f _ hf)⟩
  · exact hf.elim
theorem cd_tuple : CallD X (.type "tuple") fTuple := by
  intro pins s σ H vs us Q I r ⟨Hs, ds, k, sb, ps, hf, f⟩
  unfold fTuple at hf
  split at hf
  · obtain ⟨v, rfl, p⟩ := pk1 ps
    obtain ⟨a, xv, rfl, h1, r1⟩ := p.list sb
    exact call_tuple_of pins s σ H _ us Q I r ⟨a, xv, rfl, .inl ⟨h1, fun l hl => Rs.tup sb r1 hl (f _ hf)⟩⟩
  · obtain ⟨v, rfl, p⟩ := pk1 ps
    have p0 := p
    obtain ⟨a, xv, rfl, h1, r1⟩ := p.tup sb
    refine call_tuple_of pins s σ H _ us Q I r ⟨a, xv, rfl, .inr ⟨h1, ?_⟩⟩
    cases p0 with
    | st rr => exact Rs.sc sb rr (f _ hf)
  · exact hf.elim
end

/-! ### sorted -/
noncomputable def pairOf (h : Heap) (v : Value) : Int × Int := match SeqAt.readOf h v with
  | .tuple [.int i, .int j] => (i, j)
  | _ => (0, 0)
theorem pair_canLay (p : Int × Int) : (pairD p).canLay0 = true := by simp [pairD, PyData.canLay0, PyData.canLayAll0]
theorem pair_reads {X : Cx} {pins : List (Addr × Obj)} {σ : St} {H : Hp} {s : Shared} (I : Inv X pins σ H s) {v : V} {u : Value} {p : Int × Int} (r : Rp X.K H v (pairD p)) (ru : RelV v u) : Srt.IsPair s.heap u p.1 p.2 ∧ pairOf s.heap u = p ∧ ∃ a, v = .ref a := by
  obtain ⟨as, rd⟩ := Dp.reads I _ v u (r.dp (pair_canLay p)) ru
  have e := SeqAt.readOf_eq (pair_canLay p) rd
  refine ⟨?_, by unfold pairOf; rw [e]; rfl, ?_⟩
  · unfold pairD at rd
    cases rd with
    | tuple h1 h2 h3 h4 =>
      rename_i a o vs n
      obtain ⟨l⟩ := vs
      cases h4 with
      | cons q1 q2 =>
        cases q2 with
        | cons q3 q4 =>
          cases q4
          cases q1
          cases q3
          exact ⟨_, _, _, _, _, rfl, h1, h2, h3⟩
  · cases r with
    | tup h _ => exact ⟨_, rfl⟩
theorem lexB_lexP {p q : Int × Int} (h : SrtO.lexB q p = false) : lexP p q := by
  have := SrtO.lexB_no.mp h
  unfold lexP
  omega

theorem Vals.isRef {vs : List V} {us : List Value} (r : Vals vs us) : ∀ u ∈ us, ∃ v ∈ vs, RelV v u := by
  induction r with
  | nil => intro u h; cases h
  | cons a b ih =>
    intro u h
    rcases List.mem_cons.mp h with e | h
    · subst e; exact ⟨_, List.mem_cons_self, a⟩
    · obtain ⟨v, hv, q⟩ := ih u h
      exact ⟨v, List.mem_cons_of_mem _ hv, q⟩
theorem Rps.mem {K : Fg} {H : Hp} : ∀ {vs : List V} {ds : List Dat}, Rps K H vs ds → ∀ v ∈ vs, ∃ d ∈ ds, Rp K H v d
  | _, _, .nil, v, h => by cases h
  | _, _, .cons a b, v, h => by
    rcases List.mem_cons.mp h with e | h
    · subst e; exact ⟨_, List.mem_cons_self, a⟩
    · obtain ⟨d, hd, q⟩ := Rps.mem b v h
      exact ⟨d, List.mem_cons_of_mem _ hd, q⟩
/-- values of heap pairs, out of any of them -/
theorem pairs_out {X : Cx} {pins : List (Addr × Obj)} {σ : St} {Hs H : Hp} {s : Shared} (I : Inv X pins σ H s) (sb : Sub Hs H) : ∀ {vs : List V} {us : List Value} {ps : List (Int × Int)}, Rps X.K Hs vs (ps.map pairD) → Vals vs us →
    (∀ u ∈ us, Srt.IsPair s.heap u (pairOf s.heap u).1 (pairOf s.heap u).2 ∧ ∃ v, RelV v u ∧ Rp X.K Hs v (pairD (pairOf s.heap u))) ∧ us.map (pairOf s.heap) = ps
  | _, _, [], .nil, .nil => ⟨fun u h => (nomatch h), rfl⟩
  | _, _, p :: ps, .cons r1 r2, .cons q1 q2 => by
    obtain ⟨h1, h2, _⟩ := pair_reads I (r1.mono sb) q1
    obtain ⟨i1, i2⟩ := pairs_out I sb r2 q2
    refine ⟨fun u hu => ?_, by rw [List.map_cons, h2, i2]⟩
    rcases List.mem_cons.mp hu with e | hu
    · subst e
      rw [h2]
      exact ⟨h1, _, q1, r1⟩
    · exact i1 u hu
theorem vals_back {K : Fg} {H : Hp} {h : Heap} : ∀ {out : List Value}, (∀ u ∈ out, ∃ v, RelV v u ∧ Rp K H v (pairD (pairOf h u))) → ∃ vs, Vals vs out ∧ Rps K H vs ((out.map (pairOf h)).map pairD)
  | [], _ => ⟨[], .nil, .nil⟩
  | u :: out, hu => by
    obtain ⟨v, h1, h2⟩ := hu u List.mem_cons_self
    obtain ⟨vs, h3, h4⟩ := vals_back fun u h => hu u (List.mem_cons_of_mem _ h)
    exact ⟨v :: vs, .cons h1 h3, .cons h2 h4⟩
theorem cd_sorted {X : Cx} : CallD X (.builtin "sorted") fSorted := by
  intro pins s σ H vs us Q I r ⟨Hs, ds, k, sb, ps, hf, f⟩
  unfold fSorted at hf
  split at hf
  · rcases hf with ⟨ns, e, hf⟩ | ⟨ps', e, hf⟩
    · obtain ⟨v, rfl, p⟩ := pk1 ps
      obtain ⟨a, xv, rfl, h1, r1⟩ := p.list sb
      rw [intsD_eq e] at r1
      rw [r1.of_ints] at h1
      exact cr_sortedI pins s σ H _ us Q I r ⟨a, ns, rfl, h1, fun ms l m1 m2 hl => Rs.lst sb (Rps.ints ms) hl (f _ (hf ms m1 m2))⟩
    · obtain ⟨v, rfl, p⟩ := pk1 ps
      obtain ⟨a, xv, rfl, h1, r1⟩ := p.list sb
      rw [pairsD_eq e] at r1
      obtain ⟨its, rv, hl, hz⟩ := I.list h1
      rw [Vals.ref1 r]
      obtain ⟨q1, q2⟩ := pairs_out I sb r1 rv
      refine SrtO.sorted_pairsO (k := pairOf s.heap) hl.isList (by rw [← rv.length]; exact hz) (fun u hu => (q1 u hu).1) fun h' d out h1 h2 hk hd hat => ?_
      have pm := h2.perm
      obtain ⟨ovs, o1, o2⟩ := vals_back fun u hu => (q1 u (pm.mem_iff.mp hu)).2
      obtain ⟨n, hn⟩ := hat
      have hlen : ovs.length ≤ sizeLine := by
        rw [o1.length, pm.length_eq, ← rv.length]; exact hz
      have I2 : Inv X pins σ (upd H d (.lst ovs)) { s with heap := h' } := I.laid (t' := s.toks) hk hd ⟨hlen, out, n, o1, hn⟩
      refine ⟨.ref d, _, I2, rfl, Rs.lst sb o2 (I.hok.fresh hd) (f _ (hf _ ?_ ?_))⟩
      · rw [← q2]
        exact pm.map _
      · exact List.pairwise_map.mpr (h1.imp fun {x y} h => lexB_lexP h)
  · exact hf.elim

/-! ### isinstance of a built-in type -/
def tyN : Dat → String
  | .none => "NoneType"
  | .bool _ => "bool"
  | .int _ => "int"
  | .str _ => "str"
  | .list _ => "list"
  | .tuple _ => "tuple"
  | .dict _ => "dict"
def isTy (T : String) (d : Dat) : Bool := tyN d == T || (T == "int" && tyN d == "bool")
theorem isTy_tab {K : Fg} {T : String} (h : T ∈ ["int", "bool", "str", "list", "tuple", "dict"]) (d : Dat) : PySem.W.kitOne K (.type (tyN d)) (.type T) = some (isTy T d) := by
  refine kit_ty ?_
  unfold isTy
  have go : ∀ a ∈ ["NoneType", "bool", "int", "str", "list", "tuple", "dict"], ∀ T ∈ ["int", "bool", "str", "list", "tuple", "dict"], kitB a T = some (a == T || (T == "int" && a == "bool")) := by decide +kernel
  exact go (tyN d) (by cases d <;> simp [tyN]) T h
theorem kit_pk {X : Cx} {pins : List (Addr × Obj)} {σ : St} {Hs H : Hp} {s : Shared} {v : V} {u : Value} {d : Dat} (I : Inv X pins σ H s) (sb : Sub Hs H) (p : Pk X.K Hs H v d) (r : RelV v u) :
    ∃ P : Heap → Prop, PySem.W.KitX X.K u (.type (tyN d)) P ∧ P s.heap ∧ u ≠ .builtin "__main__.__loader__#opaque" := by
  cases d with
  | none => rw [p.none] at r; exact kit_of I r (.base .non)
  | bool b => rw [p.bool] at r; exact kit_of I r (.base (.bl b))
  | int i => rw [p.int] at r; exact kit_of I r (.base (.int i))
  | str x => rw [p.str] at r; exact kit_of I r (.base (.str x))
  | list ds =>
    obtain ⟨a, xs, rfl, h, _⟩ := p.list sb
    rcases h with (h | ⟨o, h⟩) | ⟨o, its, n, h1, h2, _⟩
    · exact kit_of I r (.base (.lst h))
    · exact kit_of I r (.base (.frz h))
    · exact kit_of I r (.kList h1 h2)
  | tuple ds =>
    obtain ⟨a, xs, rfl, h, _⟩ := p.tup sb
    rcases h with (h | ⟨o, h⟩) | ⟨o, its, n, h1, h2, _⟩
    · exact kit_of I r (.base (.tup h))
    · exact kit_of I r (.fTuple h)
    · exact kit_of I r (.kTuple h1 h2)
  | dict es =>
    obtain ⟨a, rfl, h⟩ := p.dict sb
    cases (show u = Value.ref a from r)
    rcases h with ⟨ks, h, _⟩ | ⟨ks, h, _⟩
    · obtain ⟨z, hz, vs, _, o, es', ep, h1, h2, _⟩ := (show ObjOk X.prog X.w H s.heap a (.dK ks) from h.ok I.hok)
      exact ⟨_, PySem.W.kitx_dict, ⟨o, h1, h2.1⟩, fun z => nomatch z⟩
    · obtain ⟨z, hz, vs, _, o, es', ep, h1, h2, _⟩ := (show ObjOk X.prog X.w H s.heap a (.dT ks) from h.ok I.hok)
      exact ⟨_, PySem.W.kitx_dict, ⟨o, h1, h2.1⟩, fun z => nomatch z⟩
theorem call_isD {X : Cx} {T : String} (hT : T ∈ ["int", "bool", "str", "list", "tuple", "dict"]) : CallR X (.builtin "isinstance") (fun xs H Q => ∃ Hs x d, xs = [x, .ty T] ∧ Sub Hs H ∧ Pk X.K Hs H x d ∧ Q (.bl (isTy T d)) H) := by
  intro pins s σ H xs us Q I r h
  obtain ⟨Hs, x, d, rfl, sb, p, q⟩ := h
  obtain ⟨u1, u2, rfl, r1, r2⟩ := vals2 r
  cases (show u2 = Value.type T from r2)
  obtain ⟨P, Z, hp, hx⟩ := kit_pk I sb p r1
  exact PySem.W.kia_one Z I.kIn hp (isTy_tab hT d) hx fun tk => ⟨.bl _, H, I.tok tk, rfl, q⟩
def fIsi (T : String) : F1 := fun d k => k (.sh (.bool (isTy T d)))
section
variable {X : Cx} {a b e : Expr} {es : List Expr} {pos p p2 : Pos}
theorem de_isi {T : String} {y : Str} {t : TOD} (hT : T ∈ ["int", "bool", "str", "list", "tuple", "dict"]) (hg : Gl X "isinstance") (hm : X.mg "isinstance" = none) (hg2 : Gl X y) (hm2 : X.mg y = none) (hv2 : bootBuiltins y = some (.type T)) (ha : DO X a t)
    (hn2 : y ≠ "__name__" := by decide) (hd2 : (y == ("__debug__" : Str)) = false := by decide)
    (h1 : starEach [a, .Name y p2] X.env = (false, eval a X.env) :: starEach [.Name y p2] X.env := by rfl) (h2 : starEach [.Name y p2] X.env = (false, eval (.Name y p2) X.env) :: starEach [] X.env := by rfl)
    (hpl : (backTo pos (starEach [.Name y p2] X.env)).any (·.1) = false := by rfl) : DE X (.Call (.Name "isinstance" p) [a, .Name y p2] [] pos) (dUn (fIsi T) t) := by
  refine ⟨pe_imp (pe_callB (call_isD hT) hg hm PyProof.Rows.boot_isinstance (pa_cons ha.pe (pa_cons (pe_bltn (v := .ty T) hg2 hm2 hv2 rfl hn2 hd2) pa_nil h2) h1) (by decide) (by decide) h1 hpl) fun σ H Q hq => ?_⟩
  obtain ⟨Fr, Hs, ρ, QD, A, q, g⟩ := hq
  refine ⟨Fr, Hs, ρ, _, A, q, fun l ρ1 Hs1 H1 v q1 s1 A1 r1 => ?_⟩
  obtain ⟨dx, g1, hf⟩ := q1
  exact ⟨Hs1, v, dx, rfl, A1.rs.hs, A1.late r1 g1, g _ ρ1 Hs1 H1 _ hf A1.len s1 (A1.rs.add ⟨_, rfl, .bl _⟩ rfl)⟩
/-! ### x.bit_length() -/
def bitsD (i : Int) : Nat := Builtin.Int.intBits i
def fBits : F1 := fun d k => ∃ i, d = .int i ∧ k (.sh (.int (bitsD i : Nat)))
theorem de_bits {apos : Pos} {t : TOD} (ha : DO X a t) (hbase : attributeBase a "bit_length" X.env (eval a X.env) = eval a X.env := by rfl) (hline : (apos.endLine == pos.line) = true := by rfl) : DE X (.Call (.Attribute a "bit_length" apos) [] [] pos) (dUn fBits t) := by
  refine ⟨pe_imp (pe_bits ha.pe hbase hline) fun σ H Q hq => ?_⟩
  obtain ⟨Fr, Hs, ρ, QD, A, q, g⟩ := hq
  refine ⟨Fr, Hs, ρ, _, A, q, fun l ρ1 Hs1 H1 v q1 s1 A1 r1 => ?_⟩
  obtain ⟨dx, g1, i, rfl, hf⟩ := q1
  exact ⟨i, (A1.late r1 g1).int, g _ ρ1 Hs1 H1 _ hf A1.len s1 (A1.rs.add ⟨_, rfl, .int _⟩ rfl)⟩
end
/-! ### methods of lists -/
def mAppend : FM := fun ds as k => ∃ d, as = [d] ∧ ds.length < sizeLine ∧ k .none (ds ++ [d])
def mPop : FM := fun ds as k => as = [] ∧ ∃ d, ds[ds.length - 1]? = some d ∧ k d ds.dropLast
def mPopAt : FM := fun ds as k => ∃ i d, as = [.int i] ∧ -(2 ^ 63) ≤ i ∧ i < 2 ^ 63 ∧ ∃ j, seqIndex? i ds.length = some j ∧ ds[j]? = some d ∧ k d (ds.eraseIdx j)
theorem Rps.one {K : Fg} {H : Hp} {vs : List V} {d : Dat} (r : Rps K H vs [d]) : ∃ v, vs = [v] ∧ Rp K H v d := by
  cases r with
  | cons a b => cases b; exact ⟨_, rfl, a⟩
theorem Rps.dropLast {K : Fg} {H : Hp} : ∀ {vs : List V} {ds : List Dat}, Rps K H vs ds → Rps K H vs.dropLast ds.dropLast
  | _, _, .nil => .nil
  | _, _, .cons a .nil => .nil
  | _, _, .cons a (.cons b c) => .cons a (Rps.dropLast (.cons b c))
section
variable {X : Cx}
theorem md_append : MutD X "list.append" mAppend := by
  intro pins s σ H x vs v us Q I rx rv ⟨p, xs, Hs, ds, as, k, hx, hp, sb, r, ra, hf, f⟩
  obtain ⟨d, rfl, hz, hk⟩ := hf
  obtain ⟨y, rfl, ry⟩ := ra.one
  subst hx
  exact mt_append pins s σ H _ _ v us Q I rx rv ⟨p, xs, y, rfl, rfl, hp, by rw [r.length]; exact hz, f _ _ hk _ _ .non (r.append (.cons ry .nil))⟩
theorem md_pop : MutD X "list.pop" mPop := by
  intro pins s σ H x vs v us Q I rx rv ⟨p, xs, Hs, ds, as, k, hx, hp, sb, r, ra, hf, f⟩
  obtain ⟨rfl, d, hd, hk⟩ := hf
  cases ra
  subst hx
  obtain ⟨y, hy, ry⟩ := r.get hd
  exact mt_pop pins s σ H _ _ v us Q I rx rv ⟨p, xs, y, rfl, rfl, hp, by rw [r.length]; exact hy, f _ _ hk _ _ ry r.dropLast⟩
theorem md_popAt : MutD X "list.pop" mPopAt := by
  intro pins s σ H x vs v us Q I rx rv ⟨p, xs, Hs, ds, as, k, hx, hp, sb, r, ra, hf, f⟩
  obtain ⟨i, d, rfl, h1, h2, j, hj, hd, hk⟩ := hf
  obtain ⟨y, rfl, ry⟩ := ra.one
  cases ry
  subst hx
  obtain ⟨y, hy, ry⟩ := r.get hd
  exact mt_popAt pins s σ H _ _ v us Q I rx rv ⟨p, xs, i, j, y, rfl, rfl, hp, h1, h2, by rw [r.length]; exact hj, hy, f _ _ hk _ _ ry (r.erase j)⟩
end

/-! ### a, b = x, y: all is frozen -/
def sPar (i j : Nat) (t : TFD) : TSD := fun E ρ => t ρ fun ds ρ1 => ∃ d e, ds = [d, e] ∧ notIo ρ1[i]? ∧ notIo ρ1[j]? ∧ E.nx ((ρ1.set i (.sh d)).set j (.sh e))
def sPar3 (i j l : Nat) (t : TFD) : TSD := fun E ρ => t ρ fun ds ρ1 => ∃ d e f, ds = [d, e, f] ∧ notIo ρ1[i]? ∧ notIo ρ1[j]? ∧ notIo ρ1[l]? ∧ E.nx (((ρ1.set i (.sh d)).set j (.sh e)).set l (.sh f))
theorem At.put {K : Fg} {Fr Hs H : Hp} {ρ : Ev} {σ : St} {i : Nat} {v : V} {d : Dat} (A : At K Fr Hs ρ σ H) (h : notIo ρ[i]?) (r : Rp K Hs v d) : At K Fr Hs (ρ.set i (.sh d)) (σ.set i (some v)) H :=
  RS.store A.len (notIo_lt h) (A.rs.add (x := (.sh d, some v)) ⟨v, rfl, r⟩ rfl)
theorem notIo_set {ρ : Ev} {i j : Nat} {d : Dat} (h : notIo ρ[j]?) : notIo (ρ.set i (.sh d))[j]? := by
  by_cases e : i = j
  · subst e
    rw [List.getElem?_set]
    simp only [if_pos]
    split
    · trivial
    · rename_i hn
      rw [List.getElem?_eq_none (by omega)] at h
      exact h
  · rw [List.getElem?_set_ne e]; exact h
section
variable {X : Cx} {a b c : Expr} {pos : Pos}
theorem ds_par (i j : Nat) {x y : Str} {t : TFD} {px py pt : Pos} {kt k2 pt2} (hc : X.calm = true) (hN : X.N.Nodup) (ha : DFs X [a, b] t) (hi : X.N[i]? = some x := by rfl) (hj : X.N[j]? = some y := by rfl) (hij : i ≠ j := by decide)
    (hx : X.env.scope.names.lookup x = some .local := by rfl) (hy : X.env.scope.names.lookup y = some .local := by rfl)
    (hw : swappedStores [.Tuple [.Name x px, .Name y py] kt pt] (.Tuple [a, b] k2 pt2) X.env = pure (some [x, y]) := by rfl)
    (hs : swapsWithSole [.Tuple [.Name x px, .Name y py] kt pt] (.Tuple [a, b] k2 pt2) pos.line X.env = pure false := by rfl) :
    DS X (.Assign [.Tuple [.Name x px, .Name y py] kt pt] (.Tuple [a, b] k2 pt2) pos) (sPar i j t) := by
  refine ⟨ps_imp (ps_par hc hN hi hj hij hx hy ha.pa hw hs) fun D σ H hq => ?_⟩
  obtain ⟨Fr, Hs, ρ, E, A, q, f1, f2, f3, f4⟩ := hq
  refine ⟨Fr, Hs, ρ, _, A, q, fun ds ρ1 Hs1 H1 vs q1 s1 A1 r1 => ?_⟩
  obtain ⟨d, e, rfl, n1, n2, qn⟩ := q1
  cases r1 with
  | cons rd r2 =>
    cases r2 with
    | cons re r3 =>
      cases r3
      exact ⟨_, _, rfl, f1 _ _ Hs1 H1 qn s1 ((A1.put n1 rd).put (notIo_set n2) re)⟩
theorem ds_par3 (i j l : Nat) {x y z : Str} {t : TFD} {px py pz pt : Pos} {kt k2 pt2} (hc : X.calm = true) (hN : X.N.Nodup) (ha : DFs X [a, b, c] t) (hi : X.N[i]? = some x := by rfl) (hj : X.N[j]? = some y := by rfl) (hl : X.N[l]? = some z := by rfl) (hij : i ≠ j := by decide) (hil : i ≠ l := by decide) (hjl : j ≠ l := by decide)
    (hx : X.env.scope.names.lookup x = some .local := by rfl) (hy : X.env.scope.names.lookup y = some .local := by rfl) (hz : X.env.scope.names.lookup z = some .local := by rfl)
    (hw : swappedStores [.Tuple [.Name x px, .Name y py, .Name z pz] kt pt] (.Tuple [a, b, c] k2 pt2) X.env = pure (some [x, y, z]) := by rfl)
    (hs : swapsWithSole [.Tuple [.Name x px, .Name y py, .Name z pz] kt pt] (.Tuple [a, b, c] k2 pt2) pos.line X.env = pure false := by rfl) :
    DS X (.Assign [.Tuple [.Name x px, .Name y py, .Name z pz] kt pt] (.Tuple [a, b, c] k2 pt2) pos) (sPar3 i j l t) := by
  refine ⟨ps_imp (ps_par3 hc hN hi hj hl hij hil hjl hx hy hz ha.pa hw hs) fun D σ H hq => ?_⟩
  obtain ⟨Fr, Hs, ρ, E, A, q, f1, f2, f3, f4⟩ := hq
  refine ⟨Fr, Hs, ρ, _, A, q, fun ds ρ1 Hs1 H1 vs q1 s1 A1 r1 => ?_⟩
  obtain ⟨d, e, f, rfl, n1, n2, n3, qn⟩ := q1
  cases r1 with
  | cons rd r2 =>
    cases r2 with
    | cons re r3 =>
      cases r3 with
      | cons rf r4 =>
        cases r4
        exact ⟨_, _, _, rfl, f1 _ _ Hs1 H1 qn s1 (((A1.put n1 rd).put (notIo_set n2) re).put (notIo_set (notIo_set n3)) rf)⟩
end

/-! ### keywords -/
def gsel (n m : Nat) (idx : List Nat) {α : Type} (us ws : List α) : List α := if us.length = n ∧ ws.length = m then idx.filterMap (fun i => (us ++ ws)[i]?) else []
theorem sel_vals {vs : List V} {us : List Value} (r : Vals vs us) : ∀ idx : List Nat, Vals (idx.filterMap fun i => vs[i]?) (idx.filterMap fun i => us[i]?)
  | [] => .nil
  | i :: r' => by
    have ih := sel_vals r r'
    have l := r.length
    rw [List.filterMap_cons, List.filterMap_cons]
    cases e : vs[i]? with
    | none =>
      have e2 : us[i]? = none := by rw [List.getElem?_eq_none_iff] at e ⊢; omega
      rw [e2]; exact ih
    | some v =>
      obtain ⟨u, e2, q⟩ := r.get e
      rw [e2]; exact .cons q ih
theorem sel_data {K : Fg} {H : Hp} {vs : List V} {us : List Dat} (r : Rps K H vs us) : ∀ idx : List Nat, Rps K H (idx.filterMap fun i => vs[i]?) (idx.filterMap fun i => us[i]?)
  | [] => .nil
  | i :: r' => by
    have ih := sel_data r r'
    have l := r.length
    rw [List.filterMap_cons, List.filterMap_cons]
    cases e : us[i]? with
    | none =>
      have e2 : vs[i]? = none := by rw [List.getElem?_eq_none_iff] at e ⊢; omega
      rw [e2]; exact ih
    | some v =>
      obtain ⟨u, e2, q⟩ := r.get e
      rw [e2]; exact .cons q ih
theorem kw_of {K : Fg} {x qual : Str} {st : Stmt} {f : Addr} {fd : FuncData} {ps ks : List Str} {n m : Nat} {idx : List Nat} (F : Fun K x qual st f fd) (hp : ps.length ≠ 0)
    (h : ∀ (kV doc pm : Value) (an : Option Addr) (cdv ct : Value) (us ws : List Value), us.length = n → ws.length = m → bindArgs (PySem.W.fnOf x qual (defArgs st) (defBody st) (defScope st) .none kV doc pm an cdv ct) ⟨us, ks.zip ws⟩ = pure (ps.zip (gsel n m idx us ws))) : KwOrd K fd ps ks (gsel n m idx) where
  to := fun s us ws _ hl => by
    obtain ⟨oc, od, kV, doc, pm, an, cdv, ct, osl, rfl, lk, hcd⟩ := F.ex
    have hh : us.length = n ∧ ws.length = m := by
      by_cases c : us.length = n ∧ ws.length = m
      · exact c
      · unfold gsel at hl
        rw [if_neg c] at hl
        exact absurd hl.symm hp
    exact .of_eq (h kV doc pm an cdv ct us ws hh.1 hh.2)
  vals := fun {vs us zs ws} r r2 => by
    unfold gsel
    rw [r.length, r2.length]
    split
    · exact sel_vals (r.append r2) idx
    · exact .nil
  data := fun {K H vs ds zs es} r r2 => by
    unfold gsel
    rw [r.length, r2.length]
    split
    · exact sel_data (r.append r2) idx
    · exact .nil
/-! ### the module's constants -/
mutual
def kDat (K : Fg) : Nat → Value → Option Dat
  | 0, _ => none
  | n + 1, v => match v with
    | .none => some .none
    | .bool b => some (.bool b)
    | .int i _ => some (.int i)
    | .str x _ => some (.str x)
    | .ref a => match K.lookup a with
      | some ⟨.type "tuple", _, .seq its _, _⟩ => if its.size ≤ sizeLine then (kDats K n its.toList).map .tuple else none
      | some ⟨.type "list", none, .seq its _, _⟩ => if its.size ≤ sizeLine then (kDats K n its.toList).map .list else none
      | _ => none
    | _ => none
def kDats (K : Fg) : Nat → List Value → Option (List Dat)
  | 0, _ => none
  | _ + 1, [] => some []
  | n + 1, v :: vs => match kDat K n v, kDats K n vs with
    | some d, some ds => some (d :: ds)
    | _, _ => none
end
mutual
theorem kDat_ok {K : Fg} : ∀ (n : Nat) {v : Value} {d : Dat}, kDat K n v = some d → ∃ u, RelV u v ∧ ∀ Hs, Rp K Hs u d
  | 0, _, _, h => by simp [kDat] at h
  | n + 1, v, d, h => by
    unfold kDat at h
    split at h
    · cases h; exact ⟨.non, rfl, fun _ => .non⟩
    · cases h; exact ⟨.bl _, rfl, fun _ => .bl _⟩
    · cases h; exact ⟨.int _, ⟨_, rfl⟩, fun _ => .int _⟩
    · cases h; exact ⟨.str _, ⟨_, rfl⟩, fun _ => .str _⟩
    · rename_i a
      split at h
      · rename_i dd its m sl e
        split at h
        · rename_i hz
          obtain ⟨ds, e2, rfl⟩ := Option.map_eq_some_iff.mp h
          obtain ⟨us, r, q⟩ := kDats_ok n e2
          exact ⟨.ref a, rfl, fun Hs => .tup (.inr ⟨_, its, m, e, rfl, rfl, hz, r⟩) (q Hs)⟩
        · cases h
      · rename_i its m sl e
        split at h
        · rename_i hz
          obtain ⟨ds, e2, rfl⟩ := Option.map_eq_some_iff.mp h
          obtain ⟨us, r, q⟩ := kDats_ok n e2
          exact ⟨.ref a, rfl, fun Hs => .lst (.inr ⟨_, its, m, e, rfl, rfl, rfl, hz, r⟩) (q Hs)⟩
        · cases h
      · cases h
    · cases h
theorem kDats_ok {K : Fg} : ∀ (n : Nat) {v : List Value} {d : List Dat}, kDats K n v = some d → ∃ u, Vals u v ∧ ∀ Hs, Rps K Hs u d
  | 0, _, _, h => by simp [kDats] at h
  | n + 1, [], d, h => by
    simp [kDats] at h
    subst h
    exact ⟨[], .nil, fun _ => .nil⟩
  | n + 1, v :: vs, d, h => by
    unfold kDats at h
    split at h
    · rename_i e1 e2
      cases h
      obtain ⟨u, r, q⟩ := kDat_ok n e1
      obtain ⟨us, rs, qs⟩ := kDats_ok n e2
      exact ⟨u :: us, .cons r rs, fun Hs => .cons (q Hs) (qs Hs)⟩
    · cases h
end
structure KC (mg : Str → Option Value) (K : Fg) (x : Str) (d : Dat) : Prop where
  ex : ∃ u v, mg x = some v ∧ RelV u v ∧ ∀ Hs, Rp K Hs u d
theorem KC.of {K : Fg} {h : Heap} {mg : Str → Option Value} {x : Str} {v : Value} {d : Dat} (X : K.In h) (G : h.Ns mainGlobals mg) (e : PySem.W.nsIn K mainGlobals x = some (some v)) (n : Nat) (k : kDat K n v = some d) : KC mg K x d := by
  obtain ⟨u, r, q⟩ := kDat_ok n k
  exact ⟨u, v, PySem.W.mg_of X G e, r, q⟩
theorem KC.de {X : Cx} {x : Str} {d : Dat} {pos : Pos} (c : KC X.mg X.K x d) (hg : Gl X x) (hd : (x == ("__debug__" : Str)) = false := by decide) : DE X (.Name x pos) (dC d) := by
  obtain ⟨u, v, e, r, q⟩ := c.ex
  exact de_glob hg e r q hd
/-! ### the head -/
/-- the law's promise: handed the script, it answers True -/
def spLaw : FS := fun as Q => ∃ ns : List Int, as = [.sh (.list (ns.map .int))] ∧ ns.length ≤ 63 ∧ Q (.sh (.bool true)) []
/-- the script, frozen where it isn't the module's own -/
noncomputable def scrH (K : Fg) (a : Addr) (us : List Value) (ns : List Int) : Hp := open Classical in
  fun b => if b = a ∧ K.lookup a = none then some (.frz { cls := .type "list", data := .seq us.toArray } (.lst (ns.map V.int))) else none
section
variable {K : Fg} {a : Addr} {us : List Value} {ns : List Int}
theorem scrH_some {b : Addr} {u : HO} (h : scrH K a us ns b = some u) : b = a ∧ K.lookup a = none ∧ u = .frz { cls := .type "list", data := .seq us.toArray } (.lst (ns.map V.int)) := by
  unfold scrH at h
  split at h
  · rename_i c; cases h; exact ⟨c.1, c.2, rfl⟩
  · cases h
theorem scrH_seq {t : Heap} (ht : t.get? a = some { cls := .type "list", data := .seq us.toArray }) (hi : IntsAre us ns) (hl : ns.length ≤ 63) (KX : K.In t) : SqL K (scrH K a us ns) a (ns.map V.int) := by
  have n := hi.length
  have z : us.toArray.size ≤ sizeLine := by
    rw [List.size_toArray, n]
    exact Nat.le_trans hl (by decide)
  cases q : K.lookup a with
  | none => exact .inl (.inr ⟨_, by unfold scrH; rw [if_pos ⟨rfl, q⟩]⟩)
  | some o =>
    have y := KX a o q
    rw [ht] at y
    cases y
    exact .inr ⟨_, us.toArray, _, q, rfl, rfl, rfl, z, by simpa using vals_ints hi⟩
end
theorem lawD_call {P : Program} {w : World} {K : Fg} {mg mb : Str → Option Value} {k : Nat} {fa a : Addr} {fd : FuncData} {x : Str} {t : Shared} {us : List Value} {ns : List Int}
    (KX : K.In t.heap) (nsG : t.heap.Ns mainGlobals mg) (nsB : t.heap.Ns builtinsNs mb) (bt : ∀ y : Str, y ≠ "__name__" → mb y = bootBuiltins y) (nl : t.heap.NoLimit) (ng : t.gens = #[])
    (ht : t.heap.get? a = some { cls := .type "list", data := .seq us.toArray }) (hi : IntsAre us ns) (hl : ns.length ≤ 63) (hr : Room k callerA)
    (F : ∀ base : Heap, GFn P w K mg base k fa fd [x] spLaw) (bd : ∀ (s : Shared) (u : Value), BindsTo s fd ⟨[u], []⟩ [(x, u)]) :
    codeAny (model P w) callerA (.call (.ref fa) ⟨[.ref a], []⟩) (fun z t' => z = .ok (.ret (.bool true)) ∧ OldK t.heap t'.heap ∧ t'.os = t.os ∧ AllBare t'.gens) t := by
  have sq := scrH_seq ht hi hl KX
  have z63 : (ns.map V.int).length ≤ sizeLine := by
    rw [List.length_map]
    exact Nat.le_trans hl (by decide)
  -- what is hidden
  have keep : ∀ {b : Addr} {o : Obj}, t.heap.get? b = some o → (b = a → K.lookup a ≠ none) → (hidT t.heap (scrH K a us ns)).get? b = some o := fun {b o} e hb => hidT_get e (by
    cases q : scrH K a us ns b with
    | none => rfl
    | some u => obtain ⟨h1, h2, _⟩ := scrH_some q; exact absurd h2 (hb h1))
  have nsD : ∀ {b : Addr} {m : Str → Option Value}, t.heap.Ns b m → (hidT t.heap (scrH K a us ns)).Ns b m := fun {b m} ⟨o, es, ep, e, d, r⟩ => ⟨o, es, ep, keep e (fun hb => by
    subst hb
    rw [ht] at e
    cases e
    exact nomatch (show Data.seq us.toArray _ = Data.dict es ep from d)), d, r⟩
  have KI : K.In (hidT t.heap (scrH K a us ns)) := fun b o e => keep (KX b o e) fun hb n => by
    subst hb
    rw [n] at e
    cases e
  have ho : HOk P w (scrH K a us ns) t.heap := fun b u e => by
    obtain ⟨rfl, _, rfl⟩ := scrH_some e
    exact ⟨ht, z63, us, _, vals_ints hi, ht⟩
  have md : Mod K mg (hidT t.heap (scrH K a us ns)) := ⟨KI, nsD nsG, ⟨mb, nsD nsB, bt⟩, let ⟨mc, h1, h2⟩ := nl; ⟨mc, nsD h1, h2⟩⟩
  have e0 : Env0 P w K mg (hidT t.heap (scrH K a us ns)) callerA [] t (scrH K a us ns) := ⟨rfl, md, fun _ _ => of_hidT, Nat.le_of_eq (hidT_size _ _), trivial, fun b hb => absurd (show b ∈ ([] : List Addr) from hb) (by simp), ho, .of_eq ng⟩
  have rs : RS K (fun _ => none) (scrH K a us ns) (scrH K a us ns) ([Sl.sh (.list (ns.map .int))].zip ([V.ref a].map some)) :=
    ⟨.refl _, fun _ _ e => (nomatch e), fun _ _ e => (nomatch e), fun y hy => by
      obtain rfl : y = (Sl.sh (.list (ns.map .int)), some (V.ref a)) := by simpa using hy
      exact ⟨_, rfl, .lst sq (Rps.ints ns)⟩, List.nodup_nil, fun p hp => by simp [own1] at hp⟩
  refine codeAny_mono ((F _).run callerA [] t (scrH K a us ns) ⟨[.ref a], []⟩ [.ref a] [.ref a] (fun v _ => v = .bl true) _ _ _ (fun z _ => z = .sh (.bool true)) hr rfl e0 (bd t (.ref a)) (.cons rfl .nil) rfl rfl rs ⟨ns, rfl, hl, rfl⟩ fun z ios Hs' H' v hz _ R => ?_) fun z t' h => ?_
  · subst hz
    obtain ⟨v', e, r⟩ := R.head
    cases e
    cases r
    rfl
  · match z, h with
    | .error e, h => exact h.elim
    | .ok .next, h => exact h.elim
    | .ok .brk, h => exact h.elim
    | .ok .cont, h => exact h.elim
    | .ok (.ret u), h =>
      obtain ⟨v, H', os, bare, un, hok', r', q⟩ := h
      have q : v = .bl true := q
      subst q
      obtain rfl : u = Value.bool true := r'
      refine ⟨rfl, OldK.of_keep fun b o e => ?_, os, bare⟩
      cases q : scrH K a us ns b with
      | none => exact un.keep b o e q (fun y => absurd (show b ∈ ([] : List Addr) from y) (by simp)) (by simp)
      | some u =>
        obtain ⟨rfl, _, rfl⟩ := scrH_some q
        obtain ⟨e2, _⟩ := hok' b _ (un.frzs b _ _ q)
        rw [ht] at e
        cases e
        exact e2
theorem walk_D {l : PySem.W.OpenLaw} {k : Nat} {q : Program} {loose : List Str} {XP : (Str → Option Value) → Heap → Prop} {YP : World → Heap → Prop} {d : DefRec} {K : Params → Fg} {x : Str}
    (hm : l.most = some 63) (hdf : d.params.defaults = []) (hr : Room k callerA) (hY : ∀ (w : World) (h : Heap), YP w h → (K w.params).In h)
    (F : ∀ (w : World) (mg : Str → Option Value) (fa : Addr) (h : Heap), (K w.params).In h → h.Ns mainGlobals mg → mg d.name = some (.ref fa) →
      ∃ fd : FuncData, Binds (K w.params) fd [x] [] ∧ (∀ (s : Shared) (u : Value), BindsTo s fd ⟨[u], []⟩ [(x, u)]) ∧ ∀ base : Heap, GFn l.prog w (K w.params) mg base k fa fd [x] spLaw) :
    PySem.W.WalkO q loose XP YP l.row.toRowW d [] (fun f us => PySem.call f us) := by
  refine Att.attach_call hm hdf fun w t₀ t mg mb fa o pm cd doc a us ns G Y ho hd hcd hmg ht hi hlen ng => ?_
  have KX := hY w _ Y
  obtain ⟨fd, _, hb, hF⟩ := F w mg fa _ KX G.T.g hmg
  exact lawD_call KX G.T.g G.T.b G.T.builtins G.T.nolimit ng ht hi hlen hr hF hb

/-! ### rules of simp: the pure reading, step by step -/
section
variable {ρ : Ev} {Q : Sl → Ev → Prop} {E : DEn}
@[simp] theorem q_dC (d : Dat) : dC d ρ Q = Q (.sh d) ρ := rfl
@[simp] theorem q_dVar (i : Nat) : dVar i ρ Q = ∃ s, ρ[i]? = some s ∧ fz s fun d => Q (.sh d) (ρ.set i (.sh d)) := rfl
@[simp] theorem q_dBin (f : F2) (a b : TOD) : dBin f a b ρ Q = a ρ fun la ρ1 => b ρ1 fun lb ρ2 => ∃ dx dy, la.get ρ2 = some dx ∧ lb.get ρ2 = some dy ∧ f dx dy fun s => Q s ρ2 := rfl
@[simp] theorem q_dUn (f : F1) (a : TOD) : dUn f a ρ Q = a ρ fun la ρ1 => ∃ dx, la.get ρ1 = some dx ∧ f dx fun s => Q s ρ1 := rfl
@[simp] theorem q_oVar {Q : Lt → Ev → Prop} (i : Nat) : oVar i ρ Q = (((Lt.s i).get ρ).isSome = true ∧ Q (.s i) ρ) := rfl
@[simp] theorem q_oExp {Q : Lt → Ev → Prop} (t : TD) : oExp t ρ Q = t ρ fun s ρ' => fz s fun d => Q (.c d) ρ' := rfl
@[simp] theorem q_aNil {Q : List Lt → Ev → Prop} : aNil ρ Q = Q [] ρ := rfl
@[simp] theorem q_aCons {Q : List Lt → Ev → Prop} (a : TOD) (r : TAD) : aCons a r ρ Q = a ρ fun l ρ1 => r ρ1 fun ls ρ2 => Q (l :: ls) ρ2 := rfl
@[simp] theorem q_gets0 : gets ρ [] = some [] := rfl
@[simp] theorem q_gets1 (l : Lt) (ls : List Lt) : gets ρ (l :: ls) = match l.get ρ, gets ρ ls with | some d, some ds => some (d :: ds) | _, _ => none := rfl
@[simp] theorem q_getC (d : Dat) : (Lt.c d).get ρ = some d := rfl
@[simp] theorem q_getS (i : Nat) : (Lt.s i).get ρ = match ρ[i]? with | some (.sh d) => some d | some (.ol ds) => some (.list ds) | some (.od es) => some (.dict es) | some (.io _ ds) => some (.list ds) | _ => none := rfl
@[simp] theorem q_dCall (f : FN) (a : TAD) : dCall f a ρ Q = a ρ fun ls ρ1 => ∃ ds, gets ρ1 ls = some ds ∧ f ds fun s => Q s ρ1 := rfl
@[simp] theorem q_fNil {Q : List Dat → Ev → Prop} : fNil ρ Q = Q [] ρ := rfl
@[simp] theorem q_fCons {Q : List Dat → Ev → Prop} (t : TD) (r : TFD) : fCons t r ρ Q = t ρ fun s ρ1 => fz s fun d => r ρ1 fun ds ρ2 => Q (d :: ds) ρ2 := rfl
@[simp] theorem q_dTup (t : TFD) : dTup t ρ Q = t ρ fun ds ρ1 => ds.length ≤ sizeLine ∧ Q (.sh (.tuple ds)) ρ1 := rfl
@[simp] theorem q_dLst (t : TFD) : dLst t ρ Q = t ρ fun ds ρ1 => ds.length ≤ sizeLine ∧ Q (.ol ds) ρ1 := rfl
@[simp] theorem q_tVal {Q : Bool → Ev → Prop} (t : TD) : tVal t ρ Q = t ρ fun s ρ1 => ∃ b, s = .sh (.bool b) ∧ Q b ρ1 := rfl
@[simp] theorem q_tTru {Q : Bool → Ev → Prop} (t : TOD) : tTru t ρ Q = t ρ fun l ρ1 => ∃ d, l.get ρ1 = some d ∧ tru d fun b => Q b ρ1 := rfl
@[simp] theorem q_tNotD {Q : Bool → Ev → Prop} (t : TTD) : tNotD t ρ Q = t ρ fun b ρ1 => Q (!b) ρ1 := rfl
@[simp] theorem q_tAndD {Q : Bool → Ev → Prop} (t u : TTD) : tAndD t u ρ Q = t ρ fun b ρ1 => if b = true then u ρ1 Q else Q false ρ1 := rfl
@[simp] theorem q_tOrD {Q : Bool → Ev → Prop} (t u : TTD) : tOrD t u ρ Q = t ρ fun b ρ1 => if b = true then Q true ρ1 else u ρ1 Q := rfl
@[simp] theorem q_tYesD {Q : Bool → Ev → Prop} : tYesD ρ Q = Q true ρ := rfl
@[simp] theorem q_dAnd (t u : TD) : dAnd t u ρ Q = t ρ fun s ρ1 => fz s fun d => tru d fun b => if b = true then u ρ1 Q else Q (.sh d) ρ1 := rfl
@[simp] theorem q_dOr (t u : TD) : dOr t u ρ Q = t ρ fun s ρ1 => fz s fun d => tru d fun b => if b = true then Q (.sh d) ρ1 else u ρ1 Q := rfl
@[simp] theorem q_dNot (t : TOD) : dNot t ρ Q = t ρ fun l ρ1 => ∃ d, l.get ρ1 = some d ∧ tru d fun b => Q (.sh (.bool (!b))) ρ1 := rfl
@[simp] theorem q_dIf (c : TTD) (t u : TD) : dIf c t u ρ Q = c ρ fun b ρ1 => if b = true then t ρ1 Q else u ρ1 Q := rfl
@[simp] theorem q_pNo {Q : Option Int → Ev → Prop} : pNo ρ Q = Q none ρ := rfl
@[simp] theorem q_pYes {Q : Option Int → Ev → Prop} (t : TD) : pYes t ρ Q = t ρ fun s ρ1 => ∃ i, s = .sh (.int i) ∧ Q (some i) ρ1 := rfl
@[simp] theorem q_dSlice (f : FS3) (a : TOD) (lo hi : TPD) : dSlice f a lo hi ρ Q = a ρ fun l ρ1 => lo ρ1 fun i ρ2 => hi ρ2 fun j ρ3 => ∃ d, l.get ρ3 = some d ∧ f d i j fun s => Q s ρ3 := rfl
@[simp] theorem q_dMut (i : Nat) (f : FM) (t : TFD) : dMut i f t ρ Q = ((lstAt ρ i).isSome = true ∧ t ρ fun as ρ1 => ∃ ds, lstAt ρ1 i = some ds ∧ f ds as fun d ds' => Q (.sh d) (putAt ρ1 i ds')) := rfl
@[simp] theorem q_lstAt (i : Nat) : lstAt ρ i = match ρ[i]? with | some (.ol ds) => some ds | some (.io _ ds) => some ds | _ => none := rfl
@[simp] theorem q_putAt (i : Nat) (ds : List Dat) : putAt ρ i ds = match ρ[i]? with | some (.io p _) => ρ.set i (.io p ds) | _ => ρ.set i (.ol ds) := rfl
@[simp] theorem q_fz1 (d : Dat) (k : Dat → Prop) : fz (.sh d) k = k d := rfl
@[simp] theorem q_fz2 (d : List Dat) (k : Dat → Prop) : fz (.ol d) k = k (.list d) := rfl
@[simp] theorem q_fz3 (d : List (Dat × Dat)) (k : Dat → Prop) : fz (.od d) k = k (.dict d) := rfl
@[simp] theorem q_sNext : sNext E ρ = E.nx ρ := rfl
@[simp] theorem q_sSeq (t u : TSD) : sSeq t u E ρ = t { E with nx := u E } ρ := rfl
@[simp] theorem q_sDrop (t : TD) : sDrop t E ρ = t ρ fun _ ρ1 => E.nx ρ1 := rfl
@[simp] theorem q_sRet (t : TD) : sRet t E ρ = t ρ E.rt := rfl
@[simp] theorem q_sRetN : sRetN E ρ = E.rt (.sh .none) ρ := rfl
@[simp] theorem q_sIf (c : TTD) (t u : TSD) : sIf c t u E ρ = c ρ fun b ρ1 => if b = true then t E ρ1 else u E ρ1 := rfl
@[simp] theorem q_sNever : sNever E ρ = False := rfl
@[simp] theorem q_sBreak : sBreak E ρ = E.bk ρ := rfl
@[simp] theorem q_sCont : sCont E ρ = E.ct ρ := rfl
@[simp] theorem q_nI1 (d : Dat) : notIo (some (.sh d)) = True := rfl
@[simp] theorem q_nI2 (d : List Dat) : notIo (some (.ol d)) = True := rfl
@[simp] theorem q_nI3 (d : List (Dat × Dat)) : notIo (some (.od d)) = True := rfl
@[simp] theorem q_nI4 : notIo (some .un) = True := rfl
@[simp] theorem q_sSet (i : Nat) (t : TD) : sSet i t E ρ = t ρ fun s ρ1 => notIo ρ1[i]? ∧ E.nx (ρ1.set i s) := rfl
@[simp] theorem q_sRetV (i : Nat) : sRetV i E ρ = match ρ[i]? with | some (.sh d) => E.rt (.sh d) ρ | some (.ol ds) => E.rt (.ol ds) (ρ.set i .un) | some (.od es) => E.rt (.od es) (ρ.set i .un) | _ => False := rfl
@[simp] theorem q_dFn (spec : FS) (n : Nat) (t : TFD) : dFn spec n t ρ Q = t ρ fun ds ρ1 => ds.length = n ∧ spec (ds.map .sh) fun s ios => ios = [] ∧ Q s ρ1 := rfl
@[simp] theorem q_dFnK (spec : FS) (n : Nat) (g : List Dat → List Dat → List Dat) (t tk : TFD) : dFnK spec n g t tk ρ Q = t ρ fun ds ρ1 => tk ρ1 fun es ρ2 => (g ds es).length = n ∧ spec ((g ds es).map .sh) fun s ios => ios = [] ∧ Q s ρ2 := rfl
@[simp] theorem q_dFnB (spec : FS) (n i : Nat) (t : TFD) : dFnB spec n i t ρ Q = ((lstAt ρ i).isSome = true ∧ t ρ fun ds ρ1 => ds.length + 1 = n ∧ ∃ xs, lstAt ρ1 i = some xs ∧ ∀ p, (∀ q ys, ρ1[i]? = some (.io q ys) → q = p) →
  spec (.io p xs :: ds.map .sh) fun s ios => ∃ xs', ios = [(p, xs')] ∧ Q s (putAt ρ1 i xs')) := rfl
@[simp] theorem q_gN {Q : Ev → Prop} (i : Nat) (d : Dat) : gN i d ρ Q = (notIo ρ[i]? ∧ Q (ρ.set i (.sh d))) := rfl
@[simp] theorem q_gsNil {Q : Ev → Prop} (ds : List Dat) : gsNil ds ρ Q = (ds = [] ∧ Q ρ) := rfl
@[simp] theorem q_gsCons {Q : Ev → Prop} (g : TGD) (r : TGsD) (d : Dat) (es : List Dat) : gsCons g r (d :: es) ρ Q = g d ρ fun ρ1 => r es ρ1 Q := by
  unfold gsCons
  apply propext
  constructor
  · rintro ⟨_, _, e, h⟩; cases e; exact h
  · intro h; exact ⟨_, _, rfl, h⟩
@[simp] theorem q_gT {Q : Ev → Prop} (n : Nat) (r : TGsD) (d : Dat) : gT n r d ρ Q = ∃ ds, d = .tuple ds ∧ ds.length = n ∧ r ds ρ Q := rfl
@[simp] theorem q_sAsg (t : TD) (g : TGD) : sAsg t g E ρ = t ρ fun s ρ1 => fz s fun d => g d ρ1 E.nx := rfl
@[simp] theorem q_sIx (i : Nat) (tv ti : TD) : sIx i tv ti E ρ = tv ρ fun s ρ1 => fz s fun d => (lstAt ρ1 i).isSome = true ∧ ti ρ1 fun s2 ρ2 => ∃ k xs j, s2 = .sh (.int k) ∧ lstAt ρ2 i = some xs ∧ ixN xs.length k = some j ∧ E.nx (putAt ρ2 i (xs.set j d)) := rfl
@[simp] theorem q_iLst {Q : List Dat → Ev → Prop} (t : TD) : iLst t ρ Q = t ρ fun s ρ1 => fz s fun d => ∃ ds, d = .list ds ∧ Q ds ρ1 := rfl
@[simp] theorem q_iTup {Q : List Dat → Ev → Prop} (t : TD) : iTup t ρ Q = t ρ fun s ρ1 => fz s fun d => ∃ ds, d = .tuple ds ∧ Q ds ρ1 := rfl
@[simp] theorem q_iRg1 {Q : List Dat → Ev → Prop} (t : TD) : iRg1 t ρ Q = t ρ fun s ρ1 => ∃ j : Int, s = .sh (.int j) ∧ (-(2 ^ 62) ≤ j ∧ j < 2 ^ 62) ∧ Q (rgD 0 j.toNat) ρ1 := rfl
@[simp] theorem q_iRg2 {Q : List Dat → Ev → Prop} (t u : TD) : iRg2 t u ρ Q = t ρ fun s ρ1 => ∃ i : Int, s = .sh (.int i) ∧ u ρ1 fun s2 ρ2 => ∃ j : Int, s2 = .sh (.int j) ∧ (-(2 ^ 62) ≤ i ∧ i < 2 ^ 62 ∧ -(2 ^ 62) ≤ j ∧ j < 2 ^ 62) ∧ Q (rgD i (j - i).toNat) ρ2 := rfl
@[simp] theorem q_sFor (ti : TID) (g : TGD) (tb : TSD) : sFor ti g tb E ρ = ti ρ fun items ρ1 => forW g tb E items ρ1 := rfl
@[simp] theorem q_dLc (ti : TID) (g : TGD) (tt : TTD) (te : TD) (vs : List Nat) : dLc ti g tt te vs ρ Q = ti ρ fun items ρ1 => lcW g tt te vs items (wipeD ρ1 vs) [] fun acc ρ2 => Q (.ol acc) (backD ρ1 ρ2 vs) := rfl
@[simp] theorem q_sPar (i j : Nat) (t : TFD) : sPar i j t E ρ = t ρ fun ds ρ1 => match ds with | [d, e] => notIo ρ1[i]? ∧ notIo ρ1[j]? ∧ E.nx ((ρ1.set i (.sh d)).set j (.sh e)) | _ => False := by
  unfold sPar
  congr 1
  funext ds ρ1
  apply propext
  constructor
  · rintro ⟨d, e, rfl, h⟩; exact h
  · intro h
    split at h
    · exact ⟨_, _, rfl, h⟩
    · exact h.elim
@[simp] theorem q_sPar3 (i j l : Nat) (t : TFD) : sPar3 i j l t E ρ = t ρ fun ds ρ1 => match ds with | [d, e, f] => notIo ρ1[i]? ∧ notIo ρ1[j]? ∧ notIo ρ1[l]? ∧ E.nx (((ρ1.set i (.sh d)).set j (.sh e)).set l (.sh f)) | _ => False := by
  unfold sPar3
  congr 1
  funext ds ρ1
  apply propext
  constructor
  · rintro ⟨d, e, f, rfl, h⟩; exact h
  · intro h
    split at h
    · exact ⟨_, _, _, rfl, h⟩
    · exact h.elim
@[simp] theorem q_wipe0 : wipeD ρ [] = ρ := rfl
@[simp] theorem q_wipe1 (i : Nat) (is : List Nat) : wipeD ρ (i :: is) = (wipeD ρ is).set i .un := rfl
@[simp] theorem q_back0 {ρ0 : Ev} : backD ρ0 ρ [] = ρ := rfl
@[simp] theorem q_back1 {ρ0 : Ev} (i : Nat) (is : List Nat) : backD ρ0 ρ (i :: is) = match ρ0[i]? with | some (.sh d) => (backD ρ0 ρ is).set i (.sh d) | _ => backD ρ0 ρ is := rfl
@[simp] theorem q_ios0 : iosOf [] = [] := rfl
@[simp] theorem q_ios1 (d : Dat) : iosOf (.sh d :: ρ) = iosOf ρ := rfl
@[simp] theorem q_ios2 (d : List Dat) : iosOf (.ol d :: ρ) = iosOf ρ := rfl
@[simp] theorem q_ios3 (d : List (Dat × Dat)) : iosOf (.od d :: ρ) = iosOf ρ := rfl
@[simp] theorem q_ios4 : iosOf (.un :: ρ) = iosOf ρ := rfl
@[simp] theorem q_ios5 (p : Addr) (d : List Dat) : iosOf (.io p d :: ρ) = (p, d) :: iosOf ρ := rfl
end
section
variable {k : Sl → Prop} {kb : Bool → Prop}
@[simp] theorem q_tru1 : tru .none kb = kb false := rfl
@[simp] theorem q_tru2 (b : Bool) : tru (.bool b) kb = kb b := rfl
@[simp] theorem q_tru3 (i : Int) : tru (.int i) kb = kb (i != 0) := rfl
@[simp] theorem q_tru4 (x : Str) : tru (.str x) kb = (x.length ≤ sizeLine ∧ kb ((x.length : Int) != 0)) := rfl
@[simp] theorem q_tru5 (x : List Dat) : tru (.list x) kb = kb (!x.isEmpty) := rfl
@[simp] theorem q_tru6 (x : List Dat) : tru (.tuple x) kb = kb (!x.isEmpty) := rfl
@[simp] theorem q_add (i j : Int) : fAdd (.int i) (.int j) k = k (.sh (.int (i + j))) := rfl
@[simp] theorem q_addB (i : Int) (j : Bool) : fAdd (.int i) (.bool j) k = k (.sh (.int (i + b2i j))) := rfl
@[simp] theorem q_addL (i j : List Dat) : fAdd (.list i) (.list j) k = (i.length + j.length ≤ sizeLine ∧ k (.ol (i ++ j))) := rfl
@[simp] theorem q_addS (i j : Str) : fAdd (.str i) (.str j) k = (i.length + j.length ≤ sizeLine ∧ k (.sh (.str (i ++ j)))) := rfl
@[simp] theorem q_sub (i j : Int) : fSub (.int i) (.int j) k = k (.sh (.int (i - j))) := rfl
@[simp] theorem q_subB (i j : Bool) : fSub (.bool i) (.bool j) k = k (.sh (.int (b2i i - b2i j))) := rfl
@[simp] theorem q_mul (i j : Int) : fMul (.int i) (.int j) k = (MulOk i j ∧ k (.sh (.int (i * j)))) := rfl
@[simp] theorem q_mulL (i : List Dat) (j : Int) : fMul (.list i) (.int j) k = (-(2 ^ 63) ≤ j ∧ j < 2 ^ 63 ∧ i.length * j.toNat ≤ sizeLine ∧ k (.ol (rpD j i))) := rfl
@[simp] theorem q_div (i j : Int) : fDiv (.int i) (.int j) k = ((0 < j ∧ j.natAbs.log2 < 9000) ∧ k (.sh (.int (i / j)))) := rfl
@[simp] theorem q_mod (i j : Int) : fMod (.int i) (.int j) k = (0 < j ∧ k (.sh (.int (i % j)))) := rfl
@[simp] theorem q_pow (i j : Int) : fPow (.int i) (.int j) k = (0 ≤ j ∧ (Builtin.Int.intBits i : Int) * j ≤ 2 ^ 27 ∧ k (.sh (.int (i ^ j.toNat)))) := rfl
@[simp] theorem q_shr (i j : Int) : fShr (.int i) (.int j) k = (0 ≤ j ∧ k (.sh (.int (i / 2 ^ j.toNat)))) := rfl
@[simp] theorem q_shl (i j : Int) : fShl (.int i) (.int j) k = (CShl i j ∧ k (.sh (.int (i * 2 ^ j.toNat)))) := rfl
@[simp] theorem q_and (i j : Int) : fAnd (.int i) (.int j) k = k (.sh (.int (Builtin.bitAnd i j))) := rfl
@[simp] theorem q_xor (i j : Int) : fXor (.int i) (.int j) k = k (.sh (.int (Builtin.bitXor i j))) := rfl
@[simp] theorem q_neg (i : Int) : fNeg (.int i) k = k (.sh (.int (-i))) := rfl
theorem cl_int (i : Int) : PyData.canLay0 (.int i) = true := by simp [PyData.canLay0]
theorem cl_bool (i : Bool) : PyData.canLay0 (.bool i) = true := by simp [PyData.canLay0]
theorem dp_int (i : Int) : PyData.depth (.int i) = 0 := by simp [PyData.depth]
theorem dp_str (i : Str) : PyData.depth (.str i) = 0 := by simp [PyData.depth]
theorem dp_bool (i : Bool) : PyData.depth (.bool i) = 0 := by simp [PyData.depth]
theorem eo_int (i j : Int) : EqOk (.int i) (.int j) := ⟨cl_int i, cl_int j, by rw [dp_int]; simp⟩
theorem eo_str (i j : Str) : EqOk1 (.str i) (.str j) := .inl ⟨rfl, rfl⟩
theorem eo_int1 (i j : Int) : EqOk1 (.int i) (.int j) := .inr (eo_int i j)
theorem eo_bool (i j : Bool) : EqOk (.bool i) (.bool j) := ⟨cl_bool i, cl_bool j, by rw [dp_bool]; simp⟩
@[simp] theorem q_ord (p : Ordering → Bool) (i j : Int) : fOrd p (.int i) (.int j) k = k (.sh (.bool (p (compare i j)))) := by
  unfold fOrd
  simp [eo_int, cmpD]
@[simp] theorem q_pLt (i j : Int) : pLt (compare i j) = decide (i < j) := by
  unfold pLt; rcases Int.lt_trichotomy i j with h | h | h
  · simp [Int.compare_eq_lt.mpr h, h]
  · subst h; simp
  · simp [Int.compare_eq_gt.mpr h]; omega
@[simp] theorem q_pGt (i j : Int) : pGt (compare i j) = decide (j < i) := by
  unfold pGt; rcases Int.lt_trichotomy i j with h | h | h
  · simp [Int.compare_eq_lt.mpr h]; omega
  · subst h; simp
  · simp [Int.compare_eq_gt.mpr h, h]
@[simp] theorem q_pLe (i j : Int) : pLe (compare i j) = decide (i ≤ j) := by
  unfold pLe; rcases Int.lt_trichotomy i j with h | h | h
  · simp [Int.compare_eq_lt.mpr h]; omega
  · subst h; simp
  · simp [Int.compare_eq_gt.mpr h]; omega
@[simp] theorem q_pGe (i j : Int) : pGe (compare i j) = decide (j ≤ i) := by
  unfold pGe; rcases Int.lt_trichotomy i j with h | h | h
  · simp [Int.compare_eq_lt.mpr h]; omega
  · subst h; simp
  · simp [Int.compare_eq_gt.mpr h]; omega
@[simp] theorem q_eq (i j : Int) : fEq (.int i) (.int j) k = k (.sh (.bool (decide (i = j)))) := by
  unfold fEq; simp [eo_int1, PyData.eqv]; rw [show (i == j) = decide (i = j) from rfl]
@[simp] theorem q_ne (i j : Int) : fNe (.int i) (.int j) k = k (.sh (.bool (!decide (i = j)))) := by
  unfold fNe; simp [eo_int1, PyData.eqv]; rw [show (i == j) = decide (i = j) from rfl]
@[simp] theorem q_eqS (i j : Str) : fEq (.str i) (.str j) k = k (.sh (.bool (i == j))) := by
  unfold fEq; simp [eo_str, PyData.eqv]
@[simp] theorem q_neS (i j : Str) : fNe (.str i) (.str j) k = k (.sh (.bool (!(i == j)))) := by
  unfold fNe; simp [eo_str, PyData.eqv]
@[simp] theorem q_isB (a b : Bool) : fIs (.bool a) (.bool b) k = k (.sh (.bool (decide (a = b)))) := by
  unfold fIs; simp [isD]
@[simp] theorem q_isNB (a b : Bool) : fIsN (.bool a) (.bool b) k = k (.sh (.bool (!decide (a = b)))) := by
  unfold fIsN; simp [isD]
@[simp] theorem q_ixL (xs : List Dat) (i : Int) : fIx (.list xs) (.int i) k = ∃ d, atI xs i = some d ∧ k (.sh d) := rfl
@[simp] theorem q_ixT (xs : List Dat) (i : Int) : fIx (.tuple xs) (.int i) k = ∃ d, atI xs i = some d ∧ k (.sh d) := rfl
@[simp] theorem q_slL (xs : List Dat) (lo hi : Option Int) : fSl (.list xs) lo hi k = k (.ol (cutD xs lo hi)) := rfl
@[simp] theorem q_lenL (xs : List Dat) : fLen [.list xs] k = k (.sh (.int xs.length)) := rfl
@[simp] theorem q_lenT (xs : List Dat) : fLen [.tuple xs] k = k (.sh (.int xs.length)) := rfl
@[simp] theorem q_lenS (x : Str) : fLen [.str x] k = (x.length ≤ sizeLine ∧ k (.sh (.int x.length))) := rfl
@[simp] theorem q_abs (i : Int) : fAbs [.int i] k = k (.sh (.int (if i < 0 then -i else i))) := rfl
@[simp] theorem q_max2 (i j : Int) : fMax [.int i, .int j] k = k (.sh (.int (if j > i then j else i))) := rfl
@[simp] theorem q_min2 (i j : Int) : fMin [.int i, .int j] k = k (.sh (.int (if j < i then j else i))) := rfl
@[simp] theorem q_intI (i : Int) : fInt [.int i] k = k (.sh (.int i)) := rfl
@[simp] theorem q_intB (b : Bool) : fInt [.bool b] k = k (.sh (.int (if b then 1 else 0))) := rfl
@[simp] theorem q_sumL (ns : List Int) : fSum [.list (ns.map .int)] k = k (.sh (.int ns.sum)) := by
  unfold fSum; simp
@[simp] theorem q_allL (ns : List Bool) : fAll [.list (ns.map .bool)] k = k (.sh (.bool (ns.all id))) := by
  unfold fAll; simp
@[simp] theorem q_anyL (ns : List Bool) : fAny [.list (ns.map .bool)] k = k (.sh (.bool (ns.any id))) := by
  unfold fAny; simp
@[simp] theorem q_repr (d : Dat) : fRepr [d] k = (ReprOk d ∧ k (.sh (.str d.shown))) := rfl
@[simp] theorem q_listL (xs : List Dat) : fList [.list xs] k = k (.ol xs) := rfl
@[simp] theorem q_listT (xs : List Dat) : fList [.tuple xs] k = k (.ol xs) := rfl
@[simp] theorem q_tupL (xs : List Dat) : fTuple [.list xs] k = k (.sh (.tuple xs)) := rfl
@[simp] theorem q_tupT (xs : List Dat) : fTuple [.tuple xs] k = k (.sh (.tuple xs)) := rfl
@[simp] theorem q_isi (T : String) (d : Dat) : fIsi T d k = k (.sh (.bool (isTy T d))) := rfl
@[simp] theorem q_bits (i : Int) : fBits (.int i) k = k (.sh (.int (bitsD i : Nat))) := by
  unfold fBits; simp
@[simp] theorem q_app {k : Dat → List Dat → Prop} (ds : List Dat) (d : Dat) : mAppend ds [d] k = (ds.length < sizeLine ∧ k .none (ds ++ [d])) := by
  unfold mAppend; simp
end
@[simp] theorem ex_eq2 {α β : Type} {x : α} {y : β} {P : α → β → Prop} : (∃ a b, (x = a ∧ y = b) ∧ P a b) = P x y := by
  apply propext
  constructor
  · rintro ⟨_, _, ⟨rfl, rfl⟩, h⟩; exact h
  · intro h; exact ⟨_, _, ⟨rfl, rfl⟩, h⟩
@[simp] theorem ex_eq3 {α β γ : Type} {x : α} {y : β} {z : γ} {P : α → β → γ → Prop} : (∃ a b c, (x = a ∧ y = b ∧ z = c) ∧ P a b c) = P x y z := by
  apply propext
  constructor
  · rintro ⟨_, _, _, ⟨rfl, rfl, rfl⟩, h⟩; exact h
  · intro h; exact ⟨_, _, _, ⟨rfl, rfl, rfl⟩, h⟩
@[simp] theorem ex_eq2' {α β : Type} {x : α} {y : β} {P : α → β → Prop} : (∃ a b, x = a ∧ y = b ∧ P a b) = P x y := by
  apply propext
  constructor
  · rintro ⟨_, _, rfl, rfl, h⟩; exact h
  · intro h; exact ⟨_, _, rfl, rfl, h⟩
@[simp] theorem at0 (x : Dat) (xs : List Dat) : atI (x :: xs) 0 = some x := by
  have e : atI (x :: xs) ((0 : Nat) : Int) = some x := atI_nat (by simp)
  simpa using e
@[simp] theorem at1 (x y : Dat) (xs : List Dat) : atI (x :: y :: xs) 1 = some y := by
  have e : atI (x :: y :: xs) ((1 : Nat) : Int) = some y := atI_nat (by simp)
  simpa using e
@[simp] theorem at2 (x y z : Dat) (xs : List Dat) : atI (x :: y :: z :: xs) 2 = some z := by
  have e : atI (x :: y :: z :: xs) ((2 : Nat) : Int) = some z := atI_nat (by simp)
  simpa using e
@[simp] theorem ixN0 (n : Nat) : ixN (n + 1) 0 = some 0 := by unfold ixN; simp
@[simp] theorem ixN1 (n : Nat) : ixN (n + 2) 1 = some 1 := by unfold ixN; simp; omega
@[simp] theorem ixN2 (n : Nat) : ixN (n + 3) 2 = some 2 := by unfold ixN; simp; omega
theorem q_ios6 {x : Sl} {ρ : Ev} (h : notIo (some x)) : iosOf (x :: ρ) = iosOf ρ := by cases x <;> first | rfl | exact h.elim
@[simp] theorem sz_small (n : Nat) (h : n ≤ 1000000 := by omega) : (n ≤ sizeLine) = True := by
  have : (1000000 : Nat) ≤ sizeLine := by decide
  simp; omega
theorem mulOk_l {i j : Int} (h1 : -18446744073709551616 < i) (h2 : i < 18446744073709551616) : MulOk i j := .inl ⟨by simpa using h1, by simpa using h2⟩
theorem mulOk_r {i j : Int} (h1 : -18446744073709551616 < j) (h2 : j < 18446744073709551616) : MulOk i j := .inr (.inl ⟨by simpa using h1, by simpa using h2⟩)
theorem mulOk_w {i j : Int} {a b : Nat} (ha : i.natAbs < 2 ^ a) (hb : j.natAbs < 2 ^ b) (h0 : 0 < a) (h1 : 0 < b) (h : a + b ≤ 1000000) : MulOk i j := .inr (.inr (wide_mul ha hb h0 h1 h))
/-! ### loops -/
theorem forW_inv {g : TGD} {tb : TSD} {E : DEn} (I : Nat → Ev → Prop) : ∀ (items : List Dat) (k : Nat) (ρ : Ev), I k ρ →
    (∀ (i : Nat) (d : Dat) (ρ : Ev) (W : Ev → Prop), items[i]? = some d → I (k + i) ρ → (∀ ρ', I (k + i + 1) ρ' → W ρ') → g d ρ fun ρ1 => tb { E with nx := W, ct := W, bk := E.nx } ρ1) →
    (∀ ρ, I (k + items.length) ρ → E.nx ρ) → forW g tb E items ρ
  | [], k, ρ, h, _, f => f ρ h
  | d :: ds, k, ρ, h, st, f => by
    refine st 0 d ρ (forW g tb E ds) rfl h fun ρ' h' => ?_
    refine forW_inv I ds (k + 1) ρ' (by simpa using h') (fun i d' ρ2 W e h2 hW => ?_) fun ρ2 h2 => f ρ2 ?_
    · refine st (i + 1) d' ρ2 W (by simpa using e) ?_ fun ρ' h3 => hW ρ' ?_
      · rw [show k + (i + 1) = k + 1 + i by omega]; exact h2
      · rw [show k + 1 + i + 1 = k + (i + 1) + 1 by omega]; exact h3
    · rw [List.length_cons, show k + (ds.length + 1) = k + 1 + ds.length by omega]; exact h2
theorem lcW_inv {g : TGD} {tt : TTD} {te : TD} {vs : List Nat} {k : List Dat → Ev → Prop} (I : Nat → Ev → List Dat → Prop) : ∀ (items : List Dat) (n : Nat) (ρ : Ev) (acc : List Dat), I n ρ acc →
    (∀ (i : Nat) (d : Dat) (ρ : Ev) (acc : List Dat) (W : Ev → List Dat → Prop), items[i]? = some d → I (n + i) ρ acc → (∀ ρ' acc', I (n + i + 1) ρ' acc' → W ρ' acc') →
      g d ρ fun ρ1 => tt ρ1 fun b ρ2 => if b = true then te ρ2 fun s ρ3 => fz s fun y => acc.length < sizeLine ∧ W (wipeD ρ3 vs) (acc ++ [y]) else W (wipeD ρ2 vs) acc) →
    (∀ ρ acc, I (n + items.length) ρ acc → k acc ρ) → lcW g tt te vs items ρ acc k
  | [], n, ρ, acc, h, _, f => f ρ acc h
  | d :: ds, n, ρ, acc, h, st, f => by
    refine st 0 d ρ acc (fun ρ' acc' => lcW g tt te vs ds ρ' acc' k) rfl h fun ρ' acc' h' => ?_
    refine lcW_inv I ds (n + 1) ρ' acc' (by simpa using h') (fun i d' ρ2 acc2 W e h2 hW => ?_) fun ρ2 acc2 h2 => f ρ2 acc2 ?_
    · refine st (i + 1) d' ρ2 acc2 W (by simpa using e) ?_ fun ρ' acc' h3 => hW ρ' acc' ?_
      · rw [show n + (i + 1) = n + 1 + i by omega]; exact h2
      · rw [show n + 1 + i + 1 = n + (i + 1) + 1 by omega]; exact h3
    · rw [List.length_cons, show n + (ds.length + 1) = n + 1 + ds.length by omega]; exact h2
/-! ### the length of what repr shows -/
mutual
def szD : Dat → Nat
  | .none => 4
  | .bool _ => 5
  | .int _ => 601
  | .str _ => 0
  | .list xs => szDs xs + 3
  | .tuple xs => szDs xs + 3
  | .dict _ => 0
def szDs : List Dat → Nat
  | [] => 0
  | x :: xs => szD x + 2 + szDs xs
end
mutual
def noStr : Dat → Bool
  | .none => true
  | .bool _ => true
  | .int _ => true
  | .str _ => false
  | .list xs => noStrs xs
  | .tuple xs => noStrs xs
  | .dict _ => false
def noStrs : List Dat → Bool
  | [] => true
  | x :: xs => noStr x && noStrs xs
end
theorem int_shown {i : Int} (h : i.natAbs.log2 < 1920) : (Str.ofString (toString i)).length ≤ 601 := by
  have hb : i.natAbs < 2 ^ 1920 := by
    by_cases z : i.natAbs = 0
    · rw [z]; exact Nat.two_pow_pos _
    · exact (Nat.log2_lt z).mp h
  have hp : (2 : Nat) ^ 1920 < 10 ^ 600 := by decide +kernel
  have hq : ((10 : Int) ^ 600) = ((10 ^ 600 : Nat) : Int) := by rw [Int.natCast_pow]; rfl
  by_cases hi : 0 ≤ i
  · have := toString_length_le hi (k := 600) (by decide) (by rw [hq]; omega)
    omega
  · have e : toString i = "-" ++ toString (-i) := by
      match i, hi with
      | .negSucc n, _ => rfl
      | .ofNat n, hi => exact absurd (Int.natCast_nonneg n) hi
    have := toString_length_le (v := -i) (by omega) (k := 600) (by decide) (by rw [hq]; omega)
    rw [e, PyProof.Rows.ofString_length, String.toList_append, List.length_append]
    rw [PyProof.Rows.ofString_length] at this
    have e2 : ("-" : String).toList.length = 1 := rfl
    omega
theorem textFrom_le : ∀ (ts : List Str) (k : Nat) (acc : Str), (textFrom k acc ts).length ≤ acc.length + piled ts
  | [], _, _ => by rw [textFrom]; exact Nat.le_add_right _ _
  | t :: ts, k, acc => by
    rw [textFrom]
    have ih := textFrom_le ts (k + 1) (acc ++ (if k > 0 then ", " else "" : String) ++ t)
    rw [piled_cons]
    have e : (acc ++ ((if k > 0 then ", " else "" : String) : Str) ++ t).length ≤ acc.length + 2 + t.length := by
      rw [Str.length_append, Str.length_append]
      split
      · have : (Str.ofString ", ").length = 2 := rfl
        omega
      · have : (Str.ofString "").length = 0 := rfl
        omega
    omega
theorem join_le (ts : List Str) : (Str.join ", " ts).length ≤ piled ts := by
  cases ts with
  | nil => exact Nat.le_of_eq rfl
  | cons t r =>
    have := join_length_add (t :: r) (by simp)
    omega
mutual
theorem shown_le : ∀ d : Dat, d.showable = true → noStr d = true → d.shown.length ≤ szD d
  | .none, _, _ => by rw [PyData.shown, szD]; exact Nat.le_of_eq rfl
  | .bool b, _, _ => by rw [PyData.shown, szD]; cases b <;> exact (by decide)
  | .int i, h, _ => by
    rw [PyData.shown, szD]
    exact int_shown (by simpa [PyData.showable] using h)
  | .str x, _, h => by simp [noStr] at h
  | .dict x, _, h => by simp [noStr] at h
  | .list xs, h, n => by
    have := shownAll_le xs (by simpa [PyData.showable] using h) (by simpa [noStr] using n)
    have b := textFrom_le (PyData.shownAll xs) 0 "["
    rw [PyData.shown, szD, listText, Str.length_append]
    have e1 : (Str.ofString "[").length = 1 := rfl
    have e2 : (Str.ofString "]").length = 1 := rfl
    omega
  | .tuple xs, h, n => by
    have := shownAll_le xs (by simpa [PyData.showable] using h) (by simpa [noStr] using n)
    have b := join_le (PyData.shownAll xs)
    rw [PyData.shown, szD, tupleText, Str.length_append, Str.length_append]
    have e1 : (Str.ofString "(").length = 1 := rfl
    have e2 : (Str.ofString ",)").length = 2 := rfl
    have e3 : (Str.ofString ")").length = 1 := rfl
    split <;> omega
theorem shownAll_le : ∀ ds : List Dat, PyData.showableAll ds = true → noStrs ds = true → piled (PyData.shownAll ds) ≤ szDs ds
  | [], _, _ => by rw [PyData.shownAll, szDs]; exact Nat.le_of_eq rfl
  | d :: ds, h, n => by
    have h' : d.showable = true ∧ PyData.showableAll ds = true := by simpa [PyData.showableAll] using h
    have n' : noStr d = true ∧ noStrs ds = true := by simpa [noStrs] using n
    have a := shown_le d h'.1 n'.1
    have b := shownAll_le ds h'.2 n'.2
    rw [PyData.shownAll, szDs, piled_cons]
    omega
end
mutual
/-- all ints of d are small enough to be shown, nothing else is in the way -/
def repD : Dat → Bool
  | .none => true
  | .bool _ => true
  | .int i => decide (i.natAbs.log2 < 1920)
  | .list xs => repDs xs
  | .tuple xs => repDs xs
  | _ => false
def repDs : List Dat → Bool
  | [] => true
  | x :: xs => repD x && repDs xs
end
mutual
theorem repD_ok : ∀ d : Dat, repD d = true → d.canLay0 = true ∧ d.showable = true ∧ noStr d = true
  | .none, _ => by simp [PyData.canLay0, PyData.showable, noStr]
  | .bool b, _ => by simp [PyData.canLay0, PyData.showable, noStr]
  | .int i, h => by simpa [PyData.canLay0, PyData.showable, noStr, repD] using h
  | .str x, h => by simp [repD] at h
  | .dict x, h => by simp [repD] at h
  | .list xs, h => by
    obtain ⟨a, b, c⟩ := repDs_ok xs (by simpa [repD] using h)
    simp [PyData.canLay0, PyData.showable, noStr, a, b, c]
  | .tuple xs, h => by
    obtain ⟨a, b, c⟩ := repDs_ok xs (by simpa [repD] using h)
    simp [PyData.canLay0, PyData.showable, noStr, a, b, c]
theorem repDs_ok : ∀ ds : List Dat, repDs ds = true → PyData.canLayAll0 ds = true ∧ PyData.showableAll ds = true ∧ noStrs ds = true
  | [], _ => by simp [PyData.canLayAll0, PyData.showableAll, noStrs]
  | d :: ds, h => by
    have h' : repD d = true ∧ repDs ds = true := by simpa [repDs] using h
    obtain ⟨a, b, c⟩ := repD_ok d h'.1
    obtain ⟨e, f, g⟩ := repDs_ok ds h'.2
    simp [PyData.canLayAll0, PyData.showableAll, noStrs, a, b, c, e, f, g]
end
theorem reprOk {d : Dat} (h : repD d = true) (hd : d.depth ≤ 60) (hz : szD d ≤ 1000000) : ReprOk d := by
  obtain ⟨a, b, c⟩ := repD_ok d h
  have z := shown_le d b c
  have y : (1000000 : Nat) ≤ sizeLine := by decide
  exact ⟨a, b, hd, by omega⟩

/-! ### what every law's draws need -/
def gOk (n : Nat) (g : List Dat) : Prop := ∃ a b c : Int, g = [.int a, .int b, .int c] ∧ 0 ≤ c ∧ c + 200 * n ≤ 1152921504606846976
theorem gOk.le {n m : Nat} {g : List Dat} (h : gOk n g) (hm : m ≤ n) : gOk m g := by
  obtain ⟨a, b, c, e, h1, h2⟩ := h
  exact ⟨a, b, c, e, h1, by omega⟩
def sp__law_cell : FS := fun as Q => ∃ (ns : List Int) (i : Int), as = [.sh (.list (ns.map .int)), .sh (.int i)] ∧ 0 ≤ i ∧ ∀ r : Int, Q (.sh (.int r)) []
def sp__law_hash : FS := fun as Q => ∃ s i : Int, as = [.sh (.int s), .sh (.int i)] ∧ 0 ≤ i ∧ i < 4611686018427387904 ∧ ∀ r : Int, Q (.sh (.int r)) []
def sp__law_generator : FS := fun as Q => ∃ (ns : List Int) (i : Int), as = [.sh (.list (ns.map .int)), .sh (.int i)] ∧ 0 ≤ i ∧ i ≤ 1000 ∧ ∀ g, gOk 1000000 g → Q (.ol g) []
def sp__law_random : FS := fun as Q => ∃ (p : Addr) (g : List Dat) (m : Int) (n : Nat), as = [.io p g, .sh (.int m)] ∧ 0 < m ∧ m.natAbs.log2 < 3000 ∧ gOk (n + 1) g ∧ ∀ r g', 0 ≤ r → r < m → gOk n g' → Q (.sh (.int r)) [(p, g')]
def seqOf : Dat → Option (List Dat)
  | .list ds => some ds
  | .tuple ds => some ds
  | _ => none
def sp__law_pick : FS := fun as Q => ∃ (p : Addr) (g : List Dat) (t : Dat) (ds : List Dat) (n : Nat), as = [.io p g, .sh t] ∧ seqOf t = some ds ∧ ds ≠ [] ∧ ds.length < 1000000 ∧ gOk (n + 1) g ∧ ∀ d g', d ∈ ds → gOk n g' → Q (.sh d) [(p, g')]
/-- _law_cell: 0 script, 1 index -/
def b__law_cell : TSD := sSeq (sIf (tVal (dBin (fOrd pLt) (oVar 1) (oExp (dCall fLen (aCons (oVar 0) (aNil)))))) (sRet (dBin fIx (oVar 0) (oVar 1))) (sNext))
  (sRet (dBin fMod (oExp (dCall fSum (aCons (oExp (dSlice fSl (oVar 0) (pNo) (pYes (dC (.int 1))))) (aNil)))) (oExp (dC (.int 1000003)))))
/-- _law_hash: 0 seed, 1 index, 2 mixed -/
def b__law_hash : TSD := sSeq (sSet 2 (dBin fMod (oExp (dCall fInt (aCons (oExp (dBin fAdd (oExp (dBin fAdd (oExp (dBin fAdd (oExp (dBin fMul (oVar 0) (oExp (dC (.int 1140671))))) (oExp (dBin fMul (oExp (dBin fMul (oExp (dC (.int 27644437))) (oVar 1))) (oVar 1))))) (oExp (dBin fMul (oExp (dC (.int 131))) (oVar 1))))) (oExp (dC (.int 19))))) (aNil)))) (oExp (dC (.int 2147483629)))))
  (sSeq (sSet 2 (dBin fMod (oExp (dCall fInt (aCons (oExp (dBin fAdd (oExp (dBin fAdd (oExp (dBin fMul (oVar 2) (oVar 2))) (oExp (dBin fMul (oExp (dC (.int 62089))) (oVar 1))))) (oExp (dC (.int 32416187))))) (aNil)))) (oExp (dC (.int 2147483587)))))
  (sRet (dBin fMod (oExp (dCall fInt (aCons (oExp (dBin fMul (oVar 2) (oExp (dC (.int 48271))))) (aNil)))) (oExp (dC (.int 2147483647))))))
/-- _law_generator: 0 script, 1 index, 2 seed -/
def b__law_generator : TSD := sSeq (sSet 2 (dFn sp__law_cell 2 (fCons (dVar 0) (fCons (dVar 1) (fNil)))))
  (sRet (dLst (fCons (dBin fMod (oExp (dCall fInt (aCons (oExp (dCall fMax (aCons (oExp (dBin fSub (oVar 2) (oExp (dBin fPow (oExp (dC (.int 10))) (oExp (dC (.int 18))))))) (aCons (oExp (dC (.int 0))) (aNil))))) (aNil)))) (oExp (dBin fPow (oExp (dBin fPow (oExp (dC (.int 10))) (oExp (dC (.int 60))))) (oExp (dC (.int 10)))))) (fCons (dBin fMod (oExp (dCall fInt (aCons (oVar 2) (aNil)))) (oExp (dC (.int 2147483647)))) (fCons (dBin fMul (oExp (dC (.int 1000))) (oVar 1)) (fNil))))))
def b__law_random_F1 : TSD := sSeq (sIx 0 (dBin fAdd (oExp (dBin fIx (oVar 0) (oExp (dC (.int 2))))) (oExp (dC (.int 1)))) (dC (.int 2)))
  (sSet 2 (dBin fAdd (oExp (dBin fMul (oVar 2) (oExp (dC (.int 2147483587))))) (oExp (dFn sp__law_hash 2 (fCons (dBin fIx (oVar 0) (oExp (dC (.int 1)))) (fCons (dBin fIx (oVar 0) (oExp (dC (.int 2)))) (fNil)))))))
/-- _law_random: 0 generator, 1 bound, 2 drawn, 3 turn -/
def b__law_random : TSD := sSeq (sIf (tVal (dBin (fOrd pGt) (oExp (dBin fIx (oVar 0) (oExp (dC (.int 0))))) (oExp (dC (.int 0))))) (sSeq (sSet 2 (dBin fMod (oExp (dCall fInt (aCons (oExp (dBin fIx (oVar 0) (oExp (dC (.int 0))))) (aNil)))) (oVar 1)))
  (sSeq (sIx 0 (dBin fDiv (oExp (dBin fIx (oVar 0) (oExp (dC (.int 0))))) (oVar 1)) (dC (.int 0)))
  (sRetV 2))) (sNext))
  (sSeq (sSet 2 (dC (.int 0)))
  (sSeq (sFor (iRg1 (dBin fAdd (oExp (dC (.int 1))) (oExp (dBin fDiv (oExp (dUn fBits (oVar 1))) (oExp (dC (.int 30))))))) (gN 3) b__law_random_F1)
  (sRet (dBin fMod (oExp (dCall fInt (aCons (oVar 2) (aNil)))) (oVar 1)))))
/-- _law_pick: 0 generator, 1 things -/
def b__law_pick : TSD := sRet (dBin fIx (oVar 1) (oExp (dFnB sp__law_random 2 0 (fCons (dCall fLen (aCons (oVar 1) (aNil))) (fNil)))))
abbrev En (QD : Sl → List (Addr × List Dat) → Prop) : DEn := { nx := fun ρ => QD (.sh .none) (iosOf ρ), rt := fun s ρ => QD s (iosOf ρ) }
theorem cutD_map {α : Type} (f : α → Dat) (xs : List α) (lo hi : Option Int) : ∃ ys : List α, cutD (xs.map f) lo hi = ys.map f := by
  unfold cutD
  rw [List.length_map]
  exact ⟨_, by rw [← List.map_drop, ← List.map_take]⟩
theorem atI_some {α : Type} {xs : List α} {i : Int} (h0 : 0 ≤ i) (h : i < xs.length) : ∃ x ∈ xs, atI xs i = some x := by
  obtain ⟨j, rfl⟩ := Int.eq_ofNat_of_zero_le h0
  have hj : j < xs.length := by omega
  exact ⟨xs[j], List.getElem_mem hj, atI_nat (List.getElem?_eq_getElem hj)⟩
theorem mod_lt_pos (a : Int) {m : Int} (h : 0 < m) : 0 ≤ a % m ∧ a % m < m := ⟨Int.emod_nonneg a (by omega), Int.emod_lt_of_pos a h⟩
theorem pure__law_cell : ∀ as QD, sp__law_cell as QD → as.length = 2 → b__law_cell (En QD) (as ++ List.replicate 0 .un) := by
  rintro _ QD ⟨ns, i, rfl, hi, hq⟩ _
  simp [b__law_cell]
  by_cases h : i < ns.length
  · obtain ⟨x, _, e⟩ := atI_some (xs := ns.map PyData.int) hi (by simpa using h)
    obtain ⟨y, _, rfl⟩ := List.mem_map.mp ‹_›
    exact .inr ⟨h, _, e, hq _⟩
  · obtain ⟨ys, e⟩ := cutD_map PyData.int ns none (some 1)
    rw [e]
    refine .inl ⟨by omega, ?_⟩
    simp [hq]
theorem pure__law_hash : ∀ as QD, sp__law_hash as QD → as.length = 2 → b__law_hash (En QD) (as ++ List.replicate 1 .un) := by
  rintro _ QD ⟨s, i, rfl, hi, hi2, hq⟩ _
  simp [b__law_hash]
  have r1 := mod_lt_pos (s * 1140671 + 27644437 * i * i + 131 * i + 19) (m := 2147483629) (by decide)
  refine ⟨mulOk_r (by decide) (by decide), mulOk_l (by decide) (by decide), mulOk_r (by omega) (by omega), mulOk_l (by decide) (by decide), mulOk_l (by omega) (by omega), mulOk_l (by decide) (by decide), mulOk_r (by decide) (by decide), hq _⟩
theorem pure__law_generator : ∀ as QD, sp__law_generator as QD → as.length = 2 → b__law_generator (En QD) (as ++ List.replicate 1 .un) := by
  rintro _ QD ⟨ns, i, rfl, hi, hi2, hq⟩ _
  simp [b__law_generator, sp__law_cell]
  refine ⟨ns, i, ⟨rfl, rfl⟩, hi, fun r => ⟨by decide, by decide +kernel, by decide +kernel, mulOk_l (by decide) (by decide), hq _ ⟨_, _, _, rfl, by omega, by omega⟩⟩⟩
theorem bits_le {m : Int} (h : m.natAbs.log2 < 3000) : bitsD m ≤ 3000 := by
  unfold bitsD Builtin.Int.intBits
  split <;> omega
theorem rgD_mem {lo : Int} {n i : Nat} {d : Dat} (h : (rgD lo n)[i]? = some d) : d = .int (lo + i) ∧ i < n := by
  rw [rgD_get] at h
  split at h
  · cases h; exact ⟨rfl, ‹_›⟩
  · cases h
theorem pure__law_random : ∀ as QD, sp__law_random as QD → as.length = 2 → b__law_random (En QD) (as ++ List.replicate 2 .un) := by
  rintro _ QD ⟨p, _, m, n, rfl, hm, hl, ⟨a, b, c, rfl, h1, h2⟩, hq⟩ _
  simp [b__law_random]
  have hb := bits_le hl
  by_cases ha : 0 < a
  · refine .inr ⟨ha, hm, ⟨hm, by omega⟩, ?_⟩
    exact hq _ _ (mod_lt_pos a hm).1 (mod_lt_pos a hm).2 ⟨_, _, _, rfl, h1, by omega⟩
  · refine .inl ⟨by omega, by decide, by omega, ?_⟩
    have e : ((1 : Int) + (bitsD m : Int) / 30).toNat ≤ 101 := by omega
    refine forW_inv (fun i ρ => ∃ (d c2 : Int) (x : Sl), ρ = [.io p [.int a, .int b, .int c2], .sh (.int m), .sh (.int d), x] ∧ notIo (some x) ∧ c2 = c + i) _ 0 _ ⟨0, c, .un, rfl, trivial, by simp⟩ ?_ ?_
    · rintro i d ρ W he ⟨dr, c2, x, rfl, hx, hc⟩ hW
      obtain ⟨rfl, hi⟩ := rgD_mem he
      simp [b__law_random_F1, sp__law_hash, hx]
      refine ⟨mulOk_r (by decide) (by decide), ?_⟩
      refine ⟨by omega, by omega, fun r => ?_⟩
      refine hW _ ⟨_, c2 + 1, _, rfl, trivial, by omega⟩
    · rintro ρ ⟨dr, c2, x, rfl, hx, hc⟩
      simp [hm, q_ios6 hx]
      rw [rgD_len] at hc
      exact hq _ _ (mod_lt_pos _ hm).1 (mod_lt_pos _ hm).2 ⟨_, _, _, rfl, by omega, by omega⟩
theorem pure__law_pick : ∀ as QD, sp__law_pick as QD → as.length = 2 → b__law_pick (En QD) (as ++ List.replicate 0 .un) := by
  rintro _ QD ⟨p, g, t, ds, n, rfl, hs, hne, hlen, hg, hq⟩ _
  have hpos : 0 < ds.length := List.length_pos_iff.mpr hne
  have lg : (ds.length : Int).natAbs.log2 < 3000 := by
    have : ds.length < 2 ^ 3000 := Nat.lt_of_lt_of_le hlen (by decide +kernel)
    simpa using (Nat.log2_lt (by omega)).mpr this
  cases t <;> simp [seqOf] at hs
  · subst hs
    simp [b__law_pick, sp__law_random]
    refine ⟨p, g, _, ⟨⟨rfl, rfl⟩, rfl⟩, by omega, lg, n, hg, fun r g' h1 h2 h3 => ⟨_, ⟨rfl, rfl⟩, ?_⟩⟩
    obtain ⟨x, hx, e⟩ := atI_some h1 h2
    exact ⟨x, e, hq _ _ hx h3⟩
  · subst hs
    simp [b__law_pick, sp__law_random]
    refine ⟨p, g, _, ⟨⟨rfl, rfl⟩, rfl⟩, by omega, lg, n, hg, fun r g' h1 h2 h3 => ⟨_, ⟨rfl, rfl⟩, ?_⟩⟩
    obtain ⟨x, hx, e⟩ := atI_some h1 h2
    exact ⟨x, e, hq _ _ hx h3⟩

/-! ### k13: what each def does -/
def c_SOLDIERS : Dat := .tuple [.int 0, .int 2, .int 4, .int 8, .int 20]
def wholeD (d : Dat) : Bool := isTy "int" d && !isTy "bool" d
@[simp] theorem wholeD_int (i : Int) : wholeD (.int i) = true := by simp [wholeD, isTy, tyN]
def sp_is_whole : FS := fun as Q => ∃ d, as = [.sh d] ∧ Q (.sh (.bool (wholeD d))) []
def sp_is_count : FS := fun as Q => ∃ i : Int, as = [.sh (.int i)] ∧ Q (.sh (.bool (decide (0 ≤ i)))) []
def ltP (p q : Int × Int) : Prop := p.1 < q.1 ∨ (p.1 = q.1 ∧ p.2 < q.2)
def nnP (p : Int × Int) : Prop := 0 ≤ p.1 ∧ 0 ≤ p.2
def holesOk (ps : List (Int × Int)) : Prop := ps.length ≤ 1000 ∧ (∀ p ∈ ps, nnP p) ∧ ps.Pairwise ltP
def sp_ascends : FS := fun as Q => ∃ ps : List (Int × Int), as = [.sh (.list (ps.map pairD))] ∧ ps.length ≤ 1000 ∧ ps.Pairwise ltP ∧ Q (.sh (.bool true)) []
def sp_check_number : FS := fun as Q => ∃ i : Int, as = [.sh (.int i)] ∧ 0 ≤ i ∧ Q (.sh .none) []
def sp_is_hole : FS := fun as Q => ∃ p : Int × Int, as = [.sh (pairD p)] ∧ nnP p ∧ Q (.sh (.bool true)) []
def sp_are_holes : FS := fun as Q => ∃ ps : List (Int × Int), as = [.sh (.list (ps.map pairD))] ∧ holesOk ps ∧ Q (.sh (.bool true)) []
def pwGo : Nat → Int → Int → Int × Int
  | 0, x, y => (x, y)
  | n + 1, x, y => pwGo n y (x - y)
def pw (n : Nat) : Int × Int := pwGo n 1 0
def sp_power_of_golden : FS := fun as Q => ∃ i : Int, as = [.sh (.int i)] ∧ 0 ≤ i ∧ i ≤ 1000 ∧ Q (.sh (pairD (pw i.toNat))) []
def sp_golden_power : FS := sp_power_of_golden
def sp__law_power : FS := sp_power_of_golden
def sp_is_golden : FS := fun as Q => ∃ p : Int × Int, as = [.sh (pairD p)] ∧ Q (.sh (.bool true)) []
def sp_check_golden : FS := fun as Q => ∃ p : Int × Int, as = [.sh (pairD p)] ∧ Q (.sh .none) []
def bigI (i : Int) : Prop := i.natAbs < 2 ^ 1000
def above (a b : Int) : Bool := if 0 ≤ b then decide (0 < 2 * a - b) || decide ((2 * a - b) * (2 * a - b) < 5 * b * b) else decide (0 < 2 * a - b) && decide (5 * b * b < (2 * a - b) * (2 * a - b))
def sp_is_above_nothing : FS := fun as Q => ∃ a b : Int, as = [.sh (.int a), .sh (.int b)] ∧ bigI a ∧ bigI b ∧ Q (.sh (.bool (above a b))) []
def bigP (p : Int × Int) : Prop := p.1.natAbs < 2 ^ 900 ∧ p.2.natAbs < 2 ^ 900
def lessP (p q : Int × Int) : Bool := above (q.1 - p.1) (q.2 - p.2)
def sp_is_golden_less : FS := fun as Q => ∃ p q : Int × Int, as = [.sh (pairD p), .sh (pairD q)] ∧ bigP p ∧ bigP q ∧ Q (.sh (.bool (lessP p q))) []
def sp__law_less : FS := sp_is_golden_less
def sgn (a b : Int) : Int :=
  if b = 0 then b2i (decide (0 < a)) - b2i (decide (a < 0)) else
  if 0 ≤ 2 * a - b ∧ 0 < b then 1 else if 2 * a - b ≤ 0 ∧ b < 0 then -1 else
  (b2i (decide (0 < (2 * a - b) * (2 * a - b) - 5 * b * b)) - b2i (decide ((2 * a - b) * (2 * a - b) - 5 * b * b < 0))) * (if 0 < 2 * a - b then 1 else -1)
def sp__law_sign : FS := fun as Q => ∃ a b : Int, as = [.sh (.int a), .sh (.int b)] ∧ bigI a ∧ bigI b ∧ Q (.sh (.int (sgn a b))) []
def absI (i : Int) : Int := if i < 0 then -i else i
def dist (p g : Int × Int) : Nat := (absI (p.1 - g.1) + absI (p.2 - g.2)).toNat
def addP (p q : Int × Int) : Int × Int := (p.1 + q.1, p.2 + q.2)
def wt (g : Int × Int) (ps : List (Int × Int)) : Int × Int := ps.foldl (fun w p => addP w (pw (dist p g))) (0, 0)
def nearP (g : Int × Int) (ps : List (Int × Int)) : Prop := ∀ p ∈ ps, dist p g ≤ 1000
def sp_weight_to : FS := fun as Q => ∃ (ps : List (Int × Int)) (g : Int × Int), as = [.sh (.list (ps.map pairD)), .sh (pairD g)] ∧ nearP g ps ∧ Q (.sh (pairD (wt g ps))) []
def sp_check_far_pegs : FS := fun as Q => ∃ (ps : List (Int × Int)) (g : Int × Int), as = [.sh (.list (ps.map pairD)), .sh (pairD g)] ∧ holesOk ps ∧ nnP g ∧ Q (.sh .none) []
def sp_golden_weight : FS := fun as Q => ∃ (ps : List (Int × Int)) (g : Int × Int), as = [.sh (.list (ps.map pairD)), .sh (pairD g)] ∧ holesOk ps ∧ nnP g ∧ nearP g ps ∧ Q (.sh (pairD (wt g ps))) []
def sp_is_out_of_reach : FS := fun as Q => ∃ (ps : List (Int × Int)) (g : Int × Int), as = [.sh (.list (ps.map pairD)), .sh (pairD g)] ∧ holesOk ps ∧ nnP g ∧ nearP g ps ∧ bigP (wt g ps) ∧ Q (.sh (.bool (above (1 - (wt g ps).1) (0 - (wt g ps).2)))) []
def sp_fewest_soldiers : FS := fun as Q => ∃ i : Int, as = [.sh (.int i)] ∧ 1 ≤ i ∧ Q (.sh (if i = 1 then .int 2 else if i = 2 then .int 4 else if i = 3 then .int 8 else if i = 4 then .int 20 else .none)) []
def sp__law_numbers : FS := fun as Q => ∃ (p : Addr) (g : List Dat) (n : Nat), as = [.io p g] ∧ gOk (n + 12) g ∧ ∀ (ps : List (Int × Int)) g', ps ≠ [] → ps.length ≤ 100 → (∀ x ∈ ps, bigP x) → gOk n g' → Q (.ol (ps.map pairD)) [(p, g')]
def sp__law_golden_right : FS := fun as Q => ∃ (p : Addr) (g : List Dat) (n : Nat), as = [.io p g] ∧ gOk (n + 200) g ∧ ∀ g', gOk n g' → Q (.sh (.bool true)) [(p, g')]
def sp__law_weights_right : FS := fun as Q => ∃ (p : Addr) (g : List Dat) (n : Nat), as = [.io p g] ∧ gOk (n + 200) g ∧ ∀ g', gOk n g' → Q (.sh (.bool true)) [(p, g')]
def sp_law : FS := spLaw
/-- is_whole: 0 value -/
def b_is_whole : TSD := sRet (dAnd (dUn (fIsi "int") (oVar 0)) (dNot (oExp (dUn (fIsi "bool") (oVar 0)))))
/-- is_count: 0 value -/
def b_is_count : TSD := sRet (dAnd (dFn sp_is_whole 1 (fCons (dVar 0) (fNil))) (dBin (fOrd pGe) (oVar 0) (oExp (dC (.int 0)))))
/-- fewest_soldiers: 0 row -/
def b_fewest_soldiers : TSD := sSeq (sIf (tOrD (tNotD (tVal (dFn sp_is_count 1 (fCons (dVar 0) (fNil))))) (tVal (dBin (fOrd pLt) (oVar 0) (oExp (dC (.int 1)))))) (sNever) (sNext))
  (sRet (dIf (tVal (dBin (fOrd pLt) (oVar 0) (oExp (dCall fLen (aCons (oExp (dC c_SOLDIERS)) (aNil)))))) (dBin fIx (oExp (dC c_SOLDIERS)) (oVar 0)) (dC .none)))
def b__law_numbers_g1 : TGD := gN 4
def b__law_numbers_t2 : TTD := tYesD
def b__law_numbers_e3 : TD := dTup (fCons (dBin fSub (oExp (dFnB sp__law_random 2 0 (fCons (dBin fAdd (oExp (dBin fMul (oExp (dC (.int 2))) (oVar 1))) (oExp (dC (.int 1)))) (fNil)))) (oVar 1)) (fCons (dBin fSub (oExp (dFnB sp__law_random 2 0 (fCons (dBin fAdd (oExp (dBin fMul (oExp (dC (.int 2))) (oVar 1))) (oExp (dC (.int 1)))) (fNil)))) (oVar 1)) (fNil)))
def b__law_numbers_F4 : TSD := sDrop (dMut 3 mAppend (fCons (dBin fAdd (oExp (dBin fIx (oVar 3) (oExp (dUn fNeg (oExp (dC (.int 1))))))) (oExp (dBin fIx (oVar 3) (oExp (dUn fNeg (oExp (dC (.int 2)))))))) (fNil)))
/-- _law_numbers: 0 generator, 1 big, 2 found, 3 fibs, 4 turn, 5 at, 6 near -/
def b__law_numbers : TSD := sSeq (sSet 1 (dFnB sp__law_pick 2 0 (fCons (dLst (fCons (dC (.int 3)) (fCons (dC (.int 50)) (fCons (dBin fPow (oExp (dC (.int 10))) (oExp (dC (.int 6)))) (fCons (dBin fSub (oExp (dBin fPow (oExp (dC (.int 10))) (oExp (dC (.int 12))))) (oExp (dC (.int 1)))) (fNil)))))) (fNil))))
  (sSeq (sSet 2 (dLc (iRg1 (dC (.int 5))) b__law_numbers_g1 b__law_numbers_t2 b__law_numbers_e3 [4]))
  (sSeq (sSet 3 (dLst (fCons (dC (.int 1)) (fCons (dC (.int 1)) (fNil)))))
  (sSeq (sFor (iRg1 (dC (.int 56))) (gN 4) b__law_numbers_F4)
  (sSeq (sSet 5 (dBin fAdd (oExp (dC (.int 2))) (oExp (dFnB sp__law_random 2 0 (fCons (dC (.int 52)) (fNil))))))
  (sSeq (sSet 6 (dTup (fCons (dBin fSub (oExp (dC (.int 0))) (oExp (dBin fIx (oVar 3) (oVar 5)))) (fCons (dBin fIx (oVar 3) (oExp (dBin fAdd (oVar 5) (oExp (dC (.int 1)))))) (fNil)))))
  (sRet (dBin fAdd (oVar 2) (oExp (dLst (fCons (dVar 6) (fCons (dTup (fCons (dBin fAdd (oExp (dBin fIx (oVar 6) (oExp (dC (.int 0))))) (oExp (dC (.int 1)))) (fCons (dBin fIx (oVar 6) (oExp (dC (.int 1)))) (fNil)))) (fCons (dTup (fCons (dBin fSub (oExp (dC (.int 0))) (oExp (dBin fIx (oVar 6) (oExp (dC (.int 0)))))) (fCons (dBin fSub (oExp (dC (.int 0))) (oExp (dBin fIx (oVar 6) (oExp (dC (.int 1)))))) (fNil)))) (fCons (dTup (fCons (dC (.int 0)) (fCons (dC (.int 0)) (fNil)))) (fCons (dTup (fCons (dC (.int 1)) (fCons (dC (.int 0)) (fNil)))) (fCons (dTup (fCons (dC (.int 0)) (fCons (dC (.int 1)) (fNil)))) (fCons (dTup (fCons (dC (.int 1)) (fCons (dBin fSub (oExp (dC (.int 0))) (oExp (dC (.int 1)))) (fNil)))) (fCons (dBin fIx (oVar 2) (oExp (dC (.int 0)))) (fNil))))))))))))))))))
/-- _law_sign: 0 a, 1 b, 2 left, 3 right, 4 inner -/
def b__law_sign : TSD := sSeq (sIf (tOrD (tVal (dBin fEq (oVar 1) (oExp (dC (.int 0))))) (tAndD (tVal (dBin fEq (oVar 0) (oExp (dC (.int 0))))) (tVal (dBin fEq (oVar 1) (oExp (dC (.int 0))))))) (sRet (dBin fSub (oExp (dBin (fOrd pGt) (oVar 0) (oExp (dC (.int 0))))) (oExp (dBin (fOrd pLt) (oVar 0) (oExp (dC (.int 0))))))) (sNext))
  (sSeq (sPar 2 3 (fCons (dBin fSub (oExp (dBin fMul (oExp (dC (.int 2))) (oVar 0))) (oVar 1)) (fCons (dVar 1) (fNil))))
  (sSeq (sIf (tAndD (tVal (dBin (fOrd pGe) (oVar 2) (oExp (dC (.int 0))))) (tVal (dBin (fOrd pGt) (oVar 3) (oExp (dC (.int 0)))))) (sRet (dC (.int 1))) (sNext))
  (sSeq (sIf (tAndD (tVal (dBin (fOrd pLe) (oVar 2) (oExp (dC (.int 0))))) (tVal (dBin (fOrd pLt) (oVar 3) (oExp (dC (.int 0)))))) (sRet (dBin fSub (oExp (dC (.int 0))) (oExp (dC (.int 1))))) (sNext))
  (sSeq (sSet 4 (dBin fSub (oExp (dBin fMul (oVar 2) (oVar 2))) (oExp (dBin fMul (oExp (dBin fMul (oExp (dC (.int 5))) (oVar 3))) (oVar 3)))))
  (sRet (dBin fMul (oExp (dBin fSub (oExp (dBin (fOrd pGt) (oVar 4) (oExp (dC (.int 0))))) (oExp (dBin (fOrd pLt) (oVar 4) (oExp (dC (.int 0))))))) (oExp (dIf (tVal (dBin (fOrd pGt) (oVar 2) (oExp (dC (.int 0))))) (dC (.int 1)) (dBin fSub (oExp (dC (.int 0))) (oExp (dC (.int 1))))))))))))
/-- _law_less: 0 one, 1 other -/
def b__law_less : TSD := sRet (dBin (fOrd pGt) (oExp (dFn sp__law_sign 2 (fCons (dBin fSub (oExp (dBin fIx (oVar 1) (oExp (dC (.int 0))))) (oExp (dBin fIx (oVar 0) (oExp (dC (.int 0)))))) (fCons (dBin fSub (oExp (dBin fIx (oVar 1) (oExp (dC (.int 1))))) (oExp (dBin fIx (oVar 0) (oExp (dC (.int 1)))))) (fNil))))) (oExp (dC (.int 0))))
def b__law_power_F1 : TSD := sPar 1 2 (fCons (dVar 2) (fCons (dTup (fCons (dBin fSub (oExp (dBin fIx (oVar 1) (oExp (dC (.int 0))))) (oExp (dBin fIx (oVar 2) (oExp (dC (.int 0)))))) (fCons (dBin fSub (oExp (dBin fIx (oVar 1) (oExp (dC (.int 1))))) (oExp (dBin fIx (oVar 2) (oExp (dC (.int 1)))))) (fNil)))) (fNil)))
/-- _law_power: 0 many, 1 one, 2 other, 3 turn -/
def b__law_power : TSD := sSeq (sAsg (dTup (fCons (dTup (fCons (dC (.int 1)) (fCons (dC (.int 0)) (fNil)))) (fCons (dTup (fCons (dC (.int 0)) (fCons (dC (.int 1)) (fNil)))) (fNil)))) (gT 2 (gsCons (gN 1) (gsCons (gN 2) (gsNil)))))
  (sSeq (sFor (iRg1 (dVar 0)) (gN 3) b__law_power_F1)
  (sRetV 1))
/-- is_golden: 0 value -/
def b_is_golden : TSD := sRet (dAnd (dUn (fIsi "tuple") (oVar 0)) (dAnd (dBin fEq (oExp (dCall fLen (aCons (oVar 0) (aNil)))) (oExp (dC (.int 2)))) (dAnd (dFn sp_is_whole 1 (fCons (dBin fIx (oVar 0) (oExp (dC (.int 0)))) (fNil))) (dFn sp_is_whole 1 (fCons (dBin fIx (oVar 0) (oExp (dC (.int 1)))) (fNil))))))
/-- check_golden: 0 value -/
def b_check_golden : TSD := sIf (tNotD (tVal (dFn sp_is_golden 1 (fCons (dVar 0) (fNil))))) (sNever) (sNext)
/-- is_above_nothing: 0 whole, 1 part, 2 rest -/
def b_is_above_nothing : TSD := sSeq (sSet 2 (dBin fSub (oExp (dBin fMul (oExp (dC (.int 2))) (oVar 0))) (oVar 1)))
  (sSeq (sIf (tVal (dBin (fOrd pGe) (oVar 1) (oExp (dC (.int 0))))) (sRet (dOr (dBin (fOrd pGt) (oVar 2) (oExp (dC (.int 0)))) (dBin (fOrd pGt) (oExp (dBin fMul (oExp (dBin fMul (oExp (dC (.int 5))) (oVar 1))) (oVar 1))) (oExp (dBin fMul (oVar 2) (oVar 2)))))) (sNext))
  (sRet (dAnd (dBin (fOrd pGt) (oVar 2) (oExp (dC (.int 0)))) (dBin (fOrd pGt) (oExp (dBin fMul (oVar 2) (oVar 2))) (oExp (dBin fMul (oExp (dBin fMul (oExp (dC (.int 5))) (oVar 1))) (oVar 1)))))))
/-- is_golden_less: 0 one, 1 other -/
def b_is_golden_less : TSD := sSeq (sDrop (dFn sp_check_golden 1 (fCons (dVar 0) (fNil))))
  (sSeq (sDrop (dFn sp_check_golden 1 (fCons (dVar 1) (fNil))))
  (sRet (dFn sp_is_above_nothing 2 (fCons (dBin fSub (oExp (dBin fIx (oVar 1) (oExp (dC (.int 0))))) (oExp (dBin fIx (oVar 0) (oExp (dC (.int 0)))))) (fCons (dBin fSub (oExp (dBin fIx (oVar 1) (oExp (dC (.int 1))))) (oExp (dBin fIx (oVar 0) (oExp (dC (.int 1)))))) (fNil))))))
/-- check_number: 0 value -/
def b_check_number : TSD := sIf (tNotD (tVal (dFn sp_is_count 1 (fCons (dVar 0) (fNil))))) (sNever) (sNext)
def b_power_of_golden_F1 : TSD := sPar 1 2 (fCons (dVar 2) (fCons (dBin fSub (oVar 1) (oVar 2)) (fNil)))
/-- power_of_golden: 0 many, 1 whole, 2 part, 3 turn -/
def b_power_of_golden : TSD := sSeq (sAsg (dTup (fCons (dC (.int 1)) (fCons (dC (.int 0)) (fNil)))) (gT 2 (gsCons (gN 1) (gsCons (gN 2) (gsNil)))))
  (sSeq (sFor (iRg1 (dVar 0)) (gN 3) b_power_of_golden_F1)
  (sRet (dTup (fCons (dVar 1) (fCons (dVar 2) (fNil))))))
/-- golden_power: 0 many -/
def b_golden_power : TSD := sSeq (sDrop (dFn sp_check_number 1 (fCons (dVar 0) (fNil))))
  (sRet (dFn sp_power_of_golden 1 (fCons (dVar 0) (fNil))))
def b__law_golden_right_F1 : TSD := sSeq (sSet 3 (dFnB sp__law_pick 2 0 (fCons (dVar 1) (fNil))))
  (sSeq (sSet 4 (dFn sp__law_less 2 (fCons (dVar 2) (fCons (dVar 3) (fNil)))))
  (sIf (tVal (dBin fNe (oExp (dCall fRepr (aCons (oExp (dLst (fCons (dFn sp_is_golden_less 2 (fCons (dVar 2) (fCons (dVar 3) (fNil)))) (fCons (dFnK sp_is_golden_less 2 (gsel 0 2 [1, 0]) fNil (fCons (dVar 3) (fCons (dVar 2) (fNil)))) (fCons (dFn sp_is_golden_less 2 (fCons (dVar 2) (fCons (dVar 2) (fNil)))) (fNil)))))) (aNil)))) (oExp (dCall fRepr (aCons (oExp (dLst (fCons (dVar 4) (fCons (dVar 4) (fCons (dC (.bool false)) (fNil)))))) (aNil)))))) (sRet (dC (.bool false))) (sNext)))
def b__law_golden_right_F2 : TSD := sSeq (sSet 6 (dFnB sp__law_pick 2 0 (fCons (dLst (fCons (dC (.int 400)) (fCons (dC (.int 399)) (fCons (dC (.int 398)) (fCons (dFnB sp__law_random 2 0 (fCons (dC (.int 400)) (fNil))) (fCons (dFnB sp__law_random 2 0 (fCons (dC (.int 60)) (fNil))) (fNil))))))) (fNil))))
  (sSeq (sPar 7 8 (fCons (dFn sp__law_power 1 (fCons (dVar 6) (fNil))) (fCons (dFn sp__law_power 1 (fCons (dBin fAdd (oVar 6) (oExp (dC (.int 1)))) (fNil))) (fNil))))
  (sSeq (sIf (tVal (dBin fNe (oExp (dCall fRepr (aCons (oExp (dLst (fCons (dFn sp_golden_power 1 (fCons (dVar 6) (fNil))) (fCons (dFnK sp_golden_power 1 (gsel 0 1 [0]) fNil (fCons (dVar 6) (fNil))) (fNil))))) (aNil)))) (oExp (dCall fRepr (aCons (oExp (dLst (fCons (dVar 7) (fCons (dVar 7) (fNil))))) (aNil)))))) (sRet (dC (.bool false))) (sNext))
  (sSeq (sIf (tAndD (tVal (dBin (fOrd pLt) (oVar 6) (oExp (dC (.int 400))))) (tOrD (tVal (dBin fIsN (oExp (dFn sp_is_golden_less 2 (fCons (dFn sp_golden_power 1 (fCons (dBin fAdd (oVar 6) (oExp (dC (.int 1)))) (fNil))) (fCons (dFn sp_golden_power 1 (fCons (dVar 6) (fNil))) (fNil))))) (oExp (dC (.bool true))))) (tVal (dBin fIsN (oExp (dFn sp_is_golden_less 2 (fCons (dFn sp_golden_power 1 (fCons (dVar 6) (fNil))) (fCons (dFn sp_golden_power 1 (fCons (dBin fAdd (oVar 6) (oExp (dC (.int 1)))) (fNil))) (fNil))))) (oExp (dC (.bool false))))))) (sRet (dC (.bool false))) (sNext))
  (sIf (tOrD (tAndD (tVal (dBin (fOrd pLt) (oVar 6) (oExp (dC (.int 400))))) (tVal (dBin fNe (oExp (dCall fRepr (aCons (oExp (dFn sp_golden_power 1 (fCons (dBin fAdd (oVar 6) (oExp (dC (.int 1)))) (fNil)))) (aNil)))) (oExp (dCall fRepr (aCons (oVar 8) (aNil))))))) (tVal (dBin fIsN (oExp (dFn sp_is_golden_less 2 (fCons (dTup (fCons (dC (.int 0)) (fCons (dC (.int 0)) (fNil)))) (fCons (dVar 7) (fNil))))) (oExp (dC (.bool true)))))) (sRet (dC (.bool false))) (sNext)))))
/-- _law_golden_right: 0 generator, 1 rows, 2 one, 3 other, 4 due, 5 turn, 6 many, 7 power, 8 late -/
def b__law_golden_right : TSD := sSeq (sSet 1 (dFnB sp__law_numbers 1 0 (fNil)))
  (sSeq (sFor (iLst (dVar 1)) (gN 2) b__law_golden_right_F1)
  (sSeq (sFor (iRg1 (dC (.int 6))) (gN 5) b__law_golden_right_F2)
  (sRet (dC (.bool true)))))
def b_ascends_g1 : TGD := gN 1
def b_ascends_t2 : TTD := tVal (dBin (fOrd pGe) (oExp (dBin fIx (oVar 0) (oExp (dBin fSub (oVar 1) (oExp (dC (.int 1))))))) (oExp (dBin fIx (oVar 0) (oVar 1))))
def b_ascends_e3 : TD := dVar 1
/-- ascends: 0 items, 1 at -/
def b_ascends : TSD := sRet (dBin fEq (oExp (dLc (iRg2 (dC (.int 1)) (dCall fLen (aCons (oVar 0) (aNil)))) b_ascends_g1 b_ascends_t2 b_ascends_e3 [1])) (oExp (dLst (fNil))))
/-- is_hole: 0 value -/
def b_is_hole : TSD := sRet (dAnd (dUn (fIsi "tuple") (oVar 0)) (dAnd (dBin fEq (oExp (dCall fLen (aCons (oVar 0) (aNil)))) (oExp (dC (.int 2)))) (dAnd (dFn sp_is_count 1 (fCons (dBin fIx (oVar 0) (oExp (dC (.int 0)))) (fNil))) (dFn sp_is_count 1 (fCons (dBin fIx (oVar 0) (oExp (dC (.int 1)))) (fNil))))))
def b_are_holes_g1 : TGD := gN 1
def b_are_holes_t2 : TTD := tYesD
def b_are_holes_e3 : TD := dFn sp_is_hole 1 (fCons (dVar 1) (fNil))
/-- are_holes: 0 value, 1 cell -/
def b_are_holes : TSD := sRet (dAnd (dUn (fIsi "list") (oVar 0)) (dAnd (dCall fAll (aCons (oExp (dLc (iLst (dVar 0)) b_are_holes_g1 b_are_holes_t2 b_are_holes_e3 [1])) (aNil))) (dFn sp_ascends 1 (fCons (dVar 0) (fNil)))))
/-- check_far_pegs: 0 pegs, 1 goal -/
def b_check_far_pegs : TSD := sSeq (sIf (tNotD (tVal (dFn sp_are_holes 1 (fCons (dVar 0) (fNil))))) (sNever) (sNext))
  (sIf (tNotD (tVal (dFn sp_is_hole 1 (fCons (dVar 1) (fNil))))) (sNever) (sNext))
def b_weight_to_F1 : TSD := sSeq (sAsg (dFn sp_power_of_golden 1 (fCons (dBin fAdd (oExp (dCall fAbs (aCons (oExp (dBin fSub (oVar 3) (oExp (dBin fIx (oVar 1) (oExp (dC (.int 0))))))) (aNil)))) (oExp (dCall fAbs (aCons (oExp (dBin fSub (oVar 4) (oExp (dBin fIx (oVar 1) (oExp (dC (.int 1))))))) (aNil))))) (fNil))) (gT 2 (gsCons (gN 5) (gsCons (gN 6) (gsNil)))))
  (sSet 2 (dTup (fCons (dBin fAdd (oExp (dBin fIx (oVar 2) (oExp (dC (.int 0))))) (oVar 5)) (fCons (dBin fAdd (oExp (dBin fIx (oVar 2) (oExp (dC (.int 1))))) (oVar 6)) (fNil)))))
/-- weight_to: 0 pegs, 1 goal, 2 found, 3 row, 4 column, 5 whole, 6 part -/
def b_weight_to : TSD := sSeq (sSet 2 (dTup (fCons (dC (.int 0)) (fCons (dC (.int 0)) (fNil)))))
  (sSeq (sFor (iLst (dVar 0)) (gT 2 (gsCons (gN 3) (gsCons (gN 4) (gsNil)))) b_weight_to_F1)
  (sRetV 2))
/-- is_out_of_reach: 0 pegs, 1 goal, 2 whole, 3 part -/
def b_is_out_of_reach : TSD := sSeq (sDrop (dFn sp_check_far_pegs 2 (fCons (dVar 0) (fCons (dVar 1) (fNil)))))
  (sSeq (sAsg (dFn sp_weight_to 2 (fCons (dVar 0) (fCons (dVar 1) (fNil)))) (gT 2 (gsCons (gN 2) (gsCons (gN 3) (gsNil)))))
  (sRet (dFn sp_is_above_nothing 2 (fCons (dBin fSub (oExp (dC (.int 1))) (oVar 2)) (fCons (dBin fSub (oExp (dC (.int 0))) (oVar 3)) (fNil))))))
/-- golden_weight: 0 pegs, 1 goal -/
def b_golden_weight : TSD := sSeq (sDrop (dFn sp_check_far_pegs 2 (fCons (dVar 0) (fCons (dVar 1) (fNil)))))
  (sRet (dFn sp_weight_to 2 (fCons (dVar 0) (fCons (dVar 1) (fNil)))))
def b__law_weights_right_F1 : TSD := sSeq (sSet 6 (dTup (fCons (dFnB sp__law_random 2 0 (fCons (dVar 1) (fNil))) (fCons (dFnB sp__law_random 2 0 (fCons (dVar 1) (fNil))) (fNil)))))
  (sSet 2 (dBin fAdd (oVar 2) (oExp (dIf (tAndD (tVal (dBin fNotIn (oVar 6) (oVar 2))) (tVal (dBin (fOrd pGe) (oExp (dCall fAbs (aCons (oExp (dBin fSub (oExp (dBin fIx (oVar 6) (oExp (dC (.int 0))))) (oExp (dBin fIx (oVar 3) (oExp (dC (.int 0))))))) (aNil)))) (oExp (dCall fMin (aCons (oVar 4) (aCons (oExp (dC (.int 3))) (aNil)))))))) (dLst (fCons (dVar 6) (fNil))) (dLst (fNil))))))
def b__law_weights_right_F2 : TSD := sSeq (sSet 10 (dFn sp__law_power 1 (fCons (dBin fAdd (oExp (dCall fAbs (aCons (oExp (dBin fSub (oExp (dBin fIx (oVar 6) (oExp (dC (.int 0))))) (oExp (dBin fIx (oVar 3) (oExp (dC (.int 0))))))) (aNil)))) (oExp (dCall fAbs (aCons (oExp (dBin fSub (oExp (dBin fIx (oVar 6) (oExp (dC (.int 1))))) (oExp (dBin fIx (oVar 3) (oExp (dC (.int 1))))))) (aNil))))) (fNil))))
  (sSet 9 (dTup (fCons (dBin fAdd (oExp (dBin fIx (oVar 9) (oExp (dC (.int 0))))) (oExp (dBin fIx (oVar 10) (oExp (dC (.int 0)))))) (fCons (dBin fAdd (oExp (dBin fIx (oVar 9) (oExp (dC (.int 1))))) (oExp (dBin fIx (oVar 10) (oExp (dC (.int 1)))))) (fNil)))))
def b__law_weights_right_g3 : TGD := gN 14
def b__law_weights_right_t4 : TTD := tYesD
def b__law_weights_right_e5 : TD := dTup (fCons (dBin fAdd (oVar 12) (oExp (dBin fDiv (oVar 14) (oExp (dC (.int 12)))))) (fCons (dBin fAdd (oExp (dC (.int 20))) (oExp (dBin fMod (oVar 14) (oExp (dC (.int 12)))))) (fNil)))
/-- _law_weights_right: 0 generator, 1 wide, 2 cells, 3 goal, 4 least, 5 turn, 6 cell, 7 pegs, 8 kept, 9 weight, 10 power, 11 due, 12 row, 13 far, 14 at -/
def b__law_weights_right : TSD := sSeq (sPar 1 2 (fCons (dFnB sp__law_pick 2 0 (fCons (dLst (fCons (dC (.int 4)) (fCons (dC (.int 12)) (fCons (dC (.int 60)) (fNil))))) (fNil))) (fCons (dLst (fNil)) (fNil))))
  (sSeq (sSet 3 (dTup (fCons (dFnB sp__law_random 2 0 (fCons (dVar 1) (fNil))) (fCons (dFnB sp__law_random 2 0 (fCons (dVar 1) (fNil))) (fNil)))))
  (sSeq (sSet 4 (dFnB sp__law_pick 2 0 (fCons (dLst (fCons (dC (.int 0)) (fCons (dC (.int 1)) (fCons (dC (.int 5)) (fNil))))) (fNil))))
  (sSeq (sFor (iRg1 (dFnB sp__law_random 2 0 (fCons (dC (.int 61)) (fNil)))) (gN 5) b__law_weights_right_F1)
  (sSeq (sSet 7 (dCall fSorted (aCons (oVar 2) (aNil))))
  (sSeq (sPar 8 9 (fCons (dCall fRepr (aCons (oVar 7) (aNil))) (fCons (dTup (fCons (dC (.int 0)) (fCons (dC (.int 0)) (fNil)))) (fNil))))
  (sSeq (sFor (iLst (dVar 7)) (gN 6) b__law_weights_right_F2)
  (sSeq (sSet 11 (dFn sp__law_less 2 (fCons (dVar 9) (fCons (dTup (fCons (dC (.int 1)) (fCons (dC (.int 0)) (fNil)))) (fNil)))))
  (sSeq (sIf (tVal (dBin fNe (oExp (dCall fRepr (aCons (oExp (dLst (fCons (dFn sp_golden_weight 2 (fCons (dVar 7) (fCons (dVar 3) (fNil)))) (fCons (dFnK sp_golden_weight 2 (gsel 0 2 [1, 0]) fNil (fCons (dVar 3) (fCons (dVar 7) (fNil)))) (fNil))))) (aNil)))) (oExp (dCall fRepr (aCons (oExp (dLst (fCons (dVar 9) (fCons (dVar 9) (fNil))))) (aNil)))))) (sRet (dC (.bool false))) (sNext))
  (sSeq (sIf (tVal (dBin fNe (oExp (dCall fRepr (aCons (oExp (dLst (fCons (dFn sp_is_out_of_reach 2 (fCons (dVar 7) (fCons (dVar 3) (fNil)))) (fCons (dFnK sp_is_out_of_reach 2 (gsel 0 2 [1, 0]) fNil (fCons (dVar 3) (fCons (dVar 7) (fNil)))) (fNil))))) (aNil)))) (oExp (dCall fRepr (aCons (oExp (dLst (fCons (dVar 11) (fCons (dVar 11) (fNil))))) (aNil)))))) (sRet (dC (.bool false))) (sNext))
  (sSeq (sSet 12 (dBin fAdd (oExp (dC (.int 5))) (oExp (dFnB sp__law_random 2 0 (fCons (dC (.int 50)) (fNil))))))
  (sSeq (sSet 13 (dLc (iRg1 (dC (.int 48))) b__law_weights_right_g3 b__law_weights_right_t4 b__law_weights_right_e5 [14]))
  (sRet (dAnd (dBin fIs (oExp (dFn sp_is_out_of_reach 2 (fCons (dVar 13) (fCons (dTup (fCons (dC (.int 0)) (fCons (dC (.int 25)) (fNil)))) (fNil))))) (oExp (dC (.bool true)))) (dBin fEq (oExp (dCall fRepr (aCons (oVar 7) (aNil)))) (oVar 8)))))))))))))))
def b_law_F1 : TSD := sSeq (sSet 2 (dFn sp__law_generator 2 (fCons (dVar 0) (fCons (dVar 1) (fNil)))))
  (sIf (tOrD (tNotD (tVal (dFnB sp__law_golden_right 1 2 (fNil)))) (tNotD (tVal (dFnB sp__law_weights_right 1 2 (fNil))))) (sRet (dC (.bool false))) (sNext))
def b_law_g2 : TGD := gN 4
def b_law_t3 : TTD := tYesD
def b_law_e4 : TD := dFn sp_fewest_soldiers 1 (fCons (dVar 4) (fNil))
/-- law: 0 script, 1 index, 2 generator, 3 row, 4 one -/
def b_law : TSD := sSeq (sFor (iRg1 (dC (.int 4))) (gN 1) b_law_F1)
  (sSeq (sSet 2 (dFn sp__law_generator 2 (fCons (dVar 0) (fCons (dC (.int 4)) (fNil)))))
  (sSeq (sSet 3 (dBin fAdd (oExp (dC (.int 5))) (oExp (dFnB sp__law_random 2 2 (fCons (dBin fPow (oExp (dC (.int 10))) (oExp (dC (.int 9)))) (fNil))))))
  (sRet (dBin fEq (oExp (dLc (iTup (dTup (fCons (dC (.int 1)) (fCons (dC (.int 2)) (fCons (dC (.int 3)) (fCons (dC (.int 4)) (fCons (dC (.int 5)) (fCons (dC (.int 6)) (fCons (dVar 3) (fNil)))))))))) b_law_g2 b_law_t3 b_law_e4 [4])) (oExp (dLst (fCons (dC (.int 2)) (fCons (dC (.int 4)) (fCons (dC (.int 8)) (fCons (dC (.int 20)) (fCons (dC .none) (fCons (dC .none) (fCons (dC .none) (fNil))))))))))))))

@[simp] theorem pairD_inj {p q : Int × Int} : pairD p = pairD q ↔ p = q := by
  constructor
  · intro h; unfold pairD at h; simp at h; exact Prod.ext h.1 h.2
  · intro h; rw [h]
@[simp] theorem pairD_tup {a b : Int} {p : Int × Int} : (PyData.tuple [.int a, .int b] = pairD p) = ((a, b) = p) := by
  apply propext
  show pairD (a, b) = pairD p ↔ _
  exact pairD_inj
theorem pure_is_whole : ∀ as QD, sp_is_whole as QD → as.length = 1 → b_is_whole (En QD) (as ++ List.replicate 0 .un) := by
  rintro _ QD ⟨d, rfl, hq⟩ _
  simp [b_is_whole]
  split
  · rename_i h; simpa [wholeD, h] using hq
  · rename_i h; simpa [wholeD, h] using hq
theorem pure_is_count : ∀ as QD, sp_is_count as QD → as.length = 1 → b_is_count (En QD) (as ++ List.replicate 0 .un) := by
  rintro _ QD ⟨d, rfl, hq⟩ _
  simp [b_is_count, sp_is_whole, hq]
theorem pure_check_number : ∀ as QD, sp_check_number as QD → as.length = 1 → b_check_number (En QD) (as ++ List.replicate 0 .un) := by
  rintro _ QD ⟨d, rfl, h, hq⟩ _
  simp [b_check_number, sp_is_count, hq, h]
theorem pure_is_hole : ∀ as QD, sp_is_hole as QD → as.length = 1 → b_is_hole (En QD) (as ++ List.replicate 0 .un) := by
  rintro _ QD ⟨d, rfl, ⟨h1, h2⟩, hq⟩ _
  simp [b_is_hole, sp_is_count, hq, h1, h2, pairD, isTy, tyN]
theorem pure_is_golden : ∀ as QD, sp_is_golden as QD → as.length = 1 → b_is_golden (En QD) (as ++ List.replicate 0 .un) := by
  rintro _ QD ⟨d, rfl, hq⟩ _
  simp [b_is_golden, sp_is_whole, hq, pairD, isTy, tyN]
theorem pure_check_golden : ∀ as QD, sp_check_golden as QD → as.length = 1 → b_check_golden (En QD) (as ++ List.replicate 0 .un) := by
  rintro _ QD ⟨d, rfl, hq⟩ _
  simp [b_check_golden, sp_is_golden, hq]
  exact ⟨d.1, d.2, rfl⟩
theorem pow_up {n m : Nat} (h : n ≤ m) {x : Nat} (hx : x < 2 ^ n) : x < 2 ^ m := Nat.lt_of_lt_of_le hx (Nat.pow_le_pow_right (by decide) h)
theorem big_rest {a b : Int} {n : Nat} (ha : a.natAbs < 2 ^ n) (hb : b.natAbs < 2 ^ n) : (2 * a - b).natAbs < 2 ^ (n + 2) := by
  rw [Nat.pow_succ, Nat.pow_succ]; omega
theorem big_five {b : Int} {n : Nat} (hb : b.natAbs < 2 ^ n) : (5 * b).natAbs < 2 ^ (n + 3) := by
  rw [Nat.pow_succ, Nat.pow_succ, Nat.pow_succ]; omega
theorem big_sub {a b : Int} {n : Nat} (ha : a.natAbs < 2 ^ n) (hb : b.natAbs < 2 ^ n) : (a - b).natAbs < 2 ^ (n + 1) := by
  rw [Nat.pow_succ]; omega
theorem big_add {a b : Int} {n : Nat} (ha : a.natAbs < 2 ^ n) (hb : b.natAbs < 2 ^ n) : (a + b).natAbs < 2 ^ (n + 1) := by
  rw [Nat.pow_succ]; omega
theorem muls {a b : Int} (ha : bigI a) (hb : bigI b) : MulOk (2 * a - b) (2 * a - b) ∧ MulOk 5 b ∧ MulOk (5 * b) b := by
  have h := big_rest ha hb
  exact ⟨mulOk_w h h (by decide) (by decide) (by decide), mulOk_l (by decide) (by decide), mulOk_w (big_five hb) hb (by decide) (by decide) (by decide)⟩
theorem pure_is_above_nothing : ∀ as QD, sp_is_above_nothing as QD → as.length = 2 → b_is_above_nothing (En QD) (as ++ List.replicate 1 .un) := by
  rintro _ QD ⟨a, b, rfl, ha, hb, hq⟩ _
  obtain ⟨m1, m2, m3⟩ := muls ha hb
  simp [b_is_above_nothing]
  refine ⟨mulOk_l (by decide) (by decide), ?_⟩
  by_cases h : 0 ≤ b
  · refine .inr ⟨h, ?_⟩
    unfold above at hq
    rw [if_pos h] at hq
    split
    · rename_i h2; simpa [h2] using hq
    · rename_i h2; exact ⟨m2, m3, m1, by simpa [h2] using hq⟩
  · refine .inl ⟨by omega, ?_⟩
    unfold above at hq
    rw [if_neg h] at hq
    split
    · rename_i h2; exact ⟨m1, m2, m3, by simpa [h2] using hq⟩
    · rename_i h2; simpa [h2] using hq
theorem bigP_sub {p q : Int × Int} (hp : bigP p) (hq : bigP q) : bigI (q.1 - p.1) ∧ bigI (q.2 - p.2) :=
  ⟨pow_up (by decide) (big_sub hq.1 hp.1), pow_up (by decide) (big_sub hq.2 hp.2)⟩
theorem pure_is_golden_less : ∀ as QD, sp_is_golden_less as QD → as.length = 2 → b_is_golden_less (En QD) (as ++ List.replicate 0 .un) := by
  rintro _ QD ⟨p, q, rfl, hp, hq2, hq⟩ _
  obtain ⟨h1, h2⟩ := bigP_sub hp hq2
  simp [b_is_golden_less, sp_check_golden, sp_is_above_nothing]
  refine ⟨⟨p.1, p.2, rfl⟩, ⟨q.1, q.2, rfl⟩, ?_⟩
  simp [pairD]
  exact ⟨h1, h2, hq⟩
/-! the sign, told the law's way -/
theorem sgn_above (a b : Int) : decide (0 < sgn a b) = above a b := by
  unfold sgn above
  by_cases hb : b = 0
  · subst hb
    have e1 : (5 * 0 * 0 : Int) = 0 := rfl
    rw [if_pos rfl, if_pos (by omega)]
    have e2 : ∀ x : Int, ¬ x * x < 5 * 0 * 0 := fun x h => by
      have : 0 ≤ x * x := by
        rcases Int.le_total 0 x with h | h
        · exact Int.mul_nonneg h h
        · exact Int.mul_nonneg_of_nonpos_of_nonpos h h
      omega
    rw [decide_eq_false (e2 _), Bool.or_false]
    by_cases h1 : 0 < a
    · have h2 : ¬ a < 0 := by omega
      simp [h1, h2, b2i]; omega
    · by_cases h2 : a < 0
      · simp [h1, h2, b2i]; omega
      · simp [h1, h2, b2i]; omega
  · rw [if_neg hb]
    generalize 2 * a - b = r
    generalize hs : 5 * b * b = s
    have sp : 0 < s := by
      have : 0 < b * b := by
        rcases Int.lt_or_gt_of_ne hb with h | h
        · exact Int.mul_pos_of_neg_of_neg h h
        · exact Int.mul_pos h h
      rw [← hs, Int.mul_assoc]
      omega
    by_cases h0 : 0 ≤ b
    · have hb' : 0 < b := by omega
      have hn : ¬ b < 0 := by omega
      rw [if_pos h0]
      by_cases hr : 0 ≤ r
      · rw [if_pos ⟨hr, hb'⟩]
        by_cases hr2 : 0 < r
        · simp [hr2]
        · have : r = 0 := by omega
          subst this
          simp; omega
      · rw [if_neg (fun z => hr z.1), if_neg (fun z => hn z.2)]
        have h1 : ¬ 0 < r := by omega
        rw [if_neg h1]
        by_cases h2 : r * r < s
        · have h3 : ¬ 0 < r * r - s := by omega
          have h4 : r * r - s < 0 := by omega
          simp [h1, h2, h3, h4, b2i]; split <;> omega
        · by_cases h3 : 0 < r * r - s
          · have h4 : ¬ r * r - s < 0 := by omega
            simp [h1, h2, h3, h4, b2i]; split <;> omega
          · have h4 : ¬ r * r - s < 0 := by omega
            simp [h1, h2, h3, h4, b2i]; split <;> omega
    · have hb' : ¬ 0 < b := by omega
      have hn : b < 0 := by omega
      rw [if_neg h0, if_neg (fun z => hb' z.2)]
      by_cases hr : r ≤ 0
      · rw [if_pos ⟨hr, hn⟩]
        have h1 : ¬ 0 < r := by omega
        simp [h1]
      · rw [if_neg (fun z => hr z.1)]
        have h1 : 0 < r := by omega
        rw [if_pos h1]
        by_cases h2 : s < r * r
        · have h3 : 0 < r * r - s := by omega
          have h4 : ¬ r * r - s < 0 := by omega
          simp [h1, h2, h3, h4, b2i]
        · have h3 : ¬ 0 < r * r - s := by omega
          by_cases h4 : r * r - s < 0
          · simp [h1, h2, h3, h4, b2i]
          · simp [h1, h2, h3, h4, b2i]
theorem mulOk_one (x : Int) : MulOk x 1 := mulOk_r (by decide) (by decide)
theorem mulOk_mone (x : Int) : MulOk x (-1) := mulOk_r (by decide) (by decide)
theorem mulOk_two (x : Int) : MulOk 2 x := mulOk_l (by decide) (by decide)
theorem pure__law_sign : ∀ as QD, sp__law_sign as QD → as.length = 2 → b__law_sign (En QD) (as ++ List.replicate 3 .un) := by
  rintro _ QD ⟨a, b, rfl, ha, hb, hq⟩ _
  obtain ⟨m1, m2, m3⟩ := muls ha hb
  unfold sgn at hq
  by_cases hz : b = 0
  · subst hz
    rw [if_pos rfl] at hq
    simp [b__law_sign, hq]
  · rw [if_neg hz] at hq
    by_cases h1 : 0 ≤ 2 * a - b ∧ 0 < b
    · rw [if_pos h1] at hq
      have e1 : b ≤ 2 * a := by omega
      simp [b__law_sign, hz, h1.2, e1, hq, mulOk_two]; omega
    · rw [if_neg h1] at hq
      by_cases h2 : 2 * a - b ≤ 0 ∧ b < 0
      · rw [if_pos h2] at hq
        have e1 : ¬ 0 < b := by omega
        have e3 : b ≤ 0 := by omega
        by_cases e2 : b ≤ 2 * a
        · simp [b__law_sign, hz, h2.1, h2.2, e1, e2, e3, hq, mulOk_two]; omega
        · have e4 : 2 * a < b := by omega
          simp [b__law_sign, hz, h2.1, h2.2, e1, e2, e3, e4, hq, mulOk_two]; omega
      · rw [if_neg h2] at hq
        by_cases h3 : b < 2 * a
        · have e1 : b ≤ 2 * a := by omega
          have e2 : ¬ 0 < b := by omega
          have e3 : b ≤ 0 := by omega
          rw [if_pos (by omega)] at hq
          simp at hq
          simp [b__law_sign, hz, h3, e1, e2, e3, hq, mulOk_two, m1, m2, m3, mulOk_one]; omega
        · have e2 : ¬ b < 0 := by omega
          have e3 : 0 ≤ b := by omega
          have e4 : 2 * a ≤ b := by omega
          have e5 : 2 * a - b ≤ 0 := by omega
          by_cases e6 : 2 * a < b
          · rw [if_neg (by omega)] at hq
            simp at hq
            simp [b__law_sign, hz, h3, e2, e3, e4, e5, e6, hq, mulOk_two, m1, m2, m3, mulOk_mone]; omega
          · omega
theorem pure__law_less : ∀ as QD, sp__law_less as QD → as.length = 2 → b__law_less (En QD) (as ++ List.replicate 0 .un) := by
  rintro _ QD ⟨p, q, rfl, hp, hq2, hq⟩ _
  obtain ⟨h1, h2⟩ := bigP_sub hp hq2
  simp [b__law_less, sp__law_sign, pairD]
  refine ⟨h1, h2, ?_⟩
  rw [sgn_above]
  exact hq

theorem pw_step : ∀ (n : Nat) (x y : Int), pwGo (n + 1) x y = ((pwGo n x y).2, (pwGo n x y).1 - (pwGo n x y).2)
  | 0, x, y => rfl
  | n + 1, x, y => by
    rw [show pwGo (n + 1 + 1) x y = pwGo (n + 1) y (x - y) from rfl, pw_step n y (x - y)]
    rfl
theorem pw_succ (n : Nat) : pw (n + 1) = ((pw n).2, (pw n).1 - (pw n).2) := pw_step n 1 0
theorem pw_big : ∀ n : Nat, (pw n).1.natAbs ≤ 2 ^ n ∧ (pw n).2.natAbs ≤ 2 ^ n
  | 0 => by decide
  | n + 1 => by
    obtain ⟨h1, h2⟩ := pw_big n
    rw [pw_succ, Nat.pow_succ]
    show (pw n).2.natAbs ≤ _ ∧ ((pw n).1 - (pw n).2).natAbs ≤ _
    omega
theorem natCast_fit {n : Nat} (h : n ≤ 1000000) : -(4611686018427387904 : Int) ≤ (n : Int) ∧ (n : Int) < 4611686018427387904 := by omega
theorem pure_power_of_golden : ∀ as QD, sp_power_of_golden as QD → as.length = 1 → b_power_of_golden (En QD) (as ++ List.replicate 3 .un) := by
  rintro _ QD ⟨i, rfl, hi, hn, hq⟩ _
  obtain ⟨n, rfl⟩ := Int.eq_ofNat_of_zero_le hi
  simp [b_power_of_golden]
  refine ⟨by omega, ?_⟩
  refine forW_inv (fun i ρ => ∃ x : Sl, ρ = [.sh (.int n), .sh (.int (pw i).1), .sh (.int (pw i).2), x] ∧ notIo (some x)) _ 0 _ ⟨.un, rfl, trivial⟩ ?_ ?_
  · rintro i d ρ W he ⟨x, rfl, hx⟩ hW
    simp [b_power_of_golden_F1, hx]
    refine hW _ ⟨.sh d, ?_, trivial⟩
    rw [Nat.zero_add, pw_succ]
  · rintro ρ ⟨x, rfl, hx⟩
    simp [q_ios6 hx]
    rw [rgD_len]
    rw [Int.toNat_natCast] at hq
    exact hq
theorem pure_golden_power : ∀ as QD, sp_golden_power as QD → as.length = 1 → b_golden_power (En QD) (as ++ List.replicate 0 .un) := by
  rintro _ QD ⟨i, rfl, hi, hn, hq⟩ _
  simp [b_golden_power, sp_check_number, sp_power_of_golden]
  exact ⟨hi, hn, hq⟩
theorem pure__law_power : ∀ as QD, sp__law_power as QD → as.length = 1 → b__law_power (En QD) (as ++ List.replicate 3 .un) := by
  rintro _ QD ⟨i, rfl, hi, hn, hq⟩ _
  obtain ⟨n, rfl⟩ := Int.eq_ofNat_of_zero_le hi
  simp [b__law_power]
  refine ⟨by omega, ?_⟩
  refine forW_inv (fun i ρ => ∃ x : Sl, ρ = [.sh (.int n), .sh (pairD (pw i)), .sh (pairD (pw (i + 1))), x] ∧ notIo (some x)) _ 0 _ ⟨.un, rfl, trivial⟩ ?_ ?_
  · rintro i d ρ W he ⟨x, rfl, hx⟩ hW
    simp [b__law_power_F1, hx, pairD]
    refine hW _ ⟨.sh d, ?_, trivial⟩
    rw [Nat.zero_add, pw_succ (i + 1)]
    simp [pairD, pw_succ]
  · rintro ρ ⟨x, rfl, hx⟩
    simp [q_ios6 hx]
    rw [rgD_len]
    rw [Int.toNat_natCast] at hq
    exact hq

@[simp] theorem mapP_inj {ps qs : List (Int × Int)} : (ps.map pairD = qs.map pairD) = (ps = qs) := by
  apply propext
  constructor
  · intro h
    have e := congrArg pairsD h
    rw [pairsD_map, pairsD_map] at e
    exact Option.some.inj e
  · intro h; rw [h]
@[simp] theorem ex_pairD {p : Int × Int} {P : List Dat → Prop} : (∃ ds, pairD p = .tuple ds ∧ P ds) = P [.int p.1, .int p.2] := by
  apply propext
  constructor
  · rintro ⟨ds, e, h⟩
    unfold pairD at e
    cases e
    exact h
  · intro h; exact ⟨_, rfl, h⟩
theorem pairs_at {ps : List (Int × Int)} {j : Nat} (h : j < ps.length) : atI (ps.map pairD) (j : Int) = some (pairD ps[j]) := by
  apply atI_nat
  rw [List.getElem?_map, List.getElem?_eq_getElem h]
  rfl
theorem eo_pair (p q : Int × Int) : EqOk (pairD p) (pairD q) := by
  simp [EqOk, pairD, PyData.canLay0, PyData.canLayAll0, PyData.depth, PyData.depthAll]
theorem cmp_pair (p q : Int × Int) : cmpD (pairD p) (pairD q) = some (if p.1 = q.1 then compare p.2 q.2 else compare p.1 q.1) := by
  unfold pairD
  simp only [cmpD, cmpDs, PyData.eqv, beq_iff_eq]
  by_cases h : p.1 = q.1
  · rw [if_pos h, if_pos h]
    by_cases h2 : p.2 = q.2
    · rw [if_pos h2, h2]; simp
    · rw [if_neg h2]
  · rw [if_neg h, if_neg h]
    by_cases h2 : p.2 = q.2
    · rw [if_pos h2]
    · rw [if_neg h2]
@[simp] theorem q_ordP {k : Sl → Prop} (r : Ordering → Bool) (p q : Int × Int) : fOrd r (pairD p) (pairD q) k = k (.sh (.bool (r (if p.1 = q.1 then compare p.2 q.2 else compare p.1 q.1)))) := by
  unfold fOrd
  simp [eo_pair, cmp_pair]
theorem ge_ltP {p q : Int × Int} (h : ltP p q) : pGe (if p.1 = q.1 then compare p.2 q.2 else compare p.1 q.1) = false := by
  rcases h with h | ⟨h, h2⟩
  · rw [if_neg (by omega)]; simp [h]
  · rw [if_pos h]; simp [h2]
@[simp] theorem q_eqNil {k : Sl → Prop} : fEq (.list []) (.list []) k = k (.sh (.bool true)) := by
  unfold fEq
  have : EqOk1 (.list []) (.list []) := .inr (by simp [EqOk, PyData.canLay0, PyData.canLayAll0, PyData.depth, PyData.depthAll])
  simp [this, PyData.eqv, PyData.eqvAll]
theorem pure_ascends : ∀ as QD, sp_ascends as QD → as.length = 1 → b_ascends (En QD) (as ++ List.replicate 1 .un) := by
  rintro _ QD ⟨ps, rfl, hl, hp, hq⟩ _
  simp [b_ascends]
  refine ⟨by omega, ?_⟩
  refine lcW_inv (fun i ρ acc => ρ = [.sh (.list (ps.map pairD)), .un] ∧ acc = []) _ 0 _ _ ⟨rfl, rfl⟩ ?_ ?_
  · rintro i d ρ acc W he ⟨rfl, rfl⟩ hW
    obtain ⟨rfl, hi⟩ := rgD_mem he
    have h1 : i + 1 < ps.length := by omega
    have e1 : (1 : Int) + i - 1 = (i : Nat) := by omega
    have e2 : (1 : Int) + i = ((i + 1 : Nat) : Int) := by omega
    simp [b_ascends_g1, b_ascends_t2]
    rw [e1, e2, pairs_at (by omega), pairs_at h1]
    have hlt : ltP ps[i] ps[i + 1] := List.pairwise_iff_getElem.mp hp i (i + 1) (by omega) h1 (by omega)
    simp [ge_ltP hlt]
    exact hW _ _ ⟨rfl, rfl⟩
  · rintro ρ acc ⟨rfl, rfl⟩
    simp
    exact hq
theorem pure_are_holes : ∀ as QD, sp_are_holes as QD → as.length = 1 → b_are_holes (En QD) (as ++ List.replicate 1 .un) := by
  rintro _ QD ⟨ps, rfl, ⟨hl, hn, hp⟩, hq⟩ _
  simp [b_are_holes, isTy, tyN]
  refine lcW_inv (fun i ρ acc => ρ = [.sh (.list (ps.map pairD)), .un] ∧ acc = (List.replicate i true).map .bool ∧ i ≤ ps.length) _ 0 _ _ ⟨rfl, rfl, by omega⟩ ?_ ?_
  · rintro i d ρ acc W he ⟨rfl, rfl, hi⟩ hW
    rw [List.getElem?_map] at he
    obtain ⟨p, hp2, rfl⟩ := Option.map_eq_some_iff.mp he
    have hpm := List.mem_of_getElem? hp2
    have hlt : i < ps.length := (List.getElem?_eq_some_iff.mp hp2).1
    simp [b_are_holes_g1, b_are_holes_t2, b_are_holes_e3, sp_is_hole]
    refine ⟨p.1, p.2, rfl, hn p hpm, ?_, ?_⟩
    · have : (1000000 : Nat) ≤ sizeLine := by decide
      omega
    · refine hW _ _ ⟨rfl, ?_, by omega⟩
      simp [List.replicate_succ']
  · rintro ρ acc ⟨rfl, rfl, hi⟩
    simp only [q_allL, q_fz1, q_back1, q_back0]
    simp [sp_ascends]
    exact ⟨hl, hp, hq⟩
theorem pure_check_far_pegs : ∀ as QD, sp_check_far_pegs as QD → as.length = 2 → b_check_far_pegs (En QD) (as ++ List.replicate 0 .un) := by
  rintro _ QD ⟨ps, g, rfl, hp, hg, hq⟩ _
  simp [b_check_far_pegs, sp_are_holes, sp_is_hole]
  exact ⟨hp, g.1, g.2, rfl, hg, hq⟩
theorem pure_weight_to : ∀ as QD, sp_weight_to as QD → as.length = 2 → b_weight_to (En QD) (as ++ List.replicate 5 .un) := by
  rintro _ QD ⟨ps, g, rfl, hp, hq⟩ _
  simp [b_weight_to]
  refine forW_inv (fun i ρ => ∃ x y z u : Sl, ρ = [.sh (.list (ps.map pairD)), .sh (pairD g), .sh (pairD (wt g (ps.take i))), x, y, z, u] ∧ notIo (some x) ∧ notIo (some y) ∧ notIo (some z) ∧ notIo (some u)) _ 0 _ ⟨.un, .un, .un, .un, rfl, trivial, trivial, trivial, trivial⟩ ?_ ?_
  · rintro i d ρ W he ⟨x, y, z, u, rfl, hx, hy, hz, hu⟩ hW
    rw [List.getElem?_map] at he
    obtain ⟨p, hp2, rfl⟩ := Option.map_eq_some_iff.mp he
    have hpm := List.mem_of_getElem? hp2
    have hlt : i < ps.length := (List.getElem?_eq_some_iff.mp hp2).1
    simp [b_weight_to_F1, hx, hy, hz, hu, pairD, sp_power_of_golden]
    have e0 : absI (p.1 - g.1) + absI (p.2 - g.2) = ((dist p g : Nat) : Int) := by
      unfold dist absI
      split <;> split <;> omega
    have hd := hp p hpm
    have ea : ∀ x : Int, (if x < 0 then -x else x) = absI x := fun _ => rfl
    simp only [ea]
    rw [e0, Int.toNat_natCast]
    refine ⟨by omega, by omega, ?_⟩
    refine hW _ ⟨.sh (.int p.1), .sh (.int p.2), .sh (.int (pw (dist p g)).1), .sh (.int (pw (dist p g)).2), ?_, trivial, trivial, trivial, trivial⟩
    rw [Nat.zero_add]
    have e : wt g (ps.take (i + 1)) = addP (wt g (ps.take i)) (pw (dist p g)) := by
      rw [List.take_add_one, hp2]
      unfold wt
      rw [List.foldl_append]
      rfl
    rw [e]
    rfl
  · rintro ρ ⟨x, y, z, u, rfl, hx, hy, hz, hu⟩
    simp [q_ios6 hx, q_ios6 hy, q_ios6 hz, q_ios6 hu]
    exact hq
theorem pure_golden_weight : ∀ as QD, sp_golden_weight as QD → as.length = 2 → b_golden_weight (En QD) (as ++ List.replicate 0 .un) := by
  rintro _ QD ⟨ps, g, rfl, hp, hg, hn, hq⟩ _
  simp [b_golden_weight, sp_check_far_pegs, sp_weight_to, -Prod.exists]
  exact ⟨hp, hg, hn, hq⟩
theorem pure_is_out_of_reach : ∀ as QD, sp_is_out_of_reach as QD → as.length = 2 → b_is_out_of_reach (En QD) (as ++ List.replicate 2 .un) := by
  rintro _ QD ⟨ps, g, rfl, hp, hg, hn, hb, hq⟩ _
  simp [b_is_out_of_reach, sp_check_far_pegs, sp_weight_to, sp_is_above_nothing, -Prod.exists]
  refine ⟨hp, hg, hn, ?_, ?_, by simpa using hq⟩
  · have h1 : (1 : Int).natAbs < 2 ^ 900 := by decide +kernel
    exact pow_up (by decide) (big_sub h1 hb.1)
  · show (-(wt g ps).2).natAbs < 2 ^ 1000
    rw [Int.natAbs_neg]
    exact pow_up (by decide) hb.2
theorem pure_fewest_soldiers : ∀ as QD, sp_fewest_soldiers as QD → as.length = 1 → b_fewest_soldiers (En QD) (as ++ List.replicate 0 .un) := by
  rintro _ QD ⟨i, rfl, hi, hq⟩ _
  simp [b_fewest_soldiers, sp_is_count, c_SOLDIERS]
  refine ⟨by omega, hi, ?_⟩
  by_cases h : i < 5
  · refine .inr ⟨h, ?_⟩
    have h4 : i = 1 ∨ i = 2 ∨ i = 3 ∨ i = 4 := by omega
    rcases h4 with rfl | rfl | rfl | rfl
    · exact ⟨_, rfl, hq⟩
    · exact ⟨_, rfl, hq⟩
    · exact ⟨_, rfl, hq⟩
    · exact ⟨_, rfl, hq⟩
  · rw [if_neg (by omega), if_neg (by omega), if_neg (by omega), if_neg (by omega)] at hq
    exact .inl ⟨by omega, hq⟩

section
variable {Q : Sl → List (Addr × List Dat) → Prop}
theorem q_rand (p : Addr) (g : List Dat) (m : Int) : sp__law_random [.io p g, .sh (.int m)] Q = (0 < m ∧ m.natAbs.log2 < 3000 ∧ ∃ n, gOk (n + 1) g ∧ ∀ r g', 0 ≤ r → r < m → gOk n g' → Q (.sh (.int r)) [(p, g')]) := by
  apply propext
  constructor
  · rintro ⟨_, _, _, n, e, h1, h2, h3⟩; cases e; exact ⟨h1, h2, n, h3⟩
  · rintro ⟨h1, h2, n, h3⟩; exact ⟨_, _, _, n, rfl, h1, h2, h3⟩
theorem q_pickL (p : Addr) (g ds : List Dat) : sp__law_pick [.io p g, .sh (.list ds)] Q = (ds ≠ [] ∧ ds.length < 1000000 ∧ ∃ n, gOk (n + 1) g ∧ ∀ d g', d ∈ ds → gOk n g' → Q (.sh d) [(p, g')]) := by
  apply propext
  constructor
  · rintro ⟨_, _, _, _, n, e, h0, h1, h2, h3⟩; cases e; cases h0; exact ⟨h1, h2, n, h3⟩
  · rintro ⟨h1, h2, n, h3⟩; exact ⟨_, _, _, _, n, rfl, rfl, h1, h2, h3⟩
end
theorem atI_neg {α : Type} {xs : List α} {i : Int} (h0 : -(xs.length : Int) ≤ i) (h : i < 0) : ∃ x ∈ xs, atI xs i = some x := by
  unfold atI ixN
  rw [if_neg (by omega), if_pos h0]
  have hj : (i + xs.length).toNat < xs.length := by omega
  exact ⟨xs[(i + xs.length).toNat], List.getElem_mem hj, by simp [hj]⟩
theorem ints_atI {fs : List Int} {i : Int} {d : Dat} (h : d ∈ fs.map PyData.int) : ∃ x ∈ fs, d = .int x := by
  obtain ⟨x, hx, rfl⟩ := List.mem_map.mp h
  exact ⟨x, hx, rfl⟩
theorem small_lt {n : Nat} (h : n < 1000000) : n < sizeLine := Nat.lt_of_lt_of_le h (by decide)
theorem pow900 {x : Int} (h : x.natAbs < 2 ^ 100) : x.natAbs < 2 ^ 900 := pow_up (by decide) h
theorem pure__law_numbers : ∀ as QD, sp__law_numbers as QD → as.length = 1 → b__law_numbers (En QD) (as ++ List.replicate 6 .un) := by
  rintro _ QD ⟨p, g, n, rfl, hg, hq⟩ _
  simp [b__law_numbers, q_pickL, q_rand, -Prod.exists, -List.mem_cons]
  refine ⟨by decide, by decide, n + 11, hg, fun d g1 hd hg1 => ?_⟩
  obtain ⟨B, rfl, hB1, hB2⟩ : ∃ B : Int, d = .int B ∧ 3 ≤ B ∧ B < 1000000000000 := by
    simp at hd
    rcases hd with rfl | rfl | rfl | rfl <;> exact ⟨_, rfl, by decide, by decide⟩
  have lgB : (2 * B + 1).natAbs.log2 < 3000 := by
    have : (2 * B + 1).natAbs < 2 ^ 3000 := Nat.lt_of_lt_of_le (show _ < 2 ^ 60 by omega) (Nat.pow_le_pow_right (by decide) (by decide))
    exact (Nat.log2_lt (by omega)).mpr this
  refine lcW_inv (fun i ρ acc => ∃ (g' : List Dat) (qs : List (Int × Int)), ρ = [.io p g', .sh (.int B), .un, .un, .un, .un, .un] ∧ gOk (n + 1 + 2 * (5 - i)) g' ∧ acc = qs.map pairD ∧ qs.length = i ∧ ∀ q ∈ qs, bigP q) _ 0 _ _ ⟨g1, [], rfl, hg1, rfl, rfl, by simp⟩ ?_ ?_
  · rintro i d ρ acc W he ⟨g', qs, rfl, hg', rfl, hl, hb⟩ hW
    obtain ⟨rfl, hi⟩ := rgD_mem he
    simp [b__law_numbers_g1, b__law_numbers_t2, b__law_numbers_e3, q_rand, -Prod.exists]
    refine ⟨mulOk_two _, by omega, lgB, n + 1 + 2 * (5 - (i + 1)) + 1, hg'.le (by omega), fun r1 g2 h1 h2 hg2 => ⟨mulOk_two _, by omega, lgB, n + 1 + 2 * (5 - (i + 1)), hg2, fun r2 g3 h3 h4 hg3 => ⟨small_lt (by omega), ?_⟩⟩⟩
    refine hW _ _ ⟨g3, qs ++ [(r1 - B, r2 - B)], rfl, by simpa using hg3, by simp [pairD], by simp [hl], ?_⟩
    intro q hq
    rcases List.mem_append.mp hq with h | h
    · exact hb q h
    · obtain rfl : q = (r1 - B, r2 - B) := by simpa using h
      exact ⟨pow900 (show (r1 - B).natAbs < 2 ^ 100 by omega), pow900 (show (r2 - B).natAbs < 2 ^ 100 by omega)⟩
  · rintro ρ acc ⟨g2, qs, rfl, hg2, rfl, hl, hb⟩
    rw [rgD_len] at hg2 hl
    simp [-Prod.exists]
    refine forW_inv (fun i ρ => ∃ (fs : List Int) (x : Sl), ρ = [.io p g2, .sh (.int B), .ol (qs.map pairD), .ol (fs.map .int), x, .un, .un] ∧ notIo (some x) ∧ fs.length = i + 2 ∧ ∀ f ∈ fs, f.natAbs ≤ 2 ^ i) _ 0 _ ⟨[1, 1], .un, rfl, trivial, rfl, by decide⟩ ?_ ?_
    · rintro i d ρ W he ⟨fs, x, rfl, hx, hfl, hf⟩ hW
      obtain ⟨rfl, hi⟩ := rgD_mem he
      simp [b__law_numbers_F4, hx, -Prod.exists]
      obtain ⟨d1, m1, e1⟩ := atI_neg (xs := fs.map PyData.int) (i := -1) (by simp; omega) (by decide)
      obtain ⟨d2, m2, e2⟩ := atI_neg (xs := fs.map PyData.int) (i := -2) (by simp; omega) (by decide)
      obtain ⟨f1, hf1, rfl⟩ := ints_atI (i := 0) m1
      obtain ⟨f2, hf2, rfl⟩ := ints_atI (i := 0) m2
      rw [e1, e2]
      simp [-Prod.exists]
      refine ⟨small_lt (by omega), ?_⟩
      refine hW _ ⟨fs ++ [f1 + f2], .sh (.int (0 + i)), by simp, trivial, by simp [hfl], ?_⟩
      intro f hf'
      rw [Nat.zero_add, Nat.pow_succ]
      rcases List.mem_append.mp hf' with h | h
      · have := hf f h; rw [Nat.zero_add] at this; omega
      · obtain rfl : f = f1 + f2 := by simpa using h
        have a := hf f1 hf1
        have b := hf f2 hf2
        rw [Nat.zero_add] at a b
        omega
    · rintro ρ ⟨fs, x, rfl, hx, hfl, hf⟩
      rw [rgD_len] at hfl hf
      simp [q_rand, q_ios6 hx, -Prod.exists]
      refine ⟨by decide, n, by simpa using hg2, fun r g3 h1 h2 hg3 => ?_⟩
      obtain ⟨d1, m1, e1⟩ := atI_some (xs := fs.map PyData.int) (i := 2 + r) (by omega) (by simp; omega)
      obtain ⟨d2, m2, e2⟩ := atI_some (xs := fs.map PyData.int) (i := 2 + r + 1) (by omega) (by simp; omega)
      obtain ⟨f1, hf1, rfl⟩ := ints_atI (i := 0) m1
      obtain ⟨f2, hf2, rfl⟩ := ints_atI (i := 0) m2
      rw [e1, e2]
      obtain ⟨q0, qr, rfl⟩ : ∃ q0 qr, qs = q0 :: qr := by
        cases qs with
        | nil => simp at hl
        | cons a b => exact ⟨a, b, rfl⟩
      simp [-Prod.exists]
      have b1 : f1.natAbs < 2 ^ 100 := Nat.lt_of_le_of_lt (hf f1 hf1) (by decide)
      have b2 : f2.natAbs < 2 ^ 100 := Nat.lt_of_le_of_lt (hf f2 hf2) (by decide)
      have ql : qr.length = 4 := by simpa using hl
      refine ⟨Nat.le_of_lt (small_lt (by omega)), ?_⟩
      have fin := hq (q0 :: (qr ++ [(-f1, f2), (-f1 + 1, f2), (f1, -f2), (0, 0), (1, 0), (0, 1), (1, -1), q0])) g3 (by simp) (by simp; omega) ?_ hg3
      · simpa [pairD] using fin
      · intro y hy
        rcases List.mem_cons.mp hy with h | h
        · rw [h]; exact hb q0 List.mem_cons_self
        · rcases List.mem_append.mp h with h | h
          · exact hb y (List.mem_cons_of_mem _ h)
          · simp only [List.mem_cons, List.not_mem_nil, or_false] at h
            rcases h with h | h | h | h | h | h | h | h
            · rw [h]; exact ⟨pow900 (by show (-f1).natAbs < _; omega), pow900 b2⟩
            · rw [h]; exact ⟨pow900 (by show (-f1 + 1).natAbs < _; have := hf f1 hf1; omega), pow900 b2⟩
            · rw [h]; exact ⟨pow900 b1, pow900 (by show (-f2).natAbs < _; omega)⟩
            · rw [h]; exact ⟨pow900 (by decide), pow900 (by decide)⟩
            · rw [h]; exact ⟨pow900 (by decide), pow900 (by decide)⟩
            · rw [h]; exact ⟨pow900 (by decide), pow900 (by decide)⟩
            · rw [h]; exact ⟨pow900 (by decide), pow900 (by decide)⟩
            · rw [h]; exact hb q0 List.mem_cons_self

@[simp] theorem lessP_self (p : Int × Int) : lessP p p = false := by simp [lessP, above]
def chkP : Nat → Int → Int → Bool
  | 0, _, _ => true
  | n + 1, x, y => above x y && above (x - y) (y - (x - y)) && !above (y - x) ((x - y) - y) && chkP n y (x - y)
theorem chk_all : chkP 401 1 0 = true := by decide +kernel
theorem chk_at : ∀ (n : Nat) (x y : Int) (m : Nat), chkP n x y = true → m < n → above (pwGo m x y).1 (pwGo m x y).2 = true ∧
    above ((pwGo m x y).1 - (pwGo m x y).2) ((pwGo m x y).2 - ((pwGo m x y).1 - (pwGo m x y).2)) = true ∧ above ((pwGo m x y).2 - (pwGo m x y).1) (((pwGo m x y).1 - (pwGo m x y).2) - (pwGo m x y).2) = false
  | 0, _, _, _, _, h => by omega
  | n + 1, x, y, 0, h, _ => by
    simp only [chkP, Bool.and_eq_true, Bool.not_eq_true'] at h
    exact ⟨h.1.1.1, h.1.1.2, h.1.2⟩
  | n + 1, x, y, m + 1, h, hm => by
    simp only [chkP, Bool.and_eq_true] at h
    exact chk_at n y (x - y) m h.2 (by omega)
theorem pw_pos {m : Nat} (h : m ≤ 400) : lessP (0, 0) (pw m) = true ∧ lessP (pw (m + 1)) (pw m) = true ∧ lessP (pw m) (pw (m + 1)) = false := by
  obtain ⟨h1, h2, h3⟩ := chk_at 401 1 0 m chk_all (by omega)
  unfold lessP
  rw [pw_succ]
  refine ⟨?_, h2, h3⟩
  show above ((pw m).1 - 0) ((pw m).2 - 0) = true
  rw [Int.sub_zero, Int.sub_zero]
  exact h1
theorem pw_bigP {m : Nat} (h : m ≤ 800) : bigP (pw m) := by
  obtain ⟨h1, h2⟩ := pw_big m
  have e : (2 : Nat) ^ m < 2 ^ 900 := Nat.pow_lt_pow_right (by decide) (by omega)
  exact ⟨Nat.lt_of_le_of_lt h1 e, Nat.lt_of_le_of_lt h2 e⟩
theorem log_pw {m : Nat} {i : Int} (hm : m ≤ 800) (h : i.natAbs ≤ 2 ^ m) : i.natAbs.log2 < 1920 := by
  by_cases z : i.natAbs = 0
  · rw [z]; decide
  · rw [Nat.log2_lt z]
    exact Nat.lt_of_le_of_lt h (Nat.pow_lt_pow_right (by decide) (by omega))
theorem rp_bools {a b c : Bool} : ReprOk (.list [.bool a, .bool b, .bool c]) := reprOk (by simp [repD, repDs]) (by simp [PyData.depth, PyData.depthAll]) (by simp [szD, szDs])
theorem rp_bools2 {a b : Bool} : ReprOk (.list [.bool a, .bool b]) := reprOk (by simp [repD, repDs]) (by simp [PyData.depth, PyData.depthAll]) (by simp [szD, szDs])
theorem rp_pair {p : Int × Int} (h1 : p.1.natAbs.log2 < 1920) (h2 : p.2.natAbs.log2 < 1920) : ReprOk (pairD p) := reprOk (by simp [pairD, repD, repDs, h1, h2]) (by simp [pairD, PyData.depth, PyData.depthAll]) (by simp [pairD, szD, szDs])
theorem rp_pair2 {p q : Int × Int} (h1 : p.1.natAbs.log2 < 1920) (h2 : p.2.natAbs.log2 < 1920) (h3 : q.1.natAbs.log2 < 1920) (h4 : q.2.natAbs.log2 < 1920) : ReprOk (.list [pairD p, pairD q]) :=
  reprOk (by simp [pairD, repD, repDs, h1, h2, h3, h4]) (by simp [pairD, PyData.depth, PyData.depthAll]) (by simp [pairD, szD, szDs])
theorem zero_bigP : bigP (0, 0) := ⟨by decide +kernel, by decide +kernel⟩
theorem gsel2 {x y : Dat} : gsel 0 2 [1, 0] [] [x, y] = [y, x] := rfl
theorem gsel1 {x : Dat} : gsel 0 1 [0] [] [x] = [x] := rfl
theorem pure__law_golden_right : ∀ as QD, sp__law_golden_right as QD → as.length = 1 → b__law_golden_right (En QD) (as ++ List.replicate 8 .un) := by
  rintro _ QD ⟨p, g, n, rfl, hg, hq⟩ _
  simp [b__law_golden_right, sp__law_numbers, -Prod.exists, -Prod.forall]
  refine ⟨n + 188, by simpa using hg.le (by omega), fun ps g1 hne hlen hb hg1 => ?_⟩
  refine forW_inv (fun i ρ => ∃ (g' : List Dat) (x y z : Sl), ρ = [.io p g', .sh (.list (ps.map pairD)), x, y, z, .un, .un, .un, .un] ∧ gOk (n + 188 - i) g' ∧ notIo (some x) ∧ notIo (some y) ∧ notIo (some z)) _ 0 _ ⟨g1, .un, .un, .un, rfl, hg1, trivial, trivial, trivial⟩ ?_ ?_
  · rintro i d ρ W he ⟨g', x, y, z, rfl, hg', hx, hy, hz⟩ hW
    rw [List.getElem?_map] at he
    obtain ⟨one, ho, rfl⟩ := Option.map_eq_some_iff.mp he
    have hil : i < ps.length := (List.getElem?_eq_some_iff.mp ho).1
    have b1 := hb one (List.mem_of_getElem? ho)
    simp [b__law_golden_right_F1, q_pickL, hx, hy, hz, sp__law_less, sp_is_golden_less, gsel2, -Prod.exists, -Prod.forall, -List.mem_map]
    refine ⟨hne, by omega, n + 188 - (i + 1), hg'.le (by omega), fun d g2 hd hg2 => ?_⟩
    obtain ⟨other, ho2, rfl⟩ := List.mem_map.mp hd
    have b2 := hb other ho2
    simp [b1, b2, rp_bools, -Prod.exists, -Prod.forall]
    exact hW _ ⟨g2, .sh (pairD one), .sh (pairD other), .sh (.bool (lessP one other)), rfl, by simpa using hg2, trivial, trivial, trivial⟩
  · rintro ρ ⟨g2, x, y, z, rfl, hg2, hx, hy, hz⟩
    rw [List.length_map, Nat.zero_add] at hg2
    simp
    refine forW_inv (fun i ρ => ∃ (g' : List Dat) (u v w t : Sl), ρ = [.io p g', .sh (.list (ps.map pairD)), x, y, z, u, v, w, t] ∧ gOk (n + 18 - 3 * i) g' ∧ notIo (some u) ∧ notIo (some v) ∧ notIo (some w) ∧ notIo (some t)) _ 0 _ ⟨g2, .un, .un, .un, .un, rfl, hg2.le (by omega), trivial, trivial, trivial, trivial⟩ ?_ ?_
    · rintro i d ρ W he ⟨g', u, v, w, t, rfl, hg', hu, hv, hw, ht⟩ hW
      obtain ⟨rfl, hi⟩ := rgD_mem he
      simp (config := { maxSteps := 2000000 }) [b__law_golden_right_F2, q_pickL, q_rand, hu, hv, hw, ht, -Prod.exists, -Prod.forall, -List.mem_cons]
      refine ⟨by decide, n + 18 - 3 * (i + 1) + 2, hg'.le (by omega), fun r1 g3 h1 h2 hg3 => ⟨by decide, n + 18 - 3 * (i + 1) + 1, hg3, fun r2 g4 h3 h4 hg4 => ⟨n + 18 - 3 * (i + 1), hg4, fun d g5 hd hg5 => ?_⟩⟩⟩
      obtain ⟨m, rfl, hm⟩ : ∃ m : Nat, d = .int m ∧ m ≤ 400 := by
        simp at hd
        rcases hd with rfl | rfl | rfl | rfl | rfl
        · exact ⟨400, rfl, by omega⟩
        · exact ⟨399, rfl, by omega⟩
        · exact ⟨398, rfl, by omega⟩
        · exact ⟨r1.toNat, by congr 1; omega, by omega⟩
        · exact ⟨r2.toNat, by congr 1; omega, by omega⟩
      obtain ⟨p1, p2, p3⟩ := pw_pos hm
      obtain ⟨q1, q2⟩ := pw_big m
      obtain ⟨q3, q4⟩ := pw_big (m + 1)
      have l1 := log_pw (by omega) q1
      have l2 := log_pw (by omega) q2
      have l3 := log_pw (by omega) q3
      have l4 := log_pw (by omega) q4
      have rp1 := rp_pair2 l1 l2 l1 l2
      have rp2 := rp_pair l3 l4
      have b1 := pw_bigP (show m ≤ 800 by omega)
      have b2 := pw_bigP (show m + 1 ≤ 800 by omega)
      have c1 : (m : Int) ≤ 1000 := by omega
      have c2 : (0 : Int) ≤ (m : Int) + 1 := by omega
      have c3 : (m : Int) + 1 ≤ 1000 := by omega
      have c4 : ((m : Int) + 1).toNat = m + 1 := by omega
      by_cases hm4 : m < 400
      · have c5 : (m : Int) < 400 := by omega
        simp (config := { maxSteps := 2000000 }) [hu, hv, hw, ht, sp__law_power, sp_golden_power, sp_power_of_golden, sp_is_golden_less, gsel1, c1, c2, c3, c4, c5, rp1, rp2, p1, p2, p3, b1, b2, zero_bigP, -Prod.exists, -Prod.forall]
        exact hW _ ⟨g5, .sh (.int i), .sh (.int m), .sh (pairD (pw m)), .sh (pairD (pw (m + 1))), rfl, by simpa using hg5, trivial, trivial, trivial, trivial⟩
      · have c5 : ¬ (m : Int) < 400 := by omega
        simp (config := { maxSteps := 2000000 }) [hu, hv, hw, ht, sp__law_power, sp_golden_power, sp_power_of_golden, sp_is_golden_less, gsel1, c1, c2, c3, c4, c5, rp1, rp2, p1, p2, p3, b1, b2, zero_bigP, -Prod.exists, -Prod.forall]
        exact hW _ ⟨g5, .sh (.int i), .sh (.int m), .sh (pairD (pw m)), .sh (pairD (pw (m + 1))), rfl, by simpa using hg5, trivial, trivial, trivial, trivial⟩
    · rintro ρ ⟨g3, u, v, w, t, rfl, hg3, hu, hv, hw, ht⟩
      rw [rgD_len] at hg3
      simp [q_ios6 hx, q_ios6 hy, q_ios6 hz, q_ios6 hu, q_ios6 hv, q_ios6 hw, q_ios6 ht]
      exact hq _ (by simpa using hg3)

theorem eqv_pair (q : Int × Int) (a b : Int) : PyData.eqv (pairD q) (.tuple [.int a, .int b]) = decide (q = (a, b)) := by
  simp only [pairD, PyData.eqv, PyData.eqvAll, Bool.and_true]
  rw [Bool.eq_iff_iff]
  simp [Prod.ext_iff]
theorem any_pair (ps : List (Int × Int)) (a b : Int) : ((ps.map pairD).any fun y => PyData.eqv y (.tuple [.int a, .int b])) = decide ((a, b) ∈ ps) := by
  rw [Bool.eq_iff_iff]
  simp only [List.any_map, List.any_eq_true, Function.comp, eqv_pair, decide_eq_true_eq]
  constructor
  · rintro ⟨q, h, rfl⟩; exact h
  · intro h; exact ⟨_, h, rfl⟩
theorem pairs_lay : ∀ ps : List (Int × Int), PyData.canLayAll0 (ps.map pairD) = true ∧ PyData.depthAll (ps.map pairD) ≤ 1
  | [] => by simp [PyData.canLayAll0, PyData.depthAll]
  | p :: ps => by
    obtain ⟨h1, h2⟩ := pairs_lay ps
    simp [PyData.canLayAll0, PyData.depthAll, pairD, PyData.canLay0, PyData.depth, h1, h2]
@[simp] theorem q_notInP {k : Sl → Prop} (a b : Int) (ps : List (Int × Int)) : fNotIn (.tuple [.int a, .int b]) (.list (ps.map pairD)) k = k (.sh (.bool (!decide ((a, b) ∈ ps)))) := by
  obtain ⟨h1, h2⟩ := pairs_lay ps
  unfold fNotIn
  have ok : InOk (.tuple [.int a, .int b]) (.list (ps.map pairD)) := by
    refine ⟨by simp [PyData.canLay0, PyData.canLayAll0], h1, ?_⟩
    omega
  simp only [ok, true_and, inD, Option.some.injEq, exists_eq_left', any_pair]
theorem q_sortP {k : Sl → Prop} {ps : List (Int × Int)} (h : ∀ qs : List (Int × Int), qs.Perm ps → qs.Pairwise lexP → k (.ol (qs.map pairD))) : fSorted [.list (ps.map pairD)] k := .inr ⟨ps, pairsD_map ps, h⟩
theorem lt_of_lex {qs : List (Int × Int)} (hn : qs.Nodup) (hw : qs.Pairwise lexP) : qs.Pairwise ltP := by
  refine (hw.and hn).imp ?_
  rintro p q ⟨h, hne⟩
  unfold lexP at h
  unfold ltP
  have : ¬ (p.1 = q.1 ∧ p.2 = q.2) := fun z => hne (Prod.ext z.1 z.2)
  omega
theorem log_big {i : Int} (h : i.natAbs < 2 ^ 900) : i.natAbs.log2 < 1920 := by
  by_cases z : i.natAbs = 0
  · rw [z]; decide
  · rw [Nat.log2_lt z]
    exact pow_up (by decide) h
theorem rp_pairs {qs : List (Int × Int)} (hl : qs.length ≤ 100) (hb : ∀ q ∈ qs, bigP q) : ReprOk (.list (qs.map pairD)) := by
  have h1 : ∀ qs : List (Int × Int), (∀ q ∈ qs, bigP q) → repDs (qs.map pairD) = true ∧ szDs (qs.map pairD) ≤ qs.length * 2000 := by
    intro qs
    induction qs with
    | nil => intro _; exact ⟨rfl, by simp [szDs]⟩
    | cons q qs ih =>
      intro h
      obtain ⟨i1, i2⟩ := ih fun x hx => h x (List.mem_cons_of_mem _ hx)
      obtain ⟨b1, b2⟩ := h q List.mem_cons_self
      have l1 := log_big b1
      have l2 := log_big b2
      constructor
      · simp [repDs, repD, pairD, l1, l2] at i1 ⊢
        exact i1
      · simp [szDs, szD, pairD] at i2 ⊢
        omega
  obtain ⟨a, b⟩ := h1 qs hb
  obtain ⟨_, d⟩ := pairs_lay qs
  refine reprOk (by simpa [repD] using a) (by simp only [PyData.depth]; omega) ?_
  simp only [szD]
  omega
theorem wt_bound {g : Int × Int} : ∀ (ps : List (Int × Int)) (w : Int × Int), (∀ p ∈ ps, dist p g ≤ 200) →
    ((ps.foldl (fun w p => addP w (pw (dist p g))) w).1.natAbs ≤ w.1.natAbs + ps.length * 2 ^ 200) ∧ ((ps.foldl (fun w p => addP w (pw (dist p g))) w).2.natAbs ≤ w.2.natAbs + ps.length * 2 ^ 200)
  | [], w, _ => by simp
  | p :: ps, w, h => by
    obtain ⟨h1, h2⟩ := wt_bound ps (addP w (pw (dist p g))) fun x hx => h x (List.mem_cons_of_mem _ hx)
    obtain ⟨q1, q2⟩ := pw_big (dist p g)
    have e : (2 : Nat) ^ (dist p g) ≤ 2 ^ 200 := Nat.pow_le_pow_right (by decide) (h p List.mem_cons_self)
    rw [List.foldl_cons, List.length_cons, Nat.add_mul]
    simp only [addP] at h1 h2 ⊢
    omega
theorem wt_bigP {g : Int × Int} {ps : List (Int × Int)} (hl : ps.length ≤ 1000) (h : ∀ p ∈ ps, dist p g ≤ 200) : bigP (wt g ps) := by
  obtain ⟨h1, h2⟩ := wt_bound (g := g) ps (0, 0) h
  have e : 1000 * 2 ^ 200 < 2 ^ 900 := by decide +kernel
  have e2 : ps.length * 2 ^ 200 ≤ 1000 * 2 ^ 200 := Nat.mul_le_mul_right _ hl
  unfold wt
  simp only [Int.natAbs_zero, Nat.zero_add] at h1 h2
  exact ⟨Nat.lt_of_le_of_lt (Nat.le_trans h1 e2) e, Nat.lt_of_le_of_lt (Nat.le_trans h2 e2) e⟩
def farP (r : Int) (i : Nat) : Int × Int := (r + (i : Int) / 12, 20 + (i : Int) % 12)
def farL (r : Int) : List (Int × Int) := (List.range 48).map (farP r)
def outB (g : Int × Int) (ps : List (Int × Int)) : Bool := above (1 - (wt g ps).1) (0 - (wt g ps).2)
theorem far_out : ((List.range 50).all fun k => outB (0, 25) (farL (5 + (k : Int)))) = true := by decide +kernel
theorem far_at {r : Int} (h0 : 0 ≤ r) (h : r < 50) : outB (0, 25) (farL (5 + r)) = true := by
  obtain ⟨k, rfl⟩ := Int.eq_ofNat_of_zero_le h0
  exact List.all_eq_true.mp far_out k (List.mem_range.mpr (by omega))
theorem far_holes {r : Int} (h0 : 0 ≤ r) : holesOk (farL (5 + r)) := by
  refine ⟨by simp [farL], ?_, ?_⟩
  · intro p hp
    obtain ⟨i, _, rfl⟩ := List.mem_map.mp hp
    constructor <;> simp only [farP] <;> omega
  · refine List.pairwise_map.mpr (List.pairwise_lt_range.imp ?_)
    intro i j h
    simp only [ltP, farP]
    omega
theorem far_near {r : Int} (h0 : 0 ≤ r) (h : r < 50) : ∀ p ∈ farL (5 + r), dist p (0, 25) ≤ 200 := by
  intro p hp
  obtain ⟨i, hi, rfl⟩ := List.mem_map.mp hp
  have := List.mem_range.mp hi
  have e : ∀ x c : Int, -c ≤ x → x ≤ c → absI x ≤ c := by
    intro x c h1 h2
    unfold absI
    split <;> omega
  have a := e ((farP (5 + r) i).1 - 0) 60 (by simp only [farP]; omega) (by simp only [farP]; omega)
  have b := e ((farP (5 + r) i).2 - 25) 25 (by simp only [farP]; omega) (by simp only [farP]; omega)
  unfold dist
  simp only at a b ⊢
  omega
theorem dist_int (p g : Int × Int) : absI (p.1 - g.1) + absI (p.2 - g.2) = ((dist p g : Nat) : Int) := by
  unfold dist absI
  split <;> split <;> omega
theorem wt_take {g p : Int × Int} {ps : List (Int × Int)} {i : Nat} (h : ps[i]? = some p) : wt g (ps.take (i + 1)) = addP (wt g (ps.take i)) (pw (dist p g)) := by
  rw [List.take_add_one, h]
  unfold wt
  rw [List.foldl_append]
  rfl
def inBox (w : Int) (p : Int × Int) : Prop := 0 ≤ p.1 ∧ p.1 < w ∧ 0 ≤ p.2 ∧ p.2 < w
theorem box_dist {p g : Int × Int} {w : Int} (hw : w ≤ 60) (hp : inBox w p) (hg : inBox w g) : dist p g ≤ 200 := by
  obtain ⟨a, b, c, d⟩ := hp
  obtain ⟨a', b', c', d'⟩ := hg
  unfold dist absI
  split <;> split <;> omega

theorem pure__law_weights_right : ∀ as QD, sp__law_weights_right as QD → as.length = 1 → b__law_weights_right (En QD) (as ++ List.replicate 14 .un) := by
  rintro _ QD ⟨p, g, n, rfl, hg, hq⟩ _
  simp (config := { maxSteps := 2000000 }) [b__law_weights_right, q_pickL, q_rand, -Prod.exists, -Prod.forall, -List.mem_cons]
  refine ⟨n + 199, hg, fun d g1 hd hg1 => ?_⟩
  obtain ⟨w, rfl, hw1, hw2⟩ : ∃ w : Int, d = .int w ∧ 4 ≤ w ∧ w ≤ 60 := by
    simp at hd
    rcases hd with rfl | rfl | rfl <;> exact ⟨_, rfl, by decide, by decide⟩
  have lw : w.natAbs.log2 < 3000 := by
    have : w.natAbs < 2 ^ 3000 := Nat.lt_of_lt_of_le (show _ < 2 ^ 60 by omega) (Nat.pow_le_pow_right (by decide) (by decide))
    exact (Nat.log2_lt (by omega)).mpr this
  simp (config := { maxSteps := 2000000 }) [q_rand, lw, show 0 < w by omega, -Prod.exists, -Prod.forall, -List.mem_cons]
  refine ⟨n + 198, hg1, fun r1 g2 h1 h2 hg2 => ⟨n + 197, hg2, fun r2 g3 h3 h4 hg3 => ⟨n + 196, hg3, fun d g4 hd hg4 => ?_⟩⟩⟩
  obtain ⟨l, rfl, hl1, hl2⟩ : ∃ l : Int, d = .int l ∧ 0 ≤ l ∧ l ≤ 5 := by
    simp at hd
    rcases hd with rfl | rfl | rfl <;> exact ⟨_, rfl, by decide, by decide⟩
  refine ⟨by decide, n + 195, hg4, fun r3 g5 h5 h6 hg5 => ⟨by omega, ?_⟩⟩
  refine forW_inv (fun i ρ => ∃ (g' : List Dat) (cs : List (Int × Int)) (c x y : Sl), ρ = [.io p g', .sh (.int w), c, .sh (pairD (r1, r2)), .sh (.int l), x, y, .un, .un, .un, .un, .un, .un, .un, .un] ∧ (c = .sh (.list (cs.map pairD)) ∨ c = .ol (cs.map pairD)) ∧
    gOk (n + 1 + 2 * (61 - i)) g' ∧ cs.Nodup ∧ (∀ q ∈ cs, inBox w q) ∧ cs.length ≤ i ∧ notIo (some x) ∧ notIo (some y)) _ 0 _ ⟨g5, [], .sh (.list []), .un, .un, rfl, .inl rfl, hg5.le (by omega), List.nodup_nil, by simp, by simp, trivial, trivial⟩ ?_ ?_
  · rintro i d ρ W he ⟨g', cs, c, x, y, rfl, hc, hg', hnd, hb, hlen, hx, hy⟩ hW
    obtain ⟨rfl, hi⟩ := rgD_mem he
    have hi2 : i < 61 := by omega
    have go : ∀ (B : Ev → Prop) c, (c = .sh (.list (cs.map pairD)) ∨ c = .ol (cs.map pairD)) → b__law_weights_right_F1 { nx := W, rt := fun s ρ => QD s (iosOf ρ), bk := B, ct := W } [.io p g', .sh (.int w), c, .sh (pairD (r1, r2)), .sh (.int l), .sh (.int (0 + i)), y, .un, .un, .un, .un, .un, .un, .un, .un] := by
      intro B c hc
      rcases hc with rfl | rfl <;> (
        simp (config := { maxSteps := 2000000 }) [b__law_weights_right_F1, q_rand, lw, show 0 < w by omega, hy, pairD, -Prod.exists, -Prod.forall, -List.mem_cons]
        refine ⟨n + 1 + 2 * (61 - (i + 1)) + 1, hg'.le (by omega), fun x1 ga ha1 ha2 hga => ⟨n + 1 + 2 * (61 - (i + 1)), hga, fun x2 gb hb1 hb2 hgb => ?_⟩⟩
        have sz : cs.length ≤ sizeLine := Nat.le_of_lt (small_lt (by omega))
        have sz1 : cs.length + 1 ≤ sizeLine := Nat.le_of_lt (small_lt (by omega))
        have fin : ∀ cs' : List (Int × Int), cs'.Nodup → (∀ q ∈ cs', inBox w q) → cs'.length ≤ i + 1 → W [.io p gb, .sh (.int w), .ol (cs'.map pairD), .sh (.tuple [.int r1, .int r2]), .sh (.int l), .sh (.int i), .sh (.tuple [.int x1, .int x2]), .un, .un, .un, .un, .un, .un, .un, .un] :=
          fun cs' a b c => hW _ ⟨gb, cs', .ol (cs'.map pairD), .sh (.int i), .sh (.tuple [.int x1, .int x2]), rfl, .inr rfl, by simpa using hgb, a, b, by omega, trivial, trivial⟩
        by_cases hm : (x1, x2) ∈ cs
        · exact .inl ⟨hm, sz, fin cs hnd hb (by omega)⟩
        · refine .inr ⟨hm, ?_⟩
          by_cases hd : (if x1 - r1 < 0 then -(x1 - r1) else x1 - r1) < (if 3 < l then 3 else l)
          · exact .inl ⟨hd, sz, fin cs hnd hb (by omega)⟩
          · refine .inr ⟨Int.not_lt.mp hd, sz1, ?_⟩
            have last := fin (cs ++ [(x1, x2)]) (List.nodup_append.mpr ⟨hnd, by simp, by intro a ha b hb e; subst e; rw [List.mem_singleton.mp hb] at ha; exact hm ha⟩) (by
              intro q hq
              rcases List.mem_append.mp hq with h | h
              · exact hb q h
              · rw [List.mem_singleton.mp h]; exact ⟨ha1, ha2, hb1, hb2⟩) (by simp; omega)
            simpa [pairD] using last)
    exact ⟨hx, go _ c hc⟩
  · rintro ρ ⟨g6, cs, c, x, y, rfl, hc, hg6, hnd, hb, hlen, hx, hy⟩
    rw [rgD_len] at hg6 hlen
    have gb : inBox w (r1, r2) := ⟨h1, h2, h3, h4⟩
    rcases hc with rfl | rfl <;> (
      simp (config := { maxSteps := 2000000 }) only [q_sSeq, q_sSet, q_dCall, q_aCons, q_oVar, q_aNil]
      simp (config := { maxSteps := 2000000 }) [-Prod.exists, -Prod.forall, -List.mem_cons]
      refine q_sortP fun qs hp hs => ?_
      have qb : ∀ q ∈ qs, inBox w q := fun q hq => hb q (hp.mem_iff.mp hq)
      have ql : qs.length ≤ 61 := by rw [hp.length_eq]; omega
      have qn : qs.Nodup := hp.nodup_iff.mpr hnd
      have hol : holesOk qs := ⟨by omega, fun q hq => ⟨(qb q hq).1, (qb q hq).2.2.1⟩, lt_of_lex qn hs⟩
      have qd : ∀ q ∈ qs, dist q (r1, r2) ≤ 200 := fun q hq => box_dist hw2 (qb q hq) gb
      have qB : ∀ q ∈ qs, bigP q := fun q hq => by
        obtain ⟨a, b, c, d⟩ := qb q hq
        exact ⟨pow900 (by omega), pow900 (by omega)⟩
      have rq := rp_pairs (by omega) qB
      have wB := wt_bigP (g := (r1, r2)) (ps := qs) (by omega) qd
      simp (config := { maxSteps := 2000000 }) [rq, -Prod.exists, -Prod.forall, -List.mem_cons]
      refine forW_inv (fun i ρ => ∃ u v : Sl, ρ = [.io p g6, .sh (.int w), _, .sh (pairD (r1, r2)), .sh (.int l), x, u, .sh (.list (qs.map pairD)), .sh (.str (PyData.list (qs.map pairD)).shown), .sh (pairD (wt (r1, r2) (qs.take i))), v, .un, .un, .un, .un] ∧ notIo (some u) ∧ notIo (some v)) _ 0 _ ⟨y, .un, rfl, hy, trivial⟩ ?_ ?_
      · rintro i d ρ W he ⟨u, v, rfl, hu, hv⟩ hW
        rw [List.getElem?_map] at he
        obtain ⟨q, hq2, rfl⟩ := Option.map_eq_some_iff.mp he
        have hqm := List.mem_of_getElem? hq2
        have hd2 := qd q hqm
        simp (config := { maxSteps := 2000000 }) [b__law_weights_right_F2, hu, hv, pairD, sp__law_power, sp_power_of_golden, -Prod.exists, -Prod.forall]
        have ea : ∀ x : Int, (if x < 0 then -x else x) = absI x := fun _ => rfl
        simp only [ea]
        rw [dist_int q (r1, r2), Int.toNat_natCast]
        refine ⟨by omega, by omega, ?_⟩
        refine hW _ ⟨.sh (pairD q), .sh (pairD (pw (dist q (r1, r2)))), ?_, trivial, trivial⟩
        rw [Nat.zero_add, wt_take hq2]
        rfl
      · rintro ρ ⟨u, v, rfl, hu, hv⟩
        have e1 : qs.take (0 + (qs.map pairD).length) = qs := List.take_of_length_le (by simp)
        rw [e1]
        have rp2 := rp_pair2 (log_big wB.1) (log_big wB.2) (log_big wB.1) (log_big wB.2)
        have qd2 : nearP (r1, r2) qs := fun q hq => Nat.le_trans (qd q hq) (by decide)
        have ng : nnP (r1, r2) := ⟨h1, h3⟩
        have oB : bigP (1, 0) := ⟨by decide +kernel, by decide +kernel⟩
        have hless : lessP (wt (r1, r2) qs) (1, 0) = above (1 - (wt (r1, r2) qs).1) (-(wt (r1, r2) qs).2) := by
          unfold lessP
          simp
        simp (config := { maxSteps := 2000000 }) [hless, hx, hy, hu, hv, sp__law_less, sp_is_golden_less, sp_golden_weight, sp_is_out_of_reach, gsel2, rp2, rq, rp_bools2, qd2, ng, oB, wB, hol, q_rand, -Prod.exists, -Prod.forall]
        refine ⟨by decide, n, hg6.le (by omega), fun r ga ha1 ha2 hga => ?_⟩
        refine lcW_inv (fun i ρ acc => ρ = [.io p ga, .sh (.int w), _, .sh (pairD (r1, r2)), .sh (.int l), x, u, .sh (.list (qs.map pairD)), .sh (.str (PyData.list (qs.map pairD)).shown), .sh (pairD (wt (r1, r2) qs)), v,
          .sh (.bool (above (1 - (wt (r1, r2) qs).1) (-(wt (r1, r2) qs).2))), .sh (.int (5 + r)), .un, .un] ∧ acc = ((List.range i).map (farP (5 + r))).map pairD ∧ i ≤ 48) _ 0 _ _ ⟨rfl, rfl, by omega⟩ ?_ ?_
        · rintro i d ρ acc W he ⟨rfl, rfl, hi⟩ hW
          obtain ⟨rfl, hi⟩ := rgD_mem he
          simp (config := { maxSteps := 2000000 }) [b__law_weights_right_g3, b__law_weights_right_t4, b__law_weights_right_e5, -Prod.exists, -Prod.forall]
          refine ⟨by decide, small_lt (by omega), ?_⟩
          refine hW _ _ ⟨rfl, ?_, by omega⟩
          rw [Nat.zero_add, List.range_succ, List.map_append, List.map_append, List.map_map]
          rfl
        · rintro ρ acc ⟨rfl, rfl, hi⟩
          rw [rgD_len]
          have fo := far_at ha1 ha2
          have fh := far_holes (r := r) ha1
          have fn := far_near ha1 ha2
          have fB := wt_bigP (g := (0, 25)) (ps := farL (5 + r)) (by simp [farL]) fn
          have fn2 : nearP (0, 25) (farL (5 + r)) := fun q hq => Nat.le_trans (fn q hq) (by decide)
          have fg : nnP (0, 25) := ⟨by decide, by decide⟩
          have fe : (List.range (0 + 48)).map (farP (5 + r)) = farL (5 + r) := rfl
          rw [fe]
          have fo2 : above (1 - (wt (0, 25) (farL (5 + r))).1) (-(wt (0, 25) (farL (5 + r))).2) = true := by
            have := fo
            unfold outB at this
            simpa using this
          simp (config := { maxSteps := 2000000 }) [fh, fn2, fB, fg, fo2, rq, q_ios6 hx, q_ios6 hu, q_ios6 hv, -Prod.exists, -Prod.forall]
          exact hq _ hga)

theorem pure_law : ∀ as QD, sp_law as QD → as.length = 1 → b_law (En QD) (as ++ List.replicate 4 .un) := by
  rintro _ QD ⟨ns, rfl, hl, hq⟩ _
  simp (config := { maxSteps := 2000000 }) [b_law, -Prod.exists, -Prod.forall]
  refine forW_inv (fun i ρ => ∃ u v : Sl, ρ = [.sh (.list (ns.map .int)), u, v, .un, .un] ∧ notIo (some u) ∧ notIo (some v)) _ 0 _ ⟨.un, .un, rfl, trivial, trivial⟩ ?_ ?_
  · rintro i d ρ W he ⟨u, v, rfl, hu, hv⟩ hW
    obtain ⟨rfl, hi⟩ := rgD_mem he
    simp (config := { maxSteps := 2000000 }) [b_law_F1, sp__law_generator, sp__law_golden_right, sp__law_weights_right, hu, hv, -Prod.exists, -Prod.forall]
    refine ⟨ns, (i : Int), ⟨rfl, rfl⟩, by omega, by omega, fun g hg => ⟨999800, hg, fun g1 hg1 => ⟨999600, hg1, fun g2 hg2 => ?_⟩⟩⟩
    exact hW _ ⟨.sh (.int i), .ol g2, rfl, trivial, trivial⟩
  · rintro ρ ⟨u, v, rfl, hu, hv⟩
    simp (config := { maxSteps := 2000000 }) [sp__law_generator, q_rand, hu, hv, lcW, b_law_g2, b_law_t3, b_law_e4, sp_fewest_soldiers, -Prod.exists, -Prod.forall]
    refine ⟨ns, 4, ⟨rfl, rfl⟩, by decide, by decide, fun g hg => ⟨by decide, by decide, 999999, hg, fun r g1 h1 h2 hg1 => ⟨by decide, by decide, by decide, by decide, by decide, by decide, by omega, by decide, ?_⟩⟩⟩
    rw [if_neg (by omega), if_neg (by omega), if_neg (by omega), if_neg (by omega)]
    have ok : EqOk1 (.list [.int 2, .int 4, .int 8, .int 20, .none, .none, .none]) (.list [.int 2, .int 4, .int 8, .int 20, .none, .none, .none]) := .inr (by simp [EqOk, PyData.canLay0, PyData.canLayAll0, PyData.depth, PyData.depthAll])
    refine ⟨ok, ?_⟩
    simpa [PyData.eqv, PyData.eqvAll, q_ios6 hu] using hq

def topS (i : Nat) : Stmt := PySem.Challenge.pw_lonehall_k13_whole_golden_numbers_exactl.main.body.getD i (.Pass ⟨0, 0, 0, 0⟩)
abbrev s__law_cell : Stmt := topS 28
abbrev N__law_cell : List Str := ["script", "index"]
theorem sc__law_cell : FnScope N__law_cell ["script", "index"] (defScope s__law_cell) := ⟨rfl, rfl, rfl, by decide +kernel, rfl, by decide +kernel, by decide +kernel⟩
abbrev s__law_generator : Stmt := topS 30
abbrev N__law_generator : List Str := ["script", "index", "seed"]
theorem sc__law_generator : FnScope N__law_generator ["script", "index"] (defScope s__law_generator) := ⟨rfl, rfl, rfl, by decide +kernel, rfl, by decide +kernel, by decide +kernel⟩
abbrev s__law_hash : Stmt := topS 29
abbrev N__law_hash : List Str := ["seed", "index", "mixed"]
theorem sc__law_hash : FnScope N__law_hash ["seed", "index"] (defScope s__law_hash) := ⟨rfl, rfl, rfl, by decide +kernel, rfl, by decide +kernel, by decide +kernel⟩
abbrev s__law_random : Stmt := topS 31
abbrev N__law_random : List Str := ["generator", "bound", "drawn", "turn"]
theorem sc__law_random : FnScope N__law_random ["generator", "bound"] (defScope s__law_random) := ⟨rfl, rfl, rfl, by decide +kernel, rfl, by decide +kernel, by decide +kernel⟩
abbrev s_is_whole : Stmt := topS 7
abbrev N_is_whole : List Str := ["value"]
theorem sc_is_whole : FnScope N_is_whole ["value"] (defScope s_is_whole) := ⟨rfl, rfl, rfl, by decide +kernel, rfl, by decide +kernel, by decide +kernel⟩
abbrev s_is_count : Stmt := topS 8
abbrev N_is_count : List Str := ["value"]
theorem sc_is_count : FnScope N_is_count ["value"] (defScope s_is_count) := ⟨rfl, rfl, rfl, by decide +kernel, rfl, by decide +kernel, by decide +kernel⟩
abbrev s_fewest_soldiers : Stmt := topS 26
abbrev N_fewest_soldiers : List Str := ["row"]
theorem sc_fewest_soldiers : FnScope N_fewest_soldiers ["row"] (defScope s_fewest_soldiers) := ⟨rfl, rfl, rfl, by decide +kernel, rfl, by decide +kernel, by decide +kernel⟩
abbrev s__law_pick : Stmt := topS 32
abbrev N__law_pick : List Str := ["generator", "things"]
theorem sc__law_pick : FnScope N__law_pick ["generator", "things"] (defScope s__law_pick) := ⟨rfl, rfl, rfl, by decide +kernel, rfl, by decide +kernel, by decide +kernel⟩
abbrev s__law_numbers : Stmt := topS 36
abbrev N__law_numbers : List Str := ["generator", "big", "found", "fibs", "turn", "at", "near"]
theorem sc__law_numbers : FnScope N__law_numbers ["generator"] (defScope s__law_numbers) := ⟨rfl, rfl, rfl, by decide +kernel, rfl, by decide +kernel, by decide +kernel⟩
abbrev s__law_sign : Stmt := topS 34
abbrev N__law_sign : List Str := ["a", "b", "left", "right", "inner"]
theorem sc__law_sign : FnScope N__law_sign ["a", "b"] (defScope s__law_sign) := ⟨rfl, rfl, rfl, by decide +kernel, rfl, by decide +kernel, by decide +kernel⟩
abbrev s__law_less : Stmt := topS 35
abbrev N__law_less : List Str := ["one", "other"]
theorem sc__law_less : FnScope N__law_less ["one", "other"] (defScope s__law_less) := ⟨rfl, rfl, rfl, by decide +kernel, rfl, by decide +kernel, by decide +kernel⟩
abbrev s__law_power : Stmt := topS 33
abbrev N__law_power : List Str := ["many", "one", "other", "turn"]
theorem sc__law_power : FnScope N__law_power ["many"] (defScope s__law_power) := ⟨rfl, rfl, rfl, by decide +kernel, rfl, by decide +kernel, by decide +kernel⟩
abbrev s_is_golden : Stmt := topS 18
abbrev N_is_golden : List Str := ["value"]
theorem sc_is_golden : FnScope N_is_golden ["value"] (defScope s_is_golden) := ⟨rfl, rfl, rfl, by decide +kernel, rfl, by decide +kernel, by decide +kernel⟩
abbrev s_check_golden : Stmt := topS 19
abbrev N_check_golden : List Str := ["value"]
theorem sc_check_golden : FnScope N_check_golden ["value"] (defScope s_check_golden) := ⟨rfl, rfl, rfl, by decide +kernel, rfl, by decide +kernel, by decide +kernel⟩
abbrev s_is_above_nothing : Stmt := topS 20
abbrev N_is_above_nothing : List Str := ["whole", "part", "rest"]
theorem sc_is_above_nothing : FnScope N_is_above_nothing ["whole", "part"] (defScope s_is_above_nothing) := ⟨rfl, rfl, rfl, by decide +kernel, rfl, by decide +kernel, by decide +kernel⟩
abbrev s_is_golden_less : Stmt := topS 21
abbrev N_is_golden_less : List Str := ["one", "other"]
theorem sc_is_golden_less : FnScope N_is_golden_less ["one", "other"] (defScope s_is_golden_less) := ⟨rfl, rfl, rfl, by decide +kernel, rfl, by decide +kernel, by decide +kernel⟩
abbrev s_check_number : Stmt := topS 10
abbrev N_check_number : List Str := ["value"]
theorem sc_check_number : FnScope N_check_number ["value"] (defScope s_check_number) := ⟨rfl, rfl, rfl, by decide +kernel, rfl, by decide +kernel, by decide +kernel⟩
abbrev s_power_of_golden : Stmt := topS 16
abbrev N_power_of_golden : List Str := ["many", "whole", "part", "turn"]
theorem sc_power_of_golden : FnScope N_power_of_golden ["many"] (defScope s_power_of_golden) := ⟨rfl, rfl, rfl, by decide +kernel, rfl, by decide +kernel, by decide +kernel⟩
abbrev s_golden_power : Stmt := topS 17
abbrev N_golden_power : List Str := ["many"]
theorem sc_golden_power : FnScope N_golden_power ["many"] (defScope s_golden_power) := ⟨rfl, rfl, rfl, by decide +kernel, rfl, by decide +kernel, by decide +kernel⟩
abbrev s__law_golden_right : Stmt := topS 37
abbrev N__law_golden_right : List Str := ["generator", "rows", "one", "other", "due", "turn", "many", "power", "late"]
theorem sc__law_golden_right : FnScope N__law_golden_right ["generator"] (defScope s__law_golden_right) := ⟨rfl, rfl, rfl, by decide +kernel, rfl, by decide +kernel, by decide +kernel⟩
abbrev s_ascends : Stmt := topS 9
abbrev N_ascends : List Str := ["items", "at"]
theorem sc_ascends : FnScope N_ascends ["items"] (defScope s_ascends) := ⟨rfl, rfl, rfl, by decide +kernel, rfl, by decide +kernel, by decide +kernel⟩
abbrev s_is_hole : Stmt := topS 12
abbrev N_is_hole : List Str := ["value"]
theorem sc_is_hole : FnScope N_is_hole ["value"] (defScope s_is_hole) := ⟨rfl, rfl, rfl, by decide +kernel, rfl, by decide +kernel, by decide +kernel⟩
abbrev s_are_holes : Stmt := topS 13
abbrev N_are_holes : List Str := ["value", "cell"]
theorem sc_are_holes : FnScope N_are_holes ["value"] (defScope s_are_holes) := ⟨rfl, rfl, rfl, by decide +kernel, rfl, by decide +kernel, by decide +kernel⟩
abbrev s_check_far_pegs : Stmt := topS 23
abbrev N_check_far_pegs : List Str := ["pegs", "goal"]
theorem sc_check_far_pegs : FnScope N_check_far_pegs ["pegs", "goal"] (defScope s_check_far_pegs) := ⟨rfl, rfl, rfl, by decide +kernel, rfl, by decide +kernel, by decide +kernel⟩
abbrev s_weight_to : Stmt := topS 22
abbrev N_weight_to : List Str := ["pegs", "goal", "found", "row", "column", "whole", "part"]
theorem sc_weight_to : FnScope N_weight_to ["pegs", "goal"] (defScope s_weight_to) := ⟨rfl, rfl, rfl, by decide +kernel, rfl, by decide +kernel, by decide +kernel⟩
abbrev s_is_out_of_reach : Stmt := topS 25
abbrev N_is_out_of_reach : List Str := ["pegs", "goal", "whole", "part"]
theorem sc_is_out_of_reach : FnScope N_is_out_of_reach ["pegs", "goal"] (defScope s_is_out_of_reach) := ⟨rfl, rfl, rfl, by decide +kernel, rfl, by decide +kernel, by decide +kernel⟩
abbrev s_golden_weight : Stmt := topS 24
abbrev N_golden_weight : List Str := ["pegs", "goal"]
theorem sc_golden_weight : FnScope N_golden_weight ["pegs", "goal"] (defScope s_golden_weight) := ⟨rfl, rfl, rfl, by decide +kernel, rfl, by decide +kernel, by decide +kernel⟩
abbrev s__law_weights_right : Stmt := topS 38
abbrev N__law_weights_right : List Str := ["generator", "wide", "cells", "goal", "least", "turn", "cell", "pegs", "kept", "weight", "power", "due", "row", "far", "at"]
theorem sc__law_weights_right : FnScope N__law_weights_right ["generator"] (defScope s__law_weights_right) := ⟨rfl, rfl, rfl, by decide +kernel, rfl, by decide +kernel, by decide +kernel⟩
abbrev s_law : Stmt := topS 39
abbrev N_law : List Str := ["script", "index", "generator", "row", "one"]
theorem sc_law : FnScope N_law ["script"] (defScope s_law) := ⟨rfl, rfl, rfl, by decide +kernel, rfl, by decide +kernel, by decide +kernel⟩
theorem bt_abs : bootBuiltins "abs" = some (.builtin "abs") := by decide +kernel
theorem bt_all : bootBuiltins "all" = some (.builtin "all") := by decide +kernel
theorem bt_bool : bootBuiltins "bool" = some (.type "bool") := by decide +kernel
theorem bt_int : bootBuiltins "int" = some (.type "int") := by decide +kernel
theorem bt_isinstance : bootBuiltins "isinstance" = some (.builtin "isinstance") := by decide +kernel
theorem bt_len : bootBuiltins "len" = some (.builtin "len") := by decide +kernel
theorem bt_list : bootBuiltins "list" = some (.type "list") := by decide +kernel
theorem bt_max : bootBuiltins "max" = some (.builtin "max") := by decide +kernel
theorem bt_min : bootBuiltins "min" = some (.builtin "min") := by decide +kernel
theorem bt_range : bootBuiltins "range" = some (.type "range") := by decide +kernel
theorem bt_repr : bootBuiltins "repr" = some (.builtin "repr") := by decide +kernel
theorem bt_sorted : bootBuiltins "sorted" = some (.builtin "sorted") := by decide +kernel
theorem bt_sum : bootBuiltins "sum" = some (.builtin "sum") := by decide +kernel
theorem bt_tuple : bootBuiltins "tuple" = some (.type "tuple") := by decide +kernel
/-- what the top has written -/
structure TF (K : Fg) (mg : Str → Option Value) where
  a__law_cell : Addr
  d__law_cell : FuncData
  F__law_cell : Fun K "_law_cell" "_law_cell" s__law_cell a__law_cell d__law_cell
  g__law_cell : mg "_law_cell" = some (.ref a__law_cell)
  b__law_cell : Binds K d__law_cell ["script", "index"] []
  a__law_generator : Addr
  d__law_generator : FuncData
  F__law_generator : Fun K "_law_generator" "_law_generator" s__law_generator a__law_generator d__law_generator
  g__law_generator : mg "_law_generator" = some (.ref a__law_generator)
  b__law_generator : Binds K d__law_generator ["script", "index"] []
  a__law_hash : Addr
  d__law_hash : FuncData
  F__law_hash : Fun K "_law_hash" "_law_hash" s__law_hash a__law_hash d__law_hash
  g__law_hash : mg "_law_hash" = some (.ref a__law_hash)
  b__law_hash : Binds K d__law_hash ["seed", "index"] []
  a__law_random : Addr
  d__law_random : FuncData
  F__law_random : Fun K "_law_random" "_law_random" s__law_random a__law_random d__law_random
  g__law_random : mg "_law_random" = some (.ref a__law_random)
  b__law_random : Binds K d__law_random ["generator", "bound"] []
  a_is_whole : Addr
  d_is_whole : FuncData
  F_is_whole : Fun K "is_whole" "is_whole" s_is_whole a_is_whole d_is_whole
  g_is_whole : mg "is_whole" = some (.ref a_is_whole)
  b_is_whole : Binds K d_is_whole ["value"] []
  a_is_count : Addr
  d_is_count : FuncData
  F_is_count : Fun K "is_count" "is_count" s_is_count a_is_count d_is_count
  g_is_count : mg "is_count" = some (.ref a_is_count)
  b_is_count : Binds K d_is_count ["value"] []
  a_fewest_soldiers : Addr
  d_fewest_soldiers : FuncData
  F_fewest_soldiers : Fun K "fewest_soldiers" "fewest_soldiers" s_fewest_soldiers a_fewest_soldiers d_fewest_soldiers
  g_fewest_soldiers : mg "fewest_soldiers" = some (.ref a_fewest_soldiers)
  b_fewest_soldiers : Binds K d_fewest_soldiers ["row"] []
  a__law_pick : Addr
  d__law_pick : FuncData
  F__law_pick : Fun K "_law_pick" "_law_pick" s__law_pick a__law_pick d__law_pick
  g__law_pick : mg "_law_pick" = some (.ref a__law_pick)
  b__law_pick : Binds K d__law_pick ["generator", "things"] []
  a__law_numbers : Addr
  d__law_numbers : FuncData
  F__law_numbers : Fun K "_law_numbers" "_law_numbers" s__law_numbers a__law_numbers d__law_numbers
  g__law_numbers : mg "_law_numbers" = some (.ref a__law_numbers)
  b__law_numbers : Binds K d__law_numbers ["generator"] []
  a__law_sign : Addr
  d__law_sign : FuncData
  F__law_sign : Fun K "_law_sign" "_law_sign" s__law_sign a__law_sign d__law_sign
  g__law_sign : mg "_law_sign" = some (.ref a__law_sign)
  b__law_sign : Binds K d__law_sign ["a", "b"] []
  a__law_less : Addr
  d__law_less : FuncData
  F__law_less : Fun K "_law_less" "_law_less" s__law_less a__law_less d__law_less
  g__law_less : mg "_law_less" = some (.ref a__law_less)
  b__law_less : Binds K d__law_less ["one", "other"] []
  a__law_power : Addr
  d__law_power : FuncData
  F__law_power : Fun K "_law_power" "_law_power" s__law_power a__law_power d__law_power
  g__law_power : mg "_law_power" = some (.ref a__law_power)
  b__law_power : Binds K d__law_power ["many"] []
  a_is_golden : Addr
  d_is_golden : FuncData
  F_is_golden : Fun K "is_golden" "is_golden" s_is_golden a_is_golden d_is_golden
  g_is_golden : mg "is_golden" = some (.ref a_is_golden)
  b_is_golden : Binds K d_is_golden ["value"] []
  a_check_golden : Addr
  d_check_golden : FuncData
  F_check_golden : Fun K "check_golden" "check_golden" s_check_golden a_check_golden d_check_golden
  g_check_golden : mg "check_golden" = some (.ref a_check_golden)
  b_check_golden : Binds K d_check_golden ["value"] []
  a_is_above_nothing : Addr
  d_is_above_nothing : FuncData
  F_is_above_nothing : Fun K "is_above_nothing" "is_above_nothing" s_is_above_nothing a_is_above_nothing d_is_above_nothing
  g_is_above_nothing : mg "is_above_nothing" = some (.ref a_is_above_nothing)
  b_is_above_nothing : Binds K d_is_above_nothing ["whole", "part"] []
  a_is_golden_less : Addr
  d_is_golden_less : FuncData
  F_is_golden_less : Fun K "is_golden_less" "is_golden_less" s_is_golden_less a_is_golden_less d_is_golden_less
  g_is_golden_less : mg "is_golden_less" = some (.ref a_is_golden_less)
  b_is_golden_less : Binds K d_is_golden_less ["one", "other"] []
  a_check_number : Addr
  d_check_number : FuncData
  F_check_number : Fun K "check_number" "check_number" s_check_number a_check_number d_check_number
  g_check_number : mg "check_number" = some (.ref a_check_number)
  b_check_number : Binds K d_check_number ["value"] []
  a_power_of_golden : Addr
  d_power_of_golden : FuncData
  F_power_of_golden : Fun K "power_of_golden" "power_of_golden" s_power_of_golden a_power_of_golden d_power_of_golden
  g_power_of_golden : mg "power_of_golden" = some (.ref a_power_of_golden)
  b_power_of_golden : Binds K d_power_of_golden ["many"] []
  a_golden_power : Addr
  d_golden_power : FuncData
  F_golden_power : Fun K "golden_power" "golden_power" s_golden_power a_golden_power d_golden_power
  g_golden_power : mg "golden_power" = some (.ref a_golden_power)
  b_golden_power : Binds K d_golden_power ["many"] []
  a__law_golden_right : Addr
  d__law_golden_right : FuncData
  F__law_golden_right : Fun K "_law_golden_right" "_law_golden_right" s__law_golden_right a__law_golden_right d__law_golden_right
  g__law_golden_right : mg "_law_golden_right" = some (.ref a__law_golden_right)
  b__law_golden_right : Binds K d__law_golden_right ["generator"] []
  a_ascends : Addr
  d_ascends : FuncData
  F_ascends : Fun K "ascends" "ascends" s_ascends a_ascends d_ascends
  g_ascends : mg "ascends" = some (.ref a_ascends)
  b_ascends : Binds K d_ascends ["items"] []
  a_is_hole : Addr
  d_is_hole : FuncData
  F_is_hole : Fun K "is_hole" "is_hole" s_is_hole a_is_hole d_is_hole
  g_is_hole : mg "is_hole" = some (.ref a_is_hole)
  b_is_hole : Binds K d_is_hole ["value"] []
  a_are_holes : Addr
  d_are_holes : FuncData
  F_are_holes : Fun K "are_holes" "are_holes" s_are_holes a_are_holes d_are_holes
  g_are_holes : mg "are_holes" = some (.ref a_are_holes)
  b_are_holes : Binds K d_are_holes ["value"] []
  a_check_far_pegs : Addr
  d_check_far_pegs : FuncData
  F_check_far_pegs : Fun K "check_far_pegs" "check_far_pegs" s_check_far_pegs a_check_far_pegs d_check_far_pegs
  g_check_far_pegs : mg "check_far_pegs" = some (.ref a_check_far_pegs)
  b_check_far_pegs : Binds K d_check_far_pegs ["pegs", "goal"] []
  a_weight_to : Addr
  d_weight_to : FuncData
  F_weight_to : Fun K "weight_to" "weight_to" s_weight_to a_weight_to d_weight_to
  g_weight_to : mg "weight_to" = some (.ref a_weight_to)
  b_weight_to : Binds K d_weight_to ["pegs", "goal"] []
  a_is_out_of_reach : Addr
  d_is_out_of_reach : FuncData
  F_is_out_of_reach : Fun K "is_out_of_reach" "is_out_of_reach" s_is_out_of_reach a_is_out_of_reach d_is_out_of_reach
  g_is_out_of_reach : mg "is_out_of_reach" = some (.ref a_is_out_of_reach)
  b_is_out_of_reach : Binds K d_is_out_of_reach ["pegs", "goal"] []
  a_golden_weight : Addr
  d_golden_weight : FuncData
  F_golden_weight : Fun K "golden_weight" "golden_weight" s_golden_weight a_golden_weight d_golden_weight
  g_golden_weight : mg "golden_weight" = some (.ref a_golden_weight)
  b_golden_weight : Binds K d_golden_weight ["pegs", "goal"] []
  a__law_weights_right : Addr
  d__law_weights_right : FuncData
  F__law_weights_right : Fun K "_law_weights_right" "_law_weights_right" s__law_weights_right a__law_weights_right d__law_weights_right
  g__law_weights_right : mg "_law_weights_right" = some (.ref a__law_weights_right)
  b__law_weights_right : Binds K d__law_weights_right ["generator"] []
  a_law : Addr
  d_law : FuncData
  F_law : Fun K "law" "law" s_law a_law d_law
  g_law : mg "law" = some (.ref a_law)
  b_law : Binds K d_law ["script"] []
  u_law : ∀ (s : Shared) (u : Value), BindsTo s d_law ⟨[u], []⟩ [("script", u)]
  z_abs : mg "abs" = none
  z_all : mg "all" = none
  z_bool : mg "bool" = none
  z_int : mg "int" = none
  z_isinstance : mg "isinstance" = none
  z_len : mg "len" = none
  z_list : mg "list" = none
  z_max : mg "max" = none
  z_min : mg "min" = none
  z_range : mg "range" = none
  z_repr : mg "repr" = none
  z_sorted : mg "sorted" = none
  z_sum : mg "sum" = none
  z_tuple : mg "tuple" = none
  c_SOLDIERS : KC mg K "SOLDIERS" c_SOLDIERS
variable {P : Program} {w : World} {K : Fg} {mg : Str → Option Value} {base : Heap}
theorem ok__law_cell (T : TF K mg) : GFn P w K mg base 1 T.a__law_cell T.d__law_cell ["script", "index"] sp__law_cell :=
  fn_ok (t := b__law_cell) T.F__law_cell sc__law_cell (fun cdv A outer s H hg hr =>
  (by exact (dss_cons (by exact (ds_if (by exact (dt_cmp (od_lt hr) (do_var 1) (by exact (do_exp (by exact (de_builtin cd_len (by rfl) T.z_len bt_len (by exact (da_cons (do_var 0) da_nil)))))) (nomark _))) (by exact (dss_one (by exact (ds_ret (by exact (de_ix xd_ix (do_var 0) (do_var 1))))))) dss_nil))
  (by exact (dss_one (by exact (ds_ret (by exact (de_bin od_mod (by exact (do_exp (by exact (de_builtin (cd_sum (by rfl)) (by rfl) T.z_sum bt_sum (by exact (da_cons (by exact (do_exp (by exact (de_slice ld_sl (do_var 0) dp_no (by exact (dp_yes de_int)))))) da_nil)))))) (by exact (do_exp de_int))))))))))) pure__law_cell
theorem ok__law_generator (T : TF K mg) : GFn P w K mg base 2 T.a__law_generator T.d__law_generator ["script", "index"] sp__law_generator :=
  fn_ok (t := b__law_generator) T.F__law_generator sc__law_generator (fun cdv A outer s H hg hr =>
  (by exact (dss_cons (by exact (ds_set 2 sc__law_generator.nd (by exact (de_fn (ok__law_cell T) (hr.mono (by decide)) hg (by rfl) T.g__law_cell T.F__law_cell.kp T.b__law_cell (by exact (df_cons (de_var 0) (by exact (df_cons (de_var 1) df_nil))))))))
  (by exact (dss_one (by exact (ds_ret (by exact (de_lst (by exact (df_cons (by exact (de_bin od_mod (by exact (do_exp (by exact (de_type cd_int (by rfl) T.z_int bt_int (by exact (da_cons (by exact (do_exp (by exact (de_builtin (cd_max (by rfl)) (by rfl) T.z_max bt_max (by exact (da_cons (by exact (do_exp (by exact (de_bin od_sub (do_var 2) (by exact (do_exp (by exact (de_bin od_pow (by exact (do_exp de_int)) (by exact (do_exp de_int)))))))))) (by exact (da_cons (by exact (do_exp de_int)) da_nil)))))))) da_nil)))))) (by exact (do_exp (by exact (de_bin od_pow (by exact (do_exp (by exact (de_bin od_pow (by exact (do_exp de_int)) (by exact (do_exp de_int)))))) (by exact (do_exp de_int)))))))) (by exact (df_cons (by exact (de_bin od_mod (by exact (do_exp (by exact (de_type cd_int (by rfl) T.z_int bt_int (by exact (da_cons (do_var 2) da_nil)))))) (by exact (do_exp de_int)))) (by exact (df_cons (by exact (de_bin od_mul (by exact (do_exp de_int)) (do_var 1))) df_nil))))))))))))))) pure__law_generator
theorem ok__law_hash (T : TF K mg) : GFn P w K mg base 1 T.a__law_hash T.d__law_hash ["seed", "index"] sp__law_hash :=
  fn_ok (t := b__law_hash) T.F__law_hash sc__law_hash (fun cdv A outer s H hg hr =>
  (by exact (dss_cons (by exact (ds_set 2 sc__law_hash.nd (by exact (de_bin od_mod (by exact (do_exp (by exact (de_type cd_int (by rfl) T.z_int bt_int (by exact (da_cons (by exact (do_exp (by exact (de_bin od_add (by exact (do_exp (by exact (de_bin od_add (by exact (do_exp (by exact (de_bin od_add (by exact (do_exp (by exact (de_bin od_mul (do_var 0) (by exact (do_exp de_int)))))) (by exact (do_exp (by exact (de_bin od_mul (by exact (do_exp (by exact (de_bin od_mul (by exact (do_exp de_int)) (do_var 1))))) (do_var 1))))))))) (by exact (do_exp (by exact (de_bin od_mul (by exact (do_exp de_int)) (do_var 1))))))))) (by exact (do_exp de_int)))))) da_nil)))))) (by exact (do_exp de_int))))))
  (by exact (dss_cons (by exact (ds_set 2 sc__law_hash.nd (by exact (de_bin od_mod (by exact (do_exp (by exact (de_type cd_int (by rfl) T.z_int bt_int (by exact (da_cons (by exact (do_exp (by exact (de_bin od_add (by exact (do_exp (by exact (de_bin od_add (by exact (do_exp (by exact (de_bin od_mul (do_var 2) (do_var 2))))) (by exact (do_exp (by exact (de_bin od_mul (by exact (do_exp de_int)) (do_var 1))))))))) (by exact (do_exp de_int)))))) da_nil)))))) (by exact (do_exp de_int))))))
  (by exact (dss_one (by exact (ds_ret (by exact (de_bin od_mod (by exact (do_exp (by exact (de_type cd_int (by rfl) T.z_int bt_int (by exact (da_cons (by exact (do_exp (by exact (de_bin od_mul (do_var 2) (by exact (do_exp de_int)))))) da_nil)))))) (by exact (do_exp de_int))))))))))))) pure__law_hash
theorem ok__law_random (T : TF K mg) : GFn P w K mg base 2 T.a__law_random T.d__law_random ["generator", "bound"] sp__law_random :=
  fn_ok (t := b__law_random) T.F__law_random sc__law_random (fun cdv A outer s H hg hr =>
  (by exact (dss_cons (by exact (ds_if (by exact (dt_cmp (od_gt hr) (by exact (do_exp (by exact (de_ix xd_ix (do_var 0) (by exact (do_exp de_int)))))) (by exact (do_exp de_int)) (nomark _))) (by exact (dss_cons (by exact (ds_set 2 sc__law_random.nd (by exact (de_bin od_mod (by exact (do_exp (by exact (de_type cd_int (by rfl) T.z_int bt_int (by exact (da_cons (by exact (do_exp (by exact (de_ix xd_ix (do_var 0) (by exact (do_exp de_int)))))) da_nil)))))) (do_var 1)))))
  (by exact (dss_cons (by exact (ds_ix 0 (by exact (de_bin od_div (by exact (do_exp (by exact (de_ix xd_ix (do_var 0) (by exact (do_exp de_int)))))) (do_var 1))) de_int))
  (by exact (dss_one (ds_retV 2))))))) dss_nil))
  (by exact (dss_cons (by exact (ds_set 2 sc__law_random.nd de_int))
  (by exact (dss_cons (by exact (ds_for (tb := b__law_random_F1) PassesOwn.never (by rfl) (by exact (di_range1 (by rfl) T.z_range (by exact (de_bin od_add (by exact (do_exp de_int)) (by exact (do_exp (by exact (de_bin od_div (by exact (do_exp (by exact (de_bits (do_var 1))))) (by exact (do_exp de_int)))))))))) (by exact (dg_name 3 sc__law_random.nd)) (by exact (dss_cons (by exact (ds_ix 0 (by exact (de_bin od_add (by exact (do_exp (by exact (de_ix xd_ix (do_var 0) (by exact (do_exp de_int)))))) (by exact (do_exp de_int)))) de_int))
  (by exact (dss_one (by exact (ds_set 2 sc__law_random.nd (by exact (de_bin od_add (by exact (do_exp (by exact (de_bin od_mul (do_var 2) (by exact (do_exp de_int)))))) (by exact (do_exp (by exact (de_fn (ok__law_hash T) (hr.mono (by decide)) hg (by rfl) T.g__law_hash T.F__law_hash.kp T.b__law_hash (by exact (df_cons (by exact (de_ix xd_ix (do_var 0) (by exact (do_exp de_int)))) (by exact (df_cons (by exact (de_ix xd_ix (do_var 0) (by exact (do_exp de_int)))) df_nil))))))))))))))))))
  (by exact (dss_one (by exact (ds_ret (by exact (de_bin od_mod (by exact (do_exp (by exact (de_type cd_int (by rfl) T.z_int bt_int (by exact (da_cons (do_var 2) da_nil)))))) (do_var 1)))))))))))))) pure__law_random
theorem ok_is_whole (T : TF K mg) : GFn P w K mg base 1 T.a_is_whole T.d_is_whole ["value"] sp_is_whole :=
  fn_ok (t := b_is_whole) T.F_is_whole sc_is_whole (fun cdv A outer s H hg hr =>
  (by exact (dss_one (by exact (ds_ret (by exact (de_and (by exact (de_isi (T := "int") (by decide) (by rfl) T.z_isinstance (by rfl) T.z_int bt_int (do_var 0))) (by exact (de_one (by exact (de_not (by exact (do_exp (by exact (de_isi (T := "bool") (by decide) (by rfl) T.z_isinstance (by rfl) T.z_bool bt_bool (do_var 0)))))))))))))))) pure_is_whole
theorem ok_is_count (T : TF K mg) : GFn P w K mg base 2 T.a_is_count T.d_is_count ["value"] sp_is_count :=
  fn_ok (t := b_is_count) T.F_is_count sc_is_count (fun cdv A outer s H hg hr =>
  (by exact (dss_one (by exact (ds_ret (by exact (de_and (by exact (de_fn (ok_is_whole T) (hr.mono (by decide)) hg (by rfl) T.g_is_whole T.F_is_whole.kp T.b_is_whole (by exact (df_cons (de_var 0) df_nil)))) (by exact (de_one (by exact (de_cmp (od_ge hr) (do_var 0) (by exact (do_exp de_int)) (nomark _)))))))))))) pure_is_count
theorem ok_fewest_soldiers (T : TF K mg) : GFn P w K mg base 3 T.a_fewest_soldiers T.d_fewest_soldiers ["row"] sp_fewest_soldiers :=
  fn_ok (t := b_fewest_soldiers) T.F_fewest_soldiers sc_fewest_soldiers (fun cdv A outer s H hg hr =>
  (by exact (dss_cons (by exact (ds_if (by exact (dt_w (dw_or (by exact (dt_not (by exact (dt_val (by exact (de_fn (ok_is_count T) (hr.mono (by decide)) hg (by rfl) T.g_is_count T.F_is_count.kp T.b_is_count (by exact (df_cons (de_var 0) df_nil)))))))) (by exact (dw_or1 (by exact (dt_cmp (od_lt hr) (do_var 0) (by exact (do_exp de_int)) (nomark _)))))))) (by exact (dss_one ds_never)) dss_nil))
  (by exact (dss_one (by exact (ds_ret (by exact (de_if (by exact (dt_cmp (od_lt hr) (do_var 0) (by exact (do_exp (by exact (de_builtin cd_len (by rfl) T.z_len bt_len (by exact (da_cons (by exact (do_exp (by exact (T.c_SOLDIERS.de (by rfl))))) da_nil)))))) (nomark _))) (by exact (de_ix xd_ix (by exact (do_exp (by exact (T.c_SOLDIERS.de (by rfl))))) (do_var 0))) de_non))))))))) pure_fewest_soldiers
theorem ok__law_pick (T : TF K mg) : GFn P w K mg base 3 T.a__law_pick T.d__law_pick ["generator", "things"] sp__law_pick :=
  fn_ok (t := b__law_pick) T.F__law_pick sc__law_pick (fun cdv A outer s H hg hr =>
  (by exact (dss_one (by exact (ds_ret (by exact (de_ix xd_ix (do_var 1) (by exact (do_exp (by exact (de_fnB 0 (ok__law_random T) (hr.mono (by decide)) hg (by rfl) T.g__law_random T.F__law_random.kp T.b__law_random (by exact (df_cons (by exact (de_builtin cd_len (by rfl) T.z_len bt_len (by exact (da_cons (do_var 1) da_nil)))) df_nil))))))))))))) pure__law_pick
theorem ok__law_numbers (T : TF K mg) : GFn P w K mg base 4 T.a__law_numbers T.d__law_numbers ["generator"] sp__law_numbers :=
  fn_ok (t := b__law_numbers) T.F__law_numbers sc__law_numbers (fun cdv A outer s H hg hr =>
  (by exact (dss_cons (by exact (ds_set 1 sc__law_numbers.nd (by exact (de_fnB 0 (ok__law_pick T) (hr.mono (by decide)) hg (by rfl) T.g__law_pick T.F__law_pick.kp T.b__law_pick (by exact (df_cons (by exact (de_lst (by exact (df_cons de_int (by exact (df_cons de_int (by exact (df_cons (by exact (de_bin od_pow (by exact (do_exp de_int)) (by exact (do_exp de_int)))) (by exact (df_cons (by exact (de_bin od_sub (by exact (do_exp (by exact (de_bin od_pow (by exact (do_exp de_int)) (by exact (do_exp de_int)))))) (by exact (do_exp de_int)))) df_nil)))))))))) df_nil))))))
  (by exact (dss_cons (by exact (ds_setLc (i := 2) (own := [("turn", 4)]) (g := b__law_numbers_g1) (tt := b__law_numbers_t2) (te := b__law_numbers_e3) (by rfl) sc__law_numbers.nd (by rfl) (by rfl) (by exact sw_true (by rfl) (by rfl) (by rfl) (by decide +kernel)) (by exact (di_range1 (by rfl) T.z_range de_int)) (by exact blkOk_by (N := N__law_numbers) (sc := defScope s__law_numbers) (own := [("turn", 4)]) (by decide +kernel)) (by intro _ _ _ _ _; exact (by exact (dg_name 4 sc__law_numbers.nd))) (by intro _ _ _ _ _; exact dts_nil) (by intro _ _ _ _ _; exact (by exact (de_tup (by exact (df_cons (by exact (de_bin od_sub (by exact (do_exp (by exact (de_fnB 0 (ok__law_random T) (hr.mono (by decide)) hg (by rfl) T.g__law_random T.F__law_random.kp T.b__law_random (by exact (df_cons (by exact (de_bin od_add (by exact (do_exp (by exact (de_bin od_mul (by exact (do_exp de_int)) (do_var 1))))) (by exact (do_exp de_int)))) df_nil)))))) (do_var 1))) (by exact (df_cons (by exact (de_bin od_sub (by exact (do_exp (by exact (de_fnB 0 (ok__law_random T) (hr.mono (by decide)) hg (by rfl) T.g__law_random T.F__law_random.kp T.b__law_random (by exact (df_cons (by exact (de_bin od_add (by exact (do_exp (by exact (de_bin od_mul (by exact (do_exp de_int)) (do_var 1))))) (by exact (do_exp de_int)))) df_nil)))))) (do_var 1))) df_nil))))))) (by decide)))
  (by exact (dss_cons (by exact (ds_set 3 sc__law_numbers.nd (by exact (de_lst (by exact (df_cons de_int (by exact (df_cons de_int df_nil))))))))
  (by exact (dss_cons (by exact (ds_for (tb := b__law_numbers_F4) PassesOwn.never (by rfl) (by exact (di_range1 (by rfl) T.z_range de_int)) (by exact (dg_name 4 sc__law_numbers.nd)) (by exact (dss_one (by exact (ds_expr (by exact (de_mut 3 PySem.F.slot_list_append PySem.F.type_list_append md_append (by exact (df_cons (by exact (de_bin od_add (by exact (do_exp (by exact (de_ix xd_ix (do_var 3) (by exact (do_exp (by exact (de_un ud_neg (by exact (do_exp de_int)))))))))) (by exact (do_exp (by exact (de_ix xd_ix (do_var 3) (by exact (do_exp (by exact (de_un ud_neg (by exact (do_exp de_int)))))))))))) df_nil))))))))))
  (by exact (dss_cons (by exact (ds_set 5 sc__law_numbers.nd (by exact (de_bin od_add (by exact (do_exp de_int)) (by exact (do_exp (by exact (de_fnB 0 (ok__law_random T) (hr.mono (by decide)) hg (by rfl) T.g__law_random T.F__law_random.kp T.b__law_random (by exact (df_cons de_int df_nil))))))))))
  (by exact (dss_cons (by exact (ds_set 6 sc__law_numbers.nd (by exact (de_tup (by exact (df_cons (by exact (de_bin od_sub (by exact (do_exp de_int)) (by exact (do_exp (by exact (de_ix xd_ix (do_var 3) (do_var 5))))))) (by exact (df_cons (by exact (de_ix xd_ix (do_var 3) (by exact (do_exp (by exact (de_bin od_add (do_var 5) (by exact (do_exp de_int)))))))) df_nil))))))))
  (by exact (dss_one (by exact (ds_ret (by exact (de_bin od_add (do_var 2) (by exact (do_exp (by exact (de_lst (by exact (df_cons (de_var 6) (by exact (df_cons (by exact (de_tup (by exact (df_cons (by exact (de_bin od_add (by exact (do_exp (by exact (de_ix xd_ix (do_var 6) (by exact (do_exp de_int)))))) (by exact (do_exp de_int)))) (by exact (df_cons (by exact (de_ix xd_ix (do_var 6) (by exact (do_exp de_int)))) df_nil)))))) (by exact (df_cons (by exact (de_tup (by exact (df_cons (by exact (de_bin od_sub (by exact (do_exp de_int)) (by exact (do_exp (by exact (de_ix xd_ix (do_var 6) (by exact (do_exp de_int)))))))) (by exact (df_cons (by exact (de_bin od_sub (by exact (do_exp de_int)) (by exact (do_exp (by exact (de_ix xd_ix (do_var 6) (by exact (do_exp de_int)))))))) df_nil)))))) (by exact (df_cons (by exact (de_tup (by exact (df_cons de_int (by exact (df_cons de_int df_nil)))))) (by exact (df_cons (by exact (de_tup (by exact (df_cons de_int (by exact (df_cons de_int df_nil)))))) (by exact (df_cons (by exact (de_tup (by exact (df_cons de_int (by exact (df_cons de_int df_nil)))))) (by exact (df_cons (by exact (de_tup (by exact (df_cons de_int (by exact (df_cons (by exact (de_bin od_sub (by exact (do_exp de_int)) (by exact (do_exp de_int)))) df_nil)))))) (by exact (df_cons (by exact (de_ix xd_ix (do_var 2) (by exact (do_exp de_int)))) df_nil))))))))))))))))))))))))))))))))))))))) pure__law_numbers
theorem ok__law_sign (T : TF K mg) : GFn P w K mg base 1 T.a__law_sign T.d__law_sign ["a", "b"] sp__law_sign :=
  fn_ok (t := b__law_sign) T.F__law_sign sc__law_sign (fun cdv A outer s H hg hr =>
  (by exact (dss_cons (by exact (ds_if (by exact (dt_w (dw_or (by exact (dt_cmp (od_eq hr) (do_var 1) (by exact (do_exp de_int)) (nomark _))) (by exact (dw_or1 (by exact (dt_w (dw_and (by exact (dt_cmp (od_eq hr) (do_var 0) (by exact (do_exp de_int)) (nomark _))) (by exact (dw_and1 (by exact (dt_cmp (od_eq hr) (do_var 1) (by exact (do_exp de_int)) (nomark _))))))))))))) (by exact (dss_one (by exact (ds_ret (by exact (de_bin od_sub (by exact (do_exp (by exact (de_cmp (od_gt hr) (do_var 0) (by exact (do_exp de_int)) (nomark _))))) (by exact (do_exp (by exact (de_cmp (od_lt hr) (do_var 0) (by exact (do_exp de_int)) (nomark _))))))))))) dss_nil))
  (by exact (dss_cons (by exact (ds_par 2 3 (by rfl) sc__law_sign.nd (by exact (df_cons (by exact (de_bin od_sub (by exact (do_exp (by exact (de_bin od_mul (by exact (do_exp de_int)) (do_var 0))))) (do_var 1))) (by exact (df_cons (de_var 1) df_nil))))))
  (by exact (dss_cons (by exact (ds_if (by exact (dt_w (dw_and (by exact (dt_cmp (od_ge hr) (do_var 2) (by exact (do_exp de_int)) (nomark _))) (by exact (dw_and1 (by exact (dt_cmp (od_gt hr) (do_var 3) (by exact (do_exp de_int)) (nomark _)))))))) (by exact (dss_one (by exact (ds_ret de_int)))) dss_nil))
  (by exact (dss_cons (by exact (ds_if (by exact (dt_w (dw_and (by exact (dt_cmp (od_le hr) (do_var 2) (by exact (do_exp de_int)) (nomark _))) (by exact (dw_and1 (by exact (dt_cmp (od_lt hr) (do_var 3) (by exact (do_exp de_int)) (nomark _)))))))) (by exact (dss_one (by exact (ds_ret (by exact (de_bin od_sub (by exact (do_exp de_int)) (by exact (do_exp de_int)))))))) dss_nil))
  (by exact (dss_cons (by exact (ds_set 4 sc__law_sign.nd (by exact (de_bin od_sub (by exact (do_exp (by exact (de_bin od_mul (do_var 2) (do_var 2))))) (by exact (do_exp (by exact (de_bin od_mul (by exact (do_exp (by exact (de_bin od_mul (by exact (do_exp de_int)) (do_var 3))))) (do_var 3)))))))))
  (by exact (dss_one (by exact (ds_ret (by exact (de_bin od_mul (by exact (do_exp (by exact (de_bin od_sub (by exact (do_exp (by exact (de_cmp (od_gt hr) (do_var 4) (by exact (do_exp de_int)) (nomark _))))) (by exact (do_exp (by exact (de_cmp (od_lt hr) (do_var 4) (by exact (do_exp de_int)) (nomark _))))))))) (by exact (do_exp (by exact (de_if (by exact (dt_cmp (od_gt hr) (do_var 2) (by exact (do_exp de_int)) (nomark _))) de_int (by exact (de_bin od_sub (by exact (do_exp de_int)) (by exact (do_exp de_int))))))))))))))))))))))))) pure__law_sign
theorem ok__law_less (T : TF K mg) : GFn P w K mg base 2 T.a__law_less T.d__law_less ["one", "other"] sp__law_less :=
  fn_ok (t := b__law_less) T.F__law_less sc__law_less (fun cdv A outer s H hg hr =>
  (by exact (dss_one (by exact (ds_ret (by exact (de_cmp (od_gt hr) (by exact (do_exp (by exact (de_fn (ok__law_sign T) (hr.mono (by decide)) hg (by rfl) T.g__law_sign T.F__law_sign.kp T.b__law_sign (by exact (df_cons (by exact (de_bin od_sub (by exact (do_exp (by exact (de_ix xd_ix (do_var 1) (by exact (do_exp de_int)))))) (by exact (do_exp (by exact (de_ix xd_ix (do_var 0) (by exact (do_exp de_int)))))))) (by exact (df_cons (by exact (de_bin od_sub (by exact (do_exp (by exact (de_ix xd_ix (do_var 1) (by exact (do_exp de_int)))))) (by exact (do_exp (by exact (de_ix xd_ix (do_var 0) (by exact (do_exp de_int)))))))) df_nil)))))))) (by exact (do_exp de_int)) (nomark _)))))))) pure__law_less
theorem ok__law_power (T : TF K mg) : GFn P w K mg base 1 T.a__law_power T.d__law_power ["many"] sp__law_power :=
  fn_ok (t := b__law_power) T.F__law_power sc__law_power (fun cdv A outer s H hg hr =>
  (by exact (dss_cons (by exact (ds_asg (by exact (de_tup (by exact (df_cons (by exact (de_tup (by exact (df_cons de_int (by exact (df_cons de_int df_nil)))))) (by exact (df_cons (by exact (de_tup (by exact (df_cons de_int (by exact (df_cons de_int df_nil)))))) df_nil)))))) (by exact (dg_tup (by rfl) (dgs_cons (by exact (dg_name 1 sc__law_power.nd)) (by exact (dgs_cons (by exact (dg_name 2 sc__law_power.nd)) dgs_nil)))))))
  (by exact (dss_cons (by exact (ds_for (tb := b__law_power_F1) PassesOwn.never (by rfl) (by exact (di_range1 (by rfl) T.z_range (de_var 0))) (by exact (dg_name 3 sc__law_power.nd)) (by exact (dss_one (by exact (ds_par 1 2 (by rfl) sc__law_power.nd (by exact (df_cons (de_var 2) (by exact (df_cons (by exact (de_tup (by exact (df_cons (by exact (de_bin od_sub (by exact (do_exp (by exact (de_ix xd_ix (do_var 1) (by exact (do_exp de_int)))))) (by exact (do_exp (by exact (de_ix xd_ix (do_var 2) (by exact (do_exp de_int)))))))) (by exact (df_cons (by exact (de_bin od_sub (by exact (do_exp (by exact (de_ix xd_ix (do_var 1) (by exact (do_exp de_int)))))) (by exact (do_exp (by exact (de_ix xd_ix (do_var 2) (by exact (do_exp de_int)))))))) df_nil)))))) df_nil))))))))))
  (by exact (dss_one (ds_retV 1)))))))) pure__law_power
theorem ok_is_golden (T : TF K mg) : GFn P w K mg base 2 T.a_is_golden T.d_is_golden ["value"] sp_is_golden :=
  fn_ok (t := b_is_golden) T.F_is_golden sc_is_golden (fun cdv A outer s H hg hr =>
  (by exact (dss_one (by exact (ds_ret (by exact (de_and (by exact (de_isi (T := "tuple") (by decide) (by rfl) T.z_isinstance (by rfl) T.z_tuple bt_tuple (do_var 0))) (by exact (de_and (by exact (de_cmp (od_eq hr) (by exact (do_exp (by exact (de_builtin cd_len (by rfl) T.z_len bt_len (by exact (da_cons (do_var 0) da_nil)))))) (by exact (do_exp de_int)) (nomark _))) (by exact (de_and (by exact (de_fn (ok_is_whole T) (hr.mono (by decide)) hg (by rfl) T.g_is_whole T.F_is_whole.kp T.b_is_whole (by exact (df_cons (by exact (de_ix xd_ix (do_var 0) (by exact (do_exp de_int)))) df_nil)))) (by exact (de_one (by exact (de_fn (ok_is_whole T) (hr.mono (by decide)) hg (by rfl) T.g_is_whole T.F_is_whole.kp T.b_is_whole (by exact (df_cons (by exact (de_ix xd_ix (do_var 0) (by exact (do_exp de_int)))) df_nil))))))))))))))))) pure_is_golden
theorem ok_check_golden (T : TF K mg) : GFn P w K mg base 3 T.a_check_golden T.d_check_golden ["value"] sp_check_golden :=
  fn_ok (t := b_check_golden) T.F_check_golden sc_check_golden (fun cdv A outer s H hg hr =>
  (by exact (dss_one (by exact (ds_if (by exact (dt_not (by exact (dt_val (by exact (de_fn (ok_is_golden T) (hr.mono (by decide)) hg (by rfl) T.g_is_golden T.F_is_golden.kp T.b_is_golden (by exact (df_cons (de_var 0) df_nil)))))))) (by exact (dss_one ds_never)) dss_nil))))) pure_check_golden
theorem ok_is_above_nothing (T : TF K mg) : GFn P w K mg base 1 T.a_is_above_nothing T.d_is_above_nothing ["whole", "part"] sp_is_above_nothing :=
  fn_ok (t := b_is_above_nothing) T.F_is_above_nothing sc_is_above_nothing (fun cdv A outer s H hg hr =>
  (by exact (dss_cons (by exact (ds_set 2 sc_is_above_nothing.nd (by exact (de_bin od_sub (by exact (do_exp (by exact (de_bin od_mul (by exact (do_exp de_int)) (do_var 0))))) (do_var 1)))))
  (by exact (dss_cons (by exact (ds_if (by exact (dt_cmp (od_ge hr) (do_var 1) (by exact (do_exp de_int)) (nomark _))) (by exact (dss_one (by exact (ds_ret (by exact (de_or (by exact (de_cmp (od_gt hr) (do_var 2) (by exact (do_exp de_int)) (nomark _))) (by exact (de_one (by exact (de_cmp (od_gt hr) (by exact (do_exp (by exact (de_bin od_mul (by exact (do_exp (by exact (de_bin od_mul (by exact (do_exp de_int)) (do_var 1))))) (do_var 1))))) (by exact (do_exp (by exact (de_bin od_mul (do_var 2) (do_var 2))))) (nomark _))))))))))) dss_nil))
  (by exact (dss_one (by exact (ds_ret (by exact (de_and (by exact (de_cmp (od_gt hr) (do_var 2) (by exact (do_exp de_int)) (nomark _))) (by exact (de_one (by exact (de_cmp (od_gt hr) (by exact (do_exp (by exact (de_bin od_mul (do_var 2) (do_var 2))))) (by exact (do_exp (by exact (de_bin od_mul (by exact (do_exp (by exact (de_bin od_mul (by exact (do_exp de_int)) (do_var 1))))) (do_var 1))))) (nomark _)))))))))))))))) pure_is_above_nothing
theorem ok_is_golden_less (T : TF K mg) : GFn P w K mg base 4 T.a_is_golden_less T.d_is_golden_less ["one", "other"] sp_is_golden_less :=
  fn_ok (t := b_is_golden_less) T.F_is_golden_less sc_is_golden_less (fun cdv A outer s H hg hr =>
  (by exact (dss_cons (by exact (ds_expr (by exact (de_fn (ok_check_golden T) (hr.mono (by decide)) hg (by rfl) T.g_check_golden T.F_check_golden.kp T.b_check_golden (by exact (df_cons (de_var 0) df_nil))))))
  (by exact (dss_cons (by exact (ds_expr (by exact (de_fn (ok_check_golden T) (hr.mono (by decide)) hg (by rfl) T.g_check_golden T.F_check_golden.kp T.b_check_golden (by exact (df_cons (de_var 1) df_nil))))))
  (by exact (dss_one (by exact (ds_ret (by exact (de_fn (ok_is_above_nothing T) (hr.mono (by decide)) hg (by rfl) T.g_is_above_nothing T.F_is_above_nothing.kp T.b_is_above_nothing (by exact (df_cons (by exact (de_bin od_sub (by exact (do_exp (by exact (de_ix xd_ix (do_var 1) (by exact (do_exp de_int)))))) (by exact (do_exp (by exact (de_ix xd_ix (do_var 0) (by exact (do_exp de_int)))))))) (by exact (df_cons (by exact (de_bin od_sub (by exact (do_exp (by exact (de_ix xd_ix (do_var 1) (by exact (do_exp de_int)))))) (by exact (do_exp (by exact (de_ix xd_ix (do_var 0) (by exact (do_exp de_int)))))))) df_nil))))))))))))))) pure_is_golden_less
theorem ok_check_number (T : TF K mg) : GFn P w K mg base 3 T.a_check_number T.d_check_number ["value"] sp_check_number :=
  fn_ok (t := b_check_number) T.F_check_number sc_check_number (fun cdv A outer s H hg hr =>
  (by exact (dss_one (by exact (ds_if (by exact (dt_not (by exact (dt_val (by exact (de_fn (ok_is_count T) (hr.mono (by decide)) hg (by rfl) T.g_is_count T.F_is_count.kp T.b_is_count (by exact (df_cons (de_var 0) df_nil)))))))) (by exact (dss_one ds_never)) dss_nil))))) pure_check_number
theorem ok_power_of_golden (T : TF K mg) : GFn P w K mg base 1 T.a_power_of_golden T.d_power_of_golden ["many"] sp_power_of_golden :=
  fn_ok (t := b_power_of_golden) T.F_power_of_golden sc_power_of_golden (fun cdv A outer s H hg hr =>
  (by exact (dss_cons (by exact (ds_asg (by exact (de_tup (by exact (df_cons de_int (by exact (df_cons de_int df_nil)))))) (by exact (dg_tup (by rfl) (dgs_cons (by exact (dg_name 1 sc_power_of_golden.nd)) (by exact (dgs_cons (by exact (dg_name 2 sc_power_of_golden.nd)) dgs_nil)))))))
  (by exact (dss_cons (by exact (ds_for (tb := b_power_of_golden_F1) PassesOwn.never (by rfl) (by exact (di_range1 (by rfl) T.z_range (de_var 0))) (by exact (dg_name 3 sc_power_of_golden.nd)) (by exact (dss_one (by exact (ds_par 1 2 (by rfl) sc_power_of_golden.nd (by exact (df_cons (de_var 2) (by exact (df_cons (by exact (de_bin od_sub (do_var 1) (do_var 2))) df_nil))))))))))
  (by exact (dss_one (by exact (ds_ret (by exact (de_tup (by exact (df_cons (de_var 1) (by exact (df_cons (de_var 2) df_nil))))))))))))))) pure_power_of_golden
theorem ok_golden_power (T : TF K mg) : GFn P w K mg base 4 T.a_golden_power T.d_golden_power ["many"] sp_golden_power :=
  fn_ok (t := b_golden_power) T.F_golden_power sc_golden_power (fun cdv A outer s H hg hr =>
  (by exact (dss_cons (by exact (ds_expr (by exact (de_fn (ok_check_number T) (hr.mono (by decide)) hg (by rfl) T.g_check_number T.F_check_number.kp T.b_check_number (by exact (df_cons (de_var 0) df_nil))))))
  (by exact (dss_one (by exact (ds_ret (by exact (de_fn (ok_power_of_golden T) (hr.mono (by decide)) hg (by rfl) T.g_power_of_golden T.F_power_of_golden.kp T.b_power_of_golden (by exact (df_cons (de_var 0) df_nil))))))))))) pure_golden_power
theorem ok__law_golden_right (T : TF K mg) : GFn P w K mg base 5 T.a__law_golden_right T.d__law_golden_right ["generator"] sp__law_golden_right :=
  fn_ok (t := b__law_golden_right) T.F__law_golden_right sc__law_golden_right (fun cdv A outer s H hg hr =>
  (by exact (dss_cons (by exact (ds_set 1 sc__law_golden_right.nd (by exact (de_fnB 0 (ok__law_numbers T) (hr.mono (by decide)) hg (by rfl) T.g__law_numbers T.F__law_numbers.kp T.b__law_numbers df_nil))))
  (by exact (dss_cons (by exact (ds_for (tb := b__law_golden_right_F1) PassesOwn.never (by rfl) (by exact (di_list (de_var 1))) (by exact (dg_name 2 sc__law_golden_right.nd)) (by exact (dss_cons (by exact (ds_set 3 sc__law_golden_right.nd (by exact (de_fnB 0 (ok__law_pick T) (hr.mono (by decide)) hg (by rfl) T.g__law_pick T.F__law_pick.kp T.b__law_pick (by exact (df_cons (de_var 1) df_nil))))))
  (by exact (dss_cons (by exact (ds_set 4 sc__law_golden_right.nd (by exact (de_fn (ok__law_less T) (hr.mono (by decide)) hg (by rfl) T.g__law_less T.F__law_less.kp T.b__law_less (by exact (df_cons (de_var 2) (by exact (df_cons (de_var 3) df_nil))))))))
  (by exact (dss_one (by exact (ds_if (by exact (dt_cmp (od_ne hr) (by exact (do_exp (by exact (de_builtin (cd_repr hr hg) (by rfl) T.z_repr bt_repr (by exact (da_cons (by exact (do_exp (by exact (de_lst (by exact (df_cons (by exact (de_fn (ok_is_golden_less T) (hr.mono (by decide)) hg (by rfl) T.g_is_golden_less T.F_is_golden_less.kp T.b_is_golden_less (by exact (df_cons (de_var 2) (by exact (df_cons (de_var 3) df_nil)))))) (by exact (df_cons (by exact (de_fnK0 (ok_is_golden_less T) (hr.mono (by decide)) hg (by rfl) T.g_is_golden_less T.F_is_golden_less.kp (kw_of (n := 0) (m := 2) (idx := [1, 0]) (ps := ["one", "other"]) (ks := ["other", "one"]) T.F_is_golden_less (by decide) fun _ _ _ _ _ _ us ws h1 h2 => match us, ws, h1, h2 with | [], [_, _], _, _ => rfl) (by exact (dk_cons (de_var 3) (by exact (dk_cons (de_var 2) dk_nil)))))) (by exact (df_cons (by exact (de_fn (ok_is_golden_less T) (hr.mono (by decide)) hg (by rfl) T.g_is_golden_less T.F_is_golden_less.kp T.b_is_golden_less (by exact (df_cons (de_var 2) (by exact (df_cons (de_var 2) df_nil)))))) df_nil)))))))))) da_nil)))))) (by exact (do_exp (by exact (de_builtin (cd_repr hr hg) (by rfl) T.z_repr bt_repr (by exact (da_cons (by exact (do_exp (by exact (de_lst (by exact (df_cons (de_var 4) (by exact (df_cons (de_var 4) (by exact (df_cons de_bl df_nil)))))))))) da_nil)))))) (nomark _))) (by exact (dss_one (by exact (ds_ret de_bl)))) dss_nil))))))))))
  (by exact (dss_cons (by exact (ds_for (tb := b__law_golden_right_F2) PassesOwn.never (by rfl) (by exact (di_range1 (by rfl) T.z_range de_int)) (by exact (dg_name 5 sc__law_golden_right.nd)) (by exact (dss_cons (by exact (ds_set 6 sc__law_golden_right.nd (by exact (de_fnB 0 (ok__law_pick T) (hr.mono (by decide)) hg (by rfl) T.g__law_pick T.F__law_pick.kp T.b__law_pick (by exact (df_cons (by exact (de_lst (by exact (df_cons de_int (by exact (df_cons de_int (by exact (df_cons de_int (by exact (df_cons (by exact (de_fnB 0 (ok__law_random T) (hr.mono (by decide)) hg (by rfl) T.g__law_random T.F__law_random.kp T.b__law_random (by exact (df_cons de_int df_nil)))) (by exact (df_cons (by exact (de_fnB 0 (ok__law_random T) (hr.mono (by decide)) hg (by rfl) T.g__law_random T.F__law_random.kp T.b__law_random (by exact (df_cons de_int df_nil)))) df_nil)))))))))))) df_nil))))))
  (by exact (dss_cons (by exact (ds_par 7 8 (by rfl) sc__law_golden_right.nd (by exact (df_cons (by exact (de_fn (ok__law_power T) (hr.mono (by decide)) hg (by rfl) T.g__law_power T.F__law_power.kp T.b__law_power (by exact (df_cons (de_var 6) df_nil)))) (by exact (df_cons (by exact (de_fn (ok__law_power T) (hr.mono (by decide)) hg (by rfl) T.g__law_power T.F__law_power.kp T.b__law_power (by exact (df_cons (by exact (de_bin od_add (do_var 6) (by exact (do_exp de_int)))) df_nil)))) df_nil))))))
  (by exact (dss_cons (by exact (ds_if (by exact (dt_cmp (od_ne hr) (by exact (do_exp (by exact (de_builtin (cd_repr hr hg) (by rfl) T.z_repr bt_repr (by exact (da_cons (by exact (do_exp (by exact (de_lst (by exact (df_cons (by exact (de_fn (ok_golden_power T) (hr.mono (by decide)) hg (by rfl) T.g_golden_power T.F_golden_power.kp T.b_golden_power (by exact (df_cons (de_var 6) df_nil)))) (by exact (df_cons (by exact (de_fnK0 (ok_golden_power T) (hr.mono (by decide)) hg (by rfl) T.g_golden_power T.F_golden_power.kp (kw_of (n := 0) (m := 1) (idx := [0]) (ps := ["many"]) (ks := ["many"]) T.F_golden_power (by decide) fun _ _ _ _ _ _ us ws h1 h2 => match us, ws, h1, h2 with | [], [_], _, _ => rfl) (by exact (dk_cons (de_var 6) dk_nil)))) df_nil)))))))) da_nil)))))) (by exact (do_exp (by exact (de_builtin (cd_repr hr hg) (by rfl) T.z_repr bt_repr (by exact (da_cons (by exact (do_exp (by exact (de_lst (by exact (df_cons (de_var 7) (by exact (df_cons (de_var 7) df_nil)))))))) da_nil)))))) (nomark _))) (by exact (dss_one (by exact (ds_ret de_bl)))) dss_nil))
  (by exact (dss_cons (by exact (ds_if (by exact (dt_w (dw_and (by exact (dt_cmp (od_lt hr) (do_var 6) (by exact (do_exp de_int)) (nomark _))) (by exact (dw_and1 (by exact (dt_w (dw_or (by exact (dt_cmp od_isN (by exact (do_exp (by exact (de_fn (ok_is_golden_less T) (hr.mono (by decide)) hg (by rfl) T.g_is_golden_less T.F_is_golden_less.kp T.b_is_golden_less (by exact (df_cons (by exact (de_fn (ok_golden_power T) (hr.mono (by decide)) hg (by rfl) T.g_golden_power T.F_golden_power.kp T.b_golden_power (by exact (df_cons (by exact (de_bin od_add (do_var 6) (by exact (do_exp de_int)))) df_nil)))) (by exact (df_cons (by exact (de_fn (ok_golden_power T) (hr.mono (by decide)) hg (by rfl) T.g_golden_power T.F_golden_power.kp T.b_golden_power (by exact (df_cons (de_var 6) df_nil)))) df_nil)))))))) (by exact (do_exp de_bl)) (nomark _))) (by exact (dw_or1 (by exact (dt_cmp od_isN (by exact (do_exp (by exact (de_fn (ok_is_golden_less T) (hr.mono (by decide)) hg (by rfl) T.g_is_golden_less T.F_is_golden_less.kp T.b_is_golden_less (by exact (df_cons (by exact (de_fn (ok_golden_power T) (hr.mono (by decide)) hg (by rfl) T.g_golden_power T.F_golden_power.kp T.b_golden_power (by exact (df_cons (de_var 6) df_nil)))) (by exact (df_cons (by exact (de_fn (ok_golden_power T) (hr.mono (by decide)) hg (by rfl) T.g_golden_power T.F_golden_power.kp T.b_golden_power (by exact (df_cons (by exact (de_bin od_add (do_var 6) (by exact (do_exp de_int)))) df_nil)))) df_nil)))))))) (by exact (do_exp de_bl)) (nomark _))))))))))))) (by exact (dss_one (by exact (ds_ret de_bl)))) dss_nil))
  (by exact (dss_one (by exact (ds_if (by exact (dt_w (dw_or (by exact (dt_w (dw_and (by exact (dt_cmp (od_lt hr) (do_var 6) (by exact (do_exp de_int)) (nomark _))) (by exact (dw_and1 (by exact (dt_cmp (od_ne hr) (by exact (do_exp (by exact (de_builtin (cd_repr hr hg) (by rfl) T.z_repr bt_repr (by exact (da_cons (by exact (do_exp (by exact (de_fn (ok_golden_power T) (hr.mono (by decide)) hg (by rfl) T.g_golden_power T.F_golden_power.kp T.b_golden_power (by exact (df_cons (by exact (de_bin od_add (do_var 6) (by exact (do_exp de_int)))) df_nil)))))) da_nil)))))) (by exact (do_exp (by exact (de_builtin (cd_repr hr hg) (by rfl) T.z_repr bt_repr (by exact (da_cons (do_var 8) da_nil)))))) (nomark _)))))))) (by exact (dw_or1 (by exact (dt_cmp od_isN (by exact (do_exp (by exact (de_fn (ok_is_golden_less T) (hr.mono (by decide)) hg (by rfl) T.g_is_golden_less T.F_is_golden_less.kp T.b_is_golden_less (by exact (df_cons (by exact (de_tup (by exact (df_cons de_int (by exact (df_cons de_int df_nil)))))) (by exact (df_cons (de_var 7) df_nil)))))))) (by exact (do_exp de_bl)) (nomark _)))))))) (by exact (dss_one (by exact (ds_ret de_bl)))) dss_nil))))))))))))))
  (by exact (dss_one (by exact (ds_ret de_bl))))))))))) pure__law_golden_right
theorem ok_ascends (T : TF K mg) : GFn P w K mg base 1 T.a_ascends T.d_ascends ["items"] sp_ascends :=
  fn_ok (t := b_ascends) T.F_ascends sc_ascends (fun cdv A outer s H hg hr =>
  (by exact (dss_one (by exact (ds_ret (by exact (de_cmp (od_eq hr) (by exact (do_exp (by exact (de_lc (own := [("at", 1)]) (g := b_ascends_g1) (tt := b_ascends_t2) (te := b_ascends_e3) (by rfl) sc_ascends.nd (by exact (di_range2 (by rfl) T.z_range de_int (by exact (de_builtin cd_len (by rfl) T.z_len bt_len (by exact (da_cons (do_var 0) da_nil)))))) (by exact blkOk_by (N := N_ascends) (sc := defScope s_ascends) (own := [("at", 1)]) (by decide +kernel)) (by intro _ _ _ _ _; exact (by exact (dg_name 1 sc_ascends.nd))) (by intro _ _ _ _ _; exact (dts_one (by exact (dt_cmp (od_ge hr) (by exact (do_exp (by exact (de_ix xd_ix (do_var 0) (by exact (do_exp (by exact (de_bin od_sub (do_var 1) (by exact (do_exp de_int)))))))))) (by exact (do_exp (by exact (de_ix xd_ix (do_var 0) (do_var 1))))) (nomark _))))) (by intro _ _ _ _ _; exact (de_var 1)) (by decide))))) (by exact (do_exp (by exact (de_lst df_nil)))) (nomark _)))))))) pure_ascends
theorem ok_is_hole (T : TF K mg) : GFn P w K mg base 3 T.a_is_hole T.d_is_hole ["value"] sp_is_hole :=
  fn_ok (t := b_is_hole) T.F_is_hole sc_is_hole (fun cdv A outer s H hg hr =>
  (by exact (dss_one (by exact (ds_ret (by exact (de_and (by exact (de_isi (T := "tuple") (by decide) (by rfl) T.z_isinstance (by rfl) T.z_tuple bt_tuple (do_var 0))) (by exact (de_and (by exact (de_cmp (od_eq hr) (by exact (do_exp (by exact (de_builtin cd_len (by rfl) T.z_len bt_len (by exact (da_cons (do_var 0) da_nil)))))) (by exact (do_exp de_int)) (nomark _))) (by exact (de_and (by exact (de_fn (ok_is_count T) (hr.mono (by decide)) hg (by rfl) T.g_is_count T.F_is_count.kp T.b_is_count (by exact (df_cons (by exact (de_ix xd_ix (do_var 0) (by exact (do_exp de_int)))) df_nil)))) (by exact (de_one (by exact (de_fn (ok_is_count T) (hr.mono (by decide)) hg (by rfl) T.g_is_count T.F_is_count.kp T.b_is_count (by exact (df_cons (by exact (de_ix xd_ix (do_var 0) (by exact (do_exp de_int)))) df_nil))))))))))))))))) pure_is_hole
theorem ok_are_holes (T : TF K mg) : GFn P w K mg base 4 T.a_are_holes T.d_are_holes ["value"] sp_are_holes :=
  fn_ok (t := b_are_holes) T.F_are_holes sc_are_holes (fun cdv A outer s H hg hr =>
  (by exact (dss_one (by exact (ds_ret (by exact (de_and (by exact (de_isi (T := "list") (by decide) (by rfl) T.z_isinstance (by rfl) T.z_list bt_list (do_var 0))) (by exact (de_and (by exact (de_builtin (cd_all (by rfl)) (by rfl) T.z_all bt_all (by exact (da_cons (by exact (do_exp (by exact (de_lc (own := [("cell", 1)]) (g := b_are_holes_g1) (tt := b_are_holes_t2) (te := b_are_holes_e3) (by rfl) sc_are_holes.nd (by exact (di_list (de_var 0))) (by exact blkOk_by (N := N_are_holes) (sc := defScope s_are_holes) (own := [("cell", 1)]) (by decide +kernel)) (by intro _ _ _ _ _; exact (by exact (dg_name 1 sc_are_holes.nd))) (by intro _ _ _ _ _; exact dts_nil) (by intro _ _ _ _ _; exact (by exact (de_fn (ok_is_hole T) (hr.mono (by decide)) hg (by rfl) T.g_is_hole T.F_is_hole.kp T.b_is_hole (by exact (df_cons (de_var 1) df_nil))))) (by decide))))) da_nil)))) (by exact (de_one (by exact (de_fn (ok_ascends T) (hr.mono (by decide)) hg (by rfl) T.g_ascends T.F_ascends.kp T.b_ascends (by exact (df_cons (de_var 0) df_nil))))))))))))))) pure_are_holes
theorem ok_check_far_pegs (T : TF K mg) : GFn P w K mg base 5 T.a_check_far_pegs T.d_check_far_pegs ["pegs", "goal"] sp_check_far_pegs :=
  fn_ok (t := b_check_far_pegs) T.F_check_far_pegs sc_check_far_pegs (fun cdv A outer s H hg hr =>
  (by exact (dss_cons (by exact (ds_if (by exact (dt_not (by exact (dt_val (by exact (de_fn (ok_are_holes T) (hr.mono (by decide)) hg (by rfl) T.g_are_holes T.F_are_holes.kp T.b_are_holes (by exact (df_cons (de_var 0) df_nil)))))))) (by exact (dss_one ds_never)) dss_nil))
  (by exact (dss_one (by exact (ds_if (by exact (dt_not (by exact (dt_val (by exact (de_fn (ok_is_hole T) (hr.mono (by decide)) hg (by rfl) T.g_is_hole T.F_is_hole.kp T.b_is_hole (by exact (df_cons (de_var 1) df_nil)))))))) (by exact (dss_one ds_never)) dss_nil))))))) pure_check_far_pegs
theorem ok_weight_to (T : TF K mg) : GFn P w K mg base 2 T.a_weight_to T.d_weight_to ["pegs", "goal"] sp_weight_to :=
  fn_ok (t := b_weight_to) T.F_weight_to sc_weight_to (fun cdv A outer s H hg hr =>
  (by exact (dss_cons (by exact (ds_set 2 sc_weight_to.nd (by exact (de_tup (by exact (df_cons de_int (by exact (df_cons de_int df_nil))))))))
  (by exact (dss_cons (by exact (ds_for (tb := b_weight_to_F1) PassesOwn.never (by rfl) (by exact (di_list (de_var 0))) (by exact (dg_tup (by rfl) (dgs_cons (by exact (dg_name 3 sc_weight_to.nd)) (by exact (dgs_cons (by exact (dg_name 4 sc_weight_to.nd)) dgs_nil))))) (by exact (dss_cons (by exact (ds_asg (by exact (de_fn (ok_power_of_golden T) (hr.mono (by decide)) hg (by rfl) T.g_power_of_golden T.F_power_of_golden.kp T.b_power_of_golden (by exact (df_cons (by exact (de_bin od_add (by exact (do_exp (by exact (de_builtin cd_abs (by rfl) T.z_abs bt_abs (by exact (da_cons (by exact (do_exp (by exact (de_bin od_sub (do_var 3) (by exact (do_exp (by exact (de_ix xd_ix (do_var 1) (by exact (do_exp de_int)))))))))) da_nil)))))) (by exact (do_exp (by exact (de_builtin cd_abs (by rfl) T.z_abs bt_abs (by exact (da_cons (by exact (do_exp (by exact (de_bin od_sub (do_var 4) (by exact (do_exp (by exact (de_ix xd_ix (do_var 1) (by exact (do_exp de_int)))))))))) da_nil)))))))) df_nil)))) (by exact (dg_tup (by rfl) (dgs_cons (by exact (dg_name 5 sc_weight_to.nd)) (by exact (dgs_cons (by exact (dg_name 6 sc_weight_to.nd)) dgs_nil)))))))
  (by exact (dss_one (by exact (ds_set 2 sc_weight_to.nd (by exact (de_tup (by exact (df_cons (by exact (de_bin od_add (by exact (do_exp (by exact (de_ix xd_ix (do_var 2) (by exact (do_exp de_int)))))) (do_var 5))) (by exact (df_cons (by exact (de_bin od_add (by exact (do_exp (by exact (de_ix xd_ix (do_var 2) (by exact (do_exp de_int)))))) (do_var 6))) df_nil))))))))))))))
  (by exact (dss_one (ds_retV 2)))))))) pure_weight_to
theorem ok_is_out_of_reach (T : TF K mg) : GFn P w K mg base 6 T.a_is_out_of_reach T.d_is_out_of_reach ["pegs", "goal"] sp_is_out_of_reach :=
  fn_ok (t := b_is_out_of_reach) T.F_is_out_of_reach sc_is_out_of_reach (fun cdv A outer s H hg hr =>
  (by exact (dss_cons (by exact (ds_expr (by exact (de_fn (ok_check_far_pegs T) (hr.mono (by decide)) hg (by rfl) T.g_check_far_pegs T.F_check_far_pegs.kp T.b_check_far_pegs (by exact (df_cons (de_var 0) (by exact (df_cons (de_var 1) df_nil))))))))
  (by exact (dss_cons (by exact (ds_asg (by exact (de_fn (ok_weight_to T) (hr.mono (by decide)) hg (by rfl) T.g_weight_to T.F_weight_to.kp T.b_weight_to (by exact (df_cons (de_var 0) (by exact (df_cons (de_var 1) df_nil)))))) (by exact (dg_tup (by rfl) (dgs_cons (by exact (dg_name 2 sc_is_out_of_reach.nd)) (by exact (dgs_cons (by exact (dg_name 3 sc_is_out_of_reach.nd)) dgs_nil)))))))
  (by exact (dss_one (by exact (ds_ret (by exact (de_fn (ok_is_above_nothing T) (hr.mono (by decide)) hg (by rfl) T.g_is_above_nothing T.F_is_above_nothing.kp T.b_is_above_nothing (by exact (df_cons (by exact (de_bin od_sub (by exact (do_exp de_int)) (do_var 2))) (by exact (df_cons (by exact (de_bin od_sub (by exact (do_exp de_int)) (do_var 3))) df_nil))))))))))))))) pure_is_out_of_reach
theorem ok_golden_weight (T : TF K mg) : GFn P w K mg base 6 T.a_golden_weight T.d_golden_weight ["pegs", "goal"] sp_golden_weight :=
  fn_ok (t := b_golden_weight) T.F_golden_weight sc_golden_weight (fun cdv A outer s H hg hr =>
  (by exact (dss_cons (by exact (ds_expr (by exact (de_fn (ok_check_far_pegs T) (hr.mono (by decide)) hg (by rfl) T.g_check_far_pegs T.F_check_far_pegs.kp T.b_check_far_pegs (by exact (df_cons (de_var 0) (by exact (df_cons (de_var 1) df_nil))))))))
  (by exact (dss_one (by exact (ds_ret (by exact (de_fn (ok_weight_to T) (hr.mono (by decide)) hg (by rfl) T.g_weight_to T.F_weight_to.kp T.b_weight_to (by exact (df_cons (de_var 0) (by exact (df_cons (de_var 1) df_nil))))))))))))) pure_golden_weight
theorem ok__law_weights_right (T : TF K mg) : GFn P w K mg base 7 T.a__law_weights_right T.d__law_weights_right ["generator"] sp__law_weights_right :=
  fn_ok (t := b__law_weights_right) T.F__law_weights_right sc__law_weights_right (fun cdv A outer s H hg hr =>
  (by exact (dss_cons (by exact (ds_par 1 2 (by rfl) sc__law_weights_right.nd (by exact (df_cons (by exact (de_fnB 0 (ok__law_pick T) (hr.mono (by decide)) hg (by rfl) T.g__law_pick T.F__law_pick.kp T.b__law_pick (by exact (df_cons (by exact (de_lst (by exact (df_cons de_int (by exact (df_cons de_int (by exact (df_cons de_int df_nil)))))))) df_nil)))) (by exact (df_cons (by exact (de_lst df_nil)) df_nil))))))
  (by exact (dss_cons (by exact (ds_set 3 sc__law_weights_right.nd (by exact (de_tup (by exact (df_cons (by exact (de_fnB 0 (ok__law_random T) (hr.mono (by decide)) hg (by rfl) T.g__law_random T.F__law_random.kp T.b__law_random (by exact (df_cons (de_var 1) df_nil)))) (by exact (df_cons (by exact (de_fnB 0 (ok__law_random T) (hr.mono (by decide)) hg (by rfl) T.g__law_random T.F__law_random.kp T.b__law_random (by exact (df_cons (de_var 1) df_nil)))) df_nil))))))))
  (by exact (dss_cons (by exact (ds_set 4 sc__law_weights_right.nd (by exact (de_fnB 0 (ok__law_pick T) (hr.mono (by decide)) hg (by rfl) T.g__law_pick T.F__law_pick.kp T.b__law_pick (by exact (df_cons (by exact (de_lst (by exact (df_cons de_int (by exact (df_cons de_int (by exact (df_cons de_int df_nil)))))))) df_nil))))))
  (by exact (dss_cons (by exact (ds_for (tb := b__law_weights_right_F1) PassesOwn.never (by rfl) (by exact (di_range1 (by rfl) T.z_range (by exact (de_fnB 0 (ok__law_random T) (hr.mono (by decide)) hg (by rfl) T.g__law_random T.F__law_random.kp T.b__law_random (by exact (df_cons de_int df_nil)))))) (by exact (dg_name 5 sc__law_weights_right.nd)) (by exact (dss_cons (by exact (ds_set 6 sc__law_weights_right.nd (by exact (de_tup (by exact (df_cons (by exact (de_fnB 0 (ok__law_random T) (hr.mono (by decide)) hg (by rfl) T.g__law_random T.F__law_random.kp T.b__law_random (by exact (df_cons (de_var 1) df_nil)))) (by exact (df_cons (by exact (de_fnB 0 (ok__law_random T) (hr.mono (by decide)) hg (by rfl) T.g__law_random T.F__law_random.kp T.b__law_random (by exact (df_cons (de_var 1) df_nil)))) df_nil))))))))
  (by exact (dss_one (by exact (ds_set 2 sc__law_weights_right.nd (by exact (de_bin od_add (do_var 2) (by exact (do_exp (by exact (de_if (by exact (dt_w (dw_and (by exact (dt_cmp (od_notIn hr) (do_var 6) (do_var 2) (by with_unfolding_all rfl))) (by exact (dw_and1 (by exact (dt_cmp (od_ge hr) (by exact (do_exp (by exact (de_builtin cd_abs (by rfl) T.z_abs bt_abs (by exact (da_cons (by exact (do_exp (by exact (de_bin od_sub (by exact (do_exp (by exact (de_ix xd_ix (do_var 6) (by exact (do_exp de_int)))))) (by exact (do_exp (by exact (de_ix xd_ix (do_var 3) (by exact (do_exp de_int)))))))))) da_nil)))))) (by exact (do_exp (by exact (de_builtin (cd_min (by rfl)) (by rfl) T.z_min bt_min (by exact (da_cons (do_var 4) (by exact (da_cons (by exact (do_exp de_int)) da_nil)))))))) (nomark _)))))))) (by exact (de_lst (by exact (df_cons (de_var 6) df_nil)))) (by exact (de_lst df_nil))))))))))))))))
  (by exact (dss_cons (by exact (ds_set 7 sc__law_weights_right.nd (by exact (de_builtin cd_sorted (by rfl) T.z_sorted bt_sorted (by exact (da_cons (do_var 2) da_nil))))))
  (by exact (dss_cons (by exact (ds_par 8 9 (by rfl) sc__law_weights_right.nd (by exact (df_cons (by exact (de_builtin (cd_repr hr hg) (by rfl) T.z_repr bt_repr (by exact (da_cons (do_var 7) da_nil)))) (by exact (df_cons (by exact (de_tup (by exact (df_cons de_int (by exact (df_cons de_int df_nil)))))) df_nil))))))
  (by exact (dss_cons (by exact (ds_for (tb := b__law_weights_right_F2) PassesOwn.never (by rfl) (by exact (di_list (de_var 7))) (by exact (dg_name 6 sc__law_weights_right.nd)) (by exact (dss_cons (by exact (ds_set 10 sc__law_weights_right.nd (by exact (de_fn (ok__law_power T) (hr.mono (by decide)) hg (by rfl) T.g__law_power T.F__law_power.kp T.b__law_power (by exact (df_cons (by exact (de_bin od_add (by exact (do_exp (by exact (de_builtin cd_abs (by rfl) T.z_abs bt_abs (by exact (da_cons (by exact (do_exp (by exact (de_bin od_sub (by exact (do_exp (by exact (de_ix xd_ix (do_var 6) (by exact (do_exp de_int)))))) (by exact (do_exp (by exact (de_ix xd_ix (do_var 3) (by exact (do_exp de_int)))))))))) da_nil)))))) (by exact (do_exp (by exact (de_builtin cd_abs (by rfl) T.z_abs bt_abs (by exact (da_cons (by exact (do_exp (by exact (de_bin od_sub (by exact (do_exp (by exact (de_ix xd_ix (do_var 6) (by exact (do_exp de_int)))))) (by exact (do_exp (by exact (de_ix xd_ix (do_var 3) (by exact (do_exp de_int)))))))))) da_nil)))))))) df_nil))))))
  (by exact (dss_one (by exact (ds_set 9 sc__law_weights_right.nd (by exact (de_tup (by exact (df_cons (by exact (de_bin od_add (by exact (do_exp (by exact (de_ix xd_ix (do_var 9) (by exact (do_exp de_int)))))) (by exact (do_exp (by exact (de_ix xd_ix (do_var 10) (by exact (do_exp de_int)))))))) (by exact (df_cons (by exact (de_bin od_add (by exact (do_exp (by exact (de_ix xd_ix (do_var 9) (by exact (do_exp de_int)))))) (by exact (do_exp (by exact (de_ix xd_ix (do_var 10) (by exact (do_exp de_int)))))))) df_nil))))))))))))))
  (by exact (dss_cons (by exact (ds_set 11 sc__law_weights_right.nd (by exact (de_fn (ok__law_less T) (hr.mono (by decide)) hg (by rfl) T.g__law_less T.F__law_less.kp T.b__law_less (by exact (df_cons (de_var 9) (by exact (df_cons (by exact (de_tup (by exact (df_cons de_int (by exact (df_cons de_int df_nil)))))) df_nil))))))))
  (by exact (dss_cons (by exact (ds_if (by exact (dt_cmp (od_ne hr) (by exact (do_exp (by exact (de_builtin (cd_repr hr hg) (by rfl) T.z_repr bt_repr (by exact (da_cons (by exact (do_exp (by exact (de_lst (by exact (df_cons (by exact (de_fn (ok_golden_weight T) (hr.mono (by decide)) hg (by rfl) T.g_golden_weight T.F_golden_weight.kp T.b_golden_weight (by exact (df_cons (de_var 7) (by exact (df_cons (de_var 3) df_nil)))))) (by exact (df_cons (by exact (de_fnK0 (ok_golden_weight T) (hr.mono (by decide)) hg (by rfl) T.g_golden_weight T.F_golden_weight.kp (kw_of (n := 0) (m := 2) (idx := [1, 0]) (ps := ["pegs", "goal"]) (ks := ["goal", "pegs"]) T.F_golden_weight (by decide) fun _ _ _ _ _ _ us ws h1 h2 => match us, ws, h1, h2 with | [], [_, _], _, _ => rfl) (by exact (dk_cons (de_var 3) (by exact (dk_cons (de_var 7) dk_nil)))))) df_nil)))))))) da_nil)))))) (by exact (do_exp (by exact (de_builtin (cd_repr hr hg) (by rfl) T.z_repr bt_repr (by exact (da_cons (by exact (do_exp (by exact (de_lst (by exact (df_cons (de_var 9) (by exact (df_cons (de_var 9) df_nil)))))))) da_nil)))))) (nomark _))) (by exact (dss_one (by exact (ds_ret de_bl)))) dss_nil))
  (by exact (dss_cons (by exact (ds_if (by exact (dt_cmp (od_ne hr) (by exact (do_exp (by exact (de_builtin (cd_repr hr hg) (by rfl) T.z_repr bt_repr (by exact (da_cons (by exact (do_exp (by exact (de_lst (by exact (df_cons (by exact (de_fn (ok_is_out_of_reach T) (hr.mono (by decide)) hg (by rfl) T.g_is_out_of_reach T.F_is_out_of_reach.kp T.b_is_out_of_reach (by exact (df_cons (de_var 7) (by exact (df_cons (de_var 3) df_nil)))))) (by exact (df_cons (by exact (de_fnK0 (ok_is_out_of_reach T) (hr.mono (by decide)) hg (by rfl) T.g_is_out_of_reach T.F_is_out_of_reach.kp (kw_of (n := 0) (m := 2) (idx := [1, 0]) (ps := ["pegs", "goal"]) (ks := ["goal", "pegs"]) T.F_is_out_of_reach (by decide) fun _ _ _ _ _ _ us ws h1 h2 => match us, ws, h1, h2 with | [], [_, _], _, _ => rfl) (by exact (dk_cons (de_var 3) (by exact (dk_cons (de_var 7) dk_nil)))))) df_nil)))))))) da_nil)))))) (by exact (do_exp (by exact (de_builtin (cd_repr hr hg) (by rfl) T.z_repr bt_repr (by exact (da_cons (by exact (do_exp (by exact (de_lst (by exact (df_cons (de_var 11) (by exact (df_cons (de_var 11) df_nil)))))))) da_nil)))))) (nomark _))) (by exact (dss_one (by exact (ds_ret de_bl)))) dss_nil))
  (by exact (dss_cons (by exact (ds_set 12 sc__law_weights_right.nd (by exact (de_bin od_add (by exact (do_exp de_int)) (by exact (do_exp (by exact (de_fnB 0 (ok__law_random T) (hr.mono (by decide)) hg (by rfl) T.g__law_random T.F__law_random.kp T.b__law_random (by exact (df_cons de_int df_nil))))))))))
  (by exact (dss_cons (by exact (ds_setLc (i := 13) (own := [("at", 14)]) (g := b__law_weights_right_g3) (tt := b__law_weights_right_t4) (te := b__law_weights_right_e5) (by rfl) sc__law_weights_right.nd (by rfl) (by rfl) (by exact sw_true (by rfl) (by rfl) (by rfl) (by decide +kernel)) (by exact (di_range1 (by rfl) T.z_range de_int)) (by exact blkOk_by (N := N__law_weights_right) (sc := defScope s__law_weights_right) (own := [("at", 14)]) (by decide +kernel)) (by intro _ _ _ _ _; exact (by exact (dg_name 14 sc__law_weights_right.nd))) (by intro _ _ _ _ _; exact dts_nil) (by intro _ _ _ _ _; exact (by exact (de_tup (by exact (df_cons (by exact (de_bin od_add (do_var 12) (by exact (do_exp (by exact (de_bin od_div (do_var 14) (by exact (do_exp de_int)))))))) (by exact (df_cons (by exact (de_bin od_add (by exact (do_exp de_int)) (by exact (do_exp (by exact (de_bin od_mod (do_var 14) (by exact (do_exp de_int)))))))) df_nil))))))) (by decide)))
  (by exact (dss_one (by exact (ds_ret (by exact (de_and (by exact (de_cmp od_is (by exact (do_exp (by exact (de_fn (ok_is_out_of_reach T) (hr.mono (by decide)) hg (by rfl) T.g_is_out_of_reach T.F_is_out_of_reach.kp T.b_is_out_of_reach (by exact (df_cons (de_var 13) (by exact (df_cons (by exact (de_tup (by exact (df_cons de_int (by exact (df_cons de_int df_nil)))))) df_nil)))))))) (by exact (do_exp de_bl)) (nomark _))) (by exact (de_one (by exact (de_cmp (od_eq hr) (by exact (do_exp (by exact (de_builtin (cd_repr hr hg) (by rfl) T.z_repr bt_repr (by exact (da_cons (do_var 7) da_nil)))))) (do_var 8) (nomark _)))))))))))))))))))))))))))))))))))) pure__law_weights_right
theorem ok_law (T : TF K mg) : GFn P w K mg base 8 T.a_law T.d_law ["script"] sp_law :=
  fn_ok (t := b_law) T.F_law sc_law (fun cdv A outer s H hg hr =>
  (by exact (dss_cons (by exact (ds_for (tb := b_law_F1) PassesOwn.never (by rfl) (by exact (di_range1 (by rfl) T.z_range de_int)) (by exact (dg_name 1 sc_law.nd)) (by exact (dss_cons (by exact (ds_set 2 sc_law.nd (by exact (de_fn (ok__law_generator T) (hr.mono (by decide)) hg (by rfl) T.g__law_generator T.F__law_generator.kp T.b__law_generator (by exact (df_cons (de_var 0) (by exact (df_cons (de_var 1) df_nil))))))))
  (by exact (dss_one (by exact (ds_if (by exact (dt_w (dw_or (by exact (dt_not (by exact (dt_val (by exact (de_fnB 2 (ok__law_golden_right T) (hr.mono (by decide)) hg (by rfl) T.g__law_golden_right T.F__law_golden_right.kp T.b__law_golden_right df_nil)))))) (by exact (dw_or1 (by exact (dt_not (by exact (dt_val (by exact (de_fnB 2 (ok__law_weights_right T) (hr.mono (by decide)) hg (by rfl) T.g__law_weights_right T.F__law_weights_right.kp T.b__law_weights_right df_nil))))))))))) (by exact (dss_one (by exact (ds_ret de_bl)))) dss_nil))))))))
  (by exact (dss_cons (by exact (ds_set 2 sc_law.nd (by exact (de_fn (ok__law_generator T) (hr.mono (by decide)) hg (by rfl) T.g__law_generator T.F__law_generator.kp T.b__law_generator (by exact (df_cons (de_var 0) (by exact (df_cons de_int df_nil))))))))
  (by exact (dss_cons (by exact (ds_set 3 sc_law.nd (by exact (de_bin od_add (by exact (do_exp de_int)) (by exact (do_exp (by exact (de_fnB 2 (ok__law_random T) (hr.mono (by decide)) hg (by rfl) T.g__law_random T.F__law_random.kp T.b__law_random (by exact (df_cons (by exact (de_bin od_pow (by exact (do_exp de_int)) (by exact (do_exp de_int)))) df_nil))))))))))
  (by exact (dss_one (by exact (ds_ret (by exact (de_cmp (od_eq hr) (by exact (do_exp (by exact (de_lc (own := [("one", 4)]) (g := b_law_g2) (tt := b_law_t3) (te := b_law_e4) (by rfl) sc_law.nd (by exact (di_tup (by exact (de_tup (by exact (df_cons de_int (by exact (df_cons de_int (by exact (df_cons de_int (by exact (df_cons de_int (by exact (df_cons de_int (by exact (df_cons de_int (by exact (df_cons (de_var 3) df_nil)))))))))))))))))) (by exact blkOk_by (N := N_law) (sc := defScope s_law) (own := [("one", 4)]) (by decide +kernel)) (by intro _ _ _ _ _; exact (by exact (dg_name 4 sc_law.nd))) (by intro _ _ _ _ _; exact dts_nil) (by intro _ _ _ _ _; exact (by exact (de_fn (ok_fewest_soldiers T) (hr.mono (by decide)) hg (by rfl) T.g_fewest_soldiers T.F_fewest_soldiers.kp T.b_fewest_soldiers (by exact (df_cons (de_var 4) df_nil))))) (by decide))))) (by exact (do_exp (by exact (de_lst (by exact (df_cons de_int (by exact (df_cons de_int (by exact (df_cons de_int (by exact (df_cons de_int (by exact (df_cons de_non (by exact (df_cons de_non (by exact (df_cons de_non df_nil)))))))))))))))))) (nomark _)))))))))))))) pure_law

theorem facts {P : Program} {w : World} {K : Fg} {h : Heap} {mg : Str → Option Value} {fa : Addr} (X : K.In h) (G : h.Ns mainGlobals mg) (hfa : mg "law" = some (.ref fa))
    {od__law_cell an__law_cell : Option Addr} {sl__law_cell : Array (Option Value)} {oc__law_cell kV__law_cell dc__law_cell pm__law_cell cd__law_cell ct__law_cell : Value} {f__law_cell : Addr}
    (a__law_cell : PySem.W.nsIn K mainGlobals "_law_cell" = some (some (.ref f__law_cell))) (l__law_cell : K.lookup f__law_cell = some ⟨oc__law_cell, od__law_cell, .func (PySem.W.fnOf "_law_cell" "_law_cell" (defArgs s__law_cell) (defBody s__law_cell) (defScope s__law_cell) .none kV__law_cell dc__law_cell pm__law_cell an__law_cell cd__law_cell ct__law_cell), sl__law_cell⟩) (cc__law_cell : PySem.W.codeIn K cd__law_cell "_law_cell" = true) (k__law_cell : PySem.W.keepIn K (.ref f__law_cell) = true)
    {od__law_generator an__law_generator : Option Addr} {sl__law_generator : Array (Option Value)} {oc__law_generator kV__law_generator dc__law_generator pm__law_generator cd__law_generator ct__law_generator : Value} {f__law_generator : Addr}
    (a__law_generator : PySem.W.nsIn K mainGlobals "_law_generator" = some (some (.ref f__law_generator))) (l__law_generator : K.lookup f__law_generator = some ⟨oc__law_generator, od__law_generator, .func (PySem.W.fnOf "_law_generator" "_law_generator" (defArgs s__law_generator) (defBody s__law_generator) (defScope s__law_generator) .none kV__law_generator dc__law_generator pm__law_generator an__law_generator cd__law_generator ct__law_generator), sl__law_generator⟩) (cc__law_generator : PySem.W.codeIn K cd__law_generator "_law_generator" = true) (k__law_generator : PySem.W.keepIn K (.ref f__law_generator) = true)
    {od__law_hash an__law_hash : Option Addr} {sl__law_hash : Array (Option Value)} {oc__law_hash kV__law_hash dc__law_hash pm__law_hash cd__law_hash ct__law_hash : Value} {f__law_hash : Addr}
    (a__law_hash : PySem.W.nsIn K mainGlobals "_law_hash" = some (some (.ref f__law_hash))) (l__law_hash : K.lookup f__law_hash = some ⟨oc__law_hash, od__law_hash, .func (PySem.W.fnOf "_law_hash" "_law_hash" (defArgs s__law_hash) (defBody s__law_hash) (defScope s__law_hash) .none kV__law_hash dc__law_hash pm__law_hash an__law_hash cd__law_hash ct__law_hash), sl__law_hash⟩) (cc__law_hash : PySem.W.codeIn K cd__law_hash "_law_hash" = true) (k__law_hash : PySem.W.keepIn K (.ref f__law_hash) = true)
    {od__law_random an__law_random : Option Addr} {sl__law_random : Array (Option Value)} {oc__law_random kV__law_random dc__law_random pm__law_random cd__law_random ct__law_random : Value} {f__law_random : Addr}
    (a__law_random : PySem.W.nsIn K mainGlobals "_law_random" = some (some (.ref f__law_random))) (l__law_random : K.lookup f__law_random = some ⟨oc__law_random, od__law_random, .func (PySem.W.fnOf "_law_random" "_law_random" (defArgs s__law_random) (defBody s__law_random) (defScope s__law_random) .none kV__law_random dc__law_random pm__law_random an__law_random cd__law_random ct__law_random), sl__law_random⟩) (cc__law_random : PySem.W.codeIn K cd__law_random "_law_random" = true) (k__law_random : PySem.W.keepIn K (.ref f__law_random) = true)
    {od_is_whole an_is_whole : Option Addr} {sl_is_whole : Array (Option Value)} {oc_is_whole kV_is_whole dc_is_whole pm_is_whole cd_is_whole ct_is_whole : Value} {f_is_whole : Addr}
    (a_is_whole : PySem.W.nsIn K mainGlobals "is_whole" = some (some (.ref f_is_whole))) (l_is_whole : K.lookup f_is_whole = some ⟨oc_is_whole, od_is_whole, .func (PySem.W.fnOf "is_whole" "is_whole" (defArgs s_is_whole) (defBody s_is_whole) (defScope s_is_whole) .none kV_is_whole dc_is_whole pm_is_whole an_is_whole cd_is_whole ct_is_whole), sl_is_whole⟩) (cc_is_whole : PySem.W.codeIn K cd_is_whole "is_whole" = true) (k_is_whole : PySem.W.keepIn K (.ref f_is_whole) = true)
    {od_is_count an_is_count : Option Addr} {sl_is_count : Array (Option Value)} {oc_is_count kV_is_count dc_is_count pm_is_count cd_is_count ct_is_count : Value} {f_is_count : Addr}
    (a_is_count : PySem.W.nsIn K mainGlobals "is_count" = some (some (.ref f_is_count))) (l_is_count : K.lookup f_is_count = some ⟨oc_is_count, od_is_count, .func (PySem.W.fnOf "is_count" "is_count" (defArgs s_is_count) (defBody s_is_count) (defScope s_is_count) .none kV_is_count dc_is_count pm_is_count an_is_count cd_is_count ct_is_count), sl_is_count⟩) (cc_is_count : PySem.W.codeIn K cd_is_count "is_count" = true) (k_is_count : PySem.W.keepIn K (.ref f_is_count) = true)
    {od_fewest_soldiers an_fewest_soldiers : Option Addr} {sl_fewest_soldiers : Array (Option Value)} {oc_fewest_soldiers kV_fewest_soldiers dc_fewest_soldiers pm_fewest_soldiers cd_fewest_soldiers ct_fewest_soldiers : Value} {f_fewest_soldiers : Addr}
    (a_fewest_soldiers : PySem.W.nsIn K mainGlobals "fewest_soldiers" = some (some (.ref f_fewest_soldiers))) (l_fewest_soldiers : K.lookup f_fewest_soldiers = some ⟨oc_fewest_soldiers, od_fewest_soldiers, .func (PySem.W.fnOf "fewest_soldiers" "fewest_soldiers" (defArgs s_fewest_soldiers) (defBody s_fewest_soldiers) (defScope s_fewest_soldiers) .none kV_fewest_soldiers dc_fewest_soldiers pm_fewest_soldiers an_fewest_soldiers cd_fewest_soldiers ct_fewest_soldiers), sl_fewest_soldiers⟩) (cc_fewest_soldiers : PySem.W.codeIn K cd_fewest_soldiers "fewest_soldiers" = true) (k_fewest_soldiers : PySem.W.keepIn K (.ref f_fewest_soldiers) = true)
    {od__law_pick an__law_pick : Option Addr} {sl__law_pick : Array (Option Value)} {oc__law_pick kV__law_pick dc__law_pick pm__law_pick cd__law_pick ct__law_pick : Value} {f__law_pick : Addr}
    (a__law_pick : PySem.W.nsIn K mainGlobals "_law_pick" = some (some (.ref f__law_pick))) (l__law_pick : K.lookup f__law_pick = some ⟨oc__law_pick, od__law_pick, .func (PySem.W.fnOf "_law_pick" "_law_pick" (defArgs s__law_pick) (defBody s__law_pick) (defScope s__law_pick) .none kV__law_pick dc__law_pick pm__law_pick an__law_pick cd__law_pick ct__law_pick), sl__law_pick⟩) (cc__law_pick : PySem.W.codeIn K cd__law_pick "_law_pick" = true) (k__law_pick : PySem.W.keepIn K (.ref f__law_pick) = true)
    {od__law_numbers an__law_numbers : Option Addr} {sl__law_numbers : Array (Option Value)} {oc__law_numbers kV__law_numbers dc__law_numbers pm__law_numbers cd__law_numbers ct__law_numbers : Value} {f__law_numbers : Addr}
    (a__law_numbers : PySem.W.nsIn K mainGlobals "_law_numbers" = some (some (.ref f__law_numbers))) (l__law_numbers : K.lookup f__law_numbers = some ⟨oc__law_numbers, od__law_numbers, .func (PySem.W.fnOf "_law_numbers" "_law_numbers" (defArgs s__law_numbers) (defBody s__law_numbers) (defScope s__law_numbers) .none kV__law_numbers dc__law_numbers pm__law_numbers an__law_numbers cd__law_numbers ct__law_numbers), sl__law_numbers⟩) (cc__law_numbers : PySem.W.codeIn K cd__law_numbers "_law_numbers" = true) (k__law_numbers : PySem.W.keepIn K (.ref f__law_numbers) = true)
    {od__law_sign an__law_sign : Option Addr} {sl__law_sign : Array (Option Value)} {oc__law_sign kV__law_sign dc__law_sign pm__law_sign cd__law_sign ct__law_sign : Value} {f__law_sign : Addr}
    (a__law_sign : PySem.W.nsIn K mainGlobals "_law_sign" = some (some (.ref f__law_sign))) (l__law_sign : K.lookup f__law_sign = some ⟨oc__law_sign, od__law_sign, .func (PySem.W.fnOf "_law_sign" "_law_sign" (defArgs s__law_sign) (defBody s__law_sign) (defScope s__law_sign) .none kV__law_sign dc__law_sign pm__law_sign an__law_sign cd__law_sign ct__law_sign), sl__law_sign⟩) (cc__law_sign : PySem.W.codeIn K cd__law_sign "_law_sign" = true) (k__law_sign : PySem.W.keepIn K (.ref f__law_sign) = true)
    {od__law_less an__law_less : Option Addr} {sl__law_less : Array (Option Value)} {oc__law_less kV__law_less dc__law_less pm__law_less cd__law_less ct__law_less : Value} {f__law_less : Addr}
    (a__law_less : PySem.W.nsIn K mainGlobals "_law_less" = some (some (.ref f__law_less))) (l__law_less : K.lookup f__law_less = some ⟨oc__law_less, od__law_less, .func (PySem.W.fnOf "_law_less" "_law_less" (defArgs s__law_less) (defBody s__law_less) (defScope s__law_less) .none kV__law_less dc__law_less pm__law_less an__law_less cd__law_less ct__law_less), sl__law_less⟩) (cc__law_less : PySem.W.codeIn K cd__law_less "_law_less" = true) (k__law_less : PySem.W.keepIn K (.ref f__law_less) = true)
    {od__law_power an__law_power : Option Addr} {sl__law_power : Array (Option Value)} {oc__law_power kV__law_power dc__law_power pm__law_power cd__law_power ct__law_power : Value} {f__law_power : Addr}
    (a__law_power : PySem.W.nsIn K mainGlobals "_law_power" = some (some (.ref f__law_power))) (l__law_power : K.lookup f__law_power = some ⟨oc__law_power, od__law_power, .func (PySem.W.fnOf "_law_power" "_law_power" (defArgs s__law_power) (defBody s__law_power) (defScope s__law_power) .none kV__law_power dc__law_power pm__law_power an__law_power cd__law_power ct__law_power), sl__law_power⟩) (cc__law_power : PySem.W.codeIn K cd__law_power "_law_power" = true) (k__law_power : PySem.W.keepIn K (.ref f__law_power) = true)
    {od_is_golden an_is_golden : Option Addr} {sl_is_golden : Array (Option Value)} {oc_is_golden kV_is_golden dc_is_golden pm_is_golden cd_is_golden ct_is_golden : Value} {f_is_golden : Addr}
    (a_is_golden : PySem.W.nsIn K mainGlobals "is_golden" = some (some (.ref f_is_golden))) (l_is_golden : K.lookup f_is_golden = some ⟨oc_is_golden, od_is_golden, .func (PySem.W.fnOf "is_golden" "is_golden" (defArgs s_is_golden) (defBody s_is_golden) (defScope s_is_golden) .none kV_is_golden dc_is_golden pm_is_golden an_is_golden cd_is_golden ct_is_golden), sl_is_golden⟩) (cc_is_golden : PySem.W.codeIn K cd_is_golden "is_golden" = true) (k_is_golden : PySem.W.keepIn K (.ref f_is_golden) = true)
    {od_check_golden an_check_golden : Option Addr} {sl_check_golden : Array (Option Value)} {oc_check_golden kV_check_golden dc_check_golden pm_check_golden cd_check_golden ct_check_golden : Value} {f_check_golden : Addr}
    (a_check_golden : PySem.W.nsIn K mainGlobals "check_golden" = some (some (.ref f_check_golden))) (l_check_golden : K.lookup f_check_golden = some ⟨oc_check_golden, od_check_golden, .func (PySem.W.fnOf "check_golden" "check_golden" (defArgs s_check_golden) (defBody s_check_golden) (defScope s_check_golden) .none kV_check_golden dc_check_golden pm_check_golden an_check_golden cd_check_golden ct_check_golden), sl_check_golden⟩) (cc_check_golden : PySem.W.codeIn K cd_check_golden "check_golden" = true) (k_check_golden : PySem.W.keepIn K (.ref f_check_golden) = true)
    {od_is_above_nothing an_is_above_nothing : Option Addr} {sl_is_above_nothing : Array (Option Value)} {oc_is_above_nothing kV_is_above_nothing dc_is_above_nothing pm_is_above_nothing cd_is_above_nothing ct_is_above_nothing : Value} {f_is_above_nothing : Addr}
    (a_is_above_nothing : PySem.W.nsIn K mainGlobals "is_above_nothing" = some (some (.ref f_is_above_nothing))) (l_is_above_nothing : K.lookup f_is_above_nothing = some ⟨oc_is_above_nothing, od_is_above_nothing, .func (PySem.W.fnOf "is_above_nothing" "is_above_nothing" (defArgs s_is_above_nothing) (defBody s_is_above_nothing) (defScope s_is_above_nothing) .none kV_is_above_nothing dc_is_above_nothing pm_is_above_nothing an_is_above_nothing cd_is_above_nothing ct_is_above_nothing), sl_is_above_nothing⟩) (cc_is_above_nothing : PySem.W.codeIn K cd_is_above_nothing "is_above_nothing" = true) (k_is_above_nothing : PySem.W.keepIn K (.ref f_is_above_nothing) = true)
    {od_is_golden_less an_is_golden_less : Option Addr} {sl_is_golden_less : Array (Option Value)} {oc_is_golden_less kV_is_golden_less dc_is_golden_less pm_is_golden_less cd_is_golden_less ct_is_golden_less : Value} {f_is_golden_less : Addr}
    (a_is_golden_less : PySem.W.nsIn K mainGlobals "is_golden_less" = some (some (.ref f_is_golden_less))) (l_is_golden_less : K.lookup f_is_golden_less = some ⟨oc_is_golden_less, od_is_golden_less, .func (PySem.W.fnOf "is_golden_less" "is_golden_less" (defArgs s_is_golden_less) (defBody s_is_golden_less) (defScope s_is_golden_less) .none kV_is_golden_less dc_is_golden_less pm_is_golden_less an_is_golden_less cd_is_golden_less ct_is_golden_less), sl_is_golden_less⟩) (cc_is_golden_less : PySem.W.codeIn K cd_is_golden_less "is_golden_less" = true) (k_is_golden_less : PySem.W.keepIn K (.ref f_is_golden_less) = true)
    {od_check_number an_check_number : Option Addr} {sl_check_number : Array (Option Value)} {oc_check_number kV_check_number dc_check_number pm_check_number cd_check_number ct_check_number : Value} {f_check_number : Addr}
    (a_check_number : PySem.W.nsIn K mainGlobals "check_number" = some (some (.ref f_check_number))) (l_check_number : K.lookup f_check_number = some ⟨oc_check_number, od_check_number, .func (PySem.W.fnOf "check_number" "check_number" (defArgs s_check_number) (defBody s_check_number) (defScope s_check_number) .none kV_check_number dc_check_number pm_check_number an_check_number cd_check_number ct_check_number), sl_check_number⟩) (cc_check_number : PySem.W.codeIn K cd_check_number "check_number" = true) (k_check_number : PySem.W.keepIn K (.ref f_check_number) = true)
    {od_power_of_golden an_power_of_golden : Option Addr} {sl_power_of_golden : Array (Option Value)} {oc_power_of_golden kV_power_of_golden dc_power_of_golden pm_power_of_golden cd_power_of_golden ct_power_of_golden : Value} {f_power_of_golden : Addr}
    (a_power_of_golden : PySem.W.nsIn K mainGlobals "power_of_golden" = some (some (.ref f_power_of_golden))) (l_power_of_golden : K.lookup f_power_of_golden = some ⟨oc_power_of_golden, od_power_of_golden, .func (PySem.W.fnOf "power_of_golden" "power_of_golden" (defArgs s_power_of_golden) (defBody s_power_of_golden) (defScope s_power_of_golden) .none kV_power_of_golden dc_power_of_golden pm_power_of_golden an_power_of_golden cd_power_of_golden ct_power_of_golden), sl_power_of_golden⟩) (cc_power_of_golden : PySem.W.codeIn K cd_power_of_golden "power_of_golden" = true) (k_power_of_golden : PySem.W.keepIn K (.ref f_power_of_golden) = true)
    {od_golden_power an_golden_power : Option Addr} {sl_golden_power : Array (Option Value)} {oc_golden_power kV_golden_power dc_golden_power pm_golden_power cd_golden_power ct_golden_power : Value} {f_golden_power : Addr}
    (a_golden_power : PySem.W.nsIn K mainGlobals "golden_power" = some (some (.ref f_golden_power))) (l_golden_power : K.lookup f_golden_power = some ⟨oc_golden_power, od_golden_power, .func (PySem.W.fnOf "golden_power" "golden_power" (defArgs s_golden_power) (defBody s_golden_power) (defScope s_golden_power) .none kV_golden_power dc_golden_power pm_golden_power an_golden_power cd_golden_power ct_golden_power), sl_golden_power⟩) (cc_golden_power : PySem.W.codeIn K cd_golden_power "golden_power" = true) (k_golden_power : PySem.W.keepIn K (.ref f_golden_power) = true)
    {od__law_golden_right an__law_golden_right : Option Addr} {sl__law_golden_right : Array (Option Value)} {oc__law_golden_right kV__law_golden_right dc__law_golden_right pm__law_golden_right cd__law_golden_right ct__law_golden_right : Value} {f__law_golden_right : Addr}
    (a__law_golden_right : PySem.W.nsIn K mainGlobals "_law_golden_right" = some (some (.ref f__law_golden_right))) (l__law_golden_right : K.lookup f__law_golden_right = some ⟨oc__law_golden_right, od__law_golden_right, .func (PySem.W.fnOf "_law_golden_right" "_law_golden_right" (defArgs s__law_golden_right) (defBody s__law_golden_right) (defScope s__law_golden_right) .none kV__law_golden_right dc__law_golden_right pm__law_golden_right an__law_golden_right cd__law_golden_right ct__law_golden_right), sl__law_golden_right⟩) (cc__law_golden_right : PySem.W.codeIn K cd__law_golden_right "_law_golden_right" = true) (k__law_golden_right : PySem.W.keepIn K (.ref f__law_golden_right) = true)
    {od_ascends an_ascends : Option Addr} {sl_ascends : Array (Option Value)} {oc_ascends kV_ascends dc_ascends pm_ascends cd_ascends ct_ascends : Value} {f_ascends : Addr}
    (a_ascends : PySem.W.nsIn K mainGlobals "ascends" = some (some (.ref f_ascends))) (l_ascends : K.lookup f_ascends = some ⟨oc_ascends, od_ascends, .func (PySem.W.fnOf "ascends" "ascends" (defArgs s_ascends) (defBody s_ascends) (defScope s_ascends) .none kV_ascends dc_ascends pm_ascends an_ascends cd_ascends ct_ascends), sl_ascends⟩) (cc_ascends : PySem.W.codeIn K cd_ascends "ascends" = true) (k_ascends : PySem.W.keepIn K (.ref f_ascends) = true)
    {od_is_hole an_is_hole : Option Addr} {sl_is_hole : Array (Option Value)} {oc_is_hole kV_is_hole dc_is_hole pm_is_hole cd_is_hole ct_is_hole : Value} {f_is_hole : Addr}
    (a_is_hole : PySem.W.nsIn K mainGlobals "is_hole" = some (some (.ref f_is_hole))) (l_is_hole : K.lookup f_is_hole = some ⟨oc_is_hole, od_is_hole, .func (PySem.W.fnOf "is_hole" "is_hole" (defArgs s_is_hole) (defBody s_is_hole) (defScope s_is_hole) .none kV_is_hole dc_is_hole pm_is_hole an_is_hole cd_is_hole ct_is_hole), sl_is_hole⟩) (cc_is_hole : PySem.W.codeIn K cd_is_hole "is_hole" = true) (k_is_hole : PySem.W.keepIn K (.ref f_is_hole) = true)
    {od_are_holes an_are_holes : Option Addr} {sl_are_holes : Array (Option Value)} {oc_are_holes kV_are_holes dc_are_holes pm_are_holes cd_are_holes ct_are_holes : Value} {f_are_holes : Addr}
    (a_are_holes : PySem.W.nsIn K mainGlobals "are_holes" = some (some (.ref f_are_holes))) (l_are_holes : K.lookup f_are_holes = some ⟨oc_are_holes, od_are_holes, .func (PySem.W.fnOf "are_holes" "are_holes" (defArgs s_are_holes) (defBody s_are_holes) (defScope s_are_holes) .none kV_are_holes dc_are_holes pm_are_holes an_are_holes cd_are_holes ct_are_holes), sl_are_holes⟩) (cc_are_holes : PySem.W.codeIn K cd_are_holes "are_holes" = true) (k_are_holes : PySem.W.keepIn K (.ref f_are_holes) = true)
    {od_check_far_pegs an_check_far_pegs : Option Addr} {sl_check_far_pegs : Array (Option Value)} {oc_check_far_pegs kV_check_far_pegs dc_check_far_pegs pm_check_far_pegs cd_check_far_pegs ct_check_far_pegs : Value} {f_check_far_pegs : Addr}
    (a_check_far_pegs : PySem.W.nsIn K mainGlobals "check_far_pegs" = some (some (.ref f_check_far_pegs))) (l_check_far_pegs : K.lookup f_check_far_pegs = some ⟨oc_check_far_pegs, od_check_far_pegs, .func (PySem.W.fnOf "check_far_pegs" "check_far_pegs" (defArgs s_check_far_pegs) (defBody s_check_far_pegs) (defScope s_check_far_pegs) .none kV_check_far_pegs dc_check_far_pegs pm_check_far_pegs an_check_far_pegs cd_check_far_pegs ct_check_far_pegs), sl_check_far_pegs⟩) (cc_check_far_pegs : PySem.W.codeIn K cd_check_far_pegs "check_far_pegs" = true) (k_check_far_pegs : PySem.W.keepIn K (.ref f_check_far_pegs) = true)
    {od_weight_to an_weight_to : Option Addr} {sl_weight_to : Array (Option Value)} {oc_weight_to kV_weight_to dc_weight_to pm_weight_to cd_weight_to ct_weight_to : Value} {f_weight_to : Addr}
    (a_weight_to : PySem.W.nsIn K mainGlobals "weight_to" = some (some (.ref f_weight_to))) (l_weight_to : K.lookup f_weight_to = some ⟨oc_weight_to, od_weight_to, .func (PySem.W.fnOf "weight_to" "weight_to" (defArgs s_weight_to) (defBody s_weight_to) (defScope s_weight_to) .none kV_weight_to dc_weight_to pm_weight_to an_weight_to cd_weight_to ct_weight_to), sl_weight_to⟩) (cc_weight_to : PySem.W.codeIn K cd_weight_to "weight_to" = true) (k_weight_to : PySem.W.keepIn K (.ref f_weight_to) = true)
    {od_is_out_of_reach an_is_out_of_reach : Option Addr} {sl_is_out_of_reach : Array (Option Value)} {oc_is_out_of_reach kV_is_out_of_reach dc_is_out_of_reach pm_is_out_of_reach cd_is_out_of_reach ct_is_out_of_reach : Value} {f_is_out_of_reach : Addr}
    (a_is_out_of_reach : PySem.W.nsIn K mainGlobals "is_out_of_reach" = some (some (.ref f_is_out_of_reach))) (l_is_out_of_reach : K.lookup f_is_out_of_reach = some ⟨oc_is_out_of_reach, od_is_out_of_reach, .func (PySem.W.fnOf "is_out_of_reach" "is_out_of_reach" (defArgs s_is_out_of_reach) (defBody s_is_out_of_reach) (defScope s_is_out_of_reach) .none kV_is_out_of_reach dc_is_out_of_reach pm_is_out_of_reach an_is_out_of_reach cd_is_out_of_reach ct_is_out_of_reach), sl_is_out_of_reach⟩) (cc_is_out_of_reach : PySem.W.codeIn K cd_is_out_of_reach "is_out_of_reach" = true) (k_is_out_of_reach : PySem.W.keepIn K (.ref f_is_out_of_reach) = true)
    {od_golden_weight an_golden_weight : Option Addr} {sl_golden_weight : Array (Option Value)} {oc_golden_weight kV_golden_weight dc_golden_weight pm_golden_weight cd_golden_weight ct_golden_weight : Value} {f_golden_weight : Addr}
    (a_golden_weight : PySem.W.nsIn K mainGlobals "golden_weight" = some (some (.ref f_golden_weight))) (l_golden_weight : K.lookup f_golden_weight = some ⟨oc_golden_weight, od_golden_weight, .func (PySem.W.fnOf "golden_weight" "golden_weight" (defArgs s_golden_weight) (defBody s_golden_weight) (defScope s_golden_weight) .none kV_golden_weight dc_golden_weight pm_golden_weight an_golden_weight cd_golden_weight ct_golden_weight), sl_golden_weight⟩) (cc_golden_weight : PySem.W.codeIn K cd_golden_weight "golden_weight" = true) (k_golden_weight : PySem.W.keepIn K (.ref f_golden_weight) = true)
    {od__law_weights_right an__law_weights_right : Option Addr} {sl__law_weights_right : Array (Option Value)} {oc__law_weights_right kV__law_weights_right dc__law_weights_right pm__law_weights_right cd__law_weights_right ct__law_weights_right : Value} {f__law_weights_right : Addr}
    (a__law_weights_right : PySem.W.nsIn K mainGlobals "_law_weights_right" = some (some (.ref f__law_weights_right))) (l__law_weights_right : K.lookup f__law_weights_right = some ⟨oc__law_weights_right, od__law_weights_right, .func (PySem.W.fnOf "_law_weights_right" "_law_weights_right" (defArgs s__law_weights_right) (defBody s__law_weights_right) (defScope s__law_weights_right) .none kV__law_weights_right dc__law_weights_right pm__law_weights_right an__law_weights_right cd__law_weights_right ct__law_weights_right), sl__law_weights_right⟩) (cc__law_weights_right : PySem.W.codeIn K cd__law_weights_right "_law_weights_right" = true) (k__law_weights_right : PySem.W.keepIn K (.ref f__law_weights_right) = true)
    {od_law an_law : Option Addr} {sl_law : Array (Option Value)} {oc_law kV_law dc_law pm_law cd_law ct_law : Value} {f_law : Addr}
    (a_law : PySem.W.nsIn K mainGlobals "law" = some (some (.ref f_law))) (l_law : K.lookup f_law = some ⟨oc_law, od_law, .func (PySem.W.fnOf "law" "law" (defArgs s_law) (defBody s_law) (defScope s_law) .none kV_law dc_law pm_law an_law cd_law ct_law), sl_law⟩) (cc_law : PySem.W.codeIn K cd_law "law" = true) (k_law : PySem.W.keepIn K (.ref f_law) = true)
    (z_abs : PySem.W.nsIn K mainGlobals "abs" = some none)
    (z_all : PySem.W.nsIn K mainGlobals "all" = some none)
    (z_bool : PySem.W.nsIn K mainGlobals "bool" = some none)
    (z_int : PySem.W.nsIn K mainGlobals "int" = some none)
    (z_isinstance : PySem.W.nsIn K mainGlobals "isinstance" = some none)
    (z_len : PySem.W.nsIn K mainGlobals "len" = some none)
    (z_list : PySem.W.nsIn K mainGlobals "list" = some none)
    (z_max : PySem.W.nsIn K mainGlobals "max" = some none)
    (z_min : PySem.W.nsIn K mainGlobals "min" = some none)
    (z_range : PySem.W.nsIn K mainGlobals "range" = some none)
    (z_repr : PySem.W.nsIn K mainGlobals "repr" = some none)
    (z_sorted : PySem.W.nsIn K mainGlobals "sorted" = some none)
    (z_sum : PySem.W.nsIn K mainGlobals "sum" = some none)
    (z_tuple : PySem.W.nsIn K mainGlobals "tuple" = some none)
    {v_SOLDIERS : Value} (kc_SOLDIERS : PySem.W.nsIn K mainGlobals "SOLDIERS" = some (some v_SOLDIERS)) (ko_SOLDIERS : kDat K 60 v_SOLDIERS = some c_SOLDIERS)
    : ∃ fd : FuncData, Binds K fd ["script"] [] ∧ (∀ (s : Shared) (u : Value), BindsTo s fd ⟨[u], []⟩ [("script", u)]) ∧ ∀ base : Heap, GFn P w K mg base 8 fa fd ["script"] spLaw := by
  have e := hfa.symm.trans (PySem.W.mg_of X G a_law)
  cases e
  have F__law_cell := fun_mk (st := s__law_cell) l__law_cell cc__law_cell k__law_cell
  have F__law_generator := fun_mk (st := s__law_generator) l__law_generator cc__law_generator k__law_generator
  have F__law_hash := fun_mk (st := s__law_hash) l__law_hash cc__law_hash k__law_hash
  have F__law_random := fun_mk (st := s__law_random) l__law_random cc__law_random k__law_random
  have F_is_whole := fun_mk (st := s_is_whole) l_is_whole cc_is_whole k_is_whole
  have F_is_count := fun_mk (st := s_is_count) l_is_count cc_is_count k_is_count
  have F_fewest_soldiers := fun_mk (st := s_fewest_soldiers) l_fewest_soldiers cc_fewest_soldiers k_fewest_soldiers
  have F__law_pick := fun_mk (st := s__law_pick) l__law_pick cc__law_pick k__law_pick
  have F__law_numbers := fun_mk (st := s__law_numbers) l__law_numbers cc__law_numbers k__law_numbers
  have F__law_sign := fun_mk (st := s__law_sign) l__law_sign cc__law_sign k__law_sign
  have F__law_less := fun_mk (st := s__law_less) l__law_less cc__law_less k__law_less
  have F__law_power := fun_mk (st := s__law_power) l__law_power cc__law_power k__law_power
  have F_is_golden := fun_mk (st := s_is_golden) l_is_golden cc_is_golden k_is_golden
  have F_check_golden := fun_mk (st := s_check_golden) l_check_golden cc_check_golden k_check_golden
  have F_is_above_nothing := fun_mk (st := s_is_above_nothing) l_is_above_nothing cc_is_above_nothing k_is_above_nothing
  have F_is_golden_less := fun_mk (st := s_is_golden_less) l_is_golden_less cc_is_golden_less k_is_golden_less
  have F_check_number := fun_mk (st := s_check_number) l_check_number cc_check_number k_check_number
  have F_power_of_golden := fun_mk (st := s_power_of_golden) l_power_of_golden cc_power_of_golden k_power_of_golden
  have F_golden_power := fun_mk (st := s_golden_power) l_golden_power cc_golden_power k_golden_power
  have F__law_golden_right := fun_mk (st := s__law_golden_right) l__law_golden_right cc__law_golden_right k__law_golden_right
  have F_ascends := fun_mk (st := s_ascends) l_ascends cc_ascends k_ascends
  have F_is_hole := fun_mk (st := s_is_hole) l_is_hole cc_is_hole k_is_hole
  have F_are_holes := fun_mk (st := s_are_holes) l_are_holes cc_are_holes k_are_holes
  have F_check_far_pegs := fun_mk (st := s_check_far_pegs) l_check_far_pegs cc_check_far_pegs k_check_far_pegs
  have F_weight_to := fun_mk (st := s_weight_to) l_weight_to cc_weight_to k_weight_to
  have F_is_out_of_reach := fun_mk (st := s_is_out_of_reach) l_is_out_of_reach cc_is_out_of_reach k_is_out_of_reach
  have F_golden_weight := fun_mk (st := s_golden_weight) l_golden_weight cc_golden_weight k_golden_weight
  have F__law_weights_right := fun_mk (st := s__law_weights_right) l__law_weights_right cc__law_weights_right k__law_weights_right
  have F_law := fun_mk (st := s_law) l_law cc_law k_law
  let T : TF K mg := {
    a__law_cell := _, d__law_cell := _, F__law_cell := F__law_cell, g__law_cell := PySem.W.mg_of X G a__law_cell, b__law_cell := (F__law_cell.binds (ps := ["script", "index"]) fun _ _ _ _ _ _ us hl => match us, hl with | [_, _], _ => rfl),
    a__law_generator := _, d__law_generator := _, F__law_generator := F__law_generator, g__law_generator := PySem.W.mg_of X G a__law_generator, b__law_generator := (F__law_generator.binds (ps := ["script", "index"]) fun _ _ _ _ _ _ us hl => match us, hl with | [_, _], _ => rfl),
    a__law_hash := _, d__law_hash := _, F__law_hash := F__law_hash, g__law_hash := PySem.W.mg_of X G a__law_hash, b__law_hash := (F__law_hash.binds (ps := ["seed", "index"]) fun _ _ _ _ _ _ us hl => match us, hl with | [_, _], _ => rfl),
    a__law_random := _, d__law_random := _, F__law_random := F__law_random, g__law_random := PySem.W.mg_of X G a__law_random, b__law_random := (F__law_random.binds (ps := ["generator", "bound"]) fun _ _ _ _ _ _ us hl => match us, hl with | [_, _], _ => rfl),
    a_is_whole := _, d_is_whole := _, F_is_whole := F_is_whole, g_is_whole := PySem.W.mg_of X G a_is_whole, b_is_whole := (F_is_whole.binds (ps := ["value"]) fun _ _ _ _ _ _ us hl => match us, hl with | [_], _ => rfl),
    a_is_count := _, d_is_count := _, F_is_count := F_is_count, g_is_count := PySem.W.mg_of X G a_is_count, b_is_count := (F_is_count.binds (ps := ["value"]) fun _ _ _ _ _ _ us hl => match us, hl with | [_], _ => rfl),
    a_fewest_soldiers := _, d_fewest_soldiers := _, F_fewest_soldiers := F_fewest_soldiers, g_fewest_soldiers := PySem.W.mg_of X G a_fewest_soldiers, b_fewest_soldiers := (F_fewest_soldiers.binds (ps := ["row"]) fun _ _ _ _ _ _ us hl => match us, hl with | [_], _ => rfl),
    a__law_pick := _, d__law_pick := _, F__law_pick := F__law_pick, g__law_pick := PySem.W.mg_of X G a__law_pick, b__law_pick := (F__law_pick.binds (ps := ["generator", "things"]) fun _ _ _ _ _ _ us hl => match us, hl with | [_, _], _ => rfl),
    a__law_numbers := _, d__law_numbers := _, F__law_numbers := F__law_numbers, g__law_numbers := PySem.W.mg_of X G a__law_numbers, b__law_numbers := (F__law_numbers.binds (ps := ["generator"]) fun _ _ _ _ _ _ us hl => match us, hl with | [_], _ => rfl),
    a__law_sign := _, d__law_sign := _, F__law_sign := F__law_sign, g__law_sign := PySem.W.mg_of X G a__law_sign, b__law_sign := (F__law_sign.binds (ps := ["a", "b"]) fun _ _ _ _ _ _ us hl => match us, hl with | [_, _], _ => rfl),
    a__law_less := _, d__law_less := _, F__law_less := F__law_less, g__law_less := PySem.W.mg_of X G a__law_less, b__law_less := (F__law_less.binds (ps := ["one", "other"]) fun _ _ _ _ _ _ us hl => match us, hl with | [_, _], _ => rfl),
    a__law_power := _, d__law_power := _, F__law_power := F__law_power, g__law_power := PySem.W.mg_of X G a__law_power, b__law_power := (F__law_power.binds (ps := ["many"]) fun _ _ _ _ _ _ us hl => match us, hl with | [_], _ => rfl),
    a_is_golden := _, d_is_golden := _, F_is_golden := F_is_golden, g_is_golden := PySem.W.mg_of X G a_is_golden, b_is_golden := (F_is_golden.binds (ps := ["value"]) fun _ _ _ _ _ _ us hl => match us, hl with | [_], _ => rfl),
    a_check_golden := _, d_check_golden := _, F_check_golden := F_check_golden, g_check_golden := PySem.W.mg_of X G a_check_golden, b_check_golden := (F_check_golden.binds (ps := ["value"]) fun _ _ _ _ _ _ us hl => match us, hl with | [_], _ => rfl),
    a_is_above_nothing := _, d_is_above_nothing := _, F_is_above_nothing := F_is_above_nothing, g_is_above_nothing := PySem.W.mg_of X G a_is_above_nothing, b_is_above_nothing := (F_is_above_nothing.binds (ps := ["whole", "part"]) fun _ _ _ _ _ _ us hl => match us, hl with | [_, _], _ => rfl),
    a_is_golden_less := _, d_is_golden_less := _, F_is_golden_less := F_is_golden_less, g_is_golden_less := PySem.W.mg_of X G a_is_golden_less, b_is_golden_less := (F_is_golden_less.binds (ps := ["one", "other"]) fun _ _ _ _ _ _ us hl => match us, hl with | [_, _], _ => rfl),
    a_check_number := _, d_check_number := _, F_check_number := F_check_number, g_check_number := PySem.W.mg_of X G a_check_number, b_check_number := (F_check_number.binds (ps := ["value"]) fun _ _ _ _ _ _ us hl => match us, hl with | [_], _ => rfl),
    a_power_of_golden := _, d_power_of_golden := _, F_power_of_golden := F_power_of_golden, g_power_of_golden := PySem.W.mg_of X G a_power_of_golden, b_power_of_golden := (F_power_of_golden.binds (ps := ["many"]) fun _ _ _ _ _ _ us hl => match us, hl with | [_], _ => rfl),
    a_golden_power := _, d_golden_power := _, F_golden_power := F_golden_power, g_golden_power := PySem.W.mg_of X G a_golden_power, b_golden_power := (F_golden_power.binds (ps := ["many"]) fun _ _ _ _ _ _ us hl => match us, hl with | [_], _ => rfl),
    a__law_golden_right := _, d__law_golden_right := _, F__law_golden_right := F__law_golden_right, g__law_golden_right := PySem.W.mg_of X G a__law_golden_right, b__law_golden_right := (F__law_golden_right.binds (ps := ["generator"]) fun _ _ _ _ _ _ us hl => match us, hl with | [_], _ => rfl),
    a_ascends := _, d_ascends := _, F_ascends := F_ascends, g_ascends := PySem.W.mg_of X G a_ascends, b_ascends := (F_ascends.binds (ps := ["items"]) fun _ _ _ _ _ _ us hl => match us, hl with | [_], _ => rfl),
    a_is_hole := _, d_is_hole := _, F_is_hole := F_is_hole, g_is_hole := PySem.W.mg_of X G a_is_hole, b_is_hole := (F_is_hole.binds (ps := ["value"]) fun _ _ _ _ _ _ us hl => match us, hl with | [_], _ => rfl),
    a_are_holes := _, d_are_holes := _, F_are_holes := F_are_holes, g_are_holes := PySem.W.mg_of X G a_are_holes, b_are_holes := (F_are_holes.binds (ps := ["value"]) fun _ _ _ _ _ _ us hl => match us, hl with | [_], _ => rfl),
    a_check_far_pegs := _, d_check_far_pegs := _, F_check_far_pegs := F_check_far_pegs, g_check_far_pegs := PySem.W.mg_of X G a_check_far_pegs, b_check_far_pegs := (F_check_far_pegs.binds (ps := ["pegs", "goal"]) fun _ _ _ _ _ _ us hl => match us, hl with | [_, _], _ => rfl),
    a_weight_to := _, d_weight_to := _, F_weight_to := F_weight_to, g_weight_to := PySem.W.mg_of X G a_weight_to, b_weight_to := (F_weight_to.binds (ps := ["pegs", "goal"]) fun _ _ _ _ _ _ us hl => match us, hl with | [_, _], _ => rfl),
    a_is_out_of_reach := _, d_is_out_of_reach := _, F_is_out_of_reach := F_is_out_of_reach, g_is_out_of_reach := PySem.W.mg_of X G a_is_out_of_reach, b_is_out_of_reach := (F_is_out_of_reach.binds (ps := ["pegs", "goal"]) fun _ _ _ _ _ _ us hl => match us, hl with | [_, _], _ => rfl),
    a_golden_weight := _, d_golden_weight := _, F_golden_weight := F_golden_weight, g_golden_weight := PySem.W.mg_of X G a_golden_weight, b_golden_weight := (F_golden_weight.binds (ps := ["pegs", "goal"]) fun _ _ _ _ _ _ us hl => match us, hl with | [_, _], _ => rfl),
    a__law_weights_right := _, d__law_weights_right := _, F__law_weights_right := F__law_weights_right, g__law_weights_right := PySem.W.mg_of X G a__law_weights_right, b__law_weights_right := (F__law_weights_right.binds (ps := ["generator"]) fun _ _ _ _ _ _ us hl => match us, hl with | [_], _ => rfl),
    a_law := _, d_law := _, F_law := F_law, g_law := PySem.W.mg_of X G a_law, b_law := (F_law.binds (ps := ["script"]) fun _ _ _ _ _ _ us hl => match us, hl with | [_], _ => rfl),
    z_abs := PySem.W.mg_none_of X G z_abs,
    z_all := PySem.W.mg_none_of X G z_all,
    z_bool := PySem.W.mg_none_of X G z_bool,
    z_int := PySem.W.mg_none_of X G z_int,
    z_isinstance := PySem.W.mg_none_of X G z_isinstance,
    z_len := PySem.W.mg_none_of X G z_len,
    z_list := PySem.W.mg_none_of X G z_list,
    z_max := PySem.W.mg_none_of X G z_max,
    z_min := PySem.W.mg_none_of X G z_min,
    z_range := PySem.W.mg_none_of X G z_range,
    z_repr := PySem.W.mg_none_of X G z_repr,
    z_sorted := PySem.W.mg_none_of X G z_sorted,
    z_sum := PySem.W.mg_none_of X G z_sum,
    z_tuple := PySem.W.mg_none_of X G z_tuple,
    c_SOLDIERS := KC.of X G kc_SOLDIERS 60 ko_SOLDIERS,
    u_law := (fun s u => .of_eq rfl) }
  exact ⟨T.d_law, T.b_law, T.u_law, fun base => ok_law T⟩
end DL
open PySem PySem.W PyProof.Rows
set_option maxHeartbeats 0 in
theorem PySem.Challenge.cw_lonehall_k13_whole_golden_numbers_exactl_holds : PySem.Challenge.rw_lonehall_k13_whole_golden_numbers_exactl.Holds := by
  w_on; o_law; k_head; (case hw => w_witness2)
  k_fill
  refine DL.walk_D (l := PySem.Challenge.rw_lonehall_k13_whole_golden_numbers_exactl) (k := 8) (x := "script") rfl rfl ⟨rfl, by decide, by decide⟩ (fun w h Y => PySem.W.kIn_of Y) ?F
  case F =>
    intro w mg fa h KX G hmg
    refine' DL.facts KX G hmg ?a__law_cell ?l__law_cell ?cc__law_cell ?k__law_cell ?a__law_generator ?l__law_generator ?cc__law_generator ?k__law_generator ?a__law_hash ?l__law_hash ?cc__law_hash ?k__law_hash ?a__law_random ?l__law_random ?cc__law_random ?k__law_random ?a_is_whole ?l_is_whole ?cc_is_whole ?k_is_whole ?a_is_count ?l_is_count ?cc_is_count ?k_is_count ?a_fewest_soldiers ?l_fewest_soldiers ?cc_fewest_soldiers ?k_fewest_soldiers ?a__law_pick ?l__law_pick ?cc__law_pick ?k__law_pick ?a__law_numbers ?l__law_numbers ?cc__law_numbers ?k__law_numbers ?a__law_sign ?l__law_sign ?cc__law_sign ?k__law_sign ?a__law_less ?l__law_less ?cc__law_less ?k__law_less ?a__law_power ?l__law_power ?cc__law_power ?k__law_power ?a_is_golden ?l_is_golden ?cc_is_golden ?k_is_golden ?a_check_golden ?l_check_golden ?cc_check_golden ?k_check_golden ?a_is_above_nothing ?l_is_above_nothing ?cc_is_above_nothing ?k_is_above_nothing ?a_is_golden_less ?l_is_golden_less ?cc_is_golden_less ?k_is_golden_less ?a_check_number ?l_check_number ?cc_check_number ?k_check_number ?a_power_of_golden ?l_power_of_golden ?cc_power_of_golden ?k_power_of_golden ?a_golden_power ?l_golden_power ?cc_golden_power ?k_golden_power ?a__law_golden_right ?l__law_golden_right ?cc__law_golden_right ?k__law_golden_right ?a_ascends ?l_ascends ?cc_ascends ?k_ascends ?a_is_hole ?l_is_hole ?cc_is_hole ?k_is_hole ?a_are_holes ?l_are_holes ?cc_are_holes ?k_are_holes ?a_check_far_pegs ?l_check_far_pegs ?cc_check_far_pegs ?k_check_far_pegs ?a_weight_to ?l_weight_to ?cc_weight_to ?k_weight_to ?a_is_out_of_reach ?l_is_out_of_reach ?cc_is_out_of_reach ?k_is_out_of_reach ?a_golden_weight ?l_golden_weight ?cc_golden_weight ?k_golden_weight ?a__law_weights_right ?l__law_weights_right ?cc__law_weights_right ?k__law_weights_right ?a_law ?l_law ?cc_law ?k_law ?z_abs ?z_all ?z_bool ?z_int ?z_isinstance ?z_len ?z_list ?z_max ?z_min ?z_range ?z_repr ?z_sorted ?z_sum ?z_tuple ?kc_SOLDIERS ?ko_SOLDIERS
    (case a__law_cell => k_is); (case l__law_cell => k_is); (case cc__law_cell => k_is); (case k__law_cell => k_is); (case a__law_generator => k_is); (case l__law_generator => k_is); (case cc__law_generator => k_is); (case k__law_generator => k_is)
    (case a__law_hash => k_is); (case l__law_hash => k_is); (case cc__law_hash => k_is); (case k__law_hash => k_is); (case a__law_random => k_is); (case l__law_random => k_is); (case cc__law_random => k_is); (case k__law_random => k_is)
    (case a_is_whole => k_is); (case l_is_whole => k_is); (case cc_is_whole => k_is); (case k_is_whole => k_is); (case a_is_count => k_is); (case l_is_count => k_is); (case cc_is_count => k_is); (case k_is_count => k_is)
    (case a_fewest_soldiers => k_is); (case l_fewest_soldiers => k_is); (case cc_fewest_soldiers => k_is); (case k_fewest_soldiers => k_is); (case a__law_pick => k_is); (case l__law_pick => k_is); (case cc__law_pick => k_is); (case k__law_pick => k_is)
    (case a__law_numbers => k_is); (case l__law_numbers => k_is); (case cc__law_numbers => k_is); (case k__law_numbers => k_is); (case a__law_sign => k_is); (case l__law_sign => k_is); (case cc__law_sign => k_is); (case k__law_sign => k_is)
    (case a__law_less => k_is); (case l__law_less => k_is); (case cc__law_less => k_is); (case k__law_less => k_is); (case a__law_power => k_is); (case l__law_power => k_is); (case cc__law_power => k_is); (case k__law_power => k_is)
    (case a_is_golden => k_is); (case l_is_golden => k_is); (case cc_is_golden => k_is); (case k_is_golden => k_is); (case a_check_golden => k_is); (case l_check_golden => k_is); (case cc_check_golden => k_is); (case k_check_golden => k_is)
    (case a_is_above_nothing => k_is); (case l_is_above_nothing => k_is); (case cc_is_above_nothing => k_is); (case k_is_above_nothing => k_is); (case a_is_golden_less => k_is); (case l_is_golden_less => k_is); (case cc_is_golden_less => k_is); (case k_is_golden_less => k_is)
    (case a_check_number => k_is); (case l_check_number => k_is); (case cc_check_number => k_is); (case k_check_number => k_is); (case a_power_of_golden => k_is); (case l_power_of_golden => k_is); (case cc_power_of_golden => k_is); (case k_power_of_golden => k_is)
    (case a_golden_power => k_is); (case l_golden_power => k_is); (case cc_golden_power => k_is); (case k_golden_power => k_is); (case a__law_golden_right => k_is); (case l__law_golden_right => k_is); (case cc__law_golden_right => k_is); (case k__law_golden_right => k_is)
    (case a_ascends => k_is); (case l_ascends => k_is); (case cc_ascends => k_is); (case k_ascends => k_is); (case a_is_hole => k_is); (case l_is_hole => k_is); (case cc_is_hole => k_is); (case k_is_hole => k_is)
    (case a_are_holes => k_is); (case l_are_holes => k_is); (case cc_are_holes => k_is); (case k_are_holes => k_is); (case a_check_far_pegs => k_is); (case l_check_far_pegs => k_is); (case cc_check_far_pegs => k_is); (case k_check_far_pegs => k_is)
    (case a_weight_to => k_is); (case l_weight_to => k_is); (case cc_weight_to => k_is); (case k_weight_to => k_is); (case a_is_out_of_reach => k_is); (case l_is_out_of_reach => k_is); (case cc_is_out_of_reach => k_is); (case k_is_out_of_reach => k_is)
    (case a_golden_weight => k_is); (case l_golden_weight => k_is); (case cc_golden_weight => k_is); (case k_golden_weight => k_is); (case a__law_weights_right => k_is); (case l__law_weights_right => k_is); (case cc__law_weights_right => k_is); (case k__law_weights_right => k_is)
    (case a_law => k_is); (case l_law => k_is); (case cc_law => k_is); (case k_law => k_is); (case z_abs => k_is); (case z_all => k_is); (case z_bool => k_is); (case z_int => k_is)
    (case z_isinstance => k_is); (case z_len => k_is); (case z_list => k_is); (case z_max => k_is); (case z_min => k_is); (case z_range => k_is); (case z_repr => k_is); (case z_sorted => k_is)
    (case z_sum => k_is); (case z_tuple => k_is); (case kc_SOLDIERS => k_is); (case ko_SOLDIERS => first | rfl | kernel_rfl | decide +kernel)
