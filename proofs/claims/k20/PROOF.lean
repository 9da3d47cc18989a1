import PyProof.Rows.All
import HandS.ForMost
import HandS.Wide
import HandS.WideBits
import HandS.Style
import HandS.Flow
import HandS.IsInst
import HandS.Deep
import HandS.TupLe
import HandS.Sort
import HandS.SortRule
import HandS.SortInts
import HandS.RaiseMore
import HandS.TryOnly
import PyProof.StrLawsRepr
import PyProof.Rows.All
import Wide.All
import OpenK.AllK
import Wide.FinOn
import PySem.Challenge.RW_lonehall_k20_whole_straight_on_with_grea
set_option Elab.async false
set_option linter.all false
set_option maxRecDepth 100000
set_option maxHeartbeats 4000000
namespace DL
open PySem PySem.Spec PyProof.Rows L2
/-! Data layer: names hold pure data; objects are hidden. -/

abbrev Dat := PyData
abbrev Fg := PySem.W.Frag
def keyD : Key → Dat
  | .inl i => .int i
  | .inr x => .str x
/-! ### a value stands for data -/
mutual
inductive Rp (K : Fg) (H : Hp) : V → Dat → Prop
  | non : Rp K H .non .none
  | bl (b : Bool) : Rp K H (.bl b) (.bool b)
  | int (i : Int) : Rp K H (.int i) (.int i)
  | str (x : Str) : Rp K H (.str x) (.str x)
  | lst {a : Addr} {xs : List V} {ds : List Dat} : SqL K H a xs → Rps K H xs ds → Rp K H (.ref a) (.list ds)
  | tup {a : Addr} {xs : List V} {ds : List Dat} : SqT K H a xs → Rps K H xs ds → Rp K H (.ref a) (.tuple ds)
  | dik {a : Addr} {ks : List (Key × V)} {es : List (Dat × Dat)} : Rd H a (.dK ks) → RpK K H ks es → Rp K H (.ref a) (.dict es)
  | dit {a : Addr} {ks : List (List Key × V)} {es : List (Dat × Dat)} : Rd H a (.dT ks) → RpT K H ks es → Rp K H (.ref a) (.dict es)
inductive Rps (K : Fg) (H : Hp) : List V → List Dat → Prop
  | nil : Rps K H [] []
  | cons {v : V} {vs : List V} {d : Dat} {ds : List Dat} : Rp K H v d → Rps K H vs ds → Rps K H (v :: vs) (d :: ds)
inductive RpK (K : Fg) (H : Hp) : List (Key × V) → List (Dat × Dat) → Prop
  | nil : RpK K H [] []
  | cons {k : Key} {v : V} {d : Dat} {ks : List (Key × V)} {es : List (Dat × Dat)} : Rp K H v d → RpK K H ks es → RpK K H ((k, v) :: ks) ((keyD k, d) :: es)
inductive RpT (K : Fg) (H : Hp) : List (List Key × V) → List (Dat × Dat) → Prop
  | nil : RpT K H [] []
  | cons {k : List Key} {v : V} {d : Dat} {ks : List (List Key × V)} {es : List (Dat × Dat)} : Rp K H v d → RpT K H ks es → RpT K H ((k, v) :: ks) ((.tuple (k.map keyD), d) :: es)
end
/-! ### one heap within another: a thing may be locked meanwhile -/
def Sub (H H' : Hp) : Prop := ∀ p o, H p = some o → H' p = some o ∨ (Mut (some o) ∧ ∃ b, H' p = some (.frz b o))
theorem Sub.refl (H : Hp) : Sub H H := fun _ _ h => .inl h
theorem Sub.of {H H' : Hp} (h : Same H H') : Sub H H' := fun p o e => .inl (h p o e)
theorem Sub.trans {H H1 H2 : Hp} (a : Sub H H1) (b : Sub H1 H2) : Sub H H2 := fun p o e => by
  rcases a p o e with h | ⟨m, c, h⟩
  · exact b p o h
  · rcases b p _ h with h' | ⟨m', _⟩
    · exact .inr ⟨m, c, h'⟩
    · exact absurd m' (fun z => z)
theorem Sub.rd {H H' : Hp} (s : Sub H H') {a : Addr} {u : HO} (h : Rd H a u) : Rd H' a u := by
  rcases h with h | ⟨o, h⟩
  · rcases s a u h with h' | ⟨_, c, h'⟩
    · exact .inl h'
    · exact .inr ⟨c, h'⟩
  · rcases s a _ h with h' | ⟨m, _⟩
    · exact .inr ⟨o, h'⟩
    · exact absurd m (fun z => z)
theorem Sub.free {H H' : Hp} (s : Sub H H') {a : Addr} (h : H' a = none) : H a = none := by
  cases q : H a with
  | none => rfl
  | some o =>
    rcases s a o q with h' | ⟨_, c, h'⟩ <;> (rw [h] at h'; cases h')
theorem Sub.sql {K : Fg} {H H' : Hp} (s : Sub H H') {a : Addr} {xs : List V} (h : SqL K H a xs) : SqL K H' a xs := h.imp s.rd id
theorem Sub.sqt {K : Fg} {H H' : Hp} (s : Sub H H') {a : Addr} {xs : List V} (h : SqT K H a xs) : SqT K H' a xs := h.imp s.rd id
mutual
theorem Rp.mono {K : Fg} {H H' : Hp} (s : Sub H H') : ∀ {v : V} {d : Dat}, Rp K H v d → Rp K H' v d
  | _, _, .non => .non
  | _, _, .bl b => .bl b
  | _, _, .int i => .int i
  | _, _, .str x => .str x
  | _, _, .lst h r => .lst (s.sql h) (Rps.mono s r)
  | _, _, .tup h r => .tup (s.sqt h) (Rps.mono s r)
  | _, _, .dik h r => .dik (s.rd h) (RpK.mono s r)
  | _, _, .dit h r => .dit (s.rd h) (RpT.mono s r)
theorem Rps.mono {K : Fg} {H H' : Hp} (s : Sub H H') : ∀ {v : List V} {d : List Dat}, Rps K H v d → Rps K H' v d
  | _, _, .nil => .nil
  | _, _, .cons a b => .cons (Rp.mono s a) (Rps.mono s b)
theorem RpK.mono {K : Fg} {H H' : Hp} (s : Sub H H') : ∀ {v : List (Key × V)} {d : List (Dat × Dat)}, RpK K H v d → RpK K H' v d
  | _, _, .nil => .nil
  | _, _, .cons a b => .cons (Rp.mono s a) (RpK.mono s b)
theorem RpT.mono {K : Fg} {H H' : Hp} (s : Sub H H') : ∀ {v : List (List Key × V)} {d : List (Dat × Dat)}, RpT K H v d → RpT K H' v d
  | _, _, .nil => .nil
  | _, _, .cons a b => .cons (Rp.mono s a) (RpT.mono s b)
end
theorem Rps.length {K : Fg} {H : Hp} : ∀ {vs : List V} {ds : List Dat}, Rps K H vs ds → vs.length = ds.length
  | _, _, .nil => rfl
  | _, _, .cons _ r => congrArg (· + 1) r.length
theorem Rps.get {K : Fg} {H : Hp} : ∀ {vs : List V} {ds : List Dat} {i : Nat} {d : Dat}, Rps K H vs ds → ds[i]? = some d → ∃ v, vs[i]? = some v ∧ Rp K H v d
  | _, _, _, _, .nil, e => by simp at e
  | _, _, 0, _, .cons r _, e => by simp at e; subst e; exact ⟨_, rfl, r⟩
  | _, _, i + 1, d, .cons _ t, e => by
    obtain ⟨u, h1, h2⟩ := Rps.get (i := i) (d := d) t (by simpa using e)
    exact ⟨u, by simpa using h1, h2⟩
theorem Rps.append {K : Fg} {H : Hp} : ∀ {vs ws : List V} {ds es : List Dat}, Rps K H vs ds → Rps K H ws es → Rps K H (vs ++ ws) (ds ++ es)
  | _, _, _, _, .nil, s => s
  | _, _, _, _, .cons r t, s => .cons r (Rps.append t s)
theorem Rps.drop {K : Fg} {H : Hp} : ∀ {vs : List V} {ds : List Dat} (n : Nat), Rps K H vs ds → Rps K H (vs.drop n) (ds.drop n)
  | _, _, 0, r => r
  | _, _, _ + 1, .nil => .nil
  | _, _, n + 1, .cons _ t => Rps.drop n t
theorem Rps.take {K : Fg} {H : Hp} : ∀ {vs : List V} {ds : List Dat} (n : Nat), Rps K H vs ds → Rps K H (vs.take n) (ds.take n)
  | _, _, 0, _ => .nil
  | _, _, _ + 1, .nil => .nil
  | _, _, n + 1, .cons r t => .cons r (Rps.take n t)
theorem Rps.set {K : Fg} {H : Hp} {v : V} {d : Dat} (r : Rp K H v d) : ∀ {vs : List V} {ds : List Dat} (i : Nat), Rps K H vs ds → Rps K H (vs.set i v) (ds.set i d)
  | _, _, _, .nil => .nil
  | _, _, 0, .cons _ t => .cons r t
  | _, _, i + 1, .cons q t => .cons q (Rps.set r i t)
theorem Rps.erase {K : Fg} {H : Hp} : ∀ {vs : List V} {ds : List Dat} (i : Nat), Rps K H vs ds → Rps K H (vs.eraseIdx i) (ds.eraseIdx i)
  | _, _, _, .nil => .nil
  | _, _, 0, .cons _ t => t
  | _, _, i + 1, .cons q t => .cons q (Rps.erase i t)
theorem Rps.rev {K : Fg} {H : Hp} : ∀ {vs : List V} {ds : List Dat}, Rps K H vs ds → Rps K H vs.reverse ds.reverse
  | _, _, .nil => .nil
  | _, _, .cons a b => by rw [List.reverse_cons, List.reverse_cons]; exact (Rps.rev b).append (.cons a .nil)
theorem Rps.ints {K : Fg} {H : Hp} : ∀ ns : List Int, Rps K H (ns.map V.int) (ns.map .int)
  | [] => .nil
  | n :: ns => .cons (.int n) (Rps.ints ns)
theorem Rps.strs {K : Fg} {H : Hp} : ∀ ns : List Str, Rps K H (ns.map V.str) (ns.map .str)
  | [] => .nil
  | n :: ns => .cons (.str n) (Rps.strs ns)
theorem Rps.of_ints {K : Fg} {H : Hp} : ∀ {vs : List V} {ns : List Int}, Rps K H vs (ns.map .int) → vs = ns.map V.int
  | _, [], .nil => rfl
  | _, n :: ns, .cons r t => by cases r; rw [Rps.of_ints t]; rfl
theorem Rps.of_bools {K : Fg} {H : Hp} : ∀ {vs : List V} {ns : List Bool}, Rps K H vs (ns.map .bool) → vs = ns.map V.bl
  | _, [], .nil => rfl
  | _, n :: ns, .cons r t => by cases r; rw [Rps.of_bools t]; rfl
theorem Rps.of_strs {K : Fg} {H : Hp} : ∀ {vs : List V} {ns : List Str}, Rps K H vs (ns.map .str) → vs = ns.map V.str
  | _, [], .nil => rfl
  | _, n :: ns, .cons r t => by cases r; rw [Rps.of_strs t]; rfl
/-! ### names: what each holds -/
inductive Sl where
  | un
  | sh (d : Dat)
  | ol (ds : List Dat)
  | od (es : List (Dat × Dat))
  | io (p : Addr) (ds : List Dat)
abbrev Ev := List Sl
def own1 : Sl × Option V → List Addr
  | (.ol _, some (.ref p)) => [p]
  | (.od _, some (.ref p)) => [p]
  | (.io _ _, some (.ref p)) => [p]
  | _ => []
def SlR (K : Fg) (Hs H : Hp) : Sl → Option V → Prop
  | .un, _ => True
  | .sh d, o => ∃ v, o = some v ∧ Rp K Hs v d
  | .ol ds, o => ∃ p vs, o = some (.ref p) ∧ H p = some (.lst vs) ∧ Rps K Hs vs ds
  | .od es, o => ∃ p, o = some (.ref p) ∧ ((∃ ks, H p = some (.dK ks) ∧ RpK K Hs ks es) ∨ ∃ ks, H p = some (.dT ks) ∧ RpT K Hs ks es)
  | .io p ds, o => ∃ vs, o = some (.ref p) ∧ H p = some (.lst vs) ∧ Rps K Hs vs ds
theorem SlR.mono {K : Fg} {Hs Hs' H H' : Hp} {s : Sl} {o : Option V} (a : Sub Hs Hs') (b : ∀ p ∈ own1 (s, o), ∀ u, H p = some u → H' p = some u) (h : SlR K Hs H s o) : SlR K Hs' H' s o := by
  cases s with
  | un => trivial
  | sh d => obtain ⟨v, e, r⟩ := h; exact ⟨v, e, r.mono a⟩
  | ol ds =>
    obtain ⟨p, vs, e, hp, r⟩ := h
    subst e
    exact ⟨p, vs, rfl, b p (by simp [own1]) _ hp, r.mono a⟩
  | od es =>
    obtain ⟨p, e, h⟩ := h
    subst e
    refine ⟨p, rfl, ?_⟩
    rcases h with ⟨ks, hp, r⟩ | ⟨ks, hp, r⟩
    · exact .inl ⟨ks, b p (by simp [own1]) _ hp, r.mono a⟩
    · exact .inr ⟨ks, b p (by simp [own1]) _ hp, r.mono a⟩
  | io p ds =>
    obtain ⟨vs, e, hp, r⟩ := h
    subst e
    exact ⟨vs, rfl, b p (by simp [own1]) _ hp, r.mono a⟩
theorem SlR.there {K : Fg} {Hs H : Hp} {s : Sl} {o : Option V} (h : SlR K Hs H s o) : ∀ p ∈ own1 (s, o), ∃ u, H p = some u ∧ Mut (some u) := by
  intro p hp
  cases s with
  | un => simp [own1] at hp
  | sh d => simp [own1] at hp
  | ol ds =>
    obtain ⟨q, vs, e, hq, r⟩ := h
    subst e
    have e : p = q := by simpa [own1] using hp
    subst e
    exact ⟨_, hq, trivial⟩
  | od es =>
    obtain ⟨q, e, h⟩ := h
    subst e
    have e : p = q := by simpa [own1] using hp
    subst e
    rcases h with ⟨ks, hq, r⟩ | ⟨ks, hq, r⟩
    · exact ⟨_, hq, trivial⟩
    · exact ⟨_, hq, trivial⟩
  | io q ds =>
    obtain ⟨vs, e, hq, r⟩ := h
    subst e
    have e : p = q := by simpa [own1] using hp
    subst e
    exact ⟨_, hq, trivial⟩
/-- the state: Hs what stays for ever, Fr what is another's, l the names -/
structure RS (K : Fg) (Fr Hs H : Hp) (l : List (Sl × Option V)) : Prop where
  hs : Sub Hs H
  fr : Same Fr H
  dj : ∀ p o, Fr p = some o → Hs p = none ∨ ∃ b u, o = .frz b u ∧ Hs p = some u
  sl : ∀ x ∈ l, SlR K Hs H x.1 x.2
  nd : (l.flatMap own1).Nodup
  ow : ∀ p ∈ l.flatMap own1, Hs p = none ∧ Fr p = none
/-- from one state to a later one in which nothing of ours was written -/
structure Nx (Hs H Hs' H' : Hp) : Prop where
  ss : Same Hs Hs'
  hh : Same H H'
  sb : Sub Hs' H'
  fresh : ∀ p o, Hs' p = some o → Hs p = none → H p = none
theorem Nx.refl {Hs H : Hp} (s : Sub Hs H) : Nx Hs H Hs H := ⟨.refl _, .refl _, s, fun _ _ a b => by rw [a] at b; cases b⟩
theorem Nx.trans {Hs H Hs1 H1 Hs2 H2 : Hp} (a : Nx Hs H Hs1 H1) (b : Nx Hs1 H1 Hs2 H2) : Nx Hs H Hs2 H2 := by
  refine ⟨a.ss.trans b.ss, a.hh.trans b.hh, b.sb, fun p o e n => ?_⟩
  cases q : Hs1 p with
  | none => exact a.hh.free (b.fresh p o e q)
  | some u => exact a.fresh p u q n
section
variable {K : Fg} {Fr Hs H Hs' H' : Hp} {l m : List (Sl × Option V)}
theorem RS.there (R : RS K Fr Hs H l) {p : Addr} (h : p ∈ l.flatMap own1) : ∃ u, H p = some u ∧ Mut (some u) := by
  obtain ⟨x, hx, hp⟩ := List.mem_flatMap.mp h
  exact (R.sl x hx).there p hp
theorem RS.nx (R : RS K Fr Hs H l) (n : Nx Hs H Hs' H') : RS K Fr Hs' H' l where
  hs := n.sb
  fr := R.fr.trans n.hh
  dj := fun p o e => by
    rcases R.dj p o e with h | ⟨b, u, e1, e2⟩
    · cases q : Hs' p with
      | none => exact .inl rfl
      | some u =>
        have := n.fresh p u q h
        rw [R.fr p o e] at this
        cases this
    · exact .inr ⟨b, u, e1, n.ss _ _ e2⟩
  sl := fun x hx => (R.sl x hx).mono (.of n.ss) fun p _ u e => n.hh p u e
  nd := R.nd
  ow := fun p hp => by
    obtain ⟨h1, h2⟩ := R.ow p hp
    refine ⟨?_, h2⟩
    cases q : Hs' p with
    | none => rfl
    | some u =>
      have := n.fresh p u q h1
      obtain ⟨v, e, _⟩ := R.there hp
      rw [e] at this
      cases this
theorem RS.sub (R : RS K Fr Hs H l) (hm : ∀ x ∈ m, x ∈ l) (hn : (m.flatMap own1).Nodup) : RS K Fr Hs H m :=
  ⟨R.hs, R.fr, R.dj, fun x hx => R.sl x (hm x hx), hn, fun p hp => by
    obtain ⟨x, hx, e⟩ := List.mem_flatMap.mp hp
    exact R.ow p (List.mem_flatMap.mpr ⟨x, hm x hx, e⟩)⟩
theorem RS.tail {x : Sl × Option V} (R : RS K Fr Hs H (x :: l)) : RS K Fr Hs H l :=
  R.sub (fun y hy => List.mem_cons_of_mem _ hy) (by
    have := R.nd
    rw [List.flatMap_cons] at this
    exact (List.nodup_append.mp this).2.1)
theorem RS.head {x : Sl × Option V} (R : RS K Fr Hs H (x :: l)) : SlR K Hs H x.1 x.2 := R.sl _ List.mem_cons_self
/-- one more, that owns nothing -/
theorem RS.add {x : Sl × Option V} (R : RS K Fr Hs H l) (h : SlR K Hs H x.1 x.2) (ho : own1 x = []) : RS K Fr Hs H (x :: l) := by
  refine ⟨R.hs, R.fr, R.dj, fun y hy => ?_, ?_, ?_⟩
  · rcases List.mem_cons.mp hy with e | hy
    · rw [e]; exact h
    · exact R.sl y hy
  · rw [List.flatMap_cons, ho]; exact R.nd
  · rw [List.flatMap_cons, ho]; exact R.ow
/-- one more, new in H -/
theorem RS.new {x : Sl × Option V} (R : RS K Fr Hs H l) (n : Nx Hs H Hs' H') (h : SlR K Hs' H' x.1 x.2) (hn : ∀ p ∈ own1 x, Hs' p = none ∧ H p = none) (hd : (own1 x).Nodup) : RS K Fr Hs' H' (x :: l) := by
  have R' := R.nx n
  refine ⟨R'.hs, R'.fr, R'.dj, fun y hy => ?_, ?_, ?_⟩
  · rcases List.mem_cons.mp hy with e | hy
    · rw [e]; exact h
    · exact R'.sl y hy
  · rw [List.flatMap_cons]
    refine List.nodup_append.mpr ⟨hd, R'.nd, fun p hp q hq e => ?_⟩
    subst e
    obtain ⟨u, e, _⟩ := R.there hq
    rw [(hn p hp).2] at e
    cases e
  · rw [List.flatMap_cons]
    intro p hp
    rcases List.mem_append.mp hp with hp | hp
    · exact ⟨(hn p hp).1, R.fr.free (hn p hp).2⟩
    · exact R'.ow p hp
end
theorem own1_nodup (x : Sl × Option V) : (own1 x).Nodup := by
  obtain ⟨s, o⟩ := x
  cases s <;> cases o with
  | none => simp [own1]
  | some v => cases v <;> simp [own1]

abbrev St := List (Option V)
/-! ### moving a name to the front and back -/
theorem flat_set {l : List (Sl × Option V)} {i : Nat} (hi : i < l.length) (x : Sl × Option V) :
    ((l.set i x).flatMap own1).Perm (own1 x ++ ((l.set i (.un, none)).flatMap own1)) := by
  rw [List.set_eq_take_append_cons_drop, List.set_eq_take_append_cons_drop, if_pos hi, if_pos hi]
  rw [List.flatMap_append, List.flatMap_append, List.flatMap_cons, List.flatMap_cons]
  have e : own1 (Sl.un, none) = [] := rfl
  rw [e, List.nil_append]
  exact List.perm_append_comm_assoc _ _ _
section
variable {K : Fg} {Fr Hs H Hs' H' : Hp} {l m : List (Sl × Option V)} {i : Nat} {x y : Sl × Option V}
theorem mem_set_un {z : Sl × Option V} (h : z ∈ l.set i (.un, none)) : z ∈ l ∨ z = (.un, none) := by
  rcases List.mem_or_eq_of_mem_set h with h | h
  · exact .inl h
  · exact .inr h
theorem RS.focus (R : RS K Fr Hs H l) (h : l[i]? = some y) : RS K Fr Hs H (y :: l.set i (.un, none)) := by
  obtain ⟨hi, e⟩ := List.getElem?_eq_some_iff.mp h
  have el : l.set i y = l := by rw [← e, List.set_getElem_self]
  have p : (l.flatMap own1).Perm ((y :: l.set i (.un, none)).flatMap own1) := by
    have := flat_set hi y
    rw [el] at this
    exact this
  refine ⟨R.hs, R.fr, R.dj, fun z hz => ?_, p.nodup_iff.mp R.nd, fun q hq => R.ow q (p.mem_iff.mpr hq)⟩
  rcases List.mem_cons.mp hz with e' | hz
  · rw [e']; exact R.sl y (List.mem_of_getElem? h)
  · rcases mem_set_un hz with hz | hz
    · exact R.sl z hz
    · rw [hz]; trivial
theorem RS.unfocus (R : RS K Fr Hs H (x :: l.set i (.un, none))) (hi : i < l.length) : RS K Fr Hs H (l.set i x) := by
  have p : ((l.set i x).flatMap own1).Perm ((x :: l.set i (.un, none)).flatMap own1) := flat_set hi x
  refine ⟨R.hs, R.fr, R.dj, fun z hz => ?_, p.nodup_iff.mpr R.nd, fun q hq => R.ow q (p.mem_iff.mp hq)⟩
  obtain ⟨j, hj, e⟩ := List.mem_iff_getElem.mp hz
  rw [List.length_set] at hj
  rw [List.getElem_set] at e
  split at e
  · rw [← e]; exact R.sl x List.mem_cons_self
  · rename_i hn
    have : z ∈ l.set i (.un, none) := by
      refine List.mem_iff_getElem.mpr ⟨j, by rw [List.length_set]; exact hj, ?_⟩
      rw [List.getElem_set, if_neg hn]
      exact e
    exact R.sl z (List.mem_cons_of_mem _ this)
theorem zip_get {ρ : Ev} {σ : St} {s : Sl} (hl : ρ.length = σ.length) (h : ρ[i]? = some s) : ∃ o, σ[i]? = some o ∧ (ρ.zip σ)[i]? = some (s, o) := by
  obtain ⟨hi, e⟩ := List.getElem?_eq_some_iff.mp h
  refine ⟨σ[i]'(by omega), by simp, ?_⟩
  rw [List.getElem?_eq_some_iff]
  exact ⟨by rw [List.length_zip]; omega, by rw [List.getElem_zip, e]⟩
theorem zip_set (ρ : Ev) (σ : St) (i : Nat) (s : Sl) (o : Option V) : (ρ.zip σ).set i (s, o) = (ρ.set i s).zip (σ.set i o) := by
  induction ρ generalizing σ i with
  | nil => cases i <;> simp
  | cons a r ih =>
    cases σ with
    | nil => cases i <;> simp
    | cons b t =>
      cases i with
      | zero => simp
      | succ i => simp [ih]
theorem set_self {σ : St} {o : Option V} (h : σ[i]? = some o) : σ.set i o = σ := by
  obtain ⟨hi, e⟩ := List.getElem?_eq_some_iff.mp h
  rw [← e, List.set_getElem_self]
theorem zip_set_l {ρ : Ev} {σ : St} {s : Sl} {o : Option V} (h : σ[i]? = some o) : (ρ.zip σ).set i (s, o) = (ρ.set i s).zip σ := by
  rw [zip_set, set_self h]
end
/-! ### freezing -/
def fz (s : Sl) (k : Dat → Prop) : Prop :=
  match s with
  | .sh d => k d
  | .ol ds => k (.list ds)
  | .od es => k (.dict es)
  | _ => False
section
variable {K : Fg} {Fr Hs H Hs' H' : Hp} {l m : List (Sl × Option V)} {v : V}
theorem RS.frzP {s : Sl} {p : Addr} {o : HO} {x : Sl × Option V} (R : RS K Fr Hs H ((s, some (.ref p)) :: l)) (ho : own1 (s, some (.ref p)) = [p]) (hp : H p = some o) (hx : own1 x = [])
    (hr : Same Hs (upd Hs p o) → SlR K (upd Hs p o) H x.1 x.2) : Same Hs (upd Hs p o) ∧ RS K Fr (upd Hs p o) H (x :: l) := by
  have hw := R.ow p (by rw [List.flatMap_cons, ho]; exact List.mem_cons_self)
  have ss : Same Hs (upd Hs p o) := fun b u e => by rw [upd_ne (ne_of_none e hw.1)]; exact e
  have nd := R.nd
  rw [List.flatMap_cons, ho] at nd
  have np : p ∉ l.flatMap own1 := (List.nodup_cons.mp nd).1
  refine ⟨ss, ⟨fun b u e => ?_, R.fr, fun b u e => ?_, fun z hz => ?_, ?_, ?_⟩⟩
  · by_cases hb : b = p
    · subst hb; rw [upd_same] at e; cases e; exact .inl hp
    · rw [upd_ne hb] at e; exact R.hs b u e
  · have hb : b ≠ p := fun z => by rw [z, hw.2] at e; cases e
    rw [upd_ne hb]
    exact R.dj b u e
  · rcases List.mem_cons.mp hz with e | hz
    · rw [e]; exact hr ss
    · exact (R.sl z (List.mem_cons_of_mem _ hz)).mono (.of ss) fun _ _ _ e => e
  · rw [List.flatMap_cons, hx]; exact (List.nodup_cons.mp nd).2
  · rw [List.flatMap_cons, hx]
    intro q hq
    have hq' : q ≠ p := fun z => np (z ▸ hq)
    obtain ⟨h1, h2⟩ := R.ow q (by rw [List.flatMap_cons]; exact List.mem_append_right _ hq)
    exact ⟨by rw [upd_ne hq']; exact h1, h2⟩
theorem RS.frz {s : Sl} {o : Option V} {k : Dat → Prop} (R : RS K Fr Hs H ((s, o) :: l)) (h : fz s k) : ∃ d Hs', k d ∧ Same Hs Hs' ∧ RS K Fr Hs' H ((.sh d, o) :: l) := by
  cases s with
  | un => exact h.elim
  | io p ds => exact h.elim
  | sh d => exact ⟨d, Hs, h, .refl _, R⟩
  | ol ds =>
    obtain ⟨p, vs, e, hp, r⟩ := R.head
    obtain rfl : o = some (V.ref p) := e
    obtain ⟨a, b⟩ := R.frzP (x := (.sh (.list ds), some (.ref p))) rfl hp rfl fun ss => ⟨_, rfl, .lst (.inl (.inl upd_same)) (r.mono (.of ss))⟩
    exact ⟨_, _, h, a, b⟩
  | od es =>
    obtain ⟨p, e, q⟩ := R.head
    obtain rfl : o = some (V.ref p) := e
    rcases q with ⟨ks, hp, r⟩ | ⟨ks, hp, r⟩
    · obtain ⟨a, b⟩ := R.frzP (x := (.sh (.dict es), some (.ref p))) rfl hp rfl fun ss => ⟨_, rfl, .dik (.inl upd_same) (r.mono (.of ss))⟩
      exact ⟨_, _, h, a, b⟩
    · obtain ⟨a, b⟩ := R.frzP (x := (.sh (.dict es), some (.ref p))) rfl hp rfl fun ss => ⟨_, rfl, .dit (.inl upd_same) (r.mono (.of ss))⟩
      exact ⟨_, _, h, a, b⟩
end
/-! ### judgements -/
abbrev TD := Ev → (Sl → Ev → Prop) → Prop
inductive Lt where
  | c (d : Dat)
  | s (i : Nat)
def Lt.get (ρ : Ev) : Lt → Option Dat
  | .c d => some d
  | .s i => match ρ[i]? with
    | some (.sh d) => some d
    | some (.ol ds) => some (.list ds)
    | some (.od es) => some (.dict es)
    | some (.io _ ds) => some (.list ds)
    | _ => none
abbrev TOD := Ev → (Lt → Ev → Prop) → Prop
abbrev TAD := Ev → (List Lt → Ev → Prop) → Prop
abbrev TTD := Ev → (Bool → Ev → Prop) → Prop
def LR (K : Fg) (Hs : Hp) (σ : St) : Lt → V → Prop
  | .c d, v => Rp K Hs v d
  | .s i, v => σ[i]? = some (some v)
theorem LR.mono {K : Fg} {Hs Hs' : Hp} {σ : St} {l : Lt} {v : V} (s : Same Hs Hs') (h : LR K Hs σ l v) : LR K Hs' σ l v := by
  cases l with
  | c d => exact Rp.mono (.of s) h
  | s i => exact h
abbrev LRs (K : Fg) (Hs : Hp) (σ : St) : List Lt → List V → Prop := Paired (LR K Hs σ)
theorem LRs.mono {K : Fg} {Hs Hs' : Hp} {σ : St} {l : List Lt} {v : List V} (s : Same Hs Hs') (h : LRs K Hs σ l v) : LRs K Hs' σ l v := Paired.mapP h fun _ _ r => r.mono s
/-- at the point of an expression -/
structure At (K : Fg) (Fr Hs : Hp) (ρ : Ev) (σ : St) (H : Hp) : Prop where
  len : ρ.length = σ.length
  rs : RS K Fr Hs H (ρ.zip σ)
def lE (K : Fg) (t : TD) : TE := fun σ H Q => ∃ (Fr Hs : Hp) (ρ : Ev) (QD : Sl → Ev → Prop), At K Fr Hs ρ σ H ∧ t ρ QD ∧
  ∀ s ρ' Hs' H' v, QD s ρ' → ρ'.length = σ.length → Same Hs Hs' → RS K Fr Hs' H' ((s, some v) :: ρ'.zip σ) → Q v H'
def lO (K : Fg) (t : TOD) : TE := fun σ H Q => ∃ (Fr Hs : Hp) (ρ : Ev) (QD : Lt → Ev → Prop), At K Fr Hs ρ σ H ∧ t ρ QD ∧
  ∀ l ρ' Hs' H' v, QD l ρ' → Same Hs Hs' → At K Fr Hs' ρ' σ H' → LR K Hs' σ l v → Q v H'
def lA (K : Fg) (t : TAD) : TA := fun σ H Q => ∃ (Fr Hs : Hp) (ρ : Ev) (QD : List Lt → Ev → Prop), At K Fr Hs ρ σ H ∧ t ρ QD ∧
  ∀ l ρ' Hs' H' vs, QD l ρ' → Same Hs Hs' → At K Fr Hs' ρ' σ H' → LRs K Hs' σ l vs → Q vs H'
def lT (K : Fg) (t : TTD) : TT := fun σ H Q => ∃ (Fr Hs : Hp) (ρ : Ev) (QD : Bool → Ev → Prop), At K Fr Hs ρ σ H ∧ t ρ QD ∧
  ∀ b ρ' Hs' H', QD b ρ' → Same Hs Hs' → At K Fr Hs' ρ' σ H' → Q b H'
structure DE (X : Cx) (e : Expr) (t : TD) : Prop where
  pe : PE X e (lE X.K t)
structure DO (X : Cx) (e : Expr) (t : TOD) : Prop where
  pe : PE X e (lO X.K t)
structure DAs (X : Cx) (es : List Expr) (t : TAD) : Prop where
  pa : PA X es (lA X.K t)
structure DT (X : Cx) (e : Expr) (t : TTD) : Prop where
  pt : PT X e (lT X.K t)
structure DW (X : Cx) (e : Expr) (t : TTD) : Prop where
  pw : PW X e (lT X.K t)
section
variable {X : Cx} {e : Expr}
theorem pe_imp {t t' : TE} (h : PE X e t) (f : ∀ σ H Q, t' σ H Q → t σ H Q) : PE X e t' := ⟨fun pins s σ H Q I q => h.run pins s σ H Q I (f σ H Q q)⟩
theorem pt_imp {t t' : TT} (h : PT X e t) (f : ∀ σ H Q, t' σ H Q → t σ H Q) : PT X e t' := ⟨fun pins s σ H Q I q => h.run pins s σ H Q I (f σ H Q q)⟩
theorem pw_imp {t t' : TT} (h : PW X e t) (f : ∀ σ H Q, t' σ H Q → t σ H Q) : PW X e t' := ⟨fun wh pins s σ H Q I q => h.run wh pins s σ H Q I (f σ H Q q)⟩
theorem pa_imp {es : List Expr} {t t' : TA} (h : PA X es t) (f : ∀ σ H Q, t' σ H Q → t σ H Q) : PA X es t' := ⟨fun pos pins s σ H Q I q => h.run pos pins s σ H Q I (f σ H Q q)⟩
end
/-! ### what may be read -/
inductive Pk (K : Fg) (Hs H : Hp) : V → Dat → Prop
  | st {v : V} {d : Dat} : Rp K Hs v d → Pk K Hs H v d
  | ol {p : Addr} {vs : List V} {ds : List Dat} : H p = some (.lst vs) → Rps K Hs vs ds → Pk K Hs H (.ref p) (.list ds)
  | odk {p : Addr} {ks : List (Key × V)} {es : List (Dat × Dat)} : H p = some (.dK ks) → RpK K Hs ks es → Pk K Hs H (.ref p) (.dict es)
  | odt {p : Addr} {ks : List (List Key × V)} {es : List (Dat × Dat)} : H p = some (.dT ks) → RpT K Hs ks es → Pk K Hs H (.ref p) (.dict es)
abbrev Pks (K : Fg) (Hs H : Hp) : List V → List Dat → Prop := Paired (Pk K Hs H)
section
variable {K : Fg} {Fr Hs H : Hp}
theorem Pk.rp {v : V} {d : Dat} (s : Sub Hs H) (h : Pk K Hs H v d) : Rp K H v d := by
  cases h with
  | st r => exact r.mono s
  | ol h r => exact .lst (.inl (.inl h)) (r.mono s)
  | odk h r => exact .dik (.inl h) (r.mono s)
  | odt h r => exact .dit (.inl h) (r.mono s)
theorem Pk.int {v : V} {i : Int} (h : Pk K Hs H v (.int i)) : v = .int i := by cases h with | st r => cases r; rfl
theorem Pk.str {v : V} {x : Str} (h : Pk K Hs H v (.str x)) : v = .str x := by cases h with | st r => cases r; rfl
theorem Pk.bool {v : V} {b : Bool} (h : Pk K Hs H v (.bool b)) : v = .bl b := by cases h with | st r => cases r; rfl
theorem Pk.none {v : V} (h : Pk K Hs H v .none) : v = .non := by cases h with | st r => cases r; rfl
theorem Pk.list {v : V} {ds : List Dat} (s : Sub Hs H) (h : Pk K Hs H v (.list ds)) : ∃ a xs, v = .ref a ∧ SqL K H a xs ∧ Rps K Hs xs ds := by
  cases h with
  | st r => cases r with | lst h r => exact ⟨_, _, rfl, s.sql h, r⟩
  | ol h r => exact ⟨_, _, rfl, .inl (.inl h), r⟩
theorem Pk.tup {v : V} {ds : List Dat} (s : Sub Hs H) (h : Pk K Hs H v (.tuple ds)) : ∃ a xs, v = .ref a ∧ SqT K H a xs ∧ Rps K Hs xs ds := by
  cases h with
  | st r => cases r with | tup h r => exact ⟨_, _, rfl, s.sqt h, r⟩
theorem Pk.dict {v : V} {es : List (Dat × Dat)} (s : Sub Hs H) (h : Pk K Hs H v (.dict es)) : ∃ a, v = .ref a ∧ ((∃ ks, Rd H a (.dK ks) ∧ RpK K Hs ks es) ∨ ∃ ks, Rd H a (.dT ks) ∧ RpT K Hs ks es) := by
  cases h with
  | st r => cases r with
    | dik h r => exact ⟨_, rfl, .inl ⟨_, s.rd h, r⟩⟩
    | dit h r => exact ⟨_, rfl, .inr ⟨_, s.rd h, r⟩⟩
  | odk h r => exact ⟨_, rfl, .inl ⟨_, .inl h, r⟩⟩
  | odt h r => exact ⟨_, rfl, .inr ⟨_, .inl h, r⟩⟩
theorem At.late {ρ : Ev} {σ : St} {l : Lt} {v : V} {d : Dat} (A : At K Fr Hs ρ σ H) (h : LR K Hs σ l v) (g : l.get ρ = some d) : Pk K Hs H v d := by
  cases l with
  | c d' => cases g; exact .st h
  | s i =>
    cases e : ρ[i]? with
    | none => simp [Lt.get, e] at g
    | some s =>
      obtain ⟨o, e1, e2⟩ := zip_get A.len e
      have hs := A.rs.sl _ (List.mem_of_getElem? e2)
      have e3 : o = some v := Option.some.inj (e1.symm.trans h)
      subst e3
      cases s with
      | un => simp [Lt.get, e] at g
      | sh d' =>
        obtain ⟨w, e4, r⟩ := hs
        cases e4
        simp [Lt.get, e] at g
        subst g
        exact .st r
      | ol ds =>
        obtain ⟨p, vs, e4, hp, r⟩ := hs
        cases e4
        simp [Lt.get, e] at g
        subst g
        exact .ol hp r
      | od es =>
        obtain ⟨p, e4, q⟩ := hs
        cases e4
        simp [Lt.get, e] at g
        subst g
        rcases q with ⟨ks, hp, r⟩ | ⟨ks, hp, r⟩
        · exact .odk hp r
        · exact .odt hp r
      | io p ds =>
        obtain ⟨vs, e4, hp, r⟩ := hs
        cases e4
        simp [Lt.get, e] at g
        subst g
        exact .ol hp r
/-- what a new value must be -/
def Rs (K : Fg) (Hs H : Hp) (Q : VK) (s : Sl) : Prop := ∀ Hs' H' v, Nx Hs H Hs' H' → SlR K Hs' H' s (some v) → (∀ p ∈ own1 (s, some v), Hs' p = Option.none ∧ H p = Option.none) → Q v H'
theorem Rs.sc {Q : VK} {v : V} {d : Dat} (s : Sub Hs H) (r : Rp K Hs v d) (h : Rs K Hs H Q (.sh d)) : Q v H := h Hs H v (.refl s) ⟨v, rfl, r⟩ (by intro p hp; simp [own1] at hp)
theorem nx_own {p : Addr} {o : HO} (s : Sub Hs H) (hp : H p = Option.none) : Nx Hs H Hs (upd H p o) := by
  have sm : Same H (upd H p o) := fun b u e => by rw [upd_ne (ne_of_none e hp)]; exact e
  exact ⟨.refl _, sm, s.trans (.of sm), fun _ _ a b => by rw [a] at b; cases b⟩
theorem nx_both {p : Addr} {o : HO} (s : Sub Hs H) (hp : H p = Option.none) : Nx Hs H (upd Hs p o) (upd H p o) := by
  have sm : Same H (upd H p o) := fun b u e => by rw [upd_ne (ne_of_none e hp)]; exact e
  have sh : Same Hs (upd Hs p o) := fun b u e => by rw [upd_ne (ne_of_none e (s.free hp))]; exact e
  refine ⟨sh, sm, fun b u e => ?_, fun b u e n => ?_⟩
  · by_cases hb : b = p
    · subst hb; rw [upd_same] at e; cases e; exact .inl upd_same
    · rw [upd_ne hb] at e
      rw [upd_ne hb]
      exact s b u e
  · by_cases hb : b = p
    · rw [hb]; exact hp
    · rw [upd_ne hb, n] at e; cases e
theorem Rs.lst {Q : VK} {p : Addr} {vs : List V} {ds : List Dat} (s : Sub Hs H) (r : Rps K Hs vs ds) (hp : H p = Option.none) (h : Rs K Hs H Q (.ol ds)) : Q (.ref p) (upd H p (.lst vs)) :=
  h Hs _ _ (nx_own s hp) ⟨p, vs, rfl, upd_same, r⟩ fun q hq => by
    have e : q = p := by simpa [own1] using hq
    subst e
    exact ⟨s.free hp, hp⟩
theorem Rs.tup {Q : VK} {p : Addr} {vs : List V} {ds : List Dat} (s : Sub Hs H) (r : Rps K Hs vs ds) (hp : H p = Option.none) (h : Rs K Hs H Q (.sh (.tuple ds))) : Q (.ref p) (upd H p (.tup vs)) :=
  let n := nx_both (o := .tup vs) s hp
  h _ _ _ n ⟨.ref p, rfl, .tup (.inl (.inl upd_same)) (r.mono (.of n.ss))⟩ (by intro q hq; simp [own1] at hq)
theorem Rs.dik {Q : VK} {p : Addr} {vs : List (Key × V)} {ds : List (Dat × Dat)} (s : Sub Hs H) (r : RpK K Hs vs ds) (hp : H p = Option.none) (h : Rs K Hs H Q (.od ds)) : Q (.ref p) (upd H p (.dK vs)) :=
  h Hs _ _ (nx_own s hp) ⟨p, rfl, .inl ⟨vs, upd_same, r⟩⟩ fun q hq => by
    have e : q = p := by simpa [own1] using hq
    subst e
    exact ⟨s.free hp, hp⟩
theorem Rs.dit {Q : VK} {p : Addr} {vs : List (List Key × V)} {ds : List (Dat × Dat)} (s : Sub Hs H) (r : RpT K Hs vs ds) (hp : H p = Option.none) (h : Rs K Hs H Q (.od ds)) : Q (.ref p) (upd H p (.dT vs)) :=
  h Hs _ _ (nx_own s hp) ⟨p, rfl, .inr ⟨vs, upd_same, r⟩⟩ fun q hq => by
    have e : q = p := by simpa [own1] using hq
    subst e
    exact ⟨s.free hp, hp⟩
/-- from a state, a new value -/
theorem At.new {ρ : Ev} {σ : St} {Q : VK} {k : Sl → Prop} (A : At K Fr Hs ρ σ H) {s : Sl} (h : ∀ Hs' H' v, Same Hs Hs' → RS K Fr Hs' H' ((s, some v) :: ρ.zip σ) → Q v H') : Rs K Hs H Q s :=
  fun Hs' H' v n r hn => h Hs' H' v n.ss (A.rs.new n r hn (own1_nodup _))
end
/-! ### operations by values -/
abbrev F2 := Dat → Dat → (Sl → Prop) → Prop
abbrev F1 := Dat → (Sl → Prop) → Prop
abbrev FN := List Dat → (Sl → Prop) → Prop
def OpD (X : Cx) (F : Value → Value → Sem Value) (f : F2) : Prop :=
  OpR X F fun x y H Q => ∃ Hs dx dy k, Sub Hs H ∧ Pk X.K Hs H x dx ∧ Pk X.K Hs H y dy ∧ f dx dy k ∧ ∀ s, k s → Rs X.K Hs H Q s
def IxD (X : Cx) (f : F2) : Prop :=
  IxR X fun x y H Q => ∃ Hs dx dy k, Sub Hs H ∧ Pk X.K Hs H x dx ∧ Pk X.K Hs H y dy ∧ f dx dy k ∧ ∀ s, k s → Rs X.K Hs H Q s
def UnD (X : Cx) (F : Value → Sem Value) (f : F1) : Prop :=
  UnR X F fun x H Q => ∃ Hs dx k, Sub Hs H ∧ Pk X.K Hs H x dx ∧ f dx k ∧ ∀ s, k s → Rs X.K Hs H Q s
def CallD (X : Cx) (F : Value) (f : FN) : Prop :=
  CallR X F fun vs H Q => ∃ Hs ds k, Sub Hs H ∧ Pks X.K Hs H vs ds ∧ f ds k ∧ ∀ s, k s → Rs X.K Hs H Q s
def oVar (i : Nat) : TOD := fun ρ Q => ((Lt.s i).get ρ).isSome = true ∧ Q (.s i) ρ
def oExp (t : TD) : TOD := fun ρ Q => t ρ fun s ρ' => fz s fun d => Q (.c d) ρ'
def dVar (i : Nat) : TD := fun ρ Q => ∃ s, ρ[i]? = some s ∧ fz s fun d => Q (.sh d) (ρ.set i (.sh d))
def dC (d : Dat) : TD := fun ρ Q => Q (.sh d) ρ
def dBin (f : F2) (a b : TOD) : TD := fun ρ Q => a ρ fun la ρ1 => b ρ1 fun lb ρ2 => ∃ dx dy, la.get ρ2 = some dx ∧ lb.get ρ2 = some dy ∧ f dx dy fun s => Q s ρ2
def dUn (f : F1) (a : TOD) : TD := fun ρ Q => a ρ fun la ρ1 => ∃ dx, la.get ρ1 = some dx ∧ f dx fun s => Q s ρ1
def aNil : TAD := fun ρ Q => Q [] ρ
def aCons (a : TOD) (r : TAD) : TAD := fun ρ Q => a ρ fun l ρ1 => r ρ1 fun ls ρ2 => Q (l :: ls) ρ2
def gets (ρ : Ev) : List Lt → Option (List Dat)
  | [] => some []
  | l :: ls => match l.get ρ, gets ρ ls with
    | some d, some ds => some (d :: ds)
    | _, _ => none
def dCall (f : FN) (a : TAD) : TD := fun ρ Q => a ρ fun ls ρ1 => ∃ ds, gets ρ1 ls = some ds ∧ f ds fun s => Q s ρ1
section
variable {X : Cx} {a b e : Expr} {es : List Expr} {pos : Pos}
theorem do_var (i : Nat) {x : Str} (hN : X.N[i]? = some x := by rfl) (hv : Vis X.env.scope x := by first | exact Or.inl rfl | exact Or.inr (Or.inl rfl) | exact Or.inr (Or.inr rfl)) (hd : (x == ("__debug__" : Str)) = false := by decide)
    (hcd : (x == ("__classdict__" : Str)) = false := by decide) : DO X (.Name x pos) (oVar i) := by
  refine ⟨⟨fun pins s σ H Q I h => ?_⟩⟩
  obtain ⟨Fr, Hs, ρ, QD, A, ⟨g, q⟩, f⟩ := h
  obtain ⟨d, g⟩ := Option.isSome_iff_exists.mp g
  obtain ⟨v, eσ⟩ : ∃ v, σ[i]? = some (some v) := by
    cases e : ρ[i]? with
    | none => simp [Lt.get, e] at g
    | some s =>
      obtain ⟨o, e1, e2⟩ := zip_get A.len e
      have hs := A.rs.sl _ (List.mem_of_getElem? e2)
      cases s with
      | un => simp [Lt.get, e] at g
      | sh d => obtain ⟨w, e3, _⟩ := hs; exact ⟨w, by rw [e1]; exact congrArg some e3⟩
      | ol d => obtain ⟨w, _, e3, _⟩ := hs; exact ⟨_, by rw [e1]; exact congrArg some e3⟩
      | od d => obtain ⟨w, e3, _⟩ := hs; exact ⟨_, by rw [e1]; exact congrArg some e3⟩
      | io p d => obtain ⟨w, e3, _⟩ := hs; exact ⟨_, by rw [e1]; exact congrArg some e3⟩
  exact (pe_var hN hv hd hcd).run pins s σ H Q I ⟨v, eσ, f _ ρ Hs H v q (.refl _) A eσ⟩
theorem do_exp {t : TD} (h : DE X e t) : DO X e (oExp t) := by
  refine ⟨pe_imp h.pe fun σ H Q hq => ?_⟩
  obtain ⟨Fr, Hs, ρ, QD, A, q, f⟩ := hq
  refine ⟨Fr, Hs, ρ, _, A, q, fun s ρ' Hs' H' v hs hl ss R => ?_⟩
  obtain ⟨d, Hs2, hd, s2, R2⟩ := R.frz hs
  obtain ⟨w, e1, r⟩ := R2.head
  cases e1
  exact f _ ρ' Hs2 H' v hd (ss.trans s2) ⟨hl, R2.tail⟩ r
theorem da_nil : DAs X [] aNil := by
  refine ⟨pa_imp pa_nil fun σ H Q hq => ?_⟩
  obtain ⟨Fr, Hs, ρ, QD, A, q, f⟩ := hq
  exact f [] ρ Hs H [] q (.refl _) A .nil
theorem da_cons {t : TOD} {r : TAD} (h : DO X e t) (hr : DAs X es r) (hs : starEach (e :: es) X.env = (false, eval e X.env) :: starEach es X.env := by rfl) : DAs X (e :: es) (aCons t r) := by
  refine ⟨pa_imp (pa_cons h.pe hr.pa hs) fun σ H Q hq => ?_⟩
  obtain ⟨Fr, Hs, ρ, QD, A, q, f⟩ := hq
  refine ⟨Fr, Hs, ρ, _, A, q, fun l ρ1 Hs1 H1 v q1 s1 A1 r1 => ?_⟩
  refine ⟨Fr, Hs1, ρ1, _, A1, q1, fun ls ρ2 Hs2 H2 vs q2 s2 A2 r2 => ?_⟩
  exact f (l :: ls) ρ2 Hs2 H2 (v :: vs) q2 (s1.trans s2) A2 (.cons (r1.mono s2) r2)
theorem de_bin {op : Operator} {f : F2} {ta tb : TOD} (ho : OpD X (binaryOp op) f) (ha : DO X a ta) (hb : DO X b tb) : DE X (.BinOp a op b pos) (dBin f ta tb) := by
  refine ⟨pe_imp (pe_op ho ha.pe hb.pe) fun σ H Q hq => ?_⟩
  obtain ⟨Fr, Hs, ρ, QD, A, q, g⟩ := hq
  refine ⟨Fr, Hs, ρ, _, A, q, fun l ρ1 Hs1 H1 v q1 s1 A1 r1 => ?_⟩
  refine ⟨Fr, Hs1, ρ1, _, A1, q1, fun l2 ρ2 Hs2 H2 v2 q2 s2 A2 r2 => ?_⟩
  obtain ⟨dx, dy, g1, g2, hf⟩ := q2
  exact ⟨Hs2, dx, dy, _, A2.rs.hs, A2.late (r1.mono s2) g1, A2.late r2 g2, hf, fun s hs => A2.new (k := fun _ => True) fun Hs' H' v ss R => g s ρ2 Hs' H' v hs A2.len ((s1.trans s2).trans ss) R⟩
theorem de_cmp {op : CmpOp} {f : F2} {ta tb : TOD} (ho : OpD X (compareOp op) f) (ha : DO X a ta) (hb : DO X b tb) (hm : behindInMarks op b = false) : DE X (.Compare a [op] [b] pos) (dBin f ta tb) := by
  refine ⟨pe_imp (pe_cmpR ho ha.pe hb.pe hm) fun σ H Q hq => ?_⟩
  obtain ⟨Fr, Hs, ρ, QD, A, q, g⟩ := hq
  refine ⟨Fr, Hs, ρ, _, A, q, fun l ρ1 Hs1 H1 v q1 s1 A1 r1 => ?_⟩
  refine ⟨Fr, Hs1, ρ1, _, A1, q1, fun l2 ρ2 Hs2 H2 v2 q2 s2 A2 r2 => ?_⟩
  obtain ⟨dx, dy, g1, g2, hf⟩ := q2
  exact ⟨Hs2, dx, dy, _, A2.rs.hs, A2.late (r1.mono s2) g1, A2.late r2 g2, hf, fun s hs => A2.new (k := fun _ => True) fun Hs' H' v ss R => g s ρ2 Hs' H' v hs A2.len ((s1.trans s2).trans ss) R⟩
theorem de_ix {f : F2} {ta tb : TOD} (ho : IxD X f) (ha : DO X a ta) (hb : DO X b tb) (hs : PlainIx b := by intro _ _; rfl) : DE X (.Subscript a b pos) (dBin f ta tb) := by
  refine ⟨pe_imp (pe_ix ho ha.pe hb.pe hs) fun σ H Q hq => ?_⟩
  obtain ⟨Fr, Hs, ρ, QD, A, q, g⟩ := hq
  refine ⟨Fr, Hs, ρ, _, A, q, fun l ρ1 Hs1 H1 v q1 s1 A1 r1 => ?_⟩
  refine ⟨Fr, Hs1, ρ1, _, A1, q1, fun l2 ρ2 Hs2 H2 v2 q2 s2 A2 r2 => ?_⟩
  obtain ⟨dx, dy, g1, g2, hf⟩ := q2
  exact ⟨Hs2, dx, dy, _, A2.rs.hs, A2.late (r1.mono s2) g1, A2.late r2 g2, hf, fun s hs => A2.new (k := fun _ => True) fun Hs' H' v ss R => g s ρ2 Hs' H' v hs A2.len ((s1.trans s2).trans ss) R⟩
theorem de_un {op : UnaryOp} {f : F1} {ta : TOD} (ho : UnD X (unaryOp op) f) (ha : DO X a ta) : DE X (.UnaryOp op a pos) (dUn f ta) := by
  refine ⟨pe_imp (pe_un ho ha.pe) fun σ H Q hq => ?_⟩
  obtain ⟨Fr, Hs, ρ, QD, A, q, g⟩ := hq
  refine ⟨Fr, Hs, ρ, _, A, q, fun l ρ1 Hs1 H1 v q1 s1 A1 r1 => ?_⟩
  obtain ⟨dx, g1, hf⟩ := q1
  exact ⟨Hs1, dx, _, A1.rs.hs, A1.late r1 g1, hf, fun s hs => A1.new (k := fun _ => True) fun Hs' H' v ss R => g s ρ1 Hs' H' v hs A1.len (s1.trans ss) R⟩
theorem At.lates {K : Fg} {Fr Hs H : Hp} {ρ : Ev} {σ : St} (A : At K Fr Hs ρ σ H) : ∀ {l : List Lt} {v : List V} {d : List Dat}, LRs K Hs σ l v → gets ρ l = some d → Pks K Hs H v d
  | _, _, _, .nil, g => by cases g; exact .nil
  | l :: ls, _, _, .cons r rs, g => by
    unfold gets at g
    cases e1 : l.get ρ with
    | none => rw [e1] at g; cases g
    | some d =>
      cases e2 : gets ρ ls with
      | none => rw [e1, e2] at g; cases g
      | some ds =>
        rw [e1, e2] at g
        cases g
        exact .cons (A.late r e1) (A.lates rs e2)
theorem de_builtin {id : String} {x : Str} {p : Pos} {f : FN} {t : TAD} (hc : CallD X (.builtin id) f) (hg : Gl X x) (hm : X.mg x = none) (hv : bootBuiltins x = some (.builtin id)) (ha : DAs X (e :: es) t) (hn : x ≠ "__name__" := by decide) (hdb : (x == ("__debug__" : Str)) = false := by decide)
    (he : starEach (e :: es) X.env = (false, eval e X.env) :: starEach es X.env := by rfl) (hpl : (backTo pos (starEach es X.env)).any (·.1) = false := by rfl) : DE X (.Call (.Name x p) (e :: es) [] pos) (dCall f t) := by
  refine ⟨pe_imp (pe_callB hc hg hm hv ha.pa hn hdb he hpl) fun σ H Q hq => ?_⟩
  obtain ⟨Fr, Hs, ρ, QD, A, q, g⟩ := hq
  refine ⟨Fr, Hs, ρ, _, A, q, fun l ρ1 Hs1 H1 vs q1 s1 A1 r1 => ?_⟩
  obtain ⟨ds, g1, hf⟩ := q1
  exact ⟨Hs1, ds, _, A1.rs.hs, A1.lates r1 g1, hf, fun s hs => A1.new (k := fun _ => True) fun Hs' H' v ss R => g s ρ1 Hs' H' v hs A1.len (s1.trans ss) R⟩
theorem de_type {T : String} {x : Str} {p : Pos} {f : FN} {t : TAD} (hc : CallD X (.type T) f) (hg : Gl X x) (hm : X.mg x = none) (hv : bootBuiltins x = some (.type T)) (ha : DAs X (e :: es) t) (hn : x ≠ "__name__" := by decide) (hdb : (x == ("__debug__" : Str)) = false := by decide)
    (he : starEach (e :: es) X.env = (false, eval e X.env) :: starEach es X.env := by rfl) (hpl : (backTo pos (starEach es X.env)).any (·.1) = false := by rfl) : DE X (.Call (.Name x p) (e :: es) [] pos) (dCall f t) := by
  refine ⟨pe_imp (pe_callTy hc hg hm hv ha.pa hn hdb he hpl) fun σ H Q hq => ?_⟩
  obtain ⟨Fr, Hs, ρ, QD, A, q, g⟩ := hq
  refine ⟨Fr, Hs, ρ, _, A, q, fun l ρ1 Hs1 H1 vs q1 s1 A1 r1 => ?_⟩
  obtain ⟨ds, g1, hf⟩ := q1
  exact ⟨Hs1, ds, _, A1.rs.hs, A1.lates r1 g1, hf, fun s hs => A1.new (k := fun _ => True) fun Hs' H' v ss R => g s ρ1 Hs' H' v hs A1.len (s1.trans ss) R⟩
/-- a name as a value: what it holds is frozen -/
theorem At.frz {K : Fg} {Fr Hs H : Hp} {ρ : Ev} {σ : St} {i : Nat} {s : Sl} {k : Dat → Prop} (A : At K Fr Hs ρ σ H) (e : ρ[i]? = some s) (h : fz s k) :
    ∃ d v Hs', k d ∧ Same Hs Hs' ∧ σ[i]? = some (some v) ∧ Rp K Hs' v d ∧ At K Fr Hs' (ρ.set i (.sh d)) σ H := by
  obtain ⟨o, e1, e2⟩ := zip_get A.len e
  obtain ⟨d, Hs', hk, ss, R⟩ := (A.rs.focus e2).frz h
  obtain ⟨v, e3, r⟩ := R.head
  have e3 : o = some v := e3
  subst e3
  have hi : i < (ρ.zip σ).length := (List.getElem?_eq_some_iff.mp e2).1
  have R' := R.unfocus hi
  rw [zip_set_l e1] at R'
  exact ⟨d, v, Hs', hk, ss, e1, r, by rw [List.length_set]; exact A.len, R'⟩
theorem de_var (i : Nat) {x : Str} (hN : X.N[i]? = some x := by rfl) (hv : Vis X.env.scope x := by first | exact Or.inl rfl | exact Or.inr (Or.inl rfl) | exact Or.inr (Or.inr rfl)) (hd : (x == ("__debug__" : Str)) = false := by decide)
    (hcd : (x == ("__classdict__" : Str)) = false := by decide) : DE X (.Name x pos) (dVar i) := by
  refine ⟨⟨fun pins s σ H Q I h => ?_⟩⟩
  obtain ⟨Fr, Hs, ρ, QD, A, q, f⟩ := h
  obtain ⟨z, e, hk⟩ := q
  obtain ⟨d, v, Hs', hd', ss, e1, r, A'⟩ := A.frz e hk
  exact (pe_var hN hv hd hcd).run pins s σ H Q I ⟨v, e1, f (.sh d) _ Hs' H v hd' A'.len ss (A'.rs.add ⟨v, rfl, r⟩ rfl)⟩
end

/-! ### frozen items -/
abbrev TFD := Ev → (List Dat → Ev → Prop) → Prop
def lF (K : Fg) (t : TFD) : TA := fun σ H Q => ∃ (Fr Hs : Hp) (ρ : Ev) (QD : List Dat → Ev → Prop), At K Fr Hs ρ σ H ∧ t ρ QD ∧
  ∀ ds ρ' Hs' H' vs, QD ds ρ' → Same Hs Hs' → At K Fr Hs' ρ' σ H' → Rps K Hs' vs ds → Q vs H'
structure DFs (X : Cx) (es : List Expr) (t : TFD) : Prop where
  pa : PA X es (lF X.K t)
def fNil : TFD := fun ρ Q => Q [] ρ
def fCons (t : TD) (r : TFD) : TFD := fun ρ Q => t ρ fun s ρ1 => fz s fun d => r ρ1 fun ds ρ2 => Q (d :: ds) ρ2
def dTup (t : TFD) : TD := fun ρ Q => t ρ fun ds ρ1 => ds.length ≤ sizeLine ∧ Q (.sh (.tuple ds)) ρ1
def dLst (t : TFD) : TD := fun ρ Q => t ρ fun ds ρ1 => ds.length ≤ sizeLine ∧ Q (.ol ds) ρ1
/-- truth -/
def tru : Dat → (Bool → Prop) → Prop
  | .none, k => k false
  | .bool b, k => k b
  | .int i, k => k (i != 0)
  | .str x, k => x.length ≤ sizeLine ∧ k ((x.length : Int) != 0)
  | .list ds, k => k (!ds.isEmpty)
  | .tuple ds, k => k (!ds.isEmpty)
  | .dict _, _ => False
def tVal (t : TD) : TTD := fun ρ Q => t ρ fun s ρ1 => ∃ b, s = .sh (.bool b) ∧ Q b ρ1
def tTru (t : TOD) : TTD := fun ρ Q => t ρ fun l ρ1 => ∃ d, l.get ρ1 = some d ∧ tru d fun b => Q b ρ1
def tNotD (t : TTD) : TTD := fun ρ Q => t ρ fun b ρ1 => Q (!b) ρ1
def tAndD (t u : TTD) : TTD := fun ρ Q => t ρ fun b ρ1 => if b = true then u ρ1 Q else Q false ρ1
def tOrD (t u : TTD) : TTD := fun ρ Q => t ρ fun b ρ1 => if b = true then Q true ρ1 else u ρ1 Q
def dAnd (t u : TD) : TD := fun ρ Q => t ρ fun s ρ1 => fz s fun d => tru d fun b => if b = true then u ρ1 Q else Q (.sh d) ρ1
def dOr (t u : TD) : TD := fun ρ Q => t ρ fun s ρ1 => fz s fun d => tru d fun b => if b = true then Q (.sh d) ρ1 else u ρ1 Q
def dNot (t : TOD) : TD := fun ρ Q => t ρ fun l ρ1 => ∃ d, l.get ρ1 = some d ∧ tru d fun b => Q (.sh (.bool (!b))) ρ1
def dIf (c : TTD) (t u : TD) : TD := fun ρ Q => c ρ fun b ρ1 => if b = true then t ρ1 Q else u ρ1 Q
abbrev TPD := Ev → (Option Int → Ev → Prop) → Prop
def pNo : TPD := fun ρ Q => Q none ρ
def pYes (t : TD) : TPD := fun ρ Q => t ρ fun s ρ1 => ∃ i, s = .sh (.int i) ∧ Q (some i) ρ1
def lP (K : Fg) (t : TPD) : TO := fun σ H Q => ∃ (Fr Hs : Hp) (ρ : Ev) (QD : Option Int → Ev → Prop), At K Fr Hs ρ σ H ∧ t ρ QD ∧
  ∀ o ρ' Hs' H', QD o ρ' → Same Hs Hs' → At K Fr Hs' ρ' σ H' → Q o H'
structure DP (X : Cx) (e : Option Expr) (t : TPD) : Prop where
  po : PO X e (lP X.K t)
abbrev FS3 := Dat → Option Int → Option Int → (Sl → Prop) → Prop
def SlD (X : Cx) (f : FS3) : Prop :=
  L2.SlR X fun x lo hi H Q => ∃ Hs d k, Sub Hs H ∧ Pk X.K Hs H x d ∧ f d lo hi k ∧ ∀ s, k s → Rs X.K Hs H Q s
def dSlice (f : FS3) (a : TOD) (lo hi : TPD) : TD := fun ρ Q => a ρ fun l ρ1 => lo ρ1 fun i ρ2 => hi ρ2 fun j ρ3 => ∃ d, l.get ρ3 = some d ∧ f d i j fun s => Q s ρ3
theorem tru_of {K : Fg} {Hs H : Hp} {v : V} {d : Dat} {k : Bool → Prop} (s : Sub Hs H) (p : Pk K Hs H v d) (h : tru d k) : ∃ b, TruV K v H b ∧ k b := by
  cases d with
  | none => rw [p.none]; exact ⟨_, rfl, h⟩
  | bool b => rw [p.bool]; exact ⟨_, rfl, h⟩
  | int i => rw [p.int]; exact ⟨_, rfl, h⟩
  | str x => rw [p.str]; exact ⟨_, ⟨h.1, rfl⟩, h.2⟩
  | list ds =>
    obtain ⟨a, xs, rfl, hs, r⟩ := p.list s
    refine ⟨_, .inl ⟨xs, hs, rfl⟩, ?_⟩
    have e : xs.isEmpty = ds.isEmpty := by cases r <;> rfl
    rw [e]; exact h
  | tuple ds =>
    obtain ⟨a, xs, rfl, hs, r⟩ := p.tup s
    refine ⟨_, .inr (.inl ⟨xs, hs, rfl⟩), ?_⟩
    have e : xs.isEmpty = ds.isEmpty := by cases r <;> rfl
    rw [e]; exact h
  | dict es => exact h.elim
section
variable {X : Cx} {a b e : Expr} {es rest : List Expr} {pos : Pos}
theorem df_nil : DFs X [] fNil := ⟨pa_imp pa_nil fun σ H Q ⟨Fr, Hs, ρ, QD, A, q, f⟩ => f [] ρ Hs H [] q (.refl _) A .nil⟩
theorem df_cons {t : TD} {r : TFD} (h : DE X e t) (hr : DFs X es r) (hs : starEach (e :: es) X.env = (false, eval e X.env) :: starEach es X.env := by rfl) : DFs X (e :: es) (fCons t r) := by
  refine ⟨pa_imp (pa_cons h.pe hr.pa hs) fun σ H Q hq => ?_⟩
  obtain ⟨Fr, Hs, ρ, QD, A, q, f⟩ := hq
  refine ⟨Fr, Hs, ρ, _, A, q, fun s ρ1 Hs1 H1 v q1 hl s1 R => ?_⟩
  obtain ⟨d, Hs2, hd, s2, R2⟩ := R.frz q1
  obtain ⟨w, e1, r1⟩ := R2.head
  cases e1
  refine ⟨Fr, Hs2, ρ1, _, ⟨hl, R2.tail⟩, hd, fun ds ρ2 Hs3 H3 vs q3 s3 A3 r3 => ?_⟩
  exact f (d :: ds) ρ2 Hs3 H3 (v :: vs) q3 ((s1.trans s2).trans s3) A3 (.cons (r1.mono (.of s3)) r3)
theorem de_tup {t : TFD} {k} (h : DFs X es t) : DE X (.Tuple es k pos) (dTup t) := by
  refine ⟨pe_imp (pe_tup h.pa) fun σ H Q hq => ?_⟩
  obtain ⟨Fr, Hs, ρ, QD, A, q, f⟩ := hq
  refine ⟨Fr, Hs, ρ, _, A, q, fun ds ρ1 Hs1 H1 vs q1 s1 A1 r1 => ⟨by rw [r1.length]; exact q1.1, fun p hp => ?_⟩⟩
  exact Rs.tup A1.rs.hs r1 hp (A1.new (k := fun _ => True) fun Hs' H' v ss R => f _ ρ1 Hs' H' v q1.2 A1.len (s1.trans ss) R)
theorem de_lst {t : TFD} (h : DFs X es t) : DE X (.List es pos) (dLst t) := by
  refine ⟨pe_imp (pe_lst h.pa) fun σ H Q hq => ?_⟩
  obtain ⟨Fr, Hs, ρ, QD, A, q, f⟩ := hq
  refine ⟨Fr, Hs, ρ, _, A, q, fun ds ρ1 Hs1 H1 vs q1 s1 A1 r1 => ⟨by rw [r1.length]; exact q1.1, fun p hp => ?_⟩⟩
  exact Rs.lst A1.rs.hs r1 hp (A1.new (k := fun _ => True) fun Hs' H' v ss R => f _ ρ1 Hs' H' v q1.2 A1.len (s1.trans ss) R)
theorem de_sc {v : V} {d : Dat} (h : PE X e (tC v)) (r : ∀ Hs, Rp X.K Hs v d) : DE X e (dC d) := by
  refine ⟨pe_imp h fun σ H Q hq => ?_⟩
  obtain ⟨Fr, Hs, ρ, QD, A, q, f⟩ := hq
  exact f _ ρ Hs H v q A.len (.refl _) (A.rs.add ⟨v, rfl, r Hs⟩ rfl)
theorem de_int {i : Int} {j} : DE X (.Constant (.int i) j pos) (dC (.int i)) := de_sc pe_int fun _ => .int i
theorem de_bl {b : Bool} {j} : DE X (.Constant (.bool b) j pos) (dC (.bool b)) := de_sc pe_bl fun _ => .bl b
theorem de_non {j} : DE X (.Constant .none j pos) (dC .none) := de_sc pe_non fun _ => .non
theorem de_str {x : Str} {j} : DE X (.Constant (.str x) j pos) (dC (.str x)) := de_sc pe_str fun _ => .str x
/-- a module's constant -/
theorem de_glob {x : Str} {v : V} {u : Value} {d : Dat} (hg : Gl X x) (hm : X.mg x = some u) (r : RelV v u) (hr : ∀ Hs, Rp X.K Hs v d) (hd : (x == ("__debug__" : Str)) = false := by decide) : DE X (.Name x pos) (dC d) := de_sc (pe_glob hg hm r hd) hr
/-! tests -/
theorem dt_val {t : TD} (h : DE X e t) (he : ∀ whole, isTrue e X.env whole = (do let v ← whole; standAt e.pos; holding [v] (truthy v)) := by intro _; rfl) : DT X e (tVal t) := by
  refine ⟨pt_imp (pt_val h.pe he) fun σ H Q hq => ?_⟩
  obtain ⟨Fr, Hs, ρ, QD, A, q, f⟩ := hq
  refine ⟨Fr, Hs, ρ, _, A, q, fun s ρ1 Hs1 H1 v q1 hl s1 R => ?_⟩
  obtain ⟨b, rfl, qb⟩ := q1
  obtain ⟨w, e1, r1⟩ := R.head
  cases e1
  cases r1
  exact ⟨b, rfl, f b ρ1 Hs1 H1 qb s1 ⟨hl, R.tail⟩⟩
theorem dt_tru {t : TOD} (h : DO X e t) (he : ∀ whole, isTrue e X.env whole = (do let v ← whole; standAt e.pos; holding [v] (truthy v)) := by intro _; rfl) : DT X e (tTru t) := by
  refine ⟨pt_imp (pt_truth h.pe he) fun σ H Q hq => ?_⟩
  obtain ⟨Fr, Hs, ρ, QD, A, q, f⟩ := hq
  refine ⟨Fr, Hs, ρ, _, A, q, fun l ρ1 Hs1 H1 v q1 s1 A1 r1 => ?_⟩
  obtain ⟨d, g, ht⟩ := q1
  obtain ⟨b, hb, qb⟩ := tru_of A1.rs.hs (A1.late r1 g) ht
  exact ⟨b, hb, f b ρ1 Hs1 H1 qb s1 A1⟩
theorem dt_cmp {op : CmpOp} {f : F2} {ta tb : TOD} (ho : OpD X (compareOp op) f) (ha : DO X a ta) (hb : DO X b tb) (hm : behindInMarks op b = false) : DT X (.Compare a [op] [b] pos) (tVal (dBin f ta tb)) := by
  refine ⟨pt_imp (pt_cmpR ho ha.pe hb.pe hm) fun σ H Q hq => ?_⟩
  obtain ⟨Fr, Hs, ρ, QD, A, q, g⟩ := hq
  refine ⟨Fr, Hs, ρ, _, A, q, fun l ρ1 Hs1 H1 v q1 s1 A1 r1 => ?_⟩
  refine ⟨Fr, Hs1, ρ1, _, A1, q1, fun l2 ρ2 Hs2 H2 v2 q2 s2 A2 r2 => ?_⟩
  obtain ⟨dx, dy, g1, g2, hf⟩ := q2
  refine ⟨Hs2, dx, dy, _, A2.rs.hs, A2.late (r1.mono s2) g1, A2.late r2 g2, hf, fun s hs => A2.new (k := fun _ => True) fun Hs' H' v ss R => ?_⟩
  obtain ⟨b, rfl, qb⟩ := hs
  obtain ⟨w, e1, r1⟩ := R.head
  cases e1
  cases r1
  exact ⟨b, rfl, g b ρ2 Hs' H' qb ((s1.trans s2).trans ss) ⟨A2.len, R.tail⟩⟩
theorem dt_not {t : TTD} (h : DT X a t) : DT X (.UnaryOp .Not a pos) (tNotD t) := by
  refine ⟨pt_imp (pt_not h.pt) fun σ H Q hq => ?_⟩
  obtain ⟨Fr, Hs, ρ, QD, A, q, g⟩ := hq
  exact ⟨Fr, Hs, ρ, _, A, q, fun b ρ1 Hs1 H1 q1 s1 A1 => g _ ρ1 Hs1 H1 q1 s1 A1⟩
theorem dt_w {t : TTD} (h : DW X e t) : DT X e t := ⟨h.pw.pt⟩
theorem dw_and1 {t : TTD} (h : DT X a t) : DW X (.BoolOp .And [a] pos) t := ⟨pw_and1 h.pt⟩
theorem dw_or1 {t : TTD} (h : DT X a t) : DW X (.BoolOp .Or [a] pos) t := ⟨pw_or1 h.pt⟩
theorem dw_and {t u : TTD} (h : DT X a t) (hb : DW X (.BoolOp .And (b :: rest) pos) u) : DW X (.BoolOp .And (a :: b :: rest) pos) (tAndD t u) := by
  refine ⟨pw_imp (pw_and h.pt hb.pw) fun σ H Q hq => ?_⟩
  obtain ⟨Fr, Hs, ρ, QD, A, q, g⟩ := hq
  refine ⟨Fr, Hs, ρ, _, A, q, fun b ρ1 Hs1 H1 q1 s1 A1 => ?_⟩
  cases b with
  | true => exact ⟨Fr, Hs1, ρ1, _, A1, q1, fun b' ρ2 Hs2 H2 q2 s2 A2 => g _ _ _ _ q2 (s1.trans s2) A2⟩
  | false => exact g _ _ _ _ q1 s1 A1
theorem dw_or {t u : TTD} (h : DT X a t) (hb : DW X (.BoolOp .Or (b :: rest) pos) u) : DW X (.BoolOp .Or (a :: b :: rest) pos) (tOrD t u) := by
  refine ⟨pw_imp (pw_or h.pt hb.pw) fun σ H Q hq => ?_⟩
  obtain ⟨Fr, Hs, ρ, QD, A, q, g⟩ := hq
  refine ⟨Fr, Hs, ρ, _, A, q, fun b ρ1 Hs1 H1 q1 s1 A1 => ?_⟩
  cases b with
  | false => exact ⟨Fr, Hs1, ρ1, _, A1, q1, fun b' ρ2 Hs2 H2 q2 s2 A2 => g _ _ _ _ q2 (s1.trans s2) A2⟩
  | true => exact g _ _ _ _ q1 s1 A1
/-! logic as values -/
theorem de_one {op} {t : TD} (h : DE X a t) : DE X (.BoolOp op [a] pos) t := ⟨pe_one h.pe⟩
theorem de_and {t u : TD} (h : DE X a t) (hb : DE X (.BoolOp .And (b :: rest) pos) u) : DE X (.BoolOp .And (a :: b :: rest) pos) (dAnd t u) := by
  refine ⟨pe_imp (pe_andT h.pe hb.pe) fun σ H Q hq => ?_⟩
  obtain ⟨Fr, Hs, ρ, QD, A, q, g⟩ := hq
  refine ⟨Fr, Hs, ρ, _, A, q, fun s ρ1 Hs1 H1 v q1 hl s1 R => ?_⟩
  obtain ⟨d, Hs2, hd, s2, R2⟩ := R.frz q1
  obtain ⟨w, e1, r1⟩ := R2.head
  cases e1
  obtain ⟨k, hk, hq⟩ := tru_of R2.hs (.st r1) hd
  refine ⟨k, hk, ?_⟩
  cases k with
  | true => exact ⟨Fr, Hs2, ρ1, _, ⟨hl, R2.tail⟩, hq, fun s' ρ2 Hs3 H3 v3 q3 hl3 s3 R3 => g s' ρ2 Hs3 H3 v3 q3 hl3 ((s1.trans s2).trans s3) R3⟩
  | false => exact g _ ρ1 Hs2 H1 v hq hl (s1.trans s2) R2
theorem de_or {t u : TD} (h : DE X a t) (hb : DE X (.BoolOp .Or (b :: rest) pos) u) : DE X (.BoolOp .Or (a :: b :: rest) pos) (dOr t u) := by
  refine ⟨pe_imp (pe_orT h.pe hb.pe) fun σ H Q hq => ?_⟩
  obtain ⟨Fr, Hs, ρ, QD, A, q, g⟩ := hq
  refine ⟨Fr, Hs, ρ, _, A, q, fun s ρ1 Hs1 H1 v q1 hl s1 R => ?_⟩
  obtain ⟨d, Hs2, hd, s2, R2⟩ := R.frz q1
  obtain ⟨w, e1, r1⟩ := R2.head
  cases e1
  obtain ⟨k, hk, hq⟩ := tru_of R2.hs (.st r1) hd
  refine ⟨k, hk, ?_⟩
  cases k with
  | false => exact ⟨Fr, Hs2, ρ1, _, ⟨hl, R2.tail⟩, hq, fun s' ρ2 Hs3 H3 v3 q3 hl3 s3 R3 => g s' ρ2 Hs3 H3 v3 q3 hl3 ((s1.trans s2).trans s3) R3⟩
  | true => exact g _ ρ1 Hs2 H1 v hq hl (s1.trans s2) R2
theorem de_not {t : TOD} (h : DO X a t) : DE X (.UnaryOp .Not a pos) (dNot t) := by
  refine ⟨pe_imp (pe_notT h.pe) fun σ H Q hq => ?_⟩
  obtain ⟨Fr, Hs, ρ, QD, A, q, f⟩ := hq
  refine ⟨Fr, Hs, ρ, _, A, q, fun l ρ1 Hs1 H1 v q1 s1 A1 r1 => ?_⟩
  obtain ⟨d, g, ht⟩ := q1
  obtain ⟨b, hb, qb⟩ := tru_of A1.rs.hs (A1.late r1 g) ht
  exact ⟨b, hb, f _ ρ1 Hs1 H1 _ qb A1.len s1 (A1.rs.add ⟨_, rfl, .bl _⟩ rfl)⟩
theorem de_if {c : Expr} {tc : TTD} {t u : TD} (hc : DT X c tc) (h : DE X a t) (hb : DE X b u) : DE X (.IfExp c a b pos) (dIf tc t u) := by
  refine ⟨pe_imp (pe_ifExp hc.pt h.pe hb.pe) fun σ H Q hq => ?_⟩
  obtain ⟨Fr, Hs, ρ, QD, A, q, f⟩ := hq
  refine ⟨Fr, Hs, ρ, _, A, q, fun k ρ1 Hs1 H1 q1 s1 A1 => ?_⟩
  cases k with
  | true => exact ⟨Fr, Hs1, ρ1, _, A1, q1, fun s' ρ2 Hs3 H3 v3 q3 hl3 s3 R3 => f s' ρ2 Hs3 H3 v3 q3 hl3 (s1.trans s3) R3⟩
  | false => exact ⟨Fr, Hs1, ρ1, _, A1, q1, fun s' ρ2 Hs3 H3 v3 q3 hl3 s3 R3 => f s' ρ2 Hs3 H3 v3 q3 hl3 (s1.trans s3) R3⟩
/-! slices -/
theorem dp_no : DP X none pNo := ⟨⟨fun pins s σ H Q I ⟨Fr, Hs, ρ, QD, A, q, f⟩ => po_none.run pins s σ H Q I (f none ρ Hs H q (.refl _) A)⟩⟩
theorem dp_yes {t : TD} (h : DE X e t) : DP X (some e) (pYes t) := by
  refine ⟨⟨fun pins s σ H Q I hq => (po_some h.pe).run pins s σ H Q I ?_⟩⟩
  obtain ⟨Fr, Hs, ρ, QD, A, q, f⟩ := hq
  refine ⟨Fr, Hs, ρ, _, A, q, fun s ρ1 Hs1 H1 v q1 hl s1 R => ?_⟩
  obtain ⟨i, rfl, qi⟩ := q1
  obtain ⟨w, e1, r1⟩ := R.head
  cases e1
  cases r1
  exact ⟨i, rfl, f _ ρ1 Hs1 H1 qi s1 ⟨hl, R.tail⟩⟩
theorem de_slice {lo hi : Option Expr} {p2 : Pos} {f : FS3} {t : TOD} {tl th : TPD} (hr : SlD X f) (he : DO X e t) (hl : DP X lo tl) (hu : DP X hi th) : DE X (.Subscript e (.Slice lo hi none p2) pos) (dSlice f t tl th) := by
  refine ⟨pe_imp (pe_slice hr he.pe hl.po hu.po) fun σ H Q hq => ?_⟩
  obtain ⟨Fr, Hs, ρ, QD, A, q, g⟩ := hq
  refine ⟨Fr, Hs, ρ, _, A, q, fun l ρ1 Hs1 H1 v q1 s1 A1 r1 => ?_⟩
  refine ⟨Fr, Hs1, ρ1, _, A1, q1, fun o ρ2 Hs2 H2 q2 s2 A2 => ?_⟩
  refine ⟨Fr, Hs2, ρ2, _, A2, q2, fun o2 ρ3 Hs3 H3 q3 s3 A3 => ?_⟩
  obtain ⟨d, g1, hf⟩ := q3
  exact ⟨Hs3, d, _, A3.rs.hs, A3.late (r1.mono (s2.trans s3)) g1, hf, fun s hs => A3.new (k := fun _ => True) fun Hs' H' v ss R => g s ρ3 Hs' H' v hs A3.len (((s1.trans s2).trans s3).trans ss) R⟩
end
/-! ### a list that changes in place: the method of a name -/
abbrev FM := List Dat → List Dat → (Dat → List Dat → Prop) → Prop
def MutD (X : Cx) (id : String) (f : FM) : Prop :=
  MtR X id fun x vs H Q => ∃ (p : Addr) (xs : List V) (Hs : Hp) (ds as : List Dat) (k : Dat → List Dat → Prop), x = .ref p ∧ H p = some (.lst xs) ∧ Sub Hs H ∧ Rps X.K Hs xs ds ∧ Rps X.K Hs vs as ∧ f ds as k ∧
    ∀ d ds', k d ds' → ∀ v xs', Rp X.K Hs v d → Rps X.K Hs xs' ds' → Q v (upd H p (.lst xs'))
/-- the list at a name, and with another content -/
def lstAt (ρ : Ev) (i : Nat) : Option (List Dat) := match ρ[i]? with
  | some (.ol ds) => some ds
  | some (.io _ ds) => some ds
  | _ => none
def putAt (ρ : Ev) (i : Nat) (ds : List Dat) : Ev := match ρ[i]? with
  | some (.io p _) => ρ.set i (.io p ds)
  | _ => ρ.set i (.ol ds)
def dMut (i : Nat) (f : FM) (t : TFD) : TD := fun ρ Q => (lstAt ρ i).isSome = true ∧ t ρ fun as ρ1 => ∃ ds, lstAt ρ1 i = some ds ∧ f ds as fun d ds' => Q (.sh d) (putAt ρ1 i ds')
section
variable {K : Fg} {Fr Hs H : Hp} {ρ : Ev} {σ : St} {i : Nat} {ds ds' : List Dat} {xs' : List V}
theorem At.lst (A : At K Fr Hs ρ σ H) (h : lstAt ρ i = some ds) : ∃ p xs, σ[i]? = some (some (.ref p)) ∧ H p = some (.lst xs) ∧ Rps K Hs xs ds := by
  unfold lstAt at h
  cases e : ρ[i]? with
  | none => rw [e] at h; cases h
  | some s =>
    obtain ⟨o, e1, e2⟩ := zip_get A.len e
    have hs := A.rs.sl _ (List.mem_of_getElem? e2)
    rw [e] at h
    cases s with
    | un => cases h
    | sh d => cases h
    | od d => cases h
    | ol d => obtain ⟨p, vs, e3, h1, h2⟩ := hs; cases h; exact ⟨p, vs, by rw [e1]; exact congrArg some e3, h1, h2⟩
    | io q d => obtain ⟨vs, e3, h1, h2⟩ := hs; cases h; exact ⟨q, vs, by rw [e1]; exact congrArg some e3, h1, h2⟩
theorem At.putLst {p : Addr} (A : At K Fr Hs ρ σ H) (h : lstAt ρ i = some ds) (hσ : σ[i]? = some (some (.ref p))) (r : Rps K Hs xs' ds') : At K Fr Hs (putAt ρ i ds') σ (upd H p (.lst xs')) := by
  unfold lstAt at h
  cases e : ρ[i]? with
  | none => rw [e] at h; cases h
  | some s =>
    obtain ⟨o, e1, e2⟩ := zip_get A.len e
    rw [hσ] at e1
    cases e1
    have hi : i < (ρ.zip σ).length := (List.getElem?_eq_some_iff.mp e2).1
    have R := A.rs.focus e2
    have go : ∀ s' : Sl, own1 (s, some (.ref p)) = [p] → own1 (s', some (.ref p)) = [p] → SlR K Hs (upd H p (.lst xs')) s' (some (.ref p)) → At K Fr Hs (ρ.set i s') σ (upd H p (.lst xs')) := by
      intro s' o1 o2 hs'
      have nd := R.nd
      rw [List.flatMap_cons, o1] at nd
      have np : p ∉ ((ρ.zip σ).set i (.un, none)).flatMap own1 := (List.nodup_cons.mp nd).1
      have hw := R.ow p (by rw [List.flatMap_cons, o1]; exact List.mem_cons_self)
      have R' : RS K Fr Hs (upd H p (.lst xs')) ((s', some (.ref p)) :: (ρ.zip σ).set i (.un, none)) := by
        refine ⟨fun b u q => ?_, fun b u q => ?_, R.dj, fun z hz => ?_, ?_, ?_⟩
        · rw [upd_ne (ne_of_none q hw.1)]; exact R.hs b u q
        · rw [upd_ne (ne_of_none q hw.2)]; exact R.fr b u q
        · rcases List.mem_cons.mp hz with z1 | z1
          · rw [z1]; exact hs'
          · refine (R.sl z (List.mem_cons_of_mem _ z1)).mono (.refl _) fun q hq u e => ?_
            have nq : q ≠ p := fun c => np (List.mem_flatMap.mpr ⟨z, z1, c ▸ hq⟩)
            rw [upd_ne nq]; exact e
        · rw [List.flatMap_cons, o2]; exact nd
        · rw [List.flatMap_cons, o2]
          have := R.ow
          rw [List.flatMap_cons, o1] at this
          exact this
      have R2 := R'.unfocus hi
      rw [zip_set_l hσ] at R2
      exact ⟨by rw [List.length_set]; exact A.len, R2⟩
    unfold putAt
    rw [e] at h ⊢
    cases s with
    | un => cases h
    | sh d => cases h
    | od d => cases h
    | ol d => exact go (.ol ds') rfl rfl ⟨p, xs', rfl, upd_same, r⟩
    | io q d =>
      obtain ⟨vs, e3, h1, h2⟩ := R.head
      cases e3
      exact go (.io p ds') rfl rfl ⟨xs', rfl, upd_same, r⟩
end
section
variable {X : Cx} {e : Expr} {es : List Expr} {name x : Str} {px apos cpos : Pos} {id : String} {f : FM} {t : TFD}
theorem de_mut (i : Nat) (slot : Slot "list" name id) (hty : typeOf (.builtin id) = pure (.type "method_descriptor")) (hm : MutD X id f) (ha : DFs X (e :: es) t)
    (hN : X.N[i]? = some x := by rfl) (hv : Vis X.env.scope x := by first | exact Or.inl rfl | exact Or.inr (Or.inl rfl) | exact Or.inr (Or.inr rfl)) (hd : (x == ("__debug__" : Str)) = false := by decide) (hcd : (x == ("__classdict__" : Str)) = false := by decide)
    (hbase : attributeBase (.Name x px) name X.env (eval (.Name x px) X.env) = eval (.Name x px) X.env := by rfl)
    (hfew : ((backTo cpos (starEach (e :: es) X.env)).all (fun x => !x.1) && (backToKw cpos (keywordEach [] X.env)).all (fun x => x.1.isSome)
      && decide ((e :: es).length + ([] : List Keyword).length + (if ([] : List Keyword).isEmpty then 0 else 1) < 30)) = true := by rfl)
    (hline : (apos.endLine == cpos.line) = true := by rfl) (hs : starEach (e :: es) X.env = (false, eval e X.env) :: starEach es X.env := by rfl) (hplain : (backTo cpos (starEach es X.env)).any (·.1) = false := by rfl) :
    DE X (.Call (.Attribute (.Name x px) name apos) (e :: es) [] cpos) (dMut i f t) := by
  refine ⟨pe_imp (pe_bm PySem.F.plainAttrs_list slot hty hm (pe_var hN hv hd hcd) ha.pa hbase hfew hline hs hplain) fun σ H Q hq => ?_⟩
  obtain ⟨Fr, Hs, ρ, QD, A, ⟨q0, q⟩, g⟩ := hq
  obtain ⟨d0, q0⟩ := Option.isSome_iff_exists.mp q0
  obtain ⟨p0, xs0, e0, h0, r0⟩ := A.lst q0
  refine ⟨_, e0, .inl ⟨rfl, _, .inl (.inl h0)⟩, Fr, Hs, ρ, _, A, q, fun as ρ1 Hs1 H1 vs q1 s1 A1 r1 => ?_⟩
  obtain ⟨ds, hl, hf⟩ := q1
  obtain ⟨p, xs, e1, h1, r2⟩ := A1.lst hl
  rw [e0] at e1
  cases e1
  refine ⟨p0, xs, Hs1, ds, as, _, rfl, h1, A1.rs.hs, r2, r1, hf, fun d ds' hk v xs' rv rx => ?_⟩
  have A2 := A1.putLst hl e0 rx
  exact g _ _ Hs1 _ v hk A2.len s1 (A2.rs.add ⟨v, rfl, rv⟩ rfl)
theorem de_mut0 (i : Nat) (slot : Slot "list" name id) (hty : typeOf (.builtin id) = pure (.type "method_descriptor")) (hm : MutD X id f)
    (hN : X.N[i]? = some x := by rfl) (hv : Vis X.env.scope x := by first | exact Or.inl rfl | exact Or.inr (Or.inl rfl) | exact Or.inr (Or.inr rfl)) (hd : (x == ("__debug__" : Str)) = false := by decide) (hcd : (x == ("__classdict__" : Str)) = false := by decide)
    (hbase : attributeBase (.Name x px) name X.env (eval (.Name x px) X.env) = eval (.Name x px) X.env := by rfl) (hline : (apos.endLine == cpos.line) = true := by rfl) :
    DE X (.Call (.Attribute (.Name x px) name apos) [] [] cpos) (dMut i f fNil) := by
  refine ⟨pe_imp (pe_bm0 PySem.F.plainAttrs_list slot hty hm (pe_var hN hv hd hcd) hbase hline) fun σ H Q hq => ?_⟩
  obtain ⟨Fr, Hs, ρ, QD, A, ⟨q0, ds, hl, hf⟩, g⟩ := hq
  obtain ⟨p, xs, e0, h0, r0⟩ := A.lst hl
  refine ⟨_, e0, .inl ⟨rfl, _, .inl (.inl h0)⟩, p, xs, Hs, ds, [], _, rfl, h0, A.rs.hs, r0, .nil, hf, fun d ds' hk v xs' rv rx => ?_⟩
  have A2 := A.putLst hl e0 rx
  exact g _ _ Hs _ v hk A2.len (.refl _) (A2.rs.add ⟨v, rfl, rv⟩ rfl)
end

/-! ### statements -/
structure DEn where
  nx : Ev → Prop
  rt : Sl → Ev → Prop
  bk : Ev → Prop := fun _ => False
  ct : Ev → Prop := fun _ => False
abbrev TSD := DEn → Ev → Prop
def lS (K : Fg) (t : TSD) : TS := fun D σ H => ∃ (Fr Hs : Hp) (ρ : Ev) (E : DEn), At K Fr Hs ρ σ H ∧ t E ρ ∧
  (∀ ρ' σ' Hs' H', E.nx ρ' → Same Hs Hs' → At K Fr Hs' ρ' σ' H' → D.nx σ' H') ∧
  (∀ s ρ' σ' Hs' H' v, E.rt s ρ' → Same Hs Hs' → ρ'.length = σ'.length → RS K Fr Hs' H' ((s, some v) :: ρ'.zip σ') → D.rt v H') ∧
  (∀ ρ' σ' Hs' H', E.bk ρ' → Same Hs Hs' → At K Fr Hs' ρ' σ' H' → D.bk σ' H') ∧
  (∀ ρ' σ' Hs' H', E.ct ρ' → Same Hs Hs' → At K Fr Hs' ρ' σ' H' → D.ct σ' H')
structure DS (X : Cx) (st : Stmt) (t : TSD) : Prop where
  ps : PS X st (lS X.K t)
structure DSs (X : Cx) (st : List Stmt) (t : TSD) : Prop where
  ps : PSs X st (lS X.K t)
theorem ps_imp {X : Cx} {st : Stmt} {t t' : TS} (h : PS X st t) (f : ∀ D σ H, t' D σ H → t D σ H) : PS X st t' := ⟨fun pins s σ H D I q => h.run pins s σ H D I (f D σ H q)⟩
theorem pss_imp {X : Cx} {st : List Stmt} {t t' : TS} (h : PSs X st t) (f : ∀ D σ H, t' D σ H → t D σ H) : PSs X st t' := ⟨fun pins s σ H D I q => h.run pins s σ H D I (f D σ H q)⟩
def sNext : TSD := fun E ρ => E.nx ρ
def sSeq (t u : TSD) : TSD := fun E ρ => t { E with nx := u E } ρ
def sDrop (t : TD) : TSD := fun E ρ => t ρ fun _ ρ1 => E.nx ρ1
def sRet (t : TD) : TSD := fun E ρ => t ρ E.rt
def sRetN : TSD := fun E ρ => E.rt (.sh .none) ρ
def sIf (c : TTD) (t u : TSD) : TSD := fun E ρ => c ρ fun b ρ1 => if b = true then t E ρ1 else u E ρ1
def sNever : TSD := fun _ _ => False
def sBreak : TSD := fun E ρ => E.bk ρ
def sCont : TSD := fun E ρ => E.ct ρ
def notIo : Option Sl → Prop
  | some (.io _ _) => False
  | none => False
  | _ => True
def notIoS : Sl → Prop
  | .io _ _ => False
  | _ => True
def sSet (i : Nat) (t : TD) : TSD := fun E ρ => t ρ fun s ρ1 => notIo ρ1[i]? ∧ E.nx (ρ1.set i s)
/-- return of a name: what it owns is handed on -/
def sRetV (i : Nat) : TSD := fun E ρ => match ρ[i]? with
  | some (.sh d) => E.rt (.sh d) ρ
  | some (.ol ds) => E.rt (.ol ds) (ρ.set i .un)
  | some (.od es) => E.rt (.od es) (ρ.set i .un)
  | _ => False
section
variable {K : Fg} {Fr Hs H : Hp} {ρ : Ev} {σ : St} {i : Nat}
theorem flat_un (l : List (Sl × Option V)) (i : Nat) (x : Sl × Option V) (hx : own1 x = []) : ((l.set i x).flatMap own1).Sublist (l.flatMap own1) := by
  induction l generalizing i with
  | nil => simp
  | cons a r ih =>
    cases i with
    | zero =>
      rw [List.set_cons_zero, List.flatMap_cons, List.flatMap_cons, hx]
      exact List.sublist_append_right _ _
    | succ i =>
      rw [List.set_cons_succ, List.flatMap_cons, List.flatMap_cons]
      exact (List.Sublist.refl _).append (ih i)
theorem flat_same {x y : Sl × Option V} (l : List (Sl × Option V)) (i : Nat) (h : own1 x = own1 y) : (l.set i x).flatMap own1 = (l.set i y).flatMap own1 := by
  induction l generalizing i with
  | nil => simp
  | cons a r ih =>
    cases i with
    | zero => rw [List.set_cons_zero, List.set_cons_zero, List.flatMap_cons, List.flatMap_cons, h]
    | succ i => rw [List.set_cons_succ, List.set_cons_succ, List.flatMap_cons, List.flatMap_cons, ih i]
/-- a name is stored -/
theorem RS.store {s : Sl} {o : Option V} (hl : ρ.length = σ.length) (hi : i < ρ.length) (R : RS K Fr Hs H ((s, o) :: ρ.zip σ)) : At K Fr Hs (ρ.set i s) (σ.set i o) H := by
  refine ⟨by simp [hl], ?_⟩
  rw [← zip_set]
  refine RS.unfocus ?_ (by rw [List.length_zip]; omega)
  have sb := flat_un (ρ.zip σ) i (.un, none) rfl
  refine ⟨R.hs, R.fr, R.dj, fun z hz => ?_, ?_, fun p hp => ?_⟩
  · rcases List.mem_cons.mp hz with e | hz
    · rw [e]; exact R.head
    · rcases mem_set_un hz with hz | hz
      · exact R.sl z (List.mem_cons_of_mem _ hz)
      · rw [hz]; trivial
  · have := R.nd
    rw [List.flatMap_cons] at this ⊢
    exact this.sublist ((List.Sublist.refl _).append sb)
  · refine R.ow p ?_
    rw [List.flatMap_cons] at hp ⊢
    rcases List.mem_append.mp hp with h | h
    · exact List.mem_append_left _ h
    · exact List.mem_append_right _ (sb.subset h)
end
section
variable {X : Cx} {st : Stmt} {rest : List Stmt} {e : Expr} {t : TD} {u v : TSD} {pos : Pos}
theorem dss_nil : DSs X [] sNext := ⟨pss_imp pss_nil fun D σ H ⟨Fr, Hs, ρ, E, A, q, f, _⟩ => f ρ σ Hs H q (.refl _) A⟩
theorem dss_one (h : DS X st u) : DSs X [st] u := ⟨pss_one h.ps⟩
theorem dss_cons (h : DS X st u) (hr : DSs X rest v) : DSs X (st :: rest) (sSeq u v) := by
  refine ⟨pss_imp (pss_cons h.ps hr.ps) fun D σ H hq => ?_⟩
  obtain ⟨Fr, Hs, ρ, E, A, q, f1, f2, f3, f4⟩ := hq
  refine ⟨Fr, Hs, ρ, { E with nx := v E }, A, q, fun ρ1 σ1 Hs1 H1 q1 s1 A1 => ?_, f2, f3, f4⟩
  exact ⟨Fr, Hs1, ρ1, E, A1, q1, fun ρ2 σ2 Hs2 H2 q2 s2 A2 => f1 _ _ _ _ q2 (s1.trans s2) A2, fun s ρ2 σ2 Hs2 H2 w q2 s2 l2 R2 => f2 _ _ _ _ _ _ q2 (s1.trans s2) l2 R2,
    fun ρ2 σ2 Hs2 H2 q2 s2 A2 => f3 _ _ _ _ q2 (s1.trans s2) A2, fun ρ2 σ2 Hs2 H2 q2 s2 A2 => f4 _ _ _ _ q2 (s1.trans s2) A2⟩
theorem ds_never : DS X st sNever := ⟨⟨fun _ _ _ _ _ _ h => (by obtain ⟨_, _, _, _, _, q, _⟩ := h; exact q.elim)⟩⟩
theorem ds_pass : DS X (.Pass pos) sNext := ⟨ps_imp ps_pass fun D σ H ⟨Fr, Hs, ρ, E, A, q, f, _⟩ => f ρ σ Hs H q (.refl _) A⟩
theorem ds_break : DS X (.Break pos) sBreak := ⟨ps_imp ps_break fun D σ H ⟨Fr, Hs, ρ, E, A, q, _, _, f, _⟩ => f ρ σ Hs H q (.refl _) A⟩
theorem ds_continue : DS X (.Continue pos) sCont := ⟨ps_imp ps_continue fun D σ H ⟨Fr, Hs, ρ, E, A, q, _, _, _, f⟩ => f ρ σ Hs H q (.refl _) A⟩
theorem ds_expr (h : DE X e t) (hs : swapsWith e none pos.line X.env = pure false := by rfl) : DS X (.Expr e pos) (sDrop t) := by
  refine ⟨ps_imp (ps_expr h.pe hs) fun D σ H hq => ?_⟩
  obtain ⟨Fr, Hs, ρ, E, A, q, f1, f2, f3, f4⟩ := hq
  exact ⟨Fr, Hs, ρ, _, A, q, fun s ρ1 Hs1 H1 w q1 hl s1 R => f1 ρ1 σ Hs1 H1 q1 s1 ⟨hl, R.tail⟩⟩
theorem ds_ret (h : DE X e t) : DS X (.Return (some e) pos) (sRet t) := by
  refine ⟨ps_imp (ps_ret h.pe) fun D σ H hq => ?_⟩
  obtain ⟨Fr, Hs, ρ, E, A, q, f1, f2, f3, f4⟩ := hq
  exact ⟨Fr, Hs, ρ, _, A, q, fun s ρ1 Hs1 H1 w q1 hl s1 R => f2 s ρ1 σ Hs1 H1 w q1 s1 hl R⟩
theorem ds_retN : DS X (.Return none pos) sRetN := ⟨ps_imp ps_retN fun D σ H ⟨Fr, Hs, ρ, E, A, q, _, f, _⟩ => f _ ρ σ Hs H _ q (.refl _) A.len (A.rs.add ⟨_, rfl, .non⟩ rfl)⟩
theorem ds_retV (i : Nat) {x : Str} {px : Pos} (hN : X.N[i]? = some x := by rfl) (hv : Vis X.env.scope x := by first | exact Or.inl rfl | exact Or.inr (Or.inl rfl) | exact Or.inr (Or.inr rfl)) (hd : (x == ("__debug__" : Str)) = false := by decide)
    (hcd : (x == ("__classdict__" : Str)) = false := by decide) : DS X (.Return (some (.Name x px)) pos) (sRetV i) := by
  refine ⟨ps_imp (ps_ret (pe_var hN hv hd hcd)) fun D σ H hq => ?_⟩
  obtain ⟨Fr, Hs, ρ, E, A, q, f1, f2, f3, f4⟩ := hq
  unfold sRetV at q
  cases e : ρ[i]? with
  | none => rw [e] at q; exact q.elim
  | some s =>
    obtain ⟨o, e1, e2⟩ := zip_get A.len e
    have hi : i < (ρ.zip σ).length := (List.getElem?_eq_some_iff.mp e2).1
    have R := A.rs.focus e2
    rw [e] at q
    have go : ∀ w s', o = some w → own1 (Sl.un, o) = [] → (E.rt s' (ρ.set i .un)) → s' = s → (tRet (tVar i)) D σ H := by
      intro w s' ho _ hq hs
      subst ho hs
      refine ⟨w, e1, f2 s' (ρ.set i .un) σ Hs H w hq (.refl _) (by rw [List.length_set]; exact A.len) ?_⟩
      have fz : ∀ l : List (Sl × Option V), (l.set i (Sl.un, some w)).flatMap own1 = (l.set i (Sl.un, none)).flatMap own1 := fun l => flat_same l i rfl
      have Z : (ρ.set i .un).zip σ = (ρ.zip σ).set i (.un, some w) := (zip_set_l e1).symm
      rw [Z]
      refine ⟨R.hs, R.fr, R.dj, fun z hz => ?_, ?_, ?_⟩
      · rcases List.mem_cons.mp hz with e | hz
        · rw [e]; exact R.head
        · rcases List.mem_or_eq_of_mem_set hz with hz | hz
          · exact A.rs.sl z hz
          · rw [hz]; trivial
      · rw [List.flatMap_cons, fz]; exact R.nd
      · rw [List.flatMap_cons, fz]; exact R.ow
    have hs := A.rs.sl _ (List.mem_of_getElem? e2)
    cases s with
    | un => exact q.elim
    | io p d => exact q.elim
    | sh d =>
      obtain ⟨w, ho, r⟩ := hs
      have ho : o = some w := ho
      subst ho
      exact ⟨w, e1, f2 _ ρ σ Hs H w q (.refl _) A.len (A.rs.add ⟨w, rfl, r⟩ rfl)⟩
    | ol d => obtain ⟨p, _, ho, _⟩ := hs; exact go _ (.ol d) ho rfl q rfl
    | od d => obtain ⟨p, ho, _⟩ := hs; exact go _ (.od d) ho rfl q rfl
theorem ds_if {c : Expr} {a b : List Stmt} {tc : TTD} (hc : DT X c tc) (ha : DSs X a u) (hb : DSs X b v) : DS X (.If c a b pos) (sIf tc u v) := by
  refine ⟨ps_imp (ps_if hc.pt ha.ps hb.ps) fun D σ H hq => ?_⟩
  obtain ⟨Fr, Hs, ρ, E, A, q, f1, f2, f3, f4⟩ := hq
  refine ⟨Fr, Hs, ρ, _, A, q, fun b ρ1 Hs1 H1 q1 s1 A1 => ?_⟩
  have go : ∀ w : TSD, w E ρ1 → lS X.K w D σ H1 := fun w hw =>
    ⟨Fr, Hs1, ρ1, E, A1, hw, fun ρ2 σ2 Hs2 H2 q2 s2 A2 => f1 _ _ _ _ q2 (s1.trans s2) A2, fun s ρ2 σ2 Hs2 H2 w q2 s2 l2 R2 => f2 _ _ _ _ _ _ q2 (s1.trans s2) l2 R2,
      fun ρ2 σ2 Hs2 H2 q2 s2 A2 => f3 _ _ _ _ q2 (s1.trans s2) A2, fun ρ2 σ2 Hs2 H2 q2 s2 A2 => f4 _ _ _ _ q2 (s1.trans s2) A2⟩
  cases b with
  | true => exact go u q1
  | false => exact go v q1
theorem notIo_lt {ρ : Ev} {i : Nat} (h : notIo ρ[i]?) : i < ρ.length := by
  cases e : ρ[i]? with
  | none => rw [e] at h; exact h.elim
  | some s => exact (List.getElem?_eq_some_iff.mp e).1
theorem ds_set (i : Nat) {x : Str} {px : Pos} (hNd : X.N.Nodup) (h : DE X e t) (hi : X.N[i]? = some x := by rfl) (hx : Loc X.env.scope x := by first | exact Or.inl rfl | exact Or.inr rfl)
    (hs : swapsWith e (some (.Name x px)) pos.line X.env = pure false := by rfl) (hf : X.fn x = true ∨ X.env.scope.names.lookup x = some .local := by first | exact .inl rfl | exact .inr rfl) : DS X (.Assign [.Name x px] e pos) (sSet i t) := by
  refine ⟨ps_imp (ps_set hNd hi hx h.pe hs hf) fun D σ H hq => ?_⟩
  obtain ⟨Fr, Hs, ρ, E, A, q, f1, f2, f3, f4⟩ := hq
  exact ⟨Fr, Hs, ρ, _, A, q, fun s ρ1 Hs1 H1 w q1 hl s1 R => f1 _ _ Hs1 H1 q1.2 s1 (R.store hl (notIo_lt q1.1))⟩
end
/-! ### calls of defs -/
abbrev FS := List Sl → (Sl → List (Addr × List Dat) → Prop) → Prop
def ioP (x : Addr × List Dat) : Sl × Option V := (.io x.1 x.2, some (.ref x.1))
def iosOf : Ev → List (Addr × List Dat)
  | [] => []
  | .io p ds :: r => (p, ds) :: iosOf r
  | _ :: r => iosOf r
structure GFn (P : Program) (w : World) (K : Fg) (mg : Str → Option Value) (base : Heap) (k : Nat) (f : Addr) (fd : FuncData) (ps : List Str) (spec : FS) : Prop where
  run : ∀ (A : Around) (outer : List Env) (s : Shared) (H : Hp) (args : Args) (us : List Value) (vs : List V) (Q : VK) (Fr Hs : Hp) (as : List Sl) (QD : Sl → List (Addr × List Dat) → Prop),
    Room k A → A.guards = some [] → Env0 P w K mg base A outer s H → BindsTo s fd args (ps.zip us) → Vals vs us → as.length = ps.length → vs.length = ps.length → RS K Fr Hs H (as.zip (vs.map some)) → spec as QD →
    (∀ s ios Hs' H' v, QD s ios → Same Hs Hs' → RS K Fr Hs' H' ((s, some v) :: ios.map ioP) → Q v H') → codeAny (model P w) A (.call (.ref f) args) (CR CX0 outer P w H s Q E0) s
theorem GFn.mono {P : Program} {w : World} {K : Fg} {mg : Str → Option Value} {base : Heap} {j k : Nat} {f : Addr} {fd : FuncData} {ps : List Str} {spec : FS} (F : GFn P w K mg base j f fd ps spec) (h : j ≤ k) : GFn P w K mg base k f fd ps spec :=
  ⟨fun A outer s H args us vs Q Fr Hs as QD hr => F.run A outer s H args us vs Q Fr Hs as QD (hr.mono h)⟩
theorem iosOf_sub {K : Fg} {Hs H : Hp} : ∀ {ρ : Ev} {σ : St}, (∀ x ∈ ρ.zip σ, SlR K Hs H x.1 x.2) → ρ.length = σ.length →
    (∀ x ∈ (iosOf ρ).map ioP, x ∈ ρ.zip σ) ∧ (((iosOf ρ).map ioP).flatMap own1).Sublist ((ρ.zip σ).flatMap own1)
  | [], _, _, _ => ⟨fun x hx => by simp [iosOf] at hx, by simp [iosOf]⟩
  | _ :: _, [], _, hl => by simp at hl
  | s :: ρ, o :: σ, h, hl => by
    have ih := iosOf_sub (ρ := ρ) (σ := σ) (fun x hx => h x (by rw [List.zip_cons_cons]; exact List.mem_cons_of_mem _ hx)) (by simpa using hl)
    have other : (iosOf (s :: ρ) = iosOf ρ) → (∀ x ∈ (iosOf (s :: ρ)).map ioP, x ∈ (s :: ρ).zip (o :: σ)) ∧ (((iosOf (s :: ρ)).map ioP).flatMap own1).Sublist (((s :: ρ).zip (o :: σ)).flatMap own1) := by
      intro e
      rw [e, List.zip_cons_cons]
      refine ⟨fun x hx => List.mem_cons_of_mem _ (ih.1 x hx), ?_⟩
      rw [List.flatMap_cons]
      exact ih.2.trans (List.sublist_append_right _ _)
    cases s with
    | un => exact other rfl
    | sh d => exact other rfl
    | ol d => exact other rfl
    | od d => exact other rfl
    | io p ds =>
      obtain ⟨vs, e, _⟩ := h _ (by rw [List.zip_cons_cons]; exact List.mem_cons_self)
      have e : o = some (.ref p) := e
      subst e
      rw [List.zip_cons_cons]
      refine ⟨fun x hx => ?_, ?_⟩
      · rcases List.mem_cons.mp (show x ∈ ioP (p, ds) :: (iosOf ρ).map ioP from hx) with z | z
        · rw [z]; exact List.mem_cons_self
        · exact List.mem_cons_of_mem _ (ih.1 x z)
      · rw [List.flatMap_cons]
        show ((ioP (p, ds) :: (iosOf ρ).map ioP).flatMap own1).Sublist _
        rw [List.flatMap_cons]
        exact (List.Sublist.refl _).append ih.2
theorem ret_ios {K : Fg} {Fr Hs H : Hp} {ρ : Ev} {σ : St} {x : Sl × Option V} (hl : ρ.length = σ.length) (R : RS K Fr Hs H (x :: ρ.zip σ)) : RS K Fr Hs H (x :: (iosOf ρ).map ioP) := by
  obtain ⟨h1, h2⟩ := iosOf_sub (fun z hz => R.sl z (List.mem_cons_of_mem _ hz)) hl
  refine R.sub (fun z hz => ?_) ?_
  · rcases List.mem_cons.mp hz with e | hz
    · rw [e]; exact List.mem_cons_self
    · exact List.mem_cons_of_mem _ (h1 z hz)
  · have := R.nd
    rw [List.flatMap_cons] at this ⊢
    exact this.sublist ((List.Sublist.refl _).append h2)

theorem deeper_guards (A : Around) (env : Env) : (A.deeper env).guards = A.guards := by first | rfl | simp [Around.deeper]
theorem start_env {N : List Str} {vs : List V} {as : List Sl} (ha : as.length = vs.length) (hn : vs.length ≤ N.length) :
    (as ++ List.replicate (N.length - as.length) Sl.un).length = (L2.start N vs).length := by
  unfold L2.start
  simp only [List.length_append, List.length_replicate, List.length_map]
  omega
theorem flat_uns : ∀ (n : Nat) (os : List (Option V)), ((List.replicate n Sl.un).zip os).flatMap own1 = []
  | 0, _ => by simp
  | n + 1, [] => by simp
  | n + 1, o :: os => by
    rw [List.replicate_succ, List.zip_cons_cons, List.flatMap_cons, flat_uns n os]
    rfl
theorem RS.start {K : Fg} {Fr Hs H : Hp} {N : List Str} {vs : List V} {as : List Sl} (ha : as.length = vs.length) (hn : vs.length ≤ N.length) (R : RS K Fr Hs H (as.zip (vs.map some))) :
    At K Fr Hs (as ++ List.replicate (N.length - as.length) .un) (L2.start N vs) H := by
  refine ⟨start_env ha hn, ?_⟩
  have e : (as ++ List.replicate (N.length - as.length) Sl.un).zip (L2.start N vs) = as.zip (vs.map some) ++ (List.replicate (N.length - as.length) Sl.un).zip (List.replicate (N.length - vs.length) (none : Option V)) := by
    unfold L2.start
    rw [List.zip_append (by simp [ha])]
  have fl : (as.zip (vs.map some) ++ (List.replicate (N.length - as.length) Sl.un).zip (List.replicate (N.length - vs.length) (none : Option V))).flatMap own1 = (as.zip (vs.map some)).flatMap own1 := by
    rw [List.flatMap_append, flat_uns, List.append_nil]
  rw [e]
  refine ⟨R.hs, R.fr, R.dj, fun x hx => ?_, by rw [fl]; exact R.nd, by rw [fl]; exact R.ow⟩
  rcases List.mem_append.mp hx with hx | hx
  · exact R.sl x hx
  · obtain ⟨s, o⟩ := x
    have : s = .un := (List.mem_replicate.mp (List.of_mem_zip hx).1).2
    subst this
    trivial
/-- the place of a def's body -/
abbrev XD (P : Program) (w : World) (K : Fg) (mg : Str → Option Value) (base : Heap) (N : List Str) (qual : Str) (st : Stmt) (f : Addr) (cdv : Value) (A : Around) (outer : List Env) (s : Shared) (H : Hp) : Cx :=
  (cxOf CX0 P w K mg base N qual (defScope st) f cdv A outer s H E0).nox
/-- the body keeps the promise -/
theorem fn_ok {P : Program} {w : World} {K : Fg} {mg : Str → Option Value} {base : Heap} {k : Nat} {x qual : Str} {st : Stmt} {f : Addr} {fd : FuncData} {N ps : List Str} {spec : FS} {t : TSD}
    (F : Fun K x qual st f fd) (S : FnScope N ps (defScope st))
    (hb : ∀ (cdv : Value) (A : Around) (outer : List Env) (s : Shared) (H : Hp), (A.deeper (envOfC qual (defScope st) s.heap.objs.size f cdv)).guards = some [] → Room k (A.deeper (envOfC qual (defScope st) s.heap.objs.size f cdv)) → DSs (XD P w K mg base N qual st f cdv A outer s H) (defBody st) t)
    (hs : ∀ as QD, spec as QD → as.length = ps.length → t { nx := fun ρ => QD (.sh .none) (iosOf ρ), rt := fun s ρ => QD s (iosOf ρ) } (as ++ List.replicate (N.length - ps.length) .un)) :
    GFn P w K mg base (k + 1) f fd ps spec := by
  obtain ⟨oc, od, kV, doc, pm, an, cdv, ct, osl, rfl, lk, hcd⟩ := F.ex
  refine ⟨fun A outer s H args us vs Q Fr Hs as QD room gd en bd rv la lv R sp fin => ?_⟩
  have kin : K.In s.heap := en.mod.kin.keeps fun b o q => (en.bs b o q).1
  have nolim : s.heap.NoLimit := en.mod.nolimit.keeps fun b o q => (en.bs b o q).1
  have pl : ps.length ≤ N.length := by
    have := congrArg List.length S.pre
    rw [List.length_take] at this
    omega
  have kinds : ∀ y ∈ ps.zip us, (defScope st).names.lookup y.1 = some .local ∨ ((defScope st).names.lookup y.1 = some .cell ∧ ((cellsFrom (s.heap.objs.size + 1) (defScope st).names []).lookup y.1).isSome = true) := by
    rintro ⟨n, v⟩ hy
    exact (S.par n (List.of_mem_zip hy).1).imp id fun q => ⟨q, PySem.W.cellsFrom_some _ _ _ (.inl q)⟩
  refine codeAny_call_function room.depth (kin _ _ lk) rfl S.co S.gen rfl (PySem.W.codeRec_of kin hcd) (bd _ _ _ _ ?_)
  refine wpAny_newFunctionEnv_cells S.kind kinds fun en2 he s1 ic => ?_
  subst he
  refine ⟨nolim.keeps ic.toInCall.keep, codeAny_func ?_⟩
  let X0 : Cx := cxOf CX0 P w K mg base N qual (defScope st) f cdv A outer s H E0
  have I : Inv X0 [] (L2.start N vs) H s1 := inv_start S room.hd en lv rv ic
  have D : DSs X0.nox (defBody st) t := hb cdv A outer s H (by rw [deeper_guards]; exact gd) (room.deeper _)
  have AT : At K Fr Hs (as ++ List.replicate (N.length - as.length) .un) (L2.start N vs) H := RS.start (by omega) (by omega) R
  have ht := hs as QD sp la
  rw [← la] at ht
  let E : Ends := { nx := fun _ H' => Q .non H', rt := Q }
  have lifted : lS K t E (L2.start N vs) H := by
    refine ⟨Fr, Hs, _, _, AT, ht, fun ρ1 σ1 Hs1 H1 q1 ss A1 => ?_, fun z ρ1 σ1 Hs1 H1 v q1 ss l1 R1 => ?_, fun _ _ _ _ z => z.elim, fun _ _ _ _ z => z.elim⟩
    · exact fin _ _ Hs1 H1 .non q1 ss (ret_ios A1.len (A1.rs.add ⟨_, rfl, .non⟩ rfl))
    · exact fin z _ Hs1 H1 v q1 ss (ret_ios l1 R1)
  refine wpAny_mono (D.ps.nox.run [] s1 (L2.start N vs) H E I lifted) (fun fl s2 hf => ?_) fun e s2 he => he
  cases fl with
  | next => obtain ⟨σ2, H2, J, q⟩ := hf; exact ⟨V.non, H2, J.os, J.bare, J.base, J.hok, rfl, q⟩
  | ret u => obtain ⟨v, σ2, H2, J, r, q⟩ := hf; exact ⟨v, H2, J.os, J.bare, J.base, J.hok, r, q⟩
  | brk => obtain ⟨_, _, _, q⟩ := hf; exact q.elim
  | cont => obtain ⟨_, _, _, q⟩ := hf; exact q.elim

/-! ### entering and leaving a callee -/
open Classical in
noncomputable def foreign (Hs H : Hp) (ls : List Addr) : Hp := fun q => if q ∈ ls then none else if H q = Hs q then none else H q
theorem frz_ne (b : Obj) : ∀ u : HO, HO.frz b u ≠ u := by
  intro u e
  have := congrArg sizeOf e
  simp at this
theorem foreign_some {Hs H : Hp} {ls : List Addr} {q : Addr} {o : HO} (h : foreign Hs H ls q = some o) : q ∉ ls ∧ H q ≠ Hs q ∧ H q = some o := by
  unfold foreign at h
  split at h
  · cases h
  · rename_i h1
    split at h
    · cases h
    · rename_i h2
      exact ⟨h1, h2, h⟩
theorem foreign_of {Hs H : Hp} {ls : List Addr} {q : Addr} (h1 : q ∉ ls) (h2 : H q ≠ Hs q) : foreign Hs H ls q = H q := by
  unfold foreign
  rw [if_neg h1, if_neg h2]
theorem foreign_same {Hs H : Hp} {ls : List Addr} : Same (foreign Hs H ls) H := fun q o h => (foreign_some h).2.2
theorem foreign_dj {Hs H : Hp} {ls : List Addr} (s : Sub Hs H) : ∀ p o, foreign Hs H ls p = some o → Hs p = none ∨ ∃ b u, o = .frz b u ∧ Hs p = some u := by
  intro p o h
  obtain ⟨_, h2, h3⟩ := foreign_some h
  cases e : Hs p with
  | none => exact .inl rfl
  | some u =>
    rcases s p u e with h | ⟨_, b, h⟩
    · exact absurd (h.trans e.symm) h2
    · rw [h3] at h
      cases h
      exact .inr ⟨b, u, rfl, rfl⟩
section
variable {K : Fg} {Fr Hs H Hs' H' : Hp} {l lent : List (Sl × Option V)}
theorem RS.enter (s : Sub Hs H) {ls : List Addr} {m : List (Sl × Option V)} (hm : ∀ x ∈ m, SlR K Hs H x.1 x.2) (nd : (m.flatMap own1).Nodup) (ow : ∀ p ∈ m.flatMap own1, Hs p = none ∧ p ∈ ls) : RS K (foreign Hs H ls) Hs H m :=
  ⟨s, foreign_same, foreign_dj s, hm, nd, fun p hp => ⟨(ow p hp).1, by unfold foreign; rw [if_pos (ow p hp).2]⟩⟩
theorem RS.leave {x : Sl × Option V} {ios : List (Addr × List Dat)} (R : RS K Fr Hs H (lent ++ l)) (ss : Same Hs Hs') (R' : RS K (foreign Hs H (ios.map (·.1))) Hs' H' (x :: ios.map ioP)) (hls : lent.flatMap own1 = ios.map (·.1)) :
    RS K Fr Hs' H' (x :: (ios.map ioP ++ l)) := by
  have onl : ∀ q ∈ l.flatMap own1, q ∉ ios.map (·.1) := by
    intro q hq hi
    have nd := R.nd
    rw [List.flatMap_append, hls] at nd
    exact (List.nodup_append.mp nd).2.2 q hi q hq rfl
  have frf : ∀ q o, Fr q = some o → foreign Hs H (ios.map (·.1)) q = some o := by
    intro q o h
    have n1 : q ∉ ios.map (·.1) := fun hi => by
      have := (R.ow q (by rw [List.flatMap_append, hls]; exact List.mem_append_left _ hi)).2
      rw [h] at this
      cases this
    have h1 := R.fr q o h
    rw [foreign_of n1]
    · exact h1
    · intro e
      rw [h1] at e
      rcases R.dj q o h with z | ⟨b, u, rfl, z⟩
      · rw [z] at e; cases e
      · rw [z] at e
        exact frz_ne b u (Option.some.inj e)
  have own_l : ∀ q ∈ l.flatMap own1, ∃ o, foreign Hs H (ios.map (·.1)) q = some o ∧ H q = some o ∧ Mut (some o) := by
    intro q hq
    have hq' : q ∈ (lent ++ l).flatMap own1 := by rw [List.flatMap_append]; exact List.mem_append_right _ hq
    obtain ⟨o, e, m⟩ := R.there hq'
    refine ⟨o, ?_, e, m⟩
    rw [foreign_of (onl q hq)]
    · exact e
    · rw [e, (R.ow q hq').1]
      exact fun z => by cases z
  have io_own : (ios.map ioP).flatMap own1 = ios.map (·.1) := by
    clear R R' hls onl frf own_l
    induction ios with
    | nil => rfl
    | cons a r ih => rw [List.map_cons, List.flatMap_cons, ih]; rfl
  refine ⟨R'.hs, fun q o h => R'.fr q o (frf q o h), fun q o h => R'.dj q o (frf q o h), fun z hz => ?_, ?_, fun q hq => ?_⟩
  · rcases List.mem_cons.mp hz with e | hz
    · rw [e]; exact R'.head
    · rcases List.mem_append.mp hz with hz | hz
      · exact R'.sl z (List.mem_cons_of_mem _ hz)
      · refine (R.sl z (List.mem_append_right _ hz)).mono (.of ss) fun q hq u e => ?_
        obtain ⟨o, h1, h2, _⟩ := own_l q (List.mem_flatMap.mpr ⟨z, hz, hq⟩)
        rw [h2] at e
        cases e
        exact R'.fr q u h1
  · have nd' := R'.nd
    rw [List.flatMap_cons] at nd' ⊢
    rw [List.flatMap_append, ← List.append_assoc]
    refine List.nodup_append.mpr ⟨nd', ?_, fun a ha b hb e => ?_⟩
    · have := R.nd
      rw [List.flatMap_append] at this
      exact (List.nodup_append.mp this).2.1
    · subst e
      obtain ⟨o, h1, _⟩ := own_l a hb
      have := (R'.ow a (by rw [List.flatMap_cons]; exact ha)).2
      rw [h1] at this
      cases this
  · rw [List.flatMap_cons, List.flatMap_append, ← List.append_assoc] at hq
    rcases List.mem_append.mp hq with hq | hq
    · obtain ⟨h1, h2⟩ := R'.ow q (by rw [List.flatMap_cons]; exact hq)
      refine ⟨h1, ?_⟩
      cases e : Fr q with
      | none => rfl
      | some o => rw [frf q o e] at h2; cases h2
    · obtain ⟨o, h1, h2, m⟩ := own_l q hq
      refine ⟨?_, (R.ow q (by rw [List.flatMap_append]; exact List.mem_append_right _ hq)).2⟩
      rcases R'.dj q o h1 with z | ⟨b, u, rfl, _⟩
      · exact z
      · exact absurd m (fun z => z)
theorem RS.perm {m : List (Sl × Option V)} (R : RS K Fr Hs H l) (p : l.Perm m) : RS K Fr Hs H m := by
  have p2 := p.flatMap_right own1
  exact ⟨R.hs, R.fr, R.dj, fun z hz => R.sl z (p.mem_iff.mpr hz), p2.nodup_iff.mp R.nd, fun q hq => R.ow q (p2.mem_iff.mpr hq)⟩
theorem RS.swap {x y : Sl × Option V} (R : RS K Fr Hs H (x :: l)) (ho : own1 y = own1 x) (h : SlR K Hs H y.1 y.2) : RS K Fr Hs H (y :: l) := by
  refine ⟨R.hs, R.fr, R.dj, fun z hz => ?_, ?_, ?_⟩
  · rcases List.mem_cons.mp hz with e | hz
    · rw [e]; exact h
    · exact R.sl z (List.mem_cons_of_mem _ hz)
  · rw [List.flatMap_cons, ho, ← List.flatMap_cons]; exact R.nd
  · rw [List.flatMap_cons, ho, ← List.flatMap_cons]; exact R.ow
end
/-- a call with frozen arguments -/
def dFn (spec : FS) (n : Nat) (t : TFD) : TD := fun ρ Q => t ρ fun ds ρ1 => ds.length = n ∧ spec (ds.map .sh) fun s ios => ios = [] ∧ Q s ρ1
/-- .. and with keywords: g lays all values in the parameters' order -/
def dFnK (spec : FS) (n : Nat) (g : List Dat → List Dat → List Dat) (t tk : TFD) : TD := fun ρ Q => t ρ fun ds ρ1 => tk ρ1 fun es ρ2 => (g ds es).length = n ∧ spec ((g ds es).map .sh) fun s ios => ios = [] ∧ Q s ρ2
/-- the first argument is a name's list, lent -/
def dFnB (spec : FS) (n i : Nat) (t : TFD) : TD := fun ρ Q => (lstAt ρ i).isSome = true ∧ t ρ fun ds ρ1 => ds.length + 1 = n ∧ ∃ xs, lstAt ρ1 i = some xs ∧ ∀ p, (∀ q ys, ρ1[i]? = some (.io q ys) → q = p) →
  spec (.io p xs :: ds.map .sh) fun s ios => ∃ xs', ios = [(p, xs')] ∧ Q s (putAt ρ1 i xs')
section
variable {X : Cx} {k : Nat} {f : Addr} {fd : FuncData} {ps : List Str} {spec : FS} {x : Str} {p pos : Pos} {e : Expr} {es : List Expr} {t : TFD}
/-- the callee runs -/
theorem run_def {pins : List (Addr × Obj)} {σ : St} {H : Hp} {s : Shared} {us : List Value} {vs : List V} {Q : VK} {args : Args} {Fr Hs : Hp} {as : List Sl} {QD : Sl → List (Addr × List Dat) → Prop}
    (F : GFn X.prog X.w X.K X.mg X.base k f fd ps spec) (hr : Room k X.A) (hg : X.A.guards = some []) (I : Inv X pins σ H s) (hb : BindsTo s fd args (ps.zip us)) (r : Vals vs us) (h1 : as.length = ps.length) (h2 : vs.length = ps.length)
    (R : RS X.K Fr Hs H (as.zip (vs.map some))) (sp : spec as QD) (fin : ∀ z ios Hs' H' v, QD z ios → Same Hs Hs' → RS X.K Fr Hs' H' ((z, some v) :: ios.map ioP) → Q v H') :
    codeAny (model X.prog X.w) X.A (.call (.ref f) args) (fun r s' => match r with | .ok (.ret u) => EP X pins σ Q u s' | _ => False) s := by
  refine codeAny_mono (F.run X.A X.stack s H args us vs Q Fr Hs as QD hr hg I.env0 hb r h1 h2 R sp fin) fun r s2 hq => ?_
  cases r with
  | error e => exact hq.elim
  | ok fl =>
    cases fl with
    | ret u => exact I.after hq
    | next => exact hq.elim
    | brk => exact hq.elim
    | cont => exact hq.elim
end

section
variable {X : Cx} {k n : Nat} {f : Addr} {fd : FuncData} {ps ks : List Str} {spec : FS} {x y : Str} {p pos py kpos : Pos} {e : Expr} {es : List Expr} {t tk : TFD} {kws : List Keyword}
theorem sh_own : ∀ (vs : List V) (ds : List Dat), (((ds.map Sl.sh).zip (vs.map some)).flatMap own1) = [] := by
  intro vs
  induction vs with
  | nil => intro ds; simp
  | cons v vs ih =>
    intro ds
    cases ds with
    | nil => simp
    | cons d ds => rw [List.map_cons, List.map_cons, List.zip_cons_cons, List.flatMap_cons, ih]; rfl
theorem sh_zip {K : Fg} {Fr Hs H : Hp} {l : List (Sl × Option V)} (R : RS K Fr Hs H l) {vs : List V} {ds : List Dat} (r : Rps K Hs vs ds) : RS K (foreign Hs H []) Hs H ((ds.map Sl.sh).zip (vs.map some)) := by
  have own := sh_own
  refine RS.enter R.hs (fun z hz => ?_) (by rw [own]; exact List.nodup_nil) (fun q hq => by rw [own] at hq; cases hq)
  clear own
  revert hz
  revert r
  revert vs
  induction ds with
  | nil => intro vs r hz; simp at hz
  | cons d ds ih =>
    intro vs r hz
    cases r with
    | cons r1 r2 =>
      rw [List.map_cons, List.map_cons, List.zip_cons_cons] at hz
      rcases List.mem_cons.mp hz with e | hz
      · rw [e]; exact ⟨_, rfl, r1⟩
      · exact ih r2 hz
/-- how a call of a def ends for the caller: frozen arguments -/
theorem call_frozen {pins : List (Addr × Obj)} {σ : St} {H : Hp} {s : Shared} {us : List Value} {vs : List V} {Q : VK} {args : Args} {Fr Hs : Hp} {ρ : Ev} {ds : List Dat} {QD : Sl → Ev → Prop}
    (F : GFn X.prog X.w X.K X.mg X.base k f fd ps spec) (hr : Room k X.A) (hg : X.A.guards = some []) (I : Inv X pins σ H s) (hb : us.length = ps.length → BindsTo s fd args (ps.zip us)) (r : Vals vs us) (hl : ds.length = ps.length)
    (A : At X.K Fr Hs ρ σ H) (rd : Rps X.K Hs vs ds) (sp : spec (ds.map .sh) fun z ios => ios = [] ∧ QD z ρ)
    (fin : ∀ z ρ' Hs' H' v, QD z ρ' → ρ'.length = σ.length → Same Hs Hs' → RS X.K Fr Hs' H' ((z, some v) :: ρ'.zip σ) → Q v H') :
    codeAny (model X.prog X.w) X.A (.call (.ref f) args) (fun r s' => match r with | .ok (.ret u) => EP X pins σ Q u s' | _ => False) s := by
  have l1 := rd.length
  have l2 := r.length
  refine run_def F hr hg I (hb (by omega)) r (by rw [List.length_map]; exact hl) (by omega) (sh_zip A.rs rd) sp fun z ios Hs' H' v hq ss R' => ?_
  obtain ⟨rfl, hq⟩ := hq
  exact fin z ρ Hs' H' v hq A.len ss (RS.leave (lent := []) (ios := []) A.rs ss R' rfl)
theorem call_end {pins : List (Addr × Obj)} {σ : St} {Q : VK} {us : List Value} {kw : List (Str × Value)} {s : Shared}
    (h : codeAny (model X.prog X.w) X.A (.call (.ref f) ⟨us, kw⟩) (fun r s' => match r with | .ok (.ret u) => EP X pins σ Q u s' | _ => False) s) : wpAny (model X.prog X.w) X.A (call (.ref f) us kw) (EP X pins σ Q) X.xe s := by
  refine wpAny_call (codeAny_mono h fun r s2 hq => ?_)
  cases r with
  | error e => exact hq.elim
  | ok fl =>
    cases fl with
    | ret u => exact hq
    | next => exact hq.elim
    | brk => exact hq.elim
    | cont => exact hq.elim
/-- the frozen arguments have come -/
def Come (X : Cx) (pins : List (Addr × Obj)) (σ : St) (Fr Hs : Hp) (QD : List Dat → Ev → Prop) (us : List Value) (s1 : Shared) : Prop :=
  ∃ (vs : List V) (H1 Hs1 : Hp) (ρ1 : Ev) (ds : List Dat), Inv X pins σ H1 s1 ∧ Vals vs us ∧ QD ds ρ1 ∧ Same Hs Hs1 ∧ At X.K Fr Hs1 ρ1 σ H1 ∧ Rps X.K Hs1 vs ds
theorem DFs.come (h : DFs X es t) {pins : List (Addr × Obj)} {s : Shared} {σ : St} {H : Hp} {Fr Hs : Hp} {ρ : Ev} {QD : List Dat → Ev → Prop} (I : Inv X pins σ H s) (A : At X.K Fr Hs ρ σ H) (q : t ρ QD) :
    wpAny (model X.prog X.w) X.A (spliced (backTo pos (starEach es X.env))) (Come X pins σ Fr Hs QD) X.xe s := by
  refine thn (h.pa.run pos pins s σ H (fun vs H1 => ∃ (Hs1 : Hp) (ρ1 : Ev) (ds : List Dat), QD ds ρ1 ∧ Same Hs Hs1 ∧ At X.K Fr Hs1 ρ1 σ H1 ∧ Rps X.K Hs1 vs ds) I ⟨Fr, Hs, ρ, QD, A, q, fun ds ρ1 Hs1 H1 vs q1 s1 A1 r1 => ⟨Hs1, ρ1, ds, q1, s1, A1, r1⟩⟩) fun us s1 hq => ?_
  obtain ⟨vs, H1, I1, r, Hs1, ρ1, ds, q1, s1', A1, rd⟩ := hq
  exact ⟨vs, H1, Hs1, ρ1, ds, I1, r, q1, s1', A1, rd⟩
structure DKs (X : Cx) (kws : List Keyword) (t : TFD) : Prop where
  pk : PK X kws (lF X.K t)
theorem dk_nil : DKs X [] fNil := ⟨⟨fun pos pins s σ H Q I ⟨Fr, Hs, ρ, QD, A, q, f⟩ => pk_nil.run pos pins s σ H Q I (f [] ρ Hs H [] q (.refl _) A .nil)⟩⟩
theorem dk_cons {nm : Option Str} {td : TD} (h : DE X e td) (hr : DKs X kws t) : DKs X (⟨nm, e, kpos⟩ :: kws) (fCons td t) := by
  refine ⟨⟨fun pos pins s σ H Q I hq => (pk_cons h.pe hr.pk).run pos pins s σ H Q I ?_⟩⟩
  obtain ⟨Fr, Hs, ρ, QD, A, q, f⟩ := hq
  refine ⟨Fr, Hs, ρ, _, A, q, fun s ρ1 Hs1 H1 v q1 hl s1 R => ?_⟩
  obtain ⟨d, Hs2, hd, s2, R2⟩ := R.frz q1
  obtain ⟨w, e1, r1⟩ := R2.head
  cases e1
  refine ⟨Fr, Hs2, ρ1, _, ⟨hl, R2.tail⟩, hd, fun ds ρ2 Hs3 H3 vs q3 s3 A3 r3 => ?_⟩
  exact f (d :: ds) ρ2 Hs3 H3 (v :: vs) q3 ((s1.trans s2).trans s3) A3 (.cons (r1.mono (.of s3)) r3)
theorem DKs.come (h : DKs X kws t) {pins : List (Addr × Obj)} {s : Shared} {σ : St} {H : Hp} {Fr Hs : Hp} {ρ : Ev} {QD : List Dat → Ev → Prop} (I : Inv X pins σ H s) (A : At X.K Fr Hs ρ σ H) (q : t ρ QD) :
    wpAny (model X.prog X.w) X.A (evalAll ((backToKw pos (keywordEach kws X.env)).map (·.2))) (Come X pins σ Fr Hs QD) X.xe s := by
  refine thn (h.pk.run pos pins s σ H (fun vs H1 => ∃ (Hs1 : Hp) (ρ1 : Ev) (ds : List Dat), QD ds ρ1 ∧ Same Hs Hs1 ∧ At X.K Fr Hs1 ρ1 σ H1 ∧ Rps X.K Hs1 vs ds) I ⟨Fr, Hs, ρ, QD, A, q, fun ds ρ1 Hs1 H1 vs q1 s1 A1 r1 => ⟨Hs1, ρ1, ds, q1, s1, A1, r1⟩⟩) fun us s1 hq => ?_
  obtain ⟨vs, H1, I1, r, Hs1, ρ1, ds, q1, s1', A1, rd⟩ := hq
  exact ⟨vs, H1, Hs1, ρ1, ds, I1, r, q1, s1', A1, rd⟩
theorem binds0 {K : Fg} {us : List Value} {s : Shared} (hb : Binds K fd ps []) (hk : K.In s.heap) (hu : us.length = ps.length) : BindsTo s fd ⟨us, []⟩ (ps.zip us) := by
  have := hb s us hk (by rw [List.append_nil]; exact hu)
  rw [List.append_nil] at this
  exact this
/-- f(a, b) -/
theorem de_fn (F : GFn X.prog X.w X.K X.mg X.base k f fd ps spec) (hr : Room k X.A) (hgd : X.A.guards = some []) (hg : Gl X x) (hm : X.mg x = some (.ref f)) (hk : PySem.W.keepIn X.K (.ref f) = true) (hb : Binds X.K fd ps [])
    (ha : DFs X (e :: es) t) (hn : ps.length = n := by rfl) (hdb : (x == ("__debug__" : Str)) = false := by decide) (he : starEach (e :: es) X.env = (false, eval e X.env) :: starEach es X.env := by rfl) (hpl : (backTo pos (starEach es X.env)).any (·.1) = false := by rfl) :
    DE X (.Call (.Name x p) (e :: es) [] pos) (dFn spec n t) := by
  subst hn
  refine ⟨⟨fun pins s σ H Q I h => ?_⟩⟩
  refine wpAny_Call_Name_kw (ld_glob I hg hm ?_ hdb)
  obtain ⟨Fr, Hs, ρ, QD, A, q, fin⟩ := h
  refine PySem.W.callWith_K (h₀ := X.base) I.ok.mod.kin hk (thn (ha.come I A q) fun us s1 hc => ?_) he hpl
  obtain ⟨vs, H1, Hs1, ρ1, ds, I1, r, ⟨hl, sp⟩, s1', A1, rd⟩ := hc
  exact ⟨I1.kIn, call_end (call_frozen F hr hgd I1 (fun hu => binds0 hb I1.kIn hu) r hl A1 rd sp fun z ρ' Hs' H' v hz l' s' R' => fin z ρ' Hs' H' v hz l' (s1'.trans s') R')⟩
theorem de_fn0 (F : GFn X.prog X.w X.K X.mg X.base k f fd ps spec) (hr : Room k X.A) (hgd : X.A.guards = some []) (hg : Gl X x) (hm : X.mg x = some (.ref f)) (hk : PySem.W.keepIn X.K (.ref f) = true) (hb : Binds X.K fd ps [])
    (hdb : (x == ("__debug__" : Str)) = false := by decide) (hn : ps.length = n := by rfl) : DE X (.Call (.Name x p) [] [] pos) (dFn spec n fNil) := by
  subst hn
  refine ⟨⟨fun pins s σ H Q I h => ?_⟩⟩
  refine wpAny_Call_Name_kw (ld_glob I hg hm ?_ hdb)
  obtain ⟨Fr, Hs, ρ, QD, A, ⟨hl, sp⟩, fin⟩ := h
  exact PySem.W.callWith_K0 I.kIn hk (call_end (call_frozen F hr hgd I (fun hu => binds0 hb I.kIn hu) .nil hl A .nil sp fin))
/-- how keywords are laid in order, for values and data alike -/
structure KwOrd (K : Fg) (fd : FuncData) (ps ks : List Str) (g : {α : Type} → List α → List α → List α) : Prop where
  to : ∀ (s : Shared) (us ws : List Value), K.In s.heap → (g us ws).length = ps.length → BindsTo s fd ⟨us, ks.zip ws⟩ (ps.zip (g us ws))
  vals : ∀ {vs : List V} {us : List Value} {zs : List V} {ws : List Value}, Vals vs us → Vals zs ws → Vals (g vs zs) (g us ws)
  data : ∀ {K : Fg} {H : Hp} {vs : List V} {ds : List Dat} {zs : List V} {es : List Dat}, Rps K H vs ds → Rps K H zs es → Rps K H (g vs zs) (g ds es)
/-- f(a, k=b) -/
theorem de_fnK {g : {α : Type} → List α → List α → List α} (F : GFn X.prog X.w X.K X.mg X.base k f fd ps spec) (hr : Room k X.A) (hgd : X.A.guards = some []) (hg : Gl X x) (hm : X.mg x = some (.ref f)) (hk : PySem.W.keepIn X.K (.ref f) = true) (hb : KwOrd X.K fd ps ks g)
    (ha : DFs X (e :: es) t) (hkw : DKs X kws tk) (hall : (backToKw pos (keywordEach kws X.env)).all (·.1.isSome) = true := by rfl) (hks : (backToKw pos (keywordEach kws X.env)).filterMap (·.1) = ks := by rfl)
    (hdb : (x == ("__debug__" : Str)) = false := by decide) (he : starEach (e :: es) X.env = (false, eval e X.env) :: starEach es X.env := by rfl)
    (hpl : ((backTo pos (starEach (e :: es) X.env)).any (·.1) || (backToKw pos (keywordEach kws X.env)).any (·.1.isNone)) = false := by rfl)
    (hn : ps.length = n := by rfl) :
    DE X (.Call (.Name x p) (e :: es) kws pos) (dFnK spec n g t tk) := by
  subst hn
  refine ⟨⟨fun pins s σ H Q I h => ?_⟩⟩
  refine wpAny_Call_Name_kw (ld_glob I hg hm ?_ hdb)
  obtain ⟨Fr, Hs, ρ, QD, A, q, fin⟩ := h
  refine PySem.W.callWith_KW (h₀ := X.base) I.ok.mod.kin hk hall (thn (ha.come I A q) fun us s1 hc => ?_) hpl he
  obtain ⟨vs, H1, Hs1, ρ1, ds, I1, r, q1, s1', A1, rd⟩ := hc
  refine thn (hkw.come I1 A1 q1) fun ws s2 hc2 => ?_
  obtain ⟨zs, H2, Hs2, ρ2, es', I2, r2, ⟨hl, sp⟩, s2', A2, rd2⟩ := hc2
  rw [hks]
  exact ⟨I2.kIn, call_end (call_frozen F hr hgd I2 (fun hu => hb.to s2 us ws I2.kIn hu) (hb.vals r r2) hl A2 (hb.data (rd.mono (.of s2')) rd2) sp fun z ρ' Hs' H' v hz l' s' R' => fin z ρ' Hs' H' v hz l' ((s1'.trans s2').trans s') R')⟩
/-- f(k=b) -/
theorem de_fnK0 {g : {α : Type} → List α → List α → List α} (F : GFn X.prog X.w X.K X.mg X.base k f fd ps spec) (hr : Room k X.A) (hgd : X.A.guards = some []) (hg : Gl X x) (hm : X.mg x = some (.ref f)) (hk : PySem.W.keepIn X.K (.ref f) = true) (hb : KwOrd X.K fd ps ks g)
    (hkw : DKs X kws tk) (hall : (backToKw pos (keywordEach kws X.env)).all (·.1.isSome) = true := by rfl) (hks : (backToKw pos (keywordEach kws X.env)).filterMap (·.1) = ks := by rfl)
    (hdb : (x == ("__debug__" : Str)) = false := by decide)
    (hpl : ((backTo pos (starEach [] X.env)).any (·.1) || (backToKw pos (keywordEach kws X.env)).any (·.1.isNone)) = false := by rfl)
    (hn : ps.length = n := by rfl) :
    DE X (.Call (.Name x p) [] kws pos) (dFnK spec n g fNil tk) := by
  subst hn
  refine ⟨⟨fun pins s σ H Q I h => ?_⟩⟩
  refine wpAny_Call_Name_kw (ld_glob I hg hm ?_ hdb)
  obtain ⟨Fr, Hs, ρ, QD, A, q, fin⟩ := h
  refine PySem.W.callWith_KW0 (h₀ := X.base) I.ok.mod.kin hk hall (thn (hkw.come I A q) fun ws s2 hc2 => ?_) hpl
  obtain ⟨zs, H2, Hs2, ρ2, es', I2, r2, ⟨hl, sp⟩, s2', A2, rd2⟩ := hc2
  rw [hks]
  exact ⟨I2.kIn, call_end (call_frozen F hr hgd I2 (fun hu => hb.to s2 [] ws I2.kIn hu) (hb.vals .nil r2) hl A2 (hb.data .nil rd2) sp fun z ρ' Hs' H' v hz l' s' R' => fin z ρ' Hs' H' v hz l' (s2'.trans s') R')⟩
/-- how a call ends whose first argument is lent -/
theorem call_lent {pins : List (Addr × Obj)} {σ : St} {H : Hp} {s : Shared} {us : List Value} {vs : List V} {Q : VK} {Fr Hs : Hp} {ρ : Ev} {i : Nat} {xs ds : List Dat} {q : Addr} {QD : Sl → Ev → Prop}
    (F : GFn X.prog X.w X.K X.mg X.base k f fd ps spec) (hr : Room k X.A) (hg : X.A.guards = some []) (I : Inv X pins σ H s) (hb : Binds X.K fd ps []) (r : Vals vs us) (hl : ds.length + 1 = ps.length)
    (A : At X.K Fr Hs ρ σ H) (rd : Rps X.K Hs vs ds) (hx : lstAt ρ i = some xs) (hσ : σ[i]? = some (some (.ref q)))
    (sp : ∀ p, (∀ q ys, ρ[i]? = some (.io q ys) → q = p) → spec (.io p xs :: ds.map .sh) fun z ios => ∃ xs', ios = [(p, xs')] ∧ QD z (putAt ρ i xs'))
    (fin : ∀ z ρ' Hs' H' v, QD z ρ' → ρ'.length = σ.length → Same Hs Hs' → RS X.K Fr Hs' H' ((z, some v) :: ρ'.zip σ) → Q v H') :
    codeAny (model X.prog X.w) X.A (.call (.ref f) ⟨.ref q :: us, []⟩) (fun r s' => match r with | .ok (.ret u) => EP X pins σ Q u s' | _ => False) s := by
  have l1 := rd.length
  have l2 := r.length
  -- the name's slot
  obtain ⟨sl, esl, hsl⟩ : ∃ sl, ρ[i]? = some sl ∧ (sl = .ol xs ∨ sl = .io q xs) := by
    cases e : ρ[i]? with
    | none => rw [lstAt, e] at hx; cases hx
    | some z =>
      cases z with
      | un => rw [lstAt, e] at hx; cases hx
      | sh d => rw [lstAt, e] at hx; cases hx
      | od d => rw [lstAt, e] at hx; cases hx
      | ol d => rw [lstAt, e] at hx; cases hx; exact ⟨_, rfl, .inl rfl⟩
      | io p d =>
        rw [lstAt, e] at hx; cases hx
        obtain ⟨o, e1, e2⟩ := zip_get A.len e
        rw [hσ] at e1
        cases e1
        obtain ⟨vs', e3, _⟩ := A.rs.sl _ (List.mem_of_getElem? e2)
        cases e3
        exact ⟨_, rfl, .inr rfl⟩
  obtain ⟨o, e1, e2⟩ := zip_get A.len esl
  rw [hσ] at e1
  cases e1
  have hi : i < (ρ.zip σ).length := (List.getElem?_eq_some_iff.mp e2).1
  have R0 := A.rs.focus e2
  have ow : own1 (sl, some (V.ref q)) = [q] := by rcases hsl with z | z <;> subst z <;> rfl
  obtain ⟨ws, hq, rw'⟩ : ∃ ws, H q = some (.lst ws) ∧ Rps X.K Hs ws xs := by
    have := R0.head
    rcases hsl with z | z
    · subst z; obtain ⟨p, ws, e3, h1, h2⟩ := this; cases e3; exact ⟨ws, h1, h2⟩
    · subst z; obtain ⟨ws, e3, h1, h2⟩ := this; exact ⟨ws, h1, h2⟩
  have R1 : RS X.K Fr Hs H ((.io q xs, some (.ref q)) :: (ρ.zip σ).set i (.un, none)) := R0.swap (by rw [ow]; rfl) ⟨ws, rfl, hq, rw'⟩
  have hqs : Hs q = none := (R1.ow q (by rw [List.flatMap_cons]; exact List.mem_append_left _ (by simp [own1]))).1
  -- what the callee is handed
  have RC : RS X.K (foreign Hs H [q]) Hs H ((.io q xs :: ds.map Sl.sh).zip ((.ref q :: vs).map some)) := by
    have z := sh_zip A.rs rd
    have own := sh_own vs ds
    rw [List.map_cons, List.zip_cons_cons]
    refine RS.enter A.rs.hs (fun y hy => ?_) ?_ fun y hy => ?_
    · rcases List.mem_cons.mp hy with e | hy
      · rw [e]; exact ⟨ws, rfl, hq, rw'⟩
      · exact z.sl y hy
    · rw [List.flatMap_cons, own]; simp [own1]
    · rw [List.flatMap_cons, own] at hy
      have e : y = q := by simpa [own1] using hy
      subst e
      exact ⟨hqs, List.mem_cons_self⟩
  have hp : ∀ q' ys, ρ[i]? = some (.io q' ys) → q' = q := by
    intro q' ys e
    rw [esl] at e
    cases e
    rcases hsl with z | z
    · cases z
    · cases z; rfl
  have rv : Vals (.ref q :: vs) (.ref q :: us) := .cons rfl r
  refine run_def F hr hg I (binds0 hb I.kIn (by simp; omega)) rv (by simp; omega) (by simp; omega) RC (sp q hp) fun z ios Hs' H' v hz ss R' => ?_
  obtain ⟨xs', rfl, hz⟩ := hz
  have R2 : RS X.K Fr Hs' H' ((z, some v) :: ([(q, xs')].map ioP ++ (ρ.zip σ).set i (.un, none))) := RS.leave (lent := [(.io q xs, some (.ref q))]) R1 ss R' rfl
  have R3 : RS X.K Fr Hs' H' ((.io q xs', some (.ref q)) :: (z, some v) :: (ρ.zip σ).set i (.un, none)) := R2.perm (List.Perm.swap _ _ _)
  obtain ⟨ws', _, hq', rw2⟩ := R3.head
  have fin2 : ∀ sl', own1 (sl', some (V.ref q)) = [q] → SlR X.K Hs' H' sl' (some (.ref q)) → putAt ρ i xs' = ρ.set i sl' → Q v H' := by
    intro sl' o1 hs' ep
    have R4 : RS X.K Fr Hs' H' ((sl', some (.ref q)) :: (z, some v) :: (ρ.zip σ).set i (.un, none)) := R3.swap (by rw [o1]; rfl) hs'
    have R5 : RS X.K Fr Hs' H' ((sl', some (.ref q)) :: ((z, some v) :: ρ.zip σ).set (i + 1) (.un, none)) := R4
    have R6 := R5.unfocus (by rw [List.length_cons]; omega)
    rw [List.set_cons_succ, zip_set_l hσ, ← ep] at R6
    exact fin z _ Hs' H' v hz (by unfold putAt; split <;> (rw [List.length_set]; exact A.len)) ss R6
  rcases hsl with e | e
  · subst e
    exact fin2 (.ol xs') rfl ⟨q, ws', rfl, hq', rw2⟩ (by unfold putAt; rw [esl])
  · subst e
    exact fin2 (.io q xs') rfl ⟨ws', rfl, hq', rw2⟩ (by unfold putAt; rw [esl])
theorem lent_come {i : Nat} (ha : DFs X es t) (hn : PE X (.Name y py) (tVar i)) (he : starEach (.Name y py :: es) X.env = (false, eval (.Name y py) X.env) :: starEach es X.env) {pins : List (Addr × Obj)} {s : Shared} {σ : St} {H : Hp} {Fr Hs : Hp} {ρ : Ev} {QD : List Dat → Ev → Prop} {p0 : Addr}
    (I : Inv X pins σ H s) (A : At X.K Fr Hs ρ σ H) (q : t ρ QD) (e0 : σ[i]? = some (some (.ref p0))) :
    wpAny (model X.prog X.w) X.A (spliced (backTo pos (starEach (.Name y py :: es) X.env))) (fun us s1 => ∃ us', us = .ref p0 :: us' ∧ Come X pins σ Fr Hs QD us' s1) X.xe s := by
  refine thn ((pa_cons hn ha.pa he).run pos pins s σ H (fun vs H1 => ∃ (vs' : List V) (Hs1 : Hp) (ρ1 : Ev) (ds : List Dat), vs = .ref p0 :: vs' ∧ QD ds ρ1 ∧ Same Hs Hs1 ∧ At X.K Fr Hs1 ρ1 σ H1 ∧ Rps X.K Hs1 vs' ds) I
    ⟨_, e0, Fr, Hs, ρ, _, A, q, fun ds ρ1 Hs1 H1 vs q1 s1 A1 r1 => ⟨vs, Hs1, ρ1, ds, rfl, q1, s1, A1, r1⟩⟩) fun us s1 hc => ?_
  obtain ⟨vs, H1, I1, r, vs', Hs1, ρ1, ds, rfl, q1, s1', A1, rd⟩ := hc
  cases r with
  | cons ra rb =>
    cases ra
    exact ⟨_, rfl, vs', H1, Hs1, ρ1, ds, I1, rb, q1, s1', A1, rd⟩
/-- f(x, b), x lent -/
theorem de_fnB (i : Nat) (F : GFn X.prog X.w X.K X.mg X.base k f fd ps spec) (hr : Room k X.A) (hgd : X.A.guards = some []) (hg : Gl X x) (hm : X.mg x = some (.ref f)) (hk : PySem.W.keepIn X.K (.ref f) = true) (hb : Binds X.K fd ps [])
    (ha : DFs X es t) (hN : X.N[i]? = some y := by rfl) (hv : Vis X.env.scope y := by first | exact Or.inl rfl | exact Or.inr (Or.inl rfl) | exact Or.inr (Or.inr rfl)) (hd : (y == ("__debug__" : Str)) = false := by decide) (hcd : (y == ("__classdict__" : Str)) = false := by decide)
    (hdb : (x == ("__debug__" : Str)) = false := by decide) (he : starEach (.Name y py :: es) X.env = (false, eval (.Name y py) X.env) :: starEach es X.env := by rfl) (hpl : (backTo pos (starEach es X.env)).any (·.1) = false := by rfl)
    (hn : ps.length = n := by rfl) :
    DE X (.Call (.Name x p) (.Name y py :: es) [] pos) (dFnB spec n i t) := by
  subst hn
  refine ⟨⟨fun pins s σ H Q I h => ?_⟩⟩
  refine wpAny_Call_Name_kw (ld_glob I hg hm ?_ hdb)
  obtain ⟨Fr, Hs, ρ, QD, A, ⟨q0, q⟩, fin⟩ := h
  obtain ⟨d0, q0⟩ := Option.isSome_iff_exists.mp q0
  obtain ⟨p0, xs0, e0, _, _⟩ := A.lst q0
  refine PySem.W.callWith_K (h₀ := X.base) I.ok.mod.kin hk (thn (lent_come ha (pe_var hN hv hd hcd) he I A q e0) fun us s1 hc => ?_) he hpl
  obtain ⟨us', rfl, vs', H1, Hs1, ρ1, ds, I1, rb, ⟨hl, xs, hx, sp⟩, s1', A1, rd⟩ := hc
  exact ⟨I1.kIn, call_end (call_lent F hr hgd I1 hb rb hl A1 rd hx e0 sp fun z ρ' Hs' H' v hz l' s' R' => fin z ρ' Hs' H' v hz l' (s1'.trans s') R')⟩
end

/-! ### targets -/
abbrev TGD := Dat → Ev → (Ev → Prop) → Prop
abbrev TGsD := List Dat → Ev → (Ev → Prop) → Prop
/-- only the places js change -/
def Only (js : List Nat) (σ σ' : St) : Prop := σ'.length = σ.length ∧ ∀ i, i ∉ js → σ'[i]? = σ[i]?
theorem Only.refl (js : List Nat) (σ : St) : Only js σ σ := ⟨rfl, fun _ _ => rfl⟩
theorem Only.trans {js ks : List Nat} {σ σ1 σ2 : St} (a : Only js σ σ1) (b : Only ks σ1 σ2) : Only (js ++ ks) σ σ2 :=
  ⟨b.1.trans a.1, fun i hi => (b.2 i fun z => hi (List.mem_append_right _ z)).trans (a.2 i fun z => hi (List.mem_append_left _ z))⟩
def lG (K : Fg) (js : List Nat) (g : TGD) : TG := fun v σ H Q => ∃ (Fr Hs : Hp) (ρ : Ev) (d : Dat) (QD : Ev → Prop), At K Fr Hs ρ σ H ∧ Rp K Hs v d ∧ g d ρ QD ∧
  ∀ ρ' σ', QD ρ' → Only js σ σ' → At K Fr Hs ρ' σ' H → Q σ' H
def lGs (K : Fg) (js : List Nat) (g : TGsD) : TGs := fun vs σ H Q => ∃ (Fr Hs : Hp) (ρ : Ev) (ds : List Dat) (QD : Ev → Prop), At K Fr Hs ρ σ H ∧ Rps K Hs vs ds ∧ g ds ρ QD ∧
  ∀ ρ' σ', QD ρ' → Only js σ σ' → At K Fr Hs ρ' σ' H → Q σ' H
structure DG (X : Cx) (tg : Expr) (js : List Nat) (g : TGD) : Prop where
  pg : PG X tg (lG X.K js g)
structure DGs (X : Cx) (ts : List Expr) (js : List Nat) (g : TGsD) : Prop where
  pg : PGs X ts (lGs X.K js g)
def gN (i : Nat) : TGD := fun d ρ Q => notIo ρ[i]? ∧ Q (ρ.set i (.sh d))
def gsNil : TGsD := fun ds ρ Q => ds = [] ∧ Q ρ
def gsCons (g : TGD) (r : TGsD) : TGsD := fun ds ρ Q => ∃ d es, ds = d :: es ∧ g d ρ fun ρ1 => r es ρ1 Q
def gT (n : Nat) (r : TGsD) : TGD := fun d ρ Q => ∃ ds, d = .tuple ds ∧ ds.length = n ∧ r ds ρ Q
def sAsg (t : TD) (g : TGD) : TSD := fun E ρ => t ρ fun s ρ1 => fz s fun d => g d ρ1 E.nx
section
variable {X : Cx} {pos : Pos}
theorem pg_imp {tg : Expr} {t t' : TG} (h : PG X tg t) (f : ∀ v σ H Q, t' v σ H Q → t v σ H Q) : PG X tg t' := ⟨fun pins s σ H v u Q I r q => h.run pins s σ H v u Q I r (f v σ H Q q)⟩
theorem pgs_imp {tg : List Expr} {t t' : TGs} (h : PGs X tg t) (f : ∀ v σ H Q, t' v σ H Q → t v σ H Q) : PGs X tg t' := ⟨fun pins s σ H v u Q I r q => h.run pins s σ H v u Q I r (f v σ H Q q)⟩
theorem dg_name (i : Nat) {x : Str} (hNd : X.N.Nodup) (hi : X.N[i]? = some x := by rfl) (hx : Loc X.env.scope x := by first | exact Or.inl rfl | exact Or.inr rfl) (hf : X.fn x = true ∨ X.env.scope.names.lookup x = some .local := by first | exact .inl rfl | exact .inr rfl) : DG X (.Name x pos) [i] (gN i) := by
  refine ⟨pg_imp (pg_name hNd hi hx hf) fun v σ H Q hq => ?_⟩
  obtain ⟨Fr, Hs, ρ, d, QD, A, r, ⟨h1, h2⟩, f⟩ := hq
  have A2 := RS.store A.len (notIo_lt h1) (A.rs.add (x := (.sh d, some v)) ⟨v, rfl, r⟩ rfl)
  refine f _ _ h2 ⟨by simp, fun j hj => ?_⟩ A2
  rw [List.getElem?_set_ne]
  intro e
  exact hj (by simp [e])
theorem dgs_nil : DGs X [] [] gsNil := by
  refine ⟨pgs_imp pgs_nil fun v σ H Q hq => ?_⟩
  obtain ⟨Fr, Hs, ρ, ds, QD, A, r, ⟨h1, h2⟩, f⟩ := hq
  subst h1
  cases r
  exact ⟨rfl, f ρ σ h2 (.refl _ _) A⟩
theorem dgs_cons {e : Expr} {es : List Expr} {js ks : List Nat} {g : TGD} {r : TGsD} (h1 : DG X e js g) (h2 : DGs X es ks r) (hs : (assignEach (e :: es) X.env).map (·.2) = assign e X.env :: (assignEach es X.env).map (·.2) := by rfl) : DGs X (e :: es) (js ++ ks) (gsCons g r) := by
  refine ⟨pgs_imp (pgs_cons h1.pg h2.pg hs) fun v σ H Q hq => ?_⟩
  obtain ⟨Fr, Hs, ρ, ds, QD, A, r, ⟨d, es', rfl, hg⟩, f⟩ := hq
  cases r with
  | cons r1 r2 => exact ⟨_, _, rfl, Fr, Hs, ρ, d, _, A, r1, hg, fun ρ1 σ1 q1 o1 A1 => ⟨Fr, Hs, ρ1, es', _, A1, r2, q1, fun ρ2 σ2 q2 o2 A2 => f ρ2 σ2 q2 (o1.trans o2) A2⟩⟩
theorem dg_tup {es : List Expr} {k n : Nat} {js : List Nat} {r : TGsD} (hc : X.calm = true) (h : DGs X es js r) (hn : (assignEach es X.env).length = n := by rfl) (hst : (assignEach es X.env).findIdx? (·.1) = none := by rfl) : DG X (.Tuple es k pos) js (gT n r) := by
  refine ⟨pg_imp (pg_tup hc h.pg hn hst) fun v σ H Q hq => ?_⟩
  obtain ⟨Fr, Hs, ρ, d, QD, A, rd, ⟨ds, rfl, hl, hg⟩, f⟩ := hq
  obtain ⟨a, xs, rfl, ht, rs⟩ := (Pk.st (H := H) rd).tup A.rs.hs
  exact ⟨a, xs, rfl, ht, by rw [rs.length]; exact hl, Fr, Hs, ρ, ds, _, A, rs, hg, f⟩
theorem ds_asg {tg e : Expr} {t : TD} {js : List Nat} {g : TGD} (he : DE X e t) (hg : DG X tg js g) (hs : swapsWithSole [tg] e pos.line X.env = pure false := by rfl) (hw : swappedStores [tg] e X.env = pure none := by rfl)
    (h1 : (assignEach [tg] X.env).map (·.2) = [assign tg X.env] := by rfl) : DS X (.Assign [tg] e pos) (sAsg t g) := by
  refine ⟨ps_imp (ps_asg he.pe hg.pg hs hw h1) fun D σ H hq => ?_⟩
  obtain ⟨Fr, Hs, ρ, E, A, q, f1, f2, f3, f4⟩ := hq
  refine ⟨Fr, Hs, ρ, _, A, q, fun s ρ1 Hs1 H1 w q1 hl s1 R => ?_⟩
  obtain ⟨d, Hs2, hd, s2, R2⟩ := R.frz q1
  obtain ⟨w', e1, r1⟩ := R2.head
  cases e1
  exact ⟨Fr, Hs2, ρ1, d, _, ⟨hl, R2.tail⟩, r1, hd, fun ρ2 σ2 q2 _ A2 => f1 _ _ Hs2 H1 q2 (s1.trans s2) A2⟩
/-- x[i] = e -/
def sIx (i : Nat) (tv ti : TD) : TSD := fun E ρ => tv ρ fun s ρ1 => fz s fun d => (lstAt ρ1 i).isSome = true ∧ ti ρ1 fun s2 ρ2 => ∃ k xs j, s2 = .sh (.int k) ∧ lstAt ρ2 i = some xs ∧ ixN xs.length k = some j ∧ E.nx (putAt ρ2 i (xs.set j d))
theorem ds_ix (i : Nat) {x : Str} {px p2 : Pos} {e ie : Expr} {tv ti : TD} (he : DE X e tv) (hi : DE X ie ti) (hN : X.N[i]? = some x := by rfl) (hv : Vis X.env.scope x := by first | exact Or.inl rfl | exact Or.inr (Or.inl rfl) | exact Or.inr (Or.inr rfl)) (hd : (x == ("__debug__" : Str)) = false := by decide) (hcd : (x == ("__classdict__" : Str)) = false := by decide)
    (ha : ∀ v, assign (.Subscript (.Name x px) ie p2) X.env v = (do
      let ov ← holding [v] (eval (.Name x px) X.env)
      let iv ← holding [v, ov] (eval ie X.env)
      standAt p2
      holding [v, ov, iv] (setItem ov iv v)
      release [v, ov, iv] []) := by intro _; rfl)
    (hs : swapsWithSole [.Subscript (.Name x px) ie p2] e pos.line X.env = pure false := by rfl) (hw : swappedStores [.Subscript (.Name x px) ie p2] e X.env = pure none := by rfl)
    (h1 : (assignEach [.Subscript (.Name x px) ie p2] X.env).map (·.2) = [assign (.Subscript (.Name x px) ie p2) X.env] := by rfl) : DS X (.Assign [.Subscript (.Name x px) ie p2] e pos) (sIx i tv ti) := by
  refine ⟨ps_imp (ps_asg he.pe (pg_sub (pe_var hN hv hd hcd) hi.pe set_list ha) hs hw h1) fun D σ H hq => ?_⟩
  obtain ⟨Fr, Hs, ρ, E, A, q, f1, f2, f3, f4⟩ := hq
  refine ⟨Fr, Hs, ρ, _, A, q, fun s ρ1 Hs1 H1 w q1 hl s1 R => ?_⟩
  obtain ⟨d, Hs2, ⟨g0, hd⟩, s2, R2⟩ := R.frz q1
  obtain ⟨w', e1, r1⟩ := R2.head
  cases e1
  have A2 : At X.K Fr Hs2 ρ1 σ H1 := ⟨hl, R2.tail⟩
  obtain ⟨xs0, g0⟩ := Option.isSome_iff_exists.mp g0
  obtain ⟨p, vs0, e0, _, _⟩ := A2.lst g0
  refine ⟨_, e0, Fr, Hs2, ρ1, _, A2, hd, fun s3 ρ2 Hs3 H3 w3 q3 hl3 s3' R3 => ?_⟩
  obtain ⟨k, xs, j, rfl, hx, hj, hn⟩ := q3
  have A3 : At X.K Fr Hs3 ρ2 σ H3 := ⟨hl3, R3.tail⟩
  obtain ⟨w4, e4, r4⟩ := R3.head
  cases e4
  cases r4
  obtain ⟨p', vs, e5, hp, rv⟩ := A3.lst hx
  rw [e0] at e5
  cases e5
  refine ⟨p, vs, k, j, rfl, rfl, hp, by rw [rv.length]; exact hj, ?_⟩
  exact f1 _ _ Hs3 _ hn ((s1.trans s2).trans s3') (A3.putLst hx e0 (rv.set (r1.mono (.of s3')) j))
end
/-! ### what a loop walks -/
abbrev TID := Ev → (List Dat → Ev → Prop) → Prop
/-- J gives the items, one by one, whatever else happens -/
def Walks (K : Fg) (Hs : Hp) (J : It) (items : List Dat) : Prop := ∀ Hs2 H2, Same Hs Hs2 → Sub Hs2 H2 →
  (∀ i d, items[i]? = some d → J.go i H2 ∧ ∀ x H3, J.yld i H2 x H3 → ∃ Hs3, Nx Hs2 H2 Hs3 H3 ∧ Rp K Hs3 x d) ∧ J.stop items.length H2
def lI (K : Fg) (t : TID) : TI := fun σ H R => ∃ (Fr Hs : Hp) (ρ : Ev) (QD : List Dat → Ev → Prop), At K Fr Hs ρ σ H ∧ t ρ QD ∧
  ∀ items ρ' Hs' H' J, QD items ρ' → Same Hs Hs' → At K Fr Hs' ρ' σ H' → Walks K Hs' J items → R J H'
structure DI (X : Cx) (tg iter : Expr) (t : TID) : Prop where
  pi : PI X tg iter (lI X.K t)
theorem pi_imp {X : Cx} {tg it : Expr} {t t' : TI} (h : PI X tg it t) (f : ∀ σ H R, t' σ H R → t σ H R) : PI X tg it t' := ⟨fun pins s σ H R I q => h.run pins s σ H R I (f σ H R q)⟩
def iLst (t : TD) : TID := fun ρ Q => t ρ fun s ρ1 => fz s fun d => ∃ ds, d = .list ds ∧ Q ds ρ1
def iTup (t : TD) : TID := fun ρ Q => t ρ fun s ρ1 => fz s fun d => ∃ ds, d = .tuple ds ∧ Q ds ρ1
/-- lo, lo + 1, .. -/
def rgD (lo : Int) : Nat → List Dat
  | 0 => []
  | n + 1 => .int lo :: rgD (lo + 1) n
theorem rgD_len : ∀ (n : Nat) (lo : Int), (rgD lo n).length = n
  | 0, _ => rfl
  | n + 1, lo => congrArg (· + 1) (rgD_len n (lo + 1))
theorem rgD_get : ∀ (n : Nat) (lo : Int) (i : Nat), (rgD lo n)[i]? = if i < n then some (.int (lo + i)) else none
  | 0, _, _ => by simp [rgD]
  | n + 1, lo, 0 => by simp [rgD]
  | n + 1, lo, i + 1 => by
    unfold rgD
    rw [List.getElem?_cons_succ, rgD_get n (lo + 1) i]
    by_cases h : i < n
    · rw [if_pos h, if_pos (by omega)]
      congr 2
      omega
    · rw [if_neg h, if_neg (by omega)]
def iRg1 (t : TD) : TID := fun ρ Q => t ρ fun s ρ1 => ∃ j : Int, s = .sh (.int j) ∧ (-(2 ^ 62) ≤ j ∧ j < 2 ^ 62) ∧ Q (rgD 0 j.toNat) ρ1
def iRg2 (t u : TD) : TID := fun ρ Q => t ρ fun s ρ1 => ∃ i : Int, s = .sh (.int i) ∧ u ρ1 fun s2 ρ2 => ∃ j : Int, s2 = .sh (.int j) ∧ (-(2 ^ 62) ≤ i ∧ i < 2 ^ 62 ∧ -(2 ^ 62) ≤ j ∧ j < 2 ^ 62) ∧ Q (rgD i (j - i).toNat) ρ2
section
variable {X : Cx} {tg e e2 : Expr} {t u : TD} {p pos : Pos}
theorem walks_list {K : Fg} {Hs : Hp} {a : Addr} {xs : List V} {ds : List Dat} (h : SqL K Hs a xs) (r : Rps K Hs xs ds) : (∀ H2 ys zs, SqL K H2 a ys → SqL K H2 a zs → ys = zs) ∨ True → Walks K Hs (Itl K a) ds := by
  intro _ Hs2 H2 ss sb
  have h2 : SqL K H2 a xs := sb.sql ((Sub.of ss).sql h)
  refine ⟨fun i d e => ?_, ⟨xs, h2, Nat.le_of_eq r.length⟩⟩
  obtain ⟨v, e1, r1⟩ := r.get e
  refine ⟨⟨xs, v, h2, e1⟩, fun x H3 hy => ?_⟩
  obtain ⟨rfl, hy⟩ := hy
  have := hy xs h2
  rw [e1] at this
  cases this
  exact ⟨Hs2, .refl sb, r1.mono (.of ss)⟩
theorem walks_tup {K : Fg} {Hs : Hp} {a : Addr} {xs : List V} {ds : List Dat} (h : SqT K Hs a xs) (r : Rps K Hs xs ds) : Walks K Hs (Itt K a) ds := by
  intro Hs2 H2 ss sb
  have h2 : SqT K H2 a xs := sb.sqt ((Sub.of ss).sqt h)
  refine ⟨fun i d e => ?_, ⟨xs, h2, Nat.le_of_eq r.length⟩⟩
  obtain ⟨v, e1, r1⟩ := r.get e
  refine ⟨⟨xs, v, h2, e1⟩, fun x H3 hy => ?_⟩
  obtain ⟨rfl, hy⟩ := hy
  have := hy xs h2
  rw [e1] at this
  cases this
  exact ⟨Hs2, .refl sb, r1.mono (.of ss)⟩
theorem walks_rg {K : Fg} {Hs : Hp} (lo : Int) (n : Nat) : Walks K Hs (Itr lo n) (rgD lo n) := by
  intro Hs2 H2 ss sb
  refine ⟨fun i d e => ?_, by rw [rgD_len]; exact Nat.le_refl n⟩
  rw [rgD_get] at e
  by_cases h : i < n
  · rw [if_pos h] at e
    cases e
    refine ⟨h, fun x H3 hy => ?_⟩
    obtain ⟨rfl, rfl⟩ := hy
    exact ⟨Hs2, .refl sb, .int _⟩
  · rw [if_neg h] at e
    cases e
theorem di_list (h : DE X e t) : DI X tg e (iLst t) := by
  refine ⟨pi_imp (pi_list h.pe) fun σ H R hq => ?_⟩
  obtain ⟨Fr, Hs, ρ, QD, A, q, f⟩ := hq
  refine ⟨Fr, Hs, ρ, _, A, q, fun s ρ1 Hs1 H1 v q1 hl s1 R1 => ?_⟩
  obtain ⟨d, Hs2, ⟨ds, rfl, hd⟩, s2, R2⟩ := R1.frz q1
  obtain ⟨w, e1, r1⟩ := R2.head
  cases e1
  cases r1 with
  | lst hs r => exact ⟨_, rfl, ⟨_, R2.hs.sql hs⟩, f ds ρ1 Hs2 H1 _ hd (s1.trans s2) ⟨hl, R2.tail⟩ (walks_list hs r (.inr trivial))⟩
theorem di_tup (h : DE X e t) : DI X tg e (iTup t) := by
  refine ⟨pi_imp (pi_tup h.pe) fun σ H R hq => ?_⟩
  obtain ⟨Fr, Hs, ρ, QD, A, q, f⟩ := hq
  refine ⟨Fr, Hs, ρ, _, A, q, fun s ρ1 Hs1 H1 v q1 hl s1 R1 => ?_⟩
  obtain ⟨d, Hs2, ⟨ds, rfl, hd⟩, s2, R2⟩ := R1.frz q1
  obtain ⟨w, e1, r1⟩ := R2.head
  cases e1
  cases r1 with
  | tup hs r => exact ⟨_, rfl, ⟨_, R2.hs.sqt hs⟩, f ds ρ1 Hs2 H1 _ hd (s1.trans s2) ⟨hl, R2.tail⟩ (walks_tup hs r)⟩
theorem di_range1 (hg : Gl X "range") (hm : X.mg "range" = none) (h : DE X e t) (hs : starEach [e] X.env = [(false, eval e X.env)] := by rfl) : DI X tg (.Call (.Name "range" p) [e] [] pos) (iRg1 t) := by
  refine ⟨pi_imp (pi_range1 hg hm (pa_cons h.pe pa_nil hs) hs) fun σ H R hq => ?_⟩
  obtain ⟨Fr, Hs, ρ, QD, A, q, f⟩ := hq
  refine ⟨Fr, Hs, ρ, _, A, q, fun s ρ1 Hs1 H1 v q1 hl s1 R1 => ?_⟩
  obtain ⟨j, rfl, ⟨b1, b2⟩, hd⟩ := q1
  obtain ⟨w, e1, r1⟩ := R1.head
  cases e1
  cases r1
  exact ⟨j, rfl, b1, b2, f _ ρ1 Hs1 H1 _ hd s1 ⟨hl, R1.tail⟩ (walks_rg 0 j.toNat)⟩
theorem di_range2 (hg : Gl X "range") (hm : X.mg "range" = none) (h : DE X e t) (h2 : DE X e2 u) (hs : starEach [e, e2] X.env = [(false, eval e X.env), (false, eval e2 X.env)] := by rfl) (hs2 : starEach [e2] X.env = [(false, eval e2 X.env)] := by rfl) : DI X tg (.Call (.Name "range" p) [e, e2] [] pos) (iRg2 t u) := by
  refine ⟨pi_imp (pi_range2 hg hm (pa_cons h.pe (pa_cons h2.pe pa_nil hs2) (by rw [hs, hs2])) hs hs2) fun σ H R hq => ?_⟩
  obtain ⟨Fr, Hs, ρ, QD, A, q, f⟩ := hq
  refine ⟨Fr, Hs, ρ, _, A, q, fun s ρ1 Hs1 H1 v q1 hl s1 R1 => ?_⟩
  obtain ⟨i, rfl, hd⟩ := q1
  obtain ⟨w, e1, r1⟩ := R1.head
  cases e1
  cases r1
  refine ⟨Fr, Hs1, ρ1, _, ⟨hl, R1.tail⟩, hd, fun s2 ρ2 Hs2 H2 v2 q2 hl2 s2' R2 => ?_⟩
  obtain ⟨j, rfl, b, hd⟩ := q2
  obtain ⟨w, e1, r1⟩ := R2.head
  cases e1
  cases r1
  exact ⟨i, j, rfl, b, f _ ρ2 Hs2 H2 _ hd (s1.trans s2') ⟨hl2, R2.tail⟩ (walks_rg i (j - i).toNat)⟩
end
/-! ### for -/
def forW (g : TGD) (tb : TSD) (E : DEn) : List Dat → Ev → Prop
  | [], ρ => E.nx ρ
  | d :: ds, ρ => g d ρ fun ρ1 => tb { E with nx := forW g tb E ds, ct := forW g tb E ds, bk := E.nx } ρ1
def sFor (ti : TID) (g : TGD) (tb : TSD) : TSD := fun E ρ => ti ρ fun items ρ1 => forW g tb E items ρ1
def whlW (c : TTD) (tb : TSD) (E : DEn) (ρ : Ev) : Prop := ∃ W : Nat → Ev → Prop, (∃ m, W m ρ) ∧ ∀ m ρ, W m ρ → c ρ fun b ρ1 => if b = true then ∃ N : Ev → Prop, (∀ ρ', N ρ' → ∃ m', m' < m ∧ W m' ρ') ∧ tb { E with nx := N, ct := N, bk := E.nx } ρ1 else E.nx ρ1
section
variable {X : Cx} {tg iter : Expr} {body : List Stmt} {ti : TID} {js : List Nat} {g : TGD} {tb : TSD} {pos : Pos}
theorem ds_for (hp : PassesOwn (model X.prog X.w) X.A X.env X.xe) (hc : X.calm = true) (hi : DI X tg iter ti) (hg : DG X tg js g) (hb : DSs X body tb) (hs : ∀ x, foldedSetIterable iter X.env x = pure x := by intro _; rfl) : DS X (.For tg iter body [] pos) (sFor ti g tb) := by
  refine ⟨ps_imp (ps_for hp hc hi.pi hg.pg hb.ps hs) fun D σ H hq => ?_⟩
  obtain ⟨Fr, Hs, ρ, E, A, q, f1, f2, f3, f4⟩ := hq
  refine ⟨Fr, Hs, ρ, _, A, q, fun items ρ1 Hs1 H1 J q1 s1 A1 wk => ?_⟩
  refine ⟨fun i m σ2 H2 => ∃ Hs2 ρ2, i ≤ items.length ∧ m = items.length - i ∧ Same Hs1 Hs2 ∧ At X.K Fr Hs2 ρ2 σ2 H2 ∧ forW g tb E (items.drop i) ρ2, ⟨_, Hs1, ρ1, Nat.zero_le _, rfl, .refl _, A1, q1⟩, ?_⟩
  rintro i m σ2 H2 ⟨Hs2, ρ2, hi2, rfl, s2, A2, w2⟩
  obtain ⟨go, stop⟩ := wk Hs2 H2 s2 A2.rs.hs
  by_cases hlt : i < items.length
  · have ed : items.drop i = items[i] :: items.drop (i + 1) := List.drop_eq_getElem_cons hlt
    rw [ed] at w2
    obtain ⟨hgo, hy⟩ := go i items[i] (List.getElem?_eq_getElem hlt)
    refine .inr ⟨hgo, fun σ' H' => ∃ Hs3 ρ3, Same Hs1 Hs3 ∧ At X.K Fr Hs3 ρ3 σ' H' ∧ forW g tb E (items.drop (i + 1)) ρ3, ?_, ?_⟩
    · rintro σ' H' ⟨Hs3, ρ3, s3, A3, w3⟩
      exact ⟨items.length - (i + 1), by omega, Hs3, ρ3, hlt, rfl, s3, A3, w3⟩
    · intro x H3 hx
      obtain ⟨Hs3, n3, r3⟩ := hy x H3 hx
      refine ⟨Fr, Hs3, ρ2, items[i], _, ⟨A2.len, A2.rs.nx n3⟩, r3, w2, fun ρ4 σ4 q4 _ A4 => ?_⟩
      have s13 : Same Hs1 Hs3 := s2.trans n3.ss
      refine ⟨Fr, Hs3, ρ4, _, A4, q4, fun ρ5 σ5 Hs5 H5 q5 s5 A5 => ⟨Hs5, ρ5, s13.trans s5, A5, q5⟩, fun s ρ5 σ5 Hs5 H5 v q5 s5 l5 R5 => f2 _ _ _ _ _ _ q5 (s1.trans (s13.trans s5)) l5 R5,
        fun ρ5 σ5 Hs5 H5 q5 s5 A5 => f1 _ _ _ _ q5 (s1.trans (s13.trans s5)) A5, fun ρ5 σ5 Hs5 H5 q5 s5 A5 => ⟨Hs5, ρ5, s13.trans s5, A5, q5⟩⟩
  · have e : i = items.length := by omega
    subst e
    rw [List.drop_length] at w2
    exact .inl ⟨stop, f1 _ _ _ _ w2 (s1.trans s2) A2⟩
theorem ds_while {c : Expr} {tc : TTD} (hp : PassesOwn (model X.prog X.w) X.A X.env X.xe) (hc : DT X c tc) (hb : DSs X body tb) : DS X (.While c body [] pos) (whlW tc tb) := by
  refine ⟨ps_imp (ps_while hp hc.pt hb.ps) fun D σ H hq => ?_⟩
  obtain ⟨Fr, Hs, ρ, E, A, ⟨W, ⟨m0, w0⟩, turn⟩, f1, f2, f3, f4⟩ := hq
  refine ⟨fun m σ2 H2 => ∃ Hs2 ρ2, Same Hs Hs2 ∧ At X.K Fr Hs2 ρ2 σ2 H2 ∧ W m ρ2, ⟨m0, Hs, ρ, .refl _, A, w0⟩, ?_⟩
  rintro m σ2 H2 ⟨Hs2, ρ2, s2, A2, w2⟩
  refine ⟨Fr, Hs2, ρ2, _, A2, turn m ρ2 w2, fun b ρ3 Hs3 H3 q3 s3 A3 => ?_⟩
  cases b with
  | false => exact f1 _ _ _ _ q3 (s2.trans s3) A3
  | true =>
    obtain ⟨N, hN, q3⟩ := q3
    rw [if_pos rfl]
    refine ⟨fun σ' H' => ∃ Hs4 ρ4, Same Hs Hs4 ∧ At X.K Fr Hs4 ρ4 σ' H' ∧ N ρ4, ?_, ?_⟩
    · rintro σ' H' ⟨Hs4, ρ4, s4, A4, n4⟩
      obtain ⟨m', hm, w4⟩ := hN ρ4 n4
      exact ⟨m', hm, Hs4, ρ4, s4, A4, w4⟩
    · have s23 := s2.trans s3
      exact ⟨Fr, Hs3, ρ3, _, A3, q3, fun ρ5 σ5 Hs5 H5 q5 s5 A5 => ⟨Hs5, ρ5, s23.trans s5, A5, q5⟩, fun s ρ5 σ5 Hs5 H5 v q5 s5 l5 R5 => f2 _ _ _ _ _ _ q5 (s23.trans s5) l5 R5,
        fun ρ5 σ5 Hs5 H5 q5 s5 A5 => f1 _ _ _ _ q5 (s23.trans s5) A5, fun ρ5 σ5 Hs5 H5 q5 s5 A5 => ⟨Hs5, ρ5, s23.trans s5, A5, q5⟩⟩
end

/-! ### lending to the foreign part and back -/
section
variable {K : Fg} {Fr Hs H Hs' H' : Hp} {l : List (Sl × Option V)}
/-- the object of a value that owns -/
def ownOf (s : Sl) (v : V) : List Addr := own1 (s, some v)
theorem RS.lend {p : Addr} {o : HO} {x : Sl × Option V} (R : RS K Fr Hs H (x :: l)) (ho : own1 x = [p]) (hp : H p = some o) : RS K (upd Fr p o) Hs H l ∧ Fr p = none ∧ Hs p = none := by
  have hw := R.ow p (by rw [List.flatMap_cons, ho]; exact List.mem_cons_self)
  have nd := R.nd
  rw [List.flatMap_cons, ho] at nd
  have np : p ∉ l.flatMap own1 := (List.nodup_cons.mp nd).1
  refine ⟨⟨R.hs, fun b u e => ?_, fun b u e => ?_, R.tail.sl, R.tail.nd, fun q hq => ?_⟩, hw.2, hw.1⟩
  · by_cases hb : b = p
    · subst hb; rw [upd_same] at e; cases e; exact hp
    · rw [upd_ne hb] at e; exact R.fr b u e
  · by_cases hb : b = p
    · subst hb; exact .inl hw.1
    · rw [upd_ne hb] at e; exact R.dj b u e
  · obtain ⟨h1, h2⟩ := R.tail.ow q hq
    have hq' : q ≠ p := fun z => np (z ▸ hq)
    exact ⟨h1, by rw [upd_ne hq']; exact h2⟩
theorem RS.back {p : Addr} {o : HO} {x : Sl × Option V} (R : RS K (upd Fr p o) Hs H l) (hf : Fr p = none) (hm : Mut (some o)) (ho : own1 x = [p]) (hx : SlR K Hs H x.1 x.2) : RS K Fr Hs H (x :: l) := by
  have hp : H p = some o := R.fr p o upd_same
  have hs : Hs p = none := by
    rcases R.dj p o upd_same with h | ⟨b, u, rfl, _⟩
    · exact h
    · exact absurd hm (fun z => z)
  have np : p ∉ l.flatMap own1 := fun z => by
    have := (R.ow p z).2
    rw [upd_same] at this
    cases this
  refine ⟨R.hs, fun b u e => R.fr b u (by rw [upd_ne (ne_of_none e hf)]; exact e), fun b u e => R.dj b u (by rw [upd_ne (ne_of_none e hf)]; exact e), fun z hz => ?_, ?_, fun q hq => ?_⟩
  · rcases List.mem_cons.mp hz with e | hz
    · rw [e]; exact hx
    · exact R.sl z hz
  · rw [List.flatMap_cons, ho]; exact List.nodup_cons.mpr ⟨np, R.nd⟩
  · rw [List.flatMap_cons, ho] at hq
    rcases List.mem_cons.mp hq with e | hq
    · rw [e]; exact ⟨hs, hf⟩
    · obtain ⟨h1, h2⟩ := R.ow q hq
      have hq' : q ≠ p := fun z => np (z ▸ hq)
      exact ⟨h1, by rw [upd_ne hq'] at h2; exact h2⟩
/-- only what a set slot holds matters -/
theorem flat_agree : ∀ {ρ : Ev} {σ σ' : St}, ρ.length = σ.length → ρ.length = σ'.length → (∀ (i : Nat) (s : Sl), ρ[i]? = some s → s ≠ Sl.un → σ[i]? = σ'[i]?) → (ρ.zip σ).flatMap own1 = (ρ.zip σ').flatMap own1
  | [], _, _, _, _, _ => by simp
  | s :: ρ, [], _, h, _, _ => by simp at h
  | s :: ρ, _, [], _, h, _ => by simp at h
  | s :: ρ, o :: σ, o' :: σ', h1, h2, h => by
    rw [List.zip_cons_cons, List.zip_cons_cons, List.flatMap_cons, List.flatMap_cons]
    have ih := flat_agree (ρ := ρ) (σ := σ) (σ' := σ') (by simpa using h1) (by simpa using h2) fun i s e n => by
      have := h (i + 1) s (by simpa using e) n
      simpa using this
    rw [ih]
    congr 1
    cases s with
    | un => rfl
    | sh d => rfl
    | _ =>
      have := h 0 _ rfl (by intro z; cases z)
      have e : o = o' := by simpa using this
      rw [e]
theorem RS.agree {ρ : Ev} {σ σ' : St} {m : List (Sl × Option V)} (h1 : ρ.length = σ.length) (h2 : ρ.length = σ'.length) (h : ∀ (i : Nat) (s : Sl), ρ[i]? = some s → s ≠ Sl.un → σ[i]? = σ'[i]?) (R : RS K Fr Hs H (m ++ ρ.zip σ)) : RS K Fr Hs H (m ++ ρ.zip σ') := by
  have e := flat_agree h1 h2 h
  refine ⟨R.hs, R.fr, R.dj, fun z hz => ?_, ?_, ?_⟩
  · rcases List.mem_append.mp hz with hz | hz
    · exact R.sl z (List.mem_append_left _ hz)
    · obtain ⟨i, hi⟩ := List.getElem?_of_mem hz
      obtain ⟨s, o⟩ := z
      obtain ⟨hlt, ez⟩ := List.getElem?_eq_some_iff.mp hi
      rw [List.getElem_zip] at ez
      rw [List.length_zip] at hlt
      have e1 : ρ[i]? = some s := by rw [List.getElem?_eq_some_iff]; exact ⟨by omega, by simpa using congrArg Prod.fst ez⟩
      have e2 : σ'[i]? = some o := by rw [List.getElem?_eq_some_iff]; exact ⟨by omega, by simpa using congrArg Prod.snd ez⟩
      by_cases hs : s = .un
      · rw [hs]; trivial
      · have e3 := (h i s e1 hs).trans e2
        refine R.sl (s, o) (List.mem_append_right _ (List.mem_of_getElem? (i := i) ?_))
        rw [List.getElem?_eq_some_iff]
        refine ⟨by rw [List.length_zip]; omega, ?_⟩
        rw [List.getElem_zip]
        obtain ⟨a1, b1⟩ := List.getElem?_eq_some_iff.mp e1
        obtain ⟨a2, b2⟩ := List.getElem?_eq_some_iff.mp e3
        rw [b1, b2]
  · rw [List.flatMap_append, ← e, ← List.flatMap_append]; exact R.nd
  · rw [List.flatMap_append, ← e, ← List.flatMap_append]; exact R.ow
end
/-! ### the block's own names -/
def wipeD (ρ : Ev) : List Nat → Ev
  | [] => ρ
  | i :: is => (wipeD ρ is).set i .un
/-- behind the block they hold what they held, if it was plain -/
def backD (ρ0 ρ : Ev) : List Nat → Ev
  | [] => ρ
  | i :: is => match ρ0[i]? with
    | some (.sh d) => (backD ρ0 ρ is).set i (.sh d)
    | _ => backD ρ0 ρ is
theorem wipeD_len (ρ : Ev) : ∀ vs, (wipeD ρ vs).length = ρ.length
  | [] => rfl
  | v :: vs => by unfold wipeD; rw [List.length_set, wipeD_len ρ vs]
theorem backD_len (ρ0 ρ : Ev) : ∀ vs, (backD ρ0 ρ vs).length = ρ.length
  | [] => rfl
  | v :: vs => by
    unfold backD
    split
    · rw [List.length_set, backD_len ρ0 ρ vs]
    · exact backD_len ρ0 ρ vs
theorem wipeD_get (ρ : Ev) (i : Nat) : ∀ vs, (wipeD ρ vs)[i]? = if i ∈ vs ∧ i < ρ.length then some .un else ρ[i]?
  | [] => by simp [wipeD]
  | v :: vs => by
    unfold wipeD
    rw [List.getElem?_set, wipeD_len, wipeD_get ρ i vs]
    by_cases h : v = i
    · subst h
      by_cases h2 : v < ρ.length
      · simp [h2]
      · simp [h2]
    · rw [if_neg h]
      have : (i ∈ v :: vs ∧ i < ρ.length) ↔ (i ∈ vs ∧ i < ρ.length) := by
        simp only [List.mem_cons]
        constructor
        · rintro ⟨h1 | h1, h2⟩
          · exact absurd h1.symm h
          · exact ⟨h1, h2⟩
        · rintro ⟨h1, h2⟩
          exact ⟨.inr h1, h2⟩
      simp only [this]
theorem wipe_get (σ : St) (i : Nat) : ∀ vs, (wipe σ vs)[i]? = if i ∈ vs ∧ i < σ.length then some none else σ[i]?
  | [] => by simp [wipe]
  | v :: vs => by
    unfold wipe
    rw [List.getElem?_set, wipe_length, wipe_get σ i vs]
    by_cases h : v = i
    · subst h
      by_cases h2 : v < σ.length
      · simp [h2]
      · simp [h2]
    · rw [if_neg h]
      have : (i ∈ v :: vs ∧ i < σ.length) ↔ (i ∈ vs ∧ i < σ.length) := by
        simp only [List.mem_cons]
        constructor
        · rintro ⟨h1 | h1, h2⟩
          · exact absurd h1.symm h
          · exact ⟨h1, h2⟩
        · rintro ⟨h1, h2⟩
          exact ⟨.inr h1, h2⟩
      simp only [this]
theorem wipe_only {σ σ2 : St} {vs js : List Nat} (h : Only js (wipe σ vs) σ2) (hj : ∀ j ∈ js, j ∈ vs) : wipe σ2 vs = wipe σ vs := by
  have hl : σ2.length = σ.length := h.1.trans (wipe_length σ vs)
  apply List.ext_getElem?
  intro i
  rw [wipe_get, wipe_get, hl]
  by_cases hi : i ∈ vs ∧ i < σ.length
  · rw [if_pos hi, if_pos hi]
  · rw [if_neg hi, if_neg hi]
    by_cases hv : i ∈ vs
    · have : ¬ i < σ.length := fun z => hi ⟨hv, z⟩
      rw [List.getElem?_eq_none (by omega), List.getElem?_eq_none (by omega)]
    · have h2 := h.2 i fun z => hv (hj i z)
      rw [h2, wipe_get, if_neg hi]
section
variable {K : Fg} {Fr Hs H : Hp} {m : List (Sl × Option V)}
theorem zip_set_un {ρ : Ev} {σ : St} (i : Nat) : ∃ o, (ρ.set i .un).zip σ = (ρ.zip σ).set i (.un, o) := by
  cases e : σ[i]? with
  | some o => exact ⟨o, (zip_set_l e).symm⟩
  | none =>
    refine ⟨none, ?_⟩
    rw [zip_set]
    congr 1
    rw [List.getElem?_eq_none_iff] at e
    exact (List.set_eq_of_length_le e).symm
theorem RS.unset {ρ : Ev} {σ : St} (R : RS K Fr Hs H (m ++ ρ.zip σ)) (i : Nat) : RS K Fr Hs H (m ++ (ρ.set i .un).zip σ) := by
  obtain ⟨o, e⟩ := zip_set_un (ρ := ρ) (σ := σ) i
  rw [e]
  have sb := flat_un (ρ.zip σ) i (.un, o) rfl
  refine ⟨R.hs, R.fr, R.dj, fun z hz => ?_, ?_, fun q hq => R.ow q ?_⟩
  · rcases List.mem_append.mp hz with hz | hz
    · exact R.sl z (List.mem_append_left _ hz)
    · rcases List.mem_or_eq_of_mem_set hz with hz | hz
      · exact R.sl z (List.mem_append_right _ hz)
      · rw [hz]; trivial
  · have := R.nd
    rw [List.flatMap_append] at this ⊢
    exact this.sublist ((List.Sublist.refl _).append sb)
  · rw [List.flatMap_append] at hq ⊢
    rcases List.mem_append.mp hq with h | h
    · exact List.mem_append_left _ h
    · exact List.mem_append_right _ (sb.subset h)
theorem RS.wipe {ρ : Ev} {σ : St} (R : RS K Fr Hs H (m ++ ρ.zip σ)) : ∀ vs, RS K Fr Hs H (m ++ (wipeD ρ vs).zip σ)
  | [] => R
  | v :: vs => (RS.wipe R vs).unset v
theorem RS.reset {ρ : Ev} {σ : St} {i : Nat} {v : V} {d : Dat} (R : RS K Fr Hs H (m ++ ρ.zip σ)) (hv : σ[i]? = some (some v)) (r : Rp K Hs v d) : RS K Fr Hs H (m ++ (ρ.set i (.sh d)).zip σ) := by
  rw [← zip_set_l hv]
  have sb := flat_un (ρ.zip σ) i (.sh d, some v) rfl
  refine ⟨R.hs, R.fr, R.dj, fun z hz => ?_, ?_, fun q hq => R.ow q ?_⟩
  · rcases List.mem_append.mp hz with hz | hz
    · exact R.sl z (List.mem_append_left _ hz)
    · rcases List.mem_or_eq_of_mem_set hz with hz | hz
      · exact R.sl z (List.mem_append_right _ hz)
      · rw [hz]; exact ⟨v, rfl, r⟩
  · have := R.nd
    rw [List.flatMap_append] at this ⊢
    exact this.sublist ((List.Sublist.refl _).append sb)
  · rw [List.flatMap_append] at hq ⊢
    rcases List.mem_append.mp hq with h | h
    · exact List.mem_append_left _ h
    · exact List.mem_append_right _ (sb.subset h)
theorem RS.backD {ρ0 ρ : Ev} {σ : St} (R : RS K Fr Hs H (m ++ ρ.zip σ)) (h : ∀ (i : Nat) (d : Dat), ρ0[i]? = some (Sl.sh d) → ∃ v, σ[i]? = some (some v) ∧ Rp K Hs v d) : ∀ vs, RS K Fr Hs H (m ++ (DL.backD ρ0 ρ vs).zip σ)
  | [] => R
  | v :: vs => by
    unfold DL.backD
    split
    · rename_i d e
      obtain ⟨w, e1, r⟩ := h v d e
      exact (RS.backD R h vs).reset e1 r
    · exact RS.backD R h vs
theorem At.shs {ρ : Ev} {σ : St} (A : At K Fr Hs ρ σ H) : ∀ (i : Nat) (d : Dat), ρ[i]? = some (Sl.sh d) → ∃ v, σ[i]? = some (some v) ∧ Rp K Hs v d := by
  intro i d e
  obtain ⟨o, e1, e2⟩ := zip_get A.len e
  obtain ⟨v, e3, r⟩ := A.rs.sl _ (List.mem_of_getElem? e2)
  exact ⟨v, by rw [e1]; exact congrArg some e3, r⟩
end
theorem own_ol {C : Addr → Prop} {ds : List Dat} {D p : Addr} (hp : p ∈ own1 (Sl.ol ds, some (V.ref D))) (h : C D) : C p := by
  have e : p = D := by simpa [own1] using hp
  rw [e]; exact h
/-! ### list comprehensions -/
structure DTs (X : Cx) (ifs : List Expr) (t : TTD) : Prop where
  pt : PTs X ifs (lT X.K t)
def tYesD : TTD := fun ρ Q => Q true ρ
def lcW (g : TGD) (tt : TTD) (te : TD) (vs : List Nat) : List Dat → Ev → List Dat → (List Dat → Ev → Prop) → Prop
  | [], ρ, acc, k => k acc ρ
  | d :: ds, ρ, acc, k => g d ρ fun ρ1 => tt ρ1 fun b ρ2 => if b = true then te ρ2 fun s ρ3 => fz s fun y => acc.length < sizeLine ∧ lcW g tt te vs ds (wipeD ρ3 vs) (acc ++ [y]) k else lcW g tt te vs ds (wipeD ρ2 vs) acc k
def dLc (ti : TID) (g : TGD) (tt : TTD) (te : TD) (vs : List Nat) : TD := fun ρ Q => ti ρ fun items ρ1 => lcW g tt te vs items (wipeD ρ1 vs) [] fun acc ρ2 => Q (.ol acc) (backD ρ1 ρ2 vs)
section
variable {X : Cx}
theorem dts_nil : DTs X [] tYesD := ⟨⟨fun pins s σ H Q I ⟨Fr, Hs, ρ, QD, A, q, f⟩ => pts_nil.run pins s σ H Q I (f true ρ Hs H q (.refl _) A)⟩⟩
theorem dts_one {c : Expr} {t : TTD} (h : DT X c t) : DTs X [c] t := ⟨pts_one h.pt⟩
theorem lc_read {ti : TID} {js vs : List Nat} {g : TGD} {tt : TTD} {te : TD} (hj : ∀ j ∈ js, j ∈ vs) (σ : St) (H : Hp) (Q : VK) (h : lE X.K (dLc ti g tt te vs) σ H Q) :
    tLc (lI X.K ti) (lG X.K js g) (lT X.K tt) (lE X.K te) vs σ H Q := by
  obtain ⟨Fr, Hs, ρ, QD, A, q, f⟩ := h
  refine ⟨Fr, Hs, ρ, _, A, q, fun items ρ1 Hs1 H1 J q1 s1 A1 wk D hD => ?_⟩
  have wl : (wipeD ρ1 vs).length = σ.length := by rw [wipeD_len]; exact A1.len
  refine ⟨fun i m H2 => ∃ Hs2 ρ2 acc, i ≤ items.length ∧ m = items.length - i ∧ Same Hs1 Hs2 ∧ ρ2.length = σ.length ∧ (∀ (j : Nat) (s : Sl), ρ2[j]? = some s → j ∈ vs → s = Sl.un) ∧ RS X.K Fr Hs2 H2 ((.ol acc, some (.ref D)) :: ρ2.zip σ) ∧
      lcW g tt te vs (items.drop i) ρ2 acc (fun acc ρ3 => QD (.ol acc) (backD ρ1 ρ3 vs)), ⟨_, Hs1, wipeD ρ1 vs, [], Nat.zero_le _, rfl, .refl _, wl, ?_, ?_, q1⟩, ?_⟩
  · intro j s e hj
    rw [wipeD_get] at e
    split at e
    · cases e; rfl
    · rename_i hn
      have : ¬ j < ρ1.length := fun z => hn ⟨hj, z⟩
      rw [List.getElem?_eq_none (by omega)] at e
      cases e
  · have R := RS.wipe (m := []) A1.rs vs
    have n := nx_own (o := .lst []) A1.rs.hs hD
    exact R.new n ⟨D, [], rfl, upd_same, .nil⟩ (fun p hp => own_ol (C := fun p => Hs1 p = none ∧ H1 p = none) hp ⟨A1.rs.hs.free hD, hD⟩) (own1_nodup _)
  · rintro i m H2 ⟨Hs2, ρ2, acc, hi, rfl, s2, l2, un2, R2, w2⟩
    obtain ⟨go, stop⟩ := wk Hs2 H2 s2 R2.hs
    by_cases hlt : i < items.length
    · have ed : items.drop i = items[i] :: items.drop (i + 1) := List.drop_eq_getElem_cons hlt
      rw [ed] at w2
      obtain ⟨hgo, hy⟩ := go i items[i] (List.getElem?_eq_getElem hlt)
      refine .inr ⟨hgo, fun H' => ∃ Hs3 ρ3 acc3, Same Hs1 Hs3 ∧ ρ3.length = σ.length ∧ (∀ (j : Nat) (s : Sl), ρ3[j]? = some s → j ∈ vs → s = Sl.un) ∧ RS X.K Fr Hs3 H' ((.ol acc3, some (.ref D)) :: ρ3.zip σ) ∧
        lcW g tt te vs (items.drop (i + 1)) ρ3 acc3 (fun acc ρ3 => QD (.ol acc) (backD ρ1 ρ3 vs)), ?_, ?_⟩
      · rintro H' ⟨Hs3, ρ3, acc3, s3, l3, un3, R3, w3⟩
        exact ⟨items.length - (i + 1), by omega, Hs3, ρ3, acc3, hlt, rfl, s3, l3, un3, R3, w3⟩
      · intro x H3 hx
        obtain ⟨Hs3, n3, r3⟩ := hy x H3 hx
        have R3 := R2.nx n3
        obtain ⟨p, vsA, e3, hDA, rA⟩ := R3.head
        have e3 : D = p := V.ref.inj (Option.some.inj e3)
        subst e3
        obtain ⟨R3', frD, hsD⟩ := R3.lend rfl hDA
        have un_of : ∀ (j : Nat) (s : Sl), ρ2[j]? = some s → s ≠ Sl.un → σ[j]? = (L2.wipe σ vs)[j]? := by
          intro j s e hs
          rw [wipe_get]
          have : j ∉ vs := fun z => hs (un2 j s e z)
          rw [if_neg (fun z => this z.1)]
        have R3w : RS X.K (upd Fr D (.lst vsA)) Hs3 H3 (ρ2.zip (L2.wipe σ vs)) := RS.agree (m := []) l2 (by rw [wipe_length]; exact l2) un_of R3'
        refine ⟨_, Hs3, ρ2, items[i], _, ⟨by rw [wipe_length]; exact l2, R3w⟩, r3, w2, fun ρ4 σ4 q4 o4 A4 => ⟨wipe_only o4 hj, ?_⟩⟩
        have σ4l : σ4.length = σ.length := o4.1.trans (wipe_length σ vs)
        have σ4a : ∀ j, j ∉ vs → σ4[j]? = σ[j]? := by
          intro j hj4
          rw [o4.2 j (fun z => hj4 (hj j z)), wipe_get, if_neg (fun z => hj4 z.1)]
        have s13 : Same Hs1 Hs3 := s2.trans n3.ss
        -- from a state in the block to one behind it
        have out : ∀ {Hs5 H5 : Hp} {ρ5 : Ev} {m5 : List (Sl × Option V)}, ρ5.length = σ4.length → RS X.K (upd Fr D (.lst vsA)) Hs5 H5 (m5 ++ ρ5.zip σ4) → RS X.K (upd Fr D (.lst vsA)) Hs5 H5 (m5 ++ (wipeD ρ5 vs).zip σ) ∧ (wipeD ρ5 vs).length = σ.length ∧ (∀ (j : Nat) (s : Sl), (wipeD ρ5 vs)[j]? = some s → j ∈ vs → s = Sl.un) := by
          intro Hs5 H5 ρ5 m5 l5 R5
          refine ⟨RS.agree (by rw [wipeD_len]; exact l5) (by rw [wipeD_len]; omega) (fun j s e hs => σ4a j fun z => hs ?_) (R5.wipe vs), by rw [wipeD_len]; omega, fun j s e hj => ?_⟩
          · rw [wipeD_get] at e
            split at e
            · cases e; rfl
            · rename_i hn
              have : ¬ j < ρ5.length := fun y => hn ⟨z, y⟩
              rw [List.getElem?_eq_none (by omega)] at e
              cases e
          · rw [wipeD_get] at e
            split at e
            · cases e; rfl
            · rename_i hn
              have : ¬ j < ρ5.length := fun y => hn ⟨hj, y⟩
              rw [List.getElem?_eq_none (by omega)] at e
              cases e
        refine ⟨_, Hs3, ρ4, _, A4, q4, fun b ρ5 Hs5 H5 q5 s5 A5 => ?_⟩
        cases b with
        | false =>
          rw [if_neg Bool.false_ne_true] at q5
          rw [if_neg Bool.false_ne_true]
          obtain ⟨R6, l6, un6⟩ := out (m5 := []) A5.len A5.rs
          have hD5 : H5 D = some (.lst vsA) := R6.fr D _ upd_same
          exact ⟨Hs5, _, acc, s13.trans s5, l6, un6, R6.back frD trivial rfl ⟨D, vsA, rfl, hD5, rA.mono (.of s5)⟩, q5⟩
        | true =>
          rw [if_pos rfl] at q5
          rw [if_pos rfl]
          refine ⟨_, Hs5, ρ5, _, A5, q5, fun s ρ6 Hs6 H6 v q6 l6 s6 R6 => ?_⟩
          obtain ⟨y, Hs7, ⟨hz, q7⟩, s7, R7⟩ := R6.frz q6
          obtain ⟨w, e7, r7⟩ := R7.head
          cases e7
          obtain ⟨R8, l8, un8⟩ := out (m5 := [(.sh y, some v)]) l6 R7
          have hD8 : H6 D = some (.lst vsA) := R8.fr D _ upd_same
          have rA8 : Rps X.K Hs7 vsA acc := rA.mono (.of ((s5.trans s6).trans s7))
          have R9 := RS.back (x := (.ol acc, some (.ref D))) (RS.tail (x := (.sh y, some v)) R8) frD trivial rfl ⟨D, vsA, rfl, hD8, rA8⟩
          refine ⟨vsA, hD8, by rw [rA8.length]; exact hz, Hs7, _, _, ((s13.trans s5).trans s6).trans s7, l8, un8, ?_, q7⟩
          have A9 : At X.K Fr Hs7 (.ol acc :: wipeD ρ6 vs) (some (.ref D) :: σ) H6 := ⟨by simp [l8], R9⟩
          have A10 := A9.putLst (i := 0) (ds := acc) (ds' := acc ++ [y]) (xs' := vsA ++ [v]) rfl rfl (rA8.append (.cons r7 .nil))
          exact A10.rs
    · have e : i = items.length := by omega
      subst e
      rw [List.drop_length] at w2
      refine .inl ⟨stop, ?_⟩
      have sh1 : ∀ (j : Nat) (d : Dat), ρ1[j]? = some (Sl.sh d) → ∃ v, σ[j]? = some (some v) ∧ Rp X.K Hs2 v d := fun j d e => by
        obtain ⟨v, e1, r⟩ := A1.shs j d e
        exact ⟨v, e1, r.mono (.of s2)⟩
      have R3 := RS.backD (m := [(.ol acc, some (.ref D))]) R2 sh1 vs
      exact f (.ol acc) (backD ρ1 ρ2 vs) Hs2 H2 (.ref D) w2 (by rw [backD_len]; exact l2) (s1.trans s2) R3
theorem de_lc {elt tg iter : Expr} {ifs : List Expr} {scope : Scope} {own : List (Str × Nat)} {pos : Pos} {ti : TID} {js : List Nat} {g : TGD} {tt : TTD} {te : TD} (hc : X.calm = true) (hN : X.N.Nodup) (hi : DI X tg iter ti) (ok : BlkOk X.N X.env.scope scope own)
    (hg : ∀ (s : Shared) (H : Hp) (C : Addr) (cl : List (Str × Addr)) (fp : List Addr), DG (X.blk s H scope (compEnvC scope cl C X.env) fp) tg js g)
    (ht : ∀ (s : Shared) (H : Hp) (C : Addr) (cl : List (Str × Addr)) (fp : List Addr), DTs (X.blk s H scope (compEnvC scope cl C X.env) fp) ifs tt)
    (he : ∀ (s : Shared) (H : Hp) (C : Addr) (cl : List (Str × Addr)) (fp : List Addr), DE (X.blk s H scope (compEnvC scope cl C X.env) fp) elt te)
    (hj : ∀ j ∈ js, j ∈ own.map (·.2)) (hs : ∀ x, foldedSetIterable iter X.env x = pure x := by intro _; rfl) : DE X (.ListComp elt [⟨tg, iter, ifs, 0⟩] scope pos) (dLc ti g tt te (own.map (·.2))) :=
  ⟨pe_imp (pe_lc hc hN hi.pi ok (fun s H C cl fp => (hg s H C cl fp).pg) (fun s H C cl fp => (ht s H C cl fp).pt) (fun s H C cl fp => (he s H C cl fp).pe) hs) fun σ H Q h => lc_read hj σ H Q h⟩
/-- y = [..] -/
theorem ds_setLc {i : Nat} {y : Str} {py : Pos} {elt tg iter : Expr} {ifs : List Expr} {scope : Scope} {own : List (Str × Nat)} {pos spos : Pos} {ti : TID} {js : List Nat} {g : TGD} {tt : TTD} {te : TD} (hc : X.calm = true) (hN : X.N.Nodup) (hy : X.N[i]? = some y) (hyl : X.env.scope.names.lookup y = some .local)
    (hsw : swapsWith (.ListComp elt [⟨tg, iter, ifs, 0⟩] scope pos) (some (.Name y py)) spos.line X.env = pure true) (hi : DI X tg iter ti) (ok : BlkOk X.N X.env.scope scope own)
    (hg : ∀ (s : Shared) (H : Hp) (C : Addr) (cl : List (Str × Addr)) (fp : List Addr), DG (X.blk s H scope (compEnvC scope cl C X.env) fp) tg js g)
    (ht : ∀ (s : Shared) (H : Hp) (C : Addr) (cl : List (Str × Addr)) (fp : List Addr), DTs (X.blk s H scope (compEnvC scope cl C X.env) fp) ifs tt)
    (he : ∀ (s : Shared) (H : Hp) (C : Addr) (cl : List (Str × Addr)) (fp : List Addr), DE (X.blk s H scope (compEnvC scope cl C X.env) fp) elt te)
    (hj : ∀ j ∈ js, j ∈ own.map (·.2)) (hs : ∀ x, foldedSetIterable iter X.env x = pure x := by intro _; rfl) : DS X (.Assign [.Name y py] (.ListComp elt [⟨tg, iter, ifs, 0⟩] scope pos) spos) (sSet i (dLc ti g tt te (own.map (·.2)))) := by
  refine ⟨ps_imp (ps_setLc (wi := lI X.K ti) (g := lG X.K js g) (tt := lT X.K tt) (te := lE X.K te) hc hN hy hyl hsw hi.pi ok (fun s H C cl fp => (hg s H C cl fp).pg) (fun s H C cl fp => (ht s H C cl fp).pt) (fun s H C cl fp => (he s H C cl fp).pe) hs) fun D σ H hq => ?_⟩
  obtain ⟨Fr, Hs, ρ, E, A, q, f1, f2, f3, f4⟩ := hq
  refine lc_read hj σ H _ ⟨Fr, Hs, ρ, _, A, q, fun s ρ1 Hs1 H1 w q1 hl s1 R => ?_⟩
  exact f1 _ _ Hs1 H1 q1.2 s1 (R.store hl (notIo_lt q1.1))
end

/-! ### from data to the library's readings -/
section
variable {X : Cx} {pins : List (Addr × Obj)} {σ : St} {H : Hp} {s : Shared}
mutual
theorem Rp.dp {K : Fg} {H : Hp} : ∀ {v : V} {d : Dat}, Rp K H v d → d.canLay0 = true → Dp K H v d
  | _, _, .non, _ => .non
  | _, _, .bl b, _ => .bl b
  | _, _, .int i, _ => .int i
  | _, _, .str x, _ => .str x
  | _, _, .lst h r, c => .lst h (Rps.dp r (by simpa [PyData.canLay0] using c))
  | _, _, .tup h r, c => .tup h (Rps.dp r (by simpa [PyData.canLay0] using c))
  | _, _, .dik h r, c => by simp [PyData.canLay0] at c
  | _, _, .dit h r, c => by simp [PyData.canLay0] at c
theorem Rps.dp {K : Fg} {H : Hp} : ∀ {v : List V} {d : List Dat}, Rps K H v d → PyData.canLayAll0 d = true → DpAll K H v d
  | _, _, .nil, _ => .nil
  | _, d :: ds, .cons a b, c => by
    have c' : d.canLay0 = true ∧ PyData.canLayAll0 ds = true := by simpa [PyData.canLayAll0] using c
    exact .cons (Rp.dp a c'.1) (Rps.dp b c'.2)
end
theorem Pk.reads {Hs : Hp} {v : V} {d : Dat} {u : Value} (I : Inv X pins σ H s) (sb : Sub Hs H) (p : Pk X.K Hs H v d) (c : d.canLay0 = true) (r : RelV v u) : ∃ as, Reads s.heap u d as :=
  Dp.reads I d v u ((p.rp sb).dp c) r
end
/-! ### what a comparison of data asks -/
def EqOk (x y : Dat) : Prop := x.canLay0 = true ∧ y.canLay0 = true ∧ min x.depth y.depth ≤ 60
def isStr : Dat → Bool
  | .str _ => true
  | _ => false
def EqOk1 (x y : Dat) : Prop := (isStr x = true ∧ isStr y = true) ∨ EqOk x y
theorem isStr_eq {x : Dat} (h : isStr x = true) : ∃ a, x = .str a := by
  cases x with
  | str a => exact ⟨a, rfl⟩
  | _ => cases h
theorem str_beq (a b : Str) : decide (V.str a = V.str b) = (a == b) := by
  by_cases h : a = b
  · subst h; simp
  · have h2 : V.str a ≠ V.str b := fun z => h (V.str.inj z)
    rw [decide_eq_false h2]
    exact (beq_eq_false_iff_ne.mpr h).symm
def fEq : F2 := fun x y k => EqOk1 x y ∧ k (.sh (.bool (PyData.eqv x y)))
def fNe : F2 := fun x y k => EqOk1 x y ∧ k (.sh (.bool (!PyData.eqv x y)))
section
variable {X : Cx}
theorem od_eq {n : Nat} (hr : Room n X.A) : OpD X (compareOp .Eq) fEq := by
  intro pins s σ H x y v u Q I rx ry ⟨Hs, dx, dy, k, sb, px, py, ⟨ok, hk⟩, f⟩
  rcases ok with ⟨h1, h2⟩ | ⟨c1, c2, c3⟩
  · obtain ⟨a, rfl⟩ := isStr_eq h1
    obtain ⟨b, rfl⟩ := isStr_eq h2
    refine op_eq pins s σ H x y v u Q I rx ry ?_
    rw [px.str, py.str]
    refine ⟨rfl, ?_⟩
    rw [str_beq]
    exact Rs.sc sb (.bl _) (f _ (by simpa [PyData.eqv] using hk))
  obtain ⟨as, r1⟩ := px.reads I sb c1 rx
  obtain ⟨bs, r2⟩ := py.reads I sb c2 ry
  have hu := hr.units
  exact SeqAt.compareEq_reads r1 r2 c1 c2 (by omega) ⟨.bl _, H, I, rfl, Rs.sc sb (.bl _) (f _ hk)⟩
theorem od_ne {n : Nat} (hr : Room n X.A) : OpD X (compareOp .NotEq) fNe := by
  intro pins s σ H x y v u Q I rx ry ⟨Hs, dx, dy, k, sb, px, py, ⟨ok, hk⟩, f⟩
  rcases ok with ⟨h1, h2⟩ | ⟨c1, c2, c3⟩
  · obtain ⟨a, rfl⟩ := isStr_eq h1
    obtain ⟨b, rfl⟩ := isStr_eq h2
    refine op_ne pins s σ H x y v u Q I rx ry ?_
    rw [px.str, py.str]
    refine ⟨rfl, ?_⟩
    rw [str_beq]
    exact Rs.sc sb (.bl _) (f _ (by simpa [PyData.eqv] using hk))
  obtain ⟨as, r1⟩ := px.reads I sb c1 rx
  obtain ⟨bs, r2⟩ := py.reads I sb c2 ry
  have hu := hr.units
  exact SeqAt.compareNe_reads r1 r2 c1 c2 (by omega) ⟨.bl _, H, I, rfl, Rs.sc sb (.bl _) (f _ hk)⟩
end
/-! in, not in -/
def inD (x : Dat) : Dat → Option Bool
  | .list ds => some (ds.any fun y => PyData.eqv y x)
  | .tuple ds => some (ds.any fun y => PyData.eqv y x)
  | .str b => match x with
    | .str a => some (!(Builtin.Str.occurrences b a 0 b.length 1).isEmpty)
    | _ => none
  | _ => none
def InOk (x y : Dat) : Prop := match y with
  | .list ds => x.canLay0 = true ∧ PyData.canLayAll0 ds = true ∧ min (PyData.depthAll ds) x.depth ≤ 60
  | .tuple ds => x.canLay0 = true ∧ PyData.canLayAll0 ds = true ∧ min (PyData.depthAll ds) x.depth ≤ 60
  | _ => True
def fIn : F2 := fun x y k => InOk x y ∧ ∃ b, inD x y = some b ∧ k (.sh (.bool b))
def fNotIn : F2 := fun x y k => InOk x y ∧ ∃ b, inD x y = some b ∧ k (.sh (.bool (!b)))
section
variable {X : Cx}
theorem od_in {n : Nat} (hr : Room n X.A) : OpD X (compareOp .In) fIn := by
  intro pins s σ H x y v u Q I rx ry ⟨Hs, dx, dy, k, sb, px, py, ⟨ok, b, hb, hk⟩, f⟩
  have hu := hr.units
  have fin : EP X pins σ Q (.bool b) s := ⟨.bl b, H, I, rfl, Rs.sc sb (.bl _) (f _ hk)⟩
  cases dy with
  | list ds =>
    obtain ⟨c1, c2, c3⟩ := ok
    obtain ⟨as, r1⟩ := px.reads I sb c1 rx
    obtain ⟨bs, r2⟩ := py.reads I sb (by simpa [PyData.canLay0] using c2) ry
    cases hb
    exact SeqAt.in_list_reads r2 r1 c2 c1 (by omega) fin
  | tuple ds =>
    obtain ⟨c1, c2, c3⟩ := ok
    obtain ⟨as, r1⟩ := px.reads I sb c1 rx
    obtain ⟨bs, r2⟩ := py.reads I sb (by simpa [PyData.canLay0] using c2) ry
    cases hb
    exact SeqAt.in_tuple_reads r2 r1 c2 c1 (by omega) fin
  | str z =>
    cases dx with
    | str a =>
      cases hb
      exact op_in_str pins s σ H x y v u Q I rx ry ⟨a, z, px.str, py.str, Rs.sc sb (.bl _) (f _ hk)⟩
    | _ => simp [inD] at hb
  | _ => simp [inD] at hb
theorem od_notIn {n : Nat} (hr : Room n X.A) : OpD X (compareOp .NotIn) fNotIn := by
  intro pins s σ H x y v u Q I rx ry ⟨Hs, dx, dy, k, sb, px, py, ⟨ok, b, hb, hk⟩, f⟩
  have hu := hr.units
  have fin : EP X pins σ Q (.bool (!b)) s := ⟨.bl (!b), H, I, rfl, Rs.sc sb (.bl _) (f _ hk)⟩
  cases dy with
  | list ds =>
    obtain ⟨c1, c2, c3⟩ := ok
    obtain ⟨as, r1⟩ := px.reads I sb c1 rx
    obtain ⟨bs, r2⟩ := py.reads I sb (by simpa [PyData.canLay0] using c2) ry
    cases hb
    exact SeqAt.notIn_list_reads r2 r1 c2 c1 (by omega) fin
  | tuple ds =>
    obtain ⟨c1, c2, c3⟩ := ok
    obtain ⟨as, r1⟩ := px.reads I sb c1 rx
    obtain ⟨bs, r2⟩ := py.reads I sb (by simpa [PyData.canLay0] using c2) ry
    cases hb
    exact SeqAt.notIn_tuple_reads r2 r1 c2 c1 (by omega) fin
  | str z =>
    cases dx with
    | str a =>
      cases hb
      exact op_notin_str pins s σ H x y v u Q I rx ry ⟨a, z, px.str, py.str, Rs.sc sb (.bl _) (f _ hk)⟩
    | _ => simp [inD] at hb
  | _ => simp [inD] at hb
end
/-! is, is not -/
def isD : Dat → Dat → Option Bool
  | .none, .none => some true
  | .bool a, .bool b => some (decide (a = b))
  | .bool _, .none => some false
  | .int _, .none => some false
  | .str _, .none => some false
  | .list _, .none => some false
  | .tuple _, .none => some false
  | .dict _, .none => some false
  | _, _ => none
def fIs : F2 := fun x y k => ∃ b, isD x y = some b ∧ k (.sh (.bool b))
def fIsN : F2 := fun x y k => ∃ b, isD x y = some b ∧ k (.sh (.bool (!b)))
theorem isD_none {K : Fg} {Hs H : Hp} {x y : V} {dx dy : Dat} {b : Bool} (sb : Sub Hs H) (px : Pk K Hs H x dx) (py : Pk K Hs H y dy) (h : isD dx dy = some b) :
    (∃ p q, x = .bl p ∧ y = .bl q ∧ b = decide (p = q)) ∨ (y = .non ∧ b = decide (x = .non)) := by
  cases dy with
  | none =>
    have ey := py.none
    subst ey
    refine .inr ⟨rfl, ?_⟩
    cases dx with
    | none => rw [px.none]; simp [isD] at h; simp [← h]
    | bool p => rw [px.bool]; simp [isD] at h; simp [h]
    | int p => rw [px.int]; simp [isD] at h; simp [h]
    | str p => rw [px.str]; simp [isD] at h; simp [h]
    | list p => obtain ⟨a, xs, rfl, _⟩ := px.list sb; simp [isD] at h; simp [h]
    | tuple p => obtain ⟨a, xs, rfl, _⟩ := px.tup sb; simp [isD] at h; simp [h]
    | dict p => obtain ⟨a, rfl, _⟩ := px.dict sb; simp [isD] at h; simp [h]
  | bool q =>
    cases dx with
    | bool p => exact .inl ⟨p, q, px.bool, py.bool, by simpa [isD] using h.symm⟩
    | _ => simp [isD] at h
  | _ => cases dx <;> simp [isD] at h
section
variable {X : Cx}
theorem od_is : OpD X (compareOp .Is) fIs := by
  intro pins s σ H x y v u Q I rx ry ⟨Hs, dx, dy, k, sb, px, py, ⟨b, hb, hk⟩, f⟩
  have fin := Rs.sc (v := .bl b) sb (.bl _) (f _ hk)
  rcases isD_none sb px py hb with ⟨p, q, rfl, rfl, rfl⟩ | ⟨rfl, rfl⟩
  · exact op_isBl pins s σ H _ _ v u Q I rx ry ⟨p, q, rfl, rfl, fin⟩
  · exact op_isN pins s σ H _ _ v u Q I rx ry ⟨rfl, fin⟩
theorem od_isN : OpD X (compareOp .IsNot) fIsN := by
  intro pins s σ H x y v u Q I rx ry ⟨Hs, dx, dy, k, sb, px, py, ⟨b, hb, hk⟩, f⟩
  have fin := Rs.sc (v := .bl (!b)) sb (.bl _) (f _ hk)
  rcases isD_none sb px py hb with ⟨p, q, rfl, rfl, rfl⟩ | ⟨rfl, rfl⟩
  · exact op_notBl pins s σ H _ _ v u Q I rx ry ⟨p, q, rfl, rfl, fin⟩
  · exact op_notN pins s σ H _ _ v u Q I rx ry ⟨rfl, fin⟩
end

/-! ### arithmetic -/
def MulOk (i j : Int) : Prop := (-(2 ^ 64) < i ∧ i < 2 ^ 64) ∨ (-(2 ^ 64) < j ∧ j < 2 ^ 64) ∨ CMulW i j
theorem MulOk.ok {i j : Int} (h : MulOk i j) : IntMulOk i j := by
  rcases h with h | h | h
  · exact CMul.ok (.inl h)
  · exact CMul.ok (.inr h)
  · exact h.ok
def rpD (n : Int) (ds : List Dat) : List Dat := (List.replicate n.toNat ds).flatten
def fAdd : F2
  | .int i, .int j, k => k (.sh (.int (i + j)))
  | .str x, .str y, k => x.length + y.length ≤ sizeLine ∧ k (.sh (.str (x ++ y)))
  | .list xs, .list ys, k => xs.length + ys.length ≤ sizeLine ∧ k (.ol (xs ++ ys))
  | .bool i, .bool j, k => k (.sh (.int (b2i i + b2i j)))
  | .int i, .bool j, k => k (.sh (.int (i + b2i j)))
  | _, _, _ => False
def fSub : F2
  | .int i, .int j, k => k (.sh (.int (i - j)))
  | .bool i, .bool j, k => k (.sh (.int (b2i i - b2i j)))
  | _, _, _ => False
def fMul : F2
  | .int i, .int j, k => MulOk i j ∧ k (.sh (.int (i * j)))
  | .list xs, .int n, k => -(2 ^ 63) ≤ n ∧ n < 2 ^ 63 ∧ xs.length * n.toNat ≤ sizeLine ∧ k (.ol (rpD n xs))
  | _, _, _ => False
def fDiv : F2
  | .int i, .int j, k => (0 < j ∧ j.natAbs.log2 < 9000) ∧ k (.sh (.int (i / j)))
  | _, _, _ => False
def fMod : F2
  | .int i, .int j, k => 0 < j ∧ k (.sh (.int (i % j)))
  | _, _, _ => False
def fPow : F2
  | .int i, .int j, k => 0 ≤ j ∧ (Builtin.Int.intBits i : Int) * j ≤ 2 ^ 27 ∧ k (.sh (.int (i ^ j.toNat)))
  | _, _, _ => False
def fShr : F2
  | .int i, .int j, k => 0 ≤ j ∧ k (.sh (.int (i / 2 ^ j.toNat)))
  | _, _, _ => False
def fShl : F2
  | .int i, .int j, k => CShl i j ∧ k (.sh (.int (i * 2 ^ j.toNat)))
  | _, _, _ => False
def fAnd : F2
  | .int i, .int j, k => k (.sh (.int (Builtin.bitAnd i j)))
  | _, _, _ => False
def fXor : F2
  | .int i, .int j, k => k (.sh (.int (Builtin.bitXor i j)))
  | _, _, _ => False
def fNeg : F1
  | .int i, k => k (.sh (.int (-i)))
  | _, _ => False
theorem rps_rep {K : Fg} {H : Hp} {vs : List V} {ds : List Dat} (r : Rps K H vs ds) : ∀ n : Nat, Rps K H (List.replicate n vs).flatten (List.replicate n ds).flatten
  | 0 => .nil
  | n + 1 => by
    rw [List.replicate_succ, List.replicate_succ, List.flatten_cons, List.flatten_cons]
    exact r.append (rps_rep r n)
section
variable {X : Cx}
section
variable {prog : Program} {w : World} {A : Around} {E : Value → Shared → Prop} {s : Shared}
theorem add_any {l b : Addr} {vs ws : List Value} {Q : Value → Shared → Prop} (hl : s.heap.IsList l vs.toArray) (hb : s.heap.IsList b ws.toArray)
    (h : Q (.ref s.heap.objs.size) { s with heap := s.heap.push { cls := .type "list", data := .seq (vs ++ ws).toArray } }) (hz : vs.length + ws.length ≤ sizeLine) : wpAny (model prog w) A (binaryOp .Add (.ref l) (.ref b)) Q E s := by
  obtain ⟨⟨c1, d1, z1, t1⟩, o1, k1, n1, e1⟩ := id hl
  obtain ⟨⟨c2, d2, z2, t2⟩, o2, k2, n2, e2⟩ := id hb
  simp only at k1 e1 k2 e2
  subst k1 e1 k2 e2
  refine concat_meets ⟨_, o1, rfl⟩ ⟨_, o2, rfl⟩ noFill_list_add seq_list_add PySem.F.slot_list_add PySem.F.entry_list_add (PySem.F.args_list_add_2 _ _)
    (list_addW l b vs.toArray ws.toArray n1 n2 d1 d2 t1 t2 (by simpa using hz)) ⟨o1, o2, ?_⟩
  have e : vs.toArray ++ ws.toArray = (vs ++ ws).toArray := by simp
  rw [e]
  exact h
theorem rep_any {l : Addr} {vs : List Value} {x : Int} {u : Tok} {Q : Value → Shared → Prop} (hl : s.heap.IsList l vs.toArray) (h1 : -(2 ^ 63 : Int) ≤ x) (h2 : x < 2 ^ 63) (hz : vs.length * x.toNat ≤ 2 ^ 24)
    (h : Q (.ref s.heap.objs.size) { s with heap := s.heap.push { cls := .type "list", data := .seq (List.replicate x.toNat vs).flatten.toArray } }) : wpAny (model prog w) A (binaryOp .Mult (.ref l) (.int x u)) Q E s := by
  obtain ⟨⟨c1, d1, z1, t1⟩, o1, k1, n1, e1⟩ := id hl
  simp only at k1 e1
  subst k1 e1
  have hz' : vs.toArray.size * x.toNat ≤ 2 ^ 24 := by simpa using hz
  refine wpAny_binaryOp_repeat_ref (T := "list") (U := "int") (by decide) ⟨_, o1, rfl⟩ (fun s' => typeIs_int s' x u) noFill_list_mul F.fills_int_mul F.slot_int_rmul repeat_list F.slot_int_index.lookup
    (call_meets F.slot_int_rmul (typeIs_int s x u) F.entry_int_rmul (F.args_int_rmul_2 _ _) (lm_int_rmul_list_any x u l vs.toArray n1 d1 t1)
      ⟨o1, rfl, ⟨_, o1, rfl⟩, call_meets F.slot_list_mul ⟨_, o1, rfl⟩ F.entry_list_mul (F.args_list_mul_2 _ _) (lm_list_mul_any l vs.toArray n1 d1 t1 x u (by simp [Builtin.List.listFitsIndex]; omega) (by omega) (by simp [Builtin.List.listTooLong, sizeLine]; omega)) ⟨o1, ?_⟩⟩)
  rw [listMul_foldl_if]
  exact h
end
theorem od_add : OpD X (binaryOp .Add) fAdd := by
  intro pins s σ H x y v u Q I rx ry ⟨Hs, dx, dy, k, sb, px, py, hf, f⟩
  unfold fAdd at hf
  split at hf
  · rename_i i j
    exact op_add pins s σ H x y v u Q I rx ry ⟨i, j, px.int, py.int, Rs.sc sb (.int _) (f _ hf)⟩
  · rename_i i j
    exact op_add_str pins s σ H x y v u Q I rx ry ⟨i, j, px.str, py.str, hf.1, Rs.sc sb (.str _) (f _ hf.2)⟩
  · rename_i xs ys
    obtain ⟨a, xv, rfl, h1, r1⟩ := px.list sb
    obtain ⟨b, yv, rfl, h2, r2⟩ := py.list sb
    cases rx
    cases ry
    obtain ⟨its, rv, p1, z1⟩ := I.list h1
    obtain ⟨its2, rv2, p2, z2⟩ := I.list h2
    have l1 := rv.length
    have l2 := rv2.length
    have l3 := r1.length
    have l4 := r2.length
    refine add_any p1.isList p2.isList ⟨.ref _, _, I.lnew (t' := s.toks) (rv.append rv2) (by rw [List.length_append]; omega), rfl, ?_⟩ (by omega)
    exact Rs.lst sb (r1.append r2) I.fresh (f _ hf.2)
  · rename_i i j
    rw [px.bool] at rx
    rw [py.bool] at ry
    cases rx
    cases ry
    exact add_bool ⟨.int _, H, I.tok _, ⟨_, rfl⟩, Rs.sc sb (.int _) (f _ hf)⟩
  · rename_i i j
    exact op_add_ib pins s σ H x y v u Q I rx ry ⟨i, j, px.int, py.bool, Rs.sc sb (.int _) (f _ hf)⟩
  · exact hf.elim
theorem od_sub : OpD X (binaryOp .Sub) fSub := by
  intro pins s σ H x y v u Q I rx ry ⟨Hs, dx, dy, k, sb, px, py, hf, f⟩
  unfold fSub at hf
  split at hf
  · rename_i i j
    exact op_sub pins s σ H x y v u Q I rx ry ⟨i, j, px.int, py.int, Rs.sc sb (.int _) (f _ hf)⟩
  · rename_i i j
    rw [px.bool] at rx
    rw [py.bool] at ry
    cases rx
    cases ry
    exact sub_bool ⟨.int _, H, I.tok _, ⟨_, rfl⟩, Rs.sc sb (.int _) (f _ hf)⟩
  · exact hf.elim
theorem od_mul : OpD X (binaryOp .Mult) fMul := by
  intro pins s σ H x y v u Q I rx ry ⟨Hs, dx, dy, k, sb, px, py, hf, f⟩
  unfold fMul at hf
  split at hf
  · rename_i i j
    rw [px.int] at rx
    rw [py.int] at ry
    obtain ⟨t, rfl⟩ := rx
    obtain ⟨t', rfl⟩ := ry
    exact mul_int ⟨.int _, H, I.tok _, ⟨_, rfl⟩, Rs.sc sb (.int _) (f _ hf.2)⟩ hf.1.ok
  · rename_i xs n
    obtain ⟨h1, h2, hz, hf⟩ := hf
    obtain ⟨a, xv, rfl, h3, r1⟩ := px.list sb
    cases rx
    rw [py.int] at ry
    obtain ⟨t', rfl⟩ := ry
    obtain ⟨its, rv, p1, z1⟩ := I.list h3
    have l1 := rv.length
    have l3 := r1.length
    have e1 : its.length * n.toNat ≤ 2 ^ 24 := by rw [← l1, l3]; exact hz
    refine rep_any p1.isList h1 h2 e1 ⟨.ref _, _, I.lnew (t' := s.toks) (rv.rep n.toNat) (by rw [lm_len_rep_flat, Nat.mul_comm, l3]; exact hz), rfl, ?_⟩
    exact Rs.lst sb (rps_rep r1 n.toNat) I.fresh (f _ hf)
  · exact hf.elim
theorem od_int2 {op : Operator} {fi : Int → Int → (Sl → Prop) → Prop} {g : Int → Int → Int} {C : Int → Int → Prop} (h : OpR X (binaryOp op) (rI C fun i j => .int (g i j))) (hf : ∀ i j k, fi i j k → C i j ∧ k (.sh (.int (g i j)))) {f2 : F2}
    (h2 : ∀ x y k, f2 x y k → ∃ i j, x = .int i ∧ y = .int j ∧ fi i j k) : OpD X (binaryOp op) f2 := by
  intro pins s σ H x y v u Q I rx ry ⟨Hs, dx, dy, k, sb, px, py, hq, f⟩
  obtain ⟨i, j, e1, e2, hq2⟩ := h2 _ _ _ hq
  subst e1 e2
  obtain ⟨c, hk⟩ := hf _ _ _ hq2
  exact h pins s σ H x y v u Q I rx ry ⟨i, j, px.int, py.int, c, Rs.sc sb (.int _) (f _ hk)⟩
theorem od_div : OpD X (binaryOp .FloorDiv) fDiv := od_int2 op_fdivW (fi := fun i j k => (0 < j ∧ j.natAbs.log2 < 9000) ∧ k (.sh (.int (i / j)))) (fun _ _ _ h => h) (by intro x y k h; unfold fDiv at h; split at h; exact ⟨_, _, rfl, rfl, h⟩; exact h.elim)
theorem od_mod : OpD X (binaryOp .Mod) fMod := od_int2 op_mod (fi := fun i j k => 0 < j ∧ k (.sh (.int (i % j)))) (fun _ _ _ h => h) (by intro x y k h; unfold fMod at h; split at h; exact ⟨_, _, rfl, rfl, h⟩; exact h.elim)
theorem op_powD : OpR X (binaryOp .Pow) (rI (fun i j => 0 ≤ j ∧ (Builtin.Int.intBits i : Int) * j ≤ 2 ^ 27) fun i j => .int (i ^ j.toNat)) := opI fun _ _ _ _ _ _ _ hc q => pow_int hc.1 hc.2 q
theorem od_pow : OpD X (binaryOp .Pow) fPow := od_int2 op_powD (fi := fun i j k => (0 ≤ j ∧ (Builtin.Int.intBits i : Int) * j ≤ 2 ^ 27) ∧ k (.sh (.int (i ^ j.toNat)))) (fun _ _ _ h => h) (by intro x y k h; unfold fPow at h; split at h; exact ⟨_, _, rfl, rfl, ⟨h.1, h.2.1⟩, h.2.2⟩; exact h.elim)
theorem od_shr : OpD X (binaryOp .RShift) fShr := od_int2 op_shr (fi := fun i j k => 0 ≤ j ∧ k (.sh (.int (i / 2 ^ j.toNat)))) (fun _ _ _ h => h) (by intro x y k h; unfold fShr at h; split at h; exact ⟨_, _, rfl, rfl, h⟩; exact h.elim)
theorem od_shl : OpD X (binaryOp .LShift) fShl := od_int2 op_shlW (fi := fun i j k => CShl i j ∧ k (.sh (.int (i * 2 ^ j.toNat)))) (fun _ _ _ h => h) (by intro x y k h; unfold fShl at h; split at h; exact ⟨_, _, rfl, rfl, h⟩; exact h.elim)
theorem op_andC : OpR X (binaryOp .BitAnd) (rI (fun _ _ => True) fun i j => .int (Builtin.bitAnd i j)) := opI fun _ _ _ _ _ _ _ _ q => and_int q
theorem op_xorC : OpR X (binaryOp .BitXor) (rI (fun _ _ => True) fun i j => .int (Builtin.bitXor i j)) := opI fun _ _ _ _ _ _ _ _ q => xor_int q
theorem od_and : OpD X (binaryOp .BitAnd) fAnd := od_int2 op_andC (fi := fun i j k => k (.sh (.int (Builtin.bitAnd i j)))) (fun _ _ _ h => ⟨trivial, h⟩) (by intro x y k h; unfold fAnd at h; split at h; exact ⟨_, _, rfl, rfl, h⟩; exact h.elim)
theorem od_xor : OpD X (binaryOp .BitXor) fXor := od_int2 op_xorC (fi := fun i j k => k (.sh (.int (Builtin.bitXor i j)))) (fun _ _ _ h => ⟨trivial, h⟩) (by intro x y k h; unfold fXor at h; split at h; exact ⟨_, _, rfl, rfl, h⟩; exact h.elim)
theorem ud_neg : UnD X (unaryOp .USub) fNeg := by
  intro pins s σ H x v Q I rx ⟨Hs, dx, k, sb, px, hf, f⟩
  unfold fNeg at hf
  split at hf
  · rename_i i
    exact un_neg pins s σ H x v Q I rx ⟨i, px.int, Rs.sc sb (.int _) (f _ hf)⟩
  · exact hf.elim
end
/-! ### order -/
mutual
def cmpD : Dat → Dat → Option Ordering
  | .int i, .int j => some (compare i j)
  | .bool i, .bool j => some (compare (b2i i) (b2i j))
  | .str x, .str y => some (if x.cps.toList < y.cps.toList then .lt else if y.cps.toList < x.cps.toList then .gt else .eq)
  | .tuple xs, .tuple ys => cmpDs xs ys
  | _, _ => none
def cmpDs : List Dat → List Dat → Option Ordering
  | [], [] => some .eq
  | [], _ :: _ => some .lt
  | _ :: _, [] => some .gt
  | x :: xs, y :: ys => if PyData.eqv x y = true then cmpDs xs ys else match cmpD x y, cmpDs xs ys with
    | some o, some _ => some o
    | _, _ => none
end
def fOrd (p : Ordering → Bool) : F2 := fun x y k => EqOk x y ∧ ∃ o, cmpD x y = some o ∧ k (.sh (.bool (p o)))
def pLt : Ordering → Bool | .lt => true | _ => false
def pGt : Ordering → Bool | .gt => true | _ => false
def pLe : Ordering → Bool | .gt => false | _ => true
def pGe : Ordering → Bool | .lt => false | _ => true
def ordOp : CmpOp → Ordering → Bool
  | .Lt => pLt
  | .Gt => pGt
  | .LtE => pLe
  | .GtE => pGe
  | _ => fun _ => false
def ordN : CmpOp → Nat → Nat → Bool
  | .Lt, a, b => decide (a < b)
  | .Gt, a, b => decide (a > b)
  | .LtE, a, b => decide (a ≤ b)
  | .GtE, a, b => decide (a ≥ b)
  | _, _, _ => false
def rOf (op : CmpOp) : Option Ordering → Bool
  | some o => ordOp op o
  | none => false
theorem lexAt_shift (e r : Nat → Bool) (z : Bool) : ∀ k i, Ob.lexAt (fun j => e (j + 1)) (fun j => r (j + 1)) z i k = Ob.lexAt e r z (i + 1) k
  | 0, _ => rfl
  | k + 1, i => by rw [Ob.lexAt_succ, Ob.lexAt_succ, lexAt_shift e r z k (i + 1)]
theorem ordN_eq {op : CmpOp} (hop : op = .Lt ∨ op = .Gt ∨ op = .LtE ∨ op = .GtE) (a b : Nat) : ordN op a b = ordOp op (compare a b) := by
  rcases hop with h | h | h | h <;> subst h <;> simp only [ordN, ordOp] <;> rcases Nat.lt_trichotomy a b with h | h | h <;>
    simp [pLt, pGt, pLe, pGe, Nat.compare_eq_lt.mpr, Nat.compare_eq_gt.mpr, h] <;> omega
theorem lex_cmp {op : CmpOp} (hop : op = .Lt ∨ op = .Gt ∨ op = .LtE ∨ op = .GtE) : ∀ (xs ys : List Dat) (o : Ordering), cmpDs xs ys = some o →
    Ob.lexAt (fun j => PyData.eqv (xs.getD j .none) (ys.getD j .none)) (fun j => rOf op (cmpD (xs.getD j .none) (ys.getD j .none))) (ordN op xs.length ys.length) 0 (min xs.length ys.length) = ordOp op o
  | [], [], o, h => by
    have e : o = .eq := by simpa [cmpDs] using h.symm
    subst e
    show ordN op 0 0 = _
    rw [ordN_eq hop]
    rfl
  | [], y :: ys, o, h => by
    have e : o = .lt := by simpa [cmpDs] using h.symm
    subst e
    show ordN op 0 (ys.length + 1) = _
    rw [ordN_eq hop]
    congr 1
  | x :: xs, [], o, h => by
    have e : o = .gt := by simpa [cmpDs] using h.symm
    subst e
    show ordN op (xs.length + 1) 0 = _
    rw [ordN_eq hop]
    congr 1
  | x :: xs, y :: ys, o, h => by
    have em : min (x :: xs).length (y :: ys).length = min xs.length ys.length + 1 := by simp [Nat.succ_min_succ]
    rw [em, Ob.lexAt_succ]
    have hz : ordN op (x :: xs).length (y :: ys).length = ordN op xs.length ys.length := by
      rw [ordN_eq hop, ordN_eq hop]
      congr 1
      simp only [List.length_cons]
      rcases Nat.lt_trichotomy xs.length ys.length with h | h | h
      · rw [Nat.compare_eq_lt.mpr h, Nat.compare_eq_lt.mpr (by omega)]
      · rw [h]; simp
      · rw [Nat.compare_eq_gt.mpr h, Nat.compare_eq_gt.mpr (by omega)]
    unfold cmpDs at h
    show (if PyData.eqv x y = true then _ else _) = _
    by_cases hq : PyData.eqv x y = true
    · rw [if_pos hq] at h ⊢
      rw [hz]
      have := lex_cmp hop xs ys o h
      rw [← this]
      exact (lexAt_shift (fun j => PyData.eqv ((x :: xs).getD j .none) ((y :: ys).getD j .none)) (fun j => rOf op (cmpD ((x :: xs).getD j .none) ((y :: ys).getD j .none))) (ordN op xs.length ys.length) (min xs.length ys.length) 0).symm
    · rw [if_neg hq] at h ⊢
      show rOf op (cmpD x y) = _
      cases e1 : cmpD x y with
      | none => rw [e1] at h; cases h
      | some o1 =>
        cases e2 : cmpDs xs ys with
        | none => rw [e1, e2] at h; cases h
        | some o2 => rw [e1, e2] at h; cases h; rfl
theorem cmpDs_at : ∀ {xs ys : List Dat} {o : Ordering}, cmpDs xs ys = some o → ∀ (j : Nat), j < xs.length → j < ys.length → PyData.eqv (xs.getD j .none) (ys.getD j .none) = false → ∃ p, cmpD (xs.getD j .none) (ys.getD j .none) = some p
  | [], _, _, _, j, h1, _, _ => by simp at h1
  | _ :: _, [], _, _, j, _, h2, _ => by simp at h2
  | x :: xs, y :: ys, o, h, j, h1, h2, he => by
    unfold cmpDs at h
    have rest : ∃ p, cmpDs xs ys = some p := by
      split at h
      · exact ⟨_, h⟩
      · cases e1 : cmpD x y with
        | none => rw [e1] at h; cases h
        | some o1 =>
          cases e2 : cmpDs xs ys with
          | none => rw [e1, e2] at h; cases h
          | some o2 => exact ⟨_, rfl⟩
    cases j with
    | zero =>
      have he' : PyData.eqv x y = false := he
      rw [if_neg (by rw [he']; exact Bool.false_ne_true)] at h
      cases e1 : cmpD x y with
      | none => rw [e1] at h; cases h
      | some o1 => exact ⟨o1, e1⟩
    | succ j =>
      obtain ⟨p, hp⟩ := rest
      exact cmpDs_at hp j (by simpa using h1) (by simpa using h2) he

/-! ### order, by the library -/
theorem readsAll_at {h : Heap} : ∀ {vs : List Value} {ds : List Dat} {as : List Addr}, ReadsAll h vs ds as → ∀ (j : Nat) (hj : j < vs.length), j < ds.length ∧ ∃ bs, Reads h vs[j] (ds.getD j .none) bs
  | _, _, _, .nil, j, hj => by simp at hj
  | v :: vs, d :: ds, _, .cons r rs, 0, _ => ⟨by simp, _, r⟩
  | v :: vs, d :: ds, _, .cons r rs, j + 1, hj => by
    obtain ⟨h1, bs, h2⟩ := readsAll_at rs j (by simpa using hj)
    exact ⟨by simpa using h1, bs, by simpa using h2⟩
theorem readsAll_len {h : Heap} : ∀ {vs : List Value} {ds : List Dat} {as : List Addr}, ReadsAll h vs ds as → vs.length = ds.length
  | _, _, _, .nil => rfl
  | _, _, _, .cons _ rs => congrArg (· + 1) (readsAll_len rs)
theorem canLay_at : ∀ {ds : List Dat} (j : Nat), PyData.canLayAll0 ds = true → (ds.getD j .none).canLay0 = true
  | [], _, _ => by simp [PyData.canLay0]
  | d :: ds, 0, h => by
    have h' : d.canLay0 = true ∧ PyData.canLayAll0 ds = true := by simpa [PyData.canLayAll0] using h
    exact h'.1
  | d :: ds, j + 1, h => by
    have h' : d.canLay0 = true ∧ PyData.canLayAll0 ds = true := by simpa [PyData.canLayAll0] using h
    exact canLay_at j h'.2
theorem depth_at : ∀ {ds : List Dat} (j : Nat), (ds.getD j .none).depth ≤ PyData.depthAll ds
  | [], _ => by simp [PyData.depth]
  | d :: ds, 0 => by simp only [PyData.depthAll]; exact Nat.le_max_left _ _
  | d :: ds, j + 1 => by simp only [PyData.depthAll]; exact Nat.le_trans (depth_at j) (Nat.le_max_right _ _)
theorem str_rc {op : CmpOp} (hop : op = .Lt ∨ op = .Gt ∨ op = .LtE ∨ op = .GtE) {A : Around} {s : Shared} {x y : Str} {t u : Tok} {o : Ordering} (h : cmpD (.str x) (.str y) = some o) : Ob.RcOp op A s (.str x t) (.str y u) (ordOp op o) := by
  intro prog w E Q hq
  have asym : ∀ a b : List Nat, a < b → ¬ b < a := fun a b h1 h2 => List.lt_irrefl a (List.lt_trans h1 h2)
  simp only [cmpD, Option.some.injEq] at h
  have key : (o = .lt ↔ x.cps.toList < y.cps.toList) ∧ (o = .gt ↔ y.cps.toList < x.cps.toList) := by
    by_cases h1 : x.cps.toList < y.cps.toList
    · rw [if_pos h1] at h
      subst h
      exact ⟨by simp [h1], by simp [asym _ _ h1]⟩
    · rw [if_neg h1] at h
      by_cases h2 : y.cps.toList < x.cps.toList
      · rw [if_pos h2] at h
        subst h
        exact ⟨by simp [h1], by simp [h2]⟩
      · rw [if_neg h2] at h
        subst h
        exact ⟨by simp [h1], by simp [h2]⟩
  rcases hop with e | e | e | e <;> subst e
  · refine PyProof.Rows.lt_str ?_
    have e : decide (x.cps.toList < y.cps.toList) = ordOp .Lt o := by
      cases o <;> simp [ordOp, pLt, ← key.1]
    rw [e]; exact hq
  · refine PySem.P.gt_str ?_
    have e : decide (y.cps.toList < x.cps.toList) = ordOp .Gt o := by
      cases o <;> simp [ordOp, pGt, ← key.2]
    rw [e]; exact hq
  · refine PySem.P.le_str ?_
    have e : (!decide (y.cps.toList < x.cps.toList)) = ordOp .LtE o := by
      cases o <;> simp [ordOp, pLe, ← key.2]
    rw [e]; exact hq
  · refine PySem.P.ge_str ?_
    have e : (!decide (x.cps.toList < y.cps.toList)) = ordOp .GtE o := by
      cases o <;> simp [ordOp, pGe, ← key.1]
    rw [e]; exact hq
theorem int_rc {op : CmpOp} (hop : op = .Lt ∨ op = .Gt ∨ op = .LtE ∨ op = .GtE) {A : Around} {s : Shared} {x y : Int} {t u : Tok} : Ob.RcOp op A s (.int x t) (.int y u) (ordOp op (compare x y)) := by
  have c : compare x y = if x < y then .lt else if x = y then .eq else .gt := rfl
  rcases hop with e | e | e | e <;> subst e
  · have e : decide (x < y) = ordOp .Lt (compare x y) := by
      rw [c]; by_cases h1 : x < y <;> by_cases h2 : x = y <;> simp [h1, h2, ordOp, pLt]
    rw [← e]; exact .lt_int _ _ _ _
  · have e : decide (y < x) = ordOp .Gt (compare x y) := by
      rw [c]; by_cases h1 : x < y <;> by_cases h2 : x = y <;> simp [h1, h2, ordOp, pGt] <;> omega
    rw [← e]; exact .gt_int _ _ _ _
  · have e : decide (x ≤ y) = ordOp .LtE (compare x y) := by
      rw [c]; by_cases h1 : x < y <;> by_cases h2 : x = y <;> simp [h1, h2, ordOp, pLe] <;> omega
    rw [← e]; exact .le_int _ _ _ _
  · have e : decide (y ≤ x) = ordOp .GtE (compare x y) := by
      rw [c]; by_cases h1 : x < y <;> by_cases h2 : x = y <;> simp [h1, h2, ordOp, pGe] <;> omega
    rw [← e]; exact .ge_int _ _ _ _
theorem bool_rc {op : CmpOp} (hop : op = .Lt ∨ op = .Gt ∨ op = .LtE ∨ op = .GtE) {A : Around} {s : Shared} {x y : Bool} : Ob.RcOp op A s (.bool x) (.bool y) (ordOp op (compare (b2i x) (b2i y))) := by
  intro prog w E Q hq
  rcases hop with e | e | e | e <;> subst e
  · exact PyProof.Rows.lt_bool (by cases x <;> cases y <;> exact hq)
  · exact PyProof.Rows.gt_bool (by cases x <;> cases y <;> exact hq)
  · exact PyProof.Rows.le_bool (by cases x <;> cases y <;> exact hq)
  · exact PyProof.Rows.ge_bool (by cases x <;> cases y <;> exact hq)
theorem tuples_rc {op : CmpOp} (hop : op = .Lt ∨ op = .Gt ∨ op = .LtE ∨ op = .GtE) {A : Around} {s : Shared} {l b : Addr} {i1 i2 : Array Value} {e r : Nat → Bool} (hl : s.heap.IsTuple l i1) (hb : s.heap.IsTuple b i2) (hu : A.units < cLine)
    (he : ∀ j (h1 : j < i1.size) (h2 : j < i2.size), SeqAt.EqAt A.in1 s i1[j] i2[j] (e j)) (hr : ∀ j (h1 : j < i1.size) (h2 : j < i2.size), e j = false → Ob.RcOp op A.in1 s i1[j] i2[j] (r j)) :
    Ob.RcOp op A s (.ref l) (.ref b) (Ob.lexAt e r (ordN op i1.size i2.size) 0 (min i1.size i2.size)) := by
  rcases hop with h | h | h | h <;> subst h
  · exact Ob.RcOp.tuples_lt hl hb hu he hr
  · exact Ob.RcOp.tuples_gt hl hb hu he hr
  · exact Ob.RcOp.tuples_le hl hb hu he hr
  · exact Ob.RcOp.tuples_ge hl hb hu he hr
theorem data_rc {op : CmpOp} (hop : op = .Lt ∨ op = .Gt ∨ op = .LtE ∨ op = .GtE) : ∀ (n : Nat) (x y : Dat) (A : Around) (s : Shared) (a b : Value) (as bs : List Addr) (o : Ordering), min x.depth y.depth ≤ n → Reads s.heap a x as → Reads s.heap b y bs → x.canLay0 = true → y.canLay0 = true → A.units + min x.depth y.depth + 1 < cLine →
    cmpD x y = some o → Ob.RcOp op A s a b (ordOp op o) := by
  intro n
  induction n with
  | zero =>
    intro x y A s a b as bs o hd ra rb ca cb hu h
    cases x with
    | int i =>
      cases y with
      | int j => cases ra; cases rb; simp only [cmpD, Option.some.injEq] at h; subst h; exact int_rc hop
      | _ => simp [cmpD] at h
    | bool i =>
      cases y with
      | bool j => cases ra; cases rb; simp only [cmpD, Option.some.injEq] at h; subst h; exact bool_rc hop
      | _ => simp [cmpD] at h
    | str i =>
      cases y with
      | str j => cases ra; cases rb; exact str_rc hop h
      | _ => simp [cmpD] at h
    | tuple xs =>
      cases y with
      | tuple ys => simp [PyData.depth] at hd
      | _ => simp [cmpD] at h
    | _ => simp [cmpD] at h
  | succ n ih =>
    intro x y A s a b as bs o hd ra rb ca cb hu h
    cases x with
    | int i =>
      cases y with
      | int j => cases ra; cases rb; simp only [cmpD, Option.some.injEq] at h; subst h; exact int_rc hop
      | _ => simp [cmpD] at h
    | bool i =>
      cases y with
      | bool j => cases ra; cases rb; simp only [cmpD, Option.some.injEq] at h; subst h; exact bool_rc hop
      | _ => simp [cmpD] at h
    | str i =>
      cases y with
      | str j => cases ra; cases rb; exact str_rc hop h
      | _ => simp [cmpD] at h
    | tuple xs =>
      cases y with
      | tuple ys =>
        have cx : PyData.canLayAll0 xs = true := by simpa [PyData.canLay0] using ca
        have cy : PyData.canLayAll0 ys = true := by simpa [PyData.canLay0] using cb
        have dx : min (PyData.depthAll xs) (PyData.depthAll ys) ≤ n := by simp only [PyData.depth] at hd; omega
        have ux : A.units + (min (PyData.depthAll xs) (PyData.depthAll ys) + 1) + 1 < cLine := by simp only [PyData.depth] at hu; omega
        have hc : cmpDs xs ys = some o := by simpa [cmpD] using h
        cases ra with
        | tuple h1 h2 h3 h4 =>
          cases rb with
          | tuple g1 g2 g3 g4 =>
            have l1 := readsAll_len h4
            have l2 := readsAll_len g4
            have key := tuples_rc hop (A := A) (e := fun j => PyData.eqv (xs.getD j .none) (ys.getD j .none)) (r := fun j => rOf op (cmpD (xs.getD j .none) (ys.getD j .none))) ⟨_, h1, h2, _, h3⟩ ⟨_, g1, g2, _, g3⟩ (by omega)
              (fun j k1 k2 => ?_) (fun j k1 k2 k3 => ?_)
            · have q := lex_cmp hop xs ys o hc
              rw [← l1, ← l2, Array.length_toList, Array.length_toList] at q
              rw [q] at key
              exact key
            · obtain ⟨_, bs1, r1⟩ := readsAll_at h4 j (by rw [Array.length_toList]; exact k1)
              obtain ⟨_, bs2, r2⟩ := readsAll_at g4 j (by rw [Array.length_toList]; exact k2)
              rw [Array.getElem_toList] at r1 r2
              have d1 := depth_at (ds := xs) j
              have d2 := depth_at (ds := ys) j
              exact SeqAt.eqAt_reads _ _ A.in1 s _ _ _ _ r1 r2 (canLay_at j cx) (canLay_at j cy) (by show A.units + 1 + _ < cLine; omega)
            · obtain ⟨m1, bs1, r1⟩ := readsAll_at h4 j (by rw [Array.length_toList]; exact k1)
              obtain ⟨m2, bs2, r2⟩ := readsAll_at g4 j (by rw [Array.length_toList]; exact k2)
              rw [Array.getElem_toList] at r1 r2
              obtain ⟨p, hp⟩ := cmpDs_at hc j m1 m2 k3
              have d1 := depth_at (ds := xs) j
              have d2 := depth_at (ds := ys) j
              rw [hp]
              exact ih _ _ A.in1 s _ _ _ _ p (by omega) r1 r2 (canLay_at j cx) (canLay_at j cy) (by show A.units + 1 + _ + 1 < cLine; omega) hp
      | _ => simp [cmpD] at h
    | _ => simp [cmpD] at h
section
variable {X : Cx}
theorem od_ord {op : CmpOp} (hop : op = .Lt ∨ op = .Gt ∨ op = .LtE ∨ op = .GtE) {n : Nat} (hr : Room n X.A) (hco : ∀ v u, compareOp op v u = richCompare op v u) : OpD X (compareOp op) (fOrd (ordOp op)) := by
  intro pins s σ H x y v u Q I rx ry ⟨Hs, dx, dy, k, sb, px, py, ⟨⟨c1, c2, c3⟩, o, ho, hk⟩, f⟩
  obtain ⟨as, r1⟩ := px.reads I sb c1 rx
  obtain ⟨bs, r2⟩ := py.reads I sb c2 ry
  have hu := hr.units
  rw [hco]
  exact data_rc hop _ dx dy X.A s v u as bs o (Nat.le_refl _) r1 r2 c1 c2 (by omega) ho X.prog X.w X.xe _ ⟨.bl _, H, I, rfl, Rs.sc sb (.bl _) (f _ hk)⟩
theorem od_lt {n : Nat} (hr : Room n X.A) : OpD X (compareOp .Lt) (fOrd pLt) := od_ord (.inl rfl) hr fun _ _ => rfl
theorem od_gt {n : Nat} (hr : Room n X.A) : OpD X (compareOp .Gt) (fOrd pGt) := od_ord (.inr (.inl rfl)) hr fun _ _ => rfl
theorem od_le {n : Nat} (hr : Room n X.A) : OpD X (compareOp .LtE) (fOrd pLe) := od_ord (.inr (.inr (.inl rfl))) hr fun _ _ => rfl
theorem od_ge {n : Nat} (hr : Room n X.A) : OpD X (compareOp .GtE) (fOrd pGe) := od_ord (.inr (.inr (.inr rfl))) hr fun _ _ => rfl
/-- a < b < c -/
def dChain (f f' : F2) (a b c : TOD) : TD := fun ρ Q => a ρ fun la ρ1 => b ρ1 fun lb ρ2 => ∃ dx dy, la.get ρ2 = some dx ∧ lb.get ρ2 = some dy ∧ f dx dy fun s => ∃ k, s = .sh (.bool k) ∧
  if k = true then c ρ2 fun lc ρ3 => ∃ dy dz, lb.get ρ3 = some dy ∧ lc.get ρ3 = some dz ∧ f' dy dz fun s => Q s ρ3 else Q (.sh (.bool false)) ρ2
theorem de_chain {op op' : CmpOp} {f f' : F2} {a b c : Expr} {ta tb tc : TOD} {pos : Pos} (ho : OpD X (compareOp op) f) (ho' : OpD X (compareOp op') f') (ha : DO X a ta) (hb : DO X b tb) (hc : DO X c tc)
    (hm : lastMarks [op, op'] [b, c] = false := by with_unfolding_all rfl) : DE X (.Compare a [op, op'] [b, c] pos) (dChain f f' ta tb tc) := by
  refine ⟨pe_imp (pe_chain ho ho' ha.pe hb.pe hc.pe hm) fun σ H Q hq => ?_⟩
  obtain ⟨Fr, Hs, ρ, QD, A, q, g⟩ := hq
  refine ⟨Fr, Hs, ρ, _, A, q, fun l ρ1 Hs1 H1 v q1 s1 A1 r1 => ?_⟩
  refine ⟨Fr, Hs1, ρ1, _, A1, q1, fun l2 ρ2 Hs2 H2 v2 q2 s2 A2 r2 => ?_⟩
  obtain ⟨dx, dy, g1, g2, hf⟩ := q2
  refine ⟨Hs2, dx, dy, _, A2.rs.hs, A2.late (r1.mono s2) g1, A2.late r2 g2, hf, fun s hs => A2.new (k := fun _ => True) fun Hs3 H3 v3 s3 R3 => ?_⟩
  obtain ⟨k, rfl, hk⟩ := hs
  obtain ⟨w, e3, r3⟩ := R3.head
  cases e3
  cases r3
  refine ⟨k, rfl, ?_⟩
  cases k with
  | false =>
    rw [if_neg Bool.false_ne_true] at hk
    rw [if_neg Bool.false_ne_true]
    exact g _ ρ2 Hs3 H3 _ hk A2.len ((s1.trans s2).trans s3) R3
  | true =>
    rw [if_pos rfl] at hk
    rw [if_pos rfl]
    refine ⟨Fr, Hs3, ρ2, _, ⟨A2.len, R3.tail⟩, hk, fun l4 ρ4 Hs4 H4 v4 q4 s4 A4 r4 => ?_⟩
    obtain ⟨dy', dz, g3, g4, hf'⟩ := q4
    exact ⟨Hs4, dy', dz, _, A4.rs.hs, A4.late (r2.mono (s3.trans s4)) g3, A4.late r4 g4, hf', fun s hs => A4.new (k := fun _ => True) fun Hs' H' v ss R => g s ρ4 Hs' H' v hs A4.len ((((s1.trans s2).trans s3).trans s4).trans ss) R⟩
theorem dt_chain {op op' : CmpOp} {f f' : F2} {a b c : Expr} {ta tb tc : TOD} {pos : Pos} (ho : OpD X (compareOp op) f) (ho' : OpD X (compareOp op') f') (ha : DO X a ta) (hb : DO X b tb) (hc : DO X c tc)
    (hm : lastMarks [op, op'] [b, c] = false := by with_unfolding_all rfl) : DT X (.Compare a [op, op'] [b, c] pos) (tVal (dChain f f' ta tb tc)) := by
  refine ⟨pt_imp (pt_chain ho ho' ha.pe hb.pe hc.pe hm) fun σ H Q hq => ?_⟩
  obtain ⟨Fr, Hs, ρ, QD, A, q, g⟩ := hq
  refine ⟨Fr, Hs, ρ, _, A, q, fun l ρ1 Hs1 H1 v q1 s1 A1 r1 => ?_⟩
  refine ⟨Fr, Hs1, ρ1, _, A1, q1, fun l2 ρ2 Hs2 H2 v2 q2 s2 A2 r2 => ?_⟩
  obtain ⟨dx, dy, g1, g2, hf⟩ := q2
  refine ⟨Hs2, dx, dy, _, A2.rs.hs, A2.late (r1.mono s2) g1, A2.late r2 g2, hf, fun s hs => A2.new (k := fun _ => True) fun Hs3 H3 v3 s3 R3 => ?_⟩
  obtain ⟨k, rfl, hk⟩ := hs
  obtain ⟨w, e3, r3⟩ := R3.head
  cases e3
  cases r3
  refine ⟨k, rfl, ?_⟩
  cases k with
  | false =>
    rw [if_neg Bool.false_ne_true] at hk
    rw [if_neg Bool.false_ne_true]
    obtain ⟨b, e, hb⟩ := hk
    cases e
    exact ⟨_, rfl, g _ ρ2 Hs3 H3 hb ((s1.trans s2).trans s3) ⟨A2.len, R3.tail⟩⟩
  | true =>
    rw [if_pos rfl] at hk
    rw [if_pos rfl]
    refine ⟨Fr, Hs3, ρ2, _, ⟨A2.len, R3.tail⟩, hk, fun l4 ρ4 Hs4 H4 v4 q4 s4 A4 r4 => ?_⟩
    obtain ⟨dy', dz, g3, g4, hf'⟩ := q4
    refine ⟨Hs4, dy', dz, _, A4.rs.hs, A4.late (r2.mono (s3.trans s4)) g3, A4.late r4 g4, hf', fun s hs => A4.new (k := fun _ => True) fun Hs' H' v ss R => ?_⟩
    obtain ⟨b, rfl, hb⟩ := hs
    obtain ⟨w, e5, r5⟩ := R.head
    cases e5
    cases r5
    exact ⟨b, rfl, g _ ρ4 Hs' H' hb ((((s1.trans s2).trans s3).trans s4).trans ss) ⟨A4.len, R.tail⟩⟩
end

/-! ### items and slices -/
def fIx : F2
  | .list xs, .int i, k => ∃ d, atI xs i = some d ∧ k (.sh d)
  | .tuple xs, .int i, k => ∃ d, atI xs i = some d ∧ k (.sh d)
  | .str x, .int i, k => x.length ≤ sizeLine ∧ ∃ c, atI x.cps.toList i = some c ∧ k (.sh (.str ⟨#[c]⟩))
  | _, _, _ => False
def cutD (xs : List Dat) (lo hi : Option Int) : List Dat := (xs.drop (HT.sIx xs.length 0 lo)).take (HT.sIx xs.length xs.length hi - HT.sIx xs.length 0 lo)
def fSl : FS3
  | .list xs, lo, hi, k => k (.ol (cutD xs lo hi))
  | .str x, lo, hi, k => x.length ≤ sizeLine ∧ k (.sh (.str (cutS x lo hi)))
  | .tuple xs, lo, hi, k => (¬ (HT.sIx xs.length 0 lo = 0 ∧ HT.sIx xs.length xs.length hi = xs.length)) ∧ k (.sh (.tuple (cutD xs lo hi)))
  | _, _, _, _ => False
theorem atI_rps {K : Fg} {H : Hp} {vs : List V} {ds : List Dat} {i : Int} {d : Dat} (r : Rps K H vs ds) (h : atI ds i = some d) : ∃ v, atI vs i = some v ∧ Rp K H v d := by
  unfold atI at h ⊢
  rw [r.length]
  cases e : ixN ds.length i with
  | none => rw [e] at h; cases h
  | some j =>
    rw [e] at h
    exact r.get h
section
variable {X : Cx}
theorem xd_ix : IxD X fIx := by
  intro value slice pins s σ H x y ov iv Q I rx ry ⟨Hs, dx, dy, k, sb, px, py, hf, f⟩ hsub
  unfold fIx at hf
  split at hf
  · rename_i xs i
    obtain ⟨d, hd, hk⟩ := hf
    obtain ⟨a, xv, rfl, h1, r1⟩ := px.list sb
    obtain ⟨v, e, rv⟩ := atI_rps r1 hd
    exact ix_list value slice pins s σ H _ y ov iv Q I rx ry ⟨a, xv, i, v, rfl, py.int, h1, e, Rs.sc sb rv (f _ hk)⟩ hsub
  · rename_i xs i
    obtain ⟨d, hd, hk⟩ := hf
    obtain ⟨a, xv, rfl, h1, r1⟩ := px.tup sb
    obtain ⟨v, e, rv⟩ := atI_rps r1 hd
    exact ix_tup value slice pins s σ H _ y ov iv Q I rx ry ⟨a, xv, i, v, rfl, py.int, h1, e, Rs.sc sb rv (f _ hk)⟩ hsub
  · rename_i x i
    obtain ⟨hz, c, hc, hk⟩ := hf
    exact ix_str value slice pins s σ H _ y ov iv Q I rx ry ⟨x, i, c, px.str, py.int, hz, hc, Rs.sc sb (.str _) (f _ hk)⟩ hsub
  · exact hf.elim
theorem cut_rps {K : Fg} {H : Hp} {vs : List V} {ds : List Dat} (r : Rps K H vs ds) (lo hi : Option Int) : Rps K H (cutV vs lo hi) (cutD ds lo hi) := by
  unfold cutV cutD
  rw [r.length]
  exact (r.drop _).take _
theorem ld_sl : SlD X fSl := by
  intro pins s σ H x v vl vu lo hi sl Q I rx hs pl pu ⟨Hs, d, k, sb, px, hf, f⟩
  unfold fSl at hf
  split at hf
  · rename_i xs
    obtain ⟨a, xv, rfl, h1, r1⟩ := px.list sb
    exact sl_list pins s σ H _ v vl vu lo hi sl Q I rx hs pl pu ⟨a, xv, rfl, h1, fun p hp => Rs.lst sb (cut_rps r1 lo hi) hp (f _ hf)⟩
  · rename_i z
    exact sl_str pins s σ H _ v vl vu lo hi sl Q I rx hs pl pu ⟨z, px.str, hf.1, Rs.sc sb (.str _) (f _ hf.2)⟩
  · rename_i xs
    obtain ⟨a, xv, rfl, h1, r1⟩ := px.tup sb
    refine sl_tup pins s σ H _ v vl vu lo hi sl Q I rx hs pl pu ⟨a, xv, rfl, h1, ?_, fun p hp => Rs.tup sb (cut_rps r1 lo hi) hp (f _ hf.2)⟩
    rw [r1.length]
    exact hf.1
  · exact hf.elim
end
/-! ### built-ins -/
def intsD : List Dat → Option (List Int)
  | [] => some []
  | .int i :: r => (intsD r).map (i :: ·)
  | _ => none
def boolsD : List Dat → Option (List Bool)
  | [] => some []
  | .bool i :: r => (boolsD r).map (i :: ·)
  | _ => none
def pairsD : List Dat → Option (List (Int × Int))
  | [] => some []
  | .tuple [.int i, .int j] :: r => (pairsD r).map ((i, j) :: ·)
  | _ => none
def pairD (p : Int × Int) : Dat := .tuple [.int p.1, .int p.2]
theorem intsD_eq : ∀ {ds : List Dat} {ns : List Int}, intsD ds = some ns → ds = ns.map .int
  | [], _, h => by cases h; rfl
  | .int i :: r, _, h => by
    unfold intsD at h
    obtain ⟨m, e, rfl⟩ := Option.map_eq_some_iff.mp h
    rw [List.map_cons, intsD_eq e]
  | .none :: _, _, h => by simp [intsD] at h
  | .bool _ :: _, _, h => by simp [intsD] at h
  | .str _ :: _, _, h => by simp [intsD] at h
  | .list _ :: _, _, h => by simp [intsD] at h
  | .tuple _ :: _, _, h => by simp [intsD] at h
  | .dict _ :: _, _, h => by simp [intsD] at h
@[simp] theorem intsD_map : ∀ ns : List Int, intsD (ns.map .int) = some ns
  | [] => rfl
  | n :: ns => by rw [List.map_cons, intsD, intsD_map ns]; rfl
theorem boolsD_eq : ∀ {ds : List Dat} {ns : List Bool}, boolsD ds = some ns → ds = ns.map .bool
  | [], _, h => by cases h; rfl
  | .bool i :: r, _, h => by
    unfold boolsD at h
    obtain ⟨m, e, rfl⟩ := Option.map_eq_some_iff.mp h
    rw [List.map_cons, boolsD_eq e]
  | .none :: _, _, h => by simp [boolsD] at h
  | .int _ :: _, _, h => by simp [boolsD] at h
  | .str _ :: _, _, h => by simp [boolsD] at h
  | .list _ :: _, _, h => by simp [boolsD] at h
  | .tuple _ :: _, _, h => by simp [boolsD] at h
  | .dict _ :: _, _, h => by simp [boolsD] at h
@[simp] theorem boolsD_map : ∀ ns : List Bool, boolsD (ns.map .bool) = some ns
  | [] => rfl
  | n :: ns => by rw [List.map_cons, boolsD, boolsD_map ns]; rfl
@[simp] theorem pairsD_map : ∀ ns : List (Int × Int), pairsD (ns.map pairD) = some ns
  | [] => rfl
  | n :: ns => by
    rw [List.map_cons]
    show (pairsD (ns.map pairD)).map _ = _
    rw [pairsD_map ns]; rfl
theorem pairsD_eq : ∀ {ds : List Dat} {ns : List (Int × Int)}, pairsD ds = some ns → ds = ns.map pairD := by
  intro ds
  induction ds with
  | nil => intro ns h; cases h; rfl
  | cons d r ih =>
    intro ns h
    unfold pairsD at h
    split at h
    · rename_i e; cases e
    · rename_i i j r' e
      cases e
      obtain ⟨m, e, rfl⟩ := Option.map_eq_some_iff.mp h
      rw [List.map_cons, ih e]; rfl
    · cases h
def lexP (p q : Int × Int) : Prop := p.1 < q.1 ∨ (p.1 = q.1 ∧ p.2 ≤ q.2)
def fLen : FN
  | [.list xs], k => k (.sh (.int xs.length))
  | [.tuple xs], k => k (.sh (.int xs.length))
  | [.str x], k => x.length ≤ sizeLine ∧ k (.sh (.int x.length))
  | _, _ => False
def fAbs : FN
  | [.int i], k => k (.sh (.int (if i < 0 then -i else i)))
  | _, _ => False
def fMax : FN
  | [.int i, .int j], k => k (.sh (.int (if j > i then j else i)))
  | [.list xs], k => ∃ ns, intsD xs = some ns ∧ 0 < ns.length ∧ ∀ m, m ∈ ns → (∀ y, y ∈ ns → y ≤ m) → k (.sh (.int m))
  | _, _ => False
def fMin : FN
  | [.int i, .int j], k => k (.sh (.int (if j < i then j else i)))
  | [.list xs], k => ∃ ns, intsD xs = some ns ∧ 0 < ns.length ∧ ∀ m, m ∈ ns → (∀ y, y ∈ ns → m ≤ y) → k (.sh (.int m))
  | _, _ => False
def fSum : FN
  | [.list xs], k => ∃ ns, intsD xs = some ns ∧ k (.sh (.int ns.sum))
  | _, _ => False
def fInt : FN
  | [.int i], k => k (.sh (.int i))
  | [.bool b], k => k (.sh (.int (if b then 1 else 0)))
  | [.str x], k => ∃ n, PySem.intText? x = some n ∧ x.length ≤ 640 ∧ k (.sh (.int n))
  | _, _ => False
def fStr : FN
  | [.int i], k => i.natAbs.log2 < 1920 ∧ k (.sh (.str (toString i)))
  | [.str x], k => k (.sh (.str x))
  | _, _ => False
def ReprOk (d : Dat) : Prop := d.canLay0 = true ∧ d.showable = true ∧ d.depth ≤ 60 ∧ d.shown.length ≤ sizeLine
def fRepr : FN
  | [d], k => ReprOk d ∧ k (.sh (.str d.shown))
  | _, _ => False
def fAll : FN
  | [.list xs], k => ∃ bs, boolsD xs = some bs ∧ k (.sh (.bool (bs.all id)))
  | _, _ => False
def fAny : FN
  | [.list xs], k => ∃ bs, boolsD xs = some bs ∧ k (.sh (.bool (bs.any id)))
  | _, _ => False
def fList : FN
  | [.list xs], k => k (.ol xs)
  | [.tuple xs], k => k (.ol xs)
  | _, _ => False
def fTuple : FN
  | [.list xs], k => k (.sh (.tuple xs))
  | [.tuple xs], k => k (.sh (.tuple xs))
  | _, _ => False
def fSorted : FN
  | [.list xs], k => (∃ ns, intsD xs = some ns ∧ ∀ ms : List Int, ms.Perm ns → ms.Pairwise (· ≤ ·) → k (.ol (ms.map .int))) ∨ (∃ ps, pairsD xs = some ps ∧ ∀ qs : List (Int × Int), qs.Perm ps → qs.Pairwise lexP → k (.ol (qs.map pairD)))
  | _, _ => False
theorem len_le {X : Cx} {pins : List (Addr × Obj)} {σ : St} {H : Hp} {s : Shared} (I : Inv X pins σ H s) {a : Addr} {xs : List V} (h : SqL X.K H a xs ∨ SqT X.K H a xs) : xs.length ≤ sizeLine := by
  rcases h with h | h
  · obtain ⟨_, _, _, z⟩ := I.list h; exact z
  · obtain ⟨_, _, _, z⟩ := I.tuple h; exact z
section
variable {X : Cx}
theorem pk1 {K : Fg} {Hs H : Hp} {vs : List V} {d : Dat} (h : Pks K Hs H vs [d]) : ∃ v, vs = [v] ∧ Pk K Hs H v d := by
  cases h with
  | cons a b => cases b; exact ⟨_, rfl, a⟩
theorem pk2 {K : Fg} {Hs H : Hp} {vs : List V} {d e : Dat} (h : Pks K Hs H vs [d, e]) : ∃ v w, vs = [v, w] ∧ Pk K Hs H v d ∧ Pk K Hs H w e := by
  cases h with
  | cons a b => cases b with | cons b c => cases c; exact ⟨_, _, rfl, a, b⟩
theorem cd_len : CallD X (.builtin "len") fLen := by
  intro pins s σ H vs us Q I r ⟨Hs, ds, k, sb, ps, hf, f⟩
  unfold fLen at hf
  split at hf
  · obtain ⟨v, rfl, p⟩ := pk1 ps
    obtain ⟨a, xv, rfl, h1, r1⟩ := p.list sb
    exact call_len_seq pins s σ H _ us Q I r ⟨a, xv, rfl, .inl h1, by rw [r1.length]; exact Rs.sc sb (.int _) (f _ hf)⟩
  · obtain ⟨v, rfl, p⟩ := pk1 ps
    obtain ⟨a, xv, rfl, h1, r1⟩ := p.tup sb
    exact call_len_seq pins s σ H _ us Q I r ⟨a, xv, rfl, .inr h1, by rw [r1.length]; exact Rs.sc sb (.int _) (f _ hf)⟩
  · obtain ⟨v, rfl, p⟩ := pk1 ps
    rw [p.str] at r
    exact call_len_str pins s σ H _ us Q I r ⟨_, rfl, hf.1, Rs.sc sb (.int _) (f _ hf.2)⟩
  · exact hf.elim
theorem cd_abs : CallD X (.builtin "abs") fAbs := by
  intro pins s σ H vs us Q I r ⟨Hs, ds, k, sb, ps, hf, f⟩
  unfold fAbs at hf
  split at hf
  · obtain ⟨v, rfl, p⟩ := pk1 ps
    exact call_abs pins s σ H _ us Q I r ⟨_, by rw [p.int], Rs.sc sb (.int _) (f _ hf)⟩
  · exact hf.elim
theorem cd_max (hc : X.calm = true) : CallD X (.builtin "max") fMax := by
  intro pins s σ H vs us Q I r ⟨Hs, ds, k, sb, ps, hf, f⟩
  unfold fMax at hf
  split at hf
  · obtain ⟨v, w, rfl, p, q⟩ := pk2 ps
    exact call_max2 hc pins s σ H _ us Q I r ⟨_, _, by rw [p.int, q.int], Rs.sc sb (.int _) (f _ hf)⟩
  · obtain ⟨ns, e, hn, hf⟩ := hf
    obtain ⟨v, rfl, p⟩ := pk1 ps
    obtain ⟨a, xv, rfl, h1, r1⟩ := p.list sb
    rw [intsD_eq e] at r1
    rw [r1.of_ints] at h1
    exact cr_max hc pins s σ H _ us Q I r ⟨a, ns, rfl, h1, hn, fun m m1 m2 => Rs.sc sb (.int _) (f _ (hf m m1 m2))⟩
  · exact hf.elim
theorem cd_min (hc : X.calm = true) : CallD X (.builtin "min") fMin := by
  intro pins s σ H vs us Q I r ⟨Hs, ds, k, sb, ps, hf, f⟩
  unfold fMin at hf
  split at hf
  · obtain ⟨v, w, rfl, p, q⟩ := pk2 ps
    exact call_min2 hc pins s σ H _ us Q I r ⟨_, _, by rw [p.int, q.int], Rs.sc sb (.int _) (f _ hf)⟩
  · obtain ⟨ns, e, hn, hf⟩ := hf
    obtain ⟨v, rfl, p⟩ := pk1 ps
    obtain ⟨a, xv, rfl, h1, r1⟩ := p.list sb
    rw [intsD_eq e] at r1
    rw [r1.of_ints] at h1
    exact cr_min hc pins s σ H _ us Q I r ⟨a, ns, rfl, h1, hn, fun m m1 m2 => Rs.sc sb (.int _) (f _ (hf m m1 m2))⟩
  · exact hf.elim
theorem cd_sum (hc : X.calm = true) : CallD X (.builtin "sum") fSum := by
  intro pins s σ H vs us Q I r ⟨Hs, ds, k, sb, ps, hf, f⟩
  unfold fSum at hf
  split at hf
  · obtain ⟨ns, e, hf⟩ := hf
    obtain ⟨v, rfl, p⟩ := pk1 ps
    obtain ⟨a, xv, rfl, h1, r1⟩ := p.list sb
    rw [intsD_eq e] at r1
    rw [r1.of_ints] at h1
    exact cr_sum hc pins s σ H _ us Q I r ⟨a, ns, rfl, h1, Rs.sc sb (.int _) (f _ hf)⟩
  · exact hf.elim
theorem cd_int : CallD X (.type "int") fInt := by
  intro pins s σ H vs us Q I r ⟨Hs, ds, k, sb, ps, hf, f⟩
  unfold fInt at hf
  split at hf
  · obtain ⟨v, rfl, p⟩ := pk1 ps
    exact call_int1 pins s σ H _ us Q I r (.inl ⟨_, by rw [p.int], Rs.sc sb (.int _) (f _ hf)⟩)
  · obtain ⟨v, rfl, p⟩ := pk1 ps
    exact call_int1 pins s σ H _ us Q I r (.inr ⟨_, by rw [p.bool], Rs.sc sb (.int _) (f _ hf)⟩)
  · obtain ⟨v, rfl, p⟩ := pk1 ps
    obtain ⟨n, hn, hl, hf⟩ := hf
    exact call_int_str pins s σ H _ us Q I r ⟨_, n, by rw [p.str], hn, hl, Rs.sc sb (.int _) (f _ hf)⟩
  · exact hf.elim
theorem cd_str : CallD X (.type "str") fStr := by
  intro pins s σ H vs us Q I r ⟨Hs, ds, k, sb, ps, hf, f⟩
  unfold fStr at hf
  split at hf
  · obtain ⟨v, rfl, p⟩ := pk1 ps
    exact call_str_int pins s σ H _ us Q I r ⟨_, by rw [p.int], hf.1, Rs.sc sb (.str _) (f _ hf.2)⟩
  · obtain ⟨v, rfl, p⟩ := pk1 ps
    exact SkE.call_str_str pins s σ H _ us Q I r ⟨_, by rw [p.str], Rs.sc sb (.str _) (f _ hf)⟩
  · exact hf.elim
theorem cd_repr {n : Nat} (hr : Room n X.A) (hg : X.A.guards = some []) : CallD X (.builtin "repr") fRepr := by
  intro pins s σ H vs us Q I r ⟨Hs, ds, k, sb, ps, hf, f⟩
  unfold fRepr at hf
  split at hf
  · rename_i d
    obtain ⟨⟨c1, c2, c3, c4⟩, hk⟩ := hf
    obtain ⟨v, rfl, p⟩ := pk1 ps
    obtain ⟨u, rfl, ru⟩ := vals1 r
    have hu := hr.units
    obtain ⟨as, rd⟩ := p.reads I sb c1 ru
    have fin : ∀ h' tk t, (∀ b o, s.heap.get? b = some o → h'.get? b = some o) → EP X pins σ Q (.str d.shown t) { s with heap := h', toks := tk } := fun h' tk t hk' => ⟨.str _, H, I.kept hk', ⟨_, rfl⟩, Rs.sc sb (.str _) (f _ hk)⟩
    cases rd with
    | none => simp only [PyData.shown] at fin; exact PySem.P.repr_of_none (fin s.heap _ _ fun _ _ e => e)
    | bool b => simp only [PyData.shown] at fin; exact PySem.P.repr_of_bool (fin s.heap _ _ fun _ _ e => e)
    | int i t => simp only [PyData.shown] at fin; exact PySem.P.repr_of_int (by simpa [PyData.showable] using c2) (fin s.heap _ _ fun _ _ e => e)
    | str x t => simp only [PyData.shown] at fin; exact PySem.P.repr_of_str (fin s.heap _ _ fun _ _ e => e) (by simpa only [PyData.shown] using c4)
    | list h1 h2 h3 h4 => exact repr_of_reads' (.list h1 h2 h3 h4) c2 (PyData.noDict_hsm (PyData.hasDict_of_canLay _ c1)) hg (by omega) (fun _ _ e => e) (fun h' u tk hk' => fin h' tk u hk') c4
    | tuple h1 h2 h3 h4 => exact repr_of_reads' (.tuple h1 h2 h3 h4) c2 (PyData.noDict_hsm (PyData.hasDict_of_canLay _ c1)) hg (by omega) (fun _ _ e => e) (fun h' u tk hk' => fin h' tk u hk') c4
    | dict => simp [PyData.canLay0] at c1
  · exact hf.elim
theorem cd_all (hc : X.calm = true) : CallD X (.builtin "all") fAll := by
  intro pins s σ H vs us Q I r ⟨Hs, ds, k, sb, ps, hf, f⟩
  unfold fAll at hf
  split at hf
  · obtain ⟨ns, e, hf⟩ := hf
    obtain ⟨v, rfl, p⟩ := pk1 ps
    obtain ⟨a, xv, rfl, h1, r1⟩ := p.list sb
    rw [boolsD_eq e] at r1
    rw [r1.of_bools] at h1
    exact cr_all hc pins s σ H _ us Q I r ⟨a, ns, rfl, h1, Rs.sc sb (.bl _) (f _ hf)⟩
  · exact hf.elim
theorem cd_any (hc : X.calm = true) : CallD X (.builtin "any") fAny := by
  intro pins s σ H vs us Q I r ⟨Hs, ds, k, sb, ps, hf, f⟩
  unfold fAny at hf
  split at hf
  · obtain ⟨ns, e, hf⟩ := hf
    obtain ⟨v, rfl, p⟩ := pk1 ps
    obtain ⟨a, xv, rfl, h1, r1⟩ := p.list sb
    rw [boolsD_eq e] at r1
    rw [r1.of_bools] at h1
    exact cr_any hc pins s σ H _ us Q I r ⟨a, ns, rfl, h1, Rs.sc sb (.bl _) (f _ hf)⟩
  · exact hf.elim
theorem cd_list : CallD X (.type "list") fList := by
  intro pins s σ H vs us Q I r ⟨Hs, ds, k, sb, ps, hf, f⟩
  unfold fList at hf
  split at hf
  · obtain ⟨v, rfl, p⟩ := pk1 ps
    obtain ⟨a, xv, rfl, h1, r1⟩ := p.list sb
    exact call_list_of pins s σ H _ us Q I r ⟨a, xv, rfl, .inl h1, fun l hl => Rs.lst sb r1 hl (f _ hf)⟩
  · obtain ⟨v, rfl, p⟩ := pk1 ps
    obtain ⟨a, xv, rfl, h1, r1⟩ := p.tup sb
    exact call_list_of pins s σ H _ us Q I r ⟨a, xv, rfl, .inr h1, fun l hl => Rs.lst sb r1 hl (f _ hf)⟩
  · exact hf.elim
theorem cd_tuple : CallD X (.type "tuple") fTuple := by
  intro pins s σ H vs us Q I r ⟨Hs, ds, k, sb, ps, hf, f⟩
  unfold fTuple at hf
  split at hf
  · obtain ⟨v, rfl, p⟩ := pk1 ps
    obtain ⟨a, xv, rfl, h1, r1⟩ := p.list sb
    exact call_tuple_of pins s σ H _ us Q I r ⟨a, xv, rfl, .inl ⟨h1, fun l hl => Rs.tup sb r1 hl (f _ hf)⟩⟩
  · obtain ⟨v, rfl, p⟩ := pk1 ps
    have p0 := p
    obtain ⟨a, xv, rfl, h1, r1⟩ := p.tup sb
    refine call_tuple_of pins s σ H _ us Q I r ⟨a, xv, rfl, .inr ⟨h1, ?_⟩⟩
    cases p0 with
    | st rr => exact Rs.sc sb rr (f _ hf)
  · exact hf.elim
end

/-! ### sorted -/
noncomputable def pairOf (h : Heap) (v : Value) : Int × Int := match SeqAt.readOf h v with
  | .tuple [.int i, .int j] => (i, j)
  | _ => (0, 0)
theorem pair_canLay (p : Int × Int) : (pairD p).canLay0 = true := by simp [pairD, PyData.canLay0, PyData.canLayAll0]
theorem pair_reads {X : Cx} {pins : List (Addr × Obj)} {σ : St} {H : Hp} {s : Shared} (I : Inv X pins σ H s) {v : V} {u : Value} {p : Int × Int} (r : Rp X.K H v (pairD p)) (ru : RelV v u) : Srt.IsPair s.heap u p.1 p.2 ∧ pairOf s.heap u = p ∧ ∃ a, v = .ref a := by
  obtain ⟨as, rd⟩ := Dp.reads I _ v u (r.dp (pair_canLay p)) ru
  have e := SeqAt.readOf_eq (pair_canLay p) rd
  refine ⟨?_, by unfold pairOf; rw [e]; rfl, ?_⟩
  · unfold pairD at rd
    cases rd with
    | tuple h1 h2 h3 h4 =>
      rename_i a o vs n
      obtain ⟨l⟩ := vs
      cases h4 with
      | cons q1 q2 =>
        cases q2 with
        | cons q3 q4 =>
          cases q4
          cases q1
          cases q3
          exact ⟨_, _, _, _, _, rfl, h1, h2, h3⟩
  · cases r with
    | tup h _ => exact ⟨_, rfl⟩
theorem lexB_lexP {p q : Int × Int} (h : SrtO.lexB q p = false) : lexP p q := by
  have := SrtO.lexB_no.mp h
  unfold lexP
  omega

theorem Vals.isRef {vs : List V} {us : List Value} (r : Vals vs us) : ∀ u ∈ us, ∃ v ∈ vs, RelV v u := by
  induction r with
  | nil => intro u h; cases h
  | cons a b ih =>
    intro u h
    rcases List.mem_cons.mp h with e | h
    · subst e; exact ⟨_, List.mem_cons_self, a⟩
    · obtain ⟨v, hv, q⟩ := ih u h
      exact ⟨v, List.mem_cons_of_mem _ hv, q⟩
theorem Rps.mem {K : Fg} {H : Hp} : ∀ {vs : List V} {ds : List Dat}, Rps K H vs ds → ∀ v ∈ vs, ∃ d ∈ ds, Rp K H v d
  | _, _, .nil, v, h => by cases h
  | _, _, .cons a b, v, h => by
    rcases List.mem_cons.mp h with e | h
    · subst e; exact ⟨_, List.mem_cons_self, a⟩
    · obtain ⟨d, hd, q⟩ := Rps.mem b v h
      exact ⟨d, List.mem_cons_of_mem _ hd, q⟩
/-- values of heap pairs, out of any of them -/
theorem pairs_out {X : Cx} {pins : List (Addr × Obj)} {σ : St} {Hs H : Hp} {s : Shared} (I : Inv X pins σ H s) (sb : Sub Hs H) : ∀ {vs : List V} {us : List Value} {ps : List (Int × Int)}, Rps X.K Hs vs (ps.map pairD) → Vals vs us →
    (∀ u ∈ us, Srt.IsPair s.heap u (pairOf s.heap u).1 (pairOf s.heap u).2 ∧ ∃ v, RelV v u ∧ Rp X.K Hs v (pairD (pairOf s.heap u))) ∧ us.map (pairOf s.heap) = ps
  | _, _, [], .nil, .nil => ⟨fun u h => (nomatch h), rfl⟩
  | _, _, p :: ps, .cons r1 r2, .cons q1 q2 => by
    obtain ⟨h1, h2, _⟩ := pair_reads I (r1.mono sb) q1
    obtain ⟨i1, i2⟩ := pairs_out I sb r2 q2
    refine ⟨fun u hu => ?_, by rw [List.map_cons, h2, i2]⟩
    rcases List.mem_cons.mp hu with e | hu
    · subst e
      rw [h2]
      exact ⟨h1, _, q1, r1⟩
    · exact i1 u hu
theorem vals_back {K : Fg} {H : Hp} {h : Heap} : ∀ {out : List Value}, (∀ u ∈ out, ∃ v, RelV v u ∧ Rp K H v (pairD (pairOf h u))) → ∃ vs, Vals vs out ∧ Rps K H vs ((out.map (pairOf h)).map pairD)
  | [], _ => ⟨[], .nil, .nil⟩
  | u :: out, hu => by
    obtain ⟨v, h1, h2⟩ := hu u List.mem_cons_self
    obtain ⟨vs, h3, h4⟩ := vals_back fun u h => hu u (List.mem_cons_of_mem _ h)
    exact ⟨v :: vs, .cons h1 h3, .cons h2 h4⟩
theorem cd_sorted {X : Cx} : CallD X (.builtin "sorted") fSorted := by
  intro pins s σ H vs us Q I r ⟨Hs, ds, k, sb, ps, hf, f⟩
  unfold fSorted at hf
  split at hf
  · rcases hf with ⟨ns, e, hf⟩ | ⟨ps', e, hf⟩
    · obtain ⟨v, rfl, p⟩ := pk1 ps
      obtain ⟨a, xv, rfl, h1, r1⟩ := p.list sb
      rw [intsD_eq e] at r1
      rw [r1.of_ints] at h1
      exact cr_sortedI pins s σ H _ us Q I r ⟨a, ns, rfl, h1, fun ms l m1 m2 hl => Rs.lst sb (Rps.ints ms) hl (f _ (hf ms m1 m2))⟩
    · obtain ⟨v, rfl, p⟩ := pk1 ps
      obtain ⟨a, xv, rfl, h1, r1⟩ := p.list sb
      rw [pairsD_eq e] at r1
      obtain ⟨its, rv, hl, hz⟩ := I.list h1
      rw [Vals.ref1 r]
      obtain ⟨q1, q2⟩ := pairs_out I sb r1 rv
      refine SrtO.sorted_pairsO (k := pairOf s.heap) hl.isList (by rw [← rv.length]; exact hz) (fun u hu => (q1 u hu).1) fun h' d out h1 h2 hk hd hat => ?_
      have pm := h2.perm
      obtain ⟨ovs, o1, o2⟩ := vals_back fun u hu => (q1 u (pm.mem_iff.mp hu)).2
      obtain ⟨n, hn⟩ := hat
      have hlen : ovs.length ≤ sizeLine := by
        rw [o1.length, pm.length_eq, ← rv.length]; exact hz
      have I2 : Inv X pins σ (upd H d (.lst ovs)) { s with heap := h' } := I.laid (t' := s.toks) hk hd ⟨hlen, out, n, o1, hn⟩
      refine ⟨.ref d, _, I2, rfl, Rs.lst sb o2 (I.hok.fresh hd) (f _ (hf _ ?_ ?_))⟩
      · rw [← q2]
        exact pm.map _
      · exact List.pairwise_map.mpr (h1.imp fun {x y} h => lexB_lexP h)
  · exact hf.elim

/-! ### isinstance of a built-in type -/
def tyN : Dat → String
  | .none => "NoneType"
  | .bool _ => "bool"
  | .int _ => "int"
  | .str _ => "str"
  | .list _ => "list"
  | .tuple _ => "tuple"
  | .dict _ => "dict"
def isTy (T : String) (d : Dat) : Bool := tyN d == T || (T == "int" && tyN d == "bool")
theorem isTy_tab {K : Fg} {T : String} (h : T ∈ ["int", "bool", "str", "list", "tuple", "dict"]) (d : Dat) : PySem.W.kitOne K (.type (tyN d)) (.type T) = some (isTy T d) := by
  refine kit_ty ?_
  unfold isTy
  have go : ∀ a ∈ ["NoneType", "bool", "int", "str", "list", "tuple", "dict"], ∀ T ∈ ["int", "bool", "str", "list", "tuple", "dict"], kitB a T = some (a == T || (T == "int" && a == "bool")) := by decide +kernel
  exact go (tyN d) (by cases d <;> simp [tyN]) T h
theorem kit_pk {X : Cx} {pins : List (Addr × Obj)} {σ : St} {Hs H : Hp} {s : Shared} {v : V} {u : Value} {d : Dat} (I : Inv X pins σ H s) (sb : Sub Hs H) (p : Pk X.K Hs H v d) (r : RelV v u) :
    ∃ P : Heap → Prop, PySem.W.KitX X.K u (.type (tyN d)) P ∧ P s.heap ∧ u ≠ .builtin "__main__.__loader__#opaque" := by
  cases d with
  | none => rw [p.none] at r; exact kit_of I r (.base .non)
  | bool b => rw [p.bool] at r; exact kit_of I r (.base (.bl b))
  | int i => rw [p.int] at r; exact kit_of I r (.base (.int i))
  | str x => rw [p.str] at r; exact kit_of I r (.base (.str x))
  | list ds =>
    obtain ⟨a, xs, rfl, h, _⟩ := p.list sb
    rcases h with (h | ⟨o, h⟩) | ⟨o, its, n, h1, h2, _⟩
    · exact kit_of I r (.base (.lst h))
    · exact kit_of I r (.base (.frz h))
    · exact kit_of I r (.kList h1 h2)
  | tuple ds =>
    obtain ⟨a, xs, rfl, h, _⟩ := p.tup sb
    rcases h with (h | ⟨o, h⟩) | ⟨o, its, n, h1, h2, _⟩
    · exact kit_of I r (.base (.tup h))
    · exact kit_of I r (.fTuple h)
    · exact kit_of I r (.kTuple h1 h2)
  | dict es =>
    obtain ⟨a, rfl, h⟩ := p.dict sb
    cases (show u = Value.ref a from r)
    rcases h with ⟨ks, h, _⟩ | ⟨ks, h, _⟩
    · obtain ⟨z, hz, vs, _, o, es', ep, h1, h2, _⟩ := (show ObjOk X.prog X.w H s.heap a (.dK ks) from h.ok I.hok)
      exact ⟨_, PySem.W.kitx_dict, ⟨o, h1, h2.1⟩, fun z => nomatch z⟩
    · obtain ⟨z, hz, vs, _, o, es', ep, h1, h2, _⟩ := (show ObjOk X.prog X.w H s.heap a (.dT ks) from h.ok I.hok)
      exact ⟨_, PySem.W.kitx_dict, ⟨o, h1, h2.1⟩, fun z => nomatch z⟩
theorem call_isD {X : Cx} {T : String} (hT : T ∈ ["int", "bool", "str", "list", "tuple", "dict"]) : CallR X (.builtin "isinstance") (fun xs H Q => ∃ Hs x d, xs = [x, .ty T] ∧ Sub Hs H ∧ Pk X.K Hs H x d ∧ Q (.bl (isTy T d)) H) := by
  intro pins s σ H xs us Q I r h
  obtain ⟨Hs, x, d, rfl, sb, p, q⟩ := h
  obtain ⟨u1, u2, rfl, r1, r2⟩ := vals2 r
  cases (show u2 = Value.type T from r2)
  obtain ⟨P, Z, hp, hx⟩ := kit_pk I sb p r1
  exact PySem.W.kia_one Z I.kIn hp (isTy_tab hT d) hx fun tk => ⟨.bl _, H, I.tok tk, rfl, q⟩
def fIsi (T : String) : F1 := fun d k => k (.sh (.bool (isTy T d)))
section
variable {X : Cx} {a b e : Expr} {es : List Expr} {pos p p2 : Pos}
theorem de_isi {T : String} {y : Str} {t : TOD} (hT : T ∈ ["int", "bool", "str", "list", "tuple", "dict"]) (hg : Gl X "isinstance") (hm : X.mg "isinstance" = none) (hg2 : Gl X y) (hm2 : X.mg y = none) (hv2 : bootBuiltins y = some (.type T)) (ha : DO X a t)
    (hn2 : y ≠ "__name__" := by decide) (hd2 : (y == ("__debug__" : Str)) = false := by decide)
    (h1 : starEach [a, .Name y p2] X.env = (false, eval a X.env) :: starEach [.Name y p2] X.env := by rfl) (h2 : starEach [.Name y p2] X.env = (false, eval (.Name y p2) X.env) :: starEach [] X.env := by rfl)
    (hpl : (backTo pos (starEach [.Name y p2] X.env)).any (·.1) = false := by rfl) : DE X (.Call (.Name "isinstance" p) [a, .Name y p2] [] pos) (dUn (fIsi T) t) := by
  refine ⟨pe_imp (pe_callB (call_isD hT) hg hm PyProof.Rows.boot_isinstance (pa_cons ha.pe (pa_cons (pe_bltn (v := .ty T) hg2 hm2 hv2 rfl hn2 hd2) pa_nil h2) h1) (by decide) (by decide) h1 hpl) fun σ H Q hq => ?_⟩
  obtain ⟨Fr, Hs, ρ, QD, A, q, g⟩ := hq
  refine ⟨Fr, Hs, ρ, _, A, q, fun l ρ1 Hs1 H1 v q1 s1 A1 r1 => ?_⟩
  obtain ⟨dx, g1, hf⟩ := q1
  exact ⟨Hs1, v, dx, rfl, A1.rs.hs, A1.late r1 g1, g _ ρ1 Hs1 H1 _ hf A1.len s1 (A1.rs.add ⟨_, rfl, .bl _⟩ rfl)⟩
/-! ### x.bit_length() -/
def bitsD (i : Int) : Nat := Builtin.Int.intBits i
def fBits : F1 := fun d k => ∃ i, d = .int i ∧ k (.sh (.int (bitsD i : Nat)))
theorem de_bits {apos : Pos} {t : TOD} (ha : DO X a t) (hbase : attributeBase a "bit_length" X.env (eval a X.env) = eval a X.env := by rfl) (hline : (apos.endLine == pos.line) = true := by rfl) : DE X (.Call (.Attribute a "bit_length" apos) [] [] pos) (dUn fBits t) := by
  refine ⟨pe_imp (pe_bits ha.pe hbase hline) fun σ H Q hq => ?_⟩
  obtain ⟨Fr, Hs, ρ, QD, A, q, g⟩ := hq
  refine ⟨Fr, Hs, ρ, _, A, q, fun l ρ1 Hs1 H1 v q1 s1 A1 r1 => ?_⟩
  obtain ⟨dx, g1, i, rfl, hf⟩ := q1
  exact ⟨i, (A1.late r1 g1).int, g _ ρ1 Hs1 H1 _ hf A1.len s1 (A1.rs.add ⟨_, rfl, .int _⟩ rfl)⟩
end
/-! ### methods of lists -/
def mAppend : FM := fun ds as k => ∃ d, as = [d] ∧ ds.length < sizeLine ∧ k .none (ds ++ [d])
def mPop : FM := fun ds as k => as = [] ∧ ∃ d, ds[ds.length - 1]? = some d ∧ k d ds.dropLast
def mPopAt : FM := fun ds as k => ∃ i d, as = [.int i] ∧ -(2 ^ 63) ≤ i ∧ i < 2 ^ 63 ∧ ∃ j, seqIndex? i ds.length = some j ∧ ds[j]? = some d ∧ k d (ds.eraseIdx j)
theorem Rps.one {K : Fg} {H : Hp} {vs : List V} {d : Dat} (r : Rps K H vs [d]) : ∃ v, vs = [v] ∧ Rp K H v d := by
  cases r with
  | cons a b => cases b; exact ⟨_, rfl, a⟩
theorem Rps.dropLast {K : Fg} {H : Hp} : ∀ {vs : List V} {ds : List Dat}, Rps K H vs ds → Rps K H vs.dropLast ds.dropLast
  | _, _, .nil => .nil
  | _, _, .cons a .nil => .nil
  | _, _, .cons a (.cons b c) => .cons a (Rps.dropLast (.cons b c))
section
variable {X : Cx}
theorem md_append : MutD X "list.append" mAppend := by
  intro pins s σ H x vs v us Q I rx rv ⟨p, xs, Hs, ds, as, k, hx, hp, sb, r, ra, hf, f⟩
  obtain ⟨d, rfl, hz, hk⟩ := hf
  obtain ⟨y, rfl, ry⟩ := ra.one
  subst hx
  exact mt_append pins s σ H _ _ v us Q I rx rv ⟨p, xs, y, rfl, rfl, hp, by rw [r.length]; exact hz, f _ _ hk _ _ .non (r.append (.cons ry .nil))⟩
theorem md_pop : MutD X "list.pop" mPop := by
  intro pins s σ H x vs v us Q I rx rv ⟨p, xs, Hs, ds, as, k, hx, hp, sb, r, ra, hf, f⟩
  obtain ⟨rfl, d, hd, hk⟩ := hf
  cases ra
  subst hx
  obtain ⟨y, hy, ry⟩ := r.get hd
  exact mt_pop pins s σ H _ _ v us Q I rx rv ⟨p, xs, y, rfl, rfl, hp, by rw [r.length]; exact hy, f _ _ hk _ _ ry r.dropLast⟩
theorem md_popAt : MutD X "list.pop" mPopAt := by
  intro pins s σ H x vs v us Q I rx rv ⟨p, xs, Hs, ds, as, k, hx, hp, sb, r, ra, hf, f⟩
  obtain ⟨i, d, rfl, h1, h2, j, hj, hd, hk⟩ := hf
  obtain ⟨y, rfl, ry⟩ := ra.one
  cases ry
  subst hx
  obtain ⟨y, hy, ry⟩ := r.get hd
  exact mt_popAt pins s σ H _ _ v us Q I rx rv ⟨p, xs, i, j, y, rfl, rfl, hp, h1, h2, by rw [r.length]; exact hj, hy, f _ _ hk _ _ ry (r.erase j)⟩
end

/-! ### a, b = x, y: all is frozen -/
def sPar (i j : Nat) (t : TFD) : TSD := fun E ρ => t ρ fun ds ρ1 => ∃ d e, ds = [d, e] ∧ notIo ρ1[i]? ∧ notIo ρ1[j]? ∧ E.nx ((ρ1.set i (.sh d)).set j (.sh e))
def sPar3 (i j l : Nat) (t : TFD) : TSD := fun E ρ => t ρ fun ds ρ1 => ∃ d e f, ds = [d, e, f] ∧ notIo ρ1[i]? ∧ notIo ρ1[j]? ∧ notIo ρ1[l]? ∧ E.nx (((ρ1.set i (.sh d)).set j (.sh e)).set l (.sh f))
theorem At.put {K : Fg} {Fr Hs H : Hp} {ρ : Ev} {σ : St} {i : Nat} {v : V} {d : Dat} (A : At K Fr Hs ρ σ H) (h : notIo ρ[i]?) (r : Rp K Hs v d) : At K Fr Hs (ρ.set i (.sh d)) (σ.set i (some v)) H :=
  RS.store A.len (notIo_lt h) (A.rs.add (x := (.sh d, some v)) ⟨v, rfl, r⟩ rfl)
theorem notIo_set {ρ : Ev} {i j : Nat} {d : Dat} (h : notIo ρ[j]?) : notIo (ρ.set i (.sh d))[j]? := by
  by_cases e : i = j
  · subst e
    rw [List.getElem?_set]
    simp only [if_pos]
    split
    · trivial
    · rename_i hn
      rw [List.getElem?_eq_none (by omega)] at h
      exact h
  · rw [List.getElem?_set_ne e]; exact h
section
variable {X : Cx} {a b c : Expr} {pos : Pos}
theorem ds_par (i j : Nat) {x y : Str} {t : TFD} {px py pt : Pos} {kt k2 pt2} (hc : X.calm = true) (hN : X.N.Nodup) (ha : DFs X [a, b] t) (hi : X.N[i]? = some x := by rfl) (hj : X.N[j]? = some y := by rfl) (hij : i ≠ j := by decide)
    (hx : X.env.scope.names.lookup x = some .local := by rfl) (hy : X.env.scope.names.lookup y = some .local := by rfl)
    (hw : swappedStores [.Tuple [.Name x px, .Name y py] kt pt] (.Tuple [a, b] k2 pt2) X.env = pure (some [x, y]) := by rfl)
    (hs : swapsWithSole [.Tuple [.Name x px, .Name y py] kt pt] (.Tuple [a, b] k2 pt2) pos.line X.env = pure false := by rfl) :
    DS X (.Assign [.Tuple [.Name x px, .Name y py] kt pt] (.Tuple [a, b] k2 pt2) pos) (sPar i j t) := by
  refine ⟨ps_imp (ps_par hc hN hi hj hij hx hy ha.pa hw hs) fun D σ H hq => ?_⟩
  obtain ⟨Fr, Hs, ρ, E, A, q, f1, f2, f3, f4⟩ := hq
  refine ⟨Fr, Hs, ρ, _, A, q, fun ds ρ1 Hs1 H1 vs q1 s1 A1 r1 => ?_⟩
  obtain ⟨d, e, rfl, n1, n2, qn⟩ := q1
  cases r1 with
  | cons rd r2 =>
    cases r2 with
    | cons re r3 =>
      cases r3
      exact ⟨_, _, rfl, f1 _ _ Hs1 H1 qn s1 ((A1.put n1 rd).put (notIo_set n2) re)⟩
theorem ds_par3 (i j l : Nat) {x y z : Str} {t : TFD} {px py pz pt : Pos} {kt k2 pt2} (hc : X.calm = true) (hN : X.N.Nodup) (ha : DFs X [a, b, c] t) (hi : X.N[i]? = some x := by rfl) (hj : X.N[j]? = some y := by rfl) (hl : X.N[l]? = some z := by rfl) (hij : i ≠ j := by decide) (hil : i ≠ l := by decide) (hjl : j ≠ l := by decide)
    (hx : X.env.scope.names.lookup x = some .local := by rfl) (hy : X.env.scope.names.lookup y = some .local := by rfl) (hz : X.env.scope.names.lookup z = some .local := by rfl)
    (hw : swappedStores [.Tuple [.Name x px, .Name y py, .Name z pz] kt pt] (.Tuple [a, b, c] k2 pt2) X.env = pure (some [x, y, z]) := by rfl)
    (hs : swapsWithSole [.Tuple [.Name x px, .Name y py, .Name z pz] kt pt] (.Tuple [a, b, c] k2 pt2) pos.line X.env = pure false := by rfl) :
    DS X (.Assign [.Tuple [.Name x px, .Name y py, .Name z pz] kt pt] (.Tuple [a, b, c] k2 pt2) pos) (sPar3 i j l t) := by
  refine ⟨ps_imp (ps_par3 hc hN hi hj hl hij hil hjl hx hy hz ha.pa hw hs) fun D σ H hq => ?_⟩
  obtain ⟨Fr, Hs, ρ, E, A, q, f1, f2, f3, f4⟩ := hq
  refine ⟨Fr, Hs, ρ, _, A, q, fun ds ρ1 Hs1 H1 vs q1 s1 A1 r1 => ?_⟩
  obtain ⟨d, e, f, rfl, n1, n2, n3, qn⟩ := q1
  cases r1 with
  | cons rd r2 =>
    cases r2 with
    | cons re r3 =>
      cases r3 with
      | cons rf r4 =>
        cases r4
        exact ⟨_, _, _, rfl, f1 _ _ Hs1 H1 qn s1 (((A1.put n1 rd).put (notIo_set n2) re).put (notIo_set (notIo_set n3)) rf)⟩
end

/-! ### keywords -/
def gsel (n m : Nat) (idx : List Nat) {α : Type} (us ws : List α) : List α := if us.length = n ∧ ws.length = m then idx.filterMap (fun i => (us ++ ws)[i]?) else []
theorem sel_vals {vs : List V} {us : List Value} (r : Vals vs us) : ∀ idx : List Nat, Vals (idx.filterMap fun i => vs[i]?) (idx.filterMap fun i => us[i]?)
  | [] => .nil
  | i :: r' => by
    have ih := sel_vals r r'
    have l := r.length
    rw [List.filterMap_cons, List.filterMap_cons]
    cases e : vs[i]? with
    | none =>
      have e2 : us[i]? = none := by rw [List.getElem?_eq_none_iff] at e ⊢; omega
      rw [e2]; exact ih
    | some v =>
      obtain ⟨u, e2, q⟩ := r.get e
      rw [e2]; exact .cons q ih
theorem sel_data {K : Fg} {H : Hp} {vs : List V} {us : List Dat} (r : Rps K H vs us) : ∀ idx : List Nat, Rps K H (idx.filterMap fun i => vs[i]?) (idx.filterMap fun i => us[i]?)
  | [] => .nil
  | i :: r' => by
    have ih := sel_data r r'
    have l := r.length
    rw [List.filterMap_cons, List.filterMap_cons]
    cases e : us[i]? with
    | none =>
      have e2 : vs[i]? = none := by rw [List.getElem?_eq_none_iff] at e ⊢; omega
      rw [e2]; exact ih
    | some v =>
      obtain ⟨u, e2, q⟩ := r.get e
      rw [e2]; exact .cons q ih
theorem kw_of {K : Fg} {x qual : Str} {st : Stmt} {f : Addr} {fd : FuncData} {ps ks : List Str} {n m : Nat} {idx : List Nat} (F : Fun K x qual st f fd) (hp : ps.length ≠ 0)
    (h : ∀ (kV doc pm : Value) (an : Option Addr) (cdv ct : Value) (us ws : List Value), us.length = n → ws.length = m → bindArgs (PySem.W.fnOf x qual (defArgs st) (defBody st) (defScope st) .none kV doc pm an cdv ct) ⟨us, ks.zip ws⟩ = pure (ps.zip (gsel n m idx us ws))) : KwOrd K fd ps ks (gsel n m idx) where
  to := fun s us ws _ hl => by
    obtain ⟨oc, od, kV, doc, pm, an, cdv, ct, osl, rfl, lk, hcd⟩ := F.ex
    have hh : us.length = n ∧ ws.length = m := by
      by_cases c : us.length = n ∧ ws.length = m
      · exact c
      · unfold gsel at hl
        rw [if_neg c] at hl
        exact absurd hl.symm hp
    exact .of_eq (h kV doc pm an cdv ct us ws hh.1 hh.2)
  vals := fun {vs us zs ws} r r2 => by
    unfold gsel
    rw [r.length, r2.length]
    split
    · exact sel_vals (r.append r2) idx
    · exact .nil
  data := fun {K H vs ds zs es} r r2 => by
    unfold gsel
    rw [r.length, r2.length]
    split
    · exact sel_data (r.append r2) idx
    · exact .nil
/-! ### the module's constants -/
mutual
def kDat (K : Fg) : Nat → Value → Option Dat
  | 0, _ => none
  | n + 1, v => match v with
    | .none => some .none
    | .bool b => some (.bool b)
    | .int i _ => some (.int i)
    | .str x _ => some (.str x)
    | .ref a => match K.lookup a with
      | some ⟨.type "tuple", _, .seq its _, _⟩ => if its.size ≤ sizeLine then (kDats K n its.toList).map .tuple else none
      | some ⟨.type "list", none, .seq its _, _⟩ => if its.size ≤ sizeLine then (kDats K n its.toList).map .list else none
      | _ => none
    | _ => none
def kDats (K : Fg) : Nat → List Value → Option (List Dat)
  | 0, _ => none
  | _ + 1, [] => some []
  | n + 1, v :: vs => match kDat K n v, kDats K n vs with
    | some d, some ds => some (d :: ds)
    | _, _ => none
end
mutual
theorem kDat_ok {K : Fg} : ∀ (n : Nat) {v : Value} {d : Dat}, kDat K n v = some d → ∃ u, RelV u v ∧ ∀ Hs, Rp K Hs u d
  | 0, _, _, h => by simp [kDat] at h
  | n + 1, v, d, h => by
    unfold kDat at h
    split at h
    · cases h; exact ⟨.non, rfl, fun _ => .non⟩
    · cases h; exact ⟨.bl _, rfl, fun _ => .bl _⟩
    · cases h; exact ⟨.int _, ⟨_, rfl⟩, fun _ => .int _⟩
    · cases h; exact ⟨.str _, ⟨_, rfl⟩, fun _ => .str _⟩
    · rename_i a
      split at h
      · rename_i dd its m sl e
        split at h
        · rename_i hz
          obtain ⟨ds, e2, rfl⟩ := Option.map_eq_some_iff.mp h
          obtain ⟨us, r, q⟩ := kDats_ok n e2
          exact ⟨.ref a, rfl, fun Hs => .tup (.inr ⟨_, its, m, e, rfl, rfl, hz, r⟩) (q Hs)⟩
        · cases h
      · rename_i its m sl e
        split at h
        · rename_i hz
          obtain ⟨ds, e2, rfl⟩ := Option.map_eq_some_iff.mp h
          obtain ⟨us, r, q⟩ := kDats_ok n e2
          exact ⟨.ref a, rfl, fun Hs => .lst (.inr ⟨_, its, m, e, rfl, rfl, rfl, hz, r⟩) (q Hs)⟩
        · cases h
      · cases h
    · cases h
theorem kDats_ok {K : Fg} : ∀ (n : Nat) {v : List Value} {d : List Dat}, kDats K n v = some d → ∃ u, Vals u v ∧ ∀ Hs, Rps K Hs u d
  | 0, _, _, h => by simp [kDats] at h
  | n + 1, [], d, h => by
    simp [kDats] at h
    subst h
    exact ⟨[], .nil, fun _ => .nil⟩
  | n + 1, v :: vs, d, h => by
    unfold kDats at h
    split at h
    · rename_i e1 e2
      cases h
      obtain ⟨u, r, q⟩ := kDat_ok n e1
      obtain ⟨us, rs, qs⟩ := kDats_ok n e2
      exact ⟨u :: us, .cons r rs, fun Hs => .cons (q Hs) (qs Hs)⟩
    · cases h
end
structure KC (mg : Str → Option Value) (K : Fg) (x : Str) (d : Dat) : Prop where
  ex : ∃ u v, mg x = some v ∧ RelV u v ∧ ∀ Hs, Rp K Hs u d
theorem KC.of {K : Fg} {h : Heap} {mg : Str → Option Value} {x : Str} {v : Value} {d : Dat} (X : K.In h) (G : h.Ns mainGlobals mg) (e : PySem.W.nsIn K mainGlobals x = some (some v)) (n : Nat) (k : kDat K n v = some d) : KC mg K x d := by
  obtain ⟨u, r, q⟩ := kDat_ok n k
  exact ⟨u, v, PySem.W.mg_of X G e, r, q⟩
theorem KC.de {X : Cx} {x : Str} {d : Dat} {pos : Pos} (c : KC X.mg X.K x d) (hg : Gl X x) (hd : (x == ("__debug__" : Str)) = false := by decide) : DE X (.Name x pos) (dC d) := by
  obtain ⟨u, v, e, r, q⟩ := c.ex
  exact de_glob hg e r q hd
/-! ### the head -/
/-- the law's promise: handed the script, it answers True -/
def spLaw : FS := fun as Q => ∃ ns : List Int, as = [.sh (.list (ns.map .int))] ∧ ns.length ≤ 63 ∧ Q (.sh (.bool true)) []
/-- the script, frozen where it isn't the module's own -/
noncomputable def scrH (K : Fg) (a : Addr) (us : List Value) (ns : List Int) : Hp := open Classical in
  fun b => if b = a ∧ K.lookup a = none then some (.frz { cls := .type "list", data := .seq us.toArray } (.lst (ns.map V.int))) else none
section
variable {K : Fg} {a : Addr} {us : List Value} {ns : List Int}
theorem scrH_some {b : Addr} {u : HO} (h : scrH K a us ns b = some u) : b = a ∧ K.lookup a = none ∧ u = .frz { cls := .type "list", data := .seq us.toArray } (.lst (ns.map V.int)) := by
  unfold scrH at h
  split at h
  · rename_i c; cases h; exact ⟨c.1, c.2, rfl⟩
  · cases h
theorem scrH_seq {t : Heap} (ht : t.get? a = some { cls := .type "list", data := .seq us.toArray }) (hi : IntsAre us ns) (hl : ns.length ≤ 63) (KX : K.In t) : SqL K (scrH K a us ns) a (ns.map V.int) := by
  have n := hi.length
  have z : us.toArray.size ≤ sizeLine := by
    rw [List.size_toArray, n]
    exact Nat.le_trans hl (by decide)
  cases q : K.lookup a with
  | none => exact .inl (.inr ⟨_, by unfold scrH; rw [if_pos ⟨rfl, q⟩]⟩)
  | some o =>
    have y := KX a o q
    rw [ht] at y
    cases y
    exact .inr ⟨_, us.toArray, _, q, rfl, rfl, rfl, z, by simpa using vals_ints hi⟩
end
theorem lawD_call {P : Program} {w : World} {K : Fg} {mg mb : Str → Option Value} {k : Nat} {fa a : Addr} {fd : FuncData} {x : Str} {t : Shared} {us : List Value} {ns : List Int}
    (KX : K.In t.heap) (nsG : t.heap.Ns mainGlobals mg) (nsB : t.heap.Ns builtinsNs mb) (bt : ∀ y : Str, y ≠ "__name__" → mb y = bootBuiltins y) (nl : t.heap.NoLimit) (ng : t.gens = #[])
    (ht : t.heap.get? a = some { cls := .type "list", data := .seq us.toArray }) (hi : IntsAre us ns) (hl : ns.length ≤ 63) (hr : Room k callerA)
    (F : ∀ base : Heap, GFn P w K mg base k fa fd [x] spLaw) (bd : ∀ (s : Shared) (u : Value), BindsTo s fd ⟨[u], []⟩ [(x, u)]) :
    codeAny (model P w) callerA (.call (.ref fa) ⟨[.ref a], []⟩) (fun z t' => z = .ok (.ret (.bool true)) ∧ OldK t.heap t'.heap ∧ t'.os = t.os ∧ AllBare t'.gens) t := by
  have sq := scrH_seq ht hi hl KX
  have z63 : (ns.map V.int).length ≤ sizeLine := by
    rw [List.length_map]
    exact Nat.le_trans hl (by decide)
  -- what is hidden
  have keep : ∀ {b : Addr} {o : Obj}, t.heap.get? b = some o → (b = a → K.lookup a ≠ none) → (hidT t.heap (scrH K a us ns)).get? b = some o := fun {b o} e hb => hidT_get e (by
    cases q : scrH K a us ns b with
    | none => rfl
    | some u => obtain ⟨h1, h2, _⟩ := scrH_some q; exact absurd h2 (hb h1))
  have nsD : ∀ {b : Addr} {m : Str → Option Value}, t.heap.Ns b m → (hidT t.heap (scrH K a us ns)).Ns b m := fun {b m} ⟨o, es, ep, e, d, r⟩ => ⟨o, es, ep, keep e (fun hb => by
    subst hb
    rw [ht] at e
    cases e
    exact nomatch (show Data.seq us.toArray _ = Data.dict es ep from d)), d, r⟩
  have KI : K.In (hidT t.heap (scrH K a us ns)) := fun b o e => keep (KX b o e) fun hb n => by
    subst hb
    rw [n] at e
    cases e
  have ho : HOk P w (scrH K a us ns) t.heap := fun b u e => by
    obtain ⟨rfl, _, rfl⟩ := scrH_some e
    exact ⟨ht, z63, us, _, vals_ints hi, ht⟩
  have md : Mod K mg (hidT t.heap (scrH K a us ns)) := ⟨KI, nsD nsG, ⟨mb, nsD nsB, bt⟩, let ⟨mc, h1, h2⟩ := nl; ⟨mc, nsD h1, h2⟩⟩
  have e0 : Env0 P w K mg (hidT t.heap (scrH K a us ns)) callerA [] t (scrH K a us ns) := ⟨rfl, md, fun _ _ => of_hidT, Nat.le_of_eq (hidT_size _ _), trivial, fun b hb => absurd (show b ∈ ([] : List Addr) from hb) (by simp), ho, .of_eq ng⟩
  have rs : RS K (fun _ => none) (scrH K a us ns) (scrH K a us ns) ([Sl.sh (.list (ns.map .int))].zip ([V.ref a].map some)) :=
    ⟨.refl _, fun _ _ e => (nomatch e), fun _ _ e => (nomatch e), fun y hy => by
      obtain rfl : y = (Sl.sh (.list (ns.map .int)), some (V.ref a)) := by simpa using hy
      exact ⟨_, rfl, .lst sq (Rps.ints ns)⟩, List.nodup_nil, fun p hp => by simp [own1] at hp⟩
  refine codeAny_mono ((F _).run callerA [] t (scrH K a us ns) ⟨[.ref a], []⟩ [.ref a] [.ref a] (fun v _ => v = .bl true) _ _ _ (fun z _ => z = .sh (.bool true)) hr rfl e0 (bd t (.ref a)) (.cons rfl .nil) rfl rfl rs ⟨ns, rfl, hl, rfl⟩ fun z ios Hs' H' v hz _ R => ?_) fun z t' h => ?_
  · subst hz
    obtain ⟨v', e, r⟩ := R.head
    cases e
    cases r
    rfl
  · match z, h with
    | .error e, h => exact h.elim
    | .ok .next, h => exact h.elim
    | .ok .brk, h => exact h.elim
    | .ok .cont, h => exact h.elim
    | .ok (.ret u), h =>
      obtain ⟨v, H', os, bare, un, hok', r', q⟩ := h
      have q : v = .bl true := q
      subst q
      obtain rfl : u = Value.bool true := r'
      refine ⟨rfl, OldK.of_keep fun b o e => ?_, os, bare⟩
      cases q : scrH K a us ns b with
      | none => exact un.keep b o e q (fun y => absurd (show b ∈ ([] : List Addr) from y) (by simp)) (by simp)
      | some u =>
        obtain ⟨rfl, _, rfl⟩ := scrH_some q
        obtain ⟨e2, _⟩ := hok' b _ (un.frzs b _ _ q)
        rw [ht] at e
        cases e
        exact e2
theorem walk_D {l : PySem.W.OpenLaw} {k : Nat} {q : Program} {loose : List Str} {XP : (Str → Option Value) → Heap → Prop} {YP : World → Heap → Prop} {d : DefRec} {K : Params → Fg} {x : Str}
    (hm : l.most = some 63) (hdf : d.params.defaults = []) (hr : Room k callerA) (hY : ∀ (w : World) (h : Heap), YP w h → (K w.params).In h)
    (F : ∀ (w : World) (mg : Str → Option Value) (fa : Addr) (h : Heap), (K w.params).In h → h.Ns mainGlobals mg → mg d.name = some (.ref fa) →
      ∃ fd : FuncData, Binds (K w.params) fd [x] [] ∧ (∀ (s : Shared) (u : Value), BindsTo s fd ⟨[u], []⟩ [(x, u)]) ∧ ∀ base : Heap, GFn l.prog w (K w.params) mg base k fa fd [x] spLaw) :
    PySem.W.WalkO q loose XP YP l.row.toRowW d [] (fun f us => PySem.call f us) := by
  refine Att.attach_call hm hdf fun w t₀ t mg mb fa o pm cd doc a us ns G Y ho hd hcd hmg ht hi hlen ng => ?_
  have KX := hY w _ Y
  obtain ⟨fd, _, hb, hF⟩ := F w mg fa _ KX G.T.g hmg
  exact lawD_call KX G.T.g G.T.b G.T.builtins G.T.nolimit ng ht hi hlen hr hF hb

/-! ### a, b = x, y: what is owned stays owned -/
theorem RS.hold {K : Fg} {Fr Hs H : Hp} {l : List (Sl × Option V)} {s : Sl} {v : V} (R : RS K Fr Hs H ((s, some v) :: l)) :
    ∃ Fr', RS K Fr' Hs H l ∧ ∀ (Hs' H' : Hp) (m : List (Sl × Option V)), Same Hs Hs' → RS K Fr' Hs' H' m → RS K Fr Hs' H' ((s, some v) :: m) := by
  cases s with
  | un => exact ⟨Fr, R.tail, fun Hs' H' m _ R' => R'.add trivial rfl⟩
  | sh d =>
    obtain ⟨w, e, r⟩ := R.head
    cases e
    exact ⟨Fr, R.tail, fun Hs' H' m ss R' => R'.add ⟨v, rfl, r.mono (.of ss)⟩ rfl⟩
  | ol ds =>
    obtain ⟨p, vs, e, hp, r⟩ := R.head
    cases e
    obtain ⟨R1, f1, _⟩ := R.lend rfl hp
    exact ⟨_, R1, fun Hs' H' m ss R' => R'.back f1 trivial rfl ⟨p, vs, rfl, R'.fr p _ upd_same, r.mono (.of ss)⟩⟩
  | io q ds =>
    obtain ⟨vs, e, hp, r⟩ := R.head
    cases e
    obtain ⟨R1, f1, _⟩ := R.lend rfl hp
    exact ⟨_, R1, fun Hs' H' m ss R' => R'.back f1 trivial rfl ⟨vs, rfl, R'.fr q _ upd_same, r.mono (.of ss)⟩⟩
  | od es =>
    obtain ⟨p, e, h⟩ := R.head
    cases e
    rcases h with ⟨ks, hp, r⟩ | ⟨ks, hp, r⟩
    · obtain ⟨R1, f1, _⟩ := R.lend rfl hp
      exact ⟨_, R1, fun Hs' H' m ss R' => R'.back f1 trivial rfl ⟨p, rfl, .inl ⟨ks, R'.fr p _ upd_same, r.mono (.of ss)⟩⟩⟩
    · obtain ⟨R1, f1, _⟩ := R.lend rfl hp
      exact ⟨_, R1, fun Hs' H' m ss R' => R'.back f1 trivial rfl ⟨p, rfl, .inr ⟨ks, R'.fr p _ upd_same, r.mono (.of ss)⟩⟩⟩
abbrev TVD := Ev → (List Sl → Ev → Prop) → Prop
def lV (K : Fg) (t : TVD) : TA := fun σ H Q => ∃ (Fr Hs : Hp) (ρ : Ev) (QD : List Sl → Ev → Prop), At K Fr Hs ρ σ H ∧ t ρ QD ∧
  ∀ ss ρ' Hs' H' vs, QD ss ρ' → Same Hs Hs' → ρ'.length = σ.length → ss.length = vs.length → RS K Fr Hs' H' (ss.zip (vs.map some) ++ ρ'.zip σ) → Q vs H'
structure DVs (X : Cx) (es : List Expr) (t : TVD) : Prop where
  pa : PA X es (lV X.K t)
def vNil : TVD := fun ρ Q => Q [] ρ
def vCons (t : TD) (r : TVD) : TVD := fun ρ Q => t ρ fun s ρ1 => r ρ1 fun ss ρ2 => Q (s :: ss) ρ2
def sParV (i j : Nat) (t : TVD) : TSD := fun E ρ => t ρ fun ss ρ1 => match ss with | [s1, s2] => notIo ρ1[i]? ∧ notIo ρ1[j]? ∧ E.nx ((ρ1.set i s1).set j s2) | _ => False
def sParV3 (i j l : Nat) (t : TVD) : TSD := fun E ρ => t ρ fun ss ρ1 => match ss with | [s1, s2, s3] => notIo ρ1[i]? ∧ notIo ρ1[j]? ∧ notIo ρ1[l]? ∧ E.nx (((ρ1.set i s1).set j s2).set l s3) | _ => False
section
variable {X : Cx} {a b c e : Expr} {es : List Expr} {pos : Pos}
theorem dv_nil : DVs X [] vNil := ⟨pa_imp pa_nil fun σ H Q ⟨Fr, Hs, ρ, QD, A, q, f⟩ => f [] ρ Hs H [] q (.refl _) A.len rfl A.rs⟩
theorem dv_cons {t : TD} {r : TVD} (h : DE X e t) (hr : DVs X es r) (hs : starEach (e :: es) X.env = (false, eval e X.env) :: starEach es X.env := by rfl) : DVs X (e :: es) (vCons t r) := by
  refine ⟨pa_imp (pa_cons h.pe hr.pa hs) fun σ H Q hq => ?_⟩
  obtain ⟨Fr, Hs, ρ, QD, A, q, f⟩ := hq
  refine ⟨Fr, Hs, ρ, _, A, q, fun s ρ1 Hs1 H1 v q1 hl s1 R => ?_⟩
  obtain ⟨Fr', R1, give⟩ := R.hold
  refine ⟨Fr', Hs1, ρ1, _, ⟨hl, R1⟩, q1, fun ss ρ2 Hs2 H2 vs q2 s2 l2 lv R2 => ?_⟩
  exact f (s :: ss) ρ2 Hs2 H2 (v :: vs) q2 (s1.trans s2) l2 (by simp [lv]) (give Hs2 H2 _ s2 R2)
theorem notIo_set' {ρ : Ev} {i j : Nat} {s : Sl} (hij : i ≠ j) (h : notIo ρ[j]?) : notIo (ρ.set i s)[j]? := by
  rw [List.getElem?_set_ne hij]; exact h
theorem store2 {K : Fg} {Fr Hs H : Hp} {ρ : Ev} {σ : St} {i : Nat} {s : Sl} {v : V} {l : List (Sl × Option V)} (hl : ρ.length = σ.length) (h : notIo ρ[i]?) (R : RS K Fr Hs H ((s, some v) :: ρ.zip σ)) : At K Fr Hs (ρ.set i s) (σ.set i (some v)) H :=
  RS.store hl (notIo_lt h) R
theorem ds_parV (i j : Nat) {x y : Str} {t : TVD} {px py pt : Pos} {kt k2 pt2} (hc : X.calm = true) (hN : X.N.Nodup) (ha : DVs X [a, b] t) (hi : X.N[i]? = some x := by rfl) (hj : X.N[j]? = some y := by rfl) (hij : i ≠ j := by decide)
    (hx : X.env.scope.names.lookup x = some .local := by rfl) (hy : X.env.scope.names.lookup y = some .local := by rfl)
    (hw : swappedStores [.Tuple [.Name x px, .Name y py] kt pt] (.Tuple [a, b] k2 pt2) X.env = pure (some [x, y]) := by rfl)
    (hs : swapsWithSole [.Tuple [.Name x px, .Name y py] kt pt] (.Tuple [a, b] k2 pt2) pos.line X.env = pure false := by rfl) :
    DS X (.Assign [.Tuple [.Name x px, .Name y py] kt pt] (.Tuple [a, b] k2 pt2) pos) (sParV i j t) := by
  refine ⟨ps_imp (ps_par hc hN hi hj hij hx hy ha.pa hw hs) fun D σ H hq => ?_⟩
  obtain ⟨Fr, Hs, ρ, E, A, q, f1, f2, f3, f4⟩ := hq
  refine ⟨Fr, Hs, ρ, _, A, q, fun ss ρ1 Hs1 H1 vs q1 s1 l1 lv R => ?_⟩
  match ss, vs, q1, lv, R with
  | [z1, z2], [v1, v2], ⟨n1, n2, qn⟩, _, R =>
    refine ⟨v1, v2, rfl, ?_⟩
    obtain ⟨Fr1, R1, g1⟩ := RS.hold (s := z1) (v := v1) (l := (z2, some v2) :: ρ1.zip σ) R
    have A1 := RS.store l1 (notIo_lt n2) R1
    have A2 := RS.store A1.len (notIo_lt (notIo_set' hij.symm n1)) (g1 _ _ _ (.refl _) A1.rs)
    rw [List.set_comm _ _ hij.symm, List.set_comm _ _ hij.symm] at A2
    exact f1 _ _ Hs1 H1 qn s1 A2
  | [_, _], [], _, lv, _ => simp at lv
  | [_, _], [_], _, lv, _ => simp at lv
  | [_, _], _ :: _ :: _ :: _, _, lv, _ => simp at lv
  | [], _, q1, _, _ => exact q1.elim
  | [_], _, q1, _, _ => exact q1.elim
  | _ :: _ :: _ :: _, _, q1, _, _ => exact q1.elim
theorem ds_parV3 (i j l : Nat) {x y z : Str} {t : TVD} {px py pz pt : Pos} {kt k2 pt2} (hc : X.calm = true) (hN : X.N.Nodup) (ha : DVs X [a, b, c] t) (hi : X.N[i]? = some x := by rfl) (hj : X.N[j]? = some y := by rfl) (hl : X.N[l]? = some z := by rfl) (hij : i ≠ j := by decide) (hil : i ≠ l := by decide) (hjl : j ≠ l := by decide)
    (hx : X.env.scope.names.lookup x = some .local := by rfl) (hy : X.env.scope.names.lookup y = some .local := by rfl) (hz : X.env.scope.names.lookup z = some .local := by rfl)
    (hw : swappedStores [.Tuple [.Name x px, .Name y py, .Name z pz] kt pt] (.Tuple [a, b, c] k2 pt2) X.env = pure (some [x, y, z]) := by rfl)
    (hs : swapsWithSole [.Tuple [.Name x px, .Name y py, .Name z pz] kt pt] (.Tuple [a, b, c] k2 pt2) pos.line X.env = pure false := by rfl) :
    DS X (.Assign [.Tuple [.Name x px, .Name y py, .Name z pz] kt pt] (.Tuple [a, b, c] k2 pt2) pos) (sParV3 i j l t) := by
  refine ⟨ps_imp (ps_par3 hc hN hi hj hl hij hil hjl hx hy hz ha.pa hw hs) fun D σ H hq => ?_⟩
  obtain ⟨Fr, Hs, ρ, E, A, q, f1, f2, f3, f4⟩ := hq
  refine ⟨Fr, Hs, ρ, _, A, q, fun ss ρ1 Hs1 H1 vs q1 s1 l1 lv R => ?_⟩
  match ss, vs, q1, lv, R with
  | [z1, z2, z3], [v1, v2, v3], ⟨n1, n2, n3, qn⟩, _, R =>
    refine ⟨v1, v2, v3, rfl, ?_⟩
    obtain ⟨Fr1, R1, g1⟩ := RS.hold (s := z1) (v := v1) (l := (z2, some v2) :: (z3, some v3) :: ρ1.zip σ) R
    obtain ⟨Fr2, R2, g2⟩ := RS.hold (s := z2) (v := v2) (l := (z3, some v3) :: ρ1.zip σ) R1
    have A1 := RS.store l1 (notIo_lt n3) R2
    have A2 := RS.store A1.len (notIo_lt (notIo_set' hjl.symm n2)) (g2 _ _ _ (.refl _) A1.rs)
    have A3 := RS.store A2.len (notIo_lt (notIo_set' hij.symm (notIo_set' hil.symm n1))) (g1 _ _ _ (.refl _) A2.rs)
    rw [List.set_comm (i := l) (j := j) _ _ hjl.symm, List.set_comm (i := l) (j := j) _ _ hjl.symm, List.set_comm (i := l) (j := i) _ _ hil.symm, List.set_comm (i := l) (j := i) _ _ hil.symm, List.set_comm (i := j) (j := i) _ _ hij.symm, List.set_comm (i := j) (j := i) _ _ hij.symm] at A3
    exact f1 _ _ Hs1 H1 qn s1 A3
  | [_, _, _], [], _, lv, _ => simp at lv
  | [_, _, _], [_], _, lv, _ => simp at lv
  | [_, _, _], [_, _], _, lv, _ => simp at lv
  | [_, _, _], _ :: _ :: _ :: _ :: _, _, lv, _ => simp at lv
  | [], _, q1, _, _ => exact q1.elim
  | [_], _, q1, _, _ => exact q1.elim
  | [_, _], _, q1, _, _ => exact q1.elim
  | _ :: _ :: _ :: _ :: _, _, q1, _, _ => exact q1.elim
end

/-! ### rules of simp, from the outside in: the pure reading, step by step -/
def onS (ρ : Ev) (i : Nat) (k : Sl → Prop) : Prop := ∃ s, ρ[i]? = some s ∧ k s
def setK (ρ : Ev) (i : Nat) (s : Sl) (k : Ev → Prop) : Prop := k (ρ.set i s)
def slD : Sl → (Dat → Prop) → Prop
  | .sh d, k => k d
  | .ol ds, k => k (.list ds)
  | .od es, k => k (.dict es)
  | .io _ ds, k => k (.list ds)
  | .un, _ => False
def onL (ρ : Ev) : Lt → (Dat → Prop) → Prop
  | .c d, k => k d
  | .s i, k => onS ρ i fun s => slD s k
def onLs (ρ : Ev) : List Lt → (List Dat → Prop) → Prop
  | [], k => k []
  | l :: ls, k => onL ρ l fun d => onLs ρ ls fun ds => k (d :: ds)
def onB : Sl → (Bool → Prop) → Prop
  | .sh (.bool b), k => k b
  | _, _ => False
def onI : Sl → (Int → Prop) → Prop
  | .sh (.int b), k => k b
  | _, _ => False
def onList : Dat → (List Dat → Prop) → Prop
  | .list ds, k => k ds
  | _, _ => False
def onTup : Dat → (List Dat → Prop) → Prop
  | .tuple ds, k => k ds
  | _, _ => False
def onLst : Sl → (List Dat → (List Dat → Sl) → Prop) → Prop
  | .ol ds, k => k ds .ol
  | .io p ds, k => k ds (.io p)
  | _, _ => False
def onLent : Sl → (Addr → List Dat → (List Dat → Sl) → Prop) → Prop
  | .ol ds, k => ∀ p, k p ds .ol
  | .io p ds, k => k p ds (.io p)
  | _, _ => False
def iosOne (p : Addr) (ios : List (Addr × List Dat)) (k : List Dat → Prop) : Prop := ∃ xs, ios = [(p, xs)] ∧ k xs
def isL : Sl → Prop
  | .ol _ => True
  | .io _ _ => True
  | _ => False
def par2 : List Sl → (Sl → Sl → Prop) → Prop
  | [a, b], k => k a b
  | _, _ => False
def atD (xs : List Dat) (i : Int) (k : Dat → Prop) : Prop := ∃ d, atI xs i = some d ∧ k d
theorem onL_eq {ρ : Ev} {l : Lt} {k : Dat → Prop} : onL ρ l k ↔ ∃ d, l.get ρ = some d ∧ k d := by
  cases l with
  | c d => simp [onL, Lt.get]
  | s i =>
    unfold onL onS Lt.get
    cases e : ρ[i]? with
    | none => simp [e]
    | some s => cases s <;> simp [e, slD]
theorem onLs_eq {ρ : Ev} : ∀ {l : List Lt} {k : List Dat → Prop}, onLs ρ l k ↔ ∃ d, gets ρ l = some d ∧ k d
  | [], k => by simp [onLs, gets]
  | l :: ls, k => by
    unfold onLs gets
    rw [onL_eq]
    constructor
    · rintro ⟨d, e, h⟩
      obtain ⟨ds, e2, h⟩ := onLs_eq.mp h
      exact ⟨d :: ds, by rw [e, e2], h⟩
    · rintro ⟨x, e, h⟩
      cases e1 : l.get ρ with
      | none => rw [e1] at e; cases e
      | some d =>
        cases e2 : gets ρ ls with
        | none => rw [e1, e2] at e; cases e
        | some ds =>
          rw [e1, e2] at e
          cases e
          exact ⟨d, rfl, onLs_eq.mpr ⟨ds, e2, h⟩⟩
theorem onB_eq {s : Sl} {k : Bool → Prop} : (∃ b, s = .sh (.bool b) ∧ k b) = onB s k := by
  apply propext
  constructor
  · rintro ⟨b, rfl, h⟩; exact h
  · intro h
    unfold onB at h
    split at h
    · exact ⟨_, rfl, h⟩
    · exact h.elim
theorem onI_eq {s : Sl} {k : Int → Prop} : (∃ b, s = .sh (.int b) ∧ k b) = onI s k := by
  apply propext
  constructor
  · rintro ⟨b, rfl, h⟩; exact h
  · intro h
    unfold onI at h
    split at h
    · exact ⟨_, rfl, h⟩
    · exact h.elim
theorem onList_eq {s : Dat} {k : List Dat → Prop} : (∃ b, s = .list b ∧ k b) = onList s k := by
  apply propext
  constructor
  · rintro ⟨b, rfl, h⟩; exact h
  · intro h
    unfold onList at h
    split at h
    · exact ⟨_, rfl, h⟩
    · exact h.elim
theorem onTup_eq {s : Dat} {k : List Dat → Prop} : (∃ b, s = .tuple b ∧ k b) = onTup s k := by
  apply propext
  constructor
  · rintro ⟨b, rfl, h⟩; exact h
  · intro h
    unfold onTup at h
    split at h
    · exact ⟨_, rfl, h⟩
    · exact h.elim
theorem lst_eq {ρ : Ev} {i : Nat} {k : List Dat → (List Dat → Sl) → Prop} : (∃ ds, lstAt ρ i = some ds ∧ k ds (fun ds' => match ρ[i]? with | some (.io p _) => .io p ds' | _ => .ol ds')) = onS ρ i fun s => onLst s k := by
  apply propext
  unfold onS lstAt
  cases e : ρ[i]? with
  | none => simp [e]
  | some s => cases s <;> simp [e, onLst]
theorem isL_eq {ρ : Ev} {i : Nat} : (lstAt ρ i).isSome = true ↔ ∃ s, ρ[i]? = some s ∧ isL s := by
  unfold lstAt
  cases e : ρ[i]? with
  | none => simp [e]
  | some s => cases s <;> simp [e, isL]
theorem putAt_eq {ρ : Ev} {i : Nat} {ds : List Dat} : putAt ρ i ds = ρ.set i (match ρ[i]? with | some (.io p _) => .io p ds | _ => .ol ds) := by
  unfold putAt
  cases e : ρ[i]? with
  | none => simp [e]
  | some s => cases s <;> simp [e]

def retS : Sl → (Sl → Prop) → (Sl → Prop) → Prop
  | .sh d, k, _ => k (.sh d)
  | .ol d, _, k => k (.ol d)
  | .od d, _, k => k (.od d)
  | _, _, _ => False
def par2D : List Dat → (Dat → Dat → Prop) → Prop
  | [a, b], k => k a b
  | _, _ => False
def par3D : List Dat → (Dat → Dat → Dat → Prop) → Prop
  | [a, b, c], k => k a b c
  | _, _ => False
section
variable {k : Sl → Prop} {kd : Dat → Prop} {ke : Ev → Prop} {s : Sl} {ρ : Ev}
@[simp ↓] theorem o_S0 : onS (s :: ρ) 0 k = k s := by unfold onS; simp
@[simp ↓] theorem o_S1 (n : Nat) : onS (s :: ρ) (n + 1) k = onS ρ n k := by unfold onS; simp
@[simp ↓] theorem o_K0 (z : Sl) : setK (s :: ρ) 0 z ke = ke (z :: ρ) := rfl
@[simp ↓] theorem o_K1 (z : Sl) (n : Nat) : setK (s :: ρ) (n + 1) z ke = setK ρ n z fun l => ke (s :: l) := rfl
@[simp ↓] theorem o_D1 (d : Dat) : slD (.sh d) kd = kd d := rfl
@[simp ↓] theorem o_D2 (d : List Dat) : slD (.ol d) kd = kd (.list d) := rfl
@[simp ↓] theorem o_D3 (d : List (Dat × Dat)) : slD (.od d) kd = kd (.dict d) := rfl
@[simp ↓] theorem o_D4 (p : Addr) (d : List Dat) : slD (.io p d) kd = kd (.list d) := rfl
@[simp ↓] theorem o_L1 (d : Dat) : onL ρ (.c d) kd = kd d := rfl
@[simp ↓] theorem o_L2 (i : Nat) : onL ρ (.s i) kd = onS ρ i fun s => slD s kd := rfl
@[simp ↓] theorem o_Ls1 {k : List Dat → Prop} : onLs ρ [] k = k [] := rfl
@[simp ↓] theorem o_Ls2 {k : List Dat → Prop} (l : Lt) (ls : List Lt) : onLs ρ (l :: ls) k = onL ρ l fun d => onLs ρ ls fun ds => k (d :: ds) := rfl
@[simp ↓] theorem o_B {k : Bool → Prop} (b : Bool) : onB (.sh (.bool b)) k = k b := rfl
@[simp ↓] theorem o_I {k : Int → Prop} (b : Int) : onI (.sh (.int b)) k = k b := rfl
@[simp ↓] theorem o_li {k : List Dat → Prop} (b : List Dat) : onList (.list b) k = k b := rfl
@[simp ↓] theorem o_tu {k : List Dat → Prop} (b : List Dat) : onTup (.tuple b) k = k b := rfl
@[simp ↓] theorem o_ls1 {k : List Dat → (List Dat → Sl) → Prop} (b : List Dat) : onLst (.ol b) k = k b .ol := rfl
@[simp ↓] theorem o_ls2 {k : List Dat → (List Dat → Sl) → Prop} (p : Addr) (b : List Dat) : onLst (.io p b) k = k b (.io p) := rfl
@[simp ↓] theorem o_le1 {k : Addr → List Dat → (List Dat → Sl) → Prop} (b : List Dat) : onLent (.ol b) k = ∀ p, k p b .ol := rfl
@[simp ↓] theorem o_le2 {k : Addr → List Dat → (List Dat → Sl) → Prop} (p : Addr) (b : List Dat) : onLent (.io p b) k = k p b (.io p) := rfl
@[simp ↓] theorem o_one {k : List Dat → Prop} (p : Addr) (b : List Dat) : iosOne p [(p, b)] k = k b := by unfold iosOne; simp
@[simp] theorem o_isL1 (b : List Dat) : isL (.ol b) = True := rfl
@[simp] theorem o_isL2 (p : Addr) (b : List Dat) : isL (.io p b) = True := rfl
@[simp ↓] theorem o_p2 {k : Sl → Sl → Prop} (a b : Sl) : par2 [a, b] k = k a b := rfl
@[simp ↓] theorem o_p2D {k : Dat → Dat → Prop} (a b : Dat) : par2D [a, b] k = k a b := rfl
@[simp ↓] theorem o_p3D {k : Dat → Dat → Dat → Prop} (a b c : Dat) : par3D [a, b, c] k = k a b c := rfl
@[simp ↓] theorem o_r1 {k l : Sl → Prop} (d : Dat) : retS (.sh d) k l = k (.sh d) := rfl
@[simp ↓] theorem o_r2 {k l : Sl → Prop} (d : List Dat) : retS (.ol d) k l = l (.ol d) := rfl
@[simp ↓] theorem o_r3 {k l : Sl → Prop} (d : List (Dat × Dat)) : retS (.od d) k l = l (.od d) := rfl
@[simp ↓] theorem o_a0 (x : Dat) (xs : List Dat) : atD (x :: xs) 0 kd = kd x := by
  have e : atI (x :: xs) ((0 : Nat) : Int) = some x := atI_nat (by simp)
  unfold atD; simp at e; simp [e]
@[simp ↓] theorem o_a1 (x y : Dat) (xs : List Dat) : atD (x :: y :: xs) 1 kd = kd y := by
  have e : atI (x :: y :: xs) ((1 : Nat) : Int) = some y := atI_nat (by simp)
  unfold atD; simp at e; simp [e]
@[simp ↓] theorem o_a2 (x y z : Dat) (xs : List Dat) : atD (x :: y :: z :: xs) 2 kd = kd z := by
  have e : atI (x :: y :: z :: xs) ((2 : Nat) : Int) = some z := atI_nat (by simp)
  unfold atD; simp at e; simp [e]
@[simp ↓] theorem o_a3 (x y z u : Dat) (xs : List Dat) : atD (x :: y :: z :: u :: xs) 3 kd = kd u := by
  have e : atI (x :: y :: z :: u :: xs) ((3 : Nat) : Int) = some u := atI_nat (by simp)
  unfold atD; simp at e; simp [e]
theorem atD_of {xs : List Dat} {i : Int} {d : Dat} (e : atI xs i = some d) : atD xs i kd = kd d := by unfold atD; simp [e]
end
section
variable {ρ : Ev} {Q : Sl → Ev → Prop} {E : DEn}
@[simp ↓] theorem q_dC (d : Dat) : dC d ρ Q = Q (.sh d) ρ := rfl
@[simp ↓] theorem q_dVar (i : Nat) : dVar i ρ Q = onS ρ i fun s => fz s fun d => setK ρ i (.sh d) fun ρ2 => Q (.sh d) ρ2 := rfl
@[simp ↓] theorem q_dBin (f : F2) (a b : TOD) : dBin f a b ρ Q = a ρ fun la ρ1 => b ρ1 fun lb ρ2 => onL ρ2 la fun dx => onL ρ2 lb fun dy => f dx dy fun s => Q s ρ2 := by
  unfold dBin
  congr 1; funext la ρ1; congr 1; funext lb ρ2
  apply propext
  rw [onL_eq]
  constructor
  · rintro ⟨dx, dy, e1, e2, h⟩; exact ⟨dx, e1, onL_eq.mpr ⟨dy, e2, h⟩⟩
  · rintro ⟨dx, e1, h⟩; obtain ⟨dy, e2, h⟩ := onL_eq.mp h; exact ⟨dx, dy, e1, e2, h⟩
@[simp ↓] theorem q_dUn (f : F1) (a : TOD) : dUn f a ρ Q = a ρ fun la ρ1 => onL ρ1 la fun dx => f dx fun s => Q s ρ1 := by
  unfold dUn
  congr 1; funext la ρ1
  exact (propext onL_eq).symm
@[simp ↓] theorem q_oVar {Q : Lt → Ev → Prop} (i : Nat) : oVar i ρ Q = (((Lt.s i).get ρ).isSome = true ∧ Q (.s i) ρ) := rfl
@[simp ↓] theorem q_oExp {Q : Lt → Ev → Prop} (t : TD) : oExp t ρ Q = t ρ fun s ρ' => fz s fun d => Q (.c d) ρ' := rfl
@[simp ↓] theorem q_aNil {Q : List Lt → Ev → Prop} : aNil ρ Q = Q [] ρ := rfl
@[simp ↓] theorem q_aCons {Q : List Lt → Ev → Prop} (a : TOD) (r : TAD) : aCons a r ρ Q = a ρ fun l ρ1 => r ρ1 fun ls ρ2 => Q (l :: ls) ρ2 := rfl
@[simp ↓] theorem q_getC (d : Dat) : (Lt.c d).get ρ = some d := rfl
@[simp ↓] theorem q_getS (i : Nat) : (Lt.s i).get ρ = match ρ[i]? with | some (.sh d) => some d | some (.ol ds) => some (.list ds) | some (.od es) => some (.dict es) | some (.io _ ds) => some (.list ds) | _ => none := rfl
@[simp ↓] theorem q_dCall (f : FN) (a : TAD) : dCall f a ρ Q = a ρ fun ls ρ1 => onLs ρ1 ls fun ds => f ds fun s => Q s ρ1 := by
  unfold dCall
  congr 1; funext la ρ1
  exact (propext onLs_eq).symm
@[simp ↓] theorem q_fNil {Q : List Dat → Ev → Prop} : fNil ρ Q = Q [] ρ := rfl
@[simp ↓] theorem q_fCons {Q : List Dat → Ev → Prop} (t : TD) (r : TFD) : fCons t r ρ Q = t ρ fun s ρ1 => fz s fun d => r ρ1 fun ds ρ2 => Q (d :: ds) ρ2 := rfl
@[simp ↓] theorem q_dTup (t : TFD) : dTup t ρ Q = t ρ fun ds ρ1 => ds.length ≤ sizeLine ∧ Q (.sh (.tuple ds)) ρ1 := rfl
@[simp ↓] theorem q_dLst (t : TFD) : dLst t ρ Q = t ρ fun ds ρ1 => ds.length ≤ sizeLine ∧ Q (.ol ds) ρ1 := rfl
@[simp ↓] theorem q_tVal {Q : Bool → Ev → Prop} (t : TD) : tVal t ρ Q = t ρ fun s ρ1 => onB s fun b => Q b ρ1 := by
  unfold tVal
  congr 1; funext s ρ1
  exact onB_eq
@[simp ↓] theorem q_tTru {Q : Bool → Ev → Prop} (t : TOD) : tTru t ρ Q = t ρ fun l ρ1 => onL ρ1 l fun d => tru d fun b => Q b ρ1 := by
  unfold tTru
  congr 1; funext s ρ1
  exact (propext onL_eq).symm
@[simp ↓] theorem q_tNotD {Q : Bool → Ev → Prop} (t : TTD) : tNotD t ρ Q = t ρ fun b ρ1 => Q (!b) ρ1 := rfl
@[simp ↓] theorem q_tAndD {Q : Bool → Ev → Prop} (t u : TTD) : tAndD t u ρ Q = t ρ fun b ρ1 => if b = true then u ρ1 Q else Q false ρ1 := rfl
@[simp ↓] theorem q_tOrD {Q : Bool → Ev → Prop} (t u : TTD) : tOrD t u ρ Q = t ρ fun b ρ1 => if b = true then Q true ρ1 else u ρ1 Q := rfl
@[simp ↓] theorem q_tYesD {Q : Bool → Ev → Prop} : tYesD ρ Q = Q true ρ := rfl
@[simp ↓] theorem q_dAnd (t u : TD) : dAnd t u ρ Q = t ρ fun s ρ1 => fz s fun d => tru d fun b => if b = true then u ρ1 Q else Q (.sh d) ρ1 := rfl
@[simp ↓] theorem q_dOr (t u : TD) : dOr t u ρ Q = t ρ fun s ρ1 => fz s fun d => tru d fun b => if b = true then Q (.sh d) ρ1 else u ρ1 Q := rfl
@[simp ↓] theorem q_dNot (t : TOD) : dNot t ρ Q = t ρ fun l ρ1 => onL ρ1 l fun d => tru d fun b => Q (.sh (.bool (!b))) ρ1 := by
  unfold dNot
  congr 1; funext s ρ1
  exact (propext onL_eq).symm
@[simp ↓] theorem q_dIf (c : TTD) (t u : TD) : dIf c t u ρ Q = c ρ fun b ρ1 => if b = true then t ρ1 Q else u ρ1 Q := rfl
@[simp ↓] theorem q_pNo {Q : Option Int → Ev → Prop} : pNo ρ Q = Q none ρ := rfl
@[simp ↓] theorem q_pYes {Q : Option Int → Ev → Prop} (t : TD) : pYes t ρ Q = t ρ fun s ρ1 => onI s fun i => Q (some i) ρ1 := by
  unfold pYes
  congr 1; funext s ρ1
  exact onI_eq
@[simp ↓] theorem q_dSlice (f : FS3) (a : TOD) (lo hi : TPD) : dSlice f a lo hi ρ Q = a ρ fun l ρ1 => lo ρ1 fun i ρ2 => hi ρ2 fun j ρ3 => onL ρ3 l fun d => f d i j fun s => Q s ρ3 := by
  unfold dSlice
  congr 1; funext s ρ1; congr 1; funext i ρ2; congr 1; funext j ρ3
  exact (propext onL_eq).symm
@[simp ↓] theorem q_dMut (i : Nat) (f : FM) (t : TFD) : dMut i f t ρ Q = ((∃ s, ρ[i]? = some s ∧ isL s) ∧ t ρ fun as ρ1 => onS ρ1 i fun s1 => onLst s1 fun ds put => f ds as fun d ds2 => setK ρ1 i (put ds2) fun ρ2 => Q (.sh d) ρ2) := by
  unfold dMut
  rw [propext isL_eq]
  congr 2; funext as ρ1
  rw [← lst_eq]
  simp only [setK, putAt_eq]
@[simp ↓] theorem q_fz1 (d : Dat) (k : Dat → Prop) : fz (.sh d) k = k d := rfl
@[simp ↓] theorem q_fz2 (d : List Dat) (k : Dat → Prop) : fz (.ol d) k = k (.list d) := rfl
@[simp ↓] theorem q_fz3 (d : List (Dat × Dat)) (k : Dat → Prop) : fz (.od d) k = k (.dict d) := rfl
@[simp ↓] theorem q_sNext : sNext E ρ = E.nx ρ := rfl
@[simp ↓] theorem q_sSeq (t u : TSD) : sSeq t u E ρ = t { E with nx := u E } ρ := rfl
@[simp ↓] theorem q_sDrop (t : TD) : sDrop t E ρ = t ρ fun _ ρ1 => E.nx ρ1 := rfl
@[simp ↓] theorem q_sRet (t : TD) : sRet t E ρ = t ρ E.rt := rfl
@[simp ↓] theorem q_sRetN : sRetN E ρ = E.rt (.sh .none) ρ := rfl
@[simp ↓] theorem q_sIf (c : TTD) (t u : TSD) : sIf c t u E ρ = c ρ fun b ρ1 => if b = true then t E ρ1 else u E ρ1 := rfl
@[simp ↓] theorem q_sNever : sNever E ρ = False := rfl
@[simp ↓] theorem q_sBreak : sBreak E ρ = E.bk ρ := rfl
@[simp ↓] theorem q_sCont : sCont E ρ = E.ct ρ := rfl
@[simp ↓] theorem q_nI1 (d : Dat) : notIo (some (.sh d)) = True := rfl
@[simp ↓] theorem q_nI2 (d : List Dat) : notIo (some (.ol d)) = True := rfl
@[simp ↓] theorem q_nI3 (d : List (Dat × Dat)) : notIo (some (.od d)) = True := rfl
@[simp ↓] theorem q_nI4 : notIo (some .un) = True := rfl
@[simp ↓] theorem q_sSet (i : Nat) (t : TD) : sSet i t E ρ = t ρ fun s ρ1 => notIo ρ1[i]? ∧ setK ρ1 i s E.nx := rfl
@[simp ↓] theorem q_sRetV (i : Nat) : sRetV i E ρ = onS ρ i fun s => retS s (fun z => E.rt z ρ) (fun z => setK ρ i .un fun ρ2 => E.rt z ρ2) := by
  unfold sRetV onS setK
  apply propext
  cases e : ρ[i]? with
  | none => simp [e]
  | some s => cases s <;> simp [e, retS]
@[simp ↓] theorem q_dFn (spec : FS) (n : Nat) (t : TFD) : dFn spec n t ρ Q = t ρ fun ds ρ1 => ds.length = n ∧ spec (ds.map .sh) fun s ios => ios = [] ∧ Q s ρ1 := rfl
@[simp ↓] theorem q_dFnK (spec : FS) (n : Nat) (g : List Dat → List Dat → List Dat) (t tk : TFD) : dFnK spec n g t tk ρ Q = t ρ fun ds ρ1 => tk ρ1 fun es ρ2 => (g ds es).length = n ∧ spec ((g ds es).map .sh) fun s ios => ios = [] ∧ Q s ρ2 := rfl
@[simp ↓] theorem q_dFnB (spec : FS) (n i : Nat) (t : TFD) : dFnB spec n i t ρ Q = ((∃ s, ρ[i]? = some s ∧ isL s) ∧ t ρ fun ds ρ1 => ds.length + 1 = n ∧ onS ρ1 i fun s1 => onLent s1 fun p xs put => spec (.io p xs :: ds.map .sh) fun s ios => iosOne p ios fun xs2 => setK ρ1 i (put xs2) fun ρ2 => Q s ρ2) := by
  unfold dFnB
  rw [propext isL_eq]
  congr 2; funext ds ρ1
  congr 1
  unfold onS lstAt setK iosOne
  apply propext
  cases e : ρ1[i]? with
  | none => simp [e]
  | some s => cases s <;> simp [e, onLent, putAt]
@[simp ↓] theorem q_gN {Q : Ev → Prop} (i : Nat) (d : Dat) : gN i d ρ Q = (notIo ρ[i]? ∧ setK ρ i (.sh d) Q) := rfl
@[simp ↓] theorem q_gsNil {Q : Ev → Prop} : gsNil [] ρ Q = Q ρ := by
  unfold gsNil; simp
@[simp ↓] theorem q_gsCons {Q : Ev → Prop} (g : TGD) (r : TGsD) (d : Dat) (es : List Dat) : gsCons g r (d :: es) ρ Q = g d ρ fun ρ1 => r es ρ1 Q := by
  unfold gsCons
  apply propext
  constructor
  · rintro ⟨_, _, e, h⟩; cases e; exact h
  · intro h; exact ⟨_, _, rfl, h⟩
@[simp ↓] theorem q_gT {Q : Ev → Prop} (n : Nat) (r : TGsD) (d : Dat) : gT n r d ρ Q = onTup d fun ds => ds.length = n ∧ r ds ρ Q := by
  unfold gT
  exact onTup_eq
@[simp ↓] theorem q_sAsg (t : TD) (g : TGD) : sAsg t g E ρ = t ρ fun s ρ1 => fz s fun d => g d ρ1 E.nx := rfl
@[simp ↓] theorem q_sIx (i : Nat) (tv ti : TD) : sIx i tv ti E ρ = tv ρ fun s ρ1 => fz s fun d => (∃ s, ρ1[i]? = some s ∧ isL s) ∧ ti ρ1 fun s2 ρ2 => onI s2 fun k => onS ρ2 i fun s3 => onLst s3 fun xs put => ∃ j, ixN xs.length k = some j ∧ setK ρ2 i (put (xs.set j d)) E.nx := by
  unfold sIx
  congr 1; funext s ρ1; congr 1; funext d
  rw [propext isL_eq]
  congr 2; funext s2 ρ2
  rw [← onI_eq]
  congr 1; funext k
  apply propext
  rw [← lst_eq]
  constructor
  · rintro ⟨xs, j, e, h1, h2, h3⟩; exact ⟨e, xs, h1, j, h2, by simpa only [setK, putAt_eq] using h3⟩
  · rintro ⟨e, xs, h1, j, h2, h3⟩; exact ⟨xs, j, e, h1, h2, by simpa only [setK, putAt_eq] using h3⟩
@[simp ↓] theorem q_iLst {Q : List Dat → Ev → Prop} (t : TD) : iLst t ρ Q = t ρ fun s ρ1 => fz s fun d => onList d fun ds => Q ds ρ1 := by
  unfold iLst
  congr 1; funext s ρ1; congr 1; funext d
  exact onList_eq
@[simp ↓] theorem q_iTup {Q : List Dat → Ev → Prop} (t : TD) : iTup t ρ Q = t ρ fun s ρ1 => fz s fun d => onTup d fun ds => Q ds ρ1 := by
  unfold iTup
  congr 1; funext s ρ1; congr 1; funext d
  exact onTup_eq
@[simp ↓] theorem q_iRg1 {Q : List Dat → Ev → Prop} (t : TD) : iRg1 t ρ Q = t ρ fun s ρ1 => onI s fun j => (-(2 ^ 62) ≤ j ∧ j < 2 ^ 62) ∧ Q (rgD 0 j.toNat) ρ1 := by
  unfold iRg1
  congr 1; funext s ρ1
  exact onI_eq
@[simp ↓] theorem q_iRg2 {Q : List Dat → Ev → Prop} (t u : TD) : iRg2 t u ρ Q = t ρ fun s ρ1 => onI s fun i => u ρ1 fun s2 ρ2 => onI s2 fun j => (-(2 ^ 62) ≤ i ∧ i < 2 ^ 62 ∧ -(2 ^ 62) ≤ j ∧ j < 2 ^ 62) ∧ Q (rgD i (j - i).toNat) ρ2 := by
  unfold iRg2
  congr 1; funext s ρ1
  rw [← onI_eq]
  congr 1; funext i; congr 2; funext s2 ρ2
  exact onI_eq
@[simp ↓] theorem q_sFor (ti : TID) (g : TGD) (tb : TSD) : sFor ti g tb E ρ = ti ρ fun items ρ1 => forW g tb E items ρ1 := rfl
@[simp ↓] theorem q_dLc (ti : TID) (g : TGD) (tt : TTD) (te : TD) (vs : List Nat) : dLc ti g tt te vs ρ Q = ti ρ fun items ρ1 => lcW g tt te vs items (wipeD ρ1 vs) [] fun acc ρ2 => Q (.ol acc) (backD ρ1 ρ2 vs) := rfl
@[simp ↓] theorem q_sPar (i j : Nat) (t : TFD) : sPar i j t E ρ = t ρ fun ds ρ1 => par2D ds fun d e => notIo ρ1[i]? ∧ notIo ρ1[j]? ∧ setK ρ1 i (.sh d) fun ρ2 => setK ρ2 j (.sh e) E.nx := by
  unfold sPar
  congr 1
  funext ds ρ1
  apply propext
  constructor
  · rintro ⟨d, e, rfl, h⟩; exact h
  · intro h
    unfold par2D at h
    split at h
    · exact ⟨_, _, rfl, h⟩
    · exact h.elim
@[simp ↓] theorem q_sPar3 (i j l : Nat) (t : TFD) : sPar3 i j l t E ρ = t ρ fun ds ρ1 => par3D ds fun d e f => notIo ρ1[i]? ∧ notIo ρ1[j]? ∧ notIo ρ1[l]? ∧ setK ρ1 i (.sh d) fun ρ2 => setK ρ2 j (.sh e) fun ρ3 => setK ρ3 l (.sh f) E.nx := by
  unfold sPar3
  congr 1
  funext ds ρ1
  apply propext
  constructor
  · rintro ⟨d, e, f, rfl, h⟩; exact h
  · intro h
    unfold par3D at h
    split at h
    · exact ⟨_, _, _, rfl, h⟩
    · exact h.elim
@[simp ↓] theorem q_vNil {Q : List Sl → Ev → Prop} : vNil ρ Q = Q [] ρ := rfl
@[simp ↓] theorem q_vCons {Q : List Sl → Ev → Prop} (t : TD) (r : TVD) : vCons t r ρ Q = t ρ fun s ρ1 => r ρ1 fun ss ρ2 => Q (s :: ss) ρ2 := rfl
@[simp ↓] theorem q_sParV (i j : Nat) (t : TVD) : sParV i j t E ρ = t ρ fun ss ρ1 => par2 ss fun d e => notIo ρ1[i]? ∧ notIo ρ1[j]? ∧ setK ρ1 i d fun ρ2 => setK ρ2 j e E.nx := by
  unfold sParV par2
  congr 1
  funext ss ρ1
  split <;> simp_all [setK]
@[simp ↓] theorem q_wipe0 : wipeD ρ [] = ρ := rfl
@[simp ↓] theorem q_wipe1 (i : Nat) (is : List Nat) : wipeD ρ (i :: is) = (wipeD ρ is).set i .un := rfl
@[simp ↓] theorem q_back0 {ρ0 : Ev} : backD ρ0 ρ [] = ρ := rfl
@[simp ↓] theorem q_back1 {ρ0 : Ev} (i : Nat) (is : List Nat) : backD ρ0 ρ (i :: is) = match ρ0[i]? with | some (.sh d) => (backD ρ0 ρ is).set i (.sh d) | _ => backD ρ0 ρ is := rfl
@[simp ↓] theorem q_ios0 : iosOf [] = [] := rfl
@[simp ↓] theorem q_ios1 (d : Dat) : iosOf (.sh d :: ρ) = iosOf ρ := rfl
@[simp ↓] theorem q_ios2 (d : List Dat) : iosOf (.ol d :: ρ) = iosOf ρ := rfl
@[simp ↓] theorem q_ios3 (d : List (Dat × Dat)) : iosOf (.od d :: ρ) = iosOf ρ := rfl
@[simp ↓] theorem q_ios4 : iosOf (.un :: ρ) = iosOf ρ := rfl
@[simp ↓] theorem q_ios5 (p : Addr) (d : List Dat) : iosOf (.io p d :: ρ) = (p, d) :: iosOf ρ := rfl
end
section
variable {k : Sl → Prop} {kb : Bool → Prop}
@[simp ↓] theorem q_tru1 : tru .none kb = kb false := rfl
@[simp ↓] theorem q_tru2 (b : Bool) : tru (.bool b) kb = kb b := rfl
@[simp ↓] theorem q_tru3 (i : Int) : tru (.int i) kb = kb (i != 0) := rfl
@[simp ↓] theorem q_tru4 (x : Str) : tru (.str x) kb = (x.length ≤ sizeLine ∧ kb ((x.length : Int) != 0)) := rfl
@[simp ↓] theorem q_tru5 (x : List Dat) : tru (.list x) kb = kb (!x.isEmpty) := rfl
@[simp ↓] theorem q_tru6 (x : List Dat) : tru (.tuple x) kb = kb (!x.isEmpty) := rfl
@[simp ↓] theorem q_add (i j : Int) : fAdd (.int i) (.int j) k = k (.sh (.int (i + j))) := rfl
@[simp ↓] theorem q_addB (i : Int) (j : Bool) : fAdd (.int i) (.bool j) k = k (.sh (.int (i + b2i j))) := rfl
@[simp ↓] theorem q_addL (i j : List Dat) : fAdd (.list i) (.list j) k = (i.length + j.length ≤ sizeLine ∧ k (.ol (i ++ j))) := rfl
@[simp ↓] theorem q_addS (i j : Str) : fAdd (.str i) (.str j) k = (i.length + j.length ≤ sizeLine ∧ k (.sh (.str (i ++ j)))) := rfl
@[simp ↓] theorem q_sub (i j : Int) : fSub (.int i) (.int j) k = k (.sh (.int (i - j))) := rfl
@[simp ↓] theorem q_subB (i j : Bool) : fSub (.bool i) (.bool j) k = k (.sh (.int (b2i i - b2i j))) := rfl
@[simp ↓] theorem q_mul (i j : Int) : fMul (.int i) (.int j) k = (MulOk i j ∧ k (.sh (.int (i * j)))) := rfl
@[simp ↓] theorem q_mulL (i : List Dat) (j : Int) : fMul (.list i) (.int j) k = (-(2 ^ 63) ≤ j ∧ j < 2 ^ 63 ∧ i.length * j.toNat ≤ sizeLine ∧ k (.ol (rpD j i))) := rfl
@[simp ↓] theorem q_div (i j : Int) : fDiv (.int i) (.int j) k = ((0 < j ∧ j.natAbs.log2 < 9000) ∧ k (.sh (.int (i / j)))) := rfl
@[simp ↓] theorem q_mod (i j : Int) : fMod (.int i) (.int j) k = (0 < j ∧ k (.sh (.int (i % j)))) := rfl
@[simp ↓] theorem q_pow (i j : Int) : fPow (.int i) (.int j) k = (0 ≤ j ∧ (Builtin.Int.intBits i : Int) * j ≤ 2 ^ 27 ∧ k (.sh (.int (i ^ j.toNat)))) := rfl
@[simp ↓] theorem q_shr (i j : Int) : fShr (.int i) (.int j) k = (0 ≤ j ∧ k (.sh (.int (i / 2 ^ j.toNat)))) := rfl
@[simp ↓] theorem q_shl (i j : Int) : fShl (.int i) (.int j) k = (CShl i j ∧ k (.sh (.int (i * 2 ^ j.toNat)))) := rfl
@[simp ↓] theorem q_and (i j : Int) : fAnd (.int i) (.int j) k = k (.sh (.int (Builtin.bitAnd i j))) := rfl
@[simp ↓] theorem q_xor (i j : Int) : fXor (.int i) (.int j) k = k (.sh (.int (Builtin.bitXor i j))) := rfl
@[simp ↓] theorem q_neg (i : Int) : fNeg (.int i) k = k (.sh (.int (-i))) := rfl
theorem cl_int (i : Int) : PyData.canLay0 (.int i) = true := by simp [PyData.canLay0]
theorem cl_bool (i : Bool) : PyData.canLay0 (.bool i) = true := by simp [PyData.canLay0]
theorem dp_int (i : Int) : PyData.depth (.int i) = 0 := by simp [PyData.depth]
theorem dp_str (i : Str) : PyData.depth (.str i) = 0 := by simp [PyData.depth]
theorem dp_bool (i : Bool) : PyData.depth (.bool i) = 0 := by simp [PyData.depth]
theorem eo_int (i j : Int) : EqOk (.int i) (.int j) := ⟨cl_int i, cl_int j, by rw [dp_int]; simp⟩
theorem eo_str (i j : Str) : EqOk1 (.str i) (.str j) := .inl ⟨rfl, rfl⟩
theorem eo_int1 (i j : Int) : EqOk1 (.int i) (.int j) := .inr (eo_int i j)
theorem eo_bool (i j : Bool) : EqOk (.bool i) (.bool j) := ⟨cl_bool i, cl_bool j, by rw [dp_bool]; simp⟩
@[simp] theorem q_pLt (i j : Int) : pLt (compare i j) = decide (i < j) := by
  unfold pLt; rcases Int.lt_trichotomy i j with h | h | h
  · simp [Int.compare_eq_lt.mpr h, h]
  · subst h; simp
  · simp [Int.compare_eq_gt.mpr h]; omega
@[simp] theorem q_pGt (i j : Int) : pGt (compare i j) = decide (j < i) := by
  unfold pGt; rcases Int.lt_trichotomy i j with h | h | h
  · simp [Int.compare_eq_lt.mpr h]; omega
  · subst h; simp
  · simp [Int.compare_eq_gt.mpr h, h]
@[simp] theorem q_pLe (i j : Int) : pLe (compare i j) = decide (i ≤ j) := by
  unfold pLe; rcases Int.lt_trichotomy i j with h | h | h
  · simp [Int.compare_eq_lt.mpr h]; omega
  · subst h; simp
  · simp [Int.compare_eq_gt.mpr h]; omega
@[simp] theorem q_pGe (i j : Int) : pGe (compare i j) = decide (j ≤ i) := by
  unfold pGe; rcases Int.lt_trichotomy i j with h | h | h
  · simp [Int.compare_eq_lt.mpr h]; omega
  · subst h; simp
  · simp [Int.compare_eq_gt.mpr h]; omega
@[simp ↓] theorem q_ordLt (i j : Int) : fOrd pLt (.int i) (.int j) k = k (.sh (.bool (decide (i < j)))) := by
  unfold fOrd
  simp [eo_int, cmpD, q_pLt]
@[simp ↓] theorem q_ordGt (i j : Int) : fOrd pGt (.int i) (.int j) k = k (.sh (.bool (decide (j < i)))) := by
  unfold fOrd
  simp [eo_int, cmpD, q_pGt]
@[simp ↓] theorem q_ordLe (i j : Int) : fOrd pLe (.int i) (.int j) k = k (.sh (.bool (decide (i ≤ j)))) := by
  unfold fOrd
  simp [eo_int, cmpD, q_pLe]
@[simp ↓] theorem q_ordGe (i j : Int) : fOrd pGe (.int i) (.int j) k = k (.sh (.bool (decide (j ≤ i)))) := by
  unfold fOrd
  simp [eo_int, cmpD, q_pGe]
@[simp ↓] theorem q_eq (i j : Int) : fEq (.int i) (.int j) k = k (.sh (.bool (decide (i = j)))) := by
  unfold fEq; simp [eo_int1, PyData.eqv]; rw [show (i == j) = decide (i = j) from rfl]
@[simp ↓] theorem q_ne (i j : Int) : fNe (.int i) (.int j) k = k (.sh (.bool (!decide (i = j)))) := by
  unfold fNe; simp [eo_int1, PyData.eqv]; rw [show (i == j) = decide (i = j) from rfl]
@[simp ↓] theorem q_eqS (i j : Str) : fEq (.str i) (.str j) k = k (.sh (.bool (i == j))) := by
  unfold fEq; simp [eo_str, PyData.eqv]
@[simp ↓] theorem q_neS (i j : Str) : fNe (.str i) (.str j) k = k (.sh (.bool (!(i == j)))) := by
  unfold fNe; simp [eo_str, PyData.eqv]
@[simp ↓] theorem q_isB (a b : Bool) : fIs (.bool a) (.bool b) k = k (.sh (.bool (decide (a = b)))) := by
  unfold fIs; simp [isD]
@[simp ↓] theorem q_isNB (a b : Bool) : fIsN (.bool a) (.bool b) k = k (.sh (.bool (!decide (a = b)))) := by
  unfold fIsN; simp [isD]
@[simp ↓] theorem q_ixL (xs : List Dat) (i : Int) : fIx (.list xs) (.int i) k = atD xs i fun d => k (.sh d) := rfl
@[simp ↓] theorem q_ixT (xs : List Dat) (i : Int) : fIx (.tuple xs) (.int i) k = atD xs i fun d => k (.sh d) := rfl
@[simp ↓] theorem q_slL (xs : List Dat) (lo hi : Option Int) : fSl (.list xs) lo hi k = k (.ol (cutD xs lo hi)) := rfl
@[simp ↓] theorem q_lenL (xs : List Dat) : fLen [.list xs] k = k (.sh (.int xs.length)) := rfl
@[simp ↓] theorem q_lenT (xs : List Dat) : fLen [.tuple xs] k = k (.sh (.int xs.length)) := rfl
@[simp ↓] theorem q_lenS (x : Str) : fLen [.str x] k = (x.length ≤ sizeLine ∧ k (.sh (.int x.length))) := rfl
@[simp ↓] theorem q_abs (i : Int) : fAbs [.int i] k = k (.sh (.int (if i < 0 then -i else i))) := rfl
@[simp ↓] theorem q_max2 (i j : Int) : fMax [.int i, .int j] k = k (.sh (.int (if j > i then j else i))) := rfl
@[simp ↓] theorem q_min2 (i j : Int) : fMin [.int i, .int j] k = k (.sh (.int (if j < i then j else i))) := rfl
@[simp ↓] theorem q_intI (i : Int) : fInt [.int i] k = k (.sh (.int i)) := rfl
@[simp ↓] theorem q_intB (b : Bool) : fInt [.bool b] k = k (.sh (.int (if b then 1 else 0))) := rfl
@[simp ↓] theorem q_sumL (ns : List Int) : fSum [.list (ns.map .int)] k = k (.sh (.int ns.sum)) := by
  unfold fSum; simp
@[simp ↓] theorem q_allL (ns : List Bool) : fAll [.list (ns.map .bool)] k = k (.sh (.bool (ns.all id))) := by
  unfold fAll; simp
@[simp ↓] theorem q_anyL (ns : List Bool) : fAny [.list (ns.map .bool)] k = k (.sh (.bool (ns.any id))) := by
  unfold fAny; simp
@[simp ↓] theorem q_repr (d : Dat) : fRepr [d] k = (ReprOk d ∧ k (.sh (.str d.shown))) := rfl
@[simp ↓] theorem q_listL (xs : List Dat) : fList [.list xs] k = k (.ol xs) := rfl
@[simp ↓] theorem q_listT (xs : List Dat) : fList [.tuple xs] k = k (.ol xs) := rfl
@[simp ↓] theorem q_tupL (xs : List Dat) : fTuple [.list xs] k = k (.sh (.tuple xs)) := rfl
@[simp ↓] theorem q_tupT (xs : List Dat) : fTuple [.tuple xs] k = k (.sh (.tuple xs)) := rfl
@[simp ↓] theorem q_isi (T : String) (d : Dat) : fIsi T d k = k (.sh (.bool (isTy T d))) := rfl
@[simp ↓] theorem q_bits (i : Int) : fBits (.int i) k = k (.sh (.int (bitsD i : Nat))) := by
  unfold fBits; simp
@[simp ↓] theorem q_app {k : Dat → List Dat → Prop} (ds : List Dat) (d : Dat) : mAppend ds [d] k = (ds.length < sizeLine ∧ k .none (ds ++ [d])) := by
  unfold mAppend; simp
end
@[simp] theorem ixN0 (n : Nat) : ixN (n + 1) 0 = some 0 := by unfold ixN; simp
@[simp] theorem ixN1 (n : Nat) : ixN (n + 2) 1 = some 1 := by unfold ixN; simp; omega
@[simp] theorem ixN2 (n : Nat) : ixN (n + 3) 2 = some 2 := by unfold ixN; simp; omega
theorem q_ios6 {x : Sl} {ρ : Ev} (h : notIo (some x)) : iosOf (x :: ρ) = iosOf ρ := by cases x <;> first | rfl | exact h.elim
@[simp] theorem sz_small (n : Nat) (h : n ≤ 1000000 := by omega) : (n ≤ sizeLine) = True := by
  have : (1000000 : Nat) ≤ sizeLine := by decide
  simp; omega
theorem mulOk_l {i j : Int} (h1 : -18446744073709551616 < i) (h2 : i < 18446744073709551616) : MulOk i j := .inl ⟨by simpa using h1, by simpa using h2⟩
theorem mulOk_r {i j : Int} (h1 : -18446744073709551616 < j) (h2 : j < 18446744073709551616) : MulOk i j := .inr (.inl ⟨by simpa using h1, by simpa using h2⟩)
theorem mulOk_w {i j : Int} {a b : Nat} (ha : i.natAbs < 2 ^ a) (hb : j.natAbs < 2 ^ b) (h0 : 0 < a) (h1 : 0 < b) (h : a + b ≤ 1000000) : MulOk i j := .inr (.inr (wide_mul ha hb h0 h1 h))
/-! ### loops -/
theorem forW_inv {g : TGD} {tb : TSD} {E : DEn} (I : Nat → Ev → Prop) : ∀ (items : List Dat) (k : Nat) (ρ : Ev), I k ρ →
    (∀ (i : Nat) (d : Dat) (ρ : Ev) (W : Ev → Prop), items[i]? = some d → I (k + i) ρ → (∀ ρ', I (k + i + 1) ρ' → W ρ') → g d ρ fun ρ1 => tb { E with nx := W, ct := W, bk := E.nx } ρ1) →
    (∀ ρ, I (k + items.length) ρ → E.nx ρ) → forW g tb E items ρ
  | [], k, ρ, h, _, f => f ρ h
  | d :: ds, k, ρ, h, st, f => by
    refine st 0 d ρ (forW g tb E ds) rfl h fun ρ' h' => ?_
    refine forW_inv I ds (k + 1) ρ' (by simpa using h') (fun i d' ρ2 W e h2 hW => ?_) fun ρ2 h2 => f ρ2 ?_
    · refine st (i + 1) d' ρ2 W (by simpa using e) ?_ fun ρ' h3 => hW ρ' ?_
      · rw [show k + (i + 1) = k + 1 + i by omega]; exact h2
      · rw [show k + 1 + i + 1 = k + (i + 1) + 1 by omega]; exact h3
    · rw [List.length_cons, show k + (ds.length + 1) = k + 1 + ds.length by omega]; exact h2
theorem lcW_inv {g : TGD} {tt : TTD} {te : TD} {vs : List Nat} {k : List Dat → Ev → Prop} (I : Nat → Ev → List Dat → Prop) : ∀ (items : List Dat) (n : Nat) (ρ : Ev) (acc : List Dat), I n ρ acc →
    (∀ (i : Nat) (d : Dat) (ρ : Ev) (acc : List Dat) (W : Ev → List Dat → Prop), items[i]? = some d → I (n + i) ρ acc → (∀ ρ' acc', I (n + i + 1) ρ' acc' → W ρ' acc') →
      g d ρ fun ρ1 => tt ρ1 fun b ρ2 => if b = true then te ρ2 fun s ρ3 => fz s fun y => acc.length < sizeLine ∧ W (wipeD ρ3 vs) (acc ++ [y]) else W (wipeD ρ2 vs) acc) →
    (∀ ρ acc, I (n + items.length) ρ acc → k acc ρ) → lcW g tt te vs items ρ acc k
  | [], n, ρ, acc, h, _, f => f ρ acc h
  | d :: ds, n, ρ, acc, h, st, f => by
    refine st 0 d ρ acc (fun ρ' acc' => lcW g tt te vs ds ρ' acc' k) rfl h fun ρ' acc' h' => ?_
    refine lcW_inv I ds (n + 1) ρ' acc' (by simpa using h') (fun i d' ρ2 acc2 W e h2 hW => ?_) fun ρ2 acc2 h2 => f ρ2 acc2 ?_
    · refine st (i + 1) d' ρ2 acc2 W (by simpa using e) ?_ fun ρ' acc' h3 => hW ρ' acc' ?_
      · rw [show n + (i + 1) = n + 1 + i by omega]; exact h2
      · rw [show n + 1 + i + 1 = n + (i + 1) + 1 by omega]; exact h3
    · rw [List.length_cons, show n + (ds.length + 1) = n + 1 + ds.length by omega]; exact h2
/-! ### the length of what repr shows -/
mutual
def szD : Dat → Nat
  | .none => 4
  | .bool _ => 5
  | .int _ => 601
  | .str _ => 0
  | .list xs => szDs xs + 3
  | .tuple xs => szDs xs + 3
  | .dict _ => 0
def szDs : List Dat → Nat
  | [] => 0
  | x :: xs => szD x + 2 + szDs xs
end
mutual
def noStr : Dat → Bool
  | .none => true
  | .bool _ => true
  | .int _ => true
  | .str _ => false
  | .list xs => noStrs xs
  | .tuple xs => noStrs xs
  | .dict _ => false
def noStrs : List Dat → Bool
  | [] => true
  | x :: xs => noStr x && noStrs xs
end
theorem int_shown {i : Int} (h : i.natAbs.log2 < 1920) : (Str.ofString (toString i)).length ≤ 601 := by
  have hb : i.natAbs < 2 ^ 1920 := by
    by_cases z : i.natAbs = 0
    · rw [z]; exact Nat.two_pow_pos _
    · exact (Nat.log2_lt z).mp h
  have hp : (2 : Nat) ^ 1920 < 10 ^ 600 := by decide +kernel
  have hq : ((10 : Int) ^ 600) = ((10 ^ 600 : Nat) : Int) := by rw [Int.natCast_pow]; rfl
  by_cases hi : 0 ≤ i
  · have := toString_length_le hi (k := 600) (by decide) (by rw [hq]; omega)
    omega
  · have e : toString i = "-" ++ toString (-i) := by
      match i, hi with
      | .negSucc n, _ => rfl
      | .ofNat n, hi => exact absurd (Int.natCast_nonneg n) hi
    have := toString_length_le (v := -i) (by omega) (k := 600) (by decide) (by rw [hq]; omega)
    rw [e, PyProof.Rows.ofString_length, String.toList_append, List.length_append]
    rw [PyProof.Rows.ofString_length] at this
    have e2 : ("-" : String).toList.length = 1 := rfl
    omega
theorem textFrom_le : ∀ (ts : List Str) (k : Nat) (acc : Str), (textFrom k acc ts).length ≤ acc.length + piled ts
  | [], _, _ => by rw [textFrom]; exact Nat.le_add_right _ _
  | t :: ts, k, acc => by
    rw [textFrom]
    have ih := textFrom_le ts (k + 1) (acc ++ (if k > 0 then ", " else "" : String) ++ t)
    rw [piled_cons]
    have e : (acc ++ ((if k > 0 then ", " else "" : String) : Str) ++ t).length ≤ acc.length + 2 + t.length := by
      rw [Str.length_append, Str.length_append]
      split
      · have : (Str.ofString ", ").length = 2 := rfl
        omega
      · have : (Str.ofString "").length = 0 := rfl
        omega
    omega
theorem join_le (ts : List Str) : (Str.join ", " ts).length ≤ piled ts := by
  cases ts with
  | nil => exact Nat.le_of_eq rfl
  | cons t r =>
    have := join_length_add (t :: r) (by simp)
    omega
mutual
theorem shown_le : ∀ d : Dat, d.showable = true → noStr d = true → d.shown.length ≤ szD d
  | .none, _, _ => by rw [PyData.shown, szD]; exact Nat.le_of_eq rfl
  | .bool b, _, _ => by rw [PyData.shown, szD]; cases b <;> exact (by decide)
  | .int i, h, _ => by
    rw [PyData.shown, szD]
    exact int_shown (by simpa [PyData.showable] using h)
  | .str x, _, h => by simp [noStr] at h
  | .dict x, _, h => by simp [noStr] at h
  | .list xs, h, n => by
    have := shownAll_le xs (by simpa [PyData.showable] using h) (by simpa [noStr] using n)
    have b := textFrom_le (PyData.shownAll xs) 0 "["
    rw [PyData.shown, szD, listText, Str.length_append]
    have e1 : (Str.ofString "[").length = 1 := rfl
    have e2 : (Str.ofString "]").length = 1 := rfl
    omega
  | .tuple xs, h, n => by
    have := shownAll_le xs (by simpa [PyData.showable] using h) (by simpa [noStr] using n)
    have b := join_le (PyData.shownAll xs)
    rw [PyData.shown, szD, tupleText, Str.length_append, Str.length_append]
    have e1 : (Str.ofString "(").length = 1 := rfl
    have e2 : (Str.ofString ",)").length = 2 := rfl
    have e3 : (Str.ofString ")").length = 1 := rfl
    split <;> omega
theorem shownAll_le : ∀ ds : List Dat, PyData.showableAll ds = true → noStrs ds = true → piled (PyData.shownAll ds) ≤ szDs ds
  | [], _, _ => by rw [PyData.shownAll, szDs]; exact Nat.le_of_eq rfl
  | d :: ds, h, n => by
    have h' : d.showable = true ∧ PyData.showableAll ds = true := by simpa [PyData.showableAll] using h
    have n' : noStr d = true ∧ noStrs ds = true := by simpa [noStrs] using n
    have a := shown_le d h'.1 n'.1
    have b := shownAll_le ds h'.2 n'.2
    rw [PyData.shownAll, szDs, piled_cons]
    omega
end
mutual
/-- all ints of d are small enough to be shown, nothing else is in the way -/
def repD : Dat → Bool
  | .none => true
  | .bool _ => true
  | .int i => decide (i.natAbs.log2 < 1920)
  | .list xs => repDs xs
  | .tuple xs => repDs xs
  | _ => false
def repDs : List Dat → Bool
  | [] => true
  | x :: xs => repD x && repDs xs
end
mutual
theorem repD_ok : ∀ d : Dat, repD d = true → d.canLay0 = true ∧ d.showable = true ∧ noStr d = true
  | .none, _ => by simp [PyData.canLay0, PyData.showable, noStr]
  | .bool b, _ => by simp [PyData.canLay0, PyData.showable, noStr]
  | .int i, h => by simpa [PyData.canLay0, PyData.showable, noStr, repD] using h
  | .str x, h => by simp [repD] at h
  | .dict x, h => by simp [repD] at h
  | .list xs, h => by
    obtain ⟨a, b, c⟩ := repDs_ok xs (by simpa [repD] using h)
    simp [PyData.canLay0, PyData.showable, noStr, a, b, c]
  | .tuple xs, h => by
    obtain ⟨a, b, c⟩ := repDs_ok xs (by simpa [repD] using h)
    simp [PyData.canLay0, PyData.showable, noStr, a, b, c]
theorem repDs_ok : ∀ ds : List Dat, repDs ds = true → PyData.canLayAll0 ds = true ∧ PyData.showableAll ds = true ∧ noStrs ds = true
  | [], _ => by simp [PyData.canLayAll0, PyData.showableAll, noStrs]
  | d :: ds, h => by
    have h' : repD d = true ∧ repDs ds = true := by simpa [repDs] using h
    obtain ⟨a, b, c⟩ := repD_ok d h'.1
    obtain ⟨e, f, g⟩ := repDs_ok ds h'.2
    simp [PyData.canLayAll0, PyData.showableAll, noStrs, a, b, c, e, f, g]
end
theorem reprOk {d : Dat} (h : repD d = true) (hd : d.depth ≤ 60) (hz : szD d ≤ 1000000) : ReprOk d := by
  obtain ⟨a, b, c⟩ := repD_ok d h
  have z := shown_le d b c
  have y : (1000000 : Nat) ≤ sizeLine := by decide
  exact ⟨a, b, hd, by omega⟩

/-! ### a, b = a list -/
def gL (n : Nat) (r : TGsD) : TGD := fun d ρ Q => ∃ ds, d = .list ds ∧ ds.length = n ∧ r ds ρ Q
theorem dg_lst {X : Cx} {pos : Pos} {es : List Expr} {k n : Nat} {js : List Nat} {r : TGsD} (hc : X.calm = true) (h : DGs X es js r) (hn : (assignEach es X.env).length = n := by rfl) (hst : (assignEach es X.env).findIdx? (·.1) = none := by rfl) : DG X (.Tuple es k pos) js (gL n r) := by
  refine ⟨pg_imp (pg_lst hc h.pg hn hst) fun v σ H Q hq => ?_⟩
  obtain ⟨Fr, Hs, ρ, d, QD, A, rd, ⟨ds, rfl, hl, hg⟩, f⟩ := hq
  obtain ⟨a, xs, rfl, ht, rs⟩ := (Pk.st (H := H) rd).list A.rs.hs
  exact ⟨a, xs, rfl, ht, by rw [rs.length]; exact hl, Fr, Hs, ρ, ds, _, A, rs, hg, f⟩
@[simp ↓] theorem q_gL {ρ : Ev} {Q : Ev → Prop} (n : Nat) (r : TGsD) (d : Dat) : gL n r d ρ Q = onList d fun ds => ds.length = n ∧ r ds ρ Q := by
  unfold gL
  exact onList_eq

/-! ### what repr shows, strings among it -/
abbrev okS (x : Str) : Bool := PyData.strOk x
mutual
def szE : Dat → Nat
  | .none => 4
  | .bool _ => 5
  | .int _ => 601
  | .str x => 10 * x.length + 2
  | .list xs => szEs xs + 3
  | .tuple xs => szEs xs + 3
  | .dict _ => 0
def szEs : List Dat → Nat
  | [] => 0
  | x :: xs => szE x + 2 + szEs xs
end
mutual
def repE : Dat → Bool
  | .none => true
  | .bool _ => true
  | .int i => decide (i.natAbs.log2 < 1920)
  | .str x => okS x
  | .list xs => repEs xs
  | .tuple xs => repEs xs
  | .dict _ => false
def repEs : List Dat → Bool
  | [] => true
  | x :: xs => repE x && repEs xs
end
mutual
theorem repE_ok : ∀ d : Dat, repE d = true → d.canLay0 = true ∧ d.showable = true
  | .none, _ => by simp [PyData.canLay0, PyData.showable]
  | .bool b, _ => by simp [PyData.canLay0, PyData.showable]
  | .int i, h => by simpa [PyData.canLay0, PyData.showable, repE] using h
  | .str x, h => by
    have : PyData.strOk x = true := by simpa [repE] using h
    simp [PyData.canLay0, PyData.showable, this]
  | .dict x, h => by simp [repE] at h
  | .list xs, h => by
    obtain ⟨a, b⟩ := repEs_ok xs (by simpa [repE] using h)
    simp [PyData.canLay0, PyData.showable, a, b]
  | .tuple xs, h => by
    obtain ⟨a, b⟩ := repEs_ok xs (by simpa [repE] using h)
    simp [PyData.canLay0, PyData.showable, a, b]
theorem repEs_ok : ∀ ds : List Dat, repEs ds = true → PyData.canLayAll0 ds = true ∧ PyData.showableAll ds = true
  | [], _ => by simp [PyData.canLayAll0, PyData.showableAll]
  | d :: ds, h => by
    have h' : repE d = true ∧ repEs ds = true := by simpa [repEs] using h
    obtain ⟨a, b⟩ := repE_ok d h'.1
    obtain ⟨e, f⟩ := repEs_ok ds h'.2
    simp [PyData.canLayAll0, PyData.showableAll, a, b, e, f]
end
mutual
theorem shownE_le : ∀ d : Dat, repE d = true → d.shown.length ≤ szE d
  | .none, _ => by rw [PyData.shown, szE]; exact Nat.le_of_eq rfl
  | .bool b, _ => by rw [PyData.shown, szE]; cases b <;> exact (by decide)
  | .int i, h => by
    rw [PyData.shown, szE]
    exact int_shown (by simpa [repE] using h)
  | .str x, h => by
    rw [PyData.shown, szE]
    refine PySem.StrLaws.reprText_len x fun c hc => ?_
    have h : PyData.strOk x = true := by simpa [repE] using h
    unfold PyData.strOk at h
    rw [← Array.all_toList, List.all_eq_true] at h
    have := of_decide_eq_true (h c hc)
    omega
  | .dict x, h => by simp [repE] at h
  | .list xs, h => by
    have := shownEs_le xs (by simpa [repE] using h)
    have b := textFrom_le (PyData.shownAll xs) 0 "["
    rw [PyData.shown, szE, listText, Str.length_append]
    have e1 : (Str.ofString "[").length = 1 := rfl
    have e2 : (Str.ofString "]").length = 1 := rfl
    omega
  | .tuple xs, h => by
    have := shownEs_le xs (by simpa [repE] using h)
    have b := join_le (PyData.shownAll xs)
    rw [PyData.shown, szE, tupleText, Str.length_append, Str.length_append]
    have e1 : (Str.ofString "(").length = 1 := rfl
    have e2 : (Str.ofString ",)").length = 2 := rfl
    have e3 : (Str.ofString ")").length = 1 := rfl
    split <;> omega
theorem shownEs_le : ∀ ds : List Dat, repEs ds = true → piled (PyData.shownAll ds) ≤ szEs ds
  | [], _ => by rw [PyData.shownAll, szEs]; exact Nat.le_of_eq rfl
  | d :: ds, h => by
    have h' : repE d = true ∧ repEs ds = true := by simpa [repEs] using h
    have a := shownE_le d h'.1
    have b := shownEs_le ds h'.2
    rw [PyData.shownAll, szEs, piled_cons]
    omega
end
theorem reprOkE {d : Dat} (h : repE d = true) (hd : d.depth ≤ 60) (hz : szE d ≤ 1000000) : ReprOk d := by
  obtain ⟨a, b⟩ := repE_ok d h
  have z := shownE_le d h
  have y : (1000000 : Nat) ≤ sizeLine := by decide
  exact ⟨a, b, hd, by omega⟩
theorem szEs_append : ∀ xs ys : List Dat, szEs (xs ++ ys) = szEs xs + szEs ys
  | [], ys => by simp [szEs]
  | x :: xs, ys => by simp [szEs, szEs_append xs ys]; omega
theorem repEs_iff : ∀ {xs : List Dat}, repEs xs = true ↔ ∀ x ∈ xs, repE x = true
  | [] => by simp [repEs]
  | x :: xs => by simp [repEs, repEs_iff (xs := xs)]
theorem szEs_le {b : Nat} : ∀ {xs : List Dat}, (∀ x ∈ xs, szE x ≤ b) → szEs xs ≤ (b + 2) * xs.length
  | [], _ => by simp [szEs]
  | x :: xs, h => by
    have h1 := h x List.mem_cons_self
    have h2 := szEs_le (xs := xs) fun y hy => h y (List.mem_cons_of_mem _ hy)
    rw [szEs, List.length_cons, Nat.mul_succ]
    omega

/-! ### what every law's draws need -/
def gOk (n : Nat) (g : List Dat) : Prop := ∃ a b c : Int, g = [.int a, .int b, .int c] ∧ 0 ≤ c ∧ c + 200 * n ≤ 1152921504606846976
theorem gOk.le {n m : Nat} {g : List Dat} (h : gOk n g) (hm : m ≤ n) : gOk m g := by
  obtain ⟨a, b, c, e, h1, h2⟩ := h
  exact ⟨a, b, c, e, h1, by omega⟩
def sp__law_cell : FS := fun as Q => ∃ (ns : List Int) (i : Int), as = [.sh (.list (ns.map .int)), .sh (.int i)] ∧ 0 ≤ i ∧ ∀ r : Int, Q (.sh (.int r)) []
def sp__law_hash : FS := fun as Q => ∃ s i : Int, as = [.sh (.int s), .sh (.int i)] ∧ 0 ≤ i ∧ i < 4611686018427387904 ∧ ∀ r : Int, Q (.sh (.int r)) []
def sp__law_generator : FS := fun as Q => ∃ (ns : List Int) (i : Int), as = [.sh (.list (ns.map .int)), .sh (.int i)] ∧ 0 ≤ i ∧ i ≤ 1000 ∧ ∀ g, gOk 1000000 g → Q (.ol g) []
def sp__law_random : FS := fun as Q => ∃ (p : Addr) (g : List Dat) (m : Int) (n : Nat), as = [.io p g, .sh (.int m)] ∧ 0 < m ∧ m.natAbs.log2 < 3000 ∧ gOk (n + 1) g ∧ ∀ r g', 0 ≤ r → r < m → gOk n g' → Q (.sh (.int r)) [(p, g')]
def seqOf : Dat → Option (List Dat)
  | .list ds => some ds
  | .tuple ds => some ds
  | _ => none
def sp__law_pick : FS := fun as Q => ∃ (p : Addr) (g : List Dat) (t : Dat) (ds : List Dat) (n : Nat), as = [.io p g, .sh t] ∧ seqOf t = some ds ∧ ds ≠ [] ∧ ds.length < 1000000 ∧ gOk (n + 1) g ∧ ∀ d g', d ∈ ds → gOk n g' → Q (.sh d) [(p, g')]
/-- _law_cell: 0 script, 1 index -/
def b__law_cell : TSD := sSeq (sIf (tVal (dBin (fOrd pLt) (oVar 1) (oExp (dCall fLen (aCons (oVar 0) (aNil)))))) (sRet (dBin fIx (oVar 0) (oVar 1))) (sNext))
  (sRet (dBin fMod (oExp (dCall fSum (aCons (oExp (dSlice fSl (oVar 0) (pNo) (pYes (dC (.int 1))))) (aNil)))) (oExp (dC (.int 1000003)))))
/-- _law_hash: 0 seed, 1 index, 2 mixed -/
def b__law_hash : TSD := sSeq (sSet 2 (dBin fMod (oExp (dCall fInt (aCons (oExp (dBin fAdd (oExp (dBin fAdd (oExp (dBin fAdd (oExp (dBin fMul (oVar 0) (oExp (dC (.int 1140671))))) (oExp (dBin fMul (oExp (dBin fMul (oExp (dC (.int 27644437))) (oVar 1))) (oVar 1))))) (oExp (dBin fMul (oExp (dC (.int 131))) (oVar 1))))) (oExp (dC (.int 19))))) (aNil)))) (oExp (dC (.int 2147483629)))))
  (sSeq (sSet 2 (dBin fMod (oExp (dCall fInt (aCons (oExp (dBin fAdd (oExp (dBin fAdd (oExp (dBin fMul (oVar 2) (oVar 2))) (oExp (dBin fMul (oExp (dC (.int 62089))) (oVar 1))))) (oExp (dC (.int 32416187))))) (aNil)))) (oExp (dC (.int 2147483587)))))
  (sRet (dBin fMod (oExp (dCall fInt (aCons (oExp (dBin fMul (oVar 2) (oExp (dC (.int 48271))))) (aNil)))) (oExp (dC (.int 2147483647))))))
/-- _law_generator: 0 script, 1 index, 2 seed -/
def b__law_generator : TSD := sSeq (sSet 2 (dFn sp__law_cell 2 (fCons (dVar 0) (fCons (dVar 1) (fNil)))))
  (sRet (dLst (fCons (dBin fMod (oExp (dCall fInt (aCons (oExp (dCall fMax (aCons (oExp (dBin fSub (oVar 2) (oExp (dBin fPow (oExp (dC (.int 10))) (oExp (dC (.int 18))))))) (aCons (oExp (dC (.int 0))) (aNil))))) (aNil)))) (oExp (dBin fPow (oExp (dBin fPow (oExp (dC (.int 10))) (oExp (dC (.int 60))))) (oExp (dC (.int 10)))))) (fCons (dBin fMod (oExp (dCall fInt (aCons (oVar 2) (aNil)))) (oExp (dC (.int 2147483647)))) (fCons (dBin fMul (oExp (dC (.int 1000))) (oVar 1)) (fNil))))))
def b__law_random_F1 : TSD := sSeq (sIx 0 (dBin fAdd (oExp (dBin fIx (oVar 0) (oExp (dC (.int 2))))) (oExp (dC (.int 1)))) (dC (.int 2)))
  (sSet 2 (dBin fAdd (oExp (dBin fMul (oVar 2) (oExp (dC (.int 2147483587))))) (oExp (dFn sp__law_hash 2 (fCons (dBin fIx (oVar 0) (oExp (dC (.int 1)))) (fCons (dBin fIx (oVar 0) (oExp (dC (.int 2)))) (fNil)))))))
/-- _law_random: 0 generator, 1 bound, 2 drawn, 3 turn -/
def b__law_random : TSD := sSeq (sIf (tVal (dBin (fOrd pGt) (oExp (dBin fIx (oVar 0) (oExp (dC (.int 0))))) (oExp (dC (.int 0))))) (sSeq (sSet 2 (dBin fMod (oExp (dCall fInt (aCons (oExp (dBin fIx (oVar 0) (oExp (dC (.int 0))))) (aNil)))) (oVar 1)))
  (sSeq (sIx 0 (dBin fDiv (oExp (dBin fIx (oVar 0) (oExp (dC (.int 0))))) (oVar 1)) (dC (.int 0)))
  (sRetV 2))) (sNext))
  (sSeq (sSet 2 (dC (.int 0)))
  (sSeq (sFor (iRg1 (dBin fAdd (oExp (dC (.int 1))) (oExp (dBin fDiv (oExp (dUn fBits (oVar 1))) (oExp (dC (.int 30))))))) (gN 3) b__law_random_F1)
  (sRet (dBin fMod (oExp (dCall fInt (aCons (oVar 2) (aNil)))) (oVar 1)))))
/-- _law_pick: 0 generator, 1 things -/
def b__law_pick : TSD := sRet (dBin fIx (oVar 1) (oExp (dFnB sp__law_random 2 0 (fCons (dCall fLen (aCons (oVar 1) (aNil))) (fNil)))))
abbrev En (QD : Sl → List (Addr × List Dat) → Prop) : DEn := { nx := fun ρ => QD (.sh .none) (iosOf ρ), rt := fun s ρ => QD s (iosOf ρ) }
theorem cutD_map {α : Type} (f : α → Dat) (xs : List α) (lo hi : Option Int) : ∃ ys : List α, cutD (xs.map f) lo hi = ys.map f := by
  unfold cutD
  rw [List.length_map]
  exact ⟨_, by rw [← List.map_drop, ← List.map_take]⟩
theorem atI_some {α : Type} {xs : List α} {i : Int} (h0 : 0 ≤ i) (h : i < xs.length) : ∃ x ∈ xs, atI xs i = some x := by
  obtain ⟨j, rfl⟩ := Int.eq_ofNat_of_zero_le h0
  have hj : j < xs.length := by omega
  exact ⟨xs[j], List.getElem_mem hj, atI_nat (List.getElem?_eq_getElem hj)⟩
theorem mod_lt_pos (a : Int) {m : Int} (h : 0 < m) : 0 ≤ a % m ∧ a % m < m := ⟨Int.emod_nonneg a (by omega), Int.emod_lt_of_pos a h⟩
theorem pure__law_cell : ∀ as QD, sp__law_cell as QD → as.length = 2 → b__law_cell (En QD) (as ++ List.replicate 0 .un) := by
  rintro _ QD ⟨ns, i, rfl, hi, hq⟩ _
  simp [b__law_cell]
  by_cases h : i < ns.length
  · obtain ⟨x, _, e⟩ := atI_some (xs := ns.map PyData.int) hi (by simpa using h)
    obtain ⟨y, _, rfl⟩ := List.mem_map.mp ‹_›
    rw [if_pos h, atD_of e]
    exact hq _
  · obtain ⟨ys, e⟩ := cutD_map PyData.int ns none (some 1)
    rw [if_neg h, e]
    simp [hq]
theorem pure__law_hash : ∀ as QD, sp__law_hash as QD → as.length = 2 → b__law_hash (En QD) (as ++ List.replicate 1 .un) := by
  rintro _ QD ⟨s, i, rfl, hi, hi2, hq⟩ _
  simp [b__law_hash]
  have r1 := mod_lt_pos (s * 1140671 + 27644437 * i * i + 131 * i + 19) (m := 2147483629) (by decide)
  refine ⟨mulOk_r (by decide) (by decide), mulOk_l (by decide) (by decide), mulOk_r (by omega) (by omega), mulOk_l (by decide) (by decide), mulOk_l (by omega) (by omega), mulOk_l (by decide) (by decide), mulOk_r (by decide) (by decide), hq _⟩
theorem pure__law_generator : ∀ as QD, sp__law_generator as QD → as.length = 2 → b__law_generator (En QD) (as ++ List.replicate 1 .un) := by
  rintro _ QD ⟨ns, i, rfl, hi, hi2, hq⟩ _
  simp [b__law_generator, sp__law_cell]
  refine ⟨ns, i, ⟨rfl, rfl⟩, hi, fun r => ⟨by decide, by decide +kernel, by decide +kernel, mulOk_l (by decide) (by decide), hq _ ⟨_, _, _, rfl, by omega, by omega⟩⟩⟩
section
variable {Q : Sl → List (Addr × List Dat) → Prop}
theorem q_hash (s i : Int) : sp__law_hash [.sh (.int s), .sh (.int i)] Q = (0 ≤ i ∧ i < 4611686018427387904 ∧ ∀ r : Int, Q (.sh (.int r)) []) := by
  apply propext
  constructor
  · rintro ⟨_, _, e, h⟩; cases e; exact h
  · intro h; exact ⟨_, _, rfl, h⟩
theorem q_rand (p : Addr) (g : List Dat) (m : Int) : sp__law_random [.io p g, .sh (.int m)] Q = (0 < m ∧ m.natAbs.log2 < 3000 ∧ ∃ n, gOk (n + 1) g ∧ ∀ r g', 0 ≤ r → r < m → gOk n g' → Q (.sh (.int r)) [(p, g')]) := by
  apply propext
  constructor
  · rintro ⟨_, _, _, n, e, h1, h2, h3⟩; cases e; exact ⟨h1, h2, n, h3⟩
  · rintro ⟨h1, h2, n, h3⟩; exact ⟨_, _, _, n, rfl, h1, h2, h3⟩
theorem q_pickL (p : Addr) (g ds : List Dat) : sp__law_pick [.io p g, .sh (.list ds)] Q = (ds ≠ [] ∧ ds.length < 1000000 ∧ ∃ n, gOk (n + 1) g ∧ ∀ d g', d ∈ ds → gOk n g' → Q (.sh d) [(p, g')]) := by
  apply propext
  constructor
  · rintro ⟨_, _, _, _, n, e, h0, h1, h2, h3⟩; cases e; cases h0; exact ⟨h1, h2, n, h3⟩
  · rintro ⟨h1, h2, n, h3⟩; exact ⟨_, _, _, _, n, rfl, rfl, h1, h2, h3⟩
theorem q_pickT (p : Addr) (g ds : List Dat) : sp__law_pick [.io p g, .sh (.tuple ds)] Q = (ds ≠ [] ∧ ds.length < 1000000 ∧ ∃ n, gOk (n + 1) g ∧ ∀ d g', d ∈ ds → gOk n g' → Q (.sh d) [(p, g')]) := by
  apply propext
  constructor
  · rintro ⟨_, _, _, _, n, e, h0, h1, h2, h3⟩; cases e; cases h0; exact ⟨h1, h2, n, h3⟩
  · rintro ⟨h1, h2, n, h3⟩; exact ⟨_, _, _, _, n, rfl, rfl, h1, h2, h3⟩
theorem q_gen (ns : List Int) (i : Int) : sp__law_generator [.sh (.list (ns.map .int)), .sh (.int i)] Q = (0 ≤ i ∧ i ≤ 1000 ∧ ∀ g, gOk 1000000 g → Q (.ol g) []) := by
  apply propext
  constructor
  · rintro ⟨_, _, e, h⟩; simp at e; obtain ⟨_, rfl⟩ := e; exact h
  · intro h; exact ⟨_, _, rfl, h⟩
end
theorem bits_le {m : Int} (h : m.natAbs.log2 < 3000) : bitsD m ≤ 3000 := by
  unfold bitsD Builtin.Int.intBits
  split <;> omega
theorem rgD_mem {lo : Int} {n i : Nat} {d : Dat} (h : (rgD lo n)[i]? = some d) : d = .int (lo + i) ∧ i < n := by
  rw [rgD_get] at h
  split at h
  · cases h; exact ⟨rfl, ‹_›⟩
  · cases h
theorem pure__law_random : ∀ as QD, sp__law_random as QD → as.length = 2 → b__law_random (En QD) (as ++ List.replicate 2 .un) := by
  rintro _ QD ⟨p, _, m, n, rfl, hm, hl, ⟨a, b, c, rfl, h1, h2⟩, hq⟩ _
  simp [b__law_random]
  have hb := bits_le hl
  by_cases ha : 0 < a
  · rw [if_pos ha]
    refine ⟨hm, ⟨hm, by omega⟩, ?_⟩
    exact hq _ _ (mod_lt_pos a hm).1 (mod_lt_pos a hm).2 ⟨_, _, _, rfl, h1, by omega⟩
  · rw [if_neg ha]
    refine ⟨by decide, by omega, ?_⟩
    have e : ((1 : Int) + (bitsD m : Int) / 30).toNat ≤ 101 := by omega
    refine forW_inv (fun i ρ => ∃ (d c2 : Int) (x : Sl), ρ = [.io p [.int a, .int b, .int c2], .sh (.int m), .sh (.int d), x] ∧ notIo (some x) ∧ c2 = c + i) _ 0 _ ⟨0, c, .un, rfl, trivial, by simp⟩ ?_ ?_
    · rintro i d ρ W he ⟨dr, c2, x, rfl, hx, hc⟩ hW
      obtain ⟨rfl, hi⟩ := rgD_mem he
      simp [b__law_random_F1, ↓q_hash, hx]
      refine ⟨mulOk_r (by decide) (by decide), ?_⟩
      refine ⟨by omega, by omega, fun r => ?_⟩
      refine hW _ ⟨_, c2 + 1, _, rfl, trivial, by omega⟩
    · rintro ρ ⟨dr, c2, x, rfl, hx, hc⟩
      simp [hm, q_ios6 hx]
      rw [rgD_len] at hc
      exact hq _ _ (mod_lt_pos _ hm).1 (mod_lt_pos _ hm).2 ⟨_, _, _, rfl, by omega, by omega⟩
theorem pure__law_pick : ∀ as QD, sp__law_pick as QD → as.length = 2 → b__law_pick (En QD) (as ++ List.replicate 0 .un) := by
  rintro _ QD ⟨p, g, t, ds, n, rfl, hs, hne, hlen, hg, hq⟩ _
  have hpos : 0 < ds.length := List.length_pos_iff.mpr hne
  have lg : (ds.length : Int).natAbs.log2 < 3000 := by
    have : ds.length < 2 ^ 3000 := Nat.lt_of_lt_of_le hlen (by decide +kernel)
    simpa using (Nat.log2_lt (by omega)).mpr this
  cases t <;> simp [seqOf] at hs
  · subst hs
    simp [b__law_pick, ↓q_rand]
    refine ⟨by omega, lg, n, hg, fun r g' h1 h2 h3 => ?_⟩
    obtain ⟨x, hx, e⟩ := atI_some h1 h2
    exact ⟨x, e, hq _ _ hx h3⟩
  · subst hs
    simp [b__law_pick, ↓q_rand]
    refine ⟨by omega, lg, n, hg, fun r g' h1 h2 h3 => ?_⟩
    obtain ⟨x, hx, e⟩ := atI_some h1 h2
    exact ⟨x, e, hq _ _ hx h3⟩

/-! ### Euclid -/
def eu (p : Nat × Nat) : Nat × Nat := if 0 < p.2 then (p.2, p.1 % p.2) else p
def iter {α : Type} (f : α → α) : Nat → α → α
  | 0, x => x
  | n + 1, x => iter f n (f x)
theorem iter_succ {α : Type} (f : α → α) : ∀ (n : Nat) (x : α), iter f (n + 1) x = f (iter f n x)
  | 0, _ => rfl
  | n + 1, x => iter_succ f n (f x)
theorem iter_add {α : Type} (f : α → α) : ∀ (n m : Nat) (x : α), iter f (n + m) x = iter f m (iter f n x)
  | 0, m, x => by rw [Nat.zero_add]; rfl
  | n + 1, m, x => by rw [show n + 1 + m = (n + m) + 1 by omega]; exact iter_add f n m (f x)
theorem iter_fix {α : Type} {f : α → α} {x : α} (h : f x = x) : ∀ n, iter f n x = x
  | 0 => rfl
  | n + 1 => by show iter f n (f x) = x; rw [h]; exact iter_fix h n
theorem eu_gcd (p : Nat × Nat) : Nat.gcd (eu p).1 (eu p).2 = Nat.gcd p.1 p.2 := by
  unfold eu
  split
  · show Nat.gcd p.2 (p.1 % p.2) = _
    rw [Nat.gcd_comm, ← Nat.gcd_rec, Nat.gcd_comm]
  · rfl
theorem eu_gcds (p : Nat × Nat) : ∀ n, Nat.gcd (iter eu n p).1 (iter eu n p).2 = Nat.gcd p.1 p.2
  | 0 => rfl
  | n + 1 => by rw [iter_succ, eu_gcd, eu_gcds p n]
theorem half_mod {a b : Nat} (h : 0 < a % b) (hb : 0 < b) : 2 * (b % (a % b)) < b := by
  have h1 := Nat.mod_lt a hb
  have h2 := Nat.mod_lt b h
  have h3 := Nat.div_add_mod b (a % b)
  have h4 : 1 ≤ b / (a % b) := (Nat.one_le_div_iff h).mpr (Nat.le_of_lt h1)
  have h5 : (a % b) * 1 ≤ (a % b) * (b / (a % b)) := Nat.mul_le_mul_left _ h4
  omega
theorem eu_end : ∀ (k : Nat) (p : Nat × Nat), p.2 < 2 ^ k → (iter eu (2 * k) p).2 = 0
  | 0, p, h => by
    have : p.2 = 0 := by omega
    exact this
  | k + 1, p, h => by
    rw [show 2 * (k + 1) = 2 * k + 1 + 1 by omega]
    show (iter eu (2 * k) (eu (eu p))).2 = 0
    refine eu_end k _ ?_
    rw [Nat.pow_succ] at h
    have hk := Nat.two_pow_pos k
    unfold eu
    by_cases h1 : 0 < p.2
    · rw [if_pos h1]
      by_cases h2 : 0 < p.1 % p.2
      · rw [if_pos h2]
        have := half_mod h2 h1
        show p.2 % (p.1 % p.2) < 2 ^ k
        omega
      · rw [if_neg h2]
        show p.1 % p.2 < 2 ^ k
        omega
    · rw [if_neg h1, if_neg h1]
      omega
theorem eu_stay {p : Nat × Nat} (h : p.2 = 0) : eu p = p := by unfold eu; rw [if_neg (by omega)]
theorem eu_400 {p : Nat × Nat} (h : p.2 < 2 ^ 200) : iter eu 400 p = (Nat.gcd p.1 p.2, 0) := by
  have e := eu_end 200 p h
  have g := eu_gcds p 400
  rw [show 2 * 200 = 400 from rfl] at e
  rw [e, Nat.gcd_zero_right] at g
  exact Prod.ext g e
/-! ### the other way back -/
structure Ex where
  x : Nat
  y : Nat
  u : Int
  v : Int
def ex (s : Ex) : Ex := if 1 < s.x then ⟨s.y % s.x, s.x, s.v - ((s.y / s.x : Nat) : Int) * s.u, s.u⟩ else s
theorem ex_stay {s : Ex} (h : ¬ 1 < s.x) : ex s = s := by unfold ex; rw [if_neg h]
theorem ex_end : ∀ (k : Nat) (s : Ex), s.x < 2 ^ k → ¬ 1 < (iter ex (2 * k) s).x
  | 0, s, h => by
    show ¬ 1 < s.x
    have : s.x < 1 := h
    omega
  | k + 1, s, h => by
    rw [show 2 * (k + 1) = 2 * k + 1 + 1 by omega]
    show ¬ 1 < (iter ex (2 * k) (ex (ex s))).x
    by_cases h1 : 1 < s.x
    · by_cases h2 : 1 < s.y % s.x
      · refine ex_end k _ ?_
        have := half_mod (a := s.y) (b := s.x) (by omega) (by omega)
        rw [Nat.pow_succ] at h
        unfold ex
        rw [if_pos h1]
        show (if 1 < s.y % s.x then _ else _ : Ex).x < _
        rw [if_pos h2]
        show s.x % (s.y % s.x) < 2 ^ k
        omega
      · have e : ¬ 1 < (ex s).x := by unfold ex; rw [if_pos h1]; exact h2
        rw [ex_stay e, iter_fix (ex_stay e)]
        exact e
    · rw [ex_stay h1, ex_stay h1, iter_fix (ex_stay h1)]
      exact h1
theorem ex_same {s : Ex} {n m : Nat} (hn : ¬ 1 < (iter ex n s).x) (hm : ¬ 1 < (iter ex m s).x) : iter ex n s = iter ex m s := by
  rcases Nat.le_total n m with h | h
  · obtain ⟨k, rfl⟩ := Nat.exists_eq_add_of_le h
    rw [iter_add, iter_fix (ex_stay hn)]
  · obtain ⟨k, rfl⟩ := Nat.exists_eq_add_of_le h
    rw [iter_add, iter_fix (ex_stay hm)]
/-- what holds all the way: u * n is x, v * n is y, but for a multiple of M -/
structure ExOk (n M : Int) (s : Ex) : Prop where
  hu : ∃ k : Int, s.u * n = s.x + k * M
  hv : ∃ k : Int, s.v * n = s.y + k * M
theorem ExOk.step {n M : Int} {s : Ex} (h : ExOk n M s) : ExOk n M (ex s) := by
  unfold ex
  split
  · obtain ⟨⟨k, hk⟩, ⟨l, hl⟩⟩ := h
    refine ⟨⟨l - ((s.y / s.x : Nat) : Int) * k, ?_⟩, ⟨k, hk⟩⟩
    show (s.v - ((s.y / s.x : Nat) : Int) * s.u) * n = ((s.y % s.x : Nat) : Int) + (l - ((s.y / s.x : Nat) : Int) * k) * M
    have e : ((s.y : Nat) : Int) = ((s.y % s.x : Nat) : Int) + ((s.y / s.x : Nat) : Int) * (s.x : Int) := by
      have := Nat.mod_add_div s.y s.x
      rw [← Int.natCast_mul, ← Int.natCast_add, Nat.mul_comm (s.y / s.x) s.x, this]
    rw [Int.sub_mul, Int.mul_assoc, hk, hl, e, Int.sub_mul, Int.mul_add, ← Int.mul_assoc]
    generalize ((s.y / s.x : Nat) : Int) * (s.x : Int) = A
    generalize ((s.y / s.x : Nat) : Int) * k * M = B
    omega
  · exact h
theorem ExOk.steps {n M : Int} {s : Ex} (h : ExOk n M s) : ∀ k, ExOk n M (iter ex k s)
  | 0 => h
  | k + 1 => by rw [iter_succ]; exact (h.steps k).step
theorem ex_gcd (s : Ex) : Nat.gcd (ex s).x (ex s).y = Nat.gcd s.x s.y := by
  unfold ex
  split
  · show Nat.gcd (s.y % s.x) s.x = _
    rw [← Nat.gcd_rec]
  · rfl
theorem ex_gcds (s : Ex) : ∀ k, Nat.gcd (iter ex k s).x (iter ex k s).y = Nat.gcd s.x s.y
  | 0 => rfl
  | k + 1 => by rw [iter_succ, ex_gcd, ex_gcds s k]
theorem ex_y (s : Ex) (h : 1 < s.y) : ∀ k, 1 < (iter ex k s).y
  | 0 => h
  | k + 1 => by
    rw [iter_succ]
    unfold ex
    split
    · assumption
    · exact ex_y s h k
/-- the start -/
def ex0 (n M : Nat) : Ex := ⟨n % M, M, 1, 0⟩
theorem ex0_ok (n M : Nat) : ExOk n M (ex0 n M) := by
  refine ⟨⟨((n / M : Nat) : Int), ?_⟩, ⟨-1, ?_⟩⟩
  · show (1 : Int) * n = ((n % M : Nat) : Int) + ((n / M : Nat) : Int) * M
    have := Nat.mod_add_div n M
    rw [← Int.natCast_mul, ← Int.natCast_add, Nat.mul_comm (n / M) M, this]
    omega
  · show (0 : Int) * n = ((M : Nat) : Int) + -1 * M
    omega
/-- the inverse: u at the end -/
@[irreducible] def inv (n M : Nat) : Int := (iter ex 400 (ex0 n M)).u
theorem inv_def (n M : Nat) : inv n M = (iter ex 400 (ex0 n M)).u := by unfold inv; rfl
theorem inv_end {n M : Nat} (hM : 1 < M) (hb : M < 2 ^ 200) : ¬ 1 < (iter ex 400 (ex0 n M)).x := by
  refine ex_end 200 _ ?_
  show n % M < 2 ^ 200
  exact Nat.lt_trans (Nat.mod_lt _ (by omega)) hb
theorem inv_ok {n M : Nat} (hM : 1 < M) (hb : M < 2 ^ 200) (hg : Nat.gcd n M = 1) : ∃ k : Int, inv n M * n = 1 + k * M := by
  have e := inv_end (n := n) hM hb
  have o := (ex0_ok n M).steps 400
  have g := ex_gcds (ex0 n M) 400
  have y := ex_y (ex0 n M) hM 400
  have g0 : Nat.gcd (ex0 n M).x (ex0 n M).y = 1 := by
    show Nat.gcd (n % M) M = 1
    rw [← Nat.gcd_rec, Nat.gcd_comm]; exact hg
  rw [g0] at g
  have x1 : (iter ex 400 (ex0 n M)).x = 1 := by
    rcases Nat.lt_or_ge (iter ex 400 (ex0 n M)).x 1 with h | h
    · have h0 : (iter ex 400 (ex0 n M)).x = 0 := by omega
      rw [h0, Nat.gcd_zero_left] at g
      omega
    · omega
  obtain ⟨k, hk⟩ := o.hu
  rw [x1, ← inv_def] at hk
  exact ⟨k, hk⟩

theorem ceil_eq (b a : Int) (ha : 0 < a) : -((-b) / a) = (b + a - 1) / a := by
  have h1 := Int.ediv_mul_le (b + a - 1) (b := a) (by omega)
  have h2 := Int.lt_ediv_add_one_mul_self (b + a - 1) ha
  generalize (b + a - 1) / a = q at h1 h2
  have e : (-b) / a = -q := by
    apply Int.le_antisymm
    · refine Int.le_of_lt_add_one ((Int.ediv_lt_iff_lt_mul ha).mpr ?_)
      rw [Int.add_mul, Int.neg_mul]
      omega
    · refine (Int.le_ediv_iff_mul_le ha).mpr ?_
      rw [Int.add_mul] at h2
      rw [Int.neg_mul]
      omega
  rw [e]; omega
def fills0 (a b g : Nat) : Int := if 1 < b / Nat.gcd a b then (((g / Nat.gcd a b : Nat) : Int) * (inv (a / Nat.gcd a b) (b / Nat.gcd a b) % ((b / Nat.gcd a b : Nat) : Int))) % ((b / Nat.gcd a b : Nat) : Int) else 0
def fillsI (a b g : Nat) : Int := if 0 < fills0 a b g then fills0 a b g else ((b / Nat.gcd a b : Nat) : Int)
theorem fills_ok {a b g : Nat} (ha : 0 < a) (hb : 0 < b) (hs : b < 2 ^ 200) (hg : g % Nat.gcd a b = 0) : 1 ≤ fillsI a b g ∧ ∃ k : Int, fillsI a b g * a = g + k * b := by
  have hc : 0 < Nat.gcd a b := Nat.gcd_pos_of_pos_left b ha
  have co : Nat.gcd (a / Nat.gcd a b) (b / Nat.gcd a b) = 1 := by
    have := Nat.coprime_div_gcd_div_gcd hc
    exact this
  have ea : a = a / Nat.gcd a b * Nat.gcd a b := (Nat.div_mul_cancel (Nat.gcd_dvd_left a b)).symm
  have eb : b = b / Nat.gcd a b * Nat.gcd a b := (Nat.div_mul_cancel (Nat.gcd_dvd_right a b)).symm
  have eg : g = g / Nat.gcd a b * Nat.gcd a b := (Nat.div_mul_cancel (Nat.dvd_of_mod_eq_zero hg)).symm
  have hR : 0 < b / Nat.gcd a b := Nat.div_pos (Nat.le_of_dvd hb (Nat.gcd_dvd_right a b)) hc
  have hRs : b / Nat.gcd a b < 2 ^ 200 := Nat.lt_of_le_of_lt (Nat.div_le_self _ _) hs
  have key : 1 ≤ fillsI a b g ∧ ∃ t : Int, fillsI a b g * ((a / Nat.gcd a b : Nat) : Int) = ((g / Nat.gcd a b : Nat) : Int) + t * ((b / Nat.gcd a b : Nat) : Int) := by
    unfold fillsI fills0
    generalize a / Nat.gcd a b = A at co
    generalize b / Nat.gcd a b = R at co hR hRs
    generalize g / Nat.gcd a b = G
    by_cases h1 : 1 < R
    · rw [if_pos h1]
      obtain ⟨k, hk⟩ := inv_ok h1 hRs co
      generalize inv A R = I at hk ⊢
      have hRI : (0 : Int) < R := by omega
      have f0 := Int.emod_nonneg ((G : Int) * (I % (R : Int))) (show (R : Int) ≠ 0 by omega)
      have d1 := Int.emod_add_mul_ediv ((G : Int) * (I % (R : Int))) R
      have d2 := Int.emod_add_mul_ediv (I) R
      generalize (G : Int) * (I % (R : Int)) / (R : Int) = t1 at d1
      generalize I / (R : Int) = t2 at d2
      -- f = G * inv + t * R
      have ef : ((G : Int) * (I % (R : Int))) % (R : Int) = (G : Int) * I + (-(G : Int) * t2 - t1) * R := by
        have e1 : I % (R : Int) = I - R * t2 := by omega
        have e2 : (G : Int) * (I % (R : Int)) = (G : Int) * I - (G : Int) * t2 * R := by
          rw [e1, Int.mul_sub, Int.mul_comm (R : Int) t2, Int.mul_assoc]
        rw [Int.sub_mul, Int.neg_mul, Int.neg_mul, Int.mul_comm t1 R]
        omega
      have fin : ∀ F : Int, (∃ s : Int, F = (G : Int) * I + s * R) → ∃ t : Int, F * A = G + t * R := by
        rintro F ⟨s, rfl⟩
        refine ⟨(G : Int) * k + s * A, ?_⟩
        rw [Int.add_mul, Int.mul_assoc, hk, Int.mul_add, Int.add_mul, Int.mul_one, Int.mul_assoc s R A, Int.mul_comm (R : Int) A, ← Int.mul_assoc s A R, ← Int.mul_assoc (G : Int) k R]
        omega
      split
      · rename_i hp
        exact ⟨by omega, fin _ ⟨_, ef⟩⟩
      · rename_i hp
        have z : ((G : Int) * (I % (R : Int))) % (R : Int) = 0 := by omega
        rw [z] at ef
        refine ⟨by omega, fin _ ⟨(-(G : Int) * t2 - t1) + 1, ?_⟩⟩
        rw [Int.add_mul]
        omega
    · rw [if_neg h1, if_neg (by decide)]
      have : R = 1 := by omega
      subst this
      exact ⟨by omega, (A : Int) - G, by omega⟩
  obtain ⟨k1, t, ht⟩ := key
  refine ⟨k1, t, ?_⟩
  generalize fillsI a b g = F at ht ⊢
  have c1 : (a : Int) = ((a / Nat.gcd a b : Nat) : Int) * ((Nat.gcd a b : Nat) : Int) := by rw [← Int.natCast_mul, ← ea]
  have c2 : (b : Int) = ((b / Nat.gcd a b : Nat) : Int) * ((Nat.gcd a b : Nat) : Int) := by rw [← Int.natCast_mul, ← eb]
  have c3 : (g : Int) = ((g / Nat.gcd a b : Nat) : Int) * ((Nat.gcd a b : Nat) : Int) := by rw [← Int.natCast_mul, ← eg]
  rw [c1, c2, c3, ← Int.mul_assoc, ht, Int.add_mul, Int.mul_assoc t]
def empt (a b g : Nat) : Int := (fillsI a b g * a - g) / b
theorem straight_ok {a b g : Nat} (ha : 0 < a) (hb : 0 < b) (hs : b < 2 ^ 200) (hg : g % Nat.gcd a b = 0) (h0 : 0 < g) (h1 : g ≠ b) (hm : g ≤ max a b) :
    (g : Int) ≤ fillsI a b g * a ∧ ((fillsI a b g - 1) * a / b < empt a b g ↔ g < a) := by
  obtain ⟨f1, k, hk⟩ := fills_ok ha hb hs hg
  unfold empt
  generalize fillsI a b g = F at f1 hk
  have hbI : (0 : Int) < b := by omega
  have ek : (F * a - g) / b = k := by
    rw [hk, show (g : Int) + k * b - g = k * b by omega, Int.mul_ediv_cancel _ (by omega)]
  have fa : (a : Int) ≤ F * a := by
    have := Int.mul_le_mul_of_nonneg_right f1 (show (0 : Int) ≤ a by omega)
    omega
  refine ⟨?_, ?_⟩
  · by_cases hga : g ≤ a
    · omega
    · have hgb : g < b := by
        have : g ≤ b := by omega
        omega
      by_cases hk0 : 0 ≤ k
      · have := Int.mul_nonneg hk0 (Int.le_of_lt hbI)
        omega
      · have : k * b ≤ -1 * b := Int.mul_le_mul_of_nonneg_right (by omega) (Int.le_of_lt hbI)
        omega
  · rw [ek, Int.ediv_lt_iff_lt_mul hbI, Int.sub_mul]
    omega

/-! ### k20: what each def does -/
def wholeD (d : Dat) : Bool := isTy "int" d && !isTy "bool" d
@[simp] theorem wholeD_int (i : Int) : wholeD (.int i) = true := by simp [wholeD, isTy, tyN]
def sp_is_whole : FS := fun as Q => ∃ d, as = [.sh d] ∧ Q (.sh (.bool (wholeD d))) []
def sp_is_count : FS := fun as Q => ∃ i : Int, as = [.sh (.int i)] ∧ Q (.sh (.bool (decide (0 ≤ i)))) []
def sp_check_number : FS := fun as Q => ∃ i : Int, as = [.sh (.int i)] ∧ 0 ≤ i ∧ Q (.sh .none) []
abbrev B64 : Nat := 18446744073709551616
def natD (n : Nat) : Dat := .int n
def jugsD (js : List Nat) : Dat := .list (js.map natD)
def jugsOk (js : List Nat) : Prop := js ≠ [] ∧ js.length ≤ 1000 ∧ ∀ j ∈ js, 0 < j ∧ j < B64
def gcdL (js : List Nat) : Nat := js.foldl (fun f s => Nat.gcd s f) 0
def maxL (js : List Nat) : Nat := js.foldr max 0
def byTap (js : List Nat) (g : Nat) : Bool := if js.length = 1 then decide (g = 0) || decide (g = js.headD 0) else decide (g ≤ maxL js) && decide (g % gcdL js = 0)
def sp_common_of : FS := fun as Q => ∃ a b : Nat, as = [.sh (.int a), .sh (.int b)] ∧ Q (.sh (.int (Nat.gcd a b))) []
def sp_are_jugs : FS := fun as Q => ∃ js, as = [.sh (jugsD js)] ∧ jugsOk js ∧ Q (.sh (.bool true)) []
def sp_check_jugs : FS := fun as Q => ∃ js, as = [.sh (jugsD js)] ∧ jugsOk js ∧ Q (.sh .none) []
def sp_check_sizes : FS := fun as Q => ∃ (js : List Nat) (g : Nat), as = [.sh (jugsD js), .sh (.int g)] ∧ jugsOk js ∧ Q (.sh .none) []
def sp_common_of_sizes : FS := fun as Q => ∃ js, as = [.sh (jugsD js)] ∧ Q (.sh (.int (gcdL js))) []
def sp_is_by_tap : FS := fun as Q => ∃ (js : List Nat) (g : Nat), as = [.sh (jugsD js), .sh (.int g)] ∧ jugsOk js ∧ Q (.sh (.bool (byTap js g))) []
def sp_can_by_tap : FS := sp_is_by_tap
def paperD (js : List Nat) (g : Nat) : Dat := if byTap js g = true then .none else if maxL js < g then .tuple [.str "great", .int (maxL js)] else if js.length = 1 then .tuple [.str "single", .int (js.headD 0)] else .tuple [.str "common", .int (gcdL js)]
def sp_tap_paper : FS := fun as Q => ∃ (js : List Nat) (g : Nat), as = [.sh (jugsD js), .sh (.int g)] ∧ jugsOk js ∧ Q (.sh (paperD js g)) []
def tapN (js : List Nat) (g : Nat) (k : Str) (m : Int) : Bool :=
  if m < 1 then false else if k = "great" then decide ((maxL js : Int) ≤ m) && decide (m < g) else if k = "single" then decide (js.map (fun n : Nat => (n : Int)) = [m]) && (!decide (g = 0) && !decide ((g : Int) = m)) else
    decide (k = "common") && (js.all (fun j => decide ((j : Int) % m = 0)) && !decide ((g : Int) % m = 0))
def tapJ (js : List Nat) (g : Nat) : Dat → Bool
  | .tuple [.str k, .int m] => tapN js g k m
  | _ => false
def sp_is_tap_paper : FS := fun as Q => ∃ (js : List Nat) (g : Nat) (v : Dat), as = [.sh (jugsD js), .sh (.int g), .sh v] ∧ jugsOk js ∧ Q (.sh (.bool (tapJ js g v))) []
def sp__law_is_paper : FS := sp_is_tap_paper
def sp_turned_back : FS := fun as Q => ∃ n M : Nat, as = [.sh (.int n), .sh (.int M)] ∧ 1 < M ∧ M < B64 ∧ Q (.sh (.int (inv n M % M))) []
def sp__law_inverse : FS := sp_turned_back
def stD (a b g : Nat) : Dat := if g = 0 then .int 0 else if g = a then .int 1 else if g = b then .int (2 * (((b : Int) + a - 1) / a)) else if max a b < g ∨ g % Nat.gcd a b ≠ 0 then .none else .int (2 * fillsI a b g + 2 * empt a b g - (if g < a then 2 else 0))
def szOk (a b g : Nat) : Prop := 0 < a ∧ a < B64 ∧ 0 < b ∧ b < B64 ∧ g < B64
def sp_straight_from : FS := fun as Q => ∃ a b g : Nat, as = [.sh (.int a), .sh (.int b), .sh (.int g)] ∧ szOk a b g ∧ Q (.sh (stD a b g)) []
def sp__law_straight : FS := sp_straight_from
def sp_straight_pours : FS := fun as Q => ∃ a b g : Nat, as = [.sh (.int a), .sh (.int b), .sh (.int g)] ∧ szOk a b g ∧ Q (.sh (.tuple [stD a b g, stD b a g])) []
def sp__law_part : FS := fun as Q => ∃ a b : Nat, as = [.sh (.int a), .sh (.int b)] ∧ b < B64 ∧ Q (.sh (.int (Nat.gcd a b))) []
def sp__law_drawn : FS := fun as Q => ∃ (p : Addr) (g ds : List Dat) (n : Nat), as = [.io p g, .sh (.list ds)] ∧ ds.length ≤ 1000 ∧ gOk (n + ds.length) g ∧ ∀ ds' g', ds'.Perm ds → gOk n g' → Q (.ol ds') [(p, g')]
def sp__law_sizes : FS := fun as Q => ∃ (p : Addr) (g : List Dat) (n : Nat), as = [.io p g] ∧ gOk (n + 8) g ∧ ∀ (t a b : Nat) g', 0 < a → a < 100000000000000000 → 0 < b → b < 100000000000000000 → gOk n g' → Q (.sh (.tuple [.int t, .list [.int a, .int b]])) [(p, g')]
def sp__law_straight_right : FS := fun as Q => ∃ (p : Addr) (g : List Dat) (n : Nat), as = [.io p g] ∧ gOk (n + 20) g ∧ ∀ g', gOk n g' → Q (.sh (.bool true)) [(p, g')]
def sp__law_tap_right : FS := fun as Q => ∃ (p : Addr) (g : List Dat) (n : Nat), as = [.io p g] ∧ gOk (n + 30) g ∧ ∀ g', gOk n g' → Q (.sh (.bool true)) [(p, g')]
def sp_law : FS := spLaw
def b__law_drawn_F1 : TSD := sDrop (dMut 3 mAppend (fCons (dMut 2 mPopAt (fCons (dFnB sp__law_random 2 0 (fCons (dCall fLen (aCons (oVar 2) (aNil))) (fNil))) (fNil))) (fNil)))
/-- _law_drawn: 0 generator, 1 things, 2 left, 3 found, 4 thing -/
def b__law_drawn : TSD := sSeq (sParV 2 3 (vCons (dCall fList (aCons (oVar 1) (aNil))) (vCons (dLst (fNil)) (vNil))))
  (sSeq (sFor (iLst (dVar 1)) (gN 4) b__law_drawn_F1)
  (sRetV 3))
def b__law_sizes_F1 : TSD := sDrop (dMut 5 mAppend (fCons (dBin fAdd (oExp (dBin fIx (oVar 5) (oExp (dUn fNeg (oExp (dC (.int 1))))))) (oExp (dBin fIx (oVar 5) (oExp (dUn fNeg (oExp (dC (.int 2)))))))) (fNil)))
/-- _law_sizes: 0 generator, 1 way, 2 part, 3 one, 4 other, 5 fibs, 6 turn, 7 at, 8 pair -/
def b__law_sizes : TSD := sSeq (sSet 1 (dFnB sp__law_random 2 0 (fCons (dC (.int 6)) (fNil))))
  (sSeq (sSet 2 (dFnB sp__law_pick 2 0 (fCons (dLst (fCons (dC (.int 1)) (fCons (dC (.int 1)) (fCons (dC (.int 2)) (fCons (dC (.int 6)) (fCons (dC (.int 35)) (fCons (dBin fPow (oExp (dC (.int 10))) (oExp (dC (.int 4)))) (fNil)))))))) (fNil))))
  (sSeq (sIf (tVal (dBin fEq (oVar 1) (oExp (dC (.int 0))))) (sPar 3 4 (fCons (dBin fAdd (oExp (dC (.int 1))) (oExp (dFnB sp__law_random 2 0 (fCons (dC (.int 30)) (fNil))))) (fCons (dBin fAdd (oExp (dC (.int 1))) (oExp (dFnB sp__law_random 2 0 (fCons (dC (.int 30)) (fNil))))) (fNil)))) (sIf (tVal (dBin fEq (oVar 1) (oExp (dC (.int 1))))) (sPar 3 4 (fCons (dBin fAdd (oExp (dC (.int 1))) (oExp (dFnB sp__law_random 2 0 (fCons (dC (.int 40)) (fNil))))) (fCons (dBin fAdd (oExp (dC (.int 1))) (oExp (dFnB sp__law_random 2 0 (fCons (dBin fPow (oExp (dC (.int 10))) (oExp (dC (.int 7)))) (fNil))))) (fNil)))) (sIf (tVal (dBin fEq (oVar 1) (oExp (dC (.int 2))))) (sSeq (sSet 5 (dLst (fCons (dC (.int 1)) (fCons (dC (.int 1)) (fNil)))))
  (sSeq (sFor (iRg1 (dC (.int 38))) (gN 6) b__law_sizes_F1)
  (sSeq (sSet 7 (dBin fAdd (oExp (dC (.int 3))) (oExp (dFnB sp__law_random 2 0 (fCons (dC (.int 34)) (fNil))))))
  (sPar 3 4 (fCons (dBin fIx (oVar 5) (oVar 7)) (fCons (dBin fIx (oVar 5) (oExp (dBin fAdd (oVar 7) (oExp (dC (.int 1)))))) (fNil))))))) (sPar 3 4 (fCons (dBin fAdd (oExp (dC (.int 1))) (oExp (dFnB sp__law_random 2 0 (fCons (dBin fPow (oExp (dC (.int 10))) (oExp (dC (.int 7)))) (fNil))))) (fCons (dBin fAdd (oExp (dC (.int 1))) (oExp (dFnB sp__law_random 2 0 (fCons (dBin fPow (oExp (dC (.int 10))) (oExp (dC (.int 7)))) (fNil))))) (fNil)))))))
  (sSeq (sSet 8 (dLst (fCons (dBin fMul (oVar 2) (oVar 3)) (fCons (dBin fMul (oVar 2) (oVar 4)) (fNil)))))
  (sRet (dTup (fCons (dVar 2) (fCons (dFnB sp__law_drawn 2 0 (fCons (dVar 8) (fNil))) (fNil))))))))
def b__law_part_F1 : TSD := sIf (tVal (dBin (fOrd pGt) (oVar 3) (oExp (dC (.int 0))))) (sPar 2 3 (fCons (dVar 3) (fCons (dBin fMod (oExp (dCall fInt (aCons (oVar 2) (aNil)))) (oExp (dCall fInt (aCons (oVar 3) (aNil))))) (fNil)))) (sNext)
/-- _law_part: 0 one, 1 other, 2 left, 3 more, 4 turn -/
def b__law_part : TSD := sSeq (sPar 2 3 (fCons (dVar 0) (fCons (dVar 1) (fNil))))
  (sSeq (sFor (iRg1 (dC (.int 400))) (gN 4) b__law_part_F1)
  (sRetV 2))
def b__law_inverse_F1 : TSD := sIf (tVal (dBin (fOrd pGt) (oVar 2) (oExp (dC (.int 1))))) (sSeq (sSet 7 (dBin fDiv (oExp (dCall fInt (aCons (oVar 3) (aNil)))) (oVar 2)))
  (sAsg (dTup (fCons (dBin fSub (oVar 3) (oExp (dBin fMul (oVar 7) (oVar 2)))) (fCons (dVar 2) (fCons (dBin fSub (oVar 5) (oExp (dBin fMul (oVar 7) (oVar 4)))) (fCons (dVar 4) (fNil)))))) (gT 4 (gsCons (gN 2) (gsCons (gN 3) (gsCons (gN 4) (gsCons (gN 5) (gsNil)))))))) (sNext)
/-- _law_inverse: 0 number, 1 most, 2 one, 3 other, 4 left, 5 right, 6 turn, 7 part -/
def b__law_inverse : TSD := sSeq (sAsg (dTup (fCons (dBin fMod (oVar 0) (oVar 1)) (fCons (dVar 1) (fCons (dC (.int 1)) (fCons (dC (.int 0)) (fNil)))))) (gT 4 (gsCons (gN 2) (gsCons (gN 3) (gsCons (gN 4) (gsCons (gN 5) (gsNil)))))))
  (sSeq (sFor (iRg1 (dC (.int 400))) (gN 6) b__law_inverse_F1)
  (sRet (dIf (tVal (dBin (fOrd pGt) (oVar 1) (oExp (dC (.int 1))))) (dBin fMod (oVar 4) (oVar 1)) (dC (.int 0)))))
/-- _law_straight: 0 one, 1 other, 2 goal, 3 part, 4 wide, 5 fills, 6 emptied -/
def b__law_straight : TSD := sSeq (sSet 3 (dFn sp__law_part 2 (fCons (dVar 0) (fCons (dVar 1) (fNil)))))
  (sSeq (sIf (tVal (dBin fEq (oVar 2) (oExp (dC (.int 0))))) (sRet (dC (.int 0))) (sNext))
  (sSeq (sIf (tOrD (tVal (dBin (fOrd pGt) (oVar 2) (oExp (dCall fMax (aCons (oVar 0) (aCons (oVar 1) (aNil))))))) (tVal (dBin (fOrd pGt) (oExp (dBin fMod (oExp (dCall fInt (aCons (oVar 2) (aNil)))) (oVar 3))) (oExp (dC (.int 0)))))) (sRet (dC .none)) (sNext))
  (sSeq (sIf (tVal (dBin fEq (oVar 2) (oVar 0))) (sRet (dC (.int 1))) (sNext))
  (sSeq (sIf (tVal (dBin fEq (oVar 2) (oVar 1))) (sRet (dBin fMul (oExp (dC (.int 2))) (oExp (dBin fDiv (oExp (dCall fInt (aCons (oExp (dBin fSub (oExp (dBin fAdd (oVar 1) (oVar 0))) (oExp (dC (.int 1))))) (aNil)))) (oVar 0))))) (sNext))
  (sSeq (sSet 4 (dBin fDiv (oExp (dCall fInt (aCons (oVar 1) (aNil)))) (oVar 3)))
  (sSeq (sSet 5 (dIf (tVal (dBin (fOrd pGt) (oVar 4) (oExp (dC (.int 1))))) (dBin fMod (oExp (dCall fInt (aCons (oExp (dBin fMul (oExp (dBin fDiv (oVar 2) (oVar 3))) (oExp (dFn sp__law_inverse 2 (fCons (dBin fDiv (oExp (dCall fInt (aCons (oVar 0) (aNil)))) (oVar 3)) (fCons (dVar 4) (fNil))))))) (aNil)))) (oVar 4)) (dC (.int 0))))
  (sSeq (sSet 5 (dIf (tVal (dBin (fOrd pGt) (oVar 5) (oExp (dC (.int 0))))) (dVar 5) (dVar 4)))
  (sSeq (sIf (tVal (dBin (fOrd pLt) (oExp (dBin fMul (oVar 5) (oVar 0))) (oVar 2))) (sSet 5 (dBin fAdd (oVar 5) (oExp (dBin fMul (oVar 4) (oExp (dBin fDiv (oExp (dCall fInt (aCons (oExp (dBin fSub (oExp (dBin fAdd (oExp (dBin fSub (oVar 2) (oExp (dBin fMul (oVar 5) (oVar 0))))) (oExp (dBin fMul (oVar 4) (oVar 0))))) (oExp (dC (.int 1))))) (aNil)))) (oExp (dBin fMul (oVar 4) (oVar 0))))))))) (sNext))
  (sSeq (sSet 6 (dBin fDiv (oExp (dCall fInt (aCons (oExp (dBin fSub (oExp (dBin fMul (oVar 5) (oVar 0))) (oVar 2))) (aNil)))) (oVar 1)))
  (sRet (dBin fSub (oExp (dBin fAdd (oExp (dBin fMul (oExp (dC (.int 2))) (oVar 5))) (oExp (dBin fMul (oExp (dC (.int 2))) (oVar 6))))) (oExp (dIf (tVal (dBin (fOrd pLt) (oVar 2) (oVar 0))) (dC (.int 2)) (dC (.int 0)))))))))))))))
/-- is_whole: 0 value -/
def b_is_whole : TSD := sRet (dAnd (dUn (fIsi "int") (oVar 0)) (dNot (oExp (dUn (fIsi "bool") (oVar 0)))))
def b_are_jugs_g1 : TGD := gN 1
def b_are_jugs_t2 : TTD := tYesD
def b_are_jugs_e3 : TD := dAnd (dFn sp_is_whole 1 (fCons (dVar 1) (fNil))) (dBin (fOrd pGt) (oVar 1) (oExp (dC (.int 0))))
/-- are_jugs: 0 value, 1 size -/
def b_are_jugs : TSD := sRet (dAnd (dUn (fIsi "list") (oVar 0)) (dAnd (dBin fNe (oVar 0) (oExp (dLst (fNil)))) (dCall fAll (aCons (oExp (dLc (iLst (dVar 0)) b_are_jugs_g1 b_are_jugs_t2 b_are_jugs_e3 [1])) (aNil)))))
/-- check_jugs: 0 jugs -/
def b_check_jugs : TSD := sIf (tNotD (tVal (dFn sp_are_jugs 1 (fCons (dVar 0) (fNil))))) (sNever) (sNext)
/-- is_count: 0 value -/
def b_is_count : TSD := sRet (dAnd (dFn sp_is_whole 1 (fCons (dVar 0) (fNil))) (dBin (fOrd pGe) (oVar 0) (oExp (dC (.int 0)))))
/-- check_number: 0 value -/
def b_check_number : TSD := sIf (tNotD (tVal (dFn sp_is_count 1 (fCons (dVar 0) (fNil))))) (sNever) (sNext)
/-- check_sizes: 0 jugs, 1 goal -/
def b_check_sizes : TSD := sSeq (sDrop (dFn sp_check_jugs 1 (fCons (dVar 0) (fNil))))
  (sDrop (dFn sp_check_number 1 (fCons (dVar 1) (fNil))))
def b_common_of_C1 : TTD := tVal (dBin (fOrd pGt) (oVar 1) (oExp (dC (.int 0))))
def b_common_of_W2 : TSD := sPar 0 1 (fCons (dVar 1) (fCons (dBin fMod (oVar 0) (oVar 1)) (fNil)))
/-- common_of: 0 one, 1 other -/
def b_common_of : TSD := sSeq (sPar 0 1 (fCons (dCall fAbs (aCons (oVar 0) (aNil))) (fCons (dCall fAbs (aCons (oVar 1) (aNil))) (fNil))))
  (sSeq (whlW b_common_of_C1 b_common_of_W2)
  (sRetV 0))
def b_common_of_sizes_F1 : TSD := sSet 1 (dFn sp_common_of 2 (fCons (dVar 2) (fCons (dVar 1) (fNil))))
/-- common_of_sizes: 0 jugs, 1 found, 2 size -/
def b_common_of_sizes : TSD := sSeq (sSet 1 (dC (.int 0)))
  (sSeq (sFor (iLst (dVar 0)) (gN 2) b_common_of_sizes_F1)
  (sRetV 1))
/-- is_by_tap: 0 jugs, 1 goal -/
def b_is_by_tap : TSD := sSeq (sIf (tVal (dBin fEq (oExp (dCall fLen (aCons (oVar 0) (aNil)))) (oExp (dC (.int 1))))) (sRet (dBin fIn (oVar 1) (oExp (dTup (fCons (dC (.int 0)) (fCons (dBin fIx (oVar 0) (oExp (dC (.int 0)))) (fNil))))))) (sNext))
  (sRet (dAnd (dBin (fOrd pLe) (oVar 1) (oExp (dCall fMax (aCons (oVar 0) (aNil))))) (dBin fEq (oExp (dBin fMod (oVar 1) (oExp (dFn sp_common_of_sizes 1 (fCons (dVar 0) (fNil)))))) (oExp (dC (.int 0))))))
/-- can_by_tap: 0 jugs, 1 goal -/
def b_can_by_tap : TSD := sSeq (sDrop (dFn sp_check_sizes 2 (fCons (dVar 0) (fCons (dVar 1) (fNil)))))
  (sRet (dFn sp_is_by_tap 2 (fCons (dVar 0) (fCons (dVar 1) (fNil)))))
def b_turned_back_C1 : TTD := tVal (dBin (fOrd pGt) (oVar 2) (oExp (dC (.int 1))))
def b_turned_back_W2 : TSD := sSeq (sSet 6 (dBin fDiv (oVar 3) (oVar 2)))
  (sAsg (dTup (fCons (dBin fSub (oVar 3) (oExp (dBin fMul (oVar 6) (oVar 2)))) (fCons (dVar 2) (fCons (dBin fSub (oVar 5) (oExp (dBin fMul (oVar 6) (oVar 4)))) (fCons (dVar 4) (fNil)))))) (gT 4 (gsCons (gN 2) (gsCons (gN 3) (gsCons (gN 4) (gsCons (gN 5) (gsNil)))))))
/-- turned_back: 0 number, 1 modulus, 2 low, 3 high, 4 first, 5 second, 6 times -/
def b_turned_back : TSD := sSeq (sAsg (dTup (fCons (dBin fMod (oVar 0) (oVar 1)) (fCons (dVar 1) (fCons (dC (.int 1)) (fCons (dC (.int 0)) (fNil)))))) (gT 4 (gsCons (gN 2) (gsCons (gN 3) (gsCons (gN 4) (gsCons (gN 5) (gsNil)))))))
  (sSeq (whlW b_turned_back_C1 b_turned_back_W2)
  (sRet (dBin fMod (oVar 4) (oVar 1))))
/-- straight_from: 0 one, 1 other, 2 goal, 3 common, 4 rounds, 5 fills, 6 empties, 7 early -/
def b_straight_from : TSD := sSeq (sSet 3 (dFn sp_common_of 2 (fCons (dVar 0) (fCons (dVar 1) (fNil)))))
  (sSeq (sIf (tOrD (tVal (dBin fEq (oVar 2) (oExp (dC (.int 0))))) (tVal (dBin fEq (oVar 2) (oVar 0)))) (sRet (dCall fInt (aCons (oExp (dBin fEq (oVar 2) (oVar 0))) (aNil)))) (sNext))
  (sSeq (sIf (tVal (dBin fEq (oVar 2) (oVar 1))) (sRet (dBin fMul (oExp (dC (.int 2))) (oExp (dUn fNeg (oExp (dBin fDiv (oExp (dUn fNeg (oVar 1))) (oVar 0))))))) (sNext))
  (sSeq (sIf (tOrD (tVal (dBin (fOrd pGt) (oVar 2) (oExp (dCall fMax (aCons (oVar 0) (aCons (oVar 1) (aNil))))))) (tVal (dBin fNe (oExp (dBin fMod (oVar 2) (oVar 3))) (oExp (dC (.int 0)))))) (sRet (dC .none)) (sNext))
  (sSeq (sSet 4 (dBin fDiv (oVar 1) (oVar 3)))
  (sSeq (sSet 5 (dIf (tVal (dBin (fOrd pGt) (oVar 4) (oExp (dC (.int 1))))) (dBin fMod (oExp (dBin fMul (oExp (dBin fDiv (oVar 2) (oVar 3))) (oExp (dFn sp_turned_back 2 (fCons (dBin fDiv (oVar 0) (oVar 3)) (fCons (dVar 4) (fNil))))))) (oVar 4)) (dC (.int 0))))
  (sSeq (sSet 5 (dIf (tVal (dBin (fOrd pGt) (oVar 5) (oExp (dC (.int 0))))) (dVar 5) (dVar 4)))
  (sSeq (sPar 6 7 (fCons (dBin fDiv (oExp (dBin fSub (oExp (dBin fMul (oVar 5) (oVar 0))) (oVar 2))) (oVar 1)) (fCons (dBin fDiv (oExp (dBin fMul (oExp (dBin fSub (oVar 5) (oExp (dC (.int 1))))) (oVar 0))) (oVar 1)) (fNil))))
  (sRet (dBin fSub (oExp (dBin fMul (oExp (dC (.int 2))) (oExp (dBin fAdd (oVar 5) (oVar 6))))) (oExp (dIf (tVal (dBin (fOrd pGt) (oVar 6) (oVar 7))) (dC (.int 2)) (dC (.int 0)))))))))))))
def b_straight_pours_F1 : TSD := sIf (tOrD (tNotD (tVal (dFn sp_is_whole 1 (fCons (dVar 3) (fNil))))) (tVal (dBin (fOrd pLt) (oVar 3) (oExp (dC (.int 1)))))) (sNever) (sNext)
/-- straight_pours: 0 one, 1 other, 2 goal, 3 size -/
def b_straight_pours : TSD := sSeq (sFor (iTup (dTup (fCons (dVar 0) (fCons (dVar 1) (fNil))))) (gN 3) b_straight_pours_F1)
  (sSeq (sDrop (dFn sp_check_number 1 (fCons (dVar 2) (fNil))))
  (sRet (dTup (fCons (dFn sp_straight_from 3 (fCons (dVar 0) (fCons (dVar 1) (fCons (dVar 2) (fNil))))) (fCons (dFn sp_straight_from 3 (fCons (dVar 1) (fCons (dVar 0) (fCons (dVar 2) (fNil))))) (fNil))))))
def b__law_straight_right_F1 : TSD := sSeq (sSet 7 (dTup (fCons (dFn sp__law_straight 3 (fCons (dVar 2) (fCons (dVar 3) (fCons (dVar 6) (fNil))))) (fCons (dFn sp__law_straight 3 (fCons (dVar 3) (fCons (dVar 2) (fCons (dVar 6) (fNil))))) (fNil)))))
  (sSeq (sIf (tVal (dBin fNe (oExp (dCall fRepr (aCons (oExp (dLst (fCons (dFn sp_straight_pours 3 (fCons (dVar 2) (fCons (dVar 3) (fCons (dVar 6) (fNil))))) (fCons (dFnK sp_straight_pours 3 (gsel 0 3 [2, 1, 0]) fNil (fCons (dVar 6) (fCons (dVar 3) (fCons (dVar 2) (fNil))))) (fNil))))) (aNil)))) (oExp (dCall fRepr (aCons (oExp (dLst (fCons (dVar 7) (fCons (dVar 7) (fNil))))) (aNil)))))) (sRet (dC (.bool false))) (sNext))
  (sIf (tVal (dBin fEq (oExp (dBin fEq (oVar 7) (oExp (dTup (fCons (dC .none) (fCons (dC .none) (fNil))))))) (oExp (dFn sp_can_by_tap 2 (fCons (dLst (fCons (dVar 2) (fCons (dVar 3) (fNil)))) (fCons (dVar 6) (fNil))))))) (sRet (dC (.bool false))) (sNext)))
/-- _law_straight_right: 0 generator, 1 part, 2 one, 3 other, 4 great, 5 goals, 6 goal, 7 due -/
def b__law_straight_right : TSD := sSeq (sAsg (dFnB sp__law_sizes 1 0 (fNil)) (gT 2 (gsCons (gN 1) (gsCons (gL 2 (gsCons (gN 2) (gsCons (gN 3) (gsNil)))) (gsNil)))))
  (sSeq (sPar 1 4 (fCons (dFn sp__law_part 2 (fCons (dVar 2) (fCons (dVar 3) (fNil)))) (fCons (dCall fMax (aCons (oVar 2) (aCons (oVar 3) (aNil)))) (fNil))))
  (sSeq (sSet 5 (dLst (fCons (dC (.int 0)) (fCons (dVar 2) (fCons (dVar 3) (fCons (dVar 1) (fCons (dBin fSub (oVar 4) (oVar 1)) (fCons (dBin fAdd (oVar 4) (oExp (dC (.int 1)))) (fCons (dBin fMul (oVar 1) (oExp (dFnB sp__law_random 2 0 (fCons (dBin fAdd (oExp (dBin fDiv (oExp (dCall fInt (aCons (oVar 4) (aNil)))) (oVar 1))) (oExp (dC (.int 1)))) (fNil))))) (fNil))))))))))
  (sSeq (sFor (iLst (dBin fAdd (oVar 5) (oExp (dLst (fCons (dBin fMul (oVar 1) (oExp (dFnB sp__law_random 2 0 (fCons (dBin fAdd (oExp (dBin fDiv (oExp (dCall fInt (aCons (oExp (dCall fMin (aCons (oVar 2) (aCons (oVar 3) (aNil))))) (aNil)))) (oVar 1))) (oExp (dC (.int 1)))) (fNil))))) (fCons (dFnB sp__law_random 2 0 (fCons (dBin fAdd (oVar 4) (oExp (dC (.int 1)))) (fNil))) (fNil))))))) (gN 6) b__law_straight_right_F1)
  (sRet (dC (.bool true))))))
/-- tap_paper: 0 jugs, 1 goal -/
def b_tap_paper : TSD := sSeq (sDrop (dFn sp_check_sizes 2 (fCons (dVar 0) (fCons (dVar 1) (fNil)))))
  (sSeq (sIf (tVal (dFn sp_is_by_tap 2 (fCons (dVar 0) (fCons (dVar 1) (fNil))))) (sRet (dC .none)) (sNext))
  (sSeq (sIf (tVal (dBin (fOrd pGt) (oVar 1) (oExp (dCall fMax (aCons (oVar 0) (aNil)))))) (sRet (dTup (fCons (dC (.str "great")) (fCons (dCall fMax (aCons (oVar 0) (aNil))) (fNil))))) (sNext))
  (sRet (dIf (tVal (dBin fEq (oExp (dCall fLen (aCons (oVar 0) (aNil)))) (oExp (dC (.int 1))))) (dTup (fCons (dC (.str "single")) (fCons (dBin fIx (oVar 0) (oExp (dC (.int 0)))) (fNil)))) (dTup (fCons (dC (.str "common")) (fCons (dFn sp_common_of_sizes 1 (fCons (dVar 0) (fNil))) (fNil))))))))
def b__law_is_paper_g1 : TGD := gN 5
def b__law_is_paper_t2 : TTD := tVal (dBin (fOrd pGt) (oExp (dBin fMod (oExp (dCall fInt (aCons (oVar 5) (aNil)))) (oVar 4))) (oExp (dC (.int 0))))
def b__law_is_paper_e3 : TD := dVar 5
/-- _law_is_paper: 0 jugs, 1 goal, 2 value, 3 word, 4 number, 5 jug -/
def b__law_is_paper : TSD := sSeq (sIf (tOrD (tNotD (tVal (dUn (fIsi "tuple") (oVar 2)))) (tOrD (tVal (dBin fNe (oExp (dCall fLen (aCons (oVar 2) (aNil)))) (oExp (dC (.int 2))))) (tOrD (tNotD (tVal (dUn (fIsi "str") (oExp (dBin fIx (oVar 2) (oExp (dC (.int 0)))))))) (tOrD (tNotD (tVal (dUn (fIsi "int") (oExp (dBin fIx (oVar 2) (oExp (dC (.int 1)))))))) (tVal (dUn (fIsi "bool") (oExp (dBin fIx (oVar 2) (oExp (dC (.int 1))))))))))) (sRet (dC (.bool false))) (sNext))
  (sSeq (sAsg (dVar 2) (gT 2 (gsCons (gN 3) (gsCons (gN 4) (gsNil)))))
  (sSeq (sIf (tVal (dBin fEq (oVar 3) (oExp (dC (.str "great"))))) (sRet (dChain (fOrd pLe) (fOrd pLt) (oExp (dCall fMax (aCons (oVar 0) (aNil)))) (oVar 4) (oVar 1))) (sNext))
  (sSeq (sIf (tVal (dBin fEq (oVar 3) (oExp (dC (.str "single"))))) (sRet (dAnd (dBin fEq (oVar 0) (oExp (dLst (fCons (dVar 4) (fNil))))) (dBin fNotIn (oVar 1) (oExp (dTup (fCons (dC (.int 0)) (fCons (dVar 4) (fNil)))))))) (sNext))
  (sRet (dAnd (dBin fEq (oVar 3) (oExp (dC (.str "common")))) (dAnd (dBin (fOrd pGe) (oVar 4) (oExp (dC (.int 1)))) (dAnd (dBin fEq (oExp (dLc (iLst (dVar 0)) b__law_is_paper_g1 b__law_is_paper_t2 b__law_is_paper_e3 [5])) (oExp (dLst (fNil)))) (dBin (fOrd pGt) (oExp (dBin fMod (oExp (dCall fInt (aCons (oVar 1) (aNil)))) (oVar 4))) (oExp (dC (.int 0)))))))))))
def b_is_tap_paper_g1 : TGD := gN 5
def b_is_tap_paper_t2 : TTD := tYesD
def b_is_tap_paper_e3 : TD := dBin (fOrd pLe) (oVar 5) (oVar 4)
def b_is_tap_paper_g4 : TGD := gN 5
def b_is_tap_paper_t5 : TTD := tYesD
def b_is_tap_paper_e6 : TD := dBin fEq (oExp (dBin fMod (oVar 5) (oVar 4))) (oExp (dC (.int 0)))
/-- is_tap_paper: 0 jugs, 1 goal, 2 value, 3 kind, 4 number, 5 size -/
def b_is_tap_paper : TSD := sSeq (sDrop (dFn sp_check_sizes 2 (fCons (dVar 0) (fCons (dVar 1) (fNil)))))
  (sSeq (sIf (tOrD (tNotD (tVal (dUn (fIsi "tuple") (oVar 2)))) (tOrD (tVal (dBin fNe (oExp (dCall fLen (aCons (oVar 2) (aNil)))) (oExp (dC (.int 2))))) (tNotD (tVal (dUn (fIsi "str") (oExp (dBin fIx (oVar 2) (oExp (dC (.int 0)))))))))) (sRet (dC (.bool false))) (sNext))
  (sSeq (sAsg (dVar 2) (gT 2 (gsCons (gN 3) (gsCons (gN 4) (gsNil)))))
  (sSeq (sIf (tOrD (tNotD (tVal (dFn sp_is_whole 1 (fCons (dVar 4) (fNil))))) (tVal (dBin (fOrd pLt) (oVar 4) (oExp (dC (.int 1)))))) (sRet (dC (.bool false))) (sNext))
  (sSeq (sIf (tVal (dBin fEq (oVar 3) (oExp (dC (.str "great"))))) (sRet (dAnd (dCall fAll (aCons (oExp (dLc (iLst (dVar 0)) b_is_tap_paper_g1 b_is_tap_paper_t2 b_is_tap_paper_e3 [5])) (aNil))) (dBin (fOrd pLt) (oVar 4) (oVar 1)))) (sNext))
  (sSeq (sIf (tVal (dBin fEq (oVar 3) (oExp (dC (.str "single"))))) (sRet (dAnd (dBin fEq (oVar 0) (oExp (dLst (fCons (dVar 4) (fNil))))) (dBin fNotIn (oVar 1) (oExp (dTup (fCons (dC (.int 0)) (fCons (dVar 4) (fNil)))))))) (sNext))
  (sRet (dAnd (dBin fEq (oVar 3) (oExp (dC (.str "common")))) (dAnd (dCall fAll (aCons (oExp (dLc (iLst (dVar 0)) b_is_tap_paper_g4 b_is_tap_paper_t5 b_is_tap_paper_e6 [5])) (aNil))) (dBin fNe (oExp (dBin fMod (oVar 1) (oVar 4))) (oExp (dC (.int 0))))))))))))
def b__law_tap_right_g1 : TGD := gN 5
def b__law_tap_right_t2 : TTD := tYesD
def b__law_tap_right_e3 : TD := dBin fMul (oVar 1) (oExp (dBin fAdd (oExp (dC (.int 1))) (oExp (dFnB sp__law_random 2 0 (fCons (dFnB sp__law_pick 2 0 (fCons (dLst (fCons (dC (.int 9)) (fCons (dC (.int 40)) (fCons (dBin fPow (oExp (dC (.int 10))) (oExp (dC (.int 5)))) (fNil))))) (fNil))) (fNil))))))
def b__law_tap_right_F4 : TSD := sSet 3 (dFn sp__law_part 2 (fCons (dVar 5) (fCons (dVar 3) (fNil))))
def b__law_tap_right_F5 : TSD := sIf (tVal (dBin fNe (oExp (dCall fRepr (aCons (oExp (dLst (fCons (dFn sp_is_tap_paper 3 (fCons (dVar 2) (fCons (dVar 6) (fCons (dVar 10) (fNil))))) (fCons (dFnK sp_is_tap_paper 3 (gsel 0 3 [2, 1, 0]) fNil (fCons (dVar 10) (fCons (dVar 6) (fCons (dVar 2) (fNil))))) (fNil))))) (aNil)))) (oExp (dCall fRepr (aCons (oExp (dBin fMul (oExp (dLst (fCons (dFn sp__law_is_paper 3 (fCons (dVar 2) (fCons (dVar 6) (fCons (dVar 10) (fNil))))) (fNil)))) (oExp (dC (.int 2))))) (aNil)))))) (sRet (dC (.bool false))) (sNext)
def b__law_tap_right_F6 : TSD := sSeq (sSet 7 (dIf (tVal (dBin fEq (oExp (dCall fLen (aCons (oVar 2) (aNil)))) (oExp (dC (.int 1))))) (dBin fIn (oVar 6) (oExp (dTup (fCons (dC (.int 0)) (fCons (dBin fIx (oVar 2) (oExp (dC (.int 0)))) (fNil)))))) (dAnd (dBin (fOrd pLe) (oVar 6) (oExp (dCall fMax (aCons (oVar 2) (aNil))))) (dBin fEq (oExp (dBin fMod (oExp (dCall fInt (aCons (oVar 6) (aNil)))) (oVar 3))) (oExp (dC (.int 0)))))))
  (sSeq (sSet 8 (dFn sp_tap_paper 2 (fCons (dVar 2) (fCons (dVar 6) (fNil)))))
  (sSeq (sIf (tOrD (tVal (dBin fNe (oExp (dCall fRepr (aCons (oExp (dLst (fCons (dFn sp_can_by_tap 2 (fCons (dVar 2) (fCons (dVar 6) (fNil)))) (fCons (dFnK sp_can_by_tap 2 (gsel 0 2 [1, 0]) fNil (fCons (dVar 6) (fCons (dVar 2) (fNil)))) (fNil))))) (aNil)))) (oExp (dCall fRepr (aCons (oExp (dLst (fCons (dVar 7) (fCons (dVar 7) (fNil))))) (aNil)))))) (tOrD (tVal (dBin fNe (oExp (dBin fIs (oVar 8) (oExp (dC .none)))) (oVar 7))) (tVal (dBin fNe (oExp (dCall fRepr (aCons (oExp (dFnK sp_tap_paper 2 (gsel 0 2 [1, 0]) fNil (fCons (dVar 6) (fCons (dVar 2) (fNil))))) (aNil)))) (oExp (dCall fRepr (aCons (oVar 8) (aNil)))))))) (sRet (dC (.bool false))) (sNext))
  (sSeq (sIf (tAndD (tVal (dBin fIsN (oVar 8) (oExp (dC .none)))) (tNotD (tVal (dFn sp__law_is_paper 3 (fCons (dVar 2) (fCons (dVar 6) (fCons (dVar 8) (fNil)))))))) (sRet (dC (.bool false))) (sNext))
  (sSeq (sSet 9 (dLst (fCons (dVar 8) (fCons (dTup (fCons (dC (.str "great")) (fCons (dBin fSub (oVar 6) (oExp (dC (.int 1)))) (fNil)))) (fCons (dTup (fCons (dC (.str "great")) (fCons (dCall fMax (aCons (oVar 2) (aNil))) (fNil)))) (fCons (dTup (fCons (dC (.str "great")) (fCons (dBin fSub (oExp (dCall fMax (aCons (oVar 2) (aNil)))) (oExp (dC (.int 1)))) (fNil)))) (fCons (dTup (fCons (dC (.str "great")) (fCons (dVar 6) (fNil)))) (fCons (dTup (fCons (dC (.str "single")) (fCons (dBin fIx (oVar 2) (oExp (dC (.int 0)))) (fNil)))) (fCons (dTup (fCons (dC (.str "common")) (fCons (dVar 3) (fNil)))) (fCons (dTup (fCons (dC (.str "common")) (fCons (dC (.int 1)) (fNil)))) (fNil)))))))))))
  (sSeq (sSet 9 (dBin fAdd (oVar 9) (oExp (dLst (fCons (dTup (fCons (dC (.str "common")) (fCons (dC (.int 0)) (fNil)))) (fCons (dTup (fCons (dC (.str "common")) (fCons (dBin fSub (oExp (dC (.int 0))) (oVar 3)) (fNil)))) (fCons (dTup (fCons (dC (.str "common")) (fCons (dC (.int 2)) (fNil)))) (fCons (dTup (fCons (dC (.str "common")) (fCons (dVar 1) (fNil)))) (fNil)))))))))
  (sFor (iLst (dBin fAdd (oVar 9) (oExp (dLst (fCons (dTup (fCons (dC (.str "common")) (fCons (dC (.bool true)) (fNil)))) (fCons (dLst (fCons (dC (.str "common")) (fCons (dVar 3) (fNil)))) (fCons (dTup (fCons (dC (.str "common")) (fNil))) (fCons (dTup (fCons (dC (.str "common")) (fCons (dVar 3) (fCons (dC (.int 1)) (fNil))))) (fCons (dC (.str "great")) (fCons (dC .none) (fCons (dTup (fCons (dC (.str "Great")) (fCons (dCall fMax (aCons (oVar 2) (aNil))) (fNil)))) (fCons (dTup (fCons (dC (.str "common")) (fCons (dCall fStr (aCons (oVar 3) (aNil))) (fNil)))) (fCons (dTup (fCons (dC (.str "common")) (fCons (dBin fMul (oExp (dC (.int 2))) (oVar 3)) (fNil)))) (fNil)))))))))))))) (gN 10) b__law_tap_right_F5))))))
/-- _law_tap_right: 0 generator, 1 base, 2 jugs, 3 part, 4 kept, 5 jug, 6 goal, 7 can, 8 paper, 9 odd, 10 value -/
def b__law_tap_right : TSD := sSeq (sSet 1 (dFnB sp__law_pick 2 0 (fCons (dLst (fCons (dC (.int 1)) (fCons (dC (.int 2)) (fCons (dC (.int 6)) (fCons (dC (.int 12)) (fCons (dBin fPow (oExp (dC (.int 10))) (oExp (dC (.int 6)))) (fNil))))))) (fNil))))
  (sSeq (sSet 2 (dLc (iRg1 (dBin fAdd (oExp (dC (.int 1))) (oExp (dFnB sp__law_random 2 0 (fCons (dC (.int 5)) (fNil)))))) b__law_tap_right_g1 b__law_tap_right_t2 b__law_tap_right_e3 [5]))
  (sSeq (sPar 3 4 (fCons (dC (.int 0)) (fCons (dCall fRepr (aCons (oVar 2) (aNil))) (fNil))))
  (sSeq (sFor (iLst (dVar 2)) (gN 5) b__law_tap_right_F4)
  (sSeq (sFor (iLst (dLst (fCons (dC (.int 0)) (fCons (dCall fMax (aCons (oVar 2) (aNil))) (fCons (dBin fAdd (oExp (dCall fMax (aCons (oVar 2) (aNil)))) (oVar 3)) (fCons (dBin fIx (oVar 2) (oExp (dC (.int 0)))) (fCons (dBin fMul (oVar 3) (oExp (dFnB sp__law_random 2 0 (fCons (dBin fAdd (oExp (dBin fDiv (oExp (dCall fInt (aCons (oExp (dCall fMax (aCons (oVar 2) (aNil)))) (aNil)))) (oVar 3))) (oExp (dC (.int 1)))) (fNil))))) (fCons (dFnB sp__law_random 2 0 (fCons (dBin fAdd (oExp (dCall fMax (aCons (oVar 2) (aNil)))) (oExp (dC (.int 2)))) (fNil))) (fCons (dBin fAdd (oVar 3) (oExp (dC (.int 1)))) (fCons (dBin fSub (oExp (dBin fPow (oExp (dC (.int 10))) (oExp (dC (.int 12))))) (oExp (dC (.int 1)))) (fNil))))))))))) (gN 6) b__law_tap_right_F6)
  (sRet (dBin fEq (oExp (dCall fRepr (aCons (oVar 2) (aNil)))) (oVar 4)))))))
def b_law_F1 : TSD := sSeq (sSet 2 (dFn sp__law_generator 2 (fCons (dVar 0) (fCons (dVar 1) (fNil)))))
  (sIf (tOrD (tNotD (tVal (dFnB sp__law_straight_right 1 2 (fNil)))) (tOrD (tNotD (tVal (dFnB sp__law_straight_right 1 2 (fNil)))) (tNotD (tVal (dFnB sp__law_tap_right 1 2 (fNil)))))) (sRet (dC (.bool false))) (sNext))
/-- law: 0 script, 1 index, 2 generator -/
def b_law : TSD := sSeq (sFor (iRg1 (dC (.int 4))) (gN 1) b_law_F1)
  (sRet (dC (.bool true)))


theorem pure_is_whole : ∀ as QD, sp_is_whole as QD → as.length = 1 → b_is_whole (En QD) (as ++ List.replicate 0 .un) := by
  rintro _ QD ⟨d, rfl, hq⟩ _
  simp [b_is_whole]
  split
  · rename_i h; simpa [wholeD, h] using hq
  · rename_i h; simpa [wholeD, h] using hq
theorem pure_is_count : ∀ as QD, sp_is_count as QD → as.length = 1 → b_is_count (En QD) (as ++ List.replicate 0 .un) := by
  rintro _ QD ⟨d, rfl, hq⟩ _
  simp [b_is_count, sp_is_whole, hq]
theorem pure_check_number : ∀ as QD, sp_check_number as QD → as.length = 1 → b_check_number (En QD) (as ++ List.replicate 0 .un) := by
  rintro _ QD ⟨d, rfl, h, hq⟩ _
  simp [b_check_number, sp_is_count, hq, h]
theorem natAbs_nat (n : Nat) : (if (n : Int) < 0 then -(n : Int) else n) = n := by rw [if_neg (by omega)]
theorem pure_common_of : ∀ as QD, sp_common_of as QD → as.length = 2 → b_common_of (En QD) (as ++ List.replicate 0 .un) := by
  rintro _ QD ⟨a, b, rfl, hq⟩ _
  simp [b_common_of]
  simp only [natAbs_nat]
  refine ⟨fun m ρ => ∃ x y : Nat, ρ = [.sh (.int x), .sh (.int y)] ∧ Nat.gcd x y = Nat.gcd a b ∧ m = y, ⟨b, a, b, ?_, rfl, rfl⟩, ?_⟩
  · have e : ∀ n : Nat, (if (n : Int) < 0 then -(n : Int) else n) = n := natAbs_nat
    simp
  · rintro m ρ ⟨x, y, rfl, hg, hm⟩
    subst hm
    simp [b_common_of_C1]
    by_cases hy : 0 < m
    · rw [if_pos hy]
      refine ⟨fun ρ' => ∃ x' y' : Nat, ρ' = [.sh (.int x'), .sh (.int y')] ∧ Nat.gcd x' y' = Nat.gcd a b ∧ y' < m, ?_, ?_⟩
      · rintro ρ' ⟨x', y', rfl, h1, h2⟩
        exact ⟨y', h2, x', rfl, h1⟩
      · simp [b_common_of_W2]
        refine ⟨by omega, m, x % m, ?_, ?_, Nat.mod_lt _ hy⟩
        · simp
        · rw [← hg, Nat.gcd_comm m, ← Nat.gcd_rec, Nat.gcd_comm]
    · have : m = 0 := by omega
      subst this
      rw [if_neg (by decide)]
      rw [← hg] at hq
      simpa using hq
theorem natD_def (n : Nat) : natD n = .int n := rfl
theorem pure_common_of_sizes : ∀ as QD, sp_common_of_sizes as QD → as.length = 1 → b_common_of_sizes (En QD) (as ++ List.replicate 2 .un) := by
  rintro _ QD ⟨js, rfl, hq⟩ _
  simp [b_common_of_sizes, jugsD]
  refine forW_inv (fun i ρ => ∃ x : Sl, ρ = [.sh (.list (js.map natD)), .sh (.int (gcdL (js.take i))), x] ∧ notIo (some x)) _ 0 _ ⟨.un, rfl, trivial⟩ ?_ ?_
  · rintro i d ρ W he ⟨x, rfl, hx⟩ hW
    rw [List.getElem?_map] at he
    obtain ⟨j, hj, rfl⟩ := Option.map_eq_some_iff.mp he
    simp [b_common_of_sizes_F1, hx, sp_common_of, natD]
    refine ⟨j, gcdL (js.take i), ⟨rfl, rfl⟩, ?_⟩
    refine hW _ ⟨.sh (.int j), ?_, trivial⟩
    rw [Nat.zero_add, List.take_add_one, hj]
    simp [gcdL]
  · rintro ρ ⟨x, rfl, hx⟩
    simp [q_ios6 hx]
    exact hq
theorem eu_pos {p : Nat × Nat} (h : 0 < p.2) : eu p = (p.2, p.1 % p.2) := by unfold eu; rw [if_pos h]
theorem lt_B {n : Nat} (h : n < B64) : n < 2 ^ 200 := Nat.lt_trans h (by decide +kernel)
theorem pure__law_part : ∀ as QD, sp__law_part as QD → as.length = 2 → b__law_part (En QD) (as ++ List.replicate 3 .un) := by
  rintro _ QD ⟨a, b, rfl, hb, hq⟩ _
  simp [b__law_part]
  refine forW_inv (fun i ρ => ∃ x : Sl, ρ = [.sh (.int a), .sh (.int b), .sh (.int (iter eu i (a, b)).1), .sh (.int (iter eu i (a, b)).2), x] ∧ notIo (some x)) _ 0 _ ⟨.un, rfl, trivial⟩ ?_ ?_
  · rintro i d ρ W he ⟨x, rfl, hx⟩ hW
    simp [b__law_part_F1, hx]
    rw [Nat.zero_add] at hW
    rw [iter_succ] at hW
    by_cases h : 0 < (iter eu i (a, b)).2
    · rw [if_pos h]
      refine ⟨h, ?_⟩
      refine hW _ ⟨.sh d, ?_, trivial⟩
      rw [eu_pos h]
      simp
    · have h0 : (iter eu i (a, b)).2 = 0 := by omega
      rw [if_neg h]
      refine hW _ ⟨.sh d, ?_, trivial⟩
      rw [eu_stay h0]
  · rintro ρ ⟨x, rfl, hx⟩
    rw [rgD_len, Nat.zero_add, eu_400 (lt_B hb)]
    simp [q_ios6 hx]
    exact hq

/-! the inverse -/
def exD (s : Ex) : List Sl := [.sh (.int s.x), .sh (.int s.y), .sh (.int s.u), .sh (.int s.v)]
theorem ex_pos {s : Ex} (h : 1 < s.x) : ex s = ⟨s.y % s.x, s.x, s.v - ((s.y / s.x : Nat) : Int) * s.u, s.u⟩ := by unfold ex; rw [if_pos h]
theorem ex_small {n M : Nat} (h : M < B64) (h1 : 0 < M) : ∀ k, (iter ex k (ex0 n M)).x < B64 ∧ (iter ex k (ex0 n M)).y < B64
  | 0 => ⟨Nat.lt_trans (Nat.mod_lt _ h1) h, h⟩
  | k + 1 => by
    rw [iter_succ]
    obtain ⟨a, b⟩ := ex_small h h1 k
    by_cases hx : 1 < (iter ex k (ex0 n M)).x
    · rw [ex_pos hx]
      exact ⟨Nat.lt_trans (Nat.mod_lt _ (by omega)) a, a⟩
    · rw [ex_stay hx]; exact ⟨a, b⟩
theorem log_B {n : Nat} (h : n < B64) : (n : Int).natAbs.log2 < 9000 := by
  by_cases z : n = 0
  · subst z; decide
  · rw [Int.natAbs_natCast, Nat.log2_lt z]
    exact Nat.lt_of_lt_of_le h (by decide +kernel)
theorem mod_eq (y x : Nat) : (y : Int) - ((y : Int) / (x : Int)) * x = ((y % x : Nat) : Int) := by
  have := Int.emod_add_mul_ediv (y : Int) x
  rw [Int.mul_comm] at this
  rw [Int.natCast_emod]
  omega
theorem mulOk_div {y x : Nat} (h : y < B64) (z : Int) : MulOk ((y : Int) / (x : Int)) z := by
  have h1 : 0 ≤ (y : Int) / (x : Int) := Int.ediv_nonneg (by omega) (by omega)
  have h2 : (y : Int) / (x : Int) ≤ y := Int.ediv_le_self _ (by omega)
  have h0 : y < 18446744073709551616 := h
  have h3 : (y : Int) < 18446744073709551616 := by omega
  exact mulOk_l (by omega) (by omega)
theorem pure__law_inverse : ∀ as QD, sp__law_inverse as QD → as.length = 2 → b__law_inverse (En QD) (as ++ List.replicate 6 .un) := by
  rintro _ QD ⟨n, M, rfl, hM, hB, hq⟩ _
  simp [b__law_inverse, show 0 < M by omega]
  refine forW_inv (fun i ρ => ∃ x y : Sl, ρ = [.sh (.int n), .sh (.int M)] ++ exD (iter ex i (ex0 n M)) ++ [x, y] ∧ notIo (some x) ∧ notIo (some y)) _ 0 _ ⟨.un, .un, rfl, trivial, trivial⟩ ?_ ?_
  · rintro i d ρ W he ⟨x, y, rfl, hx, hy⟩ hW
    obtain ⟨s1, s2⟩ := ex_small (n := n) hB (by omega) (0 + i)
    rw [iter_succ] at hW
    simp [b__law_inverse_F1, hx, hy, exD]
    rw [Nat.zero_add] at s1 s2 hW
    have l1 := log_B s1
    by_cases h : 1 < (iter ex i (ex0 n M)).x
    · rw [if_pos (by omega)]
      refine ⟨⟨by omega, l1⟩, mulOk_div s2 _, mulOk_div s2 _, ?_⟩
      refine hW _ ⟨.sh d, .sh (.int ((iter ex i (ex0 n M)).y / (iter ex i (ex0 n M)).x)), ?_, trivial, trivial⟩
      rw [ex_pos h, mod_eq]
      simp [exD]
    · rw [if_neg (by omega)]
      refine hW _ ⟨.sh d, y, ?_, trivial, hy⟩
      rw [ex_stay h]
      rfl
  · rintro ρ ⟨x, y, rfl, hx, hy⟩
    simp [exD, q_ios6 hx, q_ios6 hy, show 0 < M by omega]
    rw [rgD_len]
    rw [if_pos (by omega), ← inv_def]
    exact hq
theorem pure_turned_back : ∀ as QD, sp_turned_back as QD → as.length = 2 → b_turned_back (En QD) (as ++ List.replicate 5 .un) := by
  rintro _ QD ⟨n, M, rfl, hM, hB, hq⟩ _
  simp [b_turned_back, show 0 < M by omega]
  refine ⟨fun m ρ => ∃ (k : Nat) (x : Sl), ρ = [.sh (.int n), .sh (.int M)] ++ exD (iter ex k (ex0 n M)) ++ [x] ∧ notIo (some x) ∧ m = (iter ex k (ex0 n M)).x, ⟨_, 0, .un, rfl, trivial, rfl⟩, ?_⟩
  rintro m ρ ⟨k, x, rfl, hx, hm⟩
  obtain ⟨s1, s2⟩ := ex_small (n := n) hB (by omega) k
  have l1 := log_B s1
  simp [b_turned_back_C1, exD, hx]
  by_cases h : 1 < (iter ex k (ex0 n M)).x
  · rw [if_pos (by omega)]
    refine ⟨fun ρ' => ∃ x : Sl, ρ' = [.sh (.int n), .sh (.int M)] ++ exD (iter ex (k + 1) (ex0 n M)) ++ [x] ∧ notIo (some x), ?_, ?_⟩
    · rintro ρ' ⟨x, rfl, hx⟩
      refine ⟨_, ?_, k + 1, x, rfl, hx, rfl⟩
      rw [hm, iter_succ, ex_pos h]
      exact Nat.mod_lt _ (by omega)
    · simp [b_turned_back_W2, hx]
      refine ⟨⟨by omega, l1⟩, mulOk_div s2 _, mulOk_div s2 _, ?_⟩
      refine ⟨.sh (.int ((iter ex k (ex0 n M)).y / (iter ex k (ex0 n M)).x)), ?_, trivial⟩
      rw [iter_succ, ex_pos h, mod_eq]
      simp [exD]
  · rw [if_neg (by omega)]
    have e : iter ex k (ex0 n M) = iter ex 400 (ex0 n M) := ex_same h (inv_end hM (lt_B hB))
    rw [e]
    simp [q_ios6 hx, show 0 < M by omega]
    rw [← inv_def]
    exact hq

theorem gcd_lt {a b : Nat} (ha : 0 < a) (h : a < B64) : Nat.gcd a b < B64 := Nat.lt_of_le_of_lt (Nat.gcd_le_left b ha) h
theorem div_lt {a b : Nat} (h : a < B64) : a / b < B64 := Nat.lt_of_le_of_lt (Nat.div_le_self a b) h
theorem mulOk_nat {n : Nat} (h : n < B64) (z : Int) : MulOk n z := by
  have h0 : n < 18446744073709551616 := h
  exact mulOk_l (by omega) (by omega)
theorem mulOk_natr {n : Nat} (h : n < B64) (z : Int) : MulOk z n := by
  have h0 : n < 18446744073709551616 := h
  exact mulOk_r (by omega) (by omega)
@[simp] theorem max_int (a b : Nat) : (if a < b then (b : Int) else (a : Int)) = ((max a b : Nat) : Int) := by
  split <;> omega
section
variable {Q : Sl → List (Addr × List Dat) → Prop}
theorem q_common (a b : Nat) : sp_common_of [.sh (.int a), .sh (.int b)] Q = Q (.sh (.int (Nat.gcd a b))) [] := by
  apply propext
  constructor
  · rintro ⟨x, y, e, h⟩
    simp at e
    obtain ⟨e1, e2⟩ := e
    have e1 : a = x := by omega
    have e2 : b = y := by omega
    subst e1 e2; exact h
  · intro h; exact ⟨a, b, rfl, h⟩
theorem q_part (a b : Nat) : sp__law_part [.sh (.int a), .sh (.int b)] Q = (b < B64 ∧ Q (.sh (.int (Nat.gcd a b))) []) := by
  apply propext
  constructor
  · rintro ⟨x, y, e, h⟩
    simp at e
    obtain ⟨e1, e2⟩ := e
    have e1 : a = x := by omega
    have e2 : b = y := by omega
    subst e1 e2; exact h
  · intro h; exact ⟨a, b, rfl, h⟩
theorem q_turned (n M : Nat) : sp_turned_back [.sh (.int n), .sh (.int M)] Q = (1 < M ∧ M < B64 ∧ Q (.sh (.int (inv n M % M))) []) := by
  apply propext
  constructor
  · rintro ⟨x, y, e, h⟩
    simp at e
    obtain ⟨e1, e2⟩ := e
    have e1 : n = x := by omega
    have e2 : M = y := by omega
    subst e1 e2; exact h
  · intro h; exact ⟨n, M, rfl, h⟩
end
theorem q_turnD {Q : Sl → List (Addr × List Dat) → Prop} (a b c : Nat) : sp_turned_back [.sh (.int ((a : Int) / (c : Int))), .sh (.int ((b : Int) / (c : Int)))] Q = (1 < b / c ∧ b / c < B64 ∧ Q (.sh (.int (inv (a / c) (b / c) % ((b : Int) / (c : Int))))) []) := by
  have h := q_turned (Q := Q) (a / c) (b / c)
  rw [Int.natCast_ediv, Int.natCast_ediv] at h
  exact h
theorem fills0_eq {a b g : Nat} (h : 1 < b / Nat.gcd a b) : fills0 a b g = ((g : Int) / (Nat.gcd a b : Int) * (inv (a / Nat.gcd a b) (b / Nat.gcd a b) % ((b : Int) / (Nat.gcd a b : Int)))) % ((b : Int) / (Nat.gcd a b : Int)) := by
  unfold fills0
  rw [if_pos h, Int.natCast_ediv, Int.natCast_ediv]
theorem pure_straight_from : ∀ as QD, sp_straight_from as QD → as.length = 3 → b_straight_from (En QD) (as ++ List.replicate 5 .un) := by
  rintro _ QD ⟨a, b, g, rfl, ⟨ha, ha2, hb, hb2, hg2⟩, hq⟩ _
  have hc : 0 < Nat.gcd a b := Nat.gcd_pos_of_pos_left b ha
  have lc : (Nat.gcd a b).log2 < 9000 := log_B (gcd_lt (b := b) ha ha2)
  have lb : b.log2 < 9000 := log_B hb2
  have la : a.log2 < 9000 := log_B ha2
  unfold stD at hq
  by_cases h0 : g = 0
  · subst h0
    rw [if_pos rfl] at hq
    have e : ¬ (0 : Int) = (a : Int) := by omega
    simp [b_straight_from, ↓q_common, e, hq]
  · rw [if_neg h0] at hq
    by_cases h1 : g = a
    · subst h1
      rw [if_pos rfl] at hq
      simp [b_straight_from, ↓q_common, h0, hq]
    · rw [if_neg h1] at hq
      have e1 : ¬ (g : Int) = (a : Int) := by omega
      by_cases h2 : g = b
      · subst h2
        rw [if_pos rfl, ← ceil_eq _ _ (by omega)] at hq
        simp [b_straight_from, ↓q_common, h0, e1, ha, hq, mulOk_l, la]
      · rw [if_neg h2] at hq
        have e2 : ¬ (g : Int) = (b : Int) := by omega
        by_cases h3 : max a b < g
        · rw [if_pos (.inl h3)] at hq
          have e3 : ((max a b : Nat) : Int) < (g : Int) := by omega
          simp [b_straight_from, ↓q_common, h0, e1, e2, e3, hq]
        · have e3 : ¬ ((max a b : Nat) : Int) < (g : Int) := by omega
          by_cases h4 : g % Nat.gcd a b = 0
          · rw [if_neg (by omega)] at hq
            obtain ⟨s1, s2⟩ := straight_ok ha hb (lt_B hb2) h4 (by omega) h2 (by omega)
            have e4 : (g : Int) % (Nat.gcd a b : Int) = 0 := by omega
            have bR : b / Nat.gcd a b < B64 := div_lt hb2
            have bG : g / Nat.gcd a b < B64 := div_lt hg2
            have fin : ∀ F : Int, F = fillsI a b g → (if (F - 1) * a / b < (F * a - g) / b then QD (.sh (.int (2 * (F + (F * a - g) / b) - 2))) [] else QD (.sh (.int (2 * (F + (F * a - g) / b)))) []) := by
              rintro F rfl
              have ee : (fillsI a b g * a - g) / b = empt a b g := rfl
              rw [ee]
              by_cases hga : g < a
              · rw [if_pos (s2.mpr hga)]
                rw [if_pos hga] at hq
                rw [Int.mul_add]
                exact hq
              · rw [if_neg (fun z => hga (s2.mp z))]
                rw [if_neg hga, Int.sub_zero] at hq
                rw [Int.mul_add]
                exact hq
            by_cases hR : 1 < b / Nat.gcd a b
            · have eR : (1 : Int) < (b : Int) / (Nat.gcd a b : Int) := by rw [← Int.natCast_ediv]; omega
              have f0 := fills0_eq (g := g) hR
              by_cases hF : 0 < fills0 a b g
              · have eF := hF
                rw [f0] at eF
                have eI : fillsI a b g = fills0 a b g := by unfold fillsI; rw [if_pos hF]
                have fin2 := fin _ (f0.symm.trans eI.symm)
                simp [b_straight_from, ↓q_common, ↓q_turnD, h0, e1, e2, e3, e4, eR, hR, bR, hc, eF, lc, lb, hb]
                refine ⟨mulOk_div hg2 _, Int.lt_trans (by decide) eR, mulOk_natr ha2 _, mulOk_natr ha2 _, mulOk_l (by decide) (by decide), ?_⟩
                exact fin2
              · have eF := hF
                rw [f0] at eF
                have eI : fillsI a b g = ((b / Nat.gcd a b : Nat) : Int) := by unfold fillsI; rw [if_neg hF]
                have fin2 := fin ((b : Int) / (Nat.gcd a b : Int)) (by rw [eI, Int.natCast_ediv])
                simp [b_straight_from, ↓q_common, ↓q_turnD, h0, e1, e2, e3, e4, eR, hR, bR, hc, eF, lc, lb, hb]
                refine ⟨mulOk_div hg2 _, Int.lt_trans (by decide) eR, mulOk_natr ha2 _, mulOk_natr ha2 _, mulOk_l (by decide) (by decide), ?_⟩
                exact fin2
            · have eR : ¬ (1 : Int) < (b : Int) / (Nat.gcd a b : Int) := by rw [← Int.natCast_ediv]; omega
              have eI : fillsI a b g = ((b / Nat.gcd a b : Nat) : Int) := by
                unfold fillsI fills0
                rw [if_neg hR, if_neg (by decide)]
              have fin2 := fin ((b : Int) / (Nat.gcd a b : Int)) (by rw [eI, Int.natCast_ediv])
              simp [b_straight_from, ↓q_common, ↓q_turnD, h0, e1, e2, e3, e4, eR, hc, lc, lb, hb]
              refine ⟨mulOk_natr ha2 _, mulOk_natr ha2 _, mulOk_l (by decide) (by decide), ?_⟩
              exact fin2
          · rw [if_pos (.inr h4)] at hq
            have e4 : ¬ (g : Int) % (Nat.gcd a b : Int) = 0 := by omega
            simp [b_straight_from, ↓q_common, h0, e1, e2, e3, e4, hq, hc]

theorem q_invD {Q : Sl → List (Addr × List Dat) → Prop} (a b c : Nat) : sp__law_inverse [.sh (.int ((a : Int) / (c : Int))), .sh (.int ((b : Int) / (c : Int)))] Q = (1 < b / c ∧ b / c < B64 ∧ Q (.sh (.int (inv (a / c) (b / c) % ((b : Int) / (c : Int))))) []) := q_turnD a b c
@[simp] theorem max_int2 (a b : Nat) : (if (b : Int) > (a : Int) then (b : Int) else (a : Int)) = ((max a b : Nat) : Int) := by
  split <;> omega
theorem pure__law_straight : ∀ as QD, sp__law_straight as QD → as.length = 3 → b__law_straight (En QD) (as ++ List.replicate 4 .un) := by
  rintro _ QD ⟨a, b, g, rfl, ⟨ha, ha2, hb, hb2, hg2⟩, hq⟩ _
  have hc : 0 < Nat.gcd a b := Nat.gcd_pos_of_pos_left b ha
  have lc : (Nat.gcd a b).log2 < 9000 := log_B (gcd_lt (b := b) ha ha2)
  have lb : b.log2 < 9000 := log_B hb2
  have la : a.log2 < 9000 := log_B ha2
  unfold stD at hq
  by_cases h0 : g = 0
  · subst h0
    rw [if_pos rfl] at hq
    simp [b__law_straight, ↓q_part, hb2, hq]
  · rw [if_neg h0] at hq
    have hcI : (0 : Int) < (Nat.gcd a b : Int) := by omega
    by_cases h3 : max a b < g
    · have h1 : ¬ g = a := by omega
      have h2 : ¬ g = b := by omega
      rw [if_neg h1, if_neg h2, if_pos (.inl h3)] at hq
      have e3 : ((max a b : Nat) : Int) < (g : Int) := by omega
      simp [b__law_straight, ↓q_part, hb2, h0, e3, hq]
    · have e3 : ¬ ((max a b : Nat) : Int) < (g : Int) := by omega
      by_cases h4 : g % Nat.gcd a b = 0
      · have e4 : ¬ (0 : Int) < (g : Int) % (Nat.gcd a b : Int) := by omega
        by_cases h1 : g = a
        · rw [if_pos h1] at hq
          have e1 : (g : Int) = (a : Int) := by omega
          subst h1
          simp [b__law_straight, ↓q_part, hb2, h0, e3, e4, hc, hq]
        · rw [if_neg h1] at hq
          have e1 : ¬ (g : Int) = (a : Int) := by omega
          by_cases h2 : g = b
          · rw [if_pos h2] at hq
            subst h2
            simp [b__law_straight, ↓q_part, hb2, h0, e1, e3, e4, hc, hq, ha, la, mulOk_l]
          · rw [if_neg h2, if_neg (by omega)] at hq
            have e2 : ¬ (g : Int) = (b : Int) := by omega
            obtain ⟨s1, s2⟩ := straight_ok ha hb (lt_B hb2) h4 (by omega) h2 (by omega)
            have bR : b / Nat.gcd a b < B64 := div_lt hb2
            have fin : ∀ F : Int, F = fillsI a b g → ¬ F * a < g ∧ (if g < a then QD (.sh (.int (2 * F + 2 * ((F * a - g) / b) - 2))) [] else QD (.sh (.int (2 * F + 2 * ((F * a - g) / b)))) []) := by
              rintro F rfl
              have ee : (fillsI a b g * a - g) / b = empt a b g := rfl
              rw [ee]
              refine ⟨by omega, ?_⟩
              by_cases hga : g < a
              · rw [if_pos hga] at hq ⊢
                exact hq
              · rw [if_neg hga] at hq ⊢
                rw [Int.sub_zero] at hq
                exact hq
            by_cases hR : 1 < b / Nat.gcd a b
            · have eR : (1 : Int) < (b : Int) / (Nat.gcd a b : Int) := by rw [← Int.natCast_ediv]; omega
              have eR0 : (0 : Int) < (b : Int) / (Nat.gcd a b : Int) := Int.lt_trans (by decide) eR
              have f0 := fills0_eq (g := g) hR
              by_cases hF : 0 < fills0 a b g
              · have eF := hF
                rw [f0] at eF
                have eI : fillsI a b g = fills0 a b g := by unfold fillsI; rw [if_pos hF]
                obtain ⟨fa, fb⟩ := fin _ (f0.symm.trans eI.symm)
                simp [b__law_straight, ↓q_part, ↓q_invD, hb2, h0, e1, e2, e3, e4, eR, eR0, hR, bR, hc, eF, fa, lc, lb, hb]
                exact ⟨mulOk_div hg2 _, mulOk_natr ha2 _, mulOk_l (by decide) (by decide), mulOk_l (by decide) (by decide), fb⟩
              · have eF := hF
                rw [f0] at eF
                have eI : fillsI a b g = ((b / Nat.gcd a b : Nat) : Int) := by unfold fillsI; rw [if_neg hF]
                obtain ⟨fa, fb⟩ := fin ((b : Int) / (Nat.gcd a b : Int)) (by rw [eI, Int.natCast_ediv])
                simp [b__law_straight, ↓q_part, ↓q_invD, hb2, h0, e1, e2, e3, e4, eR, eR0, hR, bR, hc, eF, fa, lc, lb, hb]
                exact ⟨mulOk_div hg2 _, mulOk_natr ha2 _, mulOk_l (by decide) (by decide), mulOk_l (by decide) (by decide), fb⟩
            · have eR : ¬ (1 : Int) < (b : Int) / (Nat.gcd a b : Int) := by rw [← Int.natCast_ediv]; omega
              have eI : fillsI a b g = ((b / Nat.gcd a b : Nat) : Int) := by
                unfold fillsI fills0
                rw [if_neg hR, if_neg (by decide)]
              obtain ⟨fa, fb⟩ := fin ((b : Int) / (Nat.gcd a b : Int)) (by rw [eI, Int.natCast_ediv])
              simp [b__law_straight, ↓q_part, ↓q_invD, hb2, h0, e1, e2, e3, e4, eR, hc, fa, lc, lb, hb]
              exact ⟨mulOk_natr ha2 _, mulOk_l (by decide) (by decide), mulOk_l (by decide) (by decide), fb⟩
      · have h1 : ¬ g = a := fun z => by
          subst z
          exact h4 (Nat.mod_eq_zero_of_dvd (Nat.gcd_dvd_left g b))
        have h2 : ¬ g = b := fun z => by
          subst z
          exact h4 (Nat.mod_eq_zero_of_dvd (Nat.gcd_dvd_right a g))
        rw [if_neg h1, if_neg h2, if_pos (.inr h4)] at hq
        have e4 : (0 : Int) < (g : Int) % (Nat.gcd a b : Int) := by omega
        simp [b__law_straight, ↓q_part, hb2, h0, e3, e4, hc, hq]

section
variable {Q : Sl → List (Addr × List Dat) → Prop}
theorem q_sfrom {a b g : Nat} (h : szOk a b g) : sp_straight_from [.sh (.int a), .sh (.int b), .sh (.int g)] Q = Q (.sh (stD a b g)) [] := by
  apply propext
  constructor
  · rintro ⟨x, y, z, e, _, q⟩
    simp at e
    have e1 : a = x := by omega
    have e2 : b = y := by omega
    have e3 : g = z := by omega
    subst e1 e2 e3; exact q
  · intro q; exact ⟨a, b, g, rfl, h, q⟩
end
theorem szOk.swap {a b g : Nat} (h : szOk a b g) : szOk b a g := ⟨h.2.2.1, h.2.2.2.1, h.1, h.2.1, h.2.2.2.2⟩
theorem pure_straight_pours : ∀ as QD, sp_straight_pours as QD → as.length = 3 → b_straight_pours (En QD) (as ++ List.replicate 1 .un) := by
  rintro _ QD ⟨a, b, g, rfl, hs, hq⟩ _
  have hs2 := hs.swap
  obtain ⟨ha, ha2, hb, hb2, hg2⟩ := id hs
  simp [b_straight_pours]
  refine forW_inv (fun i ρ => ∃ x : Sl, ρ = [.sh (.int a), .sh (.int b), .sh (.int g), x] ∧ notIo (some x)) _ 0 _ ⟨.un, rfl, trivial⟩ ?_ ?_
  · rintro i d ρ W he ⟨x, rfl, hx⟩ hW
    have hd : d = .int a ∨ d = .int b := by
      have := List.mem_of_getElem? he
      simpa using this
    rcases hd with rfl | rfl
    · have e : ¬ (a : Int) < 1 := by omega
      simp [b_straight_pours_F1, hx, sp_is_whole, e]
      exact hW _ ⟨_, rfl, trivial⟩
    · have e : ¬ (b : Int) < 1 := by omega
      simp [b_straight_pours_F1, hx, sp_is_whole, e]
      exact hW _ ⟨_, rfl, trivial⟩
  · rintro ρ ⟨x, rfl, hx⟩
    simp [sp_check_number, ↓q_sfrom hs, ↓q_sfrom hs2, q_ios6 hx]
    exact hq
theorem nats_lay : ∀ js : List Nat, PyData.canLayAll0 (js.map natD) = true ∧ PyData.depthAll (js.map natD) = 0
  | [] => by simp [PyData.canLayAll0, PyData.depthAll]
  | j :: js => by
    obtain ⟨h1, h2⟩ := nats_lay js
    simp [PyData.canLayAll0, PyData.depthAll, natD, PyData.canLay0, PyData.depth] at h1 h2 ⊢
    exact ⟨h1, h2⟩
theorem eo_nats (js : List Nat) (ds : List Dat) (h : PyData.canLayAll0 ds = true) : EqOk1 (.list (js.map natD)) (.list ds) := by
  obtain ⟨h1, h2⟩ := nats_lay js
  refine .inr ⟨by simpa [PyData.canLay0] using h1, by simpa [PyData.canLay0] using h, ?_⟩
  simp only [PyData.depth]
  omega
theorem q_neNil {k : Sl → Prop} {js : List Nat} (h : js ≠ []) : fNe (.list (js.map natD)) (.list []) k = k (.sh (.bool true)) := by
  unfold fNe
  have ok := eo_nats js [] rfl
  cases js with
  | nil => exact absurd rfl h
  | cons j js =>
    rw [List.map_cons] at ok ⊢
    simp [ok, PyData.eqv, PyData.eqvAll]
theorem maxL_le : ∀ {js : List Nat}, ∀ j ∈ js, j ≤ maxL js
  | x :: js, j, h => by
    rcases List.mem_cons.mp h with rfl | h
    · exact Nat.le_max_left _ _
    · exact Nat.le_trans (maxL_le j h) (Nat.le_max_right _ _)
theorem maxL_mem : ∀ {js : List Nat}, js ≠ [] → maxL js ∈ js
  | [x], _ => by simp [maxL]
  | x :: y :: js, _ => by
    have ih := maxL_mem (js := y :: js) (by simp)
    show max x (maxL (y :: js)) ∈ _
    rcases Nat.le_total x (maxL (y :: js)) with h | h
    · rw [Nat.max_eq_right h]; exact List.mem_cons_of_mem _ ih
    · rw [Nat.max_eq_left h]; exact List.mem_cons_self
theorem ints_nats (js : List Nat) : js.map natD = (js.map fun n : Nat => (n : Int)).map .int := by
  rw [List.map_map]; rfl
theorem q_maxN {k : Sl → Prop} {js : List Nat} (h : js ≠ []) : fMax [.list (js.map natD)] k = k (.sh (.int (maxL js))) := by
  apply propext
  show (∃ ns, intsD (js.map natD) = some ns ∧ 0 < ns.length ∧ ∀ m, m ∈ ns → (∀ y, y ∈ ns → y ≤ m) → k (.sh (.int m))) ↔ _
  rw [ints_nats, intsD_map]
  constructor
  · rintro ⟨ns, e, _, q⟩
    cases e
    refine q _ (List.mem_map.mpr ⟨_, maxL_mem h, rfl⟩) fun y hy => ?_
    obtain ⟨j, hj, rfl⟩ := List.mem_map.mp hy
    have := maxL_le j hj
    omega
  · intro q
    refine ⟨_, rfl, by simpa using List.length_pos_iff.mpr h, fun m hm hy => ?_⟩
    obtain ⟨j, hj, rfl⟩ := List.mem_map.mp hm
    have h1 := hy _ (List.mem_map.mpr ⟨_, maxL_mem h, rfl⟩)
    have h2 := maxL_le j hj
    have : j = maxL js := by omega
    rw [this]; exact q
theorem io_int2 (x a b : Int) : InOk (.int x) (.tuple [.int a, .int b]) := by
  simp [InOk, PyData.canLay0, PyData.canLayAll0, PyData.depth, PyData.depthAll]
@[simp ↓] theorem q_in2 {k : Sl → Prop} (x a b : Int) : fIn (.int x) (.tuple [.int a, .int b]) k = k (.sh (.bool (decide (a = x) || decide (b = x)))) := by
  unfold fIn
  simp [io_int2, inD, PyData.eqv]
  rfl
@[simp ↓] theorem q_notIn2 {k : Sl → Prop} (x a b : Int) : fNotIn (.int x) (.tuple [.int a, .int b]) k = k (.sh (.bool (!(decide (a = x) || decide (b = x))))) := by
  unfold fNotIn
  simp [io_int2, inD, PyData.eqv]
  rfl
theorem pure_are_jugs : ∀ as QD, sp_are_jugs as QD → as.length = 1 → b_are_jugs (En QD) (as ++ List.replicate 1 .un) := by
  rintro _ QD ⟨js, rfl, ⟨hne, hl, hp⟩, hq⟩ _
  simp [b_are_jugs, jugsD, isTy, tyN, ↓q_neNil hne]
  refine lcW_inv (fun i ρ acc => ρ = [.sh (.list (js.map natD)), .un] ∧ acc = (List.replicate i true).map .bool ∧ i ≤ js.length) _ 0 _ _ ⟨rfl, rfl, by omega⟩ ?_ ?_
  · rintro i d ρ acc W he ⟨rfl, rfl, hi⟩ hW
    rw [List.getElem?_map] at he
    obtain ⟨j, hj, rfl⟩ := Option.map_eq_some_iff.mp he
    obtain ⟨j1, j2⟩ := hp j (List.mem_of_getElem? hj)
    have hlt : i < js.length := (List.getElem?_eq_some_iff.mp hj).1
    simp [b_are_jugs_g1, b_are_jugs_t2, b_are_jugs_e3, sp_is_whole, natD, j1]
    refine ⟨by have : (1000000 : Nat) ≤ sizeLine := by decide
               omega, hW _ _ ⟨rfl, ?_, by omega⟩⟩
    simp [List.replicate_succ']
  · rintro ρ acc ⟨rfl, rfl, hi⟩
    simp only [q_allL]
    simp
    exact hq
theorem pure_check_jugs : ∀ as QD, sp_check_jugs as QD → as.length = 1 → b_check_jugs (En QD) (as ++ List.replicate 0 .un) := by
  rintro _ QD ⟨js, rfl, h, hq⟩ _
  simp [b_check_jugs, sp_are_jugs]
  exact ⟨js, rfl, h, hq⟩
theorem pure_check_sizes : ∀ as QD, sp_check_sizes as QD → as.length = 2 → b_check_sizes (En QD) (as ++ List.replicate 0 .un) := by
  rintro _ QD ⟨js, g, rfl, h, hq⟩ _
  simp [b_check_sizes, sp_check_jugs, sp_check_number]
  exact ⟨js, rfl, h, hq⟩
theorem q_cos {Q : Sl → List (Addr × List Dat) → Prop} (js : List Nat) : sp_common_of_sizes [.sh (.list (js.map natD))] Q = Q (.sh (.int (gcdL js))) [] := by
  apply propext
  constructor
  · rintro ⟨x, e, q⟩
    unfold jugsD at e
    simp at e
    have : js = x := by
      have e2 := congrArg intsD e
      rw [ints_nats, ints_nats, intsD_map, intsD_map] at e2
      have e3 := Option.some.inj e2
      exact (List.map_inj_right (fun a b h => by omega)).mp e3
    subst this; exact q
  · intro q; exact ⟨js, rfl, q⟩
theorem gcdL_pos : ∀ {js : List Nat} (f : Nat), (js ≠ [] ∨ 0 < f) → (∀ j ∈ js, 0 < j) → 0 < js.foldl (fun f s => Nat.gcd s f) f
  | [], f, h, _ => by
    rcases h with h | h
    · exact absurd rfl h
    · exact h
  | j :: js, f, _, hp => gcdL_pos (js := js) (Nat.gcd j f) (.inr (Nat.gcd_pos_of_pos_left _ (hp j List.mem_cons_self))) fun x hx => hp x (List.mem_cons_of_mem _ hx)
theorem pure_is_by_tap : ∀ as QD, sp_is_by_tap as QD → as.length = 2 → b_is_by_tap (En QD) (as ++ List.replicate 0 .un) := by
  rintro _ QD ⟨js, g, rfl, ⟨hne, hl, hp⟩, hq⟩ _
  have hg := gcdL_pos 0 (.inl hne) fun j hj => (hp j hj).1
  have hg2 : 0 < gcdL js := hg
  unfold byTap at hq
  simp [b_is_by_tap, jugsD, ↓q_maxN hne, ↓q_cos, hg2]
  by_cases h1 : js.length = 1
  · rw [if_pos h1] at hq
    rw [if_pos (by omega)]
    obtain ⟨j, rfl⟩ := List.length_eq_one_iff.mp h1
    simp [natD]
    have e1 : decide ((0 : Int) = (g : Int)) = decide (g = 0) := by rw [Bool.eq_iff_iff]; simp; omega
    have e2 : decide ((j : Int) = (g : Int)) = decide (g = j) := by rw [Bool.eq_iff_iff]; simp; omega
    rw [e1, e2]
    exact hq
  · rw [if_neg h1] at hq
    rw [if_neg (by omega)]
    by_cases h2 : g ≤ maxL js
    · have e2 : (g : Int) ≤ (maxL js : Int) := by omega
      have e3 : decide ((g : Int) % (gcdL js : Int) = 0) = decide (g % gcdL js = 0) := by rw [Bool.eq_iff_iff]; simp; omega
      simp [h2] at hq ⊢
      rw [e3]
      exact hq
    · simp [h2] at hq ⊢
      exact hq

section
variable {Q : Sl → List (Addr × List Dat) → Prop}
theorem jugs_inj {js ks : List Nat} (e : js.map natD = ks.map natD) : js = ks := by
  have e2 := congrArg intsD e
  rw [ints_nats, ints_nats, intsD_map, intsD_map] at e2
  exact (List.map_inj_right (fun a b h => by omega)).mp (Option.some.inj e2)
theorem q_sizes {js : List Nat} {g : Nat} (h : jugsOk js) : sp_check_sizes [.sh (.list (js.map natD)), .sh (.int g)] Q = Q (.sh .none) [] := by
  apply propext
  constructor
  · rintro ⟨_, _, _, _, q⟩; exact q
  · intro q; exact ⟨js, g, rfl, h, q⟩
theorem q_tap {js : List Nat} {g : Nat} (h : jugsOk js) : sp_is_by_tap [.sh (.list (js.map natD)), .sh (.int g)] Q = Q (.sh (.bool (byTap js g))) [] := by
  apply propext
  constructor
  · rintro ⟨x, y, e, _, q⟩
    simp [jugsD] at e
    have e1 := jugs_inj e.1
    have e2 : g = y := by omega
    subst e1 e2; exact q
  · intro q; exact ⟨js, g, rfl, h, q⟩
end
theorem q_at0 {k : Dat → Prop} {js : List Nat} (h : js ≠ []) : atD (js.map natD) 0 k = k (.int (js.headD 0 : Nat)) := by
  cases js with
  | nil => exact absurd rfl h
  | cons j js => simp [natD]
theorem pure_can_by_tap : ∀ as QD, sp_can_by_tap as QD → as.length = 2 → b_can_by_tap (En QD) (as ++ List.replicate 0 .un) := by
  rintro _ QD ⟨js, g, rfl, h, hq⟩ _
  simp [b_can_by_tap, jugsD, ↓q_sizes h, ↓q_tap h]
  exact hq
theorem pure_tap_paper : ∀ as QD, sp_tap_paper as QD → as.length = 2 → b_tap_paper (En QD) (as ++ List.replicate 0 .un) := by
  rintro _ QD ⟨js, g, rfl, h, hq⟩ _
  obtain ⟨hne, hl, hp⟩ := id h
  unfold paperD at hq
  by_cases h1 : byTap js g = true
  · rw [if_pos h1] at hq
    simp [b_tap_paper, jugsD, ↓q_sizes h, ↓q_tap h, h1]
    exact hq
  · rw [if_neg h1] at hq
    by_cases h2 : maxL js < g
    · rw [if_pos h2] at hq
      have e2 : (maxL js : Int) < (g : Int) := by omega
      simp [b_tap_paper, jugsD, ↓q_sizes h, ↓q_tap h, h1, ↓q_maxN hne, h2]
      exact hq
    · rw [if_neg h2] at hq
      by_cases h3 : js.length = 1
      · rw [if_pos h3] at hq
        have e3 : (js.length : Int) = 1 := by omega
        simp [b_tap_paper, jugsD, ↓q_sizes h, ↓q_tap h, h1, ↓q_maxN hne, ↓q_at0 hne, h2, e3]
        rw [List.headD_eq_head?_getD] at hq
        exact hq
      · rw [if_neg h3] at hq
        have e3 : ¬ (js.length : Int) = 1 := by omega
        simp [b_tap_paper, jugsD, ↓q_sizes h, ↓q_tap h, h1, ↓q_maxN hne, ↓q_cos, h2, e3]
        exact hq
/-! papers -/
/-- [f(x) for x in xs]: booleans, nothing else is touched -/
theorem lc_bools {g : TGD} {te : TD} {vs : List Nat} {k : List Dat → Ev → Prop} {ρ0 : Ev} {α : Type} (c : α → Dat) (f : α → Bool) (xs : List α) (hl : xs.length ≤ 1000)
    (hs : ∀ x ∈ xs, ∀ (W : List Dat → Ev → Prop) (acc : List Dat), W (acc ++ [.bool (f x)]) ρ0 → acc.length < sizeLine → g (c x) ρ0 fun ρ1 => te ρ1 fun s ρ3 => fz s fun y => acc.length < sizeLine ∧ W (acc ++ [y]) (wipeD ρ3 vs))
    (hk : k ((xs.map f).map .bool) ρ0) : lcW g tYesD te vs (xs.map c) ρ0 [] k := by
  refine lcW_inv (fun i ρ acc => ρ = ρ0 ∧ acc = ((xs.take i).map f).map .bool ∧ i ≤ xs.length) _ 0 _ _ ⟨rfl, rfl, Nat.zero_le _⟩ ?_ ?_
  · rintro i d ρ acc W he ⟨rfl, rfl, hi⟩ hW
    rw [List.getElem?_map] at he
    obtain ⟨x, hx, rfl⟩ := Option.map_eq_some_iff.mp he
    have hlt : i < xs.length := (List.getElem?_eq_some_iff.mp hx).1
    have sz : ((((xs.take (0 + i)).map f).map PyData.bool).length) < sizeLine := by
      have : (1000000 : Nat) ≤ sizeLine := by decide
      simp
      omega
    have := hs x (List.mem_of_getElem? hx) (fun a r => W r a) (((xs.take (0 + i)).map f).map PyData.bool) (hW _ _ ⟨rfl, by rw [Nat.zero_add, List.take_add_one, hx]; simp, by omega⟩) sz
    simpa using this
  · rintro ρ acc ⟨rfl, rfl, hi⟩
    rw [List.length_map, Nat.zero_add, List.take_length]
    exact hk
theorem all_id {α : Type} (f : α → Bool) (xs : List α) : (xs.map f).all id = xs.all f := by
  rw [List.all_map]; rfl
theorem all_max {js : List Nat} (h : js ≠ []) {m : Int} : (js.all fun j => decide ((j : Int) ≤ m)) = decide ((maxL js : Int) ≤ m) := by
  rw [Bool.eq_iff_iff, List.all_eq_true, decide_eq_true_eq]
  constructor
  · intro z; exact of_decide_eq_true (z _ (maxL_mem h))
  · intro z j hj
    have := maxL_le j hj
    exact decide_eq_true (by omega)
theorem eqv_nats : ∀ (js : List Nat) (ms : List Int), PyData.eqvAll (js.map natD) (ms.map .int) = decide (js.map (fun n : Nat => (n : Int)) = ms)
  | [], [] => by simp [PyData.eqvAll]
  | [], m :: ms => by simp [PyData.eqvAll]
  | j :: js, [] => by simp [PyData.eqvAll]
  | j :: js, m :: ms => by
    have ih := eqv_nats js ms
    rw [List.map_cons, List.map_cons, PyData.eqvAll, ih, Bool.eq_iff_iff]
    simp [natD, PyData.eqv]
theorem q_eqN {k : Sl → Prop} (js : List Nat) (m : Int) : fEq (.list (js.map natD)) (.list [.int m]) k = k (.sh (.bool (decide (js.map (fun n : Nat => (n : Int)) = [m])))) := by
  unfold fEq
  have ok := eo_nats js [.int m] (by simp [PyData.canLayAll0, PyData.canLay0])
  have e := eqv_nats js [m]
  simp only [List.map_cons, List.map_nil] at e
  simp only [ok, true_and, PyData.eqv, e]
theorem pure_is_tap_paper : ∀ as QD, sp_is_tap_paper as QD → as.length = 3 → b_is_tap_paper (En QD) (as ++ List.replicate 3 .un) := by
  rintro _ QD ⟨js, g, v, rfl, h, hq⟩ _
  obtain ⟨hne, hl, hp⟩ := id h
  cases v with
  | tuple ds =>
    match ds, hq with
    | [], hq => simp [b_is_tap_paper, jugsD, ↓q_sizes h, isTy, tyN]; exact hq
    | [x], hq => simp [b_is_tap_paper, jugsD, ↓q_sizes h, isTy, tyN]; simpa [tapJ] using hq
    | [x, y], hq =>
      cases x with
      | str w =>
        cases y with
        | int m =>
          simp [b_is_tap_paper, jugsD, ↓q_sizes h, isTy, tyN, sp_is_whole]
          have e0 : tapJ js g (.tuple [.str w, .int m]) = tapN js g w m := rfl
          rw [e0] at hq
          unfold tapN at hq
          by_cases h1 : m < 1
          · rw [if_pos h1] at hq ⊢
            exact hq
          · rw [if_neg h1] at hq ⊢
            by_cases h2 : w = "great"
            · rw [if_pos h2] at hq ⊢
              refine lc_bools natD (fun j => decide ((j : Int) ≤ m)) js hl (fun j hj W acc hW hz => ?_) ?_
              · simp [b_is_tap_paper_g1, b_is_tap_paper_e3, natD]
                exact ⟨hz, hW⟩
              · simp only [q_allL, all_id]
                rw [all_max hne]
                by_cases h3 : (maxL js : Int) ≤ m
                · simp [h3] at hq ⊢
                  exact hq
                · simp [h3] at hq ⊢
                  exact hq
            · rw [if_neg h2] at hq ⊢
              by_cases h3 : w = "single"
              · rw [if_pos h3] at hq ⊢
                rw [q_eqN]
                by_cases h4 : js.map (fun n : Nat => (n : Int)) = [m]
                · simp [h4] at hq ⊢
                  have e1 : decide ((0 : Int) = (g : Int)) = decide (g = 0) := by rw [Bool.eq_iff_iff]; simp; omega
                  have e2 : decide (m = (g : Int)) = decide ((g : Int) = m) := by rw [Bool.eq_iff_iff]; simp; omega
                  rw [e1, e2]
                  exact hq
                · simp [h4] at hq ⊢
                  exact hq
              · rw [if_neg h3] at hq ⊢
                by_cases h4 : w = "common"
                · rw [if_pos h4]
                  refine lc_bools natD (fun j => decide ((j : Int) % m = 0)) js hl (fun j hj W acc hW hz => ?_) ?_
                  · simp [b_is_tap_paper_g4, b_is_tap_paper_e6, natD, show 0 < m by omega]
                    exact ⟨hz, hW⟩
                  · simp only [q_allL, all_id]
                    by_cases h5 : (js.all fun j => decide ((j : Int) % m = 0)) = true
                    · simp only [h5, h4] at hq ⊢
                      simp [show 0 < m by omega] at hq ⊢
                      exact hq
                    · have h6 : (js.all fun j => decide ((j : Int) % m = 0)) = false := by simpa using h5
                      simp only [h6, h4] at hq ⊢
                      simp at hq ⊢
                      exact hq
                · rw [if_neg h4]
                  simp [h4] at hq
                  rw [beq_eq_false_iff_ne.mpr h4]
                  exact hq
        | _ => simp [b_is_tap_paper, jugsD, ↓q_sizes h, isTy, tyN, sp_is_whole, wholeD]; exact hq
      | _ => simp [b_is_tap_paper, jugsD, ↓q_sizes h, isTy, tyN]; exact hq
    | x :: y :: z :: ds, hq =>
      have e : ¬ ((ds.length : Int) + 1 + 1 + 1 = 2) := by omega
      simp [b_is_tap_paper, jugsD, ↓q_sizes h, isTy, tyN, e]; simpa [tapJ] using hq
  | _ => simp [b_is_tap_paper, jugsD, ↓q_sizes h, isTy, tyN]; exact hq

@[simp ↓] theorem q_dChain {ρ : Ev} {Q : Sl → Ev → Prop} (f f' : F2) (a b c : TOD) : dChain f f' a b c ρ Q = a ρ fun la ρ1 => b ρ1 fun lb ρ2 => onL ρ2 la fun dx => onL ρ2 lb fun dy => f dx dy fun s => onB s fun k =>
    if k = true then c ρ2 fun lc ρ3 => onL ρ3 lb fun dy => onL ρ3 lc fun dz => f' dy dz fun s => Q s ρ3 else Q (.sh (.bool false)) ρ2 := by
  have two : ∀ (ρ : Ev) (l m : Lt) (k : Dat → Dat → Prop), (∃ dx dy, l.get ρ = some dx ∧ m.get ρ = some dy ∧ k dx dy) = onL ρ l fun dx => onL ρ m fun dy => k dx dy := by
    intro ρ l m k
    apply propext
    rw [onL_eq]
    constructor
    · rintro ⟨dx, dy, e1, e2, h⟩; exact ⟨dx, e1, onL_eq.mpr ⟨dy, e2, h⟩⟩
    · rintro ⟨dx, e1, h⟩; obtain ⟨dy, e2, h⟩ := onL_eq.mp h; exact ⟨dx, dy, e1, e2, h⟩
  unfold dChain
  simp only [two, onB_eq]
/-- [x for x in xs if p(x)] -/
theorem lc_filter {g : TGD} {tt : TTD} {te : TD} {vs : List Nat} {k : List Dat → Ev → Prop} {ρ0 : Ev} {α : Type} (c : α → Dat) (p : α → Bool) (xs : List α) (hl : xs.length ≤ 1000)
    (hs : ∀ x ∈ xs, ∀ (W : List Dat → Ev → Prop) (acc : List Dat), (p x = true → W (acc ++ [c x]) ρ0) → (p x = false → W acc ρ0) → acc.length < sizeLine →
      g (c x) ρ0 fun ρ1 => tt ρ1 fun b ρ2 => if b = true then te ρ2 fun s ρ3 => fz s fun y => acc.length < sizeLine ∧ W (acc ++ [y]) (wipeD ρ3 vs) else W acc (wipeD ρ2 vs))
    (hk : k ((xs.filter p).map c) ρ0) : lcW g tt te vs (xs.map c) ρ0 [] k := by
  refine lcW_inv (fun i ρ acc => ρ = ρ0 ∧ acc = ((xs.take i).filter p).map c ∧ i ≤ xs.length) _ 0 _ _ ⟨rfl, rfl, Nat.zero_le _⟩ ?_ ?_
  · rintro i d ρ acc W he ⟨rfl, rfl, hi⟩ hW
    rw [List.getElem?_map] at he
    obtain ⟨x, hx, rfl⟩ := Option.map_eq_some_iff.mp he
    have hlt : i < xs.length := (List.getElem?_eq_some_iff.mp hx).1
    have sz : (((xs.take (0 + i)).filter p).map c).length < sizeLine := by
      have h1 : (1000000 : Nat) ≤ sizeLine := by decide
      have h2 := List.length_filter_le p (xs.take (0 + i))
      rw [List.length_take] at h2
      rw [List.length_map]
      omega
    refine hs x (List.mem_of_getElem? hx) (fun a r => W r a) _ (fun hp => ?_) (fun hp => ?_) sz
    · refine hW _ _ ⟨rfl, ?_, by omega⟩
      rw [Nat.zero_add, List.take_add_one, hx]
      simp [hp]
    · refine hW _ _ ⟨rfl, ?_, by omega⟩
      rw [Nat.zero_add, List.take_add_one, hx]
      simp [hp]
  · rintro ρ acc ⟨rfl, rfl, hi⟩
    rw [List.length_map, Nat.zero_add, List.take_length]
    exact hk
theorem q_eqNil {k : Sl → Prop} (js : List Nat) : fEq (.list (js.map natD)) (.list []) k = k (.sh (.bool (decide (js = [])))) := by
  unfold fEq
  have ok := eo_nats js [] rfl
  have e := eqv_nats js []
  rw [List.map_nil] at e
  simp only [ok, true_and, PyData.eqv, e]
  cases js <;> simp
theorem maxL_pos {js : List Nat} (h : jugsOk js) : 1 ≤ maxL js := (h.2.2 _ (maxL_mem h.1)).1
theorem pure__law_is_paper : ∀ as QD, sp__law_is_paper as QD → as.length = 3 → b__law_is_paper (En QD) (as ++ List.replicate 3 .un) := by
  rintro _ QD ⟨js, g, v, rfl, h, hq⟩ _
  obtain ⟨hne, hl, hp⟩ := id h
  have hmx := maxL_pos h
  cases v with
  | tuple ds =>
    match ds, hq with
    | [], hq => simp [b__law_is_paper, isTy, tyN]; exact hq
    | [x], hq => simp [b__law_is_paper, isTy, tyN]; simpa [tapJ] using hq
    | [x, y], hq =>
      cases x with
      | str w =>
        cases y with
        | int m =>
          have e0 : tapJ js g (.tuple [.str w, .int m]) = tapN js g w m := rfl
          rw [e0] at hq
          unfold tapN at hq
          simp [b__law_is_paper, jugsD, isTy, tyN, ↓q_maxN hne, ↓q_eqN]
          have g1 : decide ((0 : Int) = (g : Int)) = decide (g = 0) := by rw [Bool.eq_iff_iff]; simp; omega
          have g2 : decide (m = (g : Int)) = decide ((g : Int) = m) := by rw [Bool.eq_iff_iff]; simp; omega
          rw [g1, g2]
          by_cases h2 : w = "great"
          · rw [if_pos h2] at hq ⊢
            by_cases h1 : m < 1
            · rw [if_pos h1] at hq
              rw [if_neg (by omega)]
              exact hq
            · rw [if_neg h1] at hq
              by_cases h3 : (maxL js : Int) ≤ m
              · rw [if_pos h3]
                simpa [h3] using hq
              · rw [if_neg h3]
                simpa [h3] using hq
          · rw [if_neg h2] at hq ⊢
            by_cases h3 : w = "single"
            · rw [if_pos h3] at hq ⊢
              by_cases h1 : m < 1
              · rw [if_pos h1] at hq
                have e : ¬ js.map (fun n : Nat => (n : Int)) = [m] := fun z => by
                  have hm : m ∈ js.map (fun n : Nat => (n : Int)) := by rw [z]; simp
                  obtain ⟨j, hj, rfl⟩ := List.mem_map.mp hm
                  have := (hp j hj).1
                  omega
                rw [decide_eq_false e, if_neg (by decide)]
                exact hq
              · rw [if_neg h1] at hq
                by_cases e : js.map (fun n : Nat => (n : Int)) = [m]
                · rw [decide_eq_true e] at hq ⊢
                  rw [if_pos rfl]
                  simpa using hq
                · rw [decide_eq_false e] at hq ⊢
                  rw [if_neg (by decide)]
                  simpa using hq
            · rw [if_neg h3] at hq ⊢
              by_cases h4 : w = "common"
              · rw [if_pos h4]
                rw [decide_eq_true h4] at hq
                by_cases h1 : m < 1
                · rw [if_pos h1] at hq
                  rw [if_neg (by omega), decide_eq_false (by omega)]
                  exact hq
                · rw [if_neg h1] at hq
                  rw [if_pos (by omega)]
                  have hm0 : 0 < m := by omega
                  refine lc_filter natD (fun j : Nat => decide (0 < (j : Int) % m)) js hl (fun j hj W acc w1 w2 hz => ?_) ?_
                  · simp [b__law_is_paper_g1, b__law_is_paper_t2, b__law_is_paper_e3, natD, hm0]
                    by_cases hj0 : 0 < (j : Int) % m
                    · rw [if_pos hj0]
                      exact ⟨hz, w1 (decide_eq_true hj0)⟩
                    · rw [if_neg hj0]
                      exact w2 (decide_eq_false hj0)
                  · rw [q_eqNil]
                    have nn : ∀ x : Int, 0 ≤ x % m := fun x => Int.emod_nonneg x (by omega)
                    have ef : (js.filter fun j : Nat => decide (0 < (j : Int) % m)) = [] ↔ (js.all fun j : Nat => decide ((j : Int) % m = 0)) = true := by
                      rw [List.filter_eq_nil_iff, List.all_eq_true]
                      constructor
                      · intro z j hj
                        have z1 := z j hj
                        have z2 := nn (j : Int)
                        rw [decide_eq_true_eq] at z1 ⊢
                        omega
                      · intro z j hj
                        have z1 := z j hj
                        rw [decide_eq_true_eq] at z1 ⊢
                        omega
                    by_cases h5 : (js.all fun j : Nat => decide ((j : Int) % m = 0)) = true
                    · rw [h5] at hq
                      rw [decide_eq_true (ef.mpr h5)]
                      have e6 : decide (0 < (g : Int) % m) = !decide ((g : Int) % m = 0) := by
                        have := nn g
                        by_cases z : (g : Int) % m = 0
                        · simp [z]
                        · simp [z]; omega
                      simp [hm0]
                      rw [e6]
                      simpa using hq
                    · have h6 : (js.all fun j => decide ((j : Int) % m = 0)) = false := by simpa using h5
                      rw [h6] at hq
                      rw [decide_eq_false fun z => h5 (ef.mp z)]
                      simpa using hq
              · rw [if_neg h4, beq_eq_false_iff_ne.mpr h4]
                rw [decide_eq_false h4] at hq
                by_cases h1 : m < 1
                · rw [if_pos h1] at hq
                  exact hq
                · rw [if_neg h1] at hq
                  exact hq
        | _ => simp [b__law_is_paper, isTy, tyN]; exact hq
      | _ => simp [b__law_is_paper, isTy, tyN]; exact hq
    | x :: y :: z :: ds, hq =>
      have e : ¬ ((ds.length : Int) + 1 + 1 + 1 = 2) := by omega
      simp [b__law_is_paper, isTy, tyN, e]; simpa [tapJ] using hq
  | _ => simp [b__law_is_paper, isTy, tyN]; exact hq

theorem pure__law_drawn : ∀ as QD, sp__law_drawn as QD → as.length = 2 → b__law_drawn (En QD) (as ++ List.replicate 3 .un) := by
  rintro _ QD ⟨p, g, ds, n, rfl, hl, hg, hq⟩ _
  simp [b__law_drawn]
  refine forW_inv (fun i ρ => ∃ (g' left found : List Dat) (x : Sl), ρ = [.io p g', .sh (.list ds), .ol left, .ol found, x] ∧ notIo (some x) ∧ gOk (n + (ds.length - i)) g' ∧ (found ++ left).Perm ds ∧ found.length = i) _ 0 _ ⟨g, ds, [], .un, rfl, trivial, by simpa using hg, by simp, rfl⟩ ?_ ?_
  · rintro i d ρ W he ⟨g', left, found, x, rfl, hx, hg', hp, hf⟩ hW
    have hlt : i < ds.length := (List.getElem?_eq_some_iff.mp he).1
    simp [b__law_drawn_F1, hx, ↓q_rand]
    have hlen : found.length + left.length = ds.length := by rw [← hp.length_eq, List.length_append]
    have lg : left.length.log2 < 3000 := by
      have h1 : left.length ≠ 0 := by omega
      rw [Nat.log2_lt h1]
      exact Nat.lt_of_lt_of_le (show left.length < 2 ^ 20 by omega) (Nat.pow_le_pow_right (by decide) (by decide))
    refine ⟨by omega, lg, n + (ds.length - (i + 1)), hg'.le (by omega), fun r ga r1 r2 hga => ?_⟩
    obtain ⟨j, rfl⟩ := Int.eq_ofNat_of_zero_le r1
    have hj : j < left.length := by omega
    refine ⟨(j : Int), left[j], rfl, by omega, by omega, j, ?_, List.getElem?_eq_getElem hj, ?_⟩
    · exact (ixN_seq (n := left.length) (i := (j : Int)) (j := j) (by unfold ixN; rw [if_pos (by omega), if_pos (by omega)]; rfl)).1
    · have h1 : (1000000 : Nat) ≤ sizeLine := by decide
      refine ⟨by omega, hW _ ⟨ga, left.eraseIdx j, found ++ [left[j]], .sh d, rfl, trivial, by simpa using hga, ?_, by simp [hf]⟩⟩
      have pe : (left[j] :: left.eraseIdx j).Perm left := by
        rw [List.eraseIdx_eq_take_drop_succ]
        have e : left.take j ++ left[j] :: left.drop (j + 1) = left := by
          rw [← List.drop_eq_getElem_cons hj, List.take_append_drop]
        exact (List.perm_middle (a := left[j]) (l₁ := left.take j) (l₂ := left.drop (j + 1))).symm.trans (by rw [e])
      refine List.Perm.trans ?_ hp
      rw [List.append_assoc]
      exact List.Perm.append_left _ pe
  · rintro ρ ⟨g', left, found, x, rfl, hx, hg', hp, hf⟩
    have hz : left = [] := by
      have := hp.length_eq
      rw [List.length_append] at this
      exact List.length_eq_zero_iff.mp (by omega)
    subst hz
    simp [q_ios6 hx]
    exact hq _ _ (by simpa using hp) (by simpa using hg')

theorem q_drawn {Q : Sl → List (Addr × List Dat) → Prop} (p : Addr) (g ds : List Dat) : sp__law_drawn [.io p g, .sh (.list ds)] Q = (ds.length ≤ 1000 ∧ ∃ n, gOk (n + ds.length) g ∧ ∀ ds' g', ds'.Perm ds → gOk n g' → Q (.ol ds') [(p, g')]) := by
  apply propext
  constructor
  · rintro ⟨_, _, _, n, e, h1, h2⟩; cases e; exact ⟨h1, n, h2⟩
  · rintro ⟨h1, n, h2⟩; exact ⟨_, _, _, n, rfl, h1, h2⟩
theorem atI_neg {α : Type} {xs : List α} {i : Int} (h0 : -(xs.length : Int) ≤ i) (h : i < 0) : ∃ x ∈ xs, atI xs i = some x := by
  unfold atI ixN
  rw [if_neg (by omega), if_pos h0]
  have hj : (i + xs.length).toNat < xs.length := by omega
  exact ⟨xs[(i + xs.length).toNat], List.getElem_mem hj, by simp [hj]⟩
theorem perm_two {α : Type} {l : List α} {a b : α} (h : l.Perm [a, b]) : l = [a, b] ∨ l = [b, a] := by
  match l, h with
  | [], h => have := h.length_eq; simp at this
  | [x], h => have := h.length_eq; simp at this
  | x :: y :: z :: r, h => have := h.length_eq; simp at this
  | [x, y], h =>
    have hx : x ∈ [a, b] := h.mem_iff.mp List.mem_cons_self
    rcases List.mem_cons.mp hx with rfl | hx
    · have := List.Perm.cons_inv h
      have := List.perm_singleton.mp this
      simp at this
      exact .inl (by rw [this])
    · obtain rfl : x = b := by simpa using hx
      have h2 : [x, y].Perm [x, a] := h.trans (List.Perm.swap _ _ _)
      have := List.perm_singleton.mp (List.Perm.cons_inv h2)
      simp at this
      exact .inr (by rw [this])
theorem pure__law_sizes : ∀ as QD, sp__law_sizes as QD → as.length = 1 → b__law_sizes (En QD) (as ++ List.replicate 8 .un) := by
  rintro _ QD ⟨p, g, n, rfl, hg, hq⟩ _
  simp [b__law_sizes, ↓q_rand, ↓q_pickL, ↓q_drawn, -List.mem_cons]
  have tail : ∀ (t x y : Int) (ga : List Dat), 0 < t → t ≤ 10000 → 0 < x → x ≤ 1000000000000 → 0 < y → y ≤ 1000000000000 → gOk (n + 2) ga →
      (fMul (.int t) (.int x) fun s => fz s fun d_1 => fMul (.int t) (.int y) fun s => fz s fun d_2 => ∃ n, gOk (n + 2) ga ∧ ∀ (ds' g' : List Dat), ds'.Perm [d_1, d_2] → gOk n g' → QD (.sh (.tuple [.int t, .list ds'])) [(p, g')]) := by
    intro t x y ga t1 t2 x1 x2 y1 y2 hga
    have px : 0 < t * x := Int.mul_pos t1 x1
    have py : 0 < t * y := Int.mul_pos t1 y1
    have bx : t * x ≤ 10000 * 1000000000000 := Int.mul_le_mul t2 x2 (by omega) (by decide)
    have bY : t * y ≤ 10000 * 1000000000000 := Int.mul_le_mul t2 y2 (by omega) (by decide)
    refine ⟨mulOk_l (by omega) (by omega), mulOk_l (by omega) (by omega), n, hga, fun ds' gb hp hgb => ?_⟩
    have e1 : (((t * x).toNat : Nat) : Int) = t * x := Int.toNat_of_nonneg (by omega)
    have e2 : (((t * y).toNat : Nat) : Int) = t * y := Int.toNat_of_nonneg (by omega)
    have e0 : ((t.toNat : Nat) : Int) = t := Int.toNat_of_nonneg (by omega)
    rcases perm_two hp with rfl | rfl
    · have := hq t.toNat (t * x).toNat (t * y).toNat gb (by omega) (by omega) (by omega) (by omega) hgb
      rw [e0, e1, e2] at this
      exact this
    · have := hq t.toNat (t * y).toNat (t * x).toNat gb (by omega) (by omega) (by omega) (by omega) hgb
      rw [e0, e1, e2] at this
      exact this
  refine ⟨by decide, n + 7, hg, fun r g1 r1 r2 hg1 => ⟨by decide, n + 6, hg1, fun d g2 hd hg2 => ?_⟩⟩
  obtain ⟨t, rfl, t1, t2⟩ : ∃ t : Int, d = .int t ∧ 0 < t ∧ t ≤ 10000 := by
    simp at hd
    rcases hd with rfl | rfl | rfl | rfl | rfl <;> exact ⟨_, rfl, by decide, by decide⟩
  split
  · exact ⟨by decide, n + 5, hg2, fun x g3 x1 x2 hg3 => ⟨by decide, n + 4, hg3, fun y g4 y1 y2 hg4 => tail t (1 + x) (1 + y) g4 t1 t2 (by omega) (by omega) (by omega) (by omega) (hg4.le (by omega))⟩⟩
  · split
    · exact ⟨by decide, n + 5, hg2, fun x g3 x1 x2 hg3 => ⟨by decide, by decide, n + 4, hg3, fun y g4 y1 y2 hg4 => tail t (1 + x) (1 + y) g4 t1 t2 (by omega) (by omega) (by omega) (by omega) (hg4.le (by omega))⟩⟩
    · split
      · refine forW_inv (fun i ρ => ∃ (fs : List Int) (x : Sl), ρ = [.io p g2, .sh (.int r), .sh (.int t), .un, .un, .ol (fs.map .int), x, .un, .un] ∧ notIo (some x) ∧ fs.length = i + 2 ∧ ∀ f ∈ fs, 0 < f ∧ f ≤ 2 ^ i) _ 0 _ ⟨[1, 1], .un, rfl, trivial, rfl, by decide⟩ ?_ ?_
        · rintro i d ρ W he ⟨fs, x, rfl, hx, hfl, hf⟩ hW
          obtain ⟨rfl, hi⟩ := rgD_mem he
          obtain ⟨d1, m1, e1⟩ := atI_neg (xs := fs.map PyData.int) (i := -1) (by simp; omega) (by decide)
          obtain ⟨d2, m2, e2⟩ := atI_neg (xs := fs.map PyData.int) (i := -2) (by simp; omega) (by decide)
          obtain ⟨f1, hf1, rfl⟩ := List.mem_map.mp m1
          obtain ⟨f2, hf2, rfl⟩ := List.mem_map.mp m2
          simp [b__law_sizes_F1, hx, ↓atD_of e1, ↓atD_of e2]
          have h1 : (1000000 : Nat) ≤ sizeLine := by decide
          refine ⟨by omega, hW _ ⟨fs ++ [f1 + f2], .sh (.int i), by simp, trivial, by simp [hfl], ?_⟩⟩
          intro f hf'
          rw [Int.pow_succ]
          have a := hf f1 hf1
          have b := hf f2 hf2
          rcases List.mem_append.mp hf' with h | h
          · have := hf f h; omega
          · obtain rfl : f = f1 + f2 := by simpa using h
            omega
        · rintro ρ ⟨fs, x, rfl, hx, hfl, hf⟩
          rw [rgD_len] at hfl hf
          simp [↓q_rand, ↓q_drawn, q_ios6 hx]
          refine ⟨by decide, n + 5, hg2, fun z g3 z1 z2 hg3 => ?_⟩
          obtain ⟨d1, m1, e1⟩ := atI_some (xs := fs.map PyData.int) (i := 3 + z) (by omega) (by simp; omega)
          obtain ⟨d2, m2, e2⟩ := atI_some (xs := fs.map PyData.int) (i := 3 + z + 1) (by omega) (by simp; omega)
          obtain ⟨f1, hf1, rfl⟩ := List.mem_map.mp m1
          obtain ⟨f2, hf2, rfl⟩ := List.mem_map.mp m2
          rw [atD_of e1, atD_of e2]
          have a := hf f1 hf1
          have b := hf f2 hf2
          have e : (2 : Int) ^ (0 + 38) ≤ 1000000000000 := by decide
          exact tail t f1 f2 g3 t1 t2 a.1 (by omega) b.1 (by omega) (hg3.le (by omega))
      · exact ⟨by decide, by decide, n + 5, hg2, fun x g3 x1 x2 hg3 => ⟨by decide, by decide, n + 4, hg3, fun y g4 y1 y2 hg4 => tail t (1 + x) (1 + y) g4 t1 t2 (by omega) (by omega) (by omega) (by omega) (hg4.le (by omega))⟩⟩

theorem log_1920 {i : Int} (h1 : -(2 ^ 200) ≤ i) (h2 : i ≤ 2 ^ 200) : i.natAbs.log2 < 1920 := by
  by_cases z : i.natAbs = 0
  · rw [z]; decide
  · rw [Nat.log2_lt z]
    have e : (2 : Nat) ^ 200 < 2 ^ 1920 := by decide +kernel
    have : i.natAbs ≤ 2 ^ 200 := by omega
    omega
theorem fillsI_le {a b g : Nat} (hb : 0 < b) : 0 ≤ fillsI a b g ∧ fillsI a b g ≤ b := by
  have hd : ((b / Nat.gcd a b : Nat) : Int) ≤ b := by have := Nat.div_le_self b (Nat.gcd a b); omega
  unfold fillsI
  split
  · rename_i h
    refine ⟨by omega, ?_⟩
    by_cases h2 : 1 < b / Nat.gcd a b
    · unfold fills0
      rw [if_pos h2]
      generalize b / Nat.gcd a b = d at h2 hd
      generalize g / Nat.gcd a b = e
      generalize ((e : Int)) * (inv (a / Nat.gcd a b) d % (d : Int)) = z
      have h3 : (0 : Int) < d := by omega
      have := Int.emod_lt_of_pos z h3
      omega
    · unfold fills0 at h
      rw [if_neg h2] at h
      exact absurd h (by decide)
  · exact ⟨Int.natCast_nonneg _, hd⟩
theorem st_rep {a b g : Nat} (h : szOk a b g) : repD (stD a b g) = true ∧ (stD a b g).depth = 0 ∧ szD (stD a b g) ≤ 601 := by
  obtain ⟨ha, ha2, hb, hb2, hg⟩ := h
  have ha3 : a < 18446744073709551616 := ha2
  have hb3 : b < 18446744073709551616 := hb2
  have hg3 : g < 18446744073709551616 := hg
  have e200 : (2 : Int) ^ 200 = 1606938044258990275541962092341162602522202993782792835301376 := by decide +kernel
  have key : ∀ i : Int, -(2 ^ 200) ≤ i → i ≤ 2 ^ 200 → repD (.int i) = true ∧ (PyData.int i).depth = 0 ∧ szD (.int i) ≤ 601 := by
    intro i h1 h2
    exact ⟨by simpa [repD] using log_1920 h1 h2, dp_int i, by simp [szD]⟩
  unfold stD
  split
  · exact key _ (by decide) (by decide)
  · split
    · exact key _ (by decide) (by decide)
    · split
      · have h1 : 0 ≤ ((b : Int) + a - 1) / a := Int.ediv_nonneg (by omega) (by omega)
        have h2 : ((b : Int) + a - 1) / a ≤ (b : Int) + a - 1 := Int.ediv_le_self _ (by omega)
        exact key _ (by omega) (by omega)
      · split
        · exact ⟨by simp [repD], by simp [PyData.depth], by simp [szD]⟩
        · obtain ⟨f1, f2⟩ := fillsI_le (a := a) (g := g) hb
          have f3 : fillsI a b g * a ≤ b * a := Int.mul_le_mul_of_nonneg_right f2 (by omega)
          have f4 : 0 ≤ fillsI a b g * a := Int.mul_nonneg f1 (by omega)
          have f5 : (b : Int) * a ≤ 18446744073709551616 * 18446744073709551616 := by
            have := Nat.mul_le_mul (Nat.le_of_lt hb3) (Nat.le_of_lt ha3)
            have e : ((b * a : Nat) : Int) = (b : Int) * a := Int.natCast_mul b a
            omega
          have f6 : empt a b g ≤ 18446744073709551616 * 18446744073709551616 := by
            unfold empt
            by_cases h0 : 0 ≤ fillsI a b g * a - g
            · have := Int.ediv_le_self (a := fillsI a b g * a - g) (b : Int) h0
              omega
            · have : (fillsI a b g * a - g) / (b : Int) < 0 := Int.ediv_neg_of_neg_of_pos (by omega) (by omega)
              omega
          have f7 : -18446744073709551616 ≤ empt a b g := by
            unfold empt
            rw [Int.le_ediv_iff_mul_le (by omega)]
            have : (-18446744073709551616 : Int) * b ≤ -18446744073709551616 * 1 := by omega
            omega
          apply key <;> (split <;> omega)
theorem byTap2 {a b g : Nat} : byTap [a, b] g = (decide (g ≤ max a b) && decide (g % Nat.gcd a b = 0)) := by
  have e1 : maxL [a, b] = max a b := by simp [maxL]
  have e2 : gcdL [a, b] = Nat.gcd a b := by simp [gcdL, Nat.gcd_comm]
  unfold byTap
  rw [e1, e2, if_neg (by simp)]
theorem eqv_none {x : Dat} : PyData.eqv x .none = (match x with | .none => true | _ => false) := by
  cases x <;> simp [PyData.eqv]
theorem st_none {a b g : Nat} : (PyData.eqv (stD a b g) .none) = !byTap [a, b] g := by
  rw [byTap2, eqv_none]
  unfold stD
  by_cases h0 : g = 0
  · subst h0; simp
  · rw [if_neg h0]
    by_cases h1 : g = a
    · subst h1
      have : g % Nat.gcd g b = 0 := Nat.mod_eq_zero_of_dvd (Nat.gcd_dvd_left g b)
      simp [this]; omega
    · rw [if_neg h1]
      by_cases h2 : g = b
      · subst h2
        have : g % Nat.gcd a g = 0 := Nat.mod_eq_zero_of_dvd (Nat.gcd_dvd_right a g)
        simp [this]; omega
      · rw [if_neg h2]
        by_cases h3 : max a b < g ∨ g % Nat.gcd a b ≠ 0
        · rw [if_pos h3]
          rcases h3 with h | h
          · simp; omega
          · simp [h]
        · rw [if_neg h3]
          simp at h3 ⊢
          omega
theorem st_nones {a b g : Nat} : PyData.eqvAll [stD a b g, stD b a g] [.none, .none] = !byTap [a, b] g := by
  have e : byTap [b, a] g = byTap [a, b] g := by rw [byTap2, byTap2, Nat.max_comm, Nat.gcd_comm]
  simp [PyData.eqvAll, st_none, e]
section
variable {Q : Sl → List (Addr × List Dat) → Prop}
theorem q_pours {a b g : Nat} (h : szOk a b g) : sp_straight_pours [.sh (.int a), .sh (.int b), .sh (.int g)] Q = Q (.sh (.tuple [stD a b g, stD b a g])) [] := by
  apply propext
  constructor
  · rintro ⟨x, y, z, e, _, q⟩
    simp at e
    have e1 : a = x := by omega
    have e2 : b = y := by omega
    have e3 : g = z := by omega
    subst e1 e2 e3; exact q
  · intro q; exact ⟨a, b, g, rfl, h, q⟩
theorem q_lst {a b g : Nat} (h : szOk a b g) : sp__law_straight [.sh (.int a), .sh (.int b), .sh (.int g)] Q = Q (.sh (stD a b g)) [] := q_sfrom h
theorem q_can2 {a b g : Nat} (h : szOk a b g) : sp_can_by_tap [.sh (.list [.int a, .int b]), .sh (.int g)] Q = Q (.sh (.bool (byTap [a, b] g))) [] := by
  have := q_tap (Q := Q) (js := [a, b]) (g := g) ⟨by simp, by simp, by
    intro j hj
    simp at hj
    rcases hj with rfl | rfl
    · exact ⟨h.1, h.2.1⟩
    · exact ⟨h.2.2.1, h.2.2.2.1⟩⟩
  simp only [natD, List.map_cons, List.map_nil] at this
  exact this
theorem q_sz (p : Addr) (g : List Dat) : sp__law_sizes [.io p g] Q = ∃ n, gOk (n + 8) g ∧ ∀ (t a b : Nat) g', 0 < a → a < 100000000000000000 → 0 < b → b < 100000000000000000 → gOk n g' → Q (.sh (.tuple [.int t, .list [.int a, .int b]])) [(p, g')] := by
  apply propext
  constructor
  · rintro ⟨_, _, n, e, h⟩; cases e; exact ⟨n, h⟩
  · rintro ⟨n, h⟩; exact ⟨_, _, n, rfl, h⟩
end
theorem gsel3 {x y z : Dat} : gsel 0 3 [2, 1, 0] [] [x, y, z] = [z, y, x] := rfl
theorem rp_two {a b g : Nat} (h : szOk a b g) : ReprOk (.list [.tuple [stD a b g, stD b a g], .tuple [stD a b g, stD b a g]]) := by
  obtain ⟨r1, d1, z1⟩ := st_rep h
  obtain ⟨r2, d2, z2⟩ := st_rep h.swap
  exact reprOk (by simp [repD, repDs, r1, r2]) (by simp [PyData.depth, PyData.depthAll, d1, d2]) (by simp [szD, szDs]; omega)
theorem F1_ok {p : Addr} {ga : List Dat} {part a b gr g : Nat} {gs : Sl} {y : Sl} {E : DEn} (h : szOk a b g) (hy : notIo (some y))
    (hk : ∀ y', notIo (some y') → E.nx [.io p ga, .sh (.int part), .sh (.int a), .sh (.int b), .sh (.int gr), gs, .sh (.int g), y']) :
    b__law_straight_right_F1 E [.io p ga, .sh (.int part), .sh (.int a), .sh (.int b), .sh (.int gr), gs, .sh (.int g), y] := by
  have h2 := h.swap
  obtain ⟨r1, d1, z1⟩ := st_rep h
  obtain ⟨r2, d2, z2⟩ := st_rep h2
  have ok : EqOk1 (.tuple [stD a b g, stD b a g]) (.tuple [.none, .none]) := by
    refine .inr ⟨?_, ?_, ?_⟩
    · simp [PyData.canLay0, PyData.canLayAll0, (repD_ok _ r1).1, (repD_ok _ r2).1]
    · simp [PyData.canLay0, PyData.canLayAll0]
    · simp [PyData.depth, PyData.depthAll, d1, d2]
  simp [b__law_straight_right_F1, ↓q_lst h, ↓q_lst h2, ↓gsel3, ↓q_pours h, ↓q_can2 h, rp_two h, hy]
  unfold fEq
  refine ⟨ok, ?_⟩
  have e : PyData.eqv (.tuple [stD a b g, stD b a g]) (.tuple [.none, .none]) = !byTap [a, b] g := by
    rw [← st_nones]; simp [PyData.eqv]
  rw [e]
  simp [EqOk1, eo_bool, PyData.eqv]
  exact hk _ trivial

theorem q_partL {Q : Sl → List (Addr × List Dat) → Prop} (a b : Nat) : sp__law_part [.sh (.int a), .sh (.int b)] Q = (b < B64 ∧ Q (.sh (.int (Nat.gcd a b))) []) := q_part a b
theorem lg3000 {i : Int} (h1 : 0 ≤ i) (h2 : i < 18446744073709551616) : i.natAbs.log2 < 3000 := by
  by_cases z : i.natAbs = 0
  · rw [z]; decide
  · rw [Nat.log2_lt z]
    have e : (18446744073709551616 : Nat) < 2 ^ 3000 := by decide +kernel
    omega
theorem div_bd {m c : Int} (h0 : 0 ≤ m) (hc : 0 < c) : 0 ≤ m / c ∧ m / c ≤ m ∧ c * (m / c) ≤ m := by
  refine ⟨Int.ediv_nonneg h0 (by omega), Int.ediv_le_self _ h0, ?_⟩
  have := Int.emod_nonneg m (show c ≠ 0 by omega)
  have := Int.emod_add_mul_ediv m c
  omega
theorem pure__law_straight_right : ∀ as QD, sp__law_straight_right as QD → as.length = 1 → b__law_straight_right (En QD) (as ++ List.replicate 7 .un) := by
  rintro _ QD ⟨p, g, n, rfl, hg, hq⟩ _
  simp [b__law_straight_right, ↓q_sz, ↓q_rand, ↓q_partL]
  refine ⟨n + 12, hg, fun a b g1 ha ha2 hb hb2 hg1 => ?_⟩
  have hbB : b < B64 := Nat.lt_trans hb2 (by decide)
  have haB : a < B64 := Nat.lt_trans ha2 (by decide)
  have hc : 0 < Nat.gcd a b := Nat.gcd_pos_of_pos_left b ha
  have hca : Nat.gcd a b ≤ a := Nat.gcd_le_left b ha
  have hcb : Nat.gcd a b ≤ b := Nat.gcd_le_right a hb
  have hl : (Nat.gcd a b).log2 < 9000 := log_B (gcd_lt (b := b) ha haB)
  obtain ⟨m, hm⟩ : ∃ m : Nat, (if b < a then (b : Int) else (a : Int)) = (m : Int) := by
    split <;> exact ⟨_, rfl⟩
  have hmle : m ≤ max a b := by split at hm <;> omega
  rw [hm]
  have hmx : max a b < 100000000000000000 := by omega
  have d1 := div_bd (m := ((max a b : Nat) : Int)) (c := ((Nat.gcd a b : Nat) : Int)) (by omega) (by omega)
  have d2 := div_bd (m := (m : Int)) (c := ((Nat.gcd a b : Nat) : Int)) (by omega) (by omega)
  refine ⟨hbB, ⟨.inl ha, hl⟩, by omega, lg3000 (by omega) (by omega), n + 11, hg1, fun r g2 r1 r2 hg2 => ?_⟩
  refine ⟨mulOk_l (by omega) (by omega), ⟨.inl ha, hl⟩, by omega, lg3000 (by omega) (by omega), n + 10, hg2, fun s g3 s1 s2 hg3 => ?_⟩
  refine ⟨mulOk_l (by omega) (by omega), lg3000 (by omega) (by omega), n + 9, hg3, fun u g4 u1 u2 hg4 => ?_⟩
  have er : ((Nat.gcd a b : Nat) : Int) * r ≤ max a b := Int.le_trans (Int.mul_le_mul_of_nonneg_left (by omega) (by omega)) d1.2.2
  have es : ((Nat.gcd a b : Nat) : Int) * s ≤ m := Int.le_trans (Int.mul_le_mul_of_nonneg_left (by omega) (by omega)) d2.2.2
  have pr : 0 ≤ ((Nat.gcd a b : Nat) : Int) * r := Int.mul_nonneg (by omega) (by omega)
  have ps : 0 ≤ ((Nat.gcd a b : Nat) : Int) * s := Int.mul_nonneg (by omega) (by omega)
  refine forW_inv (fun i ρ => ∃ x y : Sl, ρ = [.io p g4, .sh (.int (Nat.gcd a b)), .sh (.int a), .sh (.int b), .sh (.int (max a b : Nat)), _, x, y] ∧ notIo (some x) ∧ notIo (some y)) _ 0 _ ⟨.un, .un, rfl, trivial, trivial⟩ ?_ ?_
  · rintro i d ρ W he ⟨x, y, rfl, hx, hy⟩ hW
    obtain ⟨k, rfl, hk⟩ : ∃ k : Nat, d = .int k ∧ k < B64 := by
      have hd := List.mem_of_getElem? he
      have hB : B64 = 18446744073709551616 := rfl
      simp at hd
      rcases hd with rfl | rfl | rfl | rfl | rfl | rfl | rfl | rfl | rfl
      · exact ⟨0, rfl, by decide⟩
      · exact ⟨a, rfl, haB⟩
      · exact ⟨b, rfl, hbB⟩
      · exact ⟨_, rfl, by omega⟩
      · exact ⟨max a b - Nat.gcd a b, by congr 1; omega, by omega⟩
      · exact ⟨max a b + 1, rfl, by omega⟩
      · exact ⟨(((Nat.gcd a b : Nat) : Int) * r).toNat, by rw [Int.toNat_of_nonneg pr], by omega⟩
      · exact ⟨(((Nat.gcd a b : Nat) : Int) * s).toNat, by rw [Int.toNat_of_nonneg ps], by omega⟩
      · exact ⟨u.toNat, by rw [Int.toNat_of_nonneg u1], by omega⟩
    simp [hx]
    exact F1_ok ⟨ha, haB, hb, hbB, hk⟩ hy fun y' hy' => hW _ ⟨.sh (.int k), y', rfl, trivial, hy'⟩
  · rintro ρ ⟨x, y, rfl, hx, hy⟩
    simp [q_ios6 hx, q_ios6 hy]
    exact hq _ (hg4.le (by omega))

theorem rp_jugs {js : List Nat} (h : jugsOk js) : ReprOk (.list (js.map natD)) := by
  obtain ⟨_, hl, hb⟩ := h
  have h1 : ∀ x ∈ js.map natD, repE x = true ∧ szE x ≤ 601 := by
    intro x hx
    obtain ⟨j, hj, rfl⟩ := List.mem_map.mp hx
    have : j < 18446744073709551616 := (hb j hj).2
    exact ⟨by simp only [repE, natD]; exact decide_eq_true (log_1920 (by omega) (by omega)), by simp [natD, szE]⟩
  have h2 := szEs_le (b := 601) fun x hx => (h1 x hx).2
  rw [List.length_map] at h2
  have h3 : PyData.depthAll (js.map natD) = 0 := (nats_lay js).2
  exact reprOkE (by simp only [repE]; exact repEs_iff.mpr fun x hx => (h1 x hx).1) (by simp [PyData.depth, h3]) (by simp only [szE]; omega)
theorem gcdL_take {js : List Nat} {j : Nat} {i : Nat} (h : js[i]? = some j) : gcdL (js.take (i + 1)) = Nat.gcd j (gcdL (js.take i)) := by
  rw [List.take_add_one, h]
  simp [gcdL]
theorem gcdL_le : ∀ {js : List Nat} (f : Nat), (∀ j ∈ js, 0 < j ∧ j < B64) → f < B64 → js.foldl (fun f s => Nat.gcd s f) f < B64
  | [], f, _, h => h
  | j :: js, f, hp, _ => gcdL_le (js := js) (Nat.gcd j f) (fun x hx => hp x (List.mem_cons_of_mem _ hx)) (Nat.lt_of_le_of_lt (Nat.gcd_le_left f (hp j List.mem_cons_self).1) (hp j List.mem_cons_self).2)
theorem gsel2k {x y : Dat} : gsel 0 2 [1, 0] [] [x, y] = [y, x] := rfl
section
variable {Q : Sl → List (Addr × List Dat) → Prop} {js : List Nat} {g : Nat}
theorem q_can (h : jugsOk js) : sp_can_by_tap [.sh (.list (js.map natD)), .sh (.int g)] Q = Q (.sh (.bool (byTap js g))) [] := q_tap h
theorem jd {a b : List Sl} {js ks : List Nat} {g k : Nat} (e : [Sl.sh (.list (js.map natD)), .sh (.int g)] ++ a = [Sl.sh (jugsD ks), .sh (.int k)] ++ b) : js = ks ∧ g = k ∧ a = b := by
  simp [jugsD] at e
  exact ⟨jugs_inj e.1, by omega, e.2.2⟩
theorem q_paperT (h : jugsOk js) : sp_tap_paper [.sh (.list (js.map natD)), .sh (.int g)] Q = Q (.sh (paperD js g)) [] := by
  apply propext
  constructor
  · rintro ⟨x, y, e, _, q⟩
    obtain ⟨rfl, rfl, _⟩ := jd (a := []) (b := []) (by simpa using e)
    exact q
  · intro q; exact ⟨js, g, rfl, h, q⟩
theorem q_isPaper (h : jugsOk js) (v : Dat) : sp_is_tap_paper [.sh (.list (js.map natD)), .sh (.int g), .sh v] Q = Q (.sh (.bool (tapJ js g v))) [] := by
  apply propext
  constructor
  · rintro ⟨x, y, z, e, _, q⟩
    obtain ⟨rfl, rfl, e⟩ := jd (a := [.sh v]) (b := [.sh z]) (by simpa using e)
    cases e
    exact q
  · intro q; exact ⟨js, g, v, rfl, h, q⟩
theorem q_lawPaper (h : jugsOk js) (v : Dat) : sp__law_is_paper [.sh (.list (js.map natD)), .sh (.int g), .sh v] Q = Q (.sh (.bool (tapJ js g v))) [] := q_isPaper h v
end
theorem rpB2 {a b : Bool} : ReprOk (.list [.bool a, .bool b]) := reprOkE (by simp [repE, repEs]) (by simp [PyData.depth, PyData.depthAll]) (by simp [szE, szEs])
theorem paper_rep {js : List Nat} {g : Nat} (h : jugsOk js) : ReprOk (paperD js g) := by
  have h1 : maxL js < 18446744073709551616 := (h.2.2 _ (maxL_mem h.1)).2
  have h2 : gcdL js < 18446744073709551616 := gcdL_le 0 h.2.2 (by decide)
  have h3 : js.headD 0 < 18446744073709551616 := by
    cases js with
    | nil => exact absurd rfl h.1
    | cons j js => exact (h.2.2 j List.mem_cons_self).2
  have key : ∀ (w : Str) (m : Nat), okS w = true → w.length ≤ 10 → m < 18446744073709551616 → ReprOk (.tuple [.str w, .int m]) := by
    intro w m hw hl hm
    have := log_1920 (i := (m : Int)) (by omega) (by omega)
    exact reprOkE (by simp [repE, repEs, hw]; simpa using this) (by simp [PyData.depth, PyData.depthAll]) (by simp [szE, szEs]; omega)
  unfold paperD
  split
  · exact reprOkE (by simp [repE]) (by simp [PyData.depth]) (by simp [szE])
  · split
    · exact key _ _ (by decide +kernel) (by decide +kernel) h1
    · split
      · exact key _ _ (by decide +kernel) (by decide +kernel) h3
      · exact key _ _ (by decide +kernel) (by decide +kernel) h2
theorem paper_none {js : List Nat} {g : Nat} : isD (paperD js g) .none = some (byTap js g) := by
  unfold paperD
  by_cases h : byTap js g = true
  · rw [if_pos h, h]; rfl
  · rw [if_neg h]
    have h' : byTap js g = false := by simpa using h
    rw [h']
    split
    · rfl
    · split <;> rfl
theorem gcdL_dvd : ∀ {js : List Nat} (f : Nat), (js.foldl (fun f s => Nat.gcd s f) f ∣ f) ∧ ∀ j ∈ js, js.foldl (fun f s => Nat.gcd s f) f ∣ j
  | [], f => ⟨Nat.dvd_refl _, by simp⟩
  | j :: js, f => by
    obtain ⟨h1, h2⟩ := gcdL_dvd (js := js) (Nat.gcd j f)
    refine ⟨Nat.dvd_trans h1 (Nat.gcd_dvd_right j f), fun x hx => ?_⟩
    rcases List.mem_cons.mp hx with rfl | hx
    · exact Nat.dvd_trans h1 (Nat.gcd_dvd_left _ f)
    · exact h2 x hx
theorem paper_good {js : List Nat} {g : Nat} (h : jugsOk js) (hb : byTap js g = false) : tapJ js g (paperD js g) = true := by
  have hm := maxL_pos h
  have hg : 0 < gcdL js := gcdL_pos 0 (.inl h.1) fun j hj => (h.2.2 j hj).1
  unfold paperD
  rw [if_neg (by rw [hb]; decide)]
  by_cases h1 : maxL js < g
  · rw [if_pos h1]
    show tapN js g "great" _ = true
    unfold tapN
    rw [if_neg (by omega), if_pos rfl]
    simp; omega
  · rw [if_neg h1]
    by_cases h2 : js.length = 1
    · rw [if_pos h2]
      obtain ⟨j, rfl⟩ := List.length_eq_one_iff.mp h2
      have hj := (h.2.2 j List.mem_cons_self).1
      show tapN [j] g "single" (j : Int) = true
      unfold tapN
      rw [if_neg (by omega), if_neg (by decide), if_pos rfl]
      simp [byTap] at hb ⊢
      omega
    · rw [if_neg h2]
      show tapN js g "common" _ = true
      unfold tapN
      rw [if_neg (by omega), if_neg (by decide), if_neg (by decide)]
      unfold byTap at hb
      rw [if_neg h2] at hb
      have e : decide (g ≤ maxL js) = true := decide_eq_true (by omega)
      rw [e] at hb
      have hng : ¬ g % gcdL js = 0 := by simpa using hb
      have hd : ∀ j ∈ js, gcdL js ∣ j := (gcdL_dvd (js := js) 0).2
      simp
      refine ⟨fun j hj => ?_, by omega⟩
      exact Int.emod_eq_zero_of_dvd (Int.ofNat_dvd.mpr (hd j hj))
theorem rpD2 {x : Dat} : rpD 2 [x] = [x, x] := rfl
theorem q_paperIs {k : Sl → Prop} {js : List Nat} {g : Nat} : fIs (paperD js g) .none k = k (.sh (.bool (byTap js g))) := by
  unfold fIs
  simp [paper_none]
theorem q_paperIsN {k : Sl → Prop} {js : List Nat} {g : Nat} : fIsN (paperD js g) .none k = k (.sh (.bool (!byTap js g))) := by
  unfold fIsN
  simp [paper_none]
@[simp ↓] theorem q_neB {k : Sl → Prop} (a b : Bool) : fNe (.bool a) (.bool b) k = k (.sh (.bool (!(a == b)))) := by
  unfold fNe
  simp [EqOk1, eo_bool, PyData.eqv]
theorem F5_loop {p : Addr} {ga : List Dat} {t pt g : Nat} {js : List Nat} {kp x5 y7 y8 y9 : Sl} {E : DEn} (h : jugsOk js) (items : List Dat) 
    (hk : ∀ y10, notIo (some y10) → E.nx [.io p ga, .sh (.int t), .sh (.list (js.map natD)), .sh (.int pt), kp, x5, .sh (.int g), y7, y8, y9, y10]) (y10 : Sl) (h10 : notIo (some y10)) :
    forW (gN 10) b__law_tap_right_F5 E items [.io p ga, .sh (.int t), .sh (.list (js.map natD)), .sh (.int pt), kp, x5, .sh (.int g), y7, y8, y9, y10] := by
  refine forW_inv (fun i ρ => ∃ y10 : Sl, ρ = [.io p ga, .sh (.int t), .sh (.list (js.map natD)), .sh (.int pt), kp, x5, .sh (.int g), y7, y8, y9, y10] ∧ notIo (some y10)) _ 0 _ ⟨y10, rfl, h10⟩ ?_ ?_
  · rintro i d ρ W he ⟨z, rfl, hz⟩ hW
    simp [b__law_tap_right_F5, hz, ↓q_isPaper h, ↓q_lawPaper h, ↓gsel3, rpB2, rpD2]
    exact hW _ ⟨_, rfl, trivial⟩
  · rintro ρ ⟨z, rfl, hz⟩
    exact hk z hz
theorem log_1920n {m : Nat} (h : m < 18446744073709551616) : m.log2 < 1920 := by
  have := log_1920 (i := (m : Int)) (by omega) (by omega)
  simpa using this
theorem F6_ok {p : Addr} {ga : List Dat} {t pt g : Nat} {js : List Nat} {kp x5 y7 y8 y9 y10 : Sl} {E : DEn} (h : jugsOk js) (hgB : g < B64) (ept : pt = gcdL js) (h7 : notIo (some y7)) (h8 : notIo (some y8)) (h9 : notIo (some y9)) (h10 : notIo (some y10))
    (hk : ∀ y7 y8 y9 y10, notIo (some y7) → notIo (some y8) → notIo (some y9) → notIo (some y10) → E.nx [.io p ga, .sh (.int t), .sh (.list (js.map natD)), .sh (.int pt), kp, x5, .sh (.int g), y7, y8, y9, y10]) :
    b__law_tap_right_F6 E [.io p ga, .sh (.int t), .sh (.list (js.map natD)), .sh (.int pt), kp, x5, .sh (.int g), y7, y8, y9, y10] := by
  have hgc : 0 < gcdL js := gcdL_pos 0 (.inl h.1) fun j hj => (h.2.2 j hj).1
  have hp : gcdL js < 18446744073709551616 := gcdL_le 0 h.2.2 (by decide)
  subst ept
  have can : ∀ k : Sl → Ev → Prop, k (.sh (.bool (byTap js g))) [.io p ga, .sh (.int t), .sh (.list (js.map natD)), .sh (.int (gcdL js)), kp, x5, .sh (.int g), y7, y8, y9, y10] → (dIf (tVal (dBin fEq (oExp (dCall fLen (aCons (oVar 2) (aNil)))) (oExp (dC (.int 1))))) (dBin fIn (oVar 6) (oExp (dTup (fCons (dC (.int 0)) (fCons (dBin fIx (oVar 2) (oExp (dC (.int 0)))) (fNil)))))) (dAnd (dBin (fOrd pLe) (oVar 6) (oExp (dCall fMax (aCons (oVar 2) (aNil))))) (dBin fEq (oExp (dBin fMod (oExp (dCall fInt (aCons (oVar 6) (aNil)))) (oVar 3))) (oExp (dC (.int 0)))))) [.io p ga, .sh (.int t), .sh (.list (js.map natD)), .sh (.int (gcdL js)), kp, x5, .sh (.int g), y7, y8, y9, y10] k := by
    intro k hk
    unfold byTap at hk
    simp [↓q_maxN h.1, ↓q_at0 h.1, hgc]
    by_cases h1 : js.length = 1
    · rw [if_pos h1] at hk
      obtain ⟨j, rfl⟩ := List.length_eq_one_iff.mp h1
      rw [if_pos (by simp)]
      have e : (decide ((0 : Int) = (g : Int)) || decide ((([j].head?.getD 0 : Nat) : Int) = (g : Int))) = (decide (g = 0) || decide (g = [j].headD 0)) := by
        have : [j].head?.getD 0 = j := rfl
        rw [this, Bool.eq_iff_iff]
        simp; omega
      rw [← e] at hk
      exact hk
    · rw [if_neg h1] at hk
      rw [if_neg (by omega)]
      by_cases h2 : g ≤ maxL js
      · have e3 : decide ((g : Int) % (gcdL js : Int) = 0) = decide (g % gcdL js = 0) := by rw [Bool.eq_iff_iff]; simp; omega
        simp [h2] at hk ⊢
        rw [e3]
        exact hk
      · simp [h2] at hk ⊢
        exact hk
  unfold b__law_tap_right_F6
  rw [q_sSeq, q_sSet]
  refine can _ ?_
  cases hb : byTap js g with
  | true =>
    simp [↓q_paperT h, ↓q_can h, ↓gsel2k, rpB2, paper_rep h, h7, h8, h9, h10, ↓q_maxN h.1, ↓q_at0 h.1, ↓q_paperIs, ↓q_paperIsN, hb, ↓q_lawPaper h]
    unfold fStr
    simp [log_1920n hp]
    refine ⟨mulOk_l (by decide) (by decide), ?_⟩
    refine F5_loop h _ (fun z hz => ?_) _ h10
    exact hk _ _ _ _ trivial trivial trivial hz
  | false =>
    have hgood := paper_good h hb
    simp [↓q_paperT h, ↓q_can h, ↓gsel2k, rpB2, paper_rep h, h7, h8, h9, h10, ↓q_maxN h.1, ↓q_at0 h.1, ↓q_paperIs, ↓q_paperIsN, hb, ↓q_lawPaper h, hgood]
    unfold fStr
    simp [log_1920n hp]
    refine ⟨mulOk_l (by decide) (by decide), ?_⟩
    refine F5_loop h _ (fun z hz => ?_) _ h10
    exact hk _ _ _ _ trivial trivial trivial hz
theorem pure__law_tap_right : ∀ as QD, sp__law_tap_right as QD → as.length = 1 → b__law_tap_right (En QD) (as ++ List.replicate 10 .un) := by
  rintro _ QD ⟨p, g, n, rfl, hg, hq⟩ _
  simp [b__law_tap_right, ↓q_rand, ↓q_pickL, -List.mem_cons]
  refine ⟨by decide, n + 29, hg, fun d g1 hd hg1 => ?_⟩
  obtain ⟨t, rfl, t1, t2⟩ : ∃ t : Nat, d = .int t ∧ 0 < t ∧ t ≤ 1000000 := by
    simp at hd
    rcases hd with rfl | rfl | rfl | rfl | rfl
    · exact ⟨1, rfl, by decide, by decide⟩
    · exact ⟨2, rfl, by decide, by decide⟩
    · exact ⟨6, rfl, by decide, by decide⟩
    · exact ⟨12, rfl, by decide, by decide⟩
    · exact ⟨1000000, rfl, by decide, by decide⟩
  refine ⟨by decide, n + 28, hg1, fun r g2 r1 r2 hg2 => ⟨⟨by omega, by omega⟩, ?_⟩⟩
  refine lcW_inv (fun i ρ acc => ∃ (g' : List Dat) (js : List Nat), ρ = [.io p g', .sh (.int t), .un, .un, .un, .un, .un, .un, .un, .un, .un] ∧ acc = js.map natD ∧ js.length = i ∧ (∀ j ∈ js, 0 < j ∧ j ≤ 100000000000) ∧ gOk (n + 28 - 2 * i) g') _ 0 _ _ ⟨g2, [], rfl, rfl, rfl, by simp, hg2⟩ ?_ ?_
  · rintro i d ρ acc W he ⟨g', js, rfl, rfl, hl, hj, hg'⟩ hW
    obtain ⟨rfl, hi⟩ := rgD_mem he
    have hi5 : i < 5 := by omega
    simp [b__law_tap_right_g1, b__law_tap_right_t2, b__law_tap_right_e3, ↓q_rand, ↓q_pickL, -List.mem_cons]
    refine ⟨by decide, n + 28 - 2 * i - 1, hg'.le (by omega), fun d ga hd hga => ?_⟩
    obtain ⟨c, rfl, c1, c2⟩ : ∃ c : Nat, d = .int c ∧ 0 < c ∧ c ≤ 100000 := by
      simp at hd
      rcases hd with rfl | rfl | rfl
      · exact ⟨9, rfl, by decide, by decide⟩
      · exact ⟨40, rfl, by decide, by decide⟩
      · exact ⟨100000, rfl, by decide, by decide⟩
    simp [↓q_rand]
    refine ⟨c1, by have := lg3000 (i := (c : Int)) (by omega) (by omega); simpa using this, n + 28 - 2 * (i + 1), hga.le (by omega), fun s gb s1 s2 hgb => ?_⟩
    obtain ⟨s, rfl⟩ := Int.eq_ofNat_of_zero_le s1
    have e : (t : Int) * (1 + (s : Int)) = ((t * (1 + s) : Nat) : Int) := by simp
    refine ⟨mulOk_l (by omega) (by omega), ?_, ?_⟩
    · have : (1000000 : Nat) ≤ sizeLine := by decide
      omega
    · refine hW _ _ ⟨gb, js ++ [t * (1 + s)], rfl, ?_, ?_, ?_, by simpa using hgb⟩
      · simp [natD]
      · simp; omega
      · intro j hj2
        rcases List.mem_append.mp hj2 with h | h
        · exact hj j h
        · obtain rfl : j = t * (1 + s) := by simpa using h
          refine ⟨Nat.mul_pos t1 (by omega), ?_⟩
          have := Nat.mul_le_mul t2 (show 1 + s ≤ 100000 by omega)
          omega
  · rintro ρ acc ⟨g3, js, rfl, rfl, hl, hj, hg3⟩
    rw [rgD_len] at hl hg3
    have hl1 : 1 ≤ js.length := by omega
    have hl5 : js.length ≤ 5 := by omega
    have hne : js ≠ [] := by intro z; rw [z] at hl1; simp at hl1
    have ok : jugsOk js := ⟨hne, by omega, fun j h => ⟨(hj j h).1, Nat.lt_of_le_of_lt (hj j h).2 (by decide)⟩⟩
    have rp := rp_jugs ok
    have hmx : maxL js ≤ 100000000000 := (hj _ (maxL_mem hne)).2
    have hmp := maxL_pos ok
    have hg1 := gcdL_pos 0 (.inl hne) fun j hj => (ok.2.2 j hj).1
    have hg1 : 0 < gcdL js := hg1
    have hgB : gcdL js < B64 := gcdL_le 0 ok.2.2 (by decide)
    simp [↓rp]
    refine forW_inv (fun i ρ => ∃ x : Sl, ρ = [.io p g3, .sh (.int t), .sh (.list (js.map natD)), .sh (.int (gcdL (js.take i))), .sh (.str (PyData.list (js.map natD)).shown), x, .un, .un, .un, .un, .un] ∧ notIo (some x)) _ 0 _ ⟨.un, rfl, trivial⟩ ?_ ?_
    · rintro i d ρ W he ⟨x, rfl, hx⟩ hW
      rw [List.getElem?_map] at he
      obtain ⟨j, hj2, rfl⟩ := Option.map_eq_some_iff.mp he
      have hB := gcdL_le (js := js.take (0 + i)) 0 (fun j h => ok.2.2 j (List.mem_of_mem_take h)) (by decide)
      have hB : gcdL (js.take (0 + i)) < B64 := hB
      simp [b__law_tap_right_F4, hx, natD, ↓q_partL]
      refine ⟨by simpa using hB, hW _ ⟨.sh (.int j), ?_, trivial⟩⟩
      rw [Nat.zero_add, gcdL_take hj2]
    · rintro ρ ⟨x, rfl, hx⟩
      rw [List.length_map, Nat.zero_add, List.take_length]
      simp [↓q_maxN hne, ↓q_at0 hne, ↓q_rand, hg1]
      have d1 := div_bd (m := ((maxL js : Nat) : Int)) (c := ((gcdL js : Nat) : Int)) (by omega) (by omega)
      have hgm : gcdL js ≤ maxL js := Nat.le_of_dvd hmp ((gcdL_dvd (js := js) 0).2 _ (maxL_mem hne))
      have hhd : js.headD 0 ≤ maxL js := by
        cases js with
        | nil => exact absurd rfl hne
        | cons j js => exact maxL_le j List.mem_cons_self
      have ehd : js.head?.getD 0 = js.headD 0 := by cases js <;> rfl
      refine ⟨by have := log_1920n (m := gcdL js) (by omega); omega, by omega, lg3000 (by omega) (by omega), n + 2, hg3.le (by omega), fun r g4 r1 r2 hg4 => ?_⟩
      have er : ((gcdL js : Nat) : Int) * r ≤ maxL js := Int.le_trans (Int.mul_le_mul_of_nonneg_left (by omega) (by omega)) d1.2.2
      have pr : 0 ≤ ((gcdL js : Nat) : Int) * r := Int.mul_nonneg (by omega) (by omega)
      refine ⟨mulOk_l (by omega) (by omega), by omega, lg3000 (by omega) (by omega), n + 1, hg4, fun u g5 u1 u2 hg5 => ⟨by decide +kernel, ?_⟩⟩
      refine forW_inv (fun i ρ => ∃ y6 y7 y8 y9 y10 : Sl, ρ = [.io p g5, .sh (.int t), .sh (.list (js.map natD)), .sh (.int (gcdL js)), .sh (.str (PyData.list (js.map natD)).shown), x, y6, y7, y8, y9, y10] ∧ notIo (some y6) ∧ notIo (some y7) ∧ notIo (some y8) ∧ notIo (some y9) ∧ notIo (some y10)) _ 0 _ ⟨_, _, _, _, _, rfl, trivial, trivial, trivial, trivial, trivial⟩ ?_ ?_
      · rintro i d ρ W he ⟨y6, y7, y8, y9, y10, rfl, h6, h7, h8, h9, h10⟩ hW
        obtain ⟨k, rfl, hk⟩ : ∃ k : Nat, d = .int k ∧ k < B64 := by
          have hd := List.mem_of_getElem? he
          have hB : B64 = 18446744073709551616 := rfl
          simp at hd
          rcases hd with rfl | rfl | rfl | rfl | rfl | rfl | rfl | rfl
          · exact ⟨0, rfl, by decide⟩
          · exact ⟨_, rfl, by omega⟩
          · exact ⟨maxL js + gcdL js, rfl, by omega⟩
          · exact ⟨_, rfl, by omega⟩
          · exact ⟨(((gcdL js : Nat) : Int) * r).toNat, by rw [Int.toNat_of_nonneg pr], by omega⟩
          · exact ⟨u.toNat, by rw [Int.toNat_of_nonneg u1], by omega⟩
          · exact ⟨gcdL js + 1, rfl, by omega⟩
          · exact ⟨999999999999, rfl, by decide⟩
        simp [h6]
        exact F6_ok ok hk rfl h7 h8 h9 h10 fun a b c d ha hb hc hd => hW _ ⟨_, a, b, c, d, rfl, trivial, ha, hb, hc, hd⟩
      · rintro ρ ⟨y6, y7, y8, y9, y10, rfl, h6, h7, h8, h9, h10⟩
        simp [↓rp, q_ios6 h6, q_ios6 h7, q_ios6 h8, q_ios6 h9, q_ios6 h10, q_ios6 hx]
        exact hq _ (hg5.le (by omega))

section
variable {Q : Sl → List (Addr × List Dat) → Prop}
theorem q_sright (p : Addr) (g : List Dat) : sp__law_straight_right [.io p g] Q = ∃ n, gOk (n + 20) g ∧ ∀ g', gOk n g' → Q (.sh (.bool true)) [(p, g')] := by
  apply propext
  constructor
  · rintro ⟨_, _, n, e, h⟩; cases e; exact ⟨n, h⟩
  · rintro ⟨n, h⟩; exact ⟨_, _, n, rfl, h⟩
theorem q_tright (p : Addr) (g : List Dat) : sp__law_tap_right [.io p g] Q = ∃ n, gOk (n + 30) g ∧ ∀ g', gOk n g' → Q (.sh (.bool true)) [(p, g')] := by
  apply propext
  constructor
  · rintro ⟨_, _, n, e, h⟩; cases e; exact ⟨n, h⟩
  · rintro ⟨n, h⟩; exact ⟨_, _, n, rfl, h⟩
end
theorem pure_law : ∀ as QD, sp_law as QD → as.length = 1 → b_law (En QD) (as ++ List.replicate 2 .un) := by
  rintro _ QD ⟨ns, rfl, hl, hq⟩ _
  simp [b_law]
  refine forW_inv (fun i ρ => ∃ u v : Sl, ρ = [.sh (.list (ns.map .int)), u, v] ∧ notIo (some u) ∧ notIo (some v)) _ 0 _ ⟨.un, .un, rfl, trivial, trivial⟩ ?_ ?_
  · rintro i d ρ W he ⟨u, v, rfl, hu, hv⟩ hW
    obtain ⟨rfl, hi⟩ := rgD_mem he
    simp [b_law_F1, ↓q_gen, ↓q_sright, ↓q_tright, hu, hv]
    refine ⟨by omega, fun g hg => ⟨999900, hg.le (by omega), fun g1 hg1 => ⟨999800, hg1.le (by omega), fun g2 hg2 => ⟨999700, hg2.le (by omega), fun g3 hg3 => ?_⟩⟩⟩⟩
    exact hW _ ⟨_, _, rfl, trivial, trivial⟩
  · rintro ρ ⟨u, v, rfl, hu, hv⟩
    simp [q_ios6 hu, q_ios6 hv]
    exact hq

def topS (i : Nat) : Stmt := PySem.Challenge.pw_lonehall_k20_whole_straight_on_with_grea.main.body.getD i (.Pass ⟨0, 0, 0, 0⟩)
abbrev s__law_cell : Stmt := topS 24
abbrev N__law_cell : List Str := ["script", "index"]
theorem sc__law_cell : FnScope N__law_cell ["script", "index"] (defScope s__law_cell) := ⟨rfl, rfl, rfl, by decide +kernel, rfl, by decide +kernel, by decide +kernel⟩
abbrev s__law_generator : Stmt := topS 26
abbrev N__law_generator : List Str := ["script", "index", "seed"]
theorem sc__law_generator : FnScope N__law_generator ["script", "index"] (defScope s__law_generator) := ⟨rfl, rfl, rfl, by decide +kernel, rfl, by decide +kernel, by decide +kernel⟩
abbrev s__law_hash : Stmt := topS 25
abbrev N__law_hash : List Str := ["seed", "index", "mixed"]
theorem sc__law_hash : FnScope N__law_hash ["seed", "index"] (defScope s__law_hash) := ⟨rfl, rfl, rfl, by decide +kernel, rfl, by decide +kernel, by decide +kernel⟩
abbrev s__law_random : Stmt := topS 27
abbrev N__law_random : List Str := ["generator", "bound", "drawn", "turn"]
theorem sc__law_random : FnScope N__law_random ["generator", "bound"] (defScope s__law_random) := ⟨rfl, rfl, rfl, by decide +kernel, rfl, by decide +kernel, by decide +kernel⟩
abbrev s__law_pick : Stmt := topS 28
abbrev N__law_pick : List Str := ["generator", "things"]
theorem sc__law_pick : FnScope N__law_pick ["generator", "things"] (defScope s__law_pick) := ⟨rfl, rfl, rfl, by decide +kernel, rfl, by decide +kernel, by decide +kernel⟩
abbrev s__law_drawn : Stmt := topS 29
abbrev N__law_drawn : List Str := ["generator", "things", "left", "found", "thing"]
theorem sc__law_drawn : FnScope N__law_drawn ["generator", "things"] (defScope s__law_drawn) := ⟨rfl, rfl, rfl, by decide +kernel, rfl, by decide +kernel, by decide +kernel⟩
abbrev s__law_sizes : Stmt := topS 33
abbrev N__law_sizes : List Str := ["generator", "way", "part", "one", "other", "fibs", "turn", "at", "pair"]
theorem sc__law_sizes : FnScope N__law_sizes ["generator"] (defScope s__law_sizes) := ⟨rfl, rfl, rfl, by decide +kernel, rfl, by decide +kernel, by decide +kernel⟩
abbrev s__law_part : Stmt := topS 30
abbrev N__law_part : List Str := ["one", "other", "left", "more", "turn"]
theorem sc__law_part : FnScope N__law_part ["one", "other"] (defScope s__law_part) := ⟨rfl, rfl, rfl, by decide +kernel, rfl, by decide +kernel, by decide +kernel⟩
abbrev s__law_inverse : Stmt := topS 31
abbrev N__law_inverse : List Str := ["number", "most", "one", "other", "left", "right", "turn", "part"]
theorem sc__law_inverse : FnScope N__law_inverse ["number", "most"] (defScope s__law_inverse) := ⟨rfl, rfl, rfl, by decide +kernel, rfl, by decide +kernel, by decide +kernel⟩
abbrev s__law_straight : Stmt := topS 32
abbrev N__law_straight : List Str := ["one", "other", "goal", "part", "wide", "fills", "emptied"]
theorem sc__law_straight : FnScope N__law_straight ["one", "other", "goal"] (defScope s__law_straight) := ⟨rfl, rfl, rfl, by decide +kernel, rfl, by decide +kernel, by decide +kernel⟩
abbrev s_is_whole : Stmt := topS 5
abbrev N_is_whole : List Str := ["value"]
theorem sc_is_whole : FnScope N_is_whole ["value"] (defScope s_is_whole) := ⟨rfl, rfl, rfl, by decide +kernel, rfl, by decide +kernel, by decide +kernel⟩
abbrev s_are_jugs : Stmt := topS 11
abbrev N_are_jugs : List Str := ["value", "size"]
theorem sc_are_jugs : FnScope N_are_jugs ["value"] (defScope s_are_jugs) := ⟨rfl, rfl, rfl, by decide +kernel, rfl, by decide +kernel, by decide +kernel⟩
abbrev s_check_jugs : Stmt := topS 12
abbrev N_check_jugs : List Str := ["jugs"]
theorem sc_check_jugs : FnScope N_check_jugs ["jugs"] (defScope s_check_jugs) := ⟨rfl, rfl, rfl, by decide +kernel, rfl, by decide +kernel, by decide +kernel⟩
abbrev s_is_count : Stmt := topS 6
abbrev N_is_count : List Str := ["value"]
theorem sc_is_count : FnScope N_is_count ["value"] (defScope s_is_count) := ⟨rfl, rfl, rfl, by decide +kernel, rfl, by decide +kernel, by decide +kernel⟩
abbrev s_check_number : Stmt := topS 7
abbrev N_check_number : List Str := ["value"]
theorem sc_check_number : FnScope N_check_number ["value"] (defScope s_check_number) := ⟨rfl, rfl, rfl, by decide +kernel, rfl, by decide +kernel, by decide +kernel⟩
abbrev s_check_sizes : Stmt := topS 15
abbrev N_check_sizes : List Str := ["jugs", "goal"]
theorem sc_check_sizes : FnScope N_check_sizes ["jugs", "goal"] (defScope s_check_sizes) := ⟨rfl, rfl, rfl, by decide +kernel, rfl, by decide +kernel, by decide +kernel⟩
abbrev s_common_of : Stmt := topS 9
abbrev N_common_of : List Str := ["one", "other"]
theorem sc_common_of : FnScope N_common_of ["one", "other"] (defScope s_common_of) := ⟨rfl, rfl, rfl, by decide +kernel, rfl, by decide +kernel, by decide +kernel⟩
abbrev s_common_of_sizes : Stmt := topS 14
abbrev N_common_of_sizes : List Str := ["jugs", "found", "size"]
theorem sc_common_of_sizes : FnScope N_common_of_sizes ["jugs"] (defScope s_common_of_sizes) := ⟨rfl, rfl, rfl, by decide +kernel, rfl, by decide +kernel, by decide +kernel⟩
abbrev s_is_by_tap : Stmt := topS 16
abbrev N_is_by_tap : List Str := ["jugs", "goal"]
theorem sc_is_by_tap : FnScope N_is_by_tap ["jugs", "goal"] (defScope s_is_by_tap) := ⟨rfl, rfl, rfl, by decide +kernel, rfl, by decide +kernel, by decide +kernel⟩
abbrev s_can_by_tap : Stmt := topS 17
abbrev N_can_by_tap : List Str := ["jugs", "goal"]
theorem sc_can_by_tap : FnScope N_can_by_tap ["jugs", "goal"] (defScope s_can_by_tap) := ⟨rfl, rfl, rfl, by decide +kernel, rfl, by decide +kernel, by decide +kernel⟩
abbrev s_turned_back : Stmt := topS 20
abbrev N_turned_back : List Str := ["number", "modulus", "low", "high", "first", "second", "times"]
theorem sc_turned_back : FnScope N_turned_back ["number", "modulus"] (defScope s_turned_back) := ⟨rfl, rfl, rfl, by decide +kernel, rfl, by decide +kernel, by decide +kernel⟩
abbrev s_straight_from : Stmt := topS 21
abbrev N_straight_from : List Str := ["one", "other", "goal", "common", "rounds", "fills", "empties", "early"]
theorem sc_straight_from : FnScope N_straight_from ["one", "other", "goal"] (defScope s_straight_from) := ⟨rfl, rfl, rfl, by decide +kernel, rfl, by decide +kernel, by decide +kernel⟩
abbrev s_straight_pours : Stmt := topS 22
abbrev N_straight_pours : List Str := ["one", "other", "goal", "size"]
theorem sc_straight_pours : FnScope N_straight_pours ["one", "other", "goal"] (defScope s_straight_pours) := ⟨rfl, rfl, rfl, by decide +kernel, rfl, by decide +kernel, by decide +kernel⟩
abbrev s__law_straight_right : Stmt := topS 34
abbrev N__law_straight_right : List Str := ["generator", "part", "one", "other", "great", "goals", "goal", "due"]
theorem sc__law_straight_right : FnScope N__law_straight_right ["generator"] (defScope s__law_straight_right) := ⟨rfl, rfl, rfl, by decide +kernel, rfl, by decide +kernel, by decide +kernel⟩
abbrev s_tap_paper : Stmt := topS 18
abbrev N_tap_paper : List Str := ["jugs", "goal"]
theorem sc_tap_paper : FnScope N_tap_paper ["jugs", "goal"] (defScope s_tap_paper) := ⟨rfl, rfl, rfl, by decide +kernel, rfl, by decide +kernel, by decide +kernel⟩
abbrev s__law_is_paper : Stmt := topS 35
abbrev N__law_is_paper : List Str := ["jugs", "goal", "value", "word", "number", "jug"]
theorem sc__law_is_paper : FnScope N__law_is_paper ["jugs", "goal", "value"] (defScope s__law_is_paper) := ⟨rfl, rfl, rfl, by decide +kernel, rfl, by decide +kernel, by decide +kernel⟩
abbrev s_is_tap_paper : Stmt := topS 19
abbrev N_is_tap_paper : List Str := ["jugs", "goal", "value", "kind", "number", "size"]
theorem sc_is_tap_paper : FnScope N_is_tap_paper ["jugs", "goal", "value"] (defScope s_is_tap_paper) := ⟨rfl, rfl, rfl, by decide +kernel, rfl, by decide +kernel, by decide +kernel⟩
abbrev s__law_tap_right : Stmt := topS 36
abbrev N__law_tap_right : List Str := ["generator", "base", "jugs", "part", "kept", "jug", "goal", "can", "paper", "odd", "value"]
theorem sc__law_tap_right : FnScope N__law_tap_right ["generator"] (defScope s__law_tap_right) := ⟨rfl, rfl, rfl, by decide +kernel, rfl, by decide +kernel, by decide +kernel⟩
abbrev s_law : Stmt := topS 37
abbrev N_law : List Str := ["script", "index", "generator"]
theorem sc_law : FnScope N_law ["script"] (defScope s_law) := ⟨rfl, rfl, rfl, by decide +kernel, rfl, by decide +kernel, by decide +kernel⟩
theorem bt_abs : bootBuiltins "abs" = some (.builtin "abs") := by decide +kernel
theorem bt_all : bootBuiltins "all" = some (.builtin "all") := by decide +kernel
theorem bt_bool : bootBuiltins "bool" = some (.type "bool") := by decide +kernel
theorem bt_int : bootBuiltins "int" = some (.type "int") := by decide +kernel
theorem bt_isinstance : bootBuiltins "isinstance" = some (.builtin "isinstance") := by decide +kernel
theorem bt_len : bootBuiltins "len" = some (.builtin "len") := by decide +kernel
theorem bt_list : bootBuiltins "list" = some (.type "list") := by decide +kernel
theorem bt_max : bootBuiltins "max" = some (.builtin "max") := by decide +kernel
theorem bt_min : bootBuiltins "min" = some (.builtin "min") := by decide +kernel
theorem bt_range : bootBuiltins "range" = some (.type "range") := by decide +kernel
theorem bt_repr : bootBuiltins "repr" = some (.builtin "repr") := by decide +kernel
theorem bt_str : bootBuiltins "str" = some (.type "str") := by decide +kernel
theorem bt_sum : bootBuiltins "sum" = some (.builtin "sum") := by decide +kernel
theorem bt_tuple : bootBuiltins "tuple" = some (.type "tuple") := by decide +kernel
/-- what the top has written -/
structure TF (K : Fg) (mg : Str → Option Value) where
  a__law_cell : Addr
  d__law_cell : FuncData
  F__law_cell : Fun K "_law_cell" "_law_cell" s__law_cell a__law_cell d__law_cell
  g__law_cell : mg "_law_cell" = some (.ref a__law_cell)
  b__law_cell : Binds K d__law_cell ["script", "index"] []
  a__law_generator : Addr
  d__law_generator : FuncData
  F__law_generator : Fun K "_law_generator" "_law_generator" s__law_generator a__law_generator d__law_generator
  g__law_generator : mg "_law_generator" = some (.ref a__law_generator)
  b__law_generator : Binds K d__law_generator ["script", "index"] []
  a__law_hash : Addr
  d__law_hash : FuncData
  F__law_hash : Fun K "_law_hash" "_law_hash" s__law_hash a__law_hash d__law_hash
  g__law_hash : mg "_law_hash" = some (.ref a__law_hash)
  b__law_hash : Binds K d__law_hash ["seed", "index"] []
  a__law_random : Addr
  d__law_random : FuncData
  F__law_random : Fun K "_law_random" "_law_random" s__law_random a__law_random d__law_random
  g__law_random : mg "_law_random" = some (.ref a__law_random)
  b__law_random : Binds K d__law_random ["generator", "bound"] []
  a__law_pick : Addr
  d__law_pick : FuncData
  F__law_pick : Fun K "_law_pick" "_law_pick" s__law_pick a__law_pick d__law_pick
  g__law_pick : mg "_law_pick" = some (.ref a__law_pick)
  b__law_pick : Binds K d__law_pick ["generator", "things"] []
  a__law_drawn : Addr
  d__law_drawn : FuncData
  F__law_drawn : Fun K "_law_drawn" "_law_drawn" s__law_drawn a__law_drawn d__law_drawn
  g__law_drawn : mg "_law_drawn" = some (.ref a__law_drawn)
  b__law_drawn : Binds K d__law_drawn ["generator", "things"] []
  a__law_sizes : Addr
  d__law_sizes : FuncData
  F__law_sizes : Fun K "_law_sizes" "_law_sizes" s__law_sizes a__law_sizes d__law_sizes
  g__law_sizes : mg "_law_sizes" = some (.ref a__law_sizes)
  b__law_sizes : Binds K d__law_sizes ["generator"] []
  a__law_part : Addr
  d__law_part : FuncData
  F__law_part : Fun K "_law_part" "_law_part" s__law_part a__law_part d__law_part
  g__law_part : mg "_law_part" = some (.ref a__law_part)
  b__law_part : Binds K d__law_part ["one", "other"] []
  a__law_inverse : Addr
  d__law_inverse : FuncData
  F__law_inverse : Fun K "_law_inverse" "_law_inverse" s__law_inverse a__law_inverse d__law_inverse
  g__law_inverse : mg "_law_inverse" = some (.ref a__law_inverse)
  b__law_inverse : Binds K d__law_inverse ["number", "most"] []
  a__law_straight : Addr
  d__law_straight : FuncData
  F__law_straight : Fun K "_law_straight" "_law_straight" s__law_straight a__law_straight d__law_straight
  g__law_straight : mg "_law_straight" = some (.ref a__law_straight)
  b__law_straight : Binds K d__law_straight ["one", "other", "goal"] []
  a_is_whole : Addr
  d_is_whole : FuncData
  F_is_whole : Fun K "is_whole" "is_whole" s_is_whole a_is_whole d_is_whole
  g_is_whole : mg "is_whole" = some (.ref a_is_whole)
  b_is_whole : Binds K d_is_whole ["value"] []
  a_are_jugs : Addr
  d_are_jugs : FuncData
  F_are_jugs : Fun K "are_jugs" "are_jugs" s_are_jugs a_are_jugs d_are_jugs
  g_are_jugs : mg "are_jugs" = some (.ref a_are_jugs)
  b_are_jugs : Binds K d_are_jugs ["value"] []
  a_check_jugs : Addr
  d_check_jugs : FuncData
  F_check_jugs : Fun K "check_jugs" "check_jugs" s_check_jugs a_check_jugs d_check_jugs
  g_check_jugs : mg "check_jugs" = some (.ref a_check_jugs)
  b_check_jugs : Binds K d_check_jugs ["jugs"] []
  a_is_count : Addr
  d_is_count : FuncData
  F_is_count : Fun K "is_count" "is_count" s_is_count a_is_count d_is_count
  g_is_count : mg "is_count" = some (.ref a_is_count)
  b_is_count : Binds K d_is_count ["value"] []
  a_check_number : Addr
  d_check_number : FuncData
  F_check_number : Fun K "check_number" "check_number" s_check_number a_check_number d_check_number
  g_check_number : mg "check_number" = some (.ref a_check_number)
  b_check_number : Binds K d_check_number ["value"] []
  a_check_sizes : Addr
  d_check_sizes : FuncData
  F_check_sizes : Fun K "check_sizes" "check_sizes" s_check_sizes a_check_sizes d_check_sizes
  g_check_sizes : mg "check_sizes" = some (.ref a_check_sizes)
  b_check_sizes : Binds K d_check_sizes ["jugs", "goal"] []
  a_common_of : Addr
  d_common_of : FuncData
  F_common_of : Fun K "common_of" "common_of" s_common_of a_common_of d_common_of
  g_common_of : mg "common_of" = some (.ref a_common_of)
  b_common_of : Binds K d_common_of ["one", "other"] []
  a_common_of_sizes : Addr
  d_common_of_sizes : FuncData
  F_common_of_sizes : Fun K "common_of_sizes" "common_of_sizes" s_common_of_sizes a_common_of_sizes d_common_of_sizes
  g_common_of_sizes : mg "common_of_sizes" = some (.ref a_common_of_sizes)
  b_common_of_sizes : Binds K d_common_of_sizes ["jugs"] []
  a_is_by_tap : Addr
  d_is_by_tap : FuncData
  F_is_by_tap : Fun K "is_by_tap" "is_by_tap" s_is_by_tap a_is_by_tap d_is_by_tap
  g_is_by_tap : mg "is_by_tap" = some (.ref a_is_by_tap)
  b_is_by_tap : Binds K d_is_by_tap ["jugs", "goal"] []
  a_can_by_tap : Addr
  d_can_by_tap : FuncData
  F_can_by_tap : Fun K "can_by_tap" "can_by_tap" s_can_by_tap a_can_by_tap d_can_by_tap
  g_can_by_tap : mg "can_by_tap" = some (.ref a_can_by_tap)
  b_can_by_tap : Binds K d_can_by_tap ["jugs", "goal"] []
  a_turned_back : Addr
  d_turned_back : FuncData
  F_turned_back : Fun K "turned_back" "turned_back" s_turned_back a_turned_back d_turned_back
  g_turned_back : mg "turned_back" = some (.ref a_turned_back)
  b_turned_back : Binds K d_turned_back ["number", "modulus"] []
  a_straight_from : Addr
  d_straight_from : FuncData
  F_straight_from : Fun K "straight_from" "straight_from" s_straight_from a_straight_from d_straight_from
  g_straight_from : mg "straight_from" = some (.ref a_straight_from)
  b_straight_from : Binds K d_straight_from ["one", "other", "goal"] []
  a_straight_pours : Addr
  d_straight_pours : FuncData
  F_straight_pours : Fun K "straight_pours" "straight_pours" s_straight_pours a_straight_pours d_straight_pours
  g_straight_pours : mg "straight_pours" = some (.ref a_straight_pours)
  b_straight_pours : Binds K d_straight_pours ["one", "other", "goal"] []
  a__law_straight_right : Addr
  d__law_straight_right : FuncData
  F__law_straight_right : Fun K "_law_straight_right" "_law_straight_right" s__law_straight_right a__law_straight_right d__law_straight_right
  g__law_straight_right : mg "_law_straight_right" = some (.ref a__law_straight_right)
  b__law_straight_right : Binds K d__law_straight_right ["generator"] []
  a_tap_paper : Addr
  d_tap_paper : FuncData
  F_tap_paper : Fun K "tap_paper" "tap_paper" s_tap_paper a_tap_paper d_tap_paper
  g_tap_paper : mg "tap_paper" = some (.ref a_tap_paper)
  b_tap_paper : Binds K d_tap_paper ["jugs", "goal"] []
  a__law_is_paper : Addr
  d__law_is_paper : FuncData
  F__law_is_paper : Fun K "_law_is_paper" "_law_is_paper" s__law_is_paper a__law_is_paper d__law_is_paper
  g__law_is_paper : mg "_law_is_paper" = some (.ref a__law_is_paper)
  b__law_is_paper : Binds K d__law_is_paper ["jugs", "goal", "value"] []
  a_is_tap_paper : Addr
  d_is_tap_paper : FuncData
  F_is_tap_paper : Fun K "is_tap_paper" "is_tap_paper" s_is_tap_paper a_is_tap_paper d_is_tap_paper
  g_is_tap_paper : mg "is_tap_paper" = some (.ref a_is_tap_paper)
  b_is_tap_paper : Binds K d_is_tap_paper ["jugs", "goal", "value"] []
  a__law_tap_right : Addr
  d__law_tap_right : FuncData
  F__law_tap_right : Fun K "_law_tap_right" "_law_tap_right" s__law_tap_right a__law_tap_right d__law_tap_right
  g__law_tap_right : mg "_law_tap_right" = some (.ref a__law_tap_right)
  b__law_tap_right : Binds K d__law_tap_right ["generator"] []
  a_law : Addr
  d_law : FuncData
  F_law : Fun K "law" "law" s_law a_law d_law
  g_law : mg "law" = some (.ref a_law)
  b_law : Binds K d_law ["script"] []
  u_law : ∀ (s : Shared) (u : Value), BindsTo s d_law ⟨[u], []⟩ [("script", u)]
  z_abs : mg "abs" = none
  z_all : mg "all" = none
  z_bool : mg "bool" = none
  z_int : mg "int" = none
  z_isinstance : mg "isinstance" = none
  z_len : mg "len" = none
  z_list : mg "list" = none
  z_max : mg "max" = none
  z_min : mg "min" = none
  z_range : mg "range" = none
  z_repr : mg "repr" = none
  z_str : mg "str" = none
  z_sum : mg "sum" = none
  z_tuple : mg "tuple" = none
variable {P : Program} {w : World} {K : Fg} {mg : Str → Option Value} {base : Heap}
theorem ok__law_cell (T : TF K mg) : GFn P w K mg base 1 T.a__law_cell T.d__law_cell ["script", "index"] sp__law_cell :=
  fn_ok (t := b__law_cell) T.F__law_cell sc__law_cell (fun cdv A outer s H hg hr =>
  (by exact (dss_cons (by exact (ds_if (by exact (dt_cmp (od_lt hr) (do_var 1) (by exact (do_exp (by exact (de_builtin cd_len (by rfl) T.z_len bt_len (by exact (da_cons (do_var 0) da_nil)))))) (nomark _))) (by exact (dss_one (by exact (ds_ret (by exact (de_ix xd_ix (do_var 0) (do_var 1))))))) dss_nil))
  (by exact (dss_one (by exact (ds_ret (by exact (de_bin od_mod (by exact (do_exp (by exact (de_builtin (cd_sum (by rfl)) (by rfl) T.z_sum bt_sum (by exact (da_cons (by exact (do_exp (by exact (de_slice ld_sl (do_var 0) dp_no (by exact (dp_yes de_int)))))) da_nil)))))) (by exact (do_exp de_int))))))))))) pure__law_cell
theorem ok__law_generator (T : TF K mg) : GFn P w K mg base 2 T.a__law_generator T.d__law_generator ["script", "index"] sp__law_generator :=
  fn_ok (t := b__law_generator) T.F__law_generator sc__law_generator (fun cdv A outer s H hg hr =>
  (by exact (dss_cons (by exact (ds_set 2 sc__law_generator.nd (by exact (de_fn (ok__law_cell T) (hr.mono (by decide)) hg (by rfl) T.g__law_cell T.F__law_cell.kp T.b__law_cell (by exact (df_cons (de_var 0) (by exact (df_cons (de_var 1) df_nil))))))))
  (by exact (dss_one (by exact (ds_ret (by exact (de_lst (by exact (df_cons (by exact (de_bin od_mod (by exact (do_exp (by exact (de_type cd_int (by rfl) T.z_int bt_int (by exact (da_cons (by exact (do_exp (by exact (de_builtin (cd_max (by rfl)) (by rfl) T.z_max bt_max (by exact (da_cons (by exact (do_exp (by exact (de_bin od_sub (do_var 2) (by exact (do_exp (by exact (de_bin od_pow (by exact (do_exp de_int)) (by exact (do_exp de_int)))))))))) (by exact (da_cons (by exact (do_exp de_int)) da_nil)))))))) da_nil)))))) (by exact (do_exp (by exact (de_bin od_pow (by exact (do_exp (by exact (de_bin od_pow (by exact (do_exp de_int)) (by exact (do_exp de_int)))))) (by exact (do_exp de_int)))))))) (by exact (df_cons (by exact (de_bin od_mod (by exact (do_exp (by exact (de_type cd_int (by rfl) T.z_int bt_int (by exact (da_cons (do_var 2) da_nil)))))) (by exact (do_exp de_int)))) (by exact (df_cons (by exact (de_bin od_mul (by exact (do_exp de_int)) (do_var 1))) df_nil))))))))))))))) pure__law_generator
theorem ok__law_hash (T : TF K mg) : GFn P w K mg base 1 T.a__law_hash T.d__law_hash ["seed", "index"] sp__law_hash :=
  fn_ok (t := b__law_hash) T.F__law_hash sc__law_hash (fun cdv A outer s H hg hr =>
  (by exact (dss_cons (by exact (ds_set 2 sc__law_hash.nd (by exact (de_bin od_mod (by exact (do_exp (by exact (de_type cd_int (by rfl) T.z_int bt_int (by exact (da_cons (by exact (do_exp (by exact (de_bin od_add (by exact (do_exp (by exact (de_bin od_add (by exact (do_exp (by exact (de_bin od_add (by exact (do_exp (by exact (de_bin od_mul (do_var 0) (by exact (do_exp de_int)))))) (by exact (do_exp (by exact (de_bin od_mul (by exact (do_exp (by exact (de_bin od_mul (by exact (do_exp de_int)) (do_var 1))))) (do_var 1))))))))) (by exact (do_exp (by exact (de_bin od_mul (by exact (do_exp de_int)) (do_var 1))))))))) (by exact (do_exp de_int)))))) da_nil)))))) (by exact (do_exp de_int))))))
  (by exact (dss_cons (by exact (ds_set 2 sc__law_hash.nd (by exact (de_bin od_mod (by exact (do_exp (by exact (de_type cd_int (by rfl) T.z_int bt_int (by exact (da_cons (by exact (do_exp (by exact (de_bin od_add (by exact (do_exp (by exact (de_bin od_add (by exact (do_exp (by exact (de_bin od_mul (do_var 2) (do_var 2))))) (by exact (do_exp (by exact (de_bin od_mul (by exact (do_exp de_int)) (do_var 1))))))))) (by exact (do_exp de_int)))))) da_nil)))))) (by exact (do_exp de_int))))))
  (by exact (dss_one (by exact (ds_ret (by exact (de_bin od_mod (by exact (do_exp (by exact (de_type cd_int (by rfl) T.z_int bt_int (by exact (da_cons (by exact (do_exp (by exact (de_bin od_mul (do_var 2) (by exact (do_exp de_int)))))) da_nil)))))) (by exact (do_exp de_int))))))))))))) pure__law_hash
theorem ok__law_random (T : TF K mg) : GFn P w K mg base 2 T.a__law_random T.d__law_random ["generator", "bound"] sp__law_random :=
  fn_ok (t := b__law_random) T.F__law_random sc__law_random (fun cdv A outer s H hg hr =>
  (by exact (dss_cons (by exact (ds_if (by exact (dt_cmp (od_gt hr) (by exact (do_exp (by exact (de_ix xd_ix (do_var 0) (by exact (do_exp de_int)))))) (by exact (do_exp de_int)) (nomark _))) (by exact (dss_cons (by exact (ds_set 2 sc__law_random.nd (by exact (de_bin od_mod (by exact (do_exp (by exact (de_type cd_int (by rfl) T.z_int bt_int (by exact (da_cons (by exact (do_exp (by exact (de_ix xd_ix (do_var 0) (by exact (do_exp de_int)))))) da_nil)))))) (do_var 1)))))
  (by exact (dss_cons (by exact (ds_ix 0 (by exact (de_bin od_div (by exact (do_exp (by exact (de_ix xd_ix (do_var 0) (by exact (do_exp de_int)))))) (do_var 1))) de_int))
  (by exact (dss_one (ds_retV 2))))))) dss_nil))
  (by exact (dss_cons (by exact (ds_set 2 sc__law_random.nd de_int))
  (by exact (dss_cons (by exact (ds_for (tb := b__law_random_F1) PassesOwn.never (by rfl) (by exact (di_range1 (by rfl) T.z_range (by exact (de_bin od_add (by exact (do_exp de_int)) (by exact (do_exp (by exact (de_bin od_div (by exact (do_exp (by exact (de_bits (do_var 1))))) (by exact (do_exp de_int)))))))))) (by exact (dg_name 3 sc__law_random.nd)) (by exact (dss_cons (by exact (ds_ix 0 (by exact (de_bin od_add (by exact (do_exp (by exact (de_ix xd_ix (do_var 0) (by exact (do_exp de_int)))))) (by exact (do_exp de_int)))) de_int))
  (by exact (dss_one (by exact (ds_set 2 sc__law_random.nd (by exact (de_bin od_add (by exact (do_exp (by exact (de_bin od_mul (do_var 2) (by exact (do_exp de_int)))))) (by exact (do_exp (by exact (de_fn (ok__law_hash T) (hr.mono (by decide)) hg (by rfl) T.g__law_hash T.F__law_hash.kp T.b__law_hash (by exact (df_cons (by exact (de_ix xd_ix (do_var 0) (by exact (do_exp de_int)))) (by exact (df_cons (by exact (de_ix xd_ix (do_var 0) (by exact (do_exp de_int)))) df_nil))))))))))))))))))
  (by exact (dss_one (by exact (ds_ret (by exact (de_bin od_mod (by exact (do_exp (by exact (de_type cd_int (by rfl) T.z_int bt_int (by exact (da_cons (do_var 2) da_nil)))))) (do_var 1)))))))))))))) pure__law_random
theorem ok__law_pick (T : TF K mg) : GFn P w K mg base 3 T.a__law_pick T.d__law_pick ["generator", "things"] sp__law_pick :=
  fn_ok (t := b__law_pick) T.F__law_pick sc__law_pick (fun cdv A outer s H hg hr =>
  (by exact (dss_one (by exact (ds_ret (by exact (de_ix xd_ix (do_var 1) (by exact (do_exp (by exact (de_fnB 0 (ok__law_random T) (hr.mono (by decide)) hg (by rfl) T.g__law_random T.F__law_random.kp T.b__law_random (by exact (df_cons (by exact (de_builtin cd_len (by rfl) T.z_len bt_len (by exact (da_cons (do_var 1) da_nil)))) df_nil))))))))))))) pure__law_pick
theorem ok__law_drawn (T : TF K mg) : GFn P w K mg base 3 T.a__law_drawn T.d__law_drawn ["generator", "things"] sp__law_drawn :=
  fn_ok (t := b__law_drawn) T.F__law_drawn sc__law_drawn (fun cdv A outer s H hg hr =>
  (by exact (dss_cons (by exact (ds_parV 2 3 (by rfl) sc__law_drawn.nd (by exact (dv_cons (by exact (de_type cd_list (by rfl) T.z_list bt_list (by exact (da_cons (do_var 1) da_nil)))) (by exact (dv_cons (by exact (de_lst df_nil)) dv_nil))))))
  (by exact (dss_cons (by exact (ds_for (tb := b__law_drawn_F1) PassesOwn.never (by rfl) (by exact (di_list (de_var 1))) (by exact (dg_name 4 sc__law_drawn.nd)) (by exact (dss_one (by exact (ds_expr (by exact (de_mut 3 PySem.F.slot_list_append PySem.F.type_list_append md_append (by exact (df_cons (by exact (de_mut 2 PySem.F.slot_list_pop PySem.F.type_list_pop md_popAt (by exact (df_cons (by exact (de_fnB 0 (ok__law_random T) (hr.mono (by decide)) hg (by rfl) T.g__law_random T.F__law_random.kp T.b__law_random (by exact (df_cons (by exact (de_builtin cd_len (by rfl) T.z_len bt_len (by exact (da_cons (do_var 2) da_nil)))) df_nil)))) df_nil)))) df_nil))))))))))
  (by exact (dss_one (ds_retV 3)))))))) pure__law_drawn
theorem ok__law_sizes (T : TF K mg) : GFn P w K mg base 4 T.a__law_sizes T.d__law_sizes ["generator"] sp__law_sizes :=
  fn_ok (t := b__law_sizes) T.F__law_sizes sc__law_sizes (fun cdv A outer s H hg hr =>
  (by exact (dss_cons (by exact (ds_set 1 sc__law_sizes.nd (by exact (de_fnB 0 (ok__law_random T) (hr.mono (by decide)) hg (by rfl) T.g__law_random T.F__law_random.kp T.b__law_random (by exact (df_cons de_int df_nil))))))
  (by exact (dss_cons (by exact (ds_set 2 sc__law_sizes.nd (by exact (de_fnB 0 (ok__law_pick T) (hr.mono (by decide)) hg (by rfl) T.g__law_pick T.F__law_pick.kp T.b__law_pick (by exact (df_cons (by exact (de_lst (by exact (df_cons de_int (by exact (df_cons de_int (by exact (df_cons de_int (by exact (df_cons de_int (by exact (df_cons de_int (by exact (df_cons (by exact (de_bin od_pow (by exact (do_exp de_int)) (by exact (do_exp de_int)))) df_nil)))))))))))))) df_nil))))))
  (by exact (dss_cons (by exact (ds_if (by exact (dt_cmp (od_eq hr) (do_var 1) (by exact (do_exp de_int)) (nomark _))) (by exact (dss_one (by exact (ds_par 3 4 (by rfl) sc__law_sizes.nd (by exact (df_cons (by exact (de_bin od_add (by exact (do_exp de_int)) (by exact (do_exp (by exact (de_fnB 0 (ok__law_random T) (hr.mono (by decide)) hg (by rfl) T.g__law_random T.F__law_random.kp T.b__law_random (by exact (df_cons de_int df_nil)))))))) (by exact (df_cons (by exact (de_bin od_add (by exact (do_exp de_int)) (by exact (do_exp (by exact (de_fnB 0 (ok__law_random T) (hr.mono (by decide)) hg (by rfl) T.g__law_random T.F__law_random.kp T.b__law_random (by exact (df_cons de_int df_nil)))))))) df_nil)))))))) (by exact (dss_one (by exact (ds_if (by exact (dt_cmp (od_eq hr) (do_var 1) (by exact (do_exp de_int)) (nomark _))) (by exact (dss_one (by exact (ds_par 3 4 (by rfl) sc__law_sizes.nd (by exact (df_cons (by exact (de_bin od_add (by exact (do_exp de_int)) (by exact (do_exp (by exact (de_fnB 0 (ok__law_random T) (hr.mono (by decide)) hg (by rfl) T.g__law_random T.F__law_random.kp T.b__law_random (by exact (df_cons de_int df_nil)))))))) (by exact (df_cons (by exact (de_bin od_add (by exact (do_exp de_int)) (by exact (do_exp (by exact (de_fnB 0 (ok__law_random T) (hr.mono (by decide)) hg (by rfl) T.g__law_random T.F__law_random.kp T.b__law_random (by exact (df_cons (by exact (de_bin od_pow (by exact (do_exp de_int)) (by exact (do_exp de_int)))) df_nil)))))))) df_nil)))))))) (by exact (dss_one (by exact (ds_if (by exact (dt_cmp (od_eq hr) (do_var 1) (by exact (do_exp de_int)) (nomark _))) (by exact (dss_cons (by exact (ds_set 5 sc__law_sizes.nd (by exact (de_lst (by exact (df_cons de_int (by exact (df_cons de_int df_nil))))))))
  (by exact (dss_cons (by exact (ds_for (tb := b__law_sizes_F1) PassesOwn.never (by rfl) (by exact (di_range1 (by rfl) T.z_range de_int)) (by exact (dg_name 6 sc__law_sizes.nd)) (by exact (dss_one (by exact (ds_expr (by exact (de_mut 5 PySem.F.slot_list_append PySem.F.type_list_append md_append (by exact (df_cons (by exact (de_bin od_add (by exact (do_exp (by exact (de_ix xd_ix (do_var 5) (by exact (do_exp (by exact (de_un ud_neg (by exact (do_exp de_int)))))))))) (by exact (do_exp (by exact (de_ix xd_ix (do_var 5) (by exact (do_exp (by exact (de_un ud_neg (by exact (do_exp de_int)))))))))))) df_nil))))))))))
  (by exact (dss_cons (by exact (ds_set 7 sc__law_sizes.nd (by exact (de_bin od_add (by exact (do_exp de_int)) (by exact (do_exp (by exact (de_fnB 0 (ok__law_random T) (hr.mono (by decide)) hg (by rfl) T.g__law_random T.F__law_random.kp T.b__law_random (by exact (df_cons de_int df_nil))))))))))
  (by exact (dss_one (by exact (ds_par 3 4 (by rfl) sc__law_sizes.nd (by exact (df_cons (by exact (de_ix xd_ix (do_var 5) (do_var 7))) (by exact (df_cons (by exact (de_ix xd_ix (do_var 5) (by exact (do_exp (by exact (de_bin od_add (do_var 7) (by exact (do_exp de_int)))))))) df_nil)))))))))))))) (by exact (dss_one (by exact (ds_par 3 4 (by rfl) sc__law_sizes.nd (by exact (df_cons (by exact (de_bin od_add (by exact (do_exp de_int)) (by exact (do_exp (by exact (de_fnB 0 (ok__law_random T) (hr.mono (by decide)) hg (by rfl) T.g__law_random T.F__law_random.kp T.b__law_random (by exact (df_cons (by exact (de_bin od_pow (by exact (do_exp de_int)) (by exact (do_exp de_int)))) df_nil)))))))) (by exact (df_cons (by exact (de_bin od_add (by exact (do_exp de_int)) (by exact (do_exp (by exact (de_fnB 0 (ok__law_random T) (hr.mono (by decide)) hg (by rfl) T.g__law_random T.F__law_random.kp T.b__law_random (by exact (df_cons (by exact (de_bin od_pow (by exact (do_exp de_int)) (by exact (do_exp de_int)))) df_nil)))))))) df_nil))))))))))))))))))
  (by exact (dss_cons (by exact (ds_set 8 sc__law_sizes.nd (by exact (de_lst (by exact (df_cons (by exact (de_bin od_mul (do_var 2) (do_var 3))) (by exact (df_cons (by exact (de_bin od_mul (do_var 2) (do_var 4))) df_nil))))))))
  (by exact (dss_one (by exact (ds_ret (by exact (de_tup (by exact (df_cons (de_var 2) (by exact (df_cons (by exact (de_fnB 0 (ok__law_drawn T) (hr.mono (by decide)) hg (by rfl) T.g__law_drawn T.F__law_drawn.kp T.b__law_drawn (by exact (df_cons (de_var 8) df_nil)))) df_nil))))))))))))))))))) pure__law_sizes
theorem ok__law_part (T : TF K mg) : GFn P w K mg base 1 T.a__law_part T.d__law_part ["one", "other"] sp__law_part :=
  fn_ok (t := b__law_part) T.F__law_part sc__law_part (fun cdv A outer s H hg hr =>
  (by exact (dss_cons (by exact (ds_par 2 3 (by rfl) sc__law_part.nd (by exact (df_cons (de_var 0) (by exact (df_cons (de_var 1) df_nil))))))
  (by exact (dss_cons (by exact (ds_for (tb := b__law_part_F1) PassesOwn.never (by rfl) (by exact (di_range1 (by rfl) T.z_range de_int)) (by exact (dg_name 4 sc__law_part.nd)) (by exact (dss_one (by exact (ds_if (by exact (dt_cmp (od_gt hr) (do_var 3) (by exact (do_exp de_int)) (nomark _))) (by exact (dss_one (by exact (ds_par 2 3 (by rfl) sc__law_part.nd (by exact (df_cons (de_var 3) (by exact (df_cons (by exact (de_bin od_mod (by exact (do_exp (by exact (de_type cd_int (by rfl) T.z_int bt_int (by exact (da_cons (do_var 2) da_nil)))))) (by exact (do_exp (by exact (de_type cd_int (by rfl) T.z_int bt_int (by exact (da_cons (do_var 3) da_nil)))))))) df_nil)))))))) dss_nil))))))
  (by exact (dss_one (ds_retV 2)))))))) pure__law_part
theorem ok__law_inverse (T : TF K mg) : GFn P w K mg base 1 T.a__law_inverse T.d__law_inverse ["number", "most"] sp__law_inverse :=
  fn_ok (t := b__law_inverse) T.F__law_inverse sc__law_inverse (fun cdv A outer s H hg hr =>
  (by exact (dss_cons (by exact (ds_asg (by exact (de_tup (by exact (df_cons (by exact (de_bin od_mod (do_var 0) (do_var 1))) (by exact (df_cons (de_var 1) (by exact (df_cons de_int (by exact (df_cons de_int df_nil)))))))))) (by exact (dg_tup (by rfl) (dgs_cons (by exact (dg_name 2 sc__law_inverse.nd)) (by exact (dgs_cons (by exact (dg_name 3 sc__law_inverse.nd)) (by exact (dgs_cons (by exact (dg_name 4 sc__law_inverse.nd)) (by exact (dgs_cons (by exact (dg_name 5 sc__law_inverse.nd)) dgs_nil)))))))))))
  (by exact (dss_cons (by exact (ds_for (tb := b__law_inverse_F1) PassesOwn.never (by rfl) (by exact (di_range1 (by rfl) T.z_range de_int)) (by exact (dg_name 6 sc__law_inverse.nd)) (by exact (dss_one (by exact (ds_if (by exact (dt_cmp (od_gt hr) (do_var 2) (by exact (do_exp de_int)) (nomark _))) (by exact (dss_cons (by exact (ds_set 7 sc__law_inverse.nd (by exact (de_bin od_div (by exact (do_exp (by exact (de_type cd_int (by rfl) T.z_int bt_int (by exact (da_cons (do_var 3) da_nil)))))) (do_var 2)))))
  (by exact (dss_one (by exact (ds_asg (by exact (de_tup (by exact (df_cons (by exact (de_bin od_sub (do_var 3) (by exact (do_exp (by exact (de_bin od_mul (do_var 7) (do_var 2))))))) (by exact (df_cons (de_var 2) (by exact (df_cons (by exact (de_bin od_sub (do_var 5) (by exact (do_exp (by exact (de_bin od_mul (do_var 7) (do_var 4))))))) (by exact (df_cons (de_var 4) df_nil)))))))))) (by exact (dg_tup (by rfl) (dgs_cons (by exact (dg_name 2 sc__law_inverse.nd)) (by exact (dgs_cons (by exact (dg_name 3 sc__law_inverse.nd)) (by exact (dgs_cons (by exact (dg_name 4 sc__law_inverse.nd)) (by exact (dgs_cons (by exact (dg_name 5 sc__law_inverse.nd)) dgs_nil))))))))))))))) dss_nil))))))
  (by exact (dss_one (by exact (ds_ret (by exact (de_if (by exact (dt_cmp (od_gt hr) (do_var 1) (by exact (do_exp de_int)) (nomark _))) (by exact (de_bin od_mod (do_var 4) (do_var 1))) de_int))))))))))) pure__law_inverse
theorem ok__law_straight (T : TF K mg) : GFn P w K mg base 2 T.a__law_straight T.d__law_straight ["one", "other", "goal"] sp__law_straight :=
  fn_ok (t := b__law_straight) T.F__law_straight sc__law_straight (fun cdv A outer s H hg hr =>
  (by exact (dss_cons (by exact (ds_set 3 sc__law_straight.nd (by exact (de_fn (ok__law_part T) (hr.mono (by decide)) hg (by rfl) T.g__law_part T.F__law_part.kp T.b__law_part (by exact (df_cons (de_var 0) (by exact (df_cons (de_var 1) df_nil))))))))
  (by exact (dss_cons (by exact (ds_if (by exact (dt_cmp (od_eq hr) (do_var 2) (by exact (do_exp de_int)) (nomark _))) (by exact (dss_one (by exact (ds_ret de_int)))) dss_nil))
  (by exact (dss_cons (by exact (ds_if (by exact (dt_w (dw_or (by exact (dt_cmp (od_gt hr) (do_var 2) (by exact (do_exp (by exact (de_builtin (cd_max (by rfl)) (by rfl) T.z_max bt_max (by exact (da_cons (do_var 0) (by exact (da_cons (do_var 1) da_nil)))))))) (nomark _))) (by exact (dw_or1 (by exact (dt_cmp (od_gt hr) (by exact (do_exp (by exact (de_bin od_mod (by exact (do_exp (by exact (de_type cd_int (by rfl) T.z_int bt_int (by exact (da_cons (do_var 2) da_nil)))))) (do_var 3))))) (by exact (do_exp de_int)) (nomark _)))))))) (by exact (dss_one (by exact (ds_ret de_non)))) dss_nil))
  (by exact (dss_cons (by exact (ds_if (by exact (dt_cmp (od_eq hr) (do_var 2) (do_var 0) (nomark _))) (by exact (dss_one (by exact (ds_ret de_int)))) dss_nil))
  (by exact (dss_cons (by exact (ds_if (by exact (dt_cmp (od_eq hr) (do_var 2) (do_var 1) (nomark _))) (by exact (dss_one (by exact (ds_ret (by exact (de_bin od_mul (by exact (do_exp de_int)) (by exact (do_exp (by exact (de_bin od_div (by exact (do_exp (by exact (de_type cd_int (by rfl) T.z_int bt_int (by exact (da_cons (by exact (do_exp (by exact (de_bin od_sub (by exact (do_exp (by exact (de_bin od_add (do_var 1) (do_var 0))))) (by exact (do_exp de_int)))))) da_nil)))))) (do_var 0))))))))))) dss_nil))
  (by exact (dss_cons (by exact (ds_set 4 sc__law_straight.nd (by exact (de_bin od_div (by exact (do_exp (by exact (de_type cd_int (by rfl) T.z_int bt_int (by exact (da_cons (do_var 1) da_nil)))))) (do_var 3)))))
  (by exact (dss_cons (by exact (ds_set 5 sc__law_straight.nd (by exact (de_if (by exact (dt_cmp (od_gt hr) (do_var 4) (by exact (do_exp de_int)) (nomark _))) (by exact (de_bin od_mod (by exact (do_exp (by exact (de_type cd_int (by rfl) T.z_int bt_int (by exact (da_cons (by exact (do_exp (by exact (de_bin od_mul (by exact (do_exp (by exact (de_bin od_div (do_var 2) (do_var 3))))) (by exact (do_exp (by exact (de_fn (ok__law_inverse T) (hr.mono (by decide)) hg (by rfl) T.g__law_inverse T.F__law_inverse.kp T.b__law_inverse (by exact (df_cons (by exact (de_bin od_div (by exact (do_exp (by exact (de_type cd_int (by rfl) T.z_int bt_int (by exact (da_cons (do_var 0) da_nil)))))) (do_var 3))) (by exact (df_cons (de_var 4) df_nil)))))))))))) da_nil)))))) (do_var 4))) de_int))))
  (by exact (dss_cons (by exact (ds_set 5 sc__law_straight.nd (by exact (de_if (by exact (dt_cmp (od_gt hr) (do_var 5) (by exact (do_exp de_int)) (nomark _))) (de_var 5) (de_var 4)))))
  (by exact (dss_cons (by exact (ds_if (by exact (dt_cmp (od_lt hr) (by exact (do_exp (by exact (de_bin od_mul (do_var 5) (do_var 0))))) (do_var 2) (nomark _))) (by exact (dss_one (by exact (ds_set 5 sc__law_straight.nd (by exact (de_bin od_add (do_var 5) (by exact (do_exp (by exact (de_bin od_mul (do_var 4) (by exact (do_exp (by exact (de_bin od_div (by exact (do_exp (by exact (de_type cd_int (by rfl) T.z_int bt_int (by exact (da_cons (by exact (do_exp (by exact (de_bin od_sub (by exact (do_exp (by exact (de_bin od_add (by exact (do_exp (by exact (de_bin od_sub (do_var 2) (by exact (do_exp (by exact (de_bin od_mul (do_var 5) (do_var 0))))))))) (by exact (do_exp (by exact (de_bin od_mul (do_var 4) (do_var 0))))))))) (by exact (do_exp de_int)))))) da_nil)))))) (by exact (do_exp (by exact (de_bin od_mul (do_var 4) (do_var 0))))))))))))))))))) dss_nil))
  (by exact (dss_cons (by exact (ds_set 6 sc__law_straight.nd (by exact (de_bin od_div (by exact (do_exp (by exact (de_type cd_int (by rfl) T.z_int bt_int (by exact (da_cons (by exact (do_exp (by exact (de_bin od_sub (by exact (do_exp (by exact (de_bin od_mul (do_var 5) (do_var 0))))) (do_var 2))))) da_nil)))))) (do_var 1)))))
  (by exact (dss_one (by exact (ds_ret (by exact (de_bin od_sub (by exact (do_exp (by exact (de_bin od_add (by exact (do_exp (by exact (de_bin od_mul (by exact (do_exp de_int)) (do_var 5))))) (by exact (do_exp (by exact (de_bin od_mul (by exact (do_exp de_int)) (do_var 6))))))))) (by exact (do_exp (by exact (de_if (by exact (dt_cmp (od_lt hr) (do_var 2) (do_var 0) (nomark _))) de_int de_int))))))))))))))))))))))))))))))) pure__law_straight
theorem ok_is_whole (T : TF K mg) : GFn P w K mg base 1 T.a_is_whole T.d_is_whole ["value"] sp_is_whole :=
  fn_ok (t := b_is_whole) T.F_is_whole sc_is_whole (fun cdv A outer s H hg hr =>
  (by exact (dss_one (by exact (ds_ret (by exact (de_and (by exact (de_isi (T := "int") (by decide) (by rfl) T.z_isinstance (by rfl) T.z_int bt_int (do_var 0))) (by exact (de_one (by exact (de_not (by exact (do_exp (by exact (de_isi (T := "bool") (by decide) (by rfl) T.z_isinstance (by rfl) T.z_bool bt_bool (do_var 0)))))))))))))))) pure_is_whole
theorem ok_are_jugs (T : TF K mg) : GFn P w K mg base 2 T.a_are_jugs T.d_are_jugs ["value"] sp_are_jugs :=
  fn_ok (t := b_are_jugs) T.F_are_jugs sc_are_jugs (fun cdv A outer s H hg hr =>
  (by exact (dss_one (by exact (ds_ret (by exact (de_and (by exact (de_isi (T := "list") (by decide) (by rfl) T.z_isinstance (by rfl) T.z_list bt_list (do_var 0))) (by exact (de_and (by exact (de_cmp (od_ne hr) (do_var 0) (by exact (do_exp (by exact (de_lst df_nil)))) (nomark _))) (by exact (de_one (by exact (de_builtin (cd_all (by rfl)) (by rfl) T.z_all bt_all (by exact (da_cons (by exact (do_exp (by exact (de_lc (own := [("size", 1)]) (g := b_are_jugs_g1) (tt := b_are_jugs_t2) (te := b_are_jugs_e3) (by rfl) sc_are_jugs.nd (by exact (di_list (de_var 0))) (by exact blkOk_by (N := N_are_jugs) (sc := defScope s_are_jugs) (own := [("size", 1)]) (by decide +kernel)) (by intro _ _ _ _ _; exact (by exact (dg_name 1 sc_are_jugs.nd))) (by intro _ _ _ _ _; exact dts_nil) (by intro _ _ _ _ _; exact (by exact (de_and (by exact (de_fn (ok_is_whole T) (hr.mono (by decide)) hg (by rfl) T.g_is_whole T.F_is_whole.kp T.b_is_whole (by exact (df_cons (de_var 1) df_nil)))) (by exact (de_one (by exact (de_cmp (od_gt hr) (do_var 1) (by exact (do_exp de_int)) (nomark _)))))))) (by decide))))) da_nil))))))))))))))) pure_are_jugs
theorem ok_check_jugs (T : TF K mg) : GFn P w K mg base 3 T.a_check_jugs T.d_check_jugs ["jugs"] sp_check_jugs :=
  fn_ok (t := b_check_jugs) T.F_check_jugs sc_check_jugs (fun cdv A outer s H hg hr =>
  (by exact (dss_one (by exact (ds_if (by exact (dt_not (by exact (dt_val (by exact (de_fn (ok_are_jugs T) (hr.mono (by decide)) hg (by rfl) T.g_are_jugs T.F_are_jugs.kp T.b_are_jugs (by exact (df_cons (de_var 0) df_nil)))))))) (by exact (dss_one ds_never)) dss_nil))))) pure_check_jugs
theorem ok_is_count (T : TF K mg) : GFn P w K mg base 2 T.a_is_count T.d_is_count ["value"] sp_is_count :=
  fn_ok (t := b_is_count) T.F_is_count sc_is_count (fun cdv A outer s H hg hr =>
  (by exact (dss_one (by exact (ds_ret (by exact (de_and (by exact (de_fn (ok_is_whole T) (hr.mono (by decide)) hg (by rfl) T.g_is_whole T.F_is_whole.kp T.b_is_whole (by exact (df_cons (de_var 0) df_nil)))) (by exact (de_one (by exact (de_cmp (od_ge hr) (do_var 0) (by exact (do_exp de_int)) (nomark _)))))))))))) pure_is_count
theorem ok_check_number (T : TF K mg) : GFn P w K mg base 3 T.a_check_number T.d_check_number ["value"] sp_check_number :=
  fn_ok (t := b_check_number) T.F_check_number sc_check_number (fun cdv A outer s H hg hr =>
  (by exact (dss_one (by exact (ds_if (by exact (dt_not (by exact (dt_val (by exact (de_fn (ok_is_count T) (hr.mono (by decide)) hg (by rfl) T.g_is_count T.F_is_count.kp T.b_is_count (by exact (df_cons (de_var 0) df_nil)))))))) (by exact (dss_one ds_never)) dss_nil))))) pure_check_number
theorem ok_check_sizes (T : TF K mg) : GFn P w K mg base 4 T.a_check_sizes T.d_check_sizes ["jugs", "goal"] sp_check_sizes :=
  fn_ok (t := b_check_sizes) T.F_check_sizes sc_check_sizes (fun cdv A outer s H hg hr =>
  (by exact (dss_cons (by exact (ds_expr (by exact (de_fn (ok_check_jugs T) (hr.mono (by decide)) hg (by rfl) T.g_check_jugs T.F_check_jugs.kp T.b_check_jugs (by exact (df_cons (de_var 0) df_nil))))))
  (by exact (dss_one (by exact (ds_expr (by exact (de_fn (ok_check_number T) (hr.mono (by decide)) hg (by rfl) T.g_check_number T.F_check_number.kp T.b_check_number (by exact (df_cons (de_var 1) df_nil))))))))))) pure_check_sizes
theorem ok_common_of (T : TF K mg) : GFn P w K mg base 1 T.a_common_of T.d_common_of ["one", "other"] sp_common_of :=
  fn_ok (t := b_common_of) T.F_common_of sc_common_of (fun cdv A outer s H hg hr =>
  (by exact (dss_cons (by exact (ds_par 0 1 (by rfl) sc_common_of.nd (by exact (df_cons (by exact (de_builtin cd_abs (by rfl) T.z_abs bt_abs (by exact (da_cons (do_var 0) da_nil)))) (by exact (df_cons (by exact (de_builtin cd_abs (by rfl) T.z_abs bt_abs (by exact (da_cons (do_var 1) da_nil)))) df_nil))))))
  (by exact (dss_cons (by exact (ds_while (tc := b_common_of_C1) (tb := b_common_of_W2) PassesOwn.never (by exact (dt_cmp (od_gt hr) (do_var 1) (by exact (do_exp de_int)) (nomark _))) (by exact (dss_one (by exact (ds_par 0 1 (by rfl) sc_common_of.nd (by exact (df_cons (de_var 1) (by exact (df_cons (by exact (de_bin od_mod (do_var 0) (do_var 1))) df_nil))))))))))
  (by exact (dss_one (ds_retV 0)))))))) pure_common_of
theorem ok_common_of_sizes (T : TF K mg) : GFn P w K mg base 2 T.a_common_of_sizes T.d_common_of_sizes ["jugs"] sp_common_of_sizes :=
  fn_ok (t := b_common_of_sizes) T.F_common_of_sizes sc_common_of_sizes (fun cdv A outer s H hg hr =>
  (by exact (dss_cons (by exact (ds_set 1 sc_common_of_sizes.nd de_int))
  (by exact (dss_cons (by exact (ds_for (tb := b_common_of_sizes_F1) PassesOwn.never (by rfl) (by exact (di_list (de_var 0))) (by exact (dg_name 2 sc_common_of_sizes.nd)) (by exact (dss_one (by exact (ds_set 1 sc_common_of_sizes.nd (by exact (de_fn (ok_common_of T) (hr.mono (by decide)) hg (by rfl) T.g_common_of T.F_common_of.kp T.b_common_of (by exact (df_cons (de_var 2) (by exact (df_cons (de_var 1) df_nil))))))))))))
  (by exact (dss_one (ds_retV 1)))))))) pure_common_of_sizes
theorem ok_is_by_tap (T : TF K mg) : GFn P w K mg base 3 T.a_is_by_tap T.d_is_by_tap ["jugs", "goal"] sp_is_by_tap :=
  fn_ok (t := b_is_by_tap) T.F_is_by_tap sc_is_by_tap (fun cdv A outer s H hg hr =>
  (by exact (dss_cons (by exact (ds_if (by exact (dt_cmp (od_eq hr) (by exact (do_exp (by exact (de_builtin cd_len (by rfl) T.z_len bt_len (by exact (da_cons (do_var 0) da_nil)))))) (by exact (do_exp de_int)) (nomark _))) (by exact (dss_one (by exact (ds_ret (by exact (de_cmp (od_in hr) (do_var 1) (by exact (do_exp (by exact (de_tup (by exact (df_cons de_int (by exact (df_cons (by exact (de_ix xd_ix (do_var 0) (by exact (do_exp de_int)))) df_nil)))))))) (by with_unfolding_all rfl))))))) dss_nil))
  (by exact (dss_one (by exact (ds_ret (by exact (de_and (by exact (de_cmp (od_le hr) (do_var 1) (by exact (do_exp (by exact (de_builtin (cd_max (by rfl)) (by rfl) T.z_max bt_max (by exact (da_cons (do_var 0) da_nil)))))) (nomark _))) (by exact (de_one (by exact (de_cmp (od_eq hr) (by exact (do_exp (by exact (de_bin od_mod (do_var 1) (by exact (do_exp (by exact (de_fn (ok_common_of_sizes T) (hr.mono (by decide)) hg (by rfl) T.g_common_of_sizes T.F_common_of_sizes.kp T.b_common_of_sizes (by exact (df_cons (de_var 0) df_nil)))))))))) (by exact (do_exp de_int)) (nomark _)))))))))))))) pure_is_by_tap
theorem ok_can_by_tap (T : TF K mg) : GFn P w K mg base 5 T.a_can_by_tap T.d_can_by_tap ["jugs", "goal"] sp_can_by_tap :=
  fn_ok (t := b_can_by_tap) T.F_can_by_tap sc_can_by_tap (fun cdv A outer s H hg hr =>
  (by exact (dss_cons (by exact (ds_expr (by exact (de_fn (ok_check_sizes T) (hr.mono (by decide)) hg (by rfl) T.g_check_sizes T.F_check_sizes.kp T.b_check_sizes (by exact (df_cons (de_var 0) (by exact (df_cons (de_var 1) df_nil))))))))
  (by exact (dss_one (by exact (ds_ret (by exact (de_fn (ok_is_by_tap T) (hr.mono (by decide)) hg (by rfl) T.g_is_by_tap T.F_is_by_tap.kp T.b_is_by_tap (by exact (df_cons (de_var 0) (by exact (df_cons (de_var 1) df_nil))))))))))))) pure_can_by_tap
theorem ok_turned_back (T : TF K mg) : GFn P w K mg base 1 T.a_turned_back T.d_turned_back ["number", "modulus"] sp_turned_back :=
  fn_ok (t := b_turned_back) T.F_turned_back sc_turned_back (fun cdv A outer s H hg hr =>
  (by exact (dss_cons (by exact (ds_asg (by exact (de_tup (by exact (df_cons (by exact (de_bin od_mod (do_var 0) (do_var 1))) (by exact (df_cons (de_var 1) (by exact (df_cons de_int (by exact (df_cons de_int df_nil)))))))))) (by exact (dg_tup (by rfl) (dgs_cons (by exact (dg_name 2 sc_turned_back.nd)) (by exact (dgs_cons (by exact (dg_name 3 sc_turned_back.nd)) (by exact (dgs_cons (by exact (dg_name 4 sc_turned_back.nd)) (by exact (dgs_cons (by exact (dg_name 5 sc_turned_back.nd)) dgs_nil)))))))))))
  (by exact (dss_cons (by exact (ds_while (tc := b_turned_back_C1) (tb := b_turned_back_W2) PassesOwn.never (by exact (dt_cmp (od_gt hr) (do_var 2) (by exact (do_exp de_int)) (nomark _))) (by exact (dss_cons (by exact (ds_set 6 sc_turned_back.nd (by exact (de_bin od_div (do_var 3) (do_var 2)))))
  (by exact (dss_one (by exact (ds_asg (by exact (de_tup (by exact (df_cons (by exact (de_bin od_sub (do_var 3) (by exact (do_exp (by exact (de_bin od_mul (do_var 6) (do_var 2))))))) (by exact (df_cons (de_var 2) (by exact (df_cons (by exact (de_bin od_sub (do_var 5) (by exact (do_exp (by exact (de_bin od_mul (do_var 6) (do_var 4))))))) (by exact (df_cons (de_var 4) df_nil)))))))))) (by exact (dg_tup (by rfl) (dgs_cons (by exact (dg_name 2 sc_turned_back.nd)) (by exact (dgs_cons (by exact (dg_name 3 sc_turned_back.nd)) (by exact (dgs_cons (by exact (dg_name 4 sc_turned_back.nd)) (by exact (dgs_cons (by exact (dg_name 5 sc_turned_back.nd)) dgs_nil)))))))))))))))))
  (by exact (dss_one (by exact (ds_ret (by exact (de_bin od_mod (do_var 4) (do_var 1)))))))))))) pure_turned_back
theorem ok_straight_from (T : TF K mg) : GFn P w K mg base 2 T.a_straight_from T.d_straight_from ["one", "other", "goal"] sp_straight_from :=
  fn_ok (t := b_straight_from) T.F_straight_from sc_straight_from (fun cdv A outer s H hg hr =>
  (by exact (dss_cons (by exact (ds_set 3 sc_straight_from.nd (by exact (de_fn (ok_common_of T) (hr.mono (by decide)) hg (by rfl) T.g_common_of T.F_common_of.kp T.b_common_of (by exact (df_cons (de_var 0) (by exact (df_cons (de_var 1) df_nil))))))))
  (by exact (dss_cons (by exact (ds_if (by exact (dt_w (dw_or (by exact (dt_cmp (od_eq hr) (do_var 2) (by exact (do_exp de_int)) (nomark _))) (by exact (dw_or1 (by exact (dt_cmp (od_eq hr) (do_var 2) (do_var 0) (nomark _)))))))) (by exact (dss_one (by exact (ds_ret (by exact (de_type cd_int (by rfl) T.z_int bt_int (by exact (da_cons (by exact (do_exp (by exact (de_cmp (od_eq hr) (do_var 2) (do_var 0) (nomark _))))) da_nil)))))))) dss_nil))
  (by exact (dss_cons (by exact (ds_if (by exact (dt_cmp (od_eq hr) (do_var 2) (do_var 1) (nomark _))) (by exact (dss_one (by exact (ds_ret (by exact (de_bin od_mul (by exact (do_exp de_int)) (by exact (do_exp (by exact (de_un ud_neg (by exact (do_exp (by exact (de_bin od_div (by exact (do_exp (by exact (de_un ud_neg (do_var 1))))) (do_var 0))))))))))))))) dss_nil))
  (by exact (dss_cons (by exact (ds_if (by exact (dt_w (dw_or (by exact (dt_cmp (od_gt hr) (do_var 2) (by exact (do_exp (by exact (de_builtin (cd_max (by rfl)) (by rfl) T.z_max bt_max (by exact (da_cons (do_var 0) (by exact (da_cons (do_var 1) da_nil)))))))) (nomark _))) (by exact (dw_or1 (by exact (dt_cmp (od_ne hr) (by exact (do_exp (by exact (de_bin od_mod (do_var 2) (do_var 3))))) (by exact (do_exp de_int)) (nomark _)))))))) (by exact (dss_one (by exact (ds_ret de_non)))) dss_nil))
  (by exact (dss_cons (by exact (ds_set 4 sc_straight_from.nd (by exact (de_bin od_div (do_var 1) (do_var 3)))))
  (by exact (dss_cons (by exact (ds_set 5 sc_straight_from.nd (by exact (de_if (by exact (dt_cmp (od_gt hr) (do_var 4) (by exact (do_exp de_int)) (nomark _))) (by exact (de_bin od_mod (by exact (do_exp (by exact (de_bin od_mul (by exact (do_exp (by exact (de_bin od_div (do_var 2) (do_var 3))))) (by exact (do_exp (by exact (de_fn (ok_turned_back T) (hr.mono (by decide)) hg (by rfl) T.g_turned_back T.F_turned_back.kp T.b_turned_back (by exact (df_cons (by exact (de_bin od_div (do_var 0) (do_var 3))) (by exact (df_cons (de_var 4) df_nil)))))))))))) (do_var 4))) de_int))))
  (by exact (dss_cons (by exact (ds_set 5 sc_straight_from.nd (by exact (de_if (by exact (dt_cmp (od_gt hr) (do_var 5) (by exact (do_exp de_int)) (nomark _))) (de_var 5) (de_var 4)))))
  (by exact (dss_cons (by exact (ds_par 6 7 (by rfl) sc_straight_from.nd (by exact (df_cons (by exact (de_bin od_div (by exact (do_exp (by exact (de_bin od_sub (by exact (do_exp (by exact (de_bin od_mul (do_var 5) (do_var 0))))) (do_var 2))))) (do_var 1))) (by exact (df_cons (by exact (de_bin od_div (by exact (do_exp (by exact (de_bin od_mul (by exact (do_exp (by exact (de_bin od_sub (do_var 5) (by exact (do_exp de_int)))))) (do_var 0))))) (do_var 1))) df_nil))))))
  (by exact (dss_one (by exact (ds_ret (by exact (de_bin od_sub (by exact (do_exp (by exact (de_bin od_mul (by exact (do_exp de_int)) (by exact (do_exp (by exact (de_bin od_add (do_var 5) (do_var 6))))))))) (by exact (do_exp (by exact (de_if (by exact (dt_cmp (od_gt hr) (do_var 6) (do_var 7) (nomark _))) de_int de_int))))))))))))))))))))))))))) pure_straight_from
theorem ok_straight_pours (T : TF K mg) : GFn P w K mg base 4 T.a_straight_pours T.d_straight_pours ["one", "other", "goal"] sp_straight_pours :=
  fn_ok (t := b_straight_pours) T.F_straight_pours sc_straight_pours (fun cdv A outer s H hg hr =>
  (by exact (dss_cons (by exact (ds_for (tb := b_straight_pours_F1) PassesOwn.never (by rfl) (by exact (di_tup (by exact (de_tup (by exact (df_cons (de_var 0) (by exact (df_cons (de_var 1) df_nil)))))))) (by exact (dg_name 3 sc_straight_pours.nd)) (by exact (dss_one (by exact (ds_if (by exact (dt_w (dw_or (by exact (dt_not (by exact (dt_val (by exact (de_fn (ok_is_whole T) (hr.mono (by decide)) hg (by rfl) T.g_is_whole T.F_is_whole.kp T.b_is_whole (by exact (df_cons (de_var 3) df_nil)))))))) (by exact (dw_or1 (by exact (dt_cmp (od_lt hr) (do_var 3) (by exact (do_exp de_int)) (nomark _)))))))) (by exact (dss_one ds_never)) dss_nil))))))
  (by exact (dss_cons (by exact (ds_expr (by exact (de_fn (ok_check_number T) (hr.mono (by decide)) hg (by rfl) T.g_check_number T.F_check_number.kp T.b_check_number (by exact (df_cons (de_var 2) df_nil))))))
  (by exact (dss_one (by exact (ds_ret (by exact (de_tup (by exact (df_cons (by exact (de_fn (ok_straight_from T) (hr.mono (by decide)) hg (by rfl) T.g_straight_from T.F_straight_from.kp T.b_straight_from (by exact (df_cons (de_var 0) (by exact (df_cons (de_var 1) (by exact (df_cons (de_var 2) df_nil)))))))) (by exact (df_cons (by exact (de_fn (ok_straight_from T) (hr.mono (by decide)) hg (by rfl) T.g_straight_from T.F_straight_from.kp T.b_straight_from (by exact (df_cons (de_var 1) (by exact (df_cons (de_var 0) (by exact (df_cons (de_var 2) df_nil)))))))) df_nil))))))))))))))) pure_straight_pours
theorem ok__law_straight_right (T : TF K mg) : GFn P w K mg base 6 T.a__law_straight_right T.d__law_straight_right ["generator"] sp__law_straight_right :=
  fn_ok (t := b__law_straight_right) T.F__law_straight_right sc__law_straight_right (fun cdv A outer s H hg hr =>
  (by exact (dss_cons (by exact (ds_asg (by exact (de_fnB 0 (ok__law_sizes T) (hr.mono (by decide)) hg (by rfl) T.g__law_sizes T.F__law_sizes.kp T.b__law_sizes df_nil)) (by exact (dg_tup (by rfl) (dgs_cons (by exact (dg_name 1 sc__law_straight_right.nd)) (by exact (dgs_cons (by exact (dg_lst (by rfl) (dgs_cons (by exact (dg_name 2 sc__law_straight_right.nd)) (by exact (dgs_cons (by exact (dg_name 3 sc__law_straight_right.nd)) dgs_nil))))) dgs_nil)))))))
  (by exact (dss_cons (by exact (ds_par 1 4 (by rfl) sc__law_straight_right.nd (by exact (df_cons (by exact (de_fn (ok__law_part T) (hr.mono (by decide)) hg (by rfl) T.g__law_part T.F__law_part.kp T.b__law_part (by exact (df_cons (de_var 2) (by exact (df_cons (de_var 3) df_nil)))))) (by exact (df_cons (by exact (de_builtin (cd_max (by rfl)) (by rfl) T.z_max bt_max (by exact (da_cons (do_var 2) (by exact (da_cons (do_var 3) da_nil)))))) df_nil))))))
  (by exact (dss_cons (by exact (ds_set 5 sc__law_straight_right.nd (by exact (de_lst (by exact (df_cons de_int (by exact (df_cons (de_var 2) (by exact (df_cons (de_var 3) (by exact (df_cons (de_var 1) (by exact (df_cons (by exact (de_bin od_sub (do_var 4) (do_var 1))) (by exact (df_cons (by exact (de_bin od_add (do_var 4) (by exact (do_exp de_int)))) (by exact (df_cons (by exact (de_bin od_mul (do_var 1) (by exact (do_exp (by exact (de_fnB 0 (ok__law_random T) (hr.mono (by decide)) hg (by rfl) T.g__law_random T.F__law_random.kp T.b__law_random (by exact (df_cons (by exact (de_bin od_add (by exact (do_exp (by exact (de_bin od_div (by exact (do_exp (by exact (de_type cd_int (by rfl) T.z_int bt_int (by exact (da_cons (do_var 4) da_nil)))))) (do_var 1))))) (by exact (do_exp de_int)))) df_nil)))))))) df_nil))))))))))))))))))
  (by exact (dss_cons (by exact (ds_for (tb := b__law_straight_right_F1) PassesOwn.never (by rfl) (by exact (di_list (by exact (de_bin od_add (do_var 5) (by exact (do_exp (by exact (de_lst (by exact (df_cons (by exact (de_bin od_mul (do_var 1) (by exact (do_exp (by exact (de_fnB 0 (ok__law_random T) (hr.mono (by decide)) hg (by rfl) T.g__law_random T.F__law_random.kp T.b__law_random (by exact (df_cons (by exact (de_bin od_add (by exact (do_exp (by exact (de_bin od_div (by exact (do_exp (by exact (de_type cd_int (by rfl) T.z_int bt_int (by exact (da_cons (by exact (do_exp (by exact (de_builtin (cd_min (by rfl)) (by rfl) T.z_min bt_min (by exact (da_cons (do_var 2) (by exact (da_cons (do_var 3) da_nil)))))))) da_nil)))))) (do_var 1))))) (by exact (do_exp de_int)))) df_nil)))))))) (by exact (df_cons (by exact (de_fnB 0 (ok__law_random T) (hr.mono (by decide)) hg (by rfl) T.g__law_random T.F__law_random.kp T.b__law_random (by exact (df_cons (by exact (de_bin od_add (do_var 4) (by exact (do_exp de_int)))) df_nil)))) df_nil)))))))))))) (by exact (dg_name 6 sc__law_straight_right.nd)) (by exact (dss_cons (by exact (ds_set 7 sc__law_straight_right.nd (by exact (de_tup (by exact (df_cons (by exact (de_fn (ok__law_straight T) (hr.mono (by decide)) hg (by rfl) T.g__law_straight T.F__law_straight.kp T.b__law_straight (by exact (df_cons (de_var 2) (by exact (df_cons (de_var 3) (by exact (df_cons (de_var 6) df_nil)))))))) (by exact (df_cons (by exact (de_fn (ok__law_straight T) (hr.mono (by decide)) hg (by rfl) T.g__law_straight T.F__law_straight.kp T.b__law_straight (by exact (df_cons (de_var 3) (by exact (df_cons (de_var 2) (by exact (df_cons (de_var 6) df_nil)))))))) df_nil))))))))
  (by exact (dss_cons (by exact (ds_if (by exact (dt_cmp (od_ne hr) (by exact (do_exp (by exact (de_builtin (cd_repr hr hg) (by rfl) T.z_repr bt_repr (by exact (da_cons (by exact (do_exp (by exact (de_lst (by exact (df_cons (by exact (de_fn (ok_straight_pours T) (hr.mono (by decide)) hg (by rfl) T.g_straight_pours T.F_straight_pours.kp T.b_straight_pours (by exact (df_cons (de_var 2) (by exact (df_cons (de_var 3) (by exact (df_cons (de_var 6) df_nil)))))))) (by exact (df_cons (by exact (de_fnK0 (ok_straight_pours T) (hr.mono (by decide)) hg (by rfl) T.g_straight_pours T.F_straight_pours.kp (kw_of (n := 0) (m := 3) (idx := [2, 1, 0]) (ps := ["one", "other", "goal"]) (ks := ["goal", "other", "one"]) T.F_straight_pours (by decide) fun _ _ _ _ _ _ us ws h1 h2 => match us, ws, h1, h2 with | [], [_, _, _], _, _ => rfl) (by exact (dk_cons (de_var 6) (by exact (dk_cons (de_var 3) (by exact (dk_cons (de_var 2) dk_nil)))))))) df_nil)))))))) da_nil)))))) (by exact (do_exp (by exact (de_builtin (cd_repr hr hg) (by rfl) T.z_repr bt_repr (by exact (da_cons (by exact (do_exp (by exact (de_lst (by exact (df_cons (de_var 7) (by exact (df_cons (de_var 7) df_nil)))))))) da_nil)))))) (nomark _))) (by exact (dss_one (by exact (ds_ret de_bl)))) dss_nil))
  (by exact (dss_one (by exact (ds_if (by exact (dt_cmp (od_eq hr) (by exact (do_exp (by exact (de_cmp (od_eq hr) (do_var 7) (by exact (do_exp (by exact (de_tup (by exact (df_cons de_non (by exact (df_cons de_non df_nil)))))))) (nomark _))))) (by exact (do_exp (by exact (de_fn (ok_can_by_tap T) (hr.mono (by decide)) hg (by rfl) T.g_can_by_tap T.F_can_by_tap.kp T.b_can_by_tap (by exact (df_cons (by exact (de_lst (by exact (df_cons (de_var 2) (by exact (df_cons (de_var 3) df_nil)))))) (by exact (df_cons (de_var 6) df_nil)))))))) (nomark _))) (by exact (dss_one (by exact (ds_ret de_bl)))) dss_nil))))))))))
  (by exact (dss_one (by exact (ds_ret de_bl))))))))))))) pure__law_straight_right
theorem ok_tap_paper (T : TF K mg) : GFn P w K mg base 5 T.a_tap_paper T.d_tap_paper ["jugs", "goal"] sp_tap_paper :=
  fn_ok (t := b_tap_paper) T.F_tap_paper sc_tap_paper (fun cdv A outer s H hg hr =>
  (by exact (dss_cons (by exact (ds_expr (by exact (de_fn (ok_check_sizes T) (hr.mono (by decide)) hg (by rfl) T.g_check_sizes T.F_check_sizes.kp T.b_check_sizes (by exact (df_cons (de_var 0) (by exact (df_cons (de_var 1) df_nil))))))))
  (by exact (dss_cons (by exact (ds_if (by exact (dt_val (by exact (de_fn (ok_is_by_tap T) (hr.mono (by decide)) hg (by rfl) T.g_is_by_tap T.F_is_by_tap.kp T.b_is_by_tap (by exact (df_cons (de_var 0) (by exact (df_cons (de_var 1) df_nil)))))))) (by exact (dss_one (by exact (ds_ret de_non)))) dss_nil))
  (by exact (dss_cons (by exact (ds_if (by exact (dt_cmp (od_gt hr) (do_var 1) (by exact (do_exp (by exact (de_builtin (cd_max (by rfl)) (by rfl) T.z_max bt_max (by exact (da_cons (do_var 0) da_nil)))))) (nomark _))) (by exact (dss_one (by exact (ds_ret (by exact (de_tup (by exact (df_cons de_str (by exact (df_cons (by exact (de_builtin (cd_max (by rfl)) (by rfl) T.z_max bt_max (by exact (da_cons (do_var 0) da_nil)))) df_nil)))))))))) dss_nil))
  (by exact (dss_one (by exact (ds_ret (by exact (de_if (by exact (dt_cmp (od_eq hr) (by exact (do_exp (by exact (de_builtin cd_len (by rfl) T.z_len bt_len (by exact (da_cons (do_var 0) da_nil)))))) (by exact (do_exp de_int)) (nomark _))) (by exact (de_tup (by exact (df_cons de_str (by exact (df_cons (by exact (de_ix xd_ix (do_var 0) (by exact (do_exp de_int)))) df_nil)))))) (by exact (de_tup (by exact (df_cons de_str (by exact (df_cons (by exact (de_fn (ok_common_of_sizes T) (hr.mono (by decide)) hg (by rfl) T.g_common_of_sizes T.F_common_of_sizes.kp T.b_common_of_sizes (by exact (df_cons (de_var 0) df_nil)))) df_nil))))))))))))))))))) pure_tap_paper
theorem ok__law_is_paper (T : TF K mg) : GFn P w K mg base 1 T.a__law_is_paper T.d__law_is_paper ["jugs", "goal", "value"] sp__law_is_paper :=
  fn_ok (t := b__law_is_paper) T.F__law_is_paper sc__law_is_paper (fun cdv A outer s H hg hr =>
  (by exact (dss_cons (by exact (ds_if (by exact (dt_w (dw_or (by exact (dt_not (by exact (dt_val (by exact (de_isi (T := "tuple") (by decide) (by rfl) T.z_isinstance (by rfl) T.z_tuple bt_tuple (do_var 2))))))) (by exact (dw_or (by exact (dt_cmp (od_ne hr) (by exact (do_exp (by exact (de_builtin cd_len (by rfl) T.z_len bt_len (by exact (da_cons (do_var 2) da_nil)))))) (by exact (do_exp de_int)) (nomark _))) (by exact (dw_or (by exact (dt_not (by exact (dt_val (by exact (de_isi (T := "str") (by decide) (by rfl) T.z_isinstance (by rfl) T.z_str bt_str (by exact (do_exp (by exact (de_ix xd_ix (do_var 2) (by exact (do_exp de_int)))))))))))) (by exact (dw_or (by exact (dt_not (by exact (dt_val (by exact (de_isi (T := "int") (by decide) (by rfl) T.z_isinstance (by rfl) T.z_int bt_int (by exact (do_exp (by exact (de_ix xd_ix (do_var 2) (by exact (do_exp de_int)))))))))))) (by exact (dw_or1 (by exact (dt_val (by exact (de_isi (T := "bool") (by decide) (by rfl) T.z_isinstance (by rfl) T.z_bool bt_bool (by exact (do_exp (by exact (de_ix xd_ix (do_var 2) (by exact (do_exp de_int))))))))))))))))))))) (by exact (dss_one (by exact (ds_ret de_bl)))) dss_nil))
  (by exact (dss_cons (by exact (ds_asg (de_var 2) (by exact (dg_tup (by rfl) (dgs_cons (by exact (dg_name 3 sc__law_is_paper.nd)) (by exact (dgs_cons (by exact (dg_name 4 sc__law_is_paper.nd)) dgs_nil)))))))
  (by exact (dss_cons (by exact (ds_if (by exact (dt_cmp (od_eq hr) (do_var 3) (by exact (do_exp de_str)) (nomark _))) (by exact (dss_one (by exact (ds_ret (by exact (de_chain (od_le hr) (od_lt hr) (by exact (do_exp (by exact (de_builtin (cd_max (by rfl)) (by rfl) T.z_max bt_max (by exact (da_cons (do_var 0) da_nil)))))) (do_var 4) (do_var 1))))))) dss_nil))
  (by exact (dss_cons (by exact (ds_if (by exact (dt_cmp (od_eq hr) (do_var 3) (by exact (do_exp de_str)) (nomark _))) (by exact (dss_one (by exact (ds_ret (by exact (de_and (by exact (de_cmp (od_eq hr) (do_var 0) (by exact (do_exp (by exact (de_lst (by exact (df_cons (de_var 4) df_nil)))))) (nomark _))) (by exact (de_one (by exact (de_cmp (od_notIn hr) (do_var 1) (by exact (do_exp (by exact (de_tup (by exact (df_cons de_int (by exact (df_cons (de_var 4) df_nil)))))))) (by with_unfolding_all rfl))))))))))) dss_nil))
  (by exact (dss_one (by exact (ds_ret (by exact (de_and (by exact (de_cmp (od_eq hr) (do_var 3) (by exact (do_exp de_str)) (nomark _))) (by exact (de_and (by exact (de_cmp (od_ge hr) (do_var 4) (by exact (do_exp de_int)) (nomark _))) (by exact (de_and (by exact (de_cmp (od_eq hr) (by exact (do_exp (by exact (de_lc (own := [("jug", 5)]) (g := b__law_is_paper_g1) (tt := b__law_is_paper_t2) (te := b__law_is_paper_e3) (by rfl) sc__law_is_paper.nd (by exact (di_list (de_var 0))) (by exact blkOk_by (N := N__law_is_paper) (sc := defScope s__law_is_paper) (own := [("jug", 5)]) (by decide +kernel)) (by intro _ _ _ _ _; exact (by exact (dg_name 5 sc__law_is_paper.nd))) (by intro _ _ _ _ _; exact (dts_one (by exact (dt_cmp (od_gt hr) (by exact (do_exp (by exact (de_bin od_mod (by exact (do_exp (by exact (de_type cd_int (by rfl) T.z_int bt_int (by exact (da_cons (do_var 5) da_nil)))))) (do_var 4))))) (by exact (do_exp de_int)) (nomark _))))) (by intro _ _ _ _ _; exact (de_var 5)) (by decide))))) (by exact (do_exp (by exact (de_lst df_nil)))) (nomark _))) (by exact (de_one (by exact (de_cmp (od_gt hr) (by exact (do_exp (by exact (de_bin od_mod (by exact (do_exp (by exact (de_type cd_int (by rfl) T.z_int bt_int (by exact (da_cons (do_var 1) da_nil)))))) (do_var 4))))) (by exact (do_exp de_int)) (nomark _)))))))))))))))))))))))) pure__law_is_paper
theorem ok_is_tap_paper (T : TF K mg) : GFn P w K mg base 5 T.a_is_tap_paper T.d_is_tap_paper ["jugs", "goal", "value"] sp_is_tap_paper :=
  fn_ok (t := b_is_tap_paper) T.F_is_tap_paper sc_is_tap_paper (fun cdv A outer s H hg hr =>
  (by exact (dss_cons (by exact (ds_expr (by exact (de_fn (ok_check_sizes T) (hr.mono (by decide)) hg (by rfl) T.g_check_sizes T.F_check_sizes.kp T.b_check_sizes (by exact (df_cons (de_var 0) (by exact (df_cons (de_var 1) df_nil))))))))
  (by exact (dss_cons (by exact (ds_if (by exact (dt_w (dw_or (by exact (dt_not (by exact (dt_val (by exact (de_isi (T := "tuple") (by decide) (by rfl) T.z_isinstance (by rfl) T.z_tuple bt_tuple (do_var 2))))))) (by exact (dw_or (by exact (dt_cmp (od_ne hr) (by exact (do_exp (by exact (de_builtin cd_len (by rfl) T.z_len bt_len (by exact (da_cons (do_var 2) da_nil)))))) (by exact (do_exp de_int)) (nomark _))) (by exact (dw_or1 (by exact (dt_not (by exact (dt_val (by exact (de_isi (T := "str") (by decide) (by rfl) T.z_isinstance (by rfl) T.z_str bt_str (by exact (do_exp (by exact (de_ix xd_ix (do_var 2) (by exact (do_exp de_int))))))))))))))))))) (by exact (dss_one (by exact (ds_ret de_bl)))) dss_nil))
  (by exact (dss_cons (by exact (ds_asg (de_var 2) (by exact (dg_tup (by rfl) (dgs_cons (by exact (dg_name 3 sc_is_tap_paper.nd)) (by exact (dgs_cons (by exact (dg_name 4 sc_is_tap_paper.nd)) dgs_nil)))))))
  (by exact (dss_cons (by exact (ds_if (by exact (dt_w (dw_or (by exact (dt_not (by exact (dt_val (by exact (de_fn (ok_is_whole T) (hr.mono (by decide)) hg (by rfl) T.g_is_whole T.F_is_whole.kp T.b_is_whole (by exact (df_cons (de_var 4) df_nil)))))))) (by exact (dw_or1 (by exact (dt_cmp (od_lt hr) (do_var 4) (by exact (do_exp de_int)) (nomark _)))))))) (by exact (dss_one (by exact (ds_ret de_bl)))) dss_nil))
  (by exact (dss_cons (by exact (ds_if (by exact (dt_cmp (od_eq hr) (do_var 3) (by exact (do_exp de_str)) (nomark _))) (by exact (dss_one (by exact (ds_ret (by exact (de_and (by exact (de_builtin (cd_all (by rfl)) (by rfl) T.z_all bt_all (by exact (da_cons (by exact (do_exp (by exact (de_lc (own := [("size", 5)]) (g := b_is_tap_paper_g1) (tt := b_is_tap_paper_t2) (te := b_is_tap_paper_e3) (by rfl) sc_is_tap_paper.nd (by exact (di_list (de_var 0))) (by exact blkOk_by (N := N_is_tap_paper) (sc := defScope s_is_tap_paper) (own := [("size", 5)]) (by decide +kernel)) (by intro _ _ _ _ _; exact (by exact (dg_name 5 sc_is_tap_paper.nd))) (by intro _ _ _ _ _; exact dts_nil) (by intro _ _ _ _ _; exact (by exact (de_cmp (od_le hr) (do_var 5) (do_var 4) (nomark _)))) (by decide))))) da_nil)))) (by exact (de_one (by exact (de_cmp (od_lt hr) (do_var 4) (do_var 1) (nomark _))))))))))) dss_nil))
  (by exact (dss_cons (by exact (ds_if (by exact (dt_cmp (od_eq hr) (do_var 3) (by exact (do_exp de_str)) (nomark _))) (by exact (dss_one (by exact (ds_ret (by exact (de_and (by exact (de_cmp (od_eq hr) (do_var 0) (by exact (do_exp (by exact (de_lst (by exact (df_cons (de_var 4) df_nil)))))) (nomark _))) (by exact (de_one (by exact (de_cmp (od_notIn hr) (do_var 1) (by exact (do_exp (by exact (de_tup (by exact (df_cons de_int (by exact (df_cons (de_var 4) df_nil)))))))) (by with_unfolding_all rfl))))))))))) dss_nil))
  (by exact (dss_one (by exact (ds_ret (by exact (de_and (by exact (de_cmp (od_eq hr) (do_var 3) (by exact (do_exp de_str)) (nomark _))) (by exact (de_and (by exact (de_builtin (cd_all (by rfl)) (by rfl) T.z_all bt_all (by exact (da_cons (by exact (do_exp (by exact (de_lc (own := [("size", 5)]) (g := b_is_tap_paper_g4) (tt := b_is_tap_paper_t5) (te := b_is_tap_paper_e6) (by rfl) sc_is_tap_paper.nd (by exact (di_list (de_var 0))) (by exact blkOk_by (N := N_is_tap_paper) (sc := defScope s_is_tap_paper) (own := [("size", 5)]) (by decide +kernel)) (by intro _ _ _ _ _; exact (by exact (dg_name 5 sc_is_tap_paper.nd))) (by intro _ _ _ _ _; exact dts_nil) (by intro _ _ _ _ _; exact (by exact (de_cmp (od_eq hr) (by exact (do_exp (by exact (de_bin od_mod (do_var 5) (do_var 4))))) (by exact (do_exp de_int)) (nomark _)))) (by decide))))) da_nil)))) (by exact (de_one (by exact (de_cmp (od_ne hr) (by exact (do_exp (by exact (de_bin od_mod (do_var 1) (do_var 4))))) (by exact (do_exp de_int)) (nomark _)))))))))))))))))))))))))) pure_is_tap_paper
theorem ok__law_tap_right (T : TF K mg) : GFn P w K mg base 6 T.a__law_tap_right T.d__law_tap_right ["generator"] sp__law_tap_right :=
  fn_ok (t := b__law_tap_right) T.F__law_tap_right sc__law_tap_right (fun cdv A outer s H hg hr =>
  (by exact (dss_cons (by exact (ds_set 1 sc__law_tap_right.nd (by exact (de_fnB 0 (ok__law_pick T) (hr.mono (by decide)) hg (by rfl) T.g__law_pick T.F__law_pick.kp T.b__law_pick (by exact (df_cons (by exact (de_lst (by exact (df_cons de_int (by exact (df_cons de_int (by exact (df_cons de_int (by exact (df_cons de_int (by exact (df_cons (by exact (de_bin od_pow (by exact (do_exp de_int)) (by exact (do_exp de_int)))) df_nil)))))))))))) df_nil))))))
  (by exact (dss_cons (by exact (ds_setLc (i := 2) (own := [("jug", 5)]) (g := b__law_tap_right_g1) (tt := b__law_tap_right_t2) (te := b__law_tap_right_e3) (by rfl) sc__law_tap_right.nd (by rfl) (by rfl) (by exact sw_true (by rfl) (by rfl) (by rfl) (by decide +kernel)) (by exact (di_range1 (by rfl) T.z_range (by exact (de_bin od_add (by exact (do_exp de_int)) (by exact (do_exp (by exact (de_fnB 0 (ok__law_random T) (hr.mono (by decide)) hg (by rfl) T.g__law_random T.F__law_random.kp T.b__law_random (by exact (df_cons de_int df_nil)))))))))) (by exact blkOk_by (N := N__law_tap_right) (sc := defScope s__law_tap_right) (own := [("jug", 5)]) (by decide +kernel)) (by intro _ _ _ _ _; exact (by exact (dg_name 5 sc__law_tap_right.nd))) (by intro _ _ _ _ _; exact dts_nil) (by intro _ _ _ _ _; exact (by exact (de_bin od_mul (do_var 1) (by exact (do_exp (by exact (de_bin od_add (by exact (do_exp de_int)) (by exact (do_exp (by exact (de_fnB 0 (ok__law_random T) (hr.mono (by decide)) hg (by rfl) T.g__law_random T.F__law_random.kp T.b__law_random (by exact (df_cons (by exact (de_fnB 0 (ok__law_pick T) (hr.mono (by decide)) hg (by rfl) T.g__law_pick T.F__law_pick.kp T.b__law_pick (by exact (df_cons (by exact (de_lst (by exact (df_cons de_int (by exact (df_cons de_int (by exact (df_cons (by exact (de_bin od_pow (by exact (do_exp de_int)) (by exact (do_exp de_int)))) df_nil)))))))) df_nil)))) df_nil))))))))))))) (by decide)))
  (by exact (dss_cons (by exact (ds_par 3 4 (by rfl) sc__law_tap_right.nd (by exact (df_cons de_int (by exact (df_cons (by exact (de_builtin (cd_repr hr hg) (by rfl) T.z_repr bt_repr (by exact (da_cons (do_var 2) da_nil)))) df_nil))))))
  (by exact (dss_cons (by exact (ds_for (tb := b__law_tap_right_F4) PassesOwn.never (by rfl) (by exact (di_list (de_var 2))) (by exact (dg_name 5 sc__law_tap_right.nd)) (by exact (dss_one (by exact (ds_set 3 sc__law_tap_right.nd (by exact (de_fn (ok__law_part T) (hr.mono (by decide)) hg (by rfl) T.g__law_part T.F__law_part.kp T.b__law_part (by exact (df_cons (de_var 5) (by exact (df_cons (de_var 3) df_nil))))))))))))
  (by exact (dss_cons (by exact (ds_for (tb := b__law_tap_right_F6) PassesOwn.never (by rfl) (by exact (di_list (by exact (de_lst (by exact (df_cons de_int (by exact (df_cons (by exact (de_builtin (cd_max (by rfl)) (by rfl) T.z_max bt_max (by exact (da_cons (do_var 2) da_nil)))) (by exact (df_cons (by exact (de_bin od_add (by exact (do_exp (by exact (de_builtin (cd_max (by rfl)) (by rfl) T.z_max bt_max (by exact (da_cons (do_var 2) da_nil)))))) (do_var 3))) (by exact (df_cons (by exact (de_ix xd_ix (do_var 2) (by exact (do_exp de_int)))) (by exact (df_cons (by exact (de_bin od_mul (do_var 3) (by exact (do_exp (by exact (de_fnB 0 (ok__law_random T) (hr.mono (by decide)) hg (by rfl) T.g__law_random T.F__law_random.kp T.b__law_random (by exact (df_cons (by exact (de_bin od_add (by exact (do_exp (by exact (de_bin od_div (by exact (do_exp (by exact (de_type cd_int (by rfl) T.z_int bt_int (by exact (da_cons (by exact (do_exp (by exact (de_builtin (cd_max (by rfl)) (by rfl) T.z_max bt_max (by exact (da_cons (do_var 2) da_nil)))))) da_nil)))))) (do_var 3))))) (by exact (do_exp de_int)))) df_nil)))))))) (by exact (df_cons (by exact (de_fnB 0 (ok__law_random T) (hr.mono (by decide)) hg (by rfl) T.g__law_random T.F__law_random.kp T.b__law_random (by exact (df_cons (by exact (de_bin od_add (by exact (do_exp (by exact (de_builtin (cd_max (by rfl)) (by rfl) T.z_max bt_max (by exact (da_cons (do_var 2) da_nil)))))) (by exact (do_exp de_int)))) df_nil)))) (by exact (df_cons (by exact (de_bin od_add (do_var 3) (by exact (do_exp de_int)))) (by exact (df_cons (by exact (de_bin od_sub (by exact (do_exp (by exact (de_bin od_pow (by exact (do_exp de_int)) (by exact (do_exp de_int)))))) (by exact (do_exp de_int)))) df_nil)))))))))))))))))))) (by exact (dg_name 6 sc__law_tap_right.nd)) (by exact (dss_cons (by exact (ds_set 7 sc__law_tap_right.nd (by exact (de_if (by exact (dt_cmp (od_eq hr) (by exact (do_exp (by exact (de_builtin cd_len (by rfl) T.z_len bt_len (by exact (da_cons (do_var 2) da_nil)))))) (by exact (do_exp de_int)) (nomark _))) (by exact (de_cmp (od_in hr) (do_var 6) (by exact (do_exp (by exact (de_tup (by exact (df_cons de_int (by exact (df_cons (by exact (de_ix xd_ix (do_var 2) (by exact (do_exp de_int)))) df_nil)))))))) (by with_unfolding_all rfl))) (by exact (de_and (by exact (de_cmp (od_le hr) (do_var 6) (by exact (do_exp (by exact (de_builtin (cd_max (by rfl)) (by rfl) T.z_max bt_max (by exact (da_cons (do_var 2) da_nil)))))) (nomark _))) (by exact (de_one (by exact (de_cmp (od_eq hr) (by exact (do_exp (by exact (de_bin od_mod (by exact (do_exp (by exact (de_type cd_int (by rfl) T.z_int bt_int (by exact (da_cons (do_var 6) da_nil)))))) (do_var 3))))) (by exact (do_exp de_int)) (nomark _)))))))))))
  (by exact (dss_cons (by exact (ds_set 8 sc__law_tap_right.nd (by exact (de_fn (ok_tap_paper T) (hr.mono (by decide)) hg (by rfl) T.g_tap_paper T.F_tap_paper.kp T.b_tap_paper (by exact (df_cons (de_var 2) (by exact (df_cons (de_var 6) df_nil))))))))
  (by exact (dss_cons (by exact (ds_if (by exact (dt_w (dw_or (by exact (dt_cmp (od_ne hr) (by exact (do_exp (by exact (de_builtin (cd_repr hr hg) (by rfl) T.z_repr bt_repr (by exact (da_cons (by exact (do_exp (by exact (de_lst (by exact (df_cons (by exact (de_fn (ok_can_by_tap T) (hr.mono (by decide)) hg (by rfl) T.g_can_by_tap T.F_can_by_tap.kp T.b_can_by_tap (by exact (df_cons (de_var 2) (by exact (df_cons (de_var 6) df_nil)))))) (by exact (df_cons (by exact (de_fnK0 (ok_can_by_tap T) (hr.mono (by decide)) hg (by rfl) T.g_can_by_tap T.F_can_by_tap.kp (kw_of (n := 0) (m := 2) (idx := [1, 0]) (ps := ["jugs", "goal"]) (ks := ["goal", "jugs"]) T.F_can_by_tap (by decide) fun _ _ _ _ _ _ us ws h1 h2 => match us, ws, h1, h2 with | [], [_, _], _, _ => rfl) (by exact (dk_cons (de_var 6) (by exact (dk_cons (de_var 2) dk_nil)))))) df_nil)))))))) da_nil)))))) (by exact (do_exp (by exact (de_builtin (cd_repr hr hg) (by rfl) T.z_repr bt_repr (by exact (da_cons (by exact (do_exp (by exact (de_lst (by exact (df_cons (de_var 7) (by exact (df_cons (de_var 7) df_nil)))))))) da_nil)))))) (nomark _))) (by exact (dw_or (by exact (dt_cmp (od_ne hr) (by exact (do_exp (by exact (de_cmp od_is (do_var 8) (by exact (do_exp de_non)) (nomark _))))) (do_var 7) (nomark _))) (by exact (dw_or1 (by exact (dt_cmp (od_ne hr) (by exact (do_exp (by exact (de_builtin (cd_repr hr hg) (by rfl) T.z_repr bt_repr (by exact (da_cons (by exact (do_exp (by exact (de_fnK0 (ok_tap_paper T) (hr.mono (by decide)) hg (by rfl) T.g_tap_paper T.F_tap_paper.kp (kw_of (n := 0) (m := 2) (idx := [1, 0]) (ps := ["jugs", "goal"]) (ks := ["goal", "jugs"]) T.F_tap_paper (by decide) fun _ _ _ _ _ _ us ws h1 h2 => match us, ws, h1, h2 with | [], [_, _], _, _ => rfl) (by exact (dk_cons (de_var 6) (by exact (dk_cons (de_var 2) dk_nil)))))))) da_nil)))))) (by exact (do_exp (by exact (de_builtin (cd_repr hr hg) (by rfl) T.z_repr bt_repr (by exact (da_cons (do_var 8) da_nil)))))) (nomark _)))))))))) (by exact (dss_one (by exact (ds_ret de_bl)))) dss_nil))
  (by exact (dss_cons (by exact (ds_if (by exact (dt_w (dw_and (by exact (dt_cmp od_isN (do_var 8) (by exact (do_exp de_non)) (nomark _))) (by exact (dw_and1 (by exact (dt_not (by exact (dt_val (by exact (de_fn (ok__law_is_paper T) (hr.mono (by decide)) hg (by rfl) T.g__law_is_paper T.F__law_is_paper.kp T.b__law_is_paper (by exact (df_cons (de_var 2) (by exact (df_cons (de_var 6) (by exact (df_cons (de_var 8) df_nil))))))))))))))))) (by exact (dss_one (by exact (ds_ret de_bl)))) dss_nil))
  (by exact (dss_cons (by exact (ds_set 9 sc__law_tap_right.nd (by exact (de_lst (by exact (df_cons (de_var 8) (by exact (df_cons (by exact (de_tup (by exact (df_cons de_str (by exact (df_cons (by exact (de_bin od_sub (do_var 6) (by exact (do_exp de_int)))) df_nil)))))) (by exact (df_cons (by exact (de_tup (by exact (df_cons de_str (by exact (df_cons (by exact (de_builtin (cd_max (by rfl)) (by rfl) T.z_max bt_max (by exact (da_cons (do_var 2) da_nil)))) df_nil)))))) (by exact (df_cons (by exact (de_tup (by exact (df_cons de_str (by exact (df_cons (by exact (de_bin od_sub (by exact (do_exp (by exact (de_builtin (cd_max (by rfl)) (by rfl) T.z_max bt_max (by exact (da_cons (do_var 2) da_nil)))))) (by exact (do_exp de_int)))) df_nil)))))) (by exact (df_cons (by exact (de_tup (by exact (df_cons de_str (by exact (df_cons (de_var 6) df_nil)))))) (by exact (df_cons (by exact (de_tup (by exact (df_cons de_str (by exact (df_cons (by exact (de_ix xd_ix (do_var 2) (by exact (do_exp de_int)))) df_nil)))))) (by exact (df_cons (by exact (de_tup (by exact (df_cons de_str (by exact (df_cons (de_var 3) df_nil)))))) (by exact (df_cons (by exact (de_tup (by exact (df_cons de_str (by exact (df_cons de_int df_nil)))))) df_nil))))))))))))))))))))
  (by exact (dss_cons (by exact (ds_set 9 sc__law_tap_right.nd (by exact (de_bin od_add (do_var 9) (by exact (do_exp (by exact (de_lst (by exact (df_cons (by exact (de_tup (by exact (df_cons de_str (by exact (df_cons de_int df_nil)))))) (by exact (df_cons (by exact (de_tup (by exact (df_cons de_str (by exact (df_cons (by exact (de_bin od_sub (by exact (do_exp de_int)) (do_var 3))) df_nil)))))) (by exact (df_cons (by exact (de_tup (by exact (df_cons de_str (by exact (df_cons de_int df_nil)))))) (by exact (df_cons (by exact (de_tup (by exact (df_cons de_str (by exact (df_cons (de_var 1) df_nil)))))) df_nil))))))))))))))))
  (by exact (dss_one (by exact (ds_for (tb := b__law_tap_right_F5) PassesOwn.never (by rfl) (by exact (di_list (by exact (de_bin od_add (do_var 9) (by exact (do_exp (by exact (de_lst (by exact (df_cons (by exact (de_tup (by exact (df_cons de_str (by exact (df_cons de_bl df_nil)))))) (by exact (df_cons (by exact (de_lst (by exact (df_cons de_str (by exact (df_cons (de_var 3) df_nil)))))) (by exact (df_cons (by exact (de_tup (by exact (df_cons de_str df_nil)))) (by exact (df_cons (by exact (de_tup (by exact (df_cons de_str (by exact (df_cons (de_var 3) (by exact (df_cons de_int df_nil)))))))) (by exact (df_cons de_str (by exact (df_cons de_non (by exact (df_cons (by exact (de_tup (by exact (df_cons de_str (by exact (df_cons (by exact (de_builtin (cd_max (by rfl)) (by rfl) T.z_max bt_max (by exact (da_cons (do_var 2) da_nil)))) df_nil)))))) (by exact (df_cons (by exact (de_tup (by exact (df_cons de_str (by exact (df_cons (by exact (de_type cd_str (by rfl) T.z_str bt_str (by exact (da_cons (do_var 3) da_nil)))) df_nil)))))) (by exact (df_cons (by exact (de_tup (by exact (df_cons de_str (by exact (df_cons (by exact (de_bin od_mul (by exact (do_exp de_int)) (do_var 3))) df_nil)))))) df_nil)))))))))))))))))))))))))) (by exact (dg_name 10 sc__law_tap_right.nd)) (by exact (dss_one (by exact (ds_if (by exact (dt_cmp (od_ne hr) (by exact (do_exp (by exact (de_builtin (cd_repr hr hg) (by rfl) T.z_repr bt_repr (by exact (da_cons (by exact (do_exp (by exact (de_lst (by exact (df_cons (by exact (de_fn (ok_is_tap_paper T) (hr.mono (by decide)) hg (by rfl) T.g_is_tap_paper T.F_is_tap_paper.kp T.b_is_tap_paper (by exact (df_cons (de_var 2) (by exact (df_cons (de_var 6) (by exact (df_cons (de_var 10) df_nil)))))))) (by exact (df_cons (by exact (de_fnK0 (ok_is_tap_paper T) (hr.mono (by decide)) hg (by rfl) T.g_is_tap_paper T.F_is_tap_paper.kp (kw_of (n := 0) (m := 3) (idx := [2, 1, 0]) (ps := ["jugs", "goal", "value"]) (ks := ["value", "goal", "jugs"]) T.F_is_tap_paper (by decide) fun _ _ _ _ _ _ us ws h1 h2 => match us, ws, h1, h2 with | [], [_, _, _], _, _ => rfl) (by exact (dk_cons (de_var 10) (by exact (dk_cons (de_var 6) (by exact (dk_cons (de_var 2) dk_nil)))))))) df_nil)))))))) da_nil)))))) (by exact (do_exp (by exact (de_builtin (cd_repr hr hg) (by rfl) T.z_repr bt_repr (by exact (da_cons (by exact (do_exp (by exact (de_bin od_mul (by exact (do_exp (by exact (de_lst (by exact (df_cons (by exact (de_fn (ok__law_is_paper T) (hr.mono (by decide)) hg (by rfl) T.g__law_is_paper T.F__law_is_paper.kp T.b__law_is_paper (by exact (df_cons (de_var 2) (by exact (df_cons (de_var 6) (by exact (df_cons (de_var 10) df_nil)))))))) df_nil)))))) (by exact (do_exp de_int)))))) da_nil)))))) (nomark _))) (by exact (dss_one (by exact (ds_ret de_bl)))) dss_nil))))))))))))))))))))))
  (by exact (dss_one (by exact (ds_ret (by exact (de_cmp (od_eq hr) (by exact (do_exp (by exact (de_builtin (cd_repr hr hg) (by rfl) T.z_repr bt_repr (by exact (da_cons (do_var 2) da_nil)))))) (do_var 4) (nomark _)))))))))))))))))) pure__law_tap_right
theorem ok_law (T : TF K mg) : GFn P w K mg base 7 T.a_law T.d_law ["script"] sp_law :=
  fn_ok (t := b_law) T.F_law sc_law (fun cdv A outer s H hg hr =>
  (by exact (dss_cons (by exact (ds_for (tb := b_law_F1) PassesOwn.never (by rfl) (by exact (di_range1 (by rfl) T.z_range de_int)) (by exact (dg_name 1 sc_law.nd)) (by exact (dss_cons (by exact (ds_set 2 sc_law.nd (by exact (de_fn (ok__law_generator T) (hr.mono (by decide)) hg (by rfl) T.g__law_generator T.F__law_generator.kp T.b__law_generator (by exact (df_cons (de_var 0) (by exact (df_cons (de_var 1) df_nil))))))))
  (by exact (dss_one (by exact (ds_if (by exact (dt_w (dw_or (by exact (dt_not (by exact (dt_val (by exact (de_fnB 2 (ok__law_straight_right T) (hr.mono (by decide)) hg (by rfl) T.g__law_straight_right T.F__law_straight_right.kp T.b__law_straight_right df_nil)))))) (by exact (dw_or (by exact (dt_not (by exact (dt_val (by exact (de_fnB 2 (ok__law_straight_right T) (hr.mono (by decide)) hg (by rfl) T.g__law_straight_right T.F__law_straight_right.kp T.b__law_straight_right df_nil)))))) (by exact (dw_or1 (by exact (dt_not (by exact (dt_val (by exact (de_fnB 2 (ok__law_tap_right T) (hr.mono (by decide)) hg (by rfl) T.g__law_tap_right T.F__law_tap_right.kp T.b__law_tap_right df_nil))))))))))))) (by exact (dss_one (by exact (ds_ret de_bl)))) dss_nil))))))))
  (by exact (dss_one (by exact (ds_ret de_bl))))))) pure_law

theorem facts {P : Program} {w : World} {K : Fg} {h : Heap} {mg : Str → Option Value} {fa : Addr} (X : K.In h) (G : h.Ns mainGlobals mg) (hfa : mg "law" = some (.ref fa))
    {od__law_cell an__law_cell : Option Addr} {sl__law_cell : Array (Option Value)} {oc__law_cell kV__law_cell dc__law_cell pm__law_cell cd__law_cell ct__law_cell : Value} {f__law_cell : Addr}
    (a__law_cell : PySem.W.nsIn K mainGlobals "_law_cell" = some (some (.ref f__law_cell))) (l__law_cell : K.lookup f__law_cell = some ⟨oc__law_cell, od__law_cell, .func (PySem.W.fnOf "_law_cell" "_law_cell" (defArgs s__law_cell) (defBody s__law_cell) (defScope s__law_cell) .none kV__law_cell dc__law_cell pm__law_cell an__law_cell cd__law_cell ct__law_cell), sl__law_cell⟩) (cc__law_cell : PySem.W.codeIn K cd__law_cell "_law_cell" = true) (k__law_cell : PySem.W.keepIn K (.ref f__law_cell) = true)
    {od__law_generator an__law_generator : Option Addr} {sl__law_generator : Array (Option Value)} {oc__law_generator kV__law_generator dc__law_generator pm__law_generator cd__law_generator ct__law_generator : Value} {f__law_generator : Addr}
    (a__law_generator : PySem.W.nsIn K mainGlobals "_law_generator" = some (some (.ref f__law_generator))) (l__law_generator : K.lookup f__law_generator = some ⟨oc__law_generator, od__law_generator, .func (PySem.W.fnOf "_law_generator" "_law_generator" (defArgs s__law_generator) (defBody s__law_generator) (defScope s__law_generator) .none kV__law_generator dc__law_generator pm__law_generator an__law_generator cd__law_generator ct__law_generator), sl__law_generator⟩) (cc__law_generator : PySem.W.codeIn K cd__law_generator "_law_generator" = true) (k__law_generator : PySem.W.keepIn K (.ref f__law_generator) = true)
    {od__law_hash an__law_hash : Option Addr} {sl__law_hash : Array (Option Value)} {oc__law_hash kV__law_hash dc__law_hash pm__law_hash cd__law_hash ct__law_hash : Value} {f__law_hash : Addr}
    (a__law_hash : PySem.W.nsIn K mainGlobals "_law_hash" = some (some (.ref f__law_hash))) (l__law_hash : K.lookup f__law_hash = some ⟨oc__law_hash, od__law_hash, .func (PySem.W.fnOf "_law_hash" "_law_hash" (defArgs s__law_hash) (defBody s__law_hash) (defScope s__law_hash) .none kV__law_hash dc__law_hash pm__law_hash an__law_hash cd__law_hash ct__law_hash), sl__law_hash⟩) (cc__law_hash : PySem.W.codeIn K cd__law_hash "_law_hash" = true) (k__law_hash : PySem.W.keepIn K (.ref f__law_hash) = true)
    {od__law_random an__law_random : Option Addr} {sl__law_random : Array (Option Value)} {oc__law_random kV__law_random dc__law_random pm__law_random cd__law_random ct__law_random : Value} {f__law_random : Addr}
    (a__law_random : PySem.W.nsIn K mainGlobals "_law_random" = some (some (.ref f__law_random))) (l__law_random : K.lookup f__law_random = some ⟨oc__law_random, od__law_random, .func (PySem.W.fnOf "_law_random" "_law_random" (defArgs s__law_random) (defBody s__law_random) (defScope s__law_random) .none kV__law_random dc__law_random pm__law_random an__law_random cd__law_random ct__law_random), sl__law_random⟩) (cc__law_random : PySem.W.codeIn K cd__law_random "_law_random" = true) (k__law_random : PySem.W.keepIn K (.ref f__law_random) = true)
    {od__law_pick an__law_pick : Option Addr} {sl__law_pick : Array (Option Value)} {oc__law_pick kV__law_pick dc__law_pick pm__law_pick cd__law_pick ct__law_pick : Value} {f__law_pick : Addr}
    (a__law_pick : PySem.W.nsIn K mainGlobals "_law_pick" = some (some (.ref f__law_pick))) (l__law_pick : K.lookup f__law_pick = some ⟨oc__law_pick, od__law_pick, .func (PySem.W.fnOf "_law_pick" "_law_pick" (defArgs s__law_pick) (defBody s__law_pick) (defScope s__law_pick) .none kV__law_pick dc__law_pick pm__law_pick an__law_pick cd__law_pick ct__law_pick), sl__law_pick⟩) (cc__law_pick : PySem.W.codeIn K cd__law_pick "_law_pick" = true) (k__law_pick : PySem.W.keepIn K (.ref f__law_pick) = true)
    {od__law_drawn an__law_drawn : Option Addr} {sl__law_drawn : Array (Option Value)} {oc__law_drawn kV__law_drawn dc__law_drawn pm__law_drawn cd__law_drawn ct__law_drawn : Value} {f__law_drawn : Addr}
    (a__law_drawn : PySem.W.nsIn K mainGlobals "_law_drawn" = some (some (.ref f__law_drawn))) (l__law_drawn : K.lookup f__law_drawn = some ⟨oc__law_drawn, od__law_drawn, .func (PySem.W.fnOf "_law_drawn" "_law_drawn" (defArgs s__law_drawn) (defBody s__law_drawn) (defScope s__law_drawn) .none kV__law_drawn dc__law_drawn pm__law_drawn an__law_drawn cd__law_drawn ct__law_drawn), sl__law_drawn⟩) (cc__law_drawn : PySem.W.codeIn K cd__law_drawn "_law_drawn" = true) (k__law_drawn : PySem.W.keepIn K (.ref f__law_drawn) = true)
    {od__law_sizes an__law_sizes : Option Addr} {sl__law_sizes : Array (Option Value)} {oc__law_sizes kV__law_sizes dc__law_sizes pm__law_sizes cd__law_sizes ct__law_sizes : Value} {f__law_sizes : Addr}
    (a__law_sizes : PySem.W.nsIn K mainGlobals "_law_sizes" = some (some (.ref f__law_sizes))) (l__law_sizes : K.lookup f__law_sizes = some ⟨oc__law_sizes, od__law_sizes, .func (PySem.W.fnOf "_law_sizes" "_law_sizes" (defArgs s__law_sizes) (defBody s__law_sizes) (defScope s__law_sizes) .none kV__law_sizes dc__law_sizes pm__law_sizes an__law_sizes cd__law_sizes ct__law_sizes), sl__law_sizes⟩) (cc__law_sizes : PySem.W.codeIn K cd__law_sizes "_law_sizes" = true) (k__law_sizes : PySem.W.keepIn K (.ref f__law_sizes) = true)
    {od__law_part an__law_part : Option Addr} {sl__law_part : Array (Option Value)} {oc__law_part kV__law_part dc__law_part pm__law_part cd__law_part ct__law_part : Value} {f__law_part : Addr}
    (a__law_part : PySem.W.nsIn K mainGlobals "_law_part" = some (some (.ref f__law_part))) (l__law_part : K.lookup f__law_part = some ⟨oc__law_part, od__law_part, .func (PySem.W.fnOf "_law_part" "_law_part" (defArgs s__law_part) (defBody s__law_part) (defScope s__law_part) .none kV__law_part dc__law_part pm__law_part an__law_part cd__law_part ct__law_part), sl__law_part⟩) (cc__law_part : PySem.W.codeIn K cd__law_part "_law_part" = true) (k__law_part : PySem.W.keepIn K (.ref f__law_part) = true)
    {od__law_inverse an__law_inverse : Option Addr} {sl__law_inverse : Array (Option Value)} {oc__law_inverse kV__law_inverse dc__law_inverse pm__law_inverse cd__law_inverse ct__law_inverse : Value} {f__law_inverse : Addr}
    (a__law_inverse : PySem.W.nsIn K mainGlobals "_law_inverse" = some (some (.ref f__law_inverse))) (l__law_inverse : K.lookup f__law_inverse = some ⟨oc__law_inverse, od__law_inverse, .func (PySem.W.fnOf "_law_inverse" "_law_inverse" (defArgs s__law_inverse) (defBody s__law_inverse) (defScope s__law_inverse) .none kV__law_inverse dc__law_inverse pm__law_inverse an__law_inverse cd__law_inverse ct__law_inverse), sl__law_inverse⟩) (cc__law_inverse : PySem.W.codeIn K cd__law_inverse "_law_inverse" = true) (k__law_inverse : PySem.W.keepIn K (.ref f__law_inverse) = true)
    {od__law_straight an__law_straight : Option Addr} {sl__law_straight : Array (Option Value)} {oc__law_straight kV__law_straight dc__law_straight pm__law_straight cd__law_straight ct__law_straight : Value} {f__law_straight : Addr}
    (a__law_straight : PySem.W.nsIn K mainGlobals "_law_straight" = some (some (.ref f__law_straight))) (l__law_straight : K.lookup f__law_straight = some ⟨oc__law_straight, od__law_straight, .func (PySem.W.fnOf "_law_straight" "_law_straight" (defArgs s__law_straight) (defBody s__law_straight) (defScope s__law_straight) .none kV__law_straight dc__law_straight pm__law_straight an__law_straight cd__law_straight ct__law_straight), sl__law_straight⟩) (cc__law_straight : PySem.W.codeIn K cd__law_straight "_law_straight" = true) (k__law_straight : PySem.W.keepIn K (.ref f__law_straight) = true)
    {od_is_whole an_is_whole : Option Addr} {sl_is_whole : Array (Option Value)} {oc_is_whole kV_is_whole dc_is_whole pm_is_whole cd_is_whole ct_is_whole : Value} {f_is_whole : Addr}
    (a_is_whole : PySem.W.nsIn K mainGlobals "is_whole" = some (some (.ref f_is_whole))) (l_is_whole : K.lookup f_is_whole = some ⟨oc_is_whole, od_is_whole, .func (PySem.W.fnOf "is_whole" "is_whole" (defArgs s_is_whole) (defBody s_is_whole) (defScope s_is_whole) .none kV_is_whole dc_is_whole pm_is_whole an_is_whole cd_is_whole ct_is_whole), sl_is_whole⟩) (cc_is_whole : PySem.W.codeIn K cd_is_whole "is_whole" = true) (k_is_whole : PySem.W.keepIn K (.ref f_is_whole) = true)
    {od_are_jugs an_are_jugs : Option Addr} {sl_are_jugs : Array (Option Value)} {oc_are_jugs kV_are_jugs dc_are_jugs pm_are_jugs cd_are_jugs ct_are_jugs : Value} {f_are_jugs : Addr}
    (a_are_jugs : PySem.W.nsIn K mainGlobals "are_jugs" = some (some (.ref f_are_jugs))) (l_are_jugs : K.lookup f_are_jugs = some ⟨oc_are_jugs, od_are_jugs, .func (PySem.W.fnOf "are_jugs" "are_jugs" (defArgs s_are_jugs) (defBody s_are_jugs) (defScope s_are_jugs) .none kV_are_jugs dc_are_jugs pm_are_jugs an_are_jugs cd_are_jugs ct_are_jugs), sl_are_jugs⟩) (cc_are_jugs : PySem.W.codeIn K cd_are_jugs "are_jugs" = true) (k_are_jugs : PySem.W.keepIn K (.ref f_are_jugs) = true)
    {od_check_jugs an_check_jugs : Option Addr} {sl_check_jugs : Array (Option Value)} {oc_check_jugs kV_check_jugs dc_check_jugs pm_check_jugs cd_check_jugs ct_check_jugs : Value} {f_check_jugs : Addr}
    (a_check_jugs : PySem.W.nsIn K mainGlobals "check_jugs" = some (some (.ref f_check_jugs))) (l_check_jugs : K.lookup f_check_jugs = some ⟨oc_check_jugs, od_check_jugs, .func (PySem.W.fnOf "check_jugs" "check_jugs" (defArgs s_check_jugs) (defBody s_check_jugs) (defScope s_check_jugs) .none kV_check_jugs dc_check_jugs pm_check_jugs an_check_jugs cd_check_jugs ct_check_jugs), sl_check_jugs⟩) (cc_check_jugs : PySem.W.codeIn K cd_check_jugs "check_jugs" = true) (k_check_jugs : PySem.W.keepIn K (.ref f_check_jugs) = true)
    {od_is_count an_is_count : Option Addr} {sl_is_count : Array (Option Value)} {oc_is_count kV_is_count dc_is_count pm_is_count cd_is_count ct_is_count : Value} {f_is_count : Addr}
    (a_is_count : PySem.W.nsIn K mainGlobals "is_count" = some (some (.ref f_is_count))) (l_is_count : K.lookup f_is_count = some ⟨oc_is_count, od_is_count, .func (PySem.W.fnOf "is_count" "is_count" (defArgs s_is_count) (defBody s_is_count) (defScope s_is_count) .none kV_is_count dc_is_count pm_is_count an_is_count cd_is_count ct_is_count), sl_is_count⟩) (cc_is_count : PySem.W.codeIn K cd_is_count "is_count" = true) (k_is_count : PySem.W.keepIn K (.ref f_is_count) = true)
    {od_check_number an_check_number : Option Addr} {sl_check_number : Array (Option Value)} {oc_check_number kV_check_number dc_check_number pm_check_number cd_check_number ct_check_number : Value} {f_check_number : Addr}
    (a_check_number : PySem.W.nsIn K mainGlobals "check_number" = some (some (.ref f_check_number))) (l_check_number : K.lookup f_check_number = some ⟨oc_check_number, od_check_number, .func (PySem.W.fnOf "check_number" "check_number" (defArgs s_check_number) (defBody s_check_number) (defScope s_check_number) .none kV_check_number dc_check_number pm_check_number an_check_number cd_check_number ct_check_number), sl_check_number⟩) (cc_check_number : PySem.W.codeIn K cd_check_number "check_number" = true) (k_check_number : PySem.W.keepIn K (.ref f_check_number) = true)
    {od_check_sizes an_check_sizes : Option Addr} {sl_check_sizes : Array (Option Value)} {oc_check_sizes kV_check_sizes dc_check_sizes pm_check_sizes cd_check_sizes ct_check_sizes : Value} {f_check_sizes : Addr}
    (a_check_sizes : PySem.W.nsIn K mainGlobals "check_sizes" = some (some (.ref f_check_sizes))) (l_check_sizes : K.lookup f_check_sizes = some ⟨oc_check_sizes, od_check_sizes, .func (PySem.W.fnOf "check_sizes" "check_sizes" (defArgs s_check_sizes) (defBody s_check_sizes) (defScope s_check_sizes) .none kV_check_sizes dc_check_sizes pm_check_sizes an_check_sizes cd_check_sizes ct_check_sizes), sl_check_sizes⟩) (cc_check_sizes : PySem.W.codeIn K cd_check_sizes "check_sizes" = true) (k_check_sizes : PySem.W.keepIn K (.ref f_check_sizes) = true)
    {od_common_of an_common_of : Option Addr} {sl_common_of : Array (Option Value)} {oc_common_of kV_common_of dc_common_of pm_common_of cd_common_of ct_common_of : Value} {f_common_of : Addr}
    (a_common_of : PySem.W.nsIn K mainGlobals "common_of" = some (some (.ref f_common_of))) (l_common_of : K.lookup f_common_of = some ⟨oc_common_of, od_common_of, .func (PySem.W.fnOf "common_of" "common_of" (defArgs s_common_of) (defBody s_common_of) (defScope s_common_of) .none kV_common_of dc_common_of pm_common_of an_common_of cd_common_of ct_common_of), sl_common_of⟩) (cc_common_of : PySem.W.codeIn K cd_common_of "common_of" = true) (k_common_of : PySem.W.keepIn K (.ref f_common_of) = true)
    {od_common_of_sizes an_common_of_sizes : Option Addr} {sl_common_of_sizes : Array (Option Value)} {oc_common_of_sizes kV_common_of_sizes dc_common_of_sizes pm_common_of_sizes cd_common_of_sizes ct_common_of_sizes : Value} {f_common_of_sizes : Addr}
    (a_common_of_sizes : PySem.W.nsIn K mainGlobals "common_of_sizes" = some (some (.ref f_common_of_sizes))) (l_common_of_sizes : K.lookup f_common_of_sizes = some ⟨oc_common_of_sizes, od_common_of_sizes, .func (PySem.W.fnOf "common_of_sizes" "common_of_sizes" (defArgs s_common_of_sizes) (defBody s_common_of_sizes) (defScope s_common_of_sizes) .none kV_common_of_sizes dc_common_of_sizes pm_common_of_sizes an_common_of_sizes cd_common_of_sizes ct_common_of_sizes), sl_common_of_sizes⟩) (cc_common_of_sizes : PySem.W.codeIn K cd_common_of_sizes "common_of_sizes" = true) (k_common_of_sizes : PySem.W.keepIn K (.ref f_common_of_sizes) = true)
    {od_is_by_tap an_is_by_tap : Option Addr} {sl_is_by_tap : Array (Option Value)} {oc_is_by_tap kV_is_by_tap dc_is_by_tap pm_is_by_tap cd_is_by_tap ct_is_by_tap : Value} {f_is_by_tap : Addr}
    (a_is_by_tap : PySem.W.nsIn K mainGlobals "is_by_tap" = some (some (.ref f_is_by_tap))) (l_is_by_tap : K.lookup f_is_by_tap = some ⟨oc_is_by_tap, od_is_by_tap, .func (PySem.W.fnOf "is_by_tap" "is_by_tap" (defArgs s_is_by_tap) (defBody s_is_by_tap) (defScope s_is_by_tap) .none kV_is_by_tap dc_is_by_tap pm_is_by_tap an_is_by_tap cd_is_by_tap ct_is_by_tap), sl_is_by_tap⟩) (cc_is_by_tap : PySem.W.codeIn K cd_is_by_tap "is_by_tap" = true) (k_is_by_tap : PySem.W.keepIn K (.ref f_is_by_tap) = true)
    {od_can_by_tap an_can_by_tap : Option Addr} {sl_can_by_tap : Array (Option Value)} {oc_can_by_tap kV_can_by_tap dc_can_by_tap pm_can_by_tap cd_can_by_tap ct_can_by_tap : Value} {f_can_by_tap : Addr}
    (a_can_by_tap : PySem.W.nsIn K mainGlobals "can_by_tap" = some (some (.ref f_can_by_tap))) (l_can_by_tap : K.lookup f_can_by_tap = some ⟨oc_can_by_tap, od_can_by_tap, .func (PySem.W.fnOf "can_by_tap" "can_by_tap" (defArgs s_can_by_tap) (defBody s_can_by_tap) (defScope s_can_by_tap) .none kV_can_by_tap dc_can_by_tap pm_can_by_tap an_can_by_tap cd_can_by_tap ct_can_by_tap), sl_can_by_tap⟩) (cc_can_by_tap : PySem.W.codeIn K cd_can_by_tap "can_by_tap" = true) (k_can_by_tap : PySem.W.keepIn K (.ref f_can_by_tap) = true)
    {od_turned_back an_turned_back : Option Addr} {sl_turned_back : Array (Option Value)} {oc_turned_back kV_turned_back dc_turned_back pm_turned_back cd_turned_back ct_turned_back : Value} {f_turned_back : Addr}
    (a_turned_back : PySem.W.nsIn K mainGlobals "turned_back" = some (some (.ref f_turned_back))) (l_turned_back : K.lookup f_turned_back = some ⟨oc_turned_back, od_turned_back, .func (PySem.W.fnOf "turned_back" "turned_back" (defArgs s_turned_back) (defBody s_turned_back) (defScope s_turned_back) .none kV_turned_back dc_turned_back pm_turned_back an_turned_back cd_turned_back ct_turned_back), sl_turned_back⟩) (cc_turned_back : PySem.W.codeIn K cd_turned_back "turned_back" = true) (k_turned_back : PySem.W.keepIn K (.ref f_turned_back) = true)
    {od_straight_from an_straight_from : Option Addr} {sl_straight_from : Array (Option Value)} {oc_straight_from kV_straight_from dc_straight_from pm_straight_from cd_straight_from ct_straight_from : Value} {f_straight_from : Addr}
    (a_straight_from : PySem.W.nsIn K mainGlobals "straight_from" = some (some (.ref f_straight_from))) (l_straight_from : K.lookup f_straight_from = some ⟨oc_straight_from, od_straight_from, .func (PySem.W.fnOf "straight_from" "straight_from" (defArgs s_straight_from) (defBody s_straight_from) (defScope s_straight_from) .none kV_straight_from dc_straight_from pm_straight_from an_straight_from cd_straight_from ct_straight_from), sl_straight_from⟩) (cc_straight_from : PySem.W.codeIn K cd_straight_from "straight_from" = true) (k_straight_from : PySem.W.keepIn K (.ref f_straight_from) = true)
    {od_straight_pours an_straight_pours : Option Addr} {sl_straight_pours : Array (Option Value)} {oc_straight_pours kV_straight_pours dc_straight_pours pm_straight_pours cd_straight_pours ct_straight_pours : Value} {f_straight_pours : Addr}
    (a_straight_pours : PySem.W.nsIn K mainGlobals "straight_pours" = some (some (.ref f_straight_pours))) (l_straight_pours : K.lookup f_straight_pours = some ⟨oc_straight_pours, od_straight_pours, .func (PySem.W.fnOf "straight_pours" "straight_pours" (defArgs s_straight_pours) (defBody s_straight_pours) (defScope s_straight_pours) .none kV_straight_pours dc_straight_pours pm_straight_pours an_straight_pours cd_straight_pours ct_straight_pours), sl_straight_pours⟩) (cc_straight_pours : PySem.W.codeIn K cd_straight_pours "straight_pours" = true) (k_straight_pours : PySem.W.keepIn K (.ref f_straight_pours) = true)
    {od__law_straight_right an__law_straight_right : Option Addr} {sl__law_straight_right : Array (Option Value)} {oc__law_straight_right kV__law_straight_right dc__law_straight_right pm__law_straight_right cd__law_straight_right ct__law_straight_right : Value} {f__law_straight_right : Addr}
    (a__law_straight_right : PySem.W.nsIn K mainGlobals "_law_straight_right" = some (some (.ref f__law_straight_right))) (l__law_straight_right : K.lookup f__law_straight_right = some ⟨oc__law_straight_right, od__law_straight_right, .func (PySem.W.fnOf "_law_straight_right" "_law_straight_right" (defArgs s__law_straight_right) (defBody s__law_straight_right) (defScope s__law_straight_right) .none kV__law_straight_right dc__law_straight_right pm__law_straight_right an__law_straight_right cd__law_straight_right ct__law_straight_right), sl__law_straight_right⟩) (cc__law_straight_right : PySem.W.codeIn K cd__law_straight_right "_law_straight_right" = true) (k__law_straight_right : PySem.W.keepIn K (.ref f__law_straight_right) = true)
    {od_tap_paper an_tap_paper : Option Addr} {sl_tap_paper : Array (Option Value)} {oc_tap_paper kV_tap_paper dc_tap_paper pm_tap_paper cd_tap_paper ct_tap_paper : Value} {f_tap_paper : Addr}
    (a_tap_paper : PySem.W.nsIn K mainGlobals "tap_paper" = some (some (.ref f_tap_paper))) (l_tap_paper : K.lookup f_tap_paper = some ⟨oc_tap_paper, od_tap_paper, .func (PySem.W.fnOf "tap_paper" "tap_paper" (defArgs s_tap_paper) (defBody s_tap_paper) (defScope s_tap_paper) .none kV_tap_paper dc_tap_paper pm_tap_paper an_tap_paper cd_tap_paper ct_tap_paper), sl_tap_paper⟩) (cc_tap_paper : PySem.W.codeIn K cd_tap_paper "tap_paper" = true) (k_tap_paper : PySem.W.keepIn K (.ref f_tap_paper) = true)
    {od__law_is_paper an__law_is_paper : Option Addr} {sl__law_is_paper : Array (Option Value)} {oc__law_is_paper kV__law_is_paper dc__law_is_paper pm__law_is_paper cd__law_is_paper ct__law_is_paper : Value} {f__law_is_paper : Addr}
    (a__law_is_paper : PySem.W.nsIn K mainGlobals "_law_is_paper" = some (some (.ref f__law_is_paper))) (l__law_is_paper : K.lookup f__law_is_paper = some ⟨oc__law_is_paper, od__law_is_paper, .func (PySem.W.fnOf "_law_is_paper" "_law_is_paper" (defArgs s__law_is_paper) (defBody s__law_is_paper) (defScope s__law_is_paper) .none kV__law_is_paper dc__law_is_paper pm__law_is_paper an__law_is_paper cd__law_is_paper ct__law_is_paper), sl__law_is_paper⟩) (cc__law_is_paper : PySem.W.codeIn K cd__law_is_paper "_law_is_paper" = true) (k__law_is_paper : PySem.W.keepIn K (.ref f__law_is_paper) = true)
    {od_is_tap_paper an_is_tap_paper : Option Addr} {sl_is_tap_paper : Array (Option Value)} {oc_is_tap_paper kV_is_tap_paper dc_is_tap_paper pm_is_tap_paper cd_is_tap_paper ct_is_tap_paper : Value} {f_is_tap_paper : Addr}
    (a_is_tap_paper : PySem.W.nsIn K mainGlobals "is_tap_paper" = some (some (.ref f_is_tap_paper))) (l_is_tap_paper : K.lookup f_is_tap_paper = some ⟨oc_is_tap_paper, od_is_tap_paper, .func (PySem.W.fnOf "is_tap_paper" "is_tap_paper" (defArgs s_is_tap_paper) (defBody s_is_tap_paper) (defScope s_is_tap_paper) .none kV_is_tap_paper dc_is_tap_paper pm_is_tap_paper an_is_tap_paper cd_is_tap_paper ct_is_tap_paper), sl_is_tap_paper⟩) (cc_is_tap_paper : PySem.W.codeIn K cd_is_tap_paper "is_tap_paper" = true) (k_is_tap_paper : PySem.W.keepIn K (.ref f_is_tap_paper) = true)
    {od__law_tap_right an__law_tap_right : Option Addr} {sl__law_tap_right : Array (Option Value)} {oc__law_tap_right kV__law_tap_right dc__law_tap_right pm__law_tap_right cd__law_tap_right ct__law_tap_right : Value} {f__law_tap_right : Addr}
    (a__law_tap_right : PySem.W.nsIn K mainGlobals "_law_tap_right" = some (some (.ref f__law_tap_right))) (l__law_tap_right : K.lookup f__law_tap_right = some ⟨oc__law_tap_right, od__law_tap_right, .func (PySem.W.fnOf "_law_tap_right" "_law_tap_right" (defArgs s__law_tap_right) (defBody s__law_tap_right) (defScope s__law_tap_right) .none kV__law_tap_right dc__law_tap_right pm__law_tap_right an__law_tap_right cd__law_tap_right ct__law_tap_right), sl__law_tap_right⟩) (cc__law_tap_right : PySem.W.codeIn K cd__law_tap_right "_law_tap_right" = true) (k__law_tap_right : PySem.W.keepIn K (.ref f__law_tap_right) = true)
    {od_law an_law : Option Addr} {sl_law : Array (Option Value)} {oc_law kV_law dc_law pm_law cd_law ct_law : Value} {f_law : Addr}
    (a_law : PySem.W.nsIn K mainGlobals "law" = some (some (.ref f_law))) (l_law : K.lookup f_law = some ⟨oc_law, od_law, .func (PySem.W.fnOf "law" "law" (defArgs s_law) (defBody s_law) (defScope s_law) .none kV_law dc_law pm_law an_law cd_law ct_law), sl_law⟩) (cc_law : PySem.W.codeIn K cd_law "law" = true) (k_law : PySem.W.keepIn K (.ref f_law) = true)
    (z_abs : PySem.W.nsIn K mainGlobals "abs" = some none)
    (z_all : PySem.W.nsIn K mainGlobals "all" = some none)
    (z_bool : PySem.W.nsIn K mainGlobals "bool" = some none)
    (z_int : PySem.W.nsIn K mainGlobals "int" = some none)
    (z_isinstance : PySem.W.nsIn K mainGlobals "isinstance" = some none)
    (z_len : PySem.W.nsIn K mainGlobals "len" = some none)
    (z_list : PySem.W.nsIn K mainGlobals "list" = some none)
    (z_max : PySem.W.nsIn K mainGlobals "max" = some none)
    (z_min : PySem.W.nsIn K mainGlobals "min" = some none)
    (z_range : PySem.W.nsIn K mainGlobals "range" = some none)
    (z_repr : PySem.W.nsIn K mainGlobals "repr" = some none)
    (z_str : PySem.W.nsIn K mainGlobals "str" = some none)
    (z_sum : PySem.W.nsIn K mainGlobals "sum" = some none)
    (z_tuple : PySem.W.nsIn K mainGlobals "tuple" = some none)
    : ∃ fd : FuncData, Binds K fd ["script"] [] ∧ (∀ (s : Shared) (u : Value), BindsTo s fd ⟨[u], []⟩ [("script", u)]) ∧ ∀ base : Heap, GFn P w K mg base 7 fa fd ["script"] spLaw := by
  have e := hfa.symm.trans (PySem.W.mg_of X G a_law)
  cases e
  have F__law_cell := fun_mk (st := s__law_cell) l__law_cell cc__law_cell k__law_cell
  have F__law_generator := fun_mk (st := s__law_generator) l__law_generator cc__law_generator k__law_generator
  have F__law_hash := fun_mk (st := s__law_hash) l__law_hash cc__law_hash k__law_hash
  have F__law_random := fun_mk (st := s__law_random) l__law_random cc__law_random k__law_random
  have F__law_pick := fun_mk (st := s__law_pick) l__law_pick cc__law_pick k__law_pick
  have F__law_drawn := fun_mk (st := s__law_drawn) l__law_drawn cc__law_drawn k__law_drawn
  have F__law_sizes := fun_mk (st := s__law_sizes) l__law_sizes cc__law_sizes k__law_sizes
  have F__law_part := fun_mk (st := s__law_part) l__law_part cc__law_part k__law_part
  have F__law_inverse := fun_mk (st := s__law_inverse) l__law_inverse cc__law_inverse k__law_inverse
  have F__law_straight := fun_mk (st := s__law_straight) l__law_straight cc__law_straight k__law_straight
  have F_is_whole := fun_mk (st := s_is_whole) l_is_whole cc_is_whole k_is_whole
  have F_are_jugs := fun_mk (st := s_are_jugs) l_are_jugs cc_are_jugs k_are_jugs
  have F_check_jugs := fun_mk (st := s_check_jugs) l_check_jugs cc_check_jugs k_check_jugs
  have F_is_count := fun_mk (st := s_is_count) l_is_count cc_is_count k_is_count
  have F_check_number := fun_mk (st := s_check_number) l_check_number cc_check_number k_check_number
  have F_check_sizes := fun_mk (st := s_check_sizes) l_check_sizes cc_check_sizes k_check_sizes
  have F_common_of := fun_mk (st := s_common_of) l_common_of cc_common_of k_common_of
  have F_common_of_sizes := fun_mk (st := s_common_of_sizes) l_common_of_sizes cc_common_of_sizes k_common_of_sizes
  have F_is_by_tap := fun_mk (st := s_is_by_tap) l_is_by_tap cc_is_by_tap k_is_by_tap
  have F_can_by_tap := fun_mk (st := s_can_by_tap) l_can_by_tap cc_can_by_tap k_can_by_tap
  have F_turned_back := fun_mk (st := s_turned_back) l_turned_back cc_turned_back k_turned_back
  have F_straight_from := fun_mk (st := s_straight_from) l_straight_from cc_straight_from k_straight_from
  have F_straight_pours := fun_mk (st := s_straight_pours) l_straight_pours cc_straight_pours k_straight_pours
  have F__law_straight_right := fun_mk (st := s__law_straight_right) l__law_straight_right cc__law_straight_right k__law_straight_right
  have F_tap_paper := fun_mk (st := s_tap_paper) l_tap_paper cc_tap_paper k_tap_paper
  have F__law_is_paper := fun_mk (st := s__law_is_paper) l__law_is_paper cc__law_is_paper k__law_is_paper
  have F_is_tap_paper := fun_mk (st := s_is_tap_paper) l_is_tap_paper cc_is_tap_paper k_is_tap_paper
  have F__law_tap_right := fun_mk (st := s__law_tap_right) l__law_tap_right cc__law_tap_right k__law_tap_right
  have F_law := fun_mk (st := s_law) l_law cc_law k_law
  let T : TF K mg := {
    a__law_cell := _, d__law_cell := _, F__law_cell := F__law_cell, g__law_cell := PySem.W.mg_of X G a__law_cell, b__law_cell := (F__law_cell.binds (ps := ["script", "index"]) fun _ _ _ _ _ _ us hl => match us, hl with | [_, _], _ => rfl),
    a__law_generator := _, d__law_generator := _, F__law_generator := F__law_generator, g__law_generator := PySem.W.mg_of X G a__law_generator, b__law_generator := (F__law_generator.binds (ps := ["script", "index"]) fun _ _ _ _ _ _ us hl => match us, hl with | [_, _], _ => rfl),
    a__law_hash := _, d__law_hash := _, F__law_hash := F__law_hash, g__law_hash := PySem.W.mg_of X G a__law_hash, b__law_hash := (F__law_hash.binds (ps := ["seed", "index"]) fun _ _ _ _ _ _ us hl => match us, hl with | [_, _], _ => rfl),
    a__law_random := _, d__law_random := _, F__law_random := F__law_random, g__law_random := PySem.W.mg_of X G a__law_random, b__law_random := (F__law_random.binds (ps := ["generator", "bound"]) fun _ _ _ _ _ _ us hl => match us, hl with | [_, _], _ => rfl),
    a__law_pick := _, d__law_pick := _, F__law_pick := F__law_pick, g__law_pick := PySem.W.mg_of X G a__law_pick, b__law_pick := (F__law_pick.binds (ps := ["generator", "things"]) fun _ _ _ _ _ _ us hl => match us, hl with | [_, _], _ => rfl),
    a__law_drawn := _, d__law_drawn := _, F__law_drawn := F__law_drawn, g__law_drawn := PySem.W.mg_of X G a__law_drawn, b__law_drawn := (F__law_drawn.binds (ps := ["generator", "things"]) fun _ _ _ _ _ _ us hl => match us, hl with | [_, _], _ => rfl),
    a__law_sizes := _, d__law_sizes := _, F__law_sizes := F__law_sizes, g__law_sizes := PySem.W.mg_of X G a__law_sizes, b__law_sizes := (F__law_sizes.binds (ps := ["generator"]) fun _ _ _ _ _ _ us hl => match us, hl with | [_], _ => rfl),
    a__law_part := _, d__law_part := _, F__law_part := F__law_part, g__law_part := PySem.W.mg_of X G a__law_part, b__law_part := (F__law_part.binds (ps := ["one", "other"]) fun _ _ _ _ _ _ us hl => match us, hl with | [_, _], _ => rfl),
    a__law_inverse := _, d__law_inverse := _, F__law_inverse := F__law_inverse, g__law_inverse := PySem.W.mg_of X G a__law_inverse, b__law_inverse := (F__law_inverse.binds (ps := ["number", "most"]) fun _ _ _ _ _ _ us hl => match us, hl with | [_, _], _ => rfl),
    a__law_straight := _, d__law_straight := _, F__law_straight := F__law_straight, g__law_straight := PySem.W.mg_of X G a__law_straight, b__law_straight := (F__law_straight.binds (ps := ["one", "other", "goal"]) fun _ _ _ _ _ _ us hl => match us, hl with | [_, _, _], _ => rfl),
    a_is_whole := _, d_is_whole := _, F_is_whole := F_is_whole, g_is_whole := PySem.W.mg_of X G a_is_whole, b_is_whole := (F_is_whole.binds (ps := ["value"]) fun _ _ _ _ _ _ us hl => match us, hl with | [_], _ => rfl),
    a_are_jugs := _, d_are_jugs := _, F_are_jugs := F_are_jugs, g_are_jugs := PySem.W.mg_of X G a_are_jugs, b_are_jugs := (F_are_jugs.binds (ps := ["value"]) fun _ _ _ _ _ _ us hl => match us, hl with | [_], _ => rfl),
    a_check_jugs := _, d_check_jugs := _, F_check_jugs := F_check_jugs, g_check_jugs := PySem.W.mg_of X G a_check_jugs, b_check_jugs := (F_check_jugs.binds (ps := ["jugs"]) fun _ _ _ _ _ _ us hl => match us, hl with | [_], _ => rfl),
    a_is_count := _, d_is_count := _, F_is_count := F_is_count, g_is_count := PySem.W.mg_of X G a_is_count, b_is_count := (F_is_count.binds (ps := ["value"]) fun _ _ _ _ _ _ us hl => match us, hl with | [_], _ => rfl),
    a_check_number := _, d_check_number := _, F_check_number := F_check_number, g_check_number := PySem.W.mg_of X G a_check_number, b_check_number := (F_check_number.binds (ps := ["value"]) fun _ _ _ _ _ _ us hl => match us, hl with | [_], _ => rfl),
    a_check_sizes := _, d_check_sizes := _, F_check_sizes := F_check_sizes, g_check_sizes := PySem.W.mg_of X G a_check_sizes, b_check_sizes := (F_check_sizes.binds (ps := ["jugs", "goal"]) fun _ _ _ _ _ _ us hl => match us, hl with | [_, _], _ => rfl),
    a_common_of := _, d_common_of := _, F_common_of := F_common_of, g_common_of := PySem.W.mg_of X G a_common_of, b_common_of := (F_common_of.binds (ps := ["one", "other"]) fun _ _ _ _ _ _ us hl => match us, hl with | [_, _], _ => rfl),
    a_common_of_sizes := _, d_common_of_sizes := _, F_common_of_sizes := F_common_of_sizes, g_common_of_sizes := PySem.W.mg_of X G a_common_of_sizes, b_common_of_sizes := (F_common_of_sizes.binds (ps := ["jugs"]) fun _ _ _ _ _ _ us hl => match us, hl with | [_], _ => rfl),
    a_is_by_tap := _, d_is_by_tap := _, F_is_by_tap := F_is_by_tap, g_is_by_tap := PySem.W.mg_of X G a_is_by_tap, b_is_by_tap := (F_is_by_tap.binds (ps := ["jugs", "goal"]) fun _ _ _ _ _ _ us hl => match us, hl with | [_, _], _ => rfl),
    a_can_by_tap := _, d_can_by_tap := _, F_can_by_tap := F_can_by_tap, g_can_by_tap := PySem.W.mg_of X G a_can_by_tap, b_can_by_tap := (F_can_by_tap.binds (ps := ["jugs", "goal"]) fun _ _ _ _ _ _ us hl => match us, hl with | [_, _], _ => rfl),
    a_turned_back := _, d_turned_back := _, F_turned_back := F_turned_back, g_turned_back := PySem.W.mg_of X G a_turned_back, b_turned_back := (F_turned_back.binds (ps := ["number", "modulus"]) fun _ _ _ _ _ _ us hl => match us, hl with | [_, _], _ => rfl),
    a_straight_from := _, d_straight_from := _, F_straight_from := F_straight_from, g_straight_from := PySem.W.mg_of X G a_straight_from, b_straight_from := (F_straight_from.binds (ps := ["one", "other", "goal"]) fun _ _ _ _ _ _ us hl => match us, hl with | [_, _, _], _ => rfl),
    a_straight_pours := _, d_straight_pours := _, F_straight_pours := F_straight_pours, g_straight_pours := PySem.W.mg_of X G a_straight_pours, b_straight_pours := (F_straight_pours.binds (ps := ["one", "other", "goal"]) fun _ _ _ _ _ _ us hl => match us, hl with | [_, _, _], _ => rfl),
    a__law_straight_right := _, d__law_straight_right := _, F__law_straight_right := F__law_straight_right, g__law_straight_right := PySem.W.mg_of X G a__law_straight_right, b__law_straight_right := (F__law_straight_right.binds (ps := ["generator"]) fun _ _ _ _ _ _ us hl => match us, hl with | [_], _ => rfl),
    a_tap_paper := _, d_tap_paper := _, F_tap_paper := F_tap_paper, g_tap_paper := PySem.W.mg_of X G a_tap_paper, b_tap_paper := (F_tap_paper.binds (ps := ["jugs", "goal"]) fun _ _ _ _ _ _ us hl => match us, hl with | [_, _], _ => rfl),
    a__law_is_paper := _, d__law_is_paper := _, F__law_is_paper := F__law_is_paper, g__law_is_paper := PySem.W.mg_of X G a__law_is_paper, b__law_is_paper := (F__law_is_paper.binds (ps := ["jugs", "goal", "value"]) fun _ _ _ _ _ _ us hl => match us, hl with | [_, _, _], _ => rfl),
    a_is_tap_paper := _, d_is_tap_paper := _, F_is_tap_paper := F_is_tap_paper, g_is_tap_paper := PySem.W.mg_of X G a_is_tap_paper, b_is_tap_paper := (F_is_tap_paper.binds (ps := ["jugs", "goal", "value"]) fun _ _ _ _ _ _ us hl => match us, hl with | [_, _, _], _ => rfl),
    a__law_tap_right := _, d__law_tap_right := _, F__law_tap_right := F__law_tap_right, g__law_tap_right := PySem.W.mg_of X G a__law_tap_right, b__law_tap_right := (F__law_tap_right.binds (ps := ["generator"]) fun _ _ _ _ _ _ us hl => match us, hl with | [_], _ => rfl),
    a_law := _, d_law := _, F_law := F_law, g_law := PySem.W.mg_of X G a_law, b_law := (F_law.binds (ps := ["script"]) fun _ _ _ _ _ _ us hl => match us, hl with | [_], _ => rfl),
    z_abs := PySem.W.mg_none_of X G z_abs,
    z_all := PySem.W.mg_none_of X G z_all,
    z_bool := PySem.W.mg_none_of X G z_bool,
    z_int := PySem.W.mg_none_of X G z_int,
    z_isinstance := PySem.W.mg_none_of X G z_isinstance,
    z_len := PySem.W.mg_none_of X G z_len,
    z_list := PySem.W.mg_none_of X G z_list,
    z_max := PySem.W.mg_none_of X G z_max,
    z_min := PySem.W.mg_none_of X G z_min,
    z_range := PySem.W.mg_none_of X G z_range,
    z_repr := PySem.W.mg_none_of X G z_repr,
    z_str := PySem.W.mg_none_of X G z_str,
    z_sum := PySem.W.mg_none_of X G z_sum,
    z_tuple := PySem.W.mg_none_of X G z_tuple,
    u_law := (fun s u => .of_eq rfl) }
  exact ⟨T.d_law, T.b_law, T.u_law, fun base => ok_law T⟩
end DL
open PySem PySem.W PyProof.Rows
set_option maxHeartbeats 0 in
theorem PySem.Challenge.cw_lonehall_k20_whole_straight_on_with_grea_holds : PySem.Challenge.rw_lonehall_k20_whole_straight_on_with_grea.Holds := by
  w_on; o_law; k_head; (case hw => w_witness2)
  k_fill
  refine DL.walk_D (l := PySem.Challenge.rw_lonehall_k20_whole_straight_on_with_grea) (k := 7) (x := "script") rfl rfl ⟨rfl, by decide, by decide⟩ (fun w h Y => PySem.W.kIn_of Y) ?F
  case F =>
    intro w mg fa h KX G hmg
    refine' DL.facts KX G hmg ?a__law_cell ?l__law_cell ?cc__law_cell ?k__law_cell ?a__law_generator ?l__law_generator ?cc__law_generator ?k__law_generator ?a__law_hash ?l__law_hash ?cc__law_hash ?k__law_hash ?a__law_random ?l__law_random ?cc__law_random ?k__law_random ?a__law_pick ?l__law_pick ?cc__law_pick ?k__law_pick ?a__law_drawn ?l__law_drawn ?cc__law_drawn ?k__law_drawn ?a__law_sizes ?l__law_sizes ?cc__law_sizes ?k__law_sizes ?a__law_part ?l__law_part ?cc__law_part ?k__law_part ?a__law_inverse ?l__law_inverse ?cc__law_inverse ?k__law_inverse ?a__law_straight ?l__law_straight ?cc__law_straight ?k__law_straight ?a_is_whole ?l_is_whole ?cc_is_whole ?k_is_whole ?a_are_jugs ?l_are_jugs ?cc_are_jugs ?k_are_jugs ?a_check_jugs ?l_check_jugs ?cc_check_jugs ?k_check_jugs ?a_is_count ?l_is_count ?cc_is_count ?k_is_count ?a_check_number ?l_check_number ?cc_check_number ?k_check_number ?a_check_sizes ?l_check_sizes ?cc_check_sizes ?k_check_sizes ?a_common_of ?l_common_of ?cc_common_of ?k_common_of ?a_common_of_sizes ?l_common_of_sizes ?cc_common_of_sizes ?k_common_of_sizes ?a_is_by_tap ?l_is_by_tap ?cc_is_by_tap ?k_is_by_tap ?a_can_by_tap ?l_can_by_tap ?cc_can_by_tap ?k_can_by_tap ?a_turned_back ?l_turned_back ?cc_turned_back ?k_turned_back ?a_straight_from ?l_straight_from ?cc_straight_from ?k_straight_from ?a_straight_pours ?l_straight_pours ?cc_straight_pours ?k_straight_pours ?a__law_straight_right ?l__law_straight_right ?cc__law_straight_right ?k__law_straight_right ?a_tap_paper ?l_tap_paper ?cc_tap_paper ?k_tap_paper ?a__law_is_paper ?l__law_is_paper ?cc__law_is_paper ?k__law_is_paper ?a_is_tap_paper ?l_is_tap_paper ?cc_is_tap_paper ?k_is_tap_paper ?a__law_tap_right ?l__law_tap_right ?cc__law_tap_right ?k__law_tap_right ?a_law ?l_law ?cc_law ?k_law ?z_abs ?z_all ?z_bool ?z_int ?z_isinstance ?z_len ?z_list ?z_max ?z_min ?z_range ?z_repr ?z_str ?z_sum ?z_tuple
    (case a__law_cell => k_is); (case l__law_cell => k_is); (case cc__law_cell => k_is); (case k__law_cell => k_is); (case a__law_generator => k_is); (case l__law_generator => k_is); (case cc__law_generator => k_is); (case k__law_generator => k_is)
    (case a__law_hash => k_is); (case l__law_hash => k_is); (case cc__law_hash => k_is); (case k__law_hash => k_is); (case a__law_random => k_is); (case l__law_random => k_is); (case cc__law_random => k_is); (case k__law_random => k_is)
    (case a__law_pick => k_is); (case l__law_pick => k_is); (case cc__law_pick => k_is); (case k__law_pick => k_is); (case a__law_drawn => k_is); (case l__law_drawn => k_is); (case cc__law_drawn => k_is); (case k__law_drawn => k_is)
    (case a__law_sizes => k_is); (case l__law_sizes => k_is); (case cc__law_sizes => k_is); (case k__law_sizes => k_is); (case a__law_part => k_is); (case l__law_part => k_is); (case cc__law_part => k_is); (case k__law_part => k_is)
    (case a__law_inverse => k_is); (case l__law_inverse => k_is); (case cc__law_inverse => k_is); (case k__law_inverse => k_is); (case a__law_straight => k_is); (case l__law_straight => k_is); (case cc__law_straight => k_is); (case k__law_straight => k_is)
    (case a_is_whole => k_is); (case l_is_whole => k_is); (case cc_is_whole => k_is); (case k_is_whole => k_is); (case a_are_jugs => k_is); (case l_are_jugs => k_is); (case cc_are_jugs => k_is); (case k_are_jugs => k_is)
    (case a_check_jugs => k_is); (case l_check_jugs => k_is); (case cc_check_jugs => k_is); (case k_check_jugs => k_is); (case a_is_count => k_is); (case l_is_count => k_is); (case cc_is_count => k_is); (case k_is_count => k_is)
    (case a_check_number => k_is); (case l_check_number => k_is); (case cc_check_number => k_is); (case k_check_number => k_is); (case a_check_sizes => k_is); (case l_check_sizes => k_is); (case cc_check_sizes => k_is); (case k_check_sizes => k_is)
    (case a_common_of => k_is); (case l_common_of => k_is); (case cc_common_of => k_is); (case k_common_of => k_is); (case a_common_of_sizes => k_is); (case l_common_of_sizes => k_is); (case cc_common_of_sizes => k_is); (case k_common_of_sizes => k_is)
    (case a_is_by_tap => k_is); (case l_is_by_tap => k_is); (case cc_is_by_tap => k_is); (case k_is_by_tap => k_is); (case a_can_by_tap => k_is); (case l_can_by_tap => k_is); (case cc_can_by_tap => k_is); (case k_can_by_tap => k_is)
    (case a_turned_back => k_is); (case l_turned_back => k_is); (case cc_turned_back => k_is); (case k_turned_back => k_is); (case a_straight_from => k_is); (case l_straight_from => k_is); (case cc_straight_from => k_is); (case k_straight_from => k_is)
    (case a_straight_pours => k_is); (case l_straight_pours => k_is); (case cc_straight_pours => k_is); (case k_straight_pours => k_is); (case a__law_straight_right => k_is); (case l__law_straight_right => k_is); (case cc__law_straight_right => k_is); (case k__law_straight_right => k_is)
    (case a_tap_paper => k_is); (case l_tap_paper => k_is); (case cc_tap_paper => k_is); (case k_tap_paper => k_is); (case a__law_is_paper => k_is); (case l__law_is_paper => k_is); (case cc__law_is_paper => k_is); (case k__law_is_paper => k_is)
    (case a_is_tap_paper => k_is); (case l_is_tap_paper => k_is); (case cc_is_tap_paper => k_is); (case k_is_tap_paper => k_is); (case a__law_tap_right => k_is); (case l__law_tap_right => k_is); (case cc__law_tap_right => k_is); (case k__law_tap_right => k_is)
    (case a_law => k_is); (case l_law => k_is); (case cc_law => k_is); (case k_law => k_is); (case z_abs => k_is); (case z_all => k_is); (case z_bool => k_is); (case z_int => k_is)
    (case z_isinstance => k_is); (case z_len => k_is); (case z_list => k_is); (case z_max => k_is); (case z_min => k_is); (case z_range => k_is); (case z_repr => k_is); (case z_str => k_is)
    (case z_sum => k_is); (case z_tuple => k_is)
